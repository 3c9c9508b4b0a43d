import PyProof.Rows.All
import Wide.All
import OpenK.AllK
import Wide.FinOn
import HandS.ForMost
import HandS.IsInst
import HandS.Walk
import HandS.More
import HandS.SetKeys
import HandS.RaiseMore
import HandS.SortKw
import HandS.Exc
import KE.GoesEnumKw
import PySem.Challenge.RW_capstead_k02_assemble_drawn_texts
set_option Elab.async false
set_option linter.all false
set_option maxRecDepth 100000
set_option maxHeartbeats 4000000
/-! Lw: forward reading over the hand layer. A world W: the objects that a law's drawing pool owns, and what holds of them; everything else stands (Ex). -/
namespace Lw
open PySem L2

/-- what is owned (its content may change in calls), what holds of it -/
structure Wd where
  own : Hp → Addr → Prop
  iv : Hp → Prop
  trk : ∀ {H : Hp} {a : Addr}, iv H → own H a → ∃ o, H a = some o
  loc : ∀ {H H' : Hp}, iv H → (∀ a, own H a → H' a = H a) → iv H' ∧ ∀ a, own H' a → own H a

/-- nothing is owned -/
def W0 : Wd := ⟨fun _ _ => False, fun _ => True, fun _ h => h.elim, fun _ _ => ⟨trivial, fun _ h => h⟩⟩

def At (W : Wd) (H : Hp) (a : Addr) (o : HO) : Prop := H a = some o ∧ ¬ W.own H a
structure Ex (W : Wd) (H H' : Hp) : Prop where
  i0 : W.iv H
  iv : W.iv H'
  at_ : ∀ {a : Addr} {o : HO}, At W H a o → At W H' a o
  tr : ∀ {a : Addr} {o : HO}, H a = some o → ∃ o', H' a = some o'

section
variable {W : Wd} {H H1 H2 H' : Hp} {a p l : Addr} {o u : HO} {xs : List V} {K : PySem.W.Frag}
theorem Ex.refl (i : W.iv H) : Ex W H H := ⟨i, i, fun h => h, fun h => ⟨_, h⟩⟩
theorem Ex.trans (a : Ex W H H1) (b : Ex W H1 H2) : Ex W H H2 := ⟨a.i0, b.iv, fun h => b.at_ (a.at_ h), fun h => let ⟨_, q⟩ := a.tr h; b.tr q⟩
theorem Ex.fresh (e : Ex W H H') (i : H' p = none) : H p = none := by
  cases q : H p with
  | none => rfl
  | some u =>
    obtain ⟨_, z⟩ := e.tr q
    rw [i] at z; cases z
theorem own_ne (i : W.iv H) (h : H p = none) : ¬ W.own H p := fun q => by
  obtain ⟨o, e⟩ := W.trk i q
  rw [h] at e; cases e
/-- what is not owned changes -/
theorem loc_upd (i : W.iv H) (h : ¬ W.own H p) : W.iv (upd H p o) ∧ ∀ a, W.own (upd H p o) a → W.own H a :=
  W.loc i fun a ha => upd_ne fun e => h (e ▸ ha)
theorem Ex.new (i : W.iv H) (h : H p = none) : Ex W H (upd H p o) := by
  have l := loc_upd (o := o) i (own_ne i h)
  refine ⟨i, l.1, fun {b u} hb => ⟨?_, fun q => hb.2 (l.2 _ q)⟩, fun {b u} hb => ⟨u, ?_⟩⟩
  · rw [upd_ne (ne_of_none hb.1 h)]; exact hb.1
  · rw [upd_ne (ne_of_none hb h)]; exact hb
theorem At.new (i : W.iv H) (h : H p = none) : At W (upd H p o) p o := ⟨upd_same, fun q => own_ne i h ((loc_upd i (own_ne i h)).2 _ q)⟩
/-- a local object (unknown at H) changes -/
theorem Ex.mut (e : Ex W H H1) (h : H p = none) (ha : At W H1 p u) : Ex W H (upd H1 p o) := by
  have l := loc_upd (o := o) e.iv ha.2
  refine ⟨e.i0, l.1, fun {b v} hb => ⟨?_, fun q => (e.at_ hb).2 (l.2 _ q)⟩, fun {b v} hb => ?_⟩
  · rw [upd_ne (ne_of_none hb.1 h)]; exact (e.at_ hb).1
  · rw [upd_ne (ne_of_none hb h)]; exact e.tr hb
theorem At.mut (e : W.iv H1) (ha : At W H1 p u) : At W (upd H1 p o) p o := ⟨upd_same, fun q => ha.2 ((loc_upd e ha.2).2 _ q)⟩
theorem At.other {v : HO} (e : W.iv H1) (ha : At W H1 p u) (hb : At W H1 a o) (ne : a ≠ p) : At W (upd H1 p v) a o := ⟨by rw [upd_ne ne]; exact hb.1, fun q => hb.2 ((loc_upd e ha.2).2 _ q)⟩
theorem At.sl (h : At W H a (.lst xs)) : SqL K H a xs := SqL.of h.1
theorem At.raw (h : At W H a o) : H a = some o := h.1
theorem At.st (h : At W H a (.tup xs)) : SqT K H a xs := SqT.of h.1
theorem At.ne_fresh (h : At W H a o) (f : H p = none) : a ≠ p := ne_of_none h.1 f
theorem At.ne (h : At W H a o) (h' : At W H p u) (d : o ≠ u) : a ≠ p := ne_of h.1 h'.1 d
theorem At.uniq (h : At W H a o) (h' : At W H a u) : o = u := Option.some.inj (h.1.symm.trans h'.1)

/-! ### new objects, behind a reading -/
theorem new_of {Q : VK} (i : W.iv H) (k : ∀ p H2, H p = none → Ex W H H2 → At W H2 p o → Q (.ref p) H2) : ∀ p, H p = none → Q (.ref p) (upd H p o) :=
  fun p hp => k p _ hp (Ex.new i hp) (At.new i hp)
theorem lst_of {Q : VK} {n : Nat} (i : W.iv H) (hn : n ≤ 1000000) (k : ∀ p H2, H p = none → Ex W H H2 → At W H2 p o → Q (.ref p) H2) : n ≤ sizeLine ∧ ∀ p, H p = none → Q (.ref p) (upd H p o) :=
  ⟨Nat.le_trans hn (by decide), new_of i k⟩
theorem sz_le {n : Nat} (h : n ≤ 1000000) : n ≤ sizeLine := Nat.le_trans h (by decide)
theorem sz_lt {n : Nat} (h : n < 1000000) : n < sizeLine := Nat.lt_of_lt_of_le h (by decide)

/-! ### tests -/
theorem ifD {c A B : Prop} [Decidable c] (h1 : c → A) (h2 : ¬ c → B) : if decide c = true then A else B := by
  by_cases h : c
  · rw [decide_eq_true h, if_pos rfl]; exact h1 h
  · rw [decide_eq_false h, if_neg Bool.false_ne_true]; exact h2 h
theorem ifN {c A B : Prop} [Decidable c] (h1 : ¬ c → A) (h2 : c → B) : if (!decide c) = true then A else B := by
  by_cases h : c
  · rw [decide_eq_true h]; exact iteF (h2 h)
  · rw [decide_eq_false h]; exact iteT (h1 h)
theorem ifB {b : Bool} {A B : Prop} (h1 : b = true → A) (h2 : b = false → B) : if b = true then A else B := by
  cases b with
  | true => exact iteT (h1 rfl)
  | false => exact iteF (h2 rfl)
theorem ifNB {b : Bool} {A B : Prop} (h1 : b = false → A) (h2 : b = true → B) : if (!b) = true then A else B := by
  cases b with
  | true => exact iteF (h2 rfl)
  | false => exact iteT (h1 rfl)
theorem dVI {i j : Int} : decide (V.int i = V.int j) = decide (i = j) := by rw [dec_int, Bool.beq_eq_decide_eq]
theorem dVS {i j : Str} : decide (V.str i = V.str j) = decide (i = j) := by rw [dec_str, Bool.beq_eq_decide_eq]
theorem dVB {i j : Bool} : decide (V.bl i = V.bl j) = decide (i = j) := by rw [dec_bl, Bool.beq_eq_decide_eq]
theorem ifI {i j : Int} {A B : Prop} (h1 : i = j → A) (h2 : i ≠ j → B) : if decide (V.int i = V.int j) = true then A else B := by rw [dVI]; exact ifD h1 h2
theorem ifIn {i j : Int} {A B : Prop} (h1 : i ≠ j → A) (h2 : i = j → B) : if (!decide (V.int i = V.int j)) = true then A else B := by rw [dVI]; exact ifN h1 h2
theorem ifS {i j : Str} {A B : Prop} (h1 : i = j → A) (h2 : i ≠ j → B) : if decide (V.str i = V.str j) = true then A else B := by rw [dVS]; exact ifD h1 h2
theorem ifSn {i j : Str} {A B : Prop} (h1 : i ≠ j → A) (h2 : i = j → B) : if (!decide (V.str i = V.str j)) = true then A else B := by rw [dVS]; exact ifN h1 h2

/-! ### a list comprehension over a list: each item's value, by a word that only grows -/
/-- of each item of xs there is one of ys -/
inductive All2 (R : V → V → Prop) : List V → List V → Prop
  | nil : All2 R [] []
  | cons {x y : V} {xs ys : List V} : R x y → All2 R xs ys → All2 R (x :: xs) (y :: ys)
theorem All2.length {R : V → V → Prop} : ∀ {xs ys : List V}, All2 R xs ys → ys.length = xs.length
  | _, _, .nil => rfl
  | _, _, .cons _ t => by rw [List.length_cons, List.length_cons, t.length]
theorem All2.mono {R S : V → V → Prop} (f : ∀ x y, R x y → S x y) : ∀ {xs ys : List V}, All2 R xs ys → All2 S xs ys
  | _, _, .nil => .nil
  | _, _, .cons r t => .cons (f _ _ r) (t.mono f)
theorem All2.snoc {R : V → V → Prop} {x y : V} : ∀ {xs ys : List V}, All2 R xs ys → R x y → All2 R (xs ++ [x]) (ys ++ [y])
  | _, _, .nil, r => .cons r .nil
  | _, _, .cons q t, r => .cons q (t.snoc r)
end

/-! ### written tuples -/
theorem rel_abs : ∀ {u : Value} {x : V}, absV u = some x → RelV x u
  | .none, x, h => by cases h; rfl
  | .bool b, x, h => by cases h; rfl
  | .int i t, x, h => by cases h; exact ⟨t, rfl⟩
  | .str y t, x, h => by cases h; exact ⟨t, rfl⟩
  | .bytes b t, x, h => by cases h; exact ⟨t, rfl⟩
  | .float b t, x, h => by cases h; exact ⟨t, rfl⟩
  | .ref a, x, h => by cases h; rfl
  | .type n, x, h => by cases h; rfl
theorem vals_abs : ∀ {its : List Value} {xs : List V}, its.map absV = xs.map some → Vals xs its
  | [], [], _ => .nil
  | u :: us, x :: xs, h => by
    rw [List.map_cons, List.map_cons] at h
    injection h with h1 h2
    exact .cons (rel_abs h1) (vals_abs h2)
theorem sqt_k {K : PySem.W.Frag} {a : Addr} {its : Array Value} {n : Nat} {dd : Option Addr} {sl : Array (Option Value)} {xs : List V} (l : K.lookup a = some ⟨.type "tuple", dd, .seq its n, sl⟩) (h : its.toList.map absV = xs.map some) (hz : xs.length ≤ 1000) (H : Hp) : SqT K H a xs := by
  refine .inr ⟨_, its, n, l, rfl, rfl, ?_, vals_abs h⟩
  have e := (vals_abs h).length
  have el : its.toList.length = its.size := by simp
  exact Nat.le_trans (by omega) (by decide : 1000 ≤ sizeLine)

/-! ### the rules of built-ins under names -/
section
variable {X : Cx}
def rLen (K : PySem.W.Frag) : List V → Hp → VK → Prop := fun xs H Q => ∃ p ys, xs = [.ref p] ∧ (SqL K H p ys ∨ SqT K H p ys) ∧ Q (.int ys.length) H
theorem c_len : CallR X (.builtin "len") (rLen X.K) := call_len_seq
def rLenStr : List V → Hp → VK → Prop := fun xs H Q => ∃ z, xs = [.str z] ∧ z.length ≤ sizeLine ∧ Q (.int z.length) H
theorem c_lens : CallR X (.builtin "len") rLenStr := call_len_str
def rInt : List V → Hp → VK → Prop := fun xs H Q => (∃ i, xs = [.int i] ∧ Q (.int i) H) ∨ ∃ k, xs = [.bl k] ∧ Q (.int (if k then 1 else 0)) H
theorem c_int : CallR X (.type "int") rInt := call_int1
def rAbs : List V → Hp → VK → Prop := fun xs H Q => ∃ i, xs = [.int i] ∧ Q (.int (if i < 0 then -i else i)) H
theorem c_abs : CallR X (.builtin "abs") rAbs := call_abs
def rMax2 : List V → Hp → VK → Prop := fun xs H Q => ∃ i j, xs = [.int i, .int j] ∧ Q (.int (if j > i then j else i)) H
theorem c_max2 (hc : X.calm = true) : CallR X (.builtin "max") rMax2 := call_max2 hc
def rMin2 : List V → Hp → VK → Prop := fun xs H Q => ∃ i j, xs = [.int i, .int j] ∧ Q (.int (if j < i then j else i)) H
theorem c_min2 (hc : X.calm = true) : CallR X (.builtin "min") rMin2 := call_min2 hc
def rStrI : List V → Hp → VK → Prop := fun xs H Q => ∃ i, xs = [.int i] ∧ i.natAbs.log2 < 1920 ∧ Q (.str (toString i)) H
theorem c_strI : CallR X (.type "str") rStrI := call_str_int
def rListO (K : PySem.W.Frag) : List V → Hp → VK → Prop := fun xs H Q => ∃ p ys, xs = [.ref p] ∧ (SqL K H p ys ∨ SqT K H p ys) ∧ ∀ l, H l = none → Q (.ref l) (upd H l (.lst ys))
theorem c_list : CallR X (.type "list") (rListO X.K) := call_list_of
def rTupO (K : PySem.W.Frag) : List V → Hp → VK → Prop := fun xs H Q => ∃ p ys, xs = [.ref p] ∧ ((SqL K H p ys ∧ ∀ l, H l = none → Q (.ref l) (upd H l (.tup ys))) ∨ (SqT K H p ys ∧ Q (.ref p) H))
theorem c_tuple : CallR X (.type "tuple") (rTupO X.K) := call_tuple_of
def rAddS2 : R2 := fun x y H Q => ∃ i j, x = .str i ∧ y = .str j ∧ i.length + j.length ≤ sizeLine ∧ Q (.str (i ++ j)) H
theorem o_adds : OpR X (binaryOp .Add) rAddS2 := op_add_str
def rIsN2 : R2 := fun x y H Q => y = .non ∧ Q (.bl (decide (x = .non))) H
theorem o_isN : OpR X (compareOp .Is) rIsN2 := op_isN
def rNotN2 : R2 := fun x y H Q => y = .non ∧ Q (.bl (!decide (x = .non))) H
theorem o_notN : OpR X (compareOp .IsNot) rNotN2 := op_notN
/-- ** of any size -/
def CPowW (i j : Int) : Prop := 0 ≤ j ∧ (Builtin.Int.intBits i : Int) * j ≤ 2 ^ 27
theorem op_powW : OpR X (binaryOp .Pow) (rI CPowW fun i j => .int (i ^ j.toNat)) := opI fun _ _ _ _ _ _ _ hc q => PyProof.Rows.pow_int hc.1 hc.2 q
end

theorem at_0 {α : Type} {x : α} {r : List α} : atI (x :: r) 0 = some x := by
  unfold atI ixN
  rw [if_pos (by decide), if_pos (by simp)]
  rfl
theorem at_in {xs : List V} {i : Int} {v : V} (h : 0 ≤ i) (e : xs[i.toNat]? = some v) : atI xs i = some v := by
  have q := atI_nat (j := i.toNat) e
  rw [show ((i.toNat : Nat) : Int) = i by omega] at q
  exact q
theorem ix_0 {n : Nat} (h : 0 < n) : ixN n 0 = some 0 := by
  unfold ixN
  rw [if_pos (by omega), if_pos (by omega)]
  rfl
theorem ix_in {n : Nat} {i : Int} (h : 0 ≤ i) (h2 : i < n) : ixN n i = some i.toNat := by
  unfold ixN
  rw [if_pos h, if_pos h2]

/-! ### tests whose answer is known -/
theorem ifS_no {i j : Str} {A B : Prop} (ne : i ≠ j) (h : B) : if decide (V.str i = V.str j) = true then A else B := ifS (fun e => absurd e ne) fun _ => h
theorem ifS_yes {i j : Str} {A B : Prop} (e : i = j) (h : A) : if decide (V.str i = V.str j) = true then A else B := ifS (fun _ => h) fun ne => absurd e ne
theorem ifSn_no {i j : Str} {A B : Prop} (e : i = j) (h : B) : if (!decide (V.str i = V.str j)) = true then A else B := ifSn (fun ne => absurd e ne) fun _ => h
theorem ifSn_yes {i j : Str} {A B : Prop} (ne : i ≠ j) (h : A) : if (!decide (V.str i = V.str j)) = true then A else B := ifSn (fun _ => h) fun e => absurd e ne
theorem ifI_no {i j : Int} {A B : Prop} (ne : i ≠ j) (h : B) : if decide (V.int i = V.int j) = true then A else B := ifI (fun e => absurd e ne) fun _ => h
theorem ifI_yes {i j : Int} {A B : Prop} (e : i = j) (h : A) : if decide (V.int i = V.int j) = true then A else B := ifI (fun _ => h) fun ne => absurd e ne
theorem ifIn_no {i j : Int} {A B : Prop} (e : i = j) (h : B) : if (!decide (V.int i = V.int j)) = true then A else B := ifIn (fun ne => absurd e ne) fun _ => h
theorem ifIn_yes {i j : Int} {A B : Prop} (ne : i ≠ j) (h : A) : if (!decide (V.int i = V.int j)) = true then A else B := ifIn (fun _ => h) fun e => absurd e ne
theorem iteNT {A B : Prop} (h : B) : if (!true) = true then A else B := iteF h
theorem iteNF {A B : Prop} (h : A) : if (!false) = true then A else B := iteT h
theorem ifD_no {c A B : Prop} [Decidable c] (n : ¬ c) (h : B) : if decide c = true then A else B := ifD (fun e => absurd e n) fun _ => h
theorem ifD_yes {c A B : Prop} [Decidable c] (y : c) (h : A) : if decide c = true then A else B := ifD (fun _ => h) fun n => absurd y n

/-! ### slices -/
theorem cut_to (xs : List V) (n : Int) (h : 0 ≤ n) : cutV xs none (some n) = xs.take n.toNat := by
  unfold cutV
  have e : HT.sIx xs.length xs.length (some n) = min n.toNat xs.length := by
    have q := HT.sIx_nat xs.length xs.length n.toNat
    rwa [show ((n.toNat : Nat) : Int) = n by omega] at q
  rw [HT.sIx_none, List.drop_zero, e, Nat.sub_zero, ← List.take_eq_take_min]
theorem cut_from (xs : List V) (n : Int) (h : 0 ≤ n) : cutV xs (some n) none = xs.drop n.toNat := by
  unfold cutV
  have e0 : HT.sIx xs.length 0 (some n) = min n.toNat xs.length := by
    have q := HT.sIx_nat xs.length 0 n.toNat
    rwa [show ((n.toNat : Nat) : Int) = n by omega] at q
  rw [e0, HT.sIx_none]
  have e : xs.drop (min n.toNat xs.length) = xs.drop n.toNat := by
    by_cases q : n.toNat ≤ xs.length
    · rw [Nat.min_eq_left q]
    · rw [Nat.min_eq_right (by omega), List.drop_of_length_le (Nat.le_refl _), List.drop_of_length_le (by omega)]
  rw [e, List.take_of_length_le]
  rw [List.length_drop]
  omega

/-- all are ints -/
def AI (xs : List V) : Prop := ∀ x ∈ xs, ∃ z : Int, x = .int z
theorem AI.get {xs : List V} {n : Nat} {x : V} (h : AI xs) (e : xs[n]? = some x) : ∃ z : Int, x = .int z := h x (List.mem_of_getElem? e)
theorem AI.cut {xs : List V} {lo hi : Option Int} (h : AI xs) : AI (cutV xs lo hi) := fun x hx => h x (List.mem_of_mem_drop (List.mem_of_mem_take hx))
theorem AI.app {xs ys : List V} (h : AI xs) (h' : AI ys) : AI (xs ++ ys) := fun x hx => (List.mem_append.mp hx).elim (h x) (h' x)
theorem AI.nil : AI [] := fun _ h => nomatch h
theorem AI.one (z : Int) : AI [.int z] := fun x h => ⟨z, by simpa using h⟩
theorem AI.ints : ∀ {xs : List V}, AI xs → ∃ ns : List Int, xs = ns.map V.int
  | [], _ => ⟨[], rfl⟩
  | x :: xs, h => by
    obtain ⟨z, rfl⟩ := h x List.mem_cons_self
    obtain ⟨ns, rfl⟩ := AI.ints (xs := xs) fun y hy => h y (List.mem_cons_of_mem _ hy)
    exact ⟨z :: ns, rfl⟩
theorem AI.of (ns : List Int) : AI (ns.map V.int) := fun x hx => by
  obtain ⟨z, _, e⟩ := List.mem_map.mp hx
  exact ⟨z, e.symm⟩
theorem AI.of_all : ∀ {xs ys : List V}, All2 (fun _ y => ∃ z : Int, y = .int z) xs ys → AI ys
  | _, _, .nil => AI.nil
  | _, _, .cons r t => fun y hy => (List.mem_cons.mp hy).elim (fun e => e ▸ r) (AI.of_all t y)
/-- all are texts -/
def AS (xs : List V) : Prop := ∀ x ∈ xs, ∃ z : Str, x = .str z
theorem AS.get {xs : List V} {n : Nat} {x : V} (h : AS xs) (e : xs[n]? = some x) : ∃ z : Str, x = .str z := h x (List.mem_of_getElem? e)
theorem AS.cut {xs : List V} {lo hi : Option Int} (h : AS xs) : AS (cutV xs lo hi) := fun x hx => h x (List.mem_of_mem_drop (List.mem_of_mem_take hx))
theorem AS.app {xs ys : List V} (h : AS xs) (h' : AS ys) : AS (xs ++ ys) := fun x hx => (List.mem_append.mp hx).elim (h x) (h' x)
theorem AS.of (ns : List Str) : AS (ns.map V.str) := fun x hx => by
  obtain ⟨z, _, e⟩ := List.mem_map.mp hx
  exact ⟨z, e.symm⟩
theorem AS.nil : AS [] := fun _ h => nomatch h
theorem AS.cons {z : Str} {xs : List V} (h : AS xs) : AS (.str z :: xs) := fun x hx => (List.mem_cons.mp hx).elim (fun e => ⟨z, e⟩) (h x)
theorem cut_len (xs : List V) (lo hi : Option Int) : (cutV xs lo hi).length ≤ xs.length := cutV_length xs lo hi
theorem cast_int {Q : VK} {H : Hp} {a b : Int} (h : Q (.int a) H) (e : a = b) : Q (.int b) H := e ▸ h

/-! ### forward steps -/
section
variable {W : Wd} {K : PySem.W.Frag} {H H1 : Hp} {σ : L2.St} {D : Ends} {Q : VK} {v x y : V} {i j : Int} {n : Nat} {s z : Str} {b c : Bool} {p a : Addr} {xs ys vs : List V}
variable {ta tb te : TE} {t u : TS} {c1 c2 : TT} {tr : TA} {r : R2} {QB : Bool → Hp → Prop} {QA : List V → Hp → Prop} {QO : Option Int → Hp → Prop}
theorem rd_seq (h : t { D with nx := u D } σ H) : tSeq t u D σ H := h
theorem rd_next (h : D.nx σ H) : tNext D σ H := h
theorem rd_asg {m : Nat} (h : te σ H fun x H1 => D.nx (σ.set m (some x)) H1) : tAsg te (gName m) D σ H := h
theorem rd_asgG {g : TG} (h : te σ H fun x H1 => g x σ H1 D.nx) : tAsg te g D σ H := h
theorem rd_drop (h : te σ H fun _ H1 => D.nx σ H1) : tDrop te D σ H := h
theorem rd_ret (h : te σ H D.rt) : tRet te D σ H := h
theorem rd_retN (h : D.rt .non H) : tRetN D σ H := h
theorem rd_brk (h : D.bk σ H) : tBreak D σ H := h
theorem rd_cont (h : D.ct σ H) : tCont D σ H := h
theorem rd_ifS (h : c1 σ H fun b H1 => if b = true then t D σ H1 else u D σ H1) : tIfS c1 t u D σ H := h
theorem rd_var {m : Nat} (e : σ[m]? = some (some v)) (h : Q v H) : tVar m σ H Q := ⟨v, e, h⟩
theorem rd_c (h : Q v H) : tC v σ H Q := h
theorem rd_op (h : ta σ H fun x H1 => tb σ H1 fun y H2 => r x y H2 Q) : tOp r ta tb σ H Q := h
theorem rd_un {r : V → Hp → VK → Prop} (h : ta σ H fun x H1 => r x H1 Q) : tUn r ta σ H Q := h
theorem rd_I0 {g : Int → Int → V} (h : Q (g i j) H) : rI0 g (.int i) (.int j) H Q := ⟨_, _, rfl, rfl, h⟩
theorem rd_I {C : Int → Int → Prop} {g : Int → Int → V} (k : C i j) (h : Q (g i j) H) : rI C g (.int i) (.int j) H Q := ⟨_, _, rfl, rfl, k, h⟩
theorem rd_U {g : Int → V} (h : Q (g i) H) : rU g (.int i) H Q := ⟨_, rfl, h⟩
theorem rd_eq (k : scal x y = true) (h : Q (.bl (decide (x = y))) H) : rEq x y H Q := ⟨k, h⟩
theorem rd_ne (k : scal x y = true) (h : Q (.bl (!decide (x = y))) H) : rNe x y H Q := ⟨k, h⟩
theorem rd_isN (h : Q (.bl (decide (x = .non))) H) : rIsN2 x .non H Q := ⟨rfl, h⟩
theorem rd_notN (h : Q (.bl (!decide (x = .non))) H) : rNotN2 x .non H Q := ⟨rfl, h⟩
theorem rd_test (h : te σ H fun x H1 => ∃ k, x = .bl k ∧ QB k H1) : tTest te σ H QB := h
theorem rd_B (h : te σ H fun x H1 => ∃ k, x = .bl k ∧ QB k H1) : tB te σ H QB := h
theorem rd_bl {P : Bool → Prop} (h : P b) : ∃ k, V.bl b = V.bl k ∧ P k := ⟨b, rfl, h⟩
theorem rd_and (h : c1 σ H fun c H1 => if c = true then c2 σ H1 QB else QB false H1) : tAnd c1 c2 σ H QB := h
theorem rd_or (h : c1 σ H fun c H1 => if c = true then QB true H1 else c2 σ H1 QB) : tOr c1 c2 σ H QB := h
theorem rd_not (h : c1 σ H fun c H1 => QB (!c) H1) : tNot c1 σ H QB := h
theorem rd_andV (h : ta σ H fun x H1 => ∃ k, x = .bl k ∧ if k = true then tb σ H1 Q else Q (.bl false) H1) : tAndV ta tb σ H Q := h
theorem rd_orV (h : ta σ H fun x H1 => ∃ k, x = .bl k ∧ if k = true then Q (.bl true) H1 else tb σ H1 Q) : tOrV ta tb σ H Q := h
theorem rd_notV (h : ta σ H fun x H1 => ∃ k, x = .bl k ∧ Q (.bl (!k)) H1) : tNotV ta σ H Q := h
theorem rd_blV {P : Bool → Prop} (h : P b) : ∃ k, V.bl b = .bl k ∧ P k := ⟨b, rfl, h⟩
theorem rd_ifE (h : c1 σ H fun c H1 => if c = true then ta σ H1 Q else tb σ H1 Q) : tIf c1 ta tb σ H Q := h
theorem rd_nil (h : QA [] H) : tNil σ H QA := h
theorem rd_cons (h : te σ H fun x H1 => tr σ H1 fun xs H2 => QA (x :: xs) H2) : tCons te tr σ H QA := h
theorem rd_call {sp : Sp} {E : XK} (h : tr σ H fun vs H1 => sp (vs ++ []) H1 Q E) : tCall sp [] E tr σ H Q := h
theorem rd_app0 {P : List V → Prop} (h : P vs) : P (vs ++ []) := by rw [List.append_nil]; exact h
theorem rd_cb {r : List V → Hp → VK → Prop} (h : tr σ H fun vs H1 => r vs H1 Q) : tCB r tr σ H Q := h
/-- a new tuple, a new list -/
def NewO (Q : VK) (o : HO) (n : Nat) (H1 : Hp) : Prop := n ≤ sizeLine ∧ ∀ p, H1 p = none → Q (.ref p) (upd H1 p o)
theorem rd_tupU (h : tr σ H fun xs H1 => NewO Q (.tup xs) xs.length H1) : tTup tr σ H Q := h
theorem rd_lstU (h : tr σ H fun xs H1 => NewO Q (.lst xs) xs.length H1) : tLst tr σ H Q := h
theorem rd_new {o : HO} (i : W.iv H) (hn : n ≤ 1000000) (k : ∀ p H2, H p = none → Ex W H H2 → At W H2 p o → Q (.ref p) H2) : NewO Q o n H := lst_of i hn k
theorem rd_new1 {o : HO} (i : W.iv H) (k : ∀ p H2, H p = none → Ex W H H2 → At W H2 p o → Q (.ref p) H2) : ∀ p, H p = none → Q (.ref p) (upd H p o) := new_of i k
theorem rd_ixL (h : At W H p (.lst xs)) (e : atI xs i = some v) (k : Q v H) : rIxL K (.ref p) (.int i) H Q := ⟨p, xs, i, v, rfl, rfl, h.sl, e, k⟩
theorem rd_ixT (h : At W H p (.tup xs)) (e : atI xs i = some v) (k : Q v H) : rIxT K (.ref p) (.int i) H Q := ⟨p, xs, i, v, rfl, rfl, h.st, e, k⟩
theorem rd_slLr {lo hi : Option Int} (h : H a = some (.lst xs)) (k : ∀ p H2, H p = none → H2 p = some (.lst (cutV xs lo hi)) → (∀ q, q ≠ p → H2 q = H q) → Q (.ref p) H2) : rSlL K (.ref a) lo hi H Q := ⟨a, xs, rfl, SqL.of h, fun p hp => k p _ hp upd_same fun _ ne => upd_ne ne⟩
theorem rd_ixM (h : At W H p (.lst xs)) (h0 : 0 ≤ i) (h1 : i < (xs.length : Int)) (k : ∀ v, v ∈ xs → Q v H) : rIxL K (.ref p) (.int i) H Q := by
  have e : xs[i.toNat]? = some (xs[i.toNat]'(by omega)) := List.getElem?_eq_getElem (by omega)
  exact ⟨p, xs, i, _, rfl, rfl, h.sl, at_in h0 e, k _ (List.getElem_mem _)⟩
theorem rd_ixLr (h : H p = some (.lst xs)) (e : atI xs i = some v) (k : Q v H) : rIxL K (.ref p) (.int i) H Q := ⟨p, xs, i, v, rfl, rfl, SqL.of h, e, k⟩
theorem rd_gsub {to ti : TE} {ts : TSet} {QS : L2.St → Hp → Prop} (h : to σ H fun o H1 => ti σ H1 fun i H2 => ts o i v H2 fun H3 => QS σ H3) : gSub to ti ts v σ H QS := h
theorem rd_setr {m : Nat} {QH : Hp → Prop} (h : H p = some (.lst xs)) (e : ixN xs.length i = some m) (k : ∀ H2, H2 p = some (.lst (xs.set m v)) → (∀ q, q ≠ p → H2 q = H q) → QH H2) : rSetL (.ref p) (.int i) v H QH :=
  ⟨p, xs, i, m, rfl, rfl, h, e, k _ upd_same fun _ ne => upd_ne ne⟩
/-- a store to a list of our own (unknown at H0) -/
theorem rd_set {m : Nat} {QH : Hp → Prop} {H0 : Hp} (e0 : Ex W H0 H) (h0 : H0 p = none) (h : At W H p (.lst xs)) (e : ixN xs.length i = some m) (k : ∀ H2, Ex W H0 H2 → At W H2 p (.lst (xs.set m v)) → (∀ q o, q ≠ p → At W H q o → At W H2 q o) → QH H2) : rSetL (.ref p) (.int i) v H QH :=
  ⟨p, xs, i, m, rfl, rfl, h.1, e, k _ (e0.mut h0 h) (.mut e0.iv h) fun _ _ ne q => .other e0.iv h q ne⟩
theorem rd_len (h : At W H p (.lst xs)) (k : Q (.int xs.length) H) : rLen K [.ref p] H Q := ⟨p, xs, rfl, .inl h.sl, k⟩
theorem rd_lenT (h : At W H p (.tup xs)) (k : Q (.int xs.length) H) : rLen K [.ref p] H Q := ⟨p, xs, rfl, .inr h.st, k⟩
theorem rd_lenr (h : H p = some (.lst xs)) (k : Q (.int xs.length) H) : rLen K [.ref p] H Q := ⟨p, xs, rfl, .inl (SqL.of h), k⟩
theorem rd_int (k : Q (.int i) H) : rInt [.int i] H Q := .inl ⟨_, rfl, k⟩
theorem rd_intB (k : Q (.int (if b then 1 else 0)) H) : rInt [.bl b] H Q := .inr ⟨_, rfl, k⟩
theorem rd_abs (k : Q (.int (if i < 0 then -i else i)) H) : rAbs [.int i] H Q := ⟨_, rfl, k⟩
theorem rd_max2 (k : Q (.int (if j > i then j else i)) H) : rMax2 [.int i, .int j] H Q := ⟨_, _, rfl, k⟩
theorem rd_min2 (k : Q (.int (if j < i then j else i)) H) : rMin2 [.int i, .int j] H Q := ⟨_, _, rfl, k⟩
theorem rd_lens (h : s.length ≤ 1000000) (k : Q (.int s.length) H) : rLenStr [.str s] H Q := ⟨_, rfl, sz_le h, k⟩
theorem rd_adds (h : s.length + z.length ≤ 1000000) (k : Q (.str (s ++ z)) H) : rAddS2 (.str s) (.str z) H Q := ⟨_, _, rfl, rfl, sz_le h, k⟩
theorem rd_nopart (k : QO none H) : tNoPart σ H QO := k
theorem rd_part (h : te σ H fun x H1 => ∃ i, x = .int i ∧ QO (some i) H1) : tPart te σ H QO := h
theorem rd_partI {P : Int → Prop} (k : P i) : ∃ i', V.int i = V.int i' ∧ P i' := ⟨_, rfl, k⟩
theorem rd_sl {r : V → Option Int → Option Int → Hp → VK → Prop} {tl th : TO} (h : te σ H fun x H1 => tl σ H1 fun l H2 => th σ H2 fun u H3 => r x l u H3 Q) : tSl r te tl th σ H Q := h
theorem rd_slL {lo hi : Option Int} (i : W.iv H) (h : At W H a (.lst xs)) (k : ∀ p H2, H p = none → Ex W H H2 → At W H2 p (.lst (cutV xs lo hi)) → Q (.ref p) H2) : rSlL K (.ref a) lo hi H Q := ⟨a, xs, rfl, h.sl, rd_new1 i k⟩
theorem rd_slT {lo hi : Option Int} (i : W.iv H) (h : At W H a (.tup xs)) (k0 : cutV xs lo hi = xs → Q (.ref a) H) (k : ∀ p H2, H p = none → Ex W H H2 → At W H2 p (.tup (cutV xs lo hi)) → Q (.ref p) H2) : rSlT K (.ref a) lo hi H Q → rSlT K (.ref a) lo hi H Q := id
theorem rd_list (i : W.iv H) (h : At W H p (.lst xs)) (k : ∀ l H2, H l = none → Ex W H H2 → At W H2 l (.lst xs) → Q (.ref l) H2) : rListO K [.ref p] H Q := ⟨p, xs, rfl, .inl h.sl, rd_new1 i k⟩
theorem rd_listT (i : W.iv H) (h : At W H p (.tup xs)) (k : ∀ l H2, H l = none → Ex W H H2 → At W H2 l (.lst xs) → Q (.ref l) H2) : rListO K [.ref p] H Q := ⟨p, xs, rfl, .inr h.st, rd_new1 i k⟩
theorem rd_tuple (i : W.iv H) (h : At W H p (.lst xs)) (k : ∀ l H2, H l = none → Ex W H H2 → At W H2 l (.tup xs) → Q (.ref l) H2) : rTupO K [.ref p] H Q := ⟨p, xs, rfl, .inl ⟨h.sl, rd_new1 i k⟩⟩
theorem rd_cat (i : W.iv H) (h1 : At W H p (.lst xs)) (h2 : At W H a (.lst ys)) (hz : xs.length + ys.length ≤ 1000000) (k : ∀ l H2, H l = none → Ex W H H2 → At W H2 l (.lst (xs ++ ys)) → Q (.ref l) H2) : rCat (.ref p) (.ref a) H Q :=
  ⟨p, a, xs, ys, rfl, rfl, h1.1, h2.1, sz_le hz, rd_new1 i k⟩
theorem rd_bm {T : String} {r : V → List V → Hp → VK → Prop} (h : ta σ H fun x H1 => tyV K T x H1 ∧ tr σ H1 fun xs H2 => r x xs H2 Q) : tBM K T r ta tr σ H Q := h
theorem rd_tyL {P : Prop} (h : At W H p (.lst xs)) (k : P) : tyV K "list" (.ref p) H ∧ P := ⟨.inl ⟨rfl, xs, h.sl⟩, k⟩
/-- a statement, then the rest, with a word between them -/
def tCut (t u : TS) : TS := fun D σ H => ∃ Mid : L2.St → Hp → Prop, t { D with nx := Mid } σ H ∧ ∀ σ' H', Mid σ' H' → u D σ' H'
theorem pss_cut {X : Cx} {st : Stmt} {rest : List Stmt} {t u : TS} (h1 : PS X st t) (h2 : PSs X rest u) : PSs X (st :: rest) (tCut t u) := by
  refine ⟨fun pins s σ H D I h => ?_⟩
  obtain ⟨Mid, hm, hu⟩ := h
  refine PySem.wpAny_execs_cons (thn (h1.run pins s σ H { D with nx := Mid } I hm) fun f s1 q => ?_)
  cases f with
  | next =>
    obtain ⟨σ', H', I', q⟩ := q
    exact h2.run pins s1 σ' H' D I' (hu σ' H' q)
  | ret v => exact q
  | brk => exact q
  | cont => exact q
theorem rd_cut (M : L2.St → Hp → Prop) (h : t { D with nx := M } σ H) (k : ∀ σ' H', M σ' H' → u D σ' H') : tCut t u D σ H := ⟨M, h, k⟩
/-- a list comprehension over a list: what its source gives, then its items -/
def LcG (K : PySem.W.Frag) (a : Addr) (g : TG) (tt : TT) (te : TE) (ws : List Nat) (σ : L2.St) (H1 : Hp) (Q : VK) : Prop := ∀ D, H1 D = none → ∃ W : Nat → Nat → Hp → Prop, (∃ m, W 0 m (upd H1 D (.lst []))) ∧ ∀ i m H, W i m H →
  ((Itl K a).stop i H ∧ Q (.ref D) H) ∨ ((Itl K a).go i H ∧ ∃ Nx : Hp → Prop, (∀ H', Nx H' → ∃ m', m' < m ∧ W (i + 1) m' H') ∧ ∀ x H', (Itl K a).yld i H x H' → g x (wipe σ ws) H' fun σ2 H2 => wipe σ2 ws = wipe σ ws ∧ tt σ2 H2 fun b H3 =>
    if b = true then te σ2 H3 fun y H4 => ∃ acc, H4 D = some (.lst acc) ∧ acc.length < sizeLine ∧ Nx (upd H4 D (.lst (acc ++ [y]))) else Nx H3)
theorem rd_lc {tl : TE} {g : TG} {tt : TT} {ws : List Nat} (h : tl σ H fun x H1 => ∃ a, x = .ref a ∧ (∃ xs, SqL K H1 a xs) ∧ LcG K a g tt te ws σ H1 Q) : tLc (iList K tl) g tt te ws σ H Q := h
/-- the heap without the list at D -/
def hide (D : Addr) (H : Hp) : Hp := fun a => if a = D then none else H a
theorem hide_ne {D q : Addr} {H : Hp} (h : q ≠ D) : hide D H q = H q := if_neg h
theorem hide_upd {D : Addr} {H : Hp} {o : HO} : hide D (upd H D o) = hide D H := by
  funext q
  unfold hide upd
  split <;> rfl
theorem hide_loc {D : Addr} {H : Hp} (i : W.iv H) (n : ¬ W.own H D) : W.iv (hide D H) ∧ ∀ a, W.own (hide D H) a → W.own H a := W.loc i fun _ ha => hide_ne fun e => n (e ▸ ha)
theorem At.hide {D q : Addr} {H : Hp} {o u : HO} (h : At W H q o) (ne : q ≠ D) (i : W.iv H) (hD : At W H D u) : At W (hide D H) q o := ⟨(hide_ne ne).trans h.1, fun z => h.2 ((hide_loc i hD.2).2 _ z)⟩
theorem Ex.unhide {D : Addr} {H : Hp} {u : HO} (i : W.iv H) (hD : At W H D u) : Ex W (Lw.hide D H) H := by
  have l := hide_loc i hD.2
  refine ⟨l.1, i, fun {a o} h => ?_, fun {a o} h => ?_⟩
  · have ne : a ≠ D := fun e => by
      have q := h.1
      rw [e] at q
      unfold Lw.hide at q
      rw [if_pos rfl] at q; cases q
    refine ⟨(hide_ne ne).symm.trans h.1, fun z => h.2 ?_⟩
    -- owned in H: owned without D
    have l2 := W.loc (H := Lw.hide D H) (H' := H) l.1 fun b hb => (hide_ne (fun e : b = D => hD.2 (e ▸ l.2 b hb))).symm
    exact l2.2 a z
  · have ne : a ≠ D := fun e => by
      rw [e] at h
      unfold Lw.hide at h
      rw [if_pos rfl] at h; cases h
    exact ⟨o, (hide_ne ne).symm.trans h⟩
theorem hide_ex {D : Addr} {H H' : Hp} {u : HO} (e : Ex W H H') (hD : At W H D u) : Ex W (Lw.hide D H) (Lw.hide D H') := by
  have l := hide_loc e.i0 hD.2
  have l' := hide_loc e.iv (e.at_ hD).2
  refine ⟨l.1, l'.1, fun {a o} h => ?_, fun {a o} h => ?_⟩
  · have h1 := (Ex.unhide e.i0 hD).at_ h
    have ne : a ≠ D := fun q => by
      have z := h.1
      rw [q] at z
      unfold Lw.hide at z
      rw [if_pos rfl] at z; cases z
    exact (e.at_ h1).hide ne e.iv (e.at_ hD)
  · have ne : a ≠ D := fun q => by
      rw [q] at h
      unfold Lw.hide at h
      rw [if_pos rfl] at h; cases h
    obtain ⟨o', q⟩ := e.tr ((hide_ne ne).symm.trans h)
    exact ⟨o', (hide_ne ne).trans q⟩
/-- a tuple, a list made since -/
theorem At.hideT {D q : Addr} {H0 H : Hp} {vs acc : List V} (h : At W H q (.tup vs)) (e : Ex W H0 H) (hD : At W H0 D (.lst acc)) : At W (Lw.hide D H) q (.tup vs) := h.hide (h.ne (e.at_ hD) (fun z => by cases z)) e.iv (e.at_ hD)
theorem At.hideN {D q : Addr} {H0 H1 H : Hp} {o : HO} {acc : List V} (h : At W H q o) (e : Ex W H0 H) (hD : At W H0 D (.lst acc)) (e1 : Ex W H0 H1) (f : H1 q = none) : At W (Lw.hide D H) q o :=
  h.hide (fun z => by have r := (e1.at_ hD).1; rw [← z, f] at r; cases r) e.iv (e.at_ hD)
/-- the items: keep says which are taken, R what is made of one (without the new list, at D) -/
theorem rd_lcF {tt : TT} {m : Nat} (keep : V → Bool) (R : V → V → Hp → Prop) (i : W.iv H) (ha : At W H a (.lst xs)) (hz : xs.length ≤ 50000) (hm : ∀ x y H H', Ex W H H' → R x y H → R x y H')
    (ht : ∀ (n : Nat) x H' (QB : Bool → Hp → Prop), xs[n]? = some x → Ex W H H' → (∀ H3, Ex W H' H3 → QB (keep x) H3) → tt ((wipe σ [m]).set m (some x)) H' QB)
    (he : ∀ (n : Nat) x D acc H' (QV : VK), xs[n]? = some x → keep x = true → H D = none → At W H' D (.lst acc) → Ex W H H' → (∀ y H4, Ex W H' H4 → R x y (Lw.hide D H4) → QV y H4) → te ((wipe σ [m]).set m (some x)) H' QV)
    (k : ∀ D H2 ys, H D = none → Ex W H H2 → At W H2 D (.lst ys) → All2 (fun x y => R x y H2) (xs.filter keep) ys → Q (.ref D) H2) :
    ∃ a', V.ref a = V.ref a' ∧ (∃ xs, SqL K H a' xs) ∧ LcG K a' (gName m) tt te [m] σ H Q := by
  refine ⟨a, rfl, ⟨xs, ha.sl⟩, fun D hD => ?_⟩
  refine lc_list (xs := xs) (fun n H' => ∃ ys, Ex W H H' ∧ At W H' D (.lst ys) ∧ All2 (fun x y => R x y (Lw.hide D H')) ((xs.take n).filter keep) ys ∧ ys.length ≤ n) ⟨[], Ex.new i hD, At.new i hD, .nil, Nat.le_refl _⟩ (fun n H' _ ⟨_, e, _⟩ => (e.at_ ha).sl) (fun n x H' hx ⟨ys, e, hd, h2, hl⟩ => ?_) (fun H' ⟨ys, e, hd, h2, hl⟩ => ?_)
  · have hn : n < xs.length := (List.getElem?_eq_some_iff.mp hx).1
    have tk : xs.take (n + 1) = xs.take n ++ [x] := by rw [List.take_add_one, hx]; rfl
    refine ⟨by show wipe _ _ = _; simp [wipe, List.set_set], ?_⟩
    refine ht n x H' _ hx e fun H3 e3 => ?_
    refine ifB (fun hk => ?_) (fun hk => ?_)
    · refine he n x D ys H3 _ hx hk hD (e3.at_ hd) (e.trans e3) fun y H4 e4 r => ⟨ys, (e4.at_ (e3.at_ hd)).1, sz_lt (by omega), ys ++ [y], ((e.trans e3).trans e4).mut hD (e4.at_ (e3.at_ hd)), At.mut e4.iv (e4.at_ (e3.at_ hd)), ?_, by rw [List.length_append, List.length_singleton]; omega⟩
      rw [tk, List.filter_append, List.filter_cons, if_pos hk, hide_upd]
      exact All2.snoc (All2.mono (fun x' y' r' => hm x' y' _ _ (hide_ex (e3.trans e4) hd) r') h2) r
    · refine ⟨ys, e.trans e3, e3.at_ hd, ?_, by omega⟩
      rw [tk, List.filter_append, List.filter_cons, if_neg (by rw [hk]; decide)]
      show All2 _ (_ ++ []) _
      rw [List.append_nil]
      exact All2.mono (fun x' y' r' => hm x' y' _ _ (hide_ex e3 hd) r') h2
  · rw [List.take_length] at h2
    exact k D H' ys hD e hd (All2.mono (fun x' y' r' => hm x' y' _ _ (Ex.unhide e.iv hd) r') h2)
/-- no test -/
theorem rd_lc1 {m : Nat} (R : V → V → Hp → Prop) (i : W.iv H) (ha : At W H a (.lst xs)) (hz : xs.length ≤ 50000) (hm : ∀ x y H H', Ex W H H' → R x y H → R x y H')
    (he : ∀ (n : Nat) x D acc H' (QV : VK), xs[n]? = some x → H D = none → At W H' D (.lst acc) → Ex W H H' → (∀ y H4, Ex W H' H4 → R x y (Lw.hide D H4) → QV y H4) → te ((wipe σ [m]).set m (some x)) H' QV)
    (k : ∀ D H2 ys, H D = none → Ex W H H2 → At W H2 D (.lst ys) → All2 (fun x y => R x y H2) xs ys → Q (.ref D) H2) :
    ∃ a', V.ref a = V.ref a' ∧ (∃ xs, SqL K H a' xs) ∧ LcG K a' (gName m) tYes te [m] σ H Q :=
  rd_lcF (fun _ => true) R i ha hz hm (fun n x H' QB _ e q => q H' (Ex.refl e.iv)) (fun n x D acc H' QV h1 _ h2 h3 h4 h5 => he n x D acc H' QV h1 h2 h3 h4 h5) fun D H2 ys h1 h2 h3 h4 => k D H2 ys h1 h2 h3 (by
    have z : xs.filter (fun _ => true) = xs := by simp
    rwa [z] at h4)
/-- a list comprehension over a list: what its source gives, then its items -/
def LcGT (K : PySem.W.Frag) (a : Addr) (g : TG) (tt : TT) (te : TE) (ws : List Nat) (σ : L2.St) (H1 : Hp) (Q : VK) : Prop := ∀ D, H1 D = none → ∃ W : Nat → Nat → Hp → Prop, (∃ m, W 0 m (upd H1 D (.lst []))) ∧ ∀ i m H, W i m H →
  ((Itt K a).stop i H ∧ Q (.ref D) H) ∨ ((Itt K a).go i H ∧ ∃ Nx : Hp → Prop, (∀ H', Nx H' → ∃ m', m' < m ∧ W (i + 1) m' H') ∧ ∀ x H', (Itt K a).yld i H x H' → g x (wipe σ ws) H' fun σ2 H2 => wipe σ2 ws = wipe σ ws ∧ tt σ2 H2 fun b H3 =>
    if b = true then te σ2 H3 fun y H4 => ∃ acc, H4 D = some (.lst acc) ∧ acc.length < sizeLine ∧ Nx (upd H4 D (.lst (acc ++ [y]))) else Nx H3)
theorem rd_lcT {tl : TE} {g : TG} {tt : TT} {ws : List Nat} (h : tl σ H fun x H1 => ∃ a, x = .ref a ∧ (∃ xs, SqT K H1 a xs) ∧ LcGT K a g tt te ws σ H1 Q) : tLc (iTup K tl) g tt te ws σ H Q := h
/-- the items: keep says which are taken, R what is made of one (without the new list, at D) -/
theorem rd_lcTF {tt : TT} {m : Nat} (keep : V → Bool) (R : V → V → Hp → Prop) (i : W.iv H) (ha : At W H a (.tup xs)) (hz : xs.length ≤ 50000) (hm : ∀ x y H H', Ex W H H' → R x y H → R x y H')
    (ht : ∀ (n : Nat) x H' (QB : Bool → Hp → Prop), xs[n]? = some x → Ex W H H' → (∀ H3, Ex W H' H3 → QB (keep x) H3) → tt ((wipe σ [m]).set m (some x)) H' QB)
    (he : ∀ (n : Nat) x D acc H' (QV : VK), xs[n]? = some x → keep x = true → H D = none → At W H' D (.lst acc) → Ex W H H' → (∀ y H4, Ex W H' H4 → R x y (Lw.hide D H4) → QV y H4) → te ((wipe σ [m]).set m (some x)) H' QV)
    (k : ∀ D H2 ys, H D = none → Ex W H H2 → At W H2 D (.lst ys) → All2 (fun x y => R x y H2) (xs.filter keep) ys → Q (.ref D) H2) :
    ∃ a', V.ref a = V.ref a' ∧ (∃ xs, SqT K H a' xs) ∧ LcGT K a' (gName m) tt te [m] σ H Q := by
  refine ⟨a, rfl, ⟨xs, ha.st⟩, fun D hD => ?_⟩
  refine lc_tup (xs := xs) (fun n H' => ∃ ys, Ex W H H' ∧ At W H' D (.lst ys) ∧ All2 (fun x y => R x y (Lw.hide D H')) ((xs.take n).filter keep) ys ∧ ys.length ≤ n) ⟨[], Ex.new i hD, At.new i hD, .nil, Nat.le_refl _⟩ (fun n H' _ ⟨_, e, _⟩ => (e.at_ ha).st) (fun n x H' hx ⟨ys, e, hd, h2, hl⟩ => ?_) (fun H' ⟨ys, e, hd, h2, hl⟩ => ?_)
  · have hn : n < xs.length := (List.getElem?_eq_some_iff.mp hx).1
    have tk : xs.take (n + 1) = xs.take n ++ [x] := by rw [List.take_add_one, hx]; rfl
    refine ⟨by show wipe _ _ = _; simp [wipe, List.set_set], ?_⟩
    refine ht n x H' _ hx e fun H3 e3 => ?_
    refine ifB (fun hk => ?_) (fun hk => ?_)
    · refine he n x D ys H3 _ hx hk hD (e3.at_ hd) (e.trans e3) fun y H4 e4 r => ⟨ys, (e4.at_ (e3.at_ hd)).1, sz_lt (by omega), ys ++ [y], ((e.trans e3).trans e4).mut hD (e4.at_ (e3.at_ hd)), At.mut e4.iv (e4.at_ (e3.at_ hd)), ?_, by rw [List.length_append, List.length_singleton]; omega⟩
      rw [tk, List.filter_append, List.filter_cons, if_pos hk, hide_upd]
      exact All2.snoc (All2.mono (fun x' y' r' => hm x' y' _ _ (hide_ex (e3.trans e4) hd) r') h2) r
    · refine ⟨ys, e.trans e3, e3.at_ hd, ?_, by omega⟩
      rw [tk, List.filter_append, List.filter_cons, if_neg (by rw [hk]; decide)]
      show All2 _ (_ ++ []) _
      rw [List.append_nil]
      exact All2.mono (fun x' y' r' => hm x' y' _ _ (hide_ex e3 hd) r') h2
  · rw [List.take_length] at h2
    exact k D H' ys hD e hd (All2.mono (fun x' y' r' => hm x' y' _ _ (Ex.unhide e.iv hd) r') h2)
/-- no test -/
theorem rd_lcT1 {m : Nat} (R : V → V → Hp → Prop) (i : W.iv H) (ha : At W H a (.tup xs)) (hz : xs.length ≤ 50000) (hm : ∀ x y H H', Ex W H H' → R x y H → R x y H')
    (he : ∀ (n : Nat) x D acc H' (QV : VK), xs[n]? = some x → H D = none → At W H' D (.lst acc) → Ex W H H' → (∀ y H4, Ex W H' H4 → R x y (Lw.hide D H4) → QV y H4) → te ((wipe σ [m]).set m (some x)) H' QV)
    (k : ∀ D H2 ys, H D = none → Ex W H H2 → At W H2 D (.lst ys) → All2 (fun x y => R x y H2) xs ys → Q (.ref D) H2) :
    ∃ a', V.ref a = V.ref a' ∧ (∃ xs, SqT K H a' xs) ∧ LcGT K a' (gName m) tYes te [m] σ H Q :=
  rd_lcTF (fun _ => true) R i ha hz hm (fun n x H' QB _ e q => q H' (Ex.refl e.iv)) (fun n x D acc H' QV h1 _ h2 h3 h4 h5 => he n x D acc H' QV h1 h2 h3 h4 h5) fun D H2 ys h1 h2 h3 h4 => k D H2 ys h1 h2 h3 (by
    have z : xs.filter (fun _ => true) = xs := by simp
    rwa [z] at h4)
theorem rd_any {bs : List Bool} (h : At W H a (.lst (bs.map V.bl))) (k : Q (.bl (bs.any id)) H) : rAny K [.ref a] H Q := ⟨a, bs, rfl, h.sl, k⟩
theorem rd_all {bs : List Bool} (h : At W H a (.lst (bs.map V.bl))) (k : Q (.bl (bs.all id)) H) : rAll K [.ref a] H Q := ⟨a, bs, rfl, h.sl, k⟩
theorem rd_sum {ns : List Int} (h : At W H a (.lst (ns.map V.int))) (k : Q (.int ns.sum) H) : rSum K [.ref a] H Q := ⟨a, ns, rfl, h.sl, k⟩
theorem rd_inK (h : SqT K H p xs) (f : flatV x = true) (g : xs.all flatV = true) (k : Q (.bl (inV x xs)) H) : rIn K false x (.ref p) H Q := ⟨p, xs, rfl, .inr h, f, g, k⟩
theorem rd_niK (h : SqT K H p xs) (f : flatV x = true) (g : xs.all flatV = true) (k : Q (.bl (!inV x xs)) H) : rIn K true x (.ref p) H Q := ⟨p, xs, rfl, .inr h, f, g, k⟩
theorem rd_inT (h : At W H p (.tup xs)) (f : flatV x = true) (g : xs.all flatV = true) (k : Q (.bl (inV x xs)) H) : rIn K false x (.ref p) H Q := ⟨p, xs, rfl, .inr h.st, f, g, k⟩
theorem rd_niT (h : At W H p (.tup xs)) (f : flatV x = true) (g : xs.all flatV = true) (k : Q (.bl (!inV x xs)) H) : rIn K true x (.ref p) H Q := ⟨p, xs, rfl, .inr h.st, f, g, k⟩
theorem rd_inL (h : At W H p (.lst xs)) (f : flatV x = true) (g : xs.all flatV = true) (k : Q (.bl (inV x xs)) H) : rIn K false x (.ref p) H Q := ⟨p, xs, rfl, .inl h.sl, f, g, k⟩
theorem rd_niL (h : At W H p (.lst xs)) (f : flatV x = true) (g : xs.all flatV = true) (k : Q (.bl (!inV x xs)) H) : rIn K true x (.ref p) H Q := ⟨p, xs, rfl, .inl h.sl, f, g, k⟩
theorem rd_slTn {lo hi : Option Int} (i : W.iv H) (h : At W H a (.tup xs)) (n : ¬ (HT.sIx xs.length 0 lo = 0 ∧ HT.sIx xs.length xs.length hi = xs.length)) (k : ∀ p H2, H p = none → Ex W H H2 → At W H2 p (.tup (cutV xs lo hi)) → Q (.ref p) H2) : rSlT K (.ref a) lo hi H Q := ⟨a, xs, rfl, h.st, n, rd_new1 i k⟩
theorem rd_gtup {QS : L2.St → Hp → Prop} {ts : TGs} (h : At W H a (.tup xs)) (e : xs.length = n) (k : ts xs σ H QS) : gTup K n ts (.ref a) σ H QS := ⟨a, xs, rfl, h.st, e, k⟩
theorem rd_gconsE {QS : L2.St → Hp → Prop} {g : TG} {ts : TGs} (e : vs = v :: xs) (k : g v σ H fun σ' H' => ts xs σ' H' QS) : gCons g ts vs σ H QS := ⟨v, xs, e, k⟩
theorem rd_gnilE {QS : L2.St → Hp → Prop} (e : vs = []) (k : QS σ H) : gNil vs σ H QS := ⟨e, k⟩
theorem rd_isi {nm mm : String} (ty : TyX K H x (.type nm)) (h : kitB nm mm = some b) (k : Q (.bl b) H) : rIsi K [x, .ty mm] H Q := ⟨x, .ty mm, .type nm, .type mm, b, rfl, .ty _, ty, kit_ty h, k⟩
theorem rd_isiY {nm mm : String} (ty : TyX K H x (.type nm)) (h : kitB nm mm = some true) (k : Q (.bl true) H) : rIsi K [x, .ty mm] H Q := rd_isi ty h k
theorem rd_isiN {nm mm : String} (ty : TyX K H x (.type nm)) (h : kitB nm mm = some false) (k : Q (.bl false) H) : rIsi K [x, .ty mm] H Q := rd_isi ty h k
theorem rd_slLs {lo hi : Option Int} (i : W.iv H) (h : SqL K H a xs) (k : ∀ p H2, H p = none → Ex W H H2 → At W H2 p (.lst (cutV xs lo hi)) → Q (.ref p) H2) : rSlL K (.ref a) lo hi H Q := ⟨a, xs, rfl, h, rd_new1 i k⟩
theorem rd_gcons {QS : L2.St → Hp → Prop} {g : TG} {ts : TGs} (k : g v σ H fun σ' H' => ts xs σ' H' QS) : gCons g ts (v :: xs) σ H QS := ⟨v, xs, rfl, k⟩
theorem rd_gnil {QS : L2.St → Hp → Prop} (k : QS σ H) : gNil [] σ H QS := ⟨rfl, k⟩
theorem rd_gname {QS : L2.St → Hp → Prop} {m : Nat} (k : QS (σ.set m (some v)) H) : gName m v σ H QS := k
/-- a for over a list, a tuple, a range: its source, then for_list .. -/
def FoG (K : PySem.W.Frag) (a : Addr) (g : TG) (tb : TS) (D : Ends) (σ : L2.St) (H : Hp) : Prop := ∃ W : Nat → Nat → L2.St → Hp → Prop, (∃ m, W 0 m σ H) ∧ ∀ i m σ H, W i m σ H →
  ((Itl K a).stop i H ∧ D.nx σ H) ∨ ((Itl K a).go i H ∧ ∃ N : L2.St → Hp → Prop, (∀ σ' H', N σ' H' → ∃ m', m' < m ∧ W (i + 1) m' σ' H') ∧ ∀ x H', (Itl K a).yld i H x H' → g x σ H' fun σ2 H2 => tb { D with nx := N, ct := N, bk := D.nx } σ2 H2)
def FoR (lo : Int) (n : Nat) (g : TG) (tb : TS) (D : Ends) (σ : L2.St) (H : Hp) : Prop := ∃ W : Nat → Nat → L2.St → Hp → Prop, (∃ m, W 0 m σ H) ∧ ∀ i m σ H, W i m σ H →
  ((Itr lo n).stop i H ∧ D.nx σ H) ∨ ((Itr lo n).go i H ∧ ∃ N : L2.St → Hp → Prop, (∀ σ' H', N σ' H' → ∃ m', m' < m ∧ W (i + 1) m' σ' H') ∧ ∀ x H', (Itr lo n).yld i H x H' → g x σ H' fun σ2 H2 => tb { D with nx := N, ct := N, bk := D.nx } σ2 H2)
theorem rd_forL {tl : TE} {g : TG} {tb : TS} (h : tl σ H fun x H1 => ∃ a, x = .ref a ∧ (∃ xs, SqL K H1 a xs) ∧ FoG K a g tb D σ H1) : tFor (iList K tl) g tb D σ H := h
theorem rd_forR1 {g : TG} {tb : TS} (h : tr σ H fun vs H1 => ∃ j : Int, vs = [.int j] ∧ -(2 ^ 62) ≤ j ∧ j < 2 ^ 62 ∧ FoR 0 j.toNat g tb D σ H1) : tFor (iRng1 tr) g tb D σ H := h
theorem rd_forR2 {g : TG} {tb : TS} (h : tr σ H fun vs H1 => ∃ i j : Int, vs = [.int i, .int j] ∧ (-(2 ^ 62) ≤ i ∧ i < 2 ^ 62 ∧ -(2 ^ 62) ≤ j ∧ j < 2 ^ 62) ∧ FoR i (j - i).toNat g tb D σ H1) : tFor (iRng2 tr) g tb D σ H := h
theorem rd_forR1a {g : TG} {tb : TS} (h1 : -(2 ^ 62) ≤ j) (h2 : j < 2 ^ 62) (h : FoR 0 j.toNat g tb D σ H) : ∃ j' : Int, [V.int j] = [V.int j'] ∧ -(2 ^ 62) ≤ j' ∧ j' < 2 ^ 62 ∧ FoR 0 j'.toNat g tb D σ H := ⟨j, rfl, h1, h2, h⟩
theorem rd_forR2a {g : TG} {tb : TS} (h1 : -(2 ^ 62) ≤ i) (h2 : i < 2 ^ 62) (h3 : -(2 ^ 62) ≤ j) (h4 : j < 2 ^ 62) (h : FoR i (j - i).toNat g tb D σ H) : ∃ i' j' : Int, [V.int i, V.int j] = [V.int i', V.int j'] ∧ (-(2 ^ 62) ≤ i' ∧ i' < 2 ^ 62 ∧ -(2 ^ 62) ≤ j' ∧ j' < 2 ^ 62) ∧ FoR i' (j' - i').toNat g tb D σ H := ⟨i, j, rfl, ⟨h1, h2, h3, h4⟩, h⟩
theorem rd_forLa {g : TG} {tb : TS} (h : At W H a (.lst xs)) (k : FoG K a g tb D σ H) : ∃ a', V.ref a = V.ref a' ∧ (∃ xs, SqL K H a' xs) ∧ FoG K a' g tb D σ H := ⟨a, rfl, ⟨xs, h.sl⟩, k⟩
/-- over range: Pv by the turn -/
theorem for_r {lo : Int} {m n : Nat} {tb : TS} (Pv : Nat → L2.St → Hp → Prop) (h0 : Pv 0 σ H) (hs : ∀ (i : Nat) σ H, i < n → Pv i σ H → tb { D with nx := Pv (i + 1), ct := Pv (i + 1), bk := D.nx } (σ.set m (some (.int (lo + i)))) H) (hd : ∀ σ H, Pv n σ H → D.nx σ H) : FoR lo n (gName m) tb D σ H :=
  for_range Pv h0 hs hd
theorem for_l {g : TG} {tb : TS} (Pv : Nat → L2.St → Hp → Prop) (h0 : Pv 0 σ H) (hl : ∀ i σ H, i ≤ xs.length → Pv i σ H → At W H a (.lst xs)) (hs : ∀ i x σ H, xs[i]? = some x → Pv i σ H → g x σ H fun σ2 H2 => tb { D with nx := Pv (i + 1), ct := Pv (i + 1), bk := D.nx } σ2 H2) (hd : ∀ σ H, Pv xs.length σ H → D.nx σ H) : FoG K a g tb D σ H :=
  for_list Pv h0 (fun i σ H h p => (hl i σ H h p).sl) hs hd
/-- an append to a list of our own (unknown at H0) -/
theorem rd_append {H0 : Hp} (e : Ex W H0 H) (h0 : H0 p = none) (h : At W H p (.lst xs)) (hz : xs.length < 1000000)
    (k : ∀ H2, Ex W H0 H2 → At W H2 p (.lst (xs ++ [y])) → (∀ q o, q ≠ p → At W H q o → At W H2 q o) → Q .non H2) : rAppend (.ref p) [y] H Q :=
  ⟨p, xs, y, rfl, rfl, h.1, sz_lt hz, k _ (e.mut h0 h) (.mut e.iv h) fun _ _ ne q => .other e.iv h q ne⟩
end
end Lw

/-! Lw2: loops and comprehensions over anything that is walked, enumerate with a start, dicts, texts. -/
namespace Lw
open PySem L2 PySem.Spec PyProof.Rows

/-! ### enumerate(xs, start=k), enumerate of a tuple -/
/-- a type of the language called with named arguments -/
theorem callWith_tyK {M : Model} {A : Around} {E : Value → Shared → Prop} {s : Shared} {env : Env} {pos : Pos} {T : String} {e : Expr} {rest : List Expr} {kws : List Keyword} {Q : Value → Shared → Prop}
    (h : wpAny M A (spliced (backTo pos (starEach (e :: rest) env))) (fun vs s₁ => wpAny M A (evalAll ((backToKw pos (keywordEach kws env)).map (·.2)))
      (fun zs s₂ => wpAny M A (call (.type T) vs (((backToKw pos (keywordEach kws env)).filterMap (·.1)).zip zs)) Q E s₂) E s₁) E s)
    (he : backTo pos (starEach (e :: rest) env) = (false, eval e env) :: backTo pos (starEach rest env)) (hp : (backTo pos (starEach (e :: rest) env)).any (·.1) = false)
    (ha : (backToKw pos (keywordEach kws env)).all (·.1.isSome) = true) (hk : (backToKw pos (keywordEach kws env)).any (·.1.isNone) = false) :
    wpAny M A (callWith pos (.type T) [] (backTo pos (starEach (e :: rest) env)) (backToKw pos (keywordEach kws env))) Q E s := by
  have h1 : wpAny M A (evalArgs (.type T) true (backTo pos (starEach (e :: rest) env)) (backToKw pos (keywordEach kws env))) (fun a s₁ => wpAny M A (call (.type T) ([] ++ a.pos) a.kw) Q E s₁) E s := by
    rw [he] at h ⊢
    exact evalArgs_kwB ha h
  unfold callWith
  refine wpAny_bind (wpAny_holding (wpAny_mono h1 (fun a s₁ q => wpAny_bind (wpAny_standAt ?_)) fun _ _ x => x))
  simp only [hp, hk, Bool.or_false]
  exact wpAny_bind (wpAny_pure (wpAny_bind (wpAny_mono q (fun r s₂ hr => wpAny_bind (wpAny_holding (wpAny_point (wpAny_pure hr)))) fun _ _ x => x)))
def IteL (K : PySem.W.Frag) (c : Int) (a : Addr) : It :=
  ⟨fun i H => ∃ xs x, SqL K H a xs ∧ xs[i]? = some x, fun i H v H' => ∃ T x, v = .ref T ∧ H T = none ∧ H' = upd H T (.tup [.int (c + (i : Nat)), x]) ∧ ∀ xs, SqL K H a xs → xs[i]? = some x, fun i H => ∃ xs, SqL K H a xs ∧ xs.length ≤ i⟩
def IteT (K : PySem.W.Frag) (c : Int) (a : Addr) : It :=
  ⟨fun i H => ∃ xs x, SqT K H a xs ∧ xs[i]? = some x, fun i H v H' => ∃ T x, v = .ref T ∧ H T = none ∧ H' = upd H T (.tup [.int (c + (i : Nat)), x]) ∧ ∀ xs, SqT K H a xs → xs[i]? = some x, fun i H => ∃ xs, SqT K H a xs ∧ xs.length ≤ i⟩
/-- one turn of it, told by what its source draws -/
theorem enum_turn {elts : List Expr} {kk : Nat} {tpos : Pos} {X : Cx} {pins : List (Addr × Obj)} {s : Shared} {σ : L2.St} {H : Hp} {E : Value → Shared → Prop} {e it src : Addr} {n i : Nat} {c : Int} {x : V} {u old : Value} {P : Nat → Value → Prop} {S : Nat → Heap → Prop} {tn' : Heap → Prop} {y : V → Hp → Prop}
    (I : Inv X pins σ H s) (D : Draws X.prog X.w X.A.in1 it [it, src] n P S) (hf : ∀ b ∈ [e, it], FpOk X pins H b) (he : IsEnum s.heap e it (c + ((i : Nat) : Int)) old) (hst : S i s.heap) (hi : i < n) (hne : e ≠ it) (hns : e ≠ src)
    (hP : ∀ v, P i v → v = u) (ru : RelV x u) (hs : ∀ h, S (i + 1) h → ∃ o, h.get? it = some o) (hk : ∀ h h', S (i + 1) h → (∀ b o, b ≠ e → h.get? b = some o → h'.get? b = some o) → S (i + 1) h')
    (ht : ∀ h, (∃ old, IsEnum h e it (c + ((i + 1 : Nat) : Int)) old) → S (i + 1) h → tn' h) (hy : ∀ T, H T = none → y (.ref T) (upd H T (.tup [.int (c + (i : Nat)), x]))) :
    wpAny (model X.prog X.w) X.A (pyNext (.ref e)) (fun r s1 => ∃ v, r = some v ∧
      wpAny (model X.prog X.w) X.A (letOwnedTupleGo (.Tuple elts kk tpos) (.ref e) v) (fun _ s2 => ∃ x' H', Inv X pins σ H' s2 ∧ RelV x' v ∧ y x' H' ∧ tn' s2.heap ∧ ∀ b ∈ [e, it], H' b = none) E s1) E s := by
  have hel : e < s.heap.objs.size := Heap.lt_size he
  have hil : it < s.heap.objs.size := by obtain ⟨_, q⟩ := D.live _ _ hst; exact Heap.lt_size q
  refine wpAny_pyNext_enum_itemC D he hst hi hne (by simp [hne, hns]) fun v h' tk hv ho hs' hT hsz hb => ?_
  cases hP v hv
  refine ⟨_, rfl, wpAny_letOwnedTupleGo_enum (s := { s with heap := h', toks := tk + 1 }) ho fun h2 he2 sb => ?_⟩
  have hT2 : h2.get? s.heap.objs.size = some { cls := .type "tuple", data := .seq #[.int (c + (i : Nat)) tk, u] } := (sb.2 _ (Nat.ne_of_gt hel)).trans hT
  have new : ObjOk X.prog X.w (upd H s.heap.objs.size (.tup [.int (c + (i : Nat)), x])) h2 s.heap.objs.size (.tup [.int (c + (i : Nat)), x]) :=
    ⟨by show 2 ≤ sizeLine; decide, [.int (c + (i : Nat)) tk, u], .cons ⟨_, rfl⟩ (.cons ru .nil), ⟨_, hT2, rfl, _, rfl⟩⟩
  have I2 : Inv X pins σ (upd H s.heap.objs.size (.tup [.int (c + (i : Nat)), x])) { s with heap := h2, toks := tk + 1 } :=
    I.turnedNew (ch := [e, it]) (fun b ob hc q => (sb.2 b (fun z => hc (by simp [z]))).trans (hb b ob (fun z => hc (by simp [z])) (fun z => hc (by simp [z])) q)) hf (Nat.le_refl _) new
  refine ⟨.ref s.heap.objs.size, _, I2, rfl, hy _ (I.hok.fresh (Nat.le_refl _)), ht _ ⟨u, ?_⟩ (hk _ _ hs' fun b o ne q => (sb.2 b ne).trans q), fun b hm => ?_⟩
  · have e1 : c + ((i + 1 : Nat) : Int) = c + (i : Int) + 1 := by omega
    rw [e1]; exact he2
  · have hlt : b < s.heap.objs.size := by
      rcases List.mem_cons.mp hm with z | z
      · rw [z]; exact hel
      · rw [List.mem_singleton.mp z]; exact hil
    rw [upd_ne (Nat.ne_of_lt hlt)]
    exact (hf b hm).1
theorem isEnum_ne_seq {h : Heap} {e it a : Addr} {c : Int} {old : Value} {ob : Obj} {t : String} (he : IsEnum h e it c old) (hl : h.get? a = some ob) (hc : ob.cls = .type t) (ht : t ≠ "enumerate") : e ≠ a := fun z => by
  rw [← z, show h.get? e = _ from he] at hl
  cases hl
  exact ht (by injection hc with q; exact q.symm)
theorem turn_enumL {P : Program} {w : World} {K : PySem.W.Frag} {elts : List Expr} {kk : Nat} {tpos : Pos} (c : Int) (a e it : Addr) :
    Turn P w K (.Tuple elts kk tpos) (IteL K c a) [e, it] e (fun i h => (∃ old, IsEnum h e it (c + ((i : Nat) : Int)) old) ∧ h.IsListIter it a i ∧ e ≠ it) where
  mem := by simp
  obj := fun i h st b hb => by
    obtain ⟨⟨old, he⟩, ⟨o, ho, _, hd⟩, _⟩ := st
    rcases List.mem_cons.mp hb with z | z
    · rw [z]; exact ⟨_, he, fun v q => nomatch q⟩
    · rw [List.mem_singleton.mp z]; exact ⟨o, ho, fun v q => by rw [hd] at q; cases q⟩
  keep := fun i h h' st k => let ⟨⟨old, he⟩, hi, hne⟩ := st; ⟨⟨old, k e (by simp) _ he⟩, hi.at fun o q => k it (by simp) o q, hne⟩
  item := by
    intro X hP hw hK hc i pins s σ H E I hf st hg
    subst hP hw hK
    obtain ⟨⟨old, he⟩, hit, hne⟩ := st
    obtain ⟨xs, x, hq, hx⟩ := hg
    obtain ⟨its, rv, p, hz⟩ := I.list hq
    obtain ⟨u, hu, ru⟩ := rv.get hx
    obtain ⟨ol, hol, hcl, _⟩ := p.isList
    obtain ⟨oi, hoi, hci, _⟩ := id hit
    have hai : a ≠ it := fun z => by
      rw [z, hoi] at hol
      cases hol
      rw [hci] at hcl
      injection hcl with q; exact absurd q (by decide)
    have hi : i < its.toArray.size := by simpa using (List.getElem?_eq_some_iff.mp hu).1
    refine enum_turn (y := (IteL X.K c a).yld i H) (tn' := fun h => (∃ old, IsEnum h e it (c + ((i + 1 : Nat) : Int)) old) ∧ h.IsListIter it a (i + 1) ∧ e ≠ it) I (Draws.list (show X.A.in1.handled = none from I.ok.hd hc) it a hai its.toArray) hf he ⟨hit, p.isList⟩ hi hne (isEnum_ne_seq he hol hcl (by decide)) (u := u) (fun v hv => ?_) ru (fun h q => ?_) (fun h h' q k => ?_) (fun h q r => ⟨q, r.1, hne⟩) fun T hT => ⟨T, x, rfl, hT, rfl, fun ys hy => by rw [I.list_inj hy hq]; exact hx⟩
    · have hv' : its[i]? = some v := by simpa using hv
      rw [hu] at hv'; exact (Option.some.inj hv').symm
    · obtain ⟨o, ho, _⟩ := q.1; exact ⟨o, ho⟩
    · exact ⟨q.1.at fun o z => k _ o (Ne.symm hne) z, q.2.at fun o z => k _ o (isEnum_ne_seq he hol hcl (by decide)).symm z⟩
  done := by
    intro X hP hw hK hc i pins s σ H E I hf st hg
    subst hP hw hK
    obtain ⟨⟨old, he⟩, hit, hne⟩ := st
    obtain ⟨xs, hq, hx⟩ := hg
    obtain ⟨its, rv, p, hz⟩ := I.list hq
    obtain ⟨f0, f1, f2, f3, f4, f5⟩ := hf it (by simp)
    have hl := rv.length
    have hT : s.TypeIs (.ref e) "enumerate" := ⟨_, he, rfl⟩
    unfold pyNext
    refine wpAny_bind (wpAny_attempt (wpAny_callSpecial?_slot (name := Str.ofString "__next__") hT F.slot_enumerate_next
      (wpAny_call_entry F.slot_enumerate_next hT F.entry_enumerate_next ?_ (F.args_enumerate_next_1 _))))
    show wpAny _ _ (field (.ref e) 2 >>= _) _ _ _
    refine wpAny_bind (wpAny_field he rfl (x := .ref it) rfl ?_)
    refine wpAny_bind (wpAny_nextOf_list_end (I.ok.hd hc) hit p.isList (by simp; omega) fun h' x eb hx' => ?_)
    obtain ⟨o, ho, hcs⟩ := hx'
    refine wpAny_bind (wpAny_isInstance (T := "StopIteration") (b := true) ⟨o, ho, hcs⟩ isSubtype_stop ?_)
    exact wpAny_pure ⟨rfl, I.turned (t' := s.toks) (fun b o hb q => eb b o hb q) f0 f1 f3 f4 f5⟩
  self := fun A i s Q E st h => let ⟨⟨_, he⟩, _⟩ := st; wpAny_pyIter_enum he h
theorem turn_enumT {P : Program} {w : World} {K : PySem.W.Frag} {elts : List Expr} {kk : Nat} {tpos : Pos} (c : Int) (a e it : Addr) :
    Turn P w K (.Tuple elts kk tpos) (IteT K c a) [e, it] e (fun i h => (∃ old, IsEnum h e it (c + ((i : Nat) : Int)) old) ∧ h.IsTupleIter it a i ∧ e ≠ it) where
  mem := by simp
  obj := fun i h st b hb => by
    obtain ⟨⟨old, he⟩, ⟨o, ho, _, hd⟩, _⟩ := st
    rcases List.mem_cons.mp hb with z | z
    · rw [z]; exact ⟨_, he, fun v q => nomatch q⟩
    · rw [List.mem_singleton.mp z]; exact ⟨o, ho, fun v q => by rw [hd] at q; cases q⟩
  keep := fun i h h' st k => let ⟨⟨old, he⟩, hi, hne⟩ := st; ⟨⟨old, k e (by simp) _ he⟩, hi.at fun o q => k it (by simp) o q, hne⟩
  item := by
    intro X hP hw hK hc i pins s σ H E I hf st hg
    subst hP hw hK
    obtain ⟨⟨old, he⟩, hit, hne⟩ := st
    obtain ⟨xs, x, hq, hx⟩ := hg
    obtain ⟨its, rv, p, hz⟩ := I.tuple hq
    obtain ⟨u, hu, ru⟩ := rv.get hx
    have p' : s.heap.IsTuple a its.toArray := p
    obtain ⟨ol, hol, hcl, _⟩ := id p'
    obtain ⟨oi, hoi, hci, _⟩ := id hit
    have hai : a ≠ it := fun z => by
      rw [z, hoi] at hol
      cases hol
      rw [hci] at hcl
      injection hcl with q; exact absurd q (by decide)
    have hi : i < its.toArray.size := by simpa using (List.getElem?_eq_some_iff.mp hu).1
    refine enum_turn (y := (IteT X.K c a).yld i H) (tn' := fun h => (∃ old, IsEnum h e it (c + ((i + 1 : Nat) : Int)) old) ∧ h.IsTupleIter it a (i + 1) ∧ e ≠ it) I (Draws.tuple (show X.A.in1.handled = none from I.ok.hd hc) it a hai its.toArray) hf he ⟨hit, p'⟩ hi hne (isEnum_ne_seq he hol hcl (by decide)) (u := u) (fun v hv => ?_) ru (fun h q => ?_) (fun h h' q k => ?_) (fun h q r => ⟨q, r.1, hne⟩) fun T hT => ⟨T, x, rfl, hT, rfl, fun ys hy => by rw [I.tuple_inj hy hq]; exact hx⟩
    · have hv' : its[i]? = some v := by simpa using hv
      rw [hu] at hv'; exact (Option.some.inj hv').symm
    · obtain ⟨o, ho, _⟩ := q.1; exact ⟨o, ho⟩
    · exact ⟨q.1.at fun o z => k _ o (Ne.symm hne) z, q.2.at fun o z => k _ o (isEnum_ne_seq he hol hcl (by decide)).symm z⟩
  done := by
    intro X hP hw hK hc i pins s σ H E I hf st hg
    subst hP hw hK
    obtain ⟨⟨old, he⟩, hit, hne⟩ := st
    obtain ⟨xs, hq, hx⟩ := hg
    obtain ⟨its, rv, p, hz⟩ := I.tuple hq
    have p' : s.heap.IsTuple a its.toArray := p
    obtain ⟨f0, f1, f2, f3, f4, f5⟩ := hf it (by simp)
    have hl := rv.length
    have hT : s.TypeIs (.ref e) "enumerate" := ⟨_, he, rfl⟩
    unfold pyNext
    refine wpAny_bind (wpAny_attempt (wpAny_callSpecial?_slot (name := Str.ofString "__next__") hT F.slot_enumerate_next
      (wpAny_call_entry F.slot_enumerate_next hT F.entry_enumerate_next ?_ (F.args_enumerate_next_1 _))))
    show wpAny _ _ (field (.ref e) 2 >>= _) _ _ _
    refine wpAny_bind (wpAny_field he rfl (x := .ref it) rfl ?_)
    refine wpAny_bind (wpAny_nextOf_tuple_end (I.ok.hd hc) hit p' (by simp; omega) fun h' x eb hx' => ?_)
    obtain ⟨o, ho, hcs⟩ := hx'
    refine wpAny_bind (wpAny_isInstance (T := "StopIteration") (b := true) ⟨o, ho, hcs⟩ isSubtype_stop ?_)
    exact wpAny_pure ⟨rfl, I.turned (t' := s.toks) (fun b o hb q => eb b o hb q) f0 f1 f3 f4 f5⟩
  self := fun A i s Q E st h => let ⟨⟨_, he⟩, _⟩ := st; wpAny_pyIter_enum he h
/-- its two new cells are nobody's -/
theorem fp_two {X : Cx} {pins : List (Addr × Obj)} {σ : L2.St} {H : Hp} {s : Shared} (I : Inv X pins σ H s) : ∀ b ∈ [s.heap.objs.size + 1, s.heap.objs.size], FpOk X pins H b := fun b hb => by
  have hle : s.heap.objs.size ≤ b := by
    rcases List.mem_cons.mp hb with z | z
    · rw [z]; exact Nat.le_add_right _ _
    · rw [List.mem_singleton.mp z]; exact Nat.le_refl _
  exact I.fpOk hle (I.hok.fresh hle)
/-- enumerate(list, start=k) -/
def iEnumS (K : PySem.W.Frag) (ta tk : TA) : TI := fun σ H R => ta σ H fun vs H1 => tk σ H1 fun zs H2 => ∃ a xs c, vs = [.ref a] ∧ zs = [.int c] ∧ -(2 ^ 63) ≤ c ∧ c < 2 ^ 63 ∧ SqL K H2 a xs ∧ R (IteL K c a) H2
theorem pi_enumS {X : Cx} {e : Expr} {ta tk : TA} {kws : List Keyword} {p pos tpos : Pos} {elts : List Expr} {kk : Nat} (hg : Gl X "enumerate") (hm : X.mg "enumerate" = none) (ha : PA X [e] ta) (hk : PK X kws tk)
    (he : backTo pos (starEach [e] X.env) = (false, eval e X.env) :: backTo pos (starEach [] X.env) := by rfl) (hp : (backTo pos (starEach [e] X.env)).any (·.1) = false := by rfl)
    (hal : (backToKw pos (keywordEach kws X.env)).all (·.1.isSome) = true := by rfl) (hn : (backToKw pos (keywordEach kws X.env)).any (·.1.isNone) = false := by rfl) (hks : (backToKw pos (keywordEach kws X.env)).filterMap (·.1) = [Str.ofString "start"] := by rfl) :
    PI X (.Tuple elts kk tpos) (.Call (.Name "enumerate" p) [e] kws pos) (iEnumS X.K ta tk) := by
  refine ⟨fun pins s σ H R I h => ?_⟩
  refine wpAny_Call_Name_kw (ld_blt I hg hm boot_enumerate ?_)
  refine callWith_tyK (thn (ha.run pos pins s σ H _ I h) fun us s1 ⟨vs, H1, I1, r1, q1⟩ => thn (hk.run pos pins s1 σ H1 _ I1 q1) fun ws s2 ⟨zs, H2, I2, r2, q2⟩ => ?_) he hp hal hn
  rw [hks]
  obtain ⟨a, xs, c, ex, ez, c0, c1, hq, q⟩ := q2
  subst ex ez
  cases r1 with
  | cons r rr =>
    cases rr
    cases r
    cases r2 with
    | cons r' rr' =>
      cases rr'
      obtain ⟨t, rfl⟩ := r'
      obtain ⟨its, rv, p', hz⟩ := I2.list hq
      refine enum_begins_start (begins_list a its.toArray) p'.isList c0 c1 fun h' he' hit hsz hkeep => wpAny_pyIter_enum he' ?_
      have I3 : Inv X pins σ H2 { s2 with heap := h' } := I2.kept (t' := s2.toks) hkeep
      refine ⟨s2.heap.objs.size + 1, [s2.heap.objs.size + 1, s2.heap.objs.size], _, _, H2, rfl, I3, turn_enumL c a (s2.heap.objs.size + 1) s2.heap.objs.size, ⟨⟨.none, ?_⟩, ⟨_, hit, rfl, rfl⟩, Nat.succ_ne_self _⟩, fp_two I2, q⟩
      show IsEnum h' _ _ (c + ((0 : Nat) : Int)) _
      rw [show c + ((0 : Nat) : Int) = c by omega]
      exact he'
/-- enumerate(v), whatever v's iterator is -/
theorem enum_new1 {v : Value} {o : Obj} {G : Heap → Prop} (B : Begins v o G) : Meets (Builtin.«enumerate.__new__» ⟨[.type "enumerate", v], []⟩) (fun _ R s => G s.heap ∧ R (.ok (.ret (.ref (s.heap.push o).objs.size)))
    { s with heap := (s.heap.push o).push { cls := .type "enumerate", data := .fields #[.none, .bool false, .ref s.heap.objs.size, rawInt 0, .none, .none] } }) := by
  refine .of_wp fun prog w A R s hh => ?_
  obtain ⟨hp, g, d, tk, os⟩ := s
  obtain ⟨hG, hR⟩ := hh
  have hsub := sub_enumerate
  have it1 : ∀ {A' : Around} {E Q : Value → Shared → Prop}, Q (.ref hp.objs.size) ⟨hp.push o, g, d, tk, os⟩ → wpAny (model prog w) A' (pyIter v) Q E ⟨hp, g, d, tk, os⟩ := fun q => B.iter prog w _ _ ⟨hp, g, d, tk, os⟩ _ hG q
  wp_walk using it1
  refine wpAny_stack_any fun st => wpAny_pure ?_
  split
  · rename_i c _ _ _ _ _
    cases (c == Value.type "enumerate") <;> (wp_walk using it1; exact ⟨_, rfl, hR⟩)
  · wp_walk using it1
    exact ⟨_, rfl, hR⟩
theorem enum_begins1 {prog : Program} {w : World} {A : Around} {E : Value → Shared → Prop} {s : Shared} {v : Value} {o : Obj} {G : Heap → Prop} {Q : Value → Shared → Prop} (B : Begins v o G) (hG : G s.heap)
    (k : ∀ h', IsEnum h' (s.heap.objs.size + 1) s.heap.objs.size 0 .none → h'.get? s.heap.objs.size = some o → h'.objs.size = s.heap.objs.size + 2 → (∀ b o, s.heap.get? b = some o → h'.get? b = some o) → Q (.ref (s.heap.objs.size + 1)) { s with heap := h' }) :
    wpAny (model prog w) A (call (.type "enumerate") [v]) Q E s := by
  refine callType_new F.called_enumerate (by decide) (F.typeCall_enumerate_1 _) (F.newCall_enumerate_1 _) (fun obj => F.args_object_init_2 obj _) F.entry_enumerate_new (enum_new1 B) ⟨hG, ?_⟩
  have e1 : (s.heap.push o).objs.size = s.heap.objs.size + 1 := Heap.size_push ..
  show _ ∧ _
  rw [e1]
  have e2 := Heap.get?_push_size (s.heap.push o) (o := { cls := .type "enumerate", data := .fields #[.none, .bool false, .ref s.heap.objs.size, rawInt 0, .none, .none] }) rfl
  rw [e1] at e2
  exact ⟨⟨_, e2, rfl⟩, k _ e2 (Heap.get?_push_of_some _ (Heap.get?_push_size _ B.free)) (by rw [Heap.size_push, e1]) fun b o q => Heap.get?_push_of_some _ (Heap.get?_push_of_some _ q)⟩
/-- enumerate(tuple) -/
def iEnumT (K : PySem.W.Frag) (ta : TA) : TI := fun σ H R => ta σ H fun vs H1 => ∃ a xs, vs = [.ref a] ∧ SqT K H1 a xs ∧ R (IteT K 0 a) H1
theorem pi_enumT {X : Cx} {e : Expr} {ta : TA} {p pos tpos : Pos} {elts : List Expr} {kk : Nat} (hg : Gl X "enumerate") (hm : X.mg "enumerate" = none) (ha : PA X [e] ta) (hs : starEach [e] X.env = [(false, eval e X.env)] := by rfl) :
    PI X (.Tuple elts kk tpos) (.Call (.Name "enumerate" p) [e] [] pos) (iEnumT X.K ta) := by
  refine ⟨fun pins s σ H R I h => ?_⟩
  refine Call_ (ld_blt I hg hm boot_enumerate (PyProof.Rows.callWith_type1 (thn (ha.run pos pins s σ H _ I h) fun us s1 ⟨vs, H1, I1, r1, q1⟩ => ?_) hs rfl))
  obtain ⟨a, xs, ex, hq, q⟩ := q1
  subst ex
  cases r1 with
  | cons r rr =>
    cases rr
    cases r
    obtain ⟨its, rv, p', hz⟩ := I1.tuple hq
    refine enum_begins1 (begins_tuple a its.toArray) (show s1.heap.IsTuple a its.toArray from p') fun h' he' hit hsz hkeep => wpAny_pyIter_enum he' ?_
    have I3 : Inv X pins σ H1 { s1 with heap := h' } := I1.kept (t' := s1.toks) hkeep
    exact ⟨s1.heap.objs.size + 1, [s1.heap.objs.size + 1, s1.heap.objs.size], _, _, H1, rfl, I3, turn_enumT 0 a (s1.heap.objs.size + 1) s1.heap.objs.size, ⟨⟨.none, he'⟩, ⟨_, hit, rfl, rfl⟩, Nat.succ_ne_self _⟩, fp_two I1, q⟩

section
variable {W : Wd} {K : PySem.W.Frag} {H H1 : Hp} {σ : L2.St} {D : Ends} {Q : VK} {v x y : V} {i j c : Int} {n m : Nat} {s z : Str} {b : Bool} {p a : Addr} {xs ys vs : List V}
variable {ta tb te : TE} {t u : TS} {tr tk : TA} {g : TG} {tS : TS}
/-! ### loops over anything that is walked -/
def FoW (J : It) (g : TG) (tb : TS) (D : Ends) (σ : L2.St) (H : Hp) : Prop := ∃ W : Nat → Nat → L2.St → Hp → Prop, (∃ m, W 0 m σ H) ∧ ∀ i m σ H, W i m σ H →
  (J.stop i H ∧ D.nx σ H) ∨ (J.go i H ∧ ∃ N : L2.St → Hp → Prop, (∀ σ' H', N σ' H' → ∃ m', m' < m ∧ W (i + 1) m' σ' H') ∧ ∀ x H', J.yld i H x H' → g x σ H' fun σ2 H2 => tb { D with nx := N, ct := N, bk := D.nx } σ2 H2)
theorem rd_forS (h : te σ H fun v H1 => ∃ x, v = .str x ∧ FoW (Its x) g tS D σ H1) : tFor (iStr te) g tS D σ H := h
theorem rd_srcS {P : Str → Prop} (k : P s) : ∃ x, V.str s = .str x ∧ P x := ⟨s, rfl, k⟩
theorem rd_forT (h : te σ H fun x H1 => ∃ a, x = .ref a ∧ (∃ xs, SqT K H1 a xs) ∧ FoW (Itt K a) g tS D σ H1) : tFor (iTup K te) g tS D σ H := h
theorem rd_srcT {P : Addr → Prop} (h : At W H a (.tup xs)) (k : P a) : ∃ a', V.ref a = .ref a' ∧ (∃ xs, SqT K H a' xs) ∧ P a' := ⟨a, rfl, ⟨xs, h.st⟩, k⟩
theorem rd_forE (h : tr σ H fun vs H1 => tk σ H1 fun zs H2 => ∃ a xs c, vs = [.ref a] ∧ zs = [.int c] ∧ -(2 ^ 63) ≤ c ∧ c < 2 ^ 63 ∧ SqL K H2 a xs ∧ FoW (IteL K c a) g tS D σ H2) : tFor (iEnumS K tr tk) g tS D σ H := h
theorem rd_srcE {P : Addr → Int → Prop} (h : At W H a (.lst xs)) (c0 : -(2 ^ 63) ≤ c) (c1 : c < 2 ^ 63) (k : P a c) : ∃ a' xs c', [V.ref a] = [.ref a'] ∧ [V.int c] = [.int c'] ∧ -(2 ^ 63) ≤ c' ∧ c' < 2 ^ 63 ∧ SqL K H a' xs ∧ P a' c' := ⟨a, xs, c, rfl, rfl, c0, c1, h.sl, k⟩
theorem rd_forET (h : tr σ H fun vs H1 => ∃ a xs, vs = [.ref a] ∧ SqT K H1 a xs ∧ FoW (IteT K 0 a) g tS D σ H1) : tFor (iEnumT K tr) g tS D σ H := h
theorem rd_srcET {P : Addr → Prop} (h : SqT K H a xs) (k : P a) : ∃ a' xs, [V.ref a] = [.ref a'] ∧ SqT K H a' xs ∧ P a' := ⟨a, xs, rfl, h, k⟩
theorem for_s (Pv : Nat → L2.St → Hp → Prop) (h0 : Pv 0 σ H) (hs : ∀ i c σ H, s.cps[i]? = some c → Pv i σ H → g (.str ⟨#[c]⟩) σ H fun σ2 H2 => tS { D with nx := Pv (i + 1), ct := Pv (i + 1), bk := D.nx } σ2 H2) (hd : ∀ σ H, Pv s.cps.size σ H → D.nx σ H) : FoW (Its s) g tS D σ H :=
  for_it walk_str Pv h0 (fun _ _ _ _ _ => trivial) (fun i x σ H H' hi p y => by
    obtain ⟨rfl, c, hc, rfl⟩ := y
    exact hs i c σ _ hc p) hd
theorem walk_enumL : Walk (IteL K c a) xs.length (fun H => SqL K H a xs) (YPair (fun i => some (.int (c + (i : Nat)))) (fun i => xs[i]?)) := by
  refine ⟨fun i _ hi q => ⟨xs, xs[i], q, by simp [hi]⟩, fun _ q => ⟨xs, q, Nat.le_refl _⟩, fun i H v H' _ q y => ?_⟩
  obtain ⟨T, x, h1, h2, h3, h4⟩ := y
  exact ⟨T, _, x, h1, h2, h3, rfl, h4 xs q⟩
theorem walk_enumT : Walk (IteT K c a) xs.length (fun H => SqT K H a xs) (YPair (fun i => some (.int (c + (i : Nat)))) (fun i => xs[i]?)) := by
  refine ⟨fun i _ hi q => ⟨xs, xs[i], q, by simp [hi]⟩, fun _ q => ⟨xs, q, Nat.le_refl _⟩, fun i H v H' _ q y => ?_⟩
  obtain ⟨T, x, h1, h2, h3, h4⟩ := y
  exact ⟨T, _, x, h1, h2, h3, rfl, h4 xs q⟩
theorem for_e (Pv : Nat → L2.St → Hp → Prop) (h0 : Pv 0 σ H) (hv : ∀ i σ H, Pv i σ H → W.iv H ∧ At W H a (.lst xs))
    (hs : ∀ i x T σ H H', xs[i]? = some x → Pv i σ H → H T = none → Ex W H H' → At W H' T (.tup [.int (c + (i : Nat)), x]) → g (.ref T) σ H' fun σ2 H2 => tS { D with nx := Pv (i + 1), ct := Pv (i + 1), bk := D.nx } σ2 H2)
    (hd : ∀ σ H, Pv xs.length σ H → D.nx σ H) : FoW (IteL K c a) g tS D σ H :=
  for_it (walk_enumL (xs := xs)) Pv h0 (fun i σ H _ p => (hv i σ H p).2.sl) (fun i x σ H H' hi p y => by
    obtain ⟨T, x1, x2, rfl, hT, rfl, e1, e2⟩ := y
    cases e1
    exact hs i x2 T σ H _ e2 p hT (Ex.new (hv i σ H p).1 hT) (At.new (hv i σ H p).1 hT)) hd
theorem for_et (hq : ∀ H, SqT K H a xs) (Pv : Nat → L2.St → Hp → Prop) (h0 : Pv 0 σ H) (hv : ∀ i σ H, Pv i σ H → W.iv H)
    (hs : ∀ i x T σ H H', xs[i]? = some x → Pv i σ H → H T = none → Ex W H H' → At W H' T (.tup [.int (c + (i : Nat)), x]) → g (.ref T) σ H' fun σ2 H2 => tS { D with nx := Pv (i + 1), ct := Pv (i + 1), bk := D.nx } σ2 H2)
    (hd : ∀ σ H, Pv xs.length σ H → D.nx σ H) : FoW (IteT K c a) g tS D σ H :=
  for_it (walk_enumT (xs := xs)) Pv h0 (fun i σ H _ p => hq H) (fun i x σ H H' hi p y => by
    obtain ⟨T, x1, x2, rfl, hT, rfl, e1, e2⟩ := y
    cases e1
    exact hs i x2 T σ H _ e2 p hT (Ex.new (hv i σ H p) hT) (At.new (hv i σ H p) hT)) hd
/-! ### comprehensions over anything that is walked: S is what holds of the items made (without the new list) -/
def LcW (J : It) (g : TG) (tt : TT) (te : TE) (ws : List Nat) (σ : L2.St) (H1 : Hp) (Q : VK) : Prop := ∀ D, H1 D = none → ∃ W : Nat → Nat → Hp → Prop, (∃ m, W 0 m (upd H1 D (.lst []))) ∧ ∀ i m H, W i m H →
  (J.stop i H ∧ Q (.ref D) H) ∨ (J.go i H ∧ ∃ Nx : Hp → Prop, (∀ H', Nx H' → ∃ m', m' < m ∧ W (i + 1) m' H') ∧ ∀ x H', J.yld i H x H' → g x (wipe σ ws) H' fun σ2 H2 => wipe σ2 ws = wipe σ ws ∧ tt σ2 H2 fun b H3 =>
    if b = true then te σ2 H3 fun y H4 => ∃ acc, H4 D = some (.lst acc) ∧ acc.length < sizeLine ∧ Nx (upd H4 D (.lst (acc ++ [y]))) else Nx H3)
theorem rd_lcS {tt : TT} {ws : List Nat} (h : ta σ H fun v H1 => ∃ x, v = .str x ∧ LcW (Its x) g tt te ws σ H1 Q) : tLc (iStr ta) g tt te ws σ H Q := h
theorem rd_lcR {tt : TT} {ws : List Nat} (h : tr σ H fun vs H1 => ∃ j : Int, vs = [.int j] ∧ -(2 ^ 62) ≤ j ∧ j < 2 ^ 62 ∧ LcW (Itr 0 j.toNat) g tt te ws σ H1 Q) : tLc (iRng1 tr) g tt te ws σ H Q := h
theorem rd_srcR {P : Int → Prop} (h1 : -(2 ^ 62) ≤ j) (h2 : j < 2 ^ 62) (k : P j) : ∃ j' : Int, [V.int j] = [V.int j'] ∧ -(2 ^ 62) ≤ j' ∧ j' < 2 ^ 62 ∧ P j' := ⟨j, rfl, h1, h2, k⟩
theorem rd_lcL {tt : TT} {ws : List Nat} (h : ta σ H fun x H1 => ∃ a, x = .ref a ∧ (∃ xs, SqL K H1 a xs) ∧ LcW (Itl K a) g tt te ws σ H1 Q) : tLc (iList K ta) g tt te ws σ H Q := h
theorem rd_srcL {P : Addr → Prop} (h : At W H a (.lst xs)) (k : P a) : ∃ a', V.ref a = .ref a' ∧ (∃ xs, SqL K H a' xs) ∧ P a' := ⟨a, rfl, ⟨xs, h.sl⟩, k⟩
theorem hide_none {D : Addr} (h : H D = none) : Lw.hide D H = H := by
  funext q
  unfold Lw.hide
  split
  · rename_i e; rw [e, h]
  · rfl
theorem lc_w {J : It} {G : Hp → Prop} {X : Nat → V → Prop} {tt : TT} (w : Walk J n G fun i H x H' => H' = H ∧ X i x) (S : Nat → List V → Hp → Prop) (i : W.iv H) (hn : n ≤ 50000) (hG : ∀ H', Ex W H H' → G H')
    (hm : ∀ k ys H1 H2, Ex W H1 H2 → S k ys H1 → S k ys H2) (h0 : S 0 [] H)
    (hs : ∀ k x D ys H' (QV : VK) (QN : Hp → Prop), k < n → X k x → H D = none → At W H' D (.lst ys) → Ex W H H' → S k ys (Lw.hide D H') → ys.length ≤ k →
      (∀ y H4, Ex W H' H4 → S (k + 1) (ys ++ [y]) (Lw.hide D H4) → QV y H4) → (∀ H3, Ex W H' H3 → S (k + 1) ys (Lw.hide D H3) → QN H3) →
      tt ((wipe σ [m]).set m (some x)) H' fun b H3 => if b = true then te ((wipe σ [m]).set m (some x)) H3 QV else QN H3)
    (k : ∀ D H2 ys, H D = none → Ex W H H2 → At W H2 D (.lst ys) → S n ys H2 → ys.length ≤ n → Q (.ref D) H2) : LcW J (gName m) tt te [m] σ H Q := by
  intro D hD
  refine lc_it w (fun k H' => ∃ ys, Ex W H H' ∧ At W H' D (.lst ys) ∧ S k ys (Lw.hide D H') ∧ ys.length ≤ k) ⟨[], Ex.new i hD, At.new i hD, ?_, Nat.le_refl _⟩ (fun k H' _ ⟨_, e, _⟩ => hG H' e) (fun k x H1 H' hk ⟨ys, e, hd, hS, hl⟩ hx => ?_) fun H' ⟨ys, e, hd, hS, hl⟩ => ?_
  · rw [hide_upd, hide_none hD]; exact h0
  · obtain ⟨rfl, hx⟩ := hx
    refine ⟨by show wipe _ _ = _; simp [wipe, List.set_set], ?_⟩
    refine hs k x D ys _ _ _ hk hx hD hd e hS hl (fun y H4 e4 q => ⟨ys, (e4.at_ hd).1, sz_lt (by omega), ys ++ [y], (e.trans e4).mut hD (e4.at_ hd), At.mut e4.iv (e4.at_ hd), ?_, by rw [List.length_append, List.length_singleton]; omega⟩) fun H3 e3 q => ⟨ys, e.trans e3, e3.at_ hd, q, by omega⟩
    rw [hide_upd]; exact q
  · exact k D H' ys hD e hd (hm _ _ _ _ (Ex.unhide e.iv hd) hS) hl
theorem rd_yes {QB : Bool → Hp → Prop} (h : QB true H) : tYes σ H QB := h
/-! ### dicts with ints or texts as keys -/
theorem rd_dnew (i : W.iv H) (k : ∀ p H2, H p = none → Ex W H H2 → At W H2 p (.dK []) → Q (.ref p) H2) : tDNewK σ H Q := new_of i k
def DGetG (Q : VK) (a : Addr) (y : V) (H : Hp) : Prop := ∃ o, DGet H a y o ∧ Q (o.getD .non) H
def DInG (Q : VK) (neg : Bool) (x y : V) (H : Hp) : Prop := ∃ a o, x = .ref a ∧ DGet H a y o ∧ Q (.bl (if neg then !o.isSome else o.isSome)) H
def DSetG (Q : VK) (a : Addr) (y z : V) (H : Hp) : Prop := ∃ (kvs : List (Key × V)) (k : Key), H a = some (.dK kvs) ∧ y = kV k ∧ kvs.length < sizeLine ∧ (∀ v, valV kvs k = some v → Q v H) ∧ (valV kvs k = none → Q z (upd H a (.dK (putK kvs k z))))
theorem rd_dget1 (h : ta σ H fun x H1 => ∃ a, x = .ref a ∧ IsD H1 a ∧ te σ H1 fun y H2 => DGetG Q a y H2) : tDGet1 ta te σ H Q := h
theorem rd_isD {kvs : List (Key × V)} {P : Addr → Prop} (h : At W H a (.dK kvs)) (k : P a) : ∃ a', V.ref a = .ref a' ∧ IsD H a' ∧ P a' := ⟨a, rfl, .inl ⟨kvs, .inl h.1⟩, k⟩
theorem rd_dgetS {kvs : List (Key × V)} (h : At W H a (.dK kvs)) (k : Q ((valV kvs (.inr z)).getD .non) H) : DGetG Q a (.str z) H := ⟨_, DGet.k (k := .inr z) h.1, k⟩
theorem rd_din (h : ta σ H fun y H1 => te σ H1 fun x H2 => DInG Q false x y H2) : tDIn ta te σ H Q := h
theorem rd_dnin (h : ta σ H fun y H1 => te σ H1 fun x H2 => DInG Q true x y H2) : tDNotIn ta te σ H Q := h
theorem rd_dinS {kvs : List (Key × V)} (h : At W H a (.dK kvs)) (k : Q (.bl (valV kvs (.inr z)).isSome) H) : DInG Q false (.ref a) (.str z) H := ⟨a, _, rfl, DGet.k (k := .inr z) h.1, k⟩
theorem rd_dput {tv : TE} (h : tv σ H fun v H1 => ta σ H1 fun x H2 => te σ H2 fun y H3 => ∃ a H4, x = .ref a ∧ DPut H3 a y v H4 ∧ D.nx σ H4) : sDPut ta te tv D σ H := h
theorem rd_dputS {kvs : List (Key × V)} {H0 : Hp} {P : Hp → Prop} (e : Ex W H0 H) (h0 : H0 a = none) (h : At W H a (.dK kvs)) (hl : kvs.length < 1000000) (k : ∀ H2, Ex W H0 H2 → At W H2 a (.dK (putK kvs (.inr z) v)) → (∀ q o, q ≠ a → At W H q o → At W H2 q o) → P H2) :
    ∃ a' H4, V.ref a = .ref a' ∧ DPut H a' (.str z) v H4 ∧ P H4 := ⟨a, _, rfl, DPut.k (k := .inr z) h.1 (sz_lt hl), k _ (e.mut h0 h) (.mut e.iv h) fun _ _ ne q => .other e.iv h q ne⟩
theorem rd_dsetd {tx : TE} (h : ta σ H fun x H1 => ∃ a, x = .ref a ∧ IsD H1 a ∧ te σ H1 fun y H2 => tx σ H2 fun z H3 => DSetG Q a y z H3) : tDSetd ta te tx σ H Q := h
theorem rd_dsetN {kvs : List (Key × V)} {H0 : Hp} (e : Ex W H0 H) (h0 : H0 a = none) (h : At W H a (.dK kvs)) (hl : kvs.length < 1000000) (hn : valV kvs (.inr z) = none) (k : ∀ H2, Ex W H0 H2 → At W H2 a (.dK (putK kvs (.inr z) v)) → (∀ q o, q ≠ a → At W H q o → At W H2 q o) → Q v H2) :
    DSetG Q a (.str z) v H := ⟨kvs, .inr z, h.1, rfl, sz_lt hl, fun v q => (by rw [hn] at q; cases q), fun _ => k _ (e.mut h0 h) (.mut e.iv h) fun _ _ ne q => .other e.iv h q ne⟩
/-! ### texts -/
section
variable {X : Cx}
def rEndsS : V → List V → Hp → VK → Prop := fun x xs H Q => ∃ a b, x = .str a ∧ xs = [.str b] ∧ Q (.bl (Txt.endswith a b)) H
theorem m_endswith : MtR X "str.endswith" rEndsS := mt_endswith
def rStartsS : V → List V → Hp → VK → Prop := fun x xs H Q => ∃ a b, x = .str a ∧ xs = [.str b] ∧ Q (.bl (Txt.startswith a b)) H
theorem m_startswith : MtR X "str.startswith" rStartsS := mt_startswith
def rFindS : V → List V → Hp → VK → Prop := fun x xs H Q => ∃ a b, x = .str a ∧ xs = [.str b] ∧ Q (.int (Txt.find a b)) H
theorem m_find : MtR X "str.find" rFindS := mt_find
def rSplitS : V → List V → Hp → VK → Prop := fun x xs H Q => ∃ a b, x = .str a ∧ xs = [.str b] ∧ (b.length == 0) = false ∧ a.length + 2 ≤ sizeLine ∧ rNewStrs (Txt.split a b) H Q
theorem m_split : MtR X "str.split" rSplitS := mt_split
def rInSg : R2 := fun x y H Q => ∃ (c : Nat) (z : Str), x = .str ⟨#[c]⟩ ∧ y = .str z ∧ Q (.bl (decide (c ∈ z.cps.toList))) H
theorem o_inSg : OpR X (compareOp .In) rInSg := op_in_sign
def rNinSg : R2 := fun x y H Q => ∃ (c : Nat) (z : Str), x = .str ⟨#[c]⟩ ∧ y = .str z ∧ Q (.bl (!decide (c ∈ z.cps.toList))) H
theorem o_ninSg : OpR X (compareOp .NotIn) rNinSg := op_notIn_sign
def rStrB : List V → Hp → VK → Prop := fun xs H Q => (∃ i, xs = [.int i] ∧ i.natAbs.log2 < 1920 ∧ Q (.str (toString i)) H) ∨ ∃ a, xs = [.str a] ∧ Q (.str a) H
theorem c_strB : CallR X (.type "str") rStrB := by
  intro pins s σ H xs us Q I rs h
  rcases h with ⟨i, e, h1, q⟩ | ⟨a, e, q⟩
  · exact call_str_int pins s σ H xs us Q I rs ⟨i, e, h1, q⟩
  · exact SkE.call_str_str pins s σ H xs us Q I rs ⟨a, e, q⟩
end
theorem rd_ends (k : Q (.bl (Txt.endswith s z)) H) : rEndsS (.str s) [.str z] H Q := ⟨_, _, rfl, rfl, k⟩
theorem rd_starts (k : Q (.bl (Txt.startswith s z)) H) : rStartsS (.str s) [.str z] H Q := ⟨_, _, rfl, rfl, k⟩
theorem rd_find (k : Q (.int (Txt.find s z)) H) : rFindS (.str s) [.str z] H Q := ⟨_, _, rfl, rfl, k⟩
theorem rd_split (i : W.iv H) (hz : (z.length == 0) = false) (h : s.length ≤ 1000000) (k : ∀ p H2, H p = none → Ex W H H2 → At W H2 p (.lst ((Txt.split s z).map V.str)) → Q (.ref p) H2) : rSplitS (.str s) [.str z] H Q :=
  ⟨_, _, rfl, rfl, hz, Nat.le_trans (Nat.add_le_add_right h 2) (by decide), new_of i k⟩
theorem rd_tyS {P : Prop} (k : P) : tyV K "str" (.str s) H ∧ P := ⟨rfl, k⟩
theorem rd_slS {lo hi : Option Int} (h : z.length ≤ 1000000) (k : Q (.str (cutS z lo hi)) H) : rSlS (.str z) lo hi H Q := ⟨z, rfl, sz_le h, k⟩
theorem rd_ixS {c : Nat} (h : z.length ≤ 1000000) (e : atI z.cps.toList i = some c) (k : Q (.str ⟨#[c]⟩) H) : rIxS (.str z) (.int i) H Q := ⟨z, i, c, rfl, rfl, sz_le h, e, k⟩
theorem rd_inSg {c : Nat} (k : Q (.bl (decide (c ∈ z.cps.toList))) H) : rInSg (.str ⟨#[c]⟩) (.str z) H Q := ⟨c, z, rfl, rfl, k⟩
theorem rd_ninSg {c : Nat} (k : Q (.bl (!decide (c ∈ z.cps.toList))) H) : rNinSg (.str ⟨#[c]⟩) (.str z) H Q := ⟨c, z, rfl, rfl, k⟩
theorem rd_strI (h : i.natAbs.log2 < 1920) (k : Q (.str (toString i)) H) : rStrB [.int i] H Q := .inl ⟨i, rfl, h, k⟩
theorem rd_strS (k : Q (.str s) H) : rStrB [.str s] H Q := .inr ⟨s, rfl, k⟩
theorem rd_rep (i : W.iv H) (h : At W H p (.lst xs)) (h0 : -(2 ^ 63) ≤ j) (h1 : j < 2 ^ 63) (hz : xs.length * j.toNat ≤ 1000000) (k : ∀ l H2, H l = none → Ex W H H2 → At W H2 l (.lst (List.replicate j.toNat xs).flatten) → Q (.ref l) H2) : rRep (.ref p) (.int j) H Q :=
  ⟨p, j, xs, rfl, rfl, h.1, h0, h1, sz_le hz, new_of i k⟩
end
def rJoinS (K : PySem.W.Frag) : V → List V → Hp → VK → Prop := fun x xs H Q => ∃ a p, ∃ ys : List Str, x = .str a ∧ xs = [.ref p] ∧ (SqL K H p (ys.map V.str) ∨ SqT K H p (ys.map V.str)) ∧
    (ys.map (·.length)).sum + ys.length * a.length ≤ 16777216 ∧ Q (.str (Txt.join a ys)) H
theorem m_join {X : Cx} : MtR X "str.join" (rJoinS X.K) := mt_join
theorem rd_join {W : Wd} {K : PySem.W.Frag} {H : Hp} {Q : VK} {s : Str} {p : Addr} {ys : List Str} (h : At W H p (.lst (ys.map V.str))) (hz : (ys.map (·.length)).sum + ys.length * s.length ≤ 16777216) (k : Q (.str (Txt.join s ys)) H) : rJoinS K (.str s) [.ref p] H Q :=
  ⟨s, p, ys, rfl, rfl, .inl h.sl, hz, k⟩
/-! ### a written dict with texts as keys -/
def rInKd (K : PySem.W.Frag) (d : Addr) : R2 := fun x y H Q => ∃ (z : Str) (r : Option Value), x = .str z ∧ y = .ref d ∧ PySem.W.nsIn K d z = some r ∧ Q (.bl r.isSome) H
def rNinKd (K : PySem.W.Frag) (d : Addr) : R2 := fun x y H Q => ∃ (z : Str) (r : Option Value), x = .str z ∧ y = .ref d ∧ PySem.W.nsIn K d z = some r ∧ Q (.bl (!r.isSome)) H
def rIxKd (K : PySem.W.Frag) (w : World) : R2 := fun x y H Q => ∃ p z v, x = .ref p ∧ y = .str z ∧ KDct K w p z v ∧ Q v H
section
variable {X : Cx} {d p : Addr} {es : Array DictEntry} {n : Nat} {K : PySem.W.Frag} {w : World} {H : Hp} {Q : VK} {z : Str} {r : Option Value} {v : V}
theorem o_inKd (D : KDict X.K X.w d es n) : OpR X (compareOp .In) (rInKd X.K d) := op_in_kd D
theorem o_ninKd (D : KDict X.K X.w d es n) : OpR X (compareOp .NotIn) (rNinKd X.K d) := op_notIn_kd D
theorem x_kd : IxR X (rIxKd X.K X.w) := ix_kdict
theorem rd_ninKd (h : PySem.W.nsIn K d z = some r) (k : Q (.bl (!r.isSome)) H) : rNinKd K d (.str z) (.ref d) H Q := ⟨z, r, rfl, rfl, h, k⟩
theorem rd_inKd (h : PySem.W.nsIn K d z = some r) (k : Q (.bl r.isSome) H) : rInKd K d (.str z) (.ref d) H Q := ⟨z, r, rfl, rfl, h, k⟩
theorem rd_ixKd (D : KDict K w d es n) {a : Addr} (h : PySem.W.nsIn K d z = some (some (.ref a))) (k : Q (.ref a) H) : rIxKd K w (.ref d) (.str z) H Q := ⟨d, z, .ref a, rfl, rfl, ⟨es, n, _, D.at_, D.lit, h, rfl⟩, k⟩
end
section
variable {H : Hp} {σ : L2.St} {Q : VK} {s : Str} {b c : Bool} {v x : V} {r r' : R2} {ta tb tc : TE}
theorem rd_chain (h : ta σ H fun x H1 => tb σ H1 fun y H2 => r x y H2 fun z H3 => ∃ k, z = .bl k ∧ (if k = true then tc σ H3 fun w' H4 => r' y w' H4 Q else Q (.bl false) H3)) : tChain r r' ta tb tc σ H Q := h
theorem at_inG {α : Type} {xs : List α} {i : Int} {v : α} (h : 0 ≤ i) (e : xs[i.toNat]? = some v) : atI xs i = some v := by
  have hl := (List.getElem?_eq_some_iff.mp e).1
  unfold atI ixN
  rw [if_pos h, if_pos (by omega)]
  exact e
theorem ifB_yes {A B : Prop} (e : b = true) (h : A) : if b = true then A else B := by rw [if_pos e]; exact h
theorem ifB_no {A B : Prop} (e : b = false) (h : B) : if b = true then A else B := by rw [if_neg (by rw [e]; decide)]; exact h
theorem ifNB_yes {A B : Prop} (e : b = false) (h : A) : if (!b) = true then A else B := by rw [e]; exact h
theorem ifNB_no {A B : Prop} (e : b = true) (h : B) : if (!b) = true then A else B := by rw [e]; exact h
theorem cast_bl (h : Q (.bl b) H) (e : b = c) : Q (.bl c) H := e ▸ h
theorem cast_str {z : Str} (h : Q (.str s) H) (e : s = z) : Q (.str z) H := e ▸ h
theorem cast_v (h : Q v H) (e : v = x) : Q x H := e ▸ h
end
end Lw

namespace K02
open PySem L2 Lw TL
def top (i : Nat) : Stmt := PySem.Challenge.pw_capstead_k02_assemble_drawn_texts.main.body.getD i (.Pass ⟨0, 0, 0, 0⟩)

abbrev s_is_integer : Stmt := top 7
abbrev N_is_integer : List Str := ["value"]
theorem sc_is_integer : FnScope N_is_integer ["value"] (defScope s_is_integer) := ⟨rfl, rfl, rfl, by decide +kernel, rfl, by decide +kernel, by decide +kernel⟩
abbrev s_bound : Stmt := top 16
abbrev N_bound : List Str := ["role", "length"]
theorem sc_bound : FnScope N_bound ["role", "length"] (defScope s_bound) := ⟨rfl, rfl, rfl, by decide +kernel, rfl, by decide +kernel, by decide +kernel⟩
abbrev s_fits : Stmt := top 17
abbrev N_fits : List Str := ["part", "role", "length"]
theorem sc_fits : FnScope N_fits ["part", "role", "length"] (defScope s_fits) := ⟨rfl, rfl, rfl, by decide +kernel, rfl, by decide +kernel, by decide +kernel⟩
abbrev s_is_label : Stmt := top 18
abbrev N_is_label : List Str := ["word", "sign"]
theorem sc_is_label : FnScope N_is_label ["word"] (defScope s_is_label) := ⟨rfl, rfl, rfl, by decide +kernel, rfl, by decide +kernel, by decide +kernel⟩
abbrev s_label_in : Stmt := top 19
abbrev N_label_in : List Str := ["line"]
theorem sc_label_in : FnScope N_label_in ["line"] (defScope s_label_in) := ⟨rfl, rfl, rfl, by decide +kernel, rfl, by decide +kernel, by decide +kernel⟩
abbrev s_is_ignored : Stmt := top 20
abbrev N_is_ignored : List Str := ["line"]
theorem sc_is_ignored : FnScope N_is_ignored ["line"] (defScope s_is_ignored) := ⟨rfl, rfl, rfl, by decide +kernel, rfl, by decide +kernel, by decide +kernel⟩
abbrev s_number_in : Stmt := top 21
abbrev N_number_in : List Str := ["word", "number", "sign", "digit"]
theorem sc_number_in : FnScope N_number_in ["word"] (defScope s_number_in) := ⟨rfl, rfl, rfl, by decide +kernel, rfl, by decide +kernel, by decide +kernel⟩
abbrev s_part_in : Stmt := top 22
abbrev N_part_in : List Str := ["word", "role", "labels", "number"]
theorem sc_part_in : FnScope N_part_in ["word", "role", "labels"] (defScope s_part_in) := ⟨rfl, rfl, rfl, by decide +kernel, rfl, by decide +kernel, by decide +kernel⟩
abbrev s_instruction_in : Stmt := top 23
abbrev N_instruction_in : List Str := ["line", "labels", "parts", "name", "roles", "instruction", "at", "role", "part"]
theorem sc_instruction_in : FnScope N_instruction_in ["line", "labels"] (defScope s_instruction_in) := ⟨rfl, rfl, rfl, by decide +kernel, rfl, by decide +kernel, by decide +kernel⟩
abbrev s_labels_given : Stmt := top 24
abbrev N_labels_given : List Str := ["lines", "labels", "index", "line", "label"]
theorem sc_labels_given : FnScope N_labels_given ["lines"] (defScope s_labels_given) := ⟨rfl, rfl, rfl, by decide +kernel, rfl, by decide +kernel, by decide +kernel⟩
abbrev s_last_instruction : Stmt := top 25
abbrev N_last_instruction : List Str := ["lines", "last", "number", "line"]
theorem sc_last_instruction : FnScope N_last_instruction ["lines"] (defScope s_last_instruction) := ⟨rfl, rfl, rfl, by decide +kernel, rfl, by decide +kernel, by decide +kernel⟩
abbrev s_assemble : Stmt := top 26
abbrev N_assemble : List Str := ["text", "lines", "labels", "last", "met", "program", "number", "line", "label", "instruction"]
theorem sc_assemble : FnScope N_assemble ["text"] (defScope s_assemble) := ⟨rfl, rfl, rfl, by decide +kernel, rfl, by decide +kernel, by decide +kernel⟩
abbrev s_law_pool : Stmt := top 28
abbrev N_law_pool : List Str := ["script", "limit", "cells", "cell"]
theorem sc_law_pool : FnScope N_law_pool ["script"] (defScope s_law_pool) := ⟨rfl, rfl, rfl, by decide +kernel, rfl, by decide +kernel, by decide +kernel⟩
abbrev s_law_draw : Stmt := top 29
abbrev N_law_draw : List Str := ["pool", "many", "cell", "told", "mixed"]
theorem sc_law_draw : FnScope N_law_draw ["pool", "many"] (defScope s_law_draw) := ⟨rfl, rfl, rfl, by decide +kernel, rfl, by decide +kernel, by decide +kernel⟩
abbrev s_law_is_integer : Stmt := top 30
abbrev N_law_is_integer : List Str := ["thing"]
theorem sc_law_is_integer : FnScope N_law_is_integer ["thing"] (defScope s_law_is_integer) := ⟨rfl, rfl, rfl, by decide +kernel, rfl, by decide +kernel, by decide +kernel⟩
abbrev s_law_deeds : Stmt := top 31
abbrev N_law_deeds : List Str := ["deeds"]
theorem sc_law_deeds : FnScope N_law_deeds [] (defScope s_law_deeds) := ⟨rfl, rfl, rfl, by decide +kernel, rfl, by decide +kernel, by decide +kernel⟩
abbrev s_law_signs : Stmt := top 32
abbrev N_law_signs : List Str := ["signs"]
theorem sc_law_signs : FnScope N_law_signs [] (defScope s_law_signs) := ⟨rfl, rfl, rfl, by decide +kernel, rfl, by decide +kernel, by decide +kernel⟩
abbrev s_law_same_row : Stmt := top 33
abbrev N_law_same_row : List Str := ["told", "due", "k"]
theorem sc_law_same_row : FnScope N_law_same_row ["told", "due"] (defScope s_law_same_row) := ⟨rfl, rfl, rfl, by decide +kernel, rfl, by decide +kernel, by decide +kernel⟩
abbrev s_law_same_program : Stmt := top 34
abbrev N_law_same_program : List Str := ["told", "due", "k"]
theorem sc_law_same_program : FnScope N_law_same_program ["told", "due"] (defScope s_law_same_program) := ⟨rfl, rfl, rfl, by decide +kernel, rfl, by decide +kernel, by decide +kernel⟩
abbrev s_law_label : Stmt := top 35
abbrev N_law_label : List Str := ["pool", "used", "letters", "label", "k", "free", "word"]
theorem sc_law_label : FnScope N_law_label ["pool", "used"] (defScope s_law_label) := ⟨rfl, rfl, rfl, by decide +kernel, rfl, by decide +kernel, by decide +kernel⟩
abbrev s_law_instruction : Stmt := top 36
abbrev N_law_instruction : List Str := ["pool", "length", "names", "name", "number"]
theorem sc_law_instruction : FnScope N_law_instruction ["pool", "length"] (defScope s_law_instruction) := ⟨rfl, rfl, rfl, by decide +kernel, rfl, by decide +kernel, by decide +kernel⟩
abbrev s_law_gap : Stmt := top 37
abbrev N_law_gap : List Str := ["pool", "way", "comment", "k"]
theorem sc_law_gap : FnScope N_law_gap ["pool"] (defScope s_law_gap) := ⟨rfl, rfl, rfl, by decide +kernel, rfl, by decide +kernel, by decide +kernel⟩
abbrev s_law_targets : Stmt := top 38
abbrev N_law_targets : List Str := ["item"]
theorem sc_law_targets : FnScope N_law_targets ["item"] (defScope s_law_targets) := ⟨rfl, rfl, rfl, by decide +kernel, rfl, by decide +kernel, by decide +kernel⟩
abbrev s_law_labels : Stmt := top 39
abbrev N_law_labels : List Str := ["pool", "items", "labels", "used", "wanted", "item", "k", "many", "j", "label"]
theorem sc_law_labels : FnScope N_law_labels ["pool", "items"] (defScope s_law_labels) := ⟨rfl, rfl, rfl, by decide +kernel, rfl, by decide +kernel, by decide +kernel⟩
abbrev s_law_line : Stmt := top 40
abbrev N_law_line : List Str := ["pool", "item", "labels", "words", "target", "part"]
theorem sc_law_line : FnScope N_law_line ["pool", "item", "labels"] (defScope s_law_line) := ⟨rfl, rfl, rfl, by decide +kernel, rfl, by decide +kernel, by decide +kernel⟩
abbrev s_law_lines : Stmt := top 41
abbrev N_law_lines : List Str := ["pool", "items", "labels", "place", "more", "lines", "k", "label"]
theorem sc_law_lines : FnScope N_law_lines ["pool", "items", "labels", "place", "more"] (defScope s_law_lines) := ⟨rfl, rfl, rfl, by decide +kernel, rfl, by decide +kernel, by decide +kernel⟩
abbrev s_law_due : Stmt := top 42
abbrev N_law_due : List Str := ["items", "place", "more", "due", "k", "item", "target"]
theorem sc_law_due : FnScope N_law_due ["items", "place", "more"] (defScope s_law_due) := ⟨rfl, rfl, rfl, by decide +kernel, rfl, by decide +kernel, by decide +kernel⟩
abbrev s_law : Stmt := top 43
abbrev N_law : List Str := ["script", "pool", "size", "items", "labels", "more", "place", "text", "told", "k"]
theorem sc_law : FnScope N_law ["script"] (defScope s_law) := ⟨rfl, rfl, rfl, by decide +kernel, rfl, by decide +kernel, by decide +kernel⟩

/-! ### texts -/
theorem ends1 (x : Str) (c : Nat) : Txt.endswith x ⟨#[c]⟩ = decide ((tl x).getLast? = some c) := by
  unfold Txt.endswith
  rw [Bool.eq_iff_iff, Bool.and_eq_true, decide_eq_true_eq, decide_eq_true_eq]
  have hl : (⟨#[c]⟩ : Str).length = 1 := rfl
  have hx : x.length = (tl x).length := len_tl x
  rw [hl, List.getLast?_eq_getElem?]
  constructor
  · rintro ⟨h1, h2⟩
    have := (StrLaws.subAt_one x c (x.length - 1)).mp ⟨by rw [hl]; omega, h2⟩
    rw [hx] at this; exact this
  · intro h
    rw [← hx] at h
    have := (StrLaws.subAt_one x c (x.length - 1)).mpr h
    rw [hl] at this
    exact ⟨by omega, this.2⟩
theorem starts1 (x : Str) (c : Nat) : Txt.startswith x ⟨#[c]⟩ = decide ((tl x).head? = some c) := by
  unfold Txt.startswith
  rw [Bool.eq_iff_iff, Bool.and_eq_true, decide_eq_true_eq, decide_eq_true_eq]
  have hl : (⟨#[c]⟩ : Str).length = 1 := rfl
  rw [hl, List.head?_eq_getElem?]
  constructor
  · rintro ⟨h1, h2⟩
    exact (StrLaws.subAt_one x c 0).mp ⟨h1, h2⟩
  · intro h
    exact (StrLaws.subAt_one x c 0).mpr h
theorem tl_butlast (s : Str) : tl (cutS s none (some (-1))) = (tl s).dropLast := by
  show ((tl s).drop (HT.sIx s.length 0 none)).take (HT.sIx s.length s.length (some (-1)) - HT.sIx s.length 0 none) = _
  rw [HT.sIx_none, List.drop_zero, List.dropLast_eq_take, len_tl]
  congr 1
  simp [HT.sIx]
  omega
def sm (c : Nat) : Bool := decide (97 ≤ c ∧ c ≤ 122)
def dg (c : Nat) : Bool := decide (48 ≤ c ∧ c ≤ 57)
theorem mem_run (a n c : Nat) : c ∈ (List.range n).map (a + ·) ↔ a ≤ c ∧ c < a + n := by
  rw [List.mem_map]
  constructor
  · rintro ⟨k, hk, rfl⟩
    have := List.mem_range.mp hk
    omega
  · intro h
    exact ⟨c - a, List.mem_range.mpr (by omega), by omega⟩
theorem small_run : ("abcdefghijklmnopqrstuvwxyz" : Str).cps.toList = (List.range 26).map (97 + ·) := by decide +kernel
theorem dig_run : ("0123456789" : Str).cps.toList = (List.range 10).map (48 + ·) := by decide +kernel
theorem small_mem (c : Nat) : decide (c ∈ ("abcdefghijklmnopqrstuvwxyz" : Str).cps.toList) = sm c := by
  unfold sm
  rw [small_run, decide_eq_decide, mem_run]
  omega
theorem dig_mem (c : Nat) : decide (c ∈ ("0123456789" : Str).cps.toList) = dg c := by
  unfold dg
  rw [dig_run, decide_eq_decide, mem_run]
  omega
def isL (s : Str) : Bool := match tl s with
  | [] => false
  | c :: r => decide (r.length ≤ 7) && (sm c && (c :: r).all fun c => sm c || dg c)
theorem isL_of {s : Str} (h : isL s = true) : ∃ c r, tl s = c :: r ∧ r.length ≤ 7 ∧ sm c = true ∧ ∀ x ∈ tl s, (sm x || dg x) = true := by
  unfold isL at h
  cases e : tl s with
  | nil => rw [e] at h; cases h
  | cons c r =>
    rw [e] at h
    have h1 := (Bool.and_eq_true _ _).mp h
    have h2 := (Bool.and_eq_true _ _).mp h1.2
    exact ⟨c, r, rfl, of_decide_eq_true h1.1, h2.1, List.all_eq_true.mp h2.2⟩
theorem isL_mk {s : Str} {c : Nat} {r : List Nat} (e : tl s = c :: r) (h1 : r.length ≤ 7) (h2 : sm c = true) (h3 : ∀ x ∈ tl s, (sm x || dg x) = true) : isL s = true := by
  unfold isL
  rw [e]
  rw [e] at h3
  show (decide _ && (sm c && _)) = true
  rw [decide_eq_true h1, h2, List.all_eq_true.mpr h3]
  rfl
def labF (s : Str) : Str := if (Txt.endswith s ":" && isL (cutS s none (some (-1)))) = true then cutS s none (some (-1)) else ""
def ignF (s : Str) : Bool := decide (s = "") || Txt.startswith s "#"
theorem colon : (":" : Str) = ⟨#[58]⟩ := by decide +kernel
theorem hash : ("#" : Str) = ⟨#[35]⟩ := by decide +kernel
theorem tl_nil : tl ("" : Str) = [] := rfl
theorem nil_iff (s : Str) : s = "" ↔ tl s = [] := ⟨fun e => by rw [e]; rfl, fun e => ext_tl e⟩
theorem sm_ne {c : Nat} (h : sm c = true) : c ≠ 35 ∧ c ≠ 58 ∧ c ≠ 10 ∧ c ≠ 32 := by
  have := of_decide_eq_true h
  omega
theorem wd_ne {c : Nat} (h : (sm c || dg c) = true) : c ≠ 35 ∧ c ≠ 58 ∧ c ≠ 10 ∧ c ≠ 32 := by
  unfold sm dg at h
  simp only [Bool.or_eq_true, decide_eq_true_eq] at h
  omega
theorem tl_lb (l : Str) : tl (l ++ ":") = tl l ++ [58] := by rw [tl_append]; rfl
theorem lab_lb {l : Str} (h : isL l = true) : labF (l ++ ":") = l := by
  have e : cutS (l ++ ":") none (some (-1)) = l := ext_tl (by rw [tl_butlast, tl_lb, List.dropLast_concat])
  unfold labF
  rw [colon, ends1, ← colon, e, h, tl_lb, List.getLast?_concat]
  rfl
theorem ign_lb {l : Str} (h : isL l = true) : ignF (l ++ ":") = false := by
  obtain ⟨c, r, e, _, hc, _⟩ := isL_of h
  unfold ignF
  rw [hash, starts1, decide_eq_false (fun z => by rw [nil_iff, tl_lb] at z; simp at z), decide_eq_false, Bool.or_self]
  rw [tl_lb, e]
  intro z
  exact (sm_ne hc).1 (Option.some.inj z)
theorem isL_ne {l : Str} (h : isL l = true) : l ≠ "" := by
  obtain ⟨c, r, e, _⟩ := isL_of h
  intro z
  rw [nil_iff, e] at z
  cases z
/-- an empty line, a comment -/
theorem ign_ok {g : Str} (h : tl g = [] ∨ ∃ r, tl g = 35 :: r) : ignF g = true ∧ labF g = "" := by
  rcases h with e | ⟨r, e⟩
  · have : g = "" := (nil_iff g).mpr e
    subst this
    exact ⟨by decide +kernel, by decide +kernel⟩
  · refine ⟨?_, ?_⟩
    · unfold ignF
      rw [hash, starts1, e, Bool.or_eq_true]
      exact .inr rfl
    · have q : isL (cutS g none (some (-1))) = false := by
        unfold isL
        rw [tl_butlast, e]
        cases r with
        | nil => rfl
        | cons a r =>
          rw [List.dropLast_cons₂]
          show (_ && (sm 35 && _)) = false
          rw [show sm 35 = false from rfl, Bool.false_and, Bool.and_false]
      unfold labF
      rw [q, Bool.and_false]
      rfl
theorem op_ok {s : Str} {c : Nat} {r : List Nat} (e : tl s = c :: r) (h : c ≠ 35) (h2 : 58 ∉ tl s) : ignF s = false ∧ labF s = "" := by
  refine ⟨?_, ?_⟩
  · unfold ignF
    rw [hash, starts1, e, decide_eq_false (fun z => by rw [nil_iff, e] at z; cases z), decide_eq_false, Bool.or_self]
    intro z
    exact h (Option.some.inj z)
  · unfold labF
    rw [colon, ends1, decide_eq_false, Bool.false_and]
    · rfl
    · intro z
      exact h2 (List.mem_of_getLast? z)
/-! ### numbers -/
theorem numL_len1 {n : Nat} (h : 1 < (numL n).length) : 10 ≤ n := by
  by_cases q : n < 10
  · rw [numL_lt q] at h; simp at h
  · omega
theorem numL_head : ∀ n : Nat, 1 ≤ n → ∃ c r, numL n = c :: r ∧ c ≠ 48 := by
  intro n
  induction n using Nat.strongRecOn with
  | ind n ih =>
    intro h
    by_cases q : n < 10
    · exact ⟨48 + n, [], numL_lt q, by omega⟩
    · obtain ⟨c, r, e, hc⟩ := ih (n / 10) (by omega) (by omega)
      exact ⟨c, r ++ [48 + n % 10], by rw [numL_step (by omega), e]; rfl, hc⟩
theorem find_dig {c : Nat} (h : dg c = true) : Txt.find "0123456789" ⟨#[c]⟩ = ((c : Int) - 48) := by
  have := of_decide_eq_true h
  have q : c = 48 ∨ c = 49 ∨ c = 50 ∨ c = 51 ∨ c = 52 ∨ c = 53 ∨ c = 54 ∨ c = 55 ∨ c = 56 ∨ c = 57 := by omega
  rcases q with rfl | rfl | rfl | rfl | rfl | rfl | rfl | rfl | rfl | rfl <;> decide +kernel
theorem numL_dg {n c : Nat} (h : c ∈ numL n) : dg c = true := by
  have := numL_free (n := n) (s := c)
  unfold dg
  by_cases q : 48 ≤ c ∧ c ≤ 57
  · exact decide_eq_true q
  · exact absurd h (this (by omega))
theorem tl_toString {z : Int} (h : 0 ≤ z) : tl (toString z : Str) = numL z.toNat := by
  have := tl_num z.toNat
  rw [show ((z.toNat : Nat) : Int) = z by omega] at this
  exact this
/-! ### lines -/
def Wrd (p : Str) : Prop := tl p ≠ [] ∧ ∀ c ∈ tl p, (sm c || dg c) = true
theorem Wrd.num {z : Int} (h : 0 ≤ z) : Wrd (toString z : Str) := by
  unfold Wrd
  rw [tl_toString h]
  exact ⟨numL_ne _, fun c hc => by rw [numL_dg hc, Bool.or_true]⟩
theorem Wrd.lab {l : Str} (h : isL l = true) : Wrd l := by
  obtain ⟨c, r, e, _, _, q⟩ := isL_of h
  exact ⟨by rw [e]; simp, q⟩
theorem mem_joinL {S : List Nat} {c : Nat} : ∀ {ps : List (List Nat)}, c ∈ joinL S ps → c ∈ S ∨ ∃ p ∈ ps, c ∈ p
  | [], h => by simp [joinL] at h
  | [p], h => .inr ⟨p, by simp, by simpa [joinL] using h⟩
  | p :: q :: r, h => by
    have h' : c ∈ p ++ (S ++ joinL S (q :: r)) := by simpa [joinL] using h
    rcases List.mem_append.mp h' with a | a
    · exact .inr ⟨p, by simp, a⟩
    · rcases List.mem_append.mp a with b | b
      · exact .inl b
      · rcases mem_joinL b with d | ⟨x, hx, hc⟩
        · exact .inl d
        · exact .inr ⟨x, List.mem_cons_of_mem _ hx, hc⟩
theorem head_joinL {S : List Nat} {c : Nat} {r : List Nat} : ∀ (ps : List (List Nat)), ∃ r', joinL S ((c :: r) :: ps) = c :: r'
  | [] => ⟨r, rfl⟩
  | q :: ps => ⟨r ++ (S ++ joinL S (q :: ps)), by simp [joinL]⟩
theorem space : tl (" " : Str) = [32] := by decide +kernel
theorem newl : tl ("\n" : Str) = [10] := by decide +kernel
theorem line_chars {name : Str} {ws : List Str} (hw : ∀ p ∈ name :: ws, Wrd p) {c : Nat} (h : c ∈ tl (Txt.join " " (name :: ws))) : c = 32 ∨ (sm c || dg c) = true := by
  rw [join_eq, tl_join, space] at h
  rcases mem_joinL h with a | ⟨p, hp, hc⟩
  · exact .inl (by simpa using a)
  · obtain ⟨q, hq, rfl⟩ := List.mem_map.mp hp
    exact .inr ((hw q hq).2 c hc)
theorem line_ok {name : Str} {ws : List Str} {c : Nat} {r : List Nat} (e : tl name = c :: r) (hc : sm c = true) (hw : ∀ p ∈ name :: ws, Wrd p) :
    ignF (Txt.join " " (name :: ws)) = false ∧ labF (Txt.join " " (name :: ws)) = "" ∧ 10 ∉ tl (Txt.join " " (name :: ws)) ∧ Txt.split (Txt.join " " (name :: ws)) " " = name :: ws := by
  have q : ∀ z, z ≠ 32 → (∀ c, (sm c || dg c) = true → c ≠ z) → z ∉ tl (Txt.join " " (name :: ws)) := fun z z1 z2 h => by
    rcases line_chars hw h with a | a
    · exact z1 a
    · exact z2 z a rfl
  obtain ⟨r', e'⟩ := head_joinL (S := [32]) (c := c) (r := r) (ws.map tl)
  have e2 : tl (Txt.join " " (name :: ws)) = c :: r' := by rw [join_eq, tl_join, space, List.map_cons, e, e']
  obtain ⟨o1, o2⟩ := op_ok e2 (sm_ne hc).1 (q 58 (by decide) fun c h => (wd_ne h).2.1)
  exact ⟨o1, o2, q 10 (by decide) fun c h => (wd_ne h).2.2.1, split_join space (by decide +kernel) (by simp) fun p hp hm => (wd_ne ((hw p hp).2 32 hm)).2.2.2 rfl⟩

/-! ### labels -/
def GL (n : Nat) (s : Str) : Prop := ∃ c r, tl s = c :: r ∧ r.length ≤ n ∧ sm c = true ∧ ∀ x ∈ tl s, (sm x || dg x) = true
theorem GL.isL {s : Str} (h : GL 7 s) : isL s = true := let ⟨_, _, e, a, b, c⟩ := h; isL_mk e a b c
theorem GL.len {n : Nat} {s : Str} (h : GL n s) : s.length ≤ n + 1 := by
  obtain ⟨c, r, e, a, _⟩ := h
  rw [len_tl, e, List.length_cons]
  omega
theorem GL.mono {m n : Nat} {s : Str} (h : GL m s) (q : m ≤ n) : GL n s := let ⟨c, r, e, a, b, d⟩ := h; ⟨c, r, e, Nat.le_trans a q, b, d⟩
theorem GL.one {c : Nat} (h : sm c = true) : GL 0 ⟨#[c]⟩ := ⟨c, [], rfl, Nat.le_refl _, h, fun x hx => by
  have : x = c := by simpa using hx
  rw [this, h]; rfl⟩
theorem GL.add {n : Nat} {s : Str} {c : Nat} (h : GL n s) (hc : (sm c || dg c) = true) : GL (n + 1) (s ++ ⟨#[c]⟩) := by
  obtain ⟨c0, r, e, a, b, d⟩ := h
  refine ⟨c0, r ++ [c], by rw [tl_append, e]; rfl, by rw [List.length_append]; exact Nat.succ_le_succ a, b, fun x hx => ?_⟩
  rw [tl_append] at hx
  rcases List.mem_append.mp hx with q | q
  · exact d x q
  · have : x = c := by simpa using q
    rw [this]; exact hc
theorem letter_at {r : Int} (h0 : 0 ≤ r) (h1 : r < 26) : ∃ c, atI ("abcdefghijklmnopqrstuvwxyz" : Str).cps.toList r = some c ∧ sm c = true := by
  refine ⟨97 + r.toNat, at_inG h0 ?_, decide_eq_true (by omega)⟩
  rw [small_run, List.getElem?_map, List.getElem?_range (by omega)]
  rfl
theorem sign_at {r : Int} (h0 : 0 ≤ r) (h1 : r < 36) : ∃ c, atI (("abcdefghijklmnopqrstuvwxyz" : Str) ++ "0123456789").cps.toList r = some c ∧ (sm c || dg c) = true := by
  have e : (("abcdefghijklmnopqrstuvwxyz" : Str) ++ "0123456789").cps.toList = (List.range 26).map (97 + ·) ++ (List.range 10).map (48 + ·) := by decide +kernel
  by_cases q : r < 26
  · refine ⟨97 + r.toNat, at_inG h0 ?_, by unfold sm; rw [decide_eq_true (by omega)]; rfl⟩
    rw [e, List.getElem?_append_left (by simp; omega), List.getElem?_map, List.getElem?_range (by omega)]
    rfl
  · refine ⟨48 + (r.toNat - 26), at_inG h0 ?_, by unfold dg; rw [decide_eq_true (p := 48 ≤ 48 + (r.toNat - 26) ∧ 48 + (r.toNat - 26) ≤ 57) (by omega), Bool.or_true]⟩
    rw [e, List.getElem?_append_right (by simp; omega), List.length_map, List.length_range, List.getElem?_map, List.getElem?_range (by omega)]
    rfl
theorem tl_cutTo (s : Str) (n : Nat) : tl (cutS s none (some (n : Int))) = (tl s).take n := by
  show ((tl s).drop (HT.sIx s.length 0 none)).take (HT.sIx s.length s.length (some (n : Int)) - HT.sIx s.length 0 none) = _
  rw [HT.sIx_none, List.drop_zero, HT.sIx_nat, len_tl, Nat.sub_zero, ← List.take_eq_take_min]
theorem GL.cut {s : Str} (h : GL 7 s) {k : Nat} (hk : k < 100) : GL 7 (cutS s none (some 6) ++ (toString (k : Int) : Str)) := by
  obtain ⟨c0, r, e, a, b, d⟩ := h
  have e6 : tl (cutS s none (some 6)) = c0 :: r.take 5 := by
    have := tl_cutTo s 6
    rw [e] at this
    exact this
  have en : tl (toString (k : Int) : Str) = numL k := tl_toString (z := (k : Int)) (by omega)
  have ln : (numL k).length ≤ 2 := numL_len (by decide) hk
  refine ⟨c0, r.take 5 ++ numL k, by rw [tl_append, e6, en]; rfl, by rw [List.length_append, List.length_take]; omega, b, fun x hx => ?_⟩
  rw [tl_append, e6, en] at hx
  rcases List.mem_append.mp hx with q | q
  · refine d x ?_
    rw [e]
    rcases List.mem_cons.mp q with z | z
    · rw [z]; exact List.mem_cons_self ..
    · exact List.mem_cons_of_mem _ (List.mem_of_mem_take z)
  · rw [numL_dg q, Bool.or_true]
theorem cut_inj {l : Str} {j k : Nat} (h : l ++ (toString (j : Int) : Str) = l ++ (toString (k : Int) : Str)) : j = k := by
  have q := congrArg tl h
  rw [tl_append, tl_append, tl_toString (z := (j : Int)) (by omega), tl_toString (z := (k : Int)) (by omega)] at q
  exact numL_inj (List.append_cancel_left q)
theorem pigeon {α : Type} [DecidableEq α] : ∀ (xs us : List α), xs.Nodup → (∀ x ∈ xs, x ∈ us) → xs.length ≤ us.length
  | [], _, _, _ => Nat.zero_le _
  | x :: xs, us, hn, h => by
    have hn' := List.nodup_cons.mp hn
    have q := pigeon xs (us.erase x) hn'.2 fun y hy => (List.mem_erase_of_ne (fun e : y = x => hn'.1 (e ▸ hy))).mpr (h y (List.mem_cons_of_mem _ hy))
    have hx := h x (List.mem_cons_self ..)
    rw [List.length_erase_of_mem hx] at q
    have := List.length_pos_of_mem hx
    rw [List.length_cons]
    omega
theorem inV_str (l : Str) (us : List Str) : inV (.str l) (us.map V.str) = decide (l ∈ us) := by
  rw [Bool.eq_iff_iff, decide_eq_true_eq]
  unfold inV
  rw [List.any_map, List.any_eq_true]
  constructor
  · rintro ⟨x, hx, e⟩
    have : l = x ∨ x = l := by
      have e' : (x == l) = true ∨ (l == x) = true := by first | exact .inl e | exact .inr e
      rcases e' with q | q
      · exact .inr (by simpa using q)
      · exact .inl (by simpa using q)
    rcases this with rfl | rfl <;> exact hx
  · intro h
    exact ⟨l, h, by show (l == l) = true; simp⟩
/-- 60 words, at most 40 used -/
theorem some_free {l : Str} {us : List Str} (h : us.length ≤ 40) : ∃ k, k < 60 ∧ (l ++ (toString ((k : Nat) : Int) : Str)) ∉ us := by
  by_cases q : ∃ k, k < 60 ∧ (l ++ (toString ((k : Nat) : Int) : Str)) ∉ us
  · exact q
  · exfalso
    have a : ∀ x ∈ (List.range 60).map (fun k : Nat => l ++ (toString (k : Int) : Str)), x ∈ us := fun x hx => by
      obtain ⟨k, hk, rfl⟩ := List.mem_map.mp hx
      by_cases z : (l ++ (toString ((k : Nat) : Int) : Str)) ∈ us
      · exact z
      · exact absurd ⟨k, List.mem_range.mp hk, z⟩ q
    have n : ((List.range 60).map (fun k : Nat => l ++ (toString (k : Int) : Str))).Nodup := List.Pairwise.map _ (fun a b h e => h (cut_inj e)) List.nodup_range
    have := pigeon _ us n a
    rw [List.length_map, List.length_range] at this
    omega

/-! ### instructions -/
inductive It where
  | deed (d : Str) | jump (t : Int) | zero (r t : Int) | set (r w : Int) | two (n : Str) (r q : Int)
def It.name : It → Str
  | .deed _ => "deed" | .jump _ => "jump" | .zero _ _ => "zero" | .set _ _ => "set" | .two n _ _ => n
def It.vals : It → List V
  | .deed d => [.str d] | .jump t => [.int t] | .zero r t => [.int r, .int t] | .set r w => [.int r, .int w] | .two _ r q => [.int r, .int q]
def It.row (x : It) : List V := .str x.name :: x.vals
def It.tg : It → List Int
  | .jump t => [t] | .zero _ t => [t] | _ => []
def It.sh (place more : Int) : It → It
  | .jump t => .jump (if place ≤ t then t + more else t) | .zero r t => .zero r (if place ≤ t then t + more else t) | x => x
def DL : List V := [.str "halt", .str "until", .str "clock", .str "look", .str "claim", .str "free", .str "copy", .str "drop", .str "revoke", .str "map", .str "unmap", .str "send", .str "take", .str "trysend", .str "trytake", .str "call", .str "reply", .str "ring", .str "await", .str "tryawait", .str "ack", .str "give", .str "pull"]
def Two (m : Str) : Prop := m = "move" ∨ m = "add" ∨ m = "sub" ∨ m = "load" ∨ m = "store"
def It.Ok (n : Int) : It → Prop
  | .deed d => V.str d ∈ DL | .jump t => 0 ≤ t ∧ t < n | .zero r t => (0 ≤ r ∧ r < 8) ∧ 0 ≤ t ∧ t < n | .set r w => (0 ≤ r ∧ r < 8) ∧ 0 ≤ w ∧ w < 1048576
  | .two m r q => Two m ∧ (0 ≤ r ∧ r < 8) ∧ 0 ≤ q ∧ q < 8
theorem It.sh_name (p m : Int) (x : It) : (x.sh p m).name = x.name := by cases x <;> rfl
inductive F2 {α β : Type} (R : α → β → Prop) : List α → List β → Prop
  | nil : F2 R [] []
  | cons {x : α} {y : β} {xs : List α} {ys : List β} : R x y → F2 R xs ys → F2 R (x :: xs) (y :: ys)
namespace F2
variable {α β : Type} {R S : α → β → Prop}
theorem length : ∀ {xs : List α} {ys : List β}, F2 R xs ys → xs.length = ys.length
  | _, _, .nil => rfl
  | _, _, .cons _ t => by rw [List.length_cons, List.length_cons, t.length]
theorem mono (f : ∀ x y, R x y → S x y) : ∀ {xs : List α} {ys : List β}, F2 R xs ys → F2 S xs ys
  | _, _, .nil => .nil
  | _, _, .cons a t => .cons (f _ _ a) (t.mono f)
theorem append {us : List α} {vs : List β} (h : F2 R us vs) : ∀ {xs : List α} {ys : List β}, F2 R xs ys → F2 R (xs ++ us) (ys ++ vs)
  | _, _, .nil => h
  | _, _, .cons a t => .cons a (append h t)
theorem get : ∀ {xs : List α} {ys : List β} {n : Nat} {x : α}, F2 R xs ys → xs[n]? = some x → ∃ y, ys[n]? = some y ∧ R x y
  | _, _, _, _, .nil, e => by simp at e
  | _, _, 0, _, .cons a _, e => by simp at e; subst e; exact ⟨_, rfl, a⟩
  | _, _, n + 1, _, .cons _ t, e => t.get (n := n) (by simpa using e)
theorem getR : ∀ {xs : List α} {ys : List β} {n : Nat} {y : β}, F2 R xs ys → ys[n]? = some y → ∃ x, xs[n]? = some x ∧ R x y
  | _, _, _, _, .nil, e => by simp at e
  | _, _, 0, _, .cons a _, e => by simp at e; subst e; exact ⟨_, rfl, a⟩
  | _, _, n + 1, _, .cons _ t, e => t.getR (n := n) (by simpa using e)
theorem mem : ∀ {xs : List α} {ys : List β} {x : α}, F2 R xs ys → x ∈ xs → ∃ y ∈ ys, R x y
  | _, _, _, .nil, h => by cases h
  | _, _, x, .cons a t, h => by
    rcases List.mem_cons.mp h with rfl | h
    · exact ⟨_, List.mem_cons_self .., a⟩
    · obtain ⟨y, hy, r⟩ := t.mem h
      exact ⟨y, List.mem_cons_of_mem _ hy, r⟩
theorem rep {x : α} {y : β} (h : R x y) : ∀ n, F2 R (List.replicate n x) (List.replicate n y)
  | 0 => .nil
  | n + 1 => .cons h (rep h n)
theorem mapEq {γ : Type} {f : α → γ} {g : β → γ} (h : ∀ x y, R x y → f x = g y) : ∀ {xs : List α} {ys : List β}, F2 R xs ys → xs.map f = ys.map g
  | _, _, .nil => rfl
  | _, _, .cons a t => by rw [List.map_cons, List.map_cons, h _ _ a, t.mapEq h]
end F2
/-! ### what a word says -/
inductive Part (kvs : List (Key × V)) : Str → Str → V → Prop
  | deed {d : Str} : V.str d ∈ DL → Part kvs "deed" d (.str d)
  | target {l : Str} {i : Int} : valV kvs (.inr l) = some (.int i) → Part kvs "target" l (.int i)
  | reg {s : Str} {n : Nat} : n < 8 → tl s = numL n → Part kvs "register" s (.int n)
  | word {s : Str} {n : Nat} : n < 1048576 → tl s = numL n → Part kvs "word" s (.int n)
inductive Parts (kvs : List (Key × V)) : List Str → List Str → List V → Prop
  | nil : Parts kvs [] [] []
  | cons {r w : Str} {v : V} {rs ws : List Str} {vs : List V} : Part kvs r w v → Parts kvs rs ws vs → Parts kvs (r :: rs) (w :: ws) (v :: vs)
theorem Parts.len {kvs : List (Key × V)} : ∀ {rs ws : List Str} {vs : List V}, Parts kvs rs ws vs → ws.length = rs.length ∧ vs.length = rs.length
  | _, _, _, .nil => ⟨rfl, rfl⟩
  | _, _, _, .cons _ t => by
    obtain ⟨a, b⟩ := t.len
    simp [a, b]
theorem Parts.get {kvs : List (Key × V)} : ∀ {rs ws : List Str} {vs : List V} {n : Nat} {r : Str}, Parts kvs rs ws vs → rs[n]? = some r → ∃ w v, ws[n]? = some w ∧ vs[n]? = some v ∧ Part kvs r w v
  | _, _, _, _, _, .nil, e => by simp at e
  | _, _, _, 0, _, .cons a _, e => by simp at e; subst e; exact ⟨_, _, rfl, rfl, a⟩
  | _, _, _, n + 1, _, .cons _ t, e => by simpa using t.get (n := n) (by simpa using e)
inductive Rl : Str → List Str → Prop
  | set : Rl "set" ["register", "word"]
  | move : Rl "move" ["register", "register"]
  | add : Rl "add" ["register", "register"]
  | sub : Rl "sub" ["register", "register"]
  | load : Rl "load" ["register", "register"]
  | store : Rl "store" ["register", "register"]
  | jump : Rl "jump" ["target"]
  | zero : Rl "zero" ["register", "target"]
  | deed : Rl "deed" ["deed"]
theorem Rl.len {n : Str} {rs : List Str} (h : Rl n rs) : rs.length ≤ 2 := by cases h <;> decide
theorem Rl.wrd {n : Str} {rs : List Str} (h : Rl n rs) : ∃ c r, tl n = c :: r ∧ sm c = true := by cases h <;> exact ⟨_, _, rfl, by decide +kernel⟩
theorem Rl.wrd2 {n : Str} {rs : List Str} (h : Rl n rs) : Wrd n := by cases h <;> exact ⟨by decide +kernel, by decide +kernel⟩
theorem deed_wrd {d : Str} (h : V.str d ∈ DL) : Wrd d := by
  unfold DL at h
  simp only [List.mem_cons, List.not_mem_nil, or_false, V.str.injEq] at h
  rcases h with rfl | rfl | rfl | rfl | rfl | rfl | rfl | rfl | rfl | rfl | rfl | rfl | rfl | rfl | rfl | rfl | rfl | rfl | rfl | rfl | rfl | rfl | rfl <;> exact ⟨by decide +kernel, by decide +kernel⟩
theorem deed_in {d : Str} (h : V.str d ∈ DL) : inV (.str d) DL = true := List.any_eq_true.mpr ⟨_, h, by show (d == d) = true; simp⟩
/-! ### lines -/
inductive Ln where
  | ig (s : Str) | lb (l : Str) | op (n : Str) (ws : List Str) (vs : List V)
def Ln.s : Ln → Str
  | .ig s => s | .lb l => l ++ ":" | .op n ws _ => Txt.join " " (n :: ws)
def Ln.isOp : Ln → Bool
  | .op _ _ _ => true | _ => false
def Ln.Ok (kvs : List (Key × V)) : Ln → Prop
  | .ig s => ignF s = true ∧ labF s = "" | .lb l => isL l = true
  | .op n ws vs => ∃ rs, Rl n rs ∧ Parts kvs rs ws vs ∧ ∀ p ∈ ws, Wrd p
def labsF : Nat → List Ln → List (Key × V)
  | _, [] => []
  | i, .ig _ :: r => labsF i r
  | i, .lb l :: r => (.inr l, .int i) :: labsF i r
  | i, .op _ _ _ :: r => labsF (i + 1) r
def opsF : List Ln → List (Str × List Str × List V)
  | [] => []
  | .op n ws vs :: r => (n, ws, vs) :: opsF r
  | .ig _ :: r => opsF r
  | .lb _ :: r => opsF r
theorem opsF_app (ys : List Ln) : ∀ xs : List Ln, opsF (xs ++ ys) = opsF xs ++ opsF ys
  | [] => rfl
  | .op n ws vs :: r => by rw [List.cons_append]; show _ :: opsF (r ++ ys) = _ :: (opsF r ++ opsF ys); rw [opsF_app ys r]
  | .ig _ :: r => opsF_app ys r
  | .lb _ :: r => opsF_app ys r
theorem labsF_app (ys : List Ln) : ∀ (xs : List Ln) (i : Nat), labsF i (xs ++ ys) = labsF i xs ++ labsF (i + (opsF xs).length) ys
  | [], _ => rfl
  | .op n ws vs :: r, i => by
    show labsF (i + 1) (r ++ ys) = labsF (i + 1) r ++ labsF (i + ((opsF r).length + 1)) ys
    rw [labsF_app ys r (i + 1), show i + 1 + (opsF r).length = i + ((opsF r).length + 1) by omega]
  | .ig _ :: r, i => labsF_app ys r i
  | .lb l :: r, i => by
    show _ :: labsF i (r ++ ys) = _ :: (labsF i r ++ labsF (i + (opsF r).length) ys)
    rw [labsF_app ys r i]
structure Good (lns : List Ln) : Prop where
  ok : ∀ x ∈ lns, x.Ok (labsF 0 lns)
  nd : ((labsF 0 lns).map (·.1)).Nodup
  ops : (opsF lns).length ≤ 4000
  aft : ∀ (i : Nat) (l : Str), lns[i]? = some (.lb l) → ∃ j x, i < j ∧ lns[j]? = some x ∧ x.isOp = true
  len : lns.length ≤ 40000
  sz : ∀ x ∈ lns, x.s.length ≤ 1000
def rowF (o : Str × List Str × List V) : List V := .str o.1 :: o.2.2
theorem take_split {lns : List Ln} {i : Nat} {x : Ln} (h : lns[i]? = some x) : lns = lns.take i ++ ([x] ++ lns.drop (i + 1)) := by
  obtain ⟨hi, e⟩ := List.getElem?_eq_some_iff.mp h
  rw [List.singleton_append, ← e, ← List.drop_eq_getElem_cons hi, List.take_append_drop]
theorem take_snoc {lns : List Ln} {i : Nat} {x : Ln} (h : lns[i]? = some x) : lns.take (i + 1) = lns.take i ++ [x] := by rw [List.take_add_one, h]; rfl
theorem labs_split {lns : List Ln} {i : Nat} {x : Ln} (h : lns[i]? = some x) : labsF 0 lns = labsF 0 (lns.take i) ++ (labsF (opsF (lns.take i)).length [x] ++ labsF ((opsF (lns.take i)).length + (opsF [x]).length) (lns.drop (i + 1))) := by
  have e := congrArg (labsF 0) (take_split h)
  rw [labsF_app, labsF_app, Nat.zero_add] at e
  exact e
theorem val_none {κ : Type} [DecidableEq κ] {kvs : List (κ × V)} {k : κ} (h : k ∉ kvs.map (·.1)) : valV kvs k = none := by
  unfold valV
  rw [List.find?_eq_none.mpr]
  · rfl
  · intro q hq z
    exact h (List.mem_map.mpr ⟨q, hq, of_decide_eq_true z⟩)
theorem val_mem {kvs : List (Key × V)} {k : Key} {v : V} : (kvs.map (·.1)).Nodup → (k, v) ∈ kvs → valV kvs k = some v := by
  induction kvs with
  | nil => intro _ h; cases h
  | cons q r ih =>
    intro hn h
    have hn' := List.nodup_cons.mp hn
    rcases List.mem_cons.mp h with e | h
    · subst e; exact valV_pos rfl
    · rw [valV_neg]
      · exact ih hn'.2 h
      · intro e
        exact hn'.1 (List.mem_map.mpr ⟨_, h, e.symm⟩)
theorem Good.fresh {lns : List Ln} (G : Good lns) {i : Nat} {l : Str} (h : lns[i]? = some (.lb l)) : (Sum.inr l : Key) ∉ (labsF 0 (lns.take i)).map (·.1) := by
  have n := G.nd
  rw [labs_split h, List.map_append, List.map_append] at n
  intro hm
  have d := (List.nodup_append.mp n).2.2
  exact d _ hm _ (List.mem_append_left _ (by simp [labsF])) rfl
theorem Good.okI {lns : List Ln} (G : Good lns) {i : Nat} {x : Ln} (h : lns[i]? = some x) : x.Ok (labsF 0 lns) := G.ok x (List.mem_of_getElem? h)
theorem Good.szI {lns : List Ln} (G : Good lns) {i : Nat} {x : Ln} (h : lns[i]? = some x) : x.s.length ≤ 1000 := G.sz x (List.mem_of_getElem? h)
theorem Good.opsI {lns : List Ln} (G : Good lns) {i : Nat} {n : Str} {ws : List Str} {vs : List V} (h : lns[i]? = some (.op n ws vs)) : (opsF (lns.take i)).length < 4000 := by
  have e := congrArg (fun z => (opsF z).length) (take_split h)
  simp only [opsF_app, List.length_append] at e
  have := G.ops
  simp only [opsF, List.length_cons, List.length_nil] at e
  omega
theorem labs_le (i : Nat) : ∀ xs : List Ln, (labsF i xs).length ≤ xs.length := by
  intro xs
  induction xs generalizing i with
  | nil => exact Nat.le_refl _
  | cons x r ih =>
    cases x with
    | ig s => exact Nat.le_succ_of_le (ih i)
    | lb l => exact Nat.succ_le_succ (ih i)
    | op n ws vs => exact Nat.le_succ_of_le (ih (i + 1))
theorem ops_le : ∀ xs : List Ln, (opsF xs).length ≤ xs.length
  | [] => Nat.le_refl _
  | .ig s :: r => Nat.le_succ_of_le (ops_le r)
  | .lb l :: r => Nat.le_succ_of_le (ops_le r)
  | .op n ws vs :: r => Nat.succ_le_succ (ops_le r)
/-! ### the law's own lines -/
def num (z : Int) : Str := toString z
def LineOf (cs : List (List Str)) : It → List Str → Prop
  | .deed d, ws => ws = [d]
  | .jump t, ws => ∃ c l, cs[t.toNat]? = some c ∧ l ∈ c ∧ ws = [l]
  | .zero r t, ws => ∃ c l, cs[t.toNat]? = some c ∧ l ∈ c ∧ ws = [num r, l]
  | .set r w, ws => ws = [num r, num w]
  | .two _ r q, ws => ws = [num r, num q]
def OpOf (cs : List (List Str)) (place more : Int) (x : It) (o : Str × List Str × List V) : Prop := o.1 = x.name ∧ o.2.2 = (x.sh place more).vals ∧ LineOf cs x o.2.1
def dueU (its : List It) (place more : Nat) : Nat → List It
  | 0 => []
  | k + 1 => dueU its place more k ++ ((if k = place then List.replicate more (.set 3 17) else []) ++ (its[k]?).toList)
def idx (place more k : Nat) : Nat := k + (if place ≤ k then more else 0)
def LB (cs : List (List Str)) (place more : Nat) : Nat → List (Key × V)
  | 0 => []
  | k + 1 => LB cs place more k ++ ((cs[k]?).getD []).map fun l => ((Sum.inr l : Key), V.int (idx place more k))
structure LabOk (its : List It) (cs : List (List Str)) : Prop where
  len : cs.length = its.length
  nd : cs.flatten.Nodup
  good : ∀ l ∈ cs.flatten, isL l = true
  few : ∀ c ∈ cs, c.length ≤ 3
  tg : ∀ x ∈ its, ∀ t ∈ x.tg, ∃ c, cs[t.toNat]? = some c ∧ c ≠ []
theorem dueU_len (its : List It) (place more : Nat) : ∀ k, k ≤ its.length → (dueU its place more k).length = k + (if place < k then more else 0)
  | 0, _ => by simp [dueU]
  | k + 1, h => by
    have e : its[k]? = some its[k] := List.getElem?_eq_getElem (by omega)
    rw [dueU, List.length_append, List.length_append, dueU_len its place more k (by omega), e]
    by_cases q : k = place
    · subst q; simp; omega
    · rw [if_neg q]
      by_cases p : place < k
      · rw [if_pos p, if_pos (by omega)]; simp; omega
      · rw [if_neg p, if_neg (by omega)]; simp
theorem LB_keys (cs : List (List Str)) (place more : Nat) : ∀ k, (LB cs place more k).map (·.1) = (cs.take k).flatten.map Sum.inr
  | 0 => by simp [LB]
  | k + 1 => by
    rw [LB, List.map_append, LB_keys cs place more k, List.take_add_one, List.flatten_append, List.map_append, List.map_map]
    congr 1
    cases cs[k]? <;> simp [Function.comp_def]
theorem LB_mem {cs : List (List Str)} {place more : Nat} {t : Nat} {c : List Str} {l : Str} (h : cs[t]? = some c) (hl : l ∈ c) : ∀ k, t < k → ((Sum.inr l : Key), V.int (idx place more t)) ∈ LB cs place more k
  | 0, q => by omega
  | k + 1, q => by
    rw [LB, List.mem_append]
    by_cases e : t = k
    · subst e
      rw [h]
      exact .inr (List.mem_map.mpr ⟨l, hl, rfl⟩)
    · exact .inl (LB_mem h hl k (by omega))
theorem LB_val {its : List It} {cs : List (List Str)} (L : LabOk its cs) {place more t : Nat} {c : List Str} {l : Str} (h : cs[t]? = some c) (hl : l ∈ c) : valV (LB cs place more its.length) (.inr l) = some (.int (idx place more t)) := by
  refine val_mem ?_ (LB_mem h hl _ ?_)
  · rw [LB_keys, ← L.len, List.take_length]
    exact List.Pairwise.map Sum.inr (fun a b h e => h (by injection e)) L.nd
  · rw [← L.len]
    exact (List.getElem?_eq_some_iff.mp h).1

/-! ### promises -/
def boundF (role : Str) (n : Int) : Int := if role = "register" then 8 else if role = "word" then 1048576 else n
def sp_is_integer : Sp := fun vs H Q _ => ∃ i, vs = [.int i] ∧ Q (.bl true) H
theorem cl_is_integer {i : Int} {H : Hp} {Q : VK} {E : XK} (k : Q (.bl true) H) : sp_is_integer ([.int i] ++ []) H Q E := ⟨i, rfl, k⟩
def sp_bound : Sp := fun vs H Q _ => ∃ r n, vs = [.str r, .int n] ∧ Q (.int (boundF r n)) H
theorem cl_bound {r : Str} {n : Int} {H : Hp} {Q : VK} {E : XK} (k : Q (.int (boundF r n)) H) : sp_bound ([.str r, .int n] ++ []) H Q E := ⟨r, n, rfl, k⟩
def sp_fits : Sp := fun vs H Q _ => ∃ i r n, vs = [.int i, .str r, .int n] ∧ r ≠ "deed" ∧ Q (.bl (decide (0 ≤ i ∧ i < boundF r n))) H
theorem cl_fits {i : Int} {r : Str} {n : Int} {H : Hp} {Q : VK} {E : XK} (h : r ≠ "deed") (k : Q (.bl (decide (0 ≤ i ∧ i < boundF r n))) H) : sp_fits ([.int i, .str r, .int n] ++ []) H Q E := ⟨i, r, n, rfl, h, k⟩
def sp_is_label : Sp := fun vs H Q _ => ∃ (W : Wd) (s : Str), vs = [.str s] ∧ s.length ≤ 1000 ∧ W.iv H ∧ ∀ H', Ex W H H' → Q (.bl (isL s)) H'
theorem cl_is_label {W : Wd} {s : Str} {H : Hp} {Q : VK} {E : XK} (h : s.length ≤ 1000) (i : W.iv H) (k : ∀ H', Ex W H H' → Q (.bl (isL s)) H') : sp_is_label ([.str s] ++ []) H Q E := ⟨W, s, rfl, h, i, k⟩
def sp_label_in : Sp := fun vs H Q _ => ∃ (W : Wd) (s : Str), vs = [.str s] ∧ s.length ≤ 1000 ∧ W.iv H ∧ ∀ H', Ex W H H' → Q (.str (labF s)) H'
theorem cl_label_in {W : Wd} {s : Str} {H : Hp} {Q : VK} {E : XK} (h : s.length ≤ 1000) (i : W.iv H) (k : ∀ H', Ex W H H' → Q (.str (labF s)) H') : sp_label_in ([.str s] ++ []) H Q E := ⟨W, s, rfl, h, i, k⟩
def sp_is_ignored : Sp := fun vs H Q _ => ∃ s, vs = [.str s] ∧ Q (.bl (ignF s)) H
theorem cl_is_ignored {s : Str} {H : Hp} {Q : VK} {E : XK} (k : Q (.bl (ignF s)) H) : sp_is_ignored ([.str s] ++ []) H Q E := ⟨s, rfl, k⟩
def sp_number_in : Sp := fun vs H Q _ => ∃ (s : Str) (n : Nat), vs = [.str s] ∧ n < 10 ^ 7 ∧ tl s = numL n ∧ Q (.int n) H
theorem cl_number_in {s : Str} {n : Nat} {H : Hp} {Q : VK} {E : XK} (h : n < 10 ^ 7) (e : tl s = numL n) (k : Q (.int n) H) : sp_number_in ([.str s] ++ []) H Q E := ⟨s, n, rfl, h, e, k⟩
def sp_part_in : Sp := fun vs H Q _ => ∃ (W : Wd) (word role : Str) (d : Addr) (kvs : List (Key × V)) (v : V), vs = [.str word, .str role, .ref d] ∧ At W H d (.dK kvs) ∧ Part kvs role word v ∧ Q v H
theorem cl_part_in {W : Wd} {word role : Str} {d : Addr} {kvs : List (Key × V)} {v : V} {H : Hp} {Q : VK} {E : XK} (h : At W H d (.dK kvs)) (p : Part kvs role word v) (k : Q v H) : sp_part_in ([.str word, .str role, .ref d] ++ []) H Q E := ⟨W, word, role, d, kvs, v, rfl, h, p, k⟩
def sp_instruction_in : Sp := fun vs H Q _ => ∃ (W : Wd) (n : Str) (ws rs : List Str) (us : List V) (d : Addr) (kvs : List (Key × V)), vs = [.str (Txt.join " " (n :: ws)), .ref d] ∧ (Txt.join " " (n :: ws)).length ≤ 1000 ∧ W.iv H ∧ At W H d (.dK kvs) ∧ Rl n rs ∧ Parts kvs rs ws us ∧ (∀ p ∈ ws, Wrd p) ∧
  ∀ t H', Ex W H H' → At W H' t (.tup (.str n :: us)) → Q (.ref t) H'
theorem cl_instruction_in {W : Wd} {n : Str} {ws rs : List Str} {us : List V} {d : Addr} {kvs : List (Key × V)} {H : Hp} {Q : VK} {E : XK} (hl : (Txt.join " " (n :: ws)).length ≤ 1000) (i : W.iv H) (h : At W H d (.dK kvs)) (r : Rl n rs) (p : Parts kvs rs ws us) (hw : ∀ p ∈ ws, Wrd p)
    (k : ∀ t H', Ex W H H' → At W H' t (.tup (.str n :: us)) → Q (.ref t) H') : sp_instruction_in ([.str (Txt.join " " (n :: ws)), .ref d] ++ []) H Q E := ⟨W, n, ws, rs, us, d, kvs, rfl, hl, i, h, r, p, hw, k⟩
abbrev TLn (lns : List Ln) : List V := lns.map fun x => V.str x.s
def sp_labels_given : Sp := fun vs H Q _ => ∃ (W : Wd) (p : Addr) (lns : List Ln), vs = [.ref p] ∧ W.iv H ∧ At W H p (.lst (TLn lns)) ∧ Good lns ∧ ∀ d H', Ex W H H' → At W H' d (.dK (labsF 0 lns)) → Q (.ref d) H'
theorem cl_labels_given {W : Wd} {p : Addr} {lns : List Ln} {H : Hp} {Q : VK} {E : XK} (i : W.iv H) (h : At W H p (.lst (TLn lns))) (g : Good lns) (k : ∀ d H', Ex W H H' → At W H' d (.dK (labsF 0 lns)) → Q (.ref d) H') : sp_labels_given ([.ref p] ++ []) H Q E := ⟨W, p, lns, rfl, i, h, g, k⟩
def sp_last_instruction : Sp := fun vs H Q _ => ∃ (W : Wd) (p : Addr) (lns : List Ln), vs = [.ref p] ∧ W.iv H ∧ At W H p (.lst (TLn lns)) ∧ Good lns ∧ ∀ (z : Int) H', Ex W H H' → (∀ (j : Nat) x, lns[j]? = some x → x.isOp = true → (j : Int) + 1 ≤ z) → Q (.int z) H'
theorem cl_last_instruction {W : Wd} {p : Addr} {lns : List Ln} {H : Hp} {Q : VK} {E : XK} (i : W.iv H) (h : At W H p (.lst (TLn lns))) (g : Good lns) (k : ∀ (z : Int) H', Ex W H H' → (∀ (j : Nat) x, lns[j]? = some x → x.isOp = true → (j : Int) + 1 ≤ z) → Q (.int z) H') :
    sp_last_instruction ([.ref p] ++ []) H Q E := ⟨W, p, lns, rfl, i, h, g, k⟩
abbrev Rows (W : Wd) (H : Hp) : List Addr → List (List V) → Prop := F2 fun r row => At W H r (.tup row)
theorem Rows.mono {W : Wd} {H H' : Hp} (e : Ex W H H') {rs : List Addr} {rows : List (List V)} (h : Rows W H rs rows) : Rows W H' rs rows := F2.mono (fun _ _ a => e.at_ a) h
def sp_assemble : Sp := fun vs H Q _ => ∃ (W : Wd) (z : Str) (lns : List Ln), vs = [.str z] ∧ z.length ≤ 1000000 ∧ Txt.split z "\n" = lns.map Ln.s ∧ Good lns ∧ W.iv H ∧ ∀ t H' rs, Ex W H H' → At W H' t (.tup (rs.map V.ref)) → Rows W H' rs ((opsF lns).map rowF) → Q (.ref t) H'
theorem cl_assemble {W : Wd} {z : Str} {lns : List Ln} {H : Hp} {Q : VK} {E : XK} (hz : z.length ≤ 1000000) (e : Txt.split z "\n" = lns.map Ln.s) (g : Good lns) (i : W.iv H) (k : ∀ t H' rs, Ex W H H' → At W H' t (.tup (rs.map V.ref)) → Rows W H' rs ((opsF lns).map rowF) → Q (.ref t) H') :
    sp_assemble ([.str z] ++ []) H Q E := ⟨W, z, lns, rfl, hz, e, g, i, k⟩
theorem Good.ig {lns : List Ln} (G : Good lns) {i : Nat} {s : Str} (h : lns[i]? = some (.ig s)) : labF (Ln.ig s).s = "" ∧ ignF (Ln.ig s).s = true := let q := G.okI h; ⟨q.2, q.1⟩
theorem Good.lb {lns : List Ln} (G : Good lns) {i : Nat} {l : Str} (h : lns[i]? = some (.lb l)) : labF (Ln.lb l).s = l ∧ ignF (Ln.lb l).s = false ∧ l ≠ "" := let q := G.okI h; ⟨lab_lb q, ign_lb q, isL_ne q⟩
theorem Good.op {lns : List Ln} (G : Good lns) {i : Nat} {n : Str} {ws : List Str} {vs : List V} (h : lns[i]? = some (.op n ws vs)) : labF (Ln.op n ws vs).s = "" ∧ ignF (Ln.op n ws vs).s = false := by
  obtain ⟨rs, hr, _, hw⟩ := G.okI h
  obtain ⟨c, r, en, hc⟩ := hr.wrd
  obtain ⟨o1, o2, _, _⟩ := line_ok en hc (ws := ws) (fun p h => by
    rcases List.mem_cons.mp h with rfl | h
    · exact hr.wrd2
    · exact hw p h)
  exact ⟨o2, o1⟩
theorem tln_get {lns : List Ln} {i : Nat} {x : V} (h : (TLn lns)[i]? = some x) : ∃ ln, lns[i]? = some ln ∧ x = .str ln.s := by
  rw [List.getElem?_map] at h
  cases hz : lns[i]? with
  | none => rw [hz] at h; cases h
  | some ln => rw [hz] at h; exact ⟨ln, rfl, (Option.some.inj h).symm⟩
theorem labs_snoc (lns : List Ln) (x : Ln) : labsF 0 (lns ++ [x]) = labsF 0 lns ++ labsF (opsF lns).length [x] := by rw [labsF_app, Nat.zero_add]
theorem Good.labLen {lns : List Ln} (G : Good lns) (i : Nat) : (labsF 0 (lns.take i)).length < 1000000 := by
  have h1 := labs_le 0 (lns.take i)
  have h2 := G.len
  rw [List.length_take] at h1
  omega
def metF (xs : List Ln) : List (Key × V) := (labsF 0 xs).map fun q => (q.1, V.bl true)
theorem metF_keys (xs : List Ln) : (metF xs).map (·.1) = (labsF 0 xs).map (·.1) := by
  unfold metF
  rw [List.map_map]
  rfl
theorem Good.fresh2 {lns : List Ln} (G : Good lns) {i : Nat} {l : Str} (h : lns[i]? = some (.lb l)) : valV (metF (lns.take i)) (.inr l) = none := val_none (by rw [metF_keys]; exact G.fresh h)
/-! ### the pool -/
structure PoolIs (H : Hp) (b c : Addr) (r k s t : Int) (cs : List Int) : Prop where
  hb : H b = some (.lst [.int r, .int k, .int s, .ref c, .int t])
  hc : H c = some (.lst (cs.map .int))
  bc : b ≠ c
  k0 : 0 ≤ k
def WB (b : Addr) : Wd where
  own H a := a = b ∨ ∃ r k s c t, H b = some (.lst [.int r, .int k, .int s, .ref c, .int t]) ∧ a = c
  iv H := ∃ c r k s t cs, PoolIs H b c r k s t cs
  trk := by
    rintro H a ⟨c, r, k, s, t, cs, B⟩ (rfl | ⟨r', k', s', c', t', e, rfl⟩)
    · exact ⟨_, B.hb⟩
    · rw [B.hb] at e
      injection e with e; injection e with e; injection e with _ e; injection e with _ e; injection e with _ e; injection e with e _; cases e
      exact ⟨_, B.hc⟩
  loc := by
    rintro H H' ⟨c, r, k, s, t, cs, B⟩ h
    have eb := h b (.inl rfl)
    have ec := h c (.inr ⟨r, k, s, c, t, B.hb, rfl⟩)
    refine ⟨⟨c, r, k, s, t, cs, eb.trans B.hb, ec.trans B.hc, B.bc, B.k0⟩, fun a ha => ?_⟩
    rcases ha with rfl | ⟨r', k', s', c', t', e, q⟩
    · exact .inl rfl
    · exact .inr ⟨r', k', s', c', t', eb ▸ e, q⟩
theorem ex_pool {H H2 : Hp} {b c : Addr} {r k s t r2 k2 s2 t2 : Int} {cs : List Int} (B : PoolIs H b c r k s t cs) (B2 : PoolIs H2 b c r2 k2 s2 t2 cs) (h : ∀ a, a ≠ b → H2 a = H a) : Ex (WB b) H H2 := by
  refine ⟨⟨_, _, _, _, _, _, B⟩, ⟨_, _, _, _, _, _, B2⟩, fun {a o} ha => ?_, fun {a o} ha => ?_⟩
  · have nb : a ≠ b := fun e => ha.2 (.inl e)
    have nc : a ≠ c := fun e => ha.2 (.inr ⟨r, k, s, c, t, B.hb, e⟩)
    refine ⟨(h a nb).trans ha.1, ?_⟩
    rintro (e | ⟨r', k', s', c', t', e, q⟩)
    · exact nb e
    · rw [B2.hb] at e
      injection e with e; injection e with e; injection e with _ e; injection e with _ e; injection e with _ e; injection e with e _; cases e
      exact nc q
  · by_cases nb : a = b
    · exact ⟨_, nb ▸ B2.hb⟩
    · exact ⟨_, (h a nb).trans ha⟩
/-! ### promises of the law's own -/
def sp_law_pool (K : PySem.W.Frag) : Sp := fun vs H Q _ => ∃ (a : Addr) (ns : List Int), vs = [.ref a] ∧ SqL K H a (ns.map V.int) ∧ ns.length ≤ 63 ∧ ∀ b H', (WB b).iv H' → Q (.ref b) H'
def sp_law_draw : Sp := fun vs H Q _ => ∃ (b : Addr) (many : Int), vs = [.ref b, .int many] ∧ 0 < many ∧ many < 1073741824 ∧ (WB b).iv H ∧ ∀ r H', Ex (WB b) H H' → 0 ≤ r → r < many → Q (.int r) H'
theorem cl_law_draw {b : Addr} {many : Int} {H : Hp} {Q : VK} {E : XK} (h1 : 0 < many) (h2 : many < 1073741824) (i : (WB b).iv H) (k : ∀ r H', Ex (WB b) H H' → 0 ≤ r → r < many → Q (.int r) H') : sp_law_draw ([.ref b, .int many] ++ []) H Q E := ⟨b, many, rfl, h1, h2, i, k⟩
def sp_law_is_integer : Sp := fun vs H Q _ => ∃ i, vs = [.int i] ∧ Q (.bl true) H
theorem cl_law_is_integer {z : Int} {H : Hp} {Q : VK} {E : XK} (k : Q (.bl true) H) : sp_law_is_integer ([.int z] ++ []) H Q E := ⟨z, rfl, k⟩
def sp_law_deeds : Sp := fun vs H Q _ => ∃ W : Wd, vs = [] ∧ W.iv H ∧ ∀ p H', Ex W H H' → At W H' p (.lst DL) → Q (.ref p) H'
theorem cl_law_deeds {W : Wd} {H : Hp} {Q : VK} {E : XK} (i : W.iv H) (k : ∀ p H', Ex W H H' → At W H' p (.lst DL) → Q (.ref p) H') : sp_law_deeds ([] ++ []) H Q E := ⟨W, rfl, i, k⟩
def signs : Str := " !\"#$&'()*+,-./0123456789:;<=>?@ABCDEFGHIJKLMNOPQRSTUVWXYZ[\\]^_`" ++ "abcdefghijklmnopqrstuvwxyz{|}~\t"
def sp_law_signs : Sp := fun vs H Q _ => vs = [] ∧ Q (.str signs) H
theorem cl_law_signs {H : Hp} {Q : VK} {E : XK} (k : Q (.str signs) H) : sp_law_signs ([] ++ []) H Q E := ⟨rfl, k⟩
def AB (row : List V) : Prop := ∀ x ∈ row, (∃ z, x = .int z) ∨ ∃ s, x = .str s
def sp_law_same_row : Sp := fun vs H Q _ => ∃ (W : Wd) (t d : Addr) (row : List V), vs = [.ref t, .ref d] ∧ At W H t (.tup row) ∧ At W H d (.lst row) ∧ AB row ∧ row.length ≤ 1000 ∧ Q (.bl true) H
theorem cl_law_same_row {W : Wd} {t d : Addr} {row : List V} {H : Hp} {Q : VK} {E : XK} (h1 : At W H t (.tup row)) (h2 : At W H d (.lst row)) (h3 : AB row) (h4 : row.length ≤ 1000) (k : Q (.bl true) H) : sp_law_same_row ([.ref t, .ref d] ++ []) H Q E := ⟨W, t, d, row, rfl, h1, h2, h3, h4, k⟩
abbrev LRows (W : Wd) (H : Hp) : List Addr → List (List V) → Prop := F2 fun r row => At W H r (.lst row)
def sp_law_same_program : Sp := fun vs H Q _ => ∃ (W : Wd) (t d : Addr) (rs ds : List Addr) (rows : List (List V)), vs = [.ref t, .ref d] ∧ At W H t (.tup (rs.map V.ref)) ∧ Rows W H rs rows ∧ At W H d (.lst (ds.map V.ref)) ∧ LRows W H ds rows ∧ (∀ row ∈ rows, AB row ∧ row.length ≤ 1000) ∧ rows.length ≤ 40000 ∧ Q (.bl true) H
def GoodU (us : List Str) : Prop := ∀ l ∈ us, isL l = true
def sp_law_label : Sp := fun vs H Q _ => ∃ (b u : Addr) (us : List Str), vs = [.ref b, .ref u] ∧ (WB b).iv H ∧ At (WB b) H u (.lst (us.map V.str)) ∧ us.length ≤ 40 ∧ ∀ l H', Ex (WB b) H H' → isL l = true → l ∉ us → Q (.str l) H'
theorem cl_law_label {b u : Addr} {us : List Str} {H : Hp} {Q : VK} {E : XK} (i : (WB b).iv H) (h : At (WB b) H u (.lst (us.map V.str))) (hl : us.length ≤ 40) (k : ∀ l H', Ex (WB b) H H' → isL l = true → l ∉ us → Q (.str l) H') : sp_law_label ([.ref b, .ref u] ++ []) H Q E := ⟨b, u, us, rfl, i, h, hl, k⟩
def sp_law_instruction : Sp := fun vs H Q _ => ∃ (b : Addr) (n : Int), vs = [.ref b, .int n] ∧ 0 < n ∧ n < 1073741824 ∧ (WB b).iv H ∧ ∀ p H' (it : It), Ex (WB b) H H' → At (WB b) H' p (.lst it.row) → it.Ok n → Q (.ref p) H'
theorem cl_law_instruction {b : Addr} {n : Int} {H : Hp} {Q : VK} {E : XK} (h1 : 0 < n) (h2 : n < 1073741824) (i : (WB b).iv H) (k : ∀ p H' (it : It), Ex (WB b) H H' → At (WB b) H' p (.lst it.row) → it.Ok n → Q (.ref p) H') : sp_law_instruction ([.ref b, .int n] ++ []) H Q E := ⟨b, n, rfl, h1, h2, i, k⟩
/-- a line of a gap -/
def Ig (g : Str) : Prop := (tl g = [] ∨ ∃ r, tl g = 35 :: r) ∧ 10 ∉ tl g ∧ g.length ≤ 20
def sp_law_gap : Sp := fun vs H Q _ => ∃ b : Addr, vs = [.ref b] ∧ (WB b).iv H ∧ ∀ p H' (gs : List Str), Ex (WB b) H H' → At (WB b) H' p (.lst (gs.map V.str)) → (∀ g ∈ gs, Ig g) → gs.length ≤ 2 → Q (.ref p) H'
theorem cl_law_gap {b : Addr} {H : Hp} {Q : VK} {E : XK} (i : (WB b).iv H) (k : ∀ p H' (gs : List Str), Ex (WB b) H H' → At (WB b) H' p (.lst (gs.map V.str)) → (∀ g ∈ gs, Ig g) → gs.length ≤ 2 → Q (.ref p) H') : sp_law_gap ([.ref b] ++ []) H Q E := ⟨b, rfl, i, k⟩
def sp_law_targets : Sp := fun vs H Q _ => ∃ (W : Wd) (p : Addr) (it : It) (n : Int), vs = [.ref p] ∧ W.iv H ∧ At W H p (.lst it.row) ∧ it.Ok n ∧ ∀ q H', Ex W H H' → H q = none → At W H' q (.lst (it.tg.map V.int)) → Q (.ref q) H'
theorem cl_law_targets {W : Wd} {p : Addr} {it : It} {n : Int} {H : Hp} {Q : VK} {E : XK} (i : W.iv H) (h : At W H p (.lst it.row)) (o : it.Ok n) (k : ∀ q H', Ex W H H' → H q = none → At W H' q (.lst (it.tg.map V.int)) → Q (.ref q) H') : sp_law_targets ([.ref p] ++ []) H Q E := ⟨W, p, it, n, rfl, i, h, o, k⟩
abbrev Its (W : Wd) (H : Hp) : List Addr → List It → Prop := F2 fun r it => At W H r (.lst (It.row it))
theorem Its.mono {W : Wd} {H H' : Hp} (e : Ex W H H') {rs : List Addr} {its : List It} (h : Its W H rs its) : Its W H' rs its := F2.mono (fun _ _ a => e.at_ a) h
abbrev Lbs (W : Wd) (H : Hp) : List Addr → List (List Str) → Prop := F2 fun q c => At W H q (.lst (c.map V.str))
theorem Lbs.mono {W : Wd} {H H' : Hp} (e : Ex W H H') {rs : List Addr} {its : List (List Str)} (h : Lbs W H rs its) : Lbs W H' rs its := F2.mono (fun _ _ a => e.at_ a) h
def sp_law_labels : Sp := fun vs H Q _ => ∃ (b p : Addr) (rs : List Addr) (its : List It), vs = [.ref b, .ref p] ∧ (WB b).iv H ∧ At (WB b) H p (.lst (rs.map V.ref)) ∧ Its (WB b) H rs its ∧ (∀ x ∈ its, It.Ok its.length x) ∧ its.length ≤ 10 ∧
  ∀ q H' qs cs, Ex (WB b) H H' → At (WB b) H' q (.lst (qs.map V.ref)) → Lbs (WB b) H' qs cs → LabOk its cs → Q (.ref q) H'
theorem cl_law_labels {b p : Addr} {rs : List Addr} {its : List It} {H : Hp} {Q : VK} {E : XK} (i : (WB b).iv H) (h : At (WB b) H p (.lst (rs.map V.ref))) (h2 : Its (WB b) H rs its) (h3 : ∀ x ∈ its, It.Ok its.length x) (h4 : its.length ≤ 10)
    (k : ∀ q H' qs cs, Ex (WB b) H H' → At (WB b) H' q (.lst (qs.map V.ref)) → Lbs (WB b) H' qs cs → LabOk its cs → Q (.ref q) H') : sp_law_labels ([.ref b, .ref p] ++ []) H Q E := ⟨b, p, rs, its, rfl, i, h, h2, h3, h4, k⟩
def sp_law_line : Sp := fun vs H Q _ => ∃ (b p q : Addr) (it : It) (n : Int) (qs : List Addr) (its : List It) (cs : List (List Str)), vs = [.ref b, .ref p, .ref q] ∧ (WB b).iv H ∧ At (WB b) H p (.lst it.row) ∧ it.Ok n ∧ n ≤ 10 ∧ it ∈ its ∧ At (WB b) H q (.lst (qs.map V.ref)) ∧ Lbs (WB b) H qs cs ∧ LabOk its cs ∧
  ∀ ws H', Ex (WB b) H H' → LineOf cs it ws → Q (.str (Txt.join " " (it.name :: ws))) H'
theorem cl_law_line {b p q : Addr} {it : It} {n : Int} {qs : List Addr} {its : List It} {cs : List (List Str)} {H : Hp} {Q : VK} {E : XK} (i : (WB b).iv H) (h : At (WB b) H p (.lst it.row)) (o : it.Ok n) (hn : n ≤ 10) (hm : it ∈ its) (hq : At (WB b) H q (.lst (qs.map V.ref))) (hl : Lbs (WB b) H qs cs) (L : LabOk its cs)
    (k : ∀ ws H', Ex (WB b) H H' → LineOf cs it ws → Q (.str (Txt.join " " (it.name :: ws))) H') : sp_law_line ([.ref b, .ref p, .ref q] ++ []) H Q E := ⟨b, p, q, it, n, qs, its, cs, rfl, i, h, o, hn, hm, hq, hl, L, k⟩
def Ln.Cl : Ln → Prop
  | .ig g => Ig g | .lb l => isL l = true | .op _ _ _ => True
structure LinesOf (its : List It) (cs : List (List Str)) (place more : Nat) (lns : List Ln) : Prop where
  ops : F2 (OpOf cs place more) (dueU its place more (its.length + 1)) (opsF lns)
  labs : labsF 0 lns = LB cs place more its.length
  cls : ∀ x ∈ lns, x.Cl
  aft : ∀ (i : Nat) (l : Str), lns[i]? = some (.lb l) → ∃ j x, i < j ∧ lns[j]? = some x ∧ x.isOp = true
  len : lns.length ≤ 5000
def sp_law_lines : Sp := fun vs H Q _ => ∃ (b p q : Addr) (rs qs : List Addr) (its : List It) (cs : List (List Str)) (place more : Nat), vs = [.ref b, .ref p, .ref q, .int place, .int more] ∧ (WB b).iv H ∧ At (WB b) H p (.lst (rs.map V.ref)) ∧ Its (WB b) H rs its ∧ (∀ x ∈ its, It.Ok its.length x) ∧ its.length ≤ 10 ∧
  At (WB b) H q (.lst (qs.map V.ref)) ∧ Lbs (WB b) H qs cs ∧ LabOk its cs ∧ place ≤ its.length ∧ more ≤ 4000 ∧ ∀ a H' lns, Ex (WB b) H H' → At (WB b) H' a (.lst (TLn lns)) → LinesOf its cs place more lns → Q (.ref a) H'
theorem cl_law_lines {b p q : Addr} {rs qs : List Addr} {its : List It} {cs : List (List Str)} {place more : Nat} {H : Hp} {Q : VK} {E : XK} (i : (WB b).iv H) (h1 : At (WB b) H p (.lst (rs.map V.ref))) (h2 : Its (WB b) H rs its) (h3 : ∀ x ∈ its, It.Ok its.length x) (h4 : its.length ≤ 10)
    (h5 : At (WB b) H q (.lst (qs.map V.ref))) (h6 : Lbs (WB b) H qs cs) (h7 : LabOk its cs) (h8 : place ≤ its.length) (h9 : more ≤ 4000) (k : ∀ a H' lns, Ex (WB b) H H' → At (WB b) H' a (.lst (TLn lns)) → LinesOf its cs place more lns → Q (.ref a) H') :
    sp_law_lines ([.ref b, .ref p, .ref q, .int place, .int more] ++ []) H Q E := ⟨b, p, q, rs, qs, its, cs, place, more, rfl, i, h1, h2, h3, h4, h5, h6, h7, h8, h9, k⟩
def sp_law_due : Sp := fun vs H Q _ => ∃ (W : Wd) (p : Addr) (rs : List Addr) (its : List It) (place more : Nat), vs = [.ref p, .int place, .int more] ∧ W.iv H ∧ At W H p (.lst (rs.map V.ref)) ∧ Its W H rs its ∧ (∀ x ∈ its, It.Ok its.length x) ∧ its.length ≤ 10 ∧ more ≤ 4000 ∧
  ∀ a H' ds, Ex W H H' → At W H' a (.lst (ds.map V.ref)) → LRows W H' ds ((dueU its place more (its.length + 1)).map fun x => (x.sh place more).row) → Q (.ref a) H'
theorem cl_law_due {W : Wd} {p : Addr} {rs : List Addr} {its : List It} {place more : Nat} {H : Hp} {Q : VK} {E : XK} (i : W.iv H) (h1 : At W H p (.lst (rs.map V.ref))) (h2 : Its W H rs its) (h3 : ∀ x ∈ its, It.Ok its.length x) (h4 : its.length ≤ 10) (h5 : more ≤ 4000)
    (k : ∀ a H' ds, Ex W H H' → At W H' a (.lst (ds.map V.ref)) → LRows W H' ds ((dueU its place more (its.length + 1)).map fun x => (x.sh place more).row) → Q (.ref a) H') : sp_law_due ([.ref p, .int place, .int more] ++ []) H Q E := ⟨W, p, rs, its, place, more, rfl, i, h1, h2, h3, h4, h5, k⟩
def spLaw (K : PySem.W.Frag) : Sp := fun vs H Q _ => ∃ (a : Addr) (ns : List Int), vs = [.ref a] ∧ SqL K H a (ns.map V.int) ∧ ns.length ≤ 63 ∧ ∀ H', Q (.bl true) H'
structure Tx (w : World) (K : PySem.W.Frag) (mg : Str → Option Value) where
  f_is_integer : Addr
  fd_is_integer : FuncData
  F_is_integer : Fun K "is_integer" "is_integer" s_is_integer f_is_integer fd_is_integer
  b_is_integer : Binds K fd_is_integer ["value"] []
  g_is_integer : mg "is_integer" = some (.ref f_is_integer)
  f_bound : Addr
  fd_bound : FuncData
  F_bound : Fun K "_bound" "_bound" s_bound f_bound fd_bound
  b_bound : Binds K fd_bound ["role", "length"] []
  g_bound : mg "_bound" = some (.ref f_bound)
  f_fits : Addr
  fd_fits : FuncData
  F_fits : Fun K "_fits" "_fits" s_fits f_fits fd_fits
  b_fits : Binds K fd_fits ["part", "role", "length"] []
  g_fits : mg "_fits" = some (.ref f_fits)
  f_is_label : Addr
  fd_is_label : FuncData
  F_is_label : Fun K "_is_label" "_is_label" s_is_label f_is_label fd_is_label
  b_is_label : Binds K fd_is_label ["word"] []
  g_is_label : mg "_is_label" = some (.ref f_is_label)
  f_label_in : Addr
  fd_label_in : FuncData
  F_label_in : Fun K "_label_in" "_label_in" s_label_in f_label_in fd_label_in
  b_label_in : Binds K fd_label_in ["line"] []
  g_label_in : mg "_label_in" = some (.ref f_label_in)
  f_is_ignored : Addr
  fd_is_ignored : FuncData
  F_is_ignored : Fun K "_is_ignored" "_is_ignored" s_is_ignored f_is_ignored fd_is_ignored
  b_is_ignored : Binds K fd_is_ignored ["line"] []
  g_is_ignored : mg "_is_ignored" = some (.ref f_is_ignored)
  f_number_in : Addr
  fd_number_in : FuncData
  F_number_in : Fun K "_number_in" "_number_in" s_number_in f_number_in fd_number_in
  b_number_in : Binds K fd_number_in ["word"] []
  g_number_in : mg "_number_in" = some (.ref f_number_in)
  f_part_in : Addr
  fd_part_in : FuncData
  F_part_in : Fun K "_part_in" "_part_in" s_part_in f_part_in fd_part_in
  b_part_in : Binds K fd_part_in ["word", "role", "labels"] []
  g_part_in : mg "_part_in" = some (.ref f_part_in)
  f_instruction_in : Addr
  fd_instruction_in : FuncData
  F_instruction_in : Fun K "_instruction_in" "_instruction_in" s_instruction_in f_instruction_in fd_instruction_in
  b_instruction_in : Binds K fd_instruction_in ["line", "labels"] []
  g_instruction_in : mg "_instruction_in" = some (.ref f_instruction_in)
  f_labels_given : Addr
  fd_labels_given : FuncData
  F_labels_given : Fun K "_labels_given" "_labels_given" s_labels_given f_labels_given fd_labels_given
  b_labels_given : Binds K fd_labels_given ["lines"] []
  g_labels_given : mg "_labels_given" = some (.ref f_labels_given)
  f_last_instruction : Addr
  fd_last_instruction : FuncData
  F_last_instruction : Fun K "_last_instruction" "_last_instruction" s_last_instruction f_last_instruction fd_last_instruction
  b_last_instruction : Binds K fd_last_instruction ["lines"] []
  g_last_instruction : mg "_last_instruction" = some (.ref f_last_instruction)
  f_assemble : Addr
  fd_assemble : FuncData
  F_assemble : Fun K "assemble" "assemble" s_assemble f_assemble fd_assemble
  b_assemble : Binds K fd_assemble ["text"] []
  g_assemble : mg "assemble" = some (.ref f_assemble)
  f_law_pool : Addr
  fd_law_pool : FuncData
  F_law_pool : Fun K "_law_pool" "_law_pool" s_law_pool f_law_pool fd_law_pool
  b_law_pool : Binds K fd_law_pool ["script"] []
  g_law_pool : mg "_law_pool" = some (.ref f_law_pool)
  f_law_draw : Addr
  fd_law_draw : FuncData
  F_law_draw : Fun K "_law_draw" "_law_draw" s_law_draw f_law_draw fd_law_draw
  b_law_draw : Binds K fd_law_draw ["pool", "many"] []
  g_law_draw : mg "_law_draw" = some (.ref f_law_draw)
  f_law_is_integer : Addr
  fd_law_is_integer : FuncData
  F_law_is_integer : Fun K "_law_is_integer" "_law_is_integer" s_law_is_integer f_law_is_integer fd_law_is_integer
  b_law_is_integer : Binds K fd_law_is_integer ["thing"] []
  g_law_is_integer : mg "_law_is_integer" = some (.ref f_law_is_integer)
  f_law_deeds : Addr
  fd_law_deeds : FuncData
  F_law_deeds : Fun K "_law_deeds" "_law_deeds" s_law_deeds f_law_deeds fd_law_deeds
  b_law_deeds : Binds K fd_law_deeds [] []
  g_law_deeds : mg "_law_deeds" = some (.ref f_law_deeds)
  f_law_signs : Addr
  fd_law_signs : FuncData
  F_law_signs : Fun K "_law_signs" "_law_signs" s_law_signs f_law_signs fd_law_signs
  b_law_signs : Binds K fd_law_signs [] []
  g_law_signs : mg "_law_signs" = some (.ref f_law_signs)
  f_law_same_row : Addr
  fd_law_same_row : FuncData
  F_law_same_row : Fun K "_law_same_row" "_law_same_row" s_law_same_row f_law_same_row fd_law_same_row
  b_law_same_row : Binds K fd_law_same_row ["told", "due"] []
  g_law_same_row : mg "_law_same_row" = some (.ref f_law_same_row)
  f_law_same_program : Addr
  fd_law_same_program : FuncData
  F_law_same_program : Fun K "_law_same_program" "_law_same_program" s_law_same_program f_law_same_program fd_law_same_program
  b_law_same_program : Binds K fd_law_same_program ["told", "due"] []
  g_law_same_program : mg "_law_same_program" = some (.ref f_law_same_program)
  f_law_label : Addr
  fd_law_label : FuncData
  F_law_label : Fun K "_law_label" "_law_label" s_law_label f_law_label fd_law_label
  b_law_label : Binds K fd_law_label ["pool", "used"] []
  g_law_label : mg "_law_label" = some (.ref f_law_label)
  f_law_instruction : Addr
  fd_law_instruction : FuncData
  F_law_instruction : Fun K "_law_instruction" "_law_instruction" s_law_instruction f_law_instruction fd_law_instruction
  b_law_instruction : Binds K fd_law_instruction ["pool", "length"] []
  g_law_instruction : mg "_law_instruction" = some (.ref f_law_instruction)
  f_law_gap : Addr
  fd_law_gap : FuncData
  F_law_gap : Fun K "_law_gap" "_law_gap" s_law_gap f_law_gap fd_law_gap
  b_law_gap : Binds K fd_law_gap ["pool"] []
  g_law_gap : mg "_law_gap" = some (.ref f_law_gap)
  f_law_targets : Addr
  fd_law_targets : FuncData
  F_law_targets : Fun K "_law_targets" "_law_targets" s_law_targets f_law_targets fd_law_targets
  b_law_targets : Binds K fd_law_targets ["item"] []
  g_law_targets : mg "_law_targets" = some (.ref f_law_targets)
  f_law_labels : Addr
  fd_law_labels : FuncData
  F_law_labels : Fun K "_law_labels" "_law_labels" s_law_labels f_law_labels fd_law_labels
  b_law_labels : Binds K fd_law_labels ["pool", "items"] []
  g_law_labels : mg "_law_labels" = some (.ref f_law_labels)
  f_law_line : Addr
  fd_law_line : FuncData
  F_law_line : Fun K "_law_line" "_law_line" s_law_line f_law_line fd_law_line
  b_law_line : Binds K fd_law_line ["pool", "item", "labels"] []
  g_law_line : mg "_law_line" = some (.ref f_law_line)
  f_law_lines : Addr
  fd_law_lines : FuncData
  F_law_lines : Fun K "_law_lines" "_law_lines" s_law_lines f_law_lines fd_law_lines
  b_law_lines : Binds K fd_law_lines ["pool", "items", "labels", "place", "more"] []
  g_law_lines : mg "_law_lines" = some (.ref f_law_lines)
  f_law_due : Addr
  fd_law_due : FuncData
  F_law_due : Fun K "_law_due" "_law_due" s_law_due f_law_due fd_law_due
  b_law_due : Binds K fd_law_due ["items", "place", "more"] []
  g_law_due : mg "_law_due" = some (.ref f_law_due)
  a_DEEDS : Addr
  g_DEEDS : mg "DEEDS" = some (.ref a_DEEDS)
  q_DEEDS : ∀ H : Hp, SqT K H a_DEEDS [.str "halt", .str "until", .str "clock", .str "look", .str "claim", .str "free", .str "copy", .str "drop", .str "revoke", .str "map", .str "unmap", .str "send", .str "take", .str "trysend", .str "trytake", .str "call", .str "reply", .str "ring", .str "await", .str "tryawait", .str "ack", .str "give", .str "pull"]
  t_DIGITS : Tok
  g_DIGITS : mg "DIGITS" = some (.str "0123456789" t_DIGITS)
  t_LONGEST : Tok
  g_LONGEST : mg "LONGEST" = some (.int 4000 t_LONGEST)
  t_LONGEST_LABEL : Tok
  g_LONGEST_LABEL : mg "LONGEST_LABEL" = some (.int 8 t_LONGEST_LABEL)
  t_LONGEST_NUMBER : Tok
  g_LONGEST_NUMBER : mg "LONGEST_NUMBER" = some (.int 7 t_LONGEST_NUMBER)
  t_REGISTERS : Tok
  g_REGISTERS : mg "REGISTERS" = some (.int 8 t_REGISTERS)
  a_ROLES : Addr
  es_ROLES : Array DictEntry
  n_ROLES : Nat
  g_ROLES : mg "ROLES" = some (.ref a_ROLES)
  D_ROLES : KDict K w a_ROLES es_ROLES n_ROLES
  r_ROLES_set : Addr
  i_ROLES_set : PySem.W.nsIn K a_ROLES "set" = some (some (.ref r_ROLES_set))
  q_ROLES_set : ∀ H : Hp, SqT K H r_ROLES_set [.str "register", .str "word"]
  r_ROLES_move : Addr
  i_ROLES_move : PySem.W.nsIn K a_ROLES "move" = some (some (.ref r_ROLES_move))
  q_ROLES_move : ∀ H : Hp, SqT K H r_ROLES_move [.str "register", .str "register"]
  r_ROLES_add : Addr
  i_ROLES_add : PySem.W.nsIn K a_ROLES "add" = some (some (.ref r_ROLES_add))
  q_ROLES_add : ∀ H : Hp, SqT K H r_ROLES_add [.str "register", .str "register"]
  r_ROLES_sub : Addr
  i_ROLES_sub : PySem.W.nsIn K a_ROLES "sub" = some (some (.ref r_ROLES_sub))
  q_ROLES_sub : ∀ H : Hp, SqT K H r_ROLES_sub [.str "register", .str "register"]
  r_ROLES_load : Addr
  i_ROLES_load : PySem.W.nsIn K a_ROLES "load" = some (some (.ref r_ROLES_load))
  q_ROLES_load : ∀ H : Hp, SqT K H r_ROLES_load [.str "register", .str "register"]
  r_ROLES_store : Addr
  i_ROLES_store : PySem.W.nsIn K a_ROLES "store" = some (some (.ref r_ROLES_store))
  q_ROLES_store : ∀ H : Hp, SqT K H r_ROLES_store [.str "register", .str "register"]
  r_ROLES_jump : Addr
  i_ROLES_jump : PySem.W.nsIn K a_ROLES "jump" = some (some (.ref r_ROLES_jump))
  q_ROLES_jump : ∀ H : Hp, SqT K H r_ROLES_jump [.str "target"]
  r_ROLES_zero : Addr
  i_ROLES_zero : PySem.W.nsIn K a_ROLES "zero" = some (some (.ref r_ROLES_zero))
  q_ROLES_zero : ∀ H : Hp, SqT K H r_ROLES_zero [.str "register", .str "target"]
  r_ROLES_deed : Addr
  i_ROLES_deed : PySem.W.nsIn K a_ROLES "deed" = some (some (.ref r_ROLES_deed))
  q_ROLES_deed : ∀ H : Hp, SqT K H r_ROLES_deed [.str "deed"]
  t_SMALL : Tok
  g_SMALL : mg "SMALL" = some (.str "abcdefghijklmnopqrstuvwxyz" t_SMALL)
  t_WORD : Tok
  g_WORD : mg "WORD" = some (.int 1048576 t_WORD)
  n_abs : mg "abs" = none
  n_all : mg "all" = none
  n_bool : mg "bool" = none
  n_enumerate : mg "enumerate" = none
  n_int : mg "int" = none
  n_isinstance : mg "isinstance" = none
  n_len : mg "len" = none
  n_list : mg "list" = none
  n_range : mg "range" = none
  n_str : mg "str" = none
  n_tuple : mg "tuple" = none

/-! ### what the top has written -/
section
variable {w : World} {K : PySem.W.Frag} {mg : Str → Option Value}
theorem roles_of (T : Tx w K mg) {n : Str} {rs : List Str} (h : Rl n rs) : ∃ r, PySem.W.nsIn K T.a_ROLES n = some (some (.ref r)) ∧ ∀ H : Hp, SqT K H r (rs.map V.str) := by
  cases h with
  | set => exact ⟨_, T.i_ROLES_set, T.q_ROLES_set⟩
  | move => exact ⟨_, T.i_ROLES_move, T.q_ROLES_move⟩
  | add => exact ⟨_, T.i_ROLES_add, T.q_ROLES_add⟩
  | sub => exact ⟨_, T.i_ROLES_sub, T.q_ROLES_sub⟩
  | load => exact ⟨_, T.i_ROLES_load, T.q_ROLES_load⟩
  | store => exact ⟨_, T.i_ROLES_store, T.q_ROLES_store⟩
  | jump => exact ⟨_, T.i_ROLES_jump, T.q_ROLES_jump⟩
  | zero => exact ⟨_, T.i_ROLES_zero, T.q_ROLES_zero⟩
  | deed => exact ⟨_, T.i_ROLES_deed, T.q_ROLES_deed⟩
end
/-! the forward steps as a tactic (walk_at "..": the library's own syntax) -/
local macro_rules | `(tactic| walk_at "lw at") => `(tactic| first | assumption | (refine' Ex.at_ ?zze ?zzh; (case zze => assumption); (case zzh => walk_at "lw at")))
local macro_rules | `(tactic| walk_at "lw iv") => `(tactic| first | assumption | exact Ex.iv (by assumption))
local macro_rules | `(tactic| walk_at "lw ex") => `(tactic| first | assumption | exact Ex.refl (by walk_at "lw iv") | (refine' Ex.trans ?zza ?zzb; (case zzb => assumption); (case zza => walk_at "lw ex")))
local macro_rules | `(tactic| walk_at "lw ix") => `(tactic| first | rfl | exact at_0 | exact ix_0 (by simp; done))
local macro_rules | `(tactic| walk_at "lw side") => `(tactic| first | rfl | assumption | decide | omega | decide +kernel | (refine And.intro ?_ ?_ <;> decide +kernel) | exact ⟨by omega, by omega⟩ | exact Or.inr (by decide) | exact Or.inl (by decide) | exact Or.inl ⟨by omega, by omega⟩ | exact Nat.le_trans (cut_len _ _ _) (by first | omega | (simp only [List.length_cons, List.length_nil]; omega)) | (refine Nat.le_trans (Nat.add_le_add (cut_len _ _ _) (cut_len _ _ _)) ?_; decide) | (simp; done) | (simp only [List.length_cons, List.length_nil, List.length_append, List.length_map]; omega) | (simp only [List.length_cons, List.length_nil, List.length_append]; omega) | (simp; omega) | (simp at *; omega))
local macro_rules | `(tactic| walk_at "lw rd") => `(tactic| with_reducible first
  | refine rd_seq ?_ | refine rd_asg ?_ | refine rd_asgG ?_ | refine rd_drop ?_ | refine rd_ret ?_ | refine rd_retN ?_ | refine rd_ifS ?_ | refine rd_c ?_ | refine rd_op ?_ | refine rd_un ?_
  | (refine' rd_var ?zzr ?_; (case zzr => with_unfolding_all rfl)) | refine rd_I0 ?_ | (refine' rd_I ?zzr ?_; (case zzr => with_unfolding_all walk_at "lw side"))
  | refine rd_U ?_ | (refine' rd_eq ?zzr ?_; (case zzr => with_unfolding_all rfl)) | (refine' rd_ne ?zzr ?_; (case zzr => with_unfolding_all rfl)) | refine rd_isN ?_ | refine rd_notN ?_
  | refine rd_test ?_ | refine rd_B ?_ | refine rd_bl ?_ | refine rd_blV ?_ | refine rd_and ?_ | refine rd_or ?_ | refine rd_not ?_ | refine rd_andV ?_ | refine rd_orV ?_ | refine rd_notV ?_ | refine rd_ifE ?_
  | refine rd_nil ?_ | refine rd_cons ?_ | refine rd_call ?_ | refine rd_cb ?_ | refine rd_tupU ?_ | refine rd_lstU ?_
  | (refine' rd_new (by with_unfolding_all walk_at "lw iv") (by with_unfolding_all walk_at "lw side") ?_; intro _ _ _ _ _) | (refine' rd_new1 (by with_unfolding_all walk_at "lw iv") ?_; intro _ _ _ _ _)
  | (refine' rd_ixL ?zzh ?zzr ?_; (case zzh => with_unfolding_all walk_at "lw at"); (case zzr => with_unfolding_all walk_at "lw ix")) | (refine' rd_ixT ?zzh ?zzr ?_; (case zzh => with_unfolding_all walk_at "lw at"); (case zzr => with_unfolding_all walk_at "lw ix"))
  | (refine' rd_len ?zzh ?_; (case zzh => with_unfolding_all walk_at "lw at")) | (refine' rd_lenT ?zzh ?_; (case zzh => with_unfolding_all walk_at "lw at"))
  | refine rd_int ?_ | refine rd_intB ?_ | refine rd_abs ?_ | refine rd_max2 ?_ | refine rd_min2 ?_
  | (refine' rd_lens ?zzr ?_; (case zzr => with_unfolding_all walk_at "lw side")) | (refine' rd_adds ?zzr ?_; (case zzr => with_unfolding_all walk_at "lw side"))
  | refine rd_nopart ?_ | refine rd_part ?_ | refine rd_partI ?_ | refine rd_sl ?_
  | (refine' rd_slL (by with_unfolding_all walk_at "lw iv") ?zzh ?_; (case zzh => with_unfolding_all walk_at "lw at"); intro _ _ _ _ _)
  | (refine' rd_list (by with_unfolding_all walk_at "lw iv") ?zzh ?_; (case zzh => with_unfolding_all walk_at "lw at"); intro _ _ _ _ _)
  | (refine' rd_listT (by with_unfolding_all walk_at "lw iv") ?zzh ?_; (case zzh => with_unfolding_all walk_at "lw at"); intro _ _ _ _ _)
  | (refine' rd_tuple (by with_unfolding_all walk_at "lw iv") ?zzh ?_; (case zzh => with_unfolding_all walk_at "lw at"); intro _ _ _ _ _)
  | (refine' rd_cat (by with_unfolding_all walk_at "lw iv") ?zzh ?zzk ?zzr ?_; (case zzh => with_unfolding_all walk_at "lw at"); (case zzk => with_unfolding_all walk_at "lw at"); (case zzr => with_unfolding_all walk_at "lw side"); intro _ _ _ _ _)
  | refine rd_lc ?_ | refine rd_lcT ?_ | (refine' rd_any ?zzh ?_; (case zzh => with_unfolding_all walk_at "lw at")) | (refine' rd_sum ?zzh ?_; (case zzh => with_unfolding_all walk_at "lw at"))
  | (refine' rd_inK ?zzh ?zzf ?zzg ?_; (case zzh => with_unfolding_all walk_at "lw kt"); (case zzf => with_unfolding_all rfl); (case zzg => with_unfolding_all rfl))
  | (refine' rd_niK ?zzh ?zzf ?zzg ?_; (case zzh => with_unfolding_all walk_at "lw kt"); (case zzf => with_unfolding_all rfl); (case zzg => with_unfolding_all rfl))
  | (refine' rd_inT ?zzh ?zzf ?zzg ?_; (case zzh => with_unfolding_all walk_at "lw at"); (case zzf => with_unfolding_all rfl); (case zzg => with_unfolding_all rfl))
  | (refine' rd_niT ?zzh ?zzf ?zzg ?_; (case zzh => with_unfolding_all walk_at "lw at"); (case zzf => with_unfolding_all rfl); (case zzg => with_unfolding_all rfl))
  | (refine' rd_inL ?zzh ?zzf ?zzg ?_; (case zzh => with_unfolding_all walk_at "lw at"); (case zzf => with_unfolding_all rfl); (case zzg => with_unfolding_all rfl))
  | (refine' rd_niL ?zzh ?zzf ?zzg ?_; (case zzh => with_unfolding_all walk_at "lw at"); (case zzf => with_unfolding_all rfl); (case zzg => with_unfolding_all rfl))
  | (refine' rd_slTn (by with_unfolding_all walk_at "lw iv") ?zzh ?zzn ?_; (case zzh => with_unfolding_all walk_at "lw at"); (case zzn => with_unfolding_all (intro zzi; have zzq := zzi.1; simp [HT.sIx] at zzq)); intro _ _ _ _ _)
  | (refine' rd_gtup ?zzh ?zze ?_; (case zzh => with_unfolding_all walk_at "lw at"); (case zze => with_unfolding_all rfl)) | refine rd_gcons ?_ | refine rd_gnil ?_ | (refine' rd_gconsE ?zze ?_; (case zze => with_unfolding_all rfl)) | (refine' rd_gnilE ?zze ?_; (case zze => with_unfolding_all rfl)) | (refine' rd_isiY ?zzt ?zze ?_; (case zzt => with_unfolding_all walk_at "lw ty"); (case zze => with_unfolding_all decide +kernel)) | (refine' rd_isiN ?zzt ?zze ?_; (case zzt => with_unfolding_all walk_at "lw ty"); (case zze => with_unfolding_all decide +kernel)) | refine rd_gname ?_
  | refine rd_forL ?_ | refine rd_forR1 ?_ | refine rd_forR2 ?_ | (refine' rd_forR1a ?zza ?zzb ?_; (case zza => with_unfolding_all walk_at "lw side"); (case zzb => with_unfolding_all walk_at "lw side")) | (refine' rd_forLa ?zzh ?_; (case zzh => with_unfolding_all walk_at "lw at"))
  | (refine' rd_ixM ?zzh ?zzr ?zzs ?_; (case zzh => with_unfolding_all walk_at "lw at"); (case zzr => with_unfolding_all omega); (case zzs => with_unfolding_all walk_at "lw side"); intro _ _)
  | refine rd_gsub ?_ | (refine' rd_ixLr ?zzh ?zzr ?_; (case zzh => assumption); (case zzr => with_unfolding_all walk_at "lw ix")) | (refine' rd_setr ?zzh ?zzr ?_; (case zzh => assumption); (case zzr => with_unfolding_all walk_at "lw ix"); intro _ _ _) | (refine' rd_lenr ?zzh ?_; (case zzh => assumption))
  | (refine' rd_append ?zze ?zzf ?zzh ?zzr ?_; (case zzf => assumption); (case zze => with_unfolding_all walk_at "lw ex"); (case zzh => with_unfolding_all walk_at "lw at"); (case zzr => with_unfolding_all walk_at "lw side"); intro _ _ _ _)
  | refine rd_bm ?_ | (refine' rd_tyL ?zzh ?_; (case zzh => with_unfolding_all walk_at "lw at")) | refine rd_next ?_ | refine rd_brk ?_ | refine rd_cont ?_)
local macro_rules | `(tactic| walk_at "lw go") => `(tactic| repeat walk_at "lw rd")
local macro_rules | `(tactic| walk_at "lw ai") => `(tactic| with_reducible first | assumption | exact AI.one _ | exact AI.nil | exact AI.of _ | exact AI.cut (by walk_at "lw ai") | exact AI.app (by walk_at "lw ai") (by walk_at "lw ai"))
local macro_rules | `(tactic| walk_at "lw as") => `(tactic| with_reducible first | assumption | exact AS.nil | exact AS.of _ | (refine' AS.cons ?zzx; (case zzx => walk_at "lw as")) | (refine' AS.cut ?zzx; (case zzx => walk_at "lw as")) | (refine' AS.app ?zzx ?zzy; (case zzx => walk_at "lw as"); (case zzy => walk_at "lw as")))
local macro_rules | `(tactic| walk_at "lw ty") => `(tactic| first | exact .base (.int _) | exact .base (.str _) | exact .base (.bl _) | exact .base .non | exact .base (.lst (At.raw (by walk_at "lw at"))) | exact .base (.tup (At.raw (by walk_at "lw at"))))
local macro_rules | `(tactic| walk_at "lw kt") => `(tactic| fail)
local macro_rules | `(tactic| walk_at "lw if") => `(tactic| with_reducible first
  | refine iteNT ?_ | refine iteNF ?_ | refine iteT ?_ | refine iteF ?_
  | (refine' ifS_yes ?zzr ?_; (case zzr => with_unfolding_all first | assumption | decide +kernel)) | (refine' ifS_no ?zzr ?_; (case zzr => with_unfolding_all first | assumption | decide +kernel))
  | (refine' ifSn_no ?zzr ?_; (case zzr => with_unfolding_all first | assumption | decide +kernel)) | (refine' ifSn_yes ?zzr ?_; (case zzr => with_unfolding_all first | assumption | decide +kernel))
  | (refine' ifI_yes ?zzr ?_; (case zzr => with_unfolding_all omega)) | (refine' ifI_no ?zzr ?_; (case zzr => with_unfolding_all omega))
  | (refine' ifIn_no ?zzr ?_; (case zzr => with_unfolding_all omega)) | (refine' ifIn_yes ?zzr ?_; (case zzr => with_unfolding_all omega))
  | (refine' ifS ?_ ?_ <;> intro zze <;> try subst zze) | (refine' ifSn ?_ ?_ <;> intro zze <;> try subst zze) | (refine' ifI ?_ ?_ <;> intro zze <;> try subst zze) | (refine' ifIn ?_ ?_ <;> intro zze <;> try subst zze)
  | (refine' ifD_yes ?zzr ?_; (case zzr => with_unfolding_all omega)) | (refine' ifD_no ?zzr ?_; (case zzr => with_unfolding_all omega))
  | (refine' ifD ?_ ?_ <;> intro zze) | (refine' ifN ?_ ?_ <;> intro zze) | (refine' iteT ?_) | (refine' iteF ?_) | (refine' ifB ?_ ?_ <;> intro zze) | (refine' ifNB ?_ ?_ <;> intro zze))
local macro_rules | `(tactic| walk_at "lw all") => `(tactic| repeat' (first | walk_at "lw rd" | walk_at "lw if"))

local macro_rules | `(tactic| walk_at "lw rd") => `(tactic| with_reducible first
  | refine rd_chain ?_ | refine rd_yes ?_ | refine rd_forS ?_ | refine rd_srcS ?_ | refine rd_forT ?_ | refine rd_forE ?_ | refine rd_forET ?_ | refine rd_lcS ?_ | refine rd_lcR ?_
  | (refine' rd_srcT ?zzh ?_; (case zzh => with_unfolding_all walk_at "lw at"))
  | (refine' rd_srcE ?zzh ?zza ?zzb ?_; (case zzh => with_unfolding_all walk_at "lw at"); (case zza => with_unfolding_all decide); (case zzb => with_unfolding_all decide))
  | (refine' rd_srcR ?zza ?zzb ?_; (case zza => with_unfolding_all walk_at "lw side"); (case zzb => with_unfolding_all walk_at "lw side"))
  | (refine' rd_dnew (by with_unfolding_all walk_at "lw iv") ?_; intro _ _ _ _ _) | refine rd_dget1 ?_ | (refine' rd_isD ?zzh ?_; (case zzh => with_unfolding_all walk_at "lw at")) | (refine' rd_dgetS ?zzh ?_; (case zzh => with_unfolding_all walk_at "lw at"))
  | refine rd_din ?_ | refine rd_dnin ?_ | (refine' rd_dinS ?zzh ?_; (case zzh => with_unfolding_all walk_at "lw at")) | refine rd_dput ?_ | refine rd_dsetd ?_
  | (refine' rd_dputS ?zze ?zzf ?zzh ?zzr ?_; (case zzf => assumption); (case zze => with_unfolding_all walk_at "lw ex"); (case zzh => with_unfolding_all walk_at "lw at"); (case zzr => with_unfolding_all walk_at "lw side"); intro _ _ _ _)
  | refine rd_ends ?_ | refine rd_starts ?_ | refine rd_find ?_ | refine rd_tyS ?_ | refine rd_inSg ?_ | refine rd_ninSg ?_ | refine rd_strS ?_
  | (refine' rd_slS ?zzr ?_; (case zzr => with_unfolding_all walk_at "lw side")) | (refine' rd_ixS ?zzr ?zzs ?_; (case zzr => with_unfolding_all walk_at "lw side"); (case zzs => with_unfolding_all walk_at "lw ixs"))
  | (refine' rd_split (by with_unfolding_all walk_at "lw iv") ?zza ?zzr ?_; (case zza => with_unfolding_all decide +kernel); (case zzr => with_unfolding_all walk_at "lw side"); intro _ _ _ _ _)
  | (refine' rd_rep (by with_unfolding_all walk_at "lw iv") ?zzh ?zza ?zzb ?zzr ?_; (case zzh => with_unfolding_all walk_at "lw at"); (case zza => with_unfolding_all walk_at "lw side"); (case zzb => with_unfolding_all walk_at "lw side"); (case zzr => with_unfolding_all walk_at "lw side"); intro _ _ _ _ _))
local macro_rules | `(tactic| walk_at "lw ixs") => `(tactic| first | assumption | rfl)
local macro_rules | `(tactic| walk_at "lw if") => `(tactic| with_reducible first | (refine' ifB_yes ?zzr ?_; (case zzr => assumption)) | (refine' ifB_no ?zzr ?_; (case zzr => assumption)) | (refine' ifNB_yes ?zzr ?_; (case zzr => assumption)) | (refine' ifNB_no ?zzr ?_; (case zzr => assumption)) | fail)
local macro_rules | `(tactic| walk_at "lw ix") => `(tactic| assumption)

local macro_rules | `(tactic| walk_at "lw rd") => `(tactic| with_reducible first
  | refine cl_is_integer ?_ | refine cl_bound ?_ | refine cl_is_ignored ?_ | (refine' cl_fits ?zza ?_; (case zza => with_unfolding_all first | assumption | decide +kernel))
  | (refine' cl_is_label ?zza ?zzi ?_; (case zza => with_unfolding_all walk_at "lw side"); (case zzi => with_unfolding_all walk_at "lw iv"); intro _ _)
  | (refine' cl_label_in ?zza ?zzi ?_; (case zza => with_unfolding_all walk_at "lw side"); (case zzi => with_unfolding_all walk_at "lw iv"); intro _ _))
local macro_rules | `(tactic| walk_at "lw kt") => `(tactic| exact Tx.q_DEEDS (by assumption) _)
local macro_rules | `(tactic| walk_at "lw rd") => `(tactic| with_reducible first
  | (refine' cl_part_in ?zzh ?zzp ?_; (case zzh => with_unfolding_all walk_at "lw at"); (case zzp => with_unfolding_all assumption))
  | (refine' cl_labels_given ?zzi ?zzh ?zzg ?_; (case zzi => with_unfolding_all walk_at "lw iv"); (case zzh => with_unfolding_all walk_at "lw at"); (case zzg => with_unfolding_all assumption); intro _ _ _ _)
  | (refine' cl_last_instruction ?zzi ?zzh ?zzg ?_; (case zzi => with_unfolding_all walk_at "lw iv"); (case zzh => with_unfolding_all walk_at "lw at"); (case zzg => with_unfolding_all assumption); intro _ _ _ _))
local macro_rules | `(tactic| walk_at "lw rd") => `(tactic| with_reducible first
  | refine cl_law_is_integer ?_ | refine cl_law_signs ?_ | (refine' cl_law_deeds ?zzi ?_; (case zzi => with_unfolding_all walk_at "lw iv"); intro _ _ _ _)
  | (refine' cl_law_gap ?zzi ?_; (case zzi => with_unfolding_all walk_at "lw iv"); intro _ _ _ _ _ _ _)
  | (refine' cl_law_instruction ?zza ?zzb ?zzi ?_; (case zza => with_unfolding_all walk_at "lw side"); (case zzb => with_unfolding_all walk_at "lw side"); (case zzi => with_unfolding_all walk_at "lw iv"); intro _ _ _ _ _ _)
  | (refine' cl_law_targets ?zzi ?zzh ?zzo ?_; (case zzi => with_unfolding_all walk_at "lw iv"); (case zzh => with_unfolding_all walk_at "lw at"); (case zzo => with_unfolding_all assumption); intro _ _ _ _ _)
  | (refine' cl_law_label ?zzi ?zzh ?zzo ?_; (case zzi => with_unfolding_all walk_at "lw iv"); (case zzh => with_unfolding_all walk_at "lw at"); (case zzo => with_unfolding_all walk_at "lw side"); intro _ _ _ _ _)
  | (refine' cl_law_draw ?zza ?zzb ?zzc ?_; (case zza => with_unfolding_all walk_at "lw side"); (case zzb => with_unfolding_all walk_at "lw side"); (case zzc => with_unfolding_all walk_at "lw iv"); intro _ _ _ _ _))
section
variable {P : Program} {w : World} {K : PySem.W.Frag} {mg : Str → Option Value} {base : Heap}

theorem ok_is_integer (T : Tx w K mg) : FnOk P w K mg base CX0 1 T.f_is_integer T.fd_is_integer ["value"] (sp_is_integer) := by
  refine T.F_is_integer.ok sc_is_integer (fun vs H Q E h => ?_) (fun cdv A outer s H vs Q E hr h => ?_)
  · obtain ⟨i, rfl, k⟩ := h
    rfl
  · obtain ⟨i, rfl, k⟩ := h
    refine ⟨_, (pss_one (ps_ret (pe_and (pe_callB (r := rIsi K) call_isi (by rfl) T.n_isinstance (by decide +kernel) (pa_cons (pv 0) (pa_cons (pe_bltn (v := .ty "int") rfl T.n_int (by decide +kernel) rfl) pa_nil))) (pe_one (pe_not (pe_callB (r := rIsi K) call_isi (by rfl) T.n_isinstance (by decide +kernel) (pa_cons (pv 0) (pa_cons (pe_bltn (v := .ty "bool") rfl T.n_bool (by decide +kernel) rfl) pa_nil)))))))), ?_⟩
    walk_at "lw all"
    exact k

theorem ok_bound (T : Tx w K mg) : FnOk P w K mg base CX0 1 T.f_bound T.fd_bound ["role", "length"] (sp_bound) := by
  refine T.F_bound.ok sc_bound (fun vs H Q E h => ?_) (fun cdv A outer s H vs Q E hr h => ?_)
  · obtain ⟨r, n, rfl, k⟩ := h
    rfl
  · obtain ⟨r, n, rfl, k⟩ := h
    refine ⟨_, (pss_cons (ps_if (pt_cmpR op_eq (pv 0) pe_str (nomark _))
        (pss_one (ps_ret (pe_glob (v := .int 8) rfl T.g_REGISTERS ⟨_, rfl⟩)))
        pss_nil)
      (pss_cons (ps_if (pt_cmpR op_eq (pv 0) pe_str (nomark _))
        (pss_one (ps_ret (pe_glob (v := .int 1048576) rfl T.g_WORD ⟨_, rfl⟩)))
        pss_nil)
      (pss_one (ps_ret (pv 1))))), ?_⟩
    unfold boundF at k
    walk_at "lw all"
    · exact k
    · rename_i h
      rw [if_neg (by decide +kernel), if_pos rfl] at k
      exact k
    · rename_i h1 h2
      rw [if_neg h1, if_neg h2] at k
      exact k

theorem ok_fits (T : Tx w K mg) : FnOk P w K mg base CX0 2 T.f_fits T.fd_fits ["part", "role", "length"] (sp_fits) := by
  refine T.F_fits.ok sc_fits (fun vs H Q E h => ?_) (fun cdv A outer s H vs Q E hr h => ?_)
  · obtain ⟨i, r, n, rfl, hd, k⟩ := h
    rfl
  · obtain ⟨i, r, n, rfl, hd, k⟩ := h
    refine ⟨_, (pss_cons (ps_if (pt_cmpR op_eq (pv 1) pe_str (nomark _))
        (pss_one (ps_ret (pe_and (pe_callB (r := rIsi K) call_isi (by rfl) T.n_isinstance (by decide +kernel) (pa_cons (pv 0) (pa_cons (pe_bltn (v := .ty "str") rfl T.n_str (by decide +kernel) rfl) pa_nil))) (pe_one (pe_cmpR (r := rIn K false) op_in_seq (pv 0) (pe_glob (v := .ref T.a_DEEDS) rfl T.g_DEEDS rfl) (by rfl))))))
        pss_nil)
      (pss_one (ps_ret (pe_and (pe_call (ok_is_integer T) hr (by rfl) T.g_is_integer T.F_is_integer.kp T.b_is_integer .nil pass0 (pa_cons (pv 0) pa_nil)) (pe_one (pe_chain op_le op_lt pe_int (pv 0) (pe_call (ok_bound T) hr (by rfl) T.g_bound T.F_bound.kp T.b_bound .nil pass0 (pa_cons (pv 1) (pa_cons (pv 2) pa_nil))))))))), ?_⟩
    walk_at "lw all"
    · refine cast_bl k ?_
      rw [decide_eq_decide]
      omega
    · exact cast_bl k (decide_eq_false (by omega))

theorem ok_is_label (T : Tx w K mg) : FnOk P w K mg base CX0 1 T.f_is_label T.fd_is_label ["word"] (sp_is_label) := by
  refine T.F_is_label.ok sc_is_label (fun vs H Q E h => ?_) (fun cdv A outer s H vs Q E hr h => ?_)
  · obtain ⟨W, s, rfl, hs, iv, k⟩ := h
    rfl
  · obtain ⟨W, s, rfl, hs, iv, k⟩ := h
    refine ⟨_, (pss_cons (ps_if (PW.pt (pw_or (pt_cmpR op_eq (pv 0) pe_str (nomark _)) (pw_or (pt_cmpR op_gt (pe_callB c_lens (by rfl) T.n_len PySem.boot_len (pa_cons (pv 0) pa_nil)) (pe_glob (v := .int 8) rfl T.g_LONGEST_LABEL ⟨_, rfl⟩) (nomark _)) (pw_or1 (pt_cmpR o_ninSg (pe_ix ix_str (pv 0) pe_int (fun _ _ => rfl)) (pe_glob (v := .str "abcdefghijklmnopqrstuvwxyz") rfl T.g_SMALL ⟨_, rfl⟩) (by rfl))))))
        (pss_one (ps_ret pe_bl))
        pss_nil)
      (pss_one (ps_ret (pe_callB (r := rAll K) (cr_all rfl) (by rfl) T.n_all (by decide +kernel) (pa_cons (pe_lc (own := [("sign", 1)]) rfl sc_is_label.nd (pi_str (pv 0)) (blkOk_by (own := [("sign", 1)]) (N := N_is_label) (sc := (defScope s_is_label)) (by decide +kernel)) (fun _ _ _ _ _ => (pg_name (i := 1) sc_is_label.nd rfl (by first | exact Or.inl rfl | exact Or.inr rfl))) (fun _ _ _ _ _ => pts_nil) (fun _ _ _ _ _ => (pe_or (pe_cmpR o_inSg (pv 1) (pe_glob (v := .str "abcdefghijklmnopqrstuvwxyz") rfl T.g_SMALL ⟨_, rfl⟩) (by rfl)) (pe_one (pe_cmpR o_inSg (pv 1) (pe_glob (v := .str "0123456789") rfl T.g_DIGITS ⟨_, rfl⟩) (by rfl)))))) pa_nil))))), ?_⟩
    have el := len_tl s
    walk_at "lw all"
    · exact cast_bl (k _ (Ex.refl iv)) (by decide +kernel)
    · rename_i h1 h2
      refine cast_bl (k _ (Ex.refl iv)) ?_
      unfold isL
      cases e : tl s with
      | nil => rfl
      | cons c r =>
        rw [e] at el
        simp only [List.length_cons] at el
        show (decide _ && _) = false
        rw [decide_eq_false (by omega), Bool.false_and]
    · rename_i h1 h2
      cases e : tl s with
      | nil => exact absurd ((nil_iff s).mpr e) h1
      | cons c r =>
        have er : r.length ≤ 7 := by
          rw [e] at el
          simp only [List.length_cons] at el
          omega
        have eL : isL s = (sm c && (tl s).all fun c => sm c || dg c) := by
          unfold isL
          rw [e]
          show (decide _ && _) = _
          rw [decide_eq_true er, Bool.true_and]
        refine rd_ixS (c := c) (by omega) (by rw [show s.cps.toList = c :: r from e]; exact at_0) ?_
        walk_at "lw go"
        rw [small_mem]
        cases hc : sm c with
        | false =>
          rw [hc, Bool.false_and] at eL
          walk_at "lw all"
          exact cast_bl (k _ (Ex.refl iv)) eL
        | true =>
          rw [hc, Bool.true_and] at eL
          walk_at "lw all"
          refine lc_w (W := W) (X := fun i x => ∃ c, s.cps[i]? = some c ∧ x = .str ⟨#[c]⟩) walk_str (fun n ys _ => ys = ((tl s).take n).map fun c => V.bl (sm c || dg c)) iv (by show s.length ≤ _; omega) (fun _ _ => trivial) (fun _ _ _ _ _ h => h) (by simp) ?_ ?_
          · rintro n x D ys H' QV QN hn ⟨d, hd, rfl⟩ hD hDa e1 hy hl qv qn
            walk_at "lw go"
            walk_at "lw if"
            walk_at "lw go"
            have q := qv (.bl (sm d || dg d)) H' (Ex.refl e1.iv) (by
              rw [hy, List.take_add_one, show (tl s)[n]? = some d by simpa using hd, List.map_append]
              rfl)
            rw [small_mem]
            cases hs1 : sm d with
            | true =>
              rw [hs1] at q
              walk_at "lw all"
              exact q
            | false =>
              rw [hs1] at q
              walk_at "lw all"
              rw [dig_mem]
              exact q
          · rintro D H2 ys hD e2 hDl hy hl
            have hy2 : ys = ((tl s).map fun c => sm c || dg c).map V.bl := by
              rw [hy, List.take_of_length_le (by show _ ≤ s.length; omega), List.map_map]
              rfl
            subst hy2
            walk_at "lw go"
            refine rd_all (bs := (tl s).map fun c => sm c || dg c) hDl ?_
            refine cast_bl (k _ e2) ?_
            rw [eL, List.all_map]
            rfl

theorem ok_label_in (T : Tx w K mg) : FnOk P w K mg base CX0 2 T.f_label_in T.fd_label_in ["line"] (sp_label_in) := by
  refine T.F_label_in.ok sc_label_in (fun vs H Q E h => ?_) (fun cdv A outer s H vs Q E hr h => ?_)
  · obtain ⟨W, s, rfl, hs, iv, k⟩ := h
    rfl
  · obtain ⟨W, s, rfl, hs, iv, k⟩ := h
    refine ⟨_, (pss_cons (ps_if (PW.pt (pw_and (pt_val (pe_bm PySem.F.plainAttrs_str PySem.F.slot_str_endswith PySem.F.type_str_endswith m_endswith (pv 0) (pa_cons pe_str pa_nil))) (pw_and1 (pt_val (pe_call (ok_is_label T) hr (by rfl) T.g_is_label T.F_is_label.kp T.b_is_label .nil pass0 (pa_cons (pe_slice sl_str (pv 0) po_none (po_some (pe_un un_neg pe_int))) pa_nil))))))
        (pss_one (ps_ret (pe_slice sl_str (pv 0) po_none (po_some (pe_un un_neg pe_int)))))
        pss_nil)
      (pss_one (ps_ret pe_str))), ?_⟩
    have hc : (cutS s none (some (-1))).length ≤ 1000 := Nat.le_trans (cutS_length _ _ _) hs
    walk_at "lw all"
    · rename_i h1 H1 e1 h2
      exact cast_str (k _ e1) (by unfold labF; rw [h1, h2]; rfl)
    · rename_i h1 H1 e1 h2
      exact cast_str (k _ e1) (by unfold labF; rw [h2, Bool.and_false]; rfl)
    · rename_i h1
      exact cast_str (k _ (Ex.refl iv)) (by unfold labF; rw [h1, Bool.false_and]; rfl)

theorem ok_is_ignored (T : Tx w K mg) : FnOk P w K mg base CX0 1 T.f_is_ignored T.fd_is_ignored ["line"] (sp_is_ignored) := by
  refine T.F_is_ignored.ok sc_is_ignored (fun vs H Q E h => ?_) (fun cdv A outer s H vs Q E hr h => ?_)
  · obtain ⟨s, rfl, k⟩ := h
    rfl
  · obtain ⟨s, rfl, k⟩ := h
    refine ⟨_, (pss_one (ps_ret (pe_or (pe_cmpR op_eq (pv 0) pe_str (nomark _)) (pe_one (pe_bm PySem.F.plainAttrs_str PySem.F.slot_str_startswith PySem.F.type_str_startswith m_startswith (pv 0) (pa_cons pe_str pa_nil)))))), ?_⟩
    unfold ignF at k
    walk_at "lw all"
    · exact cast_bl k (by decide +kernel)
    · rename_i h
      exact cast_bl k (by rw [decide_eq_false h, Bool.false_or])

theorem ok_number_in (T : Tx w K mg) : FnOk P w K mg base CX0 1 T.f_number_in T.fd_number_in ["word"] (sp_number_in) := by
  refine T.F_number_in.ok sc_number_in (fun vs H Q E h => ?_) (fun cdv A outer s H vs Q E hr h => ?_)
  · obtain ⟨s, n, rfl, hn, e, k⟩ := h
    rfl
  · obtain ⟨s, n, rfl, hn, e, k⟩ := h
    refine ⟨_, (pss_cut (ps_if (PW.pt (pw_or (pt_cmpR op_eq (pv 0) pe_str (nomark _)) (pw_or1 (pt_cmpR op_gt (pe_callB c_lens (by rfl) T.n_len PySem.boot_len (pa_cons (pv 0) pa_nil)) (pe_glob (v := .int 7) rfl T.g_LONGEST_NUMBER ⟨_, rfl⟩) (nomark _)))))
        (pss_one (ps_ret (pe_un un_neg pe_int)))
        pss_nil)
      (pss_cut (ps_if (PW.pt (pw_and (pt_cmpR op_gt (pe_callB c_lens (by rfl) T.n_len PySem.boot_len (pa_cons (pv 0) pa_nil)) pe_int (nomark _)) (pw_and1 (pt_cmpR op_eq (pe_ix ix_str (pv 0) pe_int (fun _ _ => rfl)) pe_str (nomark _)))))
        (pss_one (ps_ret (pe_un un_neg pe_int)))
        pss_nil)
      (pss_cons (ps_set (i := 1) sc_number_in.nd rfl (by first | exact Or.inl rfl | exact Or.inr rfl) pe_int)
      (pss_cons (ps_for PassesOwn.never rfl (pi_str (pv 0)) (pg_name (i := 2) sc_number_in.nd rfl (by first | exact Or.inl rfl | exact Or.inr rfl))
        (pss_cons (ps_set (i := 3) sc_number_in.nd rfl (by first | exact Or.inl rfl | exact Or.inr rfl) (pe_bm PySem.F.plainAttrs_str PySem.F.slot_str_find PySem.F.type_str_find m_find (pe_glob (v := .str "0123456789") rfl T.g_DIGITS ⟨_, rfl⟩) (pa_cons (pv 2) pa_nil)))
        (pss_cons (ps_if (pt_cmpR op_lt (pv 3) pe_int (nomark _))
          (pss_one (ps_ret (pe_un un_neg pe_int)))
          pss_nil)
        (pss_one (ps_set (i := 1) sc_number_in.nd rfl (by first | exact Or.inl rfl | exact Or.inr rfl) (pe_op op_add (pe_op op_mul (pv 1) pe_int) (pv 3)))))))
      (pss_one (ps_ret (pv 1))))))), ?_⟩
    have el : s.length = (numL n).length := by rw [len_tl, e]
    have e7 : (numL n).length ≤ 7 := numL_len (by decide) hn
    have ne : s ≠ "" := fun z => by
      rw [nil_iff, e] at z
      exact numL_ne n z
    have fin : ∀ i c, (numL n)[i]? = some c → dg c = true := fun i c h => numL_dg (List.mem_of_getElem? h)
    refine rd_cut (fun σ' H' => σ' = [some (.str s), none, none, none] ∧ H = H') ?_ ?_
    · walk_at "lw all"
      exact ⟨rfl, rfl⟩
    rintro σ' H' ⟨rfl, rfl⟩
    refine rd_cut (fun σ' H' => σ' = [some (.str s), none, none, none] ∧ H = H') ?_ ?_
    · walk_at "lw all"
      · rename_i h1
        obtain ⟨c, r, en, hc⟩ := numL_head n (by have := numL_len1 (n := n) (by omega); omega)
        refine rd_ixS (c := c) (by omega) (by rw [show s.cps.toList = c :: r from e.trans en]; exact at_0) ?_
        have nz : (⟨#[c]⟩ : Str) ≠ "0" := fun z => hc (by
          have z1 := congrArg tl z
          rw [show tl ("0" : Str) = [48] from rfl] at z1
          injection z1)
        walk_at "lw all"
        exact ⟨rfl, rfl⟩
      · exact ⟨rfl, rfl⟩
    rintro σ' H' ⟨rfl, rfl⟩
    walk_at "lw all"
    refine for_s (fun i σ' H' => ∃ v2 v3, σ' = [some (.str s), some (.int (((numL n).take i).foldl (fun (t : Int) (c : Nat) => t * 10 + ((c : Int) - 48)) 0)), v2, v3] ∧ H = H') ⟨_, _, rfl, rfl⟩ ?_ ?_
    · rintro i c σ' H' hc ⟨v2, v3, rfl, rfl⟩
      have hc' : (numL n)[i]? = some c := by rw [← e]; simpa using hc
      have hd := fin i c hc'
      have hd2 := of_decide_eq_true hd
      walk_at "lw go"
      rw [find_dig hd]
      walk_at "lw all"
      refine ⟨some (.str ⟨#[c]⟩), some (.int ((c : Int) - 48)), ?_, rfl⟩
      rw [List.take_add_one, hc', List.foldl_append]
      rfl
    · rintro σ' H' ⟨v2, v3, rfl, rfl⟩
      walk_at "lw all"
      refine cast_int k ?_
      rw [List.take_of_length_le (by show _ ≤ s.length; omega)]
      exact (fold_num n).symm

theorem ok_part_in (T : Tx w K mg) : FnOk P w K mg base CX0 3 T.f_part_in T.fd_part_in ["word", "role", "labels"] (sp_part_in) := by
  refine T.F_part_in.ok sc_part_in (fun vs H Q E h => ?_) (fun cdv A outer s H vs Q E hr h => ?_)
  · obtain ⟨W, word, role, d, kvs, v, rfl, hd, hp, k⟩ := h
    rfl
  · obtain ⟨W, word, role, d, kvs, v, rfl, hd, hp, k⟩ := h
    refine ⟨_, (pss_cons (ps_if (pt_cmpR op_eq (pv 1) pe_str (nomark _))
        (pss_one (ps_ret (pe_ifExp (pt_cmpR (r := rIn K false) op_in_seq (pv 0) (pe_glob (v := .ref T.a_DEEDS) rfl T.g_DEEDS rfl) (by rfl)) (pv 0) pe_non)))
        pss_nil)
      (pss_cons (ps_if (pt_cmpR op_eq (pv 1) pe_str (nomark _))
        (pss_one (ps_ret (pe_dget1 (hu_of hr) (pv 2) (pv 0) ⟨rfl, rfl, rfl, rfl⟩)))
        pss_nil)
      (pss_cons (ps_set (i := 3) sc_part_in.nd rfl (by first | exact Or.inl rfl | exact Or.inr rfl) (pe_call (ok_number_in T) (hr.mono (by decide)) (by rfl) T.g_number_in T.F_number_in.kp T.b_number_in .nil pass0 (pa_cons (pv 0) pa_nil)))
      (pss_one (ps_ret (pe_ifExp (pt_val (pe_call (ok_fits T) hr (by rfl) T.g_fits T.F_fits.kp T.b_fits .nil pass0 (pa_cons (pv 3) (pa_cons (pv 1) (pa_cons pe_int pa_nil))))) (pv 3) pe_non)))))), ?_⟩
    cases hp with
    | deed h =>
      have h2 := deed_in h
      unfold DL at h2
      walk_at "lw all"
      exact k
    | target h =>
      walk_at "lw all"
      exact cast_v k (by rw [h]; rfl)
    | @reg _ n h e =>
      walk_at "lw all"
      refine cl_number_in (n := n) (by omega) e ?_
      walk_at "lw go"
      rw [show boundF "register" 0 = 8 from rfl]
      walk_at "lw all"
      exact k
    | @word _ n h e =>
      walk_at "lw all"
      refine cl_number_in (n := n) (by omega) e ?_
      walk_at "lw go"
      rw [show boundF "word" 0 = 1048576 from rfl]
      walk_at "lw all"
      exact k

theorem ok_instruction_in (T : Tx w K mg) : FnOk P w K mg base CX0 4 T.f_instruction_in T.fd_instruction_in ["line", "labels"] (sp_instruction_in) := by
  refine T.F_instruction_in.ok sc_instruction_in (fun vs H Q E h => ?_) (fun cdv A outer s H vs Q E hr h => ?_)
  · obtain ⟨W, n, ws, rs, us, d, kvs, rfl, hl, iv, hd, hr0, hp, hw, k⟩ := h
    rfl
  · obtain ⟨W, n, ws, rs, us, d, kvs, rfl, hl, iv, hd, hr0, hp, hw, k⟩ := h
    refine ⟨_, (pss_cons (ps_set (i := 2) sc_instruction_in.nd rfl (by first | exact Or.inl rfl | exact Or.inr rfl) (pe_bm PySem.F.plainAttrs_str PySem.F.slot_str_split PySem.F.type_str_split m_split (pv 0) (pa_cons pe_str pa_nil)))
      (pss_cons (ps_set (i := 3) sc_instruction_in.nd rfl (by first | exact Or.inl rfl | exact Or.inr rfl) (pe_ix (r := rIxL K) ix_list (pv 2) pe_int (fun _ _ => rfl)))
      (pss_cons (ps_if (pt_cmpR (r := rNinKd K T.a_ROLES) (o_ninKd T.D_ROLES) (pv 3) (pe_glob (v := .ref T.a_ROLES) rfl T.g_ROLES rfl) (by rfl))
        (pss_one (ps_ret pe_non))
        pss_nil)
      (pss_cons (ps_set (i := 4) sc_instruction_in.nd rfl (by first | exact Or.inl rfl | exact Or.inr rfl) (pe_ix (r := rIxKd K w) x_kd (pe_glob (v := .ref T.a_ROLES) rfl T.g_ROLES rfl) (pv 3) (fun _ _ => rfl)))
      (pss_cons (ps_if (pt_cmpR op_ne (pe_callB (r := Lw.rLen K) c_len (by rfl) T.n_len PySem.boot_len (pa_cons (pv 2) pa_nil)) (pe_op op_add (pe_callB (r := Lw.rLen K) c_len (by rfl) T.n_len PySem.boot_len (pa_cons (pv 4) pa_nil)) pe_int) (nomark _))
        (pss_one (ps_ret pe_non))
        pss_nil)
      (pss_cons (ps_set (i := 5) sc_instruction_in.nd rfl (by first | exact Or.inl rfl | exact Or.inr rfl) (pe_lst (pa_cons (pv 3) pa_nil)))
      (pss_cons (ps_for PassesOwn.never rfl (pi_enumT (by rfl) T.n_enumerate (pa_cons (pv 4) pa_nil)) (pg_tup (by rfl) (pgs_cons (pg_name (i := 6) sc_instruction_in.nd rfl (by first | exact Or.inl rfl | exact Or.inr rfl)) (pgs_cons (pg_name (i := 7) sc_instruction_in.nd rfl (by first | exact Or.inl rfl | exact Or.inr rfl)) pgs_nil)))
        (pss_cons (ps_set (i := 8) sc_instruction_in.nd rfl (by first | exact Or.inl rfl | exact Or.inr rfl) (pe_call (ok_part_in T) hr (by rfl) T.g_part_in T.F_part_in.kp T.b_part_in .nil pass0 (pa_cons (pe_ix (r := rIxL K) ix_list (pv 2) (pe_op op_add (pv 6) pe_int) (fun _ _ => rfl)) (pa_cons (pv 7) (pa_cons (pv 1) pa_nil)))))
        (pss_cons (ps_if (pt_cmpR o_isN (pv 8) pe_non (nomark _))
          (pss_one (ps_ret pe_non))
          pss_nil)
        (pss_one (ps_expr (pe_bm PySem.F.plainAttrs_list PySem.F.slot_list_append PySem.F.type_list_append mt_append (pv 5) (pa_cons (pv 8) pa_nil)))))))
      (pss_one (ps_ret (pe_callTy (r := Lw.rTupO K) c_tuple (by rfl) T.n_tuple (by decide +kernel) (pa_cons (pv 5) pa_nil))))))))))), ?_⟩
    obtain ⟨c, r, en, hc⟩ := hr0.wrd
    obtain ⟨o1, o2, o3, o4⟩ := line_ok en hc (ws := ws) (fun p h => by
      rcases List.mem_cons.mp h with rfl | h
      · exact hr0.wrd2
      · exact hw p h)
    obtain ⟨ro, hi, hq⟩ := roles_of T hr0
    obtain ⟨l1, l2⟩ := hp.len
    have l3 := hr0.len
    walk_at "lw go"
    rename_i p H1 f1 e1 h1
    rw [o4] at h1
    walk_at "lw go"
    refine rd_ninKd hi ?_
    walk_at "lw go"
    refine ifNB_no rfl ?_
    walk_at "lw go"
    refine rd_ixKd T.D_ROLES hi ?_
    walk_at "lw go"
    refine ⟨ro, rs.map V.str, rfl, .inr (hq _), ?_⟩
    walk_at "lw go"
    refine ifIn_no (by simp [l1]) ?_
    walk_at "lw go"
    rename_i L H2 f2 e2 h2
    refine rd_srcET (hq _) ?_
    refine for_et (W := W) (xs := rs.map V.str) hq (fun i σ' H' => ∃ v6 v7 v8, σ' = [some (.str (Txt.join " " (n :: ws))), some (.ref d), some (.ref p), some (.str n), some (.ref ro), some (.ref L), v6, v7, v8] ∧ Ex W H1 H' ∧ At W H' L (.lst (.str n :: us.take i)))
      ⟨_, _, _, rfl, e2, h2⟩ (fun i σ' H' ⟨_, _, _, _, e, _⟩ => e.iv) ?_ ?_
    · rintro i x T2 σ' H3 H' hx ⟨v6, v7, v8, rfl, e3, h3⟩ f4 e4 h4
      obtain ⟨role, hr1, rfl⟩ : ∃ role, rs[i]? = some role ∧ x = .str role := by
        rw [List.getElem?_map] at hx
        cases hz : rs[i]? with
        | none => rw [hz] at hx; cases hx
        | some role => rw [hz] at hx; exact ⟨role, rfl, (Option.some.inj hx).symm⟩
      obtain ⟨w1, u1, hw1, hu1, hpt⟩ := hp.get hr1
      have vn : u1 ≠ .non := by cases hpt <;> exact fun z => nomatch z
      have hlen : us.length ≤ 2 := by omega
      walk_at "lw go"
      refine rd_ixL (v := .str w1) (by walk_at "lw at") (at_in (by omega) (by rw [show (0 + (i : Int) + 1).toNat = i + 1 by omega, List.map_cons, List.getElem?_cons_succ, List.getElem?_map, hw1]; rfl)) ?_
      walk_at "lw go"
      refine ifD_no vn ?_
      walk_at "lw go"
      have hl2 : (V.str n :: us.take i).length < 1000000 := by rw [List.length_cons, List.length_take]; omega
      walk_at "lw go"
      refine ⟨_, _, _, rfl, by walk_at "lw ex", ?_⟩
      rw [List.take_add_one, hu1]
      walk_at "lw at"
    · rintro σ' H' ⟨v6, v7, v8, rfl, e3, h3⟩
      rw [List.length_map, List.take_of_length_le (by omega)] at h3
      walk_at "lw go"
      exact k _ _ (by walk_at "lw ex") (by walk_at "lw at")

theorem ok_labels_given (T : Tx w K mg) : FnOk P w K mg base CX0 3 T.f_labels_given T.fd_labels_given ["lines"] (sp_labels_given) := by
  refine T.F_labels_given.ok sc_labels_given (fun vs H Q E h => ?_) (fun cdv A outer s H vs Q E hr h => ?_)
  · obtain ⟨W, p, lns, rfl, iv, hp, G, k⟩ := h
    rfl
  · obtain ⟨W, p, lns, rfl, iv, hp, G, k⟩ := h
    refine ⟨_, (pss_cons (ps_set (i := 1) sc_labels_given.nd rfl (by first | exact Or.inl rfl | exact Or.inr rfl) pe_dnewK)
      (pss_cons (ps_set (i := 2) sc_labels_given.nd rfl (by first | exact Or.inl rfl | exact Or.inr rfl) pe_int)
      (pss_cons (ps_for PassesOwn.never rfl (pi_list (pv 0)) (pg_name (i := 3) sc_labels_given.nd rfl (by first | exact Or.inl rfl | exact Or.inr rfl))
        (pss_cons (ps_set (i := 4) sc_labels_given.nd rfl (by first | exact Or.inl rfl | exact Or.inr rfl) (pe_call (ok_label_in T) hr (by rfl) T.g_label_in T.F_label_in.kp T.b_label_in .nil pass0 (pa_cons (pv 3) pa_nil)))
        (pss_one (ps_if (pt_cmpR op_ne (pv 4) pe_str (nomark _))
          (pss_one (ps_expr (pe_dsetd (pv 1) (pv 4) (pv 2) ⟨rfl, rfl, rfl, rfl⟩)))
          (pss_one (ps_if (pt_not (pt_val (pe_call (ok_is_ignored T) (hr.mono (by decide)) (by rfl) T.g_is_ignored T.F_is_ignored.kp T.b_is_ignored .nil pass0 (pa_cons (pv 3) pa_nil))))
            (pss_one (ps_set (i := 2) sc_labels_given.nd rfl (by first | exact Or.inl rfl | exact Or.inr rfl) (pe_op op_add (pv 2) pe_int)))
            pss_nil))))))
      (pss_one (ps_ret (pv 1)))))), ?_⟩
    walk_at "lw go"
    rename_i d H1 f1 e1 h1
    refine for_l (fun i σ' H' => ∃ v3 v4, σ' = [some (.ref p), some (.ref d), some (.int (opsF (lns.take i)).length), v3, v4] ∧ Ex W H H' ∧ At W H' d (.dK (labsF 0 (lns.take i)))) ⟨_, _, rfl, e1, h1⟩ (fun i σ' H' _ ⟨_, _, _, e, _⟩ => e.at_ hp) ?_ ?_
    · rintro i x σ' H' hx ⟨v3, v4, rfl, e2, h2⟩
      obtain ⟨ln, hy, rfl⟩ := tln_get hx
      have hsz := G.szI hy
      have tk := take_snoc hy
      cases ln with
      | ig s =>
        obtain ⟨g1, g2⟩ := G.ig hy
        walk_at "lw all"
        refine ⟨_, _, by rw [tk, opsF_app]; simp [opsF]; exact ⟨rfl, rfl⟩, by walk_at "lw ex", ?_⟩
        rw [tk, labs_snoc]
        simp only [labsF, List.append_nil]
        walk_at "lw at"
      | op n ws vs =>
        obtain ⟨g1, g2⟩ := G.op hy
        walk_at "lw all"
        refine ⟨_, _, by rw [tk, opsF_app]; simp [opsF]; exact ⟨rfl, rfl⟩, by walk_at "lw ex", ?_⟩
        rw [tk, labs_snoc]
        simp only [labsF, List.append_nil]
        walk_at "lw at"
      | lb l =>
        obtain ⟨g1, g2, g3⟩ := G.lb hy
        walk_at "lw go"
        rename_i H3 e3
        rw [g1]
        refine ifSn_yes g3 ?_
        walk_at "lw go"
        refine rd_dsetN (W := W) (H0 := H) (by walk_at "lw ex") f1 (by walk_at "lw at") (G.labLen i) (val_none (G.fresh hy)) fun H4 e4 h4 o4 => ?_
        refine ⟨_, _, by rw [tk, opsF_app]; simp [opsF]; exact ⟨rfl, rfl⟩, e4, ?_⟩
        rw [putK_new _ (val_none (G.fresh hy))] at h4
        rw [tk, labs_snoc]
        exact h4
    · rintro σ' H' ⟨v3, v4, rfl, e2, h2⟩
      rw [List.length_map, List.take_length] at h2
      walk_at "lw go"
      exact k _ _ e2 h2

theorem ok_last_instruction (T : Tx w K mg) : FnOk P w K mg base CX0 3 T.f_last_instruction T.fd_last_instruction ["lines"] (sp_last_instruction) := by
  refine T.F_last_instruction.ok sc_last_instruction (fun vs H Q E h => ?_) (fun cdv A outer s H vs Q E hr h => ?_)
  · obtain ⟨W, p, lns, rfl, iv, hp, G, k⟩ := h
    rfl
  · obtain ⟨W, p, lns, rfl, iv, hp, G, k⟩ := h
    refine ⟨_, (pss_cons (ps_set (i := 1) sc_last_instruction.nd rfl (by first | exact Or.inl rfl | exact Or.inr rfl) pe_int)
      (pss_cons (ps_for PassesOwn.never rfl (pi_enumS (by rfl) T.n_enumerate (pa_cons (pv 0) pa_nil) (pk_cons pe_int pk_nil)) (pg_tup (by rfl) (pgs_cons (pg_name (i := 2) sc_last_instruction.nd rfl (by first | exact Or.inl rfl | exact Or.inr rfl)) (pgs_cons (pg_name (i := 3) sc_last_instruction.nd rfl (by first | exact Or.inl rfl | exact Or.inr rfl)) pgs_nil)))
        (pss_one (ps_if (PW.pt (pw_and (pt_cmpR op_eq (pe_call (ok_label_in T) hr (by rfl) T.g_label_in T.F_label_in.kp T.b_label_in .nil pass0 (pa_cons (pv 3) pa_nil)) pe_str (nomark _)) (pw_and1 (pt_not (pt_val (pe_call (ok_is_ignored T) (hr.mono (by decide)) (by rfl) T.g_is_ignored T.F_is_ignored.kp T.b_is_ignored .nil pass0 (pa_cons (pv 3) pa_nil)))))))
          (pss_one (ps_set (i := 1) sc_last_instruction.nd rfl (by first | exact Or.inl rfl | exact Or.inr rfl) (pv 2)))
          pss_nil)))
      (pss_one (ps_ret (pv 1))))), ?_⟩
    walk_at "lw go"
    refine for_e (W := W) (fun i σ' H' => ∃ (z : Int) (v2 v3 : Option V), σ' = [some (.ref p), some (.int z), v2, v3] ∧ Ex W H H' ∧ ∀ (j : Nat) x, j < i → lns[j]? = some x → x.isOp = true → (j : Int) + 1 ≤ z)
      ⟨_, _, _, rfl, Ex.refl iv, fun j x hj => by omega⟩ (fun i σ' H' ⟨_, _, _, _, e, _⟩ => ⟨e.iv, e.at_ hp⟩) ?_ ?_
    · rintro i x T2 σ' H3 H' hx ⟨z, v2, v3, rfl, e3, h3⟩ f4 e4 h4
      obtain ⟨ln, hy, rfl⟩ := tln_get hx
      have hsz := G.szI hy
      cases ln with
      | ig s =>
        obtain ⟨g1, g2⟩ := G.ig hy
        walk_at "lw all"
        refine ⟨_, _, _, rfl, by walk_at "lw ex", fun j x hj hjx ho => ?_⟩
        by_cases q : j = i
        · subst q; rw [hy] at hjx; cases hjx; cases ho
        · exact h3 j x (by omega) hjx ho
      | lb l =>
        obtain ⟨g1, g2, g3⟩ := G.lb hy
        walk_at "lw go"
        rw [g1]
        walk_at "lw all"
        refine ⟨_, _, _, rfl, by walk_at "lw ex", fun j x hj hjx ho => ?_⟩
        by_cases q : j = i
        · subst q; rw [hy] at hjx; cases hjx; cases ho
        · exact h3 j x (by omega) hjx ho
      | op n ws vs =>
        obtain ⟨g1, g2⟩ := G.op hy
        walk_at "lw all"
        refine ⟨_, _, _, rfl, by walk_at "lw ex", fun j x hj hjx ho => by omega⟩
    · rintro σ' H' ⟨z, v2, v3, rfl, e2, h2⟩
      walk_at "lw go"
      exact k _ _ e2 fun j x hjx ho => h2 j x (by rw [List.length_map]; exact (List.getElem?_eq_some_iff.mp hjx).1) hjx ho

theorem ok_assemble (T : Tx w K mg) : FnOk P w K mg base CX0 5 T.f_assemble T.fd_assemble ["text"] (sp_assemble) := by
  refine T.F_assemble.ok sc_assemble (fun vs H Q E h => ?_) (fun cdv A outer s H vs Q E hr h => ?_)
  · obtain ⟨W, z, lns, rfl, hz, hs, G, iv, k⟩ := h
    rfl
  · obtain ⟨W, z, lns, rfl, hz, hs, G, iv, k⟩ := h
    refine ⟨_, (pss_cons (ps_set (i := 1) sc_assemble.nd rfl (by first | exact Or.inl rfl | exact Or.inr rfl) (pe_bm PySem.F.plainAttrs_str PySem.F.slot_str_split PySem.F.type_str_split m_split (pv 0) (pa_cons pe_str pa_nil)))
      (pss_cons (ps_set (i := 2) sc_assemble.nd rfl (by first | exact Or.inl rfl | exact Or.inr rfl) (pe_call (ok_labels_given T) (hr.mono (by decide)) (by rfl) T.g_labels_given T.F_labels_given.kp T.b_labels_given .nil pass0 (pa_cons (pv 1) pa_nil)))
      (pss_cons (ps_set (i := 3) sc_assemble.nd rfl (by first | exact Or.inl rfl | exact Or.inr rfl) (pe_call (ok_last_instruction T) (hr.mono (by decide)) (by rfl) T.g_last_instruction T.F_last_instruction.kp T.b_last_instruction .nil pass0 (pa_cons (pv 1) pa_nil)))
      (pss_cons (ps_set (i := 4) sc_assemble.nd rfl (by first | exact Or.inl rfl | exact Or.inr rfl) pe_dnewK)
      (pss_cons (ps_set (i := 5) sc_assemble.nd rfl (by first | exact Or.inl rfl | exact Or.inr rfl) (pe_lst pa_nil))
      (pss_cons (ps_for PassesOwn.never rfl (pi_enumS (by rfl) T.n_enumerate (pa_cons (pv 1) pa_nil) (pk_cons pe_int pk_nil)) (pg_tup (by rfl) (pgs_cons (pg_name (i := 6) sc_assemble.nd rfl (by first | exact Or.inl rfl | exact Or.inr rfl)) (pgs_cons (pg_name (i := 7) sc_assemble.nd rfl (by first | exact Or.inl rfl | exact Or.inr rfl)) pgs_nil)))
        (pss_cons (ps_if (pt_val (pe_call (ok_is_ignored T) (hr.mono (by decide)) (by rfl) T.g_is_ignored T.F_is_ignored.kp T.b_is_ignored .nil pass0 (pa_cons (pv 7) pa_nil)))
          (pss_one ps_continue)
          pss_nil)
        (pss_cons (ps_set (i := 8) sc_assemble.nd rfl (by first | exact Or.inl rfl | exact Or.inr rfl) (pe_call (ok_label_in T) (hr.mono (by decide)) (by rfl) T.g_label_in T.F_label_in.kp T.b_label_in .nil pass0 (pa_cons (pv 7) pa_nil)))
        (pss_cons (ps_if (pt_cmpR op_ne (pv 8) pe_str (nomark _))
          (pss_cons (ps_if (PW.pt (pw_or (pt_cmp (pc_din (hu_of hr) (pv 8) (pv 4))) (pw_or1 (pt_cmpR op_gt (pv 6) (pv 3) (nomark _)))))
            (pss_one ps_never)
            pss_nil)
          (pss_cons (ps_dput (hu_of hr) (pv 4) (pv 8) pe_bl rfl)
          (pss_one ps_continue)))
          pss_nil)
        (pss_cons (ps_set (i := 9) sc_assemble.nd rfl (by first | exact Or.inl rfl | exact Or.inr rfl) (pe_call (ok_instruction_in T) hr (by rfl) T.g_instruction_in T.F_instruction_in.kp T.b_instruction_in .nil pass0 (pa_cons (pv 7) (pa_cons (pv 2) pa_nil))))
        (pss_cons (ps_if (PW.pt (pw_or (pt_cmpR o_isN (pv 9) pe_non (nomark _)) (pw_or1 (pt_cmpR op_eq (pe_callB (r := Lw.rLen K) c_len (by rfl) T.n_len PySem.boot_len (pa_cons (pv 5) pa_nil)) (pe_glob (v := .int 4000) rfl T.g_LONGEST ⟨_, rfl⟩) (nomark _)))))
          (pss_one ps_never)
          pss_nil)
        (pss_one (ps_expr (pe_bm PySem.F.plainAttrs_list PySem.F.slot_list_append PySem.F.type_list_append mt_append (pv 5) (pa_cons (pv 9) pa_nil))))))))))
      (pss_one (ps_ret (pe_callTy (r := Lw.rTupO K) c_tuple (by rfl) T.n_tuple (by decide +kernel) (pa_cons (pv 5) pa_nil)))))))))), ?_⟩
    walk_at "lw go"
    rename_i p H1 f1 e1 h1
    rw [hs, List.map_map] at h1
    replace h1 : At W H1 p (.lst (TLn lns)) := h1
    walk_at "lw go"
    rename_i d H2 e2 h2 last H3 e3 h3 m H4 f4 e4 h4 g H5 f5 e5 h5
    have hd5 : At W H5 d (.dK (labsF 0 lns)) := by walk_at "lw at"
    have hm5 : At W H5 m (.dK []) := by walk_at "lw at"
    have hp5 : At W H5 p (.lst (TLn lns)) := by walk_at "lw at"
    have hmg : m ≠ g := hm5.ne h5 (fun z => by cases z)
    refine for_e (W := W) (fun i σ' H' => ∃ (v6 v7 v8 v9 : Option V) (rs : List Addr), σ' = [some (.str z), some (.ref p), some (.ref d), some (.int last), some (.ref m), some (.ref g), v6, v7, v8, v9] ∧ Ex W H3 H' ∧
      At W H' m (.dK (metF (lns.take i))) ∧ At W H' g (.lst (rs.map V.ref)) ∧ Rows W H' rs ((opsF (lns.take i)).map rowF)) ⟨_, _, _, _, [], rfl, e4.trans e5, hm5, h5, .nil⟩ (fun i σ' H' ⟨_, _, _, _, _, _, e, _, _, _⟩ => ⟨e.iv, e.at_ (by walk_at "lw at")⟩) ?_ ?_
    · rintro i x T2 σ' H6 H' hx ⟨v6, v7, v8, v9, rs, rfl, e6, h6, h7, h8⟩ f9 e9 h9
      obtain ⟨ln, hy, rfl⟩ := tln_get hx
      have hsz := G.szI hy
      have tk := take_snoc hy
      cases ln with
      | ig s =>
        obtain ⟨g1, g2⟩ := G.ig hy
        have t1 : metF (lns.take (i + 1)) = metF (lns.take i) := by unfold metF; rw [tk, labs_snoc]; simp [labsF]
        have t2 : opsF (lns.take (i + 1)) = opsF (lns.take i) := by rw [tk, opsF_app]; simp [opsF]
        walk_at "lw all"
        refine ⟨_, _, _, _, rs, rfl, by walk_at "lw ex", ?_, by walk_at "lw at", ?_⟩
        · rw [t1]; walk_at "lw at"
        · rw [t2]; exact h8.mono e9
      | lb l =>
        obtain ⟨g1, g2, g3⟩ := G.lb hy
        obtain ⟨j, y, hj, hjy, ho⟩ := G.aft i l hy
        have hlast := h3 j y hjy ho
        have hfr := G.fresh2 hy
        have hlen : (metF (lns.take i)).length < 1000000 := by unfold metF; rw [List.length_map]; exact G.labLen i
        walk_at "lw go"
        refine ifB_no g2 ?_
        walk_at "lw go"
        rename_i H7 e7
        rw [g1]
        refine ifSn_yes g3 ?_
        walk_at "lw go"
        rw [hfr]
        refine ifB_no rfl ?_
        walk_at "lw go"
        refine ifD_no (by omega) ?_
        walk_at "lw go"
        rename_i H8 e8 m8 o8
        have m7 : At W H7 m (.dK (metF (lns.take i))) := by walk_at "lw at"
        have t1 : metF (lns.take (i + 1)) = metF (lns.take i) ++ [(Sum.inr l, V.bl true)] := by unfold metF; rw [tk, labs_snoc, List.map_append]; rfl
        have t2 : opsF (lns.take (i + 1)) = opsF (lns.take i) := by rw [tk, opsF_app]; simp [opsF]
        rw [putK_new _ hfr, ← t1] at m8
        refine ⟨_, _, _, _, rs, rfl, e8, m8, o8 _ _ hmg.symm (by walk_at "lw at"), ?_⟩
        rw [t2]
        exact F2.mono (fun r row a => o8 r _ (a.ne m7 fun z => by cases z) a) ((h8.mono e9).mono e7)
      | op n ws vs =>
        obtain ⟨g1, g2⟩ := G.op hy
        obtain ⟨rl, hr, hpts, hws⟩ := G.okI hy
        have t1 : metF (lns.take (i + 1)) = metF (lns.take i) := by unfold metF; rw [tk, labs_snoc]; simp [labsF]
        have t2 : opsF (lns.take (i + 1)) = opsF (lns.take i) ++ [(n, ws, vs)] := by rw [tk, opsF_app]; simp [opsF]
        have hl8 : rs.length < 4000 := by
          have q := h8.length
          rw [List.length_map] at q
          have := G.opsI hy
          omega
        have hl9 : (rs.map V.ref).length < 1000000 := by rw [List.length_map]; omega
        walk_at "lw go"
        refine ifB_no g2 ?_
        walk_at "lw go"
        rename_i H7 e7
        refine ifSn_no g1 ?_
        walk_at "lw go"
        refine cl_instruction_in (W := W) (n := n) (ws := ws) hsz e7.iv (by walk_at "lw at") hr hpts hws fun t H8 e8 h10 => ?_
        walk_at "lw go"
        refine ifD_no (fun z => nomatch z) ?_
        walk_at "lw go"
        refine ifI_no (by rw [List.length_map]; omega) ?_
        walk_at "lw go"
        have g8 : At W H8 g (.lst (rs.map V.ref)) := by walk_at "lw at"
        refine rd_append (W := W) (H0 := H3) (by walk_at "lw ex") (e4.fresh f5) g8 hl9 fun H9 e11 g9 o9 => ?_
        have m8 : At W H8 m (.dK (metF (lns.take i))) := by walk_at "lw at"
        refine ⟨_, _, _, _, rs ++ [t], rfl, e11, ?_, by rw [List.map_append]; exact g9, ?_⟩
        · rw [t1]; exact o9 m _ hmg m8
        · rw [t2, List.map_append]
          refine F2.append (show F2 (fun r row => At W H9 r (.tup row)) [t] [rowF (n, ws, vs)] from .cons (o9 t _ (h10.ne g8 fun z => by cases z) h10) .nil) ?_
          exact F2.mono (fun r row a => o9 r _ (a.ne g8 fun z => by cases z) a) (((h8.mono e9).mono e7).mono e8)
    · rintro σ' H' ⟨v6, v7, v8, v9, rs, rfl, e6, h6, h7, h8⟩
      rw [List.length_map, List.take_length] at h8
      walk_at "lw go"
      exact k _ _ rs (by walk_at "lw ex") (by walk_at "lw at") (h8.mono (by walk_at "lw ex"))

theorem ok_law_pool (T : Tx w K mg) : FnOk P w K mg base CX0 1 T.f_law_pool T.fd_law_pool ["script"] (sp_law_pool K) := by
  refine T.F_law_pool.ok sc_law_pool (fun vs H Q E h => ?_) (fun cdv A outer s H vs Q E hr h => ?_)
  · obtain ⟨a, ns, rfl, ha, hn, k⟩ := h
    rfl
  · obtain ⟨a, ns, rfl, ha, hn, k⟩ := h
    refine ⟨_, (pss_cons (ps_set (i := 1) sc_law_pool.nd rfl (by first | exact Or.inl rfl | exact Or.inr rfl) (pe_op op_powW (pe_op op_powW pe_int pe_int) pe_int))
      (pss_cons (ps_setLc (i := 2) (own := [("cell", 3)]) rfl sc_law_pool.nd rfl rfl (sw_true rfl rfl rfl (by decide +kernel)) (pi_list (pe_slice (r := rSlL K) sl_list (pv 0) po_none (po_some pe_int))) (blkOk_by (own := [("cell", 3)]) (N := N_law_pool) (sc := (defScope s_law_pool)) (by decide +kernel)) (fun _ _ _ _ _ => (pg_name (i := 3) sc_law_pool.nd rfl (by first | exact Or.inl rfl | exact Or.inr rfl))) (fun _ _ _ _ _ => pts_nil) (fun _ _ _ _ _ => (pe_op op_mod (pe_callTy c_int (by rfl) T.n_int (by decide +kernel) (pa_cons (pe_callB c_abs (by rfl) T.n_abs (by decide +kernel) (pa_cons (pv 3) pa_nil)) pa_nil)) (pv 1))))
      (pss_one (ps_ret (pe_lst (pa_cons pe_int (pa_cons pe_int (pa_cons pe_int (pa_cons (pv 2) (pa_cons pe_int pa_nil)))))))))), ?_⟩
    have iv : W0.iv H := trivial
    walk_at "lw all"
    refine rd_slLs (W := W0) iv ha ?_
    intro p H1 hp e1 h1
    have ai : AI (cutV (ns.map V.int) none (some 63)) := (AI.of ns).cut
    have al : (cutV (ns.map V.int) none (some 63)).length ≤ 63 := Nat.le_trans (cut_len _ _ _) (by rw [List.length_map]; exact hn)
    walk_at "lw all"
    refine rd_lc1 (W := W0) (fun _ y _ => ∃ z : Int, y = .int z) (by walk_at "lw iv") h1 (by omega) (fun _ _ _ _ _ r => r) (fun n x D acc H' QV hx hD hDa e q => ?_) (fun C H2 ys hD e2 h2 hA => ?_)
    · obtain ⟨z, rfl⟩ := ai.get hx
      walk_at "lw go"
      exact q _ _ (Ex.refl e.iv) ⟨_, rfl⟩
    obtain ⟨cs, rfl⟩ := (AI.of_all hA).ints
    walk_at "lw all"
    rename_i p5 H5 f5 e5 h5
    have hc5 : At W0 H5 C (.lst (cs.map V.int)) := by walk_at "lw at"
    exact k _ _ ⟨C, 0, 0, 4409, 0, cs, h5.1, hc5.1, (h2.ne_fresh f5).symm, by decide⟩

theorem ok_law_draw (T : Tx w K mg) : FnOk P w K mg base CX0 1 T.f_law_draw T.fd_law_draw ["pool", "many"] (sp_law_draw) := by
  refine T.F_law_draw.ok sc_law_draw (fun vs H Q E h => ?_) (fun cdv A outer s H vs Q E hr h => ?_)
  · obtain ⟨b, many, rfl, m0, m1, ⟨c, r, kk, s0, t, cs, B⟩, k⟩ := h
    rfl
  · obtain ⟨b, many, rfl, m0, m1, ⟨c, r, kk, s0, t, cs, B⟩, k⟩ := h
    refine ⟨_, (pss_cut (ps_if (PW.pt (pw_and (pt_cmpR op_eq (pe_ix (r := rIxL K) ix_list (pv 0) pe_int (fun _ _ => rfl)) pe_int (nomark _)) (pw_and1 (pt_cmpR op_lt (pe_ix (r := rIxL K) ix_list (pv 0) pe_int (fun _ _ => rfl)) (pe_callB (r := Lw.rLen K) c_len (by rfl) T.n_len PySem.boot_len (pa_cons (pe_ix (r := rIxL K) ix_list (pv 0) pe_int (fun _ _ => rfl)) pa_nil)) (nomark _)))))
        (pss_cons (ps_set (i := 2) sc_law_draw.nd rfl (by first | exact Or.inl rfl | exact Or.inr rfl) (pe_ix (r := rIxL K) ix_list (pe_ix (r := rIxL K) ix_list (pv 0) pe_int (fun _ _ => rfl)) (pe_ix (r := rIxL K) ix_list (pv 0) pe_int (fun _ _ => rfl)) (fun _ _ => rfl)))
        (pss_cons (ps_asg (pe_op op_add (pe_ix (r := rIxL K) ix_list (pv 0) pe_int (fun _ _ => rfl)) pe_int) (pg_sub (pv 0) pe_int set_list))
        (pss_one (ps_if (pt_cmpR op_ge (pv 2) (pe_op op_powW pe_int pe_int) (nomark _))
          (pss_one (ps_asg (pv 2) (pg_sub (pv 0) pe_int set_list)))
          (pss_one (ps_asg (pe_op op_mod (pe_callTy c_int (by rfl) T.n_int (by decide +kernel) (pa_cons (pe_op op_add (pe_op op_add (pe_op op_mul (pe_ix (r := rIxL K) ix_list (pv 0) pe_int (fun _ _ => rfl)) pe_int) (pe_op op_mul (pv 2) pe_int)) pe_int) pa_nil)) pe_int) (pg_sub (pv 0) pe_int set_list)))))))
        pss_nil)
      (pss_cons (ps_if (pt_cmpR op_gt (pe_ix (r := rIxL K) ix_list (pv 0) pe_int (fun _ _ => rfl)) pe_int (nomark _))
        (pss_cons (ps_set (i := 3) sc_law_draw.nd rfl (by first | exact Or.inl rfl | exact Or.inr rfl) (pe_op op_mod (pe_callTy c_int (by rfl) T.n_int (by decide +kernel) (pa_cons (pe_ix (r := rIxL K) ix_list (pv 0) pe_int (fun _ _ => rfl)) pa_nil)) (pv 1)))
        (pss_cons (ps_asg (pe_op op_fdiv (pe_ix (r := rIxL K) ix_list (pv 0) pe_int (fun _ _ => rfl)) (pv 1)) (pg_sub (pv 0) pe_int set_list))
        (pss_one (ps_ret (pv 3)))))
        pss_nil)
      (pss_cons (ps_asg (pe_op op_add (pe_ix (r := rIxL K) ix_list (pv 0) pe_int (fun _ _ => rfl)) pe_int) (pg_sub (pv 0) pe_int set_list))
      (pss_cons (ps_asg (pe_op op_mod (pe_callTy c_int (by rfl) T.n_int (by decide +kernel) (pa_cons (pe_op op_add (pe_op op_add (pe_op op_mul (pe_ix (r := rIxL K) ix_list (pv 0) pe_int (fun _ _ => rfl)) pe_int) (pe_op op_mul (pe_ix (r := rIxL K) ix_list (pv 0) pe_int (fun _ _ => rfl)) pe_int)) pe_int) pa_nil)) pe_int) (pg_sub (pv 0) pe_int set_list))
      (pss_cons (ps_set (i := 4) sc_law_draw.nd rfl (by first | exact Or.inl rfl | exact Or.inr rfl) (pe_op op_mod (pe_callTy c_int (by rfl) T.n_int (by decide +kernel) (pa_cons (pe_op op_mul (pe_ix (r := rIxL K) ix_list (pv 0) pe_int (fun _ _ => rfl)) (pe_op op_add (pe_op op_fdiv (pe_ix (r := rIxL K) ix_list (pv 0) pe_int (fun _ _ => rfl)) pe_int) pe_int)) pa_nil)) pe_int))
      (pss_one (ps_ret (pe_op op_mod (pe_callTy c_int (by rfl) T.n_int (by decide +kernel) (pa_cons (pe_op op_fdiv (pv 4) pe_int) pa_nil)) (pv 1))))))))), ?_⟩
    obtain ⟨hb, hc, bc, k0⟩ := id B
    refine rd_cut (fun σ' H' => ∃ (r2 k2 s2 : Int) (v : Option V), σ' = [some (.ref b), some (.int many), v, none, none] ∧ PoolIs H' b c r2 k2 s2 t cs ∧ ∀ a, a ≠ b → H' a = H a) ?_ ?_
    · walk_at "lw all"
      · rename_i hlt
        rw [List.length_map] at hlt
        have hk : kk.toNat < cs.length := by omega
        refine rd_ixLr hc (at_in k0 (v := V.int (cs[kk.toNat])) (by rw [List.getElem?_map, List.getElem?_eq_getElem hk]; rfl)) ?_
        generalize cs[kk.toNat] = cell
        walk_at "lw all"
        · rename_i H2 g2 o2 hc2 H3 g3 o3
          exact ⟨_, _, _, _, rfl, ⟨g3, (o3 c bc.symm).trans ((o2 c bc.symm).trans hc), bc, by omega⟩, fun a ha => (o3 a ha).trans (o2 a ha)⟩
        · rename_i H2 g2 o2 hc2 H3 g3 o3
          exact ⟨_, _, _, _, rfl, ⟨g3, (o3 c bc.symm).trans ((o2 c bc.symm).trans hc), bc, by omega⟩, fun a ha => (o3 a ha).trans (o2 a ha)⟩
      · exact ⟨_, _, _, _, rfl, ⟨hb, hc, bc, k0⟩, fun a ha => rfl⟩
      · exact ⟨_, _, _, _, rfl, ⟨hb, hc, bc, k0⟩, fun a ha => rfl⟩
    rintro σ' H1 ⟨r2, k2, s2, v, rfl, B1, h1⟩
    obtain ⟨hb1, hc1, _, k1⟩ := id B1
    walk_at "lw all"
    · rename_i hpos H2 g2 o2
      have B3 : PoolIs H2 b c (r2 / many) k2 s2 t cs := ⟨g2, (o2 c bc.symm).trans hc1, bc, k1⟩
      exact k _ _ (ex_pool B B3 fun a ha => (o2 a ha).trans (h1 a ha)) (Int.emod_nonneg _ (by omega)) (Int.emod_lt_of_pos _ m0)
    · rename_i hpos H2 g2 o2 H3 g3 o3
      have B3 := PoolIs.mk g3 ((o3 c bc.symm).trans ((o2 c bc.symm).trans hc1)) bc k1
      exact k _ _ (ex_pool B B3 fun a ha => (o3 a ha).trans ((o2 a ha).trans (h1 a ha))) (Int.emod_nonneg _ (by omega)) (Int.emod_lt_of_pos _ m0)

theorem ok_law_is_integer (T : Tx w K mg) : FnOk P w K mg base CX0 1 T.f_law_is_integer T.fd_law_is_integer ["thing"] (sp_law_is_integer) := by
  refine T.F_law_is_integer.ok sc_law_is_integer (fun vs H Q E h => ?_) (fun cdv A outer s H vs Q E hr h => ?_)
  · obtain ⟨i, rfl, k⟩ := h
    rfl
  · obtain ⟨i, rfl, k⟩ := h
    refine ⟨_, (pss_one (ps_ret (pe_and (pe_callB (r := rIsi K) call_isi (by rfl) T.n_isinstance (by decide +kernel) (pa_cons (pv 0) (pa_cons (pe_bltn (v := .ty "int") rfl T.n_int (by decide +kernel) rfl) pa_nil))) (pe_one (pe_not (pe_callB (r := rIsi K) call_isi (by rfl) T.n_isinstance (by decide +kernel) (pa_cons (pv 0) (pa_cons (pe_bltn (v := .ty "bool") rfl T.n_bool (by decide +kernel) rfl) pa_nil)))))))), ?_⟩
    walk_at "lw all"
    exact k

theorem ok_law_deeds (T : Tx w K mg) : FnOk P w K mg base CX0 1 T.f_law_deeds T.fd_law_deeds [] (sp_law_deeds) := by
  refine T.F_law_deeds.ok sc_law_deeds (fun vs H Q E h => ?_) (fun cdv A outer s H vs Q E hr h => ?_)
  · obtain ⟨W, rfl, iv, k⟩ := h
    rfl
  · obtain ⟨W, rfl, iv, k⟩ := h
    refine ⟨_, (pss_cons (ps_set (i := 0) sc_law_deeds.nd rfl (by first | exact Or.inl rfl | exact Or.inr rfl) (pe_lst (pa_cons pe_str (pa_cons pe_str (pa_cons pe_str (pa_cons pe_str (pa_cons pe_str (pa_cons pe_str (pa_cons pe_str (pa_cons pe_str (pa_cons pe_str (pa_cons pe_str (pa_cons pe_str pa_nil)))))))))))))
      (pss_cons (ps_set (i := 0) sc_law_deeds.nd rfl (by first | exact Or.inl rfl | exact Or.inr rfl) (pe_op op_cat (pv 0) (pe_lst (pa_cons pe_str (pa_cons pe_str (pa_cons pe_str (pa_cons pe_str (pa_cons pe_str (pa_cons pe_str (pa_cons pe_str (pa_cons pe_str (pa_cons pe_str pa_nil))))))))))))
      (pss_one (ps_ret (pe_op op_cat (pv 0) (pe_lst (pa_cons pe_str (pa_cons pe_str (pa_cons pe_str pa_nil))))))))), ?_⟩
    walk_at "lw all"
    exact k _ _ (by walk_at "lw ex") (by walk_at "lw at")

theorem ok_law_signs (T : Tx w K mg) : FnOk P w K mg base CX0 1 T.f_law_signs T.fd_law_signs [] (sp_law_signs) := by
  refine T.F_law_signs.ok sc_law_signs (fun vs H Q E h => ?_) (fun cdv A outer s H vs Q E hr h => ?_)
  · obtain ⟨rfl, k⟩ := h
    rfl
  · obtain ⟨rfl, k⟩ := h
    refine ⟨_, (pss_cons (ps_set (i := 0) sc_law_signs.nd rfl (by first | exact Or.inl rfl | exact Or.inr rfl) pe_str)
      (pss_one (ps_ret (pe_op o_adds (pv 0) pe_str)))), ?_⟩
    walk_at "lw all"
    exact k

theorem ok_law_same_row (T : Tx w K mg) : FnOk P w K mg base CX0 2 T.f_law_same_row T.fd_law_same_row ["told", "due"] (sp_law_same_row) := by
  refine T.F_law_same_row.ok sc_law_same_row (fun vs H Q E h => ?_) (fun cdv A outer s H vs Q E hr h => ?_)
  · obtain ⟨W, t, d, row, rfl, ht, hd, hab, hl, k⟩ := h
    rfl
  · obtain ⟨W, t, d, row, rfl, ht, hd, hab, hl, k⟩ := h
    refine ⟨_, (pss_cons (ps_if (PW.pt (pw_or (pt_not (pt_val (pe_callB (r := rIsi K) call_isi (by rfl) T.n_isinstance (by decide +kernel) (pa_cons (pv 0) (pa_cons (pe_bltn (v := .ty "tuple") rfl T.n_tuple (by decide +kernel) rfl) pa_nil))))) (pw_or1 (pt_cmpR op_ne (pe_callB (r := Lw.rLen K) c_len (by rfl) T.n_len PySem.boot_len (pa_cons (pv 0) pa_nil)) (pe_callB (r := Lw.rLen K) c_len (by rfl) T.n_len PySem.boot_len (pa_cons (pv 1) pa_nil)) (nomark _)))))
        (pss_one (ps_ret pe_bl))
        pss_nil)
      (pss_cons (ps_for PassesOwn.never rfl (pi_range1 rfl T.n_range (pa_cons (pe_callB (r := Lw.rLen K) c_len (by rfl) T.n_len PySem.boot_len (pa_cons (pv 1) pa_nil)) pa_nil)) (pg_name (i := 2) sc_law_same_row.nd rfl (by first | exact Or.inl rfl | exact Or.inr rfl))
        (pss_one (ps_if (pt_val (pe_callB (r := rIsi K) call_isi (by rfl) T.n_isinstance (by decide +kernel) (pa_cons (pe_ix (r := rIxL K) ix_list (pv 1) (pv 2) (fun _ _ => rfl)) (pa_cons (pe_bltn (v := .ty "str") rfl T.n_str (by decide +kernel) rfl) pa_nil))))
          (pss_one (ps_if (PW.pt (pw_or (pt_not (pt_val (pe_callB (r := rIsi K) call_isi (by rfl) T.n_isinstance (by decide +kernel) (pa_cons (pe_ix (r := rIxT K) ix_tup (pv 0) (pv 2) (fun _ _ => rfl)) (pa_cons (pe_bltn (v := .ty "str") rfl T.n_str (by decide +kernel) rfl) pa_nil))))) (pw_or1 (pt_cmpR op_ne (pe_ix (r := rIxT K) ix_tup (pv 0) (pv 2) (fun _ _ => rfl)) (pe_ix (r := rIxL K) ix_list (pv 1) (pv 2) (fun _ _ => rfl)) (nomark _)))))
            (pss_one (ps_ret pe_bl))
            pss_nil))
          (pss_one (ps_if (PW.pt (pw_or (pt_not (pt_val (pe_call (ok_law_is_integer T) hr (by rfl) T.g_law_is_integer T.F_law_is_integer.kp T.b_law_is_integer .nil pass0 (pa_cons (pe_ix (r := rIxT K) ix_tup (pv 0) (pv 2) (fun _ _ => rfl)) pa_nil)))) (pw_or1 (pt_cmpR op_ne (pe_ix (r := rIxT K) ix_tup (pv 0) (pv 2) (fun _ _ => rfl)) (pe_ix (r := rIxL K) ix_list (pv 1) (pv 2) (fun _ _ => rfl)) (nomark _)))))
            (pss_one (ps_ret pe_bl))
            pss_nil)))))
      (pss_one (ps_ret pe_bl)))), ?_⟩
    walk_at "lw all"
    refine for_r (fun i σ' H' => ∃ v2 : Option V, σ' = [some (.ref t), some (.ref d), v2] ∧ H = H') ⟨_, rfl, rfl⟩ ?_ ?_
    · rintro i σ' H' hi ⟨v2, rfl, rfl⟩
      have hi2 : i < row.length := by omega
      have e0 : atI row (0 + (i : Int)) = some row[i] := at_in (by omega) (by rw [show (0 + (i : Int)).toNat = i by omega]; exact List.getElem?_eq_getElem hi2)
      rcases hab row[i] (List.getElem_mem hi2) with ⟨z, ez⟩ | ⟨z, ez⟩
      · rw [ez] at e0
        walk_at "lw all"
        exact ⟨_, rfl, rfl⟩
      · rw [ez] at e0
        have ee : z = z := rfl
        walk_at "lw all"
        exact ⟨_, rfl, rfl⟩
    · rintro σ' H' ⟨v2, rfl, rfl⟩
      walk_at "lw all"
      exact k

theorem ok_law_same_program (T : Tx w K mg) : FnOk P w K mg base CX0 3 T.f_law_same_program T.fd_law_same_program ["told", "due"] (sp_law_same_program) := by
  refine T.F_law_same_program.ok sc_law_same_program (fun vs H Q E h => ?_) (fun cdv A outer s H vs Q E hr h => ?_)
  · obtain ⟨W, t, d, rs, ds, rows, rfl, ht, hrs, hd, hL, hab, hl, k⟩ := h
    rfl
  · obtain ⟨W, t, d, rs, ds, rows, rfl, ht, hrs, hd, hL, hab, hl, k⟩ := h
    refine ⟨_, (pss_cons (ps_if (PW.pt (pw_or (pt_not (pt_val (pe_callB (r := rIsi K) call_isi (by rfl) T.n_isinstance (by decide +kernel) (pa_cons (pv 0) (pa_cons (pe_bltn (v := .ty "tuple") rfl T.n_tuple (by decide +kernel) rfl) pa_nil))))) (pw_or1 (pt_cmpR op_ne (pe_callB (r := Lw.rLen K) c_len (by rfl) T.n_len PySem.boot_len (pa_cons (pv 0) pa_nil)) (pe_callB (r := Lw.rLen K) c_len (by rfl) T.n_len PySem.boot_len (pa_cons (pv 1) pa_nil)) (nomark _)))))
        (pss_one (ps_ret pe_bl))
        pss_nil)
      (pss_cons (ps_for PassesOwn.never rfl (pi_range1 rfl T.n_range (pa_cons (pe_callB (r := Lw.rLen K) c_len (by rfl) T.n_len PySem.boot_len (pa_cons (pv 1) pa_nil)) pa_nil)) (pg_name (i := 2) sc_law_same_program.nd rfl (by first | exact Or.inl rfl | exact Or.inr rfl))
        (pss_one (ps_if (pt_not (pt_val (pe_call (ok_law_same_row T) hr (by rfl) T.g_law_same_row T.F_law_same_row.kp T.b_law_same_row .nil pass0 (pa_cons (pe_ix (r := rIxT K) ix_tup (pv 0) (pv 2) (fun _ _ => rfl)) (pa_cons (pe_ix (r := rIxL K) ix_list (pv 1) (pv 2) (fun _ _ => rfl)) pa_nil)))))
          (pss_one (ps_ret pe_bl))
          pss_nil)))
      (pss_one (ps_ret pe_bl)))), ?_⟩
    have l1 := hrs.length
    have l2 := hL.length
    have le : ((rs.map V.ref).length : Int) = ((ds.map V.ref).length : Int) := by rw [List.length_map, List.length_map]; omega
    walk_at "lw all"
    refine for_r (fun i σ' H' => ∃ v2 : Option V, σ' = [some (.ref t), some (.ref d), v2] ∧ H = H') ⟨_, rfl, rfl⟩ ?_ ?_
    · rintro i σ' H' hi ⟨v2, rfl, rfl⟩
      rw [List.length_map] at hi
      have hi2 : i < rows.length := by omega
      obtain ⟨a, ea, ha⟩ := hrs.getR (List.getElem?_eq_getElem hi2)
      obtain ⟨c, ec, hc⟩ := hL.getR (List.getElem?_eq_getElem hi2)
      have q := hab rows[i] (List.getElem_mem hi2)
      have e0 : atI (rs.map V.ref) (0 + (i : Int)) = some (.ref a) := at_in (by omega) (by rw [show (0 + (i : Int)).toNat = i by omega, List.getElem?_map, ea]; rfl)
      have e1 : atI (ds.map V.ref) (0 + (i : Int)) = some (.ref c) := at_in (by omega) (by rw [show (0 + (i : Int)).toNat = i by omega, List.getElem?_map, ec]; rfl)
      walk_at "lw go"
      refine cl_law_same_row ha hc q.1 q.2 ?_
      walk_at "lw all"
      exact ⟨_, rfl, rfl⟩
    · rintro σ' H' ⟨v2, rfl, rfl⟩
      walk_at "lw all"
      exact k

theorem flat_us : ∀ us : List Str, (us.map V.str).all flatV = true
  | [] => rfl
  | u :: us => by rw [List.map_cons, List.all_cons, flat_us us]; rfl
theorem all2_eq : ∀ {xs ys : List V}, All2 (fun x y => y = x) xs ys → ys = xs
  | _, _, .nil => rfl
  | _, _, .cons r t => by rw [r, all2_eq t]
theorem ok_law_label (T : Tx w K mg) : FnOk P w K mg base CX0 2 T.f_law_label T.fd_law_label ["pool", "used"] (sp_law_label) := by
  refine T.F_law_label.ok sc_law_label (fun vs H Q E h => ?_) (fun cdv A outer s H vs Q E hr h => ?_)
  · obtain ⟨b, u, us, rfl, iv, hu, hl, k⟩ := h
    rfl
  · obtain ⟨b, u, us, rfl, iv, hu, hl, k⟩ := h
    refine ⟨_, (pss_cons (ps_set (i := 2) sc_law_label.nd rfl (by first | exact Or.inl rfl | exact Or.inr rfl) pe_str)
      (pss_cons (ps_set (i := 3) sc_law_label.nd rfl (by first | exact Or.inl rfl | exact Or.inr rfl) (pe_ix ix_str (pv 2) (pe_call (ok_law_draw T) hr (by rfl) T.g_law_draw T.F_law_draw.kp T.b_law_draw .nil pass0 (pa_cons (pv 0) (pa_cons pe_int pa_nil))) (fun _ _ => rfl)))
      (pss_cut (ps_for PassesOwn.never rfl (pi_range1 rfl T.n_range (pa_cons (pe_call (ok_law_draw T) hr (by rfl) T.g_law_draw T.F_law_draw.kp T.b_law_draw .nil pass0 (pa_cons (pv 0) (pa_cons pe_int pa_nil))) pa_nil)) (pg_name (i := 4) sc_law_label.nd rfl (by first | exact Or.inl rfl | exact Or.inr rfl))
        (pss_one (ps_set (i := 3) sc_law_label.nd rfl (by first | exact Or.inl rfl | exact Or.inr rfl) (pe_op o_adds (pv 3) (pe_ix ix_str (pe_op o_adds (pv 2) pe_str) (pe_call (ok_law_draw T) hr (by rfl) T.g_law_draw T.F_law_draw.kp T.b_law_draw .nil pass0 (pa_cons (pv 0) (pa_cons pe_int pa_nil))) (fun _ _ => rfl))))))
      (pss_cut (ps_if (pt_cmpR op_eq (pe_call (ok_law_draw T) hr (by rfl) T.g_law_draw T.F_law_draw.kp T.b_law_draw .nil pass0 (pa_cons (pv 0) (pa_cons pe_int pa_nil))) pe_int (nomark _))
        (pss_one (ps_set (i := 3) sc_law_label.nd rfl (by first | exact Or.inl rfl | exact Or.inr rfl) (pe_ix (r := rIxL K) ix_list (pe_lst (pa_cons pe_str (pa_cons pe_str (pa_cons pe_str (pa_cons pe_str (pa_cons pe_str (pa_cons pe_str (pa_cons pe_str (pa_cons pe_str (pa_cons pe_str (pa_cons pe_str pa_nil))))))))))) (pe_call (ok_law_draw T) hr (by rfl) T.g_law_draw T.F_law_draw.kp T.b_law_draw .nil pass0 (pa_cons (pv 0) (pa_cons pe_int pa_nil))) (fun _ _ => rfl))))
        pss_nil)
      (pss_cons (ps_if (pt_cmpR (r := rIn K false) op_in_seq (pv 3) (pv 1) (by rfl))
        (pss_cons (ps_setLc (i := 5) (own := [("k", 4)]) rfl sc_law_label.nd rfl rfl (sw_true rfl rfl rfl (by decide +kernel)) (pi_range1 rfl T.n_range (pa_cons pe_int pa_nil)) (blkOk_by (own := [("k", 4)]) (N := N_law_label) (sc := (defScope s_law_label)) (by decide +kernel)) (fun _ _ _ _ _ => (pg_name (i := 4) sc_law_label.nd rfl (by first | exact Or.inl rfl | exact Or.inr rfl))) (fun _ _ _ _ _ => pts_nil) (fun _ _ _ _ _ => (pe_op o_adds (pe_slice sl_str (pv 3) po_none (po_some pe_int)) (pe_callTy c_strB (by rfl) T.n_str (by decide +kernel) (pa_cons (pv 4) pa_nil)))))
        (pss_one (ps_set (i := 3) sc_law_label.nd rfl (by first | exact Or.inl rfl | exact Or.inr rfl) (pe_ix (r := rIxL K) ix_list (pe_lc (own := [("word", 6)]) rfl sc_law_label.nd (pi_list (pv 5)) (blkOk_by (own := [("word", 6)]) (N := N_law_label) (sc := (defScope s_law_label)) (by decide +kernel)) (fun _ _ _ _ _ => (pg_name (i := 6) sc_law_label.nd rfl (by first | exact Or.inl rfl | exact Or.inr rfl))) (fun _ _ _ _ _ => (pts_one (pt_cmpR (r := rIn K true) op_notIn_seq (pv 6) (pv 1) (by rfl)))) (fun _ _ _ _ _ => (pv 6))) pe_int (fun _ _ => rfl)))))
        pss_nil)
      (pss_one (ps_ret (pv 3)))))))), ?_⟩
    walk_at "lw go"
    rename_i r0 H1 e1 r00 r01
    obtain ⟨c, hc, hs⟩ := letter_at r00 r01
    walk_at "lw go"
    refine rd_cut (fun σ' H' => ∃ (l : Str) (v4 : Option V), σ' = [some (.ref b), some (.ref u), some (.str "abcdefghijklmnopqrstuvwxyz"), some (.str l), v4, none, none] ∧ Ex (WB b) H H' ∧ GL 7 l) ?_ ?_
    · walk_at "lw go"
      rename_i r1 H2 e2 r10 r11
      refine for_r (fun i σ' H' => ∃ (l : Str) (v4 : Option V), σ' = [some (.ref b), some (.ref u), some (.str "abcdefghijklmnopqrstuvwxyz"), some (.str l), v4, none, none] ∧ Ex (WB b) H H' ∧ GL i l) ⟨_, _, rfl, by walk_at "lw ex", GL.one hs⟩ ?_ ?_
      · rintro i σ' H' hi ⟨l, v4, rfl, e3, hg⟩
        have hll := hg.len
        walk_at "lw go"
        rename_i r2 H3 e4 r20 r21
        obtain ⟨c2, hc2, hs2⟩ := sign_at r20 r21
        have h1 : (⟨#[c2]⟩ : Str).length = 1 := rfl
        walk_at "lw go"
        exact ⟨_, _, rfl, by walk_at "lw ex", hg.add hs2⟩
      · rintro σ' H' ⟨l, v4, rfl, e3, hg⟩
        exact ⟨_, _, rfl, e3, hg.mono (by omega)⟩
    rintro σ' H1 ⟨l, v4, rfl, e1, hg⟩
    refine rd_cut (fun σ' H' => ∃ (l : Str) (v4 : Option V), σ' = [some (.ref b), some (.ref u), some (.str "abcdefghijklmnopqrstuvwxyz"), some (.str l), v4, none, none] ∧ Ex (WB b) H H' ∧ isL l = true) ?_ ?_
    · walk_at "lw go"
      rename_i r1 H2 e2 r10 r11
      refine ifI (fun e => ?_) (fun e => ?_)
      · walk_at "lw go"
        rename_i L H3 f3 e3 h3 r2 H4 e4 r20 r21 v hv
        simp only [List.mem_cons, List.not_mem_nil, or_false] at hv
        have e5 : Ex (WB b) H H4 := by walk_at "lw ex"
        rcases hv with rfl | rfl | rfl | rfl | rfl | rfl | rfl | rfl | rfl | rfl <;> exact ⟨_, _, rfl, e5, by decide +kernel⟩
      · walk_at "lw go"
        exact ⟨_, _, rfl, by walk_at "lw ex", hg.isL⟩
    rintro σ' H2 ⟨l2, v4, rfl, e2, hg2⟩
    have hg7 : GL 7 l2 := isL_of hg2
    have hl2 := hg7.len
    walk_at "lw go"
    refine rd_inL (W := WB b) (by walk_at "lw at") rfl (flat_us _) ?_
    rw [inV_str]
    walk_at "lw go"
    refine ifD (fun hin => ?_) (fun hin => ?_)
    · walk_at "lw go"
      refine lc_w (W := WB b) (X := fun i x => x = .int (0 + (i : Nat))) (n := 60) walk_range (fun n ys _ => ys = (List.range n).map fun k : Nat => V.str (cutS l2 none (some 6) ++ (toString (k : Int) : Str))) e2.iv (by decide) (fun _ _ => trivial) (fun _ _ _ _ _ h => h) rfl ?_ ?_
      · rintro n x D ys H' QV QN hn rfl hD hDa e3 hy _ qv qn
        have hc6 : (cutS l2 none (some 6)).length ≤ 8 := Nat.le_trans (cutS_length _ _ _) hl2
        have hnl : (toString (0 + (n : Int)) : Str).length ≤ 2 := by
          rw [len_tl, tl_toString (by omega)]
          exact numL_len (by decide) (by omega)
        walk_at "lw go"
        refine iteT ?_
        walk_at "lw go"
        refine rd_strI (Nat.lt_of_le_of_lt (Nat.log2_le_self _) (by omega)) ?_
        walk_at "lw go"
        refine qv _ _ (Ex.refl e3.iv) ?_
        rw [hy, List.range_succ, List.map_append, List.map_singleton, Int.zero_add]
      · rintro D H3 ys hD e3 hDl hy _
        subst hy
        walk_at "lw go"
        refine rd_lcF (W := WB b) (fun v => !inV v (us.map V.str)) (fun x y _ => y = x) e3.iv hDl (by simp) (fun _ _ _ _ _ r => r) (fun n x H' QB hx e q => ?_) (fun n x D2 acc H' QV hx hk hD2 hDa e q => ?_) (fun D2 H4 ys hD2 e4 h4 hA => ?_)
        · obtain ⟨j, _, rfl⟩ := List.mem_map.mp (List.mem_of_getElem? hx)
          walk_at "lw go"
          refine rd_niL (W := WB b) (by walk_at "lw at") rfl (flat_us _) ?_
          walk_at "lw go"
          exact q _ (Ex.refl e.iv)
        · walk_at "lw go"
          exact q _ _ (Ex.refl e.iv) rfl
        · have hys := all2_eq hA
          cases ys with
          | nil =>
            obtain ⟨j, hj, hnf⟩ := some_free (l := cutS l2 none (some 6)) hl
            have hm : V.str (cutS l2 none (some 6) ++ (toString ((j : Nat) : Int) : Str)) ∈ ([] : List V) := by
              rw [hys, List.mem_filter]
              refine ⟨List.mem_map.mpr ⟨j, List.mem_range.mpr hj, rfl⟩, ?_⟩
              rw [inV_str, decide_eq_false hnf]
              rfl
            cases hm
          | cons y0 r =>
            have hm : y0 ∈ y0 :: r := List.mem_cons_self ..
            rw [hys, List.mem_filter] at hm
            obtain ⟨⟨j, hj, rfl⟩, hnf⟩ := And.intro (List.mem_map.mp hm.1) hm.2
            rw [inV_str, Bool.not_eq_true', decide_eq_false_iff_not] at hnf
            walk_at "lw go"
            exact k _ _ (by walk_at "lw ex") (hg7.cut (Nat.lt_trans (List.mem_range.mp hj) (by decide))).isL hnf
    · walk_at "lw go"
      exact k _ _ (by walk_at "lw ex") hg2 hin

theorem ok_law_instruction (T : Tx w K mg) : FnOk P w K mg base CX0 2 T.f_law_instruction T.fd_law_instruction ["pool", "length"] (sp_law_instruction) := by
  refine T.F_law_instruction.ok sc_law_instruction (fun vs H Q E h => ?_) (fun cdv A outer s H vs Q E hr h => ?_)
  · obtain ⟨b, n, rfl, n0, n1, iv, k⟩ := h
    rfl
  · obtain ⟨b, n, rfl, n0, n1, iv, k⟩ := h
    refine ⟨_, (pss_cons (ps_set (i := 2) sc_law_instruction.nd rfl (by first | exact Or.inl rfl | exact Or.inr rfl) (pe_lst (pa_cons pe_str (pa_cons pe_str (pa_cons pe_str (pa_cons pe_str (pa_cons pe_str (pa_cons pe_str (pa_cons pe_str (pa_cons pe_str (pa_cons pe_str (pa_cons pe_str pa_nil))))))))))))
      (pss_cons (ps_set (i := 3) sc_law_instruction.nd rfl (by first | exact Or.inl rfl | exact Or.inr rfl) (pe_ix (r := rIxL K) ix_list (pv 2) (pe_call (ok_law_draw T) hr (by rfl) T.g_law_draw T.F_law_draw.kp T.b_law_draw .nil pass0 (pa_cons (pv 0) (pa_cons pe_int pa_nil))) (fun _ _ => rfl)))
      (pss_cons (ps_if (pt_cmpR op_eq (pv 3) pe_str (nomark _))
        (pss_one (ps_ret (pe_lst (pa_cons (pv 3) (pa_cons (pe_ix (r := rIxL K) ix_list (pe_call0 (ok_law_deeds T) hr (by rfl) T.g_law_deeds T.F_law_deeds.kp T.b_law_deeds .nil pass0) (pe_call (ok_law_draw T) hr (by rfl) T.g_law_draw T.F_law_draw.kp T.b_law_draw .nil pass0 (pa_cons (pv 0) (pa_cons pe_int pa_nil))) (fun _ _ => rfl)) pa_nil)))))
        pss_nil)
      (pss_cons (ps_if (pt_cmpR op_eq (pv 3) pe_str (nomark _))
        (pss_one (ps_ret (pe_lst (pa_cons (pv 3) (pa_cons (pe_call (ok_law_draw T) hr (by rfl) T.g_law_draw T.F_law_draw.kp T.b_law_draw .nil pass0 (pa_cons (pv 0) (pa_cons (pv 1) pa_nil))) pa_nil)))))
        pss_nil)
      (pss_cons (ps_set (i := 4) sc_law_instruction.nd rfl (by first | exact Or.inl rfl | exact Or.inr rfl) (pe_call (ok_law_draw T) hr (by rfl) T.g_law_draw T.F_law_draw.kp T.b_law_draw .nil pass0 (pa_cons (pv 0) (pa_cons pe_int pa_nil))))
      (pss_cons (ps_if (pt_cmpR op_eq (pv 3) pe_str (nomark _))
        (pss_one (ps_ret (pe_lst (pa_cons (pv 3) (pa_cons (pv 4) (pa_cons (pe_call (ok_law_draw T) hr (by rfl) T.g_law_draw T.F_law_draw.kp T.b_law_draw .nil pass0 (pa_cons (pv 0) (pa_cons (pv 1) pa_nil))) pa_nil))))))
        pss_nil)
      (pss_cons (ps_if (pt_cmpR op_eq (pv 3) pe_str (nomark _))
        (pss_one (ps_ret (pe_lst (pa_cons (pv 3) (pa_cons (pv 4) (pa_cons (pe_ix (r := rIxL K) ix_list (pe_lst (pa_cons (pe_call (ok_law_draw T) hr (by rfl) T.g_law_draw T.F_law_draw.kp T.b_law_draw .nil pass0 (pa_cons (pv 0) (pa_cons pe_int pa_nil))) (pa_cons (pe_call (ok_law_draw T) hr (by rfl) T.g_law_draw T.F_law_draw.kp T.b_law_draw .nil pass0 (pa_cons (pv 0) (pa_cons pe_int pa_nil))) (pa_cons pe_int pa_nil)))) (pe_call (ok_law_draw T) hr (by rfl) T.g_law_draw T.F_law_draw.kp T.b_law_draw .nil pass0 (pa_cons (pv 0) (pa_cons pe_int pa_nil))) (fun _ _ => rfl)) pa_nil))))))
        pss_nil)
      (pss_one (ps_ret (pe_lst (pa_cons (pv 3) (pa_cons (pv 4) (pa_cons (pe_call (ok_law_draw T) hr (by rfl) T.g_law_draw T.F_law_draw.kp T.b_law_draw .nil pass0 (pa_cons (pv 0) (pa_cons pe_int pa_nil))) pa_nil))))))))))))), ?_⟩
    have dl : (DL.length : Int) = 23 := rfl
    walk_at "lw go"
    rename_i p H1 f1 e1 h1 r0 H2 e2 r00 r01 v hv
    simp only [List.mem_cons, List.not_mem_nil, or_false] at hv
    rcases hv with rfl | rfl | rfl | rfl | rfl | rfl | rfl | rfl | rfl | rfl
    · walk_at "lw all"
      rename_i r H3 e3 r10 r11 r2 H4 e4 r20 r21 r3 H5 e5 r30 r31 L H6 f6 e6 h6 r4 H7 e7 r40 r41 v hv p2 H8 f8 e8 h8
      simp only [List.mem_cons, List.not_mem_nil, or_false] at hv
      rcases hv with rfl | rfl | rfl
      · exact k _ _ (.set r _) (by walk_at "lw ex") h8 ⟨⟨r10, r11⟩, by omega, by omega⟩
      · exact k _ _ (.set r _) (by walk_at "lw ex") h8 ⟨⟨r10, r11⟩, by omega, by omega⟩
      · exact k _ _ (.set r _) (by walk_at "lw ex") h8 ⟨⟨r10, r11⟩, by omega, by omega⟩
    · walk_at "lw all"
      rename_i r H3 e3 r10 r11 r2 H4 e4 r20 r21 p2 H8 f8 e8 h8
      exact k _ _ (.two "move" r r2) (by walk_at "lw ex") h8 ⟨.inl rfl, ⟨r10, r11⟩, by omega, by omega⟩
    · walk_at "lw all"
      rename_i r H3 e3 r10 r11 r2 H4 e4 r20 r21 p2 H8 f8 e8 h8
      exact k _ _ (.two "add" r r2) (by walk_at "lw ex") h8 ⟨.inr (.inl rfl), ⟨r10, r11⟩, by omega, by omega⟩
    · walk_at "lw all"
      rename_i r H3 e3 r10 r11 r2 H4 e4 r20 r21 p2 H8 f8 e8 h8
      exact k _ _ (.two "sub" r r2) (by walk_at "lw ex") h8 ⟨.inr (.inr (.inl rfl)), ⟨r10, r11⟩, by omega, by omega⟩
    · walk_at "lw all"
      rename_i r H3 e3 r10 r11 r2 H4 e4 r20 r21 p2 H8 f8 e8 h8
      exact k _ _ (.two "load" r r2) (by walk_at "lw ex") h8 ⟨.inr (.inr (.inr (.inl rfl))), ⟨r10, r11⟩, by omega, by omega⟩
    · walk_at "lw all"
      rename_i r H3 e3 r10 r11 r2 H4 e4 r20 r21 p2 H8 f8 e8 h8
      exact k _ _ (.two "store" r r2) (by walk_at "lw ex") h8 ⟨.inr (.inr (.inr (.inr rfl))), ⟨r10, r11⟩, by omega, by omega⟩
    · walk_at "lw all"
      rename_i r H3 e3 r10 r11 p2 H8 f8 e8 h8
      exact k _ _ (.jump r) (by walk_at "lw ex") h8 ⟨r10, r11⟩
    · walk_at "lw all"
      rename_i r H3 e3 r10 r11 r2 H4 e4 r20 r21 p2 H8 f8 e8 h8
      exact k _ _ (.zero r r2) (by walk_at "lw ex") h8 ⟨⟨r10, r11⟩, by omega, by omega⟩
    · walk_at "lw all"
      rename_i r H3 e3 r10 r11 r2 H4 e4 r20 r21 p2 H8 f8 e8 h8
      exact k _ _ (.zero r r2) (by walk_at "lw ex") h8 ⟨⟨r10, r11⟩, by omega, by omega⟩
    · walk_at "lw all"
      rename_i d H3 e3 h3 r H4 e4 r20 r21 v hv p2 H8 f8 e8 h8
      obtain ⟨z, rfl⟩ : ∃ z, v = .str z := by
        have q := hv
        unfold DL at q
        simp only [List.mem_cons, List.not_mem_nil, or_false] at q
        rcases q with rfl | rfl | rfl | rfl | rfl | rfl | rfl | rfl | rfl | rfl | rfl | rfl | rfl | rfl | rfl | rfl | rfl | rfl | rfl | rfl | rfl | rfl | rfl <;> exact ⟨_, rfl⟩
      exact k _ _ (.deed z) (by walk_at "lw ex") h8 hv

theorem signs_at {r : Int} (h0 : 0 ≤ r) (h1 : r < 95) : ∃ c, atI signs.cps.toList r = some c ∧ c ≠ 10 := by
  have hl : signs.cps.toList.length = 95 := by decide +kernel
  have hi : r.toNat < signs.cps.toList.length := by omega
  refine ⟨signs.cps.toList[r.toNat], at_inG h0 (List.getElem?_eq_getElem hi), ?_⟩
  have q : signs.cps.toList.all (fun c => decide (c ≠ 10)) = true := by decide +kernel
  exact of_decide_eq_true (List.all_eq_true.mp q _ (List.getElem_mem hi))
theorem ig_nil : Ig "" := ⟨.inl rfl, by decide +kernel, by decide +kernel⟩
theorem ok_law_gap (T : Tx w K mg) : FnOk P w K mg base CX0 2 T.f_law_gap T.fd_law_gap ["pool"] (sp_law_gap) := by
  refine T.F_law_gap.ok sc_law_gap (fun vs H Q E h => ?_) (fun cdv A outer s H vs Q E hr h => ?_)
  · obtain ⟨b, rfl, iv, k⟩ := h
    rfl
  · obtain ⟨b, rfl, iv, k⟩ := h
    refine ⟨_, (pss_cons (ps_set (i := 1) sc_law_gap.nd rfl (by first | exact Or.inl rfl | exact Or.inr rfl) (pe_call (ok_law_draw T) hr (by rfl) T.g_law_draw T.F_law_draw.kp T.b_law_draw .nil pass0 (pa_cons (pv 0) (pa_cons pe_int pa_nil))))
      (pss_cons (ps_if (pt_cmpR op_eq (pv 1) pe_int (nomark _))
        (pss_one (ps_ret (pe_lst (pa_cons pe_str pa_nil))))
        pss_nil)
      (pss_cons (ps_if (pt_cmpR op_eq (pv 1) pe_int (nomark _))
        (pss_one (ps_ret (pe_lst (pa_cons (pe_ix (r := rIxL K) ix_list (pe_lst (pa_cons pe_str (pa_cons pe_str (pa_cons pe_str (pa_cons pe_str (pa_cons pe_str (pa_cons pe_str pa_nil))))))) (pe_call (ok_law_draw T) hr (by rfl) T.g_law_draw T.F_law_draw.kp T.b_law_draw .nil pass0 (pa_cons (pv 0) (pa_cons pe_int pa_nil))) (fun _ _ => rfl)) (pa_cons pe_str pa_nil)))))
        pss_nil)
      (pss_cons (ps_if (pt_cmpR op_eq (pv 1) pe_int (nomark _))
        (pss_cons (ps_set (i := 2) sc_law_gap.nd rfl (by first | exact Or.inl rfl | exact Or.inr rfl) pe_str)
        (pss_cons (ps_for PassesOwn.never rfl (pi_range1 rfl T.n_range (pa_cons (pe_call (ok_law_draw T) hr (by rfl) T.g_law_draw T.F_law_draw.kp T.b_law_draw .nil pass0 (pa_cons (pv 0) (pa_cons pe_int pa_nil))) pa_nil)) (pg_name (i := 3) sc_law_gap.nd rfl (by first | exact Or.inl rfl | exact Or.inr rfl))
          (pss_one (ps_set (i := 2) sc_law_gap.nd rfl (by first | exact Or.inl rfl | exact Or.inr rfl) (pe_op o_adds (pv 2) (pe_ix ix_str (pe_call0 (ok_law_signs T) hr (by rfl) T.g_law_signs T.F_law_signs.kp T.b_law_signs .nil pass0) (pe_call (ok_law_draw T) hr (by rfl) T.g_law_draw T.F_law_draw.kp T.b_law_draw .nil pass0 (pa_cons (pv 0) (pa_cons pe_int pa_nil))) (fun _ _ => rfl))))))
        (pss_one (ps_ret (pe_lst (pa_cons (pv 2) pa_nil))))))
        pss_nil)
      (pss_one (ps_ret (pe_lst pa_nil))))))), ?_⟩
    walk_at "lw all"
    · rename_i H1 e1 _ _ p H2 f2 e2 h2
      refine k _ _ [""] (by walk_at "lw ex") h2 (fun g hg => ?_) (by decide)
      rw [List.mem_singleton] at hg
      subst hg
      exact ig_nil
    · rename_i p0 H1 f1 e1 h1 r H2 e2 r0 r1 v hv p H3 f3 e3 h3
      simp only [List.mem_cons, List.not_mem_nil, or_false] at hv
      have e4 : Ex (WB b) H H3 := by walk_at "lw ex"
      rcases hv with rfl | rfl | rfl | rfl | rfl | rfl <;>
      · refine k _ _ [_, ""] e4 h3 (fun g hg => ?_) (by decide)
        simp only [List.mem_cons, List.not_mem_nil, or_false] at hg
        rcases hg with rfl | rfl
        · exact ⟨.inr ⟨_, rfl⟩, by decide +kernel, by decide +kernel⟩
        · exact ig_nil
    · rename_i r H2 e2 r0 r1
      refine for_r (fun i σ' H' => ∃ (z : Str) (v3 : Option V), σ' = [some (.ref b), some (.int 2), some (.str z), v3] ∧ Ex (WB b) H H' ∧ (∃ r, tl z = 35 :: r ∧ r.length ≤ i) ∧ 10 ∉ tl z) ⟨_, _, rfl, by walk_at "lw ex", ⟨[], rfl, Nat.le_refl _⟩, by decide +kernel⟩ ?_ ?_
      · rintro i σ' H' hi ⟨z, v3, rfl, e3, ⟨rr, er, hr2⟩, hz⟩
        have hl : z.length ≤ 20 := by rw [len_tl, er, List.length_cons]; omega
        walk_at "lw go"
        rename_i r2 H3 e4 r20 r21
        obtain ⟨c, hc, hc2⟩ := signs_at r20 r21
        have h1 : (⟨#[c]⟩ : Str).length = 1 := rfl
        walk_at "lw go"
        refine ⟨_, _, rfl, by walk_at "lw ex", ⟨rr ++ [c], by rw [tl_append, er]; rfl, by rw [List.length_append]; exact Nat.succ_le_succ hr2⟩, ?_⟩
        rw [tl_append, List.mem_append]
        rintro (q | q)
        · exact hz q
        · exact hc2 (by simpa using q : 10 = c).symm
      · rintro σ' H' ⟨z, v3, rfl, e3, ⟨rr, er, hr2⟩, hz⟩
        walk_at "lw go"
        rename_i p H3 f3 e4 h3
        refine k _ _ [z] (by walk_at "lw ex") h3 (fun g hg => ?_) (Nat.le_succ 1)
        rw [List.mem_singleton] at hg
        subst hg
        exact ⟨.inr ⟨rr, er⟩, hz, by rw [len_tl, er, List.length_cons]; omega⟩
    · rename_i p H2 f2 e2 h2
      exact k _ _ [] (by walk_at "lw ex") h2 (fun g hg => nomatch hg) (by decide)

theorem ok_law_targets (T : Tx w K mg) : FnOk P w K mg base CX0 1 T.f_law_targets T.fd_law_targets ["item"] (sp_law_targets) := by
  refine T.F_law_targets.ok sc_law_targets (fun vs H Q E h => ?_) (fun cdv A outer s H vs Q E hr h => ?_)
  · obtain ⟨W, p, it, n, rfl, iv, hp, ho, k⟩ := h
    rfl
  · obtain ⟨W, p, it, n, rfl, iv, hp, ho, k⟩ := h
    refine ⟨_, (pss_cons (ps_if (pt_cmpR op_eq (pe_ix (r := rIxL K) ix_list (pv 0) pe_int (fun _ _ => rfl)) pe_str (nomark _))
        (pss_one (ps_ret (pe_lst (pa_cons (pe_ix (r := rIxL K) ix_list (pv 0) pe_int (fun _ _ => rfl)) pa_nil))))
        pss_nil)
      (pss_cons (ps_if (pt_cmpR op_eq (pe_ix (r := rIxL K) ix_list (pv 0) pe_int (fun _ _ => rfl)) pe_str (nomark _))
        (pss_one (ps_ret (pe_lst (pa_cons (pe_ix (r := rIxL K) ix_list (pv 0) pe_int (fun _ _ => rfl)) pa_nil))))
        pss_nil)
      (pss_one (ps_ret (pe_lst pa_nil))))), ?_⟩
    cases it with
    | deed d =>
      replace hp : At W H p (.lst [.str "deed", .str d]) := hp
      walk_at "lw all"
      rename_i q H2 f2 e2 h2
      exact k _ _ e2 f2 h2
    | jump t =>
      replace hp : At W H p (.lst [.str "jump", .int t]) := hp
      walk_at "lw all"
      rename_i q H2 f2 e2 h2
      exact k _ _ e2 f2 h2
    | zero r t =>
      replace hp : At W H p (.lst [.str "zero", .int r, .int t]) := hp
      walk_at "lw all"
      rename_i q H2 f2 e2 h2
      exact k _ _ e2 f2 h2
    | set r v =>
      replace hp : At W H p (.lst [.str "set", .int r, .int v]) := hp
      walk_at "lw all"
      rename_i q H2 f2 e2 h2
      exact k _ _ e2 f2 h2
    | two m r q =>
      obtain ⟨hm, _⟩ := ho
      replace hp : At W H p (.lst [.str m, .int r, .int q]) := hp
      rcases hm with rfl | rfl | rfl | rfl | rfl
      all_goals walk_at "lw all"
      all_goals
        rename_i q H2 f2 e2 h2
        exact k _ _ e2 f2 h2

theorem flat_is : ∀ us : List Int, (us.map V.int).all flatV = true
  | [] => rfl
  | u :: us => by rw [List.map_cons, List.all_cons, flat_is us]; rfl
theorem inV_int (l : Int) (us : List Int) : inV (.int l) (us.map V.int) = decide (l ∈ us) := by
  rw [Bool.eq_iff_iff, decide_eq_true_eq]
  unfold inV
  rw [List.any_map, List.any_eq_true]
  constructor
  · rintro ⟨x, hx, e⟩
    have : l = x ∨ x = l := by
      have e' : (x == l) = true ∨ (l == x) = true := by first | exact .inl e | exact .inr e
      rcases e' with q | q
      · exact .inr (by simpa using q)
      · exact .inl (by simpa using q)
    rcases this with rfl | rfl <;> exact hx
  · intro h
    exact ⟨l, h, by show (l == l) = true; simp⟩
theorem F2.mono_mem {α β : Type} {R S : α → β → Prop} : ∀ {xs : List α} {ys : List β}, (∀ x ∈ xs, ∀ y, R x y → S x y) → F2 R xs ys → F2 S xs ys
  | _, _, _, .nil => .nil
  | x :: xs, _, f, .cons a t => .cons (f x (List.mem_cons_self ..) _ a) (F2.mono_mem (fun z hz => f z (List.mem_cons_of_mem _ hz)) t)
theorem F2.upd {α β : Type} {R S : α → β → Prop} {q : α} {c c2 : β} {cs : List β} : ∀ {ds : List β} {qs : List α}, F2 R qs (ds ++ c :: cs) → qs.Nodup → qs[ds.length]? = some q → (∀ q' c', q' ≠ q → R q' c' → S q' c') → S q c2 → F2 S qs (ds ++ c2 :: cs)
  | [], q0 :: qs, .cons a t, n, e, f, g => by
    have e' : q0 = q := by simpa using e
    subst e'
    have n' := List.nodup_cons.mp n
    exact .cons g (F2.mono_mem (fun z hz y r => f z y (fun z' => n'.1 (z' ▸ hz)) r) t)
  | d :: ds, _ :: qs, .cons a t, n, e, f, g => by
    have n' := List.nodup_cons.mp n
    have e' : qs[ds.length]? = some q := by simpa using e
    exact .cons (f _ _ (fun z => n'.1 (z ▸ List.mem_of_getElem? e')) a) (F2.upd t n'.2 e' f g)
theorem tg_len (it : It) : it.tg.length ≤ 1 := by cases it <;> simp [It.tg]
theorem lcg_w {K : PySem.W.Frag} {a : Addr} {g : TG} {tt : TT} {te : TE} {ws : List Nat} {σ : L2.St} {H1 : Hp} {Q : VK} (h : LcW (Itl K a) g tt te ws σ H1 Q) : LcG K a g tt te ws σ H1 Q := h
theorem tg_in {n : Int} {it : It} (h : it.Ok n) {t : Int} (ht : t ∈ it.tg) : 0 ≤ t ∧ t < n := by
  cases it with
  | jump t' =>
    have : t = t' := by simpa [It.tg] using ht
    subst this; exact h
  | zero r t' =>
    have : t = t' := by simpa [It.tg] using ht
    subst this; exact h.2
  | _ => exact nomatch ht
structure LSt (W : Wd) (H : Hp) (u w D : Addr) (qs : List Addr) (ws : List Int) (cs : List (List Str)) (us : List Str) : Prop where
  lb : Lbs W H qs cs
  hu : At W H u (.lst (us.map V.str))
  hw : At W H w (.lst (ws.map V.int))
  hD : At W H D (.lst (qs.map V.ref))
  nd : us.Nodup
  gd : ∀ l ∈ us, isL l = true
theorem LSt.mono {W : Wd} {H H' : Hp} (e : Ex W H H') {u w D : Addr} {qs : List Addr} {ws : List Int} {cs : List (List Str)} {us : List Str} (h : LSt W H u w D qs ws cs us) : LSt W H' u w D qs ws cs us := ⟨h.lb.mono e, e.at_ h.hu, e.at_ h.hw, e.at_ h.hD, h.nd, h.gd⟩
theorem F2.repR {α β : Type} {R : α → β → Prop} {c : β} : ∀ {xs : List α}, (∀ x ∈ xs, R x c) → F2 R xs (List.replicate xs.length c)
  | [], _ => .nil
  | x :: xs, h => .cons (h x (List.mem_cons_self ..)) (F2.repR fun z hz => h z (List.mem_cons_of_mem _ hz))
theorem ok_law_labels (T : Tx w K mg) : FnOk P w K mg base CX0 3 T.f_law_labels T.fd_law_labels ["pool", "items"] (sp_law_labels) := by
  refine T.F_law_labels.ok sc_law_labels (fun vs H Q E h => ?_) (fun cdv A outer s H vs Q E hr h => ?_)
  · obtain ⟨b, p, rs, its, rfl, iv, hp, hI, ho, hn, k⟩ := h
    rfl
  · obtain ⟨b, p, rs, its, rfl, iv, hp, hI, ho, hn, k⟩ := h
    refine ⟨_, (pss_cons (ps_setLc (i := 2) (own := [("item", 5)]) rfl sc_law_labels.nd rfl rfl (sw_true rfl rfl rfl (by decide +kernel)) (pi_list (pv 1)) (blkOk_by (own := [("item", 5)]) (N := N_law_labels) (sc := (defScope s_law_labels)) (by decide +kernel)) (fun _ _ _ _ _ => (pg_name (i := 5) sc_law_labels.nd rfl (by first | exact Or.inl rfl | exact Or.inr rfl))) (fun _ _ _ _ _ => pts_nil) (fun _ _ _ _ _ => (pe_lst pa_nil)))
      (pss_cons (ps_set (i := 3) sc_law_labels.nd rfl (by first | exact Or.inl rfl | exact Or.inr rfl) (pe_lst pa_nil))
      (pss_cons (ps_set (i := 4) sc_law_labels.nd rfl (by first | exact Or.inl rfl | exact Or.inr rfl) (pe_lst pa_nil))
      (pss_cons (ps_for PassesOwn.never rfl (pi_list (pv 1)) (pg_name (i := 5) sc_law_labels.nd rfl (by first | exact Or.inl rfl | exact Or.inr rfl))
        (pss_one (ps_set (i := 4) sc_law_labels.nd rfl (by first | exact Or.inl rfl | exact Or.inr rfl) (pe_op op_cat (pv 4) (pe_call (ok_law_targets T) (hr.mono (by decide)) (by rfl) T.g_law_targets T.F_law_targets.kp T.b_law_targets .nil pass0 (pa_cons (pv 5) pa_nil))))))
      (pss_cons (ps_for PassesOwn.never rfl (pi_range1 rfl T.n_range (pa_cons (pe_callB (r := Lw.rLen K) c_len (by rfl) T.n_len PySem.boot_len (pa_cons (pv 1) pa_nil)) pa_nil)) (pg_name (i := 6) sc_law_labels.nd rfl (by first | exact Or.inl rfl | exact Or.inr rfl))
        (pss_cons (ps_set (i := 7) sc_law_labels.nd rfl (by first | exact Or.inl rfl | exact Or.inr rfl) (pe_call (ok_law_draw T) (hr.mono (by decide)) (by rfl) T.g_law_draw T.F_law_draw.kp T.b_law_draw .nil pass0 (pa_cons (pv 0) (pa_cons pe_int pa_nil))))
        (pss_cut (ps_if (PW.pt (pw_and (pt_cmpR op_eq (pv 7) pe_int (nomark _)) (pw_and1 (pt_cmpR (r := rIn K false) op_in_seq (pv 6) (pv 4) (by rfl)))))
          (pss_one (ps_set (i := 7) sc_law_labels.nd rfl (by first | exact Or.inl rfl | exact Or.inr rfl) pe_int))
          pss_nil)
        (pss_one (ps_for PassesOwn.never rfl (pi_range1 rfl T.n_range (pa_cons (pv 7) pa_nil)) (pg_name (i := 8) sc_law_labels.nd rfl (by first | exact Or.inl rfl | exact Or.inr rfl))
          (pss_cons (ps_set (i := 9) sc_law_labels.nd rfl (by first | exact Or.inl rfl | exact Or.inr rfl) (pe_call (ok_law_label T) hr (by rfl) T.g_law_label T.F_law_label.kp T.b_law_label .nil pass0 (pa_cons (pv 0) (pa_cons (pv 3) pa_nil))))
          (pss_cons (ps_expr (pe_bm PySem.F.plainAttrs_list PySem.F.slot_list_append PySem.F.type_list_append mt_append (pv 3) (pa_cons (pv 9) pa_nil)))
          (pss_one (ps_expr (pe_bm PySem.F.plainAttrs_list PySem.F.slot_list_append PySem.F.type_list_append mt_append (pe_ix (r := rIxL K) ix_list (pv 2) (pv 6) (fun _ _ => rfl)) (pa_cons (pv 9) pa_nil)))))))))))
      (pss_one (ps_ret (pv 2)))))))), ?_⟩
    have lr := hI.length
    walk_at "lw go"
    refine ⟨p, rfl, ⟨_, hp.sl⟩, ?_⟩
    refine lcg_w (lc_w (W := WB b) (J := Itl _ p) (X := fun i x => (rs.map V.ref)[i]? = some x) walk_list
      (fun n ys Hh => ∃ qs : List Addr, ys = qs.map V.ref ∧ qs.length = n ∧ qs.Nodup ∧ (∀ q ∈ qs, H q = none) ∧ ∀ q ∈ qs, At (WB b) Hh q (.lst [])) iv (by rw [List.length_map]; omega) (fun H' e => (e.at_ hp).sl)
      (fun k ys H1 H2 e ⟨qs, a1, a2, a3, a4, a5⟩ => ⟨qs, a1, a2, a3, a4, fun q hq => e.at_ (a5 q hq)⟩) ⟨[], rfl, rfl, List.nodup_nil, by simp, by simp⟩ ?_ ?_)
    · rintro n x D ys H' QV QN hn' hx hD hDa e3 ⟨qs, rfl, a2, a3, a4, a5⟩ _ qv qn
      walk_at "lw go"
      refine iteT ?_
      walk_at "lw go"
      rename_i q H2 f2 e2 h2
      have nD : q ≠ D := (hDa.ne_fresh f2).symm
      have nq : ∀ q' ∈ qs, q' ≠ q := fun q' h z => by
        have z1 := (a5 q' h).1
        have z2 : q' ≠ D := fun z3 => by
          unfold Lw.hide at z1
          rw [if_pos z3] at z1; cases z1
        rw [hide_ne z2, z, f2] at z1
        cases z1
      refine qv _ _ e2 ⟨qs ++ [q], by rw [List.map_append]; rfl, by rw [List.length_append, a2]; rfl, List.nodup_append.mpr ⟨a3, by simp, fun a ha c hc => by rw [List.mem_singleton.mp hc]; exact nq a ha⟩, fun q' hq' => ?_, fun q' hq' => ?_⟩
      · rcases List.mem_append.mp hq' with z | z
        · exact a4 q' z
        · rw [List.mem_singleton.mp z]; exact e3.fresh f2
      · rcases List.mem_append.mp hq' with z | z
        · exact (hide_ex e2 hDa).at_ (a5 q' z)
        · rw [List.mem_singleton.mp z]; exact h2.hide nD e2.iv (e2.at_ hDa)
    rintro D H1 ys hD e1 hD1 ⟨qs, rfl, lq, nd, fr, hq⟩ _
    rw [List.length_map] at lq
    walk_at "lw go"
    rename_i u H2 f2 e2 h2 w0 H3 f3 e3 h3
    have hu0 : H u = none := e1.fresh f2
    have hDu : D ≠ u := hD1.ne_fresh f2
    have hqu : ∀ q ∈ qs, q ≠ u := fun q h => (hq q h).ne_fresh f2
    have e13 : Ex (WB b) H1 H3 := e2.trans e3
    refine for_l (fun i σ' H' => ∃ (w : Addr) (ws : List Int) (v5 : Option V), σ' = [some (.ref b), some (.ref p), some (.ref D), some (.ref u), some (.ref w), v5, none, none, none, none] ∧ Ex (WB b) H3 H' ∧ At (WB b) H' w (.lst (ws.map V.int)) ∧ ws.length ≤ i ∧ (∀ q ∈ qs, q ≠ w) ∧ u ≠ w ∧ D ≠ w ∧ ∀ it ∈ its.take i, ∀ t ∈ it.tg, t ∈ ws)
      ⟨w0, [], none, rfl, Ex.refl e3.iv, h3, Nat.le_refl _, fun q h => (e2.at_ (hq q h)).ne_fresh f3, h2.ne_fresh f3, (e2.at_ hD1).ne_fresh f3, fun it h => by simp at h⟩ (fun i σ' H' _ ⟨_, _, _, _, e, _⟩ => by walk_at "lw at") ?_ ?_
    · rintro i x σ' H' hx ⟨w, ws, v5, rfl, e4, hw, lw, nw, nuw, nDw, hin⟩
      obtain ⟨a, ea, rfl⟩ : ∃ a, rs[i]? = some a ∧ x = .ref a := by
        rw [List.getElem?_map] at hx
        cases hz : rs[i]? with
        | none => rw [hz] at hx; cases hx
        | some a => rw [hz] at hx; exact ⟨a, rfl, (Option.some.inj hx).symm⟩
      obtain ⟨it, ei, ha⟩ := hI.get ea
      have hok := ho it (List.mem_of_getElem? ei)
      have hil : i < its.length := (List.getElem?_eq_some_iff.mp ei).1
      have htl := tg_len it
      walk_at "lw go"
      rename_i tq H5 e5 f5 h5 w2 H6 f6 e6 h6
      refine ⟨w2, ws ++ it.tg, _, rfl, by walk_at "lw ex", by rw [List.map_append]; exact h6, by rw [List.length_append]; omega, fun q h => ?_, ?_, ?_, fun it' h' t ht => ?_⟩
      · have z : At (WB b) H5 q (.lst []) := e5.at_ (e4.at_ (e13.at_ (hq q h)))
        exact z.ne_fresh f6
      · have z : At (WB b) H5 u (.lst []) := e5.at_ (e4.at_ (e3.at_ h2))
        exact z.ne_fresh f6
      · exact (e5.at_ (e4.at_ (e13.at_ hD1))).ne_fresh f6
      · rw [List.take_add_one, ei] at h'
        rcases List.mem_append.mp h' with z | z
        · exact List.mem_append_left _ (hin it' z t ht)
        · have : it' = it := by simpa using z
          subst this
          exact List.mem_append_right _ ht
    rintro σ' H4 ⟨w, ws, v5, rfl, e4, hw, lw, nw, nuw, nDw, hin⟩
    rw [List.length_map] at hin
    have hin2 : ∀ it ∈ its, ∀ t ∈ it.tg, t ∈ ws := by
      intro it h
      refine hin it ?_
      rw [lr, List.take_length]; exact h
    have e04 : Ex (WB b) H H4 := by walk_at "lw ex"
    have hD4 : At (WB b) H4 D (.lst (qs.map V.ref)) := e4.at_ (e13.at_ hD1)
    have hu4 : At (WB b) H4 u (.lst ([] : List V)) := e4.at_ (e3.at_ h2)
    have hq4 : ∀ q ∈ qs, At (WB b) H4 q (.lst []) := fun q h => e4.at_ (e13.at_ (hq q h))
    walk_at "lw go"
    have lq2 : qs.length = its.length := lq.trans lr
    refine for_r (fun i σ' H' => ∃ (ds : List (List Str)) (v6 v7 v8 v9 : Option V), σ' = [some (.ref b), some (.ref p), some (.ref D), some (.ref u), some (.ref w), v5, v6, v7, v8, v9] ∧ Ex (WB b) H H' ∧ ds.length = i ∧
      LSt (WB b) H' u w D qs ws (ds ++ List.replicate (its.length - i) []) ds.flatten ∧ (∀ c ∈ ds, c.length ≤ 3) ∧ ds.flatten.length ≤ 3 * i ∧ ∀ (j : Nat) c, ds[j]? = some c → ((j : Nat) : Int) ∈ ws → c ≠ [])
      ⟨[], none, none, none, none, rfl, e04, rfl, ⟨by rw [List.nil_append, Nat.sub_zero, ← lq2]; exact F2.repR hq4, hu4, hw, hD4, List.nodup_nil, (fun _ h => nomatch h)⟩, (fun _ h => nomatch h), Nat.le_refl _, (fun j c h => by simp at h)⟩ ?_ ?_
    · rintro i σ' H5 hi ⟨ds, v6, v7, v8, v9, rfl, e5, ld, S5, few, hsum, hne⟩
      rw [List.length_map] at hi
      have hi2 : i < its.length := by omega
      walk_at "lw go"
      rename_i r H6 e6 r0 r1
      have S6 := S5.mono e6
      refine rd_cut (fun σ' H' => ∃ m : Int, σ' = [some (.ref b), some (.ref p), some (.ref D), some (.ref u), some (.ref w), v5, some (.int (0 + (i : Int))), some (.int m), v8, v9] ∧ 0 ≤ m ∧ m ≤ 3 ∧ (((i : Nat) : Int) ∈ ws → m ≠ 0) ∧ H6 = H') ?_ ?_
      · walk_at "lw go"
        refine ifI (fun ez => ?_) (fun ez => ?_)
        · walk_at "lw go"
          refine rd_inL (W := WB b) S6.hw rfl (flat_is _) ?_
          rw [inV_int, Int.zero_add]
          walk_at "lw go"
          refine ifD (fun h => ?_) (fun h => ?_)
          · walk_at "lw go"
            exact ⟨1, rfl, by decide, by decide, fun _ => by decide, rfl⟩
          · walk_at "lw go"
            exact ⟨r, rfl, by omega, by omega, fun z => absurd z h, rfl⟩
        · walk_at "lw go"
          exact ⟨r, rfl, by omega, by omega, fun _ => ez, rfl⟩
      rintro σ' H7 ⟨m, rfl, m0, m3, mw, rfl⟩
      have hq1 : qs[ds.length]? = some (qs[i]'(by omega)) := by rw [ld]; exact List.getElem?_eq_getElem (by omega)
      have hqm : qs[i]'(by omega) ∈ qs := List.getElem_mem _
      generalize qs[i]'(by omega) = q at hq1 hqm
      have ei : atI (qs.map V.ref) (0 + (i : Int)) = some (.ref q) := at_in (by omega) (by rw [show (0 + (i : Int)).toNat = i by omega, List.getElem?_map, ← ld, hq1]; rfl)
      walk_at "lw go"
      refine for_r (fun j σ' H' => ∃ (c : List Str) (v8 v9 : Option V), σ' = [some (.ref b), some (.ref p), some (.ref D), some (.ref u), some (.ref w), v5, some (.int (0 + (i : Int))), some (.int m), v8, v9] ∧ Ex (WB b) H H' ∧
        LSt (WB b) H' u w D qs ws (ds ++ c :: List.replicate (its.length - (i + 1)) []) (ds.flatten ++ c) ∧ c.length = j) ⟨[], _, _, rfl, e5.trans e6, ?_, rfl⟩ ?_ ?_
      · have z : List.replicate (its.length - i) ([] : List Str) = [] :: List.replicate (its.length - (i + 1)) [] := by
          rw [show its.length - i = (its.length - (i + 1)) + 1 by omega, List.replicate_succ]
        rw [z] at S6
        rw [List.append_nil]
        exact S6
      · rintro j σ' H8 hj ⟨c, v8, v9, rfl, e8, S8, lc⟩
        have hul : (ds.flatten ++ c).length ≤ 40 := by rw [List.length_append]; omega
        have hu8 := S8.hu
        have hul2 : ((ds.flatten ++ c).map V.str).length < 1000000 := by rw [List.length_map]; omega
        refine rd_seq (rd_asg (rd_call ?_))
        walk_at "lw rd"
        walk_at "lw rd"
        walk_at "lw rd"
        walk_at "lw rd"
        walk_at "lw rd"
        refine cl_law_label e8.iv hu8 hul fun l H9 e9 hl hnl => ?_
        have S9 := S8.mono e9
        have hu9 := S9.hu
        iterate 8 (walk_at "lw rd")
        refine rd_append (W := WB b) (H0 := H) (e8.trans e9) hu0 hu9 hul2 fun H10 e10 u10 o10 => ?_
        have D10 := o10 D _ hDu S9.hD
        walk_at "lw go"
        have cq : At (WB b) H10 q (.lst (c.map V.str)) := by
          obtain ⟨c', ec', hc'⟩ := S9.lb.get hq1
          rw [List.getElem?_append_right (Nat.le_refl _), Nat.sub_self] at ec'
          cases (Option.some.inj ec' : c = c')
          exact o10 q _ (hqu q hqm) hc'
        have cl2 : (c.map V.str).length < 1000000 := by rw [List.length_map]; omega
        have hDq : D ≠ q := fun z => by
          have z1 := (hq q hqm).1
          rw [← z, hD1.1] at z1
          have z2 := (Option.some.inj z1)
          injection z2 with z3
          have z4 : qs = [] := List.map_eq_nil_iff.mp z3
          rw [z4] at hqm
          cases hqm
        iterate 4 (walk_at "lw rd")
        refine rd_append (W := WB b) (H0 := H) e10 (fr q hqm) cq cl2 fun H11 e11 q11 o11 => ?_
        refine ⟨c ++ [l], _, _, rfl, e11, ⟨?_, ?_, o11 w _ (nw q hqm).symm (o10 w _ (Ne.symm nuw) S9.hw), o11 D _ hDq D10, ?_, ?_⟩, by rw [List.length_append, lc]; rfl⟩
        · refine F2.upd (F2.mono_mem (fun q' h' c' a => o10 q' _ (hqu q' h') a) S9.lb) nd hq1 (fun q' c' ne a => o11 q' _ ne a) ?_
          rw [List.map_append]; exact q11
        · rw [← List.append_assoc, List.map_append (l₁ := ds.flatten ++ c)]
          exact o11 u _ (hqu q hqm).symm u10
        · rw [← List.append_assoc]
          exact List.nodup_append.mpr ⟨S9.nd, by simp, fun a ha x hx => by rw [List.mem_singleton.mp hx]; exact fun z => hnl (z ▸ ha)⟩
        · intro x hx
          rw [← List.append_assoc] at hx
          rcases List.mem_append.mp hx with z | z
          · exact S9.gd x z
          · rw [List.mem_singleton.mp z]; exact hl
      · rintro σ' H8 ⟨c, v8, v9, rfl, e8, S8, lc⟩
        refine ⟨ds ++ [c], _, _, _, _, rfl, e8, by rw [List.length_append, ld]; rfl, ?_, ?_, ?_, ?_⟩
        · rw [List.append_assoc, List.flatten_append]
          simpa using S8
        · intro x hx
          rcases List.mem_append.mp hx with z | z
          · exact few x z
          · rw [List.mem_singleton.mp z]; omega
        · rw [List.flatten_append, List.length_append]
          have z : [c].flatten.length = c.length := by simp
          omega
        · intro j x hx hjw
          by_cases z : j < ds.length
          · rw [List.getElem?_append_left z] at hx
            exact hne j x hx hjw
          · rw [List.getElem?_append_right (by omega)] at hx
            have z2 : j - ds.length = 0 := by
              have := (List.getElem?_eq_some_iff.mp hx).1
              simp at this
              omega
            rw [z2] at hx
            have : c = x := by simpa using hx
            subst this
            have z3 : j = i := by omega
            rw [z3] at hjw
            have := mw hjw
            intro z4
            rw [z4] at lc
            simp at lc
            omega
    · rintro σ' H5 ⟨ds, v6, v7, v8, v9, rfl, e5, ld, S5, few, hsum, hne⟩
      rw [List.length_map] at ld
      have ld2 : ds.length = its.length := by omega
      walk_at "lw go"
      have lb5 := S5.lb
      rw [List.length_map, show its.length - (rs.length : Int).toNat = 0 by omega] at lb5
      simp only [List.replicate, List.append_nil] at lb5
      refine k _ _ qs ds e5 S5.hD lb5 ⟨ld2, S5.nd, S5.gd, few, fun x hx t ht => ?_⟩
      obtain ⟨t0, t1⟩ := tg_in (ho x hx) ht
      have hlt : t.toNat < ds.length := by omega
      refine ⟨ds[t.toNat], List.getElem?_eq_getElem hlt, hne t.toNat _ (List.getElem?_eq_getElem hlt) ?_⟩
      rw [show ((t.toNat : Nat) : Int) = t by omega]
      exact hin2 x hx t ht

def strV : V → Str
  | .int z => num z | .str s => s | _ => ""
theorem num_len {z : Int} (h0 : 0 ≤ z) (h1 : z < 1048576) : (num z).length ≤ 7 := by
  rw [len_tl]
  show (tl (toString z : Str)).length ≤ 7
  rw [tl_toString h0]
  exact numL_len (by decide) (by omega)
theorem num_wrd {z : Int} (h0 : 0 ≤ z) : Wrd (num z) := Wrd.num h0
theorem deed_len {d : Str} (h : V.str d ∈ DL) : d.length ≤ 10 := by
  unfold DL at h
  simp only [List.mem_cons, List.not_mem_nil, or_false, V.str.injEq] at h
  rcases h with rfl | rfl | rfl | rfl | rfl | rfl | rfl | rfl | rfl | rfl | rfl | rfl | rfl | rfl | rfl | rfl | rfl | rfl | rfl | rfl | rfl | rfl | rfl <;> decide +kernel
theorem name_len {n : Int} {it : It} (h : it.Ok n) : it.name.length ≤ 10 := by
  cases it with
  | two m r q =>
    obtain ⟨hm, _⟩ := h
    show m.length ≤ 10
    rcases hm with rfl | rfl | rfl | rfl | rfl <;> decide +kernel
  | deed _ => exact (by decide +kernel : ("deed" : Str).length ≤ 10)
  | jump _ => exact (by decide +kernel : ("jump" : Str).length ≤ 10)
  | zero _ _ => exact (by decide +kernel : ("zero" : Str).length ≤ 10)
  | set _ _ => exact (by decide +kernel : ("set" : Str).length ≤ 10)
theorem log_ok {z : Int} (h0 : 0 ≤ z) (h1 : z < 1048576) : z.natAbs.log2 < 1920 := by
  by_cases q : z.natAbs = 0
  · rw [q]; decide
  · refine Nat.lt_of_lt_of_le ((Nat.log2_lt q (k := 20)).mpr ?_) (by decide)
    have e : (2 : Nat) ^ 20 = 1048576 := by decide
    rw [e]; omega
theorem lab_mem {its : List It} {cs : List (List Str)} (L : LabOk its cs) {t : Nat} {c : List Str} {l : Str} (h : cs[t]? = some c) (hl : l ∈ c) : isL l = true := L.good l (List.mem_flatten.mpr ⟨c, List.mem_of_getElem? h, hl⟩)
theorem words_ok {its : List It} {cs : List (List Str)} (L : LabOk its cs) {n : Int} {it : It} (ho : it.Ok n) (hn : n ≤ 1048576) {ws : List Str} (h : LineOf cs it ws) : ws.length ≤ 2 ∧ ∀ p ∈ ws, p.length ≤ 10 ∧ Wrd p := by
  have nm : ∀ {z : Int}, 0 ≤ z → z < 1048576 → (num z).length ≤ 10 ∧ Wrd (num z) := fun h0 h1 => ⟨Nat.le_trans (num_len h0 h1) (by decide), num_wrd h0⟩
  cases it with
  | deed d =>
    cases (h : ws = [d])
    refine ⟨Nat.le_succ 1, fun p hp => ?_⟩
    rw [List.mem_singleton.mp hp]
    exact ⟨deed_len ho, deed_wrd ho⟩
  | jump t =>
    obtain ⟨c, l, e, hl, rfl⟩ := h
    refine ⟨Nat.le_succ 1, fun p hp => ?_⟩
    rw [List.mem_singleton.mp hp]
    have q := lab_mem L e hl
    exact ⟨Nat.le_trans (GL.len (isL_of q)) (by decide), Wrd.lab q⟩
  | zero r t =>
    obtain ⟨c, l, e, hl, rfl⟩ := h
    obtain ⟨⟨r0, r1⟩, _⟩ := ho
    refine ⟨Nat.le_refl 2, fun p hp => ?_⟩
    simp only [List.mem_cons, List.not_mem_nil, or_false] at hp
    rcases hp with rfl | rfl
    · exact nm r0 (by omega)
    · have q := lab_mem L e hl
      exact ⟨Nat.le_trans (GL.len (isL_of q)) (by decide), Wrd.lab q⟩
  | set r v =>
    cases (h : ws = [num r, num v])
    obtain ⟨⟨r0, r1⟩, v0, v1⟩ := ho
    refine ⟨Nat.le_refl 2, fun p hp => ?_⟩
    simp only [List.mem_cons, List.not_mem_nil, or_false] at hp
    rcases hp with rfl | rfl
    · exact nm r0 (by omega)
    · exact nm v0 v1
  | two m r q =>
    cases (h : ws = [num r, num q])
    obtain ⟨_, ⟨r0, r1⟩, v0, v1⟩ := ho
    refine ⟨Nat.le_refl 2, fun p hp => ?_⟩
    simp only [List.mem_cons, List.not_mem_nil, or_false] at hp
    rcases hp with rfl | rfl
    · exact nm r0 (by omega)
    · exact nm v0 (by omega)
theorem row_ab {n : Int} {it : It} (ho : it.Ok n) (hn : n ≤ 1048576) {x : V} (hx : x ∈ it.row) : (∃ z, x = .int z ∧ 0 ≤ z ∧ z < 1048576) ∨ ∃ s, x = .str s := by
  cases it with
  | deed d =>
    have h : x = .str "deed" ∨ x = .str d := by simpa [It.row, It.name, It.vals] using hx
    rcases h with rfl | rfl <;> exact .inr ⟨_, rfl⟩
  | jump t =>
    have h : x = .str "jump" ∨ x = .int t := by simpa [It.row, It.name, It.vals] using hx
    rcases h with rfl | rfl
    · exact .inr ⟨_, rfl⟩
    · exact .inl ⟨_, rfl, ho.1, by have := ho.2; omega⟩
  | zero r t =>
    have h : x = .str "zero" ∨ x = .int r ∨ x = .int t := by simpa [It.row, It.name, It.vals] using hx
    obtain ⟨⟨r0, r1⟩, v0, v1⟩ := ho
    rcases h with rfl | rfl | rfl
    · exact .inr ⟨_, rfl⟩
    · exact .inl ⟨_, rfl, r0, by omega⟩
    · exact .inl ⟨_, rfl, v0, by omega⟩
  | set r v =>
    have h : x = .str "set" ∨ x = .int r ∨ x = .int v := by simpa [It.row, It.name, It.vals] using hx
    obtain ⟨⟨r0, r1⟩, v0, v1⟩ := ho
    rcases h with rfl | rfl | rfl
    · exact .inr ⟨_, rfl⟩
    · exact .inl ⟨_, rfl, r0, by omega⟩
    · exact .inl ⟨_, rfl, v0, by omega⟩
  | two m r v =>
    have h : x = .str m ∨ x = .int r ∨ x = .int v := by simpa [It.row, It.name, It.vals] using hx
    obtain ⟨_, ⟨r0, r1⟩, v0, v1⟩ := ho
    rcases h with rfl | rfl | rfl
    · exact .inr ⟨_, rfl⟩
    · exact .inl ⟨_, rfl, r0, by omega⟩
    · exact .inl ⟨_, rfl, v0, by omega⟩
theorem sum_le {c : Nat} : ∀ {xs : List Str}, (∀ x ∈ xs, x.length ≤ c) → (xs.map (·.length)).sum ≤ xs.length * c
  | [], _ => by simp
  | x :: xs, h => by
    have h1 := h x (List.mem_cons_self ..)
    have h2 := sum_le fun z hz => h z (List.mem_cons_of_mem _ hz)
    rw [List.map_cons, List.sum_cons, List.length_cons, Nat.succ_mul]
    omega
theorem ok_law_line (T : Tx w K mg) : FnOk P w K mg base CX0 2 T.f_law_line T.fd_law_line ["pool", "item", "labels"] (sp_law_line) := by
  refine T.F_law_line.ok sc_law_line (fun vs H Q E h => ?_) (fun cdv A outer s H vs Q E hr h => ?_)
  · obtain ⟨b, p, q, it, n, qs, its, cs, rfl, iv, hp, ho, hn, hm, hq, hl, L, k⟩ := h
    rfl
  · obtain ⟨b, p, q, it, n, qs, its, cs, rfl, iv, hp, ho, hn, hm, hq, hl, L, k⟩ := h
    refine ⟨_, (pss_cons (ps_setLc (i := 3) (own := [("part", 5)]) rfl sc_law_line.nd rfl rfl (sw_true rfl rfl rfl (by decide +kernel)) (pi_list (pv 1)) (blkOk_by (own := [("part", 5)]) (N := N_law_line) (sc := (defScope s_law_line)) (by decide +kernel)) (fun _ _ _ _ _ => (pg_name (i := 5) sc_law_line.nd rfl (by first | exact Or.inl rfl | exact Or.inr rfl))) (fun _ _ _ _ _ => pts_nil) (fun _ _ _ _ _ => (pe_callTy c_strB (by rfl) T.n_str (by decide +kernel) (pa_cons (pv 5) pa_nil))))
      (pss_cons (ps_for PassesOwn.never rfl (pi_list (pe_call (ok_law_targets T) hr (by rfl) T.g_law_targets T.F_law_targets.kp T.b_law_targets .nil pass0 (pa_cons (pv 1) pa_nil))) (pg_name (i := 4) sc_law_line.nd rfl (by first | exact Or.inl rfl | exact Or.inr rfl))
        (pss_one (ps_asg (pe_ix (r := rIxL K) ix_list (pe_ix (r := rIxL K) ix_list (pv 2) (pv 4) (fun _ _ => rfl)) (pe_call (ok_law_draw T) hr (by rfl) T.g_law_draw T.F_law_draw.kp T.b_law_draw .nil pass0 (pa_cons (pv 0) (pa_cons (pe_callB (r := Lw.rLen K) c_len (by rfl) T.n_len PySem.boot_len (pa_cons (pe_ix (r := rIxL K) ix_list (pv 2) (pv 4) (fun _ _ => rfl)) pa_nil)) pa_nil))) (fun _ _ => rfl)) (pg_sub (pv 3) (pe_un un_neg pe_int) set_list))))
      (pss_one (ps_ret (pe_bm PySem.F.plainAttrs_str PySem.F.slot_str_join PySem.F.type_str_join (r := rJoinS K) m_join pe_str (pa_cons (pv 3) pa_nil)))))), ?_⟩
    have hrl : it.row.length ≤ 3 := by cases it <;> simp [It.row, It.vals]
    walk_at "lw go"
    refine ⟨p, rfl, ⟨_, hp.sl⟩, ?_⟩
    refine lcg_w (lc_w (W := WB b) (J := Itl _ p) (X := fun i x => it.row[i]? = some x) walk_list (fun n ys _ => ys = (it.row.take n).map fun x => V.str (strV x)) iv (by omega) (fun H' e => (e.at_ hp).sl) (fun _ _ _ _ _ h => h) rfl ?_ ?_)
    · rintro i x D ys H' QV QN hi hx hD hDa e3 hy _ qv qn
      have hy2 : ys ++ [.str (strV x)] = (it.row.take (i + 1)).map fun x => V.str (strV x) := by rw [List.take_add_one, hx, List.map_append, hy]; rfl
      walk_at "lw go"
      refine iteT ?_
      walk_at "lw go"
      rcases row_ab ho (by omega) (List.mem_of_getElem? hx) with ⟨z, rfl, z0, z1⟩ | ⟨z, rfl⟩
      · refine rd_strI (log_ok z0 z1) ?_
        exact qv _ _ (Ex.refl e3.iv) hy2
      · refine rd_strS ?_
        exact qv _ _ (Ex.refl e3.iv) hy2
    rintro D H1 ys hD e1 hD1 hy _
    rw [List.take_length] at hy
    subst hy
    have fin : ∀ (ws : List Str) H', LineOf cs it ws → Ex (WB b) H H' → At (WB b) H' D (.lst ((it.name :: ws).map V.str)) →
        rJoinS K (.str " ") [.ref D] H' Q := fun ws H' hL e h => by
      obtain ⟨w1, w2⟩ := words_ok L ho (by omega) hL
      have q : ∀ x ∈ it.name :: ws, x.length ≤ 10 := fun x hx => by
        rcases List.mem_cons.mp hx with rfl | z
        · exact name_len ho
        · exact (w2 x z).1
      have q2 := sum_le q
      refine rd_join h ?_ (k ws H' e hL)
      rw [List.length_cons] at q2 ⊢
      rw [show (" " : Str).length = 1 from rfl, Nat.mul_one]
      omega
    have step : ∀ (t : Int), t ∈ it.tg → ∃ c qc, cs[t.toNat]? = some c ∧ c ≠ [] ∧ atI (qs.map V.ref) t = some (.ref qc) ∧ At (WB b) H qc (.lst (c.map V.str)) ∧ c.length ≤ 3 := fun t ht => by
      obtain ⟨c, e, ne⟩ := L.tg it hm t ht
      obtain ⟨qc, eq, hc⟩ := hl.getR e
      have t0 := (tg_in ho ht).1
      exact ⟨c, qc, e, ne, at_in t0 (by rw [List.getElem?_map, eq]; rfl), hc, L.few c (List.mem_of_getElem? e)⟩
    cases it with
    | deed d =>
      replace hD1 : At (WB b) H1 D (.lst [.str "deed", .str d]) := hD1
      walk_at "lw go"
      rename_i tq H5 e5 f5 h5
      replace h5 : At (WB b) H5 tq (.lst []) := h5
      refine for_l (xs := []) (fun i σ' H' => σ' = [some (.ref b), some (.ref p), some (.ref q), some (.ref D), none, none] ∧ H5 = H') ⟨rfl, rfl⟩ (fun i σ' H' _ ⟨_, z⟩ => z ▸ h5) (fun i x σ' H' hx => by simp at hx) ?_
      rintro σ' H' ⟨rfl, rfl⟩
      walk_at "lw go"
      exact fin [d] _ rfl (e1.trans e5) (e5.at_ hD1)
    | jump t =>
      replace hD1 : At (WB b) H1 D (.lst [.str "jump", .str (num t)]) := hD1
      obtain ⟨c, qc, ec, cne, ei, hqc, cl⟩ := step t (List.mem_singleton.mpr rfl)
      have cpos : 0 < c.length := List.length_pos_iff.mpr cne
      walk_at "lw go"
      rename_i tq H5 e5 f5 h5
      replace h5 : At (WB b) H5 tq (.lst [.int t]) := h5
      have nDt : tq ≠ D := (hD1.ne_fresh f5).symm
      refine for_l (xs := [.int t]) (fun i σ' H' => ∃ (ws : List Str) (v4 : Option V), σ' = [some (.ref b), some (.ref p), some (.ref q), some (.ref D), v4, none] ∧ Ex (WB b) H H' ∧ At (WB b) H' tq (.lst [.int t]) ∧ (i = 0 → At (WB b) H' D (.lst [.str "jump", .str (num t)])) ∧ (i = 1 → At (WB b) H' D (.lst ((It.name (.jump t) :: ws).map V.str)) ∧ LineOf cs (.jump t) ws))
        ⟨[], _, rfl, e1.trans e5, h5, fun _ => e5.at_ hD1, fun z => by cases z⟩ (fun i σ' H' _ ⟨_, _, _, _, z, _⟩ => z) ?_ ?_
      · rintro i x σ' H6 hx ⟨ws, v4, rfl, e6, h6, h0, _⟩
        have i0 : i = 0 := by
          have := (List.getElem?_eq_some_iff.mp hx).1
          simp at this
          exact this
        subst i0
        have d6 := h0 rfl
        cases (Option.some.inj hx : V.int t = x)
        have cp1 : 0 < ((c.map V.str).length : Int) := by rw [List.length_map]; omega
        have cp2 : ((c.map V.str).length : Int) < 1073741824 := by rw [List.length_map]; omega
        iterate 20 (walk_at "lw rd")
        refine cl_law_draw cp1 cp2 e6.iv fun r H7 e7 r0 r1 => ?_
        have hq7 : At (WB b) H7 qc (.lst (c.map V.str)) := e7.at_ (e6.at_ hqc)
        walk_at "lw go"
        rename_i v hv
        obtain ⟨l, hlc, rfl⟩ := List.mem_map.mp hv
        refine rd_set (W := WB b) (H0 := H) (e6.trans e7) hD (e7.at_ d6) (m := 1) rfl fun H8 e8 d8 o8 => ?_
        exact ⟨[l], _, rfl, e8, o8 tq _ nDt (e7.at_ h6), (fun z => by cases z), fun _ => ⟨d8, ⟨c, l, ec, hlc, rfl⟩⟩⟩
      · rintro σ' H6 ⟨ws, v4, rfl, e6, h6, _, h1⟩
        obtain ⟨d6, hL⟩ := h1 rfl
        walk_at "lw go"
        exact fin ws _ hL e6 d6
    | zero g0 t =>
      replace hD1 : At (WB b) H1 D (.lst [.str "zero", .str (num g0), .str (num t)]) := hD1
      obtain ⟨c, qc, ec, cne, ei, hqc, cl⟩ := step t (List.mem_singleton.mpr rfl)
      have cpos : 0 < c.length := List.length_pos_iff.mpr cne
      walk_at "lw go"
      rename_i tq H5 e5 f5 h5
      replace h5 : At (WB b) H5 tq (.lst [.int t]) := h5
      have nDt : tq ≠ D := (hD1.ne_fresh f5).symm
      refine for_l (xs := [.int t]) (fun i σ' H' => ∃ (ws : List Str) (v4 : Option V), σ' = [some (.ref b), some (.ref p), some (.ref q), some (.ref D), v4, none] ∧ Ex (WB b) H H' ∧ At (WB b) H' tq (.lst [.int t]) ∧ (i = 0 → At (WB b) H' D (.lst [.str "zero", .str (num g0), .str (num t)])) ∧ (i = 1 → At (WB b) H' D (.lst ((It.name (.zero g0 t) :: ws).map V.str)) ∧ LineOf cs (.zero g0 t) ws))
        ⟨[], _, rfl, e1.trans e5, h5, fun _ => e5.at_ hD1, fun z => by cases z⟩ (fun i σ' H' _ ⟨_, _, _, _, z, _⟩ => z) ?_ ?_
      · rintro i x σ' H6 hx ⟨ws, v4, rfl, e6, h6, h0, _⟩
        have i0 : i = 0 := by
          have := (List.getElem?_eq_some_iff.mp hx).1
          simp at this
          exact this
        subst i0
        have d6 := h0 rfl
        cases (Option.some.inj hx : V.int t = x)
        have cp1 : 0 < ((c.map V.str).length : Int) := by rw [List.length_map]; omega
        have cp2 : ((c.map V.str).length : Int) < 1073741824 := by rw [List.length_map]; omega
        iterate 20 (walk_at "lw rd")
        refine cl_law_draw cp1 cp2 e6.iv fun r H7 e7 r0 r1 => ?_
        have hq7 : At (WB b) H7 qc (.lst (c.map V.str)) := e7.at_ (e6.at_ hqc)
        walk_at "lw go"
        rename_i v hv
        obtain ⟨l, hlc, rfl⟩ := List.mem_map.mp hv
        refine rd_set (W := WB b) (H0 := H) (e6.trans e7) hD (e7.at_ d6) (m := 2) rfl fun H8 e8 d8 o8 => ?_
        exact ⟨[num g0, l], _, rfl, e8, o8 tq _ nDt (e7.at_ h6), (fun z => by cases z), fun _ => ⟨d8, ⟨c, l, ec, hlc, rfl⟩⟩⟩
      · rintro σ' H6 ⟨ws, v4, rfl, e6, h6, _, h1⟩
        obtain ⟨d6, hL⟩ := h1 rfl
        walk_at "lw go"
        exact fin ws _ hL e6 d6
    | set r v =>
      replace hD1 : At (WB b) H1 D (.lst [.str "set", .str (num r), .str (num v)]) := hD1
      walk_at "lw go"
      rename_i tq H5 e5 f5 h5
      replace h5 : At (WB b) H5 tq (.lst []) := h5
      refine for_l (xs := []) (fun i σ' H' => σ' = [some (.ref b), some (.ref p), some (.ref q), some (.ref D), none, none] ∧ H5 = H') ⟨rfl, rfl⟩ (fun i σ' H' _ ⟨_, z⟩ => z ▸ h5) (fun i x σ' H' hx => by simp at hx) ?_
      rintro σ' H' ⟨rfl, rfl⟩
      walk_at "lw go"
      exact fin [num r, num v] _ rfl (e1.trans e5) (e5.at_ hD1)
    | two m r v =>
      replace hD1 : At (WB b) H1 D (.lst [.str m, .str (num r), .str (num v)]) := hD1
      walk_at "lw go"
      rename_i tq H5 e5 f5 h5
      replace h5 : At (WB b) H5 tq (.lst []) := h5
      refine for_l (xs := []) (fun i σ' H' => σ' = [some (.ref b), some (.ref p), some (.ref q), some (.ref D), none, none] ∧ H5 = H') ⟨rfl, rfl⟩ (fun i σ' H' _ ⟨_, z⟩ => z ▸ h5) (fun i x σ' H' hx => by simp at hx) ?_
      rintro σ' H' ⟨rfl, rfl⟩
      walk_at "lw go"
      exact fin [num r, num v] _ rfl (e1.trans e5) (e5.at_ hD1)

def SETL : Ln := .op "set" [num 3, num 17] [.int 3, .int 17]
theorem SETL_s : SETL.s = "set 3 17" := by decide +kernel
structure Lm (cs : List (List Str)) (place more : Nat) (us : List It) (kb : List (Key × V)) (N : Nat) (lns : List Ln) : Prop where
  ops : F2 (OpOf cs place more) us (opsF lns)
  labs : labsF 0 lns = kb
  cls : ∀ x ∈ lns, x.Cl
  len : lns.length ≤ N
def Aft (lns : List Ln) : Prop := ∀ (i : Nat) (l : Str), lns[i]? = some (.lb l) → ∃ j x, i < j ∧ lns[j]? = some x ∧ x.isOp = true
theorem Aft.nil : Aft [] := fun i l h => by simp at h
theorem Aft.app {xs ys : List Ln} (h : Aft xs) (n : ∀ x ∈ ys, ∀ l, x ≠ .lb l) : Aft (xs ++ ys) := fun i l e => by
  by_cases q : i < xs.length
  · rw [List.getElem?_append_left q] at e
    obtain ⟨j, x, hj, ex, ho⟩ := h i l e
    exact ⟨j, x, hj, by rw [List.getElem?_append_left (List.getElem?_eq_some_iff.mp ex).1]; exact ex, ho⟩
  · rw [List.getElem?_append_right (by omega)] at e
    exact absurd rfl (n _ (List.mem_of_getElem? e) l)
theorem Aft.op {xs : List Ln} {x : Ln} (h : x.isOp = true) : Aft (xs ++ [x]) := fun i l e => by
  by_cases q : i < xs.length
  · exact ⟨xs.length, x, q, by rw [List.getElem?_append_right (Nat.le_refl _), Nat.sub_self]; rfl, h⟩
  · rw [List.getElem?_append_right (by omega)] at e
    have z : x = .lb l := by
      have := (List.getElem?_eq_some_iff.mp e).1
      simp at this
      have z : i - xs.length = 0 := by omega
      rw [z] at e
      simpa using e
    rw [z] at h; cases h
section
variable {cs : List (List Str)} {place more N : Nat} {us : List It} {kb : List (Key × V)} {lns : List Ln}
theorem opsF_igs : ∀ gs : List Str, opsF (gs.map Ln.ig) = []
  | [] => rfl
  | _ :: gs => opsF_igs gs
theorem labsF_igs (n : Nat) : ∀ gs : List Str, labsF n (gs.map Ln.ig) = []
  | [] => rfl
  | _ :: gs => labsF_igs n gs
theorem Lm.igs (h : Lm cs place more us kb N lns) {gs : List Str} (hg : ∀ g ∈ gs, Ig g) (hl : gs.length ≤ 2) : Lm cs place more us kb (N + 2) (lns ++ gs.map Ln.ig) := by
  refine ⟨by rw [opsF_app, opsF_igs, List.append_nil]; exact h.ops, by rw [labsF_app, labsF_igs, List.append_nil]; exact h.labs, fun x hx => ?_, by rw [List.length_append, List.length_map]; exact Nat.add_le_add h.len hl⟩
  rcases List.mem_append.mp hx with z | z
  · exact h.cls x z
  · obtain ⟨g, hg', rfl⟩ := List.mem_map.mp z
    exact hg g hg'
theorem Lm.lb (h : Lm cs place more us kb N lns) {l : Str} (hl : isL l = true) : Lm cs place more us (kb ++ [(Sum.inr l, V.int us.length)]) (N + 1) (lns ++ [.lb l]) := by
  refine ⟨by rw [opsF_app]; simpa [opsF] using h.ops, by rw [labsF_app, h.labs, Nat.zero_add, ← h.ops.length]; rfl, fun x hx => ?_, by rw [List.length_append]; exact Nat.add_le_add h.len (Nat.le_refl 1)⟩
  rcases List.mem_append.mp hx with z | z
  · exact h.cls x z
  · rw [List.mem_singleton.mp z]; exact hl
theorem Lm.op (h : Lm cs place more us kb N lns) {it : It} {ws : List Str} (hl : LineOf cs it ws) : Lm cs place more (us ++ [it]) kb (N + 1) (lns ++ [.op it.name ws (it.sh place more).vals]) := by
  refine ⟨by rw [opsF_app]; exact F2.append (show F2 (OpOf cs place more) [it] [(it.name, ws, (it.sh place more).vals)] from .cons ⟨rfl, rfl, hl⟩ .nil) h.ops, by rw [labsF_app, h.labs]; exact List.append_nil _, fun x hx => ?_, by rw [List.length_append]; exact Nat.add_le_add h.len (Nat.le_refl 1)⟩
  rcases List.mem_append.mp hx with z | z
  · exact h.cls x z
  · rw [List.mem_singleton.mp z]; trivial
theorem Lm.reps (h : Lm cs place more us kb N lns) : ∀ n, Lm cs place more (us ++ List.replicate n (.set 3 17)) kb (N + n) (lns ++ List.replicate n SETL)
  | 0 => by simpa using h
  | n + 1 => by
    have q := (Lm.reps h n).op (it := .set 3 17) (ws := [num 3, num 17]) rfl
    rw [List.replicate_succ', List.replicate_succ', ← List.append_assoc, ← List.append_assoc]
    exact q
end
theorem ok_law_lines (T : Tx w K mg) : FnOk P w K mg base CX0 3 T.f_law_lines T.fd_law_lines ["pool", "items", "labels", "place", "more"] (sp_law_lines) := by
  refine T.F_law_lines.ok sc_law_lines (fun vs H Q E h => ?_) (fun cdv A outer s H vs Q E hr h => ?_)
  · obtain ⟨b, p, q, rs, qs, its, cs, place, more, rfl, iv, hp, hI, ho, hn, hq, hl, L, hpl, hm, k⟩ := h
    rfl
  · obtain ⟨b, p, q, rs, qs, its, cs, place, more, rfl, iv, hp, hI, ho, hn, hq, hl, L, hpl, hm, k⟩ := h
    refine ⟨_, (pss_cons (ps_set (i := 5) sc_law_lines.nd rfl (by first | exact Or.inl rfl | exact Or.inr rfl) (pe_lst pa_nil))
      (pss_cons (ps_for PassesOwn.never rfl (pi_range1 rfl T.n_range (pa_cons (pe_op op_add (pe_callB (r := Lw.rLen K) c_len (by rfl) T.n_len PySem.boot_len (pa_cons (pv 1) pa_nil)) pe_int) pa_nil)) (pg_name (i := 6) sc_law_lines.nd rfl (by first | exact Or.inl rfl | exact Or.inr rfl))
        (pss_cut (ps_if (pt_cmpR op_eq (pv 6) (pv 3) (nomark _))
          (pss_one (ps_set (i := 5) sc_law_lines.nd rfl (by first | exact Or.inl rfl | exact Or.inr rfl) (pe_op op_cat (pv 5) (pe_op op_rep (pe_lst (pa_cons pe_str pa_nil)) (pv 4)))))
          pss_nil)
        (pss_cut (ps_set (i := 5) sc_law_lines.nd rfl (by first | exact Or.inl rfl | exact Or.inr rfl) (pe_op op_cat (pv 5) (pe_call (ok_law_gap T) hr (by rfl) T.g_law_gap T.F_law_gap.kp T.b_law_gap .nil pass0 (pa_cons (pv 0) pa_nil))))
        (pss_one (ps_if (pt_cmpR op_lt (pv 6) (pe_callB (r := Lw.rLen K) c_len (by rfl) T.n_len PySem.boot_len (pa_cons (pv 1) pa_nil)) (nomark _))
          (pss_cut (ps_for PassesOwn.never rfl (pi_list (pe_ix (r := rIxL K) ix_list (pv 2) (pv 6) (fun _ _ => rfl))) (pg_name (i := 7) sc_law_lines.nd rfl (by first | exact Or.inl rfl | exact Or.inr rfl))
            (pss_cons (ps_expr (pe_bm PySem.F.plainAttrs_list PySem.F.slot_list_append PySem.F.type_list_append mt_append (pv 5) (pa_cons (pe_op o_adds (pv 7) pe_str) pa_nil)))
            (pss_one (ps_set (i := 5) sc_law_lines.nd rfl (by first | exact Or.inl rfl | exact Or.inr rfl) (pe_op op_cat (pv 5) (pe_call (ok_law_gap T) hr (by rfl) T.g_law_gap T.F_law_gap.kp T.b_law_gap .nil pass0 (pa_cons (pv 0) pa_nil)))))))
          (pss_one (ps_expr (pe_bm PySem.F.plainAttrs_list PySem.F.slot_list_append PySem.F.type_list_append mt_append (pv 5) (pa_cons (pe_call (ok_law_line T) hr (by rfl) T.g_law_line T.F_law_line.kp T.b_law_line .nil pass0 (pa_cons (pv 0) (pa_cons (pe_ix (r := rIxL K) ix_list (pv 1) (pv 6) (fun _ _ => rfl)) (pa_cons (pv 2) pa_nil)))) pa_nil)))))
          pss_nil)))))
      (pss_one (ps_ret (pv 5))))), ?_⟩
    have lr := hI.length
    have lq := hl.length
    have lc := L.len
    walk_at "lw go"
    rename_i a0 H1 f1 e1 h1
    refine for_r (fun i σ' H' => ∃ (a : Addr) (lns : List Ln) (v6 v7 : Option V), σ' = [some (.ref b), some (.ref p), some (.ref q), some (.int place), some (.int more), some (.ref a), v6, v7] ∧ Ex (WB b) H H' ∧ H a = none ∧ At (WB b) H' a (.lst (TLn lns)) ∧
      Lm cs place more (dueU its place more i) (LB cs place more i) (12 * i + if place < i then more else 0) lns ∧ Aft lns) ⟨a0, [], _, _, rfl, e1, f1, h1, ⟨.nil, rfl, (fun _ h => nomatch h), Nat.zero_le _⟩, Aft.nil⟩ ?_ ?_
    · rintro i σ' H2 hi ⟨a, lns, v6, v7, rfl, e2, fa, ha, M, A⟩
      rw [List.length_map] at hi
      have hi2 : i ≤ its.length := by omega
      have hlen := M.len
      have hl5 : lns.length ≤ 5000 := by split at hlen <;> omega
      refine rd_cut (fun σ' H' => ∃ (a : Addr) (lns : List Ln), σ' = [some (.ref b), some (.ref p), some (.ref q), some (.int place), some (.int more), some (.ref a), some (.int (0 + (i : Int))), v7] ∧ Ex (WB b) H H' ∧ H a = none ∧ At (WB b) H' a (.lst (TLn lns)) ∧
        Lm cs place more (dueU its place more i ++ if i = place then List.replicate more (.set 3 17) else []) (LB cs place more i) (12 * i + if place ≤ i then more else 0) lns ∧ Aft lns ∧ lns.length ≤ 4500) ?_ ?_
      · walk_at "lw go"
        refine ifI (fun e => ?_) (fun e => ?_)
        · have ep : i = place := by omega
          walk_at "lw go"
          rename_i z1 H3 f3 e3 h3 z2 H4 f4 e4 h4 z3 H5 f5 e5 h5
          rw [Int.toNat_natCast, List.flatten_replicate_singleton] at h5
          have e6 : Ex (WB b) H H5 := by walk_at "lw ex"
          have e7 : Ex (WB b) H H4 := by walk_at "lw ex"
          have q := M.reps more
          refine ⟨z3, lns ++ List.replicate more SETL, rfl, e6, e7.fresh f5, ?_, ⟨?_, q.labs, q.cls, ?_⟩, A.app fun x hx l => ?_, ?_⟩
          · show At (WB b) H5 z3 (.lst ((lns ++ List.replicate more SETL).map fun x => V.str x.s))
            rw [List.map_append, List.map_replicate, SETL_s]
            exact h5
          · rw [if_pos ep]; exact q.ops
          · have := q.len
            rw [if_neg (by omega)] at this
            rw [if_pos (by omega)]
            exact this
          · rw [List.eq_of_mem_replicate hx]; exact fun z => nomatch z
          · rw [List.length_append, List.length_replicate]
            rw [if_neg (by omega)] at hlen
            omega
        · have ep : i ≠ place := by omega
          walk_at "lw go"
          refine ⟨a, lns, rfl, e2, fa, ha, ⟨?_, M.labs, M.cls, ?_⟩, A, ?_⟩
          · rw [if_neg ep, List.append_nil]; exact M.ops
          · refine Nat.le_trans hlen ?_
            by_cases q : place < i
            · rw [if_pos q, if_pos (by omega)]; exact Nat.le_refl _
            · rw [if_neg q]; omega
          · split at hlen <;> omega
      rintro σ' H3 ⟨a1, lns1, rfl, e3, fa1, ha1, M1, A1, hl1⟩
      clear ha M A hlen hl5
      refine rd_cut (fun σ' H' => ∃ (a : Addr) (lns : List Ln), σ' = [some (.ref b), some (.ref p), some (.ref q), some (.int place), some (.int more), some (.ref a), some (.int (0 + (i : Int))), v7] ∧ Ex (WB b) H H' ∧ H a = none ∧ At (WB b) H' a (.lst (TLn lns)) ∧
        Lm cs place more (dueU its place more i ++ if i = place then List.replicate more (.set 3 17) else []) (LB cs place more i) (12 * i + (if place ≤ i then more else 0) + 2) lns ∧ Aft lns ∧ lns.length ≤ 4600) ?_ ?_
      · walk_at "lw go"
        rename_i z1 H4 gs e4 h4 hg gl z2 H5 f5 e5 h5
        have e6 : Ex (WB b) H H4 := by walk_at "lw ex"
        refine ⟨z2, lns1 ++ gs.map Ln.ig, rfl, by walk_at "lw ex", e6.fresh f5, ?_, M1.igs hg gl, A1.app fun x hx l z => ?_, ?_⟩
        · show At (WB b) H5 z2 (.lst ((lns1 ++ gs.map Ln.ig).map fun x => V.str x.s))
          rw [List.map_append, List.map_map]
          exact h5
        · obtain ⟨g, _, rfl⟩ := List.mem_map.mp hx
          cases z
        · rw [List.length_append, List.length_map]; omega
      rintro σ' H4 ⟨a2, lns2, rfl, e4, fa2, ha2, M2, A2, hl2⟩
      clear ha1 M1 A1
      have ul : (dueU its place more i ++ if i = place then List.replicate more (It.set 3 17) else []).length = idx place more i := by
        rw [List.length_append, dueU_len its place more i hi2]
        unfold idx
        by_cases q1 : i = place
        · rw [if_pos q1, List.length_replicate, if_neg (by omega), if_pos (by omega)]; omega
        · rw [if_neg q1]
          by_cases q2 : place < i
          · rw [if_pos q2, if_pos (by omega)]; simp
          · rw [if_neg q2, if_neg (by omega)]; simp
      walk_at "lw go"
      refine ifD (fun e => ?_) (fun e => ?_)
      · rw [List.length_map] at e
        have hi3 : i < its.length := by omega
        obtain ⟨qc, eq, hqc⟩ := hl.getR (List.getElem?_eq_getElem (show i < cs.length by omega))
        obtain ⟨it, eit, hit⟩ : ∃ it, its[i]? = some it ∧ it = its[i] := ⟨_, List.getElem?_eq_getElem hi3, rfl⟩
        obtain ⟨ra, era, hra⟩ := hI.getR eit
        have ec : cs[i]? = some (cs[i]'(by omega)) := List.getElem?_eq_getElem (by omega)
        generalize cs[i]'(by omega) = c at hqc ec
        have ei : atI (qs.map V.ref) (0 + (i : Int)) = some (.ref qc) := at_in (by omega) (by rw [show (0 + (i : Int)).toNat = i by omega, List.getElem?_map, eq]; rfl)
        have ei2 : atI (rs.map V.ref) (0 + (i : Int)) = some (.ref ra) := at_in (by omega) (by rw [show (0 + (i : Int)).toNat = i by omega, List.getElem?_map, era]; rfl)
        have cl3 := L.few c (List.mem_of_getElem? ec)
        refine rd_cut (fun σ' H' => ∃ (a : Addr) (lns : List Ln) (v7 : Option V), σ' = [some (.ref b), some (.ref p), some (.ref q), some (.int place), some (.int more), some (.ref a), some (.int (0 + (i : Int))), v7] ∧ Ex (WB b) H H' ∧ H a = none ∧ At (WB b) H' a (.lst (TLn lns)) ∧
          Lm cs place more (dueU its place more i ++ if i = place then List.replicate more (.set 3 17) else []) (LB cs place more (i + 1)) (12 * i + (if place ≤ i then more else 0) + 11) lns ∧ lns.length ≤ 4700) ?_ ?_
        · walk_at "lw go"
          refine for_l (xs := c.map V.str) (fun j σ' H' => ∃ (a : Addr) (lns : List Ln) (v7 : Option V), σ' = [some (.ref b), some (.ref p), some (.ref q), some (.int place), some (.int more), some (.ref a), some (.int (0 + (i : Int))), v7] ∧ Ex (WB b) H H' ∧ H a = none ∧ At (WB b) H' a (.lst (TLn lns)) ∧
            Lm cs place more (dueU its place more i ++ if i = place then List.replicate more (.set 3 17) else []) (LB cs place more i ++ (c.take j).map fun l => ((Sum.inr l : Key), V.int (idx place more i))) (12 * i + (if place ≤ i then more else 0) + 2 + 3 * j) lns ∧ lns.length ≤ 4600 + 3 * j)
            ⟨a2, lns2, _, rfl, e4, fa2, ha2, by simpa using M2, hl2⟩ (fun j σ' H' _ ⟨_, _, _, _, z, _⟩ => z.at_ hqc) ?_ ?_
          · rintro j x σ' H5 hx ⟨a3, lns3, v7, rfl, e5, fa3, ha3, M3, hl3⟩
            have hj : j < c.length := by
              have := (List.getElem?_eq_some_iff.mp hx).1
              rwa [List.length_map] at this
            obtain ⟨l, el, rfl⟩ : ∃ l, c[j]? = some l ∧ x = .str l := by
              rw [List.getElem?_map] at hx
              cases hz : c[j]? with
              | none => rw [hz] at hx; cases hx
              | some l => rw [hz] at hx; exact ⟨l, rfl, (Option.some.inj hx).symm⟩
            have lg := lab_mem L ec (List.mem_of_getElem? el)
            have ll := GL.len (isL_of lg)
            have h1 : (":" : Str).length = 1 := rfl
            have hl3b : (TLn lns3).length < 1000000 := by rw [List.length_map]; omega
            have M4 := M3.lb lg
            walk_at "lw go"
            rename_i H6 e6 h6 o6 p7 H7 gs e7 h7 hg gl a8 H8 f8 e8 h8
            have M5 := M4.igs hg gl
            refine ⟨a8, lns3 ++ [.lb l] ++ gs.map Ln.ig, _, rfl, e6.trans (e7.trans e8), (e6.trans e7).fresh f8, ?_, ⟨M5.ops, ?_, M5.cls, Nat.le_trans M5.len (by omega)⟩, ?_⟩
            · show At (WB b) H8 a8 (.lst ((lns3 ++ [Ln.lb l] ++ gs.map Ln.ig).map fun x => V.str (Ln.s x)))
              rw [List.map_append, List.map_append, List.map_map]
              exact h8
            · rw [M5.labs, List.take_add_one, el, List.map_append, ul, List.append_assoc]
              rfl
            · rw [List.length_append, List.length_append, List.length_map, List.length_singleton]
              omega
          · rintro σ' H5 ⟨a3, lns3, v7, rfl, e5, fa3, ha3, M3, hl3⟩
            rw [List.length_map, List.take_length] at M3
            rw [List.length_map] at hl3
            refine ⟨a3, lns3, _, rfl, e5, fa3, ha3, ⟨M3.ops, ?_, M3.cls, Nat.le_trans M3.len (by omega)⟩, by omega⟩
            rw [M3.labs, LB, ec]
            rfl
        rintro σ' H5 ⟨a3, lns3, v7, rfl, e5, fa3, ha3, M3, hl3⟩
        have hl3b : (TLn lns3).length < 1000000 := by rw [List.length_map]; omega
        have hok := ho it (List.mem_of_getElem? eit)
        walk_at "lw go"
        refine cl_law_line e5.iv (e5.at_ hra) hok (by omega) (List.mem_of_getElem? eit) (e5.at_ hq) (hl.mono e5) L fun ws H6 e6 hL => ?_
        have M4 := M3.op hL
        walk_at "lw go"
        rename_i H7 e7 h7 o7
        refine ⟨a3, _, _, _, rfl, e7, fa3, ?_, ⟨?_, M4.labs, M4.cls, Nat.le_trans M4.len ?_⟩, Aft.op rfl⟩
        · show At (WB b) H7 a3 (.lst ((lns3 ++ [Ln.op it.name ws (it.sh place more).vals]).map fun x => V.str (Ln.s x)))
          rw [List.map_append]
          exact h7
        · rw [dueU, eit, ← List.append_assoc]
          exact M4.ops
        · by_cases q : place ≤ i
          · rw [if_pos q, if_pos (by omega)]; omega
          · rw [if_neg q, if_neg (by omega)]; omega
      · rw [List.length_map] at e
        have hi3 : i = its.length := by omega
        walk_at "lw go"
        refine ⟨a2, lns2, _, _, rfl, e4, fa2, ha2, ⟨?_, ?_, M2.cls, Nat.le_trans M2.len ?_⟩, A2⟩
        · rw [dueU, List.getElem?_eq_none (by omega)]
          show F2 _ (_ ++ (_ ++ [])) _
          rw [List.append_nil]
          exact M2.ops
        · rw [M2.labs, LB, List.getElem?_eq_none (by omega)]
          exact (List.append_nil _).symm
        · by_cases q : place ≤ i
          · rw [if_pos q, if_pos (by omega)]; omega
          · rw [if_neg q, if_neg (by omega)]; omega
    · rintro σ' H2 ⟨a, lns, v6, v7, rfl, e2, fa, ha, M, A⟩
      have e3 : ((List.map V.ref rs).length + 1 : Int).toNat = its.length + 1 := by rw [List.length_map]; omega
      rw [e3] at M
      walk_at "lw go"
      refine k _ _ lns e2 ha ⟨M.ops, ?_, M.cls, A, Nat.le_trans M.len ?_⟩
      · rw [M.labs, LB, List.getElem?_eq_none (by omega)]
        exact List.append_nil _
      · split <;> omega

theorem due_len {its : List It} {place more : Nat} (hn : its.length ≤ 10) {i : Nat} (hi : i ≤ its.length) (hm : more ≤ 4000) : (dueU its place more i).length ≤ 4010 := by
  rw [dueU_len its place more i hi]
  split <;> omega
theorem LRows.mono {W : Wd} {H H' : Hp} (e : Ex W H H') {rs : List Addr} {rows : List (List V)} (h : LRows W H rs rows) : LRows W H' rs rows := F2.mono (fun _ _ a => e.at_ a) h
theorem F2.mono_r {α β : Type} {R S : α → β → Prop} : ∀ {xs : List α} {ys : List β}, (∀ x y, y ∈ ys → R x y → S x y) → F2 R xs ys → F2 S xs ys
  | _, _, _, .nil => .nil
  | _, _, f, .cons a t => .cons (f _ _ (List.mem_cons_self ..) a) (F2.mono_r (fun x y hy => f x y (List.mem_cons_of_mem _ hy)) t)
theorem row_ne (x : It) (ds : List Addr) : HO.lst x.row ≠ HO.lst (ds.map V.ref) := fun z => by
  injection z with z
  cases ds with
  | nil => cases z
  | cons d ds =>
    injection z with z _
    cases z
theorem ok_law_due (T : Tx w K mg) : FnOk P w K mg base CX0 2 T.f_law_due T.fd_law_due ["items", "place", "more"] (sp_law_due) := by
  refine T.F_law_due.ok sc_law_due (fun vs H Q E h => ?_) (fun cdv A outer s H vs Q E hr h => ?_)
  · obtain ⟨W, p, rs, its, place, more, rfl, iv, hp, hI, ho, hn, hm, k⟩ := h
    rfl
  · obtain ⟨W, p, rs, its, place, more, rfl, iv, hp, hI, ho, hn, hm, k⟩ := h
    refine ⟨_, (pss_cons (ps_set (i := 3) sc_law_due.nd rfl (by first | exact Or.inl rfl | exact Or.inr rfl) (pe_lst pa_nil))
      (pss_cons (ps_for PassesOwn.never rfl (pi_range1 rfl T.n_range (pa_cons (pe_op op_add (pe_callB (r := Lw.rLen K) c_len (by rfl) T.n_len PySem.boot_len (pa_cons (pv 0) pa_nil)) pe_int) pa_nil)) (pg_name (i := 4) sc_law_due.nd rfl (by first | exact Or.inl rfl | exact Or.inr rfl))
        (pss_cut (ps_if (pt_cmpR op_eq (pv 4) (pv 1) (nomark _))
          (pss_one (ps_set (i := 3) sc_law_due.nd rfl (by first | exact Or.inl rfl | exact Or.inr rfl) (pe_op op_cat (pv 3) (pe_op op_rep (pe_lst (pa_cons (pe_lst (pa_cons pe_str (pa_cons pe_int (pa_cons pe_int pa_nil)))) pa_nil)) (pv 2)))))
          pss_nil)
        (pss_one (ps_if (pt_cmpR op_lt (pv 4) (pe_callB (r := Lw.rLen K) c_len (by rfl) T.n_len PySem.boot_len (pa_cons (pv 0) pa_nil)) (nomark _))
          (pss_cons (ps_set (i := 5) sc_law_due.nd rfl (by first | exact Or.inl rfl | exact Or.inr rfl) (pe_callTy (r := Lw.rListO K) c_list (by rfl) T.n_list (by decide +kernel) (pa_cons (pe_ix (r := rIxL K) ix_list (pv 0) (pv 4) (fun _ _ => rfl)) pa_nil)))
          (pss_cut (ps_for PassesOwn.never rfl (pi_list (pe_call (ok_law_targets T) hr (by rfl) T.g_law_targets T.F_law_targets.kp T.b_law_targets .nil pass0 (pa_cons (pv 5) pa_nil))) (pg_name (i := 6) sc_law_due.nd rfl (by first | exact Or.inl rfl | exact Or.inr rfl))
            (pss_one (ps_if (pt_cmpR op_ge (pv 6) (pv 1) (nomark _))
              (pss_one (ps_asg (pe_op op_add (pv 6) (pv 2)) (pg_sub (pv 5) (pe_un un_neg pe_int) set_list)))
              pss_nil)))
          (pss_one (ps_expr (pe_bm PySem.F.plainAttrs_list PySem.F.slot_list_append PySem.F.type_list_append mt_append (pv 3) (pa_cons (pv 5) pa_nil))))))
          pss_nil))))
      (pss_one (ps_ret (pv 3))))), ?_⟩
    have lr := hI.length
    walk_at "lw go"
    rename_i a0 H1 f1 e1 h1
    refine for_r (fun i σ' H' => ∃ (a : Addr) (ds : List Addr) (v4 v5 v6 : Option V), σ' = [some (.ref p), some (.int place), some (.int more), some (.ref a), v4, v5, v6] ∧ Ex W H H' ∧ H a = none ∧ At W H' a (.lst (ds.map V.ref)) ∧
      LRows W H' ds ((dueU its place more i).map fun x => (x.sh place more).row)) ⟨a0, [], _, _, _, rfl, e1, f1, h1, .nil⟩ ?_ ?_
    · rintro i σ' H2 hi ⟨a, ds, v4, v5, v6, rfl, e2, fa, ha, hd⟩
      rw [List.length_map] at hi
      have hi2 : i ≤ its.length := by omega
      have hdl : ds.length ≤ 4010 := by
        have q := hd.length
        rw [List.length_map] at q
        have := due_len (place := place) hn hi2 hm
        omega
      refine rd_cut (fun σ' H' => ∃ (a : Addr) (ds : List Addr), σ' = [some (.ref p), some (.int place), some (.int more), some (.ref a), some (.int (0 + (i : Int))), v5, v6] ∧ Ex W H H' ∧ H a = none ∧ At W H' a (.lst (ds.map V.ref)) ∧
        LRows W H' ds ((dueU its place more i ++ if i = place then List.replicate more (It.set 3 17) else []).map fun x => (x.sh place more).row) ∧ ds.length ≤ 8100) ?_ ?_
      · walk_at "lw go"
        refine ifI (fun e => ?_) (fun e => ?_)
        · have ep : i = place := by omega
          walk_at "lw go"
          rename_i r H3 f3 e3 h3 z1 H4 f4 e4 h4 z2 H5 f5 e5 h5 z3 H6 f6 e6 h6
          rw [Int.toNat_natCast, List.flatten_replicate_singleton] at h6
          have h36 : At W H6 r (.lst [.str "set", .int 3, .int 17]) := by walk_at "lw at"
          have e7 : Ex W H2 H6 := by walk_at "lw ex"
          have e8 : Ex W H H5 := by walk_at "lw ex"
          refine ⟨z3, ds ++ List.replicate more r, rfl, e2.trans e7, e8.fresh f6, by rw [List.map_append, List.map_replicate]; exact h6, ?_, by rw [List.length_append, List.length_replicate]; omega⟩
          rw [if_pos ep, List.map_append, List.map_replicate]
          exact F2.append (F2.rep (R := fun r row => At W H6 r (.lst row)) (y := (It.sh place more (It.set 3 17)).row) h36 more) (hd.mono e7)
        · have ep : i ≠ place := by omega
          walk_at "lw go"
          refine ⟨a, ds, rfl, e2, fa, ha, ?_, by omega⟩
          rw [if_neg ep, List.append_nil]
          exact hd
      rintro σ' H3 ⟨a1, ds1, rfl, e3, fa1, ha1, hd1, hl1⟩
      walk_at "lw go"
      refine ifD (fun e => ?_) (fun e => ?_)
      · rw [List.length_map] at e
        have hi3 : i < its.length := by omega
        obtain ⟨it, eit, hit⟩ : ∃ it, its[i]? = some it ∧ it = its[i] := ⟨_, List.getElem?_eq_getElem hi3, rfl⟩
        obtain ⟨ra, era, hra⟩ := hI.getR eit
        have ei2 : atI (rs.map V.ref) (0 + (i : Int)) = some (.ref ra) := at_in (by omega) (by rw [show (0 + (i : Int)).toNat = i by omega, List.getElem?_map, era]; rfl)
        have hok := ho it (List.mem_of_getElem? eit)
        walk_at "lw go"
        rename_i c H4 f4 e4 h4
        refine rd_cut (fun σ' H' => ∃ v6 : Option V, σ' = [some (.ref p), some (.int place), some (.int more), some (.ref a1), some (.int (0 + (i : Int))), some (.ref c), v6] ∧ Ex W H3 H' ∧ At W H' c (.lst (It.row (it.sh place more)))) ?_ ?_
        · walk_at "lw go"
          rename_i tq H5 e5 f5 h5
          cases it with
          | deed d =>
            replace h5 : At W H5 tq (.lst []) := h5
            refine for_l (xs := []) (fun j σ' H' => σ' = [some (.ref p), some (.int place), some (.int more), some (.ref a1), some (.int (0 + (i : Int))), some (.ref c), v6] ∧ H5 = H') ⟨rfl, rfl⟩ (fun j σ' H' _ ⟨_, z⟩ => z ▸ h5) (fun j x σ' H' hx => by simp at hx) ?_
            rintro σ' H' ⟨rfl, rfl⟩
            exact ⟨_, rfl, e4.trans e5, e5.at_ h4⟩
          | jump t =>
            replace h5 : At W H5 tq (.lst [.int t]) := h5
            have nct : c ≠ tq := h4.ne_fresh f5
            refine for_l (xs := [.int t]) (fun j σ' H' => ∃ v6 : Option V, σ' = [some (.ref p), some (.int place), some (.int more), some (.ref a1), some (.int (0 + (i : Int))), some (.ref c), v6] ∧ Ex W H3 H' ∧ At W H' tq (.lst [.int t]) ∧ (j = 0 → At W H' c (.lst [.str "jump", .int t])) ∧ (j = 1 → At W H' c (.lst ((It.sh place more (.jump t)).row))))
              ⟨_, rfl, e4.trans e5, h5, (fun _ => e5.at_ h4), (fun z => by cases z)⟩ (fun j σ' H' _ ⟨_, _, _, z, _⟩ => z) ?_ ?_
            · rintro j x σ' H6 hx ⟨v6, rfl, e6, h6, h0, _⟩
              have j0 : j = 0 := by
                have := (List.getElem?_eq_some_iff.mp hx).1
                simp at this
                exact this
              subst j0
              have c6 := h0 rfl
              cases (Option.some.inj hx : V.int t = x)
              walk_at "lw go"
              refine ifD (fun e => ?_) (fun e => ?_)
              · walk_at "lw go"
                refine rd_set (W := W) (H0 := H3) e6 f4 c6 (m := 1) rfl fun H8 e8 d8 o8 => ?_
                refine ⟨_, rfl, e8, o8 tq _ nct.symm h6, (fun z => by cases z), fun _ => ?_⟩
                show At W H8 c (.lst [.str "jump", .int (if (place : Int) ≤ t then t + more else t)])
                rw [if_pos e]
                exact d8
              · walk_at "lw go"
                refine ⟨_, rfl, e6, h6, (fun z => by cases z), fun _ => ?_⟩
                show At W H6 c (.lst [.str "jump", .int (if (place : Int) ≤ t then t + more else t)])
                rw [if_neg e]
                exact c6
            · rintro σ' H6 ⟨v6, rfl, e6, h6, _, h1⟩
              exact ⟨_, rfl, e6, h1 rfl⟩
          | zero g t =>
            replace h5 : At W H5 tq (.lst [.int t]) := h5
            have nct : c ≠ tq := h4.ne_fresh f5
            refine for_l (xs := [.int t]) (fun j σ' H' => ∃ v6 : Option V, σ' = [some (.ref p), some (.int place), some (.int more), some (.ref a1), some (.int (0 + (i : Int))), some (.ref c), v6] ∧ Ex W H3 H' ∧ At W H' tq (.lst [.int t]) ∧ (j = 0 → At W H' c (.lst [.str "zero", .int g, .int t])) ∧ (j = 1 → At W H' c (.lst ((It.sh place more (.zero g t)).row))))
              ⟨_, rfl, e4.trans e5, h5, (fun _ => e5.at_ h4), (fun z => by cases z)⟩ (fun j σ' H' _ ⟨_, _, _, z, _⟩ => z) ?_ ?_
            · rintro j x σ' H6 hx ⟨v6, rfl, e6, h6, h0, _⟩
              have j0 : j = 0 := by
                have := (List.getElem?_eq_some_iff.mp hx).1
                simp at this
                exact this
              subst j0
              have c6 := h0 rfl
              cases (Option.some.inj hx : V.int t = x)
              walk_at "lw go"
              refine ifD (fun e => ?_) (fun e => ?_)
              · walk_at "lw go"
                refine rd_set (W := W) (H0 := H3) e6 f4 c6 (m := 2) rfl fun H8 e8 d8 o8 => ?_
                refine ⟨_, rfl, e8, o8 tq _ nct.symm h6, (fun z => by cases z), fun _ => ?_⟩
                show At W H8 c (.lst [.str "zero", .int g, .int (if (place : Int) ≤ t then t + more else t)])
                rw [if_pos e]
                exact d8
              · walk_at "lw go"
                refine ⟨_, rfl, e6, h6, (fun z => by cases z), fun _ => ?_⟩
                show At W H6 c (.lst [.str "zero", .int g, .int (if (place : Int) ≤ t then t + more else t)])
                rw [if_neg e]
                exact c6
            · rintro σ' H6 ⟨v6, rfl, e6, h6, _, h1⟩
              exact ⟨_, rfl, e6, h1 rfl⟩
          | set g v =>
            replace h5 : At W H5 tq (.lst []) := h5
            refine for_l (xs := []) (fun j σ' H' => σ' = [some (.ref p), some (.int place), some (.int more), some (.ref a1), some (.int (0 + (i : Int))), some (.ref c), v6] ∧ H5 = H') ⟨rfl, rfl⟩ (fun j σ' H' _ ⟨_, z⟩ => z ▸ h5) (fun j x σ' H' hx => by simp at hx) ?_
            rintro σ' H' ⟨rfl, rfl⟩
            exact ⟨_, rfl, e4.trans e5, e5.at_ h4⟩
          | two m g v =>
            replace h5 : At W H5 tq (.lst []) := h5
            refine for_l (xs := []) (fun j σ' H' => σ' = [some (.ref p), some (.int place), some (.int more), some (.ref a1), some (.int (0 + (i : Int))), some (.ref c), v6] ∧ H5 = H') ⟨rfl, rfl⟩ (fun j σ' H' _ ⟨_, z⟩ => z ▸ h5) (fun j x σ' H' hx => by simp at hx) ?_
            rintro σ' H' ⟨rfl, rfl⟩
            exact ⟨_, rfl, e4.trans e5, e5.at_ h4⟩
        rintro σ' H5 ⟨v6, rfl, e5, h5⟩
        have hdl2 : (ds1.map V.ref).length < 1000000 := by rw [List.length_map]; omega
        have ha5 := e5.at_ ha1
        walk_at "lw go"
        rename_i H6 e6 h6 o6
        refine ⟨a1, ds1 ++ [c], _, _, _, rfl, e6, fa1, by rw [List.map_append]; exact h6, ?_⟩
        rw [dueU, eit, ← List.append_assoc, List.map_append]
        refine F2.append (show F2 (fun r row => At W H6 r (.lst row)) [c] [(it.sh place more).row] from .cons (o6 c _ (h5.ne ha5 (row_ne _ _)) h5) .nil) ?_
        refine F2.mono_r (fun d row hm a => o6 d _ ?_ a) (hd1.mono e5)
        obtain ⟨x, _, rfl⟩ := List.mem_map.mp hm
        exact a.ne ha5 (row_ne _ _)
      · rw [List.length_map] at e
        walk_at "lw go"
        refine ⟨a1, ds1, _, _, _, rfl, e3, fa1, ha1, ?_⟩
        rw [dueU, List.getElem?_eq_none (by omega)]
        show LRows W H3 ds1 (List.map _ (_ ++ (_ ++ [])))
        rw [List.append_nil]
        exact hd1
    · rintro σ' H2 ⟨a, ds, v4, v5, v6, rfl, e2, fa, ha, hd⟩
      have e3 : ((List.map V.ref rs).length + 1 : Int).toNat = its.length + 1 := by rw [List.length_map]; omega
      rw [e3] at hd
      walk_at "lw go"
      exact k _ _ ds e2 ha hd

theorem mem_ops {n : Str} {ws : List Str} {vs : List V} : ∀ {lns : List Ln}, Ln.op n ws vs ∈ lns → (n, ws, vs) ∈ opsF lns
  | .ig _ :: r, h => by
    rcases List.mem_cons.mp h with z | z
    · cases z
    · exact mem_ops (lns := r) z
  | .lb _ :: r, h => by
    rcases List.mem_cons.mp h with z | z
    · cases z
    · exact mem_ops (lns := r) z
  | .op _ _ _ :: r, h => by
    rcases List.mem_cons.mp h with z | z
    · cases z; exact List.mem_cons_self ..
    · exact List.mem_cons_of_mem _ (mem_ops (lns := r) z)
theorem due_mem {its : List It} {place more : Nat} {x : It} : ∀ k, x ∈ dueU its place more k → x ∈ its ∨ x = .set 3 17
  | 0, h => nomatch h
  | k + 1, h => by
    rw [dueU] at h
    rcases List.mem_append.mp h with z | z
    · exact due_mem k z
    · rcases List.mem_append.mp z with y | y
      · split at y
        · exact .inr (List.eq_of_mem_replicate y)
        · cases y
      · left
        cases e : its[k]? with
        | none => rw [e] at y; cases y
        | some i =>
          rw [e] at y
          have : x = i := by simpa using y
          rw [this]
          exact List.mem_of_getElem? e
theorem F2.memR {α β : Type} {R : α → β → Prop} : ∀ {xs : List α} {ys : List β} {y : β}, F2 R xs ys → y ∈ ys → ∃ x ∈ xs, R x y
  | _, _, _, .nil, h => nomatch h
  | _, _, y, .cons a t, h => by
    rcases List.mem_cons.mp h with rfl | h
    · exact ⟨_, List.mem_cons_self .., a⟩
    · obtain ⟨x, hx, r⟩ := t.memR h
      exact ⟨x, List.mem_cons_of_mem _ hx, r⟩
theorem idx_cast {place more : Nat} {t : Int} (h : 0 ≤ t) : ((idx place more t.toNat : Nat) : Int) = if (place : Int) ≤ t then t + more else t := by
  unfold idx
  by_cases q : place ≤ t.toNat
  · rw [if_pos q, if_pos (by omega)]; omega
  · rw [if_neg q, if_neg (by omega)]; omega
theorem part_reg {kvs : List (Key × V)} {r : Int} (h0 : 0 ≤ r) (h1 : r < 8) : Part kvs "register" (num r) (.int r) := by
  have q := Part.reg (kvs := kvs) (s := num r) (n := r.toNat) (by omega) (tl_toString h0)
  rwa [show ((r.toNat : Nat) : Int) = r by omega] at q
theorem part_word {kvs : List (Key × V)} {r : Int} (h0 : 0 ≤ r) (h1 : r < 1048576) : Part kvs "word" (num r) (.int r) := by
  have q := Part.word (kvs := kvs) (s := num r) (n := r.toNat) (by omega) (tl_toString h0)
  rwa [show ((r.toNat : Nat) : Int) = r by omega] at q
theorem joinL_len (S : List Nat) : ∀ ps : List (List Nat), (joinL S ps).length ≤ (ps.map List.length).sum + ps.length * S.length
  | [] => Nat.zero_le _
  | [p] => by simp [joinL]
  | p :: q :: r => by
    have h := joinL_len S (q :: r)
    have e : joinL S (p :: q :: r) = p ++ (S ++ joinL S (q :: r)) := by simp [joinL]
    rw [e, List.length_append, List.length_append, List.map_cons, List.sum_cons, List.length_cons, Nat.succ_mul]
    omega
theorem join_len (y : Str) (ps : List Str) : (Txt.join y ps).length ≤ (ps.map (·.length)).sum + ps.length * y.length := by
  rw [len_tl, join_eq, tl_join]
  have h := joinL_len (tl y) (ps.map tl)
  rw [List.map_map, List.length_map, ← len_tl] at h
  have e : (List.length ∘ tl) = fun x : Str => x.length := funext fun x => (len_tl x).symm
  rw [e] at h
  exact h
theorem due_ok {its : List It} {place more : Nat} (ho : ∀ x ∈ its, It.Ok its.length x) {x : It} {k : Nat} (h : x ∈ dueU its place more k) : It.Ok its.length x := by
  rcases due_mem k h with q | rfl
  · exact ho x q
  · exact ⟨⟨by decide, by decide⟩, by decide, by decide⟩
theorem op_line {its : List It} {cs : List (List Str)} (L : LabOk its cs) {n : Int} (hn : n ≤ 1048576) {it : It} (ho : it.Ok n) {ws : List Str} (h : LineOf cs it ws) :
    (Txt.join " " (it.name :: ws)).length ≤ 40 ∧ 10 ∉ tl (Txt.join " " (it.name :: ws)) := by
  obtain ⟨w1, w2⟩ := words_ok L ho hn h
  have q : ∀ x ∈ it.name :: ws, x.length ≤ 10 := fun x hx => by
    rcases List.mem_cons.mp hx with rfl | z
    · exact name_len ho
    · exact (w2 x z).1
  have q2 := sum_le q
  have q3 := join_len " " (it.name :: ws)
  rw [List.length_cons] at q2 q3
  have e1 : (" " : Str).length = 1 := rfl
  rw [e1] at q3
  have rl : ∃ rs, Rl it.name rs := by
    cases it with
    | two m r q =>
      obtain ⟨hm, _⟩ := ho
      rcases hm with rfl | rfl | rfl | rfl | rfl
      · exact ⟨_, .move⟩
      · exact ⟨_, .add⟩
      · exact ⟨_, .sub⟩
      · exact ⟨_, .load⟩
      · exact ⟨_, .store⟩
    | deed _ => exact ⟨_, .deed⟩
    | jump _ => exact ⟨_, .jump⟩
    | zero _ _ => exact ⟨_, .zero⟩
    | set _ _ => exact ⟨_, .set⟩
  obtain ⟨rs, hr⟩ := rl
  obtain ⟨c, r, en, hc⟩ := hr.wrd
  exact ⟨by omega, (line_ok en hc (ws := ws) (fun p h => by
    rcases List.mem_cons.mp h with rfl | h
    · exact hr.wrd2
    · exact (w2 p h).2)).2.2.1⟩
theorem op_parts {its : List It} {cs : List (List Str)} (L : LabOk its cs) {place more : Nat} {n : Int} (hn : n ≤ 1048576) {it : It} (ho : it.Ok n) {ws : List Str} (h : LineOf cs it ws) :
    ∃ rs, Rl it.name rs ∧ Parts (LB cs place more its.length) rs ws (it.sh place more).vals := by
  cases it with
  | deed d =>
    cases (h : ws = [d])
    exact ⟨_, .deed, .cons (.deed ho) .nil⟩
  | jump t =>
    obtain ⟨c, l, e, hl, rfl⟩ := h
    refine ⟨_, .jump, .cons (.target ?_) .nil⟩
    rw [LB_val L e hl, idx_cast ho.1]
  | zero r t =>
    obtain ⟨c, l, e, hl, rfl⟩ := h
    refine ⟨_, .zero, .cons (part_reg ho.1.1 ho.1.2) (.cons (.target ?_) .nil)⟩
    rw [LB_val L e hl, idx_cast ho.2.1]
  | set r v =>
    cases (h : ws = [num r, num v])
    exact ⟨_, .set, .cons (part_reg ho.1.1 ho.1.2) (.cons (part_word ho.2.1 ho.2.2) .nil)⟩
  | two m r q =>
    cases (h : ws = [num r, num q])
    obtain ⟨hm, h1, h2⟩ := ho
    have p : Parts (LB cs place more its.length) ["register", "register"] [num r, num q] [.int r, .int q] := .cons (part_reg h1.1 h1.2) (.cons (part_reg h2.1 h2.2) .nil)
    rcases hm with rfl | rfl | rfl | rfl | rfl
    · exact ⟨_, .move, p⟩
    · exact ⟨_, .add, p⟩
    · exact ⟨_, .sub, p⟩
    · exact ⟨_, .load, p⟩
    · exact ⟨_, .store, p⟩
theorem LinesOf.line {its : List It} {cs : List (List Str)} {place more : Nat} {lns : List Ln} (G : LinesOf its cs place more lns) (L : LabOk its cs) (ho : ∀ x ∈ its, It.Ok its.length x) (hn : its.length ≤ 10) {x : Ln} (hx : x ∈ lns) : x.s.length ≤ 40 ∧ 10 ∉ tl x.s := by
  cases x with
  | ig g =>
    obtain ⟨_, a, b⟩ : Ig g := G.cls _ hx
    exact ⟨Nat.le_trans b (by decide), a⟩
  | lb l =>
    have q : isL l = true := G.cls _ hx
    have ll := GL.len (isL_of q)
    refine ⟨?_, ?_⟩
    · show (l ++ ":").length ≤ 40
      rw [len_tl, tl_lb, List.length_append, ← len_tl, List.length_singleton]
      omega
    · show 10 ∉ tl (l ++ ":")
      rw [tl_lb]
      intro h
      rcases List.mem_append.mp h with z | z
      · exact (wd_ne ((Wrd.lab q).2 10 z)).2.2.1 rfl
      · exact absurd (List.mem_singleton.mp z) (by decide)
  | op n ws vs =>
    obtain ⟨it, hit, e1, e2, hL⟩ := G.ops.memR (mem_ops hx)
    cases (e1 : n = it.name)
    exact op_line L (by omega) (due_ok ho hit) hL
theorem LinesOf.good {its : List It} {cs : List (List Str)} {place more : Nat} {lns : List Ln} (G : LinesOf its cs place more lns) (L : LabOk its cs) (ho : ∀ x ∈ its, It.Ok its.length x) (hn : its.length ≤ 10) (hm : more + its.length ≤ 4000) : Good lns := by
  refine ⟨fun x hx => ?_, ?_, ?_, G.aft, Nat.le_trans G.len (by decide), fun x hx => Nat.le_trans (G.line L ho hn hx).1 (by decide)⟩
  · cases x with
    | ig g =>
      have q : Ig g := G.cls _ hx
      exact ign_ok q.1
    | lb l => exact G.cls _ hx
    | op n ws vs =>
      obtain ⟨it, hit, e1, e2, hL⟩ := G.ops.memR (mem_ops hx)
      cases (e1 : n = it.name)
      cases (e2 : vs = (it.sh place more).vals)
      have hok := due_ok ho hit
      obtain ⟨rs, hr, hp⟩ := op_parts (place := place) (more := more) L (by omega) hok hL
      rw [G.labs]
      exact ⟨rs, hr, hp, fun p h => ((words_ok L hok (by omega) hL).2 p h).2⟩
  · rw [G.labs, LB_keys, ← L.len, List.take_length]
    exact List.Pairwise.map Sum.inr (fun a b h e => h (by injection e)) L.nd
  · rw [← G.ops.length, dueU, List.length_append, List.length_append, dueU_len its place more _ (Nat.le_refl _), List.getElem?_eq_none (Nat.le_refl _)]
    by_cases q : its.length = place
    · rw [if_pos q, if_neg (by omega), List.length_replicate]; simp; omega
    · rw [if_neg q]
      split <;> simp <;> omega
theorem Good.blank {lns : List Ln} (G : Good lns) (h : lns.length ≤ 5000) : Good (lns ++ [Ln.ig ""]) := by
  have e : labsF 0 (lns ++ [Ln.ig ""]) = labsF 0 lns := by rw [labs_snoc]; exact List.append_nil _
  have o : opsF (lns ++ [Ln.ig ""]) = opsF lns := by rw [opsF_app]; exact List.append_nil _
  refine ⟨fun x hx => ?_, by rw [e]; exact G.nd, by rw [o]; exact G.ops, Aft.app G.aft (fun x hx l z => by rw [List.mem_singleton.mp hx] at z; cases z), by rw [List.length_append]; exact Nat.le_trans (Nat.add_le_add_right h 1) (by decide), fun x hx => ?_⟩
  · rw [e]
    rcases List.mem_append.mp hx with z | z
    · exact G.ok x z
    · rw [List.mem_singleton.mp z]; exact ign_ok (.inl rfl)
  · rcases List.mem_append.mp hx with z | z
    · exact G.sz x z
    · rw [List.mem_singleton.mp z]; exact Nat.zero_le _
theorem blank_ops (lns : List Ln) : opsF (lns ++ [Ln.ig ""]) = opsF lns := by rw [opsF_app]; exact List.append_nil _
/-- the text's lines, split -/
theorem split_lns {lns : List Ln} (hne : lns ≠ []) (h : ∀ x ∈ lns, 10 ∉ tl x.s) : Txt.split (Txt.join "\n" (lns.map Ln.s)) "\n" = lns.map Ln.s :=
  split_join newl (by decide +kernel) (by simpa using hne) fun p hp => by
    obtain ⟨x, hx, rfl⟩ := List.mem_map.mp hp
    exact h x hx
theorem joinL_snoc (S : List Nat) : ∀ {ps : List (List Nat)}, ps ≠ [] → joinL S (ps ++ [[]]) = joinL S ps ++ S
  | [], h => absurd rfl h
  | [p], _ => by simp [joinL]
  | p :: q :: r, _ => by
    have ih := joinL_snoc S (ps := q :: r) (by simp)
    have e1 : joinL S (p :: q :: r) = p ++ (S ++ joinL S (q :: r)) := by simp [joinL]
    have e2 : joinL S (p :: q :: r ++ [[]]) = p ++ (S ++ joinL S (q :: r ++ [[]])) := by simp [joinL]
    rw [e1, e2, ih]
    simp [List.append_assoc]
theorem join_nl {lns : List Ln} (hne : lns ≠ []) : Txt.join "\n" (lns.map Ln.s) ++ "\n" = Txt.join "\n" ((lns ++ [Ln.ig ""]).map Ln.s) := by
  refine ext_tl ?_
  rw [tl_append, join_eq, join_eq, tl_join, tl_join, newl, List.map_append, List.map_append]
  exact (joinL_snoc [10] (ps := (lns.map Ln.s).map tl) (by simpa using hne)).symm
theorem rows_eq {cs : List (List Str)} {place more : Int} : ∀ {xs : List It} {os : List (Str × List Str × List V)}, F2 (OpOf cs place more) xs os → os.map rowF = xs.map fun x => (x.sh place more).row
  | _, _, .nil => rfl
  | _, _, .cons (x := x) (y := o) h t => by
    rw [List.map_cons, List.map_cons, rows_eq t]
    obtain ⟨e1, e2, _⟩ := h
    unfold rowF It.row
    rw [e1, e2, It.sh_name]
theorem row_ab2 (x : It) : AB x.row ∧ x.row.length ≤ 1000 := by
  cases x <;> refine ⟨fun y hy => ?_, by simp [It.row, It.vals]⟩ <;> simp only [It.row, It.vals, It.name, List.mem_cons, List.not_mem_nil, or_false] at hy <;> rcases hy with rfl | rfl | rfl <;> first | exact .inl ⟨_, rfl⟩ | exact .inr ⟨_, rfl⟩
theorem ok_law_at (T : Tx w K mg) {f : Addr} {fd : FuncData} (F : Fun K "law" "law" s_law f fd) : FnOk P w K mg base CX0 6 f fd ["script"] (spLaw K) := by
  refine F.ok sc_law (fun vs H Q E h => ?_) (fun cdv A outer s H vs Q E hr h => ?_)
  · obtain ⟨a, ns, rfl, ha, hn, k⟩ := h
    rfl
  · obtain ⟨a, ns, rfl, ha, hn, k⟩ := h
    refine ⟨_, (pss_cons (ps_set (i := 1) sc_law.nd rfl (by first | exact Or.inl rfl | exact Or.inr rfl) (pe_call (ok_law_pool T) (hr.mono (by decide)) (by rfl) T.g_law_pool T.F_law_pool.kp T.b_law_pool .nil pass0 (pa_cons (pv 0) pa_nil)))
      (pss_cons (ps_set (i := 2) sc_law.nd rfl (by first | exact Or.inl rfl | exact Or.inr rfl) (pe_call (ok_law_draw T) (hr.mono (by decide)) (by rfl) T.g_law_draw T.F_law_draw.kp T.b_law_draw .nil pass0 (pa_cons (pv 1) (pa_cons pe_int pa_nil))))
      (pss_cons (ps_setLc (i := 3) (own := [("k", 9)]) rfl sc_law.nd rfl rfl (sw_true rfl rfl rfl (by decide +kernel)) (pi_range1 rfl T.n_range (pa_cons (pv 2) pa_nil)) (blkOk_by (own := [("k", 9)]) (N := N_law) (sc := (defScope s_law)) (by decide +kernel)) (fun _ _ _ _ _ => (pg_name (i := 9) sc_law.nd rfl (by first | exact Or.inl rfl | exact Or.inr rfl))) (fun _ _ _ _ _ => pts_nil) (fun _ _ _ _ _ => (pe_call (ok_law_instruction T) (hr.mono (by decide)) (by rfl) T.g_law_instruction T.F_law_instruction.kp T.b_law_instruction .nil pass0 (pa_cons (pv 1) (pa_cons (pv 2) pa_nil)))))
      (pss_cons (ps_set (i := 4) sc_law.nd rfl (by first | exact Or.inl rfl | exact Or.inr rfl) (pe_call (ok_law_labels T) (hr.mono (by decide)) (by rfl) T.g_law_labels T.F_law_labels.kp T.b_law_labels .nil pass0 (pa_cons (pv 1) (pa_cons (pv 3) pa_nil))))
      (pss_cons (ps_set (i := 5) sc_law.nd rfl (by first | exact Or.inl rfl | exact Or.inr rfl) pe_int)
      (pss_cut (ps_if (pt_cmpR op_eq (pe_call (ok_law_draw T) (hr.mono (by decide)) (by rfl) T.g_law_draw T.F_law_draw.kp T.b_law_draw .nil pass0 (pa_cons (pv 1) (pa_cons pe_int pa_nil))) pe_int (nomark _))
        (pss_one (ps_set (i := 5) sc_law.nd rfl (by first | exact Or.inl rfl | exact Or.inr rfl) (pe_op op_sub (pe_op op_sub pe_int (pv 2)) (pe_ix (r := rIxL K) ix_list (pe_lst (pa_cons pe_int (pa_cons (pe_call (ok_law_draw T) (hr.mono (by decide)) (by rfl) T.g_law_draw T.F_law_draw.kp T.b_law_draw .nil pass0 (pa_cons (pv 1) (pa_cons pe_int pa_nil))) pa_nil))) (pe_call (ok_law_draw T) (hr.mono (by decide)) (by rfl) T.g_law_draw T.F_law_draw.kp T.b_law_draw .nil pass0 (pa_cons (pv 1) (pa_cons pe_int pa_nil))) (fun _ _ => rfl)))))
        pss_nil)
      (pss_cons (ps_set (i := 6) sc_law.nd rfl (by first | exact Or.inl rfl | exact Or.inr rfl) (pe_call (ok_law_draw T) (hr.mono (by decide)) (by rfl) T.g_law_draw T.F_law_draw.kp T.b_law_draw .nil pass0 (pa_cons (pv 1) (pa_cons (pe_op op_add (pv 2) pe_int) pa_nil))))
      (pss_cons (ps_set (i := 7) sc_law.nd rfl (by first | exact Or.inl rfl | exact Or.inr rfl) (pe_bm PySem.F.plainAttrs_str PySem.F.slot_str_join PySem.F.type_str_join (r := rJoinS K) m_join pe_str (pa_cons (pe_call (ok_law_lines T) (hr.mono (by decide)) (by rfl) T.g_law_lines T.F_law_lines.kp T.b_law_lines .nil pass0 (pa_cons (pv 1) (pa_cons (pv 3) (pa_cons (pv 4) (pa_cons (pv 6) (pa_cons (pv 5) pa_nil)))))) pa_nil)))
      (pss_cut (ps_if (pt_cmpR op_eq (pe_call (ok_law_draw T) (hr.mono (by decide)) (by rfl) T.g_law_draw T.F_law_draw.kp T.b_law_draw .nil pass0 (pa_cons (pv 1) (pa_cons pe_int pa_nil))) pe_int (nomark _))
        (pss_one (ps_set (i := 7) sc_law.nd rfl (by first | exact Or.inl rfl | exact Or.inr rfl) (pe_op o_adds (pv 7) pe_str)))
        pss_nil)
      (pss_cons (ps_try_thru0 (pss_one (ps_set (i := 8) sc_law.nd rfl (by first | exact Or.inl rfl | exact Or.inr rfl) (pe_call (ok_assemble T) hr (by rfl) T.g_assemble T.F_assemble.kp T.b_assemble .nil pass0 (pa_cons (pv 7) pa_nil)))))
      (pss_one (ps_ret (pe_call (ok_law_same_program T) (hr.mono (by decide)) (by rfl) T.g_law_same_program T.F_law_same_program.kp T.b_law_same_program .nil pass0 (pa_cons (pv 8) (pa_cons (pe_call (ok_law_due T) (hr.mono (by decide)) (by rfl) T.g_law_due T.F_law_due.kp T.b_law_due .nil pass0 (pa_cons (pv 3) (pa_cons (pv 6) (pa_cons (pv 5) pa_nil)))) pa_nil))))))))))))))), ?_⟩
    refine rd_seq (rd_asg (rd_call (rd_cons ?_)))
    walk_at "lw go"
    refine ⟨a, ns, rfl, ha, hn, fun b H1 iv => ?_⟩
    walk_at "lw go"
    rename_i r H2 e2 r0 r1
    refine lc_w (W := WB b) (X := fun i x => x = .int (0 + (i : Nat))) (n := r.toNat) walk_range (fun n ys Hh => ∃ (rs : List Addr) (its : List It), ys = rs.map V.ref ∧ Its (WB b) Hh rs its ∧ its.length = n ∧ ∀ it ∈ its, It.Ok r it) e2.iv (by omega) (fun _ _ => trivial)
      (fun n ys Ha Hb e ⟨rs, its, a1, a2, a3, a4⟩ => ⟨rs, its, a1, a2.mono e, a3, a4⟩) ⟨[], [], rfl, .nil, rfl, fun _ h => nomatch h⟩ ?_ ?_
    · rintro n x D ys H' QV QN hn' rfl hD hDa e3 ⟨rs, its, rfl, a2, a3, a4⟩ _ qv qn
      walk_at "lw go"
      refine iteT ?_
      walk_at "lw go"
      rename_i p H4 it e4 h4 ok4
      refine qv _ _ e4 ⟨rs ++ [p], its ++ [it], by rw [List.map_append]; rfl, ?_, by rw [List.length_append, a3]; rfl, fun x hx => ?_⟩
      · refine F2.append (show F2 (fun r it => At (WB b) (Lw.hide D H4) r (.lst (It.row it))) [p] [it] from .cons (h4.hide (h4.ne (e4.at_ hDa) (row_ne _ _)) e4.iv (e4.at_ hDa)) .nil) ?_
        exact Its.mono (hide_ex e4 hDa) a2
      · rcases List.mem_append.mp hx with z | z
        · exact a4 x z
        · rw [List.mem_singleton.mp z]; exact ok4
    rintro I H3 ys hI e3 hI3 ⟨rs, its, rfl, hIts, hlen, hok⟩ _
    obtain rfl : r = (its.length : Int) := by omega
    have hn10 : its.length ≤ 10 := by omega
    walk_at "lw go"
    refine cl_law_labels e3.iv hI3 hIts hok hn10 fun q H4 qs cs e4 hq hl L => ?_
    refine rd_cut (fun σ' H' => ∃ more : Nat, σ' = [some (.ref a), some (.ref b), some (.int its.length), some (.ref I), some (.ref q), some (.int more), none, none, none, none] ∧ Ex (WB b) H4 H' ∧ more + its.length ≤ 4000) ?_ ?_
    · walk_at "lw go"
      rename_i d5 H5 e5 d50 d51
      refine ifI (fun _ => ?_) (fun _ => ?_)
      · walk_at "lw go"
        rename_i r6 H6 e6 r60 r61 p7 H7 f7 e7 h7 r8 H8 e8 r80 r81 v9 hv9
        obtain ⟨z9, rfl, z90, z91⟩ : ∃ z : Int, v9 = .int z ∧ 0 ≤ z ∧ z < 3000 := by
          rcases List.mem_cons.mp hv9 with rfl | hv9
          · exact ⟨0, rfl, by decide, by decide⟩
          · rw [List.mem_singleton.mp hv9]
            exact ⟨r6, rfl, r60, r61⟩
        walk_at "lw go"
        refine ⟨(4000 - (its.length : Int) - z9).toNat, ?_, by walk_at "lw ex", by omega⟩
        rw [Int.toNat_of_nonneg (by omega)]
        rfl
      · walk_at "lw go"
        exact ⟨0, rfl, e5, by omega⟩
    rintro σ' H5 ⟨more, rfl, e5, hmore⟩
    obtain ⟨sz, hszz⟩ : ∃ sz : Int, sz = (its.length : Int) := ⟨_, rfl⟩
    rw [← hszz]
    walk_at "lw go"
    rename_i pl H6 e6 pl0 pl1
    obtain ⟨place, rfl⟩ := Int.eq_ofNat_of_zero_le pl0
    refine cl_law_lines (place := place) (more := more) e6.iv (by walk_at "lw at") (hIts.mono (by walk_at "lw ex")) hok hn10 (by walk_at "lw at") (hl.mono (by walk_at "lw ex")) L (by omega) (by omega) fun ta H7 lns e7 h7 G => ?_
    walk_at "lw go"
    have hsz : ∀ x ∈ lns.map Ln.s, x.length ≤ 40 := fun x hx => by
      obtain ⟨y, hy, rfl⟩ := List.mem_map.mp hx
      exact (G.line L hok hn10 hy).1
    have hsum := sum_le hsz
    rw [List.length_map] at hsum
    have hnl : ("\n" : Str).length = 1 := rfl
    have glen := G.len
    have hw7 : At (WB b) H7 ta (.lst ((lns.map Ln.s).map V.str)) := by rw [List.map_map]; exact h7
    refine rd_join hw7 (by rw [List.length_map, hnl]; omega) ?_
    walk_at "lw go"
    have hlen7 : (Txt.join "\n" (lns.map Ln.s)).length ≤ 300000 := by
      have q3 := join_len "\n" (lns.map Ln.s)
      rw [List.length_map, hnl] at q3
      omega
    have hG := G.good L hok hn10 hmore
    obtain ⟨ln0, hne, hg0, ht0, ho0, hl0, hq0⟩ : ∃ ln0 : List Ln, ln0 ≠ [] ∧ Good ln0 ∧ Txt.join "\n" (ln0.map Ln.s) = Txt.join "\n" (lns.map Ln.s) ∧ opsF ln0 = opsF lns ∧ ln0.length ≤ 5000 ∧ ∀ x ∈ ln0, 10 ∉ tl x.s := by
      by_cases q : lns = []
      · subst q
        refine ⟨[] ++ [Ln.ig ""], by simp, hG.blank (by simp), by decide +kernel, blank_ops [], by decide, fun x hx => ?_⟩
        rw [List.mem_singleton.mp hx]
        decide +kernel
      · exact ⟨lns, q, hG, rfl, rfl, glen, fun x hx => (G.line L hok hn10 hx).2⟩
    rw [← ht0] at hlen7 ⊢
    refine rd_cut (fun σ' H' => ∃ (z : Str) (ln1 : List Ln), σ' = [some (.ref a), some (.ref b), some (.int sz), some (.ref I), some (.ref q), some (.int more), some (.int place), some (.str z), none, none] ∧ Ex (WB b) H7 H' ∧ z.length ≤ 1000000 ∧ Txt.split z "\n" = ln1.map Ln.s ∧ Good ln1 ∧ opsF ln1 = opsF lns) ?_ ?_
    · walk_at "lw go"
      rename_i d8 H8 e8 d80 d81
      refine ifI (fun _ => ?_) (fun _ => ?_)
      · walk_at "lw go"
        refine ⟨_, ln0 ++ [Ln.ig ""], rfl, e8, ?_, ?_, hg0.blank hl0, (blank_ops ln0).trans ho0⟩
        · rw [len_tl, tl_append, List.length_append, ← len_tl, ← len_tl, hnl]; omega
        · rw [join_nl hne]
          refine split_lns (by simp) fun x hx => ?_
          rcases List.mem_append.mp hx with y | y
          · exact hq0 x y
          · rw [List.mem_singleton.mp y]; decide +kernel
      · walk_at "lw go"
        exact ⟨_, ln0, rfl, e8, by omega, split_lns hne hq0, hg0, ho0⟩
    rintro σ' H9 ⟨z, ln1, rfl, e9, hz, hs1, hg1, ho1⟩
    walk_at "lw go"
    refine cl_assemble hz hs1 hg1 e9.iv fun t H10 rs1 e10 h10 hr10 => ?_
    walk_at "lw go"
    have eA : Ex (WB b) H3 H10 := by walk_at "lw ex"
    refine cl_law_due (place := place) (more := more) e10.iv (eA.at_ hI3) (hIts.mono eA) hok hn10 (by omega) fun a2 H11 ds e11 h11 hd11 => ?_
    walk_at "lw go"
    have hrows : (opsF ln1).map rowF = (dueU its place more (its.length + 1)).map fun x => (x.sh place more).row := by
      rw [ho1]
      exact rows_eq G.ops
    rw [hrows] at hr10
    refine ⟨WB b, t, a2, rs1, ds, _, rfl, e11.at_ h10, hr10.mono e11, h11, hd11, ?_, ?_, k _⟩
    · intro row hrow
      obtain ⟨x, hx, rfl⟩ := List.mem_map.mp hrow
      exact row_ab2 (x.sh place more)
    · have q1 := hg1.ops
      have q2 := congrArg List.length hrows
      rw [List.length_map] at q2
      omega

end

theorem all_mk {l : PySem.W.OpenLaw} {w : World} {K : PySem.W.Frag} {h : Heap} {mg : Str → Option Value} {fa : Addr} (X : K.In h) (G : h.Ns mainGlobals mg) (hfa : mg "law" = some (.ref fa))
    {f0 : Addr} {od0 an0 : Option Addr} {sl0 : Array (Option Value)} {oc0 kV0 dc0 pm0 cd0 ct0 : Value}
    {f1 : Addr} {od1 an1 : Option Addr} {sl1 : Array (Option Value)} {oc1 kV1 dc1 pm1 cd1 ct1 : Value}
    {f2 : Addr} {od2 an2 : Option Addr} {sl2 : Array (Option Value)} {oc2 kV2 dc2 pm2 cd2 ct2 : Value}
    {f3 : Addr} {od3 an3 : Option Addr} {sl3 : Array (Option Value)} {oc3 kV3 dc3 pm3 cd3 ct3 : Value}
    {f4 : Addr} {od4 an4 : Option Addr} {sl4 : Array (Option Value)} {oc4 kV4 dc4 pm4 cd4 ct4 : Value}
    {f5 : Addr} {od5 an5 : Option Addr} {sl5 : Array (Option Value)} {oc5 kV5 dc5 pm5 cd5 ct5 : Value}
    {f6 : Addr} {od6 an6 : Option Addr} {sl6 : Array (Option Value)} {oc6 kV6 dc6 pm6 cd6 ct6 : Value}
    {f7 : Addr} {od7 an7 : Option Addr} {sl7 : Array (Option Value)} {oc7 kV7 dc7 pm7 cd7 ct7 : Value}
    {f8 : Addr} {od8 an8 : Option Addr} {sl8 : Array (Option Value)} {oc8 kV8 dc8 pm8 cd8 ct8 : Value}
    {f9 : Addr} {od9 an9 : Option Addr} {sl9 : Array (Option Value)} {oc9 kV9 dc9 pm9 cd9 ct9 : Value}
    {f10 : Addr} {od10 an10 : Option Addr} {sl10 : Array (Option Value)} {oc10 kV10 dc10 pm10 cd10 ct10 : Value}
    {f11 : Addr} {od11 an11 : Option Addr} {sl11 : Array (Option Value)} {oc11 kV11 dc11 pm11 cd11 ct11 : Value}
    {f12 : Addr} {od12 an12 : Option Addr} {sl12 : Array (Option Value)} {oc12 kV12 dc12 pm12 cd12 ct12 : Value}
    {f13 : Addr} {od13 an13 : Option Addr} {sl13 : Array (Option Value)} {oc13 kV13 dc13 pm13 cd13 ct13 : Value}
    {f14 : Addr} {od14 an14 : Option Addr} {sl14 : Array (Option Value)} {oc14 kV14 dc14 pm14 cd14 ct14 : Value}
    {f15 : Addr} {od15 an15 : Option Addr} {sl15 : Array (Option Value)} {oc15 kV15 dc15 pm15 cd15 ct15 : Value}
    {f16 : Addr} {od16 an16 : Option Addr} {sl16 : Array (Option Value)} {oc16 kV16 dc16 pm16 cd16 ct16 : Value}
    {f17 : Addr} {od17 an17 : Option Addr} {sl17 : Array (Option Value)} {oc17 kV17 dc17 pm17 cd17 ct17 : Value}
    {f18 : Addr} {od18 an18 : Option Addr} {sl18 : Array (Option Value)} {oc18 kV18 dc18 pm18 cd18 ct18 : Value}
    {f19 : Addr} {od19 an19 : Option Addr} {sl19 : Array (Option Value)} {oc19 kV19 dc19 pm19 cd19 ct19 : Value}
    {f20 : Addr} {od20 an20 : Option Addr} {sl20 : Array (Option Value)} {oc20 kV20 dc20 pm20 cd20 ct20 : Value}
    {f21 : Addr} {od21 an21 : Option Addr} {sl21 : Array (Option Value)} {oc21 kV21 dc21 pm21 cd21 ct21 : Value}
    {f22 : Addr} {od22 an22 : Option Addr} {sl22 : Array (Option Value)} {oc22 kV22 dc22 pm22 cd22 ct22 : Value}
    {f23 : Addr} {od23 an23 : Option Addr} {sl23 : Array (Option Value)} {oc23 kV23 dc23 pm23 cd23 ct23 : Value}
    {f24 : Addr} {od24 an24 : Option Addr} {sl24 : Array (Option Value)} {oc24 kV24 dc24 pm24 cd24 ct24 : Value}
    {f25 : Addr} {od25 an25 : Option Addr} {sl25 : Array (Option Value)} {oc25 kV25 dc25 pm25 cd25 ct25 : Value}
    {f26 : Addr} {od26 an26 : Option Addr} {sl26 : Array (Option Value)} {oc26 kV26 dc26 pm26 cd26 ct26 : Value}
    {f27 : Addr} {od27 an27 : Option Addr} {sl27 : Array (Option Value)} {oc27 kV27 dc27 pm27 cd27 ct27 : Value}
    {aK_DEEDS : Addr} {its_DEEDS : Array Value} {n_DEEDS : Nat} {dd_DEEDS : Option Addr} {sl_DEEDS : Array (Option Value)}
    {tk_DIGITS : Tok}
    {tk_LONGEST : Tok}
    {tk_LONGEST_LABEL : Tok}
    {tk_LONGEST_NUMBER : Tok}
    {tk_REGISTERS : Tok}
    {aK_ROLES : Addr} {es_ROLES : Array DictEntry} {n_ROLES : Nat}
    {r_ROLES_set : Addr} {its_ROLES_set : Array Value} {n_ROLES_set : Nat} {dd_ROLES_set : Option Addr} {sl_ROLES_set : Array (Option Value)}
    {r_ROLES_move : Addr} {its_ROLES_move : Array Value} {n_ROLES_move : Nat} {dd_ROLES_move : Option Addr} {sl_ROLES_move : Array (Option Value)}
    {r_ROLES_add : Addr} {its_ROLES_add : Array Value} {n_ROLES_add : Nat} {dd_ROLES_add : Option Addr} {sl_ROLES_add : Array (Option Value)}
    {r_ROLES_sub : Addr} {its_ROLES_sub : Array Value} {n_ROLES_sub : Nat} {dd_ROLES_sub : Option Addr} {sl_ROLES_sub : Array (Option Value)}
    {r_ROLES_load : Addr} {its_ROLES_load : Array Value} {n_ROLES_load : Nat} {dd_ROLES_load : Option Addr} {sl_ROLES_load : Array (Option Value)}
    {r_ROLES_store : Addr} {its_ROLES_store : Array Value} {n_ROLES_store : Nat} {dd_ROLES_store : Option Addr} {sl_ROLES_store : Array (Option Value)}
    {r_ROLES_jump : Addr} {its_ROLES_jump : Array Value} {n_ROLES_jump : Nat} {dd_ROLES_jump : Option Addr} {sl_ROLES_jump : Array (Option Value)}
    {r_ROLES_zero : Addr} {its_ROLES_zero : Array Value} {n_ROLES_zero : Nat} {dd_ROLES_zero : Option Addr} {sl_ROLES_zero : Array (Option Value)}
    {r_ROLES_deed : Addr} {its_ROLES_deed : Array Value} {n_ROLES_deed : Nat} {dd_ROLES_deed : Option Addr} {sl_ROLES_deed : Array (Option Value)}
    {tk_SMALL : Tok}
    {tk_WORD : Tok}
    (a0 : PySem.W.nsIn K mainGlobals "is_integer" = some (some (.ref f0))) (l0 : K.lookup f0 = some ⟨oc0, od0, .func (PySem.W.fnOf "is_integer" "is_integer" (defArgs s_is_integer) (defBody s_is_integer) (defScope s_is_integer) .none kV0 dc0 pm0 an0 cd0 ct0), sl0⟩) (c0 : PySem.W.codeIn K cd0 "is_integer" = true) (k0 : PySem.W.keepIn K (.ref f0) = true)
    (a1 : PySem.W.nsIn K mainGlobals "_bound" = some (some (.ref f1))) (l1 : K.lookup f1 = some ⟨oc1, od1, .func (PySem.W.fnOf "_bound" "_bound" (defArgs s_bound) (defBody s_bound) (defScope s_bound) .none kV1 dc1 pm1 an1 cd1 ct1), sl1⟩) (c1 : PySem.W.codeIn K cd1 "_bound" = true) (k1 : PySem.W.keepIn K (.ref f1) = true)
    (a2 : PySem.W.nsIn K mainGlobals "_fits" = some (some (.ref f2))) (l2 : K.lookup f2 = some ⟨oc2, od2, .func (PySem.W.fnOf "_fits" "_fits" (defArgs s_fits) (defBody s_fits) (defScope s_fits) .none kV2 dc2 pm2 an2 cd2 ct2), sl2⟩) (c2 : PySem.W.codeIn K cd2 "_fits" = true) (k2 : PySem.W.keepIn K (.ref f2) = true)
    (a3 : PySem.W.nsIn K mainGlobals "_is_label" = some (some (.ref f3))) (l3 : K.lookup f3 = some ⟨oc3, od3, .func (PySem.W.fnOf "_is_label" "_is_label" (defArgs s_is_label) (defBody s_is_label) (defScope s_is_label) .none kV3 dc3 pm3 an3 cd3 ct3), sl3⟩) (c3 : PySem.W.codeIn K cd3 "_is_label" = true) (k3 : PySem.W.keepIn K (.ref f3) = true)
    (a4 : PySem.W.nsIn K mainGlobals "_label_in" = some (some (.ref f4))) (l4 : K.lookup f4 = some ⟨oc4, od4, .func (PySem.W.fnOf "_label_in" "_label_in" (defArgs s_label_in) (defBody s_label_in) (defScope s_label_in) .none kV4 dc4 pm4 an4 cd4 ct4), sl4⟩) (c4 : PySem.W.codeIn K cd4 "_label_in" = true) (k4 : PySem.W.keepIn K (.ref f4) = true)
    (a5 : PySem.W.nsIn K mainGlobals "_is_ignored" = some (some (.ref f5))) (l5 : K.lookup f5 = some ⟨oc5, od5, .func (PySem.W.fnOf "_is_ignored" "_is_ignored" (defArgs s_is_ignored) (defBody s_is_ignored) (defScope s_is_ignored) .none kV5 dc5 pm5 an5 cd5 ct5), sl5⟩) (c5 : PySem.W.codeIn K cd5 "_is_ignored" = true) (k5 : PySem.W.keepIn K (.ref f5) = true)
    (a6 : PySem.W.nsIn K mainGlobals "_number_in" = some (some (.ref f6))) (l6 : K.lookup f6 = some ⟨oc6, od6, .func (PySem.W.fnOf "_number_in" "_number_in" (defArgs s_number_in) (defBody s_number_in) (defScope s_number_in) .none kV6 dc6 pm6 an6 cd6 ct6), sl6⟩) (c6 : PySem.W.codeIn K cd6 "_number_in" = true) (k6 : PySem.W.keepIn K (.ref f6) = true)
    (a7 : PySem.W.nsIn K mainGlobals "_part_in" = some (some (.ref f7))) (l7 : K.lookup f7 = some ⟨oc7, od7, .func (PySem.W.fnOf "_part_in" "_part_in" (defArgs s_part_in) (defBody s_part_in) (defScope s_part_in) .none kV7 dc7 pm7 an7 cd7 ct7), sl7⟩) (c7 : PySem.W.codeIn K cd7 "_part_in" = true) (k7 : PySem.W.keepIn K (.ref f7) = true)
    (a8 : PySem.W.nsIn K mainGlobals "_instruction_in" = some (some (.ref f8))) (l8 : K.lookup f8 = some ⟨oc8, od8, .func (PySem.W.fnOf "_instruction_in" "_instruction_in" (defArgs s_instruction_in) (defBody s_instruction_in) (defScope s_instruction_in) .none kV8 dc8 pm8 an8 cd8 ct8), sl8⟩) (c8 : PySem.W.codeIn K cd8 "_instruction_in" = true) (k8 : PySem.W.keepIn K (.ref f8) = true)
    (a9 : PySem.W.nsIn K mainGlobals "_labels_given" = some (some (.ref f9))) (l9 : K.lookup f9 = some ⟨oc9, od9, .func (PySem.W.fnOf "_labels_given" "_labels_given" (defArgs s_labels_given) (defBody s_labels_given) (defScope s_labels_given) .none kV9 dc9 pm9 an9 cd9 ct9), sl9⟩) (c9 : PySem.W.codeIn K cd9 "_labels_given" = true) (k9 : PySem.W.keepIn K (.ref f9) = true)
    (a10 : PySem.W.nsIn K mainGlobals "_last_instruction" = some (some (.ref f10))) (l10 : K.lookup f10 = some ⟨oc10, od10, .func (PySem.W.fnOf "_last_instruction" "_last_instruction" (defArgs s_last_instruction) (defBody s_last_instruction) (defScope s_last_instruction) .none kV10 dc10 pm10 an10 cd10 ct10), sl10⟩) (c10 : PySem.W.codeIn K cd10 "_last_instruction" = true) (k10 : PySem.W.keepIn K (.ref f10) = true)
    (a11 : PySem.W.nsIn K mainGlobals "assemble" = some (some (.ref f11))) (l11 : K.lookup f11 = some ⟨oc11, od11, .func (PySem.W.fnOf "assemble" "assemble" (defArgs s_assemble) (defBody s_assemble) (defScope s_assemble) .none kV11 dc11 pm11 an11 cd11 ct11), sl11⟩) (c11 : PySem.W.codeIn K cd11 "assemble" = true) (k11 : PySem.W.keepIn K (.ref f11) = true)
    (a12 : PySem.W.nsIn K mainGlobals "_law_pool" = some (some (.ref f12))) (l12 : K.lookup f12 = some ⟨oc12, od12, .func (PySem.W.fnOf "_law_pool" "_law_pool" (defArgs s_law_pool) (defBody s_law_pool) (defScope s_law_pool) .none kV12 dc12 pm12 an12 cd12 ct12), sl12⟩) (c12 : PySem.W.codeIn K cd12 "_law_pool" = true) (k12 : PySem.W.keepIn K (.ref f12) = true)
    (a13 : PySem.W.nsIn K mainGlobals "_law_draw" = some (some (.ref f13))) (l13 : K.lookup f13 = some ⟨oc13, od13, .func (PySem.W.fnOf "_law_draw" "_law_draw" (defArgs s_law_draw) (defBody s_law_draw) (defScope s_law_draw) .none kV13 dc13 pm13 an13 cd13 ct13), sl13⟩) (c13 : PySem.W.codeIn K cd13 "_law_draw" = true) (k13 : PySem.W.keepIn K (.ref f13) = true)
    (a14 : PySem.W.nsIn K mainGlobals "_law_is_integer" = some (some (.ref f14))) (l14 : K.lookup f14 = some ⟨oc14, od14, .func (PySem.W.fnOf "_law_is_integer" "_law_is_integer" (defArgs s_law_is_integer) (defBody s_law_is_integer) (defScope s_law_is_integer) .none kV14 dc14 pm14 an14 cd14 ct14), sl14⟩) (c14 : PySem.W.codeIn K cd14 "_law_is_integer" = true) (k14 : PySem.W.keepIn K (.ref f14) = true)
    (a15 : PySem.W.nsIn K mainGlobals "_law_deeds" = some (some (.ref f15))) (l15 : K.lookup f15 = some ⟨oc15, od15, .func (PySem.W.fnOf "_law_deeds" "_law_deeds" (defArgs s_law_deeds) (defBody s_law_deeds) (defScope s_law_deeds) .none kV15 dc15 pm15 an15 cd15 ct15), sl15⟩) (c15 : PySem.W.codeIn K cd15 "_law_deeds" = true) (k15 : PySem.W.keepIn K (.ref f15) = true)
    (a16 : PySem.W.nsIn K mainGlobals "_law_signs" = some (some (.ref f16))) (l16 : K.lookup f16 = some ⟨oc16, od16, .func (PySem.W.fnOf "_law_signs" "_law_signs" (defArgs s_law_signs) (defBody s_law_signs) (defScope s_law_signs) .none kV16 dc16 pm16 an16 cd16 ct16), sl16⟩) (c16 : PySem.W.codeIn K cd16 "_law_signs" = true) (k16 : PySem.W.keepIn K (.ref f16) = true)
    (a17 : PySem.W.nsIn K mainGlobals "_law_same_row" = some (some (.ref f17))) (l17 : K.lookup f17 = some ⟨oc17, od17, .func (PySem.W.fnOf "_law_same_row" "_law_same_row" (defArgs s_law_same_row) (defBody s_law_same_row) (defScope s_law_same_row) .none kV17 dc17 pm17 an17 cd17 ct17), sl17⟩) (c17 : PySem.W.codeIn K cd17 "_law_same_row" = true) (k17 : PySem.W.keepIn K (.ref f17) = true)
    (a18 : PySem.W.nsIn K mainGlobals "_law_same_program" = some (some (.ref f18))) (l18 : K.lookup f18 = some ⟨oc18, od18, .func (PySem.W.fnOf "_law_same_program" "_law_same_program" (defArgs s_law_same_program) (defBody s_law_same_program) (defScope s_law_same_program) .none kV18 dc18 pm18 an18 cd18 ct18), sl18⟩) (c18 : PySem.W.codeIn K cd18 "_law_same_program" = true) (k18 : PySem.W.keepIn K (.ref f18) = true)
    (a19 : PySem.W.nsIn K mainGlobals "_law_label" = some (some (.ref f19))) (l19 : K.lookup f19 = some ⟨oc19, od19, .func (PySem.W.fnOf "_law_label" "_law_label" (defArgs s_law_label) (defBody s_law_label) (defScope s_law_label) .none kV19 dc19 pm19 an19 cd19 ct19), sl19⟩) (c19 : PySem.W.codeIn K cd19 "_law_label" = true) (k19 : PySem.W.keepIn K (.ref f19) = true)
    (a20 : PySem.W.nsIn K mainGlobals "_law_instruction" = some (some (.ref f20))) (l20 : K.lookup f20 = some ⟨oc20, od20, .func (PySem.W.fnOf "_law_instruction" "_law_instruction" (defArgs s_law_instruction) (defBody s_law_instruction) (defScope s_law_instruction) .none kV20 dc20 pm20 an20 cd20 ct20), sl20⟩) (c20 : PySem.W.codeIn K cd20 "_law_instruction" = true) (k20 : PySem.W.keepIn K (.ref f20) = true)
    (a21 : PySem.W.nsIn K mainGlobals "_law_gap" = some (some (.ref f21))) (l21 : K.lookup f21 = some ⟨oc21, od21, .func (PySem.W.fnOf "_law_gap" "_law_gap" (defArgs s_law_gap) (defBody s_law_gap) (defScope s_law_gap) .none kV21 dc21 pm21 an21 cd21 ct21), sl21⟩) (c21 : PySem.W.codeIn K cd21 "_law_gap" = true) (k21 : PySem.W.keepIn K (.ref f21) = true)
    (a22 : PySem.W.nsIn K mainGlobals "_law_targets" = some (some (.ref f22))) (l22 : K.lookup f22 = some ⟨oc22, od22, .func (PySem.W.fnOf "_law_targets" "_law_targets" (defArgs s_law_targets) (defBody s_law_targets) (defScope s_law_targets) .none kV22 dc22 pm22 an22 cd22 ct22), sl22⟩) (c22 : PySem.W.codeIn K cd22 "_law_targets" = true) (k22 : PySem.W.keepIn K (.ref f22) = true)
    (a23 : PySem.W.nsIn K mainGlobals "_law_labels" = some (some (.ref f23))) (l23 : K.lookup f23 = some ⟨oc23, od23, .func (PySem.W.fnOf "_law_labels" "_law_labels" (defArgs s_law_labels) (defBody s_law_labels) (defScope s_law_labels) .none kV23 dc23 pm23 an23 cd23 ct23), sl23⟩) (c23 : PySem.W.codeIn K cd23 "_law_labels" = true) (k23 : PySem.W.keepIn K (.ref f23) = true)
    (a24 : PySem.W.nsIn K mainGlobals "_law_line" = some (some (.ref f24))) (l24 : K.lookup f24 = some ⟨oc24, od24, .func (PySem.W.fnOf "_law_line" "_law_line" (defArgs s_law_line) (defBody s_law_line) (defScope s_law_line) .none kV24 dc24 pm24 an24 cd24 ct24), sl24⟩) (c24 : PySem.W.codeIn K cd24 "_law_line" = true) (k24 : PySem.W.keepIn K (.ref f24) = true)
    (a25 : PySem.W.nsIn K mainGlobals "_law_lines" = some (some (.ref f25))) (l25 : K.lookup f25 = some ⟨oc25, od25, .func (PySem.W.fnOf "_law_lines" "_law_lines" (defArgs s_law_lines) (defBody s_law_lines) (defScope s_law_lines) .none kV25 dc25 pm25 an25 cd25 ct25), sl25⟩) (c25 : PySem.W.codeIn K cd25 "_law_lines" = true) (k25 : PySem.W.keepIn K (.ref f25) = true)
    (a26 : PySem.W.nsIn K mainGlobals "_law_due" = some (some (.ref f26))) (l26 : K.lookup f26 = some ⟨oc26, od26, .func (PySem.W.fnOf "_law_due" "_law_due" (defArgs s_law_due) (defBody s_law_due) (defScope s_law_due) .none kV26 dc26 pm26 an26 cd26 ct26), sl26⟩) (c26 : PySem.W.codeIn K cd26 "_law_due" = true) (k26 : PySem.W.keepIn K (.ref f26) = true)
    (a27 : PySem.W.nsIn K mainGlobals "law" = some (some (.ref f27))) (l27 : K.lookup f27 = some ⟨oc27, od27, .func (PySem.W.fnOf "law" "law" (defArgs s_law) (defBody s_law) (defScope s_law) .none kV27 dc27 pm27 an27 cd27 ct27), sl27⟩) (c27 : PySem.W.codeIn K cd27 "law" = true) (k27 : PySem.W.keepIn K (.ref f27) = true)
    (ka_DEEDS : PySem.W.nsIn K mainGlobals "DEEDS" = some (some (.ref aK_DEEDS))) (kl_DEEDS : K.lookup aK_DEEDS = some ⟨.type "tuple", dd_DEEDS, .seq its_DEEDS n_DEEDS, sl_DEEDS⟩) (kv_DEEDS : its_DEEDS.toList.map absV = ([.str "halt", .str "until", .str "clock", .str "look", .str "claim", .str "free", .str "copy", .str "drop", .str "revoke", .str "map", .str "unmap", .str "send", .str "take", .str "trysend", .str "trytake", .str "call", .str "reply", .str "ring", .str "await", .str "tryawait", .str "ack", .str "give", .str "pull"] : List V).map some)
    (ka_DIGITS : PySem.W.nsIn K mainGlobals "DIGITS" = some (some (.str "0123456789" tk_DIGITS)))
    (ka_LONGEST : PySem.W.nsIn K mainGlobals "LONGEST" = some (some (.int 4000 tk_LONGEST)))
    (ka_LONGEST_LABEL : PySem.W.nsIn K mainGlobals "LONGEST_LABEL" = some (some (.int 8 tk_LONGEST_LABEL)))
    (ka_LONGEST_NUMBER : PySem.W.nsIn K mainGlobals "LONGEST_NUMBER" = some (some (.int 7 tk_LONGEST_NUMBER)))
    (ka_REGISTERS : PySem.W.nsIn K mainGlobals "REGISTERS" = some (some (.int 8 tk_REGISTERS)))
    (ka_ROLES : PySem.W.nsIn K mainGlobals "ROLES" = some (some (.ref aK_ROLES))) (kl_ROLES : K.lookup aK_ROLES = some ⟨.type "dict", none, .dict es_ROLES n_ROLES, #[]⟩) (kk_ROLES : PySem.W.KeysLit w.params es_ROLES.toList) (kz_ROLES : (aK_ROLES == sysModules) = false)
    (di_ROLES_set : PySem.W.nsIn K aK_ROLES "set" = some (some (.ref r_ROLES_set))) (kl_ROLES_set : K.lookup r_ROLES_set = some ⟨.type "tuple", dd_ROLES_set, .seq its_ROLES_set n_ROLES_set, sl_ROLES_set⟩) (kv_ROLES_set : its_ROLES_set.toList.map absV = ([.str "register", .str "word"] : List V).map some)
    (di_ROLES_move : PySem.W.nsIn K aK_ROLES "move" = some (some (.ref r_ROLES_move))) (kl_ROLES_move : K.lookup r_ROLES_move = some ⟨.type "tuple", dd_ROLES_move, .seq its_ROLES_move n_ROLES_move, sl_ROLES_move⟩) (kv_ROLES_move : its_ROLES_move.toList.map absV = ([.str "register", .str "register"] : List V).map some)
    (di_ROLES_add : PySem.W.nsIn K aK_ROLES "add" = some (some (.ref r_ROLES_add))) (kl_ROLES_add : K.lookup r_ROLES_add = some ⟨.type "tuple", dd_ROLES_add, .seq its_ROLES_add n_ROLES_add, sl_ROLES_add⟩) (kv_ROLES_add : its_ROLES_add.toList.map absV = ([.str "register", .str "register"] : List V).map some)
    (di_ROLES_sub : PySem.W.nsIn K aK_ROLES "sub" = some (some (.ref r_ROLES_sub))) (kl_ROLES_sub : K.lookup r_ROLES_sub = some ⟨.type "tuple", dd_ROLES_sub, .seq its_ROLES_sub n_ROLES_sub, sl_ROLES_sub⟩) (kv_ROLES_sub : its_ROLES_sub.toList.map absV = ([.str "register", .str "register"] : List V).map some)
    (di_ROLES_load : PySem.W.nsIn K aK_ROLES "load" = some (some (.ref r_ROLES_load))) (kl_ROLES_load : K.lookup r_ROLES_load = some ⟨.type "tuple", dd_ROLES_load, .seq its_ROLES_load n_ROLES_load, sl_ROLES_load⟩) (kv_ROLES_load : its_ROLES_load.toList.map absV = ([.str "register", .str "register"] : List V).map some)
    (di_ROLES_store : PySem.W.nsIn K aK_ROLES "store" = some (some (.ref r_ROLES_store))) (kl_ROLES_store : K.lookup r_ROLES_store = some ⟨.type "tuple", dd_ROLES_store, .seq its_ROLES_store n_ROLES_store, sl_ROLES_store⟩) (kv_ROLES_store : its_ROLES_store.toList.map absV = ([.str "register", .str "register"] : List V).map some)
    (di_ROLES_jump : PySem.W.nsIn K aK_ROLES "jump" = some (some (.ref r_ROLES_jump))) (kl_ROLES_jump : K.lookup r_ROLES_jump = some ⟨.type "tuple", dd_ROLES_jump, .seq its_ROLES_jump n_ROLES_jump, sl_ROLES_jump⟩) (kv_ROLES_jump : its_ROLES_jump.toList.map absV = ([.str "target"] : List V).map some)
    (di_ROLES_zero : PySem.W.nsIn K aK_ROLES "zero" = some (some (.ref r_ROLES_zero))) (kl_ROLES_zero : K.lookup r_ROLES_zero = some ⟨.type "tuple", dd_ROLES_zero, .seq its_ROLES_zero n_ROLES_zero, sl_ROLES_zero⟩) (kv_ROLES_zero : its_ROLES_zero.toList.map absV = ([.str "register", .str "target"] : List V).map some)
    (di_ROLES_deed : PySem.W.nsIn K aK_ROLES "deed" = some (some (.ref r_ROLES_deed))) (kl_ROLES_deed : K.lookup r_ROLES_deed = some ⟨.type "tuple", dd_ROLES_deed, .seq its_ROLES_deed n_ROLES_deed, sl_ROLES_deed⟩) (kv_ROLES_deed : its_ROLES_deed.toList.map absV = ([.str "deed"] : List V).map some)
    (ka_SMALL : PySem.W.nsIn K mainGlobals "SMALL" = some (some (.str "abcdefghijklmnopqrstuvwxyz" tk_SMALL)))
    (ka_WORD : PySem.W.nsIn K mainGlobals "WORD" = some (some (.int 1048576 tk_WORD)))
    (z_abs : PySem.W.nsIn K mainGlobals "abs" = some none)
    (z_all : PySem.W.nsIn K mainGlobals "all" = some none)
    (z_bool : PySem.W.nsIn K mainGlobals "bool" = some none)
    (z_enumerate : PySem.W.nsIn K mainGlobals "enumerate" = some none)
    (z_int : PySem.W.nsIn K mainGlobals "int" = some none)
    (z_isinstance : PySem.W.nsIn K mainGlobals "isinstance" = some none)
    (z_len : PySem.W.nsIn K mainGlobals "len" = some none)
    (z_list : PySem.W.nsIn K mainGlobals "list" = some none)
    (z_range : PySem.W.nsIn K mainGlobals "range" = some none)
    (z_str : PySem.W.nsIn K mainGlobals "str" = some none)
    (z_tuple : PySem.W.nsIn K mainGlobals "tuple" = some none) :
    ∃ fd : FuncData, (∀ (s : Shared) (v : Value), BindsTo s fd ⟨[v], []⟩ [("script", v)]) ∧ ∀ base : Heap, K.In base → base.Ns mainGlobals mg → FnOk l.prog w K mg base CX0 6 fa fd ["script"] (spLaw K) := by
  have e := hfa.symm.trans (PySem.W.mg_of X G a27)
  cases e
  have F0 := fun_mk (st := s_is_integer) l0 c0 k0
  have F1 := fun_mk (st := s_bound) l1 c1 k1
  have F2 := fun_mk (st := s_fits) l2 c2 k2
  have F3 := fun_mk (st := s_is_label) l3 c3 k3
  have F4 := fun_mk (st := s_label_in) l4 c4 k4
  have F5 := fun_mk (st := s_is_ignored) l5 c5 k5
  have F6 := fun_mk (st := s_number_in) l6 c6 k6
  have F7 := fun_mk (st := s_part_in) l7 c7 k7
  have F8 := fun_mk (st := s_instruction_in) l8 c8 k8
  have F9 := fun_mk (st := s_labels_given) l9 c9 k9
  have F10 := fun_mk (st := s_last_instruction) l10 c10 k10
  have F11 := fun_mk (st := s_assemble) l11 c11 k11
  have F12 := fun_mk (st := s_law_pool) l12 c12 k12
  have F13 := fun_mk (st := s_law_draw) l13 c13 k13
  have F14 := fun_mk (st := s_law_is_integer) l14 c14 k14
  have F15 := fun_mk (st := s_law_deeds) l15 c15 k15
  have F16 := fun_mk (st := s_law_signs) l16 c16 k16
  have F17 := fun_mk (st := s_law_same_row) l17 c17 k17
  have F18 := fun_mk (st := s_law_same_program) l18 c18 k18
  have F19 := fun_mk (st := s_law_label) l19 c19 k19
  have F20 := fun_mk (st := s_law_instruction) l20 c20 k20
  have F21 := fun_mk (st := s_law_gap) l21 c21 k21
  have F22 := fun_mk (st := s_law_targets) l22 c22 k22
  have F23 := fun_mk (st := s_law_labels) l23 c23 k23
  have F24 := fun_mk (st := s_law_line) l24 c24 k24
  have F25 := fun_mk (st := s_law_lines) l25 c25 k25
  have F26 := fun_mk (st := s_law_due) l26 c26 k26
  have F27 := fun_mk (st := s_law) l27 c27 k27
  have T : Tx w K mg := {
    f_is_integer := f0, fd_is_integer := _, F_is_integer := F0, b_is_integer := F0.binds (ps := ["value"]) fun _ _ _ _ _ _ us hl => match us, hl with | [_], _ => rfl, g_is_integer := PySem.W.mg_of X G a0,
    f_bound := f1, fd_bound := _, F_bound := F1, b_bound := F1.binds (ps := ["role", "length"]) fun _ _ _ _ _ _ us hl => match us, hl with | [_, _], _ => rfl, g_bound := PySem.W.mg_of X G a1,
    f_fits := f2, fd_fits := _, F_fits := F2, b_fits := F2.binds (ps := ["part", "role", "length"]) fun _ _ _ _ _ _ us hl => match us, hl with | [_, _, _], _ => rfl, g_fits := PySem.W.mg_of X G a2,
    f_is_label := f3, fd_is_label := _, F_is_label := F3, b_is_label := F3.binds (ps := ["word"]) fun _ _ _ _ _ _ us hl => match us, hl with | [_], _ => rfl, g_is_label := PySem.W.mg_of X G a3,
    f_label_in := f4, fd_label_in := _, F_label_in := F4, b_label_in := F4.binds (ps := ["line"]) fun _ _ _ _ _ _ us hl => match us, hl with | [_], _ => rfl, g_label_in := PySem.W.mg_of X G a4,
    f_is_ignored := f5, fd_is_ignored := _, F_is_ignored := F5, b_is_ignored := F5.binds (ps := ["line"]) fun _ _ _ _ _ _ us hl => match us, hl with | [_], _ => rfl, g_is_ignored := PySem.W.mg_of X G a5,
    f_number_in := f6, fd_number_in := _, F_number_in := F6, b_number_in := F6.binds (ps := ["word"]) fun _ _ _ _ _ _ us hl => match us, hl with | [_], _ => rfl, g_number_in := PySem.W.mg_of X G a6,
    f_part_in := f7, fd_part_in := _, F_part_in := F7, b_part_in := F7.binds (ps := ["word", "role", "labels"]) fun _ _ _ _ _ _ us hl => match us, hl with | [_, _, _], _ => rfl, g_part_in := PySem.W.mg_of X G a7,
    f_instruction_in := f8, fd_instruction_in := _, F_instruction_in := F8, b_instruction_in := F8.binds (ps := ["line", "labels"]) fun _ _ _ _ _ _ us hl => match us, hl with | [_, _], _ => rfl, g_instruction_in := PySem.W.mg_of X G a8,
    f_labels_given := f9, fd_labels_given := _, F_labels_given := F9, b_labels_given := F9.binds (ps := ["lines"]) fun _ _ _ _ _ _ us hl => match us, hl with | [_], _ => rfl, g_labels_given := PySem.W.mg_of X G a9,
    f_last_instruction := f10, fd_last_instruction := _, F_last_instruction := F10, b_last_instruction := F10.binds (ps := ["lines"]) fun _ _ _ _ _ _ us hl => match us, hl with | [_], _ => rfl, g_last_instruction := PySem.W.mg_of X G a10,
    f_assemble := f11, fd_assemble := _, F_assemble := F11, b_assemble := F11.binds (ps := ["text"]) fun _ _ _ _ _ _ us hl => match us, hl with | [_], _ => rfl, g_assemble := PySem.W.mg_of X G a11,
    f_law_pool := f12, fd_law_pool := _, F_law_pool := F12, b_law_pool := F12.binds (ps := ["script"]) fun _ _ _ _ _ _ us hl => match us, hl with | [_], _ => rfl, g_law_pool := PySem.W.mg_of X G a12,
    f_law_draw := f13, fd_law_draw := _, F_law_draw := F13, b_law_draw := F13.binds (ps := ["pool", "many"]) fun _ _ _ _ _ _ us hl => match us, hl with | [_, _], _ => rfl, g_law_draw := PySem.W.mg_of X G a13,
    f_law_is_integer := f14, fd_law_is_integer := _, F_law_is_integer := F14, b_law_is_integer := F14.binds (ps := ["thing"]) fun _ _ _ _ _ _ us hl => match us, hl with | [_], _ => rfl, g_law_is_integer := PySem.W.mg_of X G a14,
    f_law_deeds := f15, fd_law_deeds := _, F_law_deeds := F15, b_law_deeds := F15.binds (ps := []) fun _ _ _ _ _ _ us hl => match us, hl with | [], _ => rfl, g_law_deeds := PySem.W.mg_of X G a15,
    f_law_signs := f16, fd_law_signs := _, F_law_signs := F16, b_law_signs := F16.binds (ps := []) fun _ _ _ _ _ _ us hl => match us, hl with | [], _ => rfl, g_law_signs := PySem.W.mg_of X G a16,
    f_law_same_row := f17, fd_law_same_row := _, F_law_same_row := F17, b_law_same_row := F17.binds (ps := ["told", "due"]) fun _ _ _ _ _ _ us hl => match us, hl with | [_, _], _ => rfl, g_law_same_row := PySem.W.mg_of X G a17,
    f_law_same_program := f18, fd_law_same_program := _, F_law_same_program := F18, b_law_same_program := F18.binds (ps := ["told", "due"]) fun _ _ _ _ _ _ us hl => match us, hl with | [_, _], _ => rfl, g_law_same_program := PySem.W.mg_of X G a18,
    f_law_label := f19, fd_law_label := _, F_law_label := F19, b_law_label := F19.binds (ps := ["pool", "used"]) fun _ _ _ _ _ _ us hl => match us, hl with | [_, _], _ => rfl, g_law_label := PySem.W.mg_of X G a19,
    f_law_instruction := f20, fd_law_instruction := _, F_law_instruction := F20, b_law_instruction := F20.binds (ps := ["pool", "length"]) fun _ _ _ _ _ _ us hl => match us, hl with | [_, _], _ => rfl, g_law_instruction := PySem.W.mg_of X G a20,
    f_law_gap := f21, fd_law_gap := _, F_law_gap := F21, b_law_gap := F21.binds (ps := ["pool"]) fun _ _ _ _ _ _ us hl => match us, hl with | [_], _ => rfl, g_law_gap := PySem.W.mg_of X G a21,
    f_law_targets := f22, fd_law_targets := _, F_law_targets := F22, b_law_targets := F22.binds (ps := ["item"]) fun _ _ _ _ _ _ us hl => match us, hl with | [_], _ => rfl, g_law_targets := PySem.W.mg_of X G a22,
    f_law_labels := f23, fd_law_labels := _, F_law_labels := F23, b_law_labels := F23.binds (ps := ["pool", "items"]) fun _ _ _ _ _ _ us hl => match us, hl with | [_, _], _ => rfl, g_law_labels := PySem.W.mg_of X G a23,
    f_law_line := f24, fd_law_line := _, F_law_line := F24, b_law_line := F24.binds (ps := ["pool", "item", "labels"]) fun _ _ _ _ _ _ us hl => match us, hl with | [_, _, _], _ => rfl, g_law_line := PySem.W.mg_of X G a24,
    f_law_lines := f25, fd_law_lines := _, F_law_lines := F25, b_law_lines := F25.binds (ps := ["pool", "items", "labels", "place", "more"]) fun _ _ _ _ _ _ us hl => match us, hl with | [_, _, _, _, _], _ => rfl, g_law_lines := PySem.W.mg_of X G a25,
    f_law_due := f26, fd_law_due := _, F_law_due := F26, b_law_due := F26.binds (ps := ["items", "place", "more"]) fun _ _ _ _ _ _ us hl => match us, hl with | [_, _, _], _ => rfl, g_law_due := PySem.W.mg_of X G a26,
    a_DEEDS := aK_DEEDS, g_DEEDS := PySem.W.mg_of X G ka_DEEDS, q_DEEDS := fun H => sqt_k kl_DEEDS kv_DEEDS (by decide) H,
    t_DIGITS := tk_DIGITS, g_DIGITS := PySem.W.mg_of X G ka_DIGITS,
    t_LONGEST := tk_LONGEST, g_LONGEST := PySem.W.mg_of X G ka_LONGEST,
    t_LONGEST_LABEL := tk_LONGEST_LABEL, g_LONGEST_LABEL := PySem.W.mg_of X G ka_LONGEST_LABEL,
    t_LONGEST_NUMBER := tk_LONGEST_NUMBER, g_LONGEST_NUMBER := PySem.W.mg_of X G ka_LONGEST_NUMBER,
    t_REGISTERS := tk_REGISTERS, g_REGISTERS := PySem.W.mg_of X G ka_REGISTERS,
    a_ROLES := aK_ROLES, es_ROLES := es_ROLES, n_ROLES := n_ROLES, g_ROLES := PySem.W.mg_of X G ka_ROLES, D_ROLES := ⟨kl_ROLES, kk_ROLES, kz_ROLES⟩, r_ROLES_set := r_ROLES_set, i_ROLES_set := di_ROLES_set, q_ROLES_set := fun H => sqt_k kl_ROLES_set kv_ROLES_set (by decide) H, r_ROLES_move := r_ROLES_move, i_ROLES_move := di_ROLES_move, q_ROLES_move := fun H => sqt_k kl_ROLES_move kv_ROLES_move (by decide) H, r_ROLES_add := r_ROLES_add, i_ROLES_add := di_ROLES_add, q_ROLES_add := fun H => sqt_k kl_ROLES_add kv_ROLES_add (by decide) H, r_ROLES_sub := r_ROLES_sub, i_ROLES_sub := di_ROLES_sub, q_ROLES_sub := fun H => sqt_k kl_ROLES_sub kv_ROLES_sub (by decide) H, r_ROLES_load := r_ROLES_load, i_ROLES_load := di_ROLES_load, q_ROLES_load := fun H => sqt_k kl_ROLES_load kv_ROLES_load (by decide) H, r_ROLES_store := r_ROLES_store, i_ROLES_store := di_ROLES_store, q_ROLES_store := fun H => sqt_k kl_ROLES_store kv_ROLES_store (by decide) H, r_ROLES_jump := r_ROLES_jump, i_ROLES_jump := di_ROLES_jump, q_ROLES_jump := fun H => sqt_k kl_ROLES_jump kv_ROLES_jump (by decide) H, r_ROLES_zero := r_ROLES_zero, i_ROLES_zero := di_ROLES_zero, q_ROLES_zero := fun H => sqt_k kl_ROLES_zero kv_ROLES_zero (by decide) H, r_ROLES_deed := r_ROLES_deed, i_ROLES_deed := di_ROLES_deed, q_ROLES_deed := fun H => sqt_k kl_ROLES_deed kv_ROLES_deed (by decide) H,
    t_SMALL := tk_SMALL, g_SMALL := PySem.W.mg_of X G ka_SMALL,
    t_WORD := tk_WORD, g_WORD := PySem.W.mg_of X G ka_WORD,
    n_abs := PySem.W.mg_none_of X G z_abs,
    n_all := PySem.W.mg_none_of X G z_all,
    n_bool := PySem.W.mg_none_of X G z_bool,
    n_enumerate := PySem.W.mg_none_of X G z_enumerate,
    n_int := PySem.W.mg_none_of X G z_int,
    n_isinstance := PySem.W.mg_none_of X G z_isinstance,
    n_len := PySem.W.mg_none_of X G z_len,
    n_list := PySem.W.mg_none_of X G z_list,
    n_range := PySem.W.mg_none_of X G z_range,
    n_str := PySem.W.mg_none_of X G z_str,
    n_tuple := PySem.W.mg_none_of X G z_tuple }
  exact ⟨PySem.W.fnOf "law" "law" (defArgs s_law) (defBody s_law) (defScope s_law) .none kV27 dc27 pm27 an27 cd27 ct27, fun s v => .of_eq rfl, fun base _ _ => ok_law_at T F27⟩
end K02

open PySem PySem.W PyProof.Rows in
set_option maxRecDepth 100000 in
set_option maxHeartbeats 0 in
theorem PySem.Challenge.cw_capstead_k02_assemble_drawn_texts_holds : PySem.Challenge.rw_capstead_k02_assemble_drawn_texts.Holds := by
  w_on; o_law; k_head; (case hw => w_witness2)
  k_fill
  refine L2.walk_ofK (l := PySem.Challenge.rw_capstead_k02_assemble_drawn_texts) (n := 63) (k := 6) (x := "script") (CX := L2.CX0) (sp := K02.spLaw) rfl (by decide) rfl ⟨rfl, by decide, by decide⟩ (fun w h Y => PySem.W.kIn_of Y) ?F (fun _ _ a ns hl _ hS => ⟨a, ns, rfl, hS, hl, fun _ => rfl⟩) fun _ _ _ _ z => z
  case F =>
    intro w mg fa h KX G hmg
    refine' K02.all_mk KX G hmg ?a0 ?l0 ?c0 ?k0 ?a1 ?l1 ?c1 ?k1 ?a2 ?l2 ?c2 ?k2 ?a3 ?l3 ?c3 ?k3 ?a4 ?l4 ?c4 ?k4 ?a5 ?l5 ?c5 ?k5 ?a6 ?l6 ?c6 ?k6 ?a7 ?l7 ?c7 ?k7 ?a8 ?l8 ?c8 ?k8 ?a9 ?l9 ?c9 ?k9 ?a10 ?l10 ?c10 ?k10 ?a11 ?l11 ?c11 ?k11 ?a12 ?l12 ?c12 ?k12 ?a13 ?l13 ?c13 ?k13 ?a14 ?l14 ?c14 ?k14 ?a15 ?l15 ?c15 ?k15 ?a16 ?l16 ?c16 ?k16 ?a17 ?l17 ?c17 ?k17 ?a18 ?l18 ?c18 ?k18 ?a19 ?l19 ?c19 ?k19 ?a20 ?l20 ?c20 ?k20 ?a21 ?l21 ?c21 ?k21 ?a22 ?l22 ?c22 ?k22 ?a23 ?l23 ?c23 ?k23 ?a24 ?l24 ?c24 ?k24 ?a25 ?l25 ?c25 ?k25 ?a26 ?l26 ?c26 ?k26 ?a27 ?l27 ?c27 ?k27 ?ka_DEEDS ?kl_DEEDS ?kv_DEEDS ?ka_DIGITS ?ka_LONGEST ?ka_LONGEST_LABEL ?ka_LONGEST_NUMBER ?ka_REGISTERS ?ka_ROLES ?kl_ROLES ?kk_ROLES ?kz_ROLES ?di_ROLES_set ?kl_ROLES_set ?kv_ROLES_set ?di_ROLES_move ?kl_ROLES_move ?kv_ROLES_move ?di_ROLES_add ?kl_ROLES_add ?kv_ROLES_add ?di_ROLES_sub ?kl_ROLES_sub ?kv_ROLES_sub ?di_ROLES_load ?kl_ROLES_load ?kv_ROLES_load ?di_ROLES_store ?kl_ROLES_store ?kv_ROLES_store ?di_ROLES_jump ?kl_ROLES_jump ?kv_ROLES_jump ?di_ROLES_zero ?kl_ROLES_zero ?kv_ROLES_zero ?di_ROLES_deed ?kl_ROLES_deed ?kv_ROLES_deed ?ka_SMALL ?ka_WORD ?z_abs ?z_all ?z_bool ?z_enumerate ?z_int ?z_isinstance ?z_len ?z_list ?z_range ?z_str ?z_tuple
    (case a0 => k_is)
    (case l0 => k_is)
    (case c0 => k_is)
    (case k0 => k_is)
    (case a1 => k_is)
    (case l1 => k_is)
    (case c1 => k_is)
    (case k1 => k_is)
    (case a2 => k_is)
    (case l2 => k_is)
    (case c2 => k_is)
    (case k2 => k_is)
    (case a3 => k_is)
    (case l3 => k_is)
    (case c3 => k_is)
    (case k3 => k_is)
    (case a4 => k_is)
    (case l4 => k_is)
    (case c4 => k_is)
    (case k4 => k_is)
    (case a5 => k_is)
    (case l5 => k_is)
    (case c5 => k_is)
    (case k5 => k_is)
    (case a6 => k_is)
    (case l6 => k_is)
    (case c6 => k_is)
    (case k6 => k_is)
    (case a7 => k_is)
    (case l7 => k_is)
    (case c7 => k_is)
    (case k7 => k_is)
    (case a8 => k_is)
    (case l8 => k_is)
    (case c8 => k_is)
    (case k8 => k_is)
    (case a9 => k_is)
    (case l9 => k_is)
    (case c9 => k_is)
    (case k9 => k_is)
    (case a10 => k_is)
    (case l10 => k_is)
    (case c10 => k_is)
    (case k10 => k_is)
    (case a11 => k_is)
    (case l11 => k_is)
    (case c11 => k_is)
    (case k11 => k_is)
    (case a12 => k_is)
    (case l12 => k_is)
    (case c12 => k_is)
    (case k12 => k_is)
    (case a13 => k_is)
    (case l13 => k_is)
    (case c13 => k_is)
    (case k13 => k_is)
    (case a14 => k_is)
    (case l14 => k_is)
    (case c14 => k_is)
    (case k14 => k_is)
    (case a15 => k_is)
    (case l15 => k_is)
    (case c15 => k_is)
    (case k15 => k_is)
    (case a16 => k_is)
    (case l16 => k_is)
    (case c16 => k_is)
    (case k16 => k_is)
    (case a17 => k_is)
    (case l17 => k_is)
    (case c17 => k_is)
    (case k17 => k_is)
    (case a18 => k_is)
    (case l18 => k_is)
    (case c18 => k_is)
    (case k18 => k_is)
    (case a19 => k_is)
    (case l19 => k_is)
    (case c19 => k_is)
    (case k19 => k_is)
    (case a20 => k_is)
    (case l20 => k_is)
    (case c20 => k_is)
    (case k20 => k_is)
    (case a21 => k_is)
    (case l21 => k_is)
    (case c21 => k_is)
    (case k21 => k_is)
    (case a22 => k_is)
    (case l22 => k_is)
    (case c22 => k_is)
    (case k22 => k_is)
    (case a23 => k_is)
    (case l23 => k_is)
    (case c23 => k_is)
    (case k23 => k_is)
    (case a24 => k_is)
    (case l24 => k_is)
    (case c24 => k_is)
    (case k24 => k_is)
    (case a25 => k_is)
    (case l25 => k_is)
    (case c25 => k_is)
    (case k25 => k_is)
    (case a26 => k_is)
    (case l26 => k_is)
    (case c26 => k_is)
    (case k26 => k_is)
    (case a27 => k_is)
    (case l27 => k_is)
    (case c27 => k_is)
    (case k27 => k_is)
    (case ka_DEEDS => k_is)
    (case kl_DEEDS => k_is)
    (case kv_DEEDS => decide +kernel)
    (case ka_DIGITS => k_is)
    (case ka_LONGEST => k_is)
    (case ka_LONGEST_LABEL => k_is)
    (case ka_LONGEST_NUMBER => k_is)
    (case ka_REGISTERS => k_is)
    (case ka_ROLES => k_is)
    (case kl_ROLES => k_is)
    (case kk_ROLES => exact ⟨⟨_, _, rfl, rfl⟩, ⟨⟨_, _, rfl, rfl⟩, ⟨⟨_, _, rfl, rfl⟩, ⟨⟨_, _, rfl, rfl⟩, ⟨⟨_, _, rfl, rfl⟩, ⟨⟨_, _, rfl, rfl⟩, ⟨⟨_, _, rfl, rfl⟩, ⟨⟨_, _, rfl, rfl⟩, ⟨⟨_, _, rfl, rfl⟩, trivial⟩⟩⟩⟩⟩⟩⟩⟩⟩)
    (case kz_ROLES => decide +kernel)
    (case di_ROLES_set => k_is)
    (case kl_ROLES_set => k_is)
    (case kv_ROLES_set => decide +kernel)
    (case di_ROLES_move => k_is)
    (case kl_ROLES_move => k_is)
    (case kv_ROLES_move => decide +kernel)
    (case di_ROLES_add => k_is)
    (case kl_ROLES_add => k_is)
    (case kv_ROLES_add => decide +kernel)
    (case di_ROLES_sub => k_is)
    (case kl_ROLES_sub => k_is)
    (case kv_ROLES_sub => decide +kernel)
    (case di_ROLES_load => k_is)
    (case kl_ROLES_load => k_is)
    (case kv_ROLES_load => decide +kernel)
    (case di_ROLES_store => k_is)
    (case kl_ROLES_store => k_is)
    (case kv_ROLES_store => decide +kernel)
    (case di_ROLES_jump => k_is)
    (case kl_ROLES_jump => k_is)
    (case kv_ROLES_jump => decide +kernel)
    (case di_ROLES_zero => k_is)
    (case kl_ROLES_zero => k_is)
    (case kv_ROLES_zero => decide +kernel)
    (case di_ROLES_deed => k_is)
    (case kl_ROLES_deed => k_is)
    (case kv_ROLES_deed => decide +kernel)
    (case ka_SMALL => k_is)
    (case ka_WORD => k_is)
    (case z_abs => k_is)
    (case z_all => k_is)
    (case z_bool => k_is)
    (case z_enumerate => k_is)
    (case z_int => k_is)
    (case z_isinstance => k_is)
    (case z_len => k_is)
    (case z_list => k_is)
    (case z_range => k_is)
    (case z_str => k_is)
    (case z_tuple => k_is)

