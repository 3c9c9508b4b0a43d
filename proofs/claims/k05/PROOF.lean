import PyProof.Rows.All
import Wide.All
import OpenK.AllK
import Wide.FinOn
import HandS.ForMost
import HandS.IsInst
import HandS.Walk
import HandS.More
import HandS.SetKeys
import HandS.RaiseMore
import HandS.SortKw
import HandS.Exc
import KE.GoesEnumKw
import HandS.ExcOwn
import HandS.TryOnly
import HandS.WordsExc
import HandS.ExcInit
import HandS.ExcIs
import HandS.ExcSuper
import KE.KExcSuper
import KE.KSuper
import KE.KExcIs
import HandS.ExcField
import HandS.FStr
import HandS.HotCalls
import HandS.Iter
import PySem.Challenge.RW_capstead_k05_way_to_end_least
set_option Elab.async false
set_option linter.all false
set_option maxRecDepth 100000
set_option maxHeartbeats 4000000
/-! Lw: forward reading over the hand layer. A world W: the objects that a law's drawing pool owns, and what holds of them; everything else stands (Ex). -/
namespace Lw
open PySem L2

/-- what is owned (its content may change in calls), what holds of it -/
structure Wd where
  own : Hp → Addr → Prop
  iv : Hp → Prop
  trk : ∀ {H : Hp} {a : Addr}, iv H → own H a → ∃ o, H a = some o
  loc : ∀ {H H' : Hp}, iv H → (∀ a, own H a → H' a = H a) → iv H' ∧ ∀ a, own H' a → own H a

/-- nothing is owned -/
def W0 : Wd := ⟨fun _ _ => False, fun _ => True, fun _ h => h.elim, fun _ _ => ⟨trivial, fun _ h => h⟩⟩

def At (W : Wd) (H : Hp) (a : Addr) (o : HO) : Prop := H a = some o ∧ ¬ W.own H a
structure Ex (W : Wd) (H H' : Hp) : Prop where
  i0 : W.iv H
  iv : W.iv H'
  at_ : ∀ {a : Addr} {o : HO}, At W H a o → At W H' a o
  tr : ∀ {a : Addr} {o : HO}, H a = some o → ∃ o', H' a = some o'

section
variable {W : Wd} {H H1 H2 H' : Hp} {a p l : Addr} {o u : HO} {xs : List V} {K : PySem.W.Frag}
theorem Ex.refl (i : W.iv H) : Ex W H H := ⟨i, i, fun h => h, fun h => ⟨_, h⟩⟩
theorem Ex.trans (a : Ex W H H1) (b : Ex W H1 H2) : Ex W H H2 := ⟨a.i0, b.iv, fun h => b.at_ (a.at_ h), fun h => let ⟨_, q⟩ := a.tr h; b.tr q⟩
theorem Ex.fresh (e : Ex W H H') (i : H' p = none) : H p = none := by
  cases q : H p with
  | none => rfl
  | some u =>
    obtain ⟨_, z⟩ := e.tr q
    rw [i] at z; cases z
theorem own_ne (i : W.iv H) (h : H p = none) : ¬ W.own H p := fun q => by
  obtain ⟨o, e⟩ := W.trk i q
  rw [h] at e; cases e
/-- what is not owned changes -/
theorem loc_upd (i : W.iv H) (h : ¬ W.own H p) : W.iv (upd H p o) ∧ ∀ a, W.own (upd H p o) a → W.own H a :=
  W.loc i fun a ha => upd_ne fun e => h (e ▸ ha)
theorem Ex.new (i : W.iv H) (h : H p = none) : Ex W H (upd H p o) := by
  have l := loc_upd (o := o) i (own_ne i h)
  refine ⟨i, l.1, fun {b u} hb => ⟨?_, fun q => hb.2 (l.2 _ q)⟩, fun {b u} hb => ⟨u, ?_⟩⟩
  · rw [upd_ne (ne_of_none hb.1 h)]; exact hb.1
  · rw [upd_ne (ne_of_none hb h)]; exact hb
theorem At.new (i : W.iv H) (h : H p = none) : At W (upd H p o) p o := ⟨upd_same, fun q => own_ne i h ((loc_upd i (own_ne i h)).2 _ q)⟩
/-- a local object (unknown at H) changes -/
theorem Ex.mut (e : Ex W H H1) (h : H p = none) (ha : At W H1 p u) : Ex W H (upd H1 p o) := by
  have l := loc_upd (o := o) e.iv ha.2
  refine ⟨e.i0, l.1, fun {b v} hb => ⟨?_, fun q => (e.at_ hb).2 (l.2 _ q)⟩, fun {b v} hb => ?_⟩
  · rw [upd_ne (ne_of_none hb.1 h)]; exact (e.at_ hb).1
  · rw [upd_ne (ne_of_none hb h)]; exact e.tr hb
theorem At.mut (e : W.iv H1) (ha : At W H1 p u) : At W (upd H1 p o) p o := ⟨upd_same, fun q => ha.2 ((loc_upd e ha.2).2 _ q)⟩
theorem At.other {v : HO} (e : W.iv H1) (ha : At W H1 p u) (hb : At W H1 a o) (ne : a ≠ p) : At W (upd H1 p v) a o := ⟨by rw [upd_ne ne]; exact hb.1, fun q => hb.2 ((loc_upd e ha.2).2 _ q)⟩
theorem At.sl (h : At W H a (.lst xs)) : SqL K H a xs := SqL.of h.1
theorem At.raw (h : At W H a o) : H a = some o := h.1
theorem At.st (h : At W H a (.tup xs)) : SqT K H a xs := SqT.of h.1
theorem At.ne_fresh (h : At W H a o) (f : H p = none) : a ≠ p := ne_of_none h.1 f
theorem At.ne (h : At W H a o) (h' : At W H p u) (d : o ≠ u) : a ≠ p := ne_of h.1 h'.1 d
theorem At.uniq (h : At W H a o) (h' : At W H a u) : o = u := Option.some.inj (h.1.symm.trans h'.1)

/-! ### new objects, behind a reading -/
theorem new_of {Q : VK} (i : W.iv H) (k : ∀ p H2, H p = none → Ex W H H2 → At W H2 p o → Q (.ref p) H2) : ∀ p, H p = none → Q (.ref p) (upd H p o) :=
  fun p hp => k p _ hp (Ex.new i hp) (At.new i hp)
theorem lst_of {Q : VK} {n : Nat} (i : W.iv H) (hn : n ≤ 1000000) (k : ∀ p H2, H p = none → Ex W H H2 → At W H2 p o → Q (.ref p) H2) : n ≤ sizeLine ∧ ∀ p, H p = none → Q (.ref p) (upd H p o) :=
  ⟨Nat.le_trans hn (by decide), new_of i k⟩
theorem sz_le {n : Nat} (h : n ≤ 1000000) : n ≤ sizeLine := Nat.le_trans h (by decide)
theorem sz_lt {n : Nat} (h : n < 1000000) : n < sizeLine := Nat.lt_of_lt_of_le h (by decide)

/-! ### tests -/
theorem ifD {c A B : Prop} [Decidable c] (h1 : c → A) (h2 : ¬ c → B) : if decide c = true then A else B := by
  by_cases h : c
  · rw [decide_eq_true h, if_pos rfl]; exact h1 h
  · rw [decide_eq_false h, if_neg Bool.false_ne_true]; exact h2 h
theorem ifN {c A B : Prop} [Decidable c] (h1 : ¬ c → A) (h2 : c → B) : if (!decide c) = true then A else B := by
  by_cases h : c
  · rw [decide_eq_true h]; exact iteF (h2 h)
  · rw [decide_eq_false h]; exact iteT (h1 h)
theorem ifB {b : Bool} {A B : Prop} (h1 : b = true → A) (h2 : b = false → B) : if b = true then A else B := by
  cases b with
  | true => exact iteT (h1 rfl)
  | false => exact iteF (h2 rfl)
theorem ifNB {b : Bool} {A B : Prop} (h1 : b = false → A) (h2 : b = true → B) : if (!b) = true then A else B := by
  cases b with
  | true => exact iteF (h2 rfl)
  | false => exact iteT (h1 rfl)
theorem dVI {i j : Int} : decide (V.int i = V.int j) = decide (i = j) := by rw [dec_int, Bool.beq_eq_decide_eq]
theorem dVS {i j : Str} : decide (V.str i = V.str j) = decide (i = j) := by rw [dec_str, Bool.beq_eq_decide_eq]
theorem dVB {i j : Bool} : decide (V.bl i = V.bl j) = decide (i = j) := by rw [dec_bl, Bool.beq_eq_decide_eq]
theorem ifI {i j : Int} {A B : Prop} (h1 : i = j → A) (h2 : i ≠ j → B) : if decide (V.int i = V.int j) = true then A else B := by rw [dVI]; exact ifD h1 h2
theorem ifIn {i j : Int} {A B : Prop} (h1 : i ≠ j → A) (h2 : i = j → B) : if (!decide (V.int i = V.int j)) = true then A else B := by rw [dVI]; exact ifN h1 h2
theorem ifS {i j : Str} {A B : Prop} (h1 : i = j → A) (h2 : i ≠ j → B) : if decide (V.str i = V.str j) = true then A else B := by rw [dVS]; exact ifD h1 h2
theorem ifSn {i j : Str} {A B : Prop} (h1 : i ≠ j → A) (h2 : i = j → B) : if (!decide (V.str i = V.str j)) = true then A else B := by rw [dVS]; exact ifN h1 h2

/-! ### a list comprehension over a list: each item's value, by a word that only grows -/
/-- of each item of xs there is one of ys -/
inductive All2 (R : V → V → Prop) : List V → List V → Prop
  | nil : All2 R [] []
  | cons {x y : V} {xs ys : List V} : R x y → All2 R xs ys → All2 R (x :: xs) (y :: ys)
theorem All2.length {R : V → V → Prop} : ∀ {xs ys : List V}, All2 R xs ys → ys.length = xs.length
  | _, _, .nil => rfl
  | _, _, .cons _ t => by rw [List.length_cons, List.length_cons, t.length]
theorem All2.mono {R S : V → V → Prop} (f : ∀ x y, R x y → S x y) : ∀ {xs ys : List V}, All2 R xs ys → All2 S xs ys
  | _, _, .nil => .nil
  | _, _, .cons r t => .cons (f _ _ r) (t.mono f)
theorem All2.snoc {R : V → V → Prop} {x y : V} : ∀ {xs ys : List V}, All2 R xs ys → R x y → All2 R (xs ++ [x]) (ys ++ [y])
  | _, _, .nil, r => .cons r .nil
  | _, _, .cons q t, r => .cons q (t.snoc r)
end

/-! ### written tuples -/
theorem rel_abs : ∀ {u : Value} {x : V}, absV u = some x → RelV x u
  | .none, x, h => by cases h; rfl
  | .bool b, x, h => by cases h; rfl
  | .int i t, x, h => by cases h; exact ⟨t, rfl⟩
  | .str y t, x, h => by cases h; exact ⟨t, rfl⟩
  | .bytes b t, x, h => by cases h; exact ⟨t, rfl⟩
  | .float b t, x, h => by cases h; exact ⟨t, rfl⟩
  | .ref a, x, h => by cases h; rfl
  | .type n, x, h => by cases h; rfl
theorem vals_abs : ∀ {its : List Value} {xs : List V}, its.map absV = xs.map some → Vals xs its
  | [], [], _ => .nil
  | u :: us, x :: xs, h => by
    rw [List.map_cons, List.map_cons] at h
    injection h with h1 h2
    exact .cons (rel_abs h1) (vals_abs h2)
theorem sqt_k {K : PySem.W.Frag} {a : Addr} {its : Array Value} {n : Nat} {dd : Option Addr} {sl : Array (Option Value)} {xs : List V} (l : K.lookup a = some ⟨.type "tuple", dd, .seq its n, sl⟩) (h : its.toList.map absV = xs.map some) (hz : xs.length ≤ 1000) (H : Hp) : SqT K H a xs := by
  refine .inr ⟨_, its, n, l, rfl, rfl, ?_, vals_abs h⟩
  have e := (vals_abs h).length
  have el : its.toList.length = its.size := by simp
  exact Nat.le_trans (by omega) (by decide : 1000 ≤ sizeLine)

/-! ### the rules of built-ins under names -/
section
variable {X : Cx}
def rLen (K : PySem.W.Frag) : List V → Hp → VK → Prop := fun xs H Q => ∃ p ys, xs = [.ref p] ∧ (SqL K H p ys ∨ SqT K H p ys) ∧ Q (.int ys.length) H
theorem c_len : CallR X (.builtin "len") (rLen X.K) := call_len_seq
def rLenStr : List V → Hp → VK → Prop := fun xs H Q => ∃ z, xs = [.str z] ∧ z.length ≤ sizeLine ∧ Q (.int z.length) H
theorem c_lens : CallR X (.builtin "len") rLenStr := call_len_str
def rInt : List V → Hp → VK → Prop := fun xs H Q => (∃ i, xs = [.int i] ∧ Q (.int i) H) ∨ ∃ k, xs = [.bl k] ∧ Q (.int (if k then 1 else 0)) H
theorem c_int : CallR X (.type "int") rInt := call_int1
def rAbs : List V → Hp → VK → Prop := fun xs H Q => ∃ i, xs = [.int i] ∧ Q (.int (if i < 0 then -i else i)) H
theorem c_abs : CallR X (.builtin "abs") rAbs := call_abs
def rMax2 : List V → Hp → VK → Prop := fun xs H Q => ∃ i j, xs = [.int i, .int j] ∧ Q (.int (if j > i then j else i)) H
theorem c_max2 (hc : X.calm = true) : CallR X (.builtin "max") rMax2 := call_max2 hc
def rMin2 : List V → Hp → VK → Prop := fun xs H Q => ∃ i j, xs = [.int i, .int j] ∧ Q (.int (if j < i then j else i)) H
theorem c_min2 (hc : X.calm = true) : CallR X (.builtin "min") rMin2 := call_min2 hc
def rStrI : List V → Hp → VK → Prop := fun xs H Q => ∃ i, xs = [.int i] ∧ i.natAbs.log2 < 1920 ∧ Q (.str (toString i)) H
theorem c_strI : CallR X (.type "str") rStrI := call_str_int
def rListO (K : PySem.W.Frag) : List V → Hp → VK → Prop := fun xs H Q => ∃ p ys, xs = [.ref p] ∧ (SqL K H p ys ∨ SqT K H p ys) ∧ ∀ l, H l = none → Q (.ref l) (upd H l (.lst ys))
theorem c_list : CallR X (.type "list") (rListO X.K) := call_list_of
def rTupO (K : PySem.W.Frag) : List V → Hp → VK → Prop := fun xs H Q => ∃ p ys, xs = [.ref p] ∧ ((SqL K H p ys ∧ ∀ l, H l = none → Q (.ref l) (upd H l (.tup ys))) ∨ (SqT K H p ys ∧ Q (.ref p) H))
theorem c_tuple : CallR X (.type "tuple") (rTupO X.K) := call_tuple_of
def rAddS2 : R2 := fun x y H Q => ∃ i j, x = .str i ∧ y = .str j ∧ i.length + j.length ≤ sizeLine ∧ Q (.str (i ++ j)) H
theorem o_adds : OpR X (binaryOp .Add) rAddS2 := op_add_str
def rIsN2 : R2 := fun x y H Q => y = .non ∧ Q (.bl (decide (x = .non))) H
theorem o_isN : OpR X (compareOp .Is) rIsN2 := op_isN
def rNotN2 : R2 := fun x y H Q => y = .non ∧ Q (.bl (!decide (x = .non))) H
theorem o_notN : OpR X (compareOp .IsNot) rNotN2 := op_notN
/-- ** of any size -/
def CPowW (i j : Int) : Prop := 0 ≤ j ∧ (Builtin.Int.intBits i : Int) * j ≤ 2 ^ 27
theorem op_powW : OpR X (binaryOp .Pow) (rI CPowW fun i j => .int (i ^ j.toNat)) := opI fun _ _ _ _ _ _ _ hc q => PyProof.Rows.pow_int hc.1 hc.2 q
end

theorem at_0 {α : Type} {x : α} {r : List α} : atI (x :: r) 0 = some x := by
  unfold atI ixN
  rw [if_pos (by decide), if_pos (by simp)]
  rfl
theorem at_in {xs : List V} {i : Int} {v : V} (h : 0 ≤ i) (e : xs[i.toNat]? = some v) : atI xs i = some v := by
  have q := atI_nat (j := i.toNat) e
  rw [show ((i.toNat : Nat) : Int) = i by omega] at q
  exact q
theorem ix_0 {n : Nat} (h : 0 < n) : ixN n 0 = some 0 := by
  unfold ixN
  rw [if_pos (by omega), if_pos (by omega)]
  rfl
theorem ix_in {n : Nat} {i : Int} (h : 0 ≤ i) (h2 : i < n) : ixN n i = some i.toNat := by
  unfold ixN
  rw [if_pos h, if_pos h2]

/-! ### tests whose answer is known -/
theorem ifS_no {i j : Str} {A B : Prop} (ne : i ≠ j) (h : B) : if decide (V.str i = V.str j) = true then A else B := ifS (fun e => absurd e ne) fun _ => h
theorem ifS_yes {i j : Str} {A B : Prop} (e : i = j) (h : A) : if decide (V.str i = V.str j) = true then A else B := ifS (fun _ => h) fun ne => absurd e ne
theorem ifSn_no {i j : Str} {A B : Prop} (e : i = j) (h : B) : if (!decide (V.str i = V.str j)) = true then A else B := ifSn (fun ne => absurd e ne) fun _ => h
theorem ifSn_yes {i j : Str} {A B : Prop} (ne : i ≠ j) (h : A) : if (!decide (V.str i = V.str j)) = true then A else B := ifSn (fun _ => h) fun e => absurd e ne
theorem ifI_no {i j : Int} {A B : Prop} (ne : i ≠ j) (h : B) : if decide (V.int i = V.int j) = true then A else B := ifI (fun e => absurd e ne) fun _ => h
theorem ifI_yes {i j : Int} {A B : Prop} (e : i = j) (h : A) : if decide (V.int i = V.int j) = true then A else B := ifI (fun _ => h) fun ne => absurd e ne
theorem ifIn_no {i j : Int} {A B : Prop} (e : i = j) (h : B) : if (!decide (V.int i = V.int j)) = true then A else B := ifIn (fun ne => absurd e ne) fun _ => h
theorem ifIn_yes {i j : Int} {A B : Prop} (ne : i ≠ j) (h : A) : if (!decide (V.int i = V.int j)) = true then A else B := ifIn (fun _ => h) fun e => absurd e ne
theorem iteNT {A B : Prop} (h : B) : if (!true) = true then A else B := iteF h
theorem iteNF {A B : Prop} (h : A) : if (!false) = true then A else B := iteT h
theorem ifD_no {c A B : Prop} [Decidable c] (n : ¬ c) (h : B) : if decide c = true then A else B := ifD (fun e => absurd e n) fun _ => h
theorem ifD_yes {c A B : Prop} [Decidable c] (y : c) (h : A) : if decide c = true then A else B := ifD (fun _ => h) fun n => absurd y n

/-! ### slices -/
theorem cut_to (xs : List V) (n : Int) (h : 0 ≤ n) : cutV xs none (some n) = xs.take n.toNat := by
  unfold cutV
  have e : HT.sIx xs.length xs.length (some n) = min n.toNat xs.length := by
    have q := HT.sIx_nat xs.length xs.length n.toNat
    rwa [show ((n.toNat : Nat) : Int) = n by omega] at q
  rw [HT.sIx_none, List.drop_zero, e, Nat.sub_zero, ← List.take_eq_take_min]
theorem cut_from (xs : List V) (n : Int) (h : 0 ≤ n) : cutV xs (some n) none = xs.drop n.toNat := by
  unfold cutV
  have e0 : HT.sIx xs.length 0 (some n) = min n.toNat xs.length := by
    have q := HT.sIx_nat xs.length 0 n.toNat
    rwa [show ((n.toNat : Nat) : Int) = n by omega] at q
  rw [e0, HT.sIx_none]
  have e : xs.drop (min n.toNat xs.length) = xs.drop n.toNat := by
    by_cases q : n.toNat ≤ xs.length
    · rw [Nat.min_eq_left q]
    · rw [Nat.min_eq_right (by omega), List.drop_of_length_le (Nat.le_refl _), List.drop_of_length_le (by omega)]
  rw [e, List.take_of_length_le]
  rw [List.length_drop]
  omega

/-- all are ints -/
def AI (xs : List V) : Prop := ∀ x ∈ xs, ∃ z : Int, x = .int z
theorem AI.get {xs : List V} {n : Nat} {x : V} (h : AI xs) (e : xs[n]? = some x) : ∃ z : Int, x = .int z := h x (List.mem_of_getElem? e)
theorem AI.cut {xs : List V} {lo hi : Option Int} (h : AI xs) : AI (cutV xs lo hi) := fun x hx => h x (List.mem_of_mem_drop (List.mem_of_mem_take hx))
theorem AI.app {xs ys : List V} (h : AI xs) (h' : AI ys) : AI (xs ++ ys) := fun x hx => (List.mem_append.mp hx).elim (h x) (h' x)
theorem AI.nil : AI [] := fun _ h => nomatch h
theorem AI.one (z : Int) : AI [.int z] := fun x h => ⟨z, by simpa using h⟩
theorem AI.ints : ∀ {xs : List V}, AI xs → ∃ ns : List Int, xs = ns.map V.int
  | [], _ => ⟨[], rfl⟩
  | x :: xs, h => by
    obtain ⟨z, rfl⟩ := h x List.mem_cons_self
    obtain ⟨ns, rfl⟩ := AI.ints (xs := xs) fun y hy => h y (List.mem_cons_of_mem _ hy)
    exact ⟨z :: ns, rfl⟩
theorem AI.of (ns : List Int) : AI (ns.map V.int) := fun x hx => by
  obtain ⟨z, _, e⟩ := List.mem_map.mp hx
  exact ⟨z, e.symm⟩
theorem AI.of_all : ∀ {xs ys : List V}, All2 (fun _ y => ∃ z : Int, y = .int z) xs ys → AI ys
  | _, _, .nil => AI.nil
  | _, _, .cons r t => fun y hy => (List.mem_cons.mp hy).elim (fun e => e ▸ r) (AI.of_all t y)
/-- all are texts -/
def AS (xs : List V) : Prop := ∀ x ∈ xs, ∃ z : Str, x = .str z
theorem AS.get {xs : List V} {n : Nat} {x : V} (h : AS xs) (e : xs[n]? = some x) : ∃ z : Str, x = .str z := h x (List.mem_of_getElem? e)
theorem AS.cut {xs : List V} {lo hi : Option Int} (h : AS xs) : AS (cutV xs lo hi) := fun x hx => h x (List.mem_of_mem_drop (List.mem_of_mem_take hx))
theorem AS.app {xs ys : List V} (h : AS xs) (h' : AS ys) : AS (xs ++ ys) := fun x hx => (List.mem_append.mp hx).elim (h x) (h' x)
theorem AS.of (ns : List Str) : AS (ns.map V.str) := fun x hx => by
  obtain ⟨z, _, e⟩ := List.mem_map.mp hx
  exact ⟨z, e.symm⟩
theorem AS.nil : AS [] := fun _ h => nomatch h
theorem AS.cons {z : Str} {xs : List V} (h : AS xs) : AS (.str z :: xs) := fun x hx => (List.mem_cons.mp hx).elim (fun e => ⟨z, e⟩) (h x)
theorem cut_len (xs : List V) (lo hi : Option Int) : (cutV xs lo hi).length ≤ xs.length := cutV_length xs lo hi
theorem cast_int {Q : VK} {H : Hp} {a b : Int} (h : Q (.int a) H) (e : a = b) : Q (.int b) H := e ▸ h

/-! ### forward steps -/
section
variable {W : Wd} {K : PySem.W.Frag} {H H1 : Hp} {σ : L2.St} {D : Ends} {Q : VK} {v x y : V} {i j : Int} {n : Nat} {s z : Str} {b c : Bool} {p a : Addr} {xs ys vs : List V}
variable {ta tb te : TE} {t u : TS} {c1 c2 : TT} {tr : TA} {r : R2} {QB : Bool → Hp → Prop} {QA : List V → Hp → Prop} {QO : Option Int → Hp → Prop}
theorem rd_seq (h : t { D with nx := u D } σ H) : tSeq t u D σ H := h
theorem rd_next (h : D.nx σ H) : tNext D σ H := h
theorem rd_asg {m : Nat} (h : te σ H fun x H1 => D.nx (σ.set m (some x)) H1) : tAsg te (gName m) D σ H := h
theorem rd_asgG {g : TG} (h : te σ H fun x H1 => g x σ H1 D.nx) : tAsg te g D σ H := h
theorem rd_drop (h : te σ H fun _ H1 => D.nx σ H1) : tDrop te D σ H := h
theorem rd_ret (h : te σ H D.rt) : tRet te D σ H := h
theorem rd_retN (h : D.rt .non H) : tRetN D σ H := h
theorem rd_brk (h : D.bk σ H) : tBreak D σ H := h
theorem rd_cont (h : D.ct σ H) : tCont D σ H := h
theorem rd_ifS (h : c1 σ H fun b H1 => if b = true then t D σ H1 else u D σ H1) : tIfS c1 t u D σ H := h
theorem rd_var {m : Nat} (e : σ[m]? = some (some v)) (h : Q v H) : tVar m σ H Q := ⟨v, e, h⟩
theorem rd_c (h : Q v H) : tC v σ H Q := h
theorem rd_op (h : ta σ H fun x H1 => tb σ H1 fun y H2 => r x y H2 Q) : tOp r ta tb σ H Q := h
theorem rd_un {r : V → Hp → VK → Prop} (h : ta σ H fun x H1 => r x H1 Q) : tUn r ta σ H Q := h
theorem rd_I0 {g : Int → Int → V} (h : Q (g i j) H) : rI0 g (.int i) (.int j) H Q := ⟨_, _, rfl, rfl, h⟩
theorem rd_I {C : Int → Int → Prop} {g : Int → Int → V} (k : C i j) (h : Q (g i j) H) : rI C g (.int i) (.int j) H Q := ⟨_, _, rfl, rfl, k, h⟩
theorem rd_U {g : Int → V} (h : Q (g i) H) : rU g (.int i) H Q := ⟨_, rfl, h⟩
theorem rd_eq (k : scal x y = true) (h : Q (.bl (decide (x = y))) H) : rEq x y H Q := ⟨k, h⟩
theorem rd_ne (k : scal x y = true) (h : Q (.bl (!decide (x = y))) H) : rNe x y H Q := ⟨k, h⟩
theorem rd_isN (h : Q (.bl (decide (x = .non))) H) : rIsN2 x .non H Q := ⟨rfl, h⟩
theorem rd_notN (h : Q (.bl (!decide (x = .non))) H) : rNotN2 x .non H Q := ⟨rfl, h⟩
theorem rd_test (h : te σ H fun x H1 => ∃ k, x = .bl k ∧ QB k H1) : tTest te σ H QB := h
theorem rd_B (h : te σ H fun x H1 => ∃ k, x = .bl k ∧ QB k H1) : tB te σ H QB := h
theorem rd_bl {P : Bool → Prop} (h : P b) : ∃ k, V.bl b = V.bl k ∧ P k := ⟨b, rfl, h⟩
theorem rd_and (h : c1 σ H fun c H1 => if c = true then c2 σ H1 QB else QB false H1) : tAnd c1 c2 σ H QB := h
theorem rd_or (h : c1 σ H fun c H1 => if c = true then QB true H1 else c2 σ H1 QB) : tOr c1 c2 σ H QB := h
theorem rd_not (h : c1 σ H fun c H1 => QB (!c) H1) : tNot c1 σ H QB := h
theorem rd_andV (h : ta σ H fun x H1 => ∃ k, x = .bl k ∧ if k = true then tb σ H1 Q else Q (.bl false) H1) : tAndV ta tb σ H Q := h
theorem rd_orV (h : ta σ H fun x H1 => ∃ k, x = .bl k ∧ if k = true then Q (.bl true) H1 else tb σ H1 Q) : tOrV ta tb σ H Q := h
theorem rd_notV (h : ta σ H fun x H1 => ∃ k, x = .bl k ∧ Q (.bl (!k)) H1) : tNotV ta σ H Q := h
theorem rd_blV {P : Bool → Prop} (h : P b) : ∃ k, V.bl b = .bl k ∧ P k := ⟨b, rfl, h⟩
theorem rd_ifE (h : c1 σ H fun c H1 => if c = true then ta σ H1 Q else tb σ H1 Q) : tIf c1 ta tb σ H Q := h
theorem rd_nil (h : QA [] H) : tNil σ H QA := h
theorem rd_cons (h : te σ H fun x H1 => tr σ H1 fun xs H2 => QA (x :: xs) H2) : tCons te tr σ H QA := h
theorem rd_call {sp : Sp} {E : XK} (h : tr σ H fun vs H1 => sp (vs ++ []) H1 Q E) : tCall sp [] E tr σ H Q := h
theorem rd_app0 {P : List V → Prop} (h : P vs) : P (vs ++ []) := by rw [List.append_nil]; exact h
theorem rd_cb {r : List V → Hp → VK → Prop} (h : tr σ H fun vs H1 => r vs H1 Q) : tCB r tr σ H Q := h
/-- a new tuple, a new list -/
def NewO (Q : VK) (o : HO) (n : Nat) (H1 : Hp) : Prop := n ≤ sizeLine ∧ ∀ p, H1 p = none → Q (.ref p) (upd H1 p o)
theorem rd_tupU (h : tr σ H fun xs H1 => NewO Q (.tup xs) xs.length H1) : tTup tr σ H Q := h
theorem rd_lstU (h : tr σ H fun xs H1 => NewO Q (.lst xs) xs.length H1) : tLst tr σ H Q := h
theorem rd_new {o : HO} (i : W.iv H) (hn : n ≤ 1000000) (k : ∀ p H2, H p = none → Ex W H H2 → At W H2 p o → Q (.ref p) H2) : NewO Q o n H := lst_of i hn k
theorem rd_new1 {o : HO} (i : W.iv H) (k : ∀ p H2, H p = none → Ex W H H2 → At W H2 p o → Q (.ref p) H2) : ∀ p, H p = none → Q (.ref p) (upd H p o) := new_of i k
theorem rd_ixL (h : At W H p (.lst xs)) (e : atI xs i = some v) (k : Q v H) : rIxL K (.ref p) (.int i) H Q := ⟨p, xs, i, v, rfl, rfl, h.sl, e, k⟩
theorem rd_ixT (h : At W H p (.tup xs)) (e : atI xs i = some v) (k : Q v H) : rIxT K (.ref p) (.int i) H Q := ⟨p, xs, i, v, rfl, rfl, h.st, e, k⟩
theorem rd_slLr {lo hi : Option Int} (h : H a = some (.lst xs)) (k : ∀ p H2, H p = none → H2 p = some (.lst (cutV xs lo hi)) → (∀ q, q ≠ p → H2 q = H q) → Q (.ref p) H2) : rSlL K (.ref a) lo hi H Q := ⟨a, xs, rfl, SqL.of h, fun p hp => k p _ hp upd_same fun _ ne => upd_ne ne⟩
theorem rd_ixM (h : At W H p (.lst xs)) (h0 : 0 ≤ i) (h1 : i < (xs.length : Int)) (k : ∀ v, v ∈ xs → Q v H) : rIxL K (.ref p) (.int i) H Q := by
  have e : xs[i.toNat]? = some (xs[i.toNat]'(by omega)) := List.getElem?_eq_getElem (by omega)
  exact ⟨p, xs, i, _, rfl, rfl, h.sl, at_in h0 e, k _ (List.getElem_mem _)⟩
theorem rd_ixLr (h : H p = some (.lst xs)) (e : atI xs i = some v) (k : Q v H) : rIxL K (.ref p) (.int i) H Q := ⟨p, xs, i, v, rfl, rfl, SqL.of h, e, k⟩
theorem rd_gsub {to ti : TE} {ts : TSet} {QS : L2.St → Hp → Prop} (h : to σ H fun o H1 => ti σ H1 fun i H2 => ts o i v H2 fun H3 => QS σ H3) : gSub to ti ts v σ H QS := h
theorem rd_setr {m : Nat} {QH : Hp → Prop} (h : H p = some (.lst xs)) (e : ixN xs.length i = some m) (k : ∀ H2, H2 p = some (.lst (xs.set m v)) → (∀ q, q ≠ p → H2 q = H q) → QH H2) : rSetL (.ref p) (.int i) v H QH :=
  ⟨p, xs, i, m, rfl, rfl, h, e, k _ upd_same fun _ ne => upd_ne ne⟩
/-- a store to a list of our own (unknown at H0) -/
theorem rd_set {m : Nat} {QH : Hp → Prop} {H0 : Hp} (e0 : Ex W H0 H) (h0 : H0 p = none) (h : At W H p (.lst xs)) (e : ixN xs.length i = some m) (k : ∀ H2, Ex W H0 H2 → At W H2 p (.lst (xs.set m v)) → (∀ q o, q ≠ p → At W H q o → At W H2 q o) → QH H2) : rSetL (.ref p) (.int i) v H QH :=
  ⟨p, xs, i, m, rfl, rfl, h.1, e, k _ (e0.mut h0 h) (.mut e0.iv h) fun _ _ ne q => .other e0.iv h q ne⟩
theorem rd_len (h : At W H p (.lst xs)) (k : Q (.int xs.length) H) : rLen K [.ref p] H Q := ⟨p, xs, rfl, .inl h.sl, k⟩
theorem rd_lenT (h : At W H p (.tup xs)) (k : Q (.int xs.length) H) : rLen K [.ref p] H Q := ⟨p, xs, rfl, .inr h.st, k⟩
theorem rd_lenr (h : H p = some (.lst xs)) (k : Q (.int xs.length) H) : rLen K [.ref p] H Q := ⟨p, xs, rfl, .inl (SqL.of h), k⟩
theorem rd_int (k : Q (.int i) H) : rInt [.int i] H Q := .inl ⟨_, rfl, k⟩
theorem rd_intB (k : Q (.int (if b then 1 else 0)) H) : rInt [.bl b] H Q := .inr ⟨_, rfl, k⟩
theorem rd_abs (k : Q (.int (if i < 0 then -i else i)) H) : rAbs [.int i] H Q := ⟨_, rfl, k⟩
theorem rd_max2 (k : Q (.int (if j > i then j else i)) H) : rMax2 [.int i, .int j] H Q := ⟨_, _, rfl, k⟩
theorem rd_min2 (k : Q (.int (if j < i then j else i)) H) : rMin2 [.int i, .int j] H Q := ⟨_, _, rfl, k⟩
theorem rd_lens (h : s.length ≤ 1000000) (k : Q (.int s.length) H) : rLenStr [.str s] H Q := ⟨_, rfl, sz_le h, k⟩
theorem rd_adds (h : s.length + z.length ≤ 1000000) (k : Q (.str (s ++ z)) H) : rAddS2 (.str s) (.str z) H Q := ⟨_, _, rfl, rfl, sz_le h, k⟩
theorem rd_nopart (k : QO none H) : tNoPart σ H QO := k
theorem rd_part (h : te σ H fun x H1 => ∃ i, x = .int i ∧ QO (some i) H1) : tPart te σ H QO := h
theorem rd_partI {P : Int → Prop} (k : P i) : ∃ i', V.int i = V.int i' ∧ P i' := ⟨_, rfl, k⟩
theorem rd_sl {r : V → Option Int → Option Int → Hp → VK → Prop} {tl th : TO} (h : te σ H fun x H1 => tl σ H1 fun l H2 => th σ H2 fun u H3 => r x l u H3 Q) : tSl r te tl th σ H Q := h
theorem rd_slL {lo hi : Option Int} (i : W.iv H) (h : At W H a (.lst xs)) (k : ∀ p H2, H p = none → Ex W H H2 → At W H2 p (.lst (cutV xs lo hi)) → Q (.ref p) H2) : rSlL K (.ref a) lo hi H Q := ⟨a, xs, rfl, h.sl, rd_new1 i k⟩
theorem rd_slT {lo hi : Option Int} (i : W.iv H) (h : At W H a (.tup xs)) (k0 : cutV xs lo hi = xs → Q (.ref a) H) (k : ∀ p H2, H p = none → Ex W H H2 → At W H2 p (.tup (cutV xs lo hi)) → Q (.ref p) H2) : rSlT K (.ref a) lo hi H Q → rSlT K (.ref a) lo hi H Q := id
theorem rd_list (i : W.iv H) (h : At W H p (.lst xs)) (k : ∀ l H2, H l = none → Ex W H H2 → At W H2 l (.lst xs) → Q (.ref l) H2) : rListO K [.ref p] H Q := ⟨p, xs, rfl, .inl h.sl, rd_new1 i k⟩
theorem rd_listT (i : W.iv H) (h : At W H p (.tup xs)) (k : ∀ l H2, H l = none → Ex W H H2 → At W H2 l (.lst xs) → Q (.ref l) H2) : rListO K [.ref p] H Q := ⟨p, xs, rfl, .inr h.st, rd_new1 i k⟩
theorem rd_tuple (i : W.iv H) (h : At W H p (.lst xs)) (k : ∀ l H2, H l = none → Ex W H H2 → At W H2 l (.tup xs) → Q (.ref l) H2) : rTupO K [.ref p] H Q := ⟨p, xs, rfl, .inl ⟨h.sl, rd_new1 i k⟩⟩
theorem rd_cat (i : W.iv H) (h1 : At W H p (.lst xs)) (h2 : At W H a (.lst ys)) (hz : xs.length + ys.length ≤ 1000000) (k : ∀ l H2, H l = none → Ex W H H2 → At W H2 l (.lst (xs ++ ys)) → Q (.ref l) H2) : rCat (.ref p) (.ref a) H Q :=
  ⟨p, a, xs, ys, rfl, rfl, h1.1, h2.1, sz_le hz, rd_new1 i k⟩
theorem rd_bm {T : String} {r : V → List V → Hp → VK → Prop} (h : ta σ H fun x H1 => tyV K T x H1 ∧ tr σ H1 fun xs H2 => r x xs H2 Q) : tBM K T r ta tr σ H Q := h
theorem rd_tyL {P : Prop} (h : At W H p (.lst xs)) (k : P) : tyV K "list" (.ref p) H ∧ P := ⟨.inl ⟨rfl, xs, h.sl⟩, k⟩
/-- a statement, then the rest, with a word between them -/
def tCut (t u : TS) : TS := fun D σ H => ∃ Mid : L2.St → Hp → Prop, t { D with nx := Mid } σ H ∧ ∀ σ' H', Mid σ' H' → u D σ' H'
theorem pss_cut {X : Cx} {st : Stmt} {rest : List Stmt} {t u : TS} (h1 : PS X st t) (h2 : PSs X rest u) : PSs X (st :: rest) (tCut t u) := by
  refine ⟨fun pins s σ H D I h => ?_⟩
  obtain ⟨Mid, hm, hu⟩ := h
  refine PySem.wpAny_execs_cons (thn (h1.run pins s σ H { D with nx := Mid } I hm) fun f s1 q => ?_)
  cases f with
  | next =>
    obtain ⟨σ', H', I', q⟩ := q
    exact h2.run pins s1 σ' H' D I' (hu σ' H' q)
  | ret v => exact q
  | brk => exact q
  | cont => exact q
theorem rd_cut (M : L2.St → Hp → Prop) (h : t { D with nx := M } σ H) (k : ∀ σ' H', M σ' H' → u D σ' H') : tCut t u D σ H := ⟨M, h, k⟩
/-- a list comprehension over a list: what its source gives, then its items -/
def LcG (K : PySem.W.Frag) (a : Addr) (g : TG) (tt : TT) (te : TE) (ws : List Nat) (σ : L2.St) (H1 : Hp) (Q : VK) : Prop := ∀ D, H1 D = none → ∃ W : Nat → Nat → Hp → Prop, (∃ m, W 0 m (upd H1 D (.lst []))) ∧ ∀ i m H, W i m H →
  ((Itl K a).stop i H ∧ Q (.ref D) H) ∨ ((Itl K a).go i H ∧ ∃ Nx : Hp → Prop, (∀ H', Nx H' → ∃ m', m' < m ∧ W (i + 1) m' H') ∧ ∀ x H', (Itl K a).yld i H x H' → g x (wipe σ ws) H' fun σ2 H2 => wipe σ2 ws = wipe σ ws ∧ tt σ2 H2 fun b H3 =>
    if b = true then te σ2 H3 fun y H4 => ∃ acc, H4 D = some (.lst acc) ∧ acc.length < sizeLine ∧ Nx (upd H4 D (.lst (acc ++ [y]))) else Nx H3)
theorem rd_lc {tl : TE} {g : TG} {tt : TT} {ws : List Nat} (h : tl σ H fun x H1 => ∃ a, x = .ref a ∧ (∃ xs, SqL K H1 a xs) ∧ LcG K a g tt te ws σ H1 Q) : tLc (iList K tl) g tt te ws σ H Q := h
/-- the heap without the list at D -/
def hide (D : Addr) (H : Hp) : Hp := fun a => if a = D then none else H a
theorem hide_ne {D q : Addr} {H : Hp} (h : q ≠ D) : hide D H q = H q := if_neg h
theorem hide_upd {D : Addr} {H : Hp} {o : HO} : hide D (upd H D o) = hide D H := by
  funext q
  unfold hide upd
  split <;> rfl
theorem hide_loc {D : Addr} {H : Hp} (i : W.iv H) (n : ¬ W.own H D) : W.iv (hide D H) ∧ ∀ a, W.own (hide D H) a → W.own H a := W.loc i fun _ ha => hide_ne fun e => n (e ▸ ha)
theorem At.hide {D q : Addr} {H : Hp} {o u : HO} (h : At W H q o) (ne : q ≠ D) (i : W.iv H) (hD : At W H D u) : At W (hide D H) q o := ⟨(hide_ne ne).trans h.1, fun z => h.2 ((hide_loc i hD.2).2 _ z)⟩
theorem Ex.unhide {D : Addr} {H : Hp} {u : HO} (i : W.iv H) (hD : At W H D u) : Ex W (Lw.hide D H) H := by
  have l := hide_loc i hD.2
  refine ⟨l.1, i, fun {a o} h => ?_, fun {a o} h => ?_⟩
  · have ne : a ≠ D := fun e => by
      have q := h.1
      rw [e] at q
      unfold Lw.hide at q
      rw [if_pos rfl] at q; cases q
    refine ⟨(hide_ne ne).symm.trans h.1, fun z => h.2 ?_⟩
    -- owned in H: owned without D
    have l2 := W.loc (H := Lw.hide D H) (H' := H) l.1 fun b hb => (hide_ne (fun e : b = D => hD.2 (e ▸ l.2 b hb))).symm
    exact l2.2 a z
  · have ne : a ≠ D := fun e => by
      rw [e] at h
      unfold Lw.hide at h
      rw [if_pos rfl] at h; cases h
    exact ⟨o, (hide_ne ne).symm.trans h⟩
theorem hide_ex {D : Addr} {H H' : Hp} {u : HO} (e : Ex W H H') (hD : At W H D u) : Ex W (Lw.hide D H) (Lw.hide D H') := by
  have l := hide_loc e.i0 hD.2
  have l' := hide_loc e.iv (e.at_ hD).2
  refine ⟨l.1, l'.1, fun {a o} h => ?_, fun {a o} h => ?_⟩
  · have h1 := (Ex.unhide e.i0 hD).at_ h
    have ne : a ≠ D := fun q => by
      have z := h.1
      rw [q] at z
      unfold Lw.hide at z
      rw [if_pos rfl] at z; cases z
    exact (e.at_ h1).hide ne e.iv (e.at_ hD)
  · have ne : a ≠ D := fun q => by
      rw [q] at h
      unfold Lw.hide at h
      rw [if_pos rfl] at h; cases h
    obtain ⟨o', q⟩ := e.tr ((hide_ne ne).symm.trans h)
    exact ⟨o', (hide_ne ne).trans q⟩
/-- a tuple, a list made since -/
theorem At.hideT {D q : Addr} {H0 H : Hp} {vs acc : List V} (h : At W H q (.tup vs)) (e : Ex W H0 H) (hD : At W H0 D (.lst acc)) : At W (Lw.hide D H) q (.tup vs) := h.hide (h.ne (e.at_ hD) (fun z => by cases z)) e.iv (e.at_ hD)
theorem At.hideN {D q : Addr} {H0 H1 H : Hp} {o : HO} {acc : List V} (h : At W H q o) (e : Ex W H0 H) (hD : At W H0 D (.lst acc)) (e1 : Ex W H0 H1) (f : H1 q = none) : At W (Lw.hide D H) q o :=
  h.hide (fun z => by have r := (e1.at_ hD).1; rw [← z, f] at r; cases r) e.iv (e.at_ hD)
/-- the items: keep says which are taken, R what is made of one (without the new list, at D) -/
theorem rd_lcF {tt : TT} {m : Nat} (keep : V → Bool) (R : V → V → Hp → Prop) (i : W.iv H) (ha : At W H a (.lst xs)) (hz : xs.length ≤ 50000) (hm : ∀ x y H H', Ex W H H' → R x y H → R x y H')
    (ht : ∀ (n : Nat) x H' (QB : Bool → Hp → Prop), xs[n]? = some x → Ex W H H' → (∀ H3, Ex W H' H3 → QB (keep x) H3) → tt ((wipe σ [m]).set m (some x)) H' QB)
    (he : ∀ (n : Nat) x D acc H' (QV : VK), xs[n]? = some x → keep x = true → H D = none → At W H' D (.lst acc) → Ex W H H' → (∀ y H4, Ex W H' H4 → R x y (Lw.hide D H4) → QV y H4) → te ((wipe σ [m]).set m (some x)) H' QV)
    (k : ∀ D H2 ys, H D = none → Ex W H H2 → At W H2 D (.lst ys) → All2 (fun x y => R x y H2) (xs.filter keep) ys → Q (.ref D) H2) :
    ∃ a', V.ref a = V.ref a' ∧ (∃ xs, SqL K H a' xs) ∧ LcG K a' (gName m) tt te [m] σ H Q := by
  refine ⟨a, rfl, ⟨xs, ha.sl⟩, fun D hD => ?_⟩
  refine lc_list (xs := xs) (fun n H' => ∃ ys, Ex W H H' ∧ At W H' D (.lst ys) ∧ All2 (fun x y => R x y (Lw.hide D H')) ((xs.take n).filter keep) ys ∧ ys.length ≤ n) ⟨[], Ex.new i hD, At.new i hD, .nil, Nat.le_refl _⟩ (fun n H' _ ⟨_, e, _⟩ => (e.at_ ha).sl) (fun n x H' hx ⟨ys, e, hd, h2, hl⟩ => ?_) (fun H' ⟨ys, e, hd, h2, hl⟩ => ?_)
  · have hn : n < xs.length := (List.getElem?_eq_some_iff.mp hx).1
    have tk : xs.take (n + 1) = xs.take n ++ [x] := by rw [List.take_add_one, hx]; rfl
    refine ⟨by show wipe _ _ = _; simp [wipe, List.set_set], ?_⟩
    refine ht n x H' _ hx e fun H3 e3 => ?_
    refine ifB (fun hk => ?_) (fun hk => ?_)
    · refine he n x D ys H3 _ hx hk hD (e3.at_ hd) (e.trans e3) fun y H4 e4 r => ⟨ys, (e4.at_ (e3.at_ hd)).1, sz_lt (by omega), ys ++ [y], ((e.trans e3).trans e4).mut hD (e4.at_ (e3.at_ hd)), At.mut e4.iv (e4.at_ (e3.at_ hd)), ?_, by rw [List.length_append, List.length_singleton]; omega⟩
      rw [tk, List.filter_append, List.filter_cons, if_pos hk, hide_upd]
      exact All2.snoc (All2.mono (fun x' y' r' => hm x' y' _ _ (hide_ex (e3.trans e4) hd) r') h2) r
    · refine ⟨ys, e.trans e3, e3.at_ hd, ?_, by omega⟩
      rw [tk, List.filter_append, List.filter_cons, if_neg (by rw [hk]; decide)]
      show All2 _ (_ ++ []) _
      rw [List.append_nil]
      exact All2.mono (fun x' y' r' => hm x' y' _ _ (hide_ex e3 hd) r') h2
  · rw [List.take_length] at h2
    exact k D H' ys hD e hd (All2.mono (fun x' y' r' => hm x' y' _ _ (Ex.unhide e.iv hd) r') h2)
/-- no test -/
theorem rd_lc1 {m : Nat} (R : V → V → Hp → Prop) (i : W.iv H) (ha : At W H a (.lst xs)) (hz : xs.length ≤ 50000) (hm : ∀ x y H H', Ex W H H' → R x y H → R x y H')
    (he : ∀ (n : Nat) x D acc H' (QV : VK), xs[n]? = some x → H D = none → At W H' D (.lst acc) → Ex W H H' → (∀ y H4, Ex W H' H4 → R x y (Lw.hide D H4) → QV y H4) → te ((wipe σ [m]).set m (some x)) H' QV)
    (k : ∀ D H2 ys, H D = none → Ex W H H2 → At W H2 D (.lst ys) → All2 (fun x y => R x y H2) xs ys → Q (.ref D) H2) :
    ∃ a', V.ref a = V.ref a' ∧ (∃ xs, SqL K H a' xs) ∧ LcG K a' (gName m) tYes te [m] σ H Q :=
  rd_lcF (fun _ => true) R i ha hz hm (fun n x H' QB _ e q => q H' (Ex.refl e.iv)) (fun n x D acc H' QV h1 _ h2 h3 h4 h5 => he n x D acc H' QV h1 h2 h3 h4 h5) fun D H2 ys h1 h2 h3 h4 => k D H2 ys h1 h2 h3 (by
    have z : xs.filter (fun _ => true) = xs := by simp
    rwa [z] at h4)
/-- a list comprehension over a list: what its source gives, then its items -/
def LcGT (K : PySem.W.Frag) (a : Addr) (g : TG) (tt : TT) (te : TE) (ws : List Nat) (σ : L2.St) (H1 : Hp) (Q : VK) : Prop := ∀ D, H1 D = none → ∃ W : Nat → Nat → Hp → Prop, (∃ m, W 0 m (upd H1 D (.lst []))) ∧ ∀ i m H, W i m H →
  ((Itt K a).stop i H ∧ Q (.ref D) H) ∨ ((Itt K a).go i H ∧ ∃ Nx : Hp → Prop, (∀ H', Nx H' → ∃ m', m' < m ∧ W (i + 1) m' H') ∧ ∀ x H', (Itt K a).yld i H x H' → g x (wipe σ ws) H' fun σ2 H2 => wipe σ2 ws = wipe σ ws ∧ tt σ2 H2 fun b H3 =>
    if b = true then te σ2 H3 fun y H4 => ∃ acc, H4 D = some (.lst acc) ∧ acc.length < sizeLine ∧ Nx (upd H4 D (.lst (acc ++ [y]))) else Nx H3)
theorem rd_lcT {tl : TE} {g : TG} {tt : TT} {ws : List Nat} (h : tl σ H fun x H1 => ∃ a, x = .ref a ∧ (∃ xs, SqT K H1 a xs) ∧ LcGT K a g tt te ws σ H1 Q) : tLc (iTup K tl) g tt te ws σ H Q := h
/-- the items: keep says which are taken, R what is made of one (without the new list, at D) -/
theorem rd_lcTF {tt : TT} {m : Nat} (keep : V → Bool) (R : V → V → Hp → Prop) (i : W.iv H) (ha : At W H a (.tup xs)) (hz : xs.length ≤ 50000) (hm : ∀ x y H H', Ex W H H' → R x y H → R x y H')
    (ht : ∀ (n : Nat) x H' (QB : Bool → Hp → Prop), xs[n]? = some x → Ex W H H' → (∀ H3, Ex W H' H3 → QB (keep x) H3) → tt ((wipe σ [m]).set m (some x)) H' QB)
    (he : ∀ (n : Nat) x D acc H' (QV : VK), xs[n]? = some x → keep x = true → H D = none → At W H' D (.lst acc) → Ex W H H' → (∀ y H4, Ex W H' H4 → R x y (Lw.hide D H4) → QV y H4) → te ((wipe σ [m]).set m (some x)) H' QV)
    (k : ∀ D H2 ys, H D = none → Ex W H H2 → At W H2 D (.lst ys) → All2 (fun x y => R x y H2) (xs.filter keep) ys → Q (.ref D) H2) :
    ∃ a', V.ref a = V.ref a' ∧ (∃ xs, SqT K H a' xs) ∧ LcGT K a' (gName m) tt te [m] σ H Q := by
  refine ⟨a, rfl, ⟨xs, ha.st⟩, fun D hD => ?_⟩
  refine lc_tup (xs := xs) (fun n H' => ∃ ys, Ex W H H' ∧ At W H' D (.lst ys) ∧ All2 (fun x y => R x y (Lw.hide D H')) ((xs.take n).filter keep) ys ∧ ys.length ≤ n) ⟨[], Ex.new i hD, At.new i hD, .nil, Nat.le_refl _⟩ (fun n H' _ ⟨_, e, _⟩ => (e.at_ ha).st) (fun n x H' hx ⟨ys, e, hd, h2, hl⟩ => ?_) (fun H' ⟨ys, e, hd, h2, hl⟩ => ?_)
  · have hn : n < xs.length := (List.getElem?_eq_some_iff.mp hx).1
    have tk : xs.take (n + 1) = xs.take n ++ [x] := by rw [List.take_add_one, hx]; rfl
    refine ⟨by show wipe _ _ = _; simp [wipe, List.set_set], ?_⟩
    refine ht n x H' _ hx e fun H3 e3 => ?_
    refine ifB (fun hk => ?_) (fun hk => ?_)
    · refine he n x D ys H3 _ hx hk hD (e3.at_ hd) (e.trans e3) fun y H4 e4 r => ⟨ys, (e4.at_ (e3.at_ hd)).1, sz_lt (by omega), ys ++ [y], ((e.trans e3).trans e4).mut hD (e4.at_ (e3.at_ hd)), At.mut e4.iv (e4.at_ (e3.at_ hd)), ?_, by rw [List.length_append, List.length_singleton]; omega⟩
      rw [tk, List.filter_append, List.filter_cons, if_pos hk, hide_upd]
      exact All2.snoc (All2.mono (fun x' y' r' => hm x' y' _ _ (hide_ex (e3.trans e4) hd) r') h2) r
    · refine ⟨ys, e.trans e3, e3.at_ hd, ?_, by omega⟩
      rw [tk, List.filter_append, List.filter_cons, if_neg (by rw [hk]; decide)]
      show All2 _ (_ ++ []) _
      rw [List.append_nil]
      exact All2.mono (fun x' y' r' => hm x' y' _ _ (hide_ex e3 hd) r') h2
  · rw [List.take_length] at h2
    exact k D H' ys hD e hd (All2.mono (fun x' y' r' => hm x' y' _ _ (Ex.unhide e.iv hd) r') h2)
/-- no test -/
theorem rd_lcT1 {m : Nat} (R : V → V → Hp → Prop) (i : W.iv H) (ha : At W H a (.tup xs)) (hz : xs.length ≤ 50000) (hm : ∀ x y H H', Ex W H H' → R x y H → R x y H')
    (he : ∀ (n : Nat) x D acc H' (QV : VK), xs[n]? = some x → H D = none → At W H' D (.lst acc) → Ex W H H' → (∀ y H4, Ex W H' H4 → R x y (Lw.hide D H4) → QV y H4) → te ((wipe σ [m]).set m (some x)) H' QV)
    (k : ∀ D H2 ys, H D = none → Ex W H H2 → At W H2 D (.lst ys) → All2 (fun x y => R x y H2) xs ys → Q (.ref D) H2) :
    ∃ a', V.ref a = V.ref a' ∧ (∃ xs, SqT K H a' xs) ∧ LcGT K a' (gName m) tYes te [m] σ H Q :=
  rd_lcTF (fun _ => true) R i ha hz hm (fun n x H' QB _ e q => q H' (Ex.refl e.iv)) (fun n x D acc H' QV h1 _ h2 h3 h4 h5 => he n x D acc H' QV h1 h2 h3 h4 h5) fun D H2 ys h1 h2 h3 h4 => k D H2 ys h1 h2 h3 (by
    have z : xs.filter (fun _ => true) = xs := by simp
    rwa [z] at h4)
theorem rd_any {bs : List Bool} (h : At W H a (.lst (bs.map V.bl))) (k : Q (.bl (bs.any id)) H) : rAny K [.ref a] H Q := ⟨a, bs, rfl, h.sl, k⟩
theorem rd_all {bs : List Bool} (h : At W H a (.lst (bs.map V.bl))) (k : Q (.bl (bs.all id)) H) : rAll K [.ref a] H Q := ⟨a, bs, rfl, h.sl, k⟩
theorem rd_sum {ns : List Int} (h : At W H a (.lst (ns.map V.int))) (k : Q (.int ns.sum) H) : rSum K [.ref a] H Q := ⟨a, ns, rfl, h.sl, k⟩
theorem rd_inK (h : SqT K H p xs) (f : flatV x = true) (g : xs.all flatV = true) (k : Q (.bl (inV x xs)) H) : rIn K false x (.ref p) H Q := ⟨p, xs, rfl, .inr h, f, g, k⟩
theorem rd_niK (h : SqT K H p xs) (f : flatV x = true) (g : xs.all flatV = true) (k : Q (.bl (!inV x xs)) H) : rIn K true x (.ref p) H Q := ⟨p, xs, rfl, .inr h, f, g, k⟩
theorem rd_inT (h : At W H p (.tup xs)) (f : flatV x = true) (g : xs.all flatV = true) (k : Q (.bl (inV x xs)) H) : rIn K false x (.ref p) H Q := ⟨p, xs, rfl, .inr h.st, f, g, k⟩
theorem rd_niT (h : At W H p (.tup xs)) (f : flatV x = true) (g : xs.all flatV = true) (k : Q (.bl (!inV x xs)) H) : rIn K true x (.ref p) H Q := ⟨p, xs, rfl, .inr h.st, f, g, k⟩
theorem rd_inL (h : At W H p (.lst xs)) (f : flatV x = true) (g : xs.all flatV = true) (k : Q (.bl (inV x xs)) H) : rIn K false x (.ref p) H Q := ⟨p, xs, rfl, .inl h.sl, f, g, k⟩
theorem rd_niL (h : At W H p (.lst xs)) (f : flatV x = true) (g : xs.all flatV = true) (k : Q (.bl (!inV x xs)) H) : rIn K true x (.ref p) H Q := ⟨p, xs, rfl, .inl h.sl, f, g, k⟩
theorem rd_slTn {lo hi : Option Int} (i : W.iv H) (h : At W H a (.tup xs)) (n : ¬ (HT.sIx xs.length 0 lo = 0 ∧ HT.sIx xs.length xs.length hi = xs.length)) (k : ∀ p H2, H p = none → Ex W H H2 → At W H2 p (.tup (cutV xs lo hi)) → Q (.ref p) H2) : rSlT K (.ref a) lo hi H Q := ⟨a, xs, rfl, h.st, n, rd_new1 i k⟩
theorem rd_gtup {QS : L2.St → Hp → Prop} {ts : TGs} (h : At W H a (.tup xs)) (e : xs.length = n) (k : ts xs σ H QS) : gTup K n ts (.ref a) σ H QS := ⟨a, xs, rfl, h.st, e, k⟩
theorem rd_gconsE {QS : L2.St → Hp → Prop} {g : TG} {ts : TGs} (e : vs = v :: xs) (k : g v σ H fun σ' H' => ts xs σ' H' QS) : gCons g ts vs σ H QS := ⟨v, xs, e, k⟩
theorem rd_gnilE {QS : L2.St → Hp → Prop} (e : vs = []) (k : QS σ H) : gNil vs σ H QS := ⟨e, k⟩
theorem rd_isi {nm mm : String} (ty : TyX K H x (.type nm)) (h : kitB nm mm = some b) (k : Q (.bl b) H) : rIsi K [x, .ty mm] H Q := ⟨x, .ty mm, .type nm, .type mm, b, rfl, .ty _, ty, kit_ty h, k⟩
theorem rd_isiY {nm mm : String} (ty : TyX K H x (.type nm)) (h : kitB nm mm = some true) (k : Q (.bl true) H) : rIsi K [x, .ty mm] H Q := rd_isi ty h k
theorem rd_isiN {nm mm : String} (ty : TyX K H x (.type nm)) (h : kitB nm mm = some false) (k : Q (.bl false) H) : rIsi K [x, .ty mm] H Q := rd_isi ty h k
theorem rd_slLs {lo hi : Option Int} (i : W.iv H) (h : SqL K H a xs) (k : ∀ p H2, H p = none → Ex W H H2 → At W H2 p (.lst (cutV xs lo hi)) → Q (.ref p) H2) : rSlL K (.ref a) lo hi H Q := ⟨a, xs, rfl, h, rd_new1 i k⟩
theorem rd_gcons {QS : L2.St → Hp → Prop} {g : TG} {ts : TGs} (k : g v σ H fun σ' H' => ts xs σ' H' QS) : gCons g ts (v :: xs) σ H QS := ⟨v, xs, rfl, k⟩
theorem rd_gnil {QS : L2.St → Hp → Prop} (k : QS σ H) : gNil [] σ H QS := ⟨rfl, k⟩
theorem rd_gname {QS : L2.St → Hp → Prop} {m : Nat} (k : QS (σ.set m (some v)) H) : gName m v σ H QS := k
/-- a for over a list, a tuple, a range: its source, then for_list .. -/
def FoG (K : PySem.W.Frag) (a : Addr) (g : TG) (tb : TS) (D : Ends) (σ : L2.St) (H : Hp) : Prop := ∃ W : Nat → Nat → L2.St → Hp → Prop, (∃ m, W 0 m σ H) ∧ ∀ i m σ H, W i m σ H →
  ((Itl K a).stop i H ∧ D.nx σ H) ∨ ((Itl K a).go i H ∧ ∃ N : L2.St → Hp → Prop, (∀ σ' H', N σ' H' → ∃ m', m' < m ∧ W (i + 1) m' σ' H') ∧ ∀ x H', (Itl K a).yld i H x H' → g x σ H' fun σ2 H2 => tb { D with nx := N, ct := N, bk := D.nx } σ2 H2)
def FoR (lo : Int) (n : Nat) (g : TG) (tb : TS) (D : Ends) (σ : L2.St) (H : Hp) : Prop := ∃ W : Nat → Nat → L2.St → Hp → Prop, (∃ m, W 0 m σ H) ∧ ∀ i m σ H, W i m σ H →
  ((Itr lo n).stop i H ∧ D.nx σ H) ∨ ((Itr lo n).go i H ∧ ∃ N : L2.St → Hp → Prop, (∀ σ' H', N σ' H' → ∃ m', m' < m ∧ W (i + 1) m' σ' H') ∧ ∀ x H', (Itr lo n).yld i H x H' → g x σ H' fun σ2 H2 => tb { D with nx := N, ct := N, bk := D.nx } σ2 H2)
theorem rd_forL {tl : TE} {g : TG} {tb : TS} (h : tl σ H fun x H1 => ∃ a, x = .ref a ∧ (∃ xs, SqL K H1 a xs) ∧ FoG K a g tb D σ H1) : tFor (iList K tl) g tb D σ H := h
theorem rd_forR1 {g : TG} {tb : TS} (h : tr σ H fun vs H1 => ∃ j : Int, vs = [.int j] ∧ -(2 ^ 62) ≤ j ∧ j < 2 ^ 62 ∧ FoR 0 j.toNat g tb D σ H1) : tFor (iRng1 tr) g tb D σ H := h
theorem rd_forR2 {g : TG} {tb : TS} (h : tr σ H fun vs H1 => ∃ i j : Int, vs = [.int i, .int j] ∧ (-(2 ^ 62) ≤ i ∧ i < 2 ^ 62 ∧ -(2 ^ 62) ≤ j ∧ j < 2 ^ 62) ∧ FoR i (j - i).toNat g tb D σ H1) : tFor (iRng2 tr) g tb D σ H := h
theorem rd_forR1a {g : TG} {tb : TS} (h1 : -(2 ^ 62) ≤ j) (h2 : j < 2 ^ 62) (h : FoR 0 j.toNat g tb D σ H) : ∃ j' : Int, [V.int j] = [V.int j'] ∧ -(2 ^ 62) ≤ j' ∧ j' < 2 ^ 62 ∧ FoR 0 j'.toNat g tb D σ H := ⟨j, rfl, h1, h2, h⟩
theorem rd_forR2a {g : TG} {tb : TS} (h1 : -(2 ^ 62) ≤ i) (h2 : i < 2 ^ 62) (h3 : -(2 ^ 62) ≤ j) (h4 : j < 2 ^ 62) (h : FoR i (j - i).toNat g tb D σ H) : ∃ i' j' : Int, [V.int i, V.int j] = [V.int i', V.int j'] ∧ (-(2 ^ 62) ≤ i' ∧ i' < 2 ^ 62 ∧ -(2 ^ 62) ≤ j' ∧ j' < 2 ^ 62) ∧ FoR i' (j' - i').toNat g tb D σ H := ⟨i, j, rfl, ⟨h1, h2, h3, h4⟩, h⟩
theorem rd_forLa {g : TG} {tb : TS} (h : At W H a (.lst xs)) (k : FoG K a g tb D σ H) : ∃ a', V.ref a = V.ref a' ∧ (∃ xs, SqL K H a' xs) ∧ FoG K a' g tb D σ H := ⟨a, rfl, ⟨xs, h.sl⟩, k⟩
/-- over range: Pv by the turn -/
theorem for_r {lo : Int} {m n : Nat} {tb : TS} (Pv : Nat → L2.St → Hp → Prop) (h0 : Pv 0 σ H) (hs : ∀ (i : Nat) σ H, i < n → Pv i σ H → tb { D with nx := Pv (i + 1), ct := Pv (i + 1), bk := D.nx } (σ.set m (some (.int (lo + i)))) H) (hd : ∀ σ H, Pv n σ H → D.nx σ H) : FoR lo n (gName m) tb D σ H :=
  for_range Pv h0 hs hd
theorem for_l {g : TG} {tb : TS} (Pv : Nat → L2.St → Hp → Prop) (h0 : Pv 0 σ H) (hl : ∀ i σ H, i ≤ xs.length → Pv i σ H → At W H a (.lst xs)) (hs : ∀ i x σ H, xs[i]? = some x → Pv i σ H → g x σ H fun σ2 H2 => tb { D with nx := Pv (i + 1), ct := Pv (i + 1), bk := D.nx } σ2 H2) (hd : ∀ σ H, Pv xs.length σ H → D.nx σ H) : FoG K a g tb D σ H :=
  for_list Pv h0 (fun i σ H h p => (hl i σ H h p).sl) hs hd
/-- an append to a list of our own (unknown at H0) -/
theorem rd_append {H0 : Hp} (e : Ex W H0 H) (h0 : H0 p = none) (h : At W H p (.lst xs)) (hz : xs.length < 1000000)
    (k : ∀ H2, Ex W H0 H2 → At W H2 p (.lst (xs ++ [y])) → (∀ q o, q ≠ p → At W H q o → At W H2 q o) → Q .non H2) : rAppend (.ref p) [y] H Q :=
  ⟨p, xs, y, rfl, rfl, h.1, sz_lt hz, k _ (e.mut h0 h) (.mut e.iv h) fun _ _ ne q => .other e.iv h q ne⟩
end
end Lw

/-! Lw2: loops and comprehensions over anything that is walked, enumerate with a start, dicts, texts. -/
namespace Lw
open PySem L2 PySem.Spec PyProof.Rows

/-! ### enumerate(xs, start=k), enumerate of a tuple -/
/-- a type of the language called with named arguments -/
theorem callWith_tyK {M : Model} {A : Around} {E : Value → Shared → Prop} {s : Shared} {env : Env} {pos : Pos} {T : String} {e : Expr} {rest : List Expr} {kws : List Keyword} {Q : Value → Shared → Prop}
    (h : wpAny M A (spliced (backTo pos (starEach (e :: rest) env))) (fun vs s₁ => wpAny M A (evalAll ((backToKw pos (keywordEach kws env)).map (·.2)))
      (fun zs s₂ => wpAny M A (call (.type T) vs (((backToKw pos (keywordEach kws env)).filterMap (·.1)).zip zs)) Q E s₂) E s₁) E s)
    (he : backTo pos (starEach (e :: rest) env) = (false, eval e env) :: backTo pos (starEach rest env)) (hp : (backTo pos (starEach (e :: rest) env)).any (·.1) = false)
    (ha : (backToKw pos (keywordEach kws env)).all (·.1.isSome) = true) (hk : (backToKw pos (keywordEach kws env)).any (·.1.isNone) = false) :
    wpAny M A (callWith pos (.type T) [] (backTo pos (starEach (e :: rest) env)) (backToKw pos (keywordEach kws env))) Q E s := by
  have h1 : wpAny M A (evalArgs (.type T) true (backTo pos (starEach (e :: rest) env)) (backToKw pos (keywordEach kws env))) (fun a s₁ => wpAny M A (call (.type T) ([] ++ a.pos) a.kw) Q E s₁) E s := by
    rw [he] at h ⊢
    exact evalArgs_kwB ha h
  unfold callWith
  refine wpAny_bind (wpAny_holding (wpAny_mono h1 (fun a s₁ q => wpAny_bind (wpAny_standAt ?_)) fun _ _ x => x))
  simp only [hp, hk, Bool.or_false]
  exact wpAny_bind (wpAny_pure (wpAny_bind (wpAny_mono q (fun r s₂ hr => wpAny_bind (wpAny_holding (wpAny_point (wpAny_pure hr)))) fun _ _ x => x)))
def IteL (K : PySem.W.Frag) (c : Int) (a : Addr) : It :=
  ⟨fun i H => ∃ xs x, SqL K H a xs ∧ xs[i]? = some x, fun i H v H' => ∃ T x, v = .ref T ∧ H T = none ∧ H' = upd H T (.tup [.int (c + (i : Nat)), x]) ∧ ∀ xs, SqL K H a xs → xs[i]? = some x, fun i H => ∃ xs, SqL K H a xs ∧ xs.length ≤ i⟩
def IteT (K : PySem.W.Frag) (c : Int) (a : Addr) : It :=
  ⟨fun i H => ∃ xs x, SqT K H a xs ∧ xs[i]? = some x, fun i H v H' => ∃ T x, v = .ref T ∧ H T = none ∧ H' = upd H T (.tup [.int (c + (i : Nat)), x]) ∧ ∀ xs, SqT K H a xs → xs[i]? = some x, fun i H => ∃ xs, SqT K H a xs ∧ xs.length ≤ i⟩
/-- one turn of it, told by what its source draws -/
theorem enum_turn {elts : List Expr} {kk : Nat} {tpos : Pos} {X : Cx} {pins : List (Addr × Obj)} {s : Shared} {σ : L2.St} {H : Hp} {E : Value → Shared → Prop} {e it src : Addr} {n i : Nat} {c : Int} {x : V} {u old : Value} {P : Nat → Value → Prop} {S : Nat → Heap → Prop} {tn' : Heap → Prop} {y : V → Hp → Prop}
    (I : Inv X pins σ H s) (D : Draws X.prog X.w X.A.in1 it [it, src] n P S) (hf : ∀ b ∈ [e, it], FpOk X pins H b) (he : IsEnum s.heap e it (c + ((i : Nat) : Int)) old) (hst : S i s.heap) (hi : i < n) (hne : e ≠ it) (hns : e ≠ src)
    (hP : ∀ v, P i v → v = u) (ru : RelV x u) (hs : ∀ h, S (i + 1) h → ∃ o, h.get? it = some o) (hk : ∀ h h', S (i + 1) h → (∀ b o, b ≠ e → h.get? b = some o → h'.get? b = some o) → S (i + 1) h')
    (ht : ∀ h, (∃ old, IsEnum h e it (c + ((i + 1 : Nat) : Int)) old) → S (i + 1) h → tn' h) (hy : ∀ T, H T = none → y (.ref T) (upd H T (.tup [.int (c + (i : Nat)), x]))) :
    wpAny (model X.prog X.w) X.A (pyNext (.ref e)) (fun r s1 => ∃ v, r = some v ∧
      wpAny (model X.prog X.w) X.A (letOwnedTupleGo (.Tuple elts kk tpos) (.ref e) v) (fun _ s2 => ∃ x' H', Inv X pins σ H' s2 ∧ RelV x' v ∧ y x' H' ∧ tn' s2.heap ∧ ∀ b ∈ [e, it], H' b = none) E s1) E s := by
  have hel : e < s.heap.objs.size := Heap.lt_size he
  have hil : it < s.heap.objs.size := by obtain ⟨_, q⟩ := D.live _ _ hst; exact Heap.lt_size q
  refine wpAny_pyNext_enum_itemC D he hst hi hne (by simp [hne, hns]) fun v h' tk hv ho hs' hT hsz hb => ?_
  cases hP v hv
  refine ⟨_, rfl, wpAny_letOwnedTupleGo_enum (s := { s with heap := h', toks := tk + 1 }) ho fun h2 he2 sb => ?_⟩
  have hT2 : h2.get? s.heap.objs.size = some { cls := .type "tuple", data := .seq #[.int (c + (i : Nat)) tk, u] } := (sb.2 _ (Nat.ne_of_gt hel)).trans hT
  have new : ObjOk X.prog X.w (upd H s.heap.objs.size (.tup [.int (c + (i : Nat)), x])) h2 s.heap.objs.size (.tup [.int (c + (i : Nat)), x]) :=
    ⟨by show 2 ≤ sizeLine; decide, [.int (c + (i : Nat)) tk, u], .cons ⟨_, rfl⟩ (.cons ru .nil), ⟨_, hT2, rfl, _, rfl⟩⟩
  have I2 : Inv X pins σ (upd H s.heap.objs.size (.tup [.int (c + (i : Nat)), x])) { s with heap := h2, toks := tk + 1 } :=
    I.turnedNew (ch := [e, it]) (fun b ob hc q => (sb.2 b (fun z => hc (by simp [z]))).trans (hb b ob (fun z => hc (by simp [z])) (fun z => hc (by simp [z])) q)) hf (Nat.le_refl _) new
  refine ⟨.ref s.heap.objs.size, _, I2, rfl, hy _ (I.hok.fresh (Nat.le_refl _)), ht _ ⟨u, ?_⟩ (hk _ _ hs' fun b o ne q => (sb.2 b ne).trans q), fun b hm => ?_⟩
  · have e1 : c + ((i + 1 : Nat) : Int) = c + (i : Int) + 1 := by omega
    rw [e1]; exact he2
  · have hlt : b < s.heap.objs.size := by
      rcases List.mem_cons.mp hm with z | z
      · rw [z]; exact hel
      · rw [List.mem_singleton.mp z]; exact hil
    rw [upd_ne (Nat.ne_of_lt hlt)]
    exact (hf b hm).1
theorem isEnum_ne_seq {h : Heap} {e it a : Addr} {c : Int} {old : Value} {ob : Obj} {t : String} (he : IsEnum h e it c old) (hl : h.get? a = some ob) (hc : ob.cls = .type t) (ht : t ≠ "enumerate") : e ≠ a := fun z => by
  rw [← z, show h.get? e = _ from he] at hl
  cases hl
  exact ht (by injection hc with q; exact q.symm)
theorem turn_enumL {P : Program} {w : World} {K : PySem.W.Frag} {elts : List Expr} {kk : Nat} {tpos : Pos} (c : Int) (a e it : Addr) :
    Turn P w K (.Tuple elts kk tpos) (IteL K c a) [e, it] e (fun i h => (∃ old, IsEnum h e it (c + ((i : Nat) : Int)) old) ∧ h.IsListIter it a i ∧ e ≠ it) where
  mem := by simp
  obj := fun i h st b hb => by
    obtain ⟨⟨old, he⟩, ⟨o, ho, _, hd⟩, _⟩ := st
    rcases List.mem_cons.mp hb with z | z
    · rw [z]; exact ⟨_, he, fun v q => nomatch q⟩
    · rw [List.mem_singleton.mp z]; exact ⟨o, ho, fun v q => by rw [hd] at q; cases q⟩
  keep := fun i h h' st k => let ⟨⟨old, he⟩, hi, hne⟩ := st; ⟨⟨old, k e (by simp) _ he⟩, hi.at fun o q => k it (by simp) o q, hne⟩
  item := by
    intro X hP hw hK hc i pins s σ H E I hf st hg
    subst hP hw hK
    obtain ⟨⟨old, he⟩, hit, hne⟩ := st
    obtain ⟨xs, x, hq, hx⟩ := hg
    obtain ⟨its, rv, p, hz⟩ := I.list hq
    obtain ⟨u, hu, ru⟩ := rv.get hx
    obtain ⟨ol, hol, hcl, _⟩ := p.isList
    obtain ⟨oi, hoi, hci, _⟩ := id hit
    have hai : a ≠ it := fun z => by
      rw [z, hoi] at hol
      cases hol
      rw [hci] at hcl
      injection hcl with q; exact absurd q (by decide)
    have hi : i < its.toArray.size := by simpa using (List.getElem?_eq_some_iff.mp hu).1
    refine enum_turn (y := (IteL X.K c a).yld i H) (tn' := fun h => (∃ old, IsEnum h e it (c + ((i + 1 : Nat) : Int)) old) ∧ h.IsListIter it a (i + 1) ∧ e ≠ it) I (Draws.list (show X.A.in1.handled = none from I.ok.hd hc) it a hai its.toArray) hf he ⟨hit, p.isList⟩ hi hne (isEnum_ne_seq he hol hcl (by decide)) (u := u) (fun v hv => ?_) ru (fun h q => ?_) (fun h h' q k => ?_) (fun h q r => ⟨q, r.1, hne⟩) fun T hT => ⟨T, x, rfl, hT, rfl, fun ys hy => by rw [I.list_inj hy hq]; exact hx⟩
    · have hv' : its[i]? = some v := by simpa using hv
      rw [hu] at hv'; exact (Option.some.inj hv').symm
    · obtain ⟨o, ho, _⟩ := q.1; exact ⟨o, ho⟩
    · exact ⟨q.1.at fun o z => k _ o (Ne.symm hne) z, q.2.at fun o z => k _ o (isEnum_ne_seq he hol hcl (by decide)).symm z⟩
  done := by
    intro X hP hw hK hc i pins s σ H E I hf st hg
    subst hP hw hK
    obtain ⟨⟨old, he⟩, hit, hne⟩ := st
    obtain ⟨xs, hq, hx⟩ := hg
    obtain ⟨its, rv, p, hz⟩ := I.list hq
    obtain ⟨f0, f1, f2, f3, f4, f5⟩ := hf it (by simp)
    have hl := rv.length
    have hT : s.TypeIs (.ref e) "enumerate" := ⟨_, he, rfl⟩
    unfold pyNext
    refine wpAny_bind (wpAny_attempt (wpAny_callSpecial?_slot (name := Str.ofString "__next__") hT F.slot_enumerate_next
      (wpAny_call_entry F.slot_enumerate_next hT F.entry_enumerate_next ?_ (F.args_enumerate_next_1 _))))
    show wpAny _ _ (field (.ref e) 2 >>= _) _ _ _
    refine wpAny_bind (wpAny_field he rfl (x := .ref it) rfl ?_)
    refine wpAny_bind (wpAny_nextOf_list_end (I.ok.hd hc) hit p.isList (by simp; omega) fun h' x eb hx' => ?_)
    obtain ⟨o, ho, hcs⟩ := hx'
    refine wpAny_bind (wpAny_isInstance (T := "StopIteration") (b := true) ⟨o, ho, hcs⟩ isSubtype_stop ?_)
    exact wpAny_pure ⟨rfl, I.turned (t' := s.toks) (fun b o hb q => eb b o hb q) f0 f1 f3 f4 f5⟩
  self := fun A i s Q E st h => let ⟨⟨_, he⟩, _⟩ := st; wpAny_pyIter_enum he h
theorem turn_enumT {P : Program} {w : World} {K : PySem.W.Frag} {elts : List Expr} {kk : Nat} {tpos : Pos} (c : Int) (a e it : Addr) :
    Turn P w K (.Tuple elts kk tpos) (IteT K c a) [e, it] e (fun i h => (∃ old, IsEnum h e it (c + ((i : Nat) : Int)) old) ∧ h.IsTupleIter it a i ∧ e ≠ it) where
  mem := by simp
  obj := fun i h st b hb => by
    obtain ⟨⟨old, he⟩, ⟨o, ho, _, hd⟩, _⟩ := st
    rcases List.mem_cons.mp hb with z | z
    · rw [z]; exact ⟨_, he, fun v q => nomatch q⟩
    · rw [List.mem_singleton.mp z]; exact ⟨o, ho, fun v q => by rw [hd] at q; cases q⟩
  keep := fun i h h' st k => let ⟨⟨old, he⟩, hi, hne⟩ := st; ⟨⟨old, k e (by simp) _ he⟩, hi.at fun o q => k it (by simp) o q, hne⟩
  item := by
    intro X hP hw hK hc i pins s σ H E I hf st hg
    subst hP hw hK
    obtain ⟨⟨old, he⟩, hit, hne⟩ := st
    obtain ⟨xs, x, hq, hx⟩ := hg
    obtain ⟨its, rv, p, hz⟩ := I.tuple hq
    obtain ⟨u, hu, ru⟩ := rv.get hx
    have p' : s.heap.IsTuple a its.toArray := p
    obtain ⟨ol, hol, hcl, _⟩ := id p'
    obtain ⟨oi, hoi, hci, _⟩ := id hit
    have hai : a ≠ it := fun z => by
      rw [z, hoi] at hol
      cases hol
      rw [hci] at hcl
      injection hcl with q; exact absurd q (by decide)
    have hi : i < its.toArray.size := by simpa using (List.getElem?_eq_some_iff.mp hu).1
    refine enum_turn (y := (IteT X.K c a).yld i H) (tn' := fun h => (∃ old, IsEnum h e it (c + ((i + 1 : Nat) : Int)) old) ∧ h.IsTupleIter it a (i + 1) ∧ e ≠ it) I (Draws.tuple (show X.A.in1.handled = none from I.ok.hd hc) it a hai its.toArray) hf he ⟨hit, p'⟩ hi hne (isEnum_ne_seq he hol hcl (by decide)) (u := u) (fun v hv => ?_) ru (fun h q => ?_) (fun h h' q k => ?_) (fun h q r => ⟨q, r.1, hne⟩) fun T hT => ⟨T, x, rfl, hT, rfl, fun ys hy => by rw [I.tuple_inj hy hq]; exact hx⟩
    · have hv' : its[i]? = some v := by simpa using hv
      rw [hu] at hv'; exact (Option.some.inj hv').symm
    · obtain ⟨o, ho, _⟩ := q.1; exact ⟨o, ho⟩
    · exact ⟨q.1.at fun o z => k _ o (Ne.symm hne) z, q.2.at fun o z => k _ o (isEnum_ne_seq he hol hcl (by decide)).symm z⟩
  done := by
    intro X hP hw hK hc i pins s σ H E I hf st hg
    subst hP hw hK
    obtain ⟨⟨old, he⟩, hit, hne⟩ := st
    obtain ⟨xs, hq, hx⟩ := hg
    obtain ⟨its, rv, p, hz⟩ := I.tuple hq
    have p' : s.heap.IsTuple a its.toArray := p
    obtain ⟨f0, f1, f2, f3, f4, f5⟩ := hf it (by simp)
    have hl := rv.length
    have hT : s.TypeIs (.ref e) "enumerate" := ⟨_, he, rfl⟩
    unfold pyNext
    refine wpAny_bind (wpAny_attempt (wpAny_callSpecial?_slot (name := Str.ofString "__next__") hT F.slot_enumerate_next
      (wpAny_call_entry F.slot_enumerate_next hT F.entry_enumerate_next ?_ (F.args_enumerate_next_1 _))))
    show wpAny _ _ (field (.ref e) 2 >>= _) _ _ _
    refine wpAny_bind (wpAny_field he rfl (x := .ref it) rfl ?_)
    refine wpAny_bind (wpAny_nextOf_tuple_end (I.ok.hd hc) hit p' (by simp; omega) fun h' x eb hx' => ?_)
    obtain ⟨o, ho, hcs⟩ := hx'
    refine wpAny_bind (wpAny_isInstance (T := "StopIteration") (b := true) ⟨o, ho, hcs⟩ isSubtype_stop ?_)
    exact wpAny_pure ⟨rfl, I.turned (t' := s.toks) (fun b o hb q => eb b o hb q) f0 f1 f3 f4 f5⟩
  self := fun A i s Q E st h => let ⟨⟨_, he⟩, _⟩ := st; wpAny_pyIter_enum he h
/-- its two new cells are nobody's -/
theorem fp_two {X : Cx} {pins : List (Addr × Obj)} {σ : L2.St} {H : Hp} {s : Shared} (I : Inv X pins σ H s) : ∀ b ∈ [s.heap.objs.size + 1, s.heap.objs.size], FpOk X pins H b := fun b hb => by
  have hle : s.heap.objs.size ≤ b := by
    rcases List.mem_cons.mp hb with z | z
    · rw [z]; exact Nat.le_add_right _ _
    · rw [List.mem_singleton.mp z]; exact Nat.le_refl _
  exact I.fpOk hle (I.hok.fresh hle)
/-- enumerate(list, start=k) -/
def iEnumS (K : PySem.W.Frag) (ta tk : TA) : TI := fun σ H R => ta σ H fun vs H1 => tk σ H1 fun zs H2 => ∃ a xs c, vs = [.ref a] ∧ zs = [.int c] ∧ -(2 ^ 63) ≤ c ∧ c < 2 ^ 63 ∧ SqL K H2 a xs ∧ R (IteL K c a) H2
theorem pi_enumS {X : Cx} {e : Expr} {ta tk : TA} {kws : List Keyword} {p pos tpos : Pos} {elts : List Expr} {kk : Nat} (hg : Gl X "enumerate") (hm : X.mg "enumerate" = none) (ha : PA X [e] ta) (hk : PK X kws tk)
    (he : backTo pos (starEach [e] X.env) = (false, eval e X.env) :: backTo pos (starEach [] X.env) := by rfl) (hp : (backTo pos (starEach [e] X.env)).any (·.1) = false := by rfl)
    (hal : (backToKw pos (keywordEach kws X.env)).all (·.1.isSome) = true := by rfl) (hn : (backToKw pos (keywordEach kws X.env)).any (·.1.isNone) = false := by rfl) (hks : (backToKw pos (keywordEach kws X.env)).filterMap (·.1) = [Str.ofString "start"] := by rfl) :
    PI X (.Tuple elts kk tpos) (.Call (.Name "enumerate" p) [e] kws pos) (iEnumS X.K ta tk) := by
  refine ⟨fun pins s σ H R I h => ?_⟩
  refine wpAny_Call_Name_kw (ld_blt I hg hm boot_enumerate ?_)
  refine callWith_tyK (thn (ha.run pos pins s σ H _ I h) fun us s1 ⟨vs, H1, I1, r1, q1⟩ => thn (hk.run pos pins s1 σ H1 _ I1 q1) fun ws s2 ⟨zs, H2, I2, r2, q2⟩ => ?_) he hp hal hn
  rw [hks]
  obtain ⟨a, xs, c, ex, ez, c0, c1, hq, q⟩ := q2
  subst ex ez
  cases r1 with
  | cons r rr =>
    cases rr
    cases r
    cases r2 with
    | cons r' rr' =>
      cases rr'
      obtain ⟨t, rfl⟩ := r'
      obtain ⟨its, rv, p', hz⟩ := I2.list hq
      refine enum_begins_start (begins_list a its.toArray) p'.isList c0 c1 fun h' he' hit hsz hkeep => wpAny_pyIter_enum he' ?_
      have I3 : Inv X pins σ H2 { s2 with heap := h' } := I2.kept (t' := s2.toks) hkeep
      refine ⟨s2.heap.objs.size + 1, [s2.heap.objs.size + 1, s2.heap.objs.size], _, _, H2, rfl, I3, turn_enumL c a (s2.heap.objs.size + 1) s2.heap.objs.size, ⟨⟨.none, ?_⟩, ⟨_, hit, rfl, rfl⟩, Nat.succ_ne_self _⟩, fp_two I2, q⟩
      show IsEnum h' _ _ (c + ((0 : Nat) : Int)) _
      rw [show c + ((0 : Nat) : Int) = c by omega]
      exact he'
/-- enumerate(v), whatever v's iterator is -/
theorem enum_new1 {v : Value} {o : Obj} {G : Heap → Prop} (B : Begins v o G) : Meets (Builtin.«enumerate.__new__» ⟨[.type "enumerate", v], []⟩) (fun _ R s => G s.heap ∧ R (.ok (.ret (.ref (s.heap.push o).objs.size)))
    { s with heap := (s.heap.push o).push { cls := .type "enumerate", data := .fields #[.none, .bool false, .ref s.heap.objs.size, rawInt 0, .none, .none] } }) := by
  refine .of_wp fun prog w A R s hh => ?_
  obtain ⟨hp, g, d, tk, os⟩ := s
  obtain ⟨hG, hR⟩ := hh
  have hsub := sub_enumerate
  have it1 : ∀ {A' : Around} {E Q : Value → Shared → Prop}, Q (.ref hp.objs.size) ⟨hp.push o, g, d, tk, os⟩ → wpAny (model prog w) A' (pyIter v) Q E ⟨hp, g, d, tk, os⟩ := fun q => B.iter prog w _ _ ⟨hp, g, d, tk, os⟩ _ hG q
  wp_walk using it1
  refine wpAny_stack_any fun st => wpAny_pure ?_
  split
  · rename_i c _ _ _ _ _
    cases (c == Value.type "enumerate") <;> (wp_walk using it1; exact ⟨_, rfl, hR⟩)
  · wp_walk using it1
    exact ⟨_, rfl, hR⟩
theorem enum_begins1 {prog : Program} {w : World} {A : Around} {E : Value → Shared → Prop} {s : Shared} {v : Value} {o : Obj} {G : Heap → Prop} {Q : Value → Shared → Prop} (B : Begins v o G) (hG : G s.heap)
    (k : ∀ h', IsEnum h' (s.heap.objs.size + 1) s.heap.objs.size 0 .none → h'.get? s.heap.objs.size = some o → h'.objs.size = s.heap.objs.size + 2 → (∀ b o, s.heap.get? b = some o → h'.get? b = some o) → Q (.ref (s.heap.objs.size + 1)) { s with heap := h' }) :
    wpAny (model prog w) A (call (.type "enumerate") [v]) Q E s := by
  refine callType_new F.called_enumerate (by decide) (F.typeCall_enumerate_1 _) (F.newCall_enumerate_1 _) (fun obj => F.args_object_init_2 obj _) F.entry_enumerate_new (enum_new1 B) ⟨hG, ?_⟩
  have e1 : (s.heap.push o).objs.size = s.heap.objs.size + 1 := Heap.size_push ..
  show _ ∧ _
  rw [e1]
  have e2 := Heap.get?_push_size (s.heap.push o) (o := { cls := .type "enumerate", data := .fields #[.none, .bool false, .ref s.heap.objs.size, rawInt 0, .none, .none] }) rfl
  rw [e1] at e2
  exact ⟨⟨_, e2, rfl⟩, k _ e2 (Heap.get?_push_of_some _ (Heap.get?_push_size _ B.free)) (by rw [Heap.size_push, e1]) fun b o q => Heap.get?_push_of_some _ (Heap.get?_push_of_some _ q)⟩
/-- enumerate(tuple) -/
def iEnumT (K : PySem.W.Frag) (ta : TA) : TI := fun σ H R => ta σ H fun vs H1 => ∃ a xs, vs = [.ref a] ∧ SqT K H1 a xs ∧ R (IteT K 0 a) H1
theorem pi_enumT {X : Cx} {e : Expr} {ta : TA} {p pos tpos : Pos} {elts : List Expr} {kk : Nat} (hg : Gl X "enumerate") (hm : X.mg "enumerate" = none) (ha : PA X [e] ta) (hs : starEach [e] X.env = [(false, eval e X.env)] := by rfl) :
    PI X (.Tuple elts kk tpos) (.Call (.Name "enumerate" p) [e] [] pos) (iEnumT X.K ta) := by
  refine ⟨fun pins s σ H R I h => ?_⟩
  refine Call_ (ld_blt I hg hm boot_enumerate (PyProof.Rows.callWith_type1 (thn (ha.run pos pins s σ H _ I h) fun us s1 ⟨vs, H1, I1, r1, q1⟩ => ?_) hs rfl))
  obtain ⟨a, xs, ex, hq, q⟩ := q1
  subst ex
  cases r1 with
  | cons r rr =>
    cases rr
    cases r
    obtain ⟨its, rv, p', hz⟩ := I1.tuple hq
    refine enum_begins1 (begins_tuple a its.toArray) (show s1.heap.IsTuple a its.toArray from p') fun h' he' hit hsz hkeep => wpAny_pyIter_enum he' ?_
    have I3 : Inv X pins σ H1 { s1 with heap := h' } := I1.kept (t' := s1.toks) hkeep
    exact ⟨s1.heap.objs.size + 1, [s1.heap.objs.size + 1, s1.heap.objs.size], _, _, H1, rfl, I3, turn_enumT 0 a (s1.heap.objs.size + 1) s1.heap.objs.size, ⟨⟨.none, he'⟩, ⟨_, hit, rfl, rfl⟩, Nat.succ_ne_self _⟩, fp_two I1, q⟩

section
variable {W : Wd} {K : PySem.W.Frag} {H H1 : Hp} {σ : L2.St} {D : Ends} {Q : VK} {v x y : V} {i j c : Int} {n m : Nat} {s z : Str} {b : Bool} {p a : Addr} {xs ys vs : List V}
variable {ta tb te : TE} {t u : TS} {tr tk : TA} {g : TG} {tS : TS}
/-! ### loops over anything that is walked -/
def FoW (J : It) (g : TG) (tb : TS) (D : Ends) (σ : L2.St) (H : Hp) : Prop := ∃ W : Nat → Nat → L2.St → Hp → Prop, (∃ m, W 0 m σ H) ∧ ∀ i m σ H, W i m σ H →
  (J.stop i H ∧ D.nx σ H) ∨ (J.go i H ∧ ∃ N : L2.St → Hp → Prop, (∀ σ' H', N σ' H' → ∃ m', m' < m ∧ W (i + 1) m' σ' H') ∧ ∀ x H', J.yld i H x H' → g x σ H' fun σ2 H2 => tb { D with nx := N, ct := N, bk := D.nx } σ2 H2)
theorem rd_forS (h : te σ H fun v H1 => ∃ x, v = .str x ∧ FoW (Its x) g tS D σ H1) : tFor (iStr te) g tS D σ H := h
theorem rd_srcS {P : Str → Prop} (k : P s) : ∃ x, V.str s = .str x ∧ P x := ⟨s, rfl, k⟩
theorem rd_forT (h : te σ H fun x H1 => ∃ a, x = .ref a ∧ (∃ xs, SqT K H1 a xs) ∧ FoW (Itt K a) g tS D σ H1) : tFor (iTup K te) g tS D σ H := h
theorem rd_srcT {P : Addr → Prop} (h : At W H a (.tup xs)) (k : P a) : ∃ a', V.ref a = .ref a' ∧ (∃ xs, SqT K H a' xs) ∧ P a' := ⟨a, rfl, ⟨xs, h.st⟩, k⟩
theorem rd_forE (h : tr σ H fun vs H1 => tk σ H1 fun zs H2 => ∃ a xs c, vs = [.ref a] ∧ zs = [.int c] ∧ -(2 ^ 63) ≤ c ∧ c < 2 ^ 63 ∧ SqL K H2 a xs ∧ FoW (IteL K c a) g tS D σ H2) : tFor (iEnumS K tr tk) g tS D σ H := h
theorem rd_srcE {P : Addr → Int → Prop} (h : At W H a (.lst xs)) (c0 : -(2 ^ 63) ≤ c) (c1 : c < 2 ^ 63) (k : P a c) : ∃ a' xs c', [V.ref a] = [.ref a'] ∧ [V.int c] = [.int c'] ∧ -(2 ^ 63) ≤ c' ∧ c' < 2 ^ 63 ∧ SqL K H a' xs ∧ P a' c' := ⟨a, xs, c, rfl, rfl, c0, c1, h.sl, k⟩
theorem rd_forET (h : tr σ H fun vs H1 => ∃ a xs, vs = [.ref a] ∧ SqT K H1 a xs ∧ FoW (IteT K 0 a) g tS D σ H1) : tFor (iEnumT K tr) g tS D σ H := h
theorem rd_srcET {P : Addr → Prop} (h : SqT K H a xs) (k : P a) : ∃ a' xs, [V.ref a] = [.ref a'] ∧ SqT K H a' xs ∧ P a' := ⟨a, xs, rfl, h, k⟩
theorem for_s (Pv : Nat → L2.St → Hp → Prop) (h0 : Pv 0 σ H) (hs : ∀ i c σ H, s.cps[i]? = some c → Pv i σ H → g (.str ⟨#[c]⟩) σ H fun σ2 H2 => tS { D with nx := Pv (i + 1), ct := Pv (i + 1), bk := D.nx } σ2 H2) (hd : ∀ σ H, Pv s.cps.size σ H → D.nx σ H) : FoW (Its s) g tS D σ H :=
  for_it walk_str Pv h0 (fun _ _ _ _ _ => trivial) (fun i x σ H H' hi p y => by
    obtain ⟨rfl, c, hc, rfl⟩ := y
    exact hs i c σ _ hc p) hd
theorem walk_enumL : Walk (IteL K c a) xs.length (fun H => SqL K H a xs) (YPair (fun i => some (.int (c + (i : Nat)))) (fun i => xs[i]?)) := by
  refine ⟨fun i _ hi q => ⟨xs, xs[i], q, by simp [hi]⟩, fun _ q => ⟨xs, q, Nat.le_refl _⟩, fun i H v H' _ q y => ?_⟩
  obtain ⟨T, x, h1, h2, h3, h4⟩ := y
  exact ⟨T, _, x, h1, h2, h3, rfl, h4 xs q⟩
theorem walk_enumT : Walk (IteT K c a) xs.length (fun H => SqT K H a xs) (YPair (fun i => some (.int (c + (i : Nat)))) (fun i => xs[i]?)) := by
  refine ⟨fun i _ hi q => ⟨xs, xs[i], q, by simp [hi]⟩, fun _ q => ⟨xs, q, Nat.le_refl _⟩, fun i H v H' _ q y => ?_⟩
  obtain ⟨T, x, h1, h2, h3, h4⟩ := y
  exact ⟨T, _, x, h1, h2, h3, rfl, h4 xs q⟩
theorem for_e (Pv : Nat → L2.St → Hp → Prop) (h0 : Pv 0 σ H) (hv : ∀ i σ H, Pv i σ H → W.iv H ∧ At W H a (.lst xs))
    (hs : ∀ i x T σ H H', xs[i]? = some x → Pv i σ H → H T = none → Ex W H H' → At W H' T (.tup [.int (c + (i : Nat)), x]) → g (.ref T) σ H' fun σ2 H2 => tS { D with nx := Pv (i + 1), ct := Pv (i + 1), bk := D.nx } σ2 H2)
    (hd : ∀ σ H, Pv xs.length σ H → D.nx σ H) : FoW (IteL K c a) g tS D σ H :=
  for_it (walk_enumL (xs := xs)) Pv h0 (fun i σ H _ p => (hv i σ H p).2.sl) (fun i x σ H H' hi p y => by
    obtain ⟨T, x1, x2, rfl, hT, rfl, e1, e2⟩ := y
    cases e1
    exact hs i x2 T σ H _ e2 p hT (Ex.new (hv i σ H p).1 hT) (At.new (hv i σ H p).1 hT)) hd
theorem for_et (hq : ∀ H, SqT K H a xs) (Pv : Nat → L2.St → Hp → Prop) (h0 : Pv 0 σ H) (hv : ∀ i σ H, Pv i σ H → W.iv H)
    (hs : ∀ i x T σ H H', xs[i]? = some x → Pv i σ H → H T = none → Ex W H H' → At W H' T (.tup [.int (c + (i : Nat)), x]) → g (.ref T) σ H' fun σ2 H2 => tS { D with nx := Pv (i + 1), ct := Pv (i + 1), bk := D.nx } σ2 H2)
    (hd : ∀ σ H, Pv xs.length σ H → D.nx σ H) : FoW (IteT K c a) g tS D σ H :=
  for_it (walk_enumT (xs := xs)) Pv h0 (fun i σ H _ p => hq H) (fun i x σ H H' hi p y => by
    obtain ⟨T, x1, x2, rfl, hT, rfl, e1, e2⟩ := y
    cases e1
    exact hs i x2 T σ H _ e2 p hT (Ex.new (hv i σ H p) hT) (At.new (hv i σ H p) hT)) hd
/-! ### comprehensions over anything that is walked: S is what holds of the items made (without the new list) -/
def LcW (J : It) (g : TG) (tt : TT) (te : TE) (ws : List Nat) (σ : L2.St) (H1 : Hp) (Q : VK) : Prop := ∀ D, H1 D = none → ∃ W : Nat → Nat → Hp → Prop, (∃ m, W 0 m (upd H1 D (.lst []))) ∧ ∀ i m H, W i m H →
  (J.stop i H ∧ Q (.ref D) H) ∨ (J.go i H ∧ ∃ Nx : Hp → Prop, (∀ H', Nx H' → ∃ m', m' < m ∧ W (i + 1) m' H') ∧ ∀ x H', J.yld i H x H' → g x (wipe σ ws) H' fun σ2 H2 => wipe σ2 ws = wipe σ ws ∧ tt σ2 H2 fun b H3 =>
    if b = true then te σ2 H3 fun y H4 => ∃ acc, H4 D = some (.lst acc) ∧ acc.length < sizeLine ∧ Nx (upd H4 D (.lst (acc ++ [y]))) else Nx H3)
theorem rd_lcS {tt : TT} {ws : List Nat} (h : ta σ H fun v H1 => ∃ x, v = .str x ∧ LcW (Its x) g tt te ws σ H1 Q) : tLc (iStr ta) g tt te ws σ H Q := h
theorem rd_lcR {tt : TT} {ws : List Nat} (h : tr σ H fun vs H1 => ∃ j : Int, vs = [.int j] ∧ -(2 ^ 62) ≤ j ∧ j < 2 ^ 62 ∧ LcW (Itr 0 j.toNat) g tt te ws σ H1 Q) : tLc (iRng1 tr) g tt te ws σ H Q := h
theorem rd_srcR {P : Int → Prop} (h1 : -(2 ^ 62) ≤ j) (h2 : j < 2 ^ 62) (k : P j) : ∃ j' : Int, [V.int j] = [V.int j'] ∧ -(2 ^ 62) ≤ j' ∧ j' < 2 ^ 62 ∧ P j' := ⟨j, rfl, h1, h2, k⟩
theorem rd_lcL {tt : TT} {ws : List Nat} (h : ta σ H fun x H1 => ∃ a, x = .ref a ∧ (∃ xs, SqL K H1 a xs) ∧ LcW (Itl K a) g tt te ws σ H1 Q) : tLc (iList K ta) g tt te ws σ H Q := h
theorem rd_srcL {P : Addr → Prop} (h : At W H a (.lst xs)) (k : P a) : ∃ a', V.ref a = .ref a' ∧ (∃ xs, SqL K H a' xs) ∧ P a' := ⟨a, rfl, ⟨xs, h.sl⟩, k⟩
theorem hide_none {D : Addr} (h : H D = none) : Lw.hide D H = H := by
  funext q
  unfold Lw.hide
  split
  · rename_i e; rw [e, h]
  · rfl
theorem lc_w {J : It} {G : Hp → Prop} {X : Nat → V → Prop} {tt : TT} (w : Walk J n G fun i H x H' => H' = H ∧ X i x) (S : Nat → List V → Hp → Prop) (i : W.iv H) (hn : n ≤ 50000) (hG : ∀ H', Ex W H H' → G H')
    (hm : ∀ k ys H1 H2, Ex W H1 H2 → S k ys H1 → S k ys H2) (h0 : S 0 [] H)
    (hs : ∀ k x D ys H' (QV : VK) (QN : Hp → Prop), k < n → X k x → H D = none → At W H' D (.lst ys) → Ex W H H' → S k ys (Lw.hide D H') → ys.length ≤ k →
      (∀ y H4, Ex W H' H4 → S (k + 1) (ys ++ [y]) (Lw.hide D H4) → QV y H4) → (∀ H3, Ex W H' H3 → S (k + 1) ys (Lw.hide D H3) → QN H3) →
      tt ((wipe σ [m]).set m (some x)) H' fun b H3 => if b = true then te ((wipe σ [m]).set m (some x)) H3 QV else QN H3)
    (k : ∀ D H2 ys, H D = none → Ex W H H2 → At W H2 D (.lst ys) → S n ys H2 → ys.length ≤ n → Q (.ref D) H2) : LcW J (gName m) tt te [m] σ H Q := by
  intro D hD
  refine lc_it w (fun k H' => ∃ ys, Ex W H H' ∧ At W H' D (.lst ys) ∧ S k ys (Lw.hide D H') ∧ ys.length ≤ k) ⟨[], Ex.new i hD, At.new i hD, ?_, Nat.le_refl _⟩ (fun k H' _ ⟨_, e, _⟩ => hG H' e) (fun k x H1 H' hk ⟨ys, e, hd, hS, hl⟩ hx => ?_) fun H' ⟨ys, e, hd, hS, hl⟩ => ?_
  · rw [hide_upd, hide_none hD]; exact h0
  · obtain ⟨rfl, hx⟩ := hx
    refine ⟨by show wipe _ _ = _; simp [wipe, List.set_set], ?_⟩
    refine hs k x D ys _ _ _ hk hx hD hd e hS hl (fun y H4 e4 q => ⟨ys, (e4.at_ hd).1, sz_lt (by omega), ys ++ [y], (e.trans e4).mut hD (e4.at_ hd), At.mut e4.iv (e4.at_ hd), ?_, by rw [List.length_append, List.length_singleton]; omega⟩) fun H3 e3 q => ⟨ys, e.trans e3, e3.at_ hd, q, by omega⟩
    rw [hide_upd]; exact q
  · exact k D H' ys hD e hd (hm _ _ _ _ (Ex.unhide e.iv hd) hS) hl
theorem rd_yes {QB : Bool → Hp → Prop} (h : QB true H) : tYes σ H QB := h
/-! ### dicts with ints or texts as keys -/
theorem rd_dnew (i : W.iv H) (k : ∀ p H2, H p = none → Ex W H H2 → At W H2 p (.dK []) → Q (.ref p) H2) : tDNewK σ H Q := new_of i k
def DGetG (Q : VK) (a : Addr) (y : V) (H : Hp) : Prop := ∃ o, DGet H a y o ∧ Q (o.getD .non) H
def DInG (Q : VK) (neg : Bool) (x y : V) (H : Hp) : Prop := ∃ a o, x = .ref a ∧ DGet H a y o ∧ Q (.bl (if neg then !o.isSome else o.isSome)) H
def DSetG (Q : VK) (a : Addr) (y z : V) (H : Hp) : Prop := ∃ (kvs : List (Key × V)) (k : Key), H a = some (.dK kvs) ∧ y = kV k ∧ kvs.length < sizeLine ∧ (∀ v, valV kvs k = some v → Q v H) ∧ (valV kvs k = none → Q z (upd H a (.dK (putK kvs k z))))
theorem rd_dget1 (h : ta σ H fun x H1 => ∃ a, x = .ref a ∧ IsD H1 a ∧ te σ H1 fun y H2 => DGetG Q a y H2) : tDGet1 ta te σ H Q := h
theorem rd_isD {kvs : List (Key × V)} {P : Addr → Prop} (h : At W H a (.dK kvs)) (k : P a) : ∃ a', V.ref a = .ref a' ∧ IsD H a' ∧ P a' := ⟨a, rfl, .inl ⟨kvs, .inl h.1⟩, k⟩
theorem rd_dgetS {kvs : List (Key × V)} (h : At W H a (.dK kvs)) (k : Q ((valV kvs (.inr z)).getD .non) H) : DGetG Q a (.str z) H := ⟨_, DGet.k (k := .inr z) h.1, k⟩
theorem rd_din (h : ta σ H fun y H1 => te σ H1 fun x H2 => DInG Q false x y H2) : tDIn ta te σ H Q := h
theorem rd_dnin (h : ta σ H fun y H1 => te σ H1 fun x H2 => DInG Q true x y H2) : tDNotIn ta te σ H Q := h
theorem rd_dinS {kvs : List (Key × V)} (h : At W H a (.dK kvs)) (k : Q (.bl (valV kvs (.inr z)).isSome) H) : DInG Q false (.ref a) (.str z) H := ⟨a, _, rfl, DGet.k (k := .inr z) h.1, k⟩
theorem rd_dput {tv : TE} (h : tv σ H fun v H1 => ta σ H1 fun x H2 => te σ H2 fun y H3 => ∃ a H4, x = .ref a ∧ DPut H3 a y v H4 ∧ D.nx σ H4) : sDPut ta te tv D σ H := h
theorem rd_dputS {kvs : List (Key × V)} {H0 : Hp} {P : Hp → Prop} (e : Ex W H0 H) (h0 : H0 a = none) (h : At W H a (.dK kvs)) (hl : kvs.length < 1000000) (k : ∀ H2, Ex W H0 H2 → At W H2 a (.dK (putK kvs (.inr z) v)) → (∀ q o, q ≠ a → At W H q o → At W H2 q o) → P H2) :
    ∃ a' H4, V.ref a = .ref a' ∧ DPut H a' (.str z) v H4 ∧ P H4 := ⟨a, _, rfl, DPut.k (k := .inr z) h.1 (sz_lt hl), k _ (e.mut h0 h) (.mut e.iv h) fun _ _ ne q => .other e.iv h q ne⟩
theorem rd_dsetd {tx : TE} (h : ta σ H fun x H1 => ∃ a, x = .ref a ∧ IsD H1 a ∧ te σ H1 fun y H2 => tx σ H2 fun z H3 => DSetG Q a y z H3) : tDSetd ta te tx σ H Q := h
theorem rd_dsetN {kvs : List (Key × V)} {H0 : Hp} (e : Ex W H0 H) (h0 : H0 a = none) (h : At W H a (.dK kvs)) (hl : kvs.length < 1000000) (hn : valV kvs (.inr z) = none) (k : ∀ H2, Ex W H0 H2 → At W H2 a (.dK (putK kvs (.inr z) v)) → (∀ q o, q ≠ a → At W H q o → At W H2 q o) → Q v H2) :
    DSetG Q a (.str z) v H := ⟨kvs, .inr z, h.1, rfl, sz_lt hl, fun v q => (by rw [hn] at q; cases q), fun _ => k _ (e.mut h0 h) (.mut e.iv h) fun _ _ ne q => .other e.iv h q ne⟩
/-! ### texts -/
section
variable {X : Cx}
def rEndsS : V → List V → Hp → VK → Prop := fun x xs H Q => ∃ a b, x = .str a ∧ xs = [.str b] ∧ Q (.bl (Txt.endswith a b)) H
theorem m_endswith : MtR X "str.endswith" rEndsS := mt_endswith
def rStartsS : V → List V → Hp → VK → Prop := fun x xs H Q => ∃ a b, x = .str a ∧ xs = [.str b] ∧ Q (.bl (Txt.startswith a b)) H
theorem m_startswith : MtR X "str.startswith" rStartsS := mt_startswith
def rFindS : V → List V → Hp → VK → Prop := fun x xs H Q => ∃ a b, x = .str a ∧ xs = [.str b] ∧ Q (.int (Txt.find a b)) H
theorem m_find : MtR X "str.find" rFindS := mt_find
def rSplitS : V → List V → Hp → VK → Prop := fun x xs H Q => ∃ a b, x = .str a ∧ xs = [.str b] ∧ (b.length == 0) = false ∧ a.length + 2 ≤ sizeLine ∧ rNewStrs (Txt.split a b) H Q
theorem m_split : MtR X "str.split" rSplitS := mt_split
def rInSg : R2 := fun x y H Q => ∃ (c : Nat) (z : Str), x = .str ⟨#[c]⟩ ∧ y = .str z ∧ Q (.bl (decide (c ∈ z.cps.toList))) H
theorem o_inSg : OpR X (compareOp .In) rInSg := op_in_sign
def rNinSg : R2 := fun x y H Q => ∃ (c : Nat) (z : Str), x = .str ⟨#[c]⟩ ∧ y = .str z ∧ Q (.bl (!decide (c ∈ z.cps.toList))) H
theorem o_ninSg : OpR X (compareOp .NotIn) rNinSg := op_notIn_sign
def rStrB : List V → Hp → VK → Prop := fun xs H Q => (∃ i, xs = [.int i] ∧ i.natAbs.log2 < 1920 ∧ Q (.str (toString i)) H) ∨ ∃ a, xs = [.str a] ∧ Q (.str a) H
theorem c_strB : CallR X (.type "str") rStrB := by
  intro pins s σ H xs us Q I rs h
  rcases h with ⟨i, e, h1, q⟩ | ⟨a, e, q⟩
  · exact call_str_int pins s σ H xs us Q I rs ⟨i, e, h1, q⟩
  · exact SkE.call_str_str pins s σ H xs us Q I rs ⟨a, e, q⟩
end
theorem rd_ends (k : Q (.bl (Txt.endswith s z)) H) : rEndsS (.str s) [.str z] H Q := ⟨_, _, rfl, rfl, k⟩
theorem rd_starts (k : Q (.bl (Txt.startswith s z)) H) : rStartsS (.str s) [.str z] H Q := ⟨_, _, rfl, rfl, k⟩
theorem rd_find (k : Q (.int (Txt.find s z)) H) : rFindS (.str s) [.str z] H Q := ⟨_, _, rfl, rfl, k⟩
theorem rd_split (i : W.iv H) (hz : (z.length == 0) = false) (h : s.length ≤ 1000000) (k : ∀ p H2, H p = none → Ex W H H2 → At W H2 p (.lst ((Txt.split s z).map V.str)) → Q (.ref p) H2) : rSplitS (.str s) [.str z] H Q :=
  ⟨_, _, rfl, rfl, hz, Nat.le_trans (Nat.add_le_add_right h 2) (by decide), new_of i k⟩
theorem rd_tyS {P : Prop} (k : P) : tyV K "str" (.str s) H ∧ P := ⟨rfl, k⟩
theorem rd_slS {lo hi : Option Int} (h : z.length ≤ 1000000) (k : Q (.str (cutS z lo hi)) H) : rSlS (.str z) lo hi H Q := ⟨z, rfl, sz_le h, k⟩
theorem rd_ixS {c : Nat} (h : z.length ≤ 1000000) (e : atI z.cps.toList i = some c) (k : Q (.str ⟨#[c]⟩) H) : rIxS (.str z) (.int i) H Q := ⟨z, i, c, rfl, rfl, sz_le h, e, k⟩
theorem rd_inSg {c : Nat} (k : Q (.bl (decide (c ∈ z.cps.toList))) H) : rInSg (.str ⟨#[c]⟩) (.str z) H Q := ⟨c, z, rfl, rfl, k⟩
theorem rd_ninSg {c : Nat} (k : Q (.bl (!decide (c ∈ z.cps.toList))) H) : rNinSg (.str ⟨#[c]⟩) (.str z) H Q := ⟨c, z, rfl, rfl, k⟩
theorem rd_strI (h : i.natAbs.log2 < 1920) (k : Q (.str (toString i)) H) : rStrB [.int i] H Q := .inl ⟨i, rfl, h, k⟩
theorem rd_strS (k : Q (.str s) H) : rStrB [.str s] H Q := .inr ⟨s, rfl, k⟩
theorem rd_rep (i : W.iv H) (h : At W H p (.lst xs)) (h0 : -(2 ^ 63) ≤ j) (h1 : j < 2 ^ 63) (hz : xs.length * j.toNat ≤ 1000000) (k : ∀ l H2, H l = none → Ex W H H2 → At W H2 l (.lst (List.replicate j.toNat xs).flatten) → Q (.ref l) H2) : rRep (.ref p) (.int j) H Q :=
  ⟨p, j, xs, rfl, rfl, h.1, h0, h1, sz_le hz, new_of i k⟩
end
def rJoinS (K : PySem.W.Frag) : V → List V → Hp → VK → Prop := fun x xs H Q => ∃ a p, ∃ ys : List Str, x = .str a ∧ xs = [.ref p] ∧ (SqL K H p (ys.map V.str) ∨ SqT K H p (ys.map V.str)) ∧
    (ys.map (·.length)).sum + ys.length * a.length ≤ 16777216 ∧ Q (.str (Txt.join a ys)) H
theorem m_join {X : Cx} : MtR X "str.join" (rJoinS X.K) := mt_join
theorem rd_join {W : Wd} {K : PySem.W.Frag} {H : Hp} {Q : VK} {s : Str} {p : Addr} {ys : List Str} (h : At W H p (.lst (ys.map V.str))) (hz : (ys.map (·.length)).sum + ys.length * s.length ≤ 16777216) (k : Q (.str (Txt.join s ys)) H) : rJoinS K (.str s) [.ref p] H Q :=
  ⟨s, p, ys, rfl, rfl, .inl h.sl, hz, k⟩
/-! ### a written dict with texts as keys -/
def rInKd (K : PySem.W.Frag) (d : Addr) : R2 := fun x y H Q => ∃ (z : Str) (r : Option Value), x = .str z ∧ y = .ref d ∧ PySem.W.nsIn K d z = some r ∧ Q (.bl r.isSome) H
def rNinKd (K : PySem.W.Frag) (d : Addr) : R2 := fun x y H Q => ∃ (z : Str) (r : Option Value), x = .str z ∧ y = .ref d ∧ PySem.W.nsIn K d z = some r ∧ Q (.bl (!r.isSome)) H
def rIxKd (K : PySem.W.Frag) (w : World) : R2 := fun x y H Q => ∃ p z v, x = .ref p ∧ y = .str z ∧ KDct K w p z v ∧ Q v H
section
variable {X : Cx} {d p : Addr} {es : Array DictEntry} {n : Nat} {K : PySem.W.Frag} {w : World} {H : Hp} {Q : VK} {z : Str} {r : Option Value} {v : V}
theorem o_inKd (D : KDict X.K X.w d es n) : OpR X (compareOp .In) (rInKd X.K d) := op_in_kd D
theorem o_ninKd (D : KDict X.K X.w d es n) : OpR X (compareOp .NotIn) (rNinKd X.K d) := op_notIn_kd D
theorem x_kd : IxR X (rIxKd X.K X.w) := ix_kdict
theorem rd_ninKd (h : PySem.W.nsIn K d z = some r) (k : Q (.bl (!r.isSome)) H) : rNinKd K d (.str z) (.ref d) H Q := ⟨z, r, rfl, rfl, h, k⟩
theorem rd_inKd (h : PySem.W.nsIn K d z = some r) (k : Q (.bl r.isSome) H) : rInKd K d (.str z) (.ref d) H Q := ⟨z, r, rfl, rfl, h, k⟩
theorem rd_ixKd (D : KDict K w d es n) {a : Addr} (h : PySem.W.nsIn K d z = some (some (.ref a))) (k : Q (.ref a) H) : rIxKd K w (.ref d) (.str z) H Q := ⟨d, z, .ref a, rfl, rfl, ⟨es, n, _, D.at_, D.lit, h, rfl⟩, k⟩
end
section
variable {H : Hp} {σ : L2.St} {Q : VK} {s : Str} {b c : Bool} {v x : V} {r r' : R2} {ta tb tc : TE}
theorem rd_chain (h : ta σ H fun x H1 => tb σ H1 fun y H2 => r x y H2 fun z H3 => ∃ k, z = .bl k ∧ (if k = true then tc σ H3 fun w' H4 => r' y w' H4 Q else Q (.bl false) H3)) : tChain r r' ta tb tc σ H Q := h
theorem at_inG {α : Type} {xs : List α} {i : Int} {v : α} (h : 0 ≤ i) (e : xs[i.toNat]? = some v) : atI xs i = some v := by
  have hl := (List.getElem?_eq_some_iff.mp e).1
  unfold atI ixN
  rw [if_pos h, if_pos (by omega)]
  exact e
theorem ifB_yes {A B : Prop} (e : b = true) (h : A) : if b = true then A else B := by rw [if_pos e]; exact h
theorem ifB_no {A B : Prop} (e : b = false) (h : B) : if b = true then A else B := by rw [if_neg (by rw [e]; decide)]; exact h
theorem ifNB_yes {A B : Prop} (e : b = false) (h : A) : if (!b) = true then A else B := by rw [e]; exact h
theorem ifNB_no {A B : Prop} (e : b = true) (h : B) : if (!b) = true then A else B := by rw [e]; exact h
theorem cast_bl (h : Q (.bl b) H) (e : b = c) : Q (.bl c) H := e ▸ h
theorem cast_str {z : Str} (h : Q (.str s) H) (e : s = z) : Q (.str z) H := e ▸ h
theorem cast_v (h : Q v H) (e : v = x) : Q x H := e ▸ h
end
end Lw

/-! Lx: the program's own exceptions: class X(..) over ValueError whose __init__ says super().__init__('..') and keeps its argument in a field. -/
namespace PySem
namespace SupX
open PySem.W PySem.Calls PyProof.Rows PySem.HandSPX
def iA (f : Str) (p1 p2 : Pos) : Arguments := { posonlyargs := [], args := [{ arg := "self", annotation := none, pos := p1 }, { arg := f, annotation := none, pos := p2 }], vararg := none, kwonlyargs := [], kw_defaults := [], kwarg := none, defaults := [] }
def iSup (m : Str) (n : Nat) (p0 p1 p2 p3 p4 p5 : Pos) : Stmt := .Expr (.Call (.Attribute (.Call (.Name "super" p0) [] [] p1) "__init__" p2) [.Constant (.str m) n p3] [] p4) p5
def iSt (f : Str) (q1 q2 q3 q4 : Pos) : Stmt := .Assign [.Attribute (.Name "self" q1) f q2] (.Name f q3) q4
def iS (f : Str) : Scope := { kind := .function, names := [(PySem.Str.ofString "self", .local), (f, .local), (PySem.Str.ofString "__class__", .free), (PySem.Str.ofString "super", .globalImplicit)], isGenerator := false, isCoroutine := false, more := [] }
/-- the field's name is none of the four -/
structure NmOk (f : Str) : Prop where
  a : (PySem.Str.ofString "self" == f) = false
  a' : (f == PySem.Str.ofString "self") = false
  b : (PySem.Str.ofString "super" == f) = false
  c : (PySem.Str.ofString "__class__" == f) = false
  d : (f == PySem.Str.ofString "__debug__") = false
/-- what the written part says of the class x, at C, and of its __init__, at fI -/
structure SupTxt (P : Program) (K : Frag) (mg : Str → Option Value) (x : Str) (f : Str) (C fI : Addr) : Prop where
  gC : mg x = some (.ref C)
  nm : NmOk f
  cls : ∃ nm q N bs bm sn sub ab col dd k0 k1 k2 k3 k5, K.lookup C = some (excClassObj nm q C N bs bm true sn sub ab col dd k0 k1 k2 k3 k5 "ValueError.__new__") ∧ refsVE bm = true
  sa : findIn K (.ref C) "__setattr__" = some (some (.builtin "object.__setattr__"))
  ga : findIn K (.ref C) "__getattribute__" = some (some (.builtin "BaseException.__getattribute__"))
  gg : findIn K (.ref C) "__getattr__" = some none
  noN : findIn K (.ref C) f = some none
  iC : findIn K (.ref C) "__init__" = some (some (.ref fI))
  tC : typeIn K (.ref fI) = some (.type "function")
  kC : keepIn K (.ref C) = true
  exC : subIn K (.ref C) (.type "BaseException") = some true
  tyC : typeIn K (.ref C) = some (.type "type")
  hdC : hasDictIn K C = true
  op : nsIn K cStatics "thirdparty.any" = some none
  along : ks_superIn K C C "__init__" = some (some (.builtin "ValueError.__init__"))
  hB : subIn K (.ref C) (.type "ValueError") = some true
  ms : mroIn K C (.ref C) = some true
  su : nsIn K mainGlobals "super" = some none
  top : (P.main.scope.names.lookup (PySem.Str.ofString "super")).isSome = false
  fn : ∃ (oc : Value) (od : Option Addr) (doc pm : Value) (an : Option Addr) (cda : Addr) (ct : Value) (osl : Array (Option Value)) (qual m : Str) (n : Nat) (p1 p2 a0 a1 a2 a3 a4 a5 q1 q2 q3 q4 : Pos) (cc : Addr),
    K.lookup fI = some ⟨oc, od, .func (ksFn "__init__" qual (iA f p1 p2) [iSup m n a0 a1 a2 a3 a4 a5, iSt f q1 q2 q3 q4] (iS f) .none .none doc pm an (.ref cda) ct cc), osl⟩ ∧ codeIn K (.ref cda) qual = true ∧
    (a2.endLine == a4.line) = true ∧ (∀ (s : Shared) (u v : Value), BindsTo s (ksFn "__init__" qual (iA f p1 p2) [iSup m n a0 a1 a2 a3 a4 a5, iSt f q1 q2 q3 q4] (iS f) .none .none doc pm an (.ref cda) ct cc) ⟨[u, v], []⟩ [("self", u), (f, v)]) ∧
    (∃ cl cld csl, K.lookup cc = some ⟨cl, cld, .cell (some (.ref C)), csl⟩) ∧ ∃ ccl cdd vs ccs file tf, K.lookup cda = some ⟨ccl, cdd, .fields vs, ccs⟩ ∧ vs[2]? = some (.str file tf) ∧ ((P.main.file : Str) == file) = true
/-- what __init__ leaves of a fresh exception at x -/
structure InitEnd (h h' : Heap) (x C dx t1 : Addr) (f : Str) (v : Value) : Prop where
  keep : ∀ b o, b ≠ x → h.get? b = some o → h'.get? b = some o
  obj : h'.get? x = some { cls := .ref C, dict := some dx, data := .fields #[.ref t1, .none, .none, .none, .bool false, .none] }
  dbig : h.objs.size ≤ dx
  dne : dx ≠ x
  ns : h'.Ns1 dx (fun y => if y = f then some v else none)
/-- a made one -/
structure OwnMade (h h' : Heap) (e C d : Addr) (f : Str) (v : Value) : Prop where
  keep : ∀ b o, h.get? b = some o → h'.get? b = some o
  new : h.objs.size ≤ e
  obj : ∃ oe vs, h'.get? e = some oe ∧ oe.cls = .ref C ∧ oe.dict = some d ∧ oe.data = .fields vs ∧ vs[1]? = some .none
  dbig : h.objs.size ≤ d
  dne : d ≠ e
  ns : h'.Ns1 d (fun y => if y = f then some v else none)
section
variable {prog : Program} {w : World} {A : Around} {E : Value → Shared → Prop} {h : Heap} {g : Array GenState} {d : Drawn} {t : Nat} {os : OsState}
variable {nm q : Str} {C N : Addr} {bs bm : List Value} {hdct : Bool} {sn : List Str} {sub : List Value} {ab : Bool} {col : Option Bool} {dd : Option Addr} {k0 k1 k2 k3 k5 : Option Value}
/-- the bound ValueError.__init__ called -/
theorem call_mw {u e t0 : Addr} {rest : List Value} {Q : Value → Shared → Prop}
    (hC : h.get? C = some (excClassObj nm q C N bs bm hdct sn sub ab col dd k0 k1 k2 k3 k5 "ValueError.__new__")) (he : h.get? e = some (excO C t0)) (hu : h.get? u = some (kxs_mw "ValueError.__init__" e)) (hrest : rest.length ≤ sizeLine)
    (hq : ∀ h' t1, (∀ b o, b ≠ e → h.get? b = some o → h'.get? b = some o) → h'.get? e = some (excO C t1) → Q .none ⟨h', g, d, t, os⟩) :
    wpAny (model prog w) A (call (.ref u) rest) Q E ⟨h, g, d, t, os⟩ := by
  refine wpAny_call (codeAny_of_tree ?_)
  show wpAny _ A.in1 (callAny (.ref u) ⟨rest, []⟩) _ _ _
  simp only [callAny]
  refine wpAny_bind (wpAny_load hu ?_)
  simp only [kxs_mw, show (Value.type "method-wrapper" == Value.type "method" || Value.type "method-wrapper" == Value.type "builtin_function_or_method" || Value.type "method-wrapper" == Value.type "method-wrapper") = true by decide, if_true]
  refine W.KFB.if_so (by decide) ?_
  refine wpAny_bind (ESX.check_bound F.excBase_ValueError hC he rfl ?_)
  refine wpAny_bind (wpAny_pure (wpAny_pure ?_))
  refine ⟨Code.quiet_builtin _ (by decide +kernel), codeAny_builtin F.excBase_ValueError.initEntry ?_⟩
  rw [Around.under_plainId F.excBase_ValueError.init.plain _]
  wp_walk
  refine hq _ h.objs.size (fun b o hb ho => ?_) ?_
  · rw [Heap.get?_update_other _ _ (Ne.symm hb)]
    exact Heap.get?_push_of_some _ ho
  · rw [Heap.get?_update_self _ (Heap.get?_push_of_some _ he) rfl]
    rfl
end
section
variable {prog : Program} {w : World} {A : Around} {E : Value → Shared → Prop} {R : Result → Shared → Prop} {s : Shared} {K : Frag} {mg mb : Str → Option Value} {x f : Str} {C fI : Addr}
theorem kind_of {f : Str} {e a : Addr} {q : Str} {cd : Value} {cc : Addr} (N : NmOk f) : (ksEnv q (iS f) e a cd cc).kindOf "super" = some .globalImplicit ∧ (ksEnv q (iS f) e a cd cc).kindOf "__class__" = some .free ∧ (ksEnv q (iS f) e a cd cc).kindOf "self" = some .local ∧ (ksEnv q (iS f) e a cd cc).kindOf f = some .local := by
  have e1 : ∀ y : Str, (ksEnv q (iS f) e a cd cc).kindOf y = (iS f).names.lookup y := fun _ => rfl
  have c1 : (PySem.Str.ofString "super" == PySem.Str.ofString "self") = false := by decide
  have c2 : (PySem.Str.ofString "super" == PySem.Str.ofString "__class__") = false := by decide
  have c3 : (PySem.Str.ofString "__class__" == PySem.Str.ofString "self") = false := by decide
  refine ⟨?_, ?_, ?_, ?_⟩ <;> rw [e1] <;> unfold iS <;> simp only [List.lookup, N.a, N.a', N.b, N.c, c1, c2, c3, beq_self_eq_true]
theorem bs_self {f : Str} (N : NmOk f) {u v : Value} : (([(PySem.Str.ofString "self", u), (f, v)] : List (Str × Value)).reverse.lookup (PySem.Str.ofString "self") = some u) := by
  simp [List.lookup, N.a]
theorem bs_f {f : Str} (N : NmOk f) {u v : Value} : (([(PySem.Str.ofString "self", u), (f, v)] : List (Str × Value)).reverse.lookup f = some v) := by
  simp [List.lookup, N.a]
theorem he_of {o : Expr} {name m : Str} {n : Nat} {apos p3 pos : Pos} {env : Env} (hpl : (apos.endLine == pos.line) = true) : eval (.Call (.Attribute o name apos) [.Constant (.str m) n p3] [] pos) env = (do
      let ov ← attributeBase o name env (eval o env)
      standAt apos.atName
      let (f, first) ← holding [ov] (getMethod ov name (do return (← importBound o env).getD true))
      callWith pos f first (backTo pos (starEach [.Constant (.str m) n p3] env)) []) := by
  have e : methodCallPos true o env apos pos = pure pos := by unfold methodCallPos; rw [hpl]; rfl
  show (attributeBase o name env (eval o env) >>= fun ov => standAt apos.atName >>= fun _ => holding [ov] (getMethod ov name (do return (← importBound o env).getD true)) >>= fun fx => methodCallPos true o env apos pos >>= fun cp => callWith cp fx.1 fx.2 (backTo pos (starEach [.Constant (.str m) n p3] env)) []) = _
  rw [e]
  rfl
theorem sup_init (T : SupTxt prog K mg x f C fI) {e t0 : Addr} {v : Value} (X : K.In s.heap) (hlim : s.heap.NoLimit) (G : s.heap.Ns mainGlobals mg) (hms : mg "super" = none) (B : s.heap.Ns builtinsNs mb) (hmb : mb "super" = some (.type "super"))
    (hx : s.heap.get? e = some (excO C t0)) (hnx : K.lookup e = none) (hroom : A.depth < recursionLimit)
    (hq : ∀ h' tk dx t1, InitEnd s.heap h' e C dx t1 f v → R (.ok (.ret .none)) { s with heap := h', toks := tk }) :
    codeAny (model prog w) A (.call (.ref fI) ⟨[.ref e, v], []⟩) R s := by
  obtain ⟨oc, od, doc, pm, an, cda, ct, osl, qual, m, n, p1, p2, a0, a1, a2, a3, a4, a5, q1, q2, q3, q4, cc, ho, hcd, hpl, hbd, ⟨cl, cld, csl, hcell⟩, ccl, cdd, vs, ccs, file, tf, hcode, hvs, hfile⟩ := T.fn
  obtain ⟨nm, q, N, bs, bm, sn, sub, ab, col, dd, k0, k1, k2, k3, k5, hC, hbm⟩ := T.cls
  have hcl : clsIn K C = some { name := nm, bases := bs, mro := .ref C :: bm, ns := N, qualname := q, hasDict := true, slotNames := sn, subclasses := sub, abstract := ab, collection := col, hasDel := false } := by unfold clsIn; rw [hC] <;> rfl
  have kd := fun (L : Addr) => kind_of (q := qual) (e := L) (a := fI) (cd := .ref cda) (cc := cc) T.nm
  refine ks_codeAny_call_defAt (fd := ksFn "__init__" qual (iA f p1 p2) [iSup m n a0 a1 a2 a3 a4 a5, iSt f q1 q2 q3 q4] (iS f) .none .none doc pm an (.ref cda) ct cc) (body := [iSup m n a0 a1 a2 a3 a4 a5, iSt f q1 q2 q3 q4])
    (binds := [(PySem.Str.ofString "self", .ref e), (f, v)]) hroom (X _ _ ho) rfl hlim (codeRec_of X hcd) rfl (hbd _ _ _) ?cell ?loc (fun h₁ hns hk => ?_) rfl rfl rfl
  case cell => 
    intro y hy
    simp only [ksFn, fnX, iS, List.mem_cons, List.not_mem_nil, or_false] at hy
    rcases hy with rfl | rfl | rfl | rfl <;> intro z <;> cases z
  case loc =>
    intro y hy
    simp only [List.mem_cons, List.not_mem_nil, or_false] at hy
    rcases hy with rfl | rfl
    · exact (kd 0).2.2.1
    · exact (kd 0).2.2.2
  have kd := kd s.heap.objs.size
  obtain ⟨hp, g, d, tk, os⟩ := s
  dsimp only at hns hk hx X G B hlim hq ⊢
  have X₁ : K.In h₁ := X.keeps hk
  have hx₁ := hk _ _ hx
  show _root_.PySem.wpAt (model prog w) _ (.func _ (ksEnv qual (iS f) hp.objs.size fI (.ref cda) cc)) (execs [iSup m n a0 a1 a2 a3 a4 a5, iSt f q1 q2 q3 q4] (ksEnv qual (iS f) hp.objs.size fI (.ref cda) cc)) _ _ _
  refine ks_wpAt_execs_cons (ks_wpAt_Expr_any (ks_wpAt_MethodCall ?_ (he_of hpl)))
  refine ks_wpAt_super_base (env := ksEnv qual (iS f) hp.objs.size fI (.ref cda) cc) kd.1 kd.2.1 (by decide) rfl (X₁ _ _ ho) rfl rfl rfl (X₁ _ _ hcode) rfl hvs hfile T.top ?_
  refine ks_loadName_global rfl kd.1 (loadGlobal_builtin (env := ksEnv qual (iS f) hp.objs.size fI (.ref cda) cc) (G.keeps hk) hms (B.keeps hk) hmb ⟨rfl, ?_⟩)
  refine wpAny_loadName_free rfl kd.2.1 rfl ⟨_, X₁ _ _ hcell, rfl⟩ ?_
  refine wpAny_loadName_local rfl kd.2.2.1 hns (bs_self T.nm) ?_
  have hCo := X₁ _ _ hC
  refine ks_wpAny_isType_cls hCo rfl ⟨rfl, ?_⟩
  refine ks_wpAny_call_super hCo rfl hx₁ rfl (fun c z => by cases z) (looks_mroIn X₁ T.ms) (fun h₂ hso hk₂ => ?_)
  have X₂ : K.In h₂ := X₁.keeps hk₂
  have hx₂ := hk₂ _ _ hx₁
  have eC : e ≠ C := fun z => by
    rw [z] at hnx
    rw [hnx] at hC
    cases hC
  have I₂ : InstAt h₂ e (excO C t0) C none := ⟨hx₂, rfl, rfl, trivial⟩
  have al := T.along
  unfold ks_superIn at al
  rw [hcl] at al
  refine kxs_getMethod kxs_ValueError (x := e) (D := C) (C := C) hso (looks_opaque X₂ T.op) (l₀ := .ref C :: bm) ?mro rfl X₂ al (I₂.type.andThen (looks_subIn X₂ T.hB)) eC (by decide) ?_
  case mro => exact fun A Q E s k q => wpAny_bind ((looks_clsIn X₂ hcl) A _ E s k (wpAny_pure q))
  have hu : (h₂.push (kxs_mw "ValueError.__init__" e)).get? h₂.objs.size = some (kxs_mw "ValueError.__init__" e) := Heap.get?_push_at rfl rfl
  have hk₃ : ∀ b o, h₂.get? b = some o → (h₂.push (kxs_mw "ValueError.__init__" e)).get? b = some o := fun b o z => Heap.get?_push_of_some _ z
  refine kxs_callWith (i := "ValueError.__init__") (x := e) (by rfl) (evalArgs_plain ?_)
  refine Calls.spliced_cons (Calls.Constant_str (k := n) (pos := a3) (Calls.spliced_nil ⟨hu, ?_⟩))
  refine call_mw (hk₃ _ _ (hk₂ _ _ hCo)) (hk₃ _ _ hx₂) hu (by show 1 ≤ sizeLine; rw [sizeLine_eq]; decide) (fun h₄ t1 hk₄ hx₄ => ?_)
  have keep : ∀ b o, b ≠ e → hp.get? b = some o → h₄.get? b = some o := fun b o nb z => hk₄ b o nb (hk₃ _ _ (hk₂ _ _ (hk _ _ z)))
  have X₄ : K.In h₄ := fun b o z => keep b o (fun q => by rw [q, hnx] at z; cases z) (X b o z)
  have neL : hp.objs.size ≠ e := Nat.ne_of_gt (Heap.lt_size hx)
  have hns₄ : h₄.Ns hp.objs.size (fun y => ([(PySem.Str.ofString "self", Value.ref e), (f, v)] : List (Str × Value)).reverse.lookup y) := by
    obtain ⟨oL, es, ep, hL, r⟩ := hns
    exact ⟨oL, es, ep, hk₄ _ _ neL (hk₃ _ _ (hk₂ _ _ hL)), r⟩
  refine ks_wpAt_execs_cons (wpAt_of_wpAny ?_)
  refine plainObj_wpAny_Assign_Attribute (wpAny_Name (wpAny_loadName_local rfl kd.2.2.2 hns₄ (bs_f T.nm) (wpAny_Name (wpAny_loadName_local rfl kd.2.2.1 hns₄ (bs_self T.nm) ?_) (by decide))) T.nm.d) (by rfl)
  refine set_plain X₄ (ox := excO C t1) (od := none) ⟨hx₄, rfl, rfl, trivial⟩ T.sa ?_
  refine exc_osa X₄ hx₄ hcl (show refsVE (.ref C :: bm) = true from hbm) rfl T.noN (fun h₅ tk₅ dx k₅ dn dne hx₅ hn₅ => ?_)
  have lt4 : hp.objs.size < h₄.objs.size := hns₄.lt
  refine wpAt_of_wpAny (wpAny_execs_nil (hq h₅ tk₅ dx t1 ⟨fun b o hb z => k₅ b o hb (keep b o hb z), hx₅, Nat.le_of_lt (Nat.lt_of_lt_of_le lt4 dn), dne, hn₅⟩))
theorem sup_made (T : SupTxt prog K mg x f C fI) {v : Value} (X : K.In s.heap) (hlim : s.heap.NoLimit) (G : s.heap.Ns mainGlobals mg) (hms : mg "super" = none) (B : s.heap.Ns builtinsNs mb) (hmb : mb "super" = some (.type "super")) (hroom : A.depth + 1 < recursionLimit)
    (hq : ∀ h' tk e d, OwnMade s.heap h' e C d f v → R (.ok (.ret (.ref e))) { s with heap := h', toks := tk }) :
    codeAny (model prog w) A (.call (.ref C) ⟨[v], []⟩) R s := by
  obtain ⟨nm, q, N, bs, bm, sn, sub, ab, col, dd, k0, k1, k2, k3, k5, hC, hbm⟩ := T.cls
  obtain ⟨hp, g, dr, tk, os⟩ := s
  have k : ∀ b o, hp.get? b = some o → ((hp.push (kdv_tup [v])).push (excO C hp.objs.size)).get? b = some o := fun b o e => Heap.get?_push_of_some _ (Heap.get?_push_of_some _ e)
  have hget : ((hp.push (kdv_tup [v])).push (excO C hp.objs.size)).get? (hp.objs.size + 1) = some (excO C hp.objs.size) := by heap_get
  have hnx : K.lookup (hp.objs.size + 1) = none := by
    cases e : K.lookup (hp.objs.size + 1) with
    | none => rfl
    | some o =>
      have z : hp.get? (hp.objs.size + 1) = some o := X _ _ e
      exact absurd (Nat.lt_of_succ_lt (Heap.lt_size z)) (Nat.lt_irrefl _)
  refine call_own F.excBase_ValueError (fun X => refsVE_contains X bm hbm) (X _ _ hC) (looks_findIn X T.iC) (fun self => bind_fn X self T.tC) (by show 1 ≤ sizeLine; rw [sizeLine_eq]; decide) ?_
  refine sup_init (s := ⟨(hp.push (kdv_tup [v])).push (excO C hp.objs.size), g, dr, tk, os⟩) T (X.keeps k) (hlim.keeps k) (G.keeps k) hms (B.keeps k) hmb hget hnx ?_ fun h' tk' dx t1 ⟨k', hx, dn, dne, hns⟩ => ?_
  · show A.depth + 1 < recursionLimit
    exact hroom
  · have old : ∀ b o, hp.get? b = some o → h'.get? b = some o := fun b o e => k' b o (Nat.ne_of_lt (Nat.lt_succ_of_lt (Heap.lt_size e))) (k b o e)
    have z : hp.objs.size + 1 + 1 ≤ dx := by
      first
        | (simpa only [Heap.size_push] using dn)
        | exact dn
        | (have q := dn; rw [Heap.size_push, Heap.size_push] at q; exact q)
    exact ⟨rfl, hq h' tk' (hp.objs.size + 1) dx ⟨old, Nat.le_succ _, ⟨_, _, hx, rfl, rfl, rfl, rfl⟩, Nat.le_trans (Nat.le_trans (Nat.le_succ _) (Nat.le_succ _)) z, dne, hns⟩⟩
end
end SupX
end PySem
namespace Lw
open PySem L2 PySem.Spec PyProof.Rows
section
variable {X : Cx} {C fI : Addr} {x f : Str}
theorem relO_f {f : Str} {v : V} {v' : Value} (r : RelV v v') (g : Str) : RelO (List.lookup g [(f, v)]) (if g = f then some v' else none) := by
  by_cases hw : g = f
  · subst hw
    rw [if_pos rfl]
    have q : List.lookup g [(g, v)] = some v := by simp [List.lookup]
    rw [q]
    exact r
  · rw [if_neg hw]
    have qw : (g == f) = false := by simpa using hw
    have q2 : List.lookup g [(f, v)] = none := by simp [List.lookup, qw]
    rw [q2]
    trivial
/-- x(e) -/
def tMkS (C : Addr) (f : Str) (ta : TA) : L2.St → Hp → XK → Prop := fun σ H Q => ta σ H fun vs H1 => ∃ v, vs = [v] ∧ ∀ d, H1 d = none → Q (.ref C) (some d) (upd H1 d (.xd [(f, v)]))
theorem pmk_sup {a : Expr} {ta : TA} {p pos : Pos} {k : Nat} (T : PySem.SupX.SupTxt X.prog X.K X.mg x f C fI) (hr : Room k X.A) (ha : PA X [a] ta) (hg : Gl X x := by rfl) (hdb : (x == ("__debug__" : Str)) = false := by decide)
    (he : starEach (a :: []) X.env = (false, eval a X.env) :: starEach [] X.env := by rfl) (hpl : (backTo pos (starEach [] X.env)).any (·.1) = false := by rfl) :
    PMk X (.Call (.Name x p) [a] [] pos) (tMkS C f ta) := by
  intro pins s σ H Q I h
  refine wpAny_Call_Name_kw (ld_glob I hg T.gC ?_ hdb)
  refine PySem.W.callWith_K (h₀ := X.base) I.ok.mod.kin T.kC (thn (ha.run pos pins s σ H _ I h) fun us s1 hh => ?_) he hpl
  obtain ⟨vs, H1, I1, r1, v, ev, q1⟩ := hh
  subst ev
  refine ⟨I1.kIn, ?_⟩
  cases r1 with
  | cons rv rn =>
    rename_i v' us'
    cases rn
    show wpAny _ _ (call (.ref C) [v']) _ _ _
    have hlim := I1.nolimit
    obtain ⟨mb, hb1, hb2⟩ := I1.mod.blt
    have hms : X.mg "super" = none := PySem.W.mg_none_of I1.ok.mod.kin I1.mod.glob T.su
    have hG := I1.mod.glob.keeps I1.bk
    have hB := hb1.keeps I1.bk
    have hmb : mb "super" = some (.type "super") := (hb2 "super" (by decide)).trans (by first | boot_by_name | rfl | kernel_rfl)
    obtain ⟨hp, g, dr, tk, os⟩ := s1
    refine wpAny_call (PySem.SupX.sup_made T I1.kIn hlim hG hms hB hmb (by have := hr.dp; omega) fun h' tk' e d M => ?_)
    show MkP X pins σ Q (.ref e) ⟨h', g, dr, tk', os⟩
    obtain ⟨oe, fv, hoe, hc, hd, hdat, h1⟩ := M.obj
    have hns := M.ns
    obtain ⟨G', g1, g2⟩ := restrict h' fun b => decide (b ≠ e)
    have gk : ∀ b, b ≠ e → G'.get? b = h'.get? b := fun b hb => g1 b (decide_eq_true hb)
    have ge : G'.get? e = none := g2 e (by simp)
    have old : ∀ b o, hp.get? b = some o → G'.get? b = some o := fun b o q => (gk b (Nat.ne_of_lt (Nat.lt_of_lt_of_le (Heap.lt_size q) M.new))).trans (M.keep b o q)
    have ob : ObjOk X.prog X.w (upd H1 d (.xd [(f, v)])) G' d (.xd [(f, v)]) :=
      ⟨_, hns.at (fun o q => (gk d M.dne).trans q), fun g => relO_f rv g⟩
    have J : Inv X pins σ (upd H1 d (.xd [(f, v)])) ⟨G', g, dr, tk', os⟩ := I1.laid (t' := tk') old M.dbig ob
    refine ⟨e, oe, fv, ⟨G', g, dr, tk', os⟩, _, .ref C, some d, rfl, J, fun b o q => ?_, ge, hoe, ⟨hc, hd⟩, hdat, h1, ?_, rfl, I1.bare, raises_own T.exC T.tyC, q1 d (I1.hok.fresh M.dbig)⟩
    · by_cases hb : b = e
      · have q' : G'.get? b = some o := q
        rw [hb, ge] at q'; cases q'
      · exact (gk b hb).symm.trans q
    · rw [upd_ne (Ne.symm M.dne)]
      exact I1.hok.fresh M.new
/-- raise x(e) -/
def tRaiseS (C : Addr) (f : Str) (W : WX) (ta : TA) : TS := fun _ σ H => tMkS C f ta σ H fun cls d H' => W cls d σ H'
theorem ps_raiseS {a : Expr} {ta : TA} {W : WX} {p pos pos2 : Pos} {k : Nat} (hc : X.calm = true) (T : PySem.SupX.SupTxt X.prog X.K X.mg x f C fI) (hr : Room k X.A) (tk : Takes X W) (ha : PA X [a] ta) (hg : Gl X x := by rfl) (hdb : (x == ("__debug__" : Str)) = false := by decide)
    (he : starEach (a :: []) X.env = (false, eval a X.env) :: starEach [] X.env := by rfl) (hpl : (backTo pos (starEach [] X.env)).any (·.1) = false := by rfl) :
    PS X (.Raise (some (.Call (.Name x p) [a] [] pos)) none pos2) (tRaiseS C f W ta) := ps_raise hc tk (pmk_sup T hr ha hg hdb he hpl)
end
end Lw

/-! Lg: defs that are called where no repr runs (so that they may ask repr of lists); repr of data; isinstance and fields of a caught error; enumerate and walks of a list or a tuple. -/
namespace Lw
open PySem L2 PySem.Spec PyProof.Rows
/-- a def's promise, kept wherever no repr is under way -/
structure FnG (P : Program) (w : World) (K : PySem.W.Frag) (mg : Str → Option Value) (base : Heap) (CX : CXT) (k : Nat) (f : Addr) (fd : FuncData) (ps : List Str) (sp : Sp) : Prop where
  len : ∀ vs H Q E, sp vs H Q E → vs.length = ps.length
  run : ∀ {A : Around} {outer : List Env} {s : Shared} {H : Hp} {args : Args} {us : List Value} {vs : List V} {Q : VK} {E : XK}, Room k A → A.guards = some [] → Env0 P w K mg base A outer s H → BindsTo s fd args (ps.zip us) → Vals vs us → sp vs H Q E →
    codeAny (model P w) A (.call (.ref f) args) (CR CX outer P w H s Q E) s
section
variable {P : Program} {w : World} {K : PySem.W.Frag} {mg : Str → Option Value} {base : Heap} {CX : CXT} {k : Nat} {f : Addr} {fd : FuncData} {ps N : List Str} {sp : Sp}
theorem FnG.of (F : FnOk P w K mg base CX k f fd ps sp) : FnG P w K mg base CX k f fd ps sp := ⟨F.len, fun hr _ e b r h => F.run _ _ _ _ _ _ _ _ _ hr e b r h⟩
/-- by its body -/
theorem fnG_body {name qual : Str} {params : Arguments} {body : List Stmt} {scope : Scope} {dV kV doc pm cdv ct oc : Value} {an od : Option Addr} {osl : Array (Option Value)}
    (lk : K.lookup f = some ⟨oc, od, .func (PySem.W.fnOf name qual params body scope dV kV doc pm an cdv ct), osl⟩) (hcd : PySem.W.codeIn K cdv qual = true) (S : FnScope N ps scope) (len : ∀ vs H Q E, sp vs H Q E → vs.length = ps.length)
    (hb : ∀ (A : Around) (outer : List Env) (s : Shared) (H : Hp) (vs : List V) (Q : VK) (E : XK), Room k (A.deeper (envOfC qual scope s.heap.objs.size f cdv)) → A.guards = some [] → sp vs H Q E →
      ∃ t, PSs (cxOf CX P w K mg base N qual scope f cdv A outer s H E) body t ∧ t { nx := fun _ H' => Q .non H', rt := Q } (start N vs) H) :
    FnG P w K mg base CX (k + 1) f (PySem.W.fnOf name qual params body scope dV kV doc pm an cdv ct) ps sp := by
  constructor
  · exact len
  intro A outer s H args us vs Q E hr hG e0 bnd rel h
  have inBase : ∀ b o, base.get? b = some o → s.heap.get? b = some o := fun b o e => (e0.bs b o e).1
  have KX : K.In s.heap := e0.mod.kin.keeps inBase
  have kinds : ∀ y ∈ ps.zip us, scope.names.lookup y.1 = some .local ∨ (scope.names.lookup y.1 = some .cell ∧ ((cellsFrom (s.heap.objs.size + 1) scope.names []).lookup y.1).isSome = true) := by
    rintro ⟨n, v⟩ hy
    have hn := (List.of_mem_zip hy).1
    exact (S.par n hn).imp id fun q => ⟨q, PySem.W.cellsFrom_some _ _ _ (.inl q)⟩
  refine codeAny_call_function hr.depth (KX _ _ lk) rfl S.co S.gen rfl (PySem.W.codeRec_of KX hcd) (bnd _ _ _ _ (wpAny_newFunctionEnv_cells S.kind kinds ?_))
  rintro env rfl s1 x
  obtain ⟨t, ht, hq⟩ := hb A outer s H vs Q E (hr.deeper _) hG h
  have I := inv_start (CX := CX) (E := E) S hr.hd e0 (len _ _ _ _ h) rel x
  refine ⟨(e0.mod.nolimit.keeps inBase).keeps x.toInCall.keep, codeAny_func (wpAny_mono (ht.run [] s1 (start N vs) H _ I hq) ?_ fun _ _ z => z)⟩
  intro fl s' hs
  cases fl with
  | next => obtain ⟨_, H', J, q⟩ := hs; exact ⟨.non, H', J.os, J.bare, J.base, J.hok, rfl, q⟩
  | ret u => obtain ⟨v, _, H', J, rv, q⟩ := hs; exact ⟨v, H', J.os, J.bare, J.base, J.hok, rv, q⟩
  | brk => obtain ⟨_, _, _, q⟩ := hs; cases q
  | cont => obtain ⟨_, _, _, q⟩ := hs; cases q
theorem Fun.okG {x qual : Str} {st : Stmt} (F : Fun K x qual st f fd) (S : FnScope N ps (defScope st)) (len : ∀ vs H Q E, sp vs H Q E → vs.length = ps.length)
    (hb : ∀ (cdv : Value) (A : Around) (outer : List Env) (s : Shared) (H : Hp) (vs : List V) (Q : VK) (E : XK), Room k (A.deeper (envOfC qual (defScope st) s.heap.objs.size f cdv)) → A.guards = some [] → sp vs H Q E →
      ∃ t, PSs (cxOf CX0 P w K mg base N qual (defScope st) f cdv A outer s H E).nox (defBody st) t ∧ t { nx := fun _ H' => Q .non H', rt := Q } (start N vs) H) : FnG P w K mg base CX0 (k + 1) f fd ps sp := by
  obtain ⟨_, _, _, _, _, _, cdv, _, _, rfl, lk, hcd⟩ := F.ex
  refine fnG_body lk hcd S len fun A outer s H vs Q E hr hG h => ?_
  obtain ⟨t, ht, q⟩ := hb cdv A outer s H vs Q E hr hG h
  exact ⟨t, ht.nox, q⟩
end
section
variable {X : Cx} {CX : CXT} {k : Nat} {f : Addr} {fd : FuncData} {ps : List Str} {sp : Sp} {E : XK} {x : Str} {p pos : Pos} {e : Expr} {es : List Expr} {t : TA} {ds : List Value} {dvs : List V}
theorem callee_G {pins : List (Addr × Obj)} {σ : L2.St} {H : Hp} {s : Shared} {Q : VK} {us : List Value} {vs : List V} (F : FnG X.prog X.w X.K X.mg X.base CX k f fd ps sp) (hr : Room k X.A) (hG : X.A.guards = some []) (hb : Binds X.K fd ps ds) (hd : Vals dvs ds) (hx : Passes CX X E)
    (I : Inv X pins σ H s) (r : Vals vs us) (h : sp (vs ++ dvs) H Q E) : wpAny (model X.prog X.w) X.A (call (.ref f) us) (EP X pins σ Q) X.xe s := by
  have both : Vals (vs ++ dvs) (us ++ ds) := r.append hd
  have n : (us ++ ds).length = ps.length := both.length.symm.trans (F.len _ _ _ _ h)
  refine wpAny_call (codeAny_mono (F.run hr hG I.env0 (hb s us I.kIn n) both h) ?_)
  rintro (er | fl) s' q
  · exact hx pins σ H s er s' I q
  · cases fl with
    | ret u => exact I.after q
    | next => cases q
    | brk => cases q
    | cont => cases q
theorem pe_callG (F : FnG X.prog X.w X.K X.mg X.base CX k f fd ps sp) (hG : X.A.guards = some []) (hr : Room k X.A) (hg : Gl X x) (hm : X.mg x = some (.ref f)) (hk : PySem.W.keepIn X.K (.ref f) = true) (hb : Binds X.K fd ps ds) (hd : Vals dvs ds) (hx : Passes CX X E)
    (ha : PA X (e :: es) t) (hdb : (x == ("__debug__" : Str)) = false := by decide) (he : starEach (e :: es) X.env = (false, eval e X.env) :: starEach es X.env := by rfl) (hpl : (backTo pos (starEach es X.env)).any (·.1) = false := by rfl) :
    PE X (.Call (.Name x p) (e :: es) [] pos) (tCall sp dvs E t) where
  run pins s σ H Q I h := by
    refine wpAny_Call_Name_kw (ld_glob I hg hm (PySem.W.callWith_K (h₀ := X.base) I.ok.mod.kin hk ?_ he hpl) hdb)
    refine thn (ha.run pos pins s σ H _ I h) ?_
    rintro us s1 ⟨vs, H1, I1, r, q⟩
    exact ⟨I1.kIn, callee_G F hr hG hb hd hx I1 r q⟩
/-- repr of data -/
def rReprD (K : PySem.W.Frag) : List V → Hp → VK → Prop := fun xs H Q => ∃ a d, xs = [.ref a] ∧ Dp K H (.ref a) d ∧ d.showable = true ∧ d.hasDict = false ∧ d.depth ≤ 50 ∧ d.shown.length ≤ sizeLine ∧ Q (.str d.shown) H
theorem c_repr (hG : X.A.guards = some []) (hu : X.A.units + 64 < cLine) : CallR X (.builtin "repr") (rReprD X.K) := by
  intro pins s σ H xs us Q I r h
  obtain ⟨a, d, rfl, hd, hs, hn, hdp, hl, q⟩ := h
  cases r with
  | cons rx rr =>
    cases rr
    obtain ⟨as, r1⟩ := Dp.reads I d _ _ hd rx
    cases rx
    refine repr_of_reads' r1 hs (PyData.noDict_hsm hn) hG (by omega) (fun _ _ z => z) (fun h' u tk hk => ?_) hl
    exact ⟨.str d.shown, H, I.kept (t' := tk) hk, ⟨_, rfl⟩, q⟩
end
/-! ### the head of a law whose def is kept by FnG -/
section
variable {P : Program} {w : World} {K : PySem.W.Frag} {mg mb : Str → Option Value} {k : Nat} {fa a : Addr} {fd : FuncData} {x : Str} {sp : Sp} {s₁ : Shared} {vs : List Value} {ns : List Int}
theorem head_G (KX : K.In s₁.heap) (hG : s₁.heap.Ns mainGlobals mg) (hB : s₁.heap.Ns builtinsNs mb) (hbt : ∀ x : Str, x ≠ "__name__" → mb x = bootBuiltins x) (hlim : s₁.heap.NoLimit) (hgen : s₁.gens = #[])
    (ha : s₁.heap.get? a = some { cls := .type "list", data := .seq vs.toArray }) (hi : IntsAre vs ns) (hl : ns.length ≤ sizeLine) (hr : Room k callerA)
    (F : ∀ base : Heap, K.In base → base.Ns mainGlobals mg → FnG P w K mg base CX0 k fa fd [x] sp) (hbind : ∀ (s : Shared) (u : Value), BindsTo s fd ⟨[u], []⟩ [(x, u)])
    (hsp : ∀ H : Hp, Only H → SqL K H a (ns.map V.int) → sp [.ref a] H (fun v _ => v = .bl true) fun _ _ _ => False) :
    codeAny (model P w) callerA (.call (.ref fa) ⟨[.ref a], []⟩) (fun r s' => r = .ok (.ret (.bool true)) ∧ OldK s₁.heap s'.heap ∧ s'.os = s₁.os ∧ AllBare s'.gens) s₁ := by
  have rv : Vals (ns.map V.int) vs := vals_ints hi
  obtain ⟨H, hH, hS⟩ : ∃ H : Hp, (∀ b u, H b = some u → b = a ∧ K.lookup a = none ∧ u = .frz { cls := .type "list", data := .seq vs.toArray } (.lst (ns.map V.int))) ∧ SqL K H a (ns.map V.int) := by
    cases q : K.lookup a with
    | none =>
      refine ⟨fun b => if b = a then some (.frz { cls := .type "list", data := .seq vs.toArray } (.lst (ns.map V.int))) else none, fun b u z => ?_, .inl (.inr ⟨_, if_pos rfl⟩)⟩
      by_cases e : b = a
      · have z := (if_pos e).symm.trans z
        exact ⟨e, rfl, (Option.some.inj z).symm⟩
      · cases (if_neg e).symm.trans z
    | some o =>
      have e := (KX a o q).symm.trans ha
      cases e
      exact ⟨fun _ => none, fun b u z => (by cases z), .inr ⟨_, vs.toArray, _, q, rfl, rfl, rfl, by rw [List.size_toArray, hi.length]; exact hl, by simpa using rv⟩⟩
  have off : ∀ {b o}, s₁.heap.get? b = some o → b ≠ a → H b = none := fun {b o} _ ne => by
    cases q : H b with
    | none => rfl
    | some u => exact absurd (hH b u q).1 ne
  have ns_at : ∀ {b : Addr} {m : Str → Option Value}, s₁.heap.Ns b m → (hidT s₁.heap H).Ns b m := by
    rintro b m ⟨o, es, ep, e, d, r⟩
    refine ⟨o, es, ep, hidT_get e (off e fun z => ?_), d, r⟩
    rw [z, ha] at e
    cases e
    cases (show Data.seq vs.toArray _ = Data.dict es ep from d)
  have kin : K.In (hidT s₁.heap H) := fun b o e => hidT_get (KX b o e) (by
    cases q : H b with
    | none => rfl
    | some u =>
      obtain ⟨rfl, n, _⟩ := hH b u q
      rw [n] at e; cases e)
  have okH : HOk P w H s₁.heap := fun b u z => by
    obtain ⟨rfl, _, rfl⟩ := hH b u z
    exact ⟨ha, by rw [List.length_map]; exact hl, vs, _, rv, ha⟩
  have only : Only H := fun b => by
    cases q : H b with
    | none => exact .inl rfl
    | some u => exact .inr ⟨_, _, congrArg some (hH b u q).2.2⟩
  have hM : Mod K mg (hidT s₁.heap H) := ⟨kin, ns_at hG, ⟨mb, ns_at hB, hbt⟩, let ⟨mc, n1, n2⟩ := hlim; ⟨mc, ns_at n1, n2⟩⟩
  have e0 : Env0 P w K mg (hidT s₁.heap H) callerA [] s₁ H := ⟨rfl, hM, fun _ _ e => of_hidT e, Nat.le_of_eq (hidT_size _ _), trivial, fun _ z => absurd z List.not_mem_nil, okH, .of_eq hgen⟩
  refine codeAny_mono ((F _ kin (ns_at hG)).run (us := [.ref a]) (vs := [.ref a]) hr rfl e0 (hbind s₁ (.ref a)) (.cons rfl .nil) (hsp H only hS)) ?_
  rintro (er | fl) s' h
  · exact False.elim h
  · cases fl with
    | next => cases h
    | brk => cases h
    | cont => cases h
    | ret u =>
      obtain ⟨v, H', os, bare, un, ok', r', (rfl : v = .bl true)⟩ := h
      obtain rfl : u = Value.bool true := r'
      refine ⟨rfl, OldK.of_keep fun b o e => ?_, os, bare⟩
      cases q : H b with
      | none => exact un.keep b o e q (fun z => absurd z List.not_mem_nil) (by simp)
      | some u =>
        obtain ⟨rfl, _, rfl⟩ := hH b u q
        have e1 := (okH _ _ q).1
        have e2 := (ok' _ _ (un.frzs _ _ _ q)).1
        exact e2.trans (e1.symm.trans e)
end
theorem walk_G {l : PySem.W.OpenLaw} {n k : Nat} {q : Program} {loose : List Str} {XP : (Str → Option Value) → Heap → Prop} {YP : World → Heap → Prop} {d : DefRec} {K : Params → PySem.W.Frag} {sp : PySem.W.Frag → Sp} {x : Str}
    (hn : l.most = some n) (hn2 : n ≤ sizeLine) (hdf : d.params.defaults = []) (hr : Room k callerA) (hY : ∀ (w : World) (h : Heap), YP w h → (K w.params).In h)
    (F : ∀ (w : World) (mg : Str → Option Value) (fa : Addr) (h : Heap), (K w.params).In h → h.Ns mainGlobals mg → mg d.name = some (.ref fa) →
      ∃ fd : FuncData, (∀ (s : Shared) (u : Value), BindsTo s fd ⟨[u], []⟩ [(x, u)]) ∧ ∀ base : Heap, (K w.params).In base → base.Ns mainGlobals mg → FnG l.prog w (K w.params) mg base CX0 k fa fd [x] (sp (K w.params)))
    (hsp : ∀ (K : PySem.W.Frag) (H : Hp) (a : Addr) (ns : List Int), ns.length ≤ n → Only H → SqL K H a (ns.map V.int) → sp K [.ref a] H (fun v _ => v = .bl true) fun _ _ _ => False) :
    PySem.W.WalkO q loose XP YP l.row.toRowW d [] (fun f vs => PySem.call f vs) := by
  refine Att.attach_call hn hdf fun w s₀ s₁ mg mb fa o pm cd doc a vs ns G Y ho hd hcd hmg hobj hints hlen hg => ?_
  have KX := hY w _ Y
  obtain ⟨fd, bnd, hF⟩ := F w mg fa _ KX G.T.g hmg
  exact head_G KX G.T.g G.T.b G.T.builtins G.T.nolimit hg hobj hints (Nat.le_trans hlen hn2) hr hF bnd fun H o1 o2 => hsp _ H a ns hlen o1 o2
/-! ### a caught error -/
/-- what the written part says of a caught error's class, for isinstance -/
structure IsC (K : PySem.W.Frag) (C : Addr) : Prop where
  cl : (PySem.W.clsIn K C).isSome = true
  ga : PySem.W.findIn K (.ref C) "__getattribute__" = some (some (.builtin "BaseException.__getattribute__"))
  gg : PySem.W.findIn K (.ref C) "__getattr__" = some none
  ex : PySem.W.subIn K (.ref C) (.type "BaseException") = some true
  fc : PySem.W.findIn K (.ref C) "__class__" = some (some (.builtin "object.__class__"))
  sp : PySem.W.specialIn K (.builtin "object.__class__") "__get__" = some (some (.builtin "getset_descriptor.__get__"))
  tk : PySem.W.takesIn K (.builtin "object.__class__") = some true
  ob : PySem.W.mroIn K C (.type "object") = some true
/-- isinstance(e, c), e the error that the suite holds at a -/
def rIsX (K : PySem.W.Frag) (cls : Value) (d : Option Addr) (a : Addr) : List V → Hp → VK → Prop := fun xs H Q => ∃ (C dd : Addr) (fs : List (Str × V)) (c : V) (cv : Value) (b : Bool), cls = .ref C ∧ d = some dd ∧ H dd = some (.xd fs) ∧ IsC K C ∧ xs = [.ref a, c] ∧ (∀ u, RelV c u → u = cv) ∧
  PySem.W.kitOne K (.ref C) cv = some b ∧ Q (.bl b) H
theorem c_isX {X : Cx} {a : Addr} {cls : Value} {d : Option Addr} {oe : Obj} {pn : List (Addr × Obj)} (hz : Zc cls d oe) (hf : ∃ vs, oe.data = .fields vs) : CallR (X.suite a ((a, oe) :: pn)) (.builtin "isinstance") (rIsX X.K cls d a) := by
  intro pins s σ H xs us Q I r h
  obtain ⟨C, dd, fs, c, cv, b, rfl, rfl, hd, T, rfl, hcv, e, q⟩ := h
  cases r with
  | cons rx rr =>
    cases rr with
    | cons rt rr =>
      cases rr
      cases rx
      cases hcv _ rt
      have at_ := (I.pin (a, oe) (List.mem_append_left _ List.mem_cons_self)).1
      obtain ⟨vs, hv⟩ := hf
      have hx : ObjOk X.prog X.w H s.heap dd (.xd fs) := I.hok dd _ hd
      obtain ⟨mA, hns, _⟩ := hx
      obtain ⟨od, ho, _⟩ := lookIn_ns hns
      have J : PySem.W.InstAt s.heap a oe C (some od) := ⟨at_, hz.1, by unfold PySem.W.notCls; rw [hv] <;> rfl, by rw [hz.2]; exact ho⟩
      exact PySem.W.kia_one (PySem.W.kitx_exc T.cl T.ga T.gg T.ex T.fc T.sp T.tk T.ob) I.kIn J e (fun z => nomatch z) fun tk => ⟨.bl b, H, I.kept (t' := tk) fun _ _ z => z, rfl, q⟩
theorem xfC_of {P : Program} {K : PySem.W.Frag} {mg : Str → Option Value} {x f : Str} {C fI : Addr} (T : PySem.SupX.SupTxt P K mg x f C fI) : XfC K C := ⟨T.ga, T.gg, T.exC, T.hdC⟩
/-! ### the end's facts -/
def keyS (e : DictEntry) : Option Str := match e.key with
  | .str z _ => some z
  | _ => none
theorem ns_miss {K : PySem.W.Frag} {a : Addr} {es : Array DictEntry} {n : Nat} {dd : Option Addr} {sl : Array (Option Value)} {ks : List Str} {z : Str} (l : K.lookup a = some ⟨.type "dict", dd, .dict es n, sl⟩) (h : es.toList.map keyS = ks.map some) (hz : z ∉ ks) : PySem.W.nsIn K a z = some none := by
  have key : ∀ (xs : List DictEntry) (ks : List Str), xs.map keyS = ks.map some → z ∉ ks → xs.find? (·.key.isStr z) = none ∧ xs.any (·.refKey) = false := by
    intro xs
    induction xs with
    | nil => intro _ _ _; exact ⟨rfl, rfl⟩
    | cons x xs ih =>
      intro ks h hz
      cases ks with
      | nil => cases h
      | cons k ks =>
        rw [List.map_cons, List.map_cons] at h
        injection h with h1 h2
        obtain ⟨i1, i2⟩ := ih ks h2 fun q => hz (List.mem_cons_of_mem _ q)
        obtain ⟨kh, ke, kv⟩ := x
        unfold keyS at h1
        cases ke with
        | str y t =>
          have e : y = k := by injection h1
          subst e
          have ne : (y == z) = false := by
            refine Bool.eq_false_iff.mpr fun q => hz ?_
            rw [← beq_iff_eq.mp q]
            exact List.mem_cons_self
          refine ⟨?_, ?_⟩
          · rw [List.find?_cons]
            have : (Value.str y t).isStr z = false := ne
            simp only [this]
            exact i1
          · rw [List.any_cons, i2]; rfl
        | _ => cases h1
  obtain ⟨h1, h2⟩ := key _ _ h hz
  unfold PySem.W.nsIn
  rw [l]
  simp only [h1, h2]
  rfl
theorem exm_own {K : PySem.W.Frag} {C : Addr} (h1 : PySem.W.subIn K (.ref C) (.type "BaseException") = some true) (h2 : PySem.W.isClsIn K C = true) (h3 : PySem.W.typeIn K (.ref C) = some (.type "type")) (h4 : PySem.W.subIn K (.ref C) (.ref C) = some true) : PySem.W.exmOne K (.ref C) (.ref C) = some true := by
  have h2' : (PySem.W.clsIn K C).isSome = true := h2
  show (if (PySem.W.subIn K (.ref C) (.type "BaseException") == some true) = true then (if ((PySem.W.clsIn K C).isSome && PySem.W.typeIn K (.ref C) == some (.type "type")) = true then PySem.W.subIn K (.ref C) (.ref C) else none) else none) = some true
  rw [h1, h2', h3]
  exact h4
/-! ### either of two roads, chosen by the state -/
theorem pi_or {X : Cx} {tg it : Expr} {t u : TI} (h1 : PI X tg it t) (h2 : PI X tg it u) : PI X tg it (fun σ H R => t σ H R ∨ u σ H R) :=
  ⟨fun pins s σ H R I h => h.elim (h1.run pins s σ H R I) (h2.run pins s σ H R I)⟩
end Lw

/-! Lq: forward steps over what is a list or a tuple. -/
namespace Lw
open PySem L2 PySem.Spec PyProof.Rows
/-- a list or a tuple -/
def SqA (W : Wd) (H : Hp) (a : Addr) (xs : List V) : Prop := At W H a (.lst xs) ∨ At W H a (.tup xs)
/-- a plain value -/
inductive Pl : V → Prop
  | non : Pl .non
  | bl (b : Bool) : Pl (.bl b)
  | int (i : Int) : Pl (.int i)
  | str (s : Str) : Pl (.str s)
theorem Pl.flat {v : V} (h : Pl v) : flatV v = true := by cases h <;> rfl
section
variable {W : Wd} {K : PySem.W.Frag} {H H1 : Hp} {σ : L2.St} {D : Ends} {Q : VK} {v x y : V} {i j c : Int} {n m : Nat} {s z : Str} {b : Bool} {p a : Addr} {xs ys vs : List V}
variable {ta tb te : TE} {t u : TS} {tr tk ta' : TA} {g : TG} {tS : TS} {tt : TT}
theorem SqA.ex (e : Ex W H H1) (h : SqA W H a xs) : SqA W H1 a xs := h.imp e.at_ e.at_
theorem SqA.ofL (h : At W H a (.lst xs)) : SqA W H a xs := .inl h
theorem SqA.ofT (h : At W H a (.tup xs)) : SqA W H a xs := .inr h
theorem SqA.raw (h : SqA W H a xs) : SqL K H a xs ∨ SqT K H a xs := h.imp At.sl At.st
theorem rd_ixQ (h : SqA W H p xs) (e : atI xs i = some v) (k : Q v H) : rIx K (.ref p) (.int i) H Q := by
  rcases h with h | h
  · exact .inl ⟨p, xs, i, v, rfl, rfl, h.sl, e, k⟩
  · exact .inr (.inl ⟨p, xs, i, v, rfl, rfl, h.st, e, k⟩)
theorem rd_lenQ (h : SqA W H p xs) (k : Q (.int xs.length) H) : rLen K [.ref p] H Q := ⟨p, xs, rfl, h.raw, k⟩
theorem rd_lenK (h : SqT K H p xs) (k : Q (.int xs.length) H) : rLen K [.ref p] H Q := ⟨p, xs, rfl, .inr h, k⟩
theorem rd_tupQ (i : W.iv H) (h : SqA W H p xs) (k : ∀ t H2, Ex W H H2 → At W H2 t (.tup xs) → Q (.ref t) H2) : rTupO K [.ref p] H Q := by
  rcases h with h | h
  · exact ⟨p, xs, rfl, .inl ⟨h.sl, new_of i fun q H2 _ e a => k q H2 e a⟩⟩
  · exact ⟨p, xs, rfl, .inr ⟨h.st, k p H (Ex.refl i) h⟩⟩
theorem SqA.ty (h : SqA W H a xs) : TyX K H (.ref a) (.type "list") ∨ TyX K H (.ref a) (.type "tuple") := h.imp (fun h => .base (.lst h.raw)) fun h => .base (.tup h.raw)
/-- isinstance(x, (list, tuple)) -/
theorem rd_isRow {tp : Addr} (h : SqA W H a xs) (ht : H tp = some (.tup [.ty "list", .ty "tuple"])) (k : Q (.bl true) H) : rIsiT K [.ref a, .ref tp] H Q := by
  have cs : Paired ClsV [V.ty "list", V.ty "tuple"] [Value.type "list", Value.type "tuple"] := .cons (.ty _) (.cons (.ty _) .nil)
  rcases h.ty (K := K) with q | q
  · exact ⟨_, tp, _, _, _, true, rfl, ht, cs, q, by kernel_rfl, k⟩
  · exact ⟨_, tp, _, _, _, true, rfl, ht, cs, q, by kernel_rfl, k⟩
/-- for i, x in enumerate(xs), xs a name -/
theorem for_eq (hv : σ[m]? = some (some (.ref a))) (h : SqA W H a xs) (Pv : Nat → L2.St → Hp → Prop) (h0 : Pv 0 σ H) (hg : ∀ i σ' H', Pv i σ' H' → Ex W H H')
    (hs : ∀ i x T σ' H1 H', xs[i]? = some x → Pv i σ' H1 → H1 T = none → Ex W H1 H' → At W H' T (.tup [.int ((i : Nat) : Int), x]) → g (.ref T) σ' H' fun σ2 H2 => tS { D with nx := Pv (i + 1), ct := Pv (i + 1), bk := D.nx } σ2 H2)
    (hd : ∀ σ' H', Pv xs.length σ' H' → D.nx σ' H') : tFor (fun σ H R => iEnum K (tCons (tVar m) tNil) σ H R ∨ iEnumT K (tCons (tVar m) tNil) σ H R) g tS D σ H := by
  rcases h with h | h
  · refine .inl ⟨.ref a, hv, a, xs, rfl, h.sl, ?_⟩
    refine for_it (walk_enum (xs := xs)) Pv h0 (fun i σ H _ p => ((hg i σ H p).at_ h).sl) (fun i x σ H H' hi p y => ?_) hd
    obtain ⟨T, x1, x2, rfl, hT, rfl, e1, e2⟩ := y
    cases e1
    exact hs i x2 T σ H _ e2 p hT (Ex.new (hg i σ H p).iv hT) (At.new (hg i σ H p).iv hT)
  · refine .inr ⟨.ref a, hv, a, xs, rfl, h.st, ?_⟩
    refine for_it (walk_enumT (xs := xs)) Pv h0 (fun i σ H _ p => ((hg i σ H p).at_ h).st) (fun i x σ H H' hi p y => ?_) hd
    obtain ⟨T, x1, x2, rfl, hT, rfl, e1, e2⟩ := y
    cases e1
    have z := hs i x2 T σ H (upd H T (.tup [.int ((i : Nat) : Int), x2])) e2 p hT (Ex.new (hg i σ H p).iv hT) (At.new (hg i σ H p).iv hT)
    rwa [show (0 + ((i : Nat) : Int)) = (i : Int) from Int.zero_add _]
/-- [e for x in xs], xs a name: S is what holds of the items made (without the new list) -/
theorem lc_q (hv : σ[n]? = some (some (.ref a))) (h : SqA W H a xs) (i : W.iv H) (hn : xs.length ≤ 50000) (S : Nat → List V → Hp → Prop) (hm : ∀ k ys H1 H2, Ex W H1 H2 → S k ys H1 → S k ys H2) (h0 : S 0 [] H)
    (hs : ∀ k x D ys H' (QV : VK) (QN : Hp → Prop), k < xs.length → xs[k]? = some x → H D = none → At W H' D (.lst ys) → Ex W H H' → S k ys (Lw.hide D H') → ys.length ≤ k →
      (∀ y H4, Ex W H' H4 → S (k + 1) (ys ++ [y]) (Lw.hide D H4) → QV y H4) → (∀ H3, Ex W H' H3 → S (k + 1) ys (Lw.hide D H3) → QN H3) →
      tt ((wipe σ [m]).set m (some x)) H' fun b H3 => if b = true then te ((wipe σ [m]).set m (some x)) H3 QV else QN H3)
    (k : ∀ D H2 ys, H D = none → Ex W H H2 → At W H2 D (.lst ys) → S xs.length ys H2 → ys.length ≤ xs.length → Q (.ref D) H2) :
    tLc (fun σ H R => iList K (tVar n) σ H R ∨ iTup K (tVar n) σ H R) (gName m) tt te [m] σ H Q := by
  rcases h with h | h
  · exact .inl ⟨.ref a, hv, a, rfl, ⟨xs, h.sl⟩, lc_w (X := fun i x => xs[i]? = some x) walk_list S i hn (fun H' e => (e.at_ h).sl) hm h0 hs k⟩
  · exact .inr ⟨.ref a, hv, a, rfl, ⟨xs, h.st⟩, lc_w (X := fun i x => xs[i]? = some x) walk_tup S i hn (fun H' e => (e.at_ h).st) hm h0 hs k⟩
def rUpperS : V → List V → Hp → VK → Prop := fun x xs H Q => ∃ a, x = .str a ∧ xs = [] ∧ a.length ≤ 5592405 ∧ Q (.str (Txt.upper a)) H
theorem m_upper {X : Cx} : MtR X "str.upper" rUpperS := mt_upper
theorem rd_upper (h : s.length ≤ 1000000) (k : Q (.str (Txt.upper s)) H) : rUpperS (.str s) [] H Q := ⟨s, rfl, rfl, Nat.le_trans h (by decide), k⟩
theorem rd_bm0 {T : String} {r : V → List V → Hp → VK → Prop} (h : ta σ H fun x H1 => tyV K T x H1 ∧ r x [] H1 Q) : tBM0 K T r ta σ H Q := h
/-! ### raising -/
theorem rd_raiseS {C : Addr} {f : Str} {Wx : WX} (h : ta' σ H fun vs H1 => ∃ v, vs = [v] ∧ ∀ d, H1 d = none → Wx (.ref C) (some d) σ (upd H1 d (.xd [(f, v)]))) : tRaiseS C f Wx ta' D σ H := h
/-- the error's dict is new -/
theorem rd_newX {C : Addr} {f : Str} {Wx : WX} (i : W.iv H) (k : ∀ d H2, Ex W H H2 → At W H2 d (.xd [(f, v)]) → Wx (.ref C) (some d) σ H2) : ∃ v', [v] = [v'] ∧ ∀ d, H d = none → Wx (.ref C) (some d) σ (upd H d (.xd [(f, v')])) :=
  ⟨v, rfl, fun d hd => k d _ (Ex.new i hd) (At.new i hd)⟩
theorem rd_callS {sp : Sp} {E : L2.St → XK} (h : tr σ H fun vs H1 => sp vs H1 Q (E σ)) : tCallS sp E tr σ H Q := h
theorem rd_isX {cls : Value} {d : Option Addr} {C dd : Addr} {fs : List (Str × V)} {cv : Value} (h : At W H dd (.xd fs)) (e1 : cls = .ref C) (e2 : d = some dd) (T : IsC K C) (hc : ∀ u, RelV x u → u = cv) (e : PySem.W.kitOne K (.ref C) cv = some b) (k : Q (.bl b) H) : rIsX K cls d a [.ref a, x] H Q :=
  ⟨C, dd, fs, x, cv, b, e1, e2, h.1, T, rfl, hc, e, k⟩
theorem rd_xf {cls : Value} {d : Option Addr} {C dd : Addr} {f : Str} (hv : σ[m]? = some (some (.ref a))) (h : At W H dd (.xd [(f, v)])) (e1 : cls = .ref C) (e2 : d = some dd) (k : Q v H) : tXf a cls d C f (tVar m) σ H Q :=
  ⟨_, hv, rfl, e1, dd, _, v, e2, h.1, by simp [List.lookup], k⟩
end
end Lw

/-! Lh: f-strings, dicts by ints, walks of tuples that stand in the heap. -/
namespace Lw
open PySem L2 PySem.Spec PyProof.Rows
section
variable {W : Wd} {K : PySem.W.Frag} {H H1 : Hp} {σ : L2.St} {D : Ends} {Q : VK} {v x y : V} {i j c : Int} {n m : Nat} {s z : Str} {b : Bool} {p a : Addr} {xs ys vs : List V}
variable {ta tb te : TE} {t u : TS} {tr tk : TA} {g : TG} {tS : TS}
def FmtG (Q : VK) (x : V) (H : Hp) : Prop := (∃ y : Str, x = .str y ∧ y.length ≤ sizeLine ∧ Q (.str y) H) ∨ ∃ i : Int, x = .int i ∧ i.natAbs.log2 < 1920 ∧ Q (.str (toString i)) H
theorem rd_fmt (h : te σ H fun x H1 => FmtG Q x H1) : tFmt te σ H Q := h
theorem rd_fmtS (h : s.length ≤ 1000000) (k : Q (.str s) H) : FmtG Q (.str s) H := .inl ⟨s, rfl, sz_le h, k⟩
theorem rd_fmtI (h : i.natAbs.log2 < 1920) (k : Q (.str (toString i)) H) : FmtG Q (.int i) H := .inr ⟨i, rfl, h, k⟩
def JsG (ts : List TE) (acc : Str) (σ : L2.St) (QS : Str → Hp → Prop) (x : V) (H : Hp) : Prop := ∃ y : Str, x = .str y ∧ (acc ++ y).length ≤ sizeLine ∧ tJs ts (acc ++ y) σ H QS
theorem rd_js {ts : List TE} {acc : Str} {QS : Str → Hp → Prop} (h : te σ H fun x H1 => JsG ts acc σ QS x H1) : tJs (te :: ts) acc σ H QS := h
theorem rd_jsS {ts : List TE} {acc : Str} {QS : Str → Hp → Prop} (h : (acc ++ s).length ≤ 1000000) (k : tJs ts (acc ++ s) σ H QS) : JsG ts acc σ QS (.str s) H := ⟨s, rfl, sz_le h, k⟩
theorem rd_js0 {acc : Str} {QS : Str → Hp → Prop} (k : QS acc H) : tJs [] acc σ H QS := k
theorem rd_dinI {kvs : List (Key × V)} (h : At W H a (.dK kvs)) (k : Q (.bl (valV kvs (.inl i)).isSome) H) : DInG Q false (.ref a) (.int i) H := ⟨a, _, rfl, DGet.k (k := .inl i) h.1, k⟩
theorem rd_dputI {kvs : List (Key × V)} {H0 : Hp} {P : Hp → Prop} (e : Ex W H0 H) (h0 : H0 a = none) (h : At W H a (.dK kvs)) (hl : kvs.length < 1000000) (k : ∀ H2, Ex W H0 H2 → At W H2 a (.dK (putK kvs (.inl i) v)) → (∀ q o, q ≠ a → At W H q o → At W H2 q o) → P H2) :
    ∃ a' H4, V.ref a = .ref a' ∧ DPut H a' (.int i) v H4 ∧ P H4 := ⟨a, _, rfl, DPut.k (k := .inl i) h.1 (sz_lt hl), k _ (e.mut h0 h) (.mut e.iv h) fun _ _ ne q => .other e.iv h q ne⟩
/-- over a tuple of the heap -/
theorem for_t (Pv : Nat → L2.St → Hp → Prop) (h0 : Pv 0 σ H) (hl : ∀ i σ H, Pv i σ H → At W H a (.tup xs)) (hs : ∀ i x σ H, xs[i]? = some x → Pv i σ H → g x σ H fun σ2 H2 => tS { D with nx := Pv (i + 1), ct := Pv (i + 1), bk := D.nx } σ2 H2) (hd : ∀ σ H, Pv xs.length σ H → D.nx σ H) : FoW (Itt K a) g tS D σ H :=
  for_it (walk_tup (xs := xs)) Pv h0 (fun i σ H _ p => (hl i σ H p).st) (fun i x σ H H' hi p y => by
    obtain ⟨rfl, e⟩ := y
    exact hs i x σ _ e p) hd
theorem rd_srcET2 {P : Addr → Prop} (h : At W H a (.tup xs)) (k : P a) : ∃ a' xs, [V.ref a] = [.ref a'] ∧ SqT K H a' xs ∧ P a' := ⟨a, xs, rfl, h.st, k⟩
/-- enumerate of a tuple of the heap -/
theorem for_etA (Pv : Nat → L2.St → Hp → Prop) (h0 : Pv 0 σ H) (hv : ∀ i σ H, Pv i σ H → W.iv H ∧ At W H a (.tup xs))
    (hs : ∀ i x T σ H H', xs[i]? = some x → Pv i σ H → H T = none → Ex W H H' → At W H' T (.tup [.int (c + (i : Nat)), x]) → g (.ref T) σ H' fun σ2 H2 => tS { D with nx := Pv (i + 1), ct := Pv (i + 1), bk := D.nx } σ2 H2)
    (hd : ∀ σ H, Pv xs.length σ H → D.nx σ H) : FoW (IteT K c a) g tS D σ H :=
  for_it (walk_enumT (xs := xs)) Pv h0 (fun i σ H _ p => (hv i σ H p).2.st) (fun i x σ H H' hi p y => by
    obtain ⟨T, x1, x2, rfl, hT, rfl, e1, e2⟩ := y
    cases e1
    exact hs i x2 T σ H _ e2 p hT (Ex.new (hv i σ H p).1 hT) (At.new (hv i σ H p).1 hT)) hd
end
end Lw

/-! Lr: quiet defs: they raise nothing and are called where an exception is handled, too (in an except suite). -/
namespace Lw
open PySem L2 PySem.Spec PyProof.Rows
/-- nothing but room is asked of what is around -/
structure RoomQ (k : Nat) (A : Around) : Prop where
  dp : A.depth + 3 * k + 5 < recursionLimit
  un : A.units + 16 * k + 200 < cLine
theorem RoomQ.of {k : Nat} {A : Around} (r : Room k A) : RoomQ k A := ⟨r.dp, r.un⟩
theorem RoomQ.mark {k : Nat} {A : Around} {v : Option Value} (r : RoomQ k A) : RoomQ k (A.mark v) := ⟨r.dp, r.un⟩
theorem RoomQ.mono {j k : Nat} {A : Around} (r : RoomQ k A) (h : j ≤ k) : RoomQ j A := ⟨by have := r.dp; omega, by have := r.un; omega⟩
theorem RoomQ.deeper {k : Nat} {A : Around} (r : RoomQ (k + 1) A) (env : Env) : RoomQ k (A.deeper env) :=
  ⟨by have := r.dp; show A.depth + 1 + 3 * k + 5 < _; omega, by have := r.un; show A.units + 3 + 16 * k + 200 < _; omega⟩
structure FnQ (P : Program) (w : World) (K : PySem.W.Frag) (mg : Str → Option Value) (base : Heap) (CX : CXT) (k : Nat) (f : Addr) (fd : FuncData) (ps : List Str) (sp : Sp) : Prop where
  len : ∀ vs H Q E, sp vs H Q E → vs.length = ps.length
  run : ∀ {A : Around} {outer : List Env} {s : Shared} {H : Hp} {args : Args} {us : List Value} {vs : List V} {Q : VK} {E : XK}, RoomQ k A → Env0 P w K mg base A outer s H → BindsTo s fd args (ps.zip us) → Vals vs us → sp vs H Q E →
    codeAny (model P w) A (.call (.ref f) args) (CR CX outer P w H s Q E) s
/-- the context of such a def's body -/
abbrev cxQ (CX : CXT) (P : Program) (w : World) (K : PySem.W.Frag) (mg : Str → Option Value) (base : Heap) (N : List Str) (qual : Str) (scope : Scope) (f : Addr) (cd : Value) (A : Around) (outer : List Env) (s : Shared) (H : Hp) (E : XK) : Cx :=
  { cxOf CX P w K mg base N qual scope f cd A outer s H E with calm := false }
section
variable {P : Program} {w : World} {K : PySem.W.Frag} {mg : Str → Option Value} {base : Heap} {CX : CXT} {k : Nat} {f : Addr} {fd : FuncData} {ps N : List Str} {sp : Sp}
theorem Env0.unmark {A : Around} {outer : List Env} {s : Shared} {H : Hp} (e : Env0 P w K mg base A outer s H) : Env0 P w K mg base { A with handled := none } outer s H := ⟨e.frames, e.mod, e.bs, e.bsz, e.funs, e.frf, e.hok, e.bare⟩
theorem inv_startQ {qual : Str} {scope : Scope} {cd : Value} {A : Around} {outer : List Env} {s s1 : Shared} {H : Hp} {E : XK} {us : List Value} {vs : List V} (S : FnScope N ps scope) (e0 : Env0 P w K mg base A outer s H) (hl : vs.length = ps.length) (r : Vals vs us)
    (x : InCallC s s.heap.objs.size (bindL (envOfC qual scope s.heap.objs.size f cd).kindOf (ps.zip us) fun _ => none) (cellsFrom (s.heap.objs.size + 1) scope.names []) (bindC (envOfC qual scope s.heap.objs.size f cd).kindOf (ps.zip us) fun _ => none) s1) :
    Inv (cxQ CX P w K mg base N qual scope f cd A outer s H E) [] (start N vs) H s1 := by
  have I := inv_start (CX := CX) (E := E) (A := { A with handled := none }) S rfl (Env0.unmark e0) hl r x
  have o := I.ok
  have ok : (cxQ CX P w K mg base N qual scope f cd A outer s H E).Ok := ⟨o.mod, o.kind, o.glob, o.blt, o.above, o.inj, o.has, o.cab, fun z => Bool.noConfusion (show false = true from z), Around.frames_deeper e0.frames, o.stk, o.exf, o.bs, o.bsz, o.noex, o.exfs, o.funs, o.frf⟩
  exact ⟨ok, I.os, I.bare, I.base, I.loc, I.cell, I.free, I.freeC, I.pin, I.hok, I.len⟩
/-- by its body -/
theorem fnQ_body {name qual : Str} {params : Arguments} {body : List Stmt} {scope : Scope} {dV kV doc pm cdv ct oc : Value} {an od : Option Addr} {osl : Array (Option Value)}
    (lk : K.lookup f = some ⟨oc, od, .func (PySem.W.fnOf name qual params body scope dV kV doc pm an cdv ct), osl⟩) (hcd : PySem.W.codeIn K cdv qual = true) (S : FnScope N ps scope) (len : ∀ vs H Q E, sp vs H Q E → vs.length = ps.length)
    (hb : ∀ (A : Around) (outer : List Env) (s : Shared) (H : Hp) (vs : List V) (Q : VK) (E : XK), RoomQ k (A.deeper (envOfC qual scope s.heap.objs.size f cdv)) → sp vs H Q E →
      ∃ t, PSs (cxQ CX P w K mg base N qual scope f cdv A outer s H E) body t ∧ t { nx := fun _ H' => Q .non H', rt := Q } (start N vs) H) :
    FnQ P w K mg base CX (k + 1) f (PySem.W.fnOf name qual params body scope dV kV doc pm an cdv ct) ps sp := by
  constructor
  · exact len
  intro A outer s H args us vs Q E hr e0 bnd rel h
  have inBase : ∀ b o, base.get? b = some o → s.heap.get? b = some o := fun b o e => (e0.bs b o e).1
  have KX : K.In s.heap := e0.mod.kin.keeps inBase
  have kinds : ∀ y ∈ ps.zip us, scope.names.lookup y.1 = some .local ∨ (scope.names.lookup y.1 = some .cell ∧ ((cellsFrom (s.heap.objs.size + 1) scope.names []).lookup y.1).isSome = true) := by
    rintro ⟨n, v⟩ hy
    have hn := (List.of_mem_zip hy).1
    exact (S.par n hn).imp id fun q => ⟨q, PySem.W.cellsFrom_some _ _ _ (.inl q)⟩
  refine codeAny_call_function (by have := hr.dp; omega) (KX _ _ lk) rfl S.co S.gen rfl (PySem.W.codeRec_of KX hcd) (bnd _ _ _ _ (wpAny_newFunctionEnv_cells S.kind kinds ?_))
  rintro env rfl s1 x
  obtain ⟨t, ht, hq⟩ := hb A outer s H vs Q E (hr.deeper _) h
  have I := inv_startQ (CX := CX) (E := E) S e0 (len _ _ _ _ h) rel x
  refine ⟨(e0.mod.nolimit.keeps inBase).keeps x.toInCall.keep, codeAny_func (wpAny_mono (ht.run [] s1 (start N vs) H _ I hq) ?_ fun _ _ z => z)⟩
  intro fl s' hs
  cases fl with
  | next => obtain ⟨_, H', J, q⟩ := hs; exact ⟨.non, H', J.os, J.bare, J.base, J.hok, rfl, q⟩
  | ret u => obtain ⟨v, _, H', J, rv, q⟩ := hs; exact ⟨v, H', J.os, J.bare, J.base, J.hok, rv, q⟩
  | brk => obtain ⟨_, _, _, q⟩ := hs; cases q
  | cont => obtain ⟨_, _, _, q⟩ := hs; cases q
theorem Fun.okQ {x qual : Str} {st : Stmt} (F : Fun K x qual st f fd) (S : FnScope N ps (defScope st)) (len : ∀ vs H Q E, sp vs H Q E → vs.length = ps.length)
    (hb : ∀ (cdv : Value) (A : Around) (outer : List Env) (s : Shared) (H : Hp) (vs : List V) (Q : VK) (E : XK), RoomQ k (A.deeper (envOfC qual (defScope st) s.heap.objs.size f cdv)) → sp vs H Q E →
      ∃ t, PSs (cxQ CX0 P w K mg base N qual (defScope st) f cdv A outer s H E).nox (defBody st) t ∧ t { nx := fun _ H' => Q .non H', rt := Q } (start N vs) H) : FnQ P w K mg base CX0 (k + 1) f fd ps sp := by
  obtain ⟨_, _, _, _, _, _, cdv, _, _, rfl, lk, hcd⟩ := F.ex
  refine fnQ_body lk hcd S len fun A outer s H vs Q E hr h => ?_
  obtain ⟨t, ht, q⟩ := hb cdv A outer s H vs Q E hr h
  exact ⟨t, ht.nox, q⟩
end
section
variable {X : Cx} {CX : CXT} {k : Nat} {f : Addr} {fd : FuncData} {ps : List Str} {sp : Sp} {E : XK} {x : Str} {p pos : Pos} {e : Expr} {es : List Expr} {t : TA} {ds : List Value} {dvs : List V}
theorem callee_Q {pins : List (Addr × Obj)} {σ : L2.St} {H : Hp} {s : Shared} {Q : VK} {us : List Value} {vs : List V} (F : FnQ X.prog X.w X.K X.mg X.base CX k f fd ps sp) (hr : RoomQ k X.A) (hb : Binds X.K fd ps ds) (hd : Vals dvs ds) (hx : Passes CX X E)
    (I : Inv X pins σ H s) (r : Vals vs us) (h : sp (vs ++ dvs) H Q E) : wpAny (model X.prog X.w) X.A (call (.ref f) us) (EP X pins σ Q) X.xe s := by
  have both : Vals (vs ++ dvs) (us ++ ds) := r.append hd
  have n : (us ++ ds).length = ps.length := both.length.symm.trans (F.len _ _ _ _ h)
  refine wpAny_call (codeAny_mono (F.run hr I.env0 (hb s us I.kIn n) both h) ?_)
  rintro (er | fl) s' q
  · exact hx pins σ H s er s' I q
  · cases fl with
    | ret u => exact I.after q
    | next => cases q
    | brk => cases q
    | cont => cases q
/-- a call of such a def, also in an except suite -/
theorem pe_callQ (F : FnQ X.prog X.w X.K X.mg X.base CX k f fd ps sp) (hr : RoomQ k X.A) (hg : Gl X x) (hm : X.mg x = some (.ref f)) (hk : PySem.W.keepIn X.K (.ref f) = true) (hb : Binds X.K fd ps ds) (hd : Vals dvs ds) (hx : Passes CX X E)
    (ha : PA X (e :: es) t) (hdb : (x == ("__debug__" : Str)) = false := by decide) (he : starEach (e :: es) X.env = (false, eval e X.env) :: starEach es X.env := by rfl) (hpl : (backTo pos (starEach es X.env)).any (·.1) = false := by rfl) :
    PE X (.Call (.Name x p) (e :: es) [] pos) (tCall sp dvs E t) where
  run pins s σ H Q I h := by
    refine wpAny_Call_Name_kw (ld_glob I hg hm (PySem.W.callWith_K (h₀ := X.base) I.ok.mod.kin hk ?_ he hpl) hdb)
    refine thn (ha.run pos pins s σ H _ I h) ?_
    rintro us s1 ⟨vs, H1, I1, r, q⟩
    exact ⟨I1.kIn, callee_Q F hr hb hd hx I1 r q⟩
end
/-! ### range with a step -/
section
variable {σ : L2.St} {H : Hp} {D : Ends} {lo c : Int} {n m : Nat} {g : TG} {tS : TS} {ta : TA}
theorem rd_forR3 (h : ta σ H fun vs H1 => ∃ (i j c : Int) (n : Nat), vs = [.int i, .int j, .int c] ∧ RgC i j c n ∧ FoW (Itc i c n) g tS D σ H1) : tFor (iRng3 ta) g tS D σ H := h
theorem rd_down {P : Int → Int → Nat → Prop} {i : Int} (h0 : 0 ≤ i + 1) (h1 : i < 1000000) (k : P i (-1) (i + 1).toNat) : ∃ (i' j' c : Int) (n : Nat), [V.int i, V.int (-1), V.int (-1)] = [.int i', .int j', .int c] ∧ RgC i' j' c n ∧ P i' c n :=
  ⟨i, -1, -1, (i + 1).toNat, rfl, by have q := RgC.neg (i := i) (j := -1) (by omega) (by omega) (by decide) (by decide); rwa [show i - -1 = i + 1 by omega] at q, k⟩
theorem for_rC (Pv : Nat → L2.St → Hp → Prop) (h0 : Pv 0 σ H) (hs : ∀ (i : Nat) σ H, i < n → Pv i σ H → tS { D with nx := Pv (i + 1), ct := Pv (i + 1), bk := D.nx } (σ.set m (some (.int (lo + i * c)))) H) (hd : ∀ σ H, Pv n σ H → D.nx σ H) : FoW (Itc lo c n) (gName m) tS D σ H := by
  refine ⟨fun i k σ H => i ≤ n ∧ k = n - i ∧ Pv i σ H, ⟨_, Nat.zero_le _, rfl, h0⟩, ?_⟩
  rintro i k σ H ⟨hi, rfl, p⟩
  by_cases e : i < n
  · refine .inr ⟨e, Pv (i + 1), fun σ' H' q => ⟨n - (i + 1), by omega, by omega, rfl, q⟩, ?_⟩
    rintro x H' ⟨rfl, rfl⟩
    exact hs i σ _ e p
  · have e2 : i = n := by omega
    subst e2
    exact .inl ⟨Nat.le_refl _, hd _ _ p⟩
end
end Lw

namespace K05
open PySem L2 Lw TL
def top (i : Nat) : Stmt := PySem.Challenge.pw_capstead_k05_way_to_end_least.main.body.getD i (.Pass ⟨0, 0, 0, 0⟩)

abbrev s_is_integer : Stmt := top 10
abbrev N_is_integer : List Str := ["value"]
theorem sc_is_integer : FnScope N_is_integer ["value"] (defScope s_is_integer) := ⟨rfl, rfl, rfl, by decide +kernel, rfl, by decide +kernel, by decide +kernel⟩
abbrev s_is_row : Stmt := top 15
abbrev N_is_row : List Str := ["value"]
theorem sc_is_row : FnScope N_is_row ["value"] (defScope s_is_row) := ⟨rfl, rfl, rfl, by decide +kernel, rfl, by decide +kernel, by decide +kernel⟩
abbrev s_bound : Stmt := top 16
abbrev N_bound : List Str := ["role", "length"]
theorem sc_bound : FnScope N_bound ["role", "length"] (defScope s_bound) := ⟨rfl, rfl, rfl, by decide +kernel, rfl, by decide +kernel, by decide +kernel⟩
abbrev s_fits : Stmt := top 17
abbrev N_fits : List Str := ["part", "role", "length"]
theorem sc_fits : FnScope N_fits ["part", "role", "length"] (defScope s_fits) := ⟨rfl, rfl, rfl, by decide +kernel, rfl, by decide +kernel, by decide +kernel⟩
abbrev s_is_instruction : Stmt := top 18
abbrev N_is_instruction : List Str := ["item", "length", "roles", "at", "role"]
theorem sc_is_instruction : FnScope N_is_instruction ["item", "length"] (defScope s_is_instruction) := ⟨rfl, rfl, rfl, by decide +kernel, rfl, by decide +kernel, by decide +kernel⟩
abbrev s_check_program : Stmt := top 19
abbrev N_check_program : List Str := ["value", "index", "item"]
theorem sc_check_program : FnScope N_check_program ["value"] (defScope s_check_program) := ⟨rfl, rfl, rfl, by decide +kernel, rfl, by decide +kernel, by decide +kernel⟩
abbrev s_followers : Stmt := top 21
abbrev N_followers : List Str := ["program", "index", "instruction"]
theorem sc_followers : FnScope N_followers ["program", "index"] (defScope s_followers) := ⟨rfl, rfl, rfl, by decide +kernel, rfl, by decide +kernel, by decide +kernel⟩
abbrev s_distances : Stmt := top 22
abbrev N_distances : List Str := ["program", "end", "leading", "index", "follower", "distances", "queue", "done", "place", "_"]
theorem sc_distances : FnScope N_distances ["program"] (defScope s_distances) := ⟨rfl, rfl, rfl, by decide +kernel, rfl, by decide +kernel, by decide +kernel⟩
abbrev s_way_to_end : Stmt := top 23
abbrev N_way_to_end : List Str := ["program", "checked", "distances", "way", "place", "left", "best", "follower"]
theorem sc_way_to_end : FnScope N_way_to_end ["program"] (defScope s_way_to_end) := ⟨rfl, rfl, rfl, by decide +kernel, rfl, by decide +kernel, by decide +kernel⟩
abbrev s_law_pool : Stmt := top 25
abbrev N_law_pool : List Str := ["script", "limit", "cells", "cell"]
theorem sc_law_pool : FnScope N_law_pool ["script"] (defScope s_law_pool) := ⟨rfl, rfl, rfl, by decide +kernel, rfl, by decide +kernel, by decide +kernel⟩
abbrev s_law_draw : Stmt := top 26
abbrev N_law_draw : List Str := ["pool", "many", "cell", "told", "mixed"]
theorem sc_law_draw : FnScope N_law_draw ["pool", "many"] (defScope s_law_draw) := ⟨rfl, rfl, rfl, by decide +kernel, rfl, by decide +kernel, by decide +kernel⟩
abbrev s_law_is_integer : Stmt := top 27
abbrev N_law_is_integer : List Str := ["thing"]
theorem sc_law_is_integer : FnScope N_law_is_integer ["thing"] (defScope s_law_is_integer) := ⟨rfl, rfl, rfl, by decide +kernel, rfl, by decide +kernel, by decide +kernel⟩
abbrev s_law_flow : Stmt := top 28
abbrev N_law_flow : List Str := ["pool", "far", "size", "way", "away", "number"]
theorem sc_law_flow : FnScope N_law_flow ["pool", "far", "size"] (defScope s_law_flow) := ⟨rfl, rfl, rfl, by decide +kernel, rfl, by decide +kernel, by decide +kernel⟩
abbrev s_law_program : Stmt := top 29
abbrev N_law_program : List Str := ["pool", "far", "size", "many", "some", "items", "place", "flow", "k"]
theorem sc_law_program : FnScope N_law_program ["pool", "far", "size", "many"] (defScope s_law_program) := ⟨rfl, rfl, rfl, by decide +kernel, rfl, by decide +kernel, by decide +kernel⟩
abbrev s_law_ladder : Stmt := top 30
abbrev N_law_ladder : List Str := ["pool", "length", "items", "place", "target"]
theorem sc_law_ladder : FnScope N_law_ladder ["pool", "length"] (defScope s_law_ladder) := ⟨rfl, rfl, rfl, by decide +kernel, rfl, by decide +kernel, by decide +kernel⟩
abbrev s_law_behind : Stmt := top 31
abbrev N_law_behind : List Str := ["items", "place", "item"]
theorem sc_law_behind : FnScope N_law_behind ["items", "place"] (defScope s_law_behind) := ⟨rfl, rfl, rfl, by decide +kernel, rfl, by decide +kernel, by decide +kernel⟩
abbrev s_law_distances : Stmt := top 32
abbrev N_law_distances : List Str := ["items", "size", "sources", "place", "one", "told", "queue", "k"]
theorem sc_law_distances : FnScope N_law_distances ["items"] (defScope s_law_distances) := ⟨rfl, rfl, rfl, by decide +kernel, rfl, by decide +kernel, by decide +kernel⟩
abbrev s_law_due : Stmt := top 33
abbrev N_law_due : List Str := ["items", "distances", "due", "k", "here", "least", "one"]
theorem sc_law_due : FnScope N_law_due ["items"] (defScope s_law_due) := ⟨rfl, rfl, rfl, by decide +kernel, rfl, by decide +kernel, by decide +kernel⟩
abbrev s_law_value : Stmt := top 34
abbrev N_law_value : List Str := ["items", "shape", "item"]
theorem sc_law_value : FnScope N_law_value ["items", "shape"] (defScope s_law_value) := ⟨rfl, rfl, rfl, by decide +kernel, rfl, by decide +kernel, by decide +kernel⟩
abbrev s_law_holds : Stmt := top 35
abbrev N_law_holds : List Str := ["items", "shape", "value", "kept", "due", "told", "k"]
theorem sc_law_holds : FnScope N_law_holds ["items", "shape"] (defScope s_law_holds) := ⟨rfl, rfl, rfl, by decide +kernel, rfl, by decide +kernel, by decide +kernel⟩
abbrev s_law_refused : Stmt := top 36
abbrev N_law_refused : List Str := ["value", "due", "kept", "e", "stands", "apart"]
theorem sc_law_refused : FnScope N_law_refused ["value", "due"] (defScope s_law_refused) := ⟨rfl, rfl, rfl, by decide +kernel, rfl, by decide +kernel, by decide +kernel⟩
abbrev s_law_bent : Stmt := top 37
abbrev N_law_bent : List Str := ["pool", "item", "size", "menu"]
theorem sc_law_bent : FnScope N_law_bent ["pool", "item", "size"] (defScope s_law_bent) := ⟨rfl, rfl, rfl, by decide +kernel, rfl, by decide +kernel, by decide +kernel⟩
abbrev s_law : Stmt := top 38
abbrev N_law : List Str := ["script", "pool", "large", "far", "shape", "size", "many", "items", "length", "bent", "place", "k"]
theorem sc_law : FnScope N_law ["script"] (defScope s_law) := ⟨rfl, rfl, rfl, by decide +kernel, rfl, by decide +kernel, by decide +kernel⟩

/-! ### texts -/
theorem ends1 (x : Str) (c : Nat) : Txt.endswith x ⟨#[c]⟩ = decide ((tl x).getLast? = some c) := by
  unfold Txt.endswith
  rw [Bool.eq_iff_iff, Bool.and_eq_true, decide_eq_true_eq, decide_eq_true_eq]
  have hl : (⟨#[c]⟩ : Str).length = 1 := rfl
  have hx : x.length = (tl x).length := len_tl x
  rw [hl, List.getLast?_eq_getElem?]
  constructor
  · rintro ⟨h1, h2⟩
    have := (StrLaws.subAt_one x c (x.length - 1)).mp ⟨by rw [hl]; omega, h2⟩
    rw [hx] at this; exact this
  · intro h
    rw [← hx] at h
    have := (StrLaws.subAt_one x c (x.length - 1)).mpr h
    rw [hl] at this
    exact ⟨by omega, this.2⟩
theorem starts1 (x : Str) (c : Nat) : Txt.startswith x ⟨#[c]⟩ = decide ((tl x).head? = some c) := by
  unfold Txt.startswith
  rw [Bool.eq_iff_iff, Bool.and_eq_true, decide_eq_true_eq, decide_eq_true_eq]
  have hl : (⟨#[c]⟩ : Str).length = 1 := rfl
  rw [hl, List.head?_eq_getElem?]
  constructor
  · rintro ⟨h1, h2⟩
    exact (StrLaws.subAt_one x c 0).mp ⟨h1, h2⟩
  · intro h
    exact (StrLaws.subAt_one x c 0).mpr h
theorem tl_butlast (s : Str) : tl (cutS s none (some (-1))) = (tl s).dropLast := by
  show ((tl s).drop (HT.sIx s.length 0 none)).take (HT.sIx s.length s.length (some (-1)) - HT.sIx s.length 0 none) = _
  rw [HT.sIx_none, List.drop_zero, List.dropLast_eq_take, len_tl]
  congr 1
  simp [HT.sIx]
  omega
def sm (c : Nat) : Bool := decide (97 ≤ c ∧ c ≤ 122)
def dg (c : Nat) : Bool := decide (48 ≤ c ∧ c ≤ 57)
theorem mem_run (a n c : Nat) : c ∈ (List.range n).map (a + ·) ↔ a ≤ c ∧ c < a + n := by
  rw [List.mem_map]
  constructor
  · rintro ⟨k, hk, rfl⟩
    have := List.mem_range.mp hk
    omega
  · intro h
    exact ⟨c - a, List.mem_range.mpr (by omega), by omega⟩
theorem small_run : ("abcdefghijklmnopqrstuvwxyz" : Str).cps.toList = (List.range 26).map (97 + ·) := by decide +kernel
theorem dig_run : ("0123456789" : Str).cps.toList = (List.range 10).map (48 + ·) := by decide +kernel
theorem small_mem (c : Nat) : decide (c ∈ ("abcdefghijklmnopqrstuvwxyz" : Str).cps.toList) = sm c := by
  unfold sm
  rw [small_run, decide_eq_decide, mem_run]
  omega
theorem dig_mem (c : Nat) : decide (c ∈ ("0123456789" : Str).cps.toList) = dg c := by
  unfold dg
  rw [dig_run, decide_eq_decide, mem_run]
  omega
def isL (s : Str) : Bool := match tl s with
  | [] => false
  | c :: r => decide (r.length ≤ 7) && (sm c && (c :: r).all fun c => sm c || dg c)
theorem isL_of {s : Str} (h : isL s = true) : ∃ c r, tl s = c :: r ∧ r.length ≤ 7 ∧ sm c = true ∧ ∀ x ∈ tl s, (sm x || dg x) = true := by
  unfold isL at h
  cases e : tl s with
  | nil => rw [e] at h; cases h
  | cons c r =>
    rw [e] at h
    have h1 := (Bool.and_eq_true _ _).mp h
    have h2 := (Bool.and_eq_true _ _).mp h1.2
    exact ⟨c, r, rfl, of_decide_eq_true h1.1, h2.1, List.all_eq_true.mp h2.2⟩
theorem isL_mk {s : Str} {c : Nat} {r : List Nat} (e : tl s = c :: r) (h1 : r.length ≤ 7) (h2 : sm c = true) (h3 : ∀ x ∈ tl s, (sm x || dg x) = true) : isL s = true := by
  unfold isL
  rw [e]
  rw [e] at h3
  show (decide _ && (sm c && _)) = true
  rw [decide_eq_true h1, h2, List.all_eq_true.mpr h3]
  rfl
def labF (s : Str) : Str := if (Txt.endswith s ":" && isL (cutS s none (some (-1)))) = true then cutS s none (some (-1)) else ""
def ignF (s : Str) : Bool := decide (s = "") || Txt.startswith s "#"
theorem colon : (":" : Str) = ⟨#[58]⟩ := by decide +kernel
theorem hash : ("#" : Str) = ⟨#[35]⟩ := by decide +kernel
theorem tl_nil : tl ("" : Str) = [] := rfl
theorem nil_iff (s : Str) : s = "" ↔ tl s = [] := ⟨fun e => by rw [e]; rfl, fun e => ext_tl e⟩
theorem sm_ne {c : Nat} (h : sm c = true) : c ≠ 35 ∧ c ≠ 58 ∧ c ≠ 10 ∧ c ≠ 32 := by
  have := of_decide_eq_true h
  omega
theorem wd_ne {c : Nat} (h : (sm c || dg c) = true) : c ≠ 35 ∧ c ≠ 58 ∧ c ≠ 10 ∧ c ≠ 32 := by
  unfold sm dg at h
  simp only [Bool.or_eq_true, decide_eq_true_eq] at h
  omega
theorem tl_lb (l : Str) : tl (l ++ ":") = tl l ++ [58] := by rw [tl_append]; rfl
theorem lab_lb {l : Str} (h : isL l = true) : labF (l ++ ":") = l := by
  have e : cutS (l ++ ":") none (some (-1)) = l := ext_tl (by rw [tl_butlast, tl_lb, List.dropLast_concat])
  unfold labF
  rw [colon, ends1, ← colon, e, h, tl_lb, List.getLast?_concat]
  rfl
theorem ign_lb {l : Str} (h : isL l = true) : ignF (l ++ ":") = false := by
  obtain ⟨c, r, e, _, hc, _⟩ := isL_of h
  unfold ignF
  rw [hash, starts1, decide_eq_false (fun z => by rw [nil_iff, tl_lb] at z; simp at z), decide_eq_false, Bool.or_self]
  rw [tl_lb, e]
  intro z
  exact (sm_ne hc).1 (Option.some.inj z)
theorem isL_ne {l : Str} (h : isL l = true) : l ≠ "" := by
  obtain ⟨c, r, e, _⟩ := isL_of h
  intro z
  rw [nil_iff, e] at z
  cases z
/-- an empty line, a comment -/
theorem ign_ok {g : Str} (h : tl g = [] ∨ ∃ r, tl g = 35 :: r) : ignF g = true ∧ labF g = "" := by
  rcases h with e | ⟨r, e⟩
  · have : g = "" := (nil_iff g).mpr e
    subst this
    exact ⟨by decide +kernel, by decide +kernel⟩
  · refine ⟨?_, ?_⟩
    · unfold ignF
      rw [hash, starts1, e, Bool.or_eq_true]
      exact .inr rfl
    · have q : isL (cutS g none (some (-1))) = false := by
        unfold isL
        rw [tl_butlast, e]
        cases r with
        | nil => rfl
        | cons a r =>
          rw [List.dropLast_cons₂]
          show (_ && (sm 35 && _)) = false
          rw [show sm 35 = false from rfl, Bool.false_and, Bool.and_false]
      unfold labF
      rw [q, Bool.and_false]
      rfl
theorem op_ok {s : Str} {c : Nat} {r : List Nat} (e : tl s = c :: r) (h : c ≠ 35) (h2 : 58 ∉ tl s) : ignF s = false ∧ labF s = "" := by
  refine ⟨?_, ?_⟩
  · unfold ignF
    rw [hash, starts1, e, decide_eq_false (fun z => by rw [nil_iff, e] at z; cases z), decide_eq_false, Bool.or_self]
    intro z
    exact h (Option.some.inj z)
  · unfold labF
    rw [colon, ends1, decide_eq_false, Bool.false_and]
    · rfl
    · intro z
      exact h2 (List.mem_of_getLast? z)
/-! ### numbers -/
theorem numL_len1 {n : Nat} (h : 1 < (numL n).length) : 10 ≤ n := by
  by_cases q : n < 10
  · rw [numL_lt q] at h; simp at h
  · omega
theorem numL_head : ∀ n : Nat, 1 ≤ n → ∃ c r, numL n = c :: r ∧ c ≠ 48 := by
  intro n
  induction n using Nat.strongRecOn with
  | ind n ih =>
    intro h
    by_cases q : n < 10
    · exact ⟨48 + n, [], numL_lt q, by omega⟩
    · obtain ⟨c, r, e, hc⟩ := ih (n / 10) (by omega) (by omega)
      exact ⟨c, r ++ [48 + n % 10], by rw [numL_step (by omega), e]; rfl, hc⟩
theorem find_dig {c : Nat} (h : dg c = true) : Txt.find "0123456789" ⟨#[c]⟩ = ((c : Int) - 48) := by
  have := of_decide_eq_true h
  have q : c = 48 ∨ c = 49 ∨ c = 50 ∨ c = 51 ∨ c = 52 ∨ c = 53 ∨ c = 54 ∨ c = 55 ∨ c = 56 ∨ c = 57 := by omega
  rcases q with rfl | rfl | rfl | rfl | rfl | rfl | rfl | rfl | rfl | rfl <;> decide +kernel
theorem numL_dg {n c : Nat} (h : c ∈ numL n) : dg c = true := by
  have := numL_free (n := n) (s := c)
  unfold dg
  by_cases q : 48 ≤ c ∧ c ≤ 57
  · exact decide_eq_true q
  · exact absurd h (this (by omega))
theorem tl_toString {z : Int} (h : 0 ≤ z) : tl (toString z : Str) = numL z.toNat := by
  have := tl_num z.toNat
  rw [show ((z.toNat : Nat) : Int) = z by omega] at this
  exact this
/-! ### lines -/
def Wrd (p : Str) : Prop := tl p ≠ [] ∧ ∀ c ∈ tl p, (sm c || dg c) = true
theorem Wrd.num {z : Int} (h : 0 ≤ z) : Wrd (toString z : Str) := by
  unfold Wrd
  rw [tl_toString h]
  exact ⟨numL_ne _, fun c hc => by rw [numL_dg hc, Bool.or_true]⟩
theorem Wrd.lab {l : Str} (h : isL l = true) : Wrd l := by
  obtain ⟨c, r, e, _, _, q⟩ := isL_of h
  exact ⟨by rw [e]; simp, q⟩
theorem mem_joinL {S : List Nat} {c : Nat} : ∀ {ps : List (List Nat)}, c ∈ joinL S ps → c ∈ S ∨ ∃ p ∈ ps, c ∈ p
  | [], h => by simp [joinL] at h
  | [p], h => .inr ⟨p, by simp, by simpa [joinL] using h⟩
  | p :: q :: r, h => by
    have h' : c ∈ p ++ (S ++ joinL S (q :: r)) := by simpa [joinL] using h
    rcases List.mem_append.mp h' with a | a
    · exact .inr ⟨p, by simp, a⟩
    · rcases List.mem_append.mp a with b | b
      · exact .inl b
      · rcases mem_joinL b with d | ⟨x, hx, hc⟩
        · exact .inl d
        · exact .inr ⟨x, List.mem_cons_of_mem _ hx, hc⟩
theorem head_joinL {S : List Nat} {c : Nat} {r : List Nat} : ∀ (ps : List (List Nat)), ∃ r', joinL S ((c :: r) :: ps) = c :: r'
  | [] => ⟨r, rfl⟩
  | q :: ps => ⟨r ++ (S ++ joinL S (q :: ps)), by simp [joinL]⟩
theorem space : tl (" " : Str) = [32] := by decide +kernel
theorem newl : tl ("\n" : Str) = [10] := by decide +kernel
theorem line_chars {name : Str} {ws : List Str} (hw : ∀ p ∈ name :: ws, Wrd p) {c : Nat} (h : c ∈ tl (Txt.join " " (name :: ws))) : c = 32 ∨ (sm c || dg c) = true := by
  rw [join_eq, tl_join, space] at h
  rcases mem_joinL h with a | ⟨p, hp, hc⟩
  · exact .inl (by simpa using a)
  · obtain ⟨q, hq, rfl⟩ := List.mem_map.mp hp
    exact .inr ((hw q hq).2 c hc)
theorem line_ok {name : Str} {ws : List Str} {c : Nat} {r : List Nat} (e : tl name = c :: r) (hc : sm c = true) (hw : ∀ p ∈ name :: ws, Wrd p) :
    ignF (Txt.join " " (name :: ws)) = false ∧ labF (Txt.join " " (name :: ws)) = "" ∧ 10 ∉ tl (Txt.join " " (name :: ws)) ∧ Txt.split (Txt.join " " (name :: ws)) " " = name :: ws := by
  have q : ∀ z, z ≠ 32 → (∀ c, (sm c || dg c) = true → c ≠ z) → z ∉ tl (Txt.join " " (name :: ws)) := fun z z1 z2 h => by
    rcases line_chars hw h with a | a
    · exact z1 a
    · exact z2 z a rfl
  obtain ⟨r', e'⟩ := head_joinL (S := [32]) (c := c) (r := r) (ws.map tl)
  have e2 : tl (Txt.join " " (name :: ws)) = c :: r' := by rw [join_eq, tl_join, space, List.map_cons, e, e']
  obtain ⟨o1, o2⟩ := op_ok e2 (sm_ne hc).1 (q 58 (by decide) fun c h => (wd_ne h).2.1)
  exact ⟨o1, o2, q 10 (by decide) fun c h => (wd_ne h).2.2.1, split_join space (by decide +kernel) (by simp) fun p hp hm => (wd_ne ((hw p hp).2 32 hm)).2.2.2 rfl⟩

/-! ### labels -/
def GL (n : Nat) (s : Str) : Prop := ∃ c r, tl s = c :: r ∧ r.length ≤ n ∧ sm c = true ∧ ∀ x ∈ tl s, (sm x || dg x) = true
theorem GL.isL {s : Str} (h : GL 7 s) : isL s = true := let ⟨_, _, e, a, b, c⟩ := h; isL_mk e a b c
theorem GL.len {n : Nat} {s : Str} (h : GL n s) : s.length ≤ n + 1 := by
  obtain ⟨c, r, e, a, _⟩ := h
  rw [len_tl, e, List.length_cons]
  omega
theorem GL.mono {m n : Nat} {s : Str} (h : GL m s) (q : m ≤ n) : GL n s := let ⟨c, r, e, a, b, d⟩ := h; ⟨c, r, e, Nat.le_trans a q, b, d⟩
theorem GL.one {c : Nat} (h : sm c = true) : GL 0 ⟨#[c]⟩ := ⟨c, [], rfl, Nat.le_refl _, h, fun x hx => by
  have : x = c := by simpa using hx
  rw [this, h]; rfl⟩
theorem GL.add {n : Nat} {s : Str} {c : Nat} (h : GL n s) (hc : (sm c || dg c) = true) : GL (n + 1) (s ++ ⟨#[c]⟩) := by
  obtain ⟨c0, r, e, a, b, d⟩ := h
  refine ⟨c0, r ++ [c], by rw [tl_append, e]; rfl, by rw [List.length_append]; exact Nat.succ_le_succ a, b, fun x hx => ?_⟩
  rw [tl_append] at hx
  rcases List.mem_append.mp hx with q | q
  · exact d x q
  · have : x = c := by simpa using q
    rw [this]; exact hc
theorem letter_at {r : Int} (h0 : 0 ≤ r) (h1 : r < 26) : ∃ c, atI ("abcdefghijklmnopqrstuvwxyz" : Str).cps.toList r = some c ∧ sm c = true := by
  refine ⟨97 + r.toNat, at_inG h0 ?_, decide_eq_true (by omega)⟩
  rw [small_run, List.getElem?_map, List.getElem?_range (by omega)]
  rfl
theorem sign_at {r : Int} (h0 : 0 ≤ r) (h1 : r < 36) : ∃ c, atI (("abcdefghijklmnopqrstuvwxyz" : Str) ++ "0123456789").cps.toList r = some c ∧ (sm c || dg c) = true := by
  have e : (("abcdefghijklmnopqrstuvwxyz" : Str) ++ "0123456789").cps.toList = (List.range 26).map (97 + ·) ++ (List.range 10).map (48 + ·) := by decide +kernel
  by_cases q : r < 26
  · refine ⟨97 + r.toNat, at_inG h0 ?_, by unfold sm; rw [decide_eq_true (by omega)]; rfl⟩
    rw [e, List.getElem?_append_left (by simp; omega), List.getElem?_map, List.getElem?_range (by omega)]
    rfl
  · refine ⟨48 + (r.toNat - 26), at_inG h0 ?_, by unfold dg; rw [decide_eq_true (p := 48 ≤ 48 + (r.toNat - 26) ∧ 48 + (r.toNat - 26) ≤ 57) (by omega), Bool.or_true]⟩
    rw [e, List.getElem?_append_right (by simp; omega), List.length_map, List.length_range, List.getElem?_map, List.getElem?_range (by omega)]
    rfl
theorem tl_cutTo (s : Str) (n : Nat) : tl (cutS s none (some (n : Int))) = (tl s).take n := by
  show ((tl s).drop (HT.sIx s.length 0 none)).take (HT.sIx s.length s.length (some (n : Int)) - HT.sIx s.length 0 none) = _
  rw [HT.sIx_none, List.drop_zero, HT.sIx_nat, len_tl, Nat.sub_zero, ← List.take_eq_take_min]
theorem GL.cut {s : Str} (h : GL 7 s) {k : Nat} (hk : k < 100) : GL 7 (cutS s none (some 6) ++ (toString (k : Int) : Str)) := by
  obtain ⟨c0, r, e, a, b, d⟩ := h
  have e6 : tl (cutS s none (some 6)) = c0 :: r.take 5 := by
    have := tl_cutTo s 6
    rw [e] at this
    exact this
  have en : tl (toString (k : Int) : Str) = numL k := tl_toString (z := (k : Int)) (by omega)
  have ln : (numL k).length ≤ 2 := numL_len (by decide) hk
  refine ⟨c0, r.take 5 ++ numL k, by rw [tl_append, e6, en]; rfl, by rw [List.length_append, List.length_take]; omega, b, fun x hx => ?_⟩
  rw [tl_append, e6, en] at hx
  rcases List.mem_append.mp hx with q | q
  · refine d x ?_
    rw [e]
    rcases List.mem_cons.mp q with z | z
    · rw [z]; exact List.mem_cons_self ..
    · exact List.mem_cons_of_mem _ (List.mem_of_mem_take z)
  · rw [numL_dg q, Bool.or_true]
theorem cut_inj {l : Str} {j k : Nat} (h : l ++ (toString (j : Int) : Str) = l ++ (toString (k : Int) : Str)) : j = k := by
  have q := congrArg tl h
  rw [tl_append, tl_append, tl_toString (z := (j : Int)) (by omega), tl_toString (z := (k : Int)) (by omega)] at q
  exact numL_inj (List.append_cancel_left q)
theorem pigeon {α : Type} [DecidableEq α] : ∀ (xs us : List α), xs.Nodup → (∀ x ∈ xs, x ∈ us) → xs.length ≤ us.length
  | [], _, _, _ => Nat.zero_le _
  | x :: xs, us, hn, h => by
    have hn' := List.nodup_cons.mp hn
    have q := pigeon xs (us.erase x) hn'.2 fun y hy => (List.mem_erase_of_ne (fun e : y = x => hn'.1 (e ▸ hy))).mpr (h y (List.mem_cons_of_mem _ hy))
    have hx := h x (List.mem_cons_self ..)
    rw [List.length_erase_of_mem hx] at q
    have := List.length_pos_of_mem hx
    rw [List.length_cons]
    omega
theorem inV_str (l : Str) (us : List Str) : inV (.str l) (us.map V.str) = decide (l ∈ us) := by
  rw [Bool.eq_iff_iff, decide_eq_true_eq]
  unfold inV
  rw [List.any_map, List.any_eq_true]
  constructor
  · rintro ⟨x, hx, e⟩
    have : l = x ∨ x = l := by
      have e' : (x == l) = true ∨ (l == x) = true := by first | exact .inl e | exact .inr e
      rcases e' with q | q
      · exact .inr (by simpa using q)
      · exact .inl (by simpa using q)
    rcases this with rfl | rfl <;> exact hx
  · intro h
    exact ⟨l, h, by show (l == l) = true; simp⟩
/-- 60 words, at most 40 used -/
theorem some_free {l : Str} {us : List Str} (h : us.length ≤ 40) : ∃ k, k < 60 ∧ (l ++ (toString ((k : Nat) : Int) : Str)) ∉ us := by
  by_cases q : ∃ k, k < 60 ∧ (l ++ (toString ((k : Nat) : Int) : Str)) ∉ us
  · exact q
  · exfalso
    have a : ∀ x ∈ (List.range 60).map (fun k : Nat => l ++ (toString (k : Int) : Str)), x ∈ us := fun x hx => by
      obtain ⟨k, hk, rfl⟩ := List.mem_map.mp hx
      by_cases z : (l ++ (toString ((k : Nat) : Int) : Str)) ∈ us
      · exact z
      · exact absurd ⟨k, List.mem_range.mp hk, z⟩ q
    have n : ((List.range 60).map (fun k : Nat => l ++ (toString (k : Int) : Str))).Nodup := List.Pairwise.map _ (fun a b h e => h (cut_inj e)) List.nodup_range
    have := pigeon _ us n a
    rw [List.length_map, List.length_range] at this
    omega

/-! ### instructions -/
inductive It where
  | deed (d : Str) | jump (t : Int) | zero (r t : Int) | set (r w : Int) | two (n : Str) (r q : Int)
def It.name : It → Str
  | .deed _ => "deed" | .jump _ => "jump" | .zero _ _ => "zero" | .set _ _ => "set" | .two n _ _ => n
def It.vals : It → List V
  | .deed d => [.str d] | .jump t => [.int t] | .zero r t => [.int r, .int t] | .set r w => [.int r, .int w] | .two _ r q => [.int r, .int q]
def It.row (x : It) : List V := .str x.name :: x.vals
def It.tg : It → List Int
  | .jump t => [t] | .zero _ t => [t] | _ => []
def It.sh (place more : Int) : It → It
  | .jump t => .jump (if place ≤ t then t + more else t) | .zero r t => .zero r (if place ≤ t then t + more else t) | x => x
def DL : List V := [.str "halt", .str "until", .str "clock", .str "look", .str "claim", .str "free", .str "copy", .str "drop", .str "revoke", .str "map", .str "unmap", .str "send", .str "take", .str "trysend", .str "trytake", .str "call", .str "reply", .str "ring", .str "await", .str "tryawait", .str "ack", .str "give", .str "pull"]
def Two (m : Str) : Prop := m = "move" ∨ m = "add" ∨ m = "sub" ∨ m = "load" ∨ m = "store"
def It.Ok (n : Int) : It → Prop
  | .deed d => V.str d ∈ DL | .jump t => 0 ≤ t ∧ t < n | .zero r t => (0 ≤ r ∧ r < 8) ∧ 0 ≤ t ∧ t < n | .set r w => (0 ≤ r ∧ r < 8) ∧ 0 ≤ w ∧ w < 1048576
  | .two m r q => Two m ∧ (0 ≤ r ∧ r < 8) ∧ 0 ≤ q ∧ q < 8
theorem It.sh_name (p m : Int) (x : It) : (x.sh p m).name = x.name := by cases x <;> rfl
inductive F2 {α β : Type} (R : α → β → Prop) : List α → List β → Prop
  | nil : F2 R [] []
  | cons {x : α} {y : β} {xs : List α} {ys : List β} : R x y → F2 R xs ys → F2 R (x :: xs) (y :: ys)
namespace F2
variable {α β : Type} {R S : α → β → Prop}
theorem length : ∀ {xs : List α} {ys : List β}, F2 R xs ys → xs.length = ys.length
  | _, _, .nil => rfl
  | _, _, .cons _ t => by rw [List.length_cons, List.length_cons, t.length]
theorem mono (f : ∀ x y, R x y → S x y) : ∀ {xs : List α} {ys : List β}, F2 R xs ys → F2 S xs ys
  | _, _, .nil => .nil
  | _, _, .cons a t => .cons (f _ _ a) (t.mono f)
theorem append {us : List α} {vs : List β} (h : F2 R us vs) : ∀ {xs : List α} {ys : List β}, F2 R xs ys → F2 R (xs ++ us) (ys ++ vs)
  | _, _, .nil => h
  | _, _, .cons a t => .cons a (append h t)
theorem get : ∀ {xs : List α} {ys : List β} {n : Nat} {x : α}, F2 R xs ys → xs[n]? = some x → ∃ y, ys[n]? = some y ∧ R x y
  | _, _, _, _, .nil, e => by simp at e
  | _, _, 0, _, .cons a _, e => by simp at e; subst e; exact ⟨_, rfl, a⟩
  | _, _, n + 1, _, .cons _ t, e => t.get (n := n) (by simpa using e)
theorem getR : ∀ {xs : List α} {ys : List β} {n : Nat} {y : β}, F2 R xs ys → ys[n]? = some y → ∃ x, xs[n]? = some x ∧ R x y
  | _, _, _, _, .nil, e => by simp at e
  | _, _, 0, _, .cons a _, e => by simp at e; subst e; exact ⟨_, rfl, a⟩
  | _, _, n + 1, _, .cons _ t, e => t.getR (n := n) (by simpa using e)
theorem mem : ∀ {xs : List α} {ys : List β} {x : α}, F2 R xs ys → x ∈ xs → ∃ y ∈ ys, R x y
  | _, _, _, .nil, h => by cases h
  | _, _, x, .cons a t, h => by
    rcases List.mem_cons.mp h with rfl | h
    · exact ⟨_, List.mem_cons_self .., a⟩
    · obtain ⟨y, hy, r⟩ := t.mem h
      exact ⟨y, List.mem_cons_of_mem _ hy, r⟩
theorem rep {x : α} {y : β} (h : R x y) : ∀ n, F2 R (List.replicate n x) (List.replicate n y)
  | 0 => .nil
  | n + 1 => .cons h (rep h n)
theorem mapEq {γ : Type} {f : α → γ} {g : β → γ} (h : ∀ x y, R x y → f x = g y) : ∀ {xs : List α} {ys : List β}, F2 R xs ys → xs.map f = ys.map g
  | _, _, .nil => rfl
  | _, _, .cons a t => by rw [List.map_cons, List.map_cons, h _ _ a, t.mapEq h]
end F2

/-! ### instructions, judged -/
def names9 : List Str := ["set", "move", "add", "sub", "load", "store", "jump", "zero", "deed"]
def rolesF (n : Str) : List Str := if n = "set" then ["register", "word"] else if n = "jump" then ["target"] else if n = "zero" then ["register", "target"] else if n = "deed" then ["deed"] else ["register", "register"]
def boundF (role : Str) (n : Int) : Int := if role = "register" then 8 else if role = "word" then 1048576 else n
abbrev isI : V → Bool
  | .int _ => true | _ => false
def fitF (v : V) (r : Str) (n : Int) : Bool := if r = "deed" then (match v with | .str s => inV (.str s) DL | _ => false) else (match v with | .int i => decide (0 ≤ i ∧ i < boundF r n) | _ => false)
def fitsF : List V → List Str → Int → Bool
  | v :: vs, r :: rs, n => fitF v r n && fitsF vs rs n
  | [], [], _ => true
  | _, _, _ => false
def isIns : List V → Int → Bool
  | .str nm :: vs, n => decide (nm ∈ names9) && fitsF vs (rolesF nm) n
  | _, _ => false
theorem fitsF_len : ∀ {vs : List V} {rs : List Str} {n : Int}, fitsF vs rs n = true → vs.length = rs.length
  | [], [], _, _ => rfl
  | _ :: _, [], _, h => nomatch h
  | [], _ :: _, _, h => nomatch h
  | v :: vs, r :: rs, n, h => by
    rw [fitsF, Bool.and_eq_true] at h
    rw [List.length_cons, List.length_cons, fitsF_len h.2]
theorem fitsF_ne {vs : List V} {rs : List Str} {n : Int} (h : vs.length ≠ rs.length) : fitsF vs rs n = false := by
  cases e : fitsF vs rs n with
  | false => rfl
  | true => exact absurd (fitsF_len e) h
/-- by the places -/
theorem fitsF_iff {n : Int} : ∀ {vs : List V} {rs : List Str}, vs.length = rs.length → (fitsF vs rs n = true ↔ ∀ (i : Nat) v r, vs[i]? = some v → rs[i]? = some r → fitF v r n = true)
  | [], [], _ => ⟨fun _ i v r h => by simp at h, fun _ => rfl⟩
  | v :: vs, r :: rs, h => by
    have ih := fitsF_iff (n := n) (vs := vs) (rs := rs) (by simpa using h)
    rw [fitsF, Bool.and_eq_true, ih]
    constructor
    · rintro ⟨h1, h2⟩ i v' r' e1 e2
      cases i with
      | zero => simp at e1 e2; subst e1 e2; exact h1
      | succ i => exact h2 i v' r' (by simpa using e1) (by simpa using e2)
    · intro h
      exact ⟨h 0 v r rfl rfl, fun i v' r' e1 e2 => h (i + 1) v' r' (by simpa using e1) (by simpa using e2)⟩
  | [], _ :: _, h => by simp at h
  | _ :: _, [], h => by simp at h
theorem DL_in {d : Str} (h : V.str d ∈ DL) : inV (.str d) DL = true := List.any_eq_true.mpr ⟨_, h, by show (d == d) = true; simp⟩
theorem ok_isIns {n : Int} {it : It} (h : it.Ok n) : isIns it.row n = true := by
  cases it with
  | deed d =>
    show (decide (("deed" : Str) ∈ names9) && (fitF (.str d) "deed" n && true)) = true
    rw [show fitF (.str d) "deed" n = true from DL_in h]
    decide
  | jump t =>
    show (decide (("jump" : Str) ∈ names9) && (fitF (.int t) "target" n && true)) = true
    rw [show fitF (.int t) "target" n = true from decide_eq_true h]
    decide
  | zero r t =>
    show (decide (("zero" : Str) ∈ names9) && (fitF (.int r) "register" n && (fitF (.int t) "target" n && true))) = true
    rw [show fitF (.int r) "register" n = true from decide_eq_true h.1, show fitF (.int t) "target" n = true from decide_eq_true h.2]
    decide
  | set r w =>
    show (decide (("set" : Str) ∈ names9) && (fitF (.int r) "register" n && (fitF (.int w) "word" n && true))) = true
    rw [show fitF (.int r) "register" n = true from decide_eq_true h.1, show fitF (.int w) "word" n = true from decide_eq_true h.2]
    decide
  | two m r q =>
    obtain ⟨hm, h1, h2⟩ := h
    have e1 : fitF (.int r) "register" n = true := decide_eq_true h1
    have e2 : fitF (.int q) "register" n = true := decide_eq_true h2
    have key : fitsF [.int r, .int q] ["register", "register"] n = true := by
      rw [fitsF, fitsF, e1, e2]; rfl
    have go : ∀ m : Str, m ∈ names9 → rolesF m = ([("register" : Str), "register"] : List Str) → isIns (.str m :: [.int r, .int q]) n = true := fun m h1 h2 => by
      show (decide (m ∈ names9) && fitsF [.int r, .int q] (rolesF m) n) = true
      rw [h2, key, decide_eq_true h1]; rfl
    rcases hm with rfl | rfl | rfl | rfl | rfl
    · exact go "move" (by decide) (by decide)
    · exact go "add" (by decide) (by decide)
    · exact go "sub" (by decide) (by decide)
    · exact go "load" (by decide) (by decide)
    · exact go "store" (by decide) (by decide)
/-- the first item at fault -/
def faultF (rows : List (List V)) : Option Nat := if 4000 < rows.length then some 4000 else rows.findIdx? fun r => !isIns r rows.length
theorem fault_none {rows : List (List V)} (h : rows.length ≤ 4000) (a : ∀ r ∈ rows, isIns r rows.length = true) : faultF rows = none := by
  unfold faultF
  rw [if_neg (by omega)]
  rw [List.findIdx?_eq_none_iff]
  intro r hr
  rw [a r hr]; rfl
theorem fault_some {rows : List (List V)} {j : Nat} {row : List V} (h : rows.length ≤ 4000) (hj : rows[j]? = some row) (b : isIns row rows.length = false) (a : ∀ i r, i < j → rows[i]? = some r → isIns r rows.length = true) : faultF rows = some j := by
  obtain ⟨hl, e⟩ := List.getElem?_eq_some_iff.mp hj
  unfold faultF
  rw [if_neg (by omega)]
  rw [List.findIdx?_eq_some_iff_getElem]
  refine ⟨hl, by rw [e, b]; rfl, fun i hi => ?_⟩
  rw [a i _ hi (List.getElem?_eq_getElem (by omega))]; decide
/-! ### sizes -/
def vW : V → Nat
  | .str x => x.cps.size | .int i => if i == 0 then 0 else i.natAbs.log2 + 1 | _ => 0
def rowW : List V → Nat
  | [] => 0
  | v :: r => vW v + 1 + rowW r
inductive Sm : V → Prop
  | non : Sm .non
  | bl (b : Bool) : Sm (.bl b)
  | int {i : Int} : i.natAbs < 2 ^ 82 → Sm (.int i)
  | str {s : Str} : (s.cps.toList.all fun c => decide (c < 16 ^ 8)) = true → Sm (.str s)
theorem Sm.pl {v : V} (h : Sm v) : Pl v := by cases h <;> constructor
structure Rw (row : List V) : Prop where
  sm : ∀ v ∈ row, Sm v
  w : rowW row ≤ 139
  l : row.length ≤ 1000
theorem Rw.pl {row : List V} (h : Rw row) : ∀ v ∈ row, Pl v := fun v hv => (h.sm v hv).pl
theorem vW_int {i : Int} {k : Nat} (h : i.natAbs < 2 ^ k) : vW (.int i) ≤ k := by
  show (if i == 0 then 0 else i.natAbs.log2 + 1) ≤ k
  by_cases z : i = 0
  · rw [if_pos (by simp [z])]; exact Nat.zero_le _
  · rw [if_neg (by simp [z])]
    have := (Nat.log2_lt (by omega : i.natAbs ≠ 0)).mpr h
    omega
theorem rowW_app : ∀ xs ys : List V, rowW (xs ++ ys) = rowW xs + rowW ys
  | [], ys => by simp [rowW]
  | x :: xs, ys => by rw [List.cons_append, rowW, rowW, rowW_app xs ys]; omega
def bigB : Nat → Nat
  | 0 => 1
  | k + 1 => bigB k * 100000000
theorem bigB_pos : ∀ k, 1 ≤ bigB k
  | 0 => Nat.le_refl _
  | k + 1 => by have := bigB_pos k; rw [bigB]; omega
/-! ### odd names -/
def OddOk (z : Str) : Prop := z ∉ names9 ∧ inV (.str z) DL = false ∧ z.length ≤ 10 ∧ (z.cps.toList.all fun c => decide (c < 16 ^ 8)) = true
def allNames : List Str := names9 ++ ([("halt" : Str), "until", "clock", "look", "claim", "free", "copy", "drop", "revoke", "map", "unmap", "send", "take", "trysend", "trytake", "call", "reply", "ring", "await", "tryawait", "ack", "give", "pull"] : List Str)
theorem all_names {nm : Str} (h : nm ∈ names9 ∨ V.str nm ∈ DL) : nm ∈ allNames := by
  rcases h with h | h
  · exact List.mem_append_left _ h
  · refine List.mem_append_right _ ?_
    unfold DL at h
    simpa only [List.mem_cons, List.not_mem_nil, or_false, V.str.injEq] using h
def oddMenu (nm : Str) : List Str := ["", Txt.upper nm, cutS nm none (some (-1)), nm ++ "s", " " ++ nm, nm ++ " ", "nop", "end", nm ++ ":"]
def oddB (z : Str) : Bool := !decide (z ∈ names9) && (!inV (.str z) DL && (decide (z.length ≤ 10) && z.cps.toList.all fun c => decide (c < 16 ^ 8)))
theorem odd_ok {nm z : Str} (h : nm ∈ names9 ∨ V.str nm ∈ DL) (hz : z ∈ oddMenu nm) : OddOk z := by
  have q : (allNames.all fun x => (oddMenu x).all oddB) = true := by decide +kernel
  have r := List.all_eq_true.mp (List.all_eq_true.mp q nm (all_names h)) z hz
  unfold oddB at r
  simp only [Bool.and_eq_true, Bool.not_eq_true', decide_eq_true_eq, decide_eq_false_iff_not] at r
  exact ⟨r.1, r.2.1, r.2.2.1, r.2.2.2⟩

/-! ### bent rows -/
theorem two_in {m : Str} (h : Two m) : m ∈ names9 ∧ rolesF m = ([("register" : Str), "register"] : List Str) ∧ m ≠ "deed" ∧ m ≠ "set" ∧ m ≠ "jump" ∧ m ≠ "zero" ∧ m.length ≤ 8 ∧ (m.cps.toList.all fun c => decide (c < 16 ^ 8)) = true := by
  rcases h with rfl | rfl | rfl | rfl | rfl <;> exact ⟨by decide, by decide, by decide, by decide, by decide, by decide, by decide, by decide⟩
theorem deed_all {d : Str} (h : V.str d ∈ DL) : d ∉ names9 ∧ d.length ≤ 8 ∧ (d.cps.toList.all fun c => decide (c < 16 ^ 8)) = true := by
  have q : (allNames.all fun x => decide (x ∈ names9) || (decide (x.length ≤ 8) && x.cps.toList.all fun c => decide (c < 16 ^ 8))) = true := by decide +kernel
  have q2 : ((allNames.drop 9).all fun x => !decide (x ∈ names9)) = true := by decide +kernel
  have hn : d ∉ names9 := by
    have m : d ∈ allNames.drop 9 := by
      unfold DL at h
      have : d ∈ ([("halt" : Str), "until", "clock", "look", "claim", "free", "copy", "drop", "revoke", "map", "unmap", "send", "take", "trysend", "trytake", "call", "reply", "ring", "await", "tryawait", "ack", "give", "pull"] : List Str) := by
        simpa only [List.mem_cons, List.not_mem_nil, or_false, V.str.injEq] using h
      exact this
    have := List.all_eq_true.mp q2 d m
    simpa using this
  have r := List.all_eq_true.mp q d (all_names (.inr h))
  rw [decide_eq_false hn, Bool.false_or, Bool.and_eq_true, decide_eq_true_eq] at r
  exact ⟨hn, r.1, r.2⟩
theorem vW_str (s : Str) : vW (.str s) = s.length := rfl
theorem sm_str {s : Str} (h : (s.cps.toList.all fun c => decide (c < 16 ^ 8)) = true) : Sm (.str s) := .str h
theorem sm_int {i : Int} {k : Nat} (h : i.natAbs < 2 ^ k) (hk : k ≤ 82) : Sm (.int i) := .int (Nat.lt_of_lt_of_le h (Nat.pow_le_pow_right (by decide) hk))
/-- what an instruction's row is made of -/
structure RowF (it : It) (n : Int) : Prop where
  nm : it.name ∈ names9
  nl : it.name.length ≤ 8
  nc : (it.name.cps.toList.all fun c => decide (c < 16 ^ 8)) = true
  len : it.vals.length = (rolesF it.name).length
  l1 : 1 ≤ it.vals.length
  l2 : it.vals.length ≤ 2
  sm : ∀ v ∈ it.vals, Sm v ∧ vW v ≤ 30
  int : it.name ≠ "deed" → ∀ v ∈ it.vals, ∃ z : Int, v = .int z ∧ 0 ≤ z ∧ z < 1073741824
  dd : it.name ≠ "deed" → ∀ r ∈ rolesF it.name, r ≠ "deed"
  de : it.name = "deed" → ∃ d, it = .deed d ∧ V.str d ∈ DL
theorem small_sm {z : Int} (h0 : 0 ≤ z) (h1 : z < 1073741824) : Sm (.int z) ∧ vW (.int z) ≤ 30 := by
  have h : z.natAbs < 2 ^ 30 := by omega
  exact ⟨sm_int h (by decide), vW_int h⟩
theorem itF {it : It} {n : Int} (o : it.Ok n) (hn : n ≤ 1073741824) : RowF it n := by
  cases it with
  | deed d =>
    obtain ⟨_, h2, h3⟩ := deed_all o
    exact ⟨(by decide : ("deed" : Str) ∈ names9), (by decide : ("deed" : Str).length ≤ 8), (by decide : ((("deed" : Str).cps.toList.all fun c => decide (c < 16 ^ 8)) = true)), rfl, (by show 1 ≤ 1; decide), (by show 1 ≤ 2; decide), fun v hv => by rw [List.mem_singleton.mp hv]; exact ⟨sm_str h3, by rw [vW_str]; omega⟩, fun h => absurd rfl h, fun h => absurd rfl h, fun _ => ⟨d, rfl, o⟩⟩
  | jump t =>
    have s := small_sm o.1 (by have := o.2; omega)
    exact ⟨(by decide : ("jump" : Str) ∈ names9), (by decide : ("jump" : Str).length ≤ 8), (by decide : ((("jump" : Str).cps.toList.all fun c => decide (c < 16 ^ 8)) = true)), rfl, (by show 1 ≤ 1; decide), (by show 1 ≤ 2; decide), fun v hv => by rw [List.mem_singleton.mp hv]; exact s, fun _ v hv => ⟨t, List.mem_singleton.mp hv, o.1, by have := o.2; omega⟩, fun _ => (by decide : ∀ r ∈ rolesF "jump", r ≠ "deed"), fun h => absurd h (by decide : ("jump" : Str) ≠ "deed")⟩
  | zero r t =>
    have b1 : r < 1073741824 := by have := o.1.2; omega
    have b2 : t < 1073741824 := by have := o.2.2; omega
    refine ⟨(by decide : ("zero" : Str) ∈ names9), (by decide : ("zero" : Str).length ≤ 8), (by decide : ((("zero" : Str).cps.toList.all fun c => decide (c < 16 ^ 8)) = true)), rfl, (by show 1 ≤ 2; decide), (by show 2 ≤ 2; decide), fun v hv => ?_, fun _ v hv => ?_, fun _ => (by decide : ∀ r ∈ rolesF "zero", r ≠ "deed"), fun h => absurd h (by decide : ("zero" : Str) ≠ "deed")⟩
    · simp only [It.vals, List.mem_cons, List.not_mem_nil, or_false] at hv
      rcases hv with rfl | rfl
      · exact small_sm o.1.1 b1
      · exact small_sm o.2.1 b2
    · simp only [It.vals, List.mem_cons, List.not_mem_nil, or_false] at hv
      rcases hv with rfl | rfl
      · exact ⟨_, rfl, o.1.1, b1⟩
      · exact ⟨_, rfl, o.2.1, b2⟩
  | set r t =>
    have b1 : r < 1073741824 := by have := o.1.2; omega
    have b2 : t < 1073741824 := by have := o.2.2; omega
    refine ⟨(by decide : ("set" : Str) ∈ names9), (by decide : ("set" : Str).length ≤ 8), (by decide : ((("set" : Str).cps.toList.all fun c => decide (c < 16 ^ 8)) = true)), rfl, (by show 1 ≤ 2; decide), (by show 2 ≤ 2; decide), fun v hv => ?_, fun _ v hv => ?_, fun _ => (by decide : ∀ r ∈ rolesF "set", r ≠ "deed"), fun h => absurd h (by decide : ("set" : Str) ≠ "deed")⟩
    · simp only [It.vals, List.mem_cons, List.not_mem_nil, or_false] at hv
      rcases hv with rfl | rfl
      · exact small_sm o.1.1 b1
      · exact small_sm o.2.1 b2
    · simp only [It.vals, List.mem_cons, List.not_mem_nil, or_false] at hv
      rcases hv with rfl | rfl
      · exact ⟨_, rfl, o.1.1, b1⟩
      · exact ⟨_, rfl, o.2.1, b2⟩
  | two m r t =>
    obtain ⟨t1, t2, t3, t4, t5, t6, t7, t8⟩ := two_in o.1
    have b1 : r < 1073741824 := by have := o.2.1.2; omega
    have b2 : t < 1073741824 := by have := o.2.2.2; omega
    refine ⟨t1, t7, t8, ?_, by show 1 ≤ 2; decide, by show 2 ≤ 2; decide, fun v hv => ?_, fun _ v hv => ?_, fun _ => ?_, fun h => absurd h t3⟩
    · show 2 = (rolesF m).length
      rw [t2]; rfl
    · simp only [It.vals, List.mem_cons, List.not_mem_nil, or_false] at hv
      rcases hv with rfl | rfl
      · exact small_sm o.2.1.1 b1
      · exact small_sm o.2.2.1 b2
    · simp only [It.vals, List.mem_cons, List.not_mem_nil, or_false] at hv
      rcases hv with rfl | rfl
      · exact ⟨_, rfl, o.2.1.1, b1⟩
      · exact ⟨_, rfl, o.2.2.1, b2⟩
    · show ∀ r ∈ rolesF m, r ≠ "deed"
      rw [t2]; decide
theorem RowF.rowlen {it : It} {n : Int} (F : RowF it n) : 2 ≤ it.row.length ∧ it.row.length ≤ 3 := by
  have a := F.l1
  have b := F.l2
  unfold It.row
  rw [List.length_cons]
  omega
theorem RowF.rw {it : It} {n : Int} (F : RowF it n) : Rw it.row := by
  have a := F.l2
  have key : ∀ vs : List V, (∀ v ∈ vs, Sm v ∧ vW v ≤ 30) → rowW vs ≤ 31 * vs.length := by
    intro vs
    induction vs with
    | nil => intro _; exact Nat.zero_le _
    | cons v vs ih =>
      intro h
      have h1 := (h v (List.mem_cons_self ..)).2
      have h2 := ih fun u hu => h u (List.mem_cons_of_mem _ hu)
      rw [rowW, List.length_cons]; omega
  have k := key _ F.sm
  have nl := F.nl
  refine ⟨fun v hv => ?_, ?_, by have := F.rowlen; omega⟩
  · rcases List.mem_cons.mp hv with rfl | hv
    · exact sm_str F.nc
    · exact (F.sm v hv).1
  · unfold It.row
    rw [rowW, vW_str]; omega
/-- a row of few items, one of them great -/
theorem rw_of {row : List V} (s : ∀ v ∈ row, Sm v) (w : rowW row ≤ 139) (l : row.length ≤ 1000) : Rw row := ⟨s, w, l⟩
theorem ins_cons {nm : Str} {vs : List V} {n : Int} : isIns (.str nm :: vs) n = (decide (nm ∈ names9) && fitsF vs (rolesF nm) n) := rfl
theorem ins_len {nm : Str} {vs : List V} {n : Int} (h : vs.length ≠ (rolesF nm).length) : isIns (.str nm :: vs) n = false := by
  rw [ins_cons, fitsF_ne h, Bool.and_false]
theorem ins_nm {nm : Str} {vs : List V} {n : Int} (h : nm ∉ names9) : isIns (.str nm :: vs) n = false := by
  rw [ins_cons, decide_eq_false h, Bool.false_and]
theorem ins_part {nm : Str} {vs : List V} {n : Int} {s : Nat} {v : V} {rl : Str} (h1 : vs[s]? = some v) (h2 : (rolesF nm)[s]? = some rl) (h3 : fitF v rl n = false) : isIns (.str nm :: vs) n = false := by
  rw [ins_cons]
  by_cases hl : vs.length = (rolesF nm).length
  · cases e : fitsF vs (rolesF nm) n with
    | false => rw [Bool.and_false]
    | true =>
      have := (fitsF_iff hl).mp e s v rl h1 h2
      rw [h3] at this; cases this
  · rw [fitsF_ne hl, Bool.and_false]
def small (v : V) : Prop := Sm v ∧ vW v ≤ 30
theorem rw_vals {nm : Str} {vs : List V} (h1 : nm.length ≤ 10) (h2 : (nm.cps.toList.all fun c => decide (c < 16 ^ 8)) = true) (h3 : vs.length ≤ 3) (h4 : ∀ v ∈ vs, small v) : Rw (.str nm :: vs) := by
  have key : ∀ vs : List V, (∀ v ∈ vs, small v) → rowW vs ≤ 31 * vs.length := by
    intro vs
    induction vs with
    | nil => intro _; exact Nat.zero_le _
    | cons v vs ih =>
      intro h
      have h1 := (h v (List.mem_cons_self ..)).2
      have h2 := ih fun u hu => h u (List.mem_cons_of_mem _ hu)
      rw [rowW, List.length_cons]; omega
  have k := key _ h4
  refine ⟨fun v hv => ?_, by rw [rowW, vW_str]; omega, by rw [List.length_cons]; omega⟩
  rcases List.mem_cons.mp hv with rfl | hv
  · exact sm_str h2
  · exact (h4 v hv).1
theorem bent_app {it : It} {n m z : Int} (F : RowF it n) (h0 : 0 ≤ z) (h1 : z < 8) : isIns (it.row ++ [.int z]) m = false ∧ Rw (it.row ++ [.int z]) := by
  have a := F.len
  have e : it.row ++ [.int z] = .str it.name :: (it.vals ++ [.int z]) := rfl
  rw [e]
  refine ⟨ins_len (by rw [List.length_append, List.length_singleton]; omega), rw_vals (by have := F.nl; omega) F.nc (by have := F.l2; rw [List.length_append, List.length_singleton]; omega) fun v hv => ?_⟩
  rcases List.mem_append.mp hv with hv | hv
  · exact F.sm v hv
  · rw [List.mem_singleton.mp hv]; exact small_sm h0 (by omega)
theorem cut_last (xs : List V) : cutV xs none (some (-1)) = xs.dropLast := by
  unfold cutV
  rw [HT.sIx_none, List.drop_zero, List.dropLast_eq_take]
  congr 1
  unfold HT.sIx
  simp
  omega
theorem bent_cut {it : It} {n m : Int} (F : RowF it n) : isIns (cutV it.row none (some (-1))) m = false ∧ Rw (cutV it.row none (some (-1))) := by
  have a := F.len
  have b := F.l1
  have e : cutV it.row none (some (-1)) = .str it.name :: it.vals.dropLast := by
    rw [cut_last]
    unfold It.row
    cases q : it.vals with
    | nil => rw [q] at b; exact absurd b (by decide)
    | cons v vs => rfl
  rw [e]
  refine ⟨ins_len (by rw [List.length_dropLast]; omega), rw_vals (by have := F.nl; omega) F.nc (by have := F.l2; rw [List.length_dropLast]; omega) fun v hv => F.sm v (by rw [List.dropLast_eq_take] at hv; exact List.mem_of_mem_take hv)⟩
theorem bent_odd {it : It} {n m : Int} {z : Str} (F : RowF it n) (o : OddOk z) : isIns ([.str z] ++ cutV it.row (some 1) none) m = false ∧ Rw ([.str z] ++ cutV it.row (some 1) none) := by
  have e : [V.str z] ++ cutV it.row (some 1) none = .str z :: it.vals := by rw [cut_from _ 1 (by decide)]; rfl
  rw [e]
  exact ⟨ins_nm o.1, rw_vals o.2.2.1 o.2.2.2 (by have := F.l2; omega) F.sm⟩
theorem bent_part {it : It} {n m : Int} {s : Nat} {v : V} {rl : Str} (F : RowF it n) (hr : (rolesF it.name)[s]? = some rl) (hs : Sm v) (hf : fitF v rl m = false) (hw : vW v ≤ 82) :
    isIns (cutV it.row none (some ((s : Int) + 1)) ++ [v] ++ cutV it.row (some ((s : Int) + 1 + 1)) none) m = false ∧ Rw (cutV it.row none (some ((s : Int) + 1)) ++ [v] ++ cutV it.row (some ((s : Int) + 1 + 1)) none) := by
  have a := F.len
  have l2 := F.l2
  have sl : s < it.vals.length := by have := (List.getElem?_eq_some_iff.mp hr).1; omega
  have e : cutV it.row none (some ((s : Int) + 1)) ++ [v] ++ cutV it.row (some ((s : Int) + 1 + 1)) none = .str it.name :: (it.vals.take s ++ [v] ++ it.vals.drop (s + 1)) := by
    rw [cut_to _ _ (by omega), cut_from _ _ (by omega), show ((s : Int) + 1).toNat = s + 1 by omega, show ((s : Int) + 1 + 1).toNat = s + 2 by omega]
    rfl
  rw [e]
  refine ⟨ins_part (s := s) (v := v) ?_ hr hf, ?_⟩
  · rw [List.append_assoc, List.getElem?_append_right (by rw [List.length_take]; omega), List.length_take, Nat.min_eq_left (by omega), Nat.sub_self]
    rfl
  · have sm : ∀ u ∈ it.vals.take s ++ it.vals.drop (s + 1), small u := fun u hu => by
      rcases List.mem_append.mp hu with hu | hu
      · exact F.sm u (List.mem_of_mem_take hu)
      · exact F.sm u (List.mem_of_mem_drop hu)
    have rv := rw_vals (nm := it.name) (vs := it.vals.take s ++ it.vals.drop (s + 1)) (by have := F.nl; omega) F.nc (by rw [List.length_append, List.length_take, List.length_drop]; omega) sm
    have w0 : rowW (it.vals.take s ++ it.vals.drop (s + 1)) ≤ 31 := by
      have key : ∀ vs : List V, (∀ v ∈ vs, small v) → rowW vs ≤ 31 * vs.length := by
        intro vs
        induction vs with
        | nil => intro _; exact Nat.zero_le _
        | cons v vs ih =>
          intro h
          have h1 := (h v (List.mem_cons_self ..)).2
          have h2 := ih fun u hu => h u (List.mem_cons_of_mem _ hu)
          rw [rowW, List.length_cons]; omega
      have q := key _ sm
      have : (it.vals.take s ++ it.vals.drop (s + 1)).length ≤ 1 := by rw [List.length_append, List.length_take, List.length_drop]; omega
      omega
    have nl := F.nl
    rw [rowW_app] at w0
    refine ⟨fun u hu => ?_, ?_, by rw [List.length_cons, List.length_append, List.length_append, List.length_take, List.length_drop, List.length_singleton]; omega⟩
    · rcases List.mem_cons.mp hu with rfl | hu
      · exact sm_str F.nc
      · rcases List.mem_append.mp hu with hu | hu
        · rcases List.mem_append.mp hu with hu | hu
          · exact (F.sm u (List.mem_of_mem_take hu)).1
          · rw [List.mem_singleton.mp hu]; exact hs
        · exact (F.sm u (List.mem_of_mem_drop hu)).1
    · rw [rowW, vW_str, rowW_app, rowW_app, rowW, rowW]; omega
theorem bad_int {rl : Str} {n z : Int} (h : rl ≠ "deed") (b : z < 0 ∨ boundF rl n ≤ z) : fitF (.int z) rl n = false := by
  unfold fitF
  rw [if_neg h]
  exact decide_eq_false (by omega)
theorem beyond_ok {rl : Str} {n B far : Int} {v : V} (hd : rl ≠ "deed") (hB : boundF rl n = B) (b0 : 0 < B) (b1 : B < 1073741824) (f0 : 1 ≤ far) (f1 : far < 2 * 10 ^ 24) (hv : v ∈ [V.int B, .int (B + far), .int (-1), .int (-far), .int (-B), .int (B + 1)]) :
    Sm v ∧ fitF v rl n = false ∧ vW v ≤ 82 := by
  have fin : ∀ z : Int, (z < 0 ∨ B ≤ z) → z.natAbs < 2 ^ 82 → Sm (.int z) ∧ fitF (.int z) rl n = false ∧ vW (.int z) ≤ 82 := fun z h1 h2 => ⟨sm_int h2 (by decide), bad_int hd (by rw [hB]; exact h1), vW_int h2⟩
  simp only [List.mem_cons, List.not_mem_nil, or_false] at hv
  rcases hv with rfl | rfl | rfl | rfl | rfl | rfl <;> exact fin _ (by omega) (by omega)
theorem bent_swap {it : It} {n m : Int} {l : V} (F : RowF it n) (hl : atI it.row (-1) = some l) : isIns ([l] ++ cutV it.row (some 1) (some (-1)) ++ [.str it.name]) m = false ∧ Rw ([l] ++ cutV it.row (some 1) (some (-1)) ++ [.str it.name]) := by
  have l1 := F.l1
  have l2 := F.l2
  have cases2 : (∃ x, it.vals = [x]) ∨ ∃ x y, it.vals = [x, y] := by
    cases q : it.vals with
    | nil => rw [q] at l1; exact absurd l1 (by decide)
    | cons x r =>
      cases r with
      | nil => exact .inl ⟨x, rfl⟩
      | cons y r =>
        cases r with
        | nil => exact .inr ⟨x, y, rfl⟩
        | cons z r => rw [q] at l2; simp at l2
  have fin : ∀ (mid : List V), l ∈ it.vals → mid.length ≤ 1 → (∀ v ∈ mid, v ∈ it.vals) → isIns ([l] ++ mid ++ [.str it.name]) m = false ∧ Rw ([l] ++ mid ++ [.str it.name]) := fun mid hlv hm hmid => by
    have sl := F.sm l hlv
    constructor
    · by_cases hd : it.name = "deed"
      · obtain ⟨d, rfl, hd2⟩ := F.de hd
        have e : l = .str d := List.mem_singleton.mp hlv
        rw [e]
        exact ins_nm (deed_all hd2).1
      · obtain ⟨z, rfl, _⟩ := F.int hd l hlv
        rfl
    · refine ⟨fun v hv => ?_, ?_, by simp only [List.length_append, List.length_singleton]; omega⟩
      · rcases List.mem_append.mp hv with hv | hv
        · rcases List.mem_append.mp hv with hv | hv
          · rw [List.mem_singleton.mp hv]; exact sl.1
          · exact (F.sm v (hmid v hv)).1
        · rw [List.mem_singleton.mp hv]; exact sm_str F.nc
      · have nl := F.nl
        have hmw : rowW mid ≤ 31 := by
          cases mid with
          | nil => exact Nat.zero_le _
          | cons x r =>
            cases r with
            | nil => have := (F.sm x (hmid x (List.mem_cons_self ..))).2; rw [rowW, rowW]; omega
            | cons y r => simp at hm
        have := sl.2
        rw [rowW_app, rowW_app, rowW, rowW, rowW, rowW, vW_str]
        omega
  rcases cases2 with ⟨x, e⟩ | ⟨x, y, e⟩
  · have er : it.row = [.str it.name, x] := by unfold It.row; rw [e]
    rw [er] at hl ⊢
    have el : x = l := Option.some.inj hl
    subst el
    exact fin [] (by rw [e]; exact List.mem_singleton.mpr rfl) (by decide) fun v hv => nomatch hv
  · have er : it.row = [.str it.name, x, y] := by unfold It.row; rw [e]
    rw [er] at hl ⊢
    have el : y = l := Option.some.inj hl
    subst el
    exact fin [x] (by rw [e]; simp) (by simp) fun v hv => by rw [List.mem_singleton.mp hv, e]; simp

/-! ### ways to the end -/
/-- the indexes that may follow -/
def behF (it : It) (place : Nat) : List Nat := match it with
  | .jump t => [t.toNat] | .zero _ t => [t.toNat, place + 1] | .deed d => if d = "halt" then [] else [place + 1] | _ => [place + 1]
theorem beh_le {it : It} {n place f : Nat} (o : it.Ok n) (hp : place < n) (h : f ∈ behF it place) : f ≤ n := by
  cases it with
  | jump t => have h := List.mem_singleton.mp h; have := o.1; have := o.2; omega
  | zero r t =>
    have o2 := o.2
    rcases List.mem_cons.mp h with h | h
    · omega
    · have h := List.mem_singleton.mp h; omega
  | deed d =>
    replace h : f ∈ (if d = "halt" then [] else [place + 1]) := h
    by_cases q : d = "halt"
    · rw [if_pos q] at h; cases h
    · rw [if_neg q] at h
      have h := List.mem_singleton.mp h; omega
  | set r w => have h := List.mem_singleton.mp h; omega
  | two m r q => have h := List.mem_singleton.mp h; omega
theorem beh_len {it : It} {place : Nat} : (behF it place).length ≤ 2 := by
  cases it with
  | deed d => unfold behF; simp only; split <;> simp
  | _ => simp [behF]
/-- one source more -/
def addL (L : List (List Nat)) (f i : Nat) : List (List Nat) := L.set f ((L[f]?.getD []) ++ [i])
def leadI (it : It) (i : Nat) (L : List (List Nat)) : List (List Nat) := (behF it i).foldl (fun L f => addL L f i) L
def leadK (its : List It) : Nat → List (List Nat)
  | 0 => List.replicate (its.length + 1) []
  | k + 1 => match its[k]? with | some it => leadI it k (leadK its k) | none => leadK its k
abbrev St2 := List Int × List Nat
def visit (p : Nat) (s : St2) (i : Nat) : St2 := if (s.1[i]?.getD 0) < 0 then (s.1.set i ((s.1[p]?.getD 0) + 1), s.2 ++ [i]) else s
def roundF (L : List (List Nat)) (k : Nat) (s : St2) : St2 := match s.2[k]? with | some p => (L[p]?.getD []).foldl (visit p) s | none => s
def bfsF (L : List (List Nat)) (n : Nat) : Nat → St2
  | 0 => (List.replicate n (-1) ++ [0], [n])
  | k + 1 => roundF L k (bfsF L n k)
def distF (its : List It) : List Int := (bfsF (leadK its its.length) its.length (its.length + 1)).1
/-- what holds of the sources -/
def LeadOk (its : List It) (L : List (List Nat)) : Prop := L.length = its.length + 1 ∧ ∀ f l, L[f]? = some l → ∀ i ∈ l, ∃ it, its[i]? = some it ∧ f ∈ behF it i
theorem lead_add {its : List It} {L : List (List Nat)} {f i : Nat} {it : It} (h : LeadOk its L) (hi : its[i]? = some it) (hf : f ∈ behF it i) : LeadOk its (addL L f i) := by
  obtain ⟨h1, h2⟩ := h
  refine ⟨by unfold addL; rw [List.length_set]; exact h1, fun g l hg j hj => ?_⟩
  unfold addL at hg
  rw [List.getElem?_set] at hg
  by_cases e : f = g
  · subst e
    rw [if_pos rfl] at hg
    split at hg
    · have hg := Option.some.inj hg
      subst hg
      rcases List.mem_append.mp hj with q | q
      · cases hz : L[f]? with
        | none => rw [hz] at q; cases q
        | some l => rw [hz] at q; exact h2 f l hz j q
      · rw [List.mem_singleton.mp q]
        exact ⟨it, hi, hf⟩
    · cases hg
  · rw [if_neg e] at hg
    exact h2 g l hg j hj
theorem lead_in {its : List It} {i : Nat} {it : It} (hi : its[i]? = some it) : ∀ (fs : List Nat) (L : List (List Nat)), LeadOk its L → (∀ f ∈ fs, f ∈ behF it i) → LeadOk its (fs.foldl (fun L f => addL L f i) L)
  | [], _, h, _ => h
  | f :: fs, L, h, hf => lead_in hi fs _ (lead_add h hi (hf f (List.mem_cons_self ..))) fun g hg => hf g (List.mem_cons_of_mem _ hg)
theorem leadK_ok (its : List It) : ∀ k, LeadOk its (leadK its k)
  | 0 => ⟨List.length_replicate, fun f l h i hi => by
    have h : (List.replicate (its.length + 1) ([] : List Nat))[f]? = some l := h
    rw [List.getElem?_replicate] at h
    split at h
    · rw [← Option.some.inj h] at hi; cases hi
    · cases h⟩
  | k + 1 => by
    rw [leadK]
    cases h : its[k]? with
    | none => exact leadK_ok its k
    | some it => exact lead_in h _ _ (leadK_ok its k) fun _ z => z
/-- what holds of the search -/
structure BfsOk (its : List It) (k : Nat) (s : St2) : Prop where
  len : s.1.length = its.length + 1
  cnt : s.1.countP (fun x => decide (0 ≤ x)) = s.2.length
  q : ∀ x ∈ s.2, x ≤ its.length ∧ ∃ d, s.1[x]? = some d ∧ 0 ≤ d
  up : ∀ (x : Nat) (d : Int), s.1[x]? = some d → d ≤ k
  way : ∀ (x : Nat) (d : Int), s.1[x]? = some d → 0 ≤ d → (x = its.length ∧ d = 0) ∨ ∃ it f, its[x]? = some it ∧ f ∈ behF it x ∧ s.1[f]? = some (d - 1) ∧ 1 ≤ d
theorem BfsOk.qlen {its : List It} {k : Nat} {s : St2} (h : BfsOk its k s) : s.2.length ≤ its.length + 1 := by
  rw [← h.cnt, ← h.len]
  exact List.countP_le_length
theorem bfs_visit {its : List It} {k p i : Nat} {s : St2} {dp : Int} {it : It} (h : BfsOk its (k + 1) s) (hp : s.1[p]? = some dp) (h0 : 0 ≤ dp) (hk : dp ≤ k) (hi : its[i]? = some it) (hf : p ∈ behF it i) : BfsOk its (k + 1) (visit p s i) ∧ (visit p s i).1[p]? = some dp := by
  have il : i < its.length := (List.getElem?_eq_some_iff.mp hi).1
  have is : i < s.1.length := by rw [h.len]; omega
  unfold visit
  rw [hp, List.getElem?_eq_getElem is]
  simp only [Option.getD_some]
  by_cases c : s.1[i] < 0
  · rw [if_pos c]
    have pi : p ≠ i := fun e => by
      subst e
      rw [List.getElem?_eq_getElem is] at hp
      have := Option.some.inj hp
      omega
    have other : ∀ (x : Nat) (d : Int), s.1[x]? = some d → 0 ≤ d → (s.1.set i (dp + 1))[x]? = some d := fun x d hx hd => by
      rw [List.getElem?_set_ne (fun e => by
        subst e
        rw [List.getElem?_eq_getElem is] at hx
        have := Option.some.inj hx
        omega)]
      exact hx
    refine ⟨⟨by rw [List.length_set]; exact h.len, ?_, fun x hx => ?_, fun x d hx => ?_, fun x d hx hd => ?_⟩, other p dp hp h0⟩
    · have e1 := List.countP_set (p := fun x : Int => decide (0 ≤ x)) (a := dp + 1) is
      rw [e1, h.cnt, List.length_append]
      have e2 : decide (0 ≤ s.1[i]) = false := decide_eq_false (by omega)
      have e3 : decide (0 ≤ dp + 1) = true := decide_eq_true (by omega)
      simp [e2, e3]
    · rcases List.mem_append.mp hx with q | q
      · obtain ⟨a, d, b, c⟩ := h.q x q
        exact ⟨a, d, other x d b c, c⟩
      · rw [List.mem_singleton.mp q]
        exact ⟨by omega, dp + 1, by rw [List.getElem?_set_self is], by omega⟩
    · rw [List.getElem?_set] at hx
      by_cases e : i = x
      · rw [if_pos e, if_pos is] at hx
        have := Option.some.inj hx
        omega
      · rw [if_neg e] at hx
        exact h.up x d hx
    · rw [List.getElem?_set] at hx
      by_cases e : i = x
      · rw [if_pos e, if_pos is] at hx
        have hx := Option.some.inj hx
        subst e
        refine .inr ⟨it, p, hi, hf, ?_, by omega⟩
        rw [other p dp hp h0]
        congr 1
        omega
      · rw [if_neg e] at hx
        rcases h.way x d hx hd with q | ⟨it2, f, a, b, c2, d2⟩
        · exact .inl q
        · exact .inr ⟨it2, f, a, b, other f _ c2 (by omega), d2⟩
  · rw [if_neg c]
    exact ⟨h, hp⟩
theorem bfs_fold {its : List It} {k p : Nat} {dp : Int} (h0 : 0 ≤ dp) (hk : dp ≤ k) : ∀ (l : List Nat) (s : St2), (∀ i ∈ l, ∃ it, its[i]? = some it ∧ p ∈ behF it i) → BfsOk its (k + 1) s → s.1[p]? = some dp → BfsOk its (k + 1) (l.foldl (visit p) s) ∧ (l.foldl (visit p) s).1[p]? = some dp
  | [], _, _, h, hp => ⟨h, hp⟩
  | i :: l, s, hl, h, hp => by
    obtain ⟨it, a, b⟩ := hl i (List.mem_cons_self ..)
    obtain ⟨h1, h2⟩ := bfs_visit h hp h0 hk a b
    exact bfs_fold h0 hk l _ (fun j hj => hl j (List.mem_cons_of_mem _ hj)) h1 h2
theorem BfsOk.up1 {its : List It} {k : Nat} {s : St2} (h : BfsOk its k s) : BfsOk its (k + 1) s := ⟨h.len, h.cnt, h.q, fun x d hx => by have := h.up x d hx; omega, h.way⟩
theorem bfs_ok {its : List It} {L : List (List Nat)} (hL : LeadOk its L) : ∀ k, BfsOk its k (bfsF L its.length k)
  | 0 => by
    have get : ∀ (x : Nat) (d : Int), (List.replicate its.length (-1) ++ [0] : List Int)[x]? = some d → (x < its.length ∧ d = -1) ∨ (x = its.length ∧ d = 0) := fun x d h => by
      rw [List.getElem?_append, List.length_replicate] at h
      split at h
      · rw [List.getElem?_replicate, if_pos (by assumption)] at h
        exact .inl ⟨by assumption, (Option.some.inj h).symm⟩
      · have e : x - its.length = 0 := by
          have := (List.getElem?_eq_some_iff.mp h).1
          simp at this
          omega
        rw [e] at h
        exact .inr ⟨by omega, (Option.some.inj h).symm⟩
    refine ⟨by simp [bfsF], ?_, fun x hx => ?_, fun x d hx => ?_, fun x d hx hd => ?_⟩
    · show List.countP _ (List.replicate its.length (-1) ++ [0] : List Int) = 1
      rw [List.countP_append, List.countP_replicate]
      simp
    · have e : x = its.length := by simpa [bfsF] using hx
      subst e
      exact ⟨Nat.le_refl _, 0, by show (List.replicate its.length (-1) ++ [0] : List Int)[its.length]? = some 0; simp, Int.le_refl _⟩
    · rcases get x d hx with ⟨_, h⟩ | ⟨_, h⟩ <;> omega
    · rcases get x d hx with ⟨_, h⟩ | ⟨h1, h⟩
      · omega
      · exact .inl ⟨h1, h⟩
  | k + 1 => by
    have ih := bfs_ok hL k
    rw [bfsF, roundF]
    cases e : (bfsF L its.length k).2[k]? with
    | none => exact ih.up1
    | some p =>
      obtain ⟨pl, dp, hp, h0⟩ := ih.q p (List.mem_of_getElem? e)
      have hl := hL.1
      refine (bfs_fold h0 (ih.up p dp hp) _ _ (fun i hi => ?_) ih.up1 hp).1
      rw [List.getElem?_eq_getElem (by omega)] at hi
      exact hL.2 p _ (List.getElem?_eq_getElem (by omega)) i hi
/-- behind the queue's end nothing moves -/
theorem bfs_stop {L : List (List Nat)} {n k : Nat} (h : (bfsF L n k).2.length ≤ k) : ∀ m, bfsF L n (k + m) = bfsF L n k
  | 0 => rfl
  | m + 1 => by
    have ih := bfs_stop h m
    rw [← Nat.add_assoc, bfsF, ih, roundF, List.getElem?_eq_none (by omega)]
theorem dist_ok (its : List It) : BfsOk its (its.length + 1) (bfsF (leadK its its.length) its.length (its.length + 1)) := bfs_ok (leadK_ok its its.length) _
theorem dist_len (its : List It) : (distF its).length = its.length + 1 := (dist_ok its).len
theorem dist_up {its : List It} {x : Nat} {d : Int} (h : (distF its)[x]? = some d) : d ≤ its.length + 1 := (dist_ok its).up x d h
theorem dist_way {its : List It} {x : Nat} {d : Int} (h : (distF its)[x]? = some d) (h1 : 1 ≤ d) : ∃ it f, its[x]? = some it ∧ f ∈ behF it x ∧ (distF its)[f]? = some (d - 1) := by
  rcases (dist_ok its).way x d h (by omega) with ⟨_, q⟩ | ⟨it, f, a, b, c, _⟩
  · omega
  · exact ⟨it, f, a, b, c⟩
/-- the best of the followers: -1 for none -/
def bestP (d : List Int) (left : Int) (best : Int) (f : Nat) : Int := if d[f]? = some left ∧ (best < 0 ∨ (f : Int) < best) then f else best
def bestL (d : List Int) (left : Int) (least : Int) (f : Nat) : Int := if d[f]? = some left ∧ (f : Int) < least then f else least
theorem best_fold {d : List Int} {left : Int} {n : Nat} : ∀ (fs : List Nat) (b l : Int), (∀ f ∈ fs, f ≤ n) → ((b = -1 ∧ l = n ∧ ∃ f ∈ fs, d[f]? = some left) ∨ (b = l ∧ 0 ≤ b ∧ b ≤ n ∧ d[b.toNat]? = some left)) →
    fs.foldl (bestP d left) b = fs.foldl (bestL d left) l ∧ 0 ≤ fs.foldl (bestP d left) b ∧ fs.foldl (bestP d left) b ≤ n ∧ d[(fs.foldl (bestP d left) b).toNat]? = some left
  | [], b, l, _, h => by
    rcases h with ⟨_, _, f, q, _⟩ | ⟨h1, h2, h3, h4⟩
    · cases q
    · exact ⟨h1, h2, h3, h4⟩
  | f :: fs, b, l, hn, h => by
    have hf := hn f (List.mem_cons_self ..)
    rw [List.foldl_cons, List.foldl_cons]
    refine best_fold fs _ _ (fun g hg => hn g (List.mem_cons_of_mem _ hg)) ?_
    unfold bestP bestL
    by_cases c : d[f]? = some left
    · right
      rcases h with ⟨rfl, rfl, _⟩ | ⟨rfl, h2, h3, h4⟩
      · rw [if_pos ⟨c, .inl (by decide)⟩]
        by_cases e : (f : Int) < n
        · rw [if_pos ⟨c, e⟩]
          exact ⟨rfl, by omega, by omega, by simpa using c⟩
        · rw [if_neg (fun z => e z.2)]
          exact ⟨by omega, by omega, by omega, by simpa using c⟩
      · by_cases e : (f : Int) < b
        · rw [if_pos ⟨c, .inr e⟩, if_pos ⟨c, e⟩]
          exact ⟨rfl, by omega, by omega, by simpa using c⟩
        · rw [if_neg (fun z => z.2.elim (fun z => by omega) e), if_neg (fun z => e z.2)]
          exact ⟨rfl, h2, h3, h4⟩
    · rw [if_neg (fun z => c z.1), if_neg (fun z => c z.1)]
      rcases h with ⟨h1, h2, g, hg, hd⟩ | h
      · refine .inl ⟨h1, h2, g, ?_, hd⟩
        rcases List.mem_cons.mp hg with q | q
        · subst q; exact absurd hd c
        · exact q
      · exact .inr h
def folsF (its : List It) (place : Nat) : List Nat := match its[place]? with | some it => behF it place | none => []
/-- the way: k moves from 0 -/
def wayF (its : List It) : Nat → List Nat
  | 0 => [0]
  | k + 1 => wayF its k ++ [((folsF its ((wayF its k).getLast?.getD 0)).foldl (bestP (distF its) (((distF its)[0]?.getD 0) - (k + 1))) (-1)).toNat]
theorem way_len (its : List It) : ∀ k, (wayF its k).length = k + 1
  | 0 => rfl
  | k + 1 => by rw [wayF, List.length_append, way_len its k]; rfl
/-- the place behind k moves, and its distance -/
theorem way_at {its : List It} (ho : ∀ it ∈ its, It.Ok its.length it) {d0 : Int} (h : (distF its)[0]? = some d0) : ∀ k : Nat, (k : Int) ≤ d0 → ∃ p, (wayF its k)[k]? = some p ∧ (wayF its k).getLast? = some p ∧ p ≤ its.length ∧ (distF its)[p]? = some (d0 - k)
  | 0, _ => ⟨0, rfl, rfl, Nat.zero_le _, by rw [h]; simp⟩
  | k + 1, hk => by
    obtain ⟨p, h1, h2, h3, h4⟩ := way_at ho h k (by omega)
    obtain ⟨it, f, a, b, c⟩ := dist_way h4 (by omega)
    have il : p < its.length := (List.getElem?_eq_some_iff.mp a).1
    have hit := List.mem_of_getElem? a
    have q := best_fold (d := distF its) (left := d0 - (k + 1)) (n := its.length) (behF it p) (-1) its.length (fun g hg => beh_le (ho it hit) il hg) (.inl ⟨rfl, rfl, f, b, by rw [c]; congr 1; omega⟩)
    obtain ⟨q1, q2, q3, q4⟩ := q
    have e : folsF its ((wayF its k).getLast?.getD 0) = behF it p := by rw [h2]; unfold folsF; simp only [Option.getD_some]; rw [a]
    refine ⟨((folsF its ((wayF its k).getLast?.getD 0)).foldl (bestP (distF its) (((distF its)[0]?.getD 0) - (k + 1))) (-1)).toNat, ?_, ?_, ?_, ?_⟩
    · rw [wayF, List.getElem?_append_right (Nat.le_of_eq (way_len its k)), way_len]
      simp
    · rw [wayF, List.getLast?_append]; simp
    · rw [e, h]; simp only [Option.getD_some]; omega
    · rw [e, h]; simp only [Option.getD_some]; rw [q4]; congr 1
/-- the step of the law's reading is the same -/
theorem way_step {its : List It} (ho : ∀ it ∈ its, It.Ok its.length it) {d0 : Int} (h : (distF its)[0]? = some d0) {k p : Nat} (hk : (k : Int) + 1 ≤ d0) (hp : (wayF its k)[k]? = some p) :
    ∃ it, its[p]? = some it ∧ (distF its)[p]? = some (d0 - k) ∧ ∃ b : Nat, wayF its (k + 1) = wayF its k ++ [b] ∧ b ≤ its.length ∧ (behF it p).foldl (bestP (distF its) (d0 - (k + 1))) (-1) = (b : Int) ∧ (behF it p).foldl (bestL (distF its) (d0 - (k + 1))) its.length = (b : Int) := by
  obtain ⟨p', h1, h2, h3, h4⟩ := way_at ho h k (by omega)
  rw [hp] at h1
  cases h1
  obtain ⟨it, f, a, b, c⟩ := dist_way h4 (by omega)
  have il : p < its.length := (List.getElem?_eq_some_iff.mp a).1
  have hit := List.mem_of_getElem? a
  obtain ⟨q1, q2, q3, q4⟩ := best_fold (d := distF its) (left := d0 - (k + 1)) (n := its.length) (behF it p) (-1) its.length (fun g hg => beh_le (ho it hit) il hg) (.inl ⟨rfl, rfl, f, b, by rw [c]; congr 1; omega⟩)
  have e : folsF its ((wayF its k).getLast?.getD 0) = behF it p := by rw [h2]; unfold folsF; simp only [Option.getD_some]; rw [a]
  refine ⟨it, a, h4, ((behF it p).foldl (bestP (distF its) (d0 - (k + 1))) (-1)).toNat, ?_, by omega, by omega, by omega⟩
  rw [wayF, e, h]
  simp only [Option.getD_some]

/-! ### promises -/
def sp_is_integer : Sp := fun vs H Q _ => ∃ v, vs = [v] ∧ Pl v ∧ Q (.bl (isI v)) H
theorem cl_is_integer {v : V} {H : Hp} {Q : VK} {E : XK} (p : Pl v) (k : Q (.bl (isI v)) H) : sp_is_integer ([v] ++ []) H Q E := ⟨v, rfl, p, k⟩
def sp_law_is_integer : Sp := fun vs H Q _ => ∃ v, vs = [v] ∧ Pl v ∧ Q (.bl (isI v)) H
theorem cl_law_is_integer {v : V} {H : Hp} {Q : VK} {E : XK} (p : Pl v) (k : Q (.bl (isI v)) H) : sp_law_is_integer ([v] ++ []) H Q E := ⟨v, rfl, p, k⟩
def sp_is_row : Sp := fun vs H Q _ => ∃ (W : Wd) (a : Addr) (xs : List V), vs = [.ref a] ∧ W.iv H ∧ SqA W H a xs ∧ ∀ H', Ex W H H' → Q (.bl true) H'
theorem cl_is_row {W : Wd} {a : Addr} {xs : List V} {H : Hp} {Q : VK} {E : XK} (i : W.iv H) (h : SqA W H a xs) (k : ∀ H', Ex W H H' → Q (.bl true) H') : sp_is_row ([.ref a] ++ []) H Q E := ⟨W, a, xs, rfl, i, h, k⟩
def sp_bound : Sp := fun vs H Q _ => ∃ r n, vs = [.str r, .int n] ∧ Q (.int (boundF r n)) H
theorem cl_bound {r : Str} {n : Int} {H : Hp} {Q : VK} {E : XK} (k : Q (.int (boundF r n)) H) : sp_bound ([.str r, .int n] ++ []) H Q E := ⟨r, n, rfl, k⟩
def sp_fits : Sp := fun vs H Q _ => ∃ v r n, vs = [v, .str r, .int n] ∧ Pl v ∧ Q (.bl (fitF v r n)) H
theorem cl_fits {v : V} {r : Str} {n : Int} {H : Hp} {Q : VK} {E : XK} (p : Pl v) (k : Q (.bl (fitF v r n)) H) : sp_fits ([v, .str r, .int n] ++ []) H Q E := ⟨v, r, n, rfl, p, k⟩
def sp_is_instruction : Sp := fun vs H Q _ => ∃ (W : Wd) (a : Addr) (row : List V) (n : Int), vs = [.ref a, .int n] ∧ W.iv H ∧ SqA W H a row ∧ (∀ v ∈ row, Pl v) ∧ row.length ≤ 1000 ∧ ∀ H', Ex W H H' → Q (.bl (isIns row n)) H'
theorem cl_is_instruction {W : Wd} {a : Addr} {row : List V} {n : Int} {H : Hp} {Q : VK} {E : XK} (i : W.iv H) (h : SqA W H a row) (p : ∀ v ∈ row, Pl v) (l : row.length ≤ 1000) (k : ∀ H', Ex W H H' → Q (.bl (isIns row n)) H') : sp_is_instruction ([.ref a, .int n] ++ []) H Q E := ⟨W, a, row, n, rfl, i, h, p, l, k⟩
abbrev QRows (W : Wd) (H : Hp) : List Addr → List (List V) → Prop := F2 fun r row => SqA W H r row
theorem QRows.mono {W : Wd} {H H' : Hp} (e : Ex W H H') {rs : List Addr} {rows : List (List V)} (h : QRows W H rs rows) : QRows W H' rs rows := F2.mono (fun _ _ a => a.ex e) h
abbrev Rows (W : Wd) (H : Hp) : List Addr → List (List V) → Prop := F2 fun r row => At W H r (.tup row)
theorem Rows.mono {W : Wd} {H H' : Hp} (e : Ex W H H') {rs : List Addr} {rows : List (List V)} (h : Rows W H rs rows) : Rows W H' rs rows := F2.mono (fun _ _ a => e.at_ a) h
def sp_check_program (C : Addr) : Sp := fun vs H Q E => ∃ (W : Wd) (a : Addr) (rs : List Addr) (rows : List (List V)), vs = [.ref a] ∧ W.iv H ∧ SqA W H a (rs.map V.ref) ∧ QRows W H rs rows ∧ (∀ row ∈ rows, Rw row) ∧ rows.length ≤ 40000 ∧
  (∀ j, faultF rows = some j → ∀ d H', Ex W H H' → At W H' d (.xd [("index", .int (j : Nat))]) → E (.ref C) (some d) H') ∧ (faultF rows = none → ∀ t H' ts, Ex W H H' → At W H' t (.tup (ts.map V.ref)) → Rows W H' ts rows → Q (.ref t) H')
theorem cl_check_program {C : Addr} {W : Wd} {a : Addr} {rs : List Addr} {rows : List (List V)} {H : Hp} {Q : VK} {E : XK} (i : W.iv H) (h : SqA W H a (rs.map V.ref)) (hr : QRows W H rs rows) (hw : ∀ row ∈ rows, Rw row) (hl : rows.length ≤ 40000)
    (kE : ∀ j, faultF rows = some j → ∀ d H', Ex W H H' → At W H' d (.xd [("index", .int (j : Nat))]) → E (.ref C) (some d) H') (k : faultF rows = none → ∀ t H' ts, Ex W H H' → At W H' t (.tup (ts.map V.ref)) → Rows W H' ts rows → Q (.ref t) H') :
    sp_check_program C [.ref a] H Q E := ⟨W, a, rs, rows, rfl, i, h, hr, hw, hl, kE, k⟩
/-! ### the pool -/
structure PoolIs (H : Hp) (b c : Addr) (r k s t : Int) (cs : List Int) : Prop where
  hb : H b = some (.lst [.int r, .int k, .int s, .ref c, .int t])
  hc : H c = some (.lst (cs.map .int))
  bc : b ≠ c
  k0 : 0 ≤ k
def WB (b : Addr) : Wd where
  own H a := a = b ∨ ∃ r k s c t, H b = some (.lst [.int r, .int k, .int s, .ref c, .int t]) ∧ a = c
  iv H := ∃ c r k s t cs, PoolIs H b c r k s t cs
  trk := by
    rintro H a ⟨c, r, k, s, t, cs, B⟩ (rfl | ⟨r', k', s', c', t', e, rfl⟩)
    · exact ⟨_, B.hb⟩
    · rw [B.hb] at e
      injection e with e; injection e with e; injection e with _ e; injection e with _ e; injection e with _ e; injection e with e _; cases e
      exact ⟨_, B.hc⟩
  loc := by
    rintro H H' ⟨c, r, k, s, t, cs, B⟩ h
    have eb := h b (.inl rfl)
    have ec := h c (.inr ⟨r, k, s, c, t, B.hb, rfl⟩)
    refine ⟨⟨c, r, k, s, t, cs, eb.trans B.hb, ec.trans B.hc, B.bc, B.k0⟩, fun a ha => ?_⟩
    rcases ha with rfl | ⟨r', k', s', c', t', e, q⟩
    · exact .inl rfl
    · exact .inr ⟨r', k', s', c', t', eb ▸ e, q⟩
theorem ex_pool {H H2 : Hp} {b c : Addr} {r k s t r2 k2 s2 t2 : Int} {cs : List Int} (B : PoolIs H b c r k s t cs) (B2 : PoolIs H2 b c r2 k2 s2 t2 cs) (h : ∀ a, a ≠ b → H2 a = H a) : Ex (WB b) H H2 := by
  refine ⟨⟨_, _, _, _, _, _, B⟩, ⟨_, _, _, _, _, _, B2⟩, fun {a o} ha => ?_, fun {a o} ha => ?_⟩
  · have nb : a ≠ b := fun e => ha.2 (.inl e)
    have nc : a ≠ c := fun e => ha.2 (.inr ⟨r, k, s, c, t, B.hb, e⟩)
    refine ⟨(h a nb).trans ha.1, ?_⟩
    rintro (e | ⟨r', k', s', c', t', e, q⟩)
    · exact nb e
    · rw [B2.hb] at e
      injection e with e; injection e with e; injection e with _ e; injection e with _ e; injection e with _ e; injection e with e _; cases e
      exact nc q
  · by_cases nb : a = b
    · exact ⟨_, nb ▸ B2.hb⟩
    · exact ⟨_, (h a nb).trans ha⟩
def sp_law_pool (K : PySem.W.Frag) : Sp := fun vs H Q _ => ∃ (a : Addr) (ns : List Int), vs = [.ref a] ∧ SqL K H a (ns.map V.int) ∧ ns.length ≤ 63 ∧ ∀ b H', (WB b).iv H' → Q (.ref b) H'
def sp_law_draw : Sp := fun vs H Q _ => ∃ (b : Addr) (many : Int), vs = [.ref b, .int many] ∧ 0 < many ∧ many < 1073741824 ∧ (WB b).iv H ∧ ∀ r H', Ex (WB b) H H' → 0 ≤ r → r < many → Q (.int r) H'
theorem cl_law_draw {b : Addr} {many : Int} {H : Hp} {Q : VK} {E : XK} (h1 : 0 < many) (h2 : many < 1073741824) (i : (WB b).iv H) (k : ∀ r H', Ex (WB b) H H' → 0 ≤ r → r < many → Q (.int r) H') : sp_law_draw ([.ref b, .int many] ++ []) H Q E := ⟨b, many, rfl, h1, h2, i, k⟩
def WN : List Nat → List V := fun l => l.map fun x => V.int (x : Nat)
abbrev Its (W : Wd) (H : Hp) : List Addr → List It → Prop := F2 fun r it => At W H r (.lst (It.row it))
theorem Its.mono {W : Wd} {H H' : Hp} (e : Ex W H H') {rs : List Addr} {its : List It} (h : Its W H rs its) : Its W H' rs its := F2.mono (fun _ _ a => e.at_ a) h
abbrev LRows (W : Wd) (H : Hp) : List Addr → List (List V) → Prop := F2 fun r row => At W H r (.lst row)
def sp_followers : Sp := fun vs H Q _ => ∃ (W : Wd) (t : Addr) (ts : List Addr) (its : List It) (i : Nat) (it : It), vs = [.ref t, .int i] ∧ W.iv H ∧ At W H t (.tup (ts.map V.ref)) ∧ Rows W H ts (its.map It.row) ∧ its[i]? = some it ∧ it.Ok its.length ∧ (its.length : Int) ≤ 1048576 ∧ ∀ q H', Ex W H H' → At W H' q (.tup (WN (behF it i))) → Q (.ref q) H'
theorem cl_followers {W : Wd} {t : Addr} {ts : List Addr} {its : List It} {i : Nat} {it : It} {H : Hp} {Q : VK} {E : XK} (iv : W.iv H) (h : At W H t (.tup (ts.map V.ref))) (hr : Rows W H ts (its.map It.row)) (hi : its[i]? = some it) (o : it.Ok its.length) (hl : (its.length : Int) ≤ 1048576) (k : ∀ q H', Ex W H H' → At W H' q (.tup (WN (behF it i))) → Q (.ref q) H') :
    sp_followers ([.ref t, .int i] ++ []) H Q E := ⟨W, t, ts, its, i, it, rfl, iv, h, hr, hi, o, hl, k⟩
def sp_distances : Sp := fun vs H Q _ => ∃ (W : Wd) (t : Addr) (ts : List Addr) (its : List It), vs = [.ref t] ∧ W.iv H ∧ At W H t (.tup (ts.map V.ref)) ∧ Rows W H ts (its.map It.row) ∧ (∀ it ∈ its, It.Ok its.length it) ∧ its.length ≤ 4000 ∧ ∀ q H', Ex W H H' → At W H' q (.lst ((distF its).map V.int)) → Q (.ref q) H'
theorem cl_distances {W : Wd} {t : Addr} {ts : List Addr} {its : List It} {H : Hp} {Q : VK} {E : XK} (iv : W.iv H) (h : At W H t (.tup (ts.map V.ref))) (hr : Rows W H ts (its.map It.row)) (o : ∀ it ∈ its, It.Ok its.length it) (l : its.length ≤ 4000) (k : ∀ q H', Ex W H H' → At W H' q (.lst ((distF its).map V.int)) → Q (.ref q) H') :
    sp_distances ([.ref t] ++ []) H Q E := ⟨W, t, ts, its, rfl, iv, h, hr, o, l, k⟩
def wayR (its : List It) : Option (List Nat) := if ((distF its)[0]?.getD 0) < 0 then none else some (wayF its ((distF its)[0]?.getD 0).toNat)
def sp_way_to_end (C : Addr) : Sp := fun vs H Q E => ∃ (W : Wd) (a : Addr) (rs : List Addr) (rows : List (List V)), vs = [.ref a] ∧ W.iv H ∧ SqA W H a (rs.map V.ref) ∧ QRows W H rs rows ∧ (∀ row ∈ rows, Rw row) ∧ rows.length ≤ 40000 ∧
  (∀ j, faultF rows = some j → ∀ d H', Ex W H H' → At W H' d (.xd [("index", .int (j : Nat))]) → E (.ref C) (some d) H') ∧ (faultF rows = none → ∃ its : List It, rows = its.map It.row ∧ (∀ it ∈ its, It.Ok its.length it) ∧ its.length ≤ 4000 ∧ (wayR its = none → ∀ H', Ex W H H' → Q .non H') ∧
    ∀ l, wayR its = some l → ∀ q H', Ex W H H' → At W H' q (.tup (WN l)) → Q (.ref q) H')
/-- what a program's item is drawn as -/
inductive Fl where
  | jump (r a : Int) | zero (r a : Int) | deed (d : Str) | op (it : It)
def Fl.row : Fl → List V
  | .jump r a => [.str "jump", .int r, .int a] | .zero r a => [.str "zero", .int r, .int a] | .deed d => [.str "deed", .str d, .int 0] | .op it => it.row
def isOp : It → Prop
  | .set _ _ => True | .two _ _ _ => True | _ => False
def Fl.Ok : Fl → Prop
  | .jump r a => (0 ≤ r ∧ r < 8) ∧ 0 ≤ a ∧ a < 10000 | .zero r a => (0 ≤ r ∧ r < 8) ∧ 0 ≤ a ∧ a < 10000 | .deed d => V.str d ∈ DL | .op it => isOp it ∧ it.Ok 0
def sp_law_flow : Sp := fun vs H Q _ => ∃ (b : Addr) (far size : Int), vs = [.ref b, .int far, .int size] ∧ 0 ≤ size ∧ size ≤ 4000 ∧ (WB b).iv H ∧ ∀ p H' (f : Fl), Ex (WB b) H H' → At (WB b) H' p (.lst f.row) → f.Ok → Q (.ref p) H'
theorem cl_law_flow {b : Addr} {far size : Int} {H : Hp} {Q : VK} {E : XK} (h1 : 0 ≤ size) (h2 : size ≤ 4000) (i : (WB b).iv H) (k : ∀ p H' (f : Fl), Ex (WB b) H H' → At (WB b) H' p (.lst f.row) → f.Ok → Q (.ref p) H') : sp_law_flow ([.ref b, .int far, .int size] ++ []) H Q E := ⟨b, far, size, rfl, h1, h2, i, k⟩
def sp_law_program : Sp := fun vs H Q _ => ∃ (b : Addr) (far size many : Int), vs = [.ref b, .int far, .int size, .int many] ∧ 0 ≤ size ∧ size ≤ 4000 ∧ 1 ≤ many ∧ many ≤ 4000 ∧ (WB b).iv H ∧ ∀ p H' (rs : List Addr) (its : List It), Ex (WB b) H H' → At (WB b) H' p (.lst (rs.map V.ref)) → Its (WB b) H' rs its → its.length = size.toNat → (∀ it ∈ its, It.Ok size it) → Q (.ref p) H'
theorem cl_law_program {b : Addr} {far size many : Int} {H : Hp} {Q : VK} {E : XK} (h1 : 0 ≤ size) (h2 : size ≤ 4000) (h3 : 1 ≤ many) (h4 : many ≤ 4000) (i : (WB b).iv H) (k : ∀ p H' (rs : List Addr) (its : List It), Ex (WB b) H H' → At (WB b) H' p (.lst (rs.map V.ref)) → Its (WB b) H' rs its → its.length = size.toNat → (∀ it ∈ its, It.Ok size it) → Q (.ref p) H') :
    sp_law_program ([.ref b, .int far, .int size, .int many] ++ []) H Q E := ⟨b, far, size, many, rfl, h1, h2, h3, h4, i, k⟩
def sp_law_ladder : Sp := fun vs H Q _ => ∃ (b : Addr) (size : Int), vs = [.ref b, .int size] ∧ 1 ≤ size ∧ size ≤ 4000 ∧ (WB b).iv H ∧ ∀ p H' (rs : List Addr) (its : List It), Ex (WB b) H H' → At (WB b) H' p (.lst (rs.map V.ref)) → Its (WB b) H' rs its → its.length = size.toNat → (∀ it ∈ its, It.Ok size it) → Q (.ref p) H'
theorem cl_law_ladder {b : Addr} {size : Int} {H : Hp} {Q : VK} {E : XK} (h1 : 1 ≤ size) (h2 : size ≤ 4000) (i : (WB b).iv H) (k : ∀ p H' (rs : List Addr) (its : List It), Ex (WB b) H H' → At (WB b) H' p (.lst (rs.map V.ref)) → Its (WB b) H' rs its → its.length = size.toNat → (∀ it ∈ its, It.Ok size it) → Q (.ref p) H') :
    sp_law_ladder ([.ref b, .int size] ++ []) H Q E := ⟨b, size, rfl, h1, h2, i, k⟩
def sp_law_behind : Sp := fun vs H Q _ => ∃ (W : Wd) (p : Addr) (ps : List Addr) (its : List It) (i : Nat) (it : It), vs = [.ref p, .int i] ∧ W.iv H ∧ At W H p (.lst (ps.map V.ref)) ∧ Its W H ps its ∧ its[i]? = some it ∧ it.Ok its.length ∧ ∀ q H', H q = none → Ex W H H' → At W H' q (.lst (WN (behF it i))) → Q (.ref q) H'
theorem cl_law_behind {W : Wd} {p : Addr} {ps : List Addr} {its : List It} {i : Nat} {it : It} {H : Hp} {Q : VK} {E : XK} (iv : W.iv H) (h : At W H p (.lst (ps.map V.ref))) (hr : Its W H ps its) (hi : its[i]? = some it) (o : it.Ok its.length) (k : ∀ q H', H q = none → Ex W H H' → At W H' q (.lst (WN (behF it i))) → Q (.ref q) H') :
    sp_law_behind ([.ref p, .int i] ++ []) H Q E := ⟨W, p, ps, its, i, it, rfl, iv, h, hr, hi, o, k⟩
def sp_law_distances : Sp := fun vs H Q _ => ∃ (W : Wd) (p : Addr) (ps : List Addr) (its : List It), vs = [.ref p] ∧ W.iv H ∧ At W H p (.lst (ps.map V.ref)) ∧ Its W H ps its ∧ (∀ it ∈ its, It.Ok its.length it) ∧ its.length ≤ 4000 ∧ ∀ q H', Ex W H H' → At W H' q (.lst ((distF its).map V.int)) → Q (.ref q) H'
theorem cl_law_distances {W : Wd} {p : Addr} {ps : List Addr} {its : List It} {H : Hp} {Q : VK} {E : XK} (iv : W.iv H) (h : At W H p (.lst (ps.map V.ref))) (hr : Its W H ps its) (o : ∀ it ∈ its, It.Ok its.length it) (l : its.length ≤ 4000) (k : ∀ q H', Ex W H H' → At W H' q (.lst ((distF its).map V.int)) → Q (.ref q) H') :
    sp_law_distances ([.ref p] ++ []) H Q E := ⟨W, p, ps, its, rfl, iv, h, hr, o, l, k⟩
def sp_law_due : Sp := fun vs H Q _ => ∃ (W : Wd) (p : Addr) (ps : List Addr) (its : List It), vs = [.ref p] ∧ W.iv H ∧ At W H p (.lst (ps.map V.ref)) ∧ Its W H ps its ∧ (∀ it ∈ its, It.Ok its.length it) ∧ its.length ≤ 4000 ∧ (wayR its = none → ∀ H', Ex W H H' → Q .non H') ∧ ∀ l, wayR its = some l → ∀ q H', Ex W H H' → At W H' q (.lst (WN l)) → Q (.ref q) H'
theorem cl_law_due {W : Wd} {p : Addr} {ps : List Addr} {its : List It} {H : Hp} {Q : VK} {E : XK} (iv : W.iv H) (h : At W H p (.lst (ps.map V.ref))) (hr : Its W H ps its) (o : ∀ it ∈ its, It.Ok its.length it) (l : its.length ≤ 4000) (k1 : wayR its = none → ∀ H', Ex W H H' → Q .non H') (k2 : ∀ l, wayR its = some l → ∀ q H', Ex W H H' → At W H' q (.lst (WN l)) → Q (.ref q) H') :
    sp_law_due ([.ref p] ++ []) H Q E := ⟨W, p, ps, its, rfl, iv, h, hr, o, l, k1, k2⟩
def sp_law_value : Sp := fun vs H Q _ => ∃ (W : Wd) (p : Addr) (rs : List Addr) (rows : List (List V)) (sh : Int), vs = [.ref p, .int sh] ∧ W.iv H ∧ At W H p (.lst (rs.map V.ref)) ∧ LRows W H rs rows ∧ rows.length ≤ 40000 ∧ ∀ a H' ts, Ex W H H' → SqA W H' a (ts.map V.ref) → QRows W H' ts rows → Q (.ref a) H'
theorem cl_law_value {W : Wd} {p : Addr} {rs : List Addr} {rows : List (List V)} {sh : Int} {H : Hp} {Q : VK} {E : XK} (i : W.iv H) (h : At W H p (.lst (rs.map V.ref))) (hr : LRows W H rs rows) (hl : rows.length ≤ 40000) (k : ∀ a H' ts, Ex W H H' → SqA W H' a (ts.map V.ref) → QRows W H' ts rows → Q (.ref a) H') :
    sp_law_value ([.ref p, .int sh] ++ []) H Q E := ⟨W, p, rs, rows, sh, rfl, i, h, hr, hl, k⟩
def sp_law_holds : Sp := fun vs H Q _ => ∃ (W : Wd) (p : Addr) (ps : List Addr) (its : List It) (sh : Int), vs = [.ref p, .int sh] ∧ W.iv H ∧ At W H p (.lst (ps.map V.ref)) ∧ Its W H ps its ∧ (∀ it ∈ its, It.Ok its.length it) ∧ its.length ≤ 4000 ∧ ∀ H', Ex W H H' → Q (.bl true) H'
theorem cl_law_holds {W : Wd} {p : Addr} {ps : List Addr} {its : List It} {sh : Int} {H : Hp} {Q : VK} {E : XK} (iv : W.iv H) (h : At W H p (.lst (ps.map V.ref))) (hr : Its W H ps its) (o : ∀ it ∈ its, It.Ok its.length it) (l : its.length ≤ 4000) (k : ∀ H', Ex W H H' → Q (.bl true) H') :
    sp_law_holds ([.ref p, .int sh] ++ []) H Q E := ⟨W, p, ps, its, sh, rfl, iv, h, hr, o, l, k⟩
def sp_law_refused : Sp := fun vs H Q _ => ∃ (W : Wd) (a : Addr) (rs : List Addr) (rows : List (List V)) (j : Nat), vs = [.ref a, .int j] ∧ W.iv H ∧ SqA W H a (rs.map V.ref) ∧ QRows W H rs rows ∧ (∀ row ∈ rows, Rw row) ∧ rows.length ≤ 4013 ∧ faultF rows = some j ∧ ∀ H', Ex W H H' → Q (.bl true) H'
def sp_law_bent : Sp := fun vs H Q _ => ∃ (b p : Addr) (it : It) (n : Int), vs = [.ref b, .ref p, .int n] ∧ (WB b).iv H ∧ At (WB b) H p (.lst it.row) ∧ it.Ok n ∧ 0 < n ∧ n < 1073741824 ∧ ∀ q H' row, Ex (WB b) H H' → At (WB b) H' q (.lst row) → isIns row n = false → Rw row → Q (.ref q) H'
theorem cl_law_bent {b p : Addr} {it : It} {n : Int} {H : Hp} {Q : VK} {E : XK} (i : (WB b).iv H) (h : At (WB b) H p (.lst it.row)) (o : it.Ok n) (n0 : 0 < n) (n1 : n < 1073741824) (k : ∀ q H' row, Ex (WB b) H H' → At (WB b) H' q (.lst row) → isIns row n = false → Rw row → Q (.ref q) H') :
    sp_law_bent ([.ref b, .ref p, .int n] ++ []) H Q E := ⟨b, p, it, n, rfl, i, h, o, n0, n1, k⟩
def spLaw (K : PySem.W.Frag) : Sp := fun vs H Q _ => ∃ (a : Addr) (ns : List Int), vs = [.ref a] ∧ SqL K H a (ns.map V.int) ∧ ns.length ≤ 63 ∧ ∀ H', Q (.bl true) H'
/-! ### what repr reads -/
def pd : V → PyData
  | .non => .none | .bl b => .bool b | .int i => .int i | .str s => .str s | _ => .none
theorem dp_pl {K : PySem.W.Frag} {H : Hp} {v : V} (h : Pl v) : Dp K H v (pd v) := by
  cases h with
  | non => exact .non
  | bl b => exact .bl b
  | int i => exact .int i
  | str s => exact .str s
theorem dp_row {K : PySem.W.Frag} {H : Hp} : ∀ {row : List V}, (∀ v ∈ row, Pl v) → DpAll K H row (row.map pd)
  | [], _ => .nil
  | v :: r, h => .cons (dp_pl (h v (List.mem_cons_self ..))) (dp_row fun u hu => h u (List.mem_cons_of_mem _ hu))
def QD1 (W : Wd) (H : Hp) (r : Addr) (d : PyData) : Prop := ∃ row, Rw row ∧ ((At W H r (.lst row) ∧ d = .list (row.map pd)) ∨ (At W H r (.tup row) ∧ d = .tuple (row.map pd)))
theorem QD1.mono {W : Wd} {H H' : Hp} (e : Ex W H H') {r : Addr} {d : PyData} (h : QD1 W H r d) : QD1 W H' r d := by
  obtain ⟨row, w, ⟨a, e'⟩ | ⟨a, e'⟩⟩ := h
  · exact ⟨row, w, .inl ⟨e.at_ a, e'⟩⟩
  · exact ⟨row, w, .inr ⟨e.at_ a, e'⟩⟩
theorem qd_of {W : Wd} {H : Hp} : ∀ {rs : List Addr} {rows : List (List V)}, QRows W H rs rows → (∀ row ∈ rows, Rw row) → ∃ ds, F2 (QD1 W H) rs ds
  | _, _, .nil, _ => ⟨[], .nil⟩
  | _, _, .cons (y := row) h t, hw => by
    obtain ⟨ds, h1⟩ := qd_of t fun r hr => hw r (List.mem_cons_of_mem _ hr)
    have w := hw row (List.mem_cons_self ..)
    rcases h with h | h
    · exact ⟨_ :: ds, .cons ⟨row, w, .inl ⟨h, rfl⟩⟩ h1⟩
    · exact ⟨_ :: ds, .cons ⟨row, w, .inr ⟨h, rfl⟩⟩ h1⟩
theorem qd_dp {W : Wd} {K : PySem.W.Frag} {H : Hp} : ∀ {rs : List Addr} {ds : List PyData}, F2 (QD1 W H) rs ds → DpAll K H (rs.map V.ref) ds
  | _, _, .nil => .nil
  | _, _, .cons h t => by
    obtain ⟨row, w, ⟨a, e⟩ | ⟨a, e⟩⟩ := h
    · rw [e]; exact .cons (.lst a.sl (dp_row w.pl)) (qd_dp t)
    · rw [e]; exact .cons (.tup a.st (dp_row w.pl)) (qd_dp t)
/-- a row's data: what repr asks of it -/
structure DOk (d : PyData) : Prop where
  sh : d.showable = true
  nd : d.hasDict = false
  dp : d.depth ≤ 1
  w : d.weight ≤ 139
  lf : d.leavesShort 26 = true
theorem log_lt {i : Int} (h : i.natAbs < 2 ^ 82) : i.natAbs.log2 < 1920 := by
  by_cases q : i.natAbs = 0
  · rw [q]; decide
  · exact Nat.lt_trans ((Nat.log2_lt q).mpr h) (by decide)
theorem pd_one {v : V} (h : Sm v) : (pd v).showable = true ∧ (pd v).hasDict = false ∧ (pd v).depth = 0 ∧ (pd v).weight = vW v ∧ (pd v).leavesShort 26 = true := by
  cases h with
  | non => exact ⟨rfl, rfl, rfl, rfl, rfl⟩
  | bl b => exact ⟨rfl, rfl, rfl, rfl, rfl⟩
  | int hi =>
    refine ⟨decide_eq_true (log_lt hi), rfl, rfl, rfl, decide_eq_true ?_⟩
    show (Str.ofString (toString _)).length ≤ 26
    rw [ofString_length]
    exact int_text_length_le10 (k := 25) (by decide) (Nat.lt_of_lt_of_le hi (by decide))
  | str hs => exact ⟨rfl, rfl, rfl, rfl, hs⟩
theorem pd_all : ∀ {row : List V}, (∀ v ∈ row, Sm v) → PyData.showableAll (row.map pd) = true ∧ PyData.hasDictAll (row.map pd) = false ∧ PyData.depthAll (row.map pd) = 0 ∧ PyData.weightAll (row.map pd) = rowW row ∧ PyData.leavesShortAll 26 (row.map pd) = true
  | [], _ => ⟨rfl, rfl, rfl, rfl, rfl⟩
  | v :: r, h => by
    obtain ⟨a1, a2, a3, a4, a5⟩ := pd_one (h v (List.mem_cons_self ..))
    obtain ⟨b1, b2, b3, b4, b5⟩ := pd_all fun u hu => h u (List.mem_cons_of_mem _ hu)
    rw [List.map_cons, PyData.showableAll, PyData.hasDictAll, PyData.depthAll, PyData.weightAll, PyData.leavesShortAll, rowW, a1, a2, a3, a4, a5, b1, b2, b3, b4, b5]
    exact ⟨rfl, rfl, rfl, rfl, rfl⟩
theorem dok_of {W : Wd} {H : Hp} {r : Addr} {d : PyData} (h : QD1 W H r d) : DOk d := by
  obtain ⟨row, w, h⟩ := h
  obtain ⟨b1, b2, b3, b4, b5⟩ := pd_all w.sm
  have w2 := w.w
  rcases h with ⟨_, rfl⟩ | ⟨_, rfl⟩
  · exact ⟨by rw [PyData.showable]; exact b1, by rw [PyData.hasDict]; exact b2, by rw [PyData.depth, b3]; decide, by rw [PyData.weight, b4]; exact w2, by rw [PyData.leavesShort]; exact b5⟩
  · exact ⟨by rw [PyData.showable]; exact b1, by rw [PyData.hasDict]; exact b2, by rw [PyData.depth, b3]; decide, by rw [PyData.weight, b4]; exact w2, by rw [PyData.leavesShort]; exact b5⟩
theorem dall_of : ∀ {ds : List PyData}, (∀ d ∈ ds, DOk d) → PyData.showableAll ds = true ∧ PyData.hasDictAll ds = false ∧ PyData.depthAll ds ≤ 1 ∧ PyData.weightAll ds ≤ 140 * ds.length ∧ PyData.leavesShortAll 26 ds = true
  | [], _ => ⟨rfl, rfl, Nat.zero_le _, Nat.le_refl _, rfl⟩
  | d :: r, h => by
    have a := h d (List.mem_cons_self ..)
    obtain ⟨b1, b2, b3, b4, b5⟩ := dall_of fun u hu => h u (List.mem_cons_of_mem _ hu)
    have a3 := a.dp
    have a4 := a.w
    rw [PyData.showableAll, PyData.hasDictAll, PyData.depthAll, PyData.weightAll, PyData.leavesShortAll, a.sh, a.nd, a.lf, b1, b2, b5, List.length_cons]
    exact ⟨rfl, rfl, by omega, by omega, rfl⟩
theorem rd_reprQ {W : Wd} {K : PySem.W.Frag} {H : Hp} {Q : VK} {a : Addr} {rs : List Addr} {rows : List (List V)} (h : SqA W H a (rs.map V.ref)) (hr : QRows W H rs rows) (hw : ∀ row ∈ rows, Rw row) (hl : rows.length ≤ 4013)
    (k : ∀ z : Str, (∀ {K : PySem.W.Frag} {H' : Hp} {Q : VK}, Ex W H H' → Q (.str z) H' → rReprD K [.ref a] H' Q) → Q (.str z) H) : rReprD K [.ref a] H Q := by
  have lr := hr.length
  have iv0 : ∀ H', W.iv H' → Ex W H' H' := fun H' i => Ex.refl i
  obtain ⟨ds, hd⟩ := qd_of hr hw
  have ld := hd.length
  have dok : ∀ d ∈ ds, DOk d := fun d hm => by
    obtain ⟨n, hn⟩ := List.getElem?_of_mem hm
    obtain ⟨r, _, q⟩ := hd.getR hn
    exact dok_of q
  obtain ⟨b1, b2, b3, b4, b5⟩ := dall_of dok
  have wl : PyData.weightAll ds ≤ 561820 := by omega
  have main : ∀ d : PyData, (d = .list ds ∨ d = .tuple ds) → d.showable = true ∧ d.hasDict = false ∧ d.depth ≤ 50 ∧ d.shown.length ≤ sizeLine := fun d e => by
    have hs : d.leavesShort 26 = true ∧ d.weight = PyData.weightAll ds ∧ d.showable = true ∧ d.hasDict = false ∧ d.depth = PyData.depthAll ds + 1 := by
      rcases e with rfl | rfl
      · exact ⟨by rw [PyData.leavesShort]; exact b5, by rw [PyData.weight], by rw [PyData.showable]; exact b1, by rw [PyData.hasDict]; exact b2, by rw [PyData.depth]⟩
      · exact ⟨by rw [PyData.leavesShort]; exact b5, by rw [PyData.weight], by rw [PyData.showable]; exact b1, by rw [PyData.hasDict]; exact b2, by rw [PyData.depth]⟩
    obtain ⟨c1, c2, c3, c4, c5⟩ := hs
    have q := PyData.shown_le 26 (by decide) d c1
    rw [c2] at q
    refine ⟨c3, c4, by omega, Nat.le_trans q ?_⟩
    rw [sizeLine_eq]
    omega
  rcases h with h | h
  · obtain ⟨m1, m2, m3, m4⟩ := main _ (.inl rfl)
    have dp : ∀ {K : PySem.W.Frag} {H' : Hp}, Ex W H H' → Dp K H' (.ref a) (.list ds) := fun e => .lst (e.at_ h).sl (qd_dp (F2.mono (fun _ _ q => q.mono e) hd))
    exact ⟨a, _, rfl, .lst h.sl (qd_dp hd), m1, m2, m3, m4, k _ fun e q => ⟨a, _, rfl, dp e, m1, m2, m3, m4, q⟩⟩
  · obtain ⟨m1, m2, m3, m4⟩ := main _ (.inr rfl)
    have dp : ∀ {K : PySem.W.Frag} {H' : Hp}, Ex W H H' → Dp K H' (.ref a) (.tuple ds) := fun e => .tup (e.at_ h).st (qd_dp (F2.mono (fun _ _ q => q.mono e) hd))
    exact ⟨a, _, rfl, .tup h.st (qd_dp hd), m1, m2, m3, m4, k _ fun e q => ⟨a, _, rfl, dp e, m1, m2, m3, m4, q⟩⟩

structure Tx (P : Program) (w : World) (K : PySem.W.Frag) (mg : Str → Option Value) where
  f_is_integer : Addr
  fd_is_integer : FuncData
  F_is_integer : Fun K "is_integer" "is_integer" s_is_integer f_is_integer fd_is_integer
  b_is_integer : Binds K fd_is_integer ["value"] []
  g_is_integer : mg "is_integer" = some (.ref f_is_integer)
  f_is_row : Addr
  fd_is_row : FuncData
  F_is_row : Fun K "is_row" "is_row" s_is_row f_is_row fd_is_row
  b_is_row : Binds K fd_is_row ["value"] []
  g_is_row : mg "is_row" = some (.ref f_is_row)
  f_bound : Addr
  fd_bound : FuncData
  F_bound : Fun K "_bound" "_bound" s_bound f_bound fd_bound
  b_bound : Binds K fd_bound ["role", "length"] []
  g_bound : mg "_bound" = some (.ref f_bound)
  f_fits : Addr
  fd_fits : FuncData
  F_fits : Fun K "_fits" "_fits" s_fits f_fits fd_fits
  b_fits : Binds K fd_fits ["part", "role", "length"] []
  g_fits : mg "_fits" = some (.ref f_fits)
  f_is_instruction : Addr
  fd_is_instruction : FuncData
  F_is_instruction : Fun K "is_instruction" "is_instruction" s_is_instruction f_is_instruction fd_is_instruction
  b_is_instruction : Binds K fd_is_instruction ["item", "length"] []
  g_is_instruction : mg "is_instruction" = some (.ref f_is_instruction)
  f_check_program : Addr
  fd_check_program : FuncData
  F_check_program : Fun K "check_program" "check_program" s_check_program f_check_program fd_check_program
  b_check_program : Binds K fd_check_program ["value"] []
  g_check_program : mg "check_program" = some (.ref f_check_program)
  f_followers : Addr
  fd_followers : FuncData
  F_followers : Fun K "_followers" "_followers" s_followers f_followers fd_followers
  b_followers : Binds K fd_followers ["program", "index"] []
  g_followers : mg "_followers" = some (.ref f_followers)
  f_distances : Addr
  fd_distances : FuncData
  F_distances : Fun K "_distances" "_distances" s_distances f_distances fd_distances
  b_distances : Binds K fd_distances ["program"] []
  g_distances : mg "_distances" = some (.ref f_distances)
  f_way_to_end : Addr
  fd_way_to_end : FuncData
  F_way_to_end : Fun K "way_to_end" "way_to_end" s_way_to_end f_way_to_end fd_way_to_end
  b_way_to_end : Binds K fd_way_to_end ["program"] []
  g_way_to_end : mg "way_to_end" = some (.ref f_way_to_end)
  f_law_pool : Addr
  fd_law_pool : FuncData
  F_law_pool : Fun K "_law_pool" "_law_pool" s_law_pool f_law_pool fd_law_pool
  b_law_pool : Binds K fd_law_pool ["script"] []
  g_law_pool : mg "_law_pool" = some (.ref f_law_pool)
  f_law_draw : Addr
  fd_law_draw : FuncData
  F_law_draw : Fun K "_law_draw" "_law_draw" s_law_draw f_law_draw fd_law_draw
  b_law_draw : Binds K fd_law_draw ["pool", "many"] []
  g_law_draw : mg "_law_draw" = some (.ref f_law_draw)
  f_law_is_integer : Addr
  fd_law_is_integer : FuncData
  F_law_is_integer : Fun K "_law_is_integer" "_law_is_integer" s_law_is_integer f_law_is_integer fd_law_is_integer
  b_law_is_integer : Binds K fd_law_is_integer ["thing"] []
  g_law_is_integer : mg "_law_is_integer" = some (.ref f_law_is_integer)
  f_law_flow : Addr
  fd_law_flow : FuncData
  F_law_flow : Fun K "_law_flow" "_law_flow" s_law_flow f_law_flow fd_law_flow
  b_law_flow : Binds K fd_law_flow ["pool", "far", "size"] []
  g_law_flow : mg "_law_flow" = some (.ref f_law_flow)
  f_law_program : Addr
  fd_law_program : FuncData
  F_law_program : Fun K "_law_program" "_law_program" s_law_program f_law_program fd_law_program
  b_law_program : Binds K fd_law_program ["pool", "far", "size", "many"] []
  g_law_program : mg "_law_program" = some (.ref f_law_program)
  f_law_ladder : Addr
  fd_law_ladder : FuncData
  F_law_ladder : Fun K "_law_ladder" "_law_ladder" s_law_ladder f_law_ladder fd_law_ladder
  b_law_ladder : Binds K fd_law_ladder ["pool", "length"] []
  g_law_ladder : mg "_law_ladder" = some (.ref f_law_ladder)
  f_law_behind : Addr
  fd_law_behind : FuncData
  F_law_behind : Fun K "_law_behind" "_law_behind" s_law_behind f_law_behind fd_law_behind
  b_law_behind : Binds K fd_law_behind ["items", "place"] []
  g_law_behind : mg "_law_behind" = some (.ref f_law_behind)
  f_law_distances : Addr
  fd_law_distances : FuncData
  F_law_distances : Fun K "_law_distances" "_law_distances" s_law_distances f_law_distances fd_law_distances
  b_law_distances : Binds K fd_law_distances ["items"] []
  g_law_distances : mg "_law_distances" = some (.ref f_law_distances)
  f_law_due : Addr
  fd_law_due : FuncData
  F_law_due : Fun K "_law_due" "_law_due" s_law_due f_law_due fd_law_due
  b_law_due : Binds K fd_law_due ["items"] []
  g_law_due : mg "_law_due" = some (.ref f_law_due)
  f_law_value : Addr
  fd_law_value : FuncData
  F_law_value : Fun K "_law_value" "_law_value" s_law_value f_law_value fd_law_value
  b_law_value : Binds K fd_law_value ["items", "shape"] []
  g_law_value : mg "_law_value" = some (.ref f_law_value)
  f_law_holds : Addr
  fd_law_holds : FuncData
  F_law_holds : Fun K "_law_holds" "_law_holds" s_law_holds f_law_holds fd_law_holds
  b_law_holds : Binds K fd_law_holds ["items", "shape"] []
  g_law_holds : mg "_law_holds" = some (.ref f_law_holds)
  f_law_refused : Addr
  fd_law_refused : FuncData
  F_law_refused : Fun K "_law_refused" "_law_refused" s_law_refused f_law_refused fd_law_refused
  b_law_refused : Binds K fd_law_refused ["value", "due"] []
  g_law_refused : mg "_law_refused" = some (.ref f_law_refused)
  f_law_bent : Addr
  fd_law_bent : FuncData
  F_law_bent : Fun K "_law_bent" "_law_bent" s_law_bent f_law_bent fd_law_bent
  b_law_bent : Binds K fd_law_bent ["pool", "item", "size"] []
  g_law_bent : mg "_law_bent" = some (.ref f_law_bent)
  a_DEEDS : Addr
  g_DEEDS : mg "DEEDS" = some (.ref a_DEEDS)
  q_DEEDS : ∀ H : Hp, SqT K H a_DEEDS [.str "halt", .str "until", .str "clock", .str "look", .str "claim", .str "free", .str "copy", .str "drop", .str "revoke", .str "map", .str "unmap", .str "send", .str "take", .str "trysend", .str "trytake", .str "call", .str "reply", .str "ring", .str "await", .str "tryawait", .str "ack", .str "give", .str "pull"]
  t_LONGEST : Tok
  g_LONGEST : mg "LONGEST" = some (.int 4000 t_LONGEST)
  t_REGISTERS : Tok
  g_REGISTERS : mg "REGISTERS" = some (.int 8 t_REGISTERS)
  a_ROLES : Addr
  es_ROLES : Array DictEntry
  n_ROLES : Nat
  g_ROLES : mg "ROLES" = some (.ref a_ROLES)
  D_ROLES : KDict K w a_ROLES es_ROLES n_ROLES
  x_ROLES : ∀ z : Str, z ∉ (["set", "move", "add", "sub", "load", "store", "jump", "zero", "deed"] : List Str) → PySem.W.nsIn K a_ROLES z = some none
  r_ROLES_set : Addr
  i_ROLES_set : PySem.W.nsIn K a_ROLES "set" = some (some (.ref r_ROLES_set))
  q_ROLES_set : ∀ H : Hp, SqT K H r_ROLES_set [.str "register", .str "word"]
  r_ROLES_move : Addr
  i_ROLES_move : PySem.W.nsIn K a_ROLES "move" = some (some (.ref r_ROLES_move))
  q_ROLES_move : ∀ H : Hp, SqT K H r_ROLES_move [.str "register", .str "register"]
  r_ROLES_add : Addr
  i_ROLES_add : PySem.W.nsIn K a_ROLES "add" = some (some (.ref r_ROLES_add))
  q_ROLES_add : ∀ H : Hp, SqT K H r_ROLES_add [.str "register", .str "register"]
  r_ROLES_sub : Addr
  i_ROLES_sub : PySem.W.nsIn K a_ROLES "sub" = some (some (.ref r_ROLES_sub))
  q_ROLES_sub : ∀ H : Hp, SqT K H r_ROLES_sub [.str "register", .str "register"]
  r_ROLES_load : Addr
  i_ROLES_load : PySem.W.nsIn K a_ROLES "load" = some (some (.ref r_ROLES_load))
  q_ROLES_load : ∀ H : Hp, SqT K H r_ROLES_load [.str "register", .str "register"]
  r_ROLES_store : Addr
  i_ROLES_store : PySem.W.nsIn K a_ROLES "store" = some (some (.ref r_ROLES_store))
  q_ROLES_store : ∀ H : Hp, SqT K H r_ROLES_store [.str "register", .str "register"]
  r_ROLES_jump : Addr
  i_ROLES_jump : PySem.W.nsIn K a_ROLES "jump" = some (some (.ref r_ROLES_jump))
  q_ROLES_jump : ∀ H : Hp, SqT K H r_ROLES_jump [.str "target"]
  r_ROLES_zero : Addr
  i_ROLES_zero : PySem.W.nsIn K a_ROLES "zero" = some (some (.ref r_ROLES_zero))
  q_ROLES_zero : ∀ H : Hp, SqT K H r_ROLES_zero [.str "register", .str "target"]
  r_ROLES_deed : Addr
  i_ROLES_deed : PySem.W.nsIn K a_ROLES "deed" = some (some (.ref r_ROLES_deed))
  q_ROLES_deed : ∀ H : Hp, SqT K H r_ROLES_deed [.str "deed"]
  t_WORD : Tok
  g_WORD : mg "WORD" = some (.int 1048576 t_WORD)
  c_CapsteadError : Addr
  gc_CapsteadError : mg "CapsteadError" = some (.ref c_CapsteadError)
  c_InputError : Addr
  gc_InputError : mg "InputError" = some (.ref c_InputError)
  c_QuestionError : Addr
  gc_QuestionError : mg "QuestionError" = some (.ref c_QuestionError)
  c_BadNumber : Addr
  gc_BadNumber : mg "BadNumber" = some (.ref c_BadNumber)
  c_BadProgram : Addr
  gc_BadProgram : mg "BadProgram" = some (.ref c_BadProgram)
  i_BadProgram : Addr
  S_BadProgram : PySem.SupX.SupTxt P K mg "BadProgram" "index" c_BadProgram i_BadProgram
  I_BadProgram : IsC K c_BadProgram
  m_BadProgram : PySem.W.exmOne K (.ref c_BadProgram) (.ref c_BadProgram) = some true
  c_BadLine : Addr
  gc_BadLine : mg "BadLine" = some (.ref c_BadLine)
  k_BadProgram_CapsteadError : PySem.W.kitOne K (.ref c_BadProgram) (.ref c_CapsteadError) = some true
  k_BadProgram_InputError : PySem.W.kitOne K (.ref c_BadProgram) (.ref c_InputError) = some true
  k_BadProgram_QuestionError : PySem.W.kitOne K (.ref c_BadProgram) (.ref c_QuestionError) = some false
  k_BadProgram_BadNumber : PySem.W.kitOne K (.ref c_BadProgram) (.ref c_BadNumber) = some false
  k_BadProgram_BadProgram : PySem.W.kitOne K (.ref c_BadProgram) (.ref c_BadProgram) = some true
  k_BadProgram_BadLine : PySem.W.kitOne K (.ref c_BadProgram) (.ref c_BadLine) = some false
  k_BadProgram_ValueError : PySem.W.kitOne K (.ref c_BadProgram) (.type "ValueError") = some true
  n_ValueError : mg "ValueError" = none
  n_abs : mg "abs" = none
  n_bool : mg "bool" = none
  n_enumerate : mg "enumerate" = none
  n_int : mg "int" = none
  n_isinstance : mg "isinstance" = none
  n_len : mg "len" = none
  n_list : mg "list" = none
  n_max : mg "max" = none
  n_range : mg "range" = none
  n_repr : mg "repr" = none
  n_str : mg "str" = none
  n_tuple : mg "tuple" = none

/-! ### what the top has written -/
section
variable {P : Program} {w : World} {K : PySem.W.Frag} {mg : Str → Option Value}
theorem roles_in (T : Tx P w K mg) {n : Str} (h : n ∈ names9) : ∃ r, PySem.W.nsIn K T.a_ROLES n = some (some (.ref r)) ∧ ∀ H : Hp, SqT K H r ((rolesF n).map V.str) := by
  unfold names9 at h
  simp only [List.mem_cons, List.not_mem_nil, or_false] at h
  rcases h with rfl | rfl | rfl | rfl | rfl | rfl | rfl | rfl | rfl
  · exact ⟨_, T.i_ROLES_set, T.q_ROLES_set⟩
  · exact ⟨_, T.i_ROLES_move, T.q_ROLES_move⟩
  · exact ⟨_, T.i_ROLES_add, T.q_ROLES_add⟩
  · exact ⟨_, T.i_ROLES_sub, T.q_ROLES_sub⟩
  · exact ⟨_, T.i_ROLES_load, T.q_ROLES_load⟩
  · exact ⟨_, T.i_ROLES_store, T.q_ROLES_store⟩
  · exact ⟨_, T.i_ROLES_jump, T.q_ROLES_jump⟩
  · exact ⟨_, T.i_ROLES_zero, T.q_ROLES_zero⟩
  · exact ⟨_, T.i_ROLES_deed, T.q_ROLES_deed⟩
end
/-! the forward steps as a tactic (walk_at "..": the library's own syntax) -/
local macro_rules | `(tactic| walk_at "lw at") => `(tactic| first | assumption | (refine' Ex.at_ ?zze ?zzh; (case zze => assumption); (case zzh => walk_at "lw at")))
local macro_rules | `(tactic| walk_at "lw iv") => `(tactic| first | assumption | exact Ex.iv (by assumption))
local macro_rules | `(tactic| walk_at "lw ex") => `(tactic| first | assumption | exact Ex.refl (by walk_at "lw iv") | (refine' Ex.trans ?zza ?zzb; (case zzb => assumption); (case zza => walk_at "lw ex")))
local macro_rules | `(tactic| walk_at "lw ix") => `(tactic| first | rfl | exact at_0 | exact ix_0 (by simp; done))
local macro_rules | `(tactic| walk_at "lw side") => `(tactic| first | rfl | assumption | decide | omega | decide +kernel | (refine And.intro ?_ ?_ <;> decide +kernel) | exact ⟨by omega, by omega⟩ | exact Or.inr (by decide) | exact Or.inl (by decide) | exact Or.inl ⟨by omega, by omega⟩ | exact Nat.le_trans (cut_len _ _ _) (by first | omega | (simp only [List.length_cons, List.length_nil]; omega)) | (refine Nat.le_trans (Nat.add_le_add (cut_len _ _ _) (cut_len _ _ _)) ?_; decide) | (simp; done) | (simp only [List.length_cons, List.length_nil, List.length_append, List.length_map]; omega) | (simp only [List.length_cons, List.length_nil, List.length_append]; omega) | (simp; omega) | (simp at *; omega))
local macro_rules | `(tactic| walk_at "lw rd") => `(tactic| with_reducible first
  | refine rd_seq ?_ | refine rd_asg ?_ | refine rd_asgG ?_ | refine rd_drop ?_ | refine rd_ret ?_ | refine rd_retN ?_ | refine rd_ifS ?_ | refine rd_c ?_ | refine rd_op ?_ | refine rd_un ?_
  | (refine' rd_var ?zzr ?_; (case zzr => with_unfolding_all rfl)) | refine rd_I0 ?_ | (refine' rd_I ?zzr ?_; (case zzr => with_unfolding_all walk_at "lw side"))
  | refine rd_U ?_ | (refine' rd_eq ?zzr ?_; (case zzr => with_unfolding_all rfl)) | (refine' rd_ne ?zzr ?_; (case zzr => with_unfolding_all rfl)) | refine rd_isN ?_ | refine rd_notN ?_
  | refine rd_test ?_ | refine rd_B ?_ | refine rd_bl ?_ | refine rd_blV ?_ | refine rd_and ?_ | refine rd_or ?_ | refine rd_not ?_ | refine rd_andV ?_ | refine rd_orV ?_ | refine rd_notV ?_ | refine rd_ifE ?_
  | refine rd_nil ?_ | refine rd_cons ?_ | refine rd_call ?_ | refine rd_cb ?_ | refine rd_tupU ?_ | refine rd_lstU ?_
  | (refine' rd_new (by with_unfolding_all walk_at "lw iv") (by with_unfolding_all walk_at "lw side") ?_; intro _ _ _ _ _) | (refine' rd_new1 (by with_unfolding_all walk_at "lw iv") ?_; intro _ _ _ _ _)
  | (refine' rd_ixL ?zzh ?zzr ?_; (case zzh => with_unfolding_all walk_at "lw at"); (case zzr => with_unfolding_all walk_at "lw ix")) | (refine' rd_ixT ?zzh ?zzr ?_; (case zzh => with_unfolding_all walk_at "lw at"); (case zzr => with_unfolding_all walk_at "lw ix"))
  | (refine' rd_len ?zzh ?_; (case zzh => with_unfolding_all walk_at "lw at")) | (refine' rd_lenT ?zzh ?_; (case zzh => with_unfolding_all walk_at "lw at"))
  | refine rd_int ?_ | refine rd_intB ?_ | refine rd_abs ?_ | refine rd_max2 ?_ | refine rd_min2 ?_
  | (refine' rd_lens ?zzr ?_; (case zzr => with_unfolding_all walk_at "lw side")) | (refine' rd_adds ?zzr ?_; (case zzr => with_unfolding_all walk_at "lw side"))
  | refine rd_nopart ?_ | refine rd_part ?_ | refine rd_partI ?_ | refine rd_sl ?_
  | (refine' rd_slL (by with_unfolding_all walk_at "lw iv") ?zzh ?_; (case zzh => with_unfolding_all walk_at "lw at"); intro _ _ _ _ _)
  | (refine' rd_list (by with_unfolding_all walk_at "lw iv") ?zzh ?_; (case zzh => with_unfolding_all walk_at "lw at"); intro _ _ _ _ _)
  | (refine' rd_listT (by with_unfolding_all walk_at "lw iv") ?zzh ?_; (case zzh => with_unfolding_all walk_at "lw at"); intro _ _ _ _ _)
  | (refine' rd_tuple (by with_unfolding_all walk_at "lw iv") ?zzh ?_; (case zzh => with_unfolding_all walk_at "lw at"); intro _ _ _ _ _)
  | (refine' rd_cat (by with_unfolding_all walk_at "lw iv") ?zzh ?zzk ?zzr ?_; (case zzh => with_unfolding_all walk_at "lw at"); (case zzk => with_unfolding_all walk_at "lw at"); (case zzr => with_unfolding_all walk_at "lw side"); intro _ _ _ _ _)
  | refine rd_lc ?_ | refine rd_lcT ?_ | (refine' rd_any ?zzh ?_; (case zzh => with_unfolding_all walk_at "lw at")) | (refine' rd_sum ?zzh ?_; (case zzh => with_unfolding_all walk_at "lw at"))
  | (refine' rd_inK ?zzh ?zzf ?zzg ?_; (case zzh => with_unfolding_all walk_at "lw kt"); (case zzf => with_unfolding_all rfl); (case zzg => with_unfolding_all rfl))
  | (refine' rd_niK ?zzh ?zzf ?zzg ?_; (case zzh => with_unfolding_all walk_at "lw kt"); (case zzf => with_unfolding_all rfl); (case zzg => with_unfolding_all rfl))
  | (refine' rd_inT ?zzh ?zzf ?zzg ?_; (case zzh => with_unfolding_all walk_at "lw at"); (case zzf => with_unfolding_all rfl); (case zzg => with_unfolding_all rfl))
  | (refine' rd_niT ?zzh ?zzf ?zzg ?_; (case zzh => with_unfolding_all walk_at "lw at"); (case zzf => with_unfolding_all rfl); (case zzg => with_unfolding_all rfl))
  | (refine' rd_inL ?zzh ?zzf ?zzg ?_; (case zzh => with_unfolding_all walk_at "lw at"); (case zzf => with_unfolding_all rfl); (case zzg => with_unfolding_all rfl))
  | (refine' rd_niL ?zzh ?zzf ?zzg ?_; (case zzh => with_unfolding_all walk_at "lw at"); (case zzf => with_unfolding_all rfl); (case zzg => with_unfolding_all rfl))
  | (refine' rd_slTn (by with_unfolding_all walk_at "lw iv") ?zzh ?zzn ?_; (case zzh => with_unfolding_all walk_at "lw at"); (case zzn => with_unfolding_all (intro zzi; have zzq := zzi.1; simp [HT.sIx] at zzq)); intro _ _ _ _ _)
  | (refine' rd_gtup ?zzh ?zze ?_; (case zzh => with_unfolding_all walk_at "lw at"); (case zze => with_unfolding_all rfl)) | refine rd_gcons ?_ | refine rd_gnil ?_ | (refine' rd_gconsE ?zze ?_; (case zze => with_unfolding_all rfl)) | (refine' rd_gnilE ?zze ?_; (case zze => with_unfolding_all rfl)) | (refine' rd_isiY ?zzt ?zze ?_; (case zzt => with_unfolding_all walk_at "lw ty"); (case zze => with_unfolding_all decide +kernel)) | (refine' rd_isiN ?zzt ?zze ?_; (case zzt => with_unfolding_all walk_at "lw ty"); (case zze => with_unfolding_all decide +kernel)) | refine rd_gname ?_
  | refine rd_forL ?_ | refine rd_forR1 ?_ | refine rd_forR2 ?_ | (refine' rd_forR1a ?zza ?zzb ?_; (case zza => with_unfolding_all walk_at "lw side"); (case zzb => with_unfolding_all walk_at "lw side")) | (refine' rd_forLa ?zzh ?_; (case zzh => with_unfolding_all walk_at "lw at"))
  | (refine' rd_ixM ?zzh ?zzr ?zzs ?_; (case zzh => with_unfolding_all walk_at "lw at"); (case zzr => with_unfolding_all omega); (case zzs => with_unfolding_all walk_at "lw side"); intro _ _)
  | refine rd_gsub ?_ | (refine' rd_ixLr ?zzh ?zzr ?_; (case zzh => assumption); (case zzr => with_unfolding_all walk_at "lw ix")) | (refine' rd_setr ?zzh ?zzr ?_; (case zzh => assumption); (case zzr => with_unfolding_all walk_at "lw ix"); intro _ _ _) | (refine' rd_lenr ?zzh ?_; (case zzh => assumption))
  | (refine' rd_append ?zze ?zzf ?zzh ?zzr ?_; (case zzf => assumption); (case zze => with_unfolding_all walk_at "lw ex"); (case zzh => with_unfolding_all walk_at "lw at"); (case zzr => with_unfolding_all walk_at "lw side"); intro _ _ _ _)
  | refine rd_bm ?_ | (refine' rd_tyL ?zzh ?_; (case zzh => with_unfolding_all walk_at "lw at")) | refine rd_next ?_ | refine rd_brk ?_ | refine rd_cont ?_)
local macro_rules | `(tactic| walk_at "lw go") => `(tactic| repeat walk_at "lw rd")
local macro_rules | `(tactic| walk_at "lw ai") => `(tactic| with_reducible first | assumption | exact AI.one _ | exact AI.nil | exact AI.of _ | exact AI.cut (by walk_at "lw ai") | exact AI.app (by walk_at "lw ai") (by walk_at "lw ai"))
local macro_rules | `(tactic| walk_at "lw as") => `(tactic| with_reducible first | assumption | exact AS.nil | exact AS.of _ | (refine' AS.cons ?zzx; (case zzx => walk_at "lw as")) | (refine' AS.cut ?zzx; (case zzx => walk_at "lw as")) | (refine' AS.app ?zzx ?zzy; (case zzx => walk_at "lw as"); (case zzy => walk_at "lw as")))
local macro_rules | `(tactic| walk_at "lw ty") => `(tactic| first | exact .base (.int _) | exact .base (.str _) | exact .base (.bl _) | exact .base .non | exact .base (.lst (At.raw (by walk_at "lw at"))) | exact .base (.tup (At.raw (by walk_at "lw at"))))
local macro_rules | `(tactic| walk_at "lw kt") => `(tactic| fail)
local macro_rules | `(tactic| walk_at "lw if") => `(tactic| with_reducible first
  | refine iteNT ?_ | refine iteNF ?_ | refine iteT ?_ | refine iteF ?_
  | (refine' ifS_yes ?zzr ?_; (case zzr => with_unfolding_all first | assumption | decide +kernel)) | (refine' ifS_no ?zzr ?_; (case zzr => with_unfolding_all first | assumption | decide +kernel))
  | (refine' ifSn_no ?zzr ?_; (case zzr => with_unfolding_all first | assumption | decide +kernel)) | (refine' ifSn_yes ?zzr ?_; (case zzr => with_unfolding_all first | assumption | decide +kernel))
  | (refine' ifI_yes ?zzr ?_; (case zzr => with_unfolding_all omega)) | (refine' ifI_no ?zzr ?_; (case zzr => with_unfolding_all omega))
  | (refine' ifIn_no ?zzr ?_; (case zzr => with_unfolding_all omega)) | (refine' ifIn_yes ?zzr ?_; (case zzr => with_unfolding_all omega))
  | (refine' ifS ?_ ?_ <;> intro zze <;> try subst zze) | (refine' ifSn ?_ ?_ <;> intro zze <;> try subst zze) | (refine' ifI ?_ ?_ <;> intro zze <;> try subst zze) | (refine' ifIn ?_ ?_ <;> intro zze <;> try subst zze)
  | (refine' ifD_yes ?zzr ?_; (case zzr => with_unfolding_all omega)) | (refine' ifD_no ?zzr ?_; (case zzr => with_unfolding_all omega))
  | (refine' ifD ?_ ?_ <;> intro zze) | (refine' ifN ?_ ?_ <;> intro zze) | (refine' iteT ?_) | (refine' iteF ?_) | (refine' ifB ?_ ?_ <;> intro zze) | (refine' ifNB ?_ ?_ <;> intro zze))
local macro_rules | `(tactic| walk_at "lw all") => `(tactic| repeat' (first | walk_at "lw rd" | walk_at "lw if"))

local macro_rules | `(tactic| walk_at "lw rd") => `(tactic| with_reducible first
  | refine rd_chain ?_ | refine rd_yes ?_ | refine rd_forS ?_ | refine rd_srcS ?_ | refine rd_forT ?_ | refine rd_forE ?_ | refine rd_forET ?_ | refine rd_lcS ?_ | refine rd_lcR ?_
  | (refine' rd_srcT ?zzh ?_; (case zzh => with_unfolding_all walk_at "lw at"))
  | (refine' rd_srcE ?zzh ?zza ?zzb ?_; (case zzh => with_unfolding_all walk_at "lw at"); (case zza => with_unfolding_all decide); (case zzb => with_unfolding_all decide))
  | (refine' rd_srcR ?zza ?zzb ?_; (case zza => with_unfolding_all walk_at "lw side"); (case zzb => with_unfolding_all walk_at "lw side"))
  | (refine' rd_dnew (by with_unfolding_all walk_at "lw iv") ?_; intro _ _ _ _ _) | refine rd_dget1 ?_ | (refine' rd_isD ?zzh ?_; (case zzh => with_unfolding_all walk_at "lw at")) | (refine' rd_dgetS ?zzh ?_; (case zzh => with_unfolding_all walk_at "lw at"))
  | refine rd_din ?_ | refine rd_dnin ?_ | (refine' rd_dinS ?zzh ?_; (case zzh => with_unfolding_all walk_at "lw at")) | refine rd_dput ?_ | refine rd_dsetd ?_
  | (refine' rd_dputS ?zze ?zzf ?zzh ?zzr ?_; (case zzf => assumption); (case zze => with_unfolding_all walk_at "lw ex"); (case zzh => with_unfolding_all walk_at "lw at"); (case zzr => with_unfolding_all walk_at "lw side"); intro _ _ _ _)
  | refine rd_ends ?_ | refine rd_starts ?_ | refine rd_find ?_ | refine rd_tyS ?_ | refine rd_inSg ?_ | refine rd_ninSg ?_ | refine rd_strS ?_
  | (refine' rd_slS ?zzr ?_; (case zzr => with_unfolding_all walk_at "lw side")) | (refine' rd_ixS ?zzr ?zzs ?_; (case zzr => with_unfolding_all walk_at "lw side"); (case zzs => with_unfolding_all walk_at "lw ixs"))
  | (refine' rd_split (by with_unfolding_all walk_at "lw iv") ?zza ?zzr ?_; (case zza => with_unfolding_all decide +kernel); (case zzr => with_unfolding_all walk_at "lw side"); intro _ _ _ _ _)
  | (refine' rd_rep (by with_unfolding_all walk_at "lw iv") ?zzh ?zza ?zzb ?zzr ?_; (case zzh => with_unfolding_all walk_at "lw at"); (case zza => with_unfolding_all walk_at "lw side"); (case zzb => with_unfolding_all walk_at "lw side"); (case zzr => with_unfolding_all walk_at "lw side"); intro _ _ _ _ _))
local macro_rules | `(tactic| walk_at "lw ixs") => `(tactic| first | assumption | rfl)
local macro_rules | `(tactic| walk_at "lw if") => `(tactic| with_reducible first | (refine' ifB_yes ?zzr ?_; (case zzr => assumption)) | (refine' ifB_no ?zzr ?_; (case zzr => assumption)) | (refine' ifNB_yes ?zzr ?_; (case zzr => assumption)) | (refine' ifNB_no ?zzr ?_; (case zzr => assumption)) | fail)
local macro_rules | `(tactic| walk_at "lw ix") => `(tactic| assumption)

local macro_rules | `(tactic| walk_at "lw kt") => `(tactic| exact Tx.q_DEEDS (by assumption) _)
local macro_rules | `(tactic| walk_at "lw sq") => `(tactic| first | assumption | (refine' SqA.ofL ?zzx; (case zzx => walk_at "lw at")) | (refine' SqA.ofT ?zzx; (case zzx => walk_at "lw at")) | (refine' SqA.ex ?zze ?zzh; (case zze => assumption); (case zzh => walk_at "lw sq")))
local macro_rules | `(tactic| walk_at "lw pl") => `(tactic| first | assumption | exact Pl.int _ | exact Pl.str _ | exact Pl.bl _ | exact Pl.non)
local macro_rules | `(tactic| walk_at "lw rd") => `(tactic| with_reducible first
  | (refine' rd_ixQ ?zzh ?zzr ?_; (case zzh => with_unfolding_all walk_at "lw sq"); (case zzr => with_unfolding_all walk_at "lw ix")) | (refine' rd_lenQ ?zzh ?_; (case zzh => with_unfolding_all walk_at "lw sq"))
  | (refine' cl_is_integer ?zzp ?_; (case zzp => with_unfolding_all walk_at "lw pl")) | (refine' cl_law_is_integer ?zzp ?_; (case zzp => with_unfolding_all walk_at "lw pl")) | refine cl_bound ?_ | (refine' cl_fits ?zzp ?_; (case zzp => with_unfolding_all walk_at "lw pl"))
  | (refine' cl_is_row ?zzi ?zzh ?_; (case zzi => with_unfolding_all walk_at "lw iv"); (case zzh => with_unfolding_all walk_at "lw sq"); intro _ _))
local macro_rules | `(tactic| walk_at "lw rd") => `(tactic| with_reducible first
  | (refine' cl_law_draw ?zza ?zzb ?zzc ?_; (case zza => with_unfolding_all walk_at "lw side"); (case zzb => with_unfolding_all walk_at "lw side"); (case zzc => with_unfolding_all walk_at "lw iv"); intro _ _ _ _ _))
section
variable {P : Program} {w : World} {K : PySem.W.Frag} {mg : Str → Option Value} {base : Heap}

theorem ok_is_integer (T : Tx P w K mg) : FnOk P w K mg base CX0 1 T.f_is_integer T.fd_is_integer ["value"] (sp_is_integer) := by
  refine T.F_is_integer.ok sc_is_integer (fun vs H Q E h => ?_) (fun cdv A outer s H vs Q E hr h => ?_)
  · obtain ⟨v, rfl, hp, k⟩ := h
    rfl
  · obtain ⟨v, rfl, hp, k⟩ := h
    refine ⟨_, (pss_one (ps_ret (pe_and (pe_callB (r := rIsi K) call_isi (by rfl) T.n_isinstance (by decide +kernel) (pa_cons (pv 0) (pa_cons (pe_bltn (v := .ty "int") rfl T.n_int (by decide +kernel) rfl) pa_nil))) (pe_one (pe_not (pe_callB (r := rIsi K) call_isi (by rfl) T.n_isinstance (by decide +kernel) (pa_cons (pv 0) (pa_cons (pe_bltn (v := .ty "bool") rfl T.n_bool (by decide +kernel) rfl) pa_nil)))))))), ?_⟩
    cases hp <;> (walk_at "lw all"; exact k)

theorem ok_is_row (T : Tx P w K mg) : FnOk P w K mg base CX0 1 T.f_is_row T.fd_is_row ["value"] (sp_is_row) := by
  refine T.F_is_row.ok sc_is_row (fun vs H Q E h => ?_) (fun cdv A outer s H vs Q E hr h => ?_)
  · obtain ⟨W, a, xs, rfl, iv, h, k⟩ := h
    rfl
  · obtain ⟨W, a, xs, rfl, iv, h, k⟩ := h
    refine ⟨_, (pss_one (ps_ret (pe_callB (r := rIsiT K) call_isiT (by rfl) T.n_isinstance (by decide +kernel) (pa_cons (pv 0) (pa_cons (pe_tup (pa_cons (pe_bltn (v := .ty "list") rfl T.n_list (by decide +kernel) rfl) (pa_cons (pe_bltn (v := .ty "tuple") rfl T.n_tuple (by decide +kernel) rfl) pa_nil))) pa_nil))))), ?_⟩
    walk_at "lw go"
    rename_i t H1 f1 e1 h1
    refine rd_isRow (h.ex e1) h1.1 ?_
    exact k _ e1

theorem ok_bound (T : Tx P w K mg) : FnOk P w K mg base CX0 1 T.f_bound T.fd_bound ["role", "length"] (sp_bound) := by
  refine T.F_bound.ok sc_bound (fun vs H Q E h => ?_) (fun cdv A outer s H vs Q E hr h => ?_)
  · obtain ⟨r, n, rfl, k⟩ := h
    rfl
  · obtain ⟨r, n, rfl, k⟩ := h
    refine ⟨_, (pss_cons (ps_if (pt_cmpR op_eq (pv 0) pe_str (nomark _))
        (pss_one (ps_ret (pe_glob (v := .int 8) rfl T.g_REGISTERS ⟨_, rfl⟩)))
        pss_nil)
      (pss_cons (ps_if (pt_cmpR op_eq (pv 0) pe_str (nomark _))
        (pss_one (ps_ret (pe_glob (v := .int 1048576) rfl T.g_WORD ⟨_, rfl⟩)))
        pss_nil)
      (pss_one (ps_ret (pv 1))))), ?_⟩
    unfold boundF at k
    walk_at "lw all"
    · exact k
    · rename_i h
      rw [if_neg (by decide +kernel), if_pos rfl] at k
      exact k
    · rename_i h1 h2
      rw [if_neg h1, if_neg h2] at k
      exact k

theorem ok_fits (T : Tx P w K mg) : FnOk P w K mg base CX0 2 T.f_fits T.fd_fits ["part", "role", "length"] (sp_fits) := by
  refine T.F_fits.ok sc_fits (fun vs H Q E h => ?_) (fun cdv A outer s H vs Q E hr h => ?_)
  · obtain ⟨v, r, n, rfl, hp, k⟩ := h
    rfl
  · obtain ⟨v, r, n, rfl, hp, k⟩ := h
    refine ⟨_, (pss_cons (ps_if (pt_cmpR op_eq (pv 1) pe_str (nomark _))
        (pss_one (ps_ret (pe_and (pe_callB (r := rIsi K) call_isi (by rfl) T.n_isinstance (by decide +kernel) (pa_cons (pv 0) (pa_cons (pe_bltn (v := .ty "str") rfl T.n_str (by decide +kernel) rfl) pa_nil))) (pe_one (pe_cmpR (r := rIn K false) op_in_seq (pv 0) (pe_glob (v := .ref T.a_DEEDS) rfl T.g_DEEDS rfl) (by rfl))))))
        pss_nil)
      (pss_one (ps_ret (pe_and (pe_call (ok_is_integer T) hr (by rfl) T.g_is_integer T.F_is_integer.kp T.b_is_integer .nil pass0 (pa_cons (pv 0) pa_nil)) (pe_one (pe_chain op_le op_lt pe_int (pv 0) (pe_call (ok_bound T) hr (by rfl) T.g_bound T.F_bound.kp T.b_bound .nil pass0 (pa_cons (pv 1) (pa_cons (pv 2) pa_nil))))))))), ?_⟩
    have key : ∀ c, fitF v r n = c → Q (.bl c) H := fun c e => cast_bl k e
    clear k
    cases hp <;> walk_at "lw all"
    all_goals first | exact key _ rfl | (refine key _ ?_; unfold fitF; simp [*]; done) | (refine key _ ?_; unfold fitF; simp_all; done)

theorem ok_is_instruction (T : Tx P w K mg) : FnOk P w K mg base CX0 3 T.f_is_instruction T.fd_is_instruction ["item", "length"] (sp_is_instruction) := by
  refine T.F_is_instruction.ok sc_is_instruction (fun vs H Q E h => ?_) (fun cdv A outer s H vs Q E hr h => ?_)
  · obtain ⟨W, a, row, n, rfl, iv, h, hp, hl, k⟩ := h
    rfl
  · obtain ⟨W, a, row, n, rfl, iv, h, hp, hl, k⟩ := h
    refine ⟨_, (pss_cons (ps_if (PW.pt (pw_or (pt_not (pt_val (pe_call (ok_is_row T) (hr.mono (by decide)) (by rfl) T.g_is_row T.F_is_row.kp T.b_is_row .nil pass0 (pa_cons (pv 0) pa_nil)))) (pw_or (pt_cmpR op_eq (pe_callB (r := Lw.rLen K) c_len (by rfl) T.n_len PySem.boot_len (pa_cons (pv 0) pa_nil)) pe_int (nomark _)) (pw_or1 (pt_not (pt_val (pe_callB (r := rIsi K) call_isi (by rfl) T.n_isinstance (by decide +kernel) (pa_cons (pe_ix (r := rIx K) ix_seq (pv 0) pe_int (fun _ _ => rfl)) (pa_cons (pe_bltn (v := .ty "str") rfl T.n_str (by decide +kernel) rfl) pa_nil)))))))))
        (pss_one (ps_ret pe_bl))
        pss_nil)
      (pss_cons (ps_if (pt_cmpR (r := rNinKd K T.a_ROLES) (o_ninKd T.D_ROLES) (pe_ix (r := rIx K) ix_seq (pv 0) pe_int (fun _ _ => rfl)) (pe_glob (v := .ref T.a_ROLES) rfl T.g_ROLES rfl) (by rfl))
        (pss_one (ps_ret pe_bl))
        pss_nil)
      (pss_cons (ps_set (i := 2) sc_is_instruction.nd rfl (by first | exact Or.inl rfl | exact Or.inr rfl) (pe_ix (r := rIxKd K w) x_kd (pe_glob (v := .ref T.a_ROLES) rfl T.g_ROLES rfl) (pe_ix (r := rIx K) ix_seq (pv 0) pe_int (fun _ _ => rfl)) (fun _ _ => rfl)))
      (pss_cons (ps_if (pt_cmpR op_ne (pe_callB (r := Lw.rLen K) c_len (by rfl) T.n_len PySem.boot_len (pa_cons (pv 0) pa_nil)) (pe_op op_add (pe_callB (r := Lw.rLen K) c_len (by rfl) T.n_len PySem.boot_len (pa_cons (pv 2) pa_nil)) pe_int) (nomark _))
        (pss_one (ps_ret pe_bl))
        pss_nil)
      (pss_cons (ps_for PassesOwn.never rfl (pi_enumT (by rfl) T.n_enumerate (pa_cons (pv 2) pa_nil)) (pg_tup (by rfl) (pgs_cons (pg_name (i := 3) sc_is_instruction.nd rfl (by first | exact Or.inl rfl | exact Or.inr rfl)) (pgs_cons (pg_name (i := 4) sc_is_instruction.nd rfl (by first | exact Or.inl rfl | exact Or.inr rfl)) pgs_nil)))
        (pss_one (ps_if (pt_not (pt_val (pe_call (ok_fits T) hr (by rfl) T.g_fits T.F_fits.kp T.b_fits .nil pass0 (pa_cons (pe_ix (r := rIx K) ix_seq (pv 0) (pe_op op_add (pv 3) pe_int) (fun _ _ => rfl)) (pa_cons (pv 4) (pa_cons (pv 1) pa_nil))))))
          (pss_one (ps_ret pe_bl))
          pss_nil)))
      (pss_one (ps_ret pe_bl))))))), ?_⟩
    have key : ∀ c, isIns row n = c → ∀ H', Ex W H H' → Q (.bl c) H' := fun c e H' x => cast_bl (k H' x) e
    clear k
    walk_at "lw go"
    rename_i H1 e1
    refine iteNT ?_
    walk_at "lw go"
    cases row with
    | nil =>
      refine ifI_yes rfl ?_
      exact key _ rfl _ e1
    | cons v0 vs =>
      refine ifI_no (by rw [List.length_cons]; omega) ?_
      have q0 : atI (v0 :: vs) 0 = some v0 := at_0
      have p0 := hp v0 (List.mem_cons_self ..)
      cases p0 with
      | non => walk_at "lw all"; exact key _ rfl _ e1
      | bl b => walk_at "lw all"; exact key _ rfl _ e1
      | int z => walk_at "lw all"; exact key _ rfl _ e1
      | str nm =>
        walk_at "lw all"
        by_cases hn : nm ∈ names9
        · obtain ⟨r, hi, hq⟩ := roles_in T hn
          refine rd_ninKd hi ?_
          walk_at "lw go"
          refine ifNB_no rfl ?_
          walk_at "lw go"
          refine rd_ixKd T.D_ROLES hi ?_
          walk_at "lw go"
          refine rd_lenK (hq _) ?_
          walk_at "lw go"
          have ins : ∀ c, fitsF vs (rolesF nm) n = c → isIns (.str nm :: vs) n = c := fun c e => by
            show (decide (nm ∈ names9) && fitsF vs (rolesF nm) n) = c
            rw [decide_eq_true hn, e]; rfl
          refine ifIn ?_ ?_ <;> intro he
          · walk_at "lw go"
            exact key _ (ins _ (fitsF_ne fun z => he (by rw [List.length_cons, List.length_map, z]; omega))) _ e1
          · have hlen : vs.length = (rolesF nm).length := by rw [List.length_cons, List.length_map] at he; omega
            walk_at "lw go"
            refine rd_srcET (hq _) ?_
            refine for_et (W := W) (xs := (rolesF nm).map V.str) hq (fun i σ' H' => ∃ v3 v4, σ' = [some (.ref a), some (.int n), some (.ref r), v3, v4] ∧ Ex W H H' ∧ ∀ j v rl, j < i → vs[j]? = some v → (rolesF nm)[j]? = some rl → fitF v rl n = true)
              ⟨_, _, rfl, e1, fun j _ _ hj => absurd hj (Nat.not_lt_zero _)⟩ (fun i σ' H' ⟨_, _, _, e, _⟩ => e.iv) ?_ ?_
            · rintro i x T2 σ' H3 H' hx ⟨v3, v4, rfl, e3, h3⟩ f4 e4 h4
              obtain ⟨role, hr1, rfl⟩ : ∃ role, (rolesF nm)[i]? = some role ∧ x = .str role := by
                rw [List.getElem?_map] at hx
                cases hz : (rolesF nm)[i]? with
                | none => rw [hz] at hx; cases hx
                | some role => rw [hz] at hx; exact ⟨role, rfl, (Option.some.inj hx).symm⟩
              have hil : i < vs.length := by have := (List.getElem?_eq_some_iff.mp hr1).1; omega
              obtain ⟨u, hu⟩ : ∃ u, vs[i]? = some u := ⟨_, List.getElem?_eq_getElem hil⟩
              have e5 : Ex W H H' := by walk_at "lw ex"
              have pu := hp u (List.mem_cons_of_mem _ (List.mem_of_getElem? hu))
              have qi : atI (V.str nm :: vs) (0 + (i : Int) + 1) = some u := at_in (by omega) (by rw [show (0 + (i : Int) + 1).toNat = i + 1 by omega, List.getElem?_cons_succ]; exact hu)
              walk_at "lw go"
              refine ifNB ?_ ?_ <;> intro hf
              · walk_at "lw go"
                refine key _ (ins _ ?_) _ e5
                cases z : fitsF vs (rolesF nm) n with
                | false => rfl
                | true =>
                  have := (fitsF_iff hlen).mp z i u role hu hr1
                  rw [hf] at this; cases this
              · walk_at "lw go"
                refine ⟨_, _, rfl, e5, fun j v rl hj hv hrl => ?_⟩
                by_cases q : j = i
                · subst q
                  rw [hu] at hv; rw [hr1] at hrl
                  cases hv; cases hrl
                  exact hf
                · exact h3 j v rl (by omega) hv hrl
            · rintro σ' H' ⟨v3, v4, rfl, e3, h3⟩
              walk_at "lw go"
              rw [List.length_map] at h3
              refine key _ (ins _ ((fitsF_iff hlen).mpr fun j v rl hv hrl => h3 j v rl ?_ hv hrl)) _ e3
              exact (List.getElem?_eq_some_iff.mp hrl).1
        · refine rd_ninKd (T.x_ROLES nm hn) ?_
          walk_at "lw go"
          refine ifNB_yes rfl ?_
          walk_at "lw go"
          refine key _ ?_ _ e1
          show (decide (nm ∈ names9) && fitsF vs (rolesF nm) n) = false
          rw [decide_eq_false hn]; rfl

theorem ok_check_program (T : Tx P w K mg) : FnOk P w K mg base (L2.CX P w) 4 T.f_check_program T.fd_check_program ["value"] (sp_check_program T.c_BadProgram) := by
  refine T.F_check_program.okX sc_check_program (fun vs H Q E h => ?_) (fun cdv A outer s H vs Q E hr h => ?_)
  · obtain ⟨W, a, rs, rows, rfl, iv, h, hr', hw, hl, kE, k⟩ := h
    rfl
  · obtain ⟨W, a, rs, rows, rfl, iv, h, hr', hw, hl, kE, k⟩ := h
    refine ⟨_, (pss_cons (ps_if (pt_not (pt_val (pe_call (ok_is_row T) (hr.mono (by decide)) (by rfl) T.g_is_row T.F_is_row.kp T.b_is_row .nil pass0 (pa_cons (pv 0) pa_nil))))
        (pss_one (ps_raiseS rfl T.S_BadProgram hr (takes_of rfl rfl rfl rfl) (pa_cons (pe_un un_neg pe_int) pa_nil)))
        pss_nil)
      (pss_cons (ps_if (pt_cmpR op_gt (pe_callB (r := Lw.rLen K) c_len (by rfl) T.n_len PySem.boot_len (pa_cons (pv 0) pa_nil)) (pe_glob (v := .int 4000) rfl T.g_LONGEST ⟨_, rfl⟩) (nomark _))
        (pss_one (ps_raiseS rfl T.S_BadProgram hr (takes_of rfl rfl rfl rfl) (pa_cons (pe_glob (v := .int 4000) rfl T.g_LONGEST ⟨_, rfl⟩) pa_nil)))
        pss_nil)
      (pss_cons (ps_for (passes_of rfl) rfl (pi_or (pi_enum (by rfl) T.n_enumerate (pa_cons (pv 0) pa_nil)) (pi_enumT (by rfl) T.n_enumerate (pa_cons (pv 0) pa_nil))) (pg_tup (by rfl) (pgs_cons (pg_name (i := 1) sc_check_program.nd rfl (by first | exact Or.inl rfl | exact Or.inr rfl)) (pgs_cons (pg_name (i := 2) sc_check_program.nd rfl (by first | exact Or.inl rfl | exact Or.inr rfl)) pgs_nil)))
        (pss_one (ps_if (pt_not (pt_val (pe_call (ok_is_instruction T) hr (by rfl) T.g_is_instruction T.F_is_instruction.kp T.b_is_instruction .nil pass0 (pa_cons (pv 2) (pa_cons (pe_callB (r := Lw.rLen K) c_len (by rfl) T.n_len PySem.boot_len (pa_cons (pv 0) pa_nil)) pa_nil)))))
          (pss_one (ps_raiseS rfl T.S_BadProgram hr (takes_of rfl rfl rfl rfl) (pa_cons (pv 1) pa_nil)))
          pss_nil)))
      (pss_one (ps_ret (pe_callTy (r := Lw.rTupO K) c_tuple (by rfl) T.n_tuple (by decide +kernel) (pa_cons (pe_lc (own := [("item", 2)]) rfl sc_check_program.nd (pi_or (pi_list (pv 0)) (pi_tup (pv 0))) (blkOk_by (own := [("item", 2)]) (N := N_check_program) (sc := (defScope s_check_program)) (by decide +kernel)) (fun _ _ _ _ _ => (pg_name (i := 2) sc_check_program.nd rfl (by first | exact Or.inl rfl | exact Or.inr rfl))) (fun _ _ _ _ _ => pts_nil) (fun _ _ _ _ _ => (pe_callTy (r := Lw.rTupO K) c_tuple (by rfl) T.n_tuple (by decide +kernel) (pa_cons (pv 2) pa_nil)))) pa_nil))))))), ?_⟩
    have lr := hr'.length
    have raise : ∀ (j : Nat) (H' : Hp) (z : Int), Ex W H H' → faultF rows = some j → z = (j : Nat) → ∃ v', [V.int z] = [v'] ∧ ∀ d, H' d = none → E (.ref T.c_BadProgram) (some d) (upd H' d (.xd [("index", v')])) := fun j H' z e f hz => by
      subst hz
      exact ⟨_, rfl, fun d hd => kE j f d _ (e.trans (Ex.new e.iv hd)) (At.new e.iv hd)⟩
    walk_at "lw go"
    rename_i H1 e1
    refine iteNT ?_
    walk_at "lw go"
    refine ifD ?_ ?_ <;> intro hlen
    · walk_at "lw go"
      refine rd_raiseS ?_
      walk_at "lw go"
      refine raise 4000 _ _ e1 ?_ rfl
      unfold faultF
      rw [List.length_map] at hlen
      rw [if_pos (by omega)]
    · rw [List.length_map] at hlen
      walk_at "lw go"
      refine for_eq (W := W) (a := a) (xs := rs.map V.ref) rfl (h.ex e1) (fun i σ' H' => ∃ v1 v2, σ' = [some (.ref a), v1, v2] ∧ Ex W H1 H' ∧ ∀ j r, j < i → rows[j]? = some r → isIns r rows.length = true) ⟨_, _, rfl, Ex.refl e1.iv, fun j _ hj => absurd hj (Nat.not_lt_zero _)⟩ (fun i σ' H' ⟨_, _, _, e, _⟩ => e) ?_ ?_
      · rintro i x T2 σ' H2 H' hx ⟨v1, v2, rfl, e2, h2⟩ f3 e3 h3
        obtain ⟨r0, hr0, rfl⟩ : ∃ r0, rs[i]? = some r0 ∧ x = .ref r0 := by
          rw [List.getElem?_map] at hx
          cases hz : rs[i]? with
          | none => rw [hz] at hx; cases hx
          | some r0 => rw [hz] at hx; exact ⟨r0, rfl, (Option.some.inj hx).symm⟩
        obtain ⟨row, hrow, sq⟩ := hr'.get hr0
        have e4 : Ex W H H' := by walk_at "lw ex"
        have w0 := hw row (List.mem_of_getElem? hrow)
        walk_at "lw go"
        rw [List.length_map, lr]
        refine cl_is_instruction e4.iv (sq.ex e4) w0.pl w0.l fun H5 e5 => ?_
        walk_at "lw go"
        refine ifNB ?_ ?_ <;> intro hb
        · walk_at "lw go"
          refine rd_raiseS ?_
          walk_at "lw go"
          exact raise i _ _ (e4.trans e5) (fault_some (by omega) hrow hb fun j r hj hr => h2 j r hj hr) rfl
        · walk_at "lw go"
          refine ⟨_, _, rfl, (e2.trans e3).trans e5, fun j r hj hr => ?_⟩
          by_cases q : j = i
          · subst q
            rw [hrow] at hr
            cases hr
            exact hb
          · exact h2 j r (by omega) hr
      · rintro σ' H2 ⟨v1, v2, rfl, e2, h2⟩
        rw [List.length_map, lr] at h2
        have hn : faultF rows = none := fault_none (by omega) fun r hr => by
          obtain ⟨j, hj⟩ := List.getElem?_of_mem hr
          exact h2 j r (List.getElem?_eq_some_iff.mp hj).1 hj
        have e3 : Ex W H H2 := by walk_at "lw ex"
        walk_at "lw go"
        refine lc_q (W := W) (a := a) (xs := rs.map V.ref) rfl (h.ex e3) e3.iv (by rw [List.length_map]; omega) (fun i ys Hh => ∃ ts : List Addr, ys = ts.map V.ref ∧ Rows W Hh ts (rows.take i)) (fun i ys Ha Hb e ⟨ts, a1, a2⟩ => ⟨ts, a1, a2.mono e⟩) ⟨[], rfl, .nil⟩ ?_ ?_
        · rintro i x D ys H' QV QN hi hx hD hDa e4 ⟨ts, rfl, a2⟩ _ qv qn
          obtain ⟨r0, hr0, rfl⟩ : ∃ r0, rs[i]? = some r0 ∧ x = .ref r0 := by
            rw [List.getElem?_map] at hx
            cases hz : rs[i]? with
            | none => rw [hz] at hx; cases hx
            | some r0 => rw [hz] at hx; exact ⟨r0, rfl, (Option.some.inj hx).symm⟩
          obtain ⟨row, hrow, sq⟩ := hr'.get hr0
          walk_at "lw go"
          refine iteT ?_
          walk_at "lw go"
          refine rd_tupQ e4.iv (sq.ex (e3.trans e4)) fun t H5 e5 h5 => ?_
          refine qv _ _ e5 ⟨ts ++ [t], by rw [List.map_append]; rfl, ?_⟩
          rw [List.take_add_one, hrow]
          refine F2.append (show F2 (fun r row => At W (Lw.hide D H5) r (.tup row)) [t] [row] from .cons (h5.hide (h5.ne (e5.at_ hDa) (fun z => by cases z)) e5.iv (e5.at_ hDa)) .nil) ?_
          exact a2.mono (hide_ex e5 hDa)
        rintro D H5 ys hD e5 h5 ⟨ts, rfl, a2⟩ _
        rw [List.length_map, lr, List.take_length] at a2
        walk_at "lw go"
        rename_i t H6 f6 e6 h6
        exact k hn t H6 ts (by walk_at "lw ex") h6 (a2.mono e6)

theorem dp_tup {W : Wd} {K : PySem.W.Frag} {H : Hp} {p : Addr} {row : List V} (h : At W H p (.tup row)) (pl : ∀ v ∈ row, Pl v) : Dp K H (.ref p) (.tuple (row.map pd)) := .tup h.st (dp_row pl)
theorem shp {it : It} {n : Int} (o : it.Ok n) (hn : n ≤ 1048576) : SeqAt.shaped (.tuple (it.row.map pd)) = true := by
  have F := itF o (by omega)
  have e1 : PyData.canLay0 (.str it.name) = true := by
    have q : (names9.all fun s => PyData.canLay0 (.str s)) = true := by decide +kernel
    exact List.all_eq_true.mp q _ F.nm
  have all1 : ∀ vs : List V, (∀ v ∈ vs, PyData.canLay0 (pd v) = true) → PyData.canLayAll0 (vs.map pd) = true := fun vs => by
    induction vs with
    | nil => intro _; rfl
    | cons v vs ih =>
      intro h
      rw [List.map_cons, PyData.canLayAll0, h v (List.mem_cons_self ..), ih fun u hu => h u (List.mem_cons_of_mem _ hu)]
      rfl
  have dep : ∀ vs : List V, PyData.depthAll (vs.map pd) = 0 := fun vs => by
    induction vs with
    | nil => rfl
    | cons v vs ih =>
      rw [List.map_cons, PyData.depthAll, ih]
      cases v <;> rfl
  have fin : (∀ v ∈ it.row, PyData.canLay0 (pd v) = true) → SeqAt.shaped (.tuple (it.row.map pd)) = true := fun h => by
    unfold SeqAt.shaped
    rw [PyData.canLay0, all1 _ h, PyData.depth, dep]
    rfl
  refine fin fun v hv => ?_
  rcases List.mem_cons.mp hv with rfl | hv
  · exact e1
  cases it with
  | deed d =>
    have q : (DL.all fun v => PyData.canLay0 (pd v)) = true := by decide +kernel
    rw [List.mem_singleton.mp hv]
    exact List.all_eq_true.mp q _ o
  | jump t => rw [List.mem_singleton.mp hv]; rfl
  | zero r t =>
    rcases List.mem_cons.mp hv with rfl | hv
    · rfl
    · rw [List.mem_singleton.mp hv]; rfl
  | set r t =>
    rcases List.mem_cons.mp hv with rfl | hv
    · rfl
    · rw [List.mem_singleton.mp hv]; rfl
  | two m r t =>
    rcases List.mem_cons.mp hv with rfl | hv
    · rfl
    · rw [List.mem_singleton.mp hv]; rfl
/-- the halt, told by its tuple -/
def isHalt : It → Bool
  | .deed d => decide (d = "halt") | _ => false
theorem eqv_halt (it : It) (hn : it.name = "deed" → ∃ d, it = .deed d) : PyData.eqv (.tuple (it.row.map pd)) (.tuple ([V.str "deed", V.str "halt"].map pd)) = isHalt it := by
  have e0 : ∀ n : Str, n ≠ "deed" → (n == ("deed" : Str)) = false := fun n h => by simpa using h
  cases it with
  | deed d =>
    show PyData.eqv (.tuple [.str "deed", .str d]) (.tuple [.str "deed", .str "halt"]) = _
    simp only [PyData.eqv, PyData.eqvAll, isHalt]
    by_cases q : d = "halt"
    · subst q; rfl
    · have : (d == ("halt" : Str)) = false := by simpa using q
      rw [this, decide_eq_false q]; rfl
  | jump t =>
    show PyData.eqv (.tuple [.str "jump", .int t]) (.tuple [.str "deed", .str "halt"]) = _
    simp only [PyData.eqv, PyData.eqvAll, isHalt]
    rfl
  | zero r t =>
    show PyData.eqv (.tuple [.str "zero", .int r, .int t]) (.tuple [.str "deed", .str "halt"]) = _
    simp only [PyData.eqv, PyData.eqvAll, isHalt]
    rfl
  | set r t =>
    show PyData.eqv (.tuple [.str "set", .int r, .int t]) (.tuple [.str "deed", .str "halt"]) = _
    simp only [PyData.eqv, PyData.eqvAll, isHalt]
    rfl
  | two m r t =>
    show PyData.eqv (.tuple [.str m, .int r, .int t]) (.tuple [.str "deed", .str "halt"]) = _
    simp only [PyData.eqv, PyData.eqvAll, isHalt]
    rw [e0 m fun z => by obtain ⟨d, h⟩ := hn z; cases h]; rfl
theorem rd_eqHalt {W : Wd} {K : PySem.W.Frag} {H : Hp} {Q : VK} {p q : Addr} {it : It} {n : Int} (h : At W H p (.tup it.row)) (hq : At W H q (.tup [.str "deed", .str "halt"])) (o : it.Ok n) (hn : n ≤ 1048576) (k : Q (.bl (isHalt it)) H) : rEqD K (.ref p) (.ref q) H Q := by
  refine ⟨_, _, dp_tup h (itF o (by omega)).rw.pl, dp_tup hq (fun v hv => by
    rcases List.mem_cons.mp hv with rfl | hv
    · exact Pl.str _
    · rw [List.mem_singleton.mp hv]; exact Pl.str _), shp o hn, by decide +kernel, ?_⟩
  rw [eqv_halt it fun z => ?_]
  · exact k
  · cases it with
    | deed d => exact ⟨d, rfl⟩
    | jump t => exact absurd z (show ("jump" : Str) ≠ "deed" by decide)
    | zero r t => exact absurd z (show ("zero" : Str) ≠ "deed" by decide)
    | set r t => exact absurd z (show ("set" : Str) ≠ "deed" by decide)
    | two m r t => exact absurd (z ▸ o.1 : Two "deed") (by unfold Two; decide)
theorem nat_of {t : Int} (h : 0 ≤ t) : ((t.toNat : Nat) : Int) = t := by omega
theorem two_ne {m : Str} (h : Two m) : m ≠ "jump" ∧ m ≠ "zero" ∧ m ≠ "deed" := by
  rcases h with rfl | rfl | rfl | rfl | rfl <;> decide
theorem ok_followers (T : Tx P w K mg) : FnOk P w K mg base CX0 1 T.f_followers T.fd_followers ["program", "index"] (sp_followers) := by
  refine T.F_followers.ok sc_followers (fun vs H Q E h => ?_) (fun cdv A outer s H vs Q E hr h => ?_)
  · obtain ⟨W, t, ts, its, i, it, rfl, iv, ht, hts, hi, o, hl, k⟩ := h
    rfl
  · obtain ⟨W, t, ts, its, i, it, rfl, iv, ht, hts, hi, o, hl, k⟩ := h
    refine ⟨_, (pss_cons (ps_set (i := 2) sc_followers.nd rfl (by first | exact Or.inl rfl | exact Or.inr rfl) (pe_ix (r := rIxT K) ix_tup (pv 0) (pv 1) (fun _ _ => rfl)))
      (pss_cons (ps_if (pt_cmpR op_eq (pe_ix (r := rIxT K) ix_tup (pv 2) pe_int (fun _ _ => rfl)) pe_str (nomark _))
        (pss_one (ps_ret (pe_tup (pa_cons (pe_ix (r := rIxT K) ix_tup (pv 2) pe_int (fun _ _ => rfl)) pa_nil))))
        pss_nil)
      (pss_cons (ps_if (pt_cmpR op_eq (pe_ix (r := rIxT K) ix_tup (pv 2) pe_int (fun _ _ => rfl)) pe_str (nomark _))
        (pss_one (ps_ret (pe_tup (pa_cons (pe_ix (r := rIxT K) ix_tup (pv 2) pe_int (fun _ _ => rfl)) (pa_cons (pe_op op_add (pv 1) pe_int) pa_nil)))))
        pss_nil)
      (pss_cons (ps_if (pt_cmpR (r := rEqD K) (op_eqD hr.units) (pv 2) (pe_tup (pa_cons pe_str (pa_cons pe_str pa_nil))) (nomark _))
        (pss_one (ps_ret (pe_tup pa_nil)))
        pss_nil)
      (pss_one (ps_ret (pe_tup (pa_cons (pe_op op_add (pv 1) pe_int) pa_nil)))))))), ?_⟩
    obtain ⟨r, er, har⟩ := F2.getR hts (show (its.map It.row)[i]? = some it.row by rw [List.getElem?_map, hi]; rfl)
    have ei : atI (ts.map V.ref) (i : Int) = some (.ref r) := at_in (by omega) (by rw [show ((i : Nat) : Int).toNat = i by omega, List.getElem?_map, er]; rfl)
    cases it with
    | jump tt =>
      have q0 : atI (It.jump tt).row 0 = some (.str "jump") := rfl
      have q1 : atI (It.jump tt).row 1 = some (.int tt) := rfl
      walk_at "lw go"
      refine ifS_yes rfl ?_
      walk_at "lw go"
      rename_i q H1 f1 e1 h1
      refine k _ _ e1 ?_
      unfold WN behF
      rw [List.map_cons, nat_of o.1]
      exact h1
    | zero rr tt =>
      have q0 : atI (It.zero rr tt).row 0 = some (.str "zero") := rfl
      have q1 : atI (It.zero rr tt).row 2 = some (.int tt) := rfl
      walk_at "lw go"
      refine ifS_no (show ("zero" : Str) ≠ "jump" by decide) ?_
      walk_at "lw go"
      refine ifS_yes rfl ?_
      walk_at "lw go"
      rename_i q H1 f1 e1 h1
      refine k _ _ e1 ?_
      unfold WN behF
      rw [List.map_cons, nat_of o.2.1]
      exact h1
    | deed d =>
      have q0 : atI (It.deed d).row 0 = some (.str "deed") := rfl
      walk_at "lw go"
      refine ifS_no (show ("deed" : Str) ≠ "jump" by decide) ?_
      walk_at "lw go"
      refine ifS_no (show ("deed" : Str) ≠ "zero" by decide) ?_
      walk_at "lw go"
      rename_i q H1 f1 e1 h1
      refine rd_eqHalt (W := W) (e1.at_ har) h1 o hl ?_
      walk_at "lw go"
      by_cases z : d = "halt"
      · refine ifB_yes (decide_eq_true z) ?_
        walk_at "lw go"
        rename_i q2 H2 f2 e2 h2
        refine k _ _ (e1.trans e2) ?_
        rw [show behF (.deed d) i = [] from if_pos z]
        exact h2
      · refine ifB_no (decide_eq_false z) ?_
        walk_at "lw go"
        rename_i q2 H2 f2 e2 h2
        refine k _ _ (e1.trans e2) ?_
        rw [show behF (.deed d) i = [i + 1] from if_neg z]
        exact h2
    | set rr tt =>
      have q0 : atI (It.set rr tt).row 0 = some (.str "set") := rfl
      walk_at "lw go"
      refine ifS_no (show ("set" : Str) ≠ "jump" by decide) ?_
      walk_at "lw go"
      refine ifS_no (show ("set" : Str) ≠ "zero" by decide) ?_
      walk_at "lw go"
      rename_i q H1 f1 e1 h1
      refine rd_eqHalt (W := W) (e1.at_ har) h1 o hl ?_
      walk_at "lw go"
      refine ifB_no rfl ?_
      walk_at "lw go"
      rename_i q2 H2 f2 e2 h2
      exact k _ _ (e1.trans e2) h2
    | two m rr tt =>
      have q0 : atI (It.two m rr tt).row 0 = some (.str m) := rfl
      obtain ⟨n1, n2, n3⟩ := two_ne o.1
      walk_at "lw go"
      refine ifS_no n1 ?_
      walk_at "lw go"
      refine ifS_no n2 ?_
      walk_at "lw go"
      rename_i q H1 f1 e1 h1
      refine rd_eqHalt (W := W) (e1.at_ har) h1 o hl ?_
      walk_at "lw go"
      refine ifB_no rfl ?_
      walk_at "lw go"
      rename_i q2 H2 f2 e2 h2
      exact k _ _ (e1.trans e2) h2

theorem F2.of_get {α β : Type} {R : α → β → Prop} : ∀ {xs : List α} {ys : List β}, xs.length = ys.length → (∀ (i : Nat) x y, xs[i]? = some x → ys[i]? = some y → R x y) → F2 R xs ys
  | [], [], _, _ => .nil
  | [], _ :: _, h, _ => by simp at h
  | _ :: _, [], h, _ => by simp at h
  | x :: xs, y :: ys, h, f => .cons (f 0 x y rfl rfl) (F2.of_get (by simpa using h) fun i a b ha hb => f (i + 1) a b (by simpa using ha) (by simpa using hb))
theorem F2.get2 {α β : Type} {R : α → β → Prop} : ∀ {xs : List α} {ys : List β} {i : Nat} {x : α} {y : β}, F2 R xs ys → xs[i]? = some x → ys[i]? = some y → R x y
  | _, _, _, _, _, .nil, h, _ => by simp at h
  | _, _, 0, _, _, .cons a _, h, g => by simp at h g; subst h g; exact a
  | _, _, i + 1, _, _, .cons _ t, h, g => t.get2 (i := i) (by simpa using h) (by simpa using g)
theorem F2.at_ {α β : Type} {R : α → β → Prop} : ∀ {xs : List α} {ys : List β} {i : Nat} {x : α}, F2 R xs ys → xs[i]? = some x → ∃ y, ys[i]? = some y ∧ R x y
  | _, _, i, x, .nil, h => by simp at h
  | _, _, 0, x, .cons a _, h => by simp at h; subst h; exact ⟨_, rfl, a⟩
  | _, _, i + 1, x, .cons _ t, h => by simpa using t.at_ (i := i) (by simpa using h)
theorem nd_inj : ∀ {ls : List Addr} {f g : Nat} {a : Addr}, ls.Nodup → ls[f]? = some a → ls[g]? = some a → f = g
  | [], _, _, _, _, h, _ => by simp at h
  | _ :: _, 0, 0, _, _, _, _ => rfl
  | x :: xs, 0, g + 1, a, nd, h1, h2 => by
    simp at h1 h2
    subst h1
    exact absurd (List.mem_of_getElem? h2) (List.nodup_cons.mp nd).1
  | x :: xs, f + 1, 0, a, nd, h1, h2 => by
    simp at h1 h2
    subst h2
    exact absurd (List.mem_of_getElem? h1) (List.nodup_cons.mp nd).1
  | x :: xs, f + 1, g + 1, a, nd, h1, h2 => by
    exact congrArg (· + 1) (nd_inj (List.nodup_cons.mp nd).2 (f := f) (g := g) (a := a) (by simpa using h1) (by simpa using h2))
/-- a list of lists of our own -/
structure Nest (W : Wd) (H0 H : Hp) (L : Addr) (ls : List Addr) (xs : List (List Nat)) : Prop where
  l : At W H L (.lst (ls.map V.ref))
  r : F2 (fun a x => At W H a (.lst (WN x)) ∧ H0 a = none) ls xs
  nd : ls.Nodup
theorem Nest.mono {W : Wd} {H0 H H' : Hp} {L : Addr} {ls : List Addr} {xs : List (List Nat)} (N : Nest W H0 H L ls xs) (e : Ex W H H') : Nest W H0 H' L ls xs := ⟨e.at_ N.l, F2.mono (fun _ _ a => ⟨e.at_ a.1, a.2⟩) N.r, N.nd⟩
theorem Nest.ne {W : Wd} {H0 H : Hp} {L a : Addr} {ls : List Addr} {xs : List (List Nat)} {x : List Nat} {f : Nat} (N : Nest W H0 H L ls xs) (ha : ls[f]? = some a) (hx : At W H a (.lst (WN x))) : L ≠ a := N.l.ne hx fun z => by
  injection z with z
  cases ls with
  | nil => simp at ha
  | cons b r =>
    cases x with
    | nil => cases z
    | cons y x => injection z with z _; cases z
theorem Nest.put {W : Wd} {H0 H H2 : Hp} {L a : Addr} {ls : List Addr} {xs : List (List Nat)} {x : List Nat} {f i : Nat} (N : Nest W H0 H L ls xs) (ha : ls[f]? = some a) (hx : xs[f]? = some x) (h2 : At W H2 a (.lst (WN x ++ [V.int (i : Nat)])))
    (o : ∀ q u, q ≠ a → At W H q u → At W H2 q u) : Nest W H0 H2 L ls (addL xs f i) := by
  have hx1 := (F2.get2 N.r ha hx).1
  refine ⟨o _ _ (N.ne ha hx1) N.l, F2.of_get (by unfold addL; rw [List.length_set]; exact F2.length N.r) fun g b y hb hy => ?_, N.nd⟩
  unfold addL at hy
  rw [List.getElem?_set] at hy
  by_cases e : f = g
  · subst e
    rw [ha] at hb
    cases hb
    rw [if_pos rfl, if_pos (List.getElem?_eq_some_iff.mp hx).1, hx] at hy
    rw [← Option.some.inj hy]
    refine ⟨?_, (F2.get2 N.r ha hx).2⟩
    have e : WN (x ++ [i]) = WN x ++ [V.int (i : Nat)] := by unfold WN; rw [List.map_append]; rfl
    rw [Option.getD_some, e]
    exact h2
  · rw [if_neg e] at hy
    have q := F2.get2 N.r hb hy
    refine ⟨o b _ (fun z => e ?_) q.1, q.2⟩
    subst z
    exact nd_inj N.nd ha hb
theorem wn_get {l : List Nat} {i : Nat} {v : V} (h : (WN l)[i]? = some v) : ∃ x, l[i]? = some x ∧ v = .int (x : Nat) := by
  unfold WN at h
  rw [List.getElem?_map] at h
  cases hz : l[i]? with
  | none => rw [hz] at h; cases h
  | some x => rw [hz] at h; exact ⟨x, rfl, (Option.some.inj h).symm⟩
theorem wn_len {l : List Nat} : (WN l).length = l.length := List.length_map ..
theorem wn_at {l : List Nat} {i x : Nat} (h : l[i]? = some x) : atI (WN l) (i : Int) = some (.int (x : Nat)) := at_in (by omega) (by rw [show ((i : Nat) : Int).toNat = i by omega]; unfold WN; rw [List.getElem?_map, h]; rfl)
theorem in_at {l : List Int} {i : Nat} {x : Int} (h : l[i]? = some x) : atI (l.map V.int) (i : Int) = some (.int x) := at_in (by omega) (by rw [show ((i : Nat) : Int).toNat = i by omega, List.getElem?_map, h]; rfl)
theorem re_at {ls : List Addr} {i : Nat} {a : Addr} (h : ls[i]? = some a) : atI (ls.map V.ref) (i : Int) = some (.ref a) := at_in (by omega) (by rw [show ((i : Nat) : Int).toNat = i by omega, List.getElem?_map, h]; rfl)
theorem lead_len (its : List It) : ∀ (fs : List Nat) (i : Nat) (L : List (List Nat)), (fs.foldl (fun L f => addL L f i) L).length = L.length
  | [], _, _ => rfl
  | f :: fs, i, L => by rw [List.foldl_cons, lead_len its fs i]; unfold addL; exact List.length_set
def LenB (c : Nat) (L : List (List Nat)) : Prop := ∀ (f : Nat) l, L[f]? = some l → l.length ≤ c
theorem len_add {c : Nat} {L : List (List Nat)} {f i : Nat} (h : LenB c L) : LenB (c + 1) (addL L f i) := fun g l hg => by
  unfold addL at hg
  rw [List.getElem?_set] at hg
  split at hg
  · split at hg
    · rw [← Option.some.inj hg, List.length_append]
      cases hz : L[f]? with
      | none => simp
      | some x => have := h f x hz; simp; omega
    · cases hg
  · have := h g l hg; omega
theorem len_fold : ∀ (fs : List Nat) {c i : Nat} {L : List (List Nat)}, LenB c L → LenB (c + fs.length) (fs.foldl (fun L f => addL L f i) L)
  | [], _, _, _, h => h
  | f :: fs, c, i, L, h => by
    have q := len_fold fs (i := i) (len_add (f := f) (i := i) h)
    rw [List.length_cons, show c + (fs.length + 1) = c + 1 + fs.length by omega]
    exact q
theorem len_leadK (its : List It) : ∀ k, LenB (2 * k) (leadK its k)
  | 0 => fun f l h => by
    have h : (List.replicate (its.length + 1) ([] : List Nat))[f]? = some l := h
    rw [List.getElem?_replicate] at h
    split at h
    · rw [← Option.some.inj h]; exact Nat.le_refl _
    · cases h
  | k + 1 => fun f l h => by
    rw [leadK] at h
    have ih := len_leadK its k
    cases hz : its[k]? with
    | none => rw [hz] at h; have := ih f l h; omega
    | some it =>
      rw [hz] at h
      have q := len_fold (behF it k) (i := k) ih f l h
      have := beh_len (it := it) (place := k)
      omega
theorem nest_new {W : Wd} {H0 H H4 : Hp} {D p : Addr} {ls : List Addr} {n : Nat} {ys : List V} (e0 : Ex W H0 H) (hD : At W H D (.lst ys)) (f : H p = none) (e4 : Ex W H H4) (h4 : At W H4 p (.lst [])) (a2 : F2 (fun a x => At W (Lw.hide D H) a (.lst (WN x)) ∧ H0 a = none) ls (List.replicate n [])) (nd : ls.Nodup) :
    F2 (fun a x => At W (Lw.hide D H4) a (.lst (WN x)) ∧ H0 a = none) (ls ++ [p]) (List.replicate (n + 1) []) ∧ (ls ++ [p]).Nodup := by
  refine ⟨?_, ?_⟩
  · rw [List.replicate_succ']
    refine F2.append (.cons ⟨h4.hide (fun z => by have q := hD.1; rw [← z, f] at q; cases q) e4.iv (e4.at_ hD), e0.fresh f⟩ .nil) ?_
    exact F2.mono (fun a x q => ⟨(hide_ex e4 hD).at_ q.1, q.2⟩) a2
  · rw [List.nodup_append]
    refine ⟨nd, by simp, fun a ha b hb z => ?_⟩
    rw [List.mem_singleton.mp hb] at z
    obtain ⟨i, hi⟩ := List.getElem?_of_mem ha
    obtain ⟨y, hy, q⟩ := F2.at_ a2 hi
    have q1 := q.1.1
    rw [z] at q1
    unfold Lw.hide at q1
    split at q1
    · cases q1
    · rw [f] at q1; cases q1
theorem ok_distances (T : Tx P w K mg) : FnOk P w K mg base CX0 2 T.f_distances T.fd_distances ["program"] (sp_distances) := by
  refine T.F_distances.ok sc_distances (fun vs H Q E h => ?_) (fun cdv A outer s H vs Q E hr h => ?_)
  · obtain ⟨W, t, ts, its, rfl, iv, ht, hts, ho, hl, k⟩ := h
    rfl
  · obtain ⟨W, t, ts, its, rfl, iv, ht, hts, ho, hl, k⟩ := h
    refine ⟨_, (pss_cons (ps_set (i := 1) sc_distances.nd rfl (by first | exact Or.inl rfl | exact Or.inr rfl) (pe_callB (r := Lw.rLen K) c_len (by rfl) T.n_len PySem.boot_len (pa_cons (pv 0) pa_nil)))
      (pss_cons (ps_setLc (i := 2) (own := [("_", 9)]) rfl sc_distances.nd rfl rfl (sw_true rfl rfl rfl (by decide +kernel)) (pi_range1 rfl T.n_range (pa_cons (pe_op op_add (pv 1) pe_int) pa_nil)) (blkOk_by (own := [("_", 9)]) (N := N_distances) (sc := (defScope s_distances)) (by decide +kernel)) (fun _ _ _ _ _ => (pg_name (i := 9) sc_distances.nd rfl (by first | exact Or.inl rfl | exact Or.inr rfl))) (fun _ _ _ _ _ => pts_nil) (fun _ _ _ _ _ => (pe_lst pa_nil)))
      (pss_cons (ps_for PassesOwn.never rfl (pi_range1 rfl T.n_range (pa_cons (pv 1) pa_nil)) (pg_name (i := 3) sc_distances.nd rfl (by first | exact Or.inl rfl | exact Or.inr rfl))
        (pss_one (ps_for PassesOwn.never rfl (pi_tup (pe_call (ok_followers T) hr (by rfl) T.g_followers T.F_followers.kp T.b_followers .nil pass0 (pa_cons (pv 0) (pa_cons (pv 3) pa_nil)))) (pg_name (i := 4) sc_distances.nd rfl (by first | exact Or.inl rfl | exact Or.inr rfl))
          (pss_one (ps_expr (pe_bm PySem.F.plainAttrs_list PySem.F.slot_list_append PySem.F.type_list_append mt_append (pe_ix (r := rIxL K) ix_list (pv 2) (pv 4) (fun _ _ => rfl)) (pa_cons (pv 3) pa_nil)))))))
      (pss_cons (ps_set (i := 5) sc_distances.nd rfl (by first | exact Or.inl rfl | exact Or.inr rfl) (pe_op op_rep (pe_lst (pa_cons (pe_un un_neg pe_int) pa_nil)) (pe_op op_add (pv 1) pe_int)))
      (pss_cons (ps_asg pe_int (pg_sub (pv 5) (pv 1) set_list))
      (pss_cons (ps_set (i := 6) sc_distances.nd rfl (by first | exact Or.inl rfl | exact Or.inr rfl) (pe_lst (pa_cons (pv 1) pa_nil)))
      (pss_cons (ps_set (i := 7) sc_distances.nd rfl (by first | exact Or.inl rfl | exact Or.inr rfl) pe_int)
      (pss_cons (ps_while PassesOwn.never (pt_cmpR op_lt (pv 7) (pe_callB (r := Lw.rLen K) c_len (by rfl) T.n_len PySem.boot_len (pa_cons (pv 6) pa_nil)) (nomark _))
        (pss_cons (ps_set (i := 8) sc_distances.nd rfl (by first | exact Or.inl rfl | exact Or.inr rfl) (pe_ix (r := rIxL K) ix_list (pv 6) (pv 7) (fun _ _ => rfl)))
        (pss_cons (ps_set (i := 7) sc_distances.nd rfl (by first | exact Or.inl rfl | exact Or.inr rfl) (pe_op op_add (pv 7) pe_int))
        (pss_one (ps_for PassesOwn.never rfl (pi_list (pe_ix (r := rIxL K) ix_list (pv 2) (pv 8) (fun _ _ => rfl))) (pg_name (i := 3) sc_distances.nd rfl (by first | exact Or.inl rfl | exact Or.inr rfl))
          (pss_one (ps_if (pt_cmpR op_lt (pe_ix (r := rIxL K) ix_list (pv 5) (pv 3) (fun _ _ => rfl)) pe_int (nomark _))
            (pss_cons (ps_asg (pe_op op_add (pe_ix (r := rIxL K) ix_list (pv 5) (pv 8) (fun _ _ => rfl)) pe_int) (pg_sub (pv 5) (pv 3) set_list))
            (pss_one (ps_expr (pe_bm PySem.F.plainAttrs_list PySem.F.slot_list_append PySem.F.type_list_append mt_append (pv 6) (pa_cons (pv 3) pa_nil)))))
            pss_nil)))))))
      (pss_one (ps_ret (pv 5))))))))))), ?_⟩
    have lts : (ts.map V.ref).length = its.length := by rw [List.length_map, F2.length hts, List.length_map]
    walk_at "lw go"
    rw [lts]
    refine lc_w (W := W) (X := fun i x => x = .int (0 + (i : Nat))) (n := ((its.length : Int) + 1).toNat) walk_range (fun n ys Hh => ∃ ls : List Addr, ys = ls.map V.ref ∧ F2 (fun a x => At W Hh a (.lst (WN x)) ∧ H a = none) ls (List.replicate n []) ∧ ls.Nodup) iv (by omega) (fun _ _ => trivial)
      (fun n ys Ha Hb e ⟨ls, a1, a2, a3⟩ => ⟨ls, a1, F2.mono (fun _ _ q => ⟨e.at_ q.1, q.2⟩) a2, a3⟩) ⟨[], rfl, .nil, List.nodup_nil⟩ ?_ ?_
    · rintro n x D ys H' QV QN hn' rfl hD hDa e3 ⟨ls, rfl, a2, a3⟩ _ qv qn
      walk_at "lw go"
      refine iteT ?_
      walk_at "lw go"
      rename_i p H4 f4 e4 h4
      obtain ⟨b1, b2⟩ := nest_new e3 hDa f4 e4 h4 a2 a3
      exact qv _ _ e4 ⟨ls ++ [p], by rw [List.map_append]; rfl, b1, b2⟩
    rintro L H2 ys hL e2 h2 ⟨ls, rfl, a2, a3⟩ _
    have N0 : Nest W H H2 L ls (leadK its 0) := ⟨h2, by rw [show ((its.length : Int) + 1).toNat = its.length + 1 by omega] at a2; exact a2, a3⟩
    walk_at "lw go"
    refine for_r (fun i σ' H' => ∃ v3 v4, σ' = [some (.ref t), some (.int its.length), some (.ref L), v3, v4, none, none, none, none, none] ∧ Ex W H H' ∧ Nest W H H' L ls (leadK its i)) ⟨_, _, rfl, e2, N0⟩ ?_ ?_
    · rintro i σ' H' hi ⟨v3, v4, rfl, e3, N3⟩
      have hil : i < its.length := by omega
      have hit : its[i]? = some its[i] := List.getElem?_eq_getElem hil
      have ht3 := e3.at_ ht
      rw [Int.zero_add]
      walk_at "lw go"
      refine cl_followers (W := W) e3.iv ht3 (hts.mono e3) hit (ho _ (List.getElem_mem hil)) (by omega) fun q H4 e4 h4 => ?_
      refine ⟨q, rfl, ⟨_, h4.st⟩, ?_⟩
      have bl : ∀ f, f ∈ behF its[i] i → f ≤ its.length := fun f h => beh_le (ho _ (List.getElem_mem hil)) hil h
      refine for_t (W := W) (xs := WN (behF its[i] i)) (fun j σ' H' => ∃ v4, σ' = [some (.ref t), some (.int its.length), some (.ref L), some (.int i), v4, none, none, none, none, none] ∧ At W H' q (.tup (WN (behF its[i] i))) ∧ Ex W H H' ∧ Nest W H H' L ls (((behF its[i] i).take j).foldl (fun L f => addL L f i) (leadK its i))) ⟨_, rfl, h4, e3.trans e4, N3.mono e4⟩ (fun _ _ _ ⟨_, _, e, _, _⟩ => e) ?_ ?_
      · rintro j x σ' H5 hx ⟨v4', rfl, e5, e5', N5⟩
        obtain ⟨f, hf, rfl⟩ := wn_get hx
        have fl := bl f (List.mem_of_getElem? hf)
        have ll : (((behF its[i] i).take j).foldl (fun L f => addL L f i) (leadK its i)).length = its.length + 1 := by rw [lead_len its]; exact (leadK_ok its i).1
        obtain ⟨xf, hxf⟩ : ∃ xf, (((behF its[i] i).take j).foldl (fun L f => addL L f i) (leadK its i))[f]? = some xf := by
          cases hz : (((behF its[i] i).take j).foldl (fun L f => addL L f i) (leadK its i))[f]? with
          | some xf => exact ⟨xf, rfl⟩
          | none => have := List.getElem?_eq_none_iff.mp hz; omega
        obtain ⟨a, ha, har, fa⟩ := F2.getR N5.r hxf
        have hL5 := N5.l
        have ea := re_at ha
        have lenx := len_fold ((behF its[i] i).take j) (i := i) (len_leadK its i) f xf hxf
        have bl2 := beh_len (it := its[i]) (place := i)
        rw [List.length_take] at lenx
        walk_at "lw go"
        refine rd_append (W := W) (H0 := H) e5' fa har (by rw [wn_len]; omega) fun H7 e7 h7 o7 => ?_
        refine ⟨_, rfl, o7 q _ (e5.ne har fun z => by cases z) e5, e7, ?_⟩
        rw [List.take_add_one, hf, List.foldl_append]
        exact N5.put ha hxf h7 o7
      · rintro σ' H5 ⟨v4', rfl, e5, e5', N5⟩
        rw [wn_len, List.take_length] at N5
        exact ⟨_, _, rfl, e5', by rw [leadK, hit]; exact N5⟩
    · rintro σ' H3 ⟨v3, v4, rfl, e3, N3⟩
      rw [show ((its.length : Nat) : Int).toNat = its.length by omega] at N3
      walk_at "lw go"
      rename_i p H4 f4 e4 h4 D H5 f5 e5 h5
      have e35 : Ex W H3 H5 := e4.trans e5
      have fD : H3 D = none := e4.fresh f5
      have fl : ∀ m : Nat, (List.replicate m [V.int (-1)]).flatten = List.replicate m (V.int (-1)) := fun m => by
        induction m with
        | zero => rfl
        | succ m ih => rw [List.replicate_succ, List.flatten_cons, ih, List.replicate_succ]; rfl
      have e1 : ((its.length : Int) + 1).toNat = its.length + 1 := by omega
      rw [fl, e1] at h5
      refine rd_set (W := W) (H0 := H3) e35 fD h5 (m := its.length) (ix_in (by omega) (by rw [List.length_replicate]; omega)) fun H6 e6 h6 o6 => ?_
      have init : (List.replicate (its.length + 1) (V.int (-1))).set its.length (V.int 0) = ((bfsF (leadK its its.length) its.length 0).1).map V.int := by
        show _ = (List.replicate its.length (-1) ++ [0] : List Int).map V.int
        rw [List.replicate_succ', List.map_append, List.map_replicate, List.set_append_right _ _ (by rw [List.length_replicate]; exact Nat.le_refl _), List.length_replicate, Nat.sub_self]
        rfl
      rw [init] at h6
      walk_at "lw go"
      rename_i Qa H7 f7 e7 h7
      have fQ : H3 Qa = none := e6.fresh f7
      have nDQ : D ≠ Qa := h6.ne_fresh f7
      refine ⟨fun m σ' H' => ∃ (kk : Nat) (v3 v4 v8 : Option V), m = its.length + 1 - kk ∧ kk ≤ its.length + 1 ∧ σ' = [some (.ref t), some (.int its.length), some (.ref L), v3, v4, some (.ref D), some (.ref Qa), some (.int kk), v8, none] ∧ Ex W H3 H' ∧ At W H' D (.lst ((bfsF (leadK its its.length) its.length kk).1.map V.int)) ∧ At W H' Qa (.lst (WN (bfsF (leadK its its.length) its.length kk).2)), ⟨_, 0, _, _, _, rfl, Nat.zero_le _, rfl, e6.trans e7, e7.at_ h6, h7⟩, ?_⟩
      rintro m σ' H8 ⟨kk, v3, v4, v8, rfl, hk, rfl, e8, hD8, hQ8⟩
      have ok := bfs_ok (leadK_ok its its.length) kk
      walk_at "lw go"
      refine ifD ?_ ?_ <;> intro hlt
      · rw [wn_len] at hlt
        obtain ⟨pp, hpp⟩ : ∃ pp, (bfsF (leadK its its.length) its.length kk).2[kk]? = some pp := ⟨_, List.getElem?_eq_getElem (by omega)⟩
        obtain ⟨pl, dp, hdp, h0⟩ := ok.q pp (List.mem_of_getElem? hpp)
        have qlen := ok.qlen
        have eqi := wn_at hpp
        have lok := leadK_ok its its.length
        have llen := lok.1
        obtain ⟨xl, hxl⟩ : ∃ xl, (leadK its its.length)[pp]? = some xl := ⟨_, List.getElem?_eq_getElem (by omega)⟩
        obtain ⟨a, ha, har3, _⟩ := F2.getR N3.r hxl
        have ea := re_at ha
        have hL8 := e8.at_ N3.l
        refine ⟨fun σ2 H9 => ∃ (v3 v4 v8 : Option V), σ2 = [some (.ref t), some (.int its.length), some (.ref L), v3, v4, some (.ref D), some (.ref Qa), some (.int ((kk + 1 : Nat) : Int)), v8, none] ∧ Ex W H3 H9 ∧ At W H9 D (.lst ((bfsF (leadK its its.length) its.length (kk + 1)).1.map V.int)) ∧ At W H9 Qa (.lst (WN (bfsF (leadK its its.length) its.length (kk + 1)).2)), fun σ2 H9 ⟨v3, v4, v8, e, a, b, c⟩ => ⟨its.length + 1 - (kk + 1), by omega, kk + 1, v3, v4, v8, rfl, by omega, e, a, b, c⟩, ?_⟩
        walk_at "lw go"
        have har8 : ∀ {H'}, Ex W H3 H' → At W H' a (.lst (WN xl)) := fun e => e.at_ har3
        have src : ∀ j, ∀ i ∈ xl.take j, ∃ it, its[i]? = some it ∧ pp ∈ behF it i := fun j i hi => lok.2 pp xl hxl i (List.mem_of_mem_take hi)
        refine for_l (fun j σ' H' => ∃ v3, σ' = [some (.ref t), some (.int its.length), some (.ref L), v3, v4, some (.ref D), some (.ref Qa), some (.int ((kk + 1 : Nat) : Int)), some (.int pp), none] ∧ Ex W H3 H' ∧ At W H' D (.lst (((xl.take j).foldl (visit pp) (bfsF (leadK its its.length) its.length kk)).1.map V.int)) ∧ At W H' Qa (.lst (WN ((xl.take j).foldl (visit pp) (bfsF (leadK its its.length) its.length kk)).2)))
          ⟨_, rfl, e8, hD8, hQ8⟩ (fun j σ' H' _ ⟨_, _, e, _, _⟩ => har8 e) ?_ ?_
        · rintro j x σ' H9 hx ⟨v3', rfl, e9, hD9, hQ9⟩
          obtain ⟨i, hi, rfl⟩ := wn_get hx
          obtain ⟨okj, hdj⟩ := bfs_fold h0 (ok.up pp dp hdp) (xl.take j) _ (src j) ok.up1 hdp
          have tk : (xl.take (j + 1)).foldl (visit pp) (bfsF (leadK its its.length) its.length kk) = visit pp ((xl.take j).foldl (visit pp) (bfsF (leadK its its.length) its.length kk)) i := by rw [List.take_add_one, hi, List.foldl_append]; rfl
          rw [tk]
          generalize (xl.take j).foldl (visit pp) (bfsF (leadK its its.length) its.length kk) = sj at okj hdj hD9 hQ9
          have ql := okj.qlen
          have dl := okj.len
          obtain ⟨it, hit, _⟩ := lok.2 pp xl hxl i (List.mem_of_getElem? hi)
          have il : i < its.length := (List.getElem?_eq_some_iff.mp hit).1
          obtain ⟨di, hdi⟩ : ∃ di, sj.1[i]? = some di := by
            cases hz : sj.1[i]? with
            | some di => exact ⟨di, rfl⟩
            | none => have := List.getElem?_eq_none_iff.mp hz; omega
          have eD := in_at hdi
          have eP := in_at hdj
          have vis : visit pp sj i = if di < 0 then (sj.1.set i (dp + 1), sj.2 ++ [i]) else sj := by unfold visit; rw [hdi, hdj]; rfl
          rw [vis]
          walk_at "lw go"
          refine ifD ?_ ?_ <;> intro hneg
          · rw [if_pos hneg]
            walk_at "lw go"
            refine rd_set (W := W) (H0 := H3) e9 fD hD9 (m := i) (ix_in (by omega) (by rw [List.length_map]; omega)) fun H10 e10 h10 o10 => ?_
            have hQ10 := o10 Qa _ nDQ.symm hQ9
            have lq : (WN sj.2).length < 1000000 := by rw [wn_len]; omega
            walk_at "lw go"
            rename_i H11 e11 h11 o11
            refine ⟨_, rfl, e11, o11 D _ nDQ ?_, by unfold WN; rw [List.map_append]; exact h11⟩
            rw [List.map_set]
            exact h10
          · rw [if_neg hneg]
            walk_at "lw go"
            exact ⟨_, rfl, e9, hD9, hQ9⟩
        · rintro σ' H9 ⟨v3', rfl, e9, hD9, hQ9⟩
          rw [wn_len, List.take_length] at hD9 hQ9
          have e : bfsF (leadK its its.length) its.length (kk + 1) = xl.foldl (visit pp) (bfsF (leadK its its.length) its.length kk) := by
            rw [bfsF, roundF, hpp]
            simp only [hxl, Option.getD_some]
          rw [e]
          exact ⟨_, _, _, rfl, e9, hD9, hQ9⟩
      · rw [wn_len] at hlt
        walk_at "lw go"
        refine k D H8 (e3.trans e8) ?_
        have q := bfs_stop (L := leadK its its.length) (n := its.length) (k := kk) (by omega) (its.length + 1 - kk)
        rw [show kk + (its.length + 1 - kk) = its.length + 1 by omega] at q
        unfold distF
        rw [q]
        exact hD8

theorem best_stepP {d : List Int} {left df bb : Int} {f : Nat} (h : d[f]? = some df) : bestP d left bb f = if df = left ∧ (bb < 0 ∨ (f : Int) < bb) then (f : Int) else bb := by
  unfold bestP
  rw [h]
  by_cases c : df = left
  · subst c; simp
  · rw [if_neg (fun z => c (Option.some.inj z.1)), if_neg (fun z => c z.1)]
theorem ok_way_to_end (T : Tx P w K mg) : FnOk P w K mg base (L2.CX P w) 5 T.f_way_to_end T.fd_way_to_end ["program"] (sp_way_to_end T.c_BadProgram) := by
  refine T.F_way_to_end.okX sc_way_to_end (fun vs H Q E h => ?_) (fun cdv A outer s H vs Q E hr h => ?_)
  · obtain ⟨W, a, rs, rows, rfl, iv, h, hr', hw, hl, kE, k⟩ := h
    rfl
  · obtain ⟨W, a, rs, rows, rfl, iv, h, hr', hw, hl, kE, k⟩ := h
    refine ⟨_, (pss_cons (ps_set (i := 1) sc_way_to_end.nd rfl (by first | exact Or.inl rfl | exact Or.inr rfl) (pe_callS (ok_check_program T) hr (by rfl) T.g_check_program T.F_check_program.kp T.b_check_program (fun σ => passAt (takes_of rfl rfl rfl rfl) σ) (pa_cons (pv 0) pa_nil)))
      (pss_cons (ps_set (i := 2) sc_way_to_end.nd rfl (by first | exact Or.inl rfl | exact Or.inr rfl) (pe_call (ok_distances T) (hr.mono (by decide)) (by rfl) T.g_distances T.F_distances.kp T.b_distances .nil pass0 (pa_cons (pv 1) pa_nil)))
      (pss_cons (ps_if (pt_cmpR op_lt (pe_ix (r := rIxL K) ix_list (pv 2) pe_int (fun _ _ => rfl)) pe_int (nomark _))
        (pss_one (ps_ret pe_non))
        pss_nil)
      (pss_cons (ps_set (i := 3) sc_way_to_end.nd rfl (by first | exact Or.inl rfl | exact Or.inr rfl) (pe_lst (pa_cons pe_int pa_nil)))
      (pss_cons (ps_set (i := 4) sc_way_to_end.nd rfl (by first | exact Or.inl rfl | exact Or.inr rfl) pe_int)
      (pss_cons (ps_for (passes_of rfl) rfl (pi_range3 rfl T.n_range (pa_cons (pe_op op_sub (pe_ix (r := rIxL K) ix_list (pv 2) pe_int (fun _ _ => rfl)) pe_int) (pa_cons (pe_un un_neg pe_int) (pa_cons (pe_un un_neg pe_int) pa_nil)))) (pg_name (i := 5) sc_way_to_end.nd rfl (by first | exact Or.inl rfl | exact Or.inr rfl))
        (pss_cons (ps_set (i := 6) sc_way_to_end.nd rfl (by first | exact Or.inl rfl | exact Or.inr rfl) (pe_un un_neg pe_int))
        (pss_cons (ps_for (passes_of rfl) rfl (pi_tup (pe_call (ok_followers T) (hr.mono (by decide)) (by rfl) T.g_followers T.F_followers.kp T.b_followers .nil pass0 (pa_cons (pv 1) (pa_cons (pv 4) pa_nil)))) (pg_name (i := 7) sc_way_to_end.nd rfl (by first | exact Or.inl rfl | exact Or.inr rfl))
          (pss_one (ps_if (PW.pt (pw_and (pt_cmpR op_eq (pe_ix (r := rIxL K) ix_list (pv 2) (pv 7) (fun _ _ => rfl)) (pv 5) (nomark _)) (pw_and1 (PW.pt (pw_or (pt_cmpR op_lt (pv 6) pe_int (nomark _)) (pw_or1 (pt_cmpR op_lt (pv 7) (pv 6) (nomark _))))))))
            (pss_one (ps_set (i := 6) sc_way_to_end.nd rfl (by first | exact Or.inl rfl | exact Or.inr rfl) (pv 7)))
            pss_nil)))
        (pss_cons (ps_expr (pe_bm PySem.F.plainAttrs_list PySem.F.slot_list_append PySem.F.type_list_append mt_append (pv 3) (pa_cons (pv 6) pa_nil)))
        (pss_one (ps_set (i := 4) sc_way_to_end.nd rfl (by first | exact Or.inl rfl | exact Or.inr rfl) (pv 6)))))))
      (pss_one (ps_ret (pe_callTy (r := Lw.rTupO K) c_tuple (by rfl) T.n_tuple (by decide +kernel) (pa_cons (pv 3) pa_nil)))))))))), ?_⟩
    refine rd_seq ?_
    show tAsg _ _ _ _ _
    walk_at "lw go"
    refine rd_callS ?_
    walk_at "lw go"
    refine cl_check_program iv h hr' hw hl (fun j fj d H1 e1 h1 => ?_) (fun fn t H1 ts e1 h1 hts => ?_)
    · exact kE j fj d H1 e1 h1
    · obtain ⟨its, rfl, ho, hn, k0, k1⟩ := k fn
      walk_at "lw go"
      refine cl_distances (W := W) e1.iv h1 hts ho hn fun D H2 e2 h2 => ?_
      obtain ⟨d0, hd0⟩ : ∃ d0, (distF its)[0]? = some d0 := by
        cases hz : (distF its)[0]? with
        | some d => exact ⟨d, rfl⟩
        | none => have := List.getElem?_eq_none_iff.mp hz; rw [dist_len] at this; omega
      have e0 : atI ((distF its).map V.int) 0 = some (.int d0) := in_at (i := 0) hd0
      have dup := dist_up hd0
      walk_at "lw go"
      refine ifD ?_ ?_ <;> intro hneg
      · walk_at "lw go"
        refine k0 ?_ _ (e1.trans e2)
        unfold wayR
        rw [hd0]
        simp only [Option.getD_some]
        rw [if_pos hneg]
      walk_at "lw go"
      rename_i Wy H3 f3 e3 h3
      refine rd_forR3 ?_
      walk_at "lw go"
      refine rd_down (by omega) (by omega) ?_
      rw [show d0 - 1 + 1 = d0 by omega]
      refine for_rC (fun i σ' H' => ∃ (v5 v6 v7 : Option V) (p : Nat), σ' = [some (.ref a), some (.ref t), some (.ref D), some (.ref Wy), some (.int p), v5, v6, v7] ∧ (wayF its i)[i]? = some p ∧ Ex W H2 H' ∧ At W H' Wy (.lst (WN (wayF its i)))) ⟨_, _, _, 0, rfl, rfl, e3, h3⟩ ?_ ?_
      · rintro i σ' H4 hi ⟨v5, v6, v7, p, rfl, hp, e4, h4⟩
        obtain ⟨it, hit, hdp, b, hb, hbn, hbest, _⟩ := way_step ho hd0 (k := i) (by omega) hp
        rw [show d0 - 1 + (i : Int) * -1 = d0 - ((i : Int) + 1) by omega]
        have hpl : p < its.length := (List.getElem?_eq_some_iff.mp hit).1
        walk_at "lw go"
        refine cl_followers (W := W) e4.iv (e4.at_ (e2.at_ h1)) (hts.mono (e2.trans e4)) hit (ho _ (List.mem_of_getElem? hit)) (by omega) fun q H5 e5 h5 => ?_
        refine ⟨q, rfl, ⟨_, h5.st⟩, ?_⟩
        have hD5 : ∀ {H'}, Ex W H5 H' → At W H' D (.lst ((distF its).map V.int)) := fun e => e.at_ (e5.at_ (e4.at_ h2))
        refine for_t (W := W) (xs := WN (behF it p)) (fun j σ' H' => ∃ v7, σ' = [some (.ref a), some (.ref t), some (.ref D), some (.ref Wy), some (.int p), some (.int (d0 - ((i : Int) + 1))), some (.int (((behF it p).take j).foldl (bestP (distF its) (d0 - ((i : Int) + 1))) (-1))), v7] ∧ Ex W H5 H') ⟨_, rfl, Ex.refl e5.iv⟩ (fun _ _ _ ⟨_, _, e⟩ => e.at_ h5) ?_ ?_
        · rintro j x σ' H6 hx ⟨v7', rfl, e6⟩
          obtain ⟨f, hf, rfl⟩ := wn_get hx
          have fl := beh_le (ho _ (List.mem_of_getElem? hit)) hpl (List.mem_of_getElem? hf)
          have dl := dist_len its
          obtain ⟨df, hdf⟩ : ∃ df, (distF its)[f]? = some df := by
            cases hz : (distF its)[f]? with
            | some d => exact ⟨d, rfl⟩
            | none => have := List.getElem?_eq_none_iff.mp hz; omega
          have eD := in_at hdf
          have hD6 := hD5 e6
          have tk : ((behF it p).take (j + 1)).foldl (bestP (distF its) (d0 - ((i : Int) + 1))) (-1) = bestP (distF its) (d0 - ((i : Int) + 1)) (((behF it p).take j).foldl (bestP (distF its) (d0 - ((i : Int) + 1))) (-1)) f := by rw [List.take_add_one, hf, List.foldl_append]; rfl
          rw [tk, best_stepP hdf]
          generalize ((behF it p).take j).foldl (bestP (distF its) (d0 - ((i : Int) + 1))) (-1) = bb
          generalize d0 - ((i : Int) + 1) = left
          walk_at "lw go"
          refine ifI ?_ ?_ <;> intro c1
          · walk_at "lw go"
            refine ifD ?_ ?_ <;> intro c2
            · walk_at "lw go"
              refine iteT ?_
              walk_at "lw go"
              rw [if_pos ⟨c1, .inl c2⟩]
              exact ⟨_, rfl, e6⟩
            · walk_at "lw go"
              refine ifD ?_ ?_ <;> intro c3
              · walk_at "lw go"
                rw [if_pos ⟨c1, .inr c3⟩]
                exact ⟨_, rfl, e6⟩
              · walk_at "lw go"
                rw [if_neg fun z => z.2.elim c2 c3]
                exact ⟨_, rfl, e6⟩
          · walk_at "lw go"
            refine iteF ?_
            walk_at "lw go"
            rw [if_neg fun z => c1 z.1]
            exact ⟨_, rfl, e6⟩
        · rintro σ' H6 ⟨v7', rfl, e6⟩
          rw [wn_len, List.take_length, hbest]
          have h6 := e6.at_ (e5.at_ h4)
          have wl := way_len its i
          have lq : (WN (wayF its i)).length < 1000000 := by rw [wn_len]; omega
          have e46 : Ex W H2 H6 := (e4.trans e5).trans e6
          walk_at "lw go"
          rename_i H7 e7 h7 o7
          refine ⟨_, _, _, b, rfl, ?_, e7, ?_⟩
          · rw [hb, List.getElem?_append_right (by omega), wl]; simp
          · rw [hb]; unfold WN; rw [List.map_append]; exact h7
      · rintro σ' H4 ⟨v5, v6, v7, p, rfl, hp, e4, h4⟩
        walk_at "lw go"
        rename_i q H5 f5 e5 h5
        refine k1 (wayF its d0.toNat) ?_ q H5 ((e1.trans e2).trans (e4.trans e5)) h5
        unfold wayR
        rw [hd0]
        simp only [Option.getD_some]
        rw [if_neg hneg]

theorem ok_law_pool (T : Tx P w K mg) : FnOk P w K mg base CX0 1 T.f_law_pool T.fd_law_pool ["script"] (sp_law_pool K) := by
  refine T.F_law_pool.ok sc_law_pool (fun vs H Q E h => ?_) (fun cdv A outer s H vs Q E hr h => ?_)
  · obtain ⟨a, ns, rfl, ha, hn, k⟩ := h
    rfl
  · obtain ⟨a, ns, rfl, ha, hn, k⟩ := h
    refine ⟨_, (pss_cons (ps_set (i := 1) sc_law_pool.nd rfl (by first | exact Or.inl rfl | exact Or.inr rfl) (pe_op op_powW (pe_op op_powW pe_int pe_int) pe_int))
      (pss_cons (ps_setLc (i := 2) (own := [("cell", 3)]) rfl sc_law_pool.nd rfl rfl (sw_true rfl rfl rfl (by decide +kernel)) (pi_list (pe_slice (r := rSlL K) sl_list (pv 0) po_none (po_some pe_int))) (blkOk_by (own := [("cell", 3)]) (N := N_law_pool) (sc := (defScope s_law_pool)) (by decide +kernel)) (fun _ _ _ _ _ => (pg_name (i := 3) sc_law_pool.nd rfl (by first | exact Or.inl rfl | exact Or.inr rfl))) (fun _ _ _ _ _ => pts_nil) (fun _ _ _ _ _ => (pe_op op_mod (pe_callTy c_int (by rfl) T.n_int (by decide +kernel) (pa_cons (pe_callB c_abs (by rfl) T.n_abs (by decide +kernel) (pa_cons (pv 3) pa_nil)) pa_nil)) (pv 1))))
      (pss_one (ps_ret (pe_lst (pa_cons pe_int (pa_cons pe_int (pa_cons pe_int (pa_cons (pv 2) (pa_cons pe_int pa_nil)))))))))), ?_⟩
    have iv : W0.iv H := trivial
    walk_at "lw all"
    refine rd_slLs (W := W0) iv ha ?_
    intro p H1 hp e1 h1
    have ai : AI (cutV (ns.map V.int) none (some 63)) := (AI.of ns).cut
    have al : (cutV (ns.map V.int) none (some 63)).length ≤ 63 := Nat.le_trans (cut_len _ _ _) (by rw [List.length_map]; exact hn)
    walk_at "lw all"
    refine rd_lc1 (W := W0) (fun _ y _ => ∃ z : Int, y = .int z) (by walk_at "lw iv") h1 (by omega) (fun _ _ _ _ _ r => r) (fun n x D acc H' QV hx hD hDa e q => ?_) (fun C H2 ys hD e2 h2 hA => ?_)
    · obtain ⟨z, rfl⟩ := ai.get hx
      walk_at "lw go"
      exact q _ _ (Ex.refl e.iv) ⟨_, rfl⟩
    obtain ⟨cs, rfl⟩ := (AI.of_all hA).ints
    walk_at "lw all"
    rename_i p5 H5 f5 e5 h5
    have hc5 : At W0 H5 C (.lst (cs.map V.int)) := by walk_at "lw at"
    exact k _ _ ⟨C, 0, 0, 4409, 0, cs, h5.1, hc5.1, (h2.ne_fresh f5).symm, by decide⟩

theorem ok_law_draw (T : Tx P w K mg) : FnOk P w K mg base CX0 1 T.f_law_draw T.fd_law_draw ["pool", "many"] (sp_law_draw) := by
  refine T.F_law_draw.ok sc_law_draw (fun vs H Q E h => ?_) (fun cdv A outer s H vs Q E hr h => ?_)
  · obtain ⟨b, many, rfl, m0, m1, ⟨c, r, kk, s0, t, cs, B⟩, k⟩ := h
    rfl
  · obtain ⟨b, many, rfl, m0, m1, ⟨c, r, kk, s0, t, cs, B⟩, k⟩ := h
    refine ⟨_, (pss_cut (ps_if (PW.pt (pw_and (pt_cmpR op_eq (pe_ix (r := rIxL K) ix_list (pv 0) pe_int (fun _ _ => rfl)) pe_int (nomark _)) (pw_and1 (pt_cmpR op_lt (pe_ix (r := rIxL K) ix_list (pv 0) pe_int (fun _ _ => rfl)) (pe_callB (r := Lw.rLen K) c_len (by rfl) T.n_len PySem.boot_len (pa_cons (pe_ix (r := rIxL K) ix_list (pv 0) pe_int (fun _ _ => rfl)) pa_nil)) (nomark _)))))
        (pss_cons (ps_set (i := 2) sc_law_draw.nd rfl (by first | exact Or.inl rfl | exact Or.inr rfl) (pe_ix (r := rIxL K) ix_list (pe_ix (r := rIxL K) ix_list (pv 0) pe_int (fun _ _ => rfl)) (pe_ix (r := rIxL K) ix_list (pv 0) pe_int (fun _ _ => rfl)) (fun _ _ => rfl)))
        (pss_cons (ps_asg (pe_op op_add (pe_ix (r := rIxL K) ix_list (pv 0) pe_int (fun _ _ => rfl)) pe_int) (pg_sub (pv 0) pe_int set_list))
        (pss_one (ps_if (pt_cmpR op_ge (pv 2) (pe_op op_powW pe_int pe_int) (nomark _))
          (pss_one (ps_asg (pv 2) (pg_sub (pv 0) pe_int set_list)))
          (pss_one (ps_asg (pe_op op_mod (pe_callTy c_int (by rfl) T.n_int (by decide +kernel) (pa_cons (pe_op op_add (pe_op op_add (pe_op op_mul (pe_ix (r := rIxL K) ix_list (pv 0) pe_int (fun _ _ => rfl)) pe_int) (pe_op op_mul (pv 2) pe_int)) pe_int) pa_nil)) pe_int) (pg_sub (pv 0) pe_int set_list)))))))
        pss_nil)
      (pss_cons (ps_if (pt_cmpR op_gt (pe_ix (r := rIxL K) ix_list (pv 0) pe_int (fun _ _ => rfl)) pe_int (nomark _))
        (pss_cons (ps_set (i := 3) sc_law_draw.nd rfl (by first | exact Or.inl rfl | exact Or.inr rfl) (pe_op op_mod (pe_callTy c_int (by rfl) T.n_int (by decide +kernel) (pa_cons (pe_ix (r := rIxL K) ix_list (pv 0) pe_int (fun _ _ => rfl)) pa_nil)) (pv 1)))
        (pss_cons (ps_asg (pe_op op_fdiv (pe_ix (r := rIxL K) ix_list (pv 0) pe_int (fun _ _ => rfl)) (pv 1)) (pg_sub (pv 0) pe_int set_list))
        (pss_one (ps_ret (pv 3)))))
        pss_nil)
      (pss_cons (ps_asg (pe_op op_add (pe_ix (r := rIxL K) ix_list (pv 0) pe_int (fun _ _ => rfl)) pe_int) (pg_sub (pv 0) pe_int set_list))
      (pss_cons (ps_asg (pe_op op_mod (pe_callTy c_int (by rfl) T.n_int (by decide +kernel) (pa_cons (pe_op op_add (pe_op op_add (pe_op op_mul (pe_ix (r := rIxL K) ix_list (pv 0) pe_int (fun _ _ => rfl)) pe_int) (pe_op op_mul (pe_ix (r := rIxL K) ix_list (pv 0) pe_int (fun _ _ => rfl)) pe_int)) pe_int) pa_nil)) pe_int) (pg_sub (pv 0) pe_int set_list))
      (pss_cons (ps_set (i := 4) sc_law_draw.nd rfl (by first | exact Or.inl rfl | exact Or.inr rfl) (pe_op op_mod (pe_callTy c_int (by rfl) T.n_int (by decide +kernel) (pa_cons (pe_op op_mul (pe_ix (r := rIxL K) ix_list (pv 0) pe_int (fun _ _ => rfl)) (pe_op op_add (pe_op op_fdiv (pe_ix (r := rIxL K) ix_list (pv 0) pe_int (fun _ _ => rfl)) pe_int) pe_int)) pa_nil)) pe_int))
      (pss_one (ps_ret (pe_op op_mod (pe_callTy c_int (by rfl) T.n_int (by decide +kernel) (pa_cons (pe_op op_fdiv (pv 4) pe_int) pa_nil)) (pv 1))))))))), ?_⟩
    obtain ⟨hb, hc, bc, k0⟩ := id B
    refine rd_cut (fun σ' H' => ∃ (r2 k2 s2 : Int) (v : Option V), σ' = [some (.ref b), some (.int many), v, none, none] ∧ PoolIs H' b c r2 k2 s2 t cs ∧ ∀ a, a ≠ b → H' a = H a) ?_ ?_
    · walk_at "lw all"
      · rename_i hlt
        rw [List.length_map] at hlt
        have hk : kk.toNat < cs.length := by omega
        refine rd_ixLr hc (at_in k0 (v := V.int (cs[kk.toNat])) (by rw [List.getElem?_map, List.getElem?_eq_getElem hk]; rfl)) ?_
        generalize cs[kk.toNat] = cell
        walk_at "lw all"
        · rename_i H2 g2 o2 hc2 H3 g3 o3
          exact ⟨_, _, _, _, rfl, ⟨g3, (o3 c bc.symm).trans ((o2 c bc.symm).trans hc), bc, by omega⟩, fun a ha => (o3 a ha).trans (o2 a ha)⟩
        · rename_i H2 g2 o2 hc2 H3 g3 o3
          exact ⟨_, _, _, _, rfl, ⟨g3, (o3 c bc.symm).trans ((o2 c bc.symm).trans hc), bc, by omega⟩, fun a ha => (o3 a ha).trans (o2 a ha)⟩
      · exact ⟨_, _, _, _, rfl, ⟨hb, hc, bc, k0⟩, fun a ha => rfl⟩
      · exact ⟨_, _, _, _, rfl, ⟨hb, hc, bc, k0⟩, fun a ha => rfl⟩
    rintro σ' H1 ⟨r2, k2, s2, v, rfl, B1, h1⟩
    obtain ⟨hb1, hc1, _, k1⟩ := id B1
    walk_at "lw all"
    · rename_i hpos H2 g2 o2
      have B3 : PoolIs H2 b c (r2 / many) k2 s2 t cs := ⟨g2, (o2 c bc.symm).trans hc1, bc, k1⟩
      exact k _ _ (ex_pool B B3 fun a ha => (o2 a ha).trans (h1 a ha)) (Int.emod_nonneg _ (by omega)) (Int.emod_lt_of_pos _ m0)
    · rename_i hpos H2 g2 o2 H3 g3 o3
      have B3 := PoolIs.mk g3 ((o3 c bc.symm).trans ((o2 c bc.symm).trans hc1)) bc k1
      exact k _ _ (ex_pool B B3 fun a ha => (o3 a ha).trans ((o2 a ha).trans (h1 a ha))) (Int.emod_nonneg _ (by omega)) (Int.emod_lt_of_pos _ m0)

theorem ok_law_is_integer (T : Tx P w K mg) : FnOk P w K mg base CX0 1 T.f_law_is_integer T.fd_law_is_integer ["thing"] (sp_law_is_integer) := by
  refine T.F_law_is_integer.ok sc_law_is_integer (fun vs H Q E h => ?_) (fun cdv A outer s H vs Q E hr h => ?_)
  · obtain ⟨v, rfl, hp, k⟩ := h
    rfl
  · obtain ⟨v, rfl, hp, k⟩ := h
    refine ⟨_, (pss_one (ps_ret (pe_and (pe_callB (r := rIsi K) call_isi (by rfl) T.n_isinstance (by decide +kernel) (pa_cons (pv 0) (pa_cons (pe_bltn (v := .ty "int") rfl T.n_int (by decide +kernel) rfl) pa_nil))) (pe_one (pe_not (pe_callB (r := rIsi K) call_isi (by rfl) T.n_isinstance (by decide +kernel) (pa_cons (pv 0) (pa_cons (pe_bltn (v := .ty "bool") rfl T.n_bool (by decide +kernel) rfl) pa_nil)))))))), ?_⟩
    cases hp <;> (walk_at "lw all"; exact k)
theorem okq_law_is_integer (T : Tx P w K mg) : FnQ P w K mg base CX0 1 T.f_law_is_integer T.fd_law_is_integer ["thing"] (sp_law_is_integer) := by
  refine Lw.Fun.okQ T.F_law_is_integer sc_law_is_integer (fun vs H Q E h => ?_) (fun cdv A outer s H vs Q E hr h => ?_)
  · obtain ⟨v, rfl, hp, k⟩ := h
    rfl
  · obtain ⟨v, rfl, hp, k⟩ := h
    refine ⟨_, (pss_one (ps_ret (pe_and (pe_callB (r := rIsi K) call_isi (by rfl) T.n_isinstance (by decide +kernel) (pa_cons (pv 0) (pa_cons (pe_bltn (v := .ty "int") rfl T.n_int (by decide +kernel) rfl) pa_nil))) (pe_one (pe_not (pe_callB (r := rIsi K) call_isi (by rfl) T.n_isinstance (by decide +kernel) (pa_cons (pv 0) (pa_cons (pe_bltn (v := .ty "bool") rfl T.n_bool (by decide +kernel) rfl) pa_nil)))))))), ?_⟩
    cases hp <;> (walk_at "lw all"; exact k)

theorem four_in {v : V} (h : v ∈ ([.str "until", .str "drop", .str "reply", .str "pull"] : List V)) : ∃ d, v = .str d ∧ V.str d ∈ DL := by
  simp only [List.mem_cons, List.not_mem_nil, or_false] at h
  rcases h with rfl | rfl | rfl | rfl <;> exact ⟨_, rfl, by decide⟩
theorem six_in {v : V} (h : v ∈ ([.str "set", .str "move", .str "add", .str "sub", .str "load", .str "store"] : List V)) : ∃ m, v = .str m ∧ ∀ r q : Int, 0 ≤ r → r < 8 → 0 ≤ q → q < 8 → ∃ f : Fl, f.Ok ∧ f.row = [.str m, .int r, .int q] := by
  simp only [List.mem_cons, List.not_mem_nil, or_false] at h
  rcases h with rfl | rfl | rfl | rfl | rfl | rfl
  · exact ⟨_, rfl, fun r q h0 h1 h2 h3 => ⟨.op (.set r q), ⟨trivial, ⟨h0, h1⟩, h2, by omega⟩, rfl⟩⟩
  · exact ⟨_, rfl, fun r q h0 h1 h2 h3 => ⟨.op (.two "move" r q), ⟨trivial, .inl rfl, ⟨h0, h1⟩, h2, h3⟩, rfl⟩⟩
  · exact ⟨_, rfl, fun r q h0 h1 h2 h3 => ⟨.op (.two "add" r q), ⟨trivial, .inr (.inl rfl), ⟨h0, h1⟩, h2, h3⟩, rfl⟩⟩
  · exact ⟨_, rfl, fun r q h0 h1 h2 h3 => ⟨.op (.two "sub" r q), ⟨trivial, .inr (.inr (.inl rfl)), ⟨h0, h1⟩, h2, h3⟩, rfl⟩⟩
  · exact ⟨_, rfl, fun r q h0 h1 h2 h3 => ⟨.op (.two "load" r q), ⟨trivial, .inr (.inr (.inr (.inl rfl))), ⟨h0, h1⟩, h2, h3⟩, rfl⟩⟩
  · exact ⟨_, rfl, fun r q h0 h1 h2 h3 => ⟨.op (.two "store" r q), ⟨trivial, .inr (.inr (.inr (.inr rfl))), ⟨h0, h1⟩, h2, h3⟩, rfl⟩⟩
theorem ok_law_flow (T : Tx P w K mg) : FnOk P w K mg base CX0 2 T.f_law_flow T.fd_law_flow ["pool", "far", "size"] (sp_law_flow) := by
  refine T.F_law_flow.ok sc_law_flow (fun vs H Q E h => ?_) (fun cdv A outer s H vs Q E hr h => ?_)
  · obtain ⟨b, far, size, rfl, z0, z1, iv, k⟩ := h
    rfl
  · obtain ⟨b, far, size, rfl, z0, z1, iv, k⟩ := h
    refine ⟨_, (pss_cons (ps_set (i := 3) sc_law_flow.nd rfl (by first | exact Or.inl rfl | exact Or.inr rfl) (pe_call (ok_law_draw T) hr (by rfl) T.g_law_draw T.F_law_draw.kp T.b_law_draw .nil pass0 (pa_cons (pv 0) (pa_cons pe_int pa_nil))))
      (pss_cons (ps_set (i := 4) sc_law_flow.nd rfl (by first | exact Or.inl rfl | exact Or.inr rfl) (pe_op op_add pe_int (pe_call (ok_law_draw T) hr (by rfl) T.g_law_draw T.F_law_draw.kp T.b_law_draw .nil pass0 (pa_cons (pv 0) (pa_cons pe_int pa_nil)))))
      (pss_cut (ps_if (pt_cmpR op_eq (pv 1) pe_int (nomark _))
        (pss_one (ps_set (i := 4) sc_law_flow.nd rfl (by first | exact Or.inl rfl | exact Or.inr rfl) (pe_call (ok_law_draw T) hr (by rfl) T.g_law_draw T.F_law_draw.kp T.b_law_draw .nil pass0 (pa_cons (pv 0) (pa_cons (pe_callB (c_max2 rfl) (by rfl) T.n_max (by decide +kernel) (pa_cons pe_int (pa_cons (pv 2) pa_nil))) pa_nil)))))
        pss_nil)
      (pss_cons (ps_set (i := 5) sc_law_flow.nd rfl (by first | exact Or.inl rfl | exact Or.inr rfl) (pe_call (ok_law_draw T) hr (by rfl) T.g_law_draw T.F_law_draw.kp T.b_law_draw .nil pass0 (pa_cons (pv 0) (pa_cons pe_int pa_nil))))
      (pss_cons (ps_if (pt_cmpR op_lt (pv 3) pe_int (nomark _))
        (pss_one (ps_ret (pe_lst (pa_cons pe_str (pa_cons (pv 5) (pa_cons (pv 4) pa_nil))))))
        pss_nil)
      (pss_cons (ps_if (pt_cmpR op_lt (pv 3) pe_int (nomark _))
        (pss_one (ps_ret (pe_lst (pa_cons pe_str (pa_cons (pv 5) (pa_cons (pv 4) pa_nil))))))
        pss_nil)
      (pss_cons (ps_if (pt_cmpR op_eq (pv 3) pe_int (nomark _))
        (pss_one (ps_ret (pe_lst (pa_cons pe_str (pa_cons pe_str (pa_cons pe_int pa_nil))))))
        pss_nil)
      (pss_cons (ps_if (pt_cmpR op_eq (pv 3) pe_int (nomark _))
        (pss_one (ps_ret (pe_lst (pa_cons pe_str (pa_cons (pe_ix (r := rIxL K) ix_list (pe_lst (pa_cons pe_str (pa_cons pe_str (pa_cons pe_str (pa_cons pe_str pa_nil))))) (pe_call (ok_law_draw T) hr (by rfl) T.g_law_draw T.F_law_draw.kp T.b_law_draw .nil pass0 (pa_cons (pv 0) (pa_cons pe_int pa_nil))) (fun _ _ => rfl)) (pa_cons pe_int pa_nil))))))
        pss_nil)
      (pss_one (ps_ret (pe_lst (pa_cons (pe_ix (r := rIxL K) ix_list (pe_lst (pa_cons pe_str (pa_cons pe_str (pa_cons pe_str (pa_cons pe_str (pa_cons pe_str (pa_cons pe_str pa_nil))))))) (pe_call (ok_law_draw T) hr (by rfl) T.g_law_draw T.F_law_draw.kp T.b_law_draw .nil pass0 (pa_cons (pv 0) (pa_cons pe_int pa_nil))) (fun _ _ => rfl)) (pa_cons (pv 5) (pa_cons (pe_call (ok_law_draw T) hr (by rfl) T.g_law_draw T.F_law_draw.kp T.b_law_draw .nil pass0 (pa_cons (pv 0) (pa_cons pe_int pa_nil))) pa_nil)))))))))))))), ?_⟩
    walk_at "lw go"
    rename_i way H1 e1 w0 w1 aw H2 e2 a0 a1
    refine rd_cut (fun σ' H' => ∃ away : Int, σ' = [some (.ref b), some (.int far), some (.int size), some (.int way), some (.int away), none] ∧ 0 ≤ away ∧ away < 10000 ∧ Ex (WB b) H H') ?_ ?_
    · walk_at "lw go"
      refine ifI ?_ ?_ <;> intro hf
      · walk_at "lw go"
        rename_i a2 H3 e3 b0 b1
        refine ⟨a2, rfl, b0, ?_, (e1.trans e2).trans e3⟩
        by_cases q : size > 1
        · rw [if_pos q] at b1; omega
        · rw [if_neg q] at b1; omega
      · walk_at "lw go"
        exact ⟨_, rfl, by omega, by omega, e1.trans e2⟩
    rintro σ' H3 ⟨away, rfl, a2, a3, e3⟩
    walk_at "lw go"
    rename_i num H4 e4 n0 n1
    refine ifD ?_ ?_ <;> intro c1
    · walk_at "lw go"
      rename_i p H5 f5 e5 h5
      exact k p H5 (.jump num away) ((e3.trans e4).trans e5) h5 ⟨⟨n0, n1⟩, a2, a3⟩
    walk_at "lw go"
    refine ifD ?_ ?_ <;> intro c2
    · walk_at "lw go"
      rename_i p H5 f5 e5 h5
      exact k p H5 (.zero num away) ((e3.trans e4).trans e5) h5 ⟨⟨n0, n1⟩, a2, a3⟩
    walk_at "lw go"
    refine ifI ?_ ?_ <;> intro c3
    · walk_at "lw go"
      rename_i p H5 f5 e5 h5
      exact k p H5 (.deed "halt") ((e3.trans e4).trans e5) h5 (by show V.str "halt" ∈ DL; decide)
    walk_at "lw go"
    refine ifI ?_ ?_ <;> intro c4
    · walk_at "lw go"
      rename_i P5 H5 f5 e5 h5 r6 H6 e6 r60 r61 v hv p H7 f7 e7 h7
      obtain ⟨d, rfl, hd⟩ := four_in hv
      exact k p H7 (.deed d) ((e3.trans e4).trans (e5.trans (e6.trans e7))) h7 hd
    walk_at "lw go"
    rename_i P5 H5 f5 e5 h5 r6 H6 e6 r60 r61 v hv q H7 e7 q0 q1 p H8 f8 e8 h8
    obtain ⟨m, rfl, hm⟩ := six_in hv
    obtain ⟨f, ok, er⟩ := hm num q n0 n1 q0 q1
    exact k p H8 f ((e3.trans e4).trans ((e5.trans e6).trans (e7.trans e8))) (by rw [er]; exact h8) ok

theorem fl_ne (f : Fl) (ds : List Addr) : HO.lst f.row ≠ HO.lst (ds.map V.ref) := fun z => by
  injection z with z
  have q : ∃ s r, f.row = .str s :: r := by cases f <;> exact ⟨_, _, rfl⟩
  obtain ⟨s, r, e⟩ := q
  rw [e] at z
  cases ds with
  | nil => cases z
  | cons d ds => injection z with z _; cases z
theorem row_ne (x : It) (ds : List Addr) : HO.lst x.row ≠ HO.lst (ds.map V.ref) := fun z => by
  injection z with z
  cases ds with
  | nil => cases z
  | cons d ds =>
    injection z with z _
    cases z
theorem fop_ok {it : It} (h : isOp it) (o : it.Ok 0) (n : Int) : it.Ok n := by
  cases it with
  | set r w => exact o
  | two m r q => exact o
  | deed d => exact h.elim
  | jump t => exact h.elim
  | zero r t => exact h.elim
/-- a row more -/
theorem its_more {W : Wd} {H H5 H6 : Hp} {P q : Addr} {rs : List Addr} {its : List It} {it : It} {ys : List V} (hP : At W H P (.lst ys)) (hr : F2 (fun r x => At W H r (.lst (It.row x)) ∧ r ≠ P) rs its) (f : H q = none) (e5 : Ex W H H5) (h5 : At W H5 q (.lst it.row)) (o : ∀ a u, a ≠ P → At W H5 a u → At W H6 a u) :
    F2 (fun r x => At W H6 r (.lst (It.row x)) ∧ r ≠ P) (rs ++ [q]) (its ++ [it]) := by
  have nq : q ≠ P := fun z => by have e := hP.1; rw [← z, f] at e; cases e
  exact F2.append (.cons ⟨o q _ nq h5, nq⟩ .nil) (F2.mono (fun r x a => ⟨o r _ a.2 (e5.at_ a.1), a.2⟩) hr)
theorem ok_law_program (T : Tx P w K mg) : FnOk P w K mg base CX0 3 T.f_law_program T.fd_law_program ["pool", "far", "size", "many"] (sp_law_program) := by
  refine T.F_law_program.ok sc_law_program (fun vs H Q E h => ?_) (fun cdv A outer s H vs Q E hr h => ?_)
  · obtain ⟨b, far, size, many, rfl, z0, z1, m0, m1, iv, k⟩ := h
    rfl
  · obtain ⟨b, far, size, many, rfl, z0, z1, m0, m1, iv, k⟩ := h
    refine ⟨_, (pss_cons (ps_setLc (i := 4) (own := [("k", 8)]) rfl sc_law_program.nd rfl rfl (sw_true rfl rfl rfl (by decide +kernel)) (pi_range1 rfl T.n_range (pa_cons (pv 3) pa_nil)) (blkOk_by (own := [("k", 8)]) (N := N_law_program) (sc := (defScope s_law_program)) (by decide +kernel)) (fun _ _ _ _ _ => (pg_name (i := 8) sc_law_program.nd rfl (by first | exact Or.inl rfl | exact Or.inr rfl))) (fun _ _ _ _ _ => pts_nil) (fun _ _ _ _ _ => (pe_call (ok_law_flow T) hr (by rfl) T.g_law_flow T.F_law_flow.kp T.b_law_flow .nil pass0 (pa_cons (pv 0) (pa_cons (pv 1) (pa_cons (pv 2) pa_nil))))))
      (pss_cons (ps_set (i := 5) sc_law_program.nd rfl (by first | exact Or.inl rfl | exact Or.inr rfl) (pe_lst pa_nil))
      (pss_cons (ps_for PassesOwn.never rfl (pi_range1 rfl T.n_range (pa_cons (pv 2) pa_nil)) (pg_name (i := 6) sc_law_program.nd rfl (by first | exact Or.inl rfl | exact Or.inr rfl))
        (pss_cons (ps_set (i := 7) sc_law_program.nd rfl (by first | exact Or.inl rfl | exact Or.inr rfl) (pe_ix (r := rIxL K) ix_list (pv 4) (pe_op op_mod (pe_callTy c_int (by rfl) T.n_int (by decide +kernel) (pa_cons (pv 6) pa_nil)) (pv 3)) (fun _ _ => rfl)))
        (pss_one (ps_if (pt_cmpR op_eq (pe_ix (r := rIxL K) ix_list (pv 7) pe_int (fun _ _ => rfl)) pe_str (nomark _))
          (pss_one (ps_expr (pe_bm PySem.F.plainAttrs_list PySem.F.slot_list_append PySem.F.type_list_append mt_append (pv 5) (pa_cons (pe_lst (pa_cons pe_str (pa_cons (pe_op op_mod (pe_callTy c_int (by rfl) T.n_int (by decide +kernel) (pa_cons (pe_op op_add (pv 6) (pe_ix (r := rIxL K) ix_list (pv 7) pe_int (fun _ _ => rfl))) pa_nil)) (pv 2)) pa_nil))) pa_nil))))
          (pss_one (ps_if (pt_cmpR op_eq (pe_ix (r := rIxL K) ix_list (pv 7) pe_int (fun _ _ => rfl)) pe_str (nomark _))
            (pss_one (ps_expr (pe_bm PySem.F.plainAttrs_list PySem.F.slot_list_append PySem.F.type_list_append mt_append (pv 5) (pa_cons (pe_lst (pa_cons pe_str (pa_cons (pe_ix (r := rIxL K) ix_list (pv 7) pe_int (fun _ _ => rfl)) (pa_cons (pe_op op_mod (pe_callTy c_int (by rfl) T.n_int (by decide +kernel) (pa_cons (pe_op op_add (pv 6) (pe_ix (r := rIxL K) ix_list (pv 7) pe_int (fun _ _ => rfl))) pa_nil)) (pv 2)) pa_nil)))) pa_nil))))
            (pss_one (ps_if (pt_cmpR op_eq (pe_ix (r := rIxL K) ix_list (pv 7) pe_int (fun _ _ => rfl)) pe_str (nomark _))
              (pss_one (ps_expr (pe_bm PySem.F.plainAttrs_list PySem.F.slot_list_append PySem.F.type_list_append mt_append (pv 5) (pa_cons (pe_lst (pa_cons pe_str (pa_cons (pe_ix (r := rIxL K) ix_list (pv 7) pe_int (fun _ _ => rfl)) pa_nil))) pa_nil))))
              (pss_one (ps_expr (pe_bm PySem.F.plainAttrs_list PySem.F.slot_list_append PySem.F.type_list_append mt_append (pv 5) (pa_cons (pe_callTy (r := Lw.rListO K) c_list (by rfl) T.n_list (by decide +kernel) (pa_cons (pv 7) pa_nil)) pa_nil))))))))))))
      (pss_one (ps_ret (pv 5)))))), ?_⟩
    walk_at "lw go"
    refine lc_w (W := WB b) (X := fun i x => x = .int (0 + (i : Nat))) (n := many.toNat) walk_range (fun n ys Hh => ∃ (rs : List Addr) (fs : List Fl), ys = rs.map V.ref ∧ F2 (fun r f => At (WB b) Hh r (.lst (Fl.row f))) rs fs ∧ fs.length = n ∧ ∀ f ∈ fs, f.Ok) iv (by omega) (fun _ _ => trivial)
      (fun n ys Ha Hb e ⟨rs, fs, a1, a2, a3, a4⟩ => ⟨rs, fs, a1, F2.mono (fun _ _ a => e.at_ a) a2, a3, a4⟩) ⟨[], [], rfl, .nil, rfl, fun _ h => nomatch h⟩ ?_ ?_
    · rintro n x D ys H' QV QN hn' rfl hD hDa e3 ⟨rs, fs, rfl, a2, a3, a4⟩ _ qv qn
      walk_at "lw go"
      refine iteT ?_
      walk_at "lw go"
      refine cl_law_flow z0 z1 e3.iv fun q H4 f e4 h4 ok4 => ?_
      refine qv _ _ e4 ⟨rs ++ [q], fs ++ [f], by rw [List.map_append]; rfl, ?_, by rw [List.length_append, a3]; rfl, fun x hx => ?_⟩
      · refine F2.append (show F2 (fun r f => At (WB b) (Lw.hide D H4) r (.lst (Fl.row f))) [q] [f] from .cons (h4.hide (h4.ne (e4.at_ hDa) (fl_ne _ _)) e4.iv (e4.at_ hDa)) .nil) ?_
        exact F2.mono (fun _ _ a => (hide_ex e4 hDa).at_ a) a2
      · rcases List.mem_append.mp hx with z | z
        · exact a4 x z
        · rw [List.mem_singleton.mp z]; exact ok4
    rintro I3 H3 ys hI e3 hI3 ⟨ss, fs, rfl, hs, hfl, hok⟩ _
    have hss := hs.length
    have hL : ((ss.map V.ref).length : Int) = many := by rw [List.length_map]; omega
    walk_at "lw go"
    rename_i P H4 f4 e4 h4
    refine for_r (fun i σ' H' => ∃ (v6 v7 : Option V) (rs : List Addr) (its : List It), σ' = [some (.ref b), some (.int far), some (.int size), some (.int many), some (.ref I3), some (.ref P), v6, v7, none] ∧ Ex (WB b) H3 H' ∧ At (WB b) H' P (.lst (rs.map V.ref)) ∧ F2 (fun r x => At (WB b) H' r (.lst (It.row x)) ∧ r ≠ P) rs its ∧ its.length = i ∧ ∀ it ∈ its, It.Ok size it) ⟨_, _, [], [], rfl, e4, h4, .nil, rfl, fun _ h => nomatch h⟩ ?_ ?_
    · rintro i σ' H5 hi ⟨v6, v7, rs, its, rfl, e5, h5, hr5, hl5, ok5⟩
      rw [Int.zero_add]
      have lr := hr5.length
      have lq : (rs.map V.ref).length < 1000000 := by rw [List.length_map]; omega
      have t0 : ∀ a : Int, 0 ≤ ((i : Int) + a) % size ∧ ((i : Int) + a) % size < size := fun a => ⟨Int.emod_nonneg _ (by omega), Int.emod_lt_of_pos _ (by omega)⟩
      have fin : ∀ {q : Addr} {it : It} {H6 H7 : Hp} {v : Option V}, H5 q = none → Ex (WB b) H5 H6 → At (WB b) H6 q (.lst it.row) → it.Ok size → Ex (WB b) H3 H7 → At (WB b) H7 P (.lst (rs.map V.ref ++ [.ref q])) → (∀ a u, a ≠ P → At (WB b) H6 a u → At (WB b) H7 a u) →
          ∃ (v6 v7 : Option V) (rs : List Addr) (its : List It), [some (.ref b), some (.int far), some (.int size), some (.int many), some (.ref I3), some (.ref P), some (.int i), v, none] = [some (.ref b), some (.int far), some (.int size), some (.int many), some (.ref I3), some (.ref P), v6, v7, none] ∧ Ex (WB b) H3 H7 ∧ At (WB b) H7 P (.lst (rs.map V.ref)) ∧ F2 (fun r x => At (WB b) H7 r (.lst (It.row x)) ∧ r ≠ P) rs its ∧ its.length = i + 1 ∧ ∀ it ∈ its, It.Ok size it :=
        fun {q it H6 H7 v} f e6 h6 ok e7 h7 o7 => ⟨_, _, rs ++ [q], its ++ [it], rfl, e7, by rw [List.map_append]; exact h7, its_more h5 hr5 f e6 h6 o7, by rw [List.length_append, hl5]; rfl, fun x hx => by
          rcases List.mem_append.mp hx with z | z
          · exact ok5 x z
          · rw [List.mem_singleton.mp z]; exact ok⟩
      walk_at "lw go"
      refine rd_ixM (W := WB b) (by walk_at "lw at") (Int.emod_nonneg _ (by omega)) (by rw [hL]; exact Int.emod_lt_of_pos _ (by omega)) fun v hv => ?_
      obtain ⟨q0, hq0, rfl⟩ := List.mem_map.mp hv
      obtain ⟨f, hf, hqf⟩ := hs.mem hq0
      have hf5 := e5.at_ hqf
      have okf := hok f hf
      cases f with
      | jump r a =>
        have q0 : atI (Fl.jump r a).row 0 = some (.str "jump") := rfl
        have q2 : atI (Fl.jump r a).row 2 = some (.int a) := rfl
        walk_at "lw go"
        refine ifS_yes rfl ?_
        walk_at "lw go"
        rename_i q H6 f6 e6 h6 H7 e7 h7 o7
        exact fin (it := .jump (((i : Int) + a) % size)) f6 e6 h6 (t0 a) e7 h7 o7
      | zero r a =>
        have q0 : atI (Fl.zero r a).row 0 = some (.str "zero") := rfl
        have q1 : atI (Fl.zero r a).row 1 = some (.int r) := rfl
        have q2 : atI (Fl.zero r a).row 2 = some (.int a) := rfl
        walk_at "lw go"
        refine ifS_no (show ("zero" : Str) ≠ "jump" by decide) ?_
        walk_at "lw go"
        refine ifS_yes rfl ?_
        walk_at "lw go"
        rename_i q H6 f6 e6 h6 H7 e7 h7 o7
        exact fin (it := .zero r (((i : Int) + a) % size)) f6 e6 h6 ⟨okf.1, t0 a⟩ e7 h7 o7
      | deed d =>
        have q0 : atI (Fl.deed d).row 0 = some (.str "deed") := rfl
        have q1 : atI (Fl.deed d).row 1 = some (.str d) := rfl
        walk_at "lw go"
        refine ifS_no (show ("deed" : Str) ≠ "jump" by decide) ?_
        walk_at "lw go"
        refine ifS_no (show ("deed" : Str) ≠ "zero" by decide) ?_
        walk_at "lw go"
        refine ifS_yes rfl ?_
        walk_at "lw go"
        rename_i q H6 f6 e6 h6 H7 e7 h7 o7
        exact fin (it := .deed d) f6 e6 h6 okf e7 h7 o7
      | op it =>
        have q0 : atI (Fl.op it).row 0 = some (.str it.name) := at_0
        obtain ⟨n1, n2, n3⟩ : it.name ≠ "jump" ∧ it.name ≠ "zero" ∧ it.name ≠ "deed" := by
          cases it with
          | set r w => exact ⟨show ("set" : Str) ≠ "jump" by decide, show ("set" : Str) ≠ "zero" by decide, show ("set" : Str) ≠ "deed" by decide⟩
          | two m r q => exact two_ne okf.2.1
          | deed d => exact okf.1.elim
          | jump t => exact okf.1.elim
          | zero r t => exact okf.1.elim
        walk_at "lw go"
        refine ifS_no n1 ?_
        walk_at "lw go"
        refine ifS_no n2 ?_
        walk_at "lw go"
        refine ifS_no n3 ?_
        walk_at "lw go"
        rename_i q H6 f6 e6 h6 H7 e7 h7 o7
        exact fin (it := it) f6 e6 h6 (fop_ok okf.1 okf.2 _) e7 h7 o7
    · rintro σ' H5 ⟨v6, v7, rs, its, rfl, e5, h5, hr5, hl5, ok5⟩
      walk_at "lw go"
      exact k P H5 rs its (e3.trans e5) h5 (F2.mono (fun _ _ a => a.1) hr5) hl5 ok5

theorem ok_law_ladder (T : Tx P w K mg) : FnOk P w K mg base CX0 2 T.f_law_ladder T.fd_law_ladder ["pool", "length"] (sp_law_ladder) := by
  refine T.F_law_ladder.ok sc_law_ladder (fun vs H Q E h => ?_) (fun cdv A outer s H vs Q E hr h => ?_)
  · obtain ⟨b, size, rfl, z0, z1, iv, k⟩ := h
    rfl
  · obtain ⟨b, size, rfl, z0, z1, iv, k⟩ := h
    refine ⟨_, (pss_cons (ps_set (i := 2) sc_law_ladder.nd rfl (by first | exact Or.inl rfl | exact Or.inr rfl) (pe_lst pa_nil))
      (pss_cons (ps_for PassesOwn.never rfl (pi_range1 rfl T.n_range (pa_cons (pv 1) pa_nil)) (pg_name (i := 3) sc_law_ladder.nd rfl (by first | exact Or.inl rfl | exact Or.inr rfl))
        (pss_cons (ps_set (i := 4) sc_law_ladder.nd rfl (by first | exact Or.inl rfl | exact Or.inr rfl) (pe_op op_add (pe_op op_add (pv 3) pe_int) (pe_call (ok_law_draw T) hr (by rfl) T.g_law_draw T.F_law_draw.kp T.b_law_draw .nil pass0 (pa_cons (pv 0) (pa_cons pe_int pa_nil)))))
        (pss_cut (ps_if (pt_cmpR op_ge (pv 4) (pv 1) (nomark _))
          (pss_one (ps_set (i := 4) sc_law_ladder.nd rfl (by first | exact Or.inl rfl | exact Or.inr rfl) (pe_op op_sub (pv 1) pe_int)))
          pss_nil)
        (pss_one (ps_expr (pe_bm PySem.F.plainAttrs_list PySem.F.slot_list_append PySem.F.type_list_append mt_append (pv 2) (pa_cons (pe_lst (pa_cons pe_str (pa_cons (pe_op op_mod (pe_callTy c_int (by rfl) T.n_int (by decide +kernel) (pa_cons (pv 3) pa_nil)) pe_int) (pa_cons (pv 4) pa_nil)))) pa_nil)))))))
      (pss_one (ps_ret (pv 2))))), ?_⟩
    walk_at "lw go"
    rename_i P H4 f4 e4 h4
    refine for_r (fun i σ' H' => ∃ (v3 v4 : Option V) (rs : List Addr) (its : List It), σ' = [some (.ref b), some (.int size), some (.ref P), v3, v4] ∧ Ex (WB b) H H' ∧ At (WB b) H' P (.lst (rs.map V.ref)) ∧ F2 (fun r x => At (WB b) H' r (.lst (It.row x)) ∧ r ≠ P) rs its ∧ its.length = i ∧ ∀ it ∈ its, It.Ok size it) ⟨_, _, [], [], rfl, e4, h4, .nil, rfl, fun _ h => nomatch h⟩ ?_ ?_
    · rintro i σ' H5 hi ⟨v3, v4, rs, its, rfl, e5, h5, hr5, hl5, ok5⟩
      rw [Int.zero_add]
      have lr := hr5.length
      have lq : (rs.map V.ref).length < 1000000 := by rw [List.length_map]; omega
      walk_at "lw go"
      rename_i w H6 e6 w0 w1
      refine rd_cut (fun σ' H' => ∃ tt : Int, σ' = [some (.ref b), some (.int size), some (.ref P), some (.int i), some (.int tt)] ∧ 0 ≤ tt ∧ tt < size ∧ H' = H6) ?_ ?_
      · walk_at "lw go"
        refine ifD ?_ ?_ <;> intro c
        · walk_at "lw go"
          exact ⟨_, rfl, by omega, by omega, rfl⟩
        · walk_at "lw go"
          exact ⟨_, rfl, by omega, by omega, rfl⟩
      rintro σ' H7 ⟨tt, rfl, t0, t1, rfl⟩
      have h7 := e6.at_ h5
      have e57 := e5.trans e6
      have hr7 : F2 (fun r x => At (WB b) H7 r (.lst (It.row x)) ∧ r ≠ P) rs its := F2.mono (fun _ _ a => ⟨e6.at_ a.1, a.2⟩) hr5
      walk_at "lw go"
      rename_i q H8 f8 e8 h8 H9 e9 h9 o9
      refine ⟨_, _, rs ++ [q], its ++ [.zero ((i : Int) % 8) tt], rfl, e9, by rw [List.map_append]; exact h9, its_more (it := .zero ((i : Int) % 8) tt) h7 hr7 f8 e8 h8 o9, by rw [List.length_append, hl5]; rfl, fun x hx => ?_⟩
      rcases List.mem_append.mp hx with z | z
      · exact ok5 x z
      · rw [List.mem_singleton.mp z]
        exact ⟨⟨by omega, by omega⟩, t0, t1⟩
    · rintro σ' H5 ⟨v3, v4, rs, its, rfl, e5, h5, hr5, hl5, ok5⟩
      walk_at "lw go"
      exact k P H5 rs its e5 h5 (F2.mono (fun _ _ a => a.1) hr5) hl5 ok5

theorem ok_law_behind (T : Tx P w K mg) : FnOk P w K mg base CX0 1 T.f_law_behind T.fd_law_behind ["items", "place"] (sp_law_behind) := by
  refine T.F_law_behind.ok sc_law_behind (fun vs H Q E h => ?_) (fun cdv A outer s H vs Q E hr h => ?_)
  · obtain ⟨W, t, ts, its, i, it, rfl, iv, ht, hts, hi, o, k⟩ := h
    rfl
  · obtain ⟨W, t, ts, its, i, it, rfl, iv, ht, hts, hi, o, k⟩ := h
    refine ⟨_, (pss_cons (ps_set (i := 2) sc_law_behind.nd rfl (by first | exact Or.inl rfl | exact Or.inr rfl) (pe_ix (r := rIxL K) ix_list (pv 0) (pv 1) (fun _ _ => rfl)))
      (pss_cons (ps_if (pt_cmpR op_eq (pe_ix (r := rIxL K) ix_list (pv 2) pe_int (fun _ _ => rfl)) pe_str (nomark _))
        (pss_one (ps_ret (pe_lst (pa_cons (pe_ix (r := rIxL K) ix_list (pv 2) pe_int (fun _ _ => rfl)) pa_nil))))
        pss_nil)
      (pss_cons (ps_if (pt_cmpR op_eq (pe_ix (r := rIxL K) ix_list (pv 2) pe_int (fun _ _ => rfl)) pe_str (nomark _))
        (pss_one (ps_ret (pe_lst (pa_cons (pe_ix (r := rIxL K) ix_list (pv 2) pe_int (fun _ _ => rfl)) (pa_cons (pe_op op_add (pv 1) pe_int) pa_nil)))))
        pss_nil)
      (pss_cons (ps_if (PW.pt (pw_and (pt_cmpR op_eq (pe_ix (r := rIxL K) ix_list (pv 2) pe_int (fun _ _ => rfl)) pe_str (nomark _)) (pw_and1 (pt_cmpR op_eq (pe_ix (r := rIxL K) ix_list (pv 2) pe_int (fun _ _ => rfl)) pe_str (nomark _)))))
        (pss_one (ps_ret (pe_lst pa_nil)))
        pss_nil)
      (pss_one (ps_ret (pe_lst (pa_cons (pe_op op_add (pv 1) pe_int) pa_nil)))))))), ?_⟩
    obtain ⟨r, er, har⟩ := F2.getR hts hi
    have ei : atI (ts.map V.ref) (i : Int) = some (.ref r) := re_at er
    cases it with
    | jump tt =>
      have q0 : atI (It.jump tt).row 0 = some (.str "jump") := rfl
      have q1 : atI (It.jump tt).row 1 = some (.int tt) := rfl
      walk_at "lw go"
      refine ifS_yes rfl ?_
      walk_at "lw go"
      rename_i q H1 f1 e1 h1
      refine k _ _ f1 e1 ?_
      unfold WN behF
      rw [List.map_cons, nat_of o.1]
      exact h1
    | zero rr tt =>
      have q0 : atI (It.zero rr tt).row 0 = some (.str "zero") := rfl
      have q1 : atI (It.zero rr tt).row 2 = some (.int tt) := rfl
      walk_at "lw go"
      refine ifS_no (show ("zero" : Str) ≠ "jump" by decide) ?_
      walk_at "lw go"
      refine ifS_yes rfl ?_
      walk_at "lw go"
      rename_i q H1 f1 e1 h1
      refine k _ _ f1 e1 ?_
      unfold WN behF
      rw [List.map_cons, nat_of o.2.1]
      exact h1
    | deed d =>
      have q0 : atI (It.deed d).row 0 = some (.str "deed") := rfl
      have q1 : atI (It.deed d).row 1 = some (.str d) := rfl
      walk_at "lw go"
      refine ifS_no (show ("deed" : Str) ≠ "jump" by decide) ?_
      walk_at "lw go"
      refine ifS_no (show ("deed" : Str) ≠ "zero" by decide) ?_
      walk_at "lw go"
      refine ifS_yes rfl ?_
      walk_at "lw go"
      refine ifS ?_ ?_ <;> intro z
      · walk_at "lw go"
        rename_i q2 H2 f2 e2 h2
        refine k _ _ f2 e2 ?_
        rw [show behF (.deed d) i = [] from if_pos z]
        exact h2
      · walk_at "lw go"
        rename_i q2 H2 f2 e2 h2
        refine k _ _ f2 e2 ?_
        rw [show behF (.deed d) i = [i + 1] from if_neg z]
        exact h2
    | set rr tt =>
      have q0 : atI (It.set rr tt).row 0 = some (.str "set") := rfl
      walk_at "lw go"
      refine ifS_no (show ("set" : Str) ≠ "jump" by decide) ?_
      walk_at "lw go"
      refine ifS_no (show ("set" : Str) ≠ "zero" by decide) ?_
      walk_at "lw go"
      refine ifS_no (show ("set" : Str) ≠ "deed" by decide) ?_
      walk_at "lw go"
      refine iteF ?_
      walk_at "lw go"
      rename_i q2 H2 f2 e2 h2
      exact k _ _ f2 e2 h2
    | two m rr tt =>
      have q0 : atI (It.two m rr tt).row 0 = some (.str m) := rfl
      obtain ⟨n1, n2, n3⟩ := two_ne o.1
      walk_at "lw go"
      refine ifS_no n1 ?_
      walk_at "lw go"
      refine ifS_no n2 ?_
      walk_at "lw go"
      refine ifS_no n3 ?_
      walk_at "lw go"
      refine iteF ?_
      walk_at "lw go"
      rename_i q2 H2 f2 e2 h2
      exact k _ _ f2 e2 h2

theorem visit_pre {p i : Nat} {s : St2} : ∃ t, (visit p s i).2 = s.2 ++ t := by
  unfold visit
  split
  · exact ⟨[i], rfl⟩
  · exact ⟨[], (List.append_nil _).symm⟩
theorem fold_pre {p : Nat} : ∀ (l : List Nat) (s : St2), ∃ t, (l.foldl (visit p) s).2 = s.2 ++ t
  | [], s => ⟨[], (List.append_nil _).symm⟩
  | i :: l, s => by
    obtain ⟨t1, e1⟩ := visit_pre (p := p) (i := i) (s := s)
    obtain ⟨t2, e2⟩ := fold_pre (p := p) l (visit p s i)
    exact ⟨t1 ++ t2, by rw [List.foldl_cons, e2, e1, List.append_assoc]⟩
theorem rep_flat (v : V) : ∀ m : Nat, (List.replicate m [v]).flatten = List.replicate m v
  | 0 => rfl
  | m + 1 => by rw [List.replicate_succ, List.flatten_cons, rep_flat v m, List.replicate_succ]; rfl
theorem ok_law_distances (T : Tx P w K mg) : FnOk P w K mg base CX0 2 T.f_law_distances T.fd_law_distances ["items"] (sp_law_distances) := by
  refine T.F_law_distances.ok sc_law_distances (fun vs H Q E h => ?_) (fun cdv A outer s H vs Q E hr h => ?_)
  · obtain ⟨W, t, ts, its, rfl, iv, ht, hts, ho, hl, k⟩ := h
    rfl
  · obtain ⟨W, t, ts, its, rfl, iv, ht, hts, ho, hl, k⟩ := h
    refine ⟨_, (pss_cons (ps_set (i := 1) sc_law_distances.nd rfl (by first | exact Or.inl rfl | exact Or.inr rfl) (pe_callB (r := Lw.rLen K) c_len (by rfl) T.n_len PySem.boot_len (pa_cons (pv 0) pa_nil)))
      (pss_cons (ps_setLc (i := 2) (own := [("k", 7)]) rfl sc_law_distances.nd rfl rfl (sw_true rfl rfl rfl (by decide +kernel)) (pi_range1 rfl T.n_range (pa_cons (pe_op op_add (pv 1) pe_int) pa_nil)) (blkOk_by (own := [("k", 7)]) (N := N_law_distances) (sc := (defScope s_law_distances)) (by decide +kernel)) (fun _ _ _ _ _ => (pg_name (i := 7) sc_law_distances.nd rfl (by first | exact Or.inl rfl | exact Or.inr rfl))) (fun _ _ _ _ _ => pts_nil) (fun _ _ _ _ _ => (pe_lst pa_nil)))
      (pss_cons (ps_for PassesOwn.never rfl (pi_range1 rfl T.n_range (pa_cons (pv 1) pa_nil)) (pg_name (i := 3) sc_law_distances.nd rfl (by first | exact Or.inl rfl | exact Or.inr rfl))
        (pss_one (ps_for PassesOwn.never rfl (pi_list (pe_call (ok_law_behind T) hr (by rfl) T.g_law_behind T.F_law_behind.kp T.b_law_behind .nil pass0 (pa_cons (pv 0) (pa_cons (pv 3) pa_nil)))) (pg_name (i := 4) sc_law_distances.nd rfl (by first | exact Or.inl rfl | exact Or.inr rfl))
          (pss_one (ps_expr (pe_bm PySem.F.plainAttrs_list PySem.F.slot_list_append PySem.F.type_list_append mt_append (pe_ix (r := rIxL K) ix_list (pv 2) (pv 4) (fun _ _ => rfl)) (pa_cons (pv 3) pa_nil)))))))
      (pss_cons (ps_set (i := 5) sc_law_distances.nd rfl (by first | exact Or.inl rfl | exact Or.inr rfl) (pe_op op_cat (pe_op op_rep (pe_lst (pa_cons (pe_un un_neg pe_int) pa_nil)) (pv 1)) (pe_lst (pa_cons pe_int pa_nil))))
      (pss_cons (ps_set (i := 6) sc_law_distances.nd rfl (by first | exact Or.inl rfl | exact Or.inr rfl) (pe_lst (pa_cons (pv 1) pa_nil)))
      (pss_cons (ps_for PassesOwn.never rfl (pi_range1 rfl T.n_range (pa_cons (pe_op op_add (pv 1) pe_int) pa_nil)) (pg_name (i := 7) sc_law_distances.nd rfl (by first | exact Or.inl rfl | exact Or.inr rfl))
        (pss_one (ps_if (pt_cmpR op_lt (pv 7) (pe_callB (r := Lw.rLen K) c_len (by rfl) T.n_len PySem.boot_len (pa_cons (pv 6) pa_nil)) (nomark _))
          (pss_one (ps_for PassesOwn.never rfl (pi_list (pe_ix (r := rIxL K) ix_list (pv 2) (pe_ix (r := rIxL K) ix_list (pv 6) (pv 7) (fun _ _ => rfl)) (fun _ _ => rfl))) (pg_name (i := 4) sc_law_distances.nd rfl (by first | exact Or.inl rfl | exact Or.inr rfl))
            (pss_one (ps_if (pt_cmpR op_lt (pe_ix (r := rIxL K) ix_list (pv 5) (pv 4) (fun _ _ => rfl)) pe_int (nomark _))
              (pss_cons (ps_asg (pe_op op_add (pe_ix (r := rIxL K) ix_list (pv 5) (pe_ix (r := rIxL K) ix_list (pv 6) (pv 7) (fun _ _ => rfl)) (fun _ _ => rfl)) pe_int) (pg_sub (pv 5) (pv 4) set_list))
              (pss_one (ps_expr (pe_bm PySem.F.plainAttrs_list PySem.F.slot_list_append PySem.F.type_list_append mt_append (pv 6) (pa_cons (pv 4) pa_nil)))))
              pss_nil))))
          pss_nil)))
      (pss_one (ps_ret (pv 5))))))))), ?_⟩
    have lts : (ts.map V.ref).length = its.length := by rw [List.length_map, F2.length hts]
    walk_at "lw go"
    rw [lts]
    refine lc_w (W := W) (X := fun i x => x = .int (0 + (i : Nat))) (n := ((its.length : Int) + 1).toNat) walk_range (fun n ys Hh => ∃ ls : List Addr, ys = ls.map V.ref ∧ F2 (fun a x => At W Hh a (.lst (WN x)) ∧ H a = none) ls (List.replicate n []) ∧ ls.Nodup) iv (by omega) (fun _ _ => trivial)
      (fun n ys Ha Hb e ⟨ls, a1, a2, a3⟩ => ⟨ls, a1, F2.mono (fun _ _ q => ⟨e.at_ q.1, q.2⟩) a2, a3⟩) ⟨[], rfl, .nil, List.nodup_nil⟩ ?_ ?_
    · rintro n x D ys H' QV QN hn' rfl hD hDa e3 ⟨ls, rfl, a2, a3⟩ _ qv qn
      walk_at "lw go"
      refine iteT ?_
      walk_at "lw go"
      rename_i p H4 f4 e4 h4
      obtain ⟨b1, b2⟩ := nest_new e3 hDa f4 e4 h4 a2 a3
      exact qv _ _ e4 ⟨ls ++ [p], by rw [List.map_append]; rfl, b1, b2⟩
    rintro L H2 ys hL e2 h2 ⟨ls, rfl, a2, a3⟩ _
    have N0 : Nest W H H2 L ls (leadK its 0) := ⟨h2, by rw [show ((its.length : Int) + 1).toNat = its.length + 1 by omega] at a2; exact a2, a3⟩
    walk_at "lw go"
    refine for_r (fun i σ' H' => ∃ v3 v4, σ' = [some (.ref t), some (.int its.length), some (.ref L), v3, v4, none, none, none] ∧ Ex W H H' ∧ Nest W H H' L ls (leadK its i)) ⟨_, _, rfl, e2, N0⟩ ?_ ?_
    · rintro i σ' H' hi ⟨v3, v4, rfl, e3, N3⟩
      have hil : i < its.length := by omega
      have hit : its[i]? = some its[i] := List.getElem?_eq_getElem hil
      have ht3 := e3.at_ ht
      rw [Int.zero_add]
      walk_at "lw go"
      refine cl_law_behind (W := W) e3.iv ht3 (hts.mono e3) hit (ho _ (List.getElem_mem hil)) fun q H4 f4 e4 h4 => ?_
      refine ⟨q, rfl, ⟨_, h4.sl⟩, ?_⟩
      have bl : ∀ f, f ∈ behF its[i] i → f ≤ its.length := fun f h => beh_le (ho _ (List.getElem_mem hil)) hil h
      have qL : ∀ (f : Nat) a, ls[f]? = some a → q ≠ a := fun f a ha => by
        obtain ⟨y, _, hat, _⟩ := F2.at_ N3.r ha
        exact (hat.ne_fresh f4).symm
      refine for_l (W := W) (xs := WN (behF its[i] i)) (fun j σ' H' => ∃ v4, σ' = [some (.ref t), some (.int its.length), some (.ref L), some (.int i), v4, none, none, none] ∧ At W H' q (.lst (WN (behF its[i] i))) ∧ Ex W H H' ∧ Nest W H H' L ls (((behF its[i] i).take j).foldl (fun L f => addL L f i) (leadK its i))) ⟨_, rfl, h4, e3.trans e4, N3.mono e4⟩ (fun _ _ _ _ ⟨_, _, e, _, _⟩ => e) ?_ ?_
      · rintro j x σ' H5 hx ⟨v4', rfl, e5, e5', N5⟩
        obtain ⟨f, hf, rfl⟩ := wn_get hx
        have fl := bl f (List.mem_of_getElem? hf)
        have ll : (((behF its[i] i).take j).foldl (fun L f => addL L f i) (leadK its i)).length = its.length + 1 := by rw [lead_len its]; exact (leadK_ok its i).1
        obtain ⟨xf, hxf⟩ : ∃ xf, (((behF its[i] i).take j).foldl (fun L f => addL L f i) (leadK its i))[f]? = some xf := by
          cases hz : (((behF its[i] i).take j).foldl (fun L f => addL L f i) (leadK its i))[f]? with
          | some xf => exact ⟨xf, rfl⟩
          | none => have := List.getElem?_eq_none_iff.mp hz; omega
        obtain ⟨a, ha, har, fa⟩ := F2.getR N5.r hxf
        have hL5 := N5.l
        have ea := re_at ha
        have lenx := len_fold ((behF its[i] i).take j) (i := i) (len_leadK its i) f xf hxf
        have bl2 := beh_len (it := its[i]) (place := i)
        rw [List.length_take] at lenx
        walk_at "lw go"
        refine rd_append (W := W) (H0 := H) e5' fa har (by rw [wn_len]; omega) fun H7 e7 h7 o7 => ?_
        refine ⟨_, rfl, o7 q _ (qL f a ha) e5, e7, ?_⟩
        rw [List.take_add_one, hf, List.foldl_append]
        exact N5.put ha hxf h7 o7
      · rintro σ' H5 ⟨v4', rfl, e5, e5', N5⟩
        rw [wn_len, List.take_length] at N5
        exact ⟨_, _, rfl, e5', by rw [leadK, hit]; exact N5⟩
    · rintro σ' H3 ⟨v3, v4, rfl, e3, N3⟩
      rw [show ((its.length : Nat) : Int).toNat = its.length by omega] at N3
      walk_at "lw go"
      rename_i p1 H4 f4 e4 h4 l1 H5 f5 e5 h5 p2 H6 f6 e6 h6 D H7 f7 e7 h7 Qa H8 f8 e8 h8
      have e37 : Ex W H3 H7 := (e4.trans e5).trans (e6.trans e7)
      have fD : H3 D = none := ((e4.trans e5).trans e6).fresh f7
      have fQ : H3 Qa = none := e37.fresh f8
      have nDQ : D ≠ Qa := h7.ne_fresh f8
      have init : (List.replicate (its.length : Int).toNat [V.int (-1)]).flatten ++ [V.int 0] = ((bfsF (leadK its its.length) its.length 0).1).map V.int := by
        show _ = (List.replicate its.length (-1) ++ [0] : List Int).map V.int
        rw [rep_flat, List.map_append, List.map_replicate, show (its.length : Int).toNat = its.length by omega]
        rfl
      rw [init] at h7
      have lok := leadK_ok its its.length
      have llen := lok.1
      refine for_r (fun kk σ' H' => ∃ (v4 v7 : Option V), σ' = [some (.ref t), some (.int its.length), some (.ref L), v3, v4, some (.ref D), some (.ref Qa), v7] ∧ Ex W H3 H' ∧ At W H' D (.lst ((bfsF (leadK its its.length) its.length kk).1.map V.int)) ∧ At W H' Qa (.lst (WN (bfsF (leadK its its.length) its.length kk).2))) ⟨_, _, rfl, e37.trans e8, e8.at_ h7, h8⟩ ?_ ?_
      · rintro kk σ' H9 hkk ⟨v4, v7, rfl, e9, hD9, hQ9⟩
        rw [Int.zero_add]
        have ok := bfs_ok (leadK_ok its its.length) kk
        have qlen := ok.qlen
        walk_at "lw go"
        refine ifD ?_ ?_ <;> intro hlt
        · rw [wn_len] at hlt
          obtain ⟨pp, hpp⟩ : ∃ pp, (bfsF (leadK its its.length) its.length kk).2[kk]? = some pp := by
            cases hz : (bfsF (leadK its its.length) its.length kk).2[kk]? with
            | some pp => exact ⟨pp, rfl⟩
            | none => have := List.getElem?_eq_none_iff.mp hz; omega
          obtain ⟨pl, dp, hdp, h0⟩ := ok.q pp (List.mem_of_getElem? hpp)
          have eqi := wn_at hpp
          obtain ⟨xl, hxl⟩ : ∃ xl, (leadK its its.length)[pp]? = some xl := by
            cases hz : (leadK its its.length)[pp]? with
            | some pp => exact ⟨pp, rfl⟩
            | none => have := List.getElem?_eq_none_iff.mp hz; omega
          obtain ⟨a, ha, har3, _⟩ := F2.getR N3.r hxl
          have ea := re_at ha
          have hL9 := e9.at_ N3.l
          walk_at "lw go"
          have har8 : ∀ {H'}, Ex W H3 H' → At W H' a (.lst (WN xl)) := fun e => e.at_ har3
          have src : ∀ j, ∀ i ∈ xl.take j, ∃ it, its[i]? = some it ∧ pp ∈ behF it i := fun j i hi => lok.2 pp xl hxl i (List.mem_of_mem_take hi)
          refine for_l (fun j σ' H' => ∃ v4, σ' = [some (.ref t), some (.int its.length), some (.ref L), v3, v4, some (.ref D), some (.ref Qa), some (.int kk)] ∧ Ex W H3 H' ∧ At W H' D (.lst (((xl.take j).foldl (visit pp) (bfsF (leadK its its.length) its.length kk)).1.map V.int)) ∧ At W H' Qa (.lst (WN ((xl.take j).foldl (visit pp) (bfsF (leadK its its.length) its.length kk)).2)))
            ⟨_, rfl, e9, hD9, hQ9⟩ (fun j σ' H' _ ⟨_, _, e, _, _⟩ => har8 e) ?_ ?_
          · rintro j x σ' H10 hx ⟨v4', rfl, e10, hD10, hQ10⟩
            obtain ⟨i, hi, rfl⟩ := wn_get hx
            obtain ⟨okj, hdj⟩ := bfs_fold h0 (ok.up pp dp hdp) (xl.take j) _ (src j) ok.up1 hdp
            obtain ⟨tt, htt⟩ := fold_pre (p := pp) (xl.take j) (bfsF (leadK its its.length) its.length kk)
            have tk : (xl.take (j + 1)).foldl (visit pp) (bfsF (leadK its its.length) its.length kk) = visit pp ((xl.take j).foldl (visit pp) (bfsF (leadK its its.length) its.length kk)) i := by rw [List.take_add_one, hi, List.foldl_append]; rfl
            rw [tk]
            have hqj : ((xl.take j).foldl (visit pp) (bfsF (leadK its its.length) its.length kk)).2[kk]? = some pp := by
              rw [htt, List.getElem?_append_left (by have := (List.getElem?_eq_some_iff.mp hpp).1; omega)]
              exact hpp
            generalize (xl.take j).foldl (visit pp) (bfsF (leadK its its.length) its.length kk) = sj at okj hdj hD10 hQ10 hqj
            have ql := okj.qlen
            have dl := okj.len
            obtain ⟨it, hit, _⟩ := lok.2 pp xl hxl i (List.mem_of_getElem? hi)
            have il : i < its.length := (List.getElem?_eq_some_iff.mp hit).1
            obtain ⟨di, hdi⟩ : ∃ di, sj.1[i]? = some di := by
              cases hz : sj.1[i]? with
              | some di => exact ⟨di, rfl⟩
              | none => have := List.getElem?_eq_none_iff.mp hz; omega
            have eD := in_at hdi
            have eP := in_at hdj
            have eQ := wn_at hqj
            have vis : visit pp sj i = if di < 0 then (sj.1.set i (dp + 1), sj.2 ++ [i]) else sj := by unfold visit; rw [hdi, hdj]; rfl
            rw [vis]
            walk_at "lw go"
            refine ifD ?_ ?_ <;> intro hneg
            · rw [if_pos hneg]
              walk_at "lw go"
              refine rd_set (W := W) (H0 := H3) e10 fD hD10 (m := i) (ix_in (by omega) (by rw [List.length_map]; omega)) fun H11 e11 h11 o11 => ?_
              have hQ11 := o11 Qa _ nDQ.symm hQ10
              have lq : (WN sj.2).length < 1000000 := by rw [wn_len]; omega
              walk_at "lw go"
              rename_i H12 e12 h12 o12
              refine ⟨_, rfl, e12, o12 D _ nDQ ?_, by unfold WN; rw [List.map_append]; exact h12⟩
              rw [List.map_set]
              exact h11
            · rw [if_neg hneg]
              walk_at "lw go"
              exact ⟨_, rfl, e10, hD10, hQ10⟩
          · rintro σ' H10 ⟨v4', rfl, e10, hD10, hQ10⟩
            rw [wn_len, List.take_length] at hD10 hQ10
            have e : bfsF (leadK its its.length) its.length (kk + 1) = xl.foldl (visit pp) (bfsF (leadK its its.length) its.length kk) := by
              rw [bfsF, roundF, hpp]
              simp only [hxl, Option.getD_some]
            rw [e]
            exact ⟨_, _, rfl, e10, hD10, hQ10⟩
        · rw [wn_len] at hlt
          walk_at "lw go"
          have e : bfsF (leadK its its.length) its.length (kk + 1) = bfsF (leadK its its.length) its.length kk := by
            rw [bfsF, roundF, List.getElem?_eq_none (by omega)]
          rw [e]
          exact ⟨_, _, rfl, e9, hD9, hQ9⟩
      · rintro σ' H9 ⟨v4, v7, rfl, e9, hD9, hQ9⟩
        rw [show ((its.length : Int) + 1).toNat = its.length + 1 by omega] at hD9
        walk_at "lw go"
        exact k D H9 (e3.trans e9) hD9

theorem best_stepL {d : List Int} {left df bb : Int} {f : Nat} (h : d[f]? = some df) : bestL d left bb f = if df = left ∧ (f : Int) < bb then (f : Int) else bb := by
  unfold bestL
  rw [h]
  by_cases c : df = left
  · subst c; simp
  · rw [if_neg (fun z => c (Option.some.inj z.1)), if_neg (fun z => c z.1)]
theorem ok_law_due (T : Tx P w K mg) : FnOk P w K mg base CX0 3 T.f_law_due T.fd_law_due ["items"] (sp_law_due) := by
  refine T.F_law_due.ok sc_law_due (fun vs H Q E h => ?_) (fun cdv A outer s H vs Q E hr h => ?_)
  · obtain ⟨W, t, ts, its, rfl, iv, ht, hts, ho, hl, k0, k1⟩ := h
    rfl
  · obtain ⟨W, t, ts, its, rfl, iv, ht, hts, ho, hl, k0, k1⟩ := h
    refine ⟨_, (pss_cons (ps_set (i := 1) sc_law_due.nd rfl (by first | exact Or.inl rfl | exact Or.inr rfl) (pe_call (ok_law_distances T) hr (by rfl) T.g_law_distances T.F_law_distances.kp T.b_law_distances .nil pass0 (pa_cons (pv 0) pa_nil)))
      (pss_cons (ps_if (pt_cmpR op_lt (pe_ix (r := rIxL K) ix_list (pv 1) pe_int (fun _ _ => rfl)) pe_int (nomark _))
        (pss_one (ps_ret pe_non))
        pss_nil)
      (pss_cons (ps_set (i := 2) sc_law_due.nd rfl (by first | exact Or.inl rfl | exact Or.inr rfl) (pe_lst (pa_cons pe_int pa_nil)))
      (pss_cons (ps_for PassesOwn.never rfl (pi_range1 rfl T.n_range (pa_cons (pe_ix (r := rIxL K) ix_list (pv 1) pe_int (fun _ _ => rfl)) pa_nil)) (pg_name (i := 3) sc_law_due.nd rfl (by first | exact Or.inl rfl | exact Or.inr rfl))
        (pss_cons (ps_set (i := 4) sc_law_due.nd rfl (by first | exact Or.inl rfl | exact Or.inr rfl) (pe_ix (r := rIxL K) ix_list (pv 2) (pv 3) (fun _ _ => rfl)))
        (pss_cons (ps_set (i := 5) sc_law_due.nd rfl (by first | exact Or.inl rfl | exact Or.inr rfl) (pe_callB (r := Lw.rLen K) c_len (by rfl) T.n_len PySem.boot_len (pa_cons (pv 0) pa_nil)))
        (pss_cons (ps_for PassesOwn.never rfl (pi_list (pe_call (ok_law_behind T) (hr.mono (by decide)) (by rfl) T.g_law_behind T.F_law_behind.kp T.b_law_behind .nil pass0 (pa_cons (pv 0) (pa_cons (pv 4) pa_nil)))) (pg_name (i := 6) sc_law_due.nd rfl (by first | exact Or.inl rfl | exact Or.inr rfl))
          (pss_one (ps_if (PW.pt (pw_and (pt_cmpR op_eq (pe_ix (r := rIxL K) ix_list (pv 1) (pv 6) (fun _ _ => rfl)) (pe_op op_sub (pe_ix (r := rIxL K) ix_list (pv 1) (pv 4) (fun _ _ => rfl)) pe_int) (nomark _)) (pw_and1 (pt_cmpR op_lt (pv 6) (pv 5) (nomark _)))))
            (pss_one (ps_set (i := 5) sc_law_due.nd rfl (by first | exact Or.inl rfl | exact Or.inr rfl) (pv 6)))
            pss_nil)))
        (pss_one (ps_expr (pe_bm PySem.F.plainAttrs_list PySem.F.slot_list_append PySem.F.type_list_append mt_append (pv 2) (pa_cons (pv 5) pa_nil))))))))
      (pss_one (ps_ret (pv 2))))))), ?_⟩
    have lts : (ts.map V.ref).length = its.length := by rw [List.length_map, F2.length hts]
    walk_at "lw go"
    refine cl_law_distances (W := W) iv ht hts ho hl fun D H2 e2 h2 => ?_
    obtain ⟨d0, hd0⟩ : ∃ d0, (distF its)[0]? = some d0 := by
      cases hz : (distF its)[0]? with
      | some d => exact ⟨d, rfl⟩
      | none => have := List.getElem?_eq_none_iff.mp hz; rw [dist_len] at this; omega
    have e0 : atI ((distF its).map V.int) 0 = some (.int d0) := in_at (i := 0) hd0
    have dup := dist_up hd0
    walk_at "lw go"
    refine ifD ?_ ?_ <;> intro hneg
    · walk_at "lw go"
      refine k0 ?_ _ e2
      unfold wayR
      rw [hd0]
      simp only [Option.getD_some]
      rw [if_pos hneg]
    walk_at "lw go"
    rename_i Wy H3 f3 e3 h3
    refine for_r (fun i σ' H' => ∃ (v3 v4 v5 v6 : Option V), σ' = [some (.ref t), some (.ref D), some (.ref Wy), v3, v4, v5, v6] ∧ Ex W H2 H' ∧ At W H' Wy (.lst (WN (wayF its i)))) ⟨_, _, _, _, rfl, e3, h3⟩ ?_ ?_
    · rintro i σ' H4 hi ⟨v3, v4, v5, v6, rfl, e4, h4⟩
      rw [Int.zero_add]
      obtain ⟨p, hp, _, _, _⟩ := way_at ho hd0 i (by omega)
      obtain ⟨it, hit, hdp, b, hb, hbn, _, hbest⟩ := way_step ho hd0 (k := i) (by omega) hp
      have hpl : p < its.length := (List.getElem?_eq_some_iff.mp hit).1
      have ep := wn_at hp
      have ht4 := e4.at_ (e2.at_ ht)
      walk_at "lw go"
      rw [lts]
      refine cl_law_behind (W := W) e4.iv ht4 (hts.mono (e2.trans e4)) hit (ho _ (List.mem_of_getElem? hit)) fun q H5 f5 e5 h5 => ?_
      refine ⟨q, rfl, ⟨_, h5.sl⟩, ?_⟩
      have hD5 : ∀ {H'}, Ex W H5 H' → At W H' D (.lst ((distF its).map V.int)) := fun e => e.at_ (e5.at_ (e4.at_ h2))
      refine for_l (W := W) (xs := WN (behF it p)) (fun j σ' H' => ∃ v6, σ' = [some (.ref t), some (.ref D), some (.ref Wy), some (.int i), some (.int p), some (.int (((behF it p).take j).foldl (bestL (distF its) (d0 - ((i : Int) + 1))) its.length)), v6] ∧ Ex W H5 H') ⟨_, rfl, Ex.refl e5.iv⟩ (fun _ _ _ _ ⟨_, _, e⟩ => e.at_ h5) ?_ ?_
      · rintro j x σ' H6 hx ⟨v6', rfl, e6⟩
        obtain ⟨f, hf, rfl⟩ := wn_get hx
        have fl := beh_le (ho _ (List.mem_of_getElem? hit)) hpl (List.mem_of_getElem? hf)
        have dl := dist_len its
        obtain ⟨df, hdf⟩ : ∃ df, (distF its)[f]? = some df := by
          cases hz : (distF its)[f]? with
          | some d => exact ⟨d, rfl⟩
          | none => have := List.getElem?_eq_none_iff.mp hz; omega
        have eD := in_at hdf
        have eP := in_at hdp
        have hD6 := hD5 e6
        have tk : ((behF it p).take (j + 1)).foldl (bestL (distF its) (d0 - ((i : Int) + 1))) its.length = bestL (distF its) (d0 - ((i : Int) + 1)) (((behF it p).take j).foldl (bestL (distF its) (d0 - ((i : Int) + 1))) its.length) f := by rw [List.take_add_one, hf, List.foldl_append]; rfl
        rw [tk, best_stepL hdf]
        generalize ((behF it p).take j).foldl (bestL (distF its) (d0 - ((i : Int) + 1))) its.length = bb
        walk_at "lw go"
        refine ifI ?_ ?_ <;> intro c1
        · walk_at "lw go"
          refine ifD ?_ ?_ <;> intro c2
          · walk_at "lw go"
            rw [if_pos ⟨by omega, c2⟩]
            exact ⟨_, rfl, e6⟩
          · walk_at "lw go"
            rw [if_neg fun z => c2 z.2]
            exact ⟨_, rfl, e6⟩
        · walk_at "lw go"
          refine iteF ?_
          walk_at "lw go"
          rw [if_neg fun z => c1 (by omega)]
          exact ⟨_, rfl, e6⟩
      · rintro σ' H6 ⟨v6', rfl, e6⟩
        rw [wn_len, List.take_length, hbest]
        have h6 := e6.at_ (e5.at_ h4)
        have wl := way_len its i
        have lq : (WN (wayF its i)).length < 1000000 := by rw [wn_len]; omega
        have e46 : Ex W H2 H6 := (e4.trans e5).trans e6
        walk_at "lw go"
        rename_i H7 e7 h7 o7
        refine ⟨_, _, _, _, rfl, e7, ?_⟩
        rw [hb]; unfold WN; rw [List.map_append]; exact h7
    · rintro σ' H4 ⟨v3, v4, v5, v6, rfl, e4, h4⟩
      walk_at "lw go"
      refine k1 (wayF its d0.toNat) ?_ Wy H4 (e2.trans e4) h4
      unfold wayR
      rw [hd0]
      simp only [Option.getD_some]
      rw [if_neg hneg]

theorem lcg_w {K : PySem.W.Frag} {a : Addr} {g : TG} {tt : TT} {te : TE} {ws : List Nat} {σ : L2.St} {H1 : Hp} {Q : VK} (h : LcW (Itl K a) g tt te ws σ H1 Q) : LcG K a g tt te ws σ H1 Q := h
theorem ref_get {ts : List Addr} {i : Nat} {x : V} (h : (ts.map V.ref)[i]? = some x) : ∃ t, ts[i]? = some t ∧ x = .ref t := by
  rw [List.getElem?_map] at h
  cases hz : ts[i]? with
  | none => rw [hz] at h; cases h
  | some t => rw [hz] at h; exact ⟨t, rfl, (Option.some.inj h).symm⟩
theorem sqa_hide {W : Wd} {H H4 : Hp} {D q : Addr} {row ys : List V} (hD : At W H D (.lst ys)) (f : H q = none) (e4 : Ex W H H4) (h : SqA W H4 q row) : SqA W (Lw.hide D H4) q row :=
  h.imp (fun a => a.hide (fun z => by have r := hD.1; rw [← z, f] at r; cases r) e4.iv (e4.at_ hD)) (fun a => a.hide (fun z => by have r := hD.1; rw [← z, f] at r; cases r) e4.iv (e4.at_ hD))
theorem rows_lc {W : Wd} {K : PySem.W.Frag} {H : Hp} {p : Addr} {rs : List Addr} {rows : List (List V)} {te : TE} {σ : L2.St} {Q : VK} {m : Nat} (iv : W.iv H) (h : At W H p (.lst (rs.map V.ref))) (hr : LRows W H rs rows) (hl : rows.length ≤ 40000)
    (hte : ∀ (H' : Hp) (r : Addr) (row : List V) (QV : VK), W.iv H' → At W H' r (.lst row) → (∀ q H4, H' q = none → Ex W H' H4 → SqA W H4 q row → QV (.ref q) H4) → te ((wipe σ [m]).set m (some (.ref r))) H' QV)
    (k : ∀ D H2 ts, Ex W H H2 → At W H2 D (.lst (ts.map V.ref)) → QRows W H2 ts rows → Q (.ref D) H2) : LcW (Itl K p) (gName m) tYes te [m] σ H Q := by
  have lr := hr.length
  refine lc_w (W := W) (J := Itl K p) (X := fun i x => (rs.map V.ref)[i]? = some x) walk_list (fun n ys Hh => ∃ ts : List Addr, ys = ts.map V.ref ∧ F2 (fun r row => SqA W Hh r row) ts (rows.take n)) iv (by rw [List.length_map]; omega) (fun H' e => (e.at_ h).sl) (fun _ _ _ _ e ⟨ts, a, b⟩ => ⟨ts, a, QRows.mono e b⟩) ⟨[], rfl, .nil⟩ ?_ ?_
  · rintro n x D ys H' QV QN hn hx hD hDa e3 ⟨ts, rfl, a2⟩ _ qv qn
    obtain ⟨r, hr2, rfl⟩ := ref_get hx
    obtain ⟨row, hrow, hat⟩ := F2.at_ hr hr2
    refine rd_yes (iteT (hte H' r row _ e3.iv (e3.at_ hat) fun q H4 fq e4 sq => qv _ _ e4 ⟨ts ++ [q], by rw [List.map_append]; rfl, ?_⟩))
    rw [List.take_add_one, hrow]
    exact F2.append (.cons (sqa_hide hDa fq e4 sq) .nil) (QRows.mono (hide_ex e4 hDa) a2)
  · rintro D H2 ys hD e2 h2 ⟨ts, rfl, a2⟩ _
    rw [List.length_map, lr, List.take_length] at a2
    exact k D H2 ts e2 h2 a2
theorem ok_law_value (T : Tx P w K mg) : FnOk P w K mg base CX0 1 T.f_law_value T.fd_law_value ["items", "shape"] (sp_law_value) := by
  refine T.F_law_value.ok sc_law_value (fun vs H Q E h => ?_) (fun cdv A outer s H vs Q E hr h => ?_)
  · obtain ⟨W, p, rs, rows, sh, rfl, iv, h, hr', hl, k⟩ := h
    rfl
  · obtain ⟨W, p, rs, rows, sh, rfl, iv, h, hr', hl, k⟩ := h
    refine ⟨_, (pss_cons (ps_if (pt_cmpR op_eq (pv 1) pe_int (nomark _))
        (pss_one (ps_ret (pe_lc (own := [("item", 2)]) rfl sc_law_value.nd (pi_list (pv 0)) (blkOk_by (own := [("item", 2)]) (N := N_law_value) (sc := (defScope s_law_value)) (by decide +kernel)) (fun _ _ _ _ _ => (pg_name (i := 2) sc_law_value.nd rfl (by first | exact Or.inl rfl | exact Or.inr rfl))) (fun _ _ _ _ _ => pts_nil) (fun _ _ _ _ _ => (pe_callTy (r := Lw.rListO K) c_list (by rfl) T.n_list (by decide +kernel) (pa_cons (pv 2) pa_nil))))))
        pss_nil)
      (pss_cons (ps_if (pt_cmpR op_eq (pv 1) pe_int (nomark _))
        (pss_one (ps_ret (pe_callTy (r := Lw.rTupO K) c_tuple (by rfl) T.n_tuple (by decide +kernel) (pa_cons (pe_lc (own := [("item", 2)]) rfl sc_law_value.nd (pi_list (pv 0)) (blkOk_by (own := [("item", 2)]) (N := N_law_value) (sc := (defScope s_law_value)) (by decide +kernel)) (fun _ _ _ _ _ => (pg_name (i := 2) sc_law_value.nd rfl (by first | exact Or.inl rfl | exact Or.inr rfl))) (fun _ _ _ _ _ => pts_nil) (fun _ _ _ _ _ => (pe_callTy (r := Lw.rTupO K) c_tuple (by rfl) T.n_tuple (by decide +kernel) (pa_cons (pv 2) pa_nil)))) pa_nil))))
        pss_nil)
      (pss_cons (ps_if (pt_cmpR op_eq (pv 1) pe_int (nomark _))
        (pss_one (ps_ret (pe_lc (own := [("item", 2)]) rfl sc_law_value.nd (pi_list (pv 0)) (blkOk_by (own := [("item", 2)]) (N := N_law_value) (sc := (defScope s_law_value)) (by decide +kernel)) (fun _ _ _ _ _ => (pg_name (i := 2) sc_law_value.nd rfl (by first | exact Or.inl rfl | exact Or.inr rfl))) (fun _ _ _ _ _ => pts_nil) (fun _ _ _ _ _ => (pe_callTy (r := Lw.rTupO K) c_tuple (by rfl) T.n_tuple (by decide +kernel) (pa_cons (pv 2) pa_nil))))))
        pss_nil)
      (pss_one (ps_ret (pe_callTy (r := Lw.rTupO K) c_tuple (by rfl) T.n_tuple (by decide +kernel) (pa_cons (pe_lc (own := [("item", 2)]) rfl sc_law_value.nd (pi_list (pv 0)) (blkOk_by (own := [("item", 2)]) (N := N_law_value) (sc := (defScope s_law_value)) (by decide +kernel)) (fun _ _ _ _ _ => (pg_name (i := 2) sc_law_value.nd rfl (by first | exact Or.inl rfl | exact Or.inr rfl))) (fun _ _ _ _ _ => pts_nil) (fun _ _ _ _ _ => (pe_callTy (r := Lw.rListO K) c_list (by rfl) T.n_list (by decide +kernel) (pa_cons (pv 2) pa_nil)))) pa_nil))))))), ?_⟩
    walk_at "lw go"
    refine ifI ?_ ?_ <;> intro c0
    · walk_at "lw go"
      refine ⟨p, rfl, ⟨_, h.sl⟩, lcg_w (rows_lc (W := W) iv h hr' hl (fun H' r row QV i hat qv => ?_) fun D H2 ts e2 h2 hq => ?_)⟩
      · walk_at "lw go"
        rename_i q H4 f4 e4 h4
        exact qv q H4 f4 e4 (.inl h4)
      · exact k D H2 ts e2 (.inl h2) hq
    walk_at "lw go"
    refine ifI ?_ ?_ <;> intro c1
    · walk_at "lw go"
      refine ⟨p, rfl, ⟨_, h.sl⟩, lcg_w (rows_lc (W := W) iv h hr' hl (fun H' r row QV i hat qv => ?_) fun D H2 ts e2 h2 hq => ?_)⟩
      · walk_at "lw go"
        rename_i q H4 f4 e4 h4
        exact qv q H4 f4 e4 (.inr h4)
      · walk_at "lw go"
        rename_i q H4 f4 e4 h4
        exact k q H4 ts (e2.trans e4) (.inr h4) (hq.mono e4)
    walk_at "lw go"
    refine ifI ?_ ?_ <;> intro c2
    · walk_at "lw go"
      refine ⟨p, rfl, ⟨_, h.sl⟩, lcg_w (rows_lc (W := W) iv h hr' hl (fun H' r row QV i hat qv => ?_) fun D H2 ts e2 h2 hq => ?_)⟩
      · walk_at "lw go"
        rename_i q H4 f4 e4 h4
        exact qv q H4 f4 e4 (.inr h4)
      · exact k D H2 ts e2 (.inl h2) hq
    walk_at "lw go"
    refine ⟨p, rfl, ⟨_, h.sl⟩, lcg_w (rows_lc (W := W) iv h hr' hl (fun H' r row QV i hat qv => ?_) fun D H2 ts e2 h2 hq => ?_)⟩
    · walk_at "lw go"
      rename_i q H4 f4 e4 h4
      exact qv q H4 f4 e4 (.inl h4)
    · walk_at "lw go"
      rename_i q H4 f4 e4 h4
      exact k q H4 ts (e2.trans e4) (.inr h4) (hq.mono e4)

theorem ok_law_holds (T : Tx P w K mg) : FnG P w K mg base CX0 6 T.f_law_holds T.fd_law_holds ["items", "shape"] (sp_law_holds) := by
  refine Lw.Fun.okG T.F_law_holds sc_law_holds (fun vs H Q E h => ?_) (fun cdv A outer s H vs Q E hr hG h => ?_)
  · obtain ⟨W, p, ps, its, sh, rfl, iv, hp, hps, ho, hl, k⟩ := h
    rfl
  · obtain ⟨W, p, ps, its, sh, rfl, iv, hp, hps, ho, hl, k⟩ := h
    refine ⟨_, (pss_cons (ps_set (i := 2) sc_law_holds.nd rfl (by first | exact Or.inl rfl | exact Or.inr rfl) (pe_call (ok_law_value T) (hr.mono (by decide)) (by rfl) T.g_law_value T.F_law_value.kp T.b_law_value .nil pass0 (pa_cons (pv 0) (pa_cons (pv 1) pa_nil))))
      (pss_cons (ps_set (i := 3) sc_law_holds.nd rfl (by first | exact Or.inl rfl | exact Or.inr rfl) (pe_callB (r := rReprD K) (c_repr hG hr.units) (by rfl) T.n_repr (by decide +kernel) (pa_cons (pv 2) pa_nil)))
      (pss_cons (ps_set (i := 4) sc_law_holds.nd rfl (by first | exact Or.inl rfl | exact Or.inr rfl) (pe_call (ok_law_due T) (hr.mono (by decide)) (by rfl) T.g_law_due T.F_law_due.kp T.b_law_due .nil pass0 (pa_cons (pv 0) pa_nil)))
      (pss_cons (ps_set (i := 5) sc_law_holds.nd rfl (by first | exact Or.inl rfl | exact Or.inr rfl) (pe_callS (ok_way_to_end T) hr (by rfl) T.g_way_to_end T.F_way_to_end.kp T.b_way_to_end (fun σ => passAt takes0 σ) (pa_cons (pv 2) pa_nil)))
      (pss_cons (ps_if (pt_cmpR op_ne (pe_callB (r := rReprD K) (c_repr hG hr.units) (by rfl) T.n_repr (by decide +kernel) (pa_cons (pv 2) pa_nil)) (pv 3) (nomark _))
        (pss_one (ps_ret pe_bl))
        pss_nil)
      (pss_cons (ps_if (pt_cmpR o_isN (pv 4) pe_non (nomark _))
        (pss_one (ps_ret (pe_cmpR o_isN (pv 5) pe_non (nomark _))))
        pss_nil)
      (pss_cons (ps_if (PW.pt (pw_or (pt_not (pt_val (pe_callB (r := rIsi K) call_isi (by rfl) T.n_isinstance (by decide +kernel) (pa_cons (pv 5) (pa_cons (pe_bltn (v := .ty "tuple") rfl T.n_tuple (by decide +kernel) rfl) pa_nil))))) (pw_or1 (pt_cmpR op_ne (pe_callB (r := Lw.rLen K) c_len (by rfl) T.n_len PySem.boot_len (pa_cons (pv 5) pa_nil)) (pe_callB (r := Lw.rLen K) c_len (by rfl) T.n_len PySem.boot_len (pa_cons (pv 4) pa_nil)) (nomark _)))))
        (pss_one (ps_ret pe_bl))
        pss_nil)
      (pss_cons (ps_for PassesOwn.never rfl (pi_range1 rfl T.n_range (pa_cons (pe_callB (r := Lw.rLen K) c_len (by rfl) T.n_len PySem.boot_len (pa_cons (pv 4) pa_nil)) pa_nil)) (pg_name (i := 6) sc_law_holds.nd rfl (by first | exact Or.inl rfl | exact Or.inr rfl))
        (pss_one (ps_if (PW.pt (pw_or (pt_not (pt_val (pe_call (ok_law_is_integer T) (hr.mono (by decide)) (by rfl) T.g_law_is_integer T.F_law_is_integer.kp T.b_law_is_integer .nil pass0 (pa_cons (pe_ix (r := rIxT K) ix_tup (pv 5) (pv 6) (fun _ _ => rfl)) pa_nil)))) (pw_or1 (pt_cmpR op_ne (pe_ix (r := rIxT K) ix_tup (pv 5) (pv 6) (fun _ _ => rfl)) (pe_ix (r := rIxL K) ix_list (pv 4) (pv 6) (fun _ _ => rfl)) (nomark _)))))
          (pss_one (ps_ret pe_bl))
          pss_nil)))
      (pss_one (ps_ret pe_bl)))))))))), ?_⟩
    have hw : ∀ row ∈ its.map It.row, Rw row := fun row hrow => by
      obtain ⟨it, hit, rfl⟩ := List.mem_map.mp hrow
      exact (itF (ho it hit) (by omega)).rw
    have hll : (its.map It.row).length ≤ 4000 := by rw [List.length_map]; exact hl
    have fn : faultF (its.map It.row) = none := fault_none hll fun row hrow => by
      obtain ⟨it, hit, rfl⟩ := List.mem_map.mp hrow
      rw [List.length_map]
      exact ok_isIns (ho it hit)
    have hlr : LRows W H ps (its.map It.row) := by
      refine F2.of_get (by rw [List.length_map]; exact hps.length) fun i x y hx hy => ?_
      obtain ⟨it, hit, q⟩ := F2.at_ hps hx
      rw [List.getElem?_map, hit] at hy
      rw [← Option.some.inj hy]
      exact q
    walk_at "lw go"
    refine cl_law_value (W := W) iv hp hlr (by omega) fun a H1 ts e1 sq hq => ?_
    walk_at "lw go"
    refine rd_reprQ (W := W) sq hq hw (by omega) fun z again => ?_
    have zz : z = z := rfl
    walk_at "lw go"
    have wl : ∀ l, wayR its = some l → l.length ≤ 5000 := fun l h => by
      unfold wayR at h
      split at h
      · cases h
      · rw [← Option.some.inj h, way_len]
        cases hz : (distF its)[0]? with
        | none => show (0 : Int).toNat + 1 ≤ 5000; decide
        | some d => have := dist_up hz; show d.toNat + 1 ≤ 5000; omega
    refine cl_law_due (W := W) e1.iv (e1.at_ hp) (hps.mono e1) ho hl (fun hn H2 e2 => ?_) (fun l hsl d H2 e2 h2 => ?_)
    · walk_at "lw go"
      refine rd_callS ?_
      walk_at "lw go"
      refine ⟨W, a, ts, _, rfl, e2.iv, sq.ex e2, hq.mono e2, hw, by omega, fun j' fj' => (by rw [fn] at fj'; cases fj'), fun _ => ⟨its, rfl, ho, hl, fun _ H3 e3 => ?_, fun l hs => (by rw [hn] at hs; cases hs)⟩⟩
      walk_at "lw go"
      refine again (e2.trans e3) ?_
      walk_at "lw go"
      refine ifSn_no rfl ?_
      walk_at "lw go"
      refine ifD_yes rfl ?_
      walk_at "lw go"
      exact cast_bl (k _ ((e1.trans e2).trans e3)) (decide_eq_true rfl).symm
    · walk_at "lw go"
      refine rd_callS ?_
      walk_at "lw go"
      refine ⟨W, a, ts, _, rfl, e2.iv, sq.ex e2, hq.mono e2, hw, by omega, fun j' fj' => (by rw [fn] at fj'; cases fj'), fun _ => ⟨its, rfl, ho, hl, fun hs => (by rw [hsl] at hs; cases hs), fun l' hs' q H3 e3 h3 => ?_⟩⟩
      obtain rfl : l = l' := by rw [hsl] at hs'; exact Option.some.inj hs'
      have h23 := e3.at_ h2
      walk_at "lw go"
      have hlen : (WN l).length ≤ 5000 := by rw [wn_len]; exact wl l hsl
      refine again (e2.trans e3) ?_
      walk_at "lw go"
      refine ifSn_no rfl ?_
      walk_at "lw go"
      refine ifD_no (fun z => nomatch z) ?_
      walk_at "lw all"
      refine for_r (fun i σ' H' => ∃ v6, σ' = [some (.ref p), some (.int sh), some (.ref a), some (.str z), some (.ref d), some (.ref q), v6] ∧ H3 = H') ⟨_, rfl, rfl⟩ ?_ ?_
      · rintro i σ' H' hi ⟨v6, rfl, rfl⟩
        rw [Int.zero_add]
        obtain ⟨x, hx⟩ : ∃ x, l[i]? = some x := by
          cases hz : l[i]? with
          | some x => exact ⟨x, rfl⟩
          | none => have := List.getElem?_eq_none_iff.mp hz; rw [wn_len] at hi; omega
        have ex := wn_at hx
        walk_at "lw go"
        refine ifNB_no rfl ?_
        walk_at "lw go"
        refine ifIn_no rfl ?_
        walk_at "lw go"
        exact ⟨_, rfl, rfl⟩
      · rintro σ' H' ⟨v6, rfl, rfl⟩
        walk_at "lw go"
        exact k _ ((e1.trans e2).trans e3)

theorem ok_law_refused (T : Tx P w K mg) : FnG P w K mg base CX0 6 T.f_law_refused T.fd_law_refused ["value", "due"] (sp_law_refused) := by
  refine Lw.Fun.okG T.F_law_refused sc_law_refused (fun vs H Q E h => ?_) (fun cdv A outer s H vs Q E hr hG h => ?_)
  · obtain ⟨W, a, rs, rows, j, rfl, iv, h, hr', hw, hl, fj, k⟩ := h
    rfl
  · obtain ⟨W, a, rs, rows, j, rfl, iv, h, hr', hw, hl, fj, k⟩ := h
    refine ⟨_, (pss_cons (ps_set (i := 2) sc_law_refused.nd rfl (by first | exact Or.inl rfl | exact Or.inr rfl) (pe_callB (r := rReprD K) (c_repr hG hr.units) (by rfl) T.n_repr (by decide +kernel) (pa_cons (pv 0) pa_nil)))
      (pss_cons (ps_try_as (i := 3) rfl rfl sc_law_refused.nd rfl rfl ⟨rfl, by decide, Or.inl T.gc_BadProgram⟩ takes0 (fun W pn xe tk po =>
        (pss_one (ps_expr (pe_callS (ok_way_to_end T) hr (by rfl) T.g_way_to_end T.F_way_to_end.kp T.b_way_to_end (fun σ => passAt tk σ) (pa_cons (pv 0) pa_nil)))))
        (fun a oe cls d pn hz hf =>
        (pss_cons (ps_set (i := 4) sc_law_refused.nd rfl (by first | exact Or.inl rfl | exact Or.inr rfl) (pe_and (pe_callB (r := rIsX K cls d a) (c_isX hz hf) (by rfl) T.n_isinstance (by decide +kernel) (pa_cons (pv 3) (pa_cons (pe_glob (v := .ref T.c_InputError) rfl T.gc_InputError rfl) pa_nil))) (pe_and (pe_callB (r := rIsX K cls d a) (c_isX hz hf) (by rfl) T.n_isinstance (by decide +kernel) (pa_cons (pv 3) (pa_cons (pe_glob (v := .ref T.c_CapsteadError) rfl T.gc_CapsteadError rfl) pa_nil))) (pe_one (pe_callB (r := rIsX K cls d a) (c_isX hz hf) (by rfl) T.n_isinstance (by decide +kernel) (pa_cons (pv 3) (pa_cons (pe_bltn (v := .ty "ValueError") rfl T.n_ValueError (by decide +kernel) rfl) pa_nil)))))))
        (pss_cons (ps_set (i := 5) sc_law_refused.nd rfl (by first | exact Or.inl rfl | exact Or.inr rfl) (pe_and (pe_not (pe_callB (r := rIsX K cls d a) (c_isX hz hf) (by rfl) T.n_isinstance (by decide +kernel) (pa_cons (pv 3) (pa_cons (pe_glob (v := .ref T.c_QuestionError) rfl T.gc_QuestionError rfl) pa_nil)))) (pe_one (pe_not (pe_callB (r := rIsX K cls d a) (c_isX hz hf) (by rfl) T.n_isinstance (by decide +kernel) (pa_cons (pv 3) (pa_cons (pe_glob (v := .ref T.c_BadNumber) rfl T.gc_BadNumber rfl) pa_nil)))))))
        (pss_cons (ps_set (i := 5) sc_law_refused.nd rfl (by first | exact Or.inl rfl | exact Or.inr rfl) (pe_and (pv 5) (pe_one (pe_not (pe_callB (r := rIsX K cls d a) (c_isX hz hf) (by rfl) T.n_isinstance (by decide +kernel) (pa_cons (pv 3) (pa_cons (pe_glob (v := .ref T.c_BadLine) rfl T.gc_BadLine rfl) pa_nil)))))))
        (pss_one (ps_ret (pe_and (pv 4) (pe_and (pv 5) (pe_and (pe_callQ (okq_law_is_integer T) (RoomQ.mark (RoomQ.of (hr.mono (by decide)))) (by rfl) T.g_law_is_integer T.F_law_is_integer.kp T.b_law_is_integer .nil pass0 (pa_cons (pe_xf (xfC_of T.S_BadProgram) T.S_BadProgram.noN hz hf (pv 3)) pa_nil)) (pe_and (pe_cmpR op_eq (pe_xf (xfC_of T.S_BadProgram) T.S_BadProgram.noN hz hf (pv 3)) (pv 1) (nomark _)) (pe_one (pe_cmpR op_eq (pe_callB (r := rReprD K) (c_repr hG hr.units) (by rfl) T.n_repr (by decide +kernel) (pa_cons (pv 0) pa_nil)) (pv 2) (nomark _))))))))))))))
      (pss_one (ps_ret pe_bl)))), ?_⟩
    walk_at "lw go"
    refine rd_reprQ (W := W) h hr' hw hl fun z again => ?_
    have zz : z = z := rfl
    walk_at "lw go"
    refine rd_callS ?_
    walk_at "lw go"
    refine ⟨W, a, rs, rows, rfl, iv, h, hr', hw, by omega, fun j' fj' d H1 e1 h1 => ?_, fun fn => (by rw [fj] at fn; cases fn)⟩
    obtain rfl : j = j' := by rw [fj] at fj'; exact Option.some.inj fj'
    refine ⟨true, T.m_BadProgram, fun _ ea hea => ?_, fun z => nomatch z⟩
    walk_at "lw all"
    refine rd_isX (W := W) h1 rfl rfl T.I_BadProgram (fun _ r => r) T.k_BadProgram_InputError ?_
    walk_at "lw all"
    refine rd_isX (W := W) h1 rfl rfl T.I_BadProgram (fun _ r => r) T.k_BadProgram_CapsteadError ?_
    walk_at "lw all"
    refine rd_isX (W := W) h1 rfl rfl T.I_BadProgram (fun _ r => r) T.k_BadProgram_ValueError ?_
    walk_at "lw all"
    refine rd_isX (W := W) h1 rfl rfl T.I_BadProgram (fun _ r => r) T.k_BadProgram_QuestionError ?_
    walk_at "lw all"
    refine rd_isX (W := W) h1 rfl rfl T.I_BadProgram (fun _ r => r) T.k_BadProgram_BadNumber ?_
    walk_at "lw all"
    refine rd_isX (W := W) h1 rfl rfl T.I_BadProgram (fun _ r => r) T.k_BadProgram_BadLine ?_
    walk_at "lw all"
    refine rd_xf (W := W) rfl h1 rfl rfl ?_
    walk_at "lw all"
    refine rd_xf (W := W) rfl h1 rfl rfl ?_
    walk_at "lw all"
    refine again e1 ?_
    walk_at "lw all"
    exact cast_bl (k _ e1) (decide_eq_true rfl).symm

def fixB (n : Int) : List (List V) := [[], [.str "jump", .int n], [.str "jump", .int (-1)], [.str "zero", .int 8, .int 0], [.str "zero", .int 0, .int n], [.str "zero", .int 0, .int (-1)], [.str "zero", .bl true, .int 0], [.str "jump", .bl false], [.str "deed", .str "stop"], [.str "deed", .str "set"], [.str "set", .int 0, .int 1048576], [.str "move", .int 0, .int 8], [.str "halt"], [.str "Jump", .int 0]]
theorem fix_rw {n : Int} {nm : Str} {vs : List V} (h1 : nm.length ≤ 10) (h2 : (nm.cps.toList.all fun c => decide (c < 16 ^ 8)) = true) (h3 : vs.length ≤ 3) (h4 : ∀ v ∈ vs, v = .int n ∨ v = .int (-1) ∨ v = .int 8 ∨ v = .int 0 ∨ v = .int 1048576 ∨ v = .bl true ∨ v = .bl false ∨ v = .str "stop" ∨ v = .str "set") (n0 : 0 < n) (n1 : n < 1073741824) : Rw (.str nm :: vs) :=
  rw_vals h1 h2 h3 fun v hv => by
    rcases h4 v hv with rfl | rfl | rfl | rfl | rfl | rfl | rfl | rfl | rfl
    · exact small_sm (by omega) n1
    · exact ⟨.int (by decide), by decide +kernel⟩
    · exact small_sm (by decide) (by decide)
    · exact small_sm (by decide) (by decide)
    · exact small_sm (by decide) (by decide)
    · exact ⟨.bl _, by decide⟩
    · exact ⟨.bl _, by decide⟩
    · exact ⟨sm_str (by decide), by decide⟩
    · exact ⟨sm_str (by decide), by decide⟩
theorem fix_bad {n : Int} (n0 : 0 < n) (n1 : n < 1073741824) {row : List V} (h : row ∈ fixB n) : isIns row n = false ∧ Rw row := by
  unfold fixB at h
  simp only [List.mem_cons, List.not_mem_nil, or_false] at h
  have tg : boundF "target" n = n := rfl
  have rg : boundF "register" n = 8 := rfl
  have wd : boundF "word" n = 1048576 := rfl
  rcases h with rfl | rfl | rfl | rfl | rfl | rfl | rfl | rfl | rfl | rfl | rfl | rfl | rfl | rfl
  · exact ⟨rfl, rw_of (fun _ h => nomatch h) (by decide) (by decide)⟩
  · exact ⟨ins_part (s := 0) (v := .int n) (rl := "target") rfl rfl (bad_int (by decide) (.inr (Int.le_of_eq tg))), fix_rw (n := n) (by decide) (by decide) (by simp) (by simp) n0 n1⟩
  · exact ⟨ins_part (s := 0) (v := .int (-1)) (rl := "target") rfl rfl (bad_int (by decide) (.inl (by decide))), fix_rw (n := n) (by decide) (by decide) (by simp) (by simp) n0 n1⟩
  · exact ⟨ins_part (s := 0) (v := .int 8) (rl := "register") rfl rfl (bad_int (by decide) (.inr (Int.le_of_eq rg))), fix_rw (n := n) (by decide) (by decide) (by simp) (by simp) n0 n1⟩
  · exact ⟨ins_part (s := 1) (v := .int n) (rl := "target") rfl rfl (bad_int (by decide) (.inr (Int.le_of_eq tg))), fix_rw (n := n) (by decide) (by decide) (by simp) (by simp) n0 n1⟩
  · exact ⟨ins_part (s := 1) (v := .int (-1)) (rl := "target") rfl rfl (bad_int (by decide) (.inl (by decide))), fix_rw (n := n) (by decide) (by decide) (by simp) (by simp) n0 n1⟩
  · exact ⟨ins_part (s := 0) (v := .bl true) (rl := "register") rfl rfl rfl, fix_rw (n := n) (by decide) (by decide) (by simp) (by simp) n0 n1⟩
  · exact ⟨ins_part (s := 0) (v := .bl false) (rl := "target") rfl rfl rfl, fix_rw (n := n) (by decide) (by decide) (by simp) (by simp) n0 n1⟩
  · exact ⟨ins_part (s := 0) (v := .str "stop") (rl := "deed") rfl rfl (show inV (.str "stop") DL = false by decide +kernel), fix_rw (n := n) (by decide) (by decide) (by simp) (by simp) n0 n1⟩
  · exact ⟨ins_part (s := 0) (v := .str "set") (rl := "deed") rfl rfl (show inV (.str "set") DL = false by decide +kernel), fix_rw (n := n) (by decide) (by decide) (by simp) (by simp) n0 n1⟩
  · exact ⟨ins_part (s := 1) (v := .int 1048576) (rl := "word") rfl rfl (bad_int (by decide) (.inr (Int.le_of_eq wd))), fix_rw (n := n) (by decide) (by decide) (by simp) (by simp) n0 n1⟩
  · exact ⟨ins_part (s := 1) (v := .int 8) (rl := "register") rfl rfl (bad_int (by decide) (.inr (Int.le_of_eq rg))), fix_rw (n := n) (by decide) (by decide) (by simp) (by simp) n0 n1⟩
  · exact ⟨ins_nm (by decide), fix_rw (n := n) (by decide) (by decide) (by simp) (by simp) n0 n1⟩
  · exact ⟨ins_nm (by decide), fix_rw (n := n) (by decide) (by decide) (by simp) (by simp) n0 n1⟩
theorem ok_law_bent (T : Tx P w K mg) : FnOk P w K mg base CX0 2 T.f_law_bent T.fd_law_bent ["pool", "item", "size"] (sp_law_bent) := by
  refine T.F_law_bent.ok sc_law_bent (fun vs H Q E h => ?_) (fun cdv A outer s H vs Q E hr h => ?_)
  · obtain ⟨b, p, it, n, rfl, iv, hp, o, n0, n1, k⟩ := h
    rfl
  · obtain ⟨b, p, it, n, rfl, iv, hp, o, n0, n1, k⟩ := h
    refine ⟨_, (pss_cons (ps_set (i := 3) sc_law_bent.nd rfl (by first | exact Or.inl rfl | exact Or.inr rfl) (pe_lst (pa_cons (pe_lst pa_nil) (pa_cons (pe_op op_cat (pv 1) (pe_lst (pa_cons pe_int pa_nil))) (pa_cons (pe_slice (r := rSlL K) sl_list (pv 1) po_none (po_some (pe_un un_neg pe_int))) (pa_cons (pe_lst (pa_cons pe_str (pa_cons (pv 2) pa_nil))) (pa_cons (pe_lst (pa_cons pe_str (pa_cons (pe_un un_neg pe_int) pa_nil))) (pa_cons (pe_lst (pa_cons pe_str (pa_cons pe_int (pa_cons pe_int pa_nil)))) (pa_cons (pe_lst (pa_cons pe_str (pa_cons pe_int (pa_cons (pv 2) pa_nil)))) pa_nil)))))))))
      (pss_cons (ps_set (i := 3) sc_law_bent.nd rfl (by first | exact Or.inl rfl | exact Or.inr rfl) (pe_op op_cat (pv 3) (pe_lst (pa_cons (pe_lst (pa_cons pe_str (pa_cons pe_int (pa_cons (pe_un un_neg pe_int) pa_nil)))) (pa_cons (pe_lst (pa_cons pe_str (pa_cons pe_bl (pa_cons pe_int pa_nil)))) (pa_cons (pe_lst (pa_cons pe_str (pa_cons pe_bl pa_nil))) (pa_cons (pe_lst (pa_cons pe_str (pa_cons pe_str pa_nil))) (pa_cons (pe_lst (pa_cons pe_str (pa_cons pe_str pa_nil))) pa_nil))))))))
      (pss_cons (ps_set (i := 3) sc_law_bent.nd rfl (by first | exact Or.inl rfl | exact Or.inr rfl) (pe_op op_cat (pv 3) (pe_lst (pa_cons (pe_lst (pa_cons pe_str (pa_cons pe_int (pa_cons pe_int pa_nil)))) (pa_cons (pe_lst (pa_cons pe_str (pa_cons pe_int (pa_cons pe_int pa_nil)))) (pa_cons (pe_lst (pa_cons pe_str pa_nil)) (pa_cons (pe_lst (pa_cons pe_str (pa_cons pe_int pa_nil))) pa_nil)))))))
      (pss_one (ps_ret (pe_ix (r := rIxL K) ix_list (pv 3) (pe_call (ok_law_draw T) hr (by rfl) T.g_law_draw T.F_law_draw.kp T.b_law_draw .nil pass0 (pa_cons (pv 0) (pa_cons pe_int pa_nil))) (fun _ _ => rfl))))))), ?_⟩
    have F := itF o (by omega)
    obtain ⟨rl1, rl2⟩ := F.rowlen
    walk_at "lw go"
    rename_i v hv
    have fin : ∀ {q : Addr} {H' : Hp} {row : List V}, Ex (WB b) H H' → At (WB b) H' q (.lst row) → isIns row n = false ∧ Rw row → Q (.ref q) H' := fun e h z => k _ _ _ e h z.1 z.2
    simp only [List.mem_append, List.mem_cons, List.not_mem_nil, or_false] at hv
    rcases hv with ((rfl | rfl | rfl | rfl | rfl | rfl | rfl) | rfl | rfl | rfl | rfl | rfl) | rfl | rfl | rfl | rfl
    · exact fin (row := []) (by walk_at "lw ex") (by walk_at "lw at") (fix_bad n0 n1 (by unfold fixB; simp))
    · exact fin (row := it.row ++ [.int 0]) (by walk_at "lw ex") (by walk_at "lw at") (bent_app F (by decide) (by decide))
    · exact fin (row := cutV it.row none (some (-1))) (by walk_at "lw ex") (by walk_at "lw at") (bent_cut F)
    · exact fin (row := [.str "jump", .int n]) (by walk_at "lw ex") (by walk_at "lw at") (fix_bad n0 n1 (by unfold fixB; simp))
    · exact fin (row := [.str "jump", .int (-1)]) (by walk_at "lw ex") (by walk_at "lw at") (fix_bad n0 n1 (by unfold fixB; simp))
    · exact fin (row := [.str "zero", .int 8, .int 0]) (by walk_at "lw ex") (by walk_at "lw at") (fix_bad n0 n1 (by unfold fixB; simp))
    · exact fin (row := [.str "zero", .int 0, .int n]) (by walk_at "lw ex") (by walk_at "lw at") (fix_bad n0 n1 (by unfold fixB; simp))
    · exact fin (row := [.str "zero", .int 0, .int (-1)]) (by walk_at "lw ex") (by walk_at "lw at") (fix_bad n0 n1 (by unfold fixB; simp))
    · exact fin (row := [.str "zero", .bl true, .int 0]) (by walk_at "lw ex") (by walk_at "lw at") (fix_bad n0 n1 (by unfold fixB; simp))
    · exact fin (row := [.str "jump", .bl false]) (by walk_at "lw ex") (by walk_at "lw at") (fix_bad n0 n1 (by unfold fixB; simp))
    · exact fin (row := [.str "deed", .str "stop"]) (by walk_at "lw ex") (by walk_at "lw at") (fix_bad n0 n1 (by unfold fixB; simp))
    · exact fin (row := [.str "deed", .str "set"]) (by walk_at "lw ex") (by walk_at "lw at") (fix_bad n0 n1 (by unfold fixB; simp))
    · exact fin (row := [.str "set", .int 0, .int 1048576]) (by walk_at "lw ex") (by walk_at "lw at") (fix_bad n0 n1 (by unfold fixB; simp))
    · exact fin (row := [.str "move", .int 0, .int 8]) (by walk_at "lw ex") (by walk_at "lw at") (fix_bad n0 n1 (by unfold fixB; simp))
    · exact fin (row := [.str "halt"]) (by walk_at "lw ex") (by walk_at "lw at") (fix_bad n0 n1 (by unfold fixB; simp))
    · exact fin (row := [.str "Jump", .int 0]) (by walk_at "lw ex") (by walk_at "lw at") (fix_bad n0 n1 (by unfold fixB; simp))

/-! ### the law's own steps -/
theorem bent_ne {row : List V} {rs : List Addr} (h : Rw row) (hn : rs ≠ []) : HO.lst row ≠ HO.lst (rs.map V.ref) := fun z => by
  injection z with z
  cases rs with
  | nil => exact hn rfl
  | cons r rs =>
    have q := h.sm (.ref r) (by rw [z]; exact List.mem_cons_self ..)
    cases q
theorem ok_mono {it : It} {m n : Int} (h : it.Ok m) (l : m ≤ n) : it.Ok n := by
  cases it with
  | deed d => exact h
  | jump t => exact ⟨h.1, by have := h.2; omega⟩
  | zero r t => exact ⟨h.1, h.2.1, by have := h.2.2; omega⟩
  | set r w => exact h
  | two m r q => exact h
theorem F2.map_r {α β γ : Type} {R : α → γ → Prop} {f : β → γ} : ∀ {xs : List α} {ys : List β}, F2 (fun x y => R x (f y)) xs ys → F2 R xs (ys.map f)
  | _, _, .nil => .nil
  | _, _, .cons a t => .cons a (F2.map_r t)
theorem F2.take {α β : Type} {R : α → β → Prop} : ∀ {xs : List α} {ys : List β} (n : Nat), F2 R xs ys → F2 R (xs.take n) (ys.take n)
  | _, _, 0, _ => by rw [List.take_zero, List.take_zero]; exact .nil
  | _, _, n + 1, .nil => by rw [List.take_nil, List.take_nil]; exact .nil
  | _, _, n + 1, .cons a t => .cons a (F2.take n t)
theorem F2.set {α β : Type} {R : α → β → Prop} {x : α} {y : β} (h : R x y) : ∀ {xs : List α} {ys : List β} (n : Nat), F2 R xs ys → F2 R (xs.set n x) (ys.set n y)
  | _, _, _, .nil => .nil
  | _, _, 0, .cons a t => .cons h t
  | _, _, n + 1, .cons a t => .cons a (F2.set h n t)
structure BS (rows brows : List (List V)) (r due : Int) (i : Nat) : Prop where
  rw : ∀ row ∈ brows, Rw row
  z : r = 0 → due = 0 ∧ (0 < i → ∃ row, brows = [row] ∧ isIns row 1 = false)
  p : 0 < r → brows.length = rows.length ∧ 0 ≤ due ∧ due ≤ r ∧ (0 < i → due < r) ∧ (∀ j : Nat, (j : Int) < due → brows[j]? = rows[j]?) ∧ (due < r → ∃ row, brows[due.toNat]? = some row ∧ isIns row r = false)
theorem BS.zero {rows : List (List V)} {r : Int} (h : ∀ row ∈ rows, Rw row) (h0 : 0 ≤ r) : BS rows rows r r 0 :=
  ⟨h, fun e => ⟨e, fun z => absurd z (Nat.lt_irrefl _)⟩, fun _ => ⟨rfl, h0, Int.le_refl _, fun z => absurd z (Nat.lt_irrefl _), fun _ _ => rfl, fun z => absurd z (Int.lt_irrefl _)⟩⟩
theorem BS.stepZ {rows brows : List (List V)} {due place : Int} {i : Nat} {row : List V} (b : BS rows brows 0 due i) (hw : Rw row) (hb : isIns row 1 = false) (p0 : place = 0) : BS rows [row] 0 (if place < due then place else due) (i + 1) := by
  refine ⟨fun x hx => by rw [List.mem_singleton.mp hx]; exact hw, fun _ => ⟨?_, fun _ => ⟨row, rfl, hb⟩⟩, fun h => absurd h (Int.lt_irrefl _)⟩
  have := (b.z rfl).1
  subst p0 this
  rfl
theorem BS.step {rows brows : List (List V)} {r due place : Int} {i : Nat} {row : List V} (b : BS rows brows r due i) (hr : 0 < r) (lr : (rows.length : Int) = r) (hw : Rw row) (hb : isIns row r = false) (p0 : 0 ≤ place) (p1 : place < r) :
    BS rows (brows.set place.toNat row) r (if place < due then place else due) (i + 1) := by
  obtain ⟨h1, h2, h3, h4, h5, h6⟩ := b.p hr
  refine ⟨fun x hx => ?_, fun e => absurd e (by omega), fun _ => ⟨by rw [List.length_set]; exact h1, by split <;> omega, by split <;> omega, fun _ => ?_, fun j hj => ?_, fun _ => ?_⟩⟩
  · rcases List.mem_or_eq_of_mem_set hx with q | q
    · exact b.rw x q
    · rw [q]; exact hw
  · split <;> omega
  · have hj1 : (j : Int) < place ∧ (j : Int) < due := by split at hj <;> omega
    rw [List.getElem?_set_ne (by omega)]
    exact h5 j hj1.2
  · by_cases c : place < due
    · rw [if_pos c]
      refine ⟨row, ?_, hb⟩
      rw [List.getElem?_set_self (by omega)]
    · rw [if_neg c]
      by_cases e : place = due
      · refine ⟨row, ?_, hb⟩
        rw [e, List.getElem?_set_self (by omega)]
      · obtain ⟨row2, q1, q2⟩ := h6 (by omega)
        refine ⟨row2, ?_, q2⟩
        rw [List.getElem?_set_ne (by omega)]
        exact q1
/-- the fault of the bent program -/
theorem BS.fault {rows brows : List (List V)} {r due : Int} {i : Nat} (b : BS rows brows r due i) (hi : 0 < i) (r0 : 0 ≤ r) (lr : (rows.length : Int) = r) (good : r ≤ 4000 → ∀ row ∈ rows, isIns row r = true) :
    ∃ j : Nat, faultF brows = some j ∧ (if 4000 < r then 4000 else due) = (j : Int) := by
  by_cases z : r = 0
  · subst z
    obtain ⟨h1, h2⟩ := b.z rfl
    obtain ⟨row, rfl, hb⟩ := h2 hi
    refine ⟨0, fault_some (row := row) (by show 1 ≤ 4000; decide) rfl hb (fun i r h => absurd h (Nat.not_lt_zero _)), ?_⟩
    rw [if_neg (by decide), h1]; rfl
  · obtain ⟨h1, h2, h3, h4, h5, h6⟩ := b.p (by omega)
    by_cases c : 4000 < r
    · refine ⟨4000, ?_, if_pos c⟩
      unfold faultF
      rw [if_pos (by omega)]
    · obtain ⟨row, q1, q2⟩ := h6 (h4 hi)
      have e : ((brows.length : Nat) : Int) = r := by omega
      refine ⟨due.toNat, fault_some (row := row) (by omega) q1 (by rw [e]; exact q2) (fun j x hj hx => ?_), by rw [if_neg c]; omega⟩
      rw [e]
      have q := h5 j (by omega)
      rw [q] at hx
      exact good (by omega) x (List.mem_of_getElem? hx)
theorem its_rows {W : Wd} {H : Hp} {rs : List Addr} {its : List It} (h : Its W H rs its) : LRows W H rs (its.map It.row) := F2.map_r h
theorem its_rw {its : List It} {n : Int} (ho : ∀ it ∈ its, It.Ok n it) (hn : n ≤ 4001) : ∀ row ∈ its.map It.row, Rw row := fun row hrow => by
  obtain ⟨it, hit, rfl⟩ := List.mem_map.mp hrow
  exact (itF (ho it hit) (by omega)).rw
theorem F2.drop {α β : Type} {R : α → β → Prop} : ∀ {xs : List α} {ys : List β} (n : Nat), F2 R xs ys → F2 R (xs.drop n) (ys.drop n)
  | _, _, 0, h => by rw [List.drop_zero, List.drop_zero]; exact h
  | _, _, n + 1, .nil => by rw [List.drop_nil, List.drop_nil]; exact .nil
  | _, _, n + 1, .cons a t => by rw [List.drop_succ_cons, List.drop_succ_cons]; exact F2.drop n t
theorem ok_law_at (T : Tx P w K mg) {f : Addr} {fd : FuncData} (F : Fun K "law" "law" s_law f fd) : FnG P w K mg base CX0 7 f fd ["script"] (spLaw K) := by
  refine Lw.Fun.okG F sc_law (fun vs H Q E h => ?_) (fun cdv A outer s H vs Q E hr hG h => ?_)
  · obtain ⟨a, ns, rfl, ha, hn, k⟩ := h
    rfl
  · obtain ⟨a, ns, rfl, ha, hn, k⟩ := h
    refine ⟨_, (pss_cons (ps_set (i := 1) sc_law.nd rfl (by first | exact Or.inl rfl | exact Or.inr rfl) (pe_call (ok_law_pool T) (hr.mono (by decide)) (by rfl) T.g_law_pool T.F_law_pool.kp T.b_law_pool .nil pass0 (pa_cons (pv 0) pa_nil)))
      (pss_cons (ps_set (i := 2) sc_law.nd rfl (by first | exact Or.inl rfl | exact Or.inr rfl) (pe_cmpR op_eq (pe_call (ok_law_draw T) (hr.mono (by decide)) (by rfl) T.g_law_draw T.F_law_draw.kp T.b_law_draw .nil pass0 (pa_cons (pv 1) (pa_cons pe_int pa_nil))) pe_int (nomark _)))
      (pss_cons (ps_set (i := 3) sc_law.nd rfl (by first | exact Or.inl rfl | exact Or.inr rfl) (pe_call (ok_law_draw T) (hr.mono (by decide)) (by rfl) T.g_law_draw T.F_law_draw.kp T.b_law_draw .nil pass0 (pa_cons (pv 1) (pa_cons pe_int pa_nil))))
      (pss_cons (ps_set (i := 4) sc_law.nd rfl (by first | exact Or.inl rfl | exact Or.inr rfl) (pe_call (ok_law_draw T) (hr.mono (by decide)) (by rfl) T.g_law_draw T.F_law_draw.kp T.b_law_draw .nil pass0 (pa_cons (pv 1) (pa_cons pe_int pa_nil))))
      (pss_cons (ps_set (i := 5) sc_law.nd rfl (by first | exact Or.inl rfl | exact Or.inr rfl) (pe_call (ok_law_draw T) (hr.mono (by decide)) (by rfl) T.g_law_draw T.F_law_draw.kp T.b_law_draw .nil pass0 (pa_cons (pv 1) (pa_cons pe_int pa_nil))))
      (pss_cons (ps_set (i := 6) sc_law.nd rfl (by first | exact Or.inl rfl | exact Or.inr rfl) (pe_callB (c_max2 rfl) (by rfl) T.n_max (by decide +kernel) (pa_cons pe_int (pa_cons (pv 5) pa_nil))))
      (pss_cut (ps_if (pt_val (pv 2))
        (pss_cons (ps_set (i := 6) sc_law.nd rfl (by first | exact Or.inl rfl | exact Or.inr rfl) (pe_op op_add pe_int (pe_call (ok_law_draw T) (hr.mono (by decide)) (by rfl) T.g_law_draw T.F_law_draw.kp T.b_law_draw .nil pass0 (pa_cons (pv 1) (pa_cons pe_int pa_nil)))))
        (pss_one (ps_set (i := 5) sc_law.nd rfl (by first | exact Or.inl rfl | exact Or.inr rfl) (pe_ix (r := rIxL K) ix_list (pe_lst (pa_cons pe_int (pa_cons (pe_op op_add pe_int (pe_call (ok_law_draw T) (hr.mono (by decide)) (by rfl) T.g_law_draw T.F_law_draw.kp T.b_law_draw .nil pass0 (pa_cons (pv 1) (pa_cons pe_int pa_nil)))) pa_nil))) (pe_call (ok_law_draw T) (hr.mono (by decide)) (by rfl) T.g_law_draw T.F_law_draw.kp T.b_law_draw .nil pass0 (pa_cons (pv 1) (pa_cons pe_int pa_nil))) (fun _ _ => rfl)))))
        pss_nil)
      (pss_cons (ps_set (i := 7) sc_law.nd rfl (by first | exact Or.inl rfl | exact Or.inr rfl) (pe_call (ok_law_program T) (hr.mono (by decide)) (by rfl) T.g_law_program T.F_law_program.kp T.b_law_program .nil pass0 (pa_cons (pv 1) (pa_cons (pv 3) (pa_cons (pv 5) (pa_cons (pv 6) pa_nil))))))
      (pss_cons (ps_if (pt_not (pt_val (pe_callG (ok_law_holds T) hG hr (by rfl) T.g_law_holds T.F_law_holds.kp T.b_law_holds .nil pass0 (pa_cons (pv 7) (pa_cons (pv 4) pa_nil)))))
        (pss_one (ps_ret pe_bl))
        pss_nil)
      (pss_cut (ps_if (PW.pt (pw_and (pt_cmpR op_gt (pv 5) pe_int (nomark _)) (pw_and1 (pt_not (pt_val (pe_callG (ok_law_holds T) hG hr (by rfl) T.g_law_holds T.F_law_holds.kp T.b_law_holds .nil pass0 (pa_cons (pe_op op_cat (pe_lst (pa_cons (pe_lst (pa_cons pe_str (pa_cons pe_str pa_nil))) pa_nil)) (pe_slice (r := rSlL K) sl_list (pv 7) (po_some pe_int) po_none)) (pa_cons (pv 4) pa_nil))))))))
        (pss_one (ps_ret pe_bl))
        pss_nil)
      (pss_cons (ps_set (i := 8) sc_law.nd rfl (by first | exact Or.inl rfl | exact Or.inr rfl) (pe_op op_add pe_int (pe_call (ok_law_draw T) (hr.mono (by decide)) (by rfl) T.g_law_draw T.F_law_draw.kp T.b_law_draw .nil pass0 (pa_cons (pv 1) (pa_cons pe_int pa_nil)))))
      (pss_cons (ps_if (pt_not (pt_val (pe_callG (ok_law_holds T) hG hr (by rfl) T.g_law_holds T.F_law_holds.kp T.b_law_holds .nil pass0 (pa_cons (pe_call (ok_law_program T) (hr.mono (by decide)) (by rfl) T.g_law_program T.F_law_program.kp T.b_law_program .nil pass0 (pa_cons (pv 1) (pa_cons (pe_op op_sub pe_int (pv 3)) (pa_cons (pv 8) (pa_cons (pv 8) pa_nil))))) (pa_cons (pv 4) pa_nil)))))
        (pss_one (ps_ret pe_bl))
        pss_nil)
      (pss_cons (ps_if (pt_not (pt_val (pe_callG (ok_law_holds T) hG hr (by rfl) T.g_law_holds T.F_law_holds.kp T.b_law_holds .nil pass0 (pa_cons (pe_lc (own := [("k", 11)]) rfl sc_law.nd (pi_range1 rfl T.n_range (pa_cons (pv 8) pa_nil)) (blkOk_by (own := [("k", 11)]) (N := N_law) (sc := (defScope s_law)) (by decide +kernel)) (fun _ _ _ _ _ => (pg_name (i := 11) sc_law.nd rfl (by first | exact Or.inl rfl | exact Or.inr rfl))) (fun _ _ _ _ _ => pts_nil) (fun _ _ _ _ _ => (pe_lst (pa_cons pe_str (pa_cons (pe_op op_mod (pe_callTy c_int (by rfl) T.n_int (by decide +kernel) (pa_cons (pv 11) pa_nil)) pe_int) (pa_cons (pv 11) pa_nil)))))) (pa_cons (pv 4) pa_nil)))))
        (pss_one (ps_ret pe_bl))
        pss_nil)
      (pss_cons (ps_if (pt_not (pt_val (pe_callG (ok_law_holds T) hG hr (by rfl) T.g_law_holds T.F_law_holds.kp T.b_law_holds .nil pass0 (pa_cons (pe_call (ok_law_ladder T) (hr.mono (by decide)) (by rfl) T.g_law_ladder T.F_law_ladder.kp T.b_law_ladder .nil pass0 (pa_cons (pv 1) (pa_cons (pe_op op_add (pv 8) pe_int) pa_nil))) (pa_cons (pv 4) pa_nil)))))
        (pss_one (ps_ret pe_bl))
        pss_nil)
      (pss_cut (ps_if (PW.pt (pw_and (pt_cmpR op_eq (pv 5) pe_int (nomark _)) (pw_and1 (pt_not (pt_val (pe_callG (ok_law_refused T) hG hr (by rfl) T.g_law_refused T.F_law_refused.kp T.b_law_refused .nil pass0 (pa_cons (pe_call (ok_law_value T) (hr.mono (by decide)) (by rfl) T.g_law_value T.F_law_value.kp T.b_law_value .nil pass0 (pa_cons (pe_op op_cat (pv 7) (pe_lst (pa_cons (pe_lst (pa_cons pe_str (pa_cons pe_str pa_nil))) pa_nil))) (pa_cons (pv 4) pa_nil))) (pa_cons pe_int pa_nil))))))))
        (pss_one (ps_ret pe_bl))
        pss_nil)
      (pss_cons (ps_set (i := 9) sc_law.nd rfl (by first | exact Or.inl rfl | exact Or.inr rfl) (pe_callTy (r := Lw.rListO K) c_list (by rfl) T.n_list (by decide +kernel) (pa_cons (pv 7) pa_nil)))
      (pss_cons (ps_set (i := 10) sc_law.nd rfl (by first | exact Or.inl rfl | exact Or.inr rfl) (pe_call (ok_law_draw T) (hr.mono (by decide)) (by rfl) T.g_law_draw T.F_law_draw.kp T.b_law_draw .nil pass0 (pa_cons (pv 1) (pa_cons (pe_callB (c_max2 rfl) (by rfl) T.n_max (by decide +kernel) (pa_cons pe_int (pa_cons (pv 5) pa_nil))) pa_nil))))
      (pss_cut (ps_if (pt_cmpR op_eq (pv 5) pe_int (nomark _))
        (pss_one (ps_set (i := 9) sc_law.nd rfl (by first | exact Or.inl rfl | exact Or.inr rfl) (pe_lst (pa_cons (pe_call (ok_law_bent T) (hr.mono (by decide)) (by rfl) T.g_law_bent T.F_law_bent.kp T.b_law_bent .nil pass0 (pa_cons (pv 1) (pa_cons (pe_lst (pa_cons pe_str (pa_cons pe_int (pa_cons pe_int pa_nil)))) (pa_cons pe_int pa_nil)))) pa_nil))))
        (pss_one (ps_asg (pe_call (ok_law_bent T) (hr.mono (by decide)) (by rfl) T.g_law_bent T.F_law_bent.kp T.b_law_bent .nil pass0 (pa_cons (pv 1) (pa_cons (pe_ix (r := rIxL K) ix_list (pv 7) (pv 10) (fun _ _ => rfl)) (pa_cons (pv 5) pa_nil)))) (pg_sub (pv 9) (pv 10) set_list))))
      (pss_one (ps_ret (pe_callG (ok_law_refused T) hG hr (by rfl) T.g_law_refused T.F_law_refused.kp T.b_law_refused .nil pass0 (pa_cons (pe_call (ok_law_value T) (hr.mono (by decide)) (by rfl) T.g_law_value T.F_law_value.kp T.b_law_value .nil pass0 (pa_cons (pv 9) (pa_cons (pv 4) pa_nil))) (pa_cons (pv 10) pa_nil))))))))))))))))))))))), ?_⟩
    refine rd_seq (rd_asg (rd_call (rd_cons ?_)))
    walk_at "lw go"
    refine ⟨a, ns, rfl, ha, hn, fun b H1 iv => ?_⟩
    walk_at "lw go"
    rename_i lg H2 e2 l0 l1 far H3 e3 fa0 fa1 sh H4 e4 s0 s1 sz0 H5 e5 z0 z1
    refine rd_cut (fun σ' H' => ∃ (v2 : Option V) (size many : Int), σ' = [some (.ref a), some (.ref b), v2, some (.int far), some (.int sh), some (.int size), some (.int many), none, none, none, none, none] ∧ 0 ≤ size ∧ size ≤ 4000 ∧ 1 ≤ many ∧ many ≤ 4000 ∧ Ex (WB b) H1 H') ?_ ?_
    · walk_at "lw go"
      have e15 := (e2.trans e3).trans (e4.trans e5)
      refine ifI ?_ ?_ <;> intro hbig
      · walk_at "lw go"
        rename_i mm H6 e6 a0 a1 r2 H7 e7 b0 b1 pp H8 f8 e8 h8 r3 H9 e9 c0 c1 v hv
        have e19 := e15.trans ((e6.trans e7).trans (e8.trans e9))
        simp only [List.mem_cons, List.not_mem_nil, or_false] at hv
        rcases hv with rfl | rfl
        · exact ⟨_, _, _, rfl, by omega, by omega, by omega, by omega, e19⟩
        · exact ⟨_, _, _, rfl, by omega, by omega, by omega, by omega, e19⟩
      · walk_at "lw go"
        refine ⟨_, _, _, rfl, z0, by omega, ?_, ?_, e15⟩
        · split <;> omega
        · split <;> omega
    rintro σ' H6 ⟨v2, size, many, rfl, z0, z1, m0, m1, e6⟩
    walk_at "lw go"
    refine cl_law_program (b := b) z0 z1 m0 m1 e6.iv fun P H7 rs its e7 h7 hIts hlen hok => ?_
    walk_at "lw go"
    have hl7 : (its.length : Int) = size := by omega
    have hok' : ∀ it ∈ its, It.Ok its.length it := by rw [hl7]; exact hok
    refine cl_law_holds (W := WB b) e7.iv h7 hIts hok' (by omega) fun H8 e8 => ?_
    refine ⟨true, rfl, ?_⟩
    refine ifNB_no rfl ?_
    walk_at "lw go"
    have e78 := e7.trans e8
    have e68 := e6.trans e78
    have hrw : ∀ row ∈ its.map It.row, Rw row := its_rw hok' (by omega)
    have lrs : (rs.map V.ref).length ≤ 4000 := by rw [List.length_map, F2.length hIts]; omega
    have lcut : (cutV (rs.map V.ref) (some 1) none).length ≤ 4000 := Nat.le_trans (cut_len _ _ _) lrs
    refine rd_cut (fun σ' H' => σ' = [some (.ref a), some (.ref b), v2, some (.int far), some (.int sh), some (.int size), some (.int many), some (.ref P), none, none, none, none] ∧ Ex (WB b) H7 H') ?_ ?_
    · have h8 := e8.at_ h7
      walk_at "lw go"
      refine ifD ?_ ?_ <;> intro hpos
      · walk_at "lw go"
        rename_i q H9 f9 e9 h9 r H10 f10 e10 h10 u H11 f11 e11 h11 w' H12 f12 e12 h12
        have e812 := (e9.trans e10).trans (e11.trans e12)
        have q12 := (e10.trans (e11.trans e12)).at_ h9
        have el : [V.ref q] ++ cutV (rs.map V.ref) (some 1) none = (q :: rs.drop 1).map V.ref := by rw [cut_from _ _ (by decide), List.map_cons, List.map_drop]; rfl
        rw [el] at h12
        have ll : ((It.deed "halt" :: its.drop 1).length : Int) = its.length := by rw [List.length_cons, List.length_drop]; omega
        refine cl_law_holds (W := WB b) (its := .deed "halt" :: its.drop 1) e12.iv h12 (.cons q12 (F2.drop 1 ((hIts.mono e8).mono e812))) (fun it hit => ?_) (by omega) fun H13 e13 => ?_
        · rw [ll]
          rcases List.mem_cons.mp hit with rfl | hit
          · show V.str "halt" ∈ DL; decide
          · exact hok' it (List.mem_of_mem_drop hit)
        walk_at "lw all"
        exact ⟨rfl, e8.trans (e812.trans e13)⟩
      · walk_at "lw all"
        exact ⟨rfl, e8⟩
    rintro σ' H9 ⟨rfl, e9⟩
    walk_at "lw go"
    rename_i le H10 e10 le0 le1
    refine cl_law_program (b := b) (far := 1 - far) (size := 1 + le) (many := 1 + le) (by omega) (by omega) (by omega) (by omega) e10.iv fun P2 H11 rs2 its2 e11 h11 hIts2 hlen2 hok2 => ?_
    walk_at "lw go"
    have hl2 : (its2.length : Int) = 1 + le := by omega
    refine cl_law_holds (W := WB b) e11.iv h11 hIts2 (by rw [hl2]; exact hok2) (by omega) fun H12 e12 => ?_
    refine ⟨true, rfl, ?_⟩
    refine ifNB_no rfl ?_
    walk_at "lw go"
    refine lc_w (W := WB b) (X := fun i x => x = .int (0 + (i : Nat))) (n := (1 + le).toNat) walk_range (fun n ys Hh => ∃ (rs : List Addr) (its : List It), ys = rs.map V.ref ∧ Its (WB b) Hh rs its ∧ its.length = n ∧ ∀ it ∈ its, It.Ok (1 + le) it) e12.iv (by omega) (fun _ _ => trivial)
      (fun n ys Ha Hb e ⟨rs, its, a1, a2, a3, a4⟩ => ⟨rs, its, a1, a2.mono e, a3, a4⟩) ⟨[], [], rfl, .nil, rfl, fun _ h => nomatch h⟩ ?_ ?_
    · rintro n x D ys H' QV QN hn' rfl hD hDa e3 ⟨rs, its, rfl, a2, a3, a4⟩ _ qv qn
      walk_at "lw go"
      refine iteT ?_
      walk_at "lw go"
      rename_i q H4 f4 e4 h4
      have ok4 : It.Ok (1 + le) (.set ((0 + (n : Int)) % 8) (0 + (n : Int))) := ⟨⟨by omega, by omega⟩, by omega, by omega⟩
      replace h4 : At (WB b) H4 q (.lst (It.row (.set ((0 + (n : Int)) % 8) (0 + (n : Int))))) := h4
      refine qv _ _ e4 ⟨rs ++ [q], its ++ [.set ((0 + (n : Int)) % 8) (0 + (n : Int))], by rw [List.map_append]; rfl, ?_, by rw [List.length_append, a3]; rfl, fun x hx => ?_⟩
      · refine F2.append (show F2 (fun r it => At (WB b) (Lw.hide D H4) r (.lst (It.row it))) [q] [_] from .cons (h4.hide (h4.ne (e4.at_ hDa) (row_ne _ _)) e4.iv (e4.at_ hDa)) .nil) ?_
        exact Its.mono (hide_ex e4 hDa) a2
      · rcases List.mem_append.mp hx with z | z
        · exact a4 x z
        · rw [List.mem_singleton.mp z]; exact ok4
    rintro I3 H13 ys hI e13 hI3 ⟨rs3, its3, rfl, hIts3, hl3, hok3⟩ _
    have hl3' : (its3.length : Int) = 1 + le := by omega
    walk_at "lw go"
    refine cl_law_holds (W := WB b) e13.iv hI3 hIts3 (by rw [hl3']; exact hok3) (by omega) fun H14 e14 => ?_
    refine ⟨true, rfl, ?_⟩
    refine ifNB_no rfl ?_
    walk_at "lw go"
    refine cl_law_ladder (b := b) (size := 1 + le + 8) (by omega) (by omega) e14.iv fun P4 H15 rs4 its4 e15 h15 hIts4 hlen4 hok4 => ?_
    walk_at "lw go"
    have hl4 : (its4.length : Int) = 1 + le + 8 := by omega
    refine cl_law_holds (W := WB b) e15.iv h15 hIts4 (by rw [hl4]; exact hok4) (by omega) fun H16 e16 => ?_
    refine ⟨true, rfl, ?_⟩
    refine ifNB_no rfl ?_
    have e716 : Ex (WB b) H7 H16 := (e9.trans (e10.trans (e11.trans e12))).trans ((e13.trans e14).trans (e15.trans e16))
    walk_at "lw go"
    refine rd_cut (fun σ' H' => σ' = [some (.ref a), some (.ref b), v2, some (.int far), some (.int sh), some (.int size), some (.int many), some (.ref P), some (.int (1 + le)), none, none, none] ∧ Ex (WB b) H7 H') ?_ ?_
    · have h16 := e716.at_ h7
      walk_at "lw go"
      refine ifI ?_ ?_ <;> intro hbig
      · walk_at "lw go"
        rename_i q H17 f17 e17 h17 r H18 f18 e18 h18 w' H19 f19 e19 h19
        have e1619 := e17.trans (e18.trans e19)
        have q19 := (e18.trans e19).at_ h17
        have el : rs.map V.ref ++ [V.ref q] = (rs ++ [q]).map V.ref := by rw [List.map_append]; rfl
        rw [el] at h19
        have rowsL : LRows (WB b) H19 (rs ++ [q]) (its.map It.row ++ [(It.deed "halt").row]) := F2.append (R := fun r row => At (WB b) H19 r (.lst row)) (.cons q19 .nil) (its_rows ((hIts.mono e716).mono e1619))
        refine cl_law_value (W := WB b) e19.iv h19 rowsL (by rw [List.length_append, List.length_map]; simp; omega) fun va H20 ts e20 sq hq => ?_
        walk_at "lw go"
        refine ⟨WB b, va, ts, _, 4000, rfl, e20.iv, sq, hq, fun row hrow => ?_, by rw [List.length_append, List.length_map]; simp; omega, ?_, fun H21 e21 => ?_⟩
        · rcases List.mem_append.mp hrow with z | z
          · exact hrw row z
          · rw [List.mem_singleton.mp z]
            exact (itF (it := .deed "halt") (n := 1) (by show V.str "halt" ∈ DL; decide) (by decide)).rw
        · unfold faultF
          rw [if_pos (by rw [List.length_append, List.length_map]; simp; omega)]
        walk_at "lw all"
        exact ⟨rfl, e716.trans (e1619.trans (e20.trans e21))⟩
      · walk_at "lw all"
        exact ⟨rfl, e716⟩
    rintro σ' H17 ⟨rfl, e717⟩
    have h717 := e717.at_ h7
    walk_at "lw go"
    rename_i B H18 f18 e18 h18 pl H19 e19 p0 p1
    have e719 : Ex (WB b) H7 H19 := e717.trans (e18.trans e19)
    have lrI := hIts.length
    have hlr := its_rows hIts
    have hlen2 : ((its.map It.row).length : Int) = size := by rw [List.length_map]; omega
    have hgood : size ≤ 4000 → ∀ row ∈ its.map It.row, isIns row size = true := fun h row hrow => by
      obtain ⟨it, hit, rfl⟩ := List.mem_map.mp hrow
      exact ok_isIns (hok it hit)
    have due : (if pl < size then pl else size) = pl := by
      by_cases q : size > 1
      · rw [if_pos q] at p1
        rw [if_pos p1]
      · rw [if_neg q] at p1
        split <;> omega
    have bs := BS.zero hrw z0
    have hbr : F2 (fun q row => At (WB b) H19 q (.lst row) ∧ q ≠ B) rs (its.map It.row) := F2.mono (fun q row x => ⟨e19.at_ (e18.at_ x), x.ne_fresh f18⟩) (F2.mono (fun _ _ a => e717.at_ a) hlr)
    have h19 := e19.at_ h18
    refine rd_cut (fun σ' H' => ∃ (B2 : Addr) (brs2 : List Addr) (brows2 : List (List V)), σ' = [some (.ref a), some (.ref b), v2, some (.int far), some (.int sh), some (.int size), some (.int many), some (.ref P), some (.int (1 + le)), some (.ref B2), some (.int pl), none] ∧ Ex (WB b) H17 H' ∧
      At (WB b) H' B2 (.lst (brs2.map V.ref)) ∧ F2 (fun q row => At (WB b) H' q (.lst row)) brs2 brows2 ∧ BS (its.map It.row) brows2 size pl 1) ?_ ?_
    · walk_at "lw go"
      refine ifI ?_ ?_ <;> intro hz
      · subst hz
        walk_at "lw go"
        rename_i p20 H20 f20 e20 h20
        refine cl_law_bent (it := .set 1 2) (n := 1) e20.iv h20 ⟨⟨by decide, by decide⟩, by decide, by decide⟩ (by decide) (by decide) fun q H21 row e21 h21 bad rw21 => ?_
        walk_at "lw go"
        rename_i p22 H22 f22 e22 h22
        have bz := BS.stepZ (place := pl) bs rw21 bad (by rw [if_neg (by decide)] at p1; omega)
        rw [due] at bz
        exact ⟨p22, [q], [row], rfl, (e18.trans e19).trans ((e20.trans e21).trans e22), h22, .cons (e22.at_ h21) .nil, bz⟩
      · have hr0 : 0 < size := by omega
        have hpl : pl < size := by
          by_cases q : size > 1
          · rw [if_pos q] at p1; exact p1
          · rw [if_neg q] at p1; omega
        obtain ⟨it, hit⟩ : ∃ it, its[pl.toNat]? = some it := ⟨_, List.getElem?_eq_getElem (by omega)⟩
        obtain ⟨q0, hq0, hq1⟩ := hIts.getR hit
        have qi : atI (rs.map V.ref) pl = some (.ref q0) := at_in p0 (by rw [List.getElem?_map, hq0]; rfl)
        have h7' := e719.at_ h7
        walk_at "lw go"
        refine cl_law_bent (it := it) (n := size) e19.iv (e719.at_ hq1) (hok it (List.mem_of_getElem? hit)) hr0 (by omega) fun q H21 row e21 h21 bad rw21 => ?_
        walk_at "lw go"
        have hB21 := e21.at_ h19
        have hbne : rs ≠ [] := fun z => by rw [z] at lrI; simp at lrI; omega
        refine rd_set (W := WB b) (H0 := H17) ((e18.trans e19).trans e21) f18 hB21 (m := pl.toNat) (ix_in p0 (by rw [List.length_map]; omega)) fun H22 e22 h22 o22 => ?_
        have bz := BS.step bs hr0 hlen2 rw21 bad p0 hpl
        rw [due] at bz
        refine ⟨B, rs.set pl.toNat q, (its.map It.row).set pl.toNat row, rfl, e22, by rw [List.map_set]; exact h22, ?_, bz⟩
        have qB : q ≠ B := h21.ne hB21 (bent_ne rw21 hbne)
        exact F2.set (R := fun q row => At (WB b) H22 q (.lst row)) (o22 q _ qB h21) pl.toNat (F2.mono (R := fun q row => At (WB b) H19 q (.lst row) ∧ q ≠ B) (fun q' row' x => o22 q' _ x.2 (e21.at_ x.1)) hbr)
    rintro σ' H20 ⟨B2, brs2, brows2, rfl, e20, hB2, hbr2, bs2⟩
    have lb := hbr2.length
    obtain ⟨j, fj, ej⟩ := bs2.fault (by omega) z0 hlen2 hgood
    rw [if_neg (by omega)] at ej
    have lb2 : brows2.length ≤ 4013 := by
      by_cases q : size = 0
      · obtain ⟨_, z2⟩ := bs2.z q
        obtain ⟨row, rfl, _⟩ := z2 (by omega)
        show 1 ≤ 4013
        decide
      · have := (bs2.p (by omega)).1
        omega
    walk_at "lw go"
    refine cl_law_value (W := WB b) e20.iv hB2 hbr2 (by omega) fun va2 H21 ts2 e21 sq2 hq2 => ?_
    walk_at "lw go"
    exact ⟨WB b, va2, ts2, brows2, j, by rw [ej]; rfl, e21.iv, sq2, hq2, bs2.rw, lb2, fj, fun H22 _ => k H22⟩

end

theorem all_mk {l : PySem.W.OpenLaw} {w : World} {K : PySem.W.Frag} {h : Heap} {mg : Str → Option Value} {fa : Addr} (X : K.In h) (G : h.Ns mainGlobals mg) (hfa : mg "law" = some (.ref fa))
    {f0 : Addr} {od0 an0 : Option Addr} {sl0 : Array (Option Value)} {oc0 kV0 dc0 pm0 cd0 ct0 : Value}
    {f1 : Addr} {od1 an1 : Option Addr} {sl1 : Array (Option Value)} {oc1 kV1 dc1 pm1 cd1 ct1 : Value}
    {f2 : Addr} {od2 an2 : Option Addr} {sl2 : Array (Option Value)} {oc2 kV2 dc2 pm2 cd2 ct2 : Value}
    {f3 : Addr} {od3 an3 : Option Addr} {sl3 : Array (Option Value)} {oc3 kV3 dc3 pm3 cd3 ct3 : Value}
    {f4 : Addr} {od4 an4 : Option Addr} {sl4 : Array (Option Value)} {oc4 kV4 dc4 pm4 cd4 ct4 : Value}
    {f5 : Addr} {od5 an5 : Option Addr} {sl5 : Array (Option Value)} {oc5 kV5 dc5 pm5 cd5 ct5 : Value}
    {f6 : Addr} {od6 an6 : Option Addr} {sl6 : Array (Option Value)} {oc6 kV6 dc6 pm6 cd6 ct6 : Value}
    {f7 : Addr} {od7 an7 : Option Addr} {sl7 : Array (Option Value)} {oc7 kV7 dc7 pm7 cd7 ct7 : Value}
    {f8 : Addr} {od8 an8 : Option Addr} {sl8 : Array (Option Value)} {oc8 kV8 dc8 pm8 cd8 ct8 : Value}
    {f9 : Addr} {od9 an9 : Option Addr} {sl9 : Array (Option Value)} {oc9 kV9 dc9 pm9 cd9 ct9 : Value}
    {f10 : Addr} {od10 an10 : Option Addr} {sl10 : Array (Option Value)} {oc10 kV10 dc10 pm10 cd10 ct10 : Value}
    {f11 : Addr} {od11 an11 : Option Addr} {sl11 : Array (Option Value)} {oc11 kV11 dc11 pm11 cd11 ct11 : Value}
    {f12 : Addr} {od12 an12 : Option Addr} {sl12 : Array (Option Value)} {oc12 kV12 dc12 pm12 cd12 ct12 : Value}
    {f13 : Addr} {od13 an13 : Option Addr} {sl13 : Array (Option Value)} {oc13 kV13 dc13 pm13 cd13 ct13 : Value}
    {f14 : Addr} {od14 an14 : Option Addr} {sl14 : Array (Option Value)} {oc14 kV14 dc14 pm14 cd14 ct14 : Value}
    {f15 : Addr} {od15 an15 : Option Addr} {sl15 : Array (Option Value)} {oc15 kV15 dc15 pm15 cd15 ct15 : Value}
    {f16 : Addr} {od16 an16 : Option Addr} {sl16 : Array (Option Value)} {oc16 kV16 dc16 pm16 cd16 ct16 : Value}
    {f17 : Addr} {od17 an17 : Option Addr} {sl17 : Array (Option Value)} {oc17 kV17 dc17 pm17 cd17 ct17 : Value}
    {f18 : Addr} {od18 an18 : Option Addr} {sl18 : Array (Option Value)} {oc18 kV18 dc18 pm18 cd18 ct18 : Value}
    {f19 : Addr} {od19 an19 : Option Addr} {sl19 : Array (Option Value)} {oc19 kV19 dc19 pm19 cd19 ct19 : Value}
    {f20 : Addr} {od20 an20 : Option Addr} {sl20 : Array (Option Value)} {oc20 kV20 dc20 pm20 cd20 ct20 : Value}
    {f21 : Addr} {od21 an21 : Option Addr} {sl21 : Array (Option Value)} {oc21 kV21 dc21 pm21 cd21 ct21 : Value}
    {f22 : Addr} {od22 an22 : Option Addr} {sl22 : Array (Option Value)} {oc22 kV22 dc22 pm22 cd22 ct22 : Value}
    {aK_DEEDS : Addr} {its_DEEDS : Array Value} {n_DEEDS : Nat} {dd_DEEDS : Option Addr} {sl_DEEDS : Array (Option Value)}
    {tk_LONGEST : Tok}
    {tk_REGISTERS : Tok}
    {aK_ROLES : Addr} {es_ROLES : Array DictEntry} {n_ROLES : Nat}
    {r_ROLES_set : Addr} {its_ROLES_set : Array Value} {n_ROLES_set : Nat} {dd_ROLES_set : Option Addr} {sl_ROLES_set : Array (Option Value)}
    {r_ROLES_move : Addr} {its_ROLES_move : Array Value} {n_ROLES_move : Nat} {dd_ROLES_move : Option Addr} {sl_ROLES_move : Array (Option Value)}
    {r_ROLES_add : Addr} {its_ROLES_add : Array Value} {n_ROLES_add : Nat} {dd_ROLES_add : Option Addr} {sl_ROLES_add : Array (Option Value)}
    {r_ROLES_sub : Addr} {its_ROLES_sub : Array Value} {n_ROLES_sub : Nat} {dd_ROLES_sub : Option Addr} {sl_ROLES_sub : Array (Option Value)}
    {r_ROLES_load : Addr} {its_ROLES_load : Array Value} {n_ROLES_load : Nat} {dd_ROLES_load : Option Addr} {sl_ROLES_load : Array (Option Value)}
    {r_ROLES_store : Addr} {its_ROLES_store : Array Value} {n_ROLES_store : Nat} {dd_ROLES_store : Option Addr} {sl_ROLES_store : Array (Option Value)}
    {r_ROLES_jump : Addr} {its_ROLES_jump : Array Value} {n_ROLES_jump : Nat} {dd_ROLES_jump : Option Addr} {sl_ROLES_jump : Array (Option Value)}
    {r_ROLES_zero : Addr} {its_ROLES_zero : Array Value} {n_ROLES_zero : Nat} {dd_ROLES_zero : Option Addr} {sl_ROLES_zero : Array (Option Value)}
    {r_ROLES_deed : Addr} {its_ROLES_deed : Array Value} {n_ROLES_deed : Nat} {dd_ROLES_deed : Option Addr} {sl_ROLES_deed : Array (Option Value)}
    {tk_WORD : Tok}
    {cc_CapsteadError : Addr}
    {cc_InputError : Addr}
    {cc_QuestionError : Addr}
    {cc_BadNumber : Addr}
    {cc_BadProgram : Addr}
    {ci_BadProgram N_BadProgram da_BadProgram cl_BadProgram : Addr} {nm_BadProgram q_BadProgram qu_BadProgram m_BadProgram fi_BadProgram : Str} {bs_BadProgram bm_BadProgram sub_BadProgram : List Value} {sn_BadProgram : List Str} {ab_BadProgram : Bool} {col_BadProgram : Option Bool} {dd_BadProgram od_BadProgram an_BadProgram cld_BadProgram cdd_BadProgram : Option Addr} {k0_BadProgram k1_BadProgram k2_BadProgram k3_BadProgram k5_BadProgram : Option Value} {oc_BadProgram doc_BadProgram pm_BadProgram ct_BadProgram clv_BadProgram ccl_BadProgram : Value} {osl_BadProgram csl_BadProgram ccs_BadProgram : Array (Option Value)} {vs_BadProgram : Array Value} {nn_BadProgram : Nat} {tf_BadProgram : Tok} {p1_BadProgram p2_BadProgram a0_BadProgram a1_BadProgram a2_BadProgram a3_BadProgram a4_BadProgram a5_BadProgram q1_BadProgram q2_BadProgram q3_BadProgram q4_BadProgram : Pos}
    {cc_BadLine : Addr}
    (a0 : PySem.W.nsIn K mainGlobals "is_integer" = some (some (.ref f0))) (l0 : K.lookup f0 = some ⟨oc0, od0, .func (PySem.W.fnOf "is_integer" "is_integer" (defArgs s_is_integer) (defBody s_is_integer) (defScope s_is_integer) .none kV0 dc0 pm0 an0 cd0 ct0), sl0⟩) (c0 : PySem.W.codeIn K cd0 "is_integer" = true) (k0 : PySem.W.keepIn K (.ref f0) = true)
    (a1 : PySem.W.nsIn K mainGlobals "is_row" = some (some (.ref f1))) (l1 : K.lookup f1 = some ⟨oc1, od1, .func (PySem.W.fnOf "is_row" "is_row" (defArgs s_is_row) (defBody s_is_row) (defScope s_is_row) .none kV1 dc1 pm1 an1 cd1 ct1), sl1⟩) (c1 : PySem.W.codeIn K cd1 "is_row" = true) (k1 : PySem.W.keepIn K (.ref f1) = true)
    (a2 : PySem.W.nsIn K mainGlobals "_bound" = some (some (.ref f2))) (l2 : K.lookup f2 = some ⟨oc2, od2, .func (PySem.W.fnOf "_bound" "_bound" (defArgs s_bound) (defBody s_bound) (defScope s_bound) .none kV2 dc2 pm2 an2 cd2 ct2), sl2⟩) (c2 : PySem.W.codeIn K cd2 "_bound" = true) (k2 : PySem.W.keepIn K (.ref f2) = true)
    (a3 : PySem.W.nsIn K mainGlobals "_fits" = some (some (.ref f3))) (l3 : K.lookup f3 = some ⟨oc3, od3, .func (PySem.W.fnOf "_fits" "_fits" (defArgs s_fits) (defBody s_fits) (defScope s_fits) .none kV3 dc3 pm3 an3 cd3 ct3), sl3⟩) (c3 : PySem.W.codeIn K cd3 "_fits" = true) (k3 : PySem.W.keepIn K (.ref f3) = true)
    (a4 : PySem.W.nsIn K mainGlobals "is_instruction" = some (some (.ref f4))) (l4 : K.lookup f4 = some ⟨oc4, od4, .func (PySem.W.fnOf "is_instruction" "is_instruction" (defArgs s_is_instruction) (defBody s_is_instruction) (defScope s_is_instruction) .none kV4 dc4 pm4 an4 cd4 ct4), sl4⟩) (c4 : PySem.W.codeIn K cd4 "is_instruction" = true) (k4 : PySem.W.keepIn K (.ref f4) = true)
    (a5 : PySem.W.nsIn K mainGlobals "check_program" = some (some (.ref f5))) (l5 : K.lookup f5 = some ⟨oc5, od5, .func (PySem.W.fnOf "check_program" "check_program" (defArgs s_check_program) (defBody s_check_program) (defScope s_check_program) .none kV5 dc5 pm5 an5 cd5 ct5), sl5⟩) (c5 : PySem.W.codeIn K cd5 "check_program" = true) (k5 : PySem.W.keepIn K (.ref f5) = true)
    (a6 : PySem.W.nsIn K mainGlobals "_followers" = some (some (.ref f6))) (l6 : K.lookup f6 = some ⟨oc6, od6, .func (PySem.W.fnOf "_followers" "_followers" (defArgs s_followers) (defBody s_followers) (defScope s_followers) .none kV6 dc6 pm6 an6 cd6 ct6), sl6⟩) (c6 : PySem.W.codeIn K cd6 "_followers" = true) (k6 : PySem.W.keepIn K (.ref f6) = true)
    (a7 : PySem.W.nsIn K mainGlobals "_distances" = some (some (.ref f7))) (l7 : K.lookup f7 = some ⟨oc7, od7, .func (PySem.W.fnOf "_distances" "_distances" (defArgs s_distances) (defBody s_distances) (defScope s_distances) .none kV7 dc7 pm7 an7 cd7 ct7), sl7⟩) (c7 : PySem.W.codeIn K cd7 "_distances" = true) (k7 : PySem.W.keepIn K (.ref f7) = true)
    (a8 : PySem.W.nsIn K mainGlobals "way_to_end" = some (some (.ref f8))) (l8 : K.lookup f8 = some ⟨oc8, od8, .func (PySem.W.fnOf "way_to_end" "way_to_end" (defArgs s_way_to_end) (defBody s_way_to_end) (defScope s_way_to_end) .none kV8 dc8 pm8 an8 cd8 ct8), sl8⟩) (c8 : PySem.W.codeIn K cd8 "way_to_end" = true) (k8 : PySem.W.keepIn K (.ref f8) = true)
    (a9 : PySem.W.nsIn K mainGlobals "_law_pool" = some (some (.ref f9))) (l9 : K.lookup f9 = some ⟨oc9, od9, .func (PySem.W.fnOf "_law_pool" "_law_pool" (defArgs s_law_pool) (defBody s_law_pool) (defScope s_law_pool) .none kV9 dc9 pm9 an9 cd9 ct9), sl9⟩) (c9 : PySem.W.codeIn K cd9 "_law_pool" = true) (k9 : PySem.W.keepIn K (.ref f9) = true)
    (a10 : PySem.W.nsIn K mainGlobals "_law_draw" = some (some (.ref f10))) (l10 : K.lookup f10 = some ⟨oc10, od10, .func (PySem.W.fnOf "_law_draw" "_law_draw" (defArgs s_law_draw) (defBody s_law_draw) (defScope s_law_draw) .none kV10 dc10 pm10 an10 cd10 ct10), sl10⟩) (c10 : PySem.W.codeIn K cd10 "_law_draw" = true) (k10 : PySem.W.keepIn K (.ref f10) = true)
    (a11 : PySem.W.nsIn K mainGlobals "_law_is_integer" = some (some (.ref f11))) (l11 : K.lookup f11 = some ⟨oc11, od11, .func (PySem.W.fnOf "_law_is_integer" "_law_is_integer" (defArgs s_law_is_integer) (defBody s_law_is_integer) (defScope s_law_is_integer) .none kV11 dc11 pm11 an11 cd11 ct11), sl11⟩) (c11 : PySem.W.codeIn K cd11 "_law_is_integer" = true) (k11 : PySem.W.keepIn K (.ref f11) = true)
    (a12 : PySem.W.nsIn K mainGlobals "_law_flow" = some (some (.ref f12))) (l12 : K.lookup f12 = some ⟨oc12, od12, .func (PySem.W.fnOf "_law_flow" "_law_flow" (defArgs s_law_flow) (defBody s_law_flow) (defScope s_law_flow) .none kV12 dc12 pm12 an12 cd12 ct12), sl12⟩) (c12 : PySem.W.codeIn K cd12 "_law_flow" = true) (k12 : PySem.W.keepIn K (.ref f12) = true)
    (a13 : PySem.W.nsIn K mainGlobals "_law_program" = some (some (.ref f13))) (l13 : K.lookup f13 = some ⟨oc13, od13, .func (PySem.W.fnOf "_law_program" "_law_program" (defArgs s_law_program) (defBody s_law_program) (defScope s_law_program) .none kV13 dc13 pm13 an13 cd13 ct13), sl13⟩) (c13 : PySem.W.codeIn K cd13 "_law_program" = true) (k13 : PySem.W.keepIn K (.ref f13) = true)
    (a14 : PySem.W.nsIn K mainGlobals "_law_ladder" = some (some (.ref f14))) (l14 : K.lookup f14 = some ⟨oc14, od14, .func (PySem.W.fnOf "_law_ladder" "_law_ladder" (defArgs s_law_ladder) (defBody s_law_ladder) (defScope s_law_ladder) .none kV14 dc14 pm14 an14 cd14 ct14), sl14⟩) (c14 : PySem.W.codeIn K cd14 "_law_ladder" = true) (k14 : PySem.W.keepIn K (.ref f14) = true)
    (a15 : PySem.W.nsIn K mainGlobals "_law_behind" = some (some (.ref f15))) (l15 : K.lookup f15 = some ⟨oc15, od15, .func (PySem.W.fnOf "_law_behind" "_law_behind" (defArgs s_law_behind) (defBody s_law_behind) (defScope s_law_behind) .none kV15 dc15 pm15 an15 cd15 ct15), sl15⟩) (c15 : PySem.W.codeIn K cd15 "_law_behind" = true) (k15 : PySem.W.keepIn K (.ref f15) = true)
    (a16 : PySem.W.nsIn K mainGlobals "_law_distances" = some (some (.ref f16))) (l16 : K.lookup f16 = some ⟨oc16, od16, .func (PySem.W.fnOf "_law_distances" "_law_distances" (defArgs s_law_distances) (defBody s_law_distances) (defScope s_law_distances) .none kV16 dc16 pm16 an16 cd16 ct16), sl16⟩) (c16 : PySem.W.codeIn K cd16 "_law_distances" = true) (k16 : PySem.W.keepIn K (.ref f16) = true)
    (a17 : PySem.W.nsIn K mainGlobals "_law_due" = some (some (.ref f17))) (l17 : K.lookup f17 = some ⟨oc17, od17, .func (PySem.W.fnOf "_law_due" "_law_due" (defArgs s_law_due) (defBody s_law_due) (defScope s_law_due) .none kV17 dc17 pm17 an17 cd17 ct17), sl17⟩) (c17 : PySem.W.codeIn K cd17 "_law_due" = true) (k17 : PySem.W.keepIn K (.ref f17) = true)
    (a18 : PySem.W.nsIn K mainGlobals "_law_value" = some (some (.ref f18))) (l18 : K.lookup f18 = some ⟨oc18, od18, .func (PySem.W.fnOf "_law_value" "_law_value" (defArgs s_law_value) (defBody s_law_value) (defScope s_law_value) .none kV18 dc18 pm18 an18 cd18 ct18), sl18⟩) (c18 : PySem.W.codeIn K cd18 "_law_value" = true) (k18 : PySem.W.keepIn K (.ref f18) = true)
    (a19 : PySem.W.nsIn K mainGlobals "_law_holds" = some (some (.ref f19))) (l19 : K.lookup f19 = some ⟨oc19, od19, .func (PySem.W.fnOf "_law_holds" "_law_holds" (defArgs s_law_holds) (defBody s_law_holds) (defScope s_law_holds) .none kV19 dc19 pm19 an19 cd19 ct19), sl19⟩) (c19 : PySem.W.codeIn K cd19 "_law_holds" = true) (k19 : PySem.W.keepIn K (.ref f19) = true)
    (a20 : PySem.W.nsIn K mainGlobals "_law_refused" = some (some (.ref f20))) (l20 : K.lookup f20 = some ⟨oc20, od20, .func (PySem.W.fnOf "_law_refused" "_law_refused" (defArgs s_law_refused) (defBody s_law_refused) (defScope s_law_refused) .none kV20 dc20 pm20 an20 cd20 ct20), sl20⟩) (c20 : PySem.W.codeIn K cd20 "_law_refused" = true) (k20 : PySem.W.keepIn K (.ref f20) = true)
    (a21 : PySem.W.nsIn K mainGlobals "_law_bent" = some (some (.ref f21))) (l21 : K.lookup f21 = some ⟨oc21, od21, .func (PySem.W.fnOf "_law_bent" "_law_bent" (defArgs s_law_bent) (defBody s_law_bent) (defScope s_law_bent) .none kV21 dc21 pm21 an21 cd21 ct21), sl21⟩) (c21 : PySem.W.codeIn K cd21 "_law_bent" = true) (k21 : PySem.W.keepIn K (.ref f21) = true)
    (a22 : PySem.W.nsIn K mainGlobals "law" = some (some (.ref f22))) (l22 : K.lookup f22 = some ⟨oc22, od22, .func (PySem.W.fnOf "law" "law" (defArgs s_law) (defBody s_law) (defScope s_law) .none kV22 dc22 pm22 an22 cd22 ct22), sl22⟩) (c22 : PySem.W.codeIn K cd22 "law" = true) (k22 : PySem.W.keepIn K (.ref f22) = true)
    (ka_DEEDS : PySem.W.nsIn K mainGlobals "DEEDS" = some (some (.ref aK_DEEDS))) (kl_DEEDS : K.lookup aK_DEEDS = some ⟨.type "tuple", dd_DEEDS, .seq its_DEEDS n_DEEDS, sl_DEEDS⟩) (kv_DEEDS : its_DEEDS.toList.map absV = ([.str "halt", .str "until", .str "clock", .str "look", .str "claim", .str "free", .str "copy", .str "drop", .str "revoke", .str "map", .str "unmap", .str "send", .str "take", .str "trysend", .str "trytake", .str "call", .str "reply", .str "ring", .str "await", .str "tryawait", .str "ack", .str "give", .str "pull"] : List V).map some)
    (ka_LONGEST : PySem.W.nsIn K mainGlobals "LONGEST" = some (some (.int 4000 tk_LONGEST)))
    (ka_REGISTERS : PySem.W.nsIn K mainGlobals "REGISTERS" = some (some (.int 8 tk_REGISTERS)))
    (ka_ROLES : PySem.W.nsIn K mainGlobals "ROLES" = some (some (.ref aK_ROLES))) (kl_ROLES : K.lookup aK_ROLES = some ⟨.type "dict", none, .dict es_ROLES n_ROLES, #[]⟩) (kk_ROLES : PySem.W.KeysLit w.params es_ROLES.toList) (kz_ROLES : (aK_ROLES == sysModules) = false) (kq_ROLES : es_ROLES.toList.map Lw.keyS = (["set", "move", "add", "sub", "load", "store", "jump", "zero", "deed"] : List Str).map some)
    (di_ROLES_set : PySem.W.nsIn K aK_ROLES "set" = some (some (.ref r_ROLES_set))) (kl_ROLES_set : K.lookup r_ROLES_set = some ⟨.type "tuple", dd_ROLES_set, .seq its_ROLES_set n_ROLES_set, sl_ROLES_set⟩) (kv_ROLES_set : its_ROLES_set.toList.map absV = ([.str "register", .str "word"] : List V).map some)
    (di_ROLES_move : PySem.W.nsIn K aK_ROLES "move" = some (some (.ref r_ROLES_move))) (kl_ROLES_move : K.lookup r_ROLES_move = some ⟨.type "tuple", dd_ROLES_move, .seq its_ROLES_move n_ROLES_move, sl_ROLES_move⟩) (kv_ROLES_move : its_ROLES_move.toList.map absV = ([.str "register", .str "register"] : List V).map some)
    (di_ROLES_add : PySem.W.nsIn K aK_ROLES "add" = some (some (.ref r_ROLES_add))) (kl_ROLES_add : K.lookup r_ROLES_add = some ⟨.type "tuple", dd_ROLES_add, .seq its_ROLES_add n_ROLES_add, sl_ROLES_add⟩) (kv_ROLES_add : its_ROLES_add.toList.map absV = ([.str "register", .str "register"] : List V).map some)
    (di_ROLES_sub : PySem.W.nsIn K aK_ROLES "sub" = some (some (.ref r_ROLES_sub))) (kl_ROLES_sub : K.lookup r_ROLES_sub = some ⟨.type "tuple", dd_ROLES_sub, .seq its_ROLES_sub n_ROLES_sub, sl_ROLES_sub⟩) (kv_ROLES_sub : its_ROLES_sub.toList.map absV = ([.str "register", .str "register"] : List V).map some)
    (di_ROLES_load : PySem.W.nsIn K aK_ROLES "load" = some (some (.ref r_ROLES_load))) (kl_ROLES_load : K.lookup r_ROLES_load = some ⟨.type "tuple", dd_ROLES_load, .seq its_ROLES_load n_ROLES_load, sl_ROLES_load⟩) (kv_ROLES_load : its_ROLES_load.toList.map absV = ([.str "register", .str "register"] : List V).map some)
    (di_ROLES_store : PySem.W.nsIn K aK_ROLES "store" = some (some (.ref r_ROLES_store))) (kl_ROLES_store : K.lookup r_ROLES_store = some ⟨.type "tuple", dd_ROLES_store, .seq its_ROLES_store n_ROLES_store, sl_ROLES_store⟩) (kv_ROLES_store : its_ROLES_store.toList.map absV = ([.str "register", .str "register"] : List V).map some)
    (di_ROLES_jump : PySem.W.nsIn K aK_ROLES "jump" = some (some (.ref r_ROLES_jump))) (kl_ROLES_jump : K.lookup r_ROLES_jump = some ⟨.type "tuple", dd_ROLES_jump, .seq its_ROLES_jump n_ROLES_jump, sl_ROLES_jump⟩) (kv_ROLES_jump : its_ROLES_jump.toList.map absV = ([.str "target"] : List V).map some)
    (di_ROLES_zero : PySem.W.nsIn K aK_ROLES "zero" = some (some (.ref r_ROLES_zero))) (kl_ROLES_zero : K.lookup r_ROLES_zero = some ⟨.type "tuple", dd_ROLES_zero, .seq its_ROLES_zero n_ROLES_zero, sl_ROLES_zero⟩) (kv_ROLES_zero : its_ROLES_zero.toList.map absV = ([.str "register", .str "target"] : List V).map some)
    (di_ROLES_deed : PySem.W.nsIn K aK_ROLES "deed" = some (some (.ref r_ROLES_deed))) (kl_ROLES_deed : K.lookup r_ROLES_deed = some ⟨.type "tuple", dd_ROLES_deed, .seq its_ROLES_deed n_ROLES_deed, sl_ROLES_deed⟩) (kv_ROLES_deed : its_ROLES_deed.toList.map absV = ([.str "deed"] : List V).map some)
    (ka_WORD : PySem.W.nsIn K mainGlobals "WORD" = some (some (.int 1048576 tk_WORD)))
    (ka_CapsteadError : PySem.W.nsIn K mainGlobals "CapsteadError" = some (some (.ref cc_CapsteadError)))
    (ka_InputError : PySem.W.nsIn K mainGlobals "InputError" = some (some (.ref cc_InputError)))
    (ka_QuestionError : PySem.W.nsIn K mainGlobals "QuestionError" = some (some (.ref cc_QuestionError)))
    (ka_BadNumber : PySem.W.nsIn K mainGlobals "BadNumber" = some (some (.ref cc_BadNumber)))
    (ka_BadProgram : PySem.W.nsIn K mainGlobals "BadProgram" = some (some (.ref cc_BadProgram)))
    (ka_BadLine : PySem.W.nsIn K mainGlobals "BadLine" = some (some (.ref cc_BadLine)))
    (exL_BadProgram : K.lookup cc_BadProgram = some (excClassObj nm_BadProgram q_BadProgram cc_BadProgram N_BadProgram bs_BadProgram bm_BadProgram true sn_BadProgram sub_BadProgram ab_BadProgram col_BadProgram dd_BadProgram k0_BadProgram k1_BadProgram k2_BadProgram k3_BadProgram k5_BadProgram "ValueError.__new__"))
    (exV_BadProgram : PySem.HandSPX.refsVE bm_BadProgram = true)
    (esa_BadProgram : PySem.W.findIn K (.ref cc_BadProgram) "__setattr__" = some (some (.builtin "object.__setattr__")))
    (ega_BadProgram : PySem.W.findIn K (.ref cc_BadProgram) "__getattribute__" = some (some (.builtin "BaseException.__getattribute__")))
    (egg_BadProgram : PySem.W.findIn K (.ref cc_BadProgram) "__getattr__" = some none)
    (enb_BadProgram : PySem.W.findIn K (.ref cc_BadProgram) "index" = some none)
    (efc_BadProgram : PySem.W.findIn K (.ref cc_BadProgram) "__class__" = some (some (.builtin "object.__class__")))
    (eiC_BadProgram : PySem.W.findIn K (.ref cc_BadProgram) "__init__" = some (some (.ref ci_BadProgram)))
    (etC_BadProgram : PySem.W.typeIn K (.ref ci_BadProgram) = some (.type "function"))
    (ekC_BadProgram : PySem.W.keepIn K (.ref cc_BadProgram) = true)
    (eeC_BadProgram : PySem.W.subIn K (.ref cc_BadProgram) (.type "BaseException") = some true)
    (eyC_BadProgram : PySem.W.typeIn K (.ref cc_BadProgram) = some (.type "type"))
    (ehC_BadProgram : PySem.W.hasDictIn K cc_BadProgram = true)
    (ejC_BadProgram : PySem.W.isClsIn K cc_BadProgram = true)
    (esC_BadProgram : PySem.W.subIn K (.ref cc_BadProgram) (.ref cc_BadProgram) = some true)
    (evC_BadProgram : PySem.W.subIn K (.ref cc_BadProgram) (.type "ValueError") = some true)
    (eoC_BadProgram : PySem.W.mroIn K cc_BadProgram (.type "object") = some true)
    (emC_BadProgram : PySem.W.mroIn K cc_BadProgram (.ref cc_BadProgram) = some true)
    (eal_BadProgram : PySem.W.ks_superIn K cc_BadProgram cc_BadProgram "__init__" = some (some (.builtin "ValueError.__init__")))
    (el1_BadProgram : K.lookup ci_BadProgram = some ⟨oc_BadProgram, od_BadProgram, .func (PySem.W.ksFn "__init__" qu_BadProgram (PySem.SupX.iA "index" p1_BadProgram p2_BadProgram) [PySem.SupX.iSup m_BadProgram nn_BadProgram a0_BadProgram a1_BadProgram a2_BadProgram a3_BadProgram a4_BadProgram a5_BadProgram, PySem.SupX.iSt "index" q1_BadProgram q2_BadProgram q3_BadProgram q4_BadProgram] (PySem.SupX.iS "index") .none .none doc_BadProgram pm_BadProgram an_BadProgram (.ref da_BadProgram) ct_BadProgram cl_BadProgram), osl_BadProgram⟩)
    (ec1_BadProgram : PySem.W.codeIn K (.ref da_BadProgram) qu_BadProgram = true)
    (ece_BadProgram : K.lookup cl_BadProgram = some ⟨clv_BadProgram, cld_BadProgram, .cell (some (.ref cc_BadProgram)), csl_BadProgram⟩)
    (ecd_BadProgram : K.lookup da_BadProgram = some ⟨ccl_BadProgram, cdd_BadProgram, .fields vs_BadProgram, ccs_BadProgram⟩)
    (evs_BadProgram : vs_BadProgram[2]? = some (.str fi_BadProgram tf_BadProgram))
    (efi_BadProgram : ((l.prog.main.file : Str) == fi_BadProgram) = true)
    (epl_BadProgram : (a2_BadProgram.endLine == a4_BadProgram.line) = true)
    (ek_CapsteadError_BadProgram : PySem.W.kitOne K (.ref cc_BadProgram) (.ref cc_CapsteadError) = some true)
    (ek_InputError_BadProgram : PySem.W.kitOne K (.ref cc_BadProgram) (.ref cc_InputError) = some true)
    (ek_QuestionError_BadProgram : PySem.W.kitOne K (.ref cc_BadProgram) (.ref cc_QuestionError) = some false)
    (ek_BadNumber_BadProgram : PySem.W.kitOne K (.ref cc_BadProgram) (.ref cc_BadNumber) = some false)
    (ek_BadProgram_BadProgram : PySem.W.kitOne K (.ref cc_BadProgram) (.ref cc_BadProgram) = some true)
    (ek_BadLine_BadProgram : PySem.W.kitOne K (.ref cc_BadProgram) (.ref cc_BadLine) = some false)
    (ek_VE_BadProgram : PySem.W.kitOne K (.ref cc_BadProgram) (.type "ValueError") = some true)
    (e_op : PySem.W.nsIn K cStatics "thirdparty.any" = some none) (e_su : PySem.W.nsIn K mainGlobals "super" = some none) (e_top : (l.prog.main.scope.names.lookup (PySem.Str.ofString "super")).isSome = false) (e_sp : PySem.W.specialIn K (.builtin "object.__class__") "__get__" = some (some (.builtin "getset_descriptor.__get__"))) (e_tk : PySem.W.takesIn K (.builtin "object.__class__") = some true)
    (z_ValueError : PySem.W.nsIn K mainGlobals "ValueError" = some none)
    (z_abs : PySem.W.nsIn K mainGlobals "abs" = some none)
    (z_bool : PySem.W.nsIn K mainGlobals "bool" = some none)
    (z_enumerate : PySem.W.nsIn K mainGlobals "enumerate" = some none)
    (z_int : PySem.W.nsIn K mainGlobals "int" = some none)
    (z_isinstance : PySem.W.nsIn K mainGlobals "isinstance" = some none)
    (z_len : PySem.W.nsIn K mainGlobals "len" = some none)
    (z_list : PySem.W.nsIn K mainGlobals "list" = some none)
    (z_max : PySem.W.nsIn K mainGlobals "max" = some none)
    (z_range : PySem.W.nsIn K mainGlobals "range" = some none)
    (z_repr : PySem.W.nsIn K mainGlobals "repr" = some none)
    (z_str : PySem.W.nsIn K mainGlobals "str" = some none)
    (z_tuple : PySem.W.nsIn K mainGlobals "tuple" = some none) :
    ∃ fd : FuncData, (∀ (s : Shared) (v : Value), BindsTo s fd ⟨[v], []⟩ [("script", v)]) ∧ ∀ base : Heap, K.In base → base.Ns mainGlobals mg → FnG l.prog w K mg base CX0 7 fa fd ["script"] (spLaw K) := by
  have e := hfa.symm.trans (PySem.W.mg_of X G a22)
  cases e
  have F0 := fun_mk (st := s_is_integer) l0 c0 k0
  have F1 := fun_mk (st := s_is_row) l1 c1 k1
  have F2 := fun_mk (st := s_bound) l2 c2 k2
  have F3 := fun_mk (st := s_fits) l3 c3 k3
  have F4 := fun_mk (st := s_is_instruction) l4 c4 k4
  have F5 := fun_mk (st := s_check_program) l5 c5 k5
  have F6 := fun_mk (st := s_followers) l6 c6 k6
  have F7 := fun_mk (st := s_distances) l7 c7 k7
  have F8 := fun_mk (st := s_way_to_end) l8 c8 k8
  have F9 := fun_mk (st := s_law_pool) l9 c9 k9
  have F10 := fun_mk (st := s_law_draw) l10 c10 k10
  have F11 := fun_mk (st := s_law_is_integer) l11 c11 k11
  have F12 := fun_mk (st := s_law_flow) l12 c12 k12
  have F13 := fun_mk (st := s_law_program) l13 c13 k13
  have F14 := fun_mk (st := s_law_ladder) l14 c14 k14
  have F15 := fun_mk (st := s_law_behind) l15 c15 k15
  have F16 := fun_mk (st := s_law_distances) l16 c16 k16
  have F17 := fun_mk (st := s_law_due) l17 c17 k17
  have F18 := fun_mk (st := s_law_value) l18 c18 k18
  have F19 := fun_mk (st := s_law_holds) l19 c19 k19
  have F20 := fun_mk (st := s_law_refused) l20 c20 k20
  have F21 := fun_mk (st := s_law_bent) l21 c21 k21
  have F22 := fun_mk (st := s_law) l22 c22 k22
  have T : Tx l.prog w K mg := {
    f_is_integer := f0, fd_is_integer := _, F_is_integer := F0, b_is_integer := F0.binds (ps := ["value"]) fun _ _ _ _ _ _ us hl => match us, hl with | [_], _ => rfl, g_is_integer := PySem.W.mg_of X G a0,
    f_is_row := f1, fd_is_row := _, F_is_row := F1, b_is_row := F1.binds (ps := ["value"]) fun _ _ _ _ _ _ us hl => match us, hl with | [_], _ => rfl, g_is_row := PySem.W.mg_of X G a1,
    f_bound := f2, fd_bound := _, F_bound := F2, b_bound := F2.binds (ps := ["role", "length"]) fun _ _ _ _ _ _ us hl => match us, hl with | [_, _], _ => rfl, g_bound := PySem.W.mg_of X G a2,
    f_fits := f3, fd_fits := _, F_fits := F3, b_fits := F3.binds (ps := ["part", "role", "length"]) fun _ _ _ _ _ _ us hl => match us, hl with | [_, _, _], _ => rfl, g_fits := PySem.W.mg_of X G a3,
    f_is_instruction := f4, fd_is_instruction := _, F_is_instruction := F4, b_is_instruction := F4.binds (ps := ["item", "length"]) fun _ _ _ _ _ _ us hl => match us, hl with | [_, _], _ => rfl, g_is_instruction := PySem.W.mg_of X G a4,
    f_check_program := f5, fd_check_program := _, F_check_program := F5, b_check_program := F5.binds (ps := ["value"]) fun _ _ _ _ _ _ us hl => match us, hl with | [_], _ => rfl, g_check_program := PySem.W.mg_of X G a5,
    f_followers := f6, fd_followers := _, F_followers := F6, b_followers := F6.binds (ps := ["program", "index"]) fun _ _ _ _ _ _ us hl => match us, hl with | [_, _], _ => rfl, g_followers := PySem.W.mg_of X G a6,
    f_distances := f7, fd_distances := _, F_distances := F7, b_distances := F7.binds (ps := ["program"]) fun _ _ _ _ _ _ us hl => match us, hl with | [_], _ => rfl, g_distances := PySem.W.mg_of X G a7,
    f_way_to_end := f8, fd_way_to_end := _, F_way_to_end := F8, b_way_to_end := F8.binds (ps := ["program"]) fun _ _ _ _ _ _ us hl => match us, hl with | [_], _ => rfl, g_way_to_end := PySem.W.mg_of X G a8,
    f_law_pool := f9, fd_law_pool := _, F_law_pool := F9, b_law_pool := F9.binds (ps := ["script"]) fun _ _ _ _ _ _ us hl => match us, hl with | [_], _ => rfl, g_law_pool := PySem.W.mg_of X G a9,
    f_law_draw := f10, fd_law_draw := _, F_law_draw := F10, b_law_draw := F10.binds (ps := ["pool", "many"]) fun _ _ _ _ _ _ us hl => match us, hl with | [_, _], _ => rfl, g_law_draw := PySem.W.mg_of X G a10,
    f_law_is_integer := f11, fd_law_is_integer := _, F_law_is_integer := F11, b_law_is_integer := F11.binds (ps := ["thing"]) fun _ _ _ _ _ _ us hl => match us, hl with | [_], _ => rfl, g_law_is_integer := PySem.W.mg_of X G a11,
    f_law_flow := f12, fd_law_flow := _, F_law_flow := F12, b_law_flow := F12.binds (ps := ["pool", "far", "size"]) fun _ _ _ _ _ _ us hl => match us, hl with | [_, _, _], _ => rfl, g_law_flow := PySem.W.mg_of X G a12,
    f_law_program := f13, fd_law_program := _, F_law_program := F13, b_law_program := F13.binds (ps := ["pool", "far", "size", "many"]) fun _ _ _ _ _ _ us hl => match us, hl with | [_, _, _, _], _ => rfl, g_law_program := PySem.W.mg_of X G a13,
    f_law_ladder := f14, fd_law_ladder := _, F_law_ladder := F14, b_law_ladder := F14.binds (ps := ["pool", "length"]) fun _ _ _ _ _ _ us hl => match us, hl with | [_, _], _ => rfl, g_law_ladder := PySem.W.mg_of X G a14,
    f_law_behind := f15, fd_law_behind := _, F_law_behind := F15, b_law_behind := F15.binds (ps := ["items", "place"]) fun _ _ _ _ _ _ us hl => match us, hl with | [_, _], _ => rfl, g_law_behind := PySem.W.mg_of X G a15,
    f_law_distances := f16, fd_law_distances := _, F_law_distances := F16, b_law_distances := F16.binds (ps := ["items"]) fun _ _ _ _ _ _ us hl => match us, hl with | [_], _ => rfl, g_law_distances := PySem.W.mg_of X G a16,
    f_law_due := f17, fd_law_due := _, F_law_due := F17, b_law_due := F17.binds (ps := ["items"]) fun _ _ _ _ _ _ us hl => match us, hl with | [_], _ => rfl, g_law_due := PySem.W.mg_of X G a17,
    f_law_value := f18, fd_law_value := _, F_law_value := F18, b_law_value := F18.binds (ps := ["items", "shape"]) fun _ _ _ _ _ _ us hl => match us, hl with | [_, _], _ => rfl, g_law_value := PySem.W.mg_of X G a18,
    f_law_holds := f19, fd_law_holds := _, F_law_holds := F19, b_law_holds := F19.binds (ps := ["items", "shape"]) fun _ _ _ _ _ _ us hl => match us, hl with | [_, _], _ => rfl, g_law_holds := PySem.W.mg_of X G a19,
    f_law_refused := f20, fd_law_refused := _, F_law_refused := F20, b_law_refused := F20.binds (ps := ["value", "due"]) fun _ _ _ _ _ _ us hl => match us, hl with | [_, _], _ => rfl, g_law_refused := PySem.W.mg_of X G a20,
    f_law_bent := f21, fd_law_bent := _, F_law_bent := F21, b_law_bent := F21.binds (ps := ["pool", "item", "size"]) fun _ _ _ _ _ _ us hl => match us, hl with | [_, _, _], _ => rfl, g_law_bent := PySem.W.mg_of X G a21,
    a_DEEDS := aK_DEEDS, g_DEEDS := PySem.W.mg_of X G ka_DEEDS, q_DEEDS := fun H => sqt_k kl_DEEDS kv_DEEDS (by decide) H,
    t_LONGEST := tk_LONGEST, g_LONGEST := PySem.W.mg_of X G ka_LONGEST,
    t_REGISTERS := tk_REGISTERS, g_REGISTERS := PySem.W.mg_of X G ka_REGISTERS,
    a_ROLES := aK_ROLES, es_ROLES := es_ROLES, n_ROLES := n_ROLES, g_ROLES := PySem.W.mg_of X G ka_ROLES, D_ROLES := ⟨kl_ROLES, kk_ROLES, kz_ROLES⟩, x_ROLES := fun z hz => Lw.ns_miss kl_ROLES kq_ROLES hz, r_ROLES_set := r_ROLES_set, i_ROLES_set := di_ROLES_set, q_ROLES_set := fun H => sqt_k kl_ROLES_set kv_ROLES_set (by decide) H, r_ROLES_move := r_ROLES_move, i_ROLES_move := di_ROLES_move, q_ROLES_move := fun H => sqt_k kl_ROLES_move kv_ROLES_move (by decide) H, r_ROLES_add := r_ROLES_add, i_ROLES_add := di_ROLES_add, q_ROLES_add := fun H => sqt_k kl_ROLES_add kv_ROLES_add (by decide) H, r_ROLES_sub := r_ROLES_sub, i_ROLES_sub := di_ROLES_sub, q_ROLES_sub := fun H => sqt_k kl_ROLES_sub kv_ROLES_sub (by decide) H, r_ROLES_load := r_ROLES_load, i_ROLES_load := di_ROLES_load, q_ROLES_load := fun H => sqt_k kl_ROLES_load kv_ROLES_load (by decide) H, r_ROLES_store := r_ROLES_store, i_ROLES_store := di_ROLES_store, q_ROLES_store := fun H => sqt_k kl_ROLES_store kv_ROLES_store (by decide) H, r_ROLES_jump := r_ROLES_jump, i_ROLES_jump := di_ROLES_jump, q_ROLES_jump := fun H => sqt_k kl_ROLES_jump kv_ROLES_jump (by decide) H, r_ROLES_zero := r_ROLES_zero, i_ROLES_zero := di_ROLES_zero, q_ROLES_zero := fun H => sqt_k kl_ROLES_zero kv_ROLES_zero (by decide) H, r_ROLES_deed := r_ROLES_deed, i_ROLES_deed := di_ROLES_deed, q_ROLES_deed := fun H => sqt_k kl_ROLES_deed kv_ROLES_deed (by decide) H,
    t_WORD := tk_WORD, g_WORD := PySem.W.mg_of X G ka_WORD,
    c_CapsteadError := cc_CapsteadError, gc_CapsteadError := PySem.W.mg_of X G ka_CapsteadError,
    c_InputError := cc_InputError, gc_InputError := PySem.W.mg_of X G ka_InputError,
    c_QuestionError := cc_QuestionError, gc_QuestionError := PySem.W.mg_of X G ka_QuestionError,
    c_BadNumber := cc_BadNumber, gc_BadNumber := PySem.W.mg_of X G ka_BadNumber,
    c_BadProgram := cc_BadProgram, gc_BadProgram := PySem.W.mg_of X G ka_BadProgram,
    i_BadProgram := ci_BadProgram, S_BadProgram := ⟨PySem.W.mg_of X G ka_BadProgram, ⟨by decide, by decide, by decide, by decide, by decide⟩, ⟨nm_BadProgram, q_BadProgram, N_BadProgram, bs_BadProgram, bm_BadProgram, sn_BadProgram, sub_BadProgram, ab_BadProgram, col_BadProgram, dd_BadProgram, k0_BadProgram, k1_BadProgram, k2_BadProgram, k3_BadProgram, k5_BadProgram, exL_BadProgram, exV_BadProgram⟩, esa_BadProgram, ega_BadProgram, egg_BadProgram, enb_BadProgram, eiC_BadProgram, etC_BadProgram, ekC_BadProgram, eeC_BadProgram, eyC_BadProgram, ehC_BadProgram, e_op, eal_BadProgram, evC_BadProgram, emC_BadProgram, e_su, e_top, ⟨_, _, _, _, _, _, _, _, _, _, _, _, _, _, _, _, _, _, _, _, _, _, _, _, el1_BadProgram, ec1_BadProgram, epl_BadProgram, fun s u v => .of_eq rfl, ⟨_, _, _, ece_BadProgram⟩, ⟨_, _, _, _, _, _, ecd_BadProgram, evs_BadProgram, efi_BadProgram⟩⟩⟩,
    I_BadProgram := ⟨ejC_BadProgram, ega_BadProgram, egg_BadProgram, eeC_BadProgram, efc_BadProgram, e_sp, e_tk, eoC_BadProgram⟩, m_BadProgram := Lw.exm_own eeC_BadProgram ejC_BadProgram eyC_BadProgram esC_BadProgram,
    k_BadProgram_CapsteadError := ek_CapsteadError_BadProgram,
    k_BadProgram_InputError := ek_InputError_BadProgram,
    k_BadProgram_QuestionError := ek_QuestionError_BadProgram,
    k_BadProgram_BadNumber := ek_BadNumber_BadProgram,
    k_BadProgram_BadProgram := ek_BadProgram_BadProgram,
    k_BadProgram_BadLine := ek_BadLine_BadProgram,
    k_BadProgram_ValueError := ek_VE_BadProgram,
    c_BadLine := cc_BadLine, gc_BadLine := PySem.W.mg_of X G ka_BadLine,
    n_ValueError := PySem.W.mg_none_of X G z_ValueError,
    n_abs := PySem.W.mg_none_of X G z_abs,
    n_bool := PySem.W.mg_none_of X G z_bool,
    n_enumerate := PySem.W.mg_none_of X G z_enumerate,
    n_int := PySem.W.mg_none_of X G z_int,
    n_isinstance := PySem.W.mg_none_of X G z_isinstance,
    n_len := PySem.W.mg_none_of X G z_len,
    n_list := PySem.W.mg_none_of X G z_list,
    n_max := PySem.W.mg_none_of X G z_max,
    n_range := PySem.W.mg_none_of X G z_range,
    n_repr := PySem.W.mg_none_of X G z_repr,
    n_str := PySem.W.mg_none_of X G z_str,
    n_tuple := PySem.W.mg_none_of X G z_tuple }
  exact ⟨PySem.W.fnOf "law" "law" (defArgs s_law) (defBody s_law) (defScope s_law) .none kV22 dc22 pm22 an22 cd22 ct22, fun s v => .of_eq rfl, fun base _ _ => ok_law_at T F22⟩
end K05

open PySem PySem.W PyProof.Rows in
set_option maxRecDepth 100000 in
set_option maxHeartbeats 0 in
theorem PySem.Challenge.cw_capstead_k05_way_to_end_least_holds : PySem.Challenge.rw_capstead_k05_way_to_end_least.Holds := by
  w_on; o_law; k_head; (case hw => w_witness2)
  k_fill
  refine Lw.walk_G (l := PySem.Challenge.rw_capstead_k05_way_to_end_least) (n := 63) (k := 7) (x := "script") (sp := K05.spLaw) rfl (by decide) rfl ⟨rfl, by decide, by decide⟩ (fun w h Y => PySem.W.kIn_of Y) ?F (fun _ _ a ns hl _ hS => ⟨a, ns, rfl, hS, hl, fun _ => rfl⟩)
  case F =>
    intro w mg fa h KX G hmg
    refine' K05.all_mk KX G hmg ?a0 ?l0 ?c0 ?k0 ?a1 ?l1 ?c1 ?k1 ?a2 ?l2 ?c2 ?k2 ?a3 ?l3 ?c3 ?k3 ?a4 ?l4 ?c4 ?k4 ?a5 ?l5 ?c5 ?k5 ?a6 ?l6 ?c6 ?k6 ?a7 ?l7 ?c7 ?k7 ?a8 ?l8 ?c8 ?k8 ?a9 ?l9 ?c9 ?k9 ?a10 ?l10 ?c10 ?k10 ?a11 ?l11 ?c11 ?k11 ?a12 ?l12 ?c12 ?k12 ?a13 ?l13 ?c13 ?k13 ?a14 ?l14 ?c14 ?k14 ?a15 ?l15 ?c15 ?k15 ?a16 ?l16 ?c16 ?k16 ?a17 ?l17 ?c17 ?k17 ?a18 ?l18 ?c18 ?k18 ?a19 ?l19 ?c19 ?k19 ?a20 ?l20 ?c20 ?k20 ?a21 ?l21 ?c21 ?k21 ?a22 ?l22 ?c22 ?k22 ?ka_DEEDS ?kl_DEEDS ?kv_DEEDS ?ka_LONGEST ?ka_REGISTERS ?ka_ROLES ?kl_ROLES ?kk_ROLES ?kz_ROLES ?kq_ROLES ?di_ROLES_set ?kl_ROLES_set ?kv_ROLES_set ?di_ROLES_move ?kl_ROLES_move ?kv_ROLES_move ?di_ROLES_add ?kl_ROLES_add ?kv_ROLES_add ?di_ROLES_sub ?kl_ROLES_sub ?kv_ROLES_sub ?di_ROLES_load ?kl_ROLES_load ?kv_ROLES_load ?di_ROLES_store ?kl_ROLES_store ?kv_ROLES_store ?di_ROLES_jump ?kl_ROLES_jump ?kv_ROLES_jump ?di_ROLES_zero ?kl_ROLES_zero ?kv_ROLES_zero ?di_ROLES_deed ?kl_ROLES_deed ?kv_ROLES_deed ?ka_WORD ?ka_CapsteadError ?ka_InputError ?ka_QuestionError ?ka_BadNumber ?ka_BadProgram ?ka_BadLine ?exL_BadProgram ?exV_BadProgram ?esa_BadProgram ?ega_BadProgram ?egg_BadProgram ?enb_BadProgram ?efc_BadProgram ?eiC_BadProgram ?etC_BadProgram ?ekC_BadProgram ?eeC_BadProgram ?eyC_BadProgram ?ehC_BadProgram ?ejC_BadProgram ?esC_BadProgram ?evC_BadProgram ?eoC_BadProgram ?emC_BadProgram ?eal_BadProgram ?el1_BadProgram ?ec1_BadProgram ?ece_BadProgram ?ecd_BadProgram ?evs_BadProgram ?efi_BadProgram ?epl_BadProgram ?ek_CapsteadError_BadProgram ?ek_InputError_BadProgram ?ek_QuestionError_BadProgram ?ek_BadNumber_BadProgram ?ek_BadProgram_BadProgram ?ek_BadLine_BadProgram ?ek_VE_BadProgram ?e_op ?e_su ?e_top ?e_sp ?e_tk ?z_ValueError ?z_abs ?z_bool ?z_enumerate ?z_int ?z_isinstance ?z_len ?z_list ?z_max ?z_range ?z_repr ?z_str ?z_tuple
    (case a0 => k_is)
    (case l0 => k_is)
    (case c0 => k_is)
    (case k0 => k_is)
    (case a1 => k_is)
    (case l1 => k_is)
    (case c1 => k_is)
    (case k1 => k_is)
    (case a2 => k_is)
    (case l2 => k_is)
    (case c2 => k_is)
    (case k2 => k_is)
    (case a3 => k_is)
    (case l3 => k_is)
    (case c3 => k_is)
    (case k3 => k_is)
    (case a4 => k_is)
    (case l4 => k_is)
    (case c4 => k_is)
    (case k4 => k_is)
    (case a5 => k_is)
    (case l5 => k_is)
    (case c5 => k_is)
    (case k5 => k_is)
    (case a6 => k_is)
    (case l6 => k_is)
    (case c6 => k_is)
    (case k6 => k_is)
    (case a7 => k_is)
    (case l7 => k_is)
    (case c7 => k_is)
    (case k7 => k_is)
    (case a8 => k_is)
    (case l8 => k_is)
    (case c8 => k_is)
    (case k8 => k_is)
    (case a9 => k_is)
    (case l9 => k_is)
    (case c9 => k_is)
    (case k9 => k_is)
    (case a10 => k_is)
    (case l10 => k_is)
    (case c10 => k_is)
    (case k10 => k_is)
    (case a11 => k_is)
    (case l11 => k_is)
    (case c11 => k_is)
    (case k11 => k_is)
    (case a12 => k_is)
    (case l12 => k_is)
    (case c12 => k_is)
    (case k12 => k_is)
    (case a13 => k_is)
    (case l13 => k_is)
    (case c13 => k_is)
    (case k13 => k_is)
    (case a14 => k_is)
    (case l14 => k_is)
    (case c14 => k_is)
    (case k14 => k_is)
    (case a15 => k_is)
    (case l15 => k_is)
    (case c15 => k_is)
    (case k15 => k_is)
    (case a16 => k_is)
    (case l16 => k_is)
    (case c16 => k_is)
    (case k16 => k_is)
    (case a17 => k_is)
    (case l17 => k_is)
    (case c17 => k_is)
    (case k17 => k_is)
    (case a18 => k_is)
    (case l18 => k_is)
    (case c18 => k_is)
    (case k18 => k_is)
    (case a19 => k_is)
    (case l19 => k_is)
    (case c19 => k_is)
    (case k19 => k_is)
    (case a20 => k_is)
    (case l20 => k_is)
    (case c20 => k_is)
    (case k20 => k_is)
    (case a21 => k_is)
    (case l21 => k_is)
    (case c21 => k_is)
    (case k21 => k_is)
    (case a22 => k_is)
    (case l22 => k_is)
    (case c22 => k_is)
    (case k22 => k_is)
    (case ka_DEEDS => k_is)
    (case kl_DEEDS => k_is)
    (case kv_DEEDS => decide +kernel)
    (case ka_LONGEST => k_is)
    (case ka_REGISTERS => k_is)
    (case ka_ROLES => k_is)
    (case kl_ROLES => k_is)
    (case kk_ROLES => exact ⟨⟨_, _, rfl, rfl⟩, ⟨⟨_, _, rfl, rfl⟩, ⟨⟨_, _, rfl, rfl⟩, ⟨⟨_, _, rfl, rfl⟩, ⟨⟨_, _, rfl, rfl⟩, ⟨⟨_, _, rfl, rfl⟩, ⟨⟨_, _, rfl, rfl⟩, ⟨⟨_, _, rfl, rfl⟩, ⟨⟨_, _, rfl, rfl⟩, trivial⟩⟩⟩⟩⟩⟩⟩⟩⟩)
    (case kz_ROLES => decide +kernel)
    (case kq_ROLES => rfl)
    (case di_ROLES_set => k_is)
    (case kl_ROLES_set => k_is)
    (case kv_ROLES_set => decide +kernel)
    (case di_ROLES_move => k_is)
    (case kl_ROLES_move => k_is)
    (case kv_ROLES_move => decide +kernel)
    (case di_ROLES_add => k_is)
    (case kl_ROLES_add => k_is)
    (case kv_ROLES_add => decide +kernel)
    (case di_ROLES_sub => k_is)
    (case kl_ROLES_sub => k_is)
    (case kv_ROLES_sub => decide +kernel)
    (case di_ROLES_load => k_is)
    (case kl_ROLES_load => k_is)
    (case kv_ROLES_load => decide +kernel)
    (case di_ROLES_store => k_is)
    (case kl_ROLES_store => k_is)
    (case kv_ROLES_store => decide +kernel)
    (case di_ROLES_jump => k_is)
    (case kl_ROLES_jump => k_is)
    (case kv_ROLES_jump => decide +kernel)
    (case di_ROLES_zero => k_is)
    (case kl_ROLES_zero => k_is)
    (case kv_ROLES_zero => decide +kernel)
    (case di_ROLES_deed => k_is)
    (case kl_ROLES_deed => k_is)
    (case kv_ROLES_deed => decide +kernel)
    (case ka_WORD => k_is)
    (case ka_CapsteadError => k_is)
    (case ka_InputError => k_is)
    (case ka_QuestionError => k_is)
    (case ka_BadNumber => k_is)
    (case ka_BadProgram => k_is)
    (case ka_BadLine => k_is)
    (case exL_BadProgram => k_is)
    (case exV_BadProgram => decide +kernel)
    (case esa_BadProgram => k_is)
    (case ega_BadProgram => k_is)
    (case egg_BadProgram => k_is)
    (case enb_BadProgram => k_is)
    (case efc_BadProgram => k_is)
    (case eiC_BadProgram => k_is)
    (case etC_BadProgram => k_is)
    (case ekC_BadProgram => k_is)
    (case eeC_BadProgram => k_is)
    (case eyC_BadProgram => k_is)
    (case ehC_BadProgram => k_is)
    (case ejC_BadProgram => k_is)
    (case esC_BadProgram => kernel_rfl)
    (case evC_BadProgram => k_is)
    (case eoC_BadProgram => k_is)
    (case emC_BadProgram => k_is)
    (case eal_BadProgram => kernel_rfl)
    (case el1_BadProgram => k_is)
    (case ec1_BadProgram => k_is)
    (case ece_BadProgram => k_is)
    (case ecd_BadProgram => k_is)
    (case evs_BadProgram => rfl)
    (case efi_BadProgram => decide +kernel)
    (case epl_BadProgram => rfl)
    (case ek_CapsteadError_BadProgram => kernel_rfl)
    (case ek_InputError_BadProgram => kernel_rfl)
    (case ek_QuestionError_BadProgram => kernel_rfl)
    (case ek_BadNumber_BadProgram => kernel_rfl)
    (case ek_BadProgram_BadProgram => kernel_rfl)
    (case ek_BadLine_BadProgram => kernel_rfl)
    (case ek_VE_BadProgram => kernel_rfl)
    (case e_op => k_is)
    (case e_su => k_is)
    (case e_top => decide +kernel)
    (case e_sp => k_is)
    (case e_tk => k_is)
    (case z_ValueError => k_is)
    (case z_abs => k_is)
    (case z_bool => k_is)
    (case z_enumerate => k_is)
    (case z_int => k_is)
    (case z_isinstance => k_is)
    (case z_len => k_is)
    (case z_list => k_is)
    (case z_max => k_is)
    (case z_range => k_is)
    (case z_repr => k_is)
    (case z_str => k_is)
    (case z_tuple => k_is)

