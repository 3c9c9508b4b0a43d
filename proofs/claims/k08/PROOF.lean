import PyProof.Rows.All
import Wide.All
import OpenK.AllK
import Wide.FinOn
import HandS.ForMost
import HandS.IsInst
import HandS.Walk
import HandS.More
import HandS.SetKeys
import HandS.RaiseMore
import HandS.SortKw
import HandS.Exc
import KE.GoesEnumKw
import HandS.ExcOwn
import HandS.TryOnly
import HandS.WordsExc
import HandS.ExcInit
import HandS.ExcIs
import HandS.ExcSuper
import KE.KExcSuper
import KE.KSuper
import KE.KExcIs
import HandS.ExcField
import HandS.FStr
import HandS.HotCalls
import HandS.Iter
import PyProof.StrOps2
import HandS.NoneIn
import HandS.MakeKwOnly
import HandS.SortInts
import HandS.RaiseFrom
import HandS.Style
import PySem.Challenge.RW_capstead_k08_prices
set_option Elab.async false
set_option linter.all false
set_option maxRecDepth 100000
set_option maxHeartbeats 4000000
/-! Lw: forward reading over the hand layer. A world W: the objects that a law's drawing pool owns, and what holds of them; everything else stands (Ex). -/
namespace Lw
open PySem L2

/-- what is owned (its content may change in calls), what holds of it -/
structure Wd where
  own : Hp → Addr → Prop
  iv : Hp → Prop
  trk : ∀ {H : Hp} {a : Addr}, iv H → own H a → ∃ o, H a = some o
  loc : ∀ {H H' : Hp}, iv H → (∀ a, own H a → H' a = H a) → iv H' ∧ ∀ a, own H' a → own H a

/-- nothing is owned -/
def W0 : Wd := ⟨fun _ _ => False, fun _ => True, fun _ h => h.elim, fun _ _ => ⟨trivial, fun _ h => h⟩⟩

def At (W : Wd) (H : Hp) (a : Addr) (o : HO) : Prop := H a = some o ∧ ¬ W.own H a
structure Ex (W : Wd) (H H' : Hp) : Prop where
  i0 : W.iv H
  iv : W.iv H'
  at_ : ∀ {a : Addr} {o : HO}, At W H a o → At W H' a o
  tr : ∀ {a : Addr} {o : HO}, H a = some o → ∃ o', H' a = some o'

section
variable {W : Wd} {H H1 H2 H' : Hp} {a p l : Addr} {o u : HO} {xs : List V} {K : PySem.W.Frag}
theorem Ex.refl (i : W.iv H) : Ex W H H := ⟨i, i, fun h => h, fun h => ⟨_, h⟩⟩
theorem Ex.trans (a : Ex W H H1) (b : Ex W H1 H2) : Ex W H H2 := ⟨a.i0, b.iv, fun h => b.at_ (a.at_ h), fun h => let ⟨_, q⟩ := a.tr h; b.tr q⟩
theorem Ex.fresh (e : Ex W H H') (i : H' p = none) : H p = none := by
  cases q : H p with
  | none => rfl
  | some u =>
    obtain ⟨_, z⟩ := e.tr q
    rw [i] at z; cases z
theorem own_ne (i : W.iv H) (h : H p = none) : ¬ W.own H p := fun q => by
  obtain ⟨o, e⟩ := W.trk i q
  rw [h] at e; cases e
/-- what is not owned changes -/
theorem loc_upd (i : W.iv H) (h : ¬ W.own H p) : W.iv (upd H p o) ∧ ∀ a, W.own (upd H p o) a → W.own H a :=
  W.loc i fun a ha => upd_ne fun e => h (e ▸ ha)
theorem Ex.new (i : W.iv H) (h : H p = none) : Ex W H (upd H p o) := by
  have l := loc_upd (o := o) i (own_ne i h)
  refine ⟨i, l.1, fun {b u} hb => ⟨?_, fun q => hb.2 (l.2 _ q)⟩, fun {b u} hb => ⟨u, ?_⟩⟩
  · rw [upd_ne (ne_of_none hb.1 h)]; exact hb.1
  · rw [upd_ne (ne_of_none hb h)]; exact hb
theorem At.new (i : W.iv H) (h : H p = none) : At W (upd H p o) p o := ⟨upd_same, fun q => own_ne i h ((loc_upd i (own_ne i h)).2 _ q)⟩
/-- a local object (unknown at H) changes -/
theorem Ex.mut (e : Ex W H H1) (h : H p = none) (ha : At W H1 p u) : Ex W H (upd H1 p o) := by
  have l := loc_upd (o := o) e.iv ha.2
  refine ⟨e.i0, l.1, fun {b v} hb => ⟨?_, fun q => (e.at_ hb).2 (l.2 _ q)⟩, fun {b v} hb => ?_⟩
  · rw [upd_ne (ne_of_none hb.1 h)]; exact (e.at_ hb).1
  · rw [upd_ne (ne_of_none hb h)]; exact e.tr hb
theorem At.mut (e : W.iv H1) (ha : At W H1 p u) : At W (upd H1 p o) p o := ⟨upd_same, fun q => ha.2 ((loc_upd e ha.2).2 _ q)⟩
theorem At.other {v : HO} (e : W.iv H1) (ha : At W H1 p u) (hb : At W H1 a o) (ne : a ≠ p) : At W (upd H1 p v) a o := ⟨by rw [upd_ne ne]; exact hb.1, fun q => hb.2 ((loc_upd e ha.2).2 _ q)⟩
theorem At.sl (h : At W H a (.lst xs)) : SqL K H a xs := SqL.of h.1
theorem At.raw (h : At W H a o) : H a = some o := h.1
theorem At.st (h : At W H a (.tup xs)) : SqT K H a xs := SqT.of h.1
theorem At.ne_fresh (h : At W H a o) (f : H p = none) : a ≠ p := ne_of_none h.1 f
theorem At.ne (h : At W H a o) (h' : At W H p u) (d : o ≠ u) : a ≠ p := ne_of h.1 h'.1 d
theorem At.uniq (h : At W H a o) (h' : At W H a u) : o = u := Option.some.inj (h.1.symm.trans h'.1)

/-! ### new objects, behind a reading -/
theorem new_of {Q : VK} (i : W.iv H) (k : ∀ p H2, H p = none → Ex W H H2 → At W H2 p o → Q (.ref p) H2) : ∀ p, H p = none → Q (.ref p) (upd H p o) :=
  fun p hp => k p _ hp (Ex.new i hp) (At.new i hp)
theorem lst_of {Q : VK} {n : Nat} (i : W.iv H) (hn : n ≤ 1000000) (k : ∀ p H2, H p = none → Ex W H H2 → At W H2 p o → Q (.ref p) H2) : n ≤ sizeLine ∧ ∀ p, H p = none → Q (.ref p) (upd H p o) :=
  ⟨Nat.le_trans hn (by decide), new_of i k⟩
theorem sz_le {n : Nat} (h : n ≤ 1000000) : n ≤ sizeLine := Nat.le_trans h (by decide)
theorem sz_lt {n : Nat} (h : n < 1000000) : n < sizeLine := Nat.lt_of_lt_of_le h (by decide)

/-! ### tests -/
theorem ifD {c A B : Prop} [Decidable c] (h1 : c → A) (h2 : ¬ c → B) : if decide c = true then A else B := by
  by_cases h : c
  · rw [decide_eq_true h, if_pos rfl]; exact h1 h
  · rw [decide_eq_false h, if_neg Bool.false_ne_true]; exact h2 h
theorem ifN {c A B : Prop} [Decidable c] (h1 : ¬ c → A) (h2 : c → B) : if (!decide c) = true then A else B := by
  by_cases h : c
  · rw [decide_eq_true h]; exact iteF (h2 h)
  · rw [decide_eq_false h]; exact iteT (h1 h)
theorem ifB {b : Bool} {A B : Prop} (h1 : b = true → A) (h2 : b = false → B) : if b = true then A else B := by
  cases b with
  | true => exact iteT (h1 rfl)
  | false => exact iteF (h2 rfl)
theorem ifNB {b : Bool} {A B : Prop} (h1 : b = false → A) (h2 : b = true → B) : if (!b) = true then A else B := by
  cases b with
  | true => exact iteF (h2 rfl)
  | false => exact iteT (h1 rfl)
theorem dVI {i j : Int} : decide (V.int i = V.int j) = decide (i = j) := by rw [dec_int, Bool.beq_eq_decide_eq]
theorem dVS {i j : Str} : decide (V.str i = V.str j) = decide (i = j) := by rw [dec_str, Bool.beq_eq_decide_eq]
theorem dVB {i j : Bool} : decide (V.bl i = V.bl j) = decide (i = j) := by rw [dec_bl, Bool.beq_eq_decide_eq]
theorem ifI {i j : Int} {A B : Prop} (h1 : i = j → A) (h2 : i ≠ j → B) : if decide (V.int i = V.int j) = true then A else B := by rw [dVI]; exact ifD h1 h2
theorem ifIn {i j : Int} {A B : Prop} (h1 : i ≠ j → A) (h2 : i = j → B) : if (!decide (V.int i = V.int j)) = true then A else B := by rw [dVI]; exact ifN h1 h2
theorem ifS {i j : Str} {A B : Prop} (h1 : i = j → A) (h2 : i ≠ j → B) : if decide (V.str i = V.str j) = true then A else B := by rw [dVS]; exact ifD h1 h2
theorem ifSn {i j : Str} {A B : Prop} (h1 : i ≠ j → A) (h2 : i = j → B) : if (!decide (V.str i = V.str j)) = true then A else B := by rw [dVS]; exact ifN h1 h2

/-! ### a list comprehension over a list: each item's value, by a word that only grows -/
/-- of each item of xs there is one of ys -/
inductive All2 (R : V → V → Prop) : List V → List V → Prop
  | nil : All2 R [] []
  | cons {x y : V} {xs ys : List V} : R x y → All2 R xs ys → All2 R (x :: xs) (y :: ys)
theorem All2.length {R : V → V → Prop} : ∀ {xs ys : List V}, All2 R xs ys → ys.length = xs.length
  | _, _, .nil => rfl
  | _, _, .cons _ t => by rw [List.length_cons, List.length_cons, t.length]
theorem All2.mono {R S : V → V → Prop} (f : ∀ x y, R x y → S x y) : ∀ {xs ys : List V}, All2 R xs ys → All2 S xs ys
  | _, _, .nil => .nil
  | _, _, .cons r t => .cons (f _ _ r) (t.mono f)
theorem All2.snoc {R : V → V → Prop} {x y : V} : ∀ {xs ys : List V}, All2 R xs ys → R x y → All2 R (xs ++ [x]) (ys ++ [y])
  | _, _, .nil, r => .cons r .nil
  | _, _, .cons q t, r => .cons q (t.snoc r)
end

/-! ### written tuples -/
theorem rel_abs : ∀ {u : Value} {x : V}, absV u = some x → RelV x u
  | .none, x, h => by cases h; rfl
  | .bool b, x, h => by cases h; rfl
  | .int i t, x, h => by cases h; exact ⟨t, rfl⟩
  | .str y t, x, h => by cases h; exact ⟨t, rfl⟩
  | .bytes b t, x, h => by cases h; exact ⟨t, rfl⟩
  | .float b t, x, h => by cases h; exact ⟨t, rfl⟩
  | .ref a, x, h => by cases h; rfl
  | .type n, x, h => by cases h; rfl
theorem vals_abs : ∀ {its : List Value} {xs : List V}, its.map absV = xs.map some → Vals xs its
  | [], [], _ => .nil
  | u :: us, x :: xs, h => by
    rw [List.map_cons, List.map_cons] at h
    injection h with h1 h2
    exact .cons (rel_abs h1) (vals_abs h2)
theorem sqt_k {K : PySem.W.Frag} {a : Addr} {its : Array Value} {n : Nat} {dd : Option Addr} {sl : Array (Option Value)} {xs : List V} (l : K.lookup a = some ⟨.type "tuple", dd, .seq its n, sl⟩) (h : its.toList.map absV = xs.map some) (hz : xs.length ≤ 1000) (H : Hp) : SqT K H a xs := by
  refine .inr ⟨_, its, n, l, rfl, rfl, ?_, vals_abs h⟩
  have e := (vals_abs h).length
  have el : its.toList.length = its.size := by simp
  exact Nat.le_trans (by omega) (by decide : 1000 ≤ sizeLine)

/-! ### the rules of built-ins under names -/
section
variable {X : Cx}
def rLen (K : PySem.W.Frag) : List V → Hp → VK → Prop := fun xs H Q => ∃ p ys, xs = [.ref p] ∧ (SqL K H p ys ∨ SqT K H p ys) ∧ Q (.int ys.length) H
theorem c_len : CallR X (.builtin "len") (rLen X.K) := call_len_seq
def rLenStr : List V → Hp → VK → Prop := fun xs H Q => ∃ z, xs = [.str z] ∧ z.length ≤ sizeLine ∧ Q (.int z.length) H
theorem c_lens : CallR X (.builtin "len") rLenStr := call_len_str
def rInt : List V → Hp → VK → Prop := fun xs H Q => (∃ i, xs = [.int i] ∧ Q (.int i) H) ∨ ∃ k, xs = [.bl k] ∧ Q (.int (if k then 1 else 0)) H
theorem c_int : CallR X (.type "int") rInt := call_int1
def rAbs : List V → Hp → VK → Prop := fun xs H Q => ∃ i, xs = [.int i] ∧ Q (.int (if i < 0 then -i else i)) H
theorem c_abs : CallR X (.builtin "abs") rAbs := call_abs
def rMax2 : List V → Hp → VK → Prop := fun xs H Q => ∃ i j, xs = [.int i, .int j] ∧ Q (.int (if j > i then j else i)) H
theorem c_max2 (hc : X.calm = true) : CallR X (.builtin "max") rMax2 := call_max2 hc
def rMin2 : List V → Hp → VK → Prop := fun xs H Q => ∃ i j, xs = [.int i, .int j] ∧ Q (.int (if j < i then j else i)) H
theorem c_min2 (hc : X.calm = true) : CallR X (.builtin "min") rMin2 := call_min2 hc
def rStrI : List V → Hp → VK → Prop := fun xs H Q => ∃ i, xs = [.int i] ∧ i.natAbs.log2 < 1920 ∧ Q (.str (toString i)) H
theorem c_strI : CallR X (.type "str") rStrI := call_str_int
def rListO (K : PySem.W.Frag) : List V → Hp → VK → Prop := fun xs H Q => ∃ p ys, xs = [.ref p] ∧ (SqL K H p ys ∨ SqT K H p ys) ∧ ∀ l, H l = none → Q (.ref l) (upd H l (.lst ys))
theorem c_list : CallR X (.type "list") (rListO X.K) := call_list_of
def rTupO (K : PySem.W.Frag) : List V → Hp → VK → Prop := fun xs H Q => ∃ p ys, xs = [.ref p] ∧ ((SqL K H p ys ∧ ∀ l, H l = none → Q (.ref l) (upd H l (.tup ys))) ∨ (SqT K H p ys ∧ Q (.ref p) H))
theorem c_tuple : CallR X (.type "tuple") (rTupO X.K) := call_tuple_of
def rAddS2 : R2 := fun x y H Q => ∃ i j, x = .str i ∧ y = .str j ∧ i.length + j.length ≤ sizeLine ∧ Q (.str (i ++ j)) H
theorem o_adds : OpR X (binaryOp .Add) rAddS2 := op_add_str
def rIsN2 : R2 := fun x y H Q => y = .non ∧ Q (.bl (decide (x = .non))) H
theorem o_isN : OpR X (compareOp .Is) rIsN2 := op_isN
def rNotN2 : R2 := fun x y H Q => y = .non ∧ Q (.bl (!decide (x = .non))) H
theorem o_notN : OpR X (compareOp .IsNot) rNotN2 := op_notN
/-- ** of any size -/
def CPowW (i j : Int) : Prop := 0 ≤ j ∧ (Builtin.Int.intBits i : Int) * j ≤ 2 ^ 27
theorem op_powW : OpR X (binaryOp .Pow) (rI CPowW fun i j => .int (i ^ j.toNat)) := opI fun _ _ _ _ _ _ _ hc q => PyProof.Rows.pow_int hc.1 hc.2 q
end

theorem at_0 {α : Type} {x : α} {r : List α} : atI (x :: r) 0 = some x := by
  unfold atI ixN
  rw [if_pos (by decide), if_pos (by simp)]
  rfl
theorem at_in {xs : List V} {i : Int} {v : V} (h : 0 ≤ i) (e : xs[i.toNat]? = some v) : atI xs i = some v := by
  have q := atI_nat (j := i.toNat) e
  rw [show ((i.toNat : Nat) : Int) = i by omega] at q
  exact q
theorem ix_0 {n : Nat} (h : 0 < n) : ixN n 0 = some 0 := by
  unfold ixN
  rw [if_pos (by omega), if_pos (by omega)]
  rfl
theorem ix_in {n : Nat} {i : Int} (h : 0 ≤ i) (h2 : i < n) : ixN n i = some i.toNat := by
  unfold ixN
  rw [if_pos h, if_pos h2]

/-! ### tests whose answer is known -/
theorem ifS_no {i j : Str} {A B : Prop} (ne : i ≠ j) (h : B) : if decide (V.str i = V.str j) = true then A else B := ifS (fun e => absurd e ne) fun _ => h
theorem ifS_yes {i j : Str} {A B : Prop} (e : i = j) (h : A) : if decide (V.str i = V.str j) = true then A else B := ifS (fun _ => h) fun ne => absurd e ne
theorem ifSn_no {i j : Str} {A B : Prop} (e : i = j) (h : B) : if (!decide (V.str i = V.str j)) = true then A else B := ifSn (fun ne => absurd e ne) fun _ => h
theorem ifSn_yes {i j : Str} {A B : Prop} (ne : i ≠ j) (h : A) : if (!decide (V.str i = V.str j)) = true then A else B := ifSn (fun _ => h) fun e => absurd e ne
theorem ifI_no {i j : Int} {A B : Prop} (ne : i ≠ j) (h : B) : if decide (V.int i = V.int j) = true then A else B := ifI (fun e => absurd e ne) fun _ => h
theorem ifI_yes {i j : Int} {A B : Prop} (e : i = j) (h : A) : if decide (V.int i = V.int j) = true then A else B := ifI (fun _ => h) fun ne => absurd e ne
theorem ifIn_no {i j : Int} {A B : Prop} (e : i = j) (h : B) : if (!decide (V.int i = V.int j)) = true then A else B := ifIn (fun ne => absurd e ne) fun _ => h
theorem ifIn_yes {i j : Int} {A B : Prop} (ne : i ≠ j) (h : A) : if (!decide (V.int i = V.int j)) = true then A else B := ifIn (fun _ => h) fun e => absurd e ne
theorem iteNT {A B : Prop} (h : B) : if (!true) = true then A else B := iteF h
theorem iteNF {A B : Prop} (h : A) : if (!false) = true then A else B := iteT h
theorem ifD_no {c A B : Prop} [Decidable c] (n : ¬ c) (h : B) : if decide c = true then A else B := ifD (fun e => absurd e n) fun _ => h
theorem ifD_yes {c A B : Prop} [Decidable c] (y : c) (h : A) : if decide c = true then A else B := ifD (fun _ => h) fun n => absurd y n

/-! ### slices -/
theorem cut_to (xs : List V) (n : Int) (h : 0 ≤ n) : cutV xs none (some n) = xs.take n.toNat := by
  unfold cutV
  have e : HT.sIx xs.length xs.length (some n) = min n.toNat xs.length := by
    have q := HT.sIx_nat xs.length xs.length n.toNat
    rwa [show ((n.toNat : Nat) : Int) = n by omega] at q
  rw [HT.sIx_none, List.drop_zero, e, Nat.sub_zero, ← List.take_eq_take_min]
theorem cut_from (xs : List V) (n : Int) (h : 0 ≤ n) : cutV xs (some n) none = xs.drop n.toNat := by
  unfold cutV
  have e0 : HT.sIx xs.length 0 (some n) = min n.toNat xs.length := by
    have q := HT.sIx_nat xs.length 0 n.toNat
    rwa [show ((n.toNat : Nat) : Int) = n by omega] at q
  rw [e0, HT.sIx_none]
  have e : xs.drop (min n.toNat xs.length) = xs.drop n.toNat := by
    by_cases q : n.toNat ≤ xs.length
    · rw [Nat.min_eq_left q]
    · rw [Nat.min_eq_right (by omega), List.drop_of_length_le (Nat.le_refl _), List.drop_of_length_le (by omega)]
  rw [e, List.take_of_length_le]
  rw [List.length_drop]
  omega

/-- all are ints -/
def AI (xs : List V) : Prop := ∀ x ∈ xs, ∃ z : Int, x = .int z
theorem AI.get {xs : List V} {n : Nat} {x : V} (h : AI xs) (e : xs[n]? = some x) : ∃ z : Int, x = .int z := h x (List.mem_of_getElem? e)
theorem AI.cut {xs : List V} {lo hi : Option Int} (h : AI xs) : AI (cutV xs lo hi) := fun x hx => h x (List.mem_of_mem_drop (List.mem_of_mem_take hx))
theorem AI.app {xs ys : List V} (h : AI xs) (h' : AI ys) : AI (xs ++ ys) := fun x hx => (List.mem_append.mp hx).elim (h x) (h' x)
theorem AI.nil : AI [] := fun _ h => nomatch h
theorem AI.one (z : Int) : AI [.int z] := fun x h => ⟨z, by simpa using h⟩
theorem AI.ints : ∀ {xs : List V}, AI xs → ∃ ns : List Int, xs = ns.map V.int
  | [], _ => ⟨[], rfl⟩
  | x :: xs, h => by
    obtain ⟨z, rfl⟩ := h x List.mem_cons_self
    obtain ⟨ns, rfl⟩ := AI.ints (xs := xs) fun y hy => h y (List.mem_cons_of_mem _ hy)
    exact ⟨z :: ns, rfl⟩
theorem AI.of (ns : List Int) : AI (ns.map V.int) := fun x hx => by
  obtain ⟨z, _, e⟩ := List.mem_map.mp hx
  exact ⟨z, e.symm⟩
theorem AI.of_all : ∀ {xs ys : List V}, All2 (fun _ y => ∃ z : Int, y = .int z) xs ys → AI ys
  | _, _, .nil => AI.nil
  | _, _, .cons r t => fun y hy => (List.mem_cons.mp hy).elim (fun e => e ▸ r) (AI.of_all t y)
/-- all are texts -/
def AS (xs : List V) : Prop := ∀ x ∈ xs, ∃ z : Str, x = .str z
theorem AS.get {xs : List V} {n : Nat} {x : V} (h : AS xs) (e : xs[n]? = some x) : ∃ z : Str, x = .str z := h x (List.mem_of_getElem? e)
theorem AS.cut {xs : List V} {lo hi : Option Int} (h : AS xs) : AS (cutV xs lo hi) := fun x hx => h x (List.mem_of_mem_drop (List.mem_of_mem_take hx))
theorem AS.app {xs ys : List V} (h : AS xs) (h' : AS ys) : AS (xs ++ ys) := fun x hx => (List.mem_append.mp hx).elim (h x) (h' x)
theorem AS.of (ns : List Str) : AS (ns.map V.str) := fun x hx => by
  obtain ⟨z, _, e⟩ := List.mem_map.mp hx
  exact ⟨z, e.symm⟩
theorem AS.nil : AS [] := fun _ h => nomatch h
theorem AS.cons {z : Str} {xs : List V} (h : AS xs) : AS (.str z :: xs) := fun x hx => (List.mem_cons.mp hx).elim (fun e => ⟨z, e⟩) (h x)
theorem cut_len (xs : List V) (lo hi : Option Int) : (cutV xs lo hi).length ≤ xs.length := cutV_length xs lo hi
theorem cast_int {Q : VK} {H : Hp} {a b : Int} (h : Q (.int a) H) (e : a = b) : Q (.int b) H := e ▸ h

/-! ### forward steps -/
section
variable {W : Wd} {K : PySem.W.Frag} {H H1 : Hp} {σ : L2.St} {D : Ends} {Q : VK} {v x y : V} {i j : Int} {n : Nat} {s z : Str} {b c : Bool} {p a : Addr} {xs ys vs : List V}
variable {ta tb te : TE} {t u : TS} {c1 c2 : TT} {tr : TA} {r : R2} {QB : Bool → Hp → Prop} {QA : List V → Hp → Prop} {QO : Option Int → Hp → Prop}
theorem rd_seq (h : t { D with nx := u D } σ H) : tSeq t u D σ H := h
theorem rd_next (h : D.nx σ H) : tNext D σ H := h
theorem rd_asg {m : Nat} (h : te σ H fun x H1 => D.nx (σ.set m (some x)) H1) : tAsg te (gName m) D σ H := h
theorem rd_asgG {g : TG} (h : te σ H fun x H1 => g x σ H1 D.nx) : tAsg te g D σ H := h
theorem rd_drop (h : te σ H fun _ H1 => D.nx σ H1) : tDrop te D σ H := h
theorem rd_ret (h : te σ H D.rt) : tRet te D σ H := h
theorem rd_retN (h : D.rt .non H) : tRetN D σ H := h
theorem rd_brk (h : D.bk σ H) : tBreak D σ H := h
theorem rd_cont (h : D.ct σ H) : tCont D σ H := h
theorem rd_ifS (h : c1 σ H fun b H1 => if b = true then t D σ H1 else u D σ H1) : tIfS c1 t u D σ H := h
theorem rd_var {m : Nat} (e : σ[m]? = some (some v)) (h : Q v H) : tVar m σ H Q := ⟨v, e, h⟩
theorem rd_c (h : Q v H) : tC v σ H Q := h
theorem rd_op (h : ta σ H fun x H1 => tb σ H1 fun y H2 => r x y H2 Q) : tOp r ta tb σ H Q := h
theorem rd_un {r : V → Hp → VK → Prop} (h : ta σ H fun x H1 => r x H1 Q) : tUn r ta σ H Q := h
theorem rd_I0 {g : Int → Int → V} (h : Q (g i j) H) : rI0 g (.int i) (.int j) H Q := ⟨_, _, rfl, rfl, h⟩
theorem rd_I {C : Int → Int → Prop} {g : Int → Int → V} (k : C i j) (h : Q (g i j) H) : rI C g (.int i) (.int j) H Q := ⟨_, _, rfl, rfl, k, h⟩
theorem rd_U {g : Int → V} (h : Q (g i) H) : rU g (.int i) H Q := ⟨_, rfl, h⟩
theorem rd_eq (k : scal x y = true) (h : Q (.bl (decide (x = y))) H) : rEq x y H Q := ⟨k, h⟩
theorem rd_ne (k : scal x y = true) (h : Q (.bl (!decide (x = y))) H) : rNe x y H Q := ⟨k, h⟩
theorem rd_isN (h : Q (.bl (decide (x = .non))) H) : rIsN2 x .non H Q := ⟨rfl, h⟩
theorem rd_notN (h : Q (.bl (!decide (x = .non))) H) : rNotN2 x .non H Q := ⟨rfl, h⟩
theorem rd_test (h : te σ H fun x H1 => ∃ k, x = .bl k ∧ QB k H1) : tTest te σ H QB := h
theorem rd_B (h : te σ H fun x H1 => ∃ k, x = .bl k ∧ QB k H1) : tB te σ H QB := h
theorem rd_bl {P : Bool → Prop} (h : P b) : ∃ k, V.bl b = V.bl k ∧ P k := ⟨b, rfl, h⟩
theorem rd_and (h : c1 σ H fun c H1 => if c = true then c2 σ H1 QB else QB false H1) : tAnd c1 c2 σ H QB := h
theorem rd_or (h : c1 σ H fun c H1 => if c = true then QB true H1 else c2 σ H1 QB) : tOr c1 c2 σ H QB := h
theorem rd_not (h : c1 σ H fun c H1 => QB (!c) H1) : tNot c1 σ H QB := h
theorem rd_andV (h : ta σ H fun x H1 => ∃ k, x = .bl k ∧ if k = true then tb σ H1 Q else Q (.bl false) H1) : tAndV ta tb σ H Q := h
theorem rd_orV (h : ta σ H fun x H1 => ∃ k, x = .bl k ∧ if k = true then Q (.bl true) H1 else tb σ H1 Q) : tOrV ta tb σ H Q := h
theorem rd_notV (h : ta σ H fun x H1 => ∃ k, x = .bl k ∧ Q (.bl (!k)) H1) : tNotV ta σ H Q := h
theorem rd_blV {P : Bool → Prop} (h : P b) : ∃ k, V.bl b = .bl k ∧ P k := ⟨b, rfl, h⟩
theorem rd_ifE (h : c1 σ H fun c H1 => if c = true then ta σ H1 Q else tb σ H1 Q) : tIf c1 ta tb σ H Q := h
theorem rd_nil (h : QA [] H) : tNil σ H QA := h
theorem rd_cons (h : te σ H fun x H1 => tr σ H1 fun xs H2 => QA (x :: xs) H2) : tCons te tr σ H QA := h
theorem rd_call {sp : Sp} {E : XK} (h : tr σ H fun vs H1 => sp (vs ++ []) H1 Q E) : tCall sp [] E tr σ H Q := h
theorem rd_app0 {P : List V → Prop} (h : P vs) : P (vs ++ []) := by rw [List.append_nil]; exact h
theorem rd_cb {r : List V → Hp → VK → Prop} (h : tr σ H fun vs H1 => r vs H1 Q) : tCB r tr σ H Q := h
/-- a new tuple, a new list -/
def NewO (Q : VK) (o : HO) (n : Nat) (H1 : Hp) : Prop := n ≤ sizeLine ∧ ∀ p, H1 p = none → Q (.ref p) (upd H1 p o)
theorem rd_tupU (h : tr σ H fun xs H1 => NewO Q (.tup xs) xs.length H1) : tTup tr σ H Q := h
theorem rd_lstU (h : tr σ H fun xs H1 => NewO Q (.lst xs) xs.length H1) : tLst tr σ H Q := h
theorem rd_new {o : HO} (i : W.iv H) (hn : n ≤ 1000000) (k : ∀ p H2, H p = none → Ex W H H2 → At W H2 p o → Q (.ref p) H2) : NewO Q o n H := lst_of i hn k
theorem rd_new1 {o : HO} (i : W.iv H) (k : ∀ p H2, H p = none → Ex W H H2 → At W H2 p o → Q (.ref p) H2) : ∀ p, H p = none → Q (.ref p) (upd H p o) := new_of i k
theorem rd_ixL (h : At W H p (.lst xs)) (e : atI xs i = some v) (k : Q v H) : rIxL K (.ref p) (.int i) H Q := ⟨p, xs, i, v, rfl, rfl, h.sl, e, k⟩
theorem rd_ixT (h : At W H p (.tup xs)) (e : atI xs i = some v) (k : Q v H) : rIxT K (.ref p) (.int i) H Q := ⟨p, xs, i, v, rfl, rfl, h.st, e, k⟩
theorem rd_slLr {lo hi : Option Int} (h : H a = some (.lst xs)) (k : ∀ p H2, H p = none → H2 p = some (.lst (cutV xs lo hi)) → (∀ q, q ≠ p → H2 q = H q) → Q (.ref p) H2) : rSlL K (.ref a) lo hi H Q := ⟨a, xs, rfl, SqL.of h, fun p hp => k p _ hp upd_same fun _ ne => upd_ne ne⟩
theorem rd_ixM (h : At W H p (.lst xs)) (h0 : 0 ≤ i) (h1 : i < (xs.length : Int)) (k : ∀ v, v ∈ xs → Q v H) : rIxL K (.ref p) (.int i) H Q := by
  have e : xs[i.toNat]? = some (xs[i.toNat]'(by omega)) := List.getElem?_eq_getElem (by omega)
  exact ⟨p, xs, i, _, rfl, rfl, h.sl, at_in h0 e, k _ (List.getElem_mem _)⟩
theorem rd_ixLr (h : H p = some (.lst xs)) (e : atI xs i = some v) (k : Q v H) : rIxL K (.ref p) (.int i) H Q := ⟨p, xs, i, v, rfl, rfl, SqL.of h, e, k⟩
theorem rd_gsub {to ti : TE} {ts : TSet} {QS : L2.St → Hp → Prop} (h : to σ H fun o H1 => ti σ H1 fun i H2 => ts o i v H2 fun H3 => QS σ H3) : gSub to ti ts v σ H QS := h
theorem rd_setr {m : Nat} {QH : Hp → Prop} (h : H p = some (.lst xs)) (e : ixN xs.length i = some m) (k : ∀ H2, H2 p = some (.lst (xs.set m v)) → (∀ q, q ≠ p → H2 q = H q) → QH H2) : rSetL (.ref p) (.int i) v H QH :=
  ⟨p, xs, i, m, rfl, rfl, h, e, k _ upd_same fun _ ne => upd_ne ne⟩
/-- a store to a list of our own (unknown at H0) -/
theorem rd_set {m : Nat} {QH : Hp → Prop} {H0 : Hp} (e0 : Ex W H0 H) (h0 : H0 p = none) (h : At W H p (.lst xs)) (e : ixN xs.length i = some m) (k : ∀ H2, Ex W H0 H2 → At W H2 p (.lst (xs.set m v)) → (∀ q o, q ≠ p → At W H q o → At W H2 q o) → QH H2) : rSetL (.ref p) (.int i) v H QH :=
  ⟨p, xs, i, m, rfl, rfl, h.1, e, k _ (e0.mut h0 h) (.mut e0.iv h) fun _ _ ne q => .other e0.iv h q ne⟩
theorem rd_len (h : At W H p (.lst xs)) (k : Q (.int xs.length) H) : rLen K [.ref p] H Q := ⟨p, xs, rfl, .inl h.sl, k⟩
theorem rd_lenT (h : At W H p (.tup xs)) (k : Q (.int xs.length) H) : rLen K [.ref p] H Q := ⟨p, xs, rfl, .inr h.st, k⟩
theorem rd_lenr (h : H p = some (.lst xs)) (k : Q (.int xs.length) H) : rLen K [.ref p] H Q := ⟨p, xs, rfl, .inl (SqL.of h), k⟩
theorem rd_int (k : Q (.int i) H) : rInt [.int i] H Q := .inl ⟨_, rfl, k⟩
theorem rd_intB (k : Q (.int (if b then 1 else 0)) H) : rInt [.bl b] H Q := .inr ⟨_, rfl, k⟩
theorem rd_abs (k : Q (.int (if i < 0 then -i else i)) H) : rAbs [.int i] H Q := ⟨_, rfl, k⟩
theorem rd_max2 (k : Q (.int (if j > i then j else i)) H) : rMax2 [.int i, .int j] H Q := ⟨_, _, rfl, k⟩
theorem rd_min2 (k : Q (.int (if j < i then j else i)) H) : rMin2 [.int i, .int j] H Q := ⟨_, _, rfl, k⟩
theorem rd_lens (h : s.length ≤ 1000000) (k : Q (.int s.length) H) : rLenStr [.str s] H Q := ⟨_, rfl, sz_le h, k⟩
theorem rd_adds (h : s.length + z.length ≤ 1000000) (k : Q (.str (s ++ z)) H) : rAddS2 (.str s) (.str z) H Q := ⟨_, _, rfl, rfl, sz_le h, k⟩
theorem rd_nopart (k : QO none H) : tNoPart σ H QO := k
theorem rd_part (h : te σ H fun x H1 => ∃ i, x = .int i ∧ QO (some i) H1) : tPart te σ H QO := h
theorem rd_partI {P : Int → Prop} (k : P i) : ∃ i', V.int i = V.int i' ∧ P i' := ⟨_, rfl, k⟩
theorem rd_sl {r : V → Option Int → Option Int → Hp → VK → Prop} {tl th : TO} (h : te σ H fun x H1 => tl σ H1 fun l H2 => th σ H2 fun u H3 => r x l u H3 Q) : tSl r te tl th σ H Q := h
theorem rd_slL {lo hi : Option Int} (i : W.iv H) (h : At W H a (.lst xs)) (k : ∀ p H2, H p = none → Ex W H H2 → At W H2 p (.lst (cutV xs lo hi)) → Q (.ref p) H2) : rSlL K (.ref a) lo hi H Q := ⟨a, xs, rfl, h.sl, rd_new1 i k⟩
theorem rd_slT {lo hi : Option Int} (i : W.iv H) (h : At W H a (.tup xs)) (k0 : cutV xs lo hi = xs → Q (.ref a) H) (k : ∀ p H2, H p = none → Ex W H H2 → At W H2 p (.tup (cutV xs lo hi)) → Q (.ref p) H2) : rSlT K (.ref a) lo hi H Q → rSlT K (.ref a) lo hi H Q := id
theorem rd_list (i : W.iv H) (h : At W H p (.lst xs)) (k : ∀ l H2, H l = none → Ex W H H2 → At W H2 l (.lst xs) → Q (.ref l) H2) : rListO K [.ref p] H Q := ⟨p, xs, rfl, .inl h.sl, rd_new1 i k⟩
theorem rd_listT (i : W.iv H) (h : At W H p (.tup xs)) (k : ∀ l H2, H l = none → Ex W H H2 → At W H2 l (.lst xs) → Q (.ref l) H2) : rListO K [.ref p] H Q := ⟨p, xs, rfl, .inr h.st, rd_new1 i k⟩
theorem rd_tuple (i : W.iv H) (h : At W H p (.lst xs)) (k : ∀ l H2, H l = none → Ex W H H2 → At W H2 l (.tup xs) → Q (.ref l) H2) : rTupO K [.ref p] H Q := ⟨p, xs, rfl, .inl ⟨h.sl, rd_new1 i k⟩⟩
theorem rd_cat (i : W.iv H) (h1 : At W H p (.lst xs)) (h2 : At W H a (.lst ys)) (hz : xs.length + ys.length ≤ 1000000) (k : ∀ l H2, H l = none → Ex W H H2 → At W H2 l (.lst (xs ++ ys)) → Q (.ref l) H2) : rCat (.ref p) (.ref a) H Q :=
  ⟨p, a, xs, ys, rfl, rfl, h1.1, h2.1, sz_le hz, rd_new1 i k⟩
theorem rd_bm {T : String} {r : V → List V → Hp → VK → Prop} (h : ta σ H fun x H1 => tyV K T x H1 ∧ tr σ H1 fun xs H2 => r x xs H2 Q) : tBM K T r ta tr σ H Q := h
theorem rd_tyL {P : Prop} (h : At W H p (.lst xs)) (k : P) : tyV K "list" (.ref p) H ∧ P := ⟨.inl ⟨rfl, xs, h.sl⟩, k⟩
/-- a statement, then the rest, with a word between them -/
def tCut (t u : TS) : TS := fun D σ H => ∃ Mid : L2.St → Hp → Prop, t { D with nx := Mid } σ H ∧ ∀ σ' H', Mid σ' H' → u D σ' H'
theorem pss_cut {X : Cx} {st : Stmt} {rest : List Stmt} {t u : TS} (h1 : PS X st t) (h2 : PSs X rest u) : PSs X (st :: rest) (tCut t u) := by
  refine ⟨fun pins s σ H D I h => ?_⟩
  obtain ⟨Mid, hm, hu⟩ := h
  refine PySem.wpAny_execs_cons (thn (h1.run pins s σ H { D with nx := Mid } I hm) fun f s1 q => ?_)
  cases f with
  | next =>
    obtain ⟨σ', H', I', q⟩ := q
    exact h2.run pins s1 σ' H' D I' (hu σ' H' q)
  | ret v => exact q
  | brk => exact q
  | cont => exact q
theorem rd_cut (M : L2.St → Hp → Prop) (h : t { D with nx := M } σ H) (k : ∀ σ' H', M σ' H' → u D σ' H') : tCut t u D σ H := ⟨M, h, k⟩
/-- a list comprehension over a list: what its source gives, then its items -/
def LcG (K : PySem.W.Frag) (a : Addr) (g : TG) (tt : TT) (te : TE) (ws : List Nat) (σ : L2.St) (H1 : Hp) (Q : VK) : Prop := ∀ D, H1 D = none → ∃ W : Nat → Nat → Hp → Prop, (∃ m, W 0 m (upd H1 D (.lst []))) ∧ ∀ i m H, W i m H →
  ((Itl K a).stop i H ∧ Q (.ref D) H) ∨ ((Itl K a).go i H ∧ ∃ Nx : Hp → Prop, (∀ H', Nx H' → ∃ m', m' < m ∧ W (i + 1) m' H') ∧ ∀ x H', (Itl K a).yld i H x H' → g x (wipe σ ws) H' fun σ2 H2 => wipe σ2 ws = wipe σ ws ∧ tt σ2 H2 fun b H3 =>
    if b = true then te σ2 H3 fun y H4 => ∃ acc, H4 D = some (.lst acc) ∧ acc.length < sizeLine ∧ Nx (upd H4 D (.lst (acc ++ [y]))) else Nx H3)
theorem rd_lc {tl : TE} {g : TG} {tt : TT} {ws : List Nat} (h : tl σ H fun x H1 => ∃ a, x = .ref a ∧ (∃ xs, SqL K H1 a xs) ∧ LcG K a g tt te ws σ H1 Q) : tLc (iList K tl) g tt te ws σ H Q := h
/-- the heap without the list at D -/
def hide (D : Addr) (H : Hp) : Hp := fun a => if a = D then none else H a
theorem hide_ne {D q : Addr} {H : Hp} (h : q ≠ D) : hide D H q = H q := if_neg h
theorem hide_upd {D : Addr} {H : Hp} {o : HO} : hide D (upd H D o) = hide D H := by
  funext q
  unfold hide upd
  split <;> rfl
theorem hide_loc {D : Addr} {H : Hp} (i : W.iv H) (n : ¬ W.own H D) : W.iv (hide D H) ∧ ∀ a, W.own (hide D H) a → W.own H a := W.loc i fun _ ha => hide_ne fun e => n (e ▸ ha)
theorem At.hide {D q : Addr} {H : Hp} {o u : HO} (h : At W H q o) (ne : q ≠ D) (i : W.iv H) (hD : At W H D u) : At W (hide D H) q o := ⟨(hide_ne ne).trans h.1, fun z => h.2 ((hide_loc i hD.2).2 _ z)⟩
theorem Ex.unhide {D : Addr} {H : Hp} {u : HO} (i : W.iv H) (hD : At W H D u) : Ex W (Lw.hide D H) H := by
  have l := hide_loc i hD.2
  refine ⟨l.1, i, fun {a o} h => ?_, fun {a o} h => ?_⟩
  · have ne : a ≠ D := fun e => by
      have q := h.1
      rw [e] at q
      unfold Lw.hide at q
      rw [if_pos rfl] at q; cases q
    refine ⟨(hide_ne ne).symm.trans h.1, fun z => h.2 ?_⟩
    -- owned in H: owned without D
    have l2 := W.loc (H := Lw.hide D H) (H' := H) l.1 fun b hb => (hide_ne (fun e : b = D => hD.2 (e ▸ l.2 b hb))).symm
    exact l2.2 a z
  · have ne : a ≠ D := fun e => by
      rw [e] at h
      unfold Lw.hide at h
      rw [if_pos rfl] at h; cases h
    exact ⟨o, (hide_ne ne).symm.trans h⟩
theorem hide_ex {D : Addr} {H H' : Hp} {u : HO} (e : Ex W H H') (hD : At W H D u) : Ex W (Lw.hide D H) (Lw.hide D H') := by
  have l := hide_loc e.i0 hD.2
  have l' := hide_loc e.iv (e.at_ hD).2
  refine ⟨l.1, l'.1, fun {a o} h => ?_, fun {a o} h => ?_⟩
  · have h1 := (Ex.unhide e.i0 hD).at_ h
    have ne : a ≠ D := fun q => by
      have z := h.1
      rw [q] at z
      unfold Lw.hide at z
      rw [if_pos rfl] at z; cases z
    exact (e.at_ h1).hide ne e.iv (e.at_ hD)
  · have ne : a ≠ D := fun q => by
      rw [q] at h
      unfold Lw.hide at h
      rw [if_pos rfl] at h; cases h
    obtain ⟨o', q⟩ := e.tr ((hide_ne ne).symm.trans h)
    exact ⟨o', (hide_ne ne).trans q⟩
/-- a tuple, a list made since -/
theorem At.hideT {D q : Addr} {H0 H : Hp} {vs acc : List V} (h : At W H q (.tup vs)) (e : Ex W H0 H) (hD : At W H0 D (.lst acc)) : At W (Lw.hide D H) q (.tup vs) := h.hide (h.ne (e.at_ hD) (fun z => by cases z)) e.iv (e.at_ hD)
theorem At.hideN {D q : Addr} {H0 H1 H : Hp} {o : HO} {acc : List V} (h : At W H q o) (e : Ex W H0 H) (hD : At W H0 D (.lst acc)) (e1 : Ex W H0 H1) (f : H1 q = none) : At W (Lw.hide D H) q o :=
  h.hide (fun z => by have r := (e1.at_ hD).1; rw [← z, f] at r; cases r) e.iv (e.at_ hD)
/-- the items: keep says which are taken, R what is made of one (without the new list, at D) -/
theorem rd_lcF {tt : TT} {m : Nat} (keep : V → Bool) (R : V → V → Hp → Prop) (i : W.iv H) (ha : At W H a (.lst xs)) (hz : xs.length ≤ 50000) (hm : ∀ x y H H', Ex W H H' → R x y H → R x y H')
    (ht : ∀ (n : Nat) x H' (QB : Bool → Hp → Prop), xs[n]? = some x → Ex W H H' → (∀ H3, Ex W H' H3 → QB (keep x) H3) → tt ((wipe σ [m]).set m (some x)) H' QB)
    (he : ∀ (n : Nat) x D acc H' (QV : VK), xs[n]? = some x → keep x = true → H D = none → At W H' D (.lst acc) → Ex W H H' → (∀ y H4, Ex W H' H4 → R x y (Lw.hide D H4) → QV y H4) → te ((wipe σ [m]).set m (some x)) H' QV)
    (k : ∀ D H2 ys, H D = none → Ex W H H2 → At W H2 D (.lst ys) → All2 (fun x y => R x y H2) (xs.filter keep) ys → Q (.ref D) H2) :
    ∃ a', V.ref a = V.ref a' ∧ (∃ xs, SqL K H a' xs) ∧ LcG K a' (gName m) tt te [m] σ H Q := by
  refine ⟨a, rfl, ⟨xs, ha.sl⟩, fun D hD => ?_⟩
  refine lc_list (xs := xs) (fun n H' => ∃ ys, Ex W H H' ∧ At W H' D (.lst ys) ∧ All2 (fun x y => R x y (Lw.hide D H')) ((xs.take n).filter keep) ys ∧ ys.length ≤ n) ⟨[], Ex.new i hD, At.new i hD, .nil, Nat.le_refl _⟩ (fun n H' _ ⟨_, e, _⟩ => (e.at_ ha).sl) (fun n x H' hx ⟨ys, e, hd, h2, hl⟩ => ?_) (fun H' ⟨ys, e, hd, h2, hl⟩ => ?_)
  · have hn : n < xs.length := (List.getElem?_eq_some_iff.mp hx).1
    have tk : xs.take (n + 1) = xs.take n ++ [x] := by rw [List.take_add_one, hx]; rfl
    refine ⟨by show wipe _ _ = _; simp [wipe, List.set_set], ?_⟩
    refine ht n x H' _ hx e fun H3 e3 => ?_
    refine ifB (fun hk => ?_) (fun hk => ?_)
    · refine he n x D ys H3 _ hx hk hD (e3.at_ hd) (e.trans e3) fun y H4 e4 r => ⟨ys, (e4.at_ (e3.at_ hd)).1, sz_lt (by omega), ys ++ [y], ((e.trans e3).trans e4).mut hD (e4.at_ (e3.at_ hd)), At.mut e4.iv (e4.at_ (e3.at_ hd)), ?_, by rw [List.length_append, List.length_singleton]; omega⟩
      rw [tk, List.filter_append, List.filter_cons, if_pos hk, hide_upd]
      exact All2.snoc (All2.mono (fun x' y' r' => hm x' y' _ _ (hide_ex (e3.trans e4) hd) r') h2) r
    · refine ⟨ys, e.trans e3, e3.at_ hd, ?_, by omega⟩
      rw [tk, List.filter_append, List.filter_cons, if_neg (by rw [hk]; decide)]
      show All2 _ (_ ++ []) _
      rw [List.append_nil]
      exact All2.mono (fun x' y' r' => hm x' y' _ _ (hide_ex e3 hd) r') h2
  · rw [List.take_length] at h2
    exact k D H' ys hD e hd (All2.mono (fun x' y' r' => hm x' y' _ _ (Ex.unhide e.iv hd) r') h2)
/-- no test -/
theorem rd_lc1 {m : Nat} (R : V → V → Hp → Prop) (i : W.iv H) (ha : At W H a (.lst xs)) (hz : xs.length ≤ 50000) (hm : ∀ x y H H', Ex W H H' → R x y H → R x y H')
    (he : ∀ (n : Nat) x D acc H' (QV : VK), xs[n]? = some x → H D = none → At W H' D (.lst acc) → Ex W H H' → (∀ y H4, Ex W H' H4 → R x y (Lw.hide D H4) → QV y H4) → te ((wipe σ [m]).set m (some x)) H' QV)
    (k : ∀ D H2 ys, H D = none → Ex W H H2 → At W H2 D (.lst ys) → All2 (fun x y => R x y H2) xs ys → Q (.ref D) H2) :
    ∃ a', V.ref a = V.ref a' ∧ (∃ xs, SqL K H a' xs) ∧ LcG K a' (gName m) tYes te [m] σ H Q :=
  rd_lcF (fun _ => true) R i ha hz hm (fun n x H' QB _ e q => q H' (Ex.refl e.iv)) (fun n x D acc H' QV h1 _ h2 h3 h4 h5 => he n x D acc H' QV h1 h2 h3 h4 h5) fun D H2 ys h1 h2 h3 h4 => k D H2 ys h1 h2 h3 (by
    have z : xs.filter (fun _ => true) = xs := by simp
    rwa [z] at h4)
/-- a list comprehension over a list: what its source gives, then its items -/
def LcGT (K : PySem.W.Frag) (a : Addr) (g : TG) (tt : TT) (te : TE) (ws : List Nat) (σ : L2.St) (H1 : Hp) (Q : VK) : Prop := ∀ D, H1 D = none → ∃ W : Nat → Nat → Hp → Prop, (∃ m, W 0 m (upd H1 D (.lst []))) ∧ ∀ i m H, W i m H →
  ((Itt K a).stop i H ∧ Q (.ref D) H) ∨ ((Itt K a).go i H ∧ ∃ Nx : Hp → Prop, (∀ H', Nx H' → ∃ m', m' < m ∧ W (i + 1) m' H') ∧ ∀ x H', (Itt K a).yld i H x H' → g x (wipe σ ws) H' fun σ2 H2 => wipe σ2 ws = wipe σ ws ∧ tt σ2 H2 fun b H3 =>
    if b = true then te σ2 H3 fun y H4 => ∃ acc, H4 D = some (.lst acc) ∧ acc.length < sizeLine ∧ Nx (upd H4 D (.lst (acc ++ [y]))) else Nx H3)
theorem rd_lcT {tl : TE} {g : TG} {tt : TT} {ws : List Nat} (h : tl σ H fun x H1 => ∃ a, x = .ref a ∧ (∃ xs, SqT K H1 a xs) ∧ LcGT K a g tt te ws σ H1 Q) : tLc (iTup K tl) g tt te ws σ H Q := h
/-- the items: keep says which are taken, R what is made of one (without the new list, at D) -/
theorem rd_lcTF {tt : TT} {m : Nat} (keep : V → Bool) (R : V → V → Hp → Prop) (i : W.iv H) (ha : At W H a (.tup xs)) (hz : xs.length ≤ 50000) (hm : ∀ x y H H', Ex W H H' → R x y H → R x y H')
    (ht : ∀ (n : Nat) x H' (QB : Bool → Hp → Prop), xs[n]? = some x → Ex W H H' → (∀ H3, Ex W H' H3 → QB (keep x) H3) → tt ((wipe σ [m]).set m (some x)) H' QB)
    (he : ∀ (n : Nat) x D acc H' (QV : VK), xs[n]? = some x → keep x = true → H D = none → At W H' D (.lst acc) → Ex W H H' → (∀ y H4, Ex W H' H4 → R x y (Lw.hide D H4) → QV y H4) → te ((wipe σ [m]).set m (some x)) H' QV)
    (k : ∀ D H2 ys, H D = none → Ex W H H2 → At W H2 D (.lst ys) → All2 (fun x y => R x y H2) (xs.filter keep) ys → Q (.ref D) H2) :
    ∃ a', V.ref a = V.ref a' ∧ (∃ xs, SqT K H a' xs) ∧ LcGT K a' (gName m) tt te [m] σ H Q := by
  refine ⟨a, rfl, ⟨xs, ha.st⟩, fun D hD => ?_⟩
  refine lc_tup (xs := xs) (fun n H' => ∃ ys, Ex W H H' ∧ At W H' D (.lst ys) ∧ All2 (fun x y => R x y (Lw.hide D H')) ((xs.take n).filter keep) ys ∧ ys.length ≤ n) ⟨[], Ex.new i hD, At.new i hD, .nil, Nat.le_refl _⟩ (fun n H' _ ⟨_, e, _⟩ => (e.at_ ha).st) (fun n x H' hx ⟨ys, e, hd, h2, hl⟩ => ?_) (fun H' ⟨ys, e, hd, h2, hl⟩ => ?_)
  · have hn : n < xs.length := (List.getElem?_eq_some_iff.mp hx).1
    have tk : xs.take (n + 1) = xs.take n ++ [x] := by rw [List.take_add_one, hx]; rfl
    refine ⟨by show wipe _ _ = _; simp [wipe, List.set_set], ?_⟩
    refine ht n x H' _ hx e fun H3 e3 => ?_
    refine ifB (fun hk => ?_) (fun hk => ?_)
    · refine he n x D ys H3 _ hx hk hD (e3.at_ hd) (e.trans e3) fun y H4 e4 r => ⟨ys, (e4.at_ (e3.at_ hd)).1, sz_lt (by omega), ys ++ [y], ((e.trans e3).trans e4).mut hD (e4.at_ (e3.at_ hd)), At.mut e4.iv (e4.at_ (e3.at_ hd)), ?_, by rw [List.length_append, List.length_singleton]; omega⟩
      rw [tk, List.filter_append, List.filter_cons, if_pos hk, hide_upd]
      exact All2.snoc (All2.mono (fun x' y' r' => hm x' y' _ _ (hide_ex (e3.trans e4) hd) r') h2) r
    · refine ⟨ys, e.trans e3, e3.at_ hd, ?_, by omega⟩
      rw [tk, List.filter_append, List.filter_cons, if_neg (by rw [hk]; decide)]
      show All2 _ (_ ++ []) _
      rw [List.append_nil]
      exact All2.mono (fun x' y' r' => hm x' y' _ _ (hide_ex e3 hd) r') h2
  · rw [List.take_length] at h2
    exact k D H' ys hD e hd (All2.mono (fun x' y' r' => hm x' y' _ _ (Ex.unhide e.iv hd) r') h2)
/-- no test -/
theorem rd_lcT1 {m : Nat} (R : V → V → Hp → Prop) (i : W.iv H) (ha : At W H a (.tup xs)) (hz : xs.length ≤ 50000) (hm : ∀ x y H H', Ex W H H' → R x y H → R x y H')
    (he : ∀ (n : Nat) x D acc H' (QV : VK), xs[n]? = some x → H D = none → At W H' D (.lst acc) → Ex W H H' → (∀ y H4, Ex W H' H4 → R x y (Lw.hide D H4) → QV y H4) → te ((wipe σ [m]).set m (some x)) H' QV)
    (k : ∀ D H2 ys, H D = none → Ex W H H2 → At W H2 D (.lst ys) → All2 (fun x y => R x y H2) xs ys → Q (.ref D) H2) :
    ∃ a', V.ref a = V.ref a' ∧ (∃ xs, SqT K H a' xs) ∧ LcGT K a' (gName m) tYes te [m] σ H Q :=
  rd_lcTF (fun _ => true) R i ha hz hm (fun n x H' QB _ e q => q H' (Ex.refl e.iv)) (fun n x D acc H' QV h1 _ h2 h3 h4 h5 => he n x D acc H' QV h1 h2 h3 h4 h5) fun D H2 ys h1 h2 h3 h4 => k D H2 ys h1 h2 h3 (by
    have z : xs.filter (fun _ => true) = xs := by simp
    rwa [z] at h4)
theorem rd_any {bs : List Bool} (h : At W H a (.lst (bs.map V.bl))) (k : Q (.bl (bs.any id)) H) : rAny K [.ref a] H Q := ⟨a, bs, rfl, h.sl, k⟩
theorem rd_all {bs : List Bool} (h : At W H a (.lst (bs.map V.bl))) (k : Q (.bl (bs.all id)) H) : rAll K [.ref a] H Q := ⟨a, bs, rfl, h.sl, k⟩
theorem rd_sum {ns : List Int} (h : At W H a (.lst (ns.map V.int))) (k : Q (.int ns.sum) H) : rSum K [.ref a] H Q := ⟨a, ns, rfl, h.sl, k⟩
theorem rd_inK (h : SqT K H p xs) (f : flatV x = true) (g : xs.all flatV = true) (k : Q (.bl (inV x xs)) H) : rIn K false x (.ref p) H Q := ⟨p, xs, rfl, .inr h, f, g, k⟩
theorem rd_niK (h : SqT K H p xs) (f : flatV x = true) (g : xs.all flatV = true) (k : Q (.bl (!inV x xs)) H) : rIn K true x (.ref p) H Q := ⟨p, xs, rfl, .inr h, f, g, k⟩
theorem rd_inT (h : At W H p (.tup xs)) (f : flatV x = true) (g : xs.all flatV = true) (k : Q (.bl (inV x xs)) H) : rIn K false x (.ref p) H Q := ⟨p, xs, rfl, .inr h.st, f, g, k⟩
theorem rd_niT (h : At W H p (.tup xs)) (f : flatV x = true) (g : xs.all flatV = true) (k : Q (.bl (!inV x xs)) H) : rIn K true x (.ref p) H Q := ⟨p, xs, rfl, .inr h.st, f, g, k⟩
theorem rd_inL (h : At W H p (.lst xs)) (f : flatV x = true) (g : xs.all flatV = true) (k : Q (.bl (inV x xs)) H) : rIn K false x (.ref p) H Q := ⟨p, xs, rfl, .inl h.sl, f, g, k⟩
theorem rd_niL (h : At W H p (.lst xs)) (f : flatV x = true) (g : xs.all flatV = true) (k : Q (.bl (!inV x xs)) H) : rIn K true x (.ref p) H Q := ⟨p, xs, rfl, .inl h.sl, f, g, k⟩
theorem rd_slTn {lo hi : Option Int} (i : W.iv H) (h : At W H a (.tup xs)) (n : ¬ (HT.sIx xs.length 0 lo = 0 ∧ HT.sIx xs.length xs.length hi = xs.length)) (k : ∀ p H2, H p = none → Ex W H H2 → At W H2 p (.tup (cutV xs lo hi)) → Q (.ref p) H2) : rSlT K (.ref a) lo hi H Q := ⟨a, xs, rfl, h.st, n, rd_new1 i k⟩
theorem rd_gtup {QS : L2.St → Hp → Prop} {ts : TGs} (h : At W H a (.tup xs)) (e : xs.length = n) (k : ts xs σ H QS) : gTup K n ts (.ref a) σ H QS := ⟨a, xs, rfl, h.st, e, k⟩
theorem rd_gconsE {QS : L2.St → Hp → Prop} {g : TG} {ts : TGs} (e : vs = v :: xs) (k : g v σ H fun σ' H' => ts xs σ' H' QS) : gCons g ts vs σ H QS := ⟨v, xs, e, k⟩
theorem rd_gnilE {QS : L2.St → Hp → Prop} (e : vs = []) (k : QS σ H) : gNil vs σ H QS := ⟨e, k⟩
theorem rd_isi {nm mm : String} (ty : TyX K H x (.type nm)) (h : kitB nm mm = some b) (k : Q (.bl b) H) : rIsi K [x, .ty mm] H Q := ⟨x, .ty mm, .type nm, .type mm, b, rfl, .ty _, ty, kit_ty h, k⟩
theorem rd_isiY {nm mm : String} (ty : TyX K H x (.type nm)) (h : kitB nm mm = some true) (k : Q (.bl true) H) : rIsi K [x, .ty mm] H Q := rd_isi ty h k
theorem rd_isiN {nm mm : String} (ty : TyX K H x (.type nm)) (h : kitB nm mm = some false) (k : Q (.bl false) H) : rIsi K [x, .ty mm] H Q := rd_isi ty h k
theorem rd_slLs {lo hi : Option Int} (i : W.iv H) (h : SqL K H a xs) (k : ∀ p H2, H p = none → Ex W H H2 → At W H2 p (.lst (cutV xs lo hi)) → Q (.ref p) H2) : rSlL K (.ref a) lo hi H Q := ⟨a, xs, rfl, h, rd_new1 i k⟩
theorem rd_gcons {QS : L2.St → Hp → Prop} {g : TG} {ts : TGs} (k : g v σ H fun σ' H' => ts xs σ' H' QS) : gCons g ts (v :: xs) σ H QS := ⟨v, xs, rfl, k⟩
theorem rd_gnil {QS : L2.St → Hp → Prop} (k : QS σ H) : gNil [] σ H QS := ⟨rfl, k⟩
theorem rd_gname {QS : L2.St → Hp → Prop} {m : Nat} (k : QS (σ.set m (some v)) H) : gName m v σ H QS := k
/-- a for over a list, a tuple, a range: its source, then for_list .. -/
def FoG (K : PySem.W.Frag) (a : Addr) (g : TG) (tb : TS) (D : Ends) (σ : L2.St) (H : Hp) : Prop := ∃ W : Nat → Nat → L2.St → Hp → Prop, (∃ m, W 0 m σ H) ∧ ∀ i m σ H, W i m σ H →
  ((Itl K a).stop i H ∧ D.nx σ H) ∨ ((Itl K a).go i H ∧ ∃ N : L2.St → Hp → Prop, (∀ σ' H', N σ' H' → ∃ m', m' < m ∧ W (i + 1) m' σ' H') ∧ ∀ x H', (Itl K a).yld i H x H' → g x σ H' fun σ2 H2 => tb { D with nx := N, ct := N, bk := D.nx } σ2 H2)
def FoR (lo : Int) (n : Nat) (g : TG) (tb : TS) (D : Ends) (σ : L2.St) (H : Hp) : Prop := ∃ W : Nat → Nat → L2.St → Hp → Prop, (∃ m, W 0 m σ H) ∧ ∀ i m σ H, W i m σ H →
  ((Itr lo n).stop i H ∧ D.nx σ H) ∨ ((Itr lo n).go i H ∧ ∃ N : L2.St → Hp → Prop, (∀ σ' H', N σ' H' → ∃ m', m' < m ∧ W (i + 1) m' σ' H') ∧ ∀ x H', (Itr lo n).yld i H x H' → g x σ H' fun σ2 H2 => tb { D with nx := N, ct := N, bk := D.nx } σ2 H2)
theorem rd_forL {tl : TE} {g : TG} {tb : TS} (h : tl σ H fun x H1 => ∃ a, x = .ref a ∧ (∃ xs, SqL K H1 a xs) ∧ FoG K a g tb D σ H1) : tFor (iList K tl) g tb D σ H := h
theorem rd_forR1 {g : TG} {tb : TS} (h : tr σ H fun vs H1 => ∃ j : Int, vs = [.int j] ∧ -(2 ^ 62) ≤ j ∧ j < 2 ^ 62 ∧ FoR 0 j.toNat g tb D σ H1) : tFor (iRng1 tr) g tb D σ H := h
theorem rd_forR2 {g : TG} {tb : TS} (h : tr σ H fun vs H1 => ∃ i j : Int, vs = [.int i, .int j] ∧ (-(2 ^ 62) ≤ i ∧ i < 2 ^ 62 ∧ -(2 ^ 62) ≤ j ∧ j < 2 ^ 62) ∧ FoR i (j - i).toNat g tb D σ H1) : tFor (iRng2 tr) g tb D σ H := h
theorem rd_forR1a {g : TG} {tb : TS} (h1 : -(2 ^ 62) ≤ j) (h2 : j < 2 ^ 62) (h : FoR 0 j.toNat g tb D σ H) : ∃ j' : Int, [V.int j] = [V.int j'] ∧ -(2 ^ 62) ≤ j' ∧ j' < 2 ^ 62 ∧ FoR 0 j'.toNat g tb D σ H := ⟨j, rfl, h1, h2, h⟩
theorem rd_forR2a {g : TG} {tb : TS} (h1 : -(2 ^ 62) ≤ i) (h2 : i < 2 ^ 62) (h3 : -(2 ^ 62) ≤ j) (h4 : j < 2 ^ 62) (h : FoR i (j - i).toNat g tb D σ H) : ∃ i' j' : Int, [V.int i, V.int j] = [V.int i', V.int j'] ∧ (-(2 ^ 62) ≤ i' ∧ i' < 2 ^ 62 ∧ -(2 ^ 62) ≤ j' ∧ j' < 2 ^ 62) ∧ FoR i' (j' - i').toNat g tb D σ H := ⟨i, j, rfl, ⟨h1, h2, h3, h4⟩, h⟩
theorem rd_forLa {g : TG} {tb : TS} (h : At W H a (.lst xs)) (k : FoG K a g tb D σ H) : ∃ a', V.ref a = V.ref a' ∧ (∃ xs, SqL K H a' xs) ∧ FoG K a' g tb D σ H := ⟨a, rfl, ⟨xs, h.sl⟩, k⟩
/-- over range: Pv by the turn -/
theorem for_r {lo : Int} {m n : Nat} {tb : TS} (Pv : Nat → L2.St → Hp → Prop) (h0 : Pv 0 σ H) (hs : ∀ (i : Nat) σ H, i < n → Pv i σ H → tb { D with nx := Pv (i + 1), ct := Pv (i + 1), bk := D.nx } (σ.set m (some (.int (lo + i)))) H) (hd : ∀ σ H, Pv n σ H → D.nx σ H) : FoR lo n (gName m) tb D σ H :=
  for_range Pv h0 hs hd
theorem for_l {g : TG} {tb : TS} (Pv : Nat → L2.St → Hp → Prop) (h0 : Pv 0 σ H) (hl : ∀ i σ H, i ≤ xs.length → Pv i σ H → At W H a (.lst xs)) (hs : ∀ i x σ H, xs[i]? = some x → Pv i σ H → g x σ H fun σ2 H2 => tb { D with nx := Pv (i + 1), ct := Pv (i + 1), bk := D.nx } σ2 H2) (hd : ∀ σ H, Pv xs.length σ H → D.nx σ H) : FoG K a g tb D σ H :=
  for_list Pv h0 (fun i σ H h p => (hl i σ H h p).sl) hs hd
/-- an append to a list of our own (unknown at H0) -/
theorem rd_append {H0 : Hp} (e : Ex W H0 H) (h0 : H0 p = none) (h : At W H p (.lst xs)) (hz : xs.length < 1000000)
    (k : ∀ H2, Ex W H0 H2 → At W H2 p (.lst (xs ++ [y])) → (∀ q o, q ≠ p → At W H q o → At W H2 q o) → Q .non H2) : rAppend (.ref p) [y] H Q :=
  ⟨p, xs, y, rfl, rfl, h.1, sz_lt hz, k _ (e.mut h0 h) (.mut e.iv h) fun _ _ ne q => .other e.iv h q ne⟩
end
end Lw

/-! Lw2: loops and comprehensions over anything that is walked, enumerate with a start, dicts, texts. -/
namespace Lw
open PySem L2 PySem.Spec PyProof.Rows

/-! ### enumerate(xs, start=k), enumerate of a tuple -/
/-- a type of the language called with named arguments -/
theorem callWith_tyK {M : Model} {A : Around} {E : Value → Shared → Prop} {s : Shared} {env : Env} {pos : Pos} {T : String} {e : Expr} {rest : List Expr} {kws : List Keyword} {Q : Value → Shared → Prop}
    (h : wpAny M A (spliced (backTo pos (starEach (e :: rest) env))) (fun vs s₁ => wpAny M A (evalAll ((backToKw pos (keywordEach kws env)).map (·.2)))
      (fun zs s₂ => wpAny M A (call (.type T) vs (((backToKw pos (keywordEach kws env)).filterMap (·.1)).zip zs)) Q E s₂) E s₁) E s)
    (he : backTo pos (starEach (e :: rest) env) = (false, eval e env) :: backTo pos (starEach rest env)) (hp : (backTo pos (starEach (e :: rest) env)).any (·.1) = false)
    (ha : (backToKw pos (keywordEach kws env)).all (·.1.isSome) = true) (hk : (backToKw pos (keywordEach kws env)).any (·.1.isNone) = false) :
    wpAny M A (callWith pos (.type T) [] (backTo pos (starEach (e :: rest) env)) (backToKw pos (keywordEach kws env))) Q E s := by
  have h1 : wpAny M A (evalArgs (.type T) true (backTo pos (starEach (e :: rest) env)) (backToKw pos (keywordEach kws env))) (fun a s₁ => wpAny M A (call (.type T) ([] ++ a.pos) a.kw) Q E s₁) E s := by
    rw [he] at h ⊢
    exact evalArgs_kwB ha h
  unfold callWith
  refine wpAny_bind (wpAny_holding (wpAny_mono h1 (fun a s₁ q => wpAny_bind (wpAny_standAt ?_)) fun _ _ x => x))
  simp only [hp, hk, Bool.or_false]
  exact wpAny_bind (wpAny_pure (wpAny_bind (wpAny_mono q (fun r s₂ hr => wpAny_bind (wpAny_holding (wpAny_point (wpAny_pure hr)))) fun _ _ x => x)))
def IteL (K : PySem.W.Frag) (c : Int) (a : Addr) : It :=
  ⟨fun i H => ∃ xs x, SqL K H a xs ∧ xs[i]? = some x, fun i H v H' => ∃ T x, v = .ref T ∧ H T = none ∧ H' = upd H T (.tup [.int (c + (i : Nat)), x]) ∧ ∀ xs, SqL K H a xs → xs[i]? = some x, fun i H => ∃ xs, SqL K H a xs ∧ xs.length ≤ i⟩
def IteT (K : PySem.W.Frag) (c : Int) (a : Addr) : It :=
  ⟨fun i H => ∃ xs x, SqT K H a xs ∧ xs[i]? = some x, fun i H v H' => ∃ T x, v = .ref T ∧ H T = none ∧ H' = upd H T (.tup [.int (c + (i : Nat)), x]) ∧ ∀ xs, SqT K H a xs → xs[i]? = some x, fun i H => ∃ xs, SqT K H a xs ∧ xs.length ≤ i⟩
/-- one turn of it, told by what its source draws -/
theorem enum_turn {elts : List Expr} {kk : Nat} {tpos : Pos} {X : Cx} {pins : List (Addr × Obj)} {s : Shared} {σ : L2.St} {H : Hp} {E : Value → Shared → Prop} {e it src : Addr} {n i : Nat} {c : Int} {x : V} {u old : Value} {P : Nat → Value → Prop} {S : Nat → Heap → Prop} {tn' : Heap → Prop} {y : V → Hp → Prop}
    (I : Inv X pins σ H s) (D : Draws X.prog X.w X.A.in1 it [it, src] n P S) (hf : ∀ b ∈ [e, it], FpOk X pins H b) (he : IsEnum s.heap e it (c + ((i : Nat) : Int)) old) (hst : S i s.heap) (hi : i < n) (hne : e ≠ it) (hns : e ≠ src)
    (hP : ∀ v, P i v → v = u) (ru : RelV x u) (hs : ∀ h, S (i + 1) h → ∃ o, h.get? it = some o) (hk : ∀ h h', S (i + 1) h → (∀ b o, b ≠ e → h.get? b = some o → h'.get? b = some o) → S (i + 1) h')
    (ht : ∀ h, (∃ old, IsEnum h e it (c + ((i + 1 : Nat) : Int)) old) → S (i + 1) h → tn' h) (hy : ∀ T, H T = none → y (.ref T) (upd H T (.tup [.int (c + (i : Nat)), x]))) :
    wpAny (model X.prog X.w) X.A (pyNext (.ref e)) (fun r s1 => ∃ v, r = some v ∧
      wpAny (model X.prog X.w) X.A (letOwnedTupleGo (.Tuple elts kk tpos) (.ref e) v) (fun _ s2 => ∃ x' H', Inv X pins σ H' s2 ∧ RelV x' v ∧ y x' H' ∧ tn' s2.heap ∧ ∀ b ∈ [e, it], H' b = none) E s1) E s := by
  have hel : e < s.heap.objs.size := Heap.lt_size he
  have hil : it < s.heap.objs.size := by obtain ⟨_, q⟩ := D.live _ _ hst; exact Heap.lt_size q
  refine wpAny_pyNext_enum_itemC D he hst hi hne (by simp [hne, hns]) fun v h' tk hv ho hs' hT hsz hb => ?_
  cases hP v hv
  refine ⟨_, rfl, wpAny_letOwnedTupleGo_enum (s := { s with heap := h', toks := tk + 1 }) ho fun h2 he2 sb => ?_⟩
  have hT2 : h2.get? s.heap.objs.size = some { cls := .type "tuple", data := .seq #[.int (c + (i : Nat)) tk, u] } := (sb.2 _ (Nat.ne_of_gt hel)).trans hT
  have new : ObjOk X.prog X.w (upd H s.heap.objs.size (.tup [.int (c + (i : Nat)), x])) h2 s.heap.objs.size (.tup [.int (c + (i : Nat)), x]) :=
    ⟨by show 2 ≤ sizeLine; decide, [.int (c + (i : Nat)) tk, u], .cons ⟨_, rfl⟩ (.cons ru .nil), ⟨_, hT2, rfl, _, rfl⟩⟩
  have I2 : Inv X pins σ (upd H s.heap.objs.size (.tup [.int (c + (i : Nat)), x])) { s with heap := h2, toks := tk + 1 } :=
    I.turnedNew (ch := [e, it]) (fun b ob hc q => (sb.2 b (fun z => hc (by simp [z]))).trans (hb b ob (fun z => hc (by simp [z])) (fun z => hc (by simp [z])) q)) hf (Nat.le_refl _) new
  refine ⟨.ref s.heap.objs.size, _, I2, rfl, hy _ (I.hok.fresh (Nat.le_refl _)), ht _ ⟨u, ?_⟩ (hk _ _ hs' fun b o ne q => (sb.2 b ne).trans q), fun b hm => ?_⟩
  · have e1 : c + ((i + 1 : Nat) : Int) = c + (i : Int) + 1 := by omega
    rw [e1]; exact he2
  · have hlt : b < s.heap.objs.size := by
      rcases List.mem_cons.mp hm with z | z
      · rw [z]; exact hel
      · rw [List.mem_singleton.mp z]; exact hil
    rw [upd_ne (Nat.ne_of_lt hlt)]
    exact (hf b hm).1
theorem isEnum_ne_seq {h : Heap} {e it a : Addr} {c : Int} {old : Value} {ob : Obj} {t : String} (he : IsEnum h e it c old) (hl : h.get? a = some ob) (hc : ob.cls = .type t) (ht : t ≠ "enumerate") : e ≠ a := fun z => by
  rw [← z, show h.get? e = _ from he] at hl
  cases hl
  exact ht (by injection hc with q; exact q.symm)
theorem turn_enumL {P : Program} {w : World} {K : PySem.W.Frag} {elts : List Expr} {kk : Nat} {tpos : Pos} (c : Int) (a e it : Addr) :
    Turn P w K (.Tuple elts kk tpos) (IteL K c a) [e, it] e (fun i h => (∃ old, IsEnum h e it (c + ((i : Nat) : Int)) old) ∧ h.IsListIter it a i ∧ e ≠ it) where
  mem := by simp
  obj := fun i h st b hb => by
    obtain ⟨⟨old, he⟩, ⟨o, ho, _, hd⟩, _⟩ := st
    rcases List.mem_cons.mp hb with z | z
    · rw [z]; exact ⟨_, he, fun v q => nomatch q⟩
    · rw [List.mem_singleton.mp z]; exact ⟨o, ho, fun v q => by rw [hd] at q; cases q⟩
  keep := fun i h h' st k => let ⟨⟨old, he⟩, hi, hne⟩ := st; ⟨⟨old, k e (by simp) _ he⟩, hi.at fun o q => k it (by simp) o q, hne⟩
  item := by
    intro X hP hw hK hc i pins s σ H E I hf st hg
    subst hP hw hK
    obtain ⟨⟨old, he⟩, hit, hne⟩ := st
    obtain ⟨xs, x, hq, hx⟩ := hg
    obtain ⟨its, rv, p, hz⟩ := I.list hq
    obtain ⟨u, hu, ru⟩ := rv.get hx
    obtain ⟨ol, hol, hcl, _⟩ := p.isList
    obtain ⟨oi, hoi, hci, _⟩ := id hit
    have hai : a ≠ it := fun z => by
      rw [z, hoi] at hol
      cases hol
      rw [hci] at hcl
      injection hcl with q; exact absurd q (by decide)
    have hi : i < its.toArray.size := by simpa using (List.getElem?_eq_some_iff.mp hu).1
    refine enum_turn (y := (IteL X.K c a).yld i H) (tn' := fun h => (∃ old, IsEnum h e it (c + ((i + 1 : Nat) : Int)) old) ∧ h.IsListIter it a (i + 1) ∧ e ≠ it) I (Draws.list (show X.A.in1.handled = none from I.ok.hd hc) it a hai its.toArray) hf he ⟨hit, p.isList⟩ hi hne (isEnum_ne_seq he hol hcl (by decide)) (u := u) (fun v hv => ?_) ru (fun h q => ?_) (fun h h' q k => ?_) (fun h q r => ⟨q, r.1, hne⟩) fun T hT => ⟨T, x, rfl, hT, rfl, fun ys hy => by rw [I.list_inj hy hq]; exact hx⟩
    · have hv' : its[i]? = some v := by simpa using hv
      rw [hu] at hv'; exact (Option.some.inj hv').symm
    · obtain ⟨o, ho, _⟩ := q.1; exact ⟨o, ho⟩
    · exact ⟨q.1.at fun o z => k _ o (Ne.symm hne) z, q.2.at fun o z => k _ o (isEnum_ne_seq he hol hcl (by decide)).symm z⟩
  done := by
    intro X hP hw hK hc i pins s σ H E I hf st hg
    subst hP hw hK
    obtain ⟨⟨old, he⟩, hit, hne⟩ := st
    obtain ⟨xs, hq, hx⟩ := hg
    obtain ⟨its, rv, p, hz⟩ := I.list hq
    obtain ⟨f0, f1, f2, f3, f4, f5⟩ := hf it (by simp)
    have hl := rv.length
    have hT : s.TypeIs (.ref e) "enumerate" := ⟨_, he, rfl⟩
    unfold pyNext
    refine wpAny_bind (wpAny_attempt (wpAny_callSpecial?_slot (name := Str.ofString "__next__") hT F.slot_enumerate_next
      (wpAny_call_entry F.slot_enumerate_next hT F.entry_enumerate_next ?_ (F.args_enumerate_next_1 _))))
    show wpAny _ _ (field (.ref e) 2 >>= _) _ _ _
    refine wpAny_bind (wpAny_field he rfl (x := .ref it) rfl ?_)
    refine wpAny_bind (wpAny_nextOf_list_end (I.ok.hd hc) hit p.isList (by simp; omega) fun h' x eb hx' => ?_)
    obtain ⟨o, ho, hcs⟩ := hx'
    refine wpAny_bind (wpAny_isInstance (T := "StopIteration") (b := true) ⟨o, ho, hcs⟩ isSubtype_stop ?_)
    exact wpAny_pure ⟨rfl, I.turned (t' := s.toks) (fun b o hb q => eb b o hb q) f0 f1 f3 f4 f5⟩
  self := fun A i s Q E st h => let ⟨⟨_, he⟩, _⟩ := st; wpAny_pyIter_enum he h
theorem turn_enumT {P : Program} {w : World} {K : PySem.W.Frag} {elts : List Expr} {kk : Nat} {tpos : Pos} (c : Int) (a e it : Addr) :
    Turn P w K (.Tuple elts kk tpos) (IteT K c a) [e, it] e (fun i h => (∃ old, IsEnum h e it (c + ((i : Nat) : Int)) old) ∧ h.IsTupleIter it a i ∧ e ≠ it) where
  mem := by simp
  obj := fun i h st b hb => by
    obtain ⟨⟨old, he⟩, ⟨o, ho, _, hd⟩, _⟩ := st
    rcases List.mem_cons.mp hb with z | z
    · rw [z]; exact ⟨_, he, fun v q => nomatch q⟩
    · rw [List.mem_singleton.mp z]; exact ⟨o, ho, fun v q => by rw [hd] at q; cases q⟩
  keep := fun i h h' st k => let ⟨⟨old, he⟩, hi, hne⟩ := st; ⟨⟨old, k e (by simp) _ he⟩, hi.at fun o q => k it (by simp) o q, hne⟩
  item := by
    intro X hP hw hK hc i pins s σ H E I hf st hg
    subst hP hw hK
    obtain ⟨⟨old, he⟩, hit, hne⟩ := st
    obtain ⟨xs, x, hq, hx⟩ := hg
    obtain ⟨its, rv, p, hz⟩ := I.tuple hq
    obtain ⟨u, hu, ru⟩ := rv.get hx
    have p' : s.heap.IsTuple a its.toArray := p
    obtain ⟨ol, hol, hcl, _⟩ := id p'
    obtain ⟨oi, hoi, hci, _⟩ := id hit
    have hai : a ≠ it := fun z => by
      rw [z, hoi] at hol
      cases hol
      rw [hci] at hcl
      injection hcl with q; exact absurd q (by decide)
    have hi : i < its.toArray.size := by simpa using (List.getElem?_eq_some_iff.mp hu).1
    refine enum_turn (y := (IteT X.K c a).yld i H) (tn' := fun h => (∃ old, IsEnum h e it (c + ((i + 1 : Nat) : Int)) old) ∧ h.IsTupleIter it a (i + 1) ∧ e ≠ it) I (Draws.tuple (show X.A.in1.handled = none from I.ok.hd hc) it a hai its.toArray) hf he ⟨hit, p'⟩ hi hne (isEnum_ne_seq he hol hcl (by decide)) (u := u) (fun v hv => ?_) ru (fun h q => ?_) (fun h h' q k => ?_) (fun h q r => ⟨q, r.1, hne⟩) fun T hT => ⟨T, x, rfl, hT, rfl, fun ys hy => by rw [I.tuple_inj hy hq]; exact hx⟩
    · have hv' : its[i]? = some v := by simpa using hv
      rw [hu] at hv'; exact (Option.some.inj hv').symm
    · obtain ⟨o, ho, _⟩ := q.1; exact ⟨o, ho⟩
    · exact ⟨q.1.at fun o z => k _ o (Ne.symm hne) z, q.2.at fun o z => k _ o (isEnum_ne_seq he hol hcl (by decide)).symm z⟩
  done := by
    intro X hP hw hK hc i pins s σ H E I hf st hg
    subst hP hw hK
    obtain ⟨⟨old, he⟩, hit, hne⟩ := st
    obtain ⟨xs, hq, hx⟩ := hg
    obtain ⟨its, rv, p, hz⟩ := I.tuple hq
    have p' : s.heap.IsTuple a its.toArray := p
    obtain ⟨f0, f1, f2, f3, f4, f5⟩ := hf it (by simp)
    have hl := rv.length
    have hT : s.TypeIs (.ref e) "enumerate" := ⟨_, he, rfl⟩
    unfold pyNext
    refine wpAny_bind (wpAny_attempt (wpAny_callSpecial?_slot (name := Str.ofString "__next__") hT F.slot_enumerate_next
      (wpAny_call_entry F.slot_enumerate_next hT F.entry_enumerate_next ?_ (F.args_enumerate_next_1 _))))
    show wpAny _ _ (field (.ref e) 2 >>= _) _ _ _
    refine wpAny_bind (wpAny_field he rfl (x := .ref it) rfl ?_)
    refine wpAny_bind (wpAny_nextOf_tuple_end (I.ok.hd hc) hit p' (by simp; omega) fun h' x eb hx' => ?_)
    obtain ⟨o, ho, hcs⟩ := hx'
    refine wpAny_bind (wpAny_isInstance (T := "StopIteration") (b := true) ⟨o, ho, hcs⟩ isSubtype_stop ?_)
    exact wpAny_pure ⟨rfl, I.turned (t' := s.toks) (fun b o hb q => eb b o hb q) f0 f1 f3 f4 f5⟩
  self := fun A i s Q E st h => let ⟨⟨_, he⟩, _⟩ := st; wpAny_pyIter_enum he h
/-- its two new cells are nobody's -/
theorem fp_two {X : Cx} {pins : List (Addr × Obj)} {σ : L2.St} {H : Hp} {s : Shared} (I : Inv X pins σ H s) : ∀ b ∈ [s.heap.objs.size + 1, s.heap.objs.size], FpOk X pins H b := fun b hb => by
  have hle : s.heap.objs.size ≤ b := by
    rcases List.mem_cons.mp hb with z | z
    · rw [z]; exact Nat.le_add_right _ _
    · rw [List.mem_singleton.mp z]; exact Nat.le_refl _
  exact I.fpOk hle (I.hok.fresh hle)
/-- enumerate(list, start=k) -/
def iEnumS (K : PySem.W.Frag) (ta tk : TA) : TI := fun σ H R => ta σ H fun vs H1 => tk σ H1 fun zs H2 => ∃ a xs c, vs = [.ref a] ∧ zs = [.int c] ∧ -(2 ^ 63) ≤ c ∧ c < 2 ^ 63 ∧ SqL K H2 a xs ∧ R (IteL K c a) H2
theorem pi_enumS {X : Cx} {e : Expr} {ta tk : TA} {kws : List Keyword} {p pos tpos : Pos} {elts : List Expr} {kk : Nat} (hg : Gl X "enumerate") (hm : X.mg "enumerate" = none) (ha : PA X [e] ta) (hk : PK X kws tk)
    (he : backTo pos (starEach [e] X.env) = (false, eval e X.env) :: backTo pos (starEach [] X.env) := by rfl) (hp : (backTo pos (starEach [e] X.env)).any (·.1) = false := by rfl)
    (hal : (backToKw pos (keywordEach kws X.env)).all (·.1.isSome) = true := by rfl) (hn : (backToKw pos (keywordEach kws X.env)).any (·.1.isNone) = false := by rfl) (hks : (backToKw pos (keywordEach kws X.env)).filterMap (·.1) = [Str.ofString "start"] := by rfl) :
    PI X (.Tuple elts kk tpos) (.Call (.Name "enumerate" p) [e] kws pos) (iEnumS X.K ta tk) := by
  refine ⟨fun pins s σ H R I h => ?_⟩
  refine wpAny_Call_Name_kw (ld_blt I hg hm boot_enumerate ?_)
  refine callWith_tyK (thn (ha.run pos pins s σ H _ I h) fun us s1 ⟨vs, H1, I1, r1, q1⟩ => thn (hk.run pos pins s1 σ H1 _ I1 q1) fun ws s2 ⟨zs, H2, I2, r2, q2⟩ => ?_) he hp hal hn
  rw [hks]
  obtain ⟨a, xs, c, ex, ez, c0, c1, hq, q⟩ := q2
  subst ex ez
  cases r1 with
  | cons r rr =>
    cases rr
    cases r
    cases r2 with
    | cons r' rr' =>
      cases rr'
      obtain ⟨t, rfl⟩ := r'
      obtain ⟨its, rv, p', hz⟩ := I2.list hq
      refine enum_begins_start (begins_list a its.toArray) p'.isList c0 c1 fun h' he' hit hsz hkeep => wpAny_pyIter_enum he' ?_
      have I3 : Inv X pins σ H2 { s2 with heap := h' } := I2.kept (t' := s2.toks) hkeep
      refine ⟨s2.heap.objs.size + 1, [s2.heap.objs.size + 1, s2.heap.objs.size], _, _, H2, rfl, I3, turn_enumL c a (s2.heap.objs.size + 1) s2.heap.objs.size, ⟨⟨.none, ?_⟩, ⟨_, hit, rfl, rfl⟩, Nat.succ_ne_self _⟩, fp_two I2, q⟩
      show IsEnum h' _ _ (c + ((0 : Nat) : Int)) _
      rw [show c + ((0 : Nat) : Int) = c by omega]
      exact he'
/-- enumerate(v), whatever v's iterator is -/
theorem enum_new1 {v : Value} {o : Obj} {G : Heap → Prop} (B : Begins v o G) : Meets (Builtin.«enumerate.__new__» ⟨[.type "enumerate", v], []⟩) (fun _ R s => G s.heap ∧ R (.ok (.ret (.ref (s.heap.push o).objs.size)))
    { s with heap := (s.heap.push o).push { cls := .type "enumerate", data := .fields #[.none, .bool false, .ref s.heap.objs.size, rawInt 0, .none, .none] } }) := by
  refine .of_wp fun prog w A R s hh => ?_
  obtain ⟨hp, g, d, tk, os⟩ := s
  obtain ⟨hG, hR⟩ := hh
  have hsub := sub_enumerate
  have it1 : ∀ {A' : Around} {E Q : Value → Shared → Prop}, Q (.ref hp.objs.size) ⟨hp.push o, g, d, tk, os⟩ → wpAny (model prog w) A' (pyIter v) Q E ⟨hp, g, d, tk, os⟩ := fun q => B.iter prog w _ _ ⟨hp, g, d, tk, os⟩ _ hG q
  wp_walk using it1
  refine wpAny_stack_any fun st => wpAny_pure ?_
  split
  · rename_i c _ _ _ _ _
    cases (c == Value.type "enumerate") <;> (wp_walk using it1; exact ⟨_, rfl, hR⟩)
  · wp_walk using it1
    exact ⟨_, rfl, hR⟩
theorem enum_begins1 {prog : Program} {w : World} {A : Around} {E : Value → Shared → Prop} {s : Shared} {v : Value} {o : Obj} {G : Heap → Prop} {Q : Value → Shared → Prop} (B : Begins v o G) (hG : G s.heap)
    (k : ∀ h', IsEnum h' (s.heap.objs.size + 1) s.heap.objs.size 0 .none → h'.get? s.heap.objs.size = some o → h'.objs.size = s.heap.objs.size + 2 → (∀ b o, s.heap.get? b = some o → h'.get? b = some o) → Q (.ref (s.heap.objs.size + 1)) { s with heap := h' }) :
    wpAny (model prog w) A (call (.type "enumerate") [v]) Q E s := by
  refine callType_new F.called_enumerate (by decide) (F.typeCall_enumerate_1 _) (F.newCall_enumerate_1 _) (fun obj => F.args_object_init_2 obj _) F.entry_enumerate_new (enum_new1 B) ⟨hG, ?_⟩
  have e1 : (s.heap.push o).objs.size = s.heap.objs.size + 1 := Heap.size_push ..
  show _ ∧ _
  rw [e1]
  have e2 := Heap.get?_push_size (s.heap.push o) (o := { cls := .type "enumerate", data := .fields #[.none, .bool false, .ref s.heap.objs.size, rawInt 0, .none, .none] }) rfl
  rw [e1] at e2
  exact ⟨⟨_, e2, rfl⟩, k _ e2 (Heap.get?_push_of_some _ (Heap.get?_push_size _ B.free)) (by rw [Heap.size_push, e1]) fun b o q => Heap.get?_push_of_some _ (Heap.get?_push_of_some _ q)⟩
/-- enumerate(tuple) -/
def iEnumT (K : PySem.W.Frag) (ta : TA) : TI := fun σ H R => ta σ H fun vs H1 => ∃ a xs, vs = [.ref a] ∧ SqT K H1 a xs ∧ R (IteT K 0 a) H1
theorem pi_enumT {X : Cx} {e : Expr} {ta : TA} {p pos tpos : Pos} {elts : List Expr} {kk : Nat} (hg : Gl X "enumerate") (hm : X.mg "enumerate" = none) (ha : PA X [e] ta) (hs : starEach [e] X.env = [(false, eval e X.env)] := by rfl) :
    PI X (.Tuple elts kk tpos) (.Call (.Name "enumerate" p) [e] [] pos) (iEnumT X.K ta) := by
  refine ⟨fun pins s σ H R I h => ?_⟩
  refine Call_ (ld_blt I hg hm boot_enumerate (PyProof.Rows.callWith_type1 (thn (ha.run pos pins s σ H _ I h) fun us s1 ⟨vs, H1, I1, r1, q1⟩ => ?_) hs rfl))
  obtain ⟨a, xs, ex, hq, q⟩ := q1
  subst ex
  cases r1 with
  | cons r rr =>
    cases rr
    cases r
    obtain ⟨its, rv, p', hz⟩ := I1.tuple hq
    refine enum_begins1 (begins_tuple a its.toArray) (show s1.heap.IsTuple a its.toArray from p') fun h' he' hit hsz hkeep => wpAny_pyIter_enum he' ?_
    have I3 : Inv X pins σ H1 { s1 with heap := h' } := I1.kept (t' := s1.toks) hkeep
    exact ⟨s1.heap.objs.size + 1, [s1.heap.objs.size + 1, s1.heap.objs.size], _, _, H1, rfl, I3, turn_enumT 0 a (s1.heap.objs.size + 1) s1.heap.objs.size, ⟨⟨.none, he'⟩, ⟨_, hit, rfl, rfl⟩, Nat.succ_ne_self _⟩, fp_two I1, q⟩

section
variable {W : Wd} {K : PySem.W.Frag} {H H1 : Hp} {σ : L2.St} {D : Ends} {Q : VK} {v x y : V} {i j c : Int} {n m : Nat} {s z : Str} {b : Bool} {p a : Addr} {xs ys vs : List V}
variable {ta tb te : TE} {t u : TS} {tr tk : TA} {g : TG} {tS : TS}
/-! ### loops over anything that is walked -/
def FoW (J : It) (g : TG) (tb : TS) (D : Ends) (σ : L2.St) (H : Hp) : Prop := ∃ W : Nat → Nat → L2.St → Hp → Prop, (∃ m, W 0 m σ H) ∧ ∀ i m σ H, W i m σ H →
  (J.stop i H ∧ D.nx σ H) ∨ (J.go i H ∧ ∃ N : L2.St → Hp → Prop, (∀ σ' H', N σ' H' → ∃ m', m' < m ∧ W (i + 1) m' σ' H') ∧ ∀ x H', J.yld i H x H' → g x σ H' fun σ2 H2 => tb { D with nx := N, ct := N, bk := D.nx } σ2 H2)
theorem rd_forS (h : te σ H fun v H1 => ∃ x, v = .str x ∧ FoW (Its x) g tS D σ H1) : tFor (iStr te) g tS D σ H := h
theorem rd_srcS {P : Str → Prop} (k : P s) : ∃ x, V.str s = .str x ∧ P x := ⟨s, rfl, k⟩
theorem rd_forT (h : te σ H fun x H1 => ∃ a, x = .ref a ∧ (∃ xs, SqT K H1 a xs) ∧ FoW (Itt K a) g tS D σ H1) : tFor (iTup K te) g tS D σ H := h
theorem rd_srcT {P : Addr → Prop} (h : At W H a (.tup xs)) (k : P a) : ∃ a', V.ref a = .ref a' ∧ (∃ xs, SqT K H a' xs) ∧ P a' := ⟨a, rfl, ⟨xs, h.st⟩, k⟩
theorem rd_forE (h : tr σ H fun vs H1 => tk σ H1 fun zs H2 => ∃ a xs c, vs = [.ref a] ∧ zs = [.int c] ∧ -(2 ^ 63) ≤ c ∧ c < 2 ^ 63 ∧ SqL K H2 a xs ∧ FoW (IteL K c a) g tS D σ H2) : tFor (iEnumS K tr tk) g tS D σ H := h
theorem rd_srcE {P : Addr → Int → Prop} (h : At W H a (.lst xs)) (c0 : -(2 ^ 63) ≤ c) (c1 : c < 2 ^ 63) (k : P a c) : ∃ a' xs c', [V.ref a] = [.ref a'] ∧ [V.int c] = [.int c'] ∧ -(2 ^ 63) ≤ c' ∧ c' < 2 ^ 63 ∧ SqL K H a' xs ∧ P a' c' := ⟨a, xs, c, rfl, rfl, c0, c1, h.sl, k⟩
theorem rd_forET (h : tr σ H fun vs H1 => ∃ a xs, vs = [.ref a] ∧ SqT K H1 a xs ∧ FoW (IteT K 0 a) g tS D σ H1) : tFor (iEnumT K tr) g tS D σ H := h
theorem rd_srcET {P : Addr → Prop} (h : SqT K H a xs) (k : P a) : ∃ a' xs, [V.ref a] = [.ref a'] ∧ SqT K H a' xs ∧ P a' := ⟨a, xs, rfl, h, k⟩
theorem for_s (Pv : Nat → L2.St → Hp → Prop) (h0 : Pv 0 σ H) (hs : ∀ i c σ H, s.cps[i]? = some c → Pv i σ H → g (.str ⟨#[c]⟩) σ H fun σ2 H2 => tS { D with nx := Pv (i + 1), ct := Pv (i + 1), bk := D.nx } σ2 H2) (hd : ∀ σ H, Pv s.cps.size σ H → D.nx σ H) : FoW (Its s) g tS D σ H :=
  for_it walk_str Pv h0 (fun _ _ _ _ _ => trivial) (fun i x σ H H' hi p y => by
    obtain ⟨rfl, c, hc, rfl⟩ := y
    exact hs i c σ _ hc p) hd
theorem walk_enumL : Walk (IteL K c a) xs.length (fun H => SqL K H a xs) (YPair (fun i => some (.int (c + (i : Nat)))) (fun i => xs[i]?)) := by
  refine ⟨fun i _ hi q => ⟨xs, xs[i], q, by simp [hi]⟩, fun _ q => ⟨xs, q, Nat.le_refl _⟩, fun i H v H' _ q y => ?_⟩
  obtain ⟨T, x, h1, h2, h3, h4⟩ := y
  exact ⟨T, _, x, h1, h2, h3, rfl, h4 xs q⟩
theorem walk_enumT : Walk (IteT K c a) xs.length (fun H => SqT K H a xs) (YPair (fun i => some (.int (c + (i : Nat)))) (fun i => xs[i]?)) := by
  refine ⟨fun i _ hi q => ⟨xs, xs[i], q, by simp [hi]⟩, fun _ q => ⟨xs, q, Nat.le_refl _⟩, fun i H v H' _ q y => ?_⟩
  obtain ⟨T, x, h1, h2, h3, h4⟩ := y
  exact ⟨T, _, x, h1, h2, h3, rfl, h4 xs q⟩
theorem for_e (Pv : Nat → L2.St → Hp → Prop) (h0 : Pv 0 σ H) (hv : ∀ i σ H, Pv i σ H → W.iv H ∧ At W H a (.lst xs))
    (hs : ∀ i x T σ H H', xs[i]? = some x → Pv i σ H → H T = none → Ex W H H' → At W H' T (.tup [.int (c + (i : Nat)), x]) → g (.ref T) σ H' fun σ2 H2 => tS { D with nx := Pv (i + 1), ct := Pv (i + 1), bk := D.nx } σ2 H2)
    (hd : ∀ σ H, Pv xs.length σ H → D.nx σ H) : FoW (IteL K c a) g tS D σ H :=
  for_it (walk_enumL (xs := xs)) Pv h0 (fun i σ H _ p => (hv i σ H p).2.sl) (fun i x σ H H' hi p y => by
    obtain ⟨T, x1, x2, rfl, hT, rfl, e1, e2⟩ := y
    cases e1
    exact hs i x2 T σ H _ e2 p hT (Ex.new (hv i σ H p).1 hT) (At.new (hv i σ H p).1 hT)) hd
theorem for_et (hq : ∀ H, SqT K H a xs) (Pv : Nat → L2.St → Hp → Prop) (h0 : Pv 0 σ H) (hv : ∀ i σ H, Pv i σ H → W.iv H)
    (hs : ∀ i x T σ H H', xs[i]? = some x → Pv i σ H → H T = none → Ex W H H' → At W H' T (.tup [.int (c + (i : Nat)), x]) → g (.ref T) σ H' fun σ2 H2 => tS { D with nx := Pv (i + 1), ct := Pv (i + 1), bk := D.nx } σ2 H2)
    (hd : ∀ σ H, Pv xs.length σ H → D.nx σ H) : FoW (IteT K c a) g tS D σ H :=
  for_it (walk_enumT (xs := xs)) Pv h0 (fun i σ H _ p => hq H) (fun i x σ H H' hi p y => by
    obtain ⟨T, x1, x2, rfl, hT, rfl, e1, e2⟩ := y
    cases e1
    exact hs i x2 T σ H _ e2 p hT (Ex.new (hv i σ H p) hT) (At.new (hv i σ H p) hT)) hd
/-! ### comprehensions over anything that is walked: S is what holds of the items made (without the new list) -/
def LcW (J : It) (g : TG) (tt : TT) (te : TE) (ws : List Nat) (σ : L2.St) (H1 : Hp) (Q : VK) : Prop := ∀ D, H1 D = none → ∃ W : Nat → Nat → Hp → Prop, (∃ m, W 0 m (upd H1 D (.lst []))) ∧ ∀ i m H, W i m H →
  (J.stop i H ∧ Q (.ref D) H) ∨ (J.go i H ∧ ∃ Nx : Hp → Prop, (∀ H', Nx H' → ∃ m', m' < m ∧ W (i + 1) m' H') ∧ ∀ x H', J.yld i H x H' → g x (wipe σ ws) H' fun σ2 H2 => wipe σ2 ws = wipe σ ws ∧ tt σ2 H2 fun b H3 =>
    if b = true then te σ2 H3 fun y H4 => ∃ acc, H4 D = some (.lst acc) ∧ acc.length < sizeLine ∧ Nx (upd H4 D (.lst (acc ++ [y]))) else Nx H3)
theorem rd_lcS {tt : TT} {ws : List Nat} (h : ta σ H fun v H1 => ∃ x, v = .str x ∧ LcW (Its x) g tt te ws σ H1 Q) : tLc (iStr ta) g tt te ws σ H Q := h
theorem rd_lcR {tt : TT} {ws : List Nat} (h : tr σ H fun vs H1 => ∃ j : Int, vs = [.int j] ∧ -(2 ^ 62) ≤ j ∧ j < 2 ^ 62 ∧ LcW (Itr 0 j.toNat) g tt te ws σ H1 Q) : tLc (iRng1 tr) g tt te ws σ H Q := h
theorem rd_srcR {P : Int → Prop} (h1 : -(2 ^ 62) ≤ j) (h2 : j < 2 ^ 62) (k : P j) : ∃ j' : Int, [V.int j] = [V.int j'] ∧ -(2 ^ 62) ≤ j' ∧ j' < 2 ^ 62 ∧ P j' := ⟨j, rfl, h1, h2, k⟩
theorem rd_lcL {tt : TT} {ws : List Nat} (h : ta σ H fun x H1 => ∃ a, x = .ref a ∧ (∃ xs, SqL K H1 a xs) ∧ LcW (Itl K a) g tt te ws σ H1 Q) : tLc (iList K ta) g tt te ws σ H Q := h
theorem rd_srcL {P : Addr → Prop} (h : At W H a (.lst xs)) (k : P a) : ∃ a', V.ref a = .ref a' ∧ (∃ xs, SqL K H a' xs) ∧ P a' := ⟨a, rfl, ⟨xs, h.sl⟩, k⟩
theorem hide_none {D : Addr} (h : H D = none) : Lw.hide D H = H := by
  funext q
  unfold Lw.hide
  split
  · rename_i e; rw [e, h]
  · rfl
theorem lc_w {J : It} {G : Hp → Prop} {X : Nat → V → Prop} {tt : TT} (w : Walk J n G fun i H x H' => H' = H ∧ X i x) (S : Nat → List V → Hp → Prop) (i : W.iv H) (hn : n ≤ 50000) (hG : ∀ H', Ex W H H' → G H')
    (hm : ∀ k ys H1 H2, Ex W H1 H2 → S k ys H1 → S k ys H2) (h0 : S 0 [] H)
    (hs : ∀ k x D ys H' (QV : VK) (QN : Hp → Prop), k < n → X k x → H D = none → At W H' D (.lst ys) → Ex W H H' → S k ys (Lw.hide D H') → ys.length ≤ k →
      (∀ y H4, Ex W H' H4 → S (k + 1) (ys ++ [y]) (Lw.hide D H4) → QV y H4) → (∀ H3, Ex W H' H3 → S (k + 1) ys (Lw.hide D H3) → QN H3) →
      tt ((wipe σ [m]).set m (some x)) H' fun b H3 => if b = true then te ((wipe σ [m]).set m (some x)) H3 QV else QN H3)
    (k : ∀ D H2 ys, H D = none → Ex W H H2 → At W H2 D (.lst ys) → S n ys H2 → ys.length ≤ n → Q (.ref D) H2) : LcW J (gName m) tt te [m] σ H Q := by
  intro D hD
  refine lc_it w (fun k H' => ∃ ys, Ex W H H' ∧ At W H' D (.lst ys) ∧ S k ys (Lw.hide D H') ∧ ys.length ≤ k) ⟨[], Ex.new i hD, At.new i hD, ?_, Nat.le_refl _⟩ (fun k H' _ ⟨_, e, _⟩ => hG H' e) (fun k x H1 H' hk ⟨ys, e, hd, hS, hl⟩ hx => ?_) fun H' ⟨ys, e, hd, hS, hl⟩ => ?_
  · rw [hide_upd, hide_none hD]; exact h0
  · obtain ⟨rfl, hx⟩ := hx
    refine ⟨by show wipe _ _ = _; simp [wipe, List.set_set], ?_⟩
    refine hs k x D ys _ _ _ hk hx hD hd e hS hl (fun y H4 e4 q => ⟨ys, (e4.at_ hd).1, sz_lt (by omega), ys ++ [y], (e.trans e4).mut hD (e4.at_ hd), At.mut e4.iv (e4.at_ hd), ?_, by rw [List.length_append, List.length_singleton]; omega⟩) fun H3 e3 q => ⟨ys, e.trans e3, e3.at_ hd, q, by omega⟩
    rw [hide_upd]; exact q
  · exact k D H' ys hD e hd (hm _ _ _ _ (Ex.unhide e.iv hd) hS) hl
theorem rd_yes {QB : Bool → Hp → Prop} (h : QB true H) : tYes σ H QB := h
/-! ### dicts with ints or texts as keys -/
theorem rd_dnew (i : W.iv H) (k : ∀ p H2, H p = none → Ex W H H2 → At W H2 p (.dK []) → Q (.ref p) H2) : tDNewK σ H Q := new_of i k
def DGetG (Q : VK) (a : Addr) (y : V) (H : Hp) : Prop := ∃ o, DGet H a y o ∧ Q (o.getD .non) H
def DInG (Q : VK) (neg : Bool) (x y : V) (H : Hp) : Prop := ∃ a o, x = .ref a ∧ DGet H a y o ∧ Q (.bl (if neg then !o.isSome else o.isSome)) H
def DSetG (Q : VK) (a : Addr) (y z : V) (H : Hp) : Prop := ∃ (kvs : List (Key × V)) (k : Key), H a = some (.dK kvs) ∧ y = kV k ∧ kvs.length < sizeLine ∧ (∀ v, valV kvs k = some v → Q v H) ∧ (valV kvs k = none → Q z (upd H a (.dK (putK kvs k z))))
theorem rd_dget1 (h : ta σ H fun x H1 => ∃ a, x = .ref a ∧ IsD H1 a ∧ te σ H1 fun y H2 => DGetG Q a y H2) : tDGet1 ta te σ H Q := h
theorem rd_isD {kvs : List (Key × V)} {P : Addr → Prop} (h : At W H a (.dK kvs)) (k : P a) : ∃ a', V.ref a = .ref a' ∧ IsD H a' ∧ P a' := ⟨a, rfl, .inl ⟨kvs, .inl h.1⟩, k⟩
theorem rd_dgetS {kvs : List (Key × V)} (h : At W H a (.dK kvs)) (k : Q ((valV kvs (.inr z)).getD .non) H) : DGetG Q a (.str z) H := ⟨_, DGet.k (k := .inr z) h.1, k⟩
theorem rd_din (h : ta σ H fun y H1 => te σ H1 fun x H2 => DInG Q false x y H2) : tDIn ta te σ H Q := h
theorem rd_dnin (h : ta σ H fun y H1 => te σ H1 fun x H2 => DInG Q true x y H2) : tDNotIn ta te σ H Q := h
theorem rd_dinS {kvs : List (Key × V)} (h : At W H a (.dK kvs)) (k : Q (.bl (valV kvs (.inr z)).isSome) H) : DInG Q false (.ref a) (.str z) H := ⟨a, _, rfl, DGet.k (k := .inr z) h.1, k⟩
theorem rd_dput {tv : TE} (h : tv σ H fun v H1 => ta σ H1 fun x H2 => te σ H2 fun y H3 => ∃ a H4, x = .ref a ∧ DPut H3 a y v H4 ∧ D.nx σ H4) : sDPut ta te tv D σ H := h
theorem rd_dputS {kvs : List (Key × V)} {H0 : Hp} {P : Hp → Prop} (e : Ex W H0 H) (h0 : H0 a = none) (h : At W H a (.dK kvs)) (hl : kvs.length < 1000000) (k : ∀ H2, Ex W H0 H2 → At W H2 a (.dK (putK kvs (.inr z) v)) → (∀ q o, q ≠ a → At W H q o → At W H2 q o) → P H2) :
    ∃ a' H4, V.ref a = .ref a' ∧ DPut H a' (.str z) v H4 ∧ P H4 := ⟨a, _, rfl, DPut.k (k := .inr z) h.1 (sz_lt hl), k _ (e.mut h0 h) (.mut e.iv h) fun _ _ ne q => .other e.iv h q ne⟩
theorem rd_dsetd {tx : TE} (h : ta σ H fun x H1 => ∃ a, x = .ref a ∧ IsD H1 a ∧ te σ H1 fun y H2 => tx σ H2 fun z H3 => DSetG Q a y z H3) : tDSetd ta te tx σ H Q := h
theorem rd_dsetN {kvs : List (Key × V)} {H0 : Hp} (e : Ex W H0 H) (h0 : H0 a = none) (h : At W H a (.dK kvs)) (hl : kvs.length < 1000000) (hn : valV kvs (.inr z) = none) (k : ∀ H2, Ex W H0 H2 → At W H2 a (.dK (putK kvs (.inr z) v)) → (∀ q o, q ≠ a → At W H q o → At W H2 q o) → Q v H2) :
    DSetG Q a (.str z) v H := ⟨kvs, .inr z, h.1, rfl, sz_lt hl, fun v q => (by rw [hn] at q; cases q), fun _ => k _ (e.mut h0 h) (.mut e.iv h) fun _ _ ne q => .other e.iv h q ne⟩
/-! ### texts -/
section
variable {X : Cx}
def rEndsS : V → List V → Hp → VK → Prop := fun x xs H Q => ∃ a b, x = .str a ∧ xs = [.str b] ∧ Q (.bl (Txt.endswith a b)) H
theorem m_endswith : MtR X "str.endswith" rEndsS := mt_endswith
def rStartsS : V → List V → Hp → VK → Prop := fun x xs H Q => ∃ a b, x = .str a ∧ xs = [.str b] ∧ Q (.bl (Txt.startswith a b)) H
theorem m_startswith : MtR X "str.startswith" rStartsS := mt_startswith
def rFindS : V → List V → Hp → VK → Prop := fun x xs H Q => ∃ a b, x = .str a ∧ xs = [.str b] ∧ Q (.int (Txt.find a b)) H
theorem m_find : MtR X "str.find" rFindS := mt_find
def rSplitS : V → List V → Hp → VK → Prop := fun x xs H Q => ∃ a b, x = .str a ∧ xs = [.str b] ∧ (b.length == 0) = false ∧ a.length + 2 ≤ sizeLine ∧ rNewStrs (Txt.split a b) H Q
theorem m_split : MtR X "str.split" rSplitS := mt_split
def rInSg : R2 := fun x y H Q => ∃ (c : Nat) (z : Str), x = .str ⟨#[c]⟩ ∧ y = .str z ∧ Q (.bl (decide (c ∈ z.cps.toList))) H
theorem o_inSg : OpR X (compareOp .In) rInSg := op_in_sign
def rNinSg : R2 := fun x y H Q => ∃ (c : Nat) (z : Str), x = .str ⟨#[c]⟩ ∧ y = .str z ∧ Q (.bl (!decide (c ∈ z.cps.toList))) H
theorem o_ninSg : OpR X (compareOp .NotIn) rNinSg := op_notIn_sign
def rStrB : List V → Hp → VK → Prop := fun xs H Q => (∃ i, xs = [.int i] ∧ i.natAbs.log2 < 1920 ∧ Q (.str (toString i)) H) ∨ ∃ a, xs = [.str a] ∧ Q (.str a) H
theorem c_strB : CallR X (.type "str") rStrB := by
  intro pins s σ H xs us Q I rs h
  rcases h with ⟨i, e, h1, q⟩ | ⟨a, e, q⟩
  · exact call_str_int pins s σ H xs us Q I rs ⟨i, e, h1, q⟩
  · exact SkE.call_str_str pins s σ H xs us Q I rs ⟨a, e, q⟩
end
theorem rd_ends (k : Q (.bl (Txt.endswith s z)) H) : rEndsS (.str s) [.str z] H Q := ⟨_, _, rfl, rfl, k⟩
theorem rd_starts (k : Q (.bl (Txt.startswith s z)) H) : rStartsS (.str s) [.str z] H Q := ⟨_, _, rfl, rfl, k⟩
theorem rd_find (k : Q (.int (Txt.find s z)) H) : rFindS (.str s) [.str z] H Q := ⟨_, _, rfl, rfl, k⟩
theorem rd_split (i : W.iv H) (hz : (z.length == 0) = false) (h : s.length ≤ 1000000) (k : ∀ p H2, H p = none → Ex W H H2 → At W H2 p (.lst ((Txt.split s z).map V.str)) → Q (.ref p) H2) : rSplitS (.str s) [.str z] H Q :=
  ⟨_, _, rfl, rfl, hz, Nat.le_trans (Nat.add_le_add_right h 2) (by decide), new_of i k⟩
theorem rd_tyS {P : Prop} (k : P) : tyV K "str" (.str s) H ∧ P := ⟨rfl, k⟩
theorem rd_slS {lo hi : Option Int} (h : z.length ≤ 1000000) (k : Q (.str (cutS z lo hi)) H) : rSlS (.str z) lo hi H Q := ⟨z, rfl, sz_le h, k⟩
theorem rd_ixS {c : Nat} (h : z.length ≤ 1000000) (e : atI z.cps.toList i = some c) (k : Q (.str ⟨#[c]⟩) H) : rIxS (.str z) (.int i) H Q := ⟨z, i, c, rfl, rfl, sz_le h, e, k⟩
theorem rd_inSg {c : Nat} (k : Q (.bl (decide (c ∈ z.cps.toList))) H) : rInSg (.str ⟨#[c]⟩) (.str z) H Q := ⟨c, z, rfl, rfl, k⟩
theorem rd_ninSg {c : Nat} (k : Q (.bl (!decide (c ∈ z.cps.toList))) H) : rNinSg (.str ⟨#[c]⟩) (.str z) H Q := ⟨c, z, rfl, rfl, k⟩
theorem rd_strI (h : i.natAbs.log2 < 1920) (k : Q (.str (toString i)) H) : rStrB [.int i] H Q := .inl ⟨i, rfl, h, k⟩
theorem rd_strS (k : Q (.str s) H) : rStrB [.str s] H Q := .inr ⟨s, rfl, k⟩
theorem rd_rep (i : W.iv H) (h : At W H p (.lst xs)) (h0 : -(2 ^ 63) ≤ j) (h1 : j < 2 ^ 63) (hz : xs.length * j.toNat ≤ 1000000) (k : ∀ l H2, H l = none → Ex W H H2 → At W H2 l (.lst (List.replicate j.toNat xs).flatten) → Q (.ref l) H2) : rRep (.ref p) (.int j) H Q :=
  ⟨p, j, xs, rfl, rfl, h.1, h0, h1, sz_le hz, new_of i k⟩
end
def rJoinS (K : PySem.W.Frag) : V → List V → Hp → VK → Prop := fun x xs H Q => ∃ a p, ∃ ys : List Str, x = .str a ∧ xs = [.ref p] ∧ (SqL K H p (ys.map V.str) ∨ SqT K H p (ys.map V.str)) ∧
    (ys.map (·.length)).sum + ys.length * a.length ≤ 16777216 ∧ Q (.str (Txt.join a ys)) H
theorem m_join {X : Cx} : MtR X "str.join" (rJoinS X.K) := mt_join
theorem rd_join {W : Wd} {K : PySem.W.Frag} {H : Hp} {Q : VK} {s : Str} {p : Addr} {ys : List Str} (h : At W H p (.lst (ys.map V.str))) (hz : (ys.map (·.length)).sum + ys.length * s.length ≤ 16777216) (k : Q (.str (Txt.join s ys)) H) : rJoinS K (.str s) [.ref p] H Q :=
  ⟨s, p, ys, rfl, rfl, .inl h.sl, hz, k⟩
/-! ### a written dict with texts as keys -/
def rInKd (K : PySem.W.Frag) (d : Addr) : R2 := fun x y H Q => ∃ (z : Str) (r : Option Value), x = .str z ∧ y = .ref d ∧ PySem.W.nsIn K d z = some r ∧ Q (.bl r.isSome) H
def rNinKd (K : PySem.W.Frag) (d : Addr) : R2 := fun x y H Q => ∃ (z : Str) (r : Option Value), x = .str z ∧ y = .ref d ∧ PySem.W.nsIn K d z = some r ∧ Q (.bl (!r.isSome)) H
def rIxKd (K : PySem.W.Frag) (w : World) : R2 := fun x y H Q => ∃ p z v, x = .ref p ∧ y = .str z ∧ KDct K w p z v ∧ Q v H
section
variable {X : Cx} {d p : Addr} {es : Array DictEntry} {n : Nat} {K : PySem.W.Frag} {w : World} {H : Hp} {Q : VK} {z : Str} {r : Option Value} {v : V}
theorem o_inKd (D : KDict X.K X.w d es n) : OpR X (compareOp .In) (rInKd X.K d) := op_in_kd D
theorem o_ninKd (D : KDict X.K X.w d es n) : OpR X (compareOp .NotIn) (rNinKd X.K d) := op_notIn_kd D
theorem x_kd : IxR X (rIxKd X.K X.w) := ix_kdict
theorem rd_ninKd (h : PySem.W.nsIn K d z = some r) (k : Q (.bl (!r.isSome)) H) : rNinKd K d (.str z) (.ref d) H Q := ⟨z, r, rfl, rfl, h, k⟩
theorem rd_inKd (h : PySem.W.nsIn K d z = some r) (k : Q (.bl r.isSome) H) : rInKd K d (.str z) (.ref d) H Q := ⟨z, r, rfl, rfl, h, k⟩
theorem rd_ixKd (D : KDict K w d es n) {a : Addr} (h : PySem.W.nsIn K d z = some (some (.ref a))) (k : Q (.ref a) H) : rIxKd K w (.ref d) (.str z) H Q := ⟨d, z, .ref a, rfl, rfl, ⟨es, n, _, D.at_, D.lit, h, rfl⟩, k⟩
end
section
variable {H : Hp} {σ : L2.St} {Q : VK} {s : Str} {b c : Bool} {v x : V} {r r' : R2} {ta tb tc : TE}
theorem rd_chain (h : ta σ H fun x H1 => tb σ H1 fun y H2 => r x y H2 fun z H3 => ∃ k, z = .bl k ∧ (if k = true then tc σ H3 fun w' H4 => r' y w' H4 Q else Q (.bl false) H3)) : tChain r r' ta tb tc σ H Q := h
theorem at_inG {α : Type} {xs : List α} {i : Int} {v : α} (h : 0 ≤ i) (e : xs[i.toNat]? = some v) : atI xs i = some v := by
  have hl := (List.getElem?_eq_some_iff.mp e).1
  unfold atI ixN
  rw [if_pos h, if_pos (by omega)]
  exact e
theorem ifB_yes {A B : Prop} (e : b = true) (h : A) : if b = true then A else B := by rw [if_pos e]; exact h
theorem ifB_no {A B : Prop} (e : b = false) (h : B) : if b = true then A else B := by rw [if_neg (by rw [e]; decide)]; exact h
theorem ifNB_yes {A B : Prop} (e : b = false) (h : A) : if (!b) = true then A else B := by rw [e]; exact h
theorem ifNB_no {A B : Prop} (e : b = true) (h : B) : if (!b) = true then A else B := by rw [e]; exact h
theorem cast_bl (h : Q (.bl b) H) (e : b = c) : Q (.bl c) H := e ▸ h
theorem cast_str {z : Str} (h : Q (.str s) H) (e : s = z) : Q (.str z) H := e ▸ h
theorem cast_v (h : Q v H) (e : v = x) : Q x H := e ▸ h
end
end Lw

/-! Lx: the program's own exceptions: class X(..) over ValueError whose __init__ says super().__init__('..') and keeps its argument in a field. -/
namespace PySem
namespace SupX
open PySem.W PySem.Calls PyProof.Rows PySem.HandSPX
def iA (f : Str) (p1 p2 : Pos) : Arguments := { posonlyargs := [], args := [{ arg := "self", annotation := none, pos := p1 }, { arg := f, annotation := none, pos := p2 }], vararg := none, kwonlyargs := [], kw_defaults := [], kwarg := none, defaults := [] }
def iSup (m : Str) (n : Nat) (p0 p1 p2 p3 p4 p5 : Pos) : Stmt := .Expr (.Call (.Attribute (.Call (.Name "super" p0) [] [] p1) "__init__" p2) [.Constant (.str m) n p3] [] p4) p5
def iSt (f : Str) (q1 q2 q3 q4 : Pos) : Stmt := .Assign [.Attribute (.Name "self" q1) f q2] (.Name f q3) q4
def iS (f : Str) : Scope := { kind := .function, names := [(PySem.Str.ofString "self", .local), (f, .local), (PySem.Str.ofString "__class__", .free), (PySem.Str.ofString "super", .globalImplicit)], isGenerator := false, isCoroutine := false, more := [] }
/-- the field's name is none of the four -/
structure NmOk (f : Str) : Prop where
  a : (PySem.Str.ofString "self" == f) = false
  a' : (f == PySem.Str.ofString "self") = false
  b : (PySem.Str.ofString "super" == f) = false
  c : (PySem.Str.ofString "__class__" == f) = false
  d : (f == PySem.Str.ofString "__debug__") = false
/-- what the written part says of the class x, at C, and of its __init__, at fI -/
structure SupTxt (P : Program) (K : Frag) (mg : Str → Option Value) (x : Str) (f : Str) (C fI : Addr) : Prop where
  gC : mg x = some (.ref C)
  nm : NmOk f
  cls : ∃ nm q N bs bm sn sub ab col dd k0 k1 k2 k3 k5, K.lookup C = some (excClassObj nm q C N bs bm true sn sub ab col dd k0 k1 k2 k3 k5 "ValueError.__new__") ∧ refsVE bm = true
  sa : findIn K (.ref C) "__setattr__" = some (some (.builtin "object.__setattr__"))
  ga : findIn K (.ref C) "__getattribute__" = some (some (.builtin "BaseException.__getattribute__"))
  gg : findIn K (.ref C) "__getattr__" = some none
  noN : findIn K (.ref C) f = some none
  iC : findIn K (.ref C) "__init__" = some (some (.ref fI))
  tC : typeIn K (.ref fI) = some (.type "function")
  kC : keepIn K (.ref C) = true
  exC : subIn K (.ref C) (.type "BaseException") = some true
  tyC : typeIn K (.ref C) = some (.type "type")
  hdC : hasDictIn K C = true
  op : nsIn K cStatics "thirdparty.any" = some none
  along : ks_superIn K C C "__init__" = some (some (.builtin "ValueError.__init__"))
  hB : subIn K (.ref C) (.type "ValueError") = some true
  ms : mroIn K C (.ref C) = some true
  su : nsIn K mainGlobals "super" = some none
  top : (P.main.scope.names.lookup (PySem.Str.ofString "super")).isSome = false
  fn : ∃ (oc : Value) (od : Option Addr) (doc pm : Value) (an : Option Addr) (cda : Addr) (ct : Value) (osl : Array (Option Value)) (qual m : Str) (n : Nat) (p1 p2 a0 a1 a2 a3 a4 a5 q1 q2 q3 q4 : Pos) (cc : Addr),
    K.lookup fI = some ⟨oc, od, .func (ksFn "__init__" qual (iA f p1 p2) [iSup m n a0 a1 a2 a3 a4 a5, iSt f q1 q2 q3 q4] (iS f) .none .none doc pm an (.ref cda) ct cc), osl⟩ ∧ codeIn K (.ref cda) qual = true ∧
    (a2.endLine == a4.line) = true ∧ (∀ (s : Shared) (u v : Value), BindsTo s (ksFn "__init__" qual (iA f p1 p2) [iSup m n a0 a1 a2 a3 a4 a5, iSt f q1 q2 q3 q4] (iS f) .none .none doc pm an (.ref cda) ct cc) ⟨[u, v], []⟩ [("self", u), (f, v)]) ∧
    (∃ cl cld csl, K.lookup cc = some ⟨cl, cld, .cell (some (.ref C)), csl⟩) ∧ ∃ ccl cdd vs ccs file tf, K.lookup cda = some ⟨ccl, cdd, .fields vs, ccs⟩ ∧ vs[2]? = some (.str file tf) ∧ ((P.main.file : Str) == file) = true
/-- what __init__ leaves of a fresh exception at x -/
structure InitEnd (h h' : Heap) (x C dx t1 : Addr) (f : Str) (v : Value) : Prop where
  keep : ∀ b o, b ≠ x → h.get? b = some o → h'.get? b = some o
  obj : h'.get? x = some { cls := .ref C, dict := some dx, data := .fields #[.ref t1, .none, .none, .none, .bool false, .none] }
  dbig : h.objs.size ≤ dx
  dne : dx ≠ x
  ns : h'.Ns1 dx (fun y => if y = f then some v else none)
/-- a made one -/
structure OwnMade (h h' : Heap) (e C d : Addr) (f : Str) (v : Value) : Prop where
  keep : ∀ b o, h.get? b = some o → h'.get? b = some o
  new : h.objs.size ≤ e
  obj : ∃ oe vs, h'.get? e = some oe ∧ oe.cls = .ref C ∧ oe.dict = some d ∧ oe.data = .fields vs ∧ vs[1]? = some .none
  dbig : h.objs.size ≤ d
  dne : d ≠ e
  ns : h'.Ns1 d (fun y => if y = f then some v else none)
section
variable {prog : Program} {w : World} {A : Around} {E : Value → Shared → Prop} {h : Heap} {g : Array GenState} {d : Drawn} {t : Nat} {os : OsState}
variable {nm q : Str} {C N : Addr} {bs bm : List Value} {hdct : Bool} {sn : List Str} {sub : List Value} {ab : Bool} {col : Option Bool} {dd : Option Addr} {k0 k1 k2 k3 k5 : Option Value}
/-- the bound ValueError.__init__ called -/
theorem call_mw {u e t0 : Addr} {rest : List Value} {Q : Value → Shared → Prop}
    (hC : h.get? C = some (excClassObj nm q C N bs bm hdct sn sub ab col dd k0 k1 k2 k3 k5 "ValueError.__new__")) (he : h.get? e = some (excO C t0)) (hu : h.get? u = some (kxs_mw "ValueError.__init__" e)) (hrest : rest.length ≤ sizeLine)
    (hq : ∀ h' t1, (∀ b o, b ≠ e → h.get? b = some o → h'.get? b = some o) → h'.get? e = some (excO C t1) → Q .none ⟨h', g, d, t, os⟩) :
    wpAny (model prog w) A (call (.ref u) rest) Q E ⟨h, g, d, t, os⟩ := by
  refine wpAny_call (codeAny_of_tree ?_)
  show wpAny _ A.in1 (callAny (.ref u) ⟨rest, []⟩) _ _ _
  simp only [callAny]
  refine wpAny_bind (wpAny_load hu ?_)
  simp only [kxs_mw, show (Value.type "method-wrapper" == Value.type "method" || Value.type "method-wrapper" == Value.type "builtin_function_or_method" || Value.type "method-wrapper" == Value.type "method-wrapper") = true by decide, if_true]
  refine W.KFB.if_so (by decide) ?_
  refine wpAny_bind (ESX.check_bound F.excBase_ValueError hC he rfl ?_)
  refine wpAny_bind (wpAny_pure (wpAny_pure ?_))
  refine ⟨Code.quiet_builtin _ (by decide +kernel), codeAny_builtin F.excBase_ValueError.initEntry ?_⟩
  rw [Around.under_plainId F.excBase_ValueError.init.plain _]
  wp_walk
  refine hq _ h.objs.size (fun b o hb ho => ?_) ?_
  · rw [Heap.get?_update_other _ _ (Ne.symm hb)]
    exact Heap.get?_push_of_some _ ho
  · rw [Heap.get?_update_self _ (Heap.get?_push_of_some _ he) rfl]
    rfl
end
section
variable {prog : Program} {w : World} {A : Around} {E : Value → Shared → Prop} {R : Result → Shared → Prop} {s : Shared} {K : Frag} {mg mb : Str → Option Value} {x f : Str} {C fI : Addr}
theorem kind_of {f : Str} {e a : Addr} {q : Str} {cd : Value} {cc : Addr} (N : NmOk f) : (ksEnv q (iS f) e a cd cc).kindOf "super" = some .globalImplicit ∧ (ksEnv q (iS f) e a cd cc).kindOf "__class__" = some .free ∧ (ksEnv q (iS f) e a cd cc).kindOf "self" = some .local ∧ (ksEnv q (iS f) e a cd cc).kindOf f = some .local := by
  have e1 : ∀ y : Str, (ksEnv q (iS f) e a cd cc).kindOf y = (iS f).names.lookup y := fun _ => rfl
  have c1 : (PySem.Str.ofString "super" == PySem.Str.ofString "self") = false := by decide
  have c2 : (PySem.Str.ofString "super" == PySem.Str.ofString "__class__") = false := by decide
  have c3 : (PySem.Str.ofString "__class__" == PySem.Str.ofString "self") = false := by decide
  refine ⟨?_, ?_, ?_, ?_⟩ <;> rw [e1] <;> unfold iS <;> simp only [List.lookup, N.a, N.a', N.b, N.c, c1, c2, c3, beq_self_eq_true]
theorem bs_self {f : Str} (N : NmOk f) {u v : Value} : (([(PySem.Str.ofString "self", u), (f, v)] : List (Str × Value)).reverse.lookup (PySem.Str.ofString "self") = some u) := by
  simp [List.lookup, N.a]
theorem bs_f {f : Str} (N : NmOk f) {u v : Value} : (([(PySem.Str.ofString "self", u), (f, v)] : List (Str × Value)).reverse.lookup f = some v) := by
  simp [List.lookup, N.a]
theorem he_of {o : Expr} {name m : Str} {n : Nat} {apos p3 pos : Pos} {env : Env} (hpl : (apos.endLine == pos.line) = true) : eval (.Call (.Attribute o name apos) [.Constant (.str m) n p3] [] pos) env = (do
      let ov ← attributeBase o name env (eval o env)
      standAt apos.atName
      let (f, first) ← holding [ov] (getMethod ov name (do return (← importBound o env).getD true))
      callWith pos f first (backTo pos (starEach [.Constant (.str m) n p3] env)) []) := by
  have e : methodCallPos true o env apos pos = pure pos := by unfold methodCallPos; rw [hpl]; rfl
  show (attributeBase o name env (eval o env) >>= fun ov => standAt apos.atName >>= fun _ => holding [ov] (getMethod ov name (do return (← importBound o env).getD true)) >>= fun fx => methodCallPos true o env apos pos >>= fun cp => callWith cp fx.1 fx.2 (backTo pos (starEach [.Constant (.str m) n p3] env)) []) = _
  rw [e]
  rfl
theorem sup_init (T : SupTxt prog K mg x f C fI) {e t0 : Addr} {v : Value} (X : K.In s.heap) (hlim : s.heap.NoLimit) (G : s.heap.Ns mainGlobals mg) (hms : mg "super" = none) (B : s.heap.Ns builtinsNs mb) (hmb : mb "super" = some (.type "super"))
    (hx : s.heap.get? e = some (excO C t0)) (hnx : K.lookup e = none) (hroom : A.depth < recursionLimit)
    (hq : ∀ h' tk dx t1, InitEnd s.heap h' e C dx t1 f v → R (.ok (.ret .none)) { s with heap := h', toks := tk }) :
    codeAny (model prog w) A (.call (.ref fI) ⟨[.ref e, v], []⟩) R s := by
  obtain ⟨oc, od, doc, pm, an, cda, ct, osl, qual, m, n, p1, p2, a0, a1, a2, a3, a4, a5, q1, q2, q3, q4, cc, ho, hcd, hpl, hbd, ⟨cl, cld, csl, hcell⟩, ccl, cdd, vs, ccs, file, tf, hcode, hvs, hfile⟩ := T.fn
  obtain ⟨nm, q, N, bs, bm, sn, sub, ab, col, dd, k0, k1, k2, k3, k5, hC, hbm⟩ := T.cls
  have hcl : clsIn K C = some { name := nm, bases := bs, mro := .ref C :: bm, ns := N, qualname := q, hasDict := true, slotNames := sn, subclasses := sub, abstract := ab, collection := col, hasDel := false } := by unfold clsIn; rw [hC] <;> rfl
  have kd := fun (L : Addr) => kind_of (q := qual) (e := L) (a := fI) (cd := .ref cda) (cc := cc) T.nm
  refine ks_codeAny_call_defAt (fd := ksFn "__init__" qual (iA f p1 p2) [iSup m n a0 a1 a2 a3 a4 a5, iSt f q1 q2 q3 q4] (iS f) .none .none doc pm an (.ref cda) ct cc) (body := [iSup m n a0 a1 a2 a3 a4 a5, iSt f q1 q2 q3 q4])
    (binds := [(PySem.Str.ofString "self", .ref e), (f, v)]) hroom (X _ _ ho) rfl hlim (codeRec_of X hcd) rfl (hbd _ _ _) ?cell ?loc (fun h₁ hns hk => ?_) rfl rfl rfl
  case cell => 
    intro y hy
    simp only [ksFn, fnX, iS, List.mem_cons, List.not_mem_nil, or_false] at hy
    rcases hy with rfl | rfl | rfl | rfl <;> intro z <;> cases z
  case loc =>
    intro y hy
    simp only [List.mem_cons, List.not_mem_nil, or_false] at hy
    rcases hy with rfl | rfl
    · exact (kd 0).2.2.1
    · exact (kd 0).2.2.2
  have kd := kd s.heap.objs.size
  obtain ⟨hp, g, d, tk, os⟩ := s
  dsimp only at hns hk hx X G B hlim hq ⊢
  have X₁ : K.In h₁ := X.keeps hk
  have hx₁ := hk _ _ hx
  show _root_.PySem.wpAt (model prog w) _ (.func _ (ksEnv qual (iS f) hp.objs.size fI (.ref cda) cc)) (execs [iSup m n a0 a1 a2 a3 a4 a5, iSt f q1 q2 q3 q4] (ksEnv qual (iS f) hp.objs.size fI (.ref cda) cc)) _ _ _
  refine ks_wpAt_execs_cons (ks_wpAt_Expr_any (ks_wpAt_MethodCall ?_ (he_of hpl)))
  refine ks_wpAt_super_base (env := ksEnv qual (iS f) hp.objs.size fI (.ref cda) cc) kd.1 kd.2.1 (by decide) rfl (X₁ _ _ ho) rfl rfl rfl (X₁ _ _ hcode) rfl hvs hfile T.top ?_
  refine ks_loadName_global rfl kd.1 (loadGlobal_builtin (env := ksEnv qual (iS f) hp.objs.size fI (.ref cda) cc) (G.keeps hk) hms (B.keeps hk) hmb ⟨rfl, ?_⟩)
  refine wpAny_loadName_free rfl kd.2.1 rfl ⟨_, X₁ _ _ hcell, rfl⟩ ?_
  refine wpAny_loadName_local rfl kd.2.2.1 hns (bs_self T.nm) ?_
  have hCo := X₁ _ _ hC
  refine ks_wpAny_isType_cls hCo rfl ⟨rfl, ?_⟩
  refine ks_wpAny_call_super hCo rfl hx₁ rfl (fun c z => by cases z) (looks_mroIn X₁ T.ms) (fun h₂ hso hk₂ => ?_)
  have X₂ : K.In h₂ := X₁.keeps hk₂
  have hx₂ := hk₂ _ _ hx₁
  have eC : e ≠ C := fun z => by
    rw [z] at hnx
    rw [hnx] at hC
    cases hC
  have I₂ : InstAt h₂ e (excO C t0) C none := ⟨hx₂, rfl, rfl, trivial⟩
  have al := T.along
  unfold ks_superIn at al
  rw [hcl] at al
  refine kxs_getMethod kxs_ValueError (x := e) (D := C) (C := C) hso (looks_opaque X₂ T.op) (l₀ := .ref C :: bm) ?mro rfl X₂ al (I₂.type.andThen (looks_subIn X₂ T.hB)) eC (by decide) ?_
  case mro => exact fun A Q E s k q => wpAny_bind ((looks_clsIn X₂ hcl) A _ E s k (wpAny_pure q))
  have hu : (h₂.push (kxs_mw "ValueError.__init__" e)).get? h₂.objs.size = some (kxs_mw "ValueError.__init__" e) := Heap.get?_push_at rfl rfl
  have hk₃ : ∀ b o, h₂.get? b = some o → (h₂.push (kxs_mw "ValueError.__init__" e)).get? b = some o := fun b o z => Heap.get?_push_of_some _ z
  refine kxs_callWith (i := "ValueError.__init__") (x := e) (by rfl) (evalArgs_plain ?_)
  refine Calls.spliced_cons (Calls.Constant_str (k := n) (pos := a3) (Calls.spliced_nil ⟨hu, ?_⟩))
  refine call_mw (hk₃ _ _ (hk₂ _ _ hCo)) (hk₃ _ _ hx₂) hu (by show 1 ≤ sizeLine; rw [sizeLine_eq]; decide) (fun h₄ t1 hk₄ hx₄ => ?_)
  have keep : ∀ b o, b ≠ e → hp.get? b = some o → h₄.get? b = some o := fun b o nb z => hk₄ b o nb (hk₃ _ _ (hk₂ _ _ (hk _ _ z)))
  have X₄ : K.In h₄ := fun b o z => keep b o (fun q => by rw [q, hnx] at z; cases z) (X b o z)
  have neL : hp.objs.size ≠ e := Nat.ne_of_gt (Heap.lt_size hx)
  have hns₄ : h₄.Ns hp.objs.size (fun y => ([(PySem.Str.ofString "self", Value.ref e), (f, v)] : List (Str × Value)).reverse.lookup y) := by
    obtain ⟨oL, es, ep, hL, r⟩ := hns
    exact ⟨oL, es, ep, hk₄ _ _ neL (hk₃ _ _ (hk₂ _ _ hL)), r⟩
  refine ks_wpAt_execs_cons (wpAt_of_wpAny ?_)
  refine plainObj_wpAny_Assign_Attribute (wpAny_Name (wpAny_loadName_local rfl kd.2.2.2 hns₄ (bs_f T.nm) (wpAny_Name (wpAny_loadName_local rfl kd.2.2.1 hns₄ (bs_self T.nm) ?_) (by decide))) T.nm.d) (by rfl)
  refine set_plain X₄ (ox := excO C t1) (od := none) ⟨hx₄, rfl, rfl, trivial⟩ T.sa ?_
  refine exc_osa X₄ hx₄ hcl (show refsVE (.ref C :: bm) = true from hbm) rfl T.noN (fun h₅ tk₅ dx k₅ dn dne hx₅ hn₅ => ?_)
  have lt4 : hp.objs.size < h₄.objs.size := hns₄.lt
  refine wpAt_of_wpAny (wpAny_execs_nil (hq h₅ tk₅ dx t1 ⟨fun b o hb z => k₅ b o hb (keep b o hb z), hx₅, Nat.le_of_lt (Nat.lt_of_lt_of_le lt4 dn), dne, hn₅⟩))
theorem sup_made (T : SupTxt prog K mg x f C fI) {v : Value} (X : K.In s.heap) (hlim : s.heap.NoLimit) (G : s.heap.Ns mainGlobals mg) (hms : mg "super" = none) (B : s.heap.Ns builtinsNs mb) (hmb : mb "super" = some (.type "super")) (hroom : A.depth + 1 < recursionLimit)
    (hq : ∀ h' tk e d, OwnMade s.heap h' e C d f v → R (.ok (.ret (.ref e))) { s with heap := h', toks := tk }) :
    codeAny (model prog w) A (.call (.ref C) ⟨[v], []⟩) R s := by
  obtain ⟨nm, q, N, bs, bm, sn, sub, ab, col, dd, k0, k1, k2, k3, k5, hC, hbm⟩ := T.cls
  obtain ⟨hp, g, dr, tk, os⟩ := s
  have k : ∀ b o, hp.get? b = some o → ((hp.push (kdv_tup [v])).push (excO C hp.objs.size)).get? b = some o := fun b o e => Heap.get?_push_of_some _ (Heap.get?_push_of_some _ e)
  have hget : ((hp.push (kdv_tup [v])).push (excO C hp.objs.size)).get? (hp.objs.size + 1) = some (excO C hp.objs.size) := by heap_get
  have hnx : K.lookup (hp.objs.size + 1) = none := by
    cases e : K.lookup (hp.objs.size + 1) with
    | none => rfl
    | some o =>
      have z : hp.get? (hp.objs.size + 1) = some o := X _ _ e
      exact absurd (Nat.lt_of_succ_lt (Heap.lt_size z)) (Nat.lt_irrefl _)
  refine call_own F.excBase_ValueError (fun X => refsVE_contains X bm hbm) (X _ _ hC) (looks_findIn X T.iC) (fun self => bind_fn X self T.tC) (by show 1 ≤ sizeLine; rw [sizeLine_eq]; decide) ?_
  refine sup_init (s := ⟨(hp.push (kdv_tup [v])).push (excO C hp.objs.size), g, dr, tk, os⟩) T (X.keeps k) (hlim.keeps k) (G.keeps k) hms (B.keeps k) hmb hget hnx ?_ fun h' tk' dx t1 ⟨k', hx, dn, dne, hns⟩ => ?_
  · show A.depth + 1 < recursionLimit
    exact hroom
  · have old : ∀ b o, hp.get? b = some o → h'.get? b = some o := fun b o e => k' b o (Nat.ne_of_lt (Nat.lt_succ_of_lt (Heap.lt_size e))) (k b o e)
    have z : hp.objs.size + 1 + 1 ≤ dx := by
      first
        | (simpa only [Heap.size_push] using dn)
        | exact dn
        | (have q := dn; rw [Heap.size_push, Heap.size_push] at q; exact q)
    exact ⟨rfl, hq h' tk' (hp.objs.size + 1) dx ⟨old, Nat.le_succ _, ⟨_, _, hx, rfl, rfl, rfl, rfl⟩, Nat.le_trans (Nat.le_trans (Nat.le_succ _) (Nat.le_succ _)) z, dne, hns⟩⟩
end
end SupX
end PySem
namespace Lw
open PySem L2 PySem.Spec PyProof.Rows
section
variable {X : Cx} {C fI : Addr} {x f : Str}
theorem relO_f {f : Str} {v : V} {v' : Value} (r : RelV v v') (g : Str) : RelO (List.lookup g [(f, v)]) (if g = f then some v' else none) := by
  by_cases hw : g = f
  · subst hw
    rw [if_pos rfl]
    have q : List.lookup g [(g, v)] = some v := by simp [List.lookup]
    rw [q]
    exact r
  · rw [if_neg hw]
    have qw : (g == f) = false := by simpa using hw
    have q2 : List.lookup g [(f, v)] = none := by simp [List.lookup, qw]
    rw [q2]
    trivial
/-- x(e) -/
def tMkS (C : Addr) (f : Str) (ta : TA) : L2.St → Hp → XK → Prop := fun σ H Q => ta σ H fun vs H1 => ∃ v, vs = [v] ∧ ∀ d, H1 d = none → Q (.ref C) (some d) (upd H1 d (.xd [(f, v)]))
theorem pmk_sup {a : Expr} {ta : TA} {p pos : Pos} {k : Nat} (T : PySem.SupX.SupTxt X.prog X.K X.mg x f C fI) (hr : Room k X.A) (ha : PA X [a] ta) (hg : Gl X x := by rfl) (hdb : (x == ("__debug__" : Str)) = false := by decide)
    (he : starEach (a :: []) X.env = (false, eval a X.env) :: starEach [] X.env := by rfl) (hpl : (backTo pos (starEach [] X.env)).any (·.1) = false := by rfl) :
    PMk X (.Call (.Name x p) [a] [] pos) (tMkS C f ta) := by
  intro pins s σ H Q I h
  refine wpAny_Call_Name_kw (ld_glob I hg T.gC ?_ hdb)
  refine PySem.W.callWith_K (h₀ := X.base) I.ok.mod.kin T.kC (thn (ha.run pos pins s σ H _ I h) fun us s1 hh => ?_) he hpl
  obtain ⟨vs, H1, I1, r1, v, ev, q1⟩ := hh
  subst ev
  refine ⟨I1.kIn, ?_⟩
  cases r1 with
  | cons rv rn =>
    rename_i v' us'
    cases rn
    show wpAny _ _ (call (.ref C) [v']) _ _ _
    have hlim := I1.nolimit
    obtain ⟨mb, hb1, hb2⟩ := I1.mod.blt
    have hms : X.mg "super" = none := PySem.W.mg_none_of I1.ok.mod.kin I1.mod.glob T.su
    have hG := I1.mod.glob.keeps I1.bk
    have hB := hb1.keeps I1.bk
    have hmb : mb "super" = some (.type "super") := (hb2 "super" (by decide)).trans (by first | boot_by_name | rfl | kernel_rfl)
    obtain ⟨hp, g, dr, tk, os⟩ := s1
    refine wpAny_call (PySem.SupX.sup_made T I1.kIn hlim hG hms hB hmb (by have := hr.dp; omega) fun h' tk' e d M => ?_)
    show MkP X pins σ Q (.ref e) ⟨h', g, dr, tk', os⟩
    obtain ⟨oe, fv, hoe, hc, hd, hdat, h1⟩ := M.obj
    have hns := M.ns
    obtain ⟨G', g1, g2⟩ := restrict h' fun b => decide (b ≠ e)
    have gk : ∀ b, b ≠ e → G'.get? b = h'.get? b := fun b hb => g1 b (decide_eq_true hb)
    have ge : G'.get? e = none := g2 e (by simp)
    have old : ∀ b o, hp.get? b = some o → G'.get? b = some o := fun b o q => (gk b (Nat.ne_of_lt (Nat.lt_of_lt_of_le (Heap.lt_size q) M.new))).trans (M.keep b o q)
    have ob : ObjOk X.prog X.w (upd H1 d (.xd [(f, v)])) G' d (.xd [(f, v)]) :=
      ⟨_, hns.at (fun o q => (gk d M.dne).trans q), fun g => relO_f rv g⟩
    have J : Inv X pins σ (upd H1 d (.xd [(f, v)])) ⟨G', g, dr, tk', os⟩ := I1.laid (t' := tk') old M.dbig ob
    refine ⟨e, oe, fv, ⟨G', g, dr, tk', os⟩, _, .ref C, some d, rfl, J, fun b o q => ?_, ge, hoe, ⟨hc, hd⟩, hdat, h1, ?_, rfl, I1.bare, raises_own T.exC T.tyC, q1 d (I1.hok.fresh M.dbig)⟩
    · by_cases hb : b = e
      · have q' : G'.get? b = some o := q
        rw [hb, ge] at q'; cases q'
      · exact (gk b hb).symm.trans q
    · rw [upd_ne (Ne.symm M.dne)]
      exact I1.hok.fresh M.new
/-- raise x(e) -/
def tRaiseS (C : Addr) (f : Str) (W : WX) (ta : TA) : TS := fun _ σ H => tMkS C f ta σ H fun cls d H' => W cls d σ H'
theorem ps_raiseS {a : Expr} {ta : TA} {W : WX} {p pos pos2 : Pos} {k : Nat} (hc : X.calm = true) (T : PySem.SupX.SupTxt X.prog X.K X.mg x f C fI) (hr : Room k X.A) (tk : Takes X W) (ha : PA X [a] ta) (hg : Gl X x := by rfl) (hdb : (x == ("__debug__" : Str)) = false := by decide)
    (he : starEach (a :: []) X.env = (false, eval a X.env) :: starEach [] X.env := by rfl) (hpl : (backTo pos (starEach [] X.env)).any (·.1) = false := by rfl) :
    PS X (.Raise (some (.Call (.Name x p) [a] [] pos)) none pos2) (tRaiseS C f W ta) := ps_raise hc tk (pmk_sup T hr ha hg hdb he hpl)
end
end Lw

/-! Lg: defs that are called where no repr runs (so that they may ask repr of lists); repr of data; isinstance and fields of a caught error; enumerate and walks of a list or a tuple. -/
namespace Lw
open PySem L2 PySem.Spec PyProof.Rows
/-- a def's promise, kept wherever no repr is under way -/
structure FnG (P : Program) (w : World) (K : PySem.W.Frag) (mg : Str → Option Value) (base : Heap) (CX : CXT) (k : Nat) (f : Addr) (fd : FuncData) (ps : List Str) (sp : Sp) : Prop where
  len : ∀ vs H Q E, sp vs H Q E → vs.length = ps.length
  run : ∀ {A : Around} {outer : List Env} {s : Shared} {H : Hp} {args : Args} {us : List Value} {vs : List V} {Q : VK} {E : XK}, Room k A → A.guards = some [] → Env0 P w K mg base A outer s H → BindsTo s fd args (ps.zip us) → Vals vs us → sp vs H Q E →
    codeAny (model P w) A (.call (.ref f) args) (CR CX outer P w H s Q E) s
section
variable {P : Program} {w : World} {K : PySem.W.Frag} {mg : Str → Option Value} {base : Heap} {CX : CXT} {k : Nat} {f : Addr} {fd : FuncData} {ps N : List Str} {sp : Sp}
theorem FnG.of (F : FnOk P w K mg base CX k f fd ps sp) : FnG P w K mg base CX k f fd ps sp := ⟨F.len, fun hr _ e b r h => F.run _ _ _ _ _ _ _ _ _ hr e b r h⟩
/-- by its body -/
theorem fnG_body {name qual : Str} {params : Arguments} {body : List Stmt} {scope : Scope} {dV kV doc pm cdv ct oc : Value} {an od : Option Addr} {osl : Array (Option Value)}
    (lk : K.lookup f = some ⟨oc, od, .func (PySem.W.fnOf name qual params body scope dV kV doc pm an cdv ct), osl⟩) (hcd : PySem.W.codeIn K cdv qual = true) (S : FnScope N ps scope) (len : ∀ vs H Q E, sp vs H Q E → vs.length = ps.length)
    (hb : ∀ (A : Around) (outer : List Env) (s : Shared) (H : Hp) (vs : List V) (Q : VK) (E : XK), Room k (A.deeper (envOfC qual scope s.heap.objs.size f cdv)) → A.guards = some [] → sp vs H Q E →
      ∃ t, PSs (cxOf CX P w K mg base N qual scope f cdv A outer s H E) body t ∧ t { nx := fun _ H' => Q .non H', rt := Q } (start N vs) H) :
    FnG P w K mg base CX (k + 1) f (PySem.W.fnOf name qual params body scope dV kV doc pm an cdv ct) ps sp := by
  constructor
  · exact len
  intro A outer s H args us vs Q E hr hG e0 bnd rel h
  have inBase : ∀ b o, base.get? b = some o → s.heap.get? b = some o := fun b o e => (e0.bs b o e).1
  have KX : K.In s.heap := e0.mod.kin.keeps inBase
  have kinds : ∀ y ∈ ps.zip us, scope.names.lookup y.1 = some .local ∨ (scope.names.lookup y.1 = some .cell ∧ ((cellsFrom (s.heap.objs.size + 1) scope.names []).lookup y.1).isSome = true) := by
    rintro ⟨n, v⟩ hy
    have hn := (List.of_mem_zip hy).1
    exact (S.par n hn).imp id fun q => ⟨q, PySem.W.cellsFrom_some _ _ _ (.inl q)⟩
  refine codeAny_call_function hr.depth (KX _ _ lk) rfl S.co S.gen rfl (PySem.W.codeRec_of KX hcd) (bnd _ _ _ _ (wpAny_newFunctionEnv_cells S.kind kinds ?_))
  rintro env rfl s1 x
  obtain ⟨t, ht, hq⟩ := hb A outer s H vs Q E (hr.deeper _) hG h
  have I := inv_start (CX := CX) (E := E) S hr.hd e0 (len _ _ _ _ h) rel x
  refine ⟨(e0.mod.nolimit.keeps inBase).keeps x.toInCall.keep, codeAny_func (wpAny_mono (ht.run [] s1 (start N vs) H _ I hq) ?_ fun _ _ z => z)⟩
  intro fl s' hs
  cases fl with
  | next => obtain ⟨_, H', J, q⟩ := hs; exact ⟨.non, H', J.os, J.bare, J.base, J.hok, rfl, q⟩
  | ret u => obtain ⟨v, _, H', J, rv, q⟩ := hs; exact ⟨v, H', J.os, J.bare, J.base, J.hok, rv, q⟩
  | brk => obtain ⟨_, _, _, q⟩ := hs; cases q
  | cont => obtain ⟨_, _, _, q⟩ := hs; cases q
theorem Fun.okG {x qual : Str} {st : Stmt} (F : Fun K x qual st f fd) (S : FnScope N ps (defScope st)) (len : ∀ vs H Q E, sp vs H Q E → vs.length = ps.length)
    (hb : ∀ (cdv : Value) (A : Around) (outer : List Env) (s : Shared) (H : Hp) (vs : List V) (Q : VK) (E : XK), Room k (A.deeper (envOfC qual (defScope st) s.heap.objs.size f cdv)) → A.guards = some [] → sp vs H Q E →
      ∃ t, PSs (cxOf CX0 P w K mg base N qual (defScope st) f cdv A outer s H E).nox (defBody st) t ∧ t { nx := fun _ H' => Q .non H', rt := Q } (start N vs) H) : FnG P w K mg base CX0 (k + 1) f fd ps sp := by
  obtain ⟨_, _, _, _, _, _, cdv, _, _, rfl, lk, hcd⟩ := F.ex
  refine fnG_body lk hcd S len fun A outer s H vs Q E hr hG h => ?_
  obtain ⟨t, ht, q⟩ := hb cdv A outer s H vs Q E hr hG h
  exact ⟨t, ht.nox, q⟩
end
section
variable {X : Cx} {CX : CXT} {k : Nat} {f : Addr} {fd : FuncData} {ps : List Str} {sp : Sp} {E : XK} {x : Str} {p pos : Pos} {e : Expr} {es : List Expr} {t : TA} {ds : List Value} {dvs : List V}
theorem callee_G {pins : List (Addr × Obj)} {σ : L2.St} {H : Hp} {s : Shared} {Q : VK} {us : List Value} {vs : List V} (F : FnG X.prog X.w X.K X.mg X.base CX k f fd ps sp) (hr : Room k X.A) (hG : X.A.guards = some []) (hb : Binds X.K fd ps ds) (hd : Vals dvs ds) (hx : Passes CX X E)
    (I : Inv X pins σ H s) (r : Vals vs us) (h : sp (vs ++ dvs) H Q E) : wpAny (model X.prog X.w) X.A (call (.ref f) us) (EP X pins σ Q) X.xe s := by
  have both : Vals (vs ++ dvs) (us ++ ds) := r.append hd
  have n : (us ++ ds).length = ps.length := both.length.symm.trans (F.len _ _ _ _ h)
  refine wpAny_call (codeAny_mono (F.run hr hG I.env0 (hb s us I.kIn n) both h) ?_)
  rintro (er | fl) s' q
  · exact hx pins σ H s er s' I q
  · cases fl with
    | ret u => exact I.after q
    | next => cases q
    | brk => cases q
    | cont => cases q
theorem pe_callG (F : FnG X.prog X.w X.K X.mg X.base CX k f fd ps sp) (hG : X.A.guards = some []) (hr : Room k X.A) (hg : Gl X x) (hm : X.mg x = some (.ref f)) (hk : PySem.W.keepIn X.K (.ref f) = true) (hb : Binds X.K fd ps ds) (hd : Vals dvs ds) (hx : Passes CX X E)
    (ha : PA X (e :: es) t) (hdb : (x == ("__debug__" : Str)) = false := by decide) (he : starEach (e :: es) X.env = (false, eval e X.env) :: starEach es X.env := by rfl) (hpl : (backTo pos (starEach es X.env)).any (·.1) = false := by rfl) :
    PE X (.Call (.Name x p) (e :: es) [] pos) (tCall sp dvs E t) where
  run pins s σ H Q I h := by
    refine wpAny_Call_Name_kw (ld_glob I hg hm (PySem.W.callWith_K (h₀ := X.base) I.ok.mod.kin hk ?_ he hpl) hdb)
    refine thn (ha.run pos pins s σ H _ I h) ?_
    rintro us s1 ⟨vs, H1, I1, r, q⟩
    exact ⟨I1.kIn, callee_G F hr hG hb hd hx I1 r q⟩
/-- repr of data -/
def rReprD (K : PySem.W.Frag) : List V → Hp → VK → Prop := fun xs H Q => ∃ a d, xs = [.ref a] ∧ Dp K H (.ref a) d ∧ d.showable = true ∧ d.hasDict = false ∧ d.depth ≤ 50 ∧ d.shown.length ≤ sizeLine ∧ Q (.str d.shown) H
theorem c_repr (hG : X.A.guards = some []) (hu : X.A.units + 64 < cLine) : CallR X (.builtin "repr") (rReprD X.K) := by
  intro pins s σ H xs us Q I r h
  obtain ⟨a, d, rfl, hd, hs, hn, hdp, hl, q⟩ := h
  cases r with
  | cons rx rr =>
    cases rr
    obtain ⟨as, r1⟩ := Dp.reads I d _ _ hd rx
    cases rx
    refine repr_of_reads' r1 hs (PyData.noDict_hsm hn) hG (by omega) (fun _ _ z => z) (fun h' u tk hk => ?_) hl
    exact ⟨.str d.shown, H, I.kept (t' := tk) hk, ⟨_, rfl⟩, q⟩
end
/-! ### the head of a law whose def is kept by FnG -/
section
variable {P : Program} {w : World} {K : PySem.W.Frag} {mg mb : Str → Option Value} {k : Nat} {fa a : Addr} {fd : FuncData} {x : Str} {sp : Sp} {s₁ : Shared} {vs : List Value} {ns : List Int}
theorem head_G (KX : K.In s₁.heap) (hG : s₁.heap.Ns mainGlobals mg) (hB : s₁.heap.Ns builtinsNs mb) (hbt : ∀ x : Str, x ≠ "__name__" → mb x = bootBuiltins x) (hlim : s₁.heap.NoLimit) (hgen : s₁.gens = #[])
    (ha : s₁.heap.get? a = some { cls := .type "list", data := .seq vs.toArray }) (hi : IntsAre vs ns) (hl : ns.length ≤ sizeLine) (hr : Room k callerA)
    (F : ∀ base : Heap, K.In base → base.Ns mainGlobals mg → FnG P w K mg base CX0 k fa fd [x] sp) (hbind : ∀ (s : Shared) (u : Value), BindsTo s fd ⟨[u], []⟩ [(x, u)])
    (hsp : ∀ H : Hp, Only H → SqL K H a (ns.map V.int) → sp [.ref a] H (fun v _ => v = .bl true) fun _ _ _ => False) :
    codeAny (model P w) callerA (.call (.ref fa) ⟨[.ref a], []⟩) (fun r s' => r = .ok (.ret (.bool true)) ∧ OldK s₁.heap s'.heap ∧ s'.os = s₁.os ∧ AllBare s'.gens) s₁ := by
  have rv : Vals (ns.map V.int) vs := vals_ints hi
  obtain ⟨H, hH, hS⟩ : ∃ H : Hp, (∀ b u, H b = some u → b = a ∧ K.lookup a = none ∧ u = .frz { cls := .type "list", data := .seq vs.toArray } (.lst (ns.map V.int))) ∧ SqL K H a (ns.map V.int) := by
    cases q : K.lookup a with
    | none =>
      refine ⟨fun b => if b = a then some (.frz { cls := .type "list", data := .seq vs.toArray } (.lst (ns.map V.int))) else none, fun b u z => ?_, .inl (.inr ⟨_, if_pos rfl⟩)⟩
      by_cases e : b = a
      · have z := (if_pos e).symm.trans z
        exact ⟨e, rfl, (Option.some.inj z).symm⟩
      · cases (if_neg e).symm.trans z
    | some o =>
      have e := (KX a o q).symm.trans ha
      cases e
      exact ⟨fun _ => none, fun b u z => (by cases z), .inr ⟨_, vs.toArray, _, q, rfl, rfl, rfl, by rw [List.size_toArray, hi.length]; exact hl, by simpa using rv⟩⟩
  have off : ∀ {b o}, s₁.heap.get? b = some o → b ≠ a → H b = none := fun {b o} _ ne => by
    cases q : H b with
    | none => rfl
    | some u => exact absurd (hH b u q).1 ne
  have ns_at : ∀ {b : Addr} {m : Str → Option Value}, s₁.heap.Ns b m → (hidT s₁.heap H).Ns b m := by
    rintro b m ⟨o, es, ep, e, d, r⟩
    refine ⟨o, es, ep, hidT_get e (off e fun z => ?_), d, r⟩
    rw [z, ha] at e
    cases e
    cases (show Data.seq vs.toArray _ = Data.dict es ep from d)
  have kin : K.In (hidT s₁.heap H) := fun b o e => hidT_get (KX b o e) (by
    cases q : H b with
    | none => rfl
    | some u =>
      obtain ⟨rfl, n, _⟩ := hH b u q
      rw [n] at e; cases e)
  have okH : HOk P w H s₁.heap := fun b u z => by
    obtain ⟨rfl, _, rfl⟩ := hH b u z
    exact ⟨ha, by rw [List.length_map]; exact hl, vs, _, rv, ha⟩
  have only : Only H := fun b => by
    cases q : H b with
    | none => exact .inl rfl
    | some u => exact .inr ⟨_, _, congrArg some (hH b u q).2.2⟩
  have hM : Mod K mg (hidT s₁.heap H) := ⟨kin, ns_at hG, ⟨mb, ns_at hB, hbt⟩, let ⟨mc, n1, n2⟩ := hlim; ⟨mc, ns_at n1, n2⟩⟩
  have e0 : Env0 P w K mg (hidT s₁.heap H) callerA [] s₁ H := ⟨rfl, hM, fun _ _ e => of_hidT e, Nat.le_of_eq (hidT_size _ _), trivial, fun _ z => absurd z List.not_mem_nil, okH, .of_eq hgen⟩
  refine codeAny_mono ((F _ kin (ns_at hG)).run (us := [.ref a]) (vs := [.ref a]) hr rfl e0 (hbind s₁ (.ref a)) (.cons rfl .nil) (hsp H only hS)) ?_
  rintro (er | fl) s' h
  · exact False.elim h
  · cases fl with
    | next => cases h
    | brk => cases h
    | cont => cases h
    | ret u =>
      obtain ⟨v, H', os, bare, un, ok', r', (rfl : v = .bl true)⟩ := h
      obtain rfl : u = Value.bool true := r'
      refine ⟨rfl, OldK.of_keep fun b o e => ?_, os, bare⟩
      cases q : H b with
      | none => exact un.keep b o e q (fun z => absurd z List.not_mem_nil) (by simp)
      | some u =>
        obtain ⟨rfl, _, rfl⟩ := hH b u q
        have e1 := (okH _ _ q).1
        have e2 := (ok' _ _ (un.frzs _ _ _ q)).1
        exact e2.trans (e1.symm.trans e)
end
theorem walk_G {l : PySem.W.OpenLaw} {n k : Nat} {q : Program} {loose : List Str} {XP : (Str → Option Value) → Heap → Prop} {YP : World → Heap → Prop} {d : DefRec} {K : Params → PySem.W.Frag} {sp : PySem.W.Frag → Sp} {x : Str}
    (hn : l.most = some n) (hn2 : n ≤ sizeLine) (hdf : d.params.defaults = []) (hr : Room k callerA) (hY : ∀ (w : World) (h : Heap), YP w h → (K w.params).In h)
    (F : ∀ (w : World) (mg : Str → Option Value) (fa : Addr) (h : Heap), (K w.params).In h → h.Ns mainGlobals mg → mg d.name = some (.ref fa) →
      ∃ fd : FuncData, (∀ (s : Shared) (u : Value), BindsTo s fd ⟨[u], []⟩ [(x, u)]) ∧ ∀ base : Heap, (K w.params).In base → base.Ns mainGlobals mg → FnG l.prog w (K w.params) mg base CX0 k fa fd [x] (sp (K w.params)))
    (hsp : ∀ (K : PySem.W.Frag) (H : Hp) (a : Addr) (ns : List Int), ns.length ≤ n → Only H → SqL K H a (ns.map V.int) → sp K [.ref a] H (fun v _ => v = .bl true) fun _ _ _ => False) :
    PySem.W.WalkO q loose XP YP l.row.toRowW d [] (fun f vs => PySem.call f vs) := by
  refine Att.attach_call hn hdf fun w s₀ s₁ mg mb fa o pm cd doc a vs ns G Y ho hd hcd hmg hobj hints hlen hg => ?_
  have KX := hY w _ Y
  obtain ⟨fd, bnd, hF⟩ := F w mg fa _ KX G.T.g hmg
  exact head_G KX G.T.g G.T.b G.T.builtins G.T.nolimit hg hobj hints (Nat.le_trans hlen hn2) hr hF bnd fun H o1 o2 => hsp _ H a ns hlen o1 o2
/-! ### a caught error -/
/-- what the written part says of a caught error's class, for isinstance -/
structure IsC (K : PySem.W.Frag) (C : Addr) : Prop where
  cl : (PySem.W.clsIn K C).isSome = true
  ga : PySem.W.findIn K (.ref C) "__getattribute__" = some (some (.builtin "BaseException.__getattribute__"))
  gg : PySem.W.findIn K (.ref C) "__getattr__" = some none
  ex : PySem.W.subIn K (.ref C) (.type "BaseException") = some true
  fc : PySem.W.findIn K (.ref C) "__class__" = some (some (.builtin "object.__class__"))
  sp : PySem.W.specialIn K (.builtin "object.__class__") "__get__" = some (some (.builtin "getset_descriptor.__get__"))
  tk : PySem.W.takesIn K (.builtin "object.__class__") = some true
  ob : PySem.W.mroIn K C (.type "object") = some true
/-- isinstance(e, c), e the error that the suite holds at a -/
def rIsX (K : PySem.W.Frag) (cls : Value) (d : Option Addr) (a : Addr) : List V → Hp → VK → Prop := fun xs H Q => ∃ (C dd : Addr) (fs : List (Str × V)) (c : V) (cv : Value) (b : Bool), cls = .ref C ∧ d = some dd ∧ H dd = some (.xd fs) ∧ IsC K C ∧ xs = [.ref a, c] ∧ (∀ u, RelV c u → u = cv) ∧
  PySem.W.kitOne K (.ref C) cv = some b ∧ Q (.bl b) H
theorem c_isX {X : Cx} {a : Addr} {cls : Value} {d : Option Addr} {oe : Obj} {pn : List (Addr × Obj)} (hz : Zc cls d oe) (hf : ∃ vs, oe.data = .fields vs) : CallR (X.suite a ((a, oe) :: pn)) (.builtin "isinstance") (rIsX X.K cls d a) := by
  intro pins s σ H xs us Q I r h
  obtain ⟨C, dd, fs, c, cv, b, rfl, rfl, hd, T, rfl, hcv, e, q⟩ := h
  cases r with
  | cons rx rr =>
    cases rr with
    | cons rt rr =>
      cases rr
      cases rx
      cases hcv _ rt
      have at_ := (I.pin (a, oe) (List.mem_append_left _ List.mem_cons_self)).1
      obtain ⟨vs, hv⟩ := hf
      have hx : ObjOk X.prog X.w H s.heap dd (.xd fs) := I.hok dd _ hd
      obtain ⟨mA, hns, _⟩ := hx
      obtain ⟨od, ho, _⟩ := lookIn_ns hns
      have J : PySem.W.InstAt s.heap a oe C (some od) := ⟨at_, hz.1, by unfold PySem.W.notCls; rw [hv] <;> rfl, by rw [hz.2]; exact ho⟩
      exact PySem.W.kia_one (PySem.W.kitx_exc T.cl T.ga T.gg T.ex T.fc T.sp T.tk T.ob) I.kIn J e (fun z => nomatch z) fun tk => ⟨.bl b, H, I.kept (t' := tk) fun _ _ z => z, rfl, q⟩
theorem xfC_of {P : Program} {K : PySem.W.Frag} {mg : Str → Option Value} {x f : Str} {C fI : Addr} (T : PySem.SupX.SupTxt P K mg x f C fI) : XfC K C := ⟨T.ga, T.gg, T.exC, T.hdC⟩
/-! ### the end's facts -/
def keyS (e : DictEntry) : Option Str := match e.key with
  | .str z _ => some z
  | _ => none
theorem ns_miss {K : PySem.W.Frag} {a : Addr} {es : Array DictEntry} {n : Nat} {dd : Option Addr} {sl : Array (Option Value)} {ks : List Str} {z : Str} (l : K.lookup a = some ⟨.type "dict", dd, .dict es n, sl⟩) (h : es.toList.map keyS = ks.map some) (hz : z ∉ ks) : PySem.W.nsIn K a z = some none := by
  have key : ∀ (xs : List DictEntry) (ks : List Str), xs.map keyS = ks.map some → z ∉ ks → xs.find? (·.key.isStr z) = none ∧ xs.any (·.refKey) = false := by
    intro xs
    induction xs with
    | nil => intro _ _ _; exact ⟨rfl, rfl⟩
    | cons x xs ih =>
      intro ks h hz
      cases ks with
      | nil => cases h
      | cons k ks =>
        rw [List.map_cons, List.map_cons] at h
        injection h with h1 h2
        obtain ⟨i1, i2⟩ := ih ks h2 fun q => hz (List.mem_cons_of_mem _ q)
        obtain ⟨kh, ke, kv⟩ := x
        unfold keyS at h1
        cases ke with
        | str y t =>
          have e : y = k := by injection h1
          subst e
          have ne : (y == z) = false := by
            refine Bool.eq_false_iff.mpr fun q => hz ?_
            rw [← beq_iff_eq.mp q]
            exact List.mem_cons_self
          refine ⟨?_, ?_⟩
          · rw [List.find?_cons]
            have : (Value.str y t).isStr z = false := ne
            simp only [this]
            exact i1
          · rw [List.any_cons, i2]; rfl
        | _ => cases h1
  obtain ⟨h1, h2⟩ := key _ _ h hz
  unfold PySem.W.nsIn
  rw [l]
  simp only [h1, h2]
  rfl
theorem exm_own {K : PySem.W.Frag} {C : Addr} (h1 : PySem.W.subIn K (.ref C) (.type "BaseException") = some true) (h2 : PySem.W.isClsIn K C = true) (h3 : PySem.W.typeIn K (.ref C) = some (.type "type")) (h4 : PySem.W.subIn K (.ref C) (.ref C) = some true) : PySem.W.exmOne K (.ref C) (.ref C) = some true := by
  have h2' : (PySem.W.clsIn K C).isSome = true := h2
  show (if (PySem.W.subIn K (.ref C) (.type "BaseException") == some true) = true then (if ((PySem.W.clsIn K C).isSome && PySem.W.typeIn K (.ref C) == some (.type "type")) = true then PySem.W.subIn K (.ref C) (.ref C) else none) else none) = some true
  rw [h1, h2', h3]
  exact h4
/-! ### either of two roads, chosen by the state -/
theorem pi_or {X : Cx} {tg it : Expr} {t u : TI} (h1 : PI X tg it t) (h2 : PI X tg it u) : PI X tg it (fun σ H R => t σ H R ∨ u σ H R) :=
  ⟨fun pins s σ H R I h => h.elim (h1.run pins s σ H R I) (h2.run pins s σ H R I)⟩
end Lw

/-! Lq: forward steps over what is a list or a tuple. -/
namespace Lw
open PySem L2 PySem.Spec PyProof.Rows
/-- a list or a tuple -/
def SqA (W : Wd) (H : Hp) (a : Addr) (xs : List V) : Prop := At W H a (.lst xs) ∨ At W H a (.tup xs)
/-- a plain value -/
inductive Pl : V → Prop
  | non : Pl .non
  | bl (b : Bool) : Pl (.bl b)
  | int (i : Int) : Pl (.int i)
  | str (s : Str) : Pl (.str s)
theorem Pl.flat {v : V} (h : Pl v) : flatV v = true := by cases h <;> rfl
section
variable {W : Wd} {K : PySem.W.Frag} {H H1 : Hp} {σ : L2.St} {D : Ends} {Q : VK} {v x y : V} {i j c : Int} {n m : Nat} {s z : Str} {b : Bool} {p a : Addr} {xs ys vs : List V}
variable {ta tb te : TE} {t u : TS} {tr tk ta' : TA} {g : TG} {tS : TS} {tt : TT}
theorem SqA.ex (e : Ex W H H1) (h : SqA W H a xs) : SqA W H1 a xs := h.imp e.at_ e.at_
theorem SqA.ofL (h : At W H a (.lst xs)) : SqA W H a xs := .inl h
theorem SqA.ofT (h : At W H a (.tup xs)) : SqA W H a xs := .inr h
theorem SqA.raw (h : SqA W H a xs) : SqL K H a xs ∨ SqT K H a xs := h.imp At.sl At.st
theorem rd_ixQ (h : SqA W H p xs) (e : atI xs i = some v) (k : Q v H) : rIx K (.ref p) (.int i) H Q := by
  rcases h with h | h
  · exact .inl ⟨p, xs, i, v, rfl, rfl, h.sl, e, k⟩
  · exact .inr (.inl ⟨p, xs, i, v, rfl, rfl, h.st, e, k⟩)
theorem rd_lenQ (h : SqA W H p xs) (k : Q (.int xs.length) H) : rLen K [.ref p] H Q := ⟨p, xs, rfl, h.raw, k⟩
theorem rd_lenK (h : SqT K H p xs) (k : Q (.int xs.length) H) : rLen K [.ref p] H Q := ⟨p, xs, rfl, .inr h, k⟩
theorem rd_tupQ (i : W.iv H) (h : SqA W H p xs) (k : ∀ t H2, Ex W H H2 → At W H2 t (.tup xs) → Q (.ref t) H2) : rTupO K [.ref p] H Q := by
  rcases h with h | h
  · exact ⟨p, xs, rfl, .inl ⟨h.sl, new_of i fun q H2 _ e a => k q H2 e a⟩⟩
  · exact ⟨p, xs, rfl, .inr ⟨h.st, k p H (Ex.refl i) h⟩⟩
theorem SqA.ty (h : SqA W H a xs) : TyX K H (.ref a) (.type "list") ∨ TyX K H (.ref a) (.type "tuple") := h.imp (fun h => .base (.lst h.raw)) fun h => .base (.tup h.raw)
/-- isinstance(x, (list, tuple)) -/
theorem rd_isRow {tp : Addr} (h : SqA W H a xs) (ht : H tp = some (.tup [.ty "list", .ty "tuple"])) (k : Q (.bl true) H) : rIsiT K [.ref a, .ref tp] H Q := by
  have cs : Paired ClsV [V.ty "list", V.ty "tuple"] [Value.type "list", Value.type "tuple"] := .cons (.ty _) (.cons (.ty _) .nil)
  rcases h.ty (K := K) with q | q
  · exact ⟨_, tp, _, _, _, true, rfl, ht, cs, q, by kernel_rfl, k⟩
  · exact ⟨_, tp, _, _, _, true, rfl, ht, cs, q, by kernel_rfl, k⟩
/-- for i, x in enumerate(xs), xs a name -/
theorem for_eq (hv : σ[m]? = some (some (.ref a))) (h : SqA W H a xs) (Pv : Nat → L2.St → Hp → Prop) (h0 : Pv 0 σ H) (hg : ∀ i σ' H', Pv i σ' H' → Ex W H H')
    (hs : ∀ i x T σ' H1 H', xs[i]? = some x → Pv i σ' H1 → H1 T = none → Ex W H1 H' → At W H' T (.tup [.int ((i : Nat) : Int), x]) → g (.ref T) σ' H' fun σ2 H2 => tS { D with nx := Pv (i + 1), ct := Pv (i + 1), bk := D.nx } σ2 H2)
    (hd : ∀ σ' H', Pv xs.length σ' H' → D.nx σ' H') : tFor (fun σ H R => iEnum K (tCons (tVar m) tNil) σ H R ∨ iEnumT K (tCons (tVar m) tNil) σ H R) g tS D σ H := by
  rcases h with h | h
  · refine .inl ⟨.ref a, hv, a, xs, rfl, h.sl, ?_⟩
    refine for_it (walk_enum (xs := xs)) Pv h0 (fun i σ H _ p => ((hg i σ H p).at_ h).sl) (fun i x σ H H' hi p y => ?_) hd
    obtain ⟨T, x1, x2, rfl, hT, rfl, e1, e2⟩ := y
    cases e1
    exact hs i x2 T σ H _ e2 p hT (Ex.new (hg i σ H p).iv hT) (At.new (hg i σ H p).iv hT)
  · refine .inr ⟨.ref a, hv, a, xs, rfl, h.st, ?_⟩
    refine for_it (walk_enumT (xs := xs)) Pv h0 (fun i σ H _ p => ((hg i σ H p).at_ h).st) (fun i x σ H H' hi p y => ?_) hd
    obtain ⟨T, x1, x2, rfl, hT, rfl, e1, e2⟩ := y
    cases e1
    have z := hs i x2 T σ H (upd H T (.tup [.int ((i : Nat) : Int), x2])) e2 p hT (Ex.new (hg i σ H p).iv hT) (At.new (hg i σ H p).iv hT)
    rwa [show (0 + ((i : Nat) : Int)) = (i : Int) from Int.zero_add _]
/-- [e for x in xs], xs a name: S is what holds of the items made (without the new list) -/
theorem lc_q (hv : σ[n]? = some (some (.ref a))) (h : SqA W H a xs) (i : W.iv H) (hn : xs.length ≤ 50000) (S : Nat → List V → Hp → Prop) (hm : ∀ k ys H1 H2, Ex W H1 H2 → S k ys H1 → S k ys H2) (h0 : S 0 [] H)
    (hs : ∀ k x D ys H' (QV : VK) (QN : Hp → Prop), k < xs.length → xs[k]? = some x → H D = none → At W H' D (.lst ys) → Ex W H H' → S k ys (Lw.hide D H') → ys.length ≤ k →
      (∀ y H4, Ex W H' H4 → S (k + 1) (ys ++ [y]) (Lw.hide D H4) → QV y H4) → (∀ H3, Ex W H' H3 → S (k + 1) ys (Lw.hide D H3) → QN H3) →
      tt ((wipe σ [m]).set m (some x)) H' fun b H3 => if b = true then te ((wipe σ [m]).set m (some x)) H3 QV else QN H3)
    (k : ∀ D H2 ys, H D = none → Ex W H H2 → At W H2 D (.lst ys) → S xs.length ys H2 → ys.length ≤ xs.length → Q (.ref D) H2) :
    tLc (fun σ H R => iList K (tVar n) σ H R ∨ iTup K (tVar n) σ H R) (gName m) tt te [m] σ H Q := by
  rcases h with h | h
  · exact .inl ⟨.ref a, hv, a, rfl, ⟨xs, h.sl⟩, lc_w (X := fun i x => xs[i]? = some x) walk_list S i hn (fun H' e => (e.at_ h).sl) hm h0 hs k⟩
  · exact .inr ⟨.ref a, hv, a, rfl, ⟨xs, h.st⟩, lc_w (X := fun i x => xs[i]? = some x) walk_tup S i hn (fun H' e => (e.at_ h).st) hm h0 hs k⟩
def rUpperS : V → List V → Hp → VK → Prop := fun x xs H Q => ∃ a, x = .str a ∧ xs = [] ∧ a.length ≤ 5592405 ∧ Q (.str (Txt.upper a)) H
theorem m_upper {X : Cx} : MtR X "str.upper" rUpperS := mt_upper
theorem rd_upper (h : s.length ≤ 1000000) (k : Q (.str (Txt.upper s)) H) : rUpperS (.str s) [] H Q := ⟨s, rfl, rfl, Nat.le_trans h (by decide), k⟩
theorem rd_bm0 {T : String} {r : V → List V → Hp → VK → Prop} (h : ta σ H fun x H1 => tyV K T x H1 ∧ r x [] H1 Q) : tBM0 K T r ta σ H Q := h
/-! ### raising -/
theorem rd_raiseS {C : Addr} {f : Str} {Wx : WX} (h : ta' σ H fun vs H1 => ∃ v, vs = [v] ∧ ∀ d, H1 d = none → Wx (.ref C) (some d) σ (upd H1 d (.xd [(f, v)]))) : tRaiseS C f Wx ta' D σ H := h
/-- the error's dict is new -/
theorem rd_newX {C : Addr} {f : Str} {Wx : WX} (i : W.iv H) (k : ∀ d H2, Ex W H H2 → At W H2 d (.xd [(f, v)]) → Wx (.ref C) (some d) σ H2) : ∃ v', [v] = [v'] ∧ ∀ d, H d = none → Wx (.ref C) (some d) σ (upd H d (.xd [(f, v')])) :=
  ⟨v, rfl, fun d hd => k d _ (Ex.new i hd) (At.new i hd)⟩
theorem rd_callS {sp : Sp} {E : L2.St → XK} (h : tr σ H fun vs H1 => sp vs H1 Q (E σ)) : tCallS sp E tr σ H Q := h
theorem rd_isX {cls : Value} {d : Option Addr} {C dd : Addr} {fs : List (Str × V)} {cv : Value} (h : At W H dd (.xd fs)) (e1 : cls = .ref C) (e2 : d = some dd) (T : IsC K C) (hc : ∀ u, RelV x u → u = cv) (e : PySem.W.kitOne K (.ref C) cv = some b) (k : Q (.bl b) H) : rIsX K cls d a [.ref a, x] H Q :=
  ⟨C, dd, fs, x, cv, b, e1, e2, h.1, T, rfl, hc, e, k⟩
theorem rd_xf {cls : Value} {d : Option Addr} {C dd : Addr} {f : Str} (hv : σ[m]? = some (some (.ref a))) (h : At W H dd (.xd [(f, v)])) (e1 : cls = .ref C) (e2 : d = some dd) (k : Q v H) : tXf a cls d C f (tVar m) σ H Q :=
  ⟨_, hv, rfl, e1, dd, _, v, e2, h.1, by simp [List.lookup], k⟩
end
end Lw

/-! Lh: f-strings, dicts by ints, walks of tuples that stand in the heap. -/
namespace Lw
open PySem L2 PySem.Spec PyProof.Rows
section
variable {W : Wd} {K : PySem.W.Frag} {H H1 : Hp} {σ : L2.St} {D : Ends} {Q : VK} {v x y : V} {i j c : Int} {n m : Nat} {s z : Str} {b : Bool} {p a : Addr} {xs ys vs : List V}
variable {ta tb te : TE} {t u : TS} {tr tk : TA} {g : TG} {tS : TS}
def FmtG (Q : VK) (x : V) (H : Hp) : Prop := (∃ y : Str, x = .str y ∧ y.length ≤ sizeLine ∧ Q (.str y) H) ∨ ∃ i : Int, x = .int i ∧ i.natAbs.log2 < 1920 ∧ Q (.str (toString i)) H
theorem rd_fmt (h : te σ H fun x H1 => FmtG Q x H1) : tFmt te σ H Q := h
theorem rd_fmtS (h : s.length ≤ 1000000) (k : Q (.str s) H) : FmtG Q (.str s) H := .inl ⟨s, rfl, sz_le h, k⟩
theorem rd_fmtI (h : i.natAbs.log2 < 1920) (k : Q (.str (toString i)) H) : FmtG Q (.int i) H := .inr ⟨i, rfl, h, k⟩
def JsG (ts : List TE) (acc : Str) (σ : L2.St) (QS : Str → Hp → Prop) (x : V) (H : Hp) : Prop := ∃ y : Str, x = .str y ∧ (acc ++ y).length ≤ sizeLine ∧ tJs ts (acc ++ y) σ H QS
theorem rd_js {ts : List TE} {acc : Str} {QS : Str → Hp → Prop} (h : te σ H fun x H1 => JsG ts acc σ QS x H1) : tJs (te :: ts) acc σ H QS := h
theorem rd_jsS {ts : List TE} {acc : Str} {QS : Str → Hp → Prop} (h : (acc ++ s).length ≤ 1000000) (k : tJs ts (acc ++ s) σ H QS) : JsG ts acc σ QS (.str s) H := ⟨s, rfl, sz_le h, k⟩
theorem rd_js0 {acc : Str} {QS : Str → Hp → Prop} (k : QS acc H) : tJs [] acc σ H QS := k
theorem rd_dinI {kvs : List (Key × V)} (h : At W H a (.dK kvs)) (k : Q (.bl (valV kvs (.inl i)).isSome) H) : DInG Q false (.ref a) (.int i) H := ⟨a, _, rfl, DGet.k (k := .inl i) h.1, k⟩
theorem rd_dputI {kvs : List (Key × V)} {H0 : Hp} {P : Hp → Prop} (e : Ex W H0 H) (h0 : H0 a = none) (h : At W H a (.dK kvs)) (hl : kvs.length < 1000000) (k : ∀ H2, Ex W H0 H2 → At W H2 a (.dK (putK kvs (.inl i) v)) → (∀ q o, q ≠ a → At W H q o → At W H2 q o) → P H2) :
    ∃ a' H4, V.ref a = .ref a' ∧ DPut H a' (.int i) v H4 ∧ P H4 := ⟨a, _, rfl, DPut.k (k := .inl i) h.1 (sz_lt hl), k _ (e.mut h0 h) (.mut e.iv h) fun _ _ ne q => .other e.iv h q ne⟩
/-- over a tuple of the heap -/
theorem for_t (Pv : Nat → L2.St → Hp → Prop) (h0 : Pv 0 σ H) (hl : ∀ i σ H, Pv i σ H → At W H a (.tup xs)) (hs : ∀ i x σ H, xs[i]? = some x → Pv i σ H → g x σ H fun σ2 H2 => tS { D with nx := Pv (i + 1), ct := Pv (i + 1), bk := D.nx } σ2 H2) (hd : ∀ σ H, Pv xs.length σ H → D.nx σ H) : FoW (Itt K a) g tS D σ H :=
  for_it (walk_tup (xs := xs)) Pv h0 (fun i σ H _ p => (hl i σ H p).st) (fun i x σ H H' hi p y => by
    obtain ⟨rfl, e⟩ := y
    exact hs i x σ _ e p) hd
theorem rd_srcET2 {P : Addr → Prop} (h : At W H a (.tup xs)) (k : P a) : ∃ a' xs, [V.ref a] = [.ref a'] ∧ SqT K H a' xs ∧ P a' := ⟨a, xs, rfl, h.st, k⟩
/-- enumerate of a tuple of the heap -/
theorem for_etA (Pv : Nat → L2.St → Hp → Prop) (h0 : Pv 0 σ H) (hv : ∀ i σ H, Pv i σ H → W.iv H ∧ At W H a (.tup xs))
    (hs : ∀ i x T σ H H', xs[i]? = some x → Pv i σ H → H T = none → Ex W H H' → At W H' T (.tup [.int (c + (i : Nat)), x]) → g (.ref T) σ H' fun σ2 H2 => tS { D with nx := Pv (i + 1), ct := Pv (i + 1), bk := D.nx } σ2 H2)
    (hd : ∀ σ H, Pv xs.length σ H → D.nx σ H) : FoW (IteT K c a) g tS D σ H :=
  for_it (walk_enumT (xs := xs)) Pv h0 (fun i σ H _ p => (hv i σ H p).2.st) (fun i x σ H H' hi p y => by
    obtain ⟨T, x1, x2, rfl, hT, rfl, e1, e2⟩ := y
    cases e1
    exact hs i x2 T σ H _ e2 p hT (Ex.new (hv i σ H p).1 hT) (At.new (hv i σ H p).1 hT)) hd
end
end Lw

/-! Lr: quiet defs: they raise nothing and are called where an exception is handled, too (in an except suite). -/
namespace Lw
open PySem L2 PySem.Spec PyProof.Rows
/-- nothing but room is asked of what is around -/
structure RoomQ (k : Nat) (A : Around) : Prop where
  dp : A.depth + 3 * k + 5 < recursionLimit
  un : A.units + 16 * k + 200 < cLine
theorem RoomQ.of {k : Nat} {A : Around} (r : Room k A) : RoomQ k A := ⟨r.dp, r.un⟩
theorem RoomQ.mark {k : Nat} {A : Around} {v : Option Value} (r : RoomQ k A) : RoomQ k (A.mark v) := ⟨r.dp, r.un⟩
theorem RoomQ.mono {j k : Nat} {A : Around} (r : RoomQ k A) (h : j ≤ k) : RoomQ j A := ⟨by have := r.dp; omega, by have := r.un; omega⟩
theorem RoomQ.deeper {k : Nat} {A : Around} (r : RoomQ (k + 1) A) (env : Env) : RoomQ k (A.deeper env) :=
  ⟨by have := r.dp; show A.depth + 1 + 3 * k + 5 < _; omega, by have := r.un; show A.units + 3 + 16 * k + 200 < _; omega⟩
structure FnQ (P : Program) (w : World) (K : PySem.W.Frag) (mg : Str → Option Value) (base : Heap) (CX : CXT) (k : Nat) (f : Addr) (fd : FuncData) (ps : List Str) (sp : Sp) : Prop where
  len : ∀ vs H Q E, sp vs H Q E → vs.length = ps.length
  run : ∀ {A : Around} {outer : List Env} {s : Shared} {H : Hp} {args : Args} {us : List Value} {vs : List V} {Q : VK} {E : XK}, RoomQ k A → Env0 P w K mg base A outer s H → BindsTo s fd args (ps.zip us) → Vals vs us → sp vs H Q E →
    codeAny (model P w) A (.call (.ref f) args) (CR CX outer P w H s Q E) s
/-- the context of such a def's body -/
abbrev cxQ (CX : CXT) (P : Program) (w : World) (K : PySem.W.Frag) (mg : Str → Option Value) (base : Heap) (N : List Str) (qual : Str) (scope : Scope) (f : Addr) (cd : Value) (A : Around) (outer : List Env) (s : Shared) (H : Hp) (E : XK) : Cx :=
  { cxOf CX P w K mg base N qual scope f cd A outer s H E with calm := false }
section
variable {P : Program} {w : World} {K : PySem.W.Frag} {mg : Str → Option Value} {base : Heap} {CX : CXT} {k : Nat} {f : Addr} {fd : FuncData} {ps N : List Str} {sp : Sp}
theorem Env0.unmark {A : Around} {outer : List Env} {s : Shared} {H : Hp} (e : Env0 P w K mg base A outer s H) : Env0 P w K mg base { A with handled := none } outer s H := ⟨e.frames, e.mod, e.bs, e.bsz, e.funs, e.frf, e.hok, e.bare⟩
theorem inv_startQ {qual : Str} {scope : Scope} {cd : Value} {A : Around} {outer : List Env} {s s1 : Shared} {H : Hp} {E : XK} {us : List Value} {vs : List V} (S : FnScope N ps scope) (e0 : Env0 P w K mg base A outer s H) (hl : vs.length = ps.length) (r : Vals vs us)
    (x : InCallC s s.heap.objs.size (bindL (envOfC qual scope s.heap.objs.size f cd).kindOf (ps.zip us) fun _ => none) (cellsFrom (s.heap.objs.size + 1) scope.names []) (bindC (envOfC qual scope s.heap.objs.size f cd).kindOf (ps.zip us) fun _ => none) s1) :
    Inv (cxQ CX P w K mg base N qual scope f cd A outer s H E) [] (start N vs) H s1 := by
  have I := inv_start (CX := CX) (E := E) (A := { A with handled := none }) S rfl (Env0.unmark e0) hl r x
  have o := I.ok
  have ok : (cxQ CX P w K mg base N qual scope f cd A outer s H E).Ok := ⟨o.mod, o.kind, o.glob, o.blt, o.above, o.inj, o.has, o.cab, fun z => Bool.noConfusion (show false = true from z), Around.frames_deeper e0.frames, o.stk, o.exf, o.bs, o.bsz, o.noex, o.exfs, o.funs, o.frf⟩
  exact ⟨ok, I.os, I.bare, I.base, I.loc, I.cell, I.free, I.freeC, I.pin, I.hok, I.len⟩
/-- by its body -/
theorem fnQ_body {name qual : Str} {params : Arguments} {body : List Stmt} {scope : Scope} {dV kV doc pm cdv ct oc : Value} {an od : Option Addr} {osl : Array (Option Value)}
    (lk : K.lookup f = some ⟨oc, od, .func (PySem.W.fnOf name qual params body scope dV kV doc pm an cdv ct), osl⟩) (hcd : PySem.W.codeIn K cdv qual = true) (S : FnScope N ps scope) (len : ∀ vs H Q E, sp vs H Q E → vs.length = ps.length)
    (hb : ∀ (A : Around) (outer : List Env) (s : Shared) (H : Hp) (vs : List V) (Q : VK) (E : XK), RoomQ k (A.deeper (envOfC qual scope s.heap.objs.size f cdv)) → sp vs H Q E →
      ∃ t, PSs (cxQ CX P w K mg base N qual scope f cdv A outer s H E) body t ∧ t { nx := fun _ H' => Q .non H', rt := Q } (start N vs) H) :
    FnQ P w K mg base CX (k + 1) f (PySem.W.fnOf name qual params body scope dV kV doc pm an cdv ct) ps sp := by
  constructor
  · exact len
  intro A outer s H args us vs Q E hr e0 bnd rel h
  have inBase : ∀ b o, base.get? b = some o → s.heap.get? b = some o := fun b o e => (e0.bs b o e).1
  have KX : K.In s.heap := e0.mod.kin.keeps inBase
  have kinds : ∀ y ∈ ps.zip us, scope.names.lookup y.1 = some .local ∨ (scope.names.lookup y.1 = some .cell ∧ ((cellsFrom (s.heap.objs.size + 1) scope.names []).lookup y.1).isSome = true) := by
    rintro ⟨n, v⟩ hy
    have hn := (List.of_mem_zip hy).1
    exact (S.par n hn).imp id fun q => ⟨q, PySem.W.cellsFrom_some _ _ _ (.inl q)⟩
  refine codeAny_call_function (by have := hr.dp; omega) (KX _ _ lk) rfl S.co S.gen rfl (PySem.W.codeRec_of KX hcd) (bnd _ _ _ _ (wpAny_newFunctionEnv_cells S.kind kinds ?_))
  rintro env rfl s1 x
  obtain ⟨t, ht, hq⟩ := hb A outer s H vs Q E (hr.deeper _) h
  have I := inv_startQ (CX := CX) (E := E) S e0 (len _ _ _ _ h) rel x
  refine ⟨(e0.mod.nolimit.keeps inBase).keeps x.toInCall.keep, codeAny_func (wpAny_mono (ht.run [] s1 (start N vs) H _ I hq) ?_ fun _ _ z => z)⟩
  intro fl s' hs
  cases fl with
  | next => obtain ⟨_, H', J, q⟩ := hs; exact ⟨.non, H', J.os, J.bare, J.base, J.hok, rfl, q⟩
  | ret u => obtain ⟨v, _, H', J, rv, q⟩ := hs; exact ⟨v, H', J.os, J.bare, J.base, J.hok, rv, q⟩
  | brk => obtain ⟨_, _, _, q⟩ := hs; cases q
  | cont => obtain ⟨_, _, _, q⟩ := hs; cases q
theorem Fun.okQ {x qual : Str} {st : Stmt} (F : Fun K x qual st f fd) (S : FnScope N ps (defScope st)) (len : ∀ vs H Q E, sp vs H Q E → vs.length = ps.length)
    (hb : ∀ (cdv : Value) (A : Around) (outer : List Env) (s : Shared) (H : Hp) (vs : List V) (Q : VK) (E : XK), RoomQ k (A.deeper (envOfC qual (defScope st) s.heap.objs.size f cdv)) → sp vs H Q E →
      ∃ t, PSs (cxQ CX0 P w K mg base N qual (defScope st) f cdv A outer s H E).nox (defBody st) t ∧ t { nx := fun _ H' => Q .non H', rt := Q } (start N vs) H) : FnQ P w K mg base CX0 (k + 1) f fd ps sp := by
  obtain ⟨_, _, _, _, _, _, cdv, _, _, rfl, lk, hcd⟩ := F.ex
  refine fnQ_body lk hcd S len fun A outer s H vs Q E hr h => ?_
  obtain ⟨t, ht, q⟩ := hb cdv A outer s H vs Q E hr h
  exact ⟨t, ht.nox, q⟩
end
section
variable {X : Cx} {CX : CXT} {k : Nat} {f : Addr} {fd : FuncData} {ps : List Str} {sp : Sp} {E : XK} {x : Str} {p pos : Pos} {e : Expr} {es : List Expr} {t : TA} {ds : List Value} {dvs : List V}
theorem callee_Q {pins : List (Addr × Obj)} {σ : L2.St} {H : Hp} {s : Shared} {Q : VK} {us : List Value} {vs : List V} (F : FnQ X.prog X.w X.K X.mg X.base CX k f fd ps sp) (hr : RoomQ k X.A) (hb : Binds X.K fd ps ds) (hd : Vals dvs ds) (hx : Passes CX X E)
    (I : Inv X pins σ H s) (r : Vals vs us) (h : sp (vs ++ dvs) H Q E) : wpAny (model X.prog X.w) X.A (call (.ref f) us) (EP X pins σ Q) X.xe s := by
  have both : Vals (vs ++ dvs) (us ++ ds) := r.append hd
  have n : (us ++ ds).length = ps.length := both.length.symm.trans (F.len _ _ _ _ h)
  refine wpAny_call (codeAny_mono (F.run hr I.env0 (hb s us I.kIn n) both h) ?_)
  rintro (er | fl) s' q
  · exact hx pins σ H s er s' I q
  · cases fl with
    | ret u => exact I.after q
    | next => cases q
    | brk => cases q
    | cont => cases q
/-- a call of such a def, also in an except suite -/
theorem pe_callQ (F : FnQ X.prog X.w X.K X.mg X.base CX k f fd ps sp) (hr : RoomQ k X.A) (hg : Gl X x) (hm : X.mg x = some (.ref f)) (hk : PySem.W.keepIn X.K (.ref f) = true) (hb : Binds X.K fd ps ds) (hd : Vals dvs ds) (hx : Passes CX X E)
    (ha : PA X (e :: es) t) (hdb : (x == ("__debug__" : Str)) = false := by decide) (he : starEach (e :: es) X.env = (false, eval e X.env) :: starEach es X.env := by rfl) (hpl : (backTo pos (starEach es X.env)).any (·.1) = false := by rfl) :
    PE X (.Call (.Name x p) (e :: es) [] pos) (tCall sp dvs E t) where
  run pins s σ H Q I h := by
    refine wpAny_Call_Name_kw (ld_glob I hg hm (PySem.W.callWith_K (h₀ := X.base) I.ok.mod.kin hk ?_ he hpl) hdb)
    refine thn (ha.run pos pins s σ H _ I h) ?_
    rintro us s1 ⟨vs, H1, I1, r, q⟩
    exact ⟨I1.kIn, callee_Q F hr hb hd hx I1 r q⟩
end
/-! ### range with a step -/
section
variable {σ : L2.St} {H : Hp} {D : Ends} {lo c : Int} {n m : Nat} {g : TG} {tS : TS} {ta : TA}
theorem rd_forR3 (h : ta σ H fun vs H1 => ∃ (i j c : Int) (n : Nat), vs = [.int i, .int j, .int c] ∧ RgC i j c n ∧ FoW (Itc i c n) g tS D σ H1) : tFor (iRng3 ta) g tS D σ H := h
theorem rd_down {P : Int → Int → Nat → Prop} {i : Int} (h0 : 0 ≤ i + 1) (h1 : i < 1000000) (k : P i (-1) (i + 1).toNat) : ∃ (i' j' c : Int) (n : Nat), [V.int i, V.int (-1), V.int (-1)] = [.int i', .int j', .int c] ∧ RgC i' j' c n ∧ P i' c n :=
  ⟨i, -1, -1, (i + 1).toNat, rfl, by have q := RgC.neg (i := i) (j := -1) (by omega) (by omega) (by decide) (by decide); rwa [show i - -1 = i + 1 by omega] at q, k⟩
theorem for_rC (Pv : Nat → L2.St → Hp → Prop) (h0 : Pv 0 σ H) (hs : ∀ (i : Nat) σ H, i < n → Pv i σ H → tS { D with nx := Pv (i + 1), ct := Pv (i + 1), bk := D.nx } (σ.set m (some (.int (lo + i * c)))) H) (hd : ∀ σ H, Pv n σ H → D.nx σ H) : FoW (Itc lo c n) (gName m) tS D σ H := by
  refine ⟨fun i k σ H => i ≤ n ∧ k = n - i ∧ Pv i σ H, ⟨_, Nat.zero_le _, rfl, h0⟩, ?_⟩
  rintro i k σ H ⟨hi, rfl, p⟩
  by_cases e : i < n
  · refine .inr ⟨e, Pv (i + 1), fun σ' H' q => ⟨n - (i + 1), by omega, by omega, rfl, q⟩, ?_⟩
    rintro x H' ⟨rfl, rfl⟩
    exact hs i σ _ e p
  · have e2 : i = n := by omega
    subst e2
    exact .inl ⟨Nat.le_refl _, hd _ _ p⟩
end
end Lw

/-! Lt: a text times an int, list.insert, d[text], int(text). -/
namespace Lw
open PySem L2 PySem.Spec PyProof.Rows
def repS (z : Str) (n : Nat) : Str := ⟨(List.replicate n z.cps).foldl (· ++ ·) #[]⟩
theorem rep_list : ∀ (l : List (Array Nat)) (a : Array Nat), (l.foldl (· ++ ·) a).toList = a.toList ++ (l.map Array.toList).flatten
  | [], a => by simp
  | b :: l, a => by
    rw [List.foldl_cons, rep_list l, Array.toList_append, List.map_cons, List.flatten_cons, List.append_assoc]
theorem repS_tl (z : Str) (n : Nat) : (repS z n).cps.toList = (List.replicate n z.cps.toList).flatten := by
  unfold repS
  show (List.foldl _ _ _ : Array Nat).toList = _
  rw [rep_list, List.map_replicate]
  rfl
theorem repS_len (z : Str) (n : Nat) : (repS z n).length = n * z.length := by
  have : (repS z n).length = (repS z n).cps.toList.length := Array.length_toList.symm
  rw [this, repS_tl, List.length_flatten, List.map_replicate, List.sum_replicate_nat]
  rfl
/-- a text times an int from 2 on -/
def rRepS : R2 := fun x y H Q => ∃ (z : Str) (k : Int), x = .str z ∧ y = .int k ∧ 2 ≤ k ∧ z.length ≠ 0 ∧ z.length * k.toNat ≤ 1000000 ∧ Q (.str (repS z k.toNat)) H
theorem op_repS {X : Cx} : OpR X (binaryOp .Mult) rRepS := by
  intro pins s σ H x y v u Q I rx ry h
  obtain ⟨z, k, rfl, rfl, hk, hz, hl, q⟩ := h
  obtain ⟨t, rfl⟩ := rx
  obtain ⟨t', rfl⟩ := ry
  have hk2 : k ≤ 1000000 := by
    have : k.toNat ≤ z.length * k.toNat := Nat.le_mul_of_pos_left _ (by omega)
    omega
  have hz2 : z.length ≤ 1000000 := by
    have : z.length ≤ z.length * k.toNat := Nat.le_mul_of_pos_right _ (by omega)
    omega
  have e1 : ¬ k < 1 := by omega
  have e2 : (k == 1 || z.length == 0) = false := by
    rw [Bool.or_eq_false_iff]
    exact ⟨beq_eq_false_iff_ne.mpr (by omega), beq_eq_false_iff_ne.mpr hz⟩
  have e3 : Builtin.Str.tooLong (z.length * k.toNat) = false := by
    unfold Builtin.Str.tooLong
    exact decide_eq_false (by have : (1000000 : Nat) ≤ sizeLine := by decide
                              omega)
  refine PySem.P.mul_str ?_ (fun _ _ => ?_) (fun _ _ => e3) ?_
  · rw [decide_eq_false (by omega), decide_eq_false (by omega)]; rfl
  · have e5 : (z.length : Int) * k ≤ 2 ^ 63 - 1 := by
      have : (z.length : Int) * k = ((z.length * k.toNat : Nat) : Int) := by rw [Int.natCast_mul, Int.toNat_of_nonneg (by omega)]
      rw [this]
      omega
    exact Int.not_lt.mpr (Int.le_ediv_of_mul_le (by omega) e5)
  · rw [if_neg e1, if_neg (by rw [e2]; decide)]
    refine ⟨?_, .str (repS z k.toNat), H, I.tok _, ⟨_, rfl⟩, q⟩
    show (repS z k.toNat).length ≤ sizeLine
    rw [repS_len, Nat.mul_comm]
    exact Nat.le_trans hl (by decide)
section
variable {W : Wd} {K : PySem.W.Frag} {H H1 : Hp} {σ : L2.St} {D : Ends} {Q : VK} {v x y : V} {i j c : Int} {n m : Nat} {s z : Str} {b : Bool} {p a : Addr} {xs ys vs : List V}
variable {ta tb te : TE} {t u : TS} {tr tk : TA} {g : TG} {tS : TS}
theorem rd_repS (h : 2 ≤ i) (hz : s.length ≠ 0) (hl : s.length * i.toNat ≤ 1000000) (k : Q (.str (repS s i.toNat)) H) : rRepS (.str s) (.int i) H Q := ⟨s, i, rfl, rfl, h, hz, hl, k⟩
/-- xs.insert(i, y), xs a list of our own -/
def rIns : V → List V → Hp → VK → Prop := fun x vs H Q => ∃ (l : Addr) (xs : List V) (i : Int) (y : V), x = .ref l ∧ vs = [.int i, y] ∧ H l = some (.lst xs) ∧ xs.length < sizeLine ∧ 0 ≤ i ∧ i < 2 ^ 63 ∧ Q .non (upd H l (.lst (xs.take i.toNat ++ [y] ++ xs.drop i.toNat)))
theorem m_insert {X : Cx} : MtR X "list.insert" rIns := mt_insert
theorem rd_ins {H0 : Hp} (e : Ex W H0 H) (h0 : H0 a = none) (h : At W H a (.lst xs)) (hl : xs.length < 1000000) (i0 : 0 ≤ i) (i1 : i ≤ 1000000) (k : ∀ H2, Ex W H0 H2 → At W H2 a (.lst (xs.take i.toNat ++ [v] ++ xs.drop i.toNat)) → (∀ q o, q ≠ a → At W H q o → At W H2 q o) → Q .non H2) : rIns (.ref a) [.int i, v] H Q :=
  ⟨a, xs, i, v, rfl, rfl, h.1, sz_lt hl, i0, by omega, k _ (e.mut h0 h) (.mut e.iv h) fun _ _ ne q => .other e.iv h q ne⟩
theorem rd_dsetS {kvs : List (Key × V)} {H0 : Hp} (e : Ex W H0 H) (h0 : H0 a = none) (h : At W H a (.dK kvs)) (hl : kvs.length < 1000000) (k1 : ∀ u, valV kvs (.inr s) = some u → Q u H) (k2 : valV kvs (.inr s) = none → ∀ H2, Ex W H0 H2 → At W H2 a (.dK (putK kvs (.inr s) v)) → (∀ q o, q ≠ a → At W H q o → At W H2 q o) → Q v H2) :
    DSetG Q a (.str s) v H := ⟨kvs, .inr s, h.1, rfl, sz_lt hl, k1, fun n => k2 n _ (e.mut h0 h) (.mut e.iv h) fun _ _ ne q => .other e.iv h q ne⟩
theorem rd_dninS {kvs : List (Key × V)} (h : At W H a (.dK kvs)) (k : Q (.bl (!(valV kvs (.inr s)).isSome)) H) : DInG Q true (.ref a) (.str s) H := ⟨a, _, rfl, DGet.k (k := .inr s) h.1, k⟩
/-- d[k] -/
def DIxG (Q : VK) (x : V) (y : V) (H : Hp) : Prop := ∃ a v, x = .ref a ∧ DGet H a y (some v) ∧ Q v H
theorem rd_dget (h : ta σ H fun x H1 => te σ H1 fun y H2 => DIxG Q x y H2) : tDGet ta te σ H Q := h
theorem rd_dgetX {kvs : List (Key × V)} (h : At W H a (.dK kvs)) (e : valV kvs (.inr s) = some v) (k : Q v H) : DIxG Q (.ref a) (.str s) H := ⟨a, v, rfl, by rw [← e]; exact DGet.k (k := .inr s) h.1, k⟩
theorem rd_dgetXi {kvs : List (Key × V)} (h : At W H a (.dK kvs)) (e : valV kvs (.inl i) = some v) (k : Q v H) : DIxG Q (.ref a) (.int i) H := ⟨a, v, rfl, by rw [← e]; exact DGet.k (k := .inl i) h.1, k⟩
/-- int(text) of digits -/
def rIntS : List V → Hp → VK → Prop := fun xs H Q => ∃ a n, xs = [.str a] ∧ PySem.intText? a = some n ∧ a.length ≤ 640 ∧ Q (.int n) H
theorem c_intS {X : Cx} : CallR X (.type "int") rIntS := call_int_str
theorem rd_intS (h : ∀ c ∈ s.cps.toList, 48 ≤ c ∧ c ≤ 57) (h1 : s.cps.toList ≠ []) (h2 : s.length ≤ 640) (k : Q (.int ((s.cps.toList.foldl (fun (acc : Nat) c => acc * 10 + (c - 48)) 0 : Nat) : Int)) H) : rIntS [.str s] H Q :=
  ⟨s, _, rfl, PySem.intText_digits h h1 (Nat.le_trans h2 (by decide)), h2, k⟩
end
end Lw

/-! Ld: data: what a value stands for, as a tree of None, bools, ints, texts, lists and tuples. -/
namespace Lw
open PySem L2 PySem.Spec PyProof.Rows
inductive F2 {α β : Type} (R : α → β → Prop) : List α → List β → Prop
  | nil : F2 R [] []
  | cons {x : α} {y : β} {xs : List α} {ys : List β} : R x y → F2 R xs ys → F2 R (x :: xs) (y :: ys)
namespace F2
variable {α β : Type} {R S : α → β → Prop}
theorem length : ∀ {xs : List α} {ys : List β}, F2 R xs ys → xs.length = ys.length
  | _, _, .nil => rfl
  | _, _, .cons _ t => by rw [List.length_cons, List.length_cons, t.length]
theorem mono (f : ∀ x y, R x y → S x y) : ∀ {xs : List α} {ys : List β}, F2 R xs ys → F2 S xs ys
  | _, _, .nil => .nil
  | _, _, .cons a t => .cons (f _ _ a) (t.mono f)
theorem monoM : ∀ {xs : List α} {ys : List β}, (∀ x y, y ∈ ys → R x y → S x y) → F2 R xs ys → F2 S xs ys
  | _, _, _, .nil => .nil
  | _, _, f, .cons a t => .cons (f _ _ (List.mem_cons_self ..) a) (t.monoM fun x y h => f x y (List.mem_cons_of_mem _ h))
theorem append {us : List α} {vs : List β} (h : F2 R us vs) : ∀ {xs : List α} {ys : List β}, F2 R xs ys → F2 R (xs ++ us) (ys ++ vs)
  | _, _, .nil => h
  | _, _, .cons a t => .cons a (append h t)
theorem snoc {xs : List α} {ys : List β} {x : α} {y : β} (t : F2 R xs ys) (h : R x y) : F2 R (xs ++ [x]) (ys ++ [y]) := append (.cons h .nil) t
theorem get : ∀ {xs : List α} {ys : List β} {n : Nat} {x : α}, F2 R xs ys → xs[n]? = some x → ∃ y, ys[n]? = some y ∧ R x y
  | _, _, _, _, .nil, e => by simp at e
  | _, _, 0, _, .cons a _, e => by simp at e; subst e; exact ⟨_, rfl, a⟩
  | _, _, n + 1, _, .cons _ t, e => t.get (n := n) (by simpa using e)
theorem getR : ∀ {xs : List α} {ys : List β} {n : Nat} {y : β}, F2 R xs ys → ys[n]? = some y → ∃ x, xs[n]? = some x ∧ R x y
  | _, _, _, _, .nil, e => by simp at e
  | _, _, 0, _, .cons a _, e => by simp at e; subst e; exact ⟨_, rfl, a⟩
  | _, _, n + 1, _, .cons _ t, e => t.getR (n := n) (by simpa using e)
theorem mem : ∀ {xs : List α} {ys : List β} {x : α}, F2 R xs ys → x ∈ xs → ∃ y ∈ ys, R x y
  | _, _, _, .nil, h => by cases h
  | _, _, x, .cons a t, h => by
    rcases List.mem_cons.mp h with rfl | h
    · exact ⟨_, List.mem_cons_self .., a⟩
    · obtain ⟨y, hy, r⟩ := t.mem h
      exact ⟨y, List.mem_cons_of_mem _ hy, r⟩
theorem rep {x : α} {y : β} (h : R x y) : ∀ n, F2 R (List.replicate n x) (List.replicate n y)
  | 0 => .nil
  | n + 1 => .cons h (rep h n)
theorem take : ∀ {xs : List α} {ys : List β} (n : Nat), F2 R xs ys → F2 R (xs.take n) (ys.take n)
  | _, _, 0, _ => by rw [List.take_zero, List.take_zero]; exact .nil
  | _, _, n + 1, .nil => by rw [List.take_nil, List.take_nil]; exact .nil
  | _, _, n + 1, .cons a t => .cons a (take n t)
theorem drop : ∀ {xs : List α} {ys : List β} (n : Nat), F2 R xs ys → F2 R (xs.drop n) (ys.drop n)
  | _, _, 0, t => by rw [List.drop_zero, List.drop_zero]; exact t
  | _, _, n + 1, .nil => by rw [List.drop_nil, List.drop_nil]; exact .nil
  | _, _, n + 1, .cons a t => by rw [List.drop_succ_cons, List.drop_succ_cons]; exact drop n t
theorem set {x : α} {y : β} (h : R x y) : ∀ {xs : List α} {ys : List β} (n : Nat), F2 R xs ys → F2 R (xs.set n x) (ys.set n y)
  | _, _, _, .nil => .nil
  | _, _, 0, .cons a t => .cons h t
  | _, _, n + 1, .cons a t => .cons a (set h n t)
theorem rev : ∀ {xs : List α} {ys : List β}, F2 R xs ys → F2 R xs.reverse ys.reverse
  | _, _, .nil => .nil
  | _, _, .cons a t => by rw [List.reverse_cons, List.reverse_cons]; exact (rev t).snoc a
theorem map1 {γ : Type} {f : γ → α} : ∀ {xs : List γ} {ys : List β}, F2 (fun x y => R (f x) y) xs ys → F2 R (xs.map f) ys
  | _, _, .nil => .nil
  | _, _, .cons a t => .cons a (map1 t)
theorem map2 {γ : Type} {f : γ → β} : ∀ {xs : List α} {ys : List γ}, F2 (fun x y => R x (f y)) xs ys → F2 R xs (ys.map f)
  | _, _, .nil => .nil
  | _, _, .cons a t => .cons a (map2 t)
end F2
/-- a tuple of the written part -/
structure KTup (K : PySem.W.Frag) (a : Addr) (xs : List V) : Prop where
  sq : ∀ H : Hp, SqT K H a xs
  cl : ∃ o, K.lookup a = some o ∧ o.cls = .type "tuple"
/-- a tuple; a list or a tuple -/
def TuA (K : PySem.W.Frag) (W : Wd) (H : Hp) (a : Addr) (xs : List V) : Prop := At W H a (.tup xs) ∨ KTup K a xs
def SqB (K : PySem.W.Frag) (W : Wd) (H : Hp) (a : Addr) (xs : List V) : Prop := At W H a (.lst xs) ∨ TuA K W H a xs
mutual
inductive DW (K : PySem.W.Frag) (W : Wd) (H : Hp) : V → PyData → Prop
  | non : DW K W H .non .none
  | bl (b : Bool) : DW K W H (.bl b) (.bool b)
  | int (i : Int) : DW K W H (.int i) (.int i)
  | str (s : Str) : DW K W H (.str s) (.str s)
  | lst {a : Addr} {xs : List V} {ds : List PyData} : At W H a (.lst xs) → DWs K W H xs ds → DW K W H (.ref a) (.list ds)
  | tup {a : Addr} {xs : List V} {ds : List PyData} : TuA K W H a xs → DWs K W H xs ds → DW K W H (.ref a) (.tuple ds)
inductive DWs (K : PySem.W.Frag) (W : Wd) (H : Hp) : List V → List PyData → Prop
  | nil : DWs K W H [] []
  | cons {v : V} {vs : List V} {d : PyData} {ds : List PyData} : DW K W H v d → DWs K W H vs ds → DWs K W H (v :: vs) (d :: ds)
end
section
variable {K : PySem.W.Frag} {W : Wd} {H H1 H2 : Hp} {a : Addr} {xs : List V} {v : V} {d : PyData} {ds : List PyData}
theorem TuA.ex (e : Ex W H H1) (h : TuA K W H a xs) : TuA K W H1 a xs := h.imp e.at_ id
theorem SqB.ex (e : Ex W H H1) (h : SqB K W H a xs) : SqB K W H1 a xs := h.imp e.at_ (TuA.ex e)
theorem TuA.sq (h : TuA K W H a xs) : SqT K H a xs := h.elim At.st fun k => k.sq H
theorem SqB.raw (h : SqB K W H a xs) : SqL K H a xs ∨ SqT K H a xs := h.imp At.sl TuA.sq
theorem TuA.ty (h : TuA K W H a xs) : TyX K H (.ref a) (.type "tuple") := by
  rcases h with h | h
  · exact .base (.tup h.raw)
  · obtain ⟨o, e, c⟩ := h.cl
    exact .kTuple e c
mutual
theorem DW.ex (e : Ex W H H1) : ∀ {v : V} {d : PyData}, DW K W H v d → DW K W H1 v d
  | _, _, .non => .non
  | _, _, .bl b => .bl b
  | _, _, .int i => .int i
  | _, _, .str s => .str s
  | _, _, .lst h t => .lst (e.at_ h) (DWs.ex e t)
  | _, _, .tup h t => .tup (h.ex e) (DWs.ex e t)
theorem DWs.ex (e : Ex W H H1) : ∀ {vs : List V} {ds : List PyData}, DWs K W H vs ds → DWs K W H1 vs ds
  | _, _, .nil => .nil
  | _, _, .cons a t => .cons (DW.ex e a) (DWs.ex e t)
end
/-! no list within -/
mutual
def noL : PyData → Bool
  | .list _ => false
  | .tuple ds => noLs ds
  | _ => true
def noLs : List PyData → Bool
  | [] => true
  | d :: ds => noL d && noLs ds
end
mutual
theorem DW.keepT (k : ∀ q us, At W H q (.tup us) → At W H1 q (.tup us)) : ∀ {v : V} {d : PyData}, noL d = true → DW K W H v d → DW K W H1 v d
  | _, _, _, .non => .non
  | _, _, _, .bl b => .bl b
  | _, _, _, .int i => .int i
  | _, _, _, .str s => .str s
  | _, _, n, .lst h t => by rw [noL] at n; cases n
  | _, _, n, .tup h t => .tup (h.imp (k _ _) id) (DWs.keepT k (by rw [noL] at n; exact n) t)
theorem DWs.keepT (k : ∀ q us, At W H q (.tup us) → At W H1 q (.tup us)) : ∀ {vs : List V} {ds : List PyData}, noLs ds = true → DWs K W H vs ds → DWs K W H1 vs ds
  | _, _, _, .nil => .nil
  | _, _, n, .cons a t => by
    rw [noLs, Bool.and_eq_true] at n
    exact .cons (DW.keepT k n.1 a) (DWs.keepT k n.2 t)
end
mutual
theorem DW.dp : ∀ {v : V} {d : PyData}, DW K W H v d → Dp K H v d
  | _, _, .non => .non
  | _, _, .bl b => .bl b
  | _, _, .int i => .int i
  | _, _, .str s => .str s
  | _, _, .lst h t => .lst h.sl (DWs.dp t)
  | _, _, .tup h t => .tup h.sq (DWs.dp t)
theorem DWs.dp : ∀ {vs : List V} {ds : List PyData}, DWs K W H vs ds → DpAll K H vs ds
  | _, _, .nil => .nil
  | _, _, .cons a t => .cons (DW.dp a) (DWs.dp t)
end
theorem DWs.f2 : ∀ {vs : List V} {ds : List PyData}, DWs K W H vs ds → F2 (DW K W H) vs ds
  | _, _, .nil => .nil
  | _, _, .cons a t => .cons a t.f2
theorem DWs.of : ∀ {vs : List V} {ds : List PyData}, F2 (DW K W H) vs ds → DWs K W H vs ds
  | _, _, .nil => .nil
  | _, _, .cons a t => .cons a (DWs.of t)
theorem DWs.length {vs : List V} (h : DWs K W H vs ds) : vs.length = ds.length := h.f2.length
theorem DWs.get {vs : List V} {n : Nat} {x : V} (h : DWs K W H vs ds) (e : vs[n]? = some x) : ∃ d, ds[n]? = some d ∧ DW K W H x d := h.f2.get e
theorem DWs.getR {vs : List V} {n : Nat} {x : PyData} (h : DWs K W H vs ds) (e : ds[n]? = some x) : ∃ v, vs[n]? = some v ∧ DW K W H v x := h.f2.getR e
theorem DWs.snoc {vs : List V} (h : DWs K W H vs ds) (x : DW K W H v d) : DWs K W H (vs ++ [v]) (ds ++ [d]) := .of (h.f2.snoc x)
theorem DWs.take {vs : List V} (n : Nat) (h : DWs K W H vs ds) : DWs K W H (vs.take n) (ds.take n) := .of (h.f2.take n)
theorem DWs.drop {vs : List V} (n : Nat) (h : DWs K W H vs ds) : DWs K W H (vs.drop n) (ds.drop n) := .of (h.f2.drop n)
theorem DWs.app {vs us : List V} {es : List PyData} (h : DWs K W H vs ds) (h2 : DWs K W H us es) : DWs K W H (vs ++ us) (ds ++ es) := .of (F2.append h2.f2 h.f2)
theorem DWs.ints : ∀ ns : List Int, DWs K W H (ns.map V.int) (ns.map PyData.int)
  | [] => .nil
  | n :: ns => .cons (.int n) (DWs.ints ns)
theorem DWs.strs : ∀ ns : List Str, DWs K W H (ns.map V.str) (ns.map PyData.str)
  | [] => .nil
  | n :: ns => .cons (.str n) (DWs.strs ns)
/-! ### what the kinds are -/
def isRow : PyData → Bool
  | .list _ => true | .tuple _ => true | _ => false
def items : PyData → List PyData
  | .list ds => ds | .tuple ds => ds | _ => []
def isI : PyData → Bool
  | .int _ => true | _ => false
def isB : PyData → Bool
  | .bool _ => true | _ => false
def isIB : PyData → Bool
  | .int _ => true | .bool _ => true | _ => false
def isS : PyData → Bool
  | .str _ => true | _ => false
def isT : PyData → Bool
  | .tuple _ => true | _ => false
def isLs : PyData → Bool
  | .list _ => true | _ => false
def tyD : PyData → String
  | .none => "NoneType" | .bool _ => "bool" | .int _ => "int" | .str _ => "str" | .list _ => "list" | .tuple _ => "tuple" | .dict _ => "dict"
theorem DW.ty (h : DW K W H v d) : TyX K H v (.type (tyD d)) := by
  cases h with
  | non => exact .base .non
  | bl b => exact .base (.bl b)
  | int i => exact .base (.int i)
  | str s => exact .base (.str s)
  | lst h _ => exact .base (.lst h.raw)
  | tup h _ => exact h.ty
theorem DW.row (h : DW K W H v d) (r : isRow d = true) : ∃ a xs, v = .ref a ∧ SqB K W H a xs ∧ DWs K W H xs (items d) := by
  cases h with
  | lst h t => exact ⟨_, _, rfl, .inl h, t⟩
  | tup h t => exact ⟨_, _, rfl, .inr h, t⟩
  | _ => cases r
theorem DW.tupE (h : DW K W H v (.tuple ds)) : ∃ a xs, v = .ref a ∧ TuA K W H a xs ∧ DWs K W H xs ds := by
  cases h with
  | tup h t => exact ⟨_, _, rfl, h, t⟩
theorem DW.lstE (h : DW K W H v (.list ds)) : ∃ a xs, v = .ref a ∧ At W H a (.lst xs) ∧ DWs K W H xs ds := by
  cases h with
  | lst h t => exact ⟨_, _, rfl, h, t⟩
theorem DW.intE {i : Int} (h : DW K W H v (.int i)) : v = .int i := by cases h; rfl
theorem DW.strE {s : Str} (h : DW K W H v (.str s)) : v = .str s := by cases h; rfl
theorem DW.nonE (h : DW K W H v .none) : v = .non := by cases h; rfl
theorem DW.bl_E {b : Bool} (h : DW K W H v (.bool b)) : v = .bl b := by cases h; rfl
theorem DW.isN (h : DW K W H v d) : decide (v = .non) = (match d with | .none => true | _ => false) := by
  cases h with
  | non => exact decide_eq_true rfl
  | _ => exact decide_eq_false (fun z => nomatch z)
theorem DW.noDict (h : DW K W H v d) : ∀ kvs, d ≠ .dict kvs := fun kvs z => by
  subst z
  cases h
theorem DW.kit (h : DW K W H v d) : kitB (tyD d) "int" = some (isIB d) ∧ kitB (tyD d) "bool" = some (isB d) ∧ kitB (tyD d) "str" = some (isS d) ∧ kitB (tyD d) "tuple" = some (isT d) ∧ kitB (tyD d) "list" = some (isLs d) := by
  cases h with
  | non => exact ⟨(by decide +kernel : kitB "NoneType" "int" = some false), (by decide +kernel : kitB "NoneType" "bool" = some false), (by decide +kernel : kitB "NoneType" "str" = some false), (by decide +kernel : kitB "NoneType" "tuple" = some false), (by decide +kernel : kitB "NoneType" "list" = some false)⟩
  | bl b => exact ⟨(by decide +kernel : kitB "bool" "int" = some true), (by decide +kernel : kitB "bool" "bool" = some true), (by decide +kernel : kitB "bool" "str" = some false), (by decide +kernel : kitB "bool" "tuple" = some false), (by decide +kernel : kitB "bool" "list" = some false)⟩
  | int i => exact ⟨(by decide +kernel : kitB "int" "int" = some true), (by decide +kernel : kitB "int" "bool" = some false), (by decide +kernel : kitB "int" "str" = some false), (by decide +kernel : kitB "int" "tuple" = some false), (by decide +kernel : kitB "int" "list" = some false)⟩
  | str s => exact ⟨(by decide +kernel : kitB "str" "int" = some false), (by decide +kernel : kitB "str" "bool" = some false), (by decide +kernel : kitB "str" "str" = some true), (by decide +kernel : kitB "str" "tuple" = some false), (by decide +kernel : kitB "str" "list" = some false)⟩
  | lst h _ => exact ⟨(by decide +kernel : kitB "list" "int" = some false), (by decide +kernel : kitB "list" "bool" = some false), (by decide +kernel : kitB "list" "str" = some false), (by decide +kernel : kitB "list" "tuple" = some false), (by decide +kernel : kitB "list" "list" = some true)⟩
  | tup h _ => exact ⟨(by decide +kernel : kitB "tuple" "int" = some false), (by decide +kernel : kitB "tuple" "bool" = some false), (by decide +kernel : kitB "tuple" "str" = some false), (by decide +kernel : kitB "tuple" "tuple" = some true), (by decide +kernel : kitB "tuple" "list" = some false)⟩
end
/-! ### steps -/
section
variable {K : PySem.W.Frag} {W : Wd} {H H1 H2 : Hp} {a p : Addr} {xs ys vs : List V} {v x y : V} {d e : PyData} {ds : List PyData} {Q : VK} {σ : L2.St} {D : Ends} {i : Int} {b : Bool} {n m : Nat} {f : Str} {C dx : Addr} {fs : List (Str × V)}
variable {ta tb te : TE} {tr : TA} {t : TS} {g : TG} {tt : TT} {tS : TS} {tgs : TGs}
theorem rd_isInt (h : DW K W H v d) (k : Q (.bl (isIB d)) H) : rIsi K [v, .ty "int"] H Q := rd_isi h.ty h.kit.1 k
theorem rd_isBool (h : DW K W H v d) (k : Q (.bl (isB d)) H) : rIsi K [v, .ty "bool"] H Q := rd_isi h.ty h.kit.2.1 k
theorem rd_isStr (h : DW K W H v d) (k : Q (.bl (isS d)) H) : rIsi K [v, .ty "str"] H Q := rd_isi h.ty h.kit.2.2.1 k
theorem rd_isTup (h : DW K W H v d) (k : Q (.bl (isT d)) H) : rIsi K [v, .ty "tuple"] H Q := rd_isi h.ty h.kit.2.2.2.1 k
theorem rd_isLst (h : DW K W H v d) (k : Q (.bl (isLs d)) H) : rIsi K [v, .ty "list"] H Q := rd_isi h.ty h.kit.2.2.2.2 k
/-- isinstance(x, (list, tuple)) -/
theorem rd_isRowD {tp : Addr} (h : DW K W H v d) (ht : H tp = some (.tup [.ty "list", .ty "tuple"])) (k : Q (.bl (isRow d)) H) : rIsiT K [v, .ref tp] H Q := by
  have cs : Paired ClsV [V.ty "list", V.ty "tuple"] [Value.type "list", Value.type "tuple"] := .cons (.ty _) (.cons (.ty _) .nil)
  refine ⟨_, tp, _, _, _, isRow d, rfl, ht, cs, h.ty, ?_, k⟩
  cases h with
  | non => kernel_rfl
  | bl b => kernel_rfl
  | int i => kernel_rfl
  | str s => kernel_rfl
  | lst h _ => kernel_rfl
  | tup h _ => kernel_rfl
theorem rd_ixB (h : SqB K W H p xs) (e : atI xs i = some v) (k : Q v H) : rIx K (.ref p) (.int i) H Q := by
  rcases h.raw with h | h
  · exact .inl ⟨p, xs, i, v, rfl, rfl, h, e, k⟩
  · exact .inr (.inl ⟨p, xs, i, v, rfl, rfl, h, e, k⟩)
theorem rd_ixTB (h : TuA K W H p xs) (e : atI xs i = some v) (k : Q v H) : rIxT K (.ref p) (.int i) H Q := ⟨p, xs, i, v, rfl, rfl, h.sq, e, k⟩
theorem rd_lenB (h : SqB K W H p xs) (k : Q (.int xs.length) H) : rLen K [.ref p] H Q := ⟨p, xs, rfl, h.raw, k⟩
theorem rd_tupB (i : W.iv H) (h : SqB K W H p xs) (k : ∀ t H2, Ex W H H2 → TuA K W H2 t xs → Q (.ref t) H2) : rTupO K [.ref p] H Q := by
  rcases h with h | h
  · exact ⟨p, xs, rfl, .inl ⟨h.sl, new_of i fun q H2 _ e a => k q H2 e (.inl a)⟩⟩
  · exact ⟨p, xs, rfl, .inr ⟨h.sq, k p H (Ex.refl i) h⟩⟩
theorem rd_listB (i : W.iv H) (h : SqB K W H p xs) (k : ∀ l H2, H l = none → Ex W H H2 → At W H2 l (.lst xs) → Q (.ref l) H2) : rListO K [.ref p] H Q := ⟨p, xs, rfl, h.raw, rd_new1 i k⟩
theorem rd_inB (h : SqB K W H p xs) (f : flatV x = true) (g : xs.all flatV = true) (k : Q (.bl (inV x xs)) H) : rIn K false x (.ref p) H Q := ⟨p, xs, rfl, h.raw, f, g, k⟩
theorem rd_niB (h : SqB K W H p xs) (f : flatV x = true) (g : xs.all flatV = true) (k : Q (.bl (!inV x xs)) H) : rIn K true x (.ref p) H Q := ⟨p, xs, rfl, h.raw, f, g, k⟩
theorem rd_eqD2 (h : DW K W H x d) (h2 : DW K W H y e) (s1 : SeqAt.shaped d = true) (s2 : SeqAt.shaped e = true) (k : Q (.bl (PyData.eqv d e)) H) : rEqD K x y H Q := ⟨d, e, h.dp, h2.dp, s1, s2, k⟩
theorem rd_neD2 (h : DW K W H x d) (h2 : DW K W H y e) (s1 : SeqAt.shaped d = true) (s2 : SeqAt.shaped e = true) (k : Q (.bl (!PyData.eqv d e)) H) : rNeD K x y H Q := ⟨d, e, h.dp, h2.dp, s1, s2, k⟩
/-- for i, x in enumerate(xs), xs a name -/
theorem for_eB (hv : σ[m]? = some (some (.ref a))) (h : SqB K W H a xs) (Pv : Nat → L2.St → Hp → Prop) (h0 : Pv 0 σ H) (hg : ∀ i σ' H', Pv i σ' H' → Ex W H H')
    (hs : ∀ i x T σ' H1 H', xs[i]? = some x → Pv i σ' H1 → H1 T = none → Ex W H1 H' → At W H' T (.tup [.int ((i : Nat) : Int), x]) → g (.ref T) σ' H' fun σ2 H2 => tS { D with nx := Pv (i + 1), ct := Pv (i + 1), bk := D.nx } σ2 H2)
    (hd : ∀ σ' H', Pv xs.length σ' H' → D.nx σ' H') : tFor (fun σ H R => iEnum K (tCons (tVar m) tNil) σ H R ∨ iEnumT K (tCons (tVar m) tNil) σ H R) g tS D σ H := by
  rcases h with h | h
  · refine .inl ⟨.ref a, hv, a, xs, rfl, h.sl, ?_⟩
    refine for_it (walk_enum (xs := xs)) Pv h0 (fun i σ H _ p => ((hg i σ H p).at_ h).sl) (fun i x σ H H' hi p y => ?_) hd
    obtain ⟨T, x1, x2, rfl, hT, rfl, e1, e2⟩ := y
    cases e1
    exact hs i x2 T σ H _ e2 p hT (Ex.new (hg i σ H p).iv hT) (At.new (hg i σ H p).iv hT)
  · refine .inr ⟨.ref a, hv, a, xs, rfl, h.sq, ?_⟩
    refine for_it (walk_enumT (xs := xs)) Pv h0 (fun i σ H _ p => (h.ex (hg i σ H p)).sq) (fun i x σ H H' hi p y => ?_) hd
    obtain ⟨T, x1, x2, rfl, hT, rfl, e1, e2⟩ := y
    cases e1
    have z := hs i x2 T σ H (upd H T (.tup [.int ((i : Nat) : Int), x2])) e2 p hT (Ex.new (hg i σ H p).iv hT) (At.new (hg i σ H p).iv hT)
    rwa [show (0 + ((i : Nat) : Int)) = (i : Int) from Int.zero_add _]
/-- for x in xs, xs a name -/
theorem for_B (hv : σ[m]? = some (some (.ref a))) (h : SqB K W H a xs) (Pv : Nat → L2.St → Hp → Prop) (h0 : Pv 0 σ H) (hg : ∀ i σ' H', Pv i σ' H' → Ex W H H')
    (hs : ∀ i x σ' H', xs[i]? = some x → Pv i σ' H' → g x σ' H' fun σ2 H2 => tS { D with nx := Pv (i + 1), ct := Pv (i + 1), bk := D.nx } σ2 H2)
    (hd : ∀ σ' H', Pv xs.length σ' H' → D.nx σ' H') : tFor (fun σ H R => iList K (tVar m) σ H R ∨ iTup K (tVar m) σ H R) g tS D σ H := by
  rcases h with h | h
  · refine .inl ⟨.ref a, hv, a, rfl, ⟨xs, h.sl⟩, ?_⟩
    exact for_it (walk_list (xs := xs)) Pv h0 (fun i σ H _ p => ((hg i σ H p).at_ h).sl) (fun i x σ H H' hi p y => by obtain ⟨rfl, e⟩ := y; exact hs i x σ _ e p) hd
  · refine .inr ⟨.ref a, hv, a, rfl, ⟨xs, h.sq⟩, ?_⟩
    exact for_it (walk_tup (xs := xs)) Pv h0 (fun i σ H _ p => (h.ex (hg i σ H p)).sq) (fun i x σ H H' hi p y => by obtain ⟨rfl, e⟩ := y; exact hs i x σ _ e p) hd
/-- [e for x in xs], xs a name: S is what holds of the items made (without the new list) -/
theorem lc_B (hv : σ[n]? = some (some (.ref a))) (h : SqB K W H a xs) (i : W.iv H) (hn : xs.length ≤ 50000) (S : Nat → List V → Hp → Prop) (hm : ∀ k ys H1 H2, Ex W H1 H2 → S k ys H1 → S k ys H2) (h0 : S 0 [] H)
    (hs : ∀ k x D ys H' (QV : VK) (QN : Hp → Prop), k < xs.length → xs[k]? = some x → H D = none → At W H' D (.lst ys) → Ex W H H' → S k ys (Lw.hide D H') → ys.length ≤ k →
      (∀ y H4, Ex W H' H4 → S (k + 1) (ys ++ [y]) (Lw.hide D H4) → QV y H4) → (∀ H3, Ex W H' H3 → S (k + 1) ys (Lw.hide D H3) → QN H3) →
      tt ((wipe σ [m]).set m (some x)) H' fun b H3 => if b = true then te ((wipe σ [m]).set m (some x)) H3 QV else QN H3)
    (k : ∀ D H2 ys, H D = none → Ex W H H2 → At W H2 D (.lst ys) → S xs.length ys H2 → ys.length ≤ xs.length → Q (.ref D) H2) :
    tLc (fun σ H R => iList K (tVar n) σ H R ∨ iTup K (tVar n) σ H R) (gName m) tt te [m] σ H Q := by
  rcases h with h | h
  · exact .inl ⟨.ref a, hv, a, rfl, ⟨xs, h.sl⟩, lc_w (X := fun i x => xs[i]? = some x) walk_list S i hn (fun H' e => (e.at_ h).sl) hm h0 hs k⟩
  · exact .inr ⟨.ref a, hv, a, rfl, ⟨xs, h.sq⟩, lc_w (X := fun i x => xs[i]? = some x) walk_tup S i hn (fun H' e => (h.ex e).sq) hm h0 hs k⟩
/-- what stands in the hidden heap -/
theorem DW.hide {Da : Addr} {acc : List V} (h : DW K W H v d) (hn : noL d = true) (i : W.iv H) (hD : At W H Da (.lst acc)) : DW K W (Lw.hide Da H) v d :=
  h.keepT (fun q us a => a.hide (a.ne hD fun z => by cases z) i hD) hn
/-- attributes -/
theorem rd_fld (h : ta σ H fun x H1 => ∃ a C dx fs v, x = .ref a ∧ H1 a = some (.ins C dx fs) ∧ Cls K C ∧ NoAttr K C f ∧ fs.lookup f = some v ∧ Q v H1) : tFld K ta f σ H Q := h
theorem rd_fldA (h : At W H a (.ins C dx fs)) (c : Cls K C) (na : NoAttr K C f) (e : fs.lookup f = some v) (k : Q v H) : ∃ a' C dx fs v, V.ref a = .ref a' ∧ H a' = some (.ins C dx fs) ∧ Cls K C ∧ NoAttr K C f ∧ fs.lookup f = some v ∧ Q v H := ⟨a, C, dx, fs, v, rfl, h.1, c, na, e, k⟩
/-- unpacking a list or a tuple -/
theorem pg_or {X : Cx} {tg : Expr} {t u : TG} (h1 : PG X tg t) (h2 : PG X tg u) : PG X tg (fun v σ H Q => t v σ H Q ∨ u v σ H Q) :=
  ⟨fun pins s σ H v w Q I r h => h.elim (h1.run pins s σ H v w Q I r) (h2.run pins s σ H v w Q I r)⟩
theorem rd_gB {QS : L2.St → Hp → Prop} (h : SqB K W H a xs) (e : xs.length = n) (k : tgs xs σ H QS) : gTup K n tgs (.ref a) σ H QS ∨ gUnl K n tgs (.ref a) σ H QS := by
  rcases h.raw with h | h
  · exact .inr ⟨a, xs, rfl, h, e, k⟩
  · exact .inl ⟨a, xs, rfl, h, e, k⟩
/-- sorted(xs) of ints -/
theorem rd_sorted {ns : List Int} (i : W.iv H) (h : At W H a (.lst (ns.map V.int))) (k : ∀ (ns' : List Int) l H2, ns'.Perm ns → ns'.Pairwise (· ≤ ·) → H l = none → Ex W H H2 → At W H2 l (.lst (ns'.map V.int)) → Q (.ref l) H2) : rSortedI K [.ref a] H Q :=
  ⟨a, ns, rfl, h.sl, fun ns' p hp hs hn => k ns' p _ hp hs hn (Ex.new i hn) (At.new i hn)⟩
/-- what is never reached -/
theorem pe_never {X : Cx} {e : Expr} : PE X e (fun _ _ _ => False) := ⟨fun _ _ _ _ _ _ h => h.elim⟩
end
end Lw

/-! Ly: the program's own exceptions with two fields. -/
namespace PySem
namespace SupY
open PySem.W PySem.Calls PyProof.Rows PySem.HandSPX
def iA (f k : Str) (p1 p2 p3 : Pos) : Arguments := { posonlyargs := [], args := [{ arg := "self", annotation := none, pos := p1 }, { arg := f, annotation := none, pos := p2 }, { arg := k, annotation := none, pos := p3 }], vararg := none, kwonlyargs := [], kw_defaults := [], kwarg := none, defaults := [] }
def iSup (m : Str) (n : Nat) (p0 p1 p2 p3 p4 p5 : Pos) : Stmt := .Expr (.Call (.Attribute (.Call (.Name "super" p0) [] [] p1) "__init__" p2) [.Constant (.str m) n p3] [] p4) p5
def iSt (f : Str) (q1 q2 q3 q4 : Pos) : Stmt := .Assign [.Attribute (.Name "self" q1) f q2] (.Name f q3) q4
def iS (f k : Str) : Scope := { kind := .function, names := [(PySem.Str.ofString "self", .local), (f, .local), (k, .local), (PySem.Str.ofString "__class__", .free), (PySem.Str.ofString "super", .globalImplicit)], isGenerator := false, isCoroutine := false, more := [] }
/-- the field's name is none of the four -/
structure NmOk (f : Str) : Prop where
  a : (PySem.Str.ofString "self" == f) = false
  a' : (f == PySem.Str.ofString "self") = false
  b : (PySem.Str.ofString "super" == f) = false
  c : (PySem.Str.ofString "__class__" == f) = false
  d : (f == PySem.Str.ofString "__debug__") = false
/-- two unlike fields -/
structure Nm2 (f k : Str) : Prop where
  nf : NmOk f
  nk : NmOk k
  fk : (f == k) = false
  kf : (k == f) = false
  ne : k ≠ f
/-- what the written part says of the class x, at C, and of its __init__, at fI -/
structure SupTxt2 (P : Program) (K : Frag) (mg : Str → Option Value) (x : Str) (f k : Str) (C fI : Addr) : Prop where
  gC : mg x = some (.ref C)
  nm : Nm2 f k
  cls : ∃ nm q N bs bm sn sub ab col dd k0 k1 k2 k3 k5, K.lookup C = some (excClassObj nm q C N bs bm true sn sub ab col dd k0 k1 k2 k3 k5 "ValueError.__new__") ∧ refsVE bm = true
  sa : findIn K (.ref C) "__setattr__" = some (some (.builtin "object.__setattr__"))
  ga : findIn K (.ref C) "__getattribute__" = some (some (.builtin "BaseException.__getattribute__"))
  gg : findIn K (.ref C) "__getattr__" = some none
  noN : findIn K (.ref C) f = some none
  noK : findIn K (.ref C) k = some none
  iC : findIn K (.ref C) "__init__" = some (some (.ref fI))
  tC : typeIn K (.ref fI) = some (.type "function")
  kC : keepIn K (.ref C) = true
  exC : subIn K (.ref C) (.type "BaseException") = some true
  tyC : typeIn K (.ref C) = some (.type "type")
  hdC : hasDictIn K C = true
  op : nsIn K cStatics "thirdparty.any" = some none
  along : ks_superIn K C C "__init__" = some (some (.builtin "ValueError.__init__"))
  hB : subIn K (.ref C) (.type "ValueError") = some true
  ms : mroIn K C (.ref C) = some true
  su : nsIn K mainGlobals "super" = some none
  top : (P.main.scope.names.lookup (PySem.Str.ofString "super")).isSome = false
  fn : ∃ (oc : Value) (od : Option Addr) (doc pm : Value) (an : Option Addr) (cda : Addr) (ct : Value) (osl : Array (Option Value)) (qual m : Str) (n : Nat) (p1 p2 p3 a0 a1 a2 a3 a4 a5 q1 q2 q3 q4 r1 r2 r3 r4 : Pos) (cc : Addr),
    K.lookup fI = some ⟨oc, od, .func (ksFn "__init__" qual (iA f k p1 p2 p3) [iSup m n a0 a1 a2 a3 a4 a5, iSt f q1 q2 q3 q4, iSt k r1 r2 r3 r4] (iS f k) .none .none doc pm an (.ref cda) ct cc), osl⟩ ∧ codeIn K (.ref cda) qual = true ∧
    (a2.endLine == a4.line) = true ∧ (∀ (s : Shared) (u v v2 : Value), BindsTo s (ksFn "__init__" qual (iA f k p1 p2 p3) [iSup m n a0 a1 a2 a3 a4 a5, iSt f q1 q2 q3 q4, iSt k r1 r2 r3 r4] (iS f k) .none .none doc pm an (.ref cda) ct cc) ⟨[u, v, v2], []⟩ [("self", u), (f, v), (k, v2)]) ∧
    (∃ cl cld csl, K.lookup cc = some ⟨cl, cld, .cell (some (.ref C)), csl⟩) ∧ ∃ ccl cdd vs ccs file tf, K.lookup cda = some ⟨ccl, cdd, .fields vs, ccs⟩ ∧ vs[2]? = some (.str file tf) ∧ ((P.main.file : Str) == file) = true
/-- what __init__ leaves of a fresh exception at x -/
structure InitEnd (h h' : Heap) (x C dx t1 : Addr) (f k : Str) (v v2 : Value) : Prop where
  keep : ∀ b o, b ≠ x → h.get? b = some o → h'.get? b = some o
  obj : h'.get? x = some { cls := .ref C, dict := some dx, data := .fields #[.ref t1, .none, .none, .none, .bool false, .none] }
  dbig : h.objs.size ≤ dx
  dne : dx ≠ x
  ns : h'.Ns1 dx (fun y => if y = k then some v2 else if y = f then some v else none)
/-- a made one -/
structure OwnMade (h h' : Heap) (e C d : Addr) (f k : Str) (v v2 : Value) : Prop where
  keep : ∀ b o, h.get? b = some o → h'.get? b = some o
  new : h.objs.size ≤ e
  obj : ∃ oe vs, h'.get? e = some oe ∧ oe.cls = .ref C ∧ oe.dict = some d ∧ oe.data = .fields vs ∧ vs[1]? = some .none
  dbig : h.objs.size ≤ d
  dne : d ≠ e
  ns : h'.Ns1 d (fun y => if y = k then some v2 else if y = f then some v else none)
section
variable {prog : Program} {w : World} {A : Around} {E : Value → Shared → Prop} {h : Heap} {g : Array GenState} {d : Drawn} {t : Nat} {os : OsState}
variable {nm q : Str} {C N : Addr} {bs bm : List Value} {hdct : Bool} {sn : List Str} {sub : List Value} {ab : Bool} {col : Option Bool} {dd : Option Addr} {k0 k1 k2 k3 k5 : Option Value}
/-- the bound ValueError.__init__ called -/
theorem call_mw {u e t0 : Addr} {rest : List Value} {Q : Value → Shared → Prop}
    (hC : h.get? C = some (excClassObj nm q C N bs bm hdct sn sub ab col dd k0 k1 k2 k3 k5 "ValueError.__new__")) (he : h.get? e = some (excO C t0)) (hu : h.get? u = some (kxs_mw "ValueError.__init__" e)) (hrest : rest.length ≤ sizeLine)
    (hq : ∀ h' t1, (∀ b o, b ≠ e → h.get? b = some o → h'.get? b = some o) → h'.get? e = some (excO C t1) → Q .none ⟨h', g, d, t, os⟩) :
    wpAny (model prog w) A (call (.ref u) rest) Q E ⟨h, g, d, t, os⟩ := by
  refine wpAny_call (codeAny_of_tree ?_)
  show wpAny _ A.in1 (callAny (.ref u) ⟨rest, []⟩) _ _ _
  simp only [callAny]
  refine wpAny_bind (wpAny_load hu ?_)
  simp only [kxs_mw, show (Value.type "method-wrapper" == Value.type "method" || Value.type "method-wrapper" == Value.type "builtin_function_or_method" || Value.type "method-wrapper" == Value.type "method-wrapper") = true by decide, if_true]
  refine W.KFB.if_so (by decide) ?_
  refine wpAny_bind (ESX.check_bound F.excBase_ValueError hC he rfl ?_)
  refine wpAny_bind (wpAny_pure (wpAny_pure ?_))
  refine ⟨Code.quiet_builtin _ (by decide +kernel), codeAny_builtin F.excBase_ValueError.initEntry ?_⟩
  rw [Around.under_plainId F.excBase_ValueError.init.plain _]
  wp_walk
  refine hq _ h.objs.size (fun b o hb ho => ?_) ?_
  · rw [Heap.get?_update_other _ _ (Ne.symm hb)]
    exact Heap.get?_push_of_some _ ho
  · rw [Heap.get?_update_self _ (Heap.get?_push_of_some _ he) rfl]
    rfl
end
section
variable {prog : Program} {w : World} {A : Around} {E : Value → Shared → Prop} {R : Result → Shared → Prop} {s : Shared} {K : Frag} {mg mb : Str → Option Value} {x f k : Str} {C fI : Addr}
theorem kind_of {f k : Str} {e a : Addr} {q : Str} {cd : Value} {cc : Addr} (N : Nm2 f k) : (ksEnv q (iS f k) e a cd cc).kindOf "super" = some .globalImplicit ∧ (ksEnv q (iS f k) e a cd cc).kindOf "__class__" = some .free ∧ (ksEnv q (iS f k) e a cd cc).kindOf "self" = some .local ∧ (ksEnv q (iS f k) e a cd cc).kindOf f = some .local ∧ (ksEnv q (iS f k) e a cd cc).kindOf k = some .local := by
  have e1 : ∀ y : Str, (ksEnv q (iS f k) e a cd cc).kindOf y = (iS f k).names.lookup y := fun _ => rfl
  have c1 : (PySem.Str.ofString "super" == PySem.Str.ofString "self") = false := by decide
  have c2 : (PySem.Str.ofString "super" == PySem.Str.ofString "__class__") = false := by decide
  have c3 : (PySem.Str.ofString "__class__" == PySem.Str.ofString "self") = false := by decide
  refine ⟨?_, ?_, ?_, ?_, ?_⟩ <;> rw [e1] <;> unfold iS <;> simp only [List.lookup, N.nf.a, N.nf.a', N.nf.b, N.nf.c, N.nk.a, N.nk.a', N.nk.b, N.nk.c, N.kf, c1, c2, c3, beq_self_eq_true]
theorem bs_self {f k : Str} (N : Nm2 f k) {u v v2 : Value} : (([(PySem.Str.ofString "self", u), (f, v), (k, v2)] : List (Str × Value)).reverse.lookup (PySem.Str.ofString "self") = some u) := by
  simp [List.lookup, N.nf.a, N.nk.a]
theorem bs_f {f k : Str} (N : Nm2 f k) {u v v2 : Value} : (([(PySem.Str.ofString "self", u), (f, v), (k, v2)] : List (Str × Value)).reverse.lookup f = some v) := by
  simp [List.lookup, N.fk]
theorem bs_k {f k : Str} (N : Nm2 f k) {u v v2 : Value} : (([(PySem.Str.ofString "self", u), (f, v), (k, v2)] : List (Str × Value)).reverse.lookup k = some v2) := by
  simp [List.lookup]
theorem he_of {o : Expr} {name m : Str} {n : Nat} {apos p3 pos : Pos} {env : Env} (hpl : (apos.endLine == pos.line) = true) : eval (.Call (.Attribute o name apos) [.Constant (.str m) n p3] [] pos) env = (do
      let ov ← attributeBase o name env (eval o env)
      standAt apos.atName
      let (f, first) ← holding [ov] (getMethod ov name (do return (← importBound o env).getD true))
      callWith pos f first (backTo pos (starEach [.Constant (.str m) n p3] env)) []) := by
  have e : methodCallPos true o env apos pos = pure pos := by unfold methodCallPos; rw [hpl]; rfl
  show (attributeBase o name env (eval o env) >>= fun ov => standAt apos.atName >>= fun _ => holding [ov] (getMethod ov name (do return (← importBound o env).getD true)) >>= fun fx => methodCallPos true o env apos pos >>= fun cp => callWith cp fx.1 fx.2 (backTo pos (starEach [.Constant (.str m) n p3] env)) []) = _
  rw [e]
  rfl
theorem sup_init (T : SupTxt2 prog K mg x f k C fI) {e t0 : Addr} {v v2 : Value} (X : K.In s.heap) (hlim : s.heap.NoLimit) (G : s.heap.Ns mainGlobals mg) (hms : mg "super" = none) (B : s.heap.Ns builtinsNs mb) (hmb : mb "super" = some (.type "super"))
    (hx : s.heap.get? e = some (excO C t0)) (hnx : K.lookup e = none) (hroom : A.depth < recursionLimit)
    (hq : ∀ h' tk dx t1, InitEnd s.heap h' e C dx t1 f k v v2 → R (.ok (.ret .none)) { s with heap := h', toks := tk }) :
    codeAny (model prog w) A (.call (.ref fI) ⟨[.ref e, v, v2], []⟩) R s := by
  obtain ⟨oc, od, doc, pm, an, cda, ct, osl, qual, m, n, p1, p2, p3, a0, a1, a2, a3, a4, a5, q1, q2, q3, q4, r1, r2, r3, r4, cc, ho, hcd, hpl, hbd, ⟨cl, cld, csl, hcell⟩, ccl, cdd, vs, ccs, file, tf, hcode, hvs, hfile⟩ := T.fn
  obtain ⟨nm, q, N, bs, bm, sn, sub, ab, col, dd, k0, k1, k2, k3, k5, hC, hbm⟩ := T.cls
  have hcl : clsIn K C = some { name := nm, bases := bs, mro := .ref C :: bm, ns := N, qualname := q, hasDict := true, slotNames := sn, subclasses := sub, abstract := ab, collection := col, hasDel := false } := by unfold clsIn; rw [hC] <;> rfl
  have kd := fun (L : Addr) => kind_of (q := qual) (e := L) (a := fI) (cd := .ref cda) (cc := cc) T.nm
  refine ks_codeAny_call_defAt (fd := ksFn "__init__" qual (iA f k p1 p2 p3) [iSup m n a0 a1 a2 a3 a4 a5, iSt f q1 q2 q3 q4, iSt k r1 r2 r3 r4] (iS f k) .none .none doc pm an (.ref cda) ct cc) (body := [iSup m n a0 a1 a2 a3 a4 a5, iSt f q1 q2 q3 q4, iSt k r1 r2 r3 r4])
    (binds := [(PySem.Str.ofString "self", .ref e), (f, v), (k, v2)]) hroom (X _ _ ho) rfl hlim (codeRec_of X hcd) rfl (hbd _ _ _ _) ?cell ?loc (fun h₁ hns hk => ?_) rfl rfl rfl
  case cell => 
    intro y hy
    simp only [ksFn, fnX, iS, List.mem_cons, List.not_mem_nil, or_false] at hy
    rcases hy with rfl | rfl | rfl | rfl | rfl <;> intro z <;> cases z
  case loc =>
    intro y hy
    simp only [List.mem_cons, List.not_mem_nil, or_false] at hy
    rcases hy with rfl | rfl | rfl
    · exact (kd 0).2.2.1
    · exact (kd 0).2.2.2.1
    · exact (kd 0).2.2.2.2
  have kd := kd s.heap.objs.size
  obtain ⟨hp, g, d, tk, os⟩ := s
  dsimp only at hns hk hx X G B hlim hq ⊢
  have X₁ : K.In h₁ := X.keeps hk
  have hx₁ := hk _ _ hx
  show _root_.PySem.wpAt (model prog w) _ (.func _ (ksEnv qual (iS f k) hp.objs.size fI (.ref cda) cc)) (execs [iSup m n a0 a1 a2 a3 a4 a5, iSt f q1 q2 q3 q4, iSt k r1 r2 r3 r4] (ksEnv qual (iS f k) hp.objs.size fI (.ref cda) cc)) _ _ _
  refine ks_wpAt_execs_cons (ks_wpAt_Expr_any (ks_wpAt_MethodCall ?_ (he_of hpl)))
  refine ks_wpAt_super_base (env := ksEnv qual (iS f k) hp.objs.size fI (.ref cda) cc) kd.1 kd.2.1 (by decide) rfl (X₁ _ _ ho) rfl rfl rfl (X₁ _ _ hcode) rfl hvs hfile T.top ?_
  refine ks_loadName_global rfl kd.1 (loadGlobal_builtin (env := ksEnv qual (iS f k) hp.objs.size fI (.ref cda) cc) (G.keeps hk) hms (B.keeps hk) hmb ⟨rfl, ?_⟩)
  refine wpAny_loadName_free rfl kd.2.1 rfl ⟨_, X₁ _ _ hcell, rfl⟩ ?_
  refine wpAny_loadName_local rfl kd.2.2.1 hns (bs_self T.nm) ?_
  have hCo := X₁ _ _ hC
  refine ks_wpAny_isType_cls hCo rfl ⟨rfl, ?_⟩
  refine ks_wpAny_call_super hCo rfl hx₁ rfl (fun c z => by cases z) (looks_mroIn X₁ T.ms) (fun h₂ hso hk₂ => ?_)
  have X₂ : K.In h₂ := X₁.keeps hk₂
  have hx₂ := hk₂ _ _ hx₁
  have eC : e ≠ C := fun z => by
    rw [z] at hnx
    rw [hnx] at hC
    cases hC
  have I₂ : InstAt h₂ e (excO C t0) C none := ⟨hx₂, rfl, rfl, trivial⟩
  have al := T.along
  unfold ks_superIn at al
  rw [hcl] at al
  refine kxs_getMethod kxs_ValueError (x := e) (D := C) (C := C) hso (looks_opaque X₂ T.op) (l₀ := .ref C :: bm) ?mro rfl X₂ al (I₂.type.andThen (looks_subIn X₂ T.hB)) eC (by decide) ?_
  case mro => exact fun A Q E s k q => wpAny_bind ((looks_clsIn X₂ hcl) A _ E s k (wpAny_pure q))
  have hu : (h₂.push (kxs_mw "ValueError.__init__" e)).get? h₂.objs.size = some (kxs_mw "ValueError.__init__" e) := Heap.get?_push_at rfl rfl
  have hk₃ : ∀ b o, h₂.get? b = some o → (h₂.push (kxs_mw "ValueError.__init__" e)).get? b = some o := fun b o z => Heap.get?_push_of_some _ z
  refine kxs_callWith (i := "ValueError.__init__") (x := e) (by rfl) (evalArgs_plain ?_)
  refine Calls.spliced_cons (Calls.Constant_str (k := n) (pos := a3) (Calls.spliced_nil ⟨hu, ?_⟩))
  refine call_mw (hk₃ _ _ (hk₂ _ _ hCo)) (hk₃ _ _ hx₂) hu (by show 1 ≤ sizeLine; rw [sizeLine_eq]; decide) (fun h₄ t1 hk₄ hx₄ => ?_)
  have keep : ∀ b o, b ≠ e → hp.get? b = some o → h₄.get? b = some o := fun b o nb z => hk₄ b o nb (hk₃ _ _ (hk₂ _ _ (hk _ _ z)))
  have X₄ : K.In h₄ := fun b o z => keep b o (fun q => by rw [q, hnx] at z; cases z) (X b o z)
  have neL : hp.objs.size ≠ e := Nat.ne_of_gt (Heap.lt_size hx)
  have hns₄ : h₄.Ns hp.objs.size (fun y => ([(PySem.Str.ofString "self", Value.ref e), (f, v), (k, v2)] : List (Str × Value)).reverse.lookup y) := by
    obtain ⟨oL, es, ep, hL, r⟩ := hns
    exact ⟨oL, es, ep, hk₄ _ _ neL (hk₃ _ _ (hk₂ _ _ hL)), r⟩
  refine ks_wpAt_execs_cons (wpAt_of_wpAny ?_)
  refine plainObj_wpAny_Assign_Attribute (wpAny_Name (wpAny_loadName_local rfl kd.2.2.2.1 hns₄ (bs_f T.nm) (wpAny_Name (wpAny_loadName_local rfl kd.2.2.1 hns₄ (bs_self T.nm) ?_) (by decide))) T.nm.nf.d) (by rfl)
  refine set_plain X₄ (ox := excO C t1) (od := none) ⟨hx₄, rfl, rfl, trivial⟩ T.sa ?_
  refine exc_osa X₄ hx₄ hcl (show refsVE (.ref C :: bm) = true from hbm) rfl T.noN (fun h₅ tk₅ dx k₅ dn dne hx₅ hn₅ => ?_)
  have lt4 : hp.objs.size < h₄.objs.size := hns₄.lt
  have X₅ : K.In h₅ := fun b o z => k₅ b o (fun q => by rw [q, hnx] at z; cases z) (X₄ b o z)
  have neD : hp.objs.size ≠ dx := fun z => by rw [z] at lt4; exact absurd (Nat.lt_of_lt_of_le lt4 dn) (Nat.lt_irrefl _)
  have hns₅ : h₅.Ns hp.objs.size (fun y => ([(PySem.Str.ofString "self", Value.ref e), (f, v), (k, v2)] : List (Str × Value)).reverse.lookup y) := by
    obtain ⟨oL, es, ep, hL, r⟩ := hns₄
    exact ⟨oL, es, ep, k₅ _ _ neL hL, r⟩
  refine ks_wpAt_execs_cons (wpAt_of_wpAny ?_)
  refine plainObj_wpAny_Assign_Attribute (wpAny_Name (wpAny_loadName_local rfl kd.2.2.2.2 hns₅ (bs_k T.nm) (wpAny_Name (wpAny_loadName_local rfl kd.2.2.1 hns₅ (bs_self T.nm) ?_) (by decide))) T.nm.nk.d) (by rfl)
  obtain ⟨oD, _, _, hoD, _⟩ := id hn₅
  refine set_plain X₅ (ox := { cls := .ref C, dict := some dx, data := .fields #[.ref t1, .none, .none, .none, .bool false, .none] }) (od := some oD) ⟨hx₅, rfl, rfl, hoD⟩ T.sa ?_
  refine PySem.OEX.osa_old (nl := [f]) X₅ hx₅ hn₅ ?wi (by show 1 ≤ 1000; decide) hcl (show refsVE (.ref C :: bm) = true from hbm) rfl T.noK (fun h₆ tk₆ k₆ hn₆ => ?_)
  case wi =>
    intro y hy
    have hy : (if y = f then some v else none) ≠ none := hy
    by_cases q : y = f
    · exact List.mem_singleton.mpr q
    · rw [if_neg q] at hy; exact absurd rfl hy
  refine wpAt_of_wpAny (wpAny_execs_nil (hq h₆ tk₆ dx t1 ⟨fun b o hb z => k₆ b o (fun q => by
    have lt5 : b < hp.objs.size := Heap.lt_size z
    rw [q] at lt5
    exact absurd (Nat.lt_of_lt_of_le (Nat.lt_trans lt5 lt4) dn) (Nat.lt_irrefl _)) (k₅ b o hb (keep b o hb z)), k₆ _ _ (Ne.symm dne) hx₅, Nat.le_of_lt (Nat.lt_of_lt_of_le lt4 dn), dne, hn₆⟩))
theorem sup_made (T : SupTxt2 prog K mg x f k C fI) {v v2 : Value} (X : K.In s.heap) (hlim : s.heap.NoLimit) (G : s.heap.Ns mainGlobals mg) (hms : mg "super" = none) (B : s.heap.Ns builtinsNs mb) (hmb : mb "super" = some (.type "super")) (hroom : A.depth + 1 < recursionLimit)
    (hq : ∀ h' tk e d, OwnMade s.heap h' e C d f k v v2 → R (.ok (.ret (.ref e))) { s with heap := h', toks := tk }) :
    codeAny (model prog w) A (.call (.ref C) ⟨[v, v2], []⟩) R s := by
  obtain ⟨nm, q, N, bs, bm, sn, sub, ab, col, dd, k0, k1, k2, k3, k5, hC, hbm⟩ := T.cls
  obtain ⟨hp, g, dr, tk, os⟩ := s
  have k : ∀ b o, hp.get? b = some o → ((hp.push (kdv_tup [v, v2])).push (excO C hp.objs.size)).get? b = some o := fun b o e => Heap.get?_push_of_some _ (Heap.get?_push_of_some _ e)
  have hget : ((hp.push (kdv_tup [v, v2])).push (excO C hp.objs.size)).get? (hp.objs.size + 1) = some (excO C hp.objs.size) := by heap_get
  have hnx : K.lookup (hp.objs.size + 1) = none := by
    cases e : K.lookup (hp.objs.size + 1) with
    | none => rfl
    | some o =>
      have z : hp.get? (hp.objs.size + 1) = some o := X _ _ e
      exact absurd (Nat.lt_of_succ_lt (Heap.lt_size z)) (Nat.lt_irrefl _)
  refine call_own F.excBase_ValueError (fun X => refsVE_contains X bm hbm) (X _ _ hC) (looks_findIn X T.iC) (fun self => bind_fn X self T.tC) (by show 2 ≤ sizeLine; rw [sizeLine_eq]; decide) ?_
  refine sup_init (s := ⟨(hp.push (kdv_tup [v, v2])).push (excO C hp.objs.size), g, dr, tk, os⟩) T (X.keeps k) (hlim.keeps k) (G.keeps k) hms (B.keeps k) hmb hget hnx ?_ fun h' tk' dx t1 ⟨k', hx, dn, dne, hns⟩ => ?_
  · show A.depth + 1 < recursionLimit
    exact hroom
  · have old : ∀ b o, hp.get? b = some o → h'.get? b = some o := fun b o e => k' b o (Nat.ne_of_lt (Nat.lt_succ_of_lt (Heap.lt_size e))) (k b o e)
    have z : hp.objs.size + 1 + 1 ≤ dx := by
      first
        | (simpa only [Heap.size_push] using dn)
        | exact dn
        | (have q := dn; rw [Heap.size_push, Heap.size_push] at q; exact q)
    exact ⟨rfl, hq h' tk' (hp.objs.size + 1) dx ⟨old, Nat.le_succ _, ⟨_, _, hx, rfl, rfl, rfl, rfl⟩, Nat.le_trans (Nat.le_trans (Nat.le_succ _) (Nat.le_succ _)) z, dne, hns⟩⟩
end
end SupY
end PySem
namespace Lw
open PySem L2 PySem.Spec PyProof.Rows
section
variable {X : Cx} {C fI : Addr} {x f k : Str}
theorem relO_fk {f k : Str} {v v2 : V} {v' v2' : Value} (ne : k ≠ f) (r : RelV v v') (r2 : RelV v2 v2') (g : Str) : RelO (List.lookup g [(f, v), (k, v2)]) (if g = k then some v2' else if g = f then some v' else none) := by
  by_cases hk : g = k
  · subst hk
    rw [if_pos rfl]
    have q : List.lookup g [(f, v), (g, v2)] = some v2 := by
      have : (g == f) = false := by simpa using ne
      simp [List.lookup, this]
    rw [q]
    exact r2
  · rw [if_neg hk]
    by_cases hw : g = f
    · subst hw
      rw [if_pos rfl]
      have q : List.lookup g [(g, v), (k, v2)] = some v := by simp [List.lookup]
      rw [q]
      exact r
    · rw [if_neg hw]
      have qw : (g == f) = false := by simpa using hw
      have qk : (g == k) = false := by simpa using hk
      have q2 : List.lookup g [(f, v), (k, v2)] = none := by simp [List.lookup, qw, qk]
      rw [q2]
      trivial
/-- x(e, e2) -/
def tMkS2 (C : Addr) (f k : Str) (ta : TA) : L2.St → Hp → XK → Prop := fun σ H Q => ta σ H fun vs H1 => ∃ v v2, vs = [v, v2] ∧ ∀ d, H1 d = none → Q (.ref C) (some d) (upd H1 d (.xd [(f, v), (k, v2)]))
theorem pmk_sup2 {a a2 : Expr} {ta : TA} {p pos : Pos} {j : Nat} (T : PySem.SupY.SupTxt2 X.prog X.K X.mg x f k C fI) (hr : Room j X.A) (ha : PA X [a, a2] ta) (hg : Gl X x := by rfl) (hdb : (x == ("__debug__" : Str)) = false := by decide)
    (he : starEach (a :: [a2]) X.env = (false, eval a X.env) :: starEach [a2] X.env := by rfl) (hpl : (backTo pos (starEach [a2] X.env)).any (·.1) = false := by rfl) :
    PMk X (.Call (.Name x p) [a, a2] [] pos) (tMkS2 C f k ta) := by
  intro pins s σ H Q I h
  refine wpAny_Call_Name_kw (ld_glob I hg T.gC ?_ hdb)
  refine PySem.W.callWith_K (h₀ := X.base) I.ok.mod.kin T.kC (thn (ha.run pos pins s σ H _ I h) fun us s1 hh => ?_) he hpl
  obtain ⟨vs, H1, I1, r1, v, v2, ev, q1⟩ := hh
  subst ev
  refine ⟨I1.kIn, ?_⟩
  obtain ⟨v', v2', rfl, rv, rv2⟩ := r1.two
  show wpAny _ _ (call (.ref C) [v', v2']) _ _ _
  have hlim := I1.nolimit
  obtain ⟨mb, hb1, hb2⟩ := I1.mod.blt
  have hms : X.mg "super" = none := PySem.W.mg_none_of I1.ok.mod.kin I1.mod.glob T.su
  have hG := I1.mod.glob.keeps I1.bk
  have hB := hb1.keeps I1.bk
  have hmb : mb "super" = some (.type "super") := (hb2 "super" (by decide)).trans (by first | boot_by_name | rfl | kernel_rfl)
  obtain ⟨hp, g, dr, tk, os⟩ := s1
  refine wpAny_call (PySem.SupY.sup_made T I1.kIn hlim hG hms hB hmb (by have := hr.dp; omega) fun h' tk' e d M => ?_)
  show MkP X pins σ Q (.ref e) ⟨h', g, dr, tk', os⟩
  obtain ⟨oe, fv, hoe, hc, hd, hdat, h1⟩ := M.obj
  have hns := M.ns
  obtain ⟨G', g1, g2⟩ := restrict h' fun b => decide (b ≠ e)
  have gk : ∀ b, b ≠ e → G'.get? b = h'.get? b := fun b hb => g1 b (decide_eq_true hb)
  have ge : G'.get? e = none := g2 e (by simp)
  have old : ∀ b o, hp.get? b = some o → G'.get? b = some o := fun b o q => (gk b (Nat.ne_of_lt (Nat.lt_of_lt_of_le (Heap.lt_size q) M.new))).trans (M.keep b o q)
  have ob : ObjOk X.prog X.w (upd H1 d (.xd [(f, v), (k, v2)])) G' d (.xd [(f, v), (k, v2)]) :=
    ⟨_, hns.at (fun o q => (gk d M.dne).trans q), fun g => relO_fk T.nm.ne rv rv2 g⟩
  have J : Inv X pins σ (upd H1 d (.xd [(f, v), (k, v2)])) ⟨G', g, dr, tk', os⟩ := I1.laid (t' := tk') old M.dbig ob
  refine ⟨e, oe, fv, ⟨G', g, dr, tk', os⟩, _, .ref C, some d, rfl, J, fun b o q => ?_, ge, hoe, ⟨hc, hd⟩, hdat, h1, ?_, rfl, I1.bare, raises_own T.exC T.tyC, q1 d (I1.hok.fresh M.dbig)⟩
  · by_cases hb : b = e
    · have q' : G'.get? b = some o := q
      rw [hb, ge] at q'; cases q'
    · exact (gk b hb).symm.trans q
  · rw [upd_ne (Ne.symm M.dne)]
    exact I1.hok.fresh M.new
/-- raise x(e, e2) -/
def tRaiseS2 (C : Addr) (f k : Str) (W : WX) (ta : TA) : TS := fun _ σ H => tMkS2 C f k ta σ H fun cls d H' => W cls d σ H'
theorem ps_raiseS2 {a a2 : Expr} {ta : TA} {W : WX} {p pos pos2 : Pos} {j : Nat} (hc : X.calm = true) (T : PySem.SupY.SupTxt2 X.prog X.K X.mg x f k C fI) (hr : Room j X.A) (tk : Takes X W) (ha : PA X [a, a2] ta) (hg : Gl X x := by rfl) (hdb : (x == ("__debug__" : Str)) = false := by decide)
    (he : starEach (a :: [a2]) X.env = (false, eval a X.env) :: starEach [a2] X.env := by rfl) (hpl : (backTo pos (starEach [a2] X.env)).any (·.1) = false := by rfl) :
    PS X (.Raise (some (.Call (.Name x p) [a, a2] [] pos)) none pos2) (tRaiseS2 C f k W ta) := ps_raise hc tk (pmk_sup2 T hr ha hg hdb he hpl)
end
end Lw

/-! Lk: own classes: made with keywords, fields stored and read. -/
namespace Lw
open PySem L2 PySem.Spec PyProof.Rows
/-- C(.., k = v, ..), what is raised being wished for at the caller's slots -/
def tMakeKS (C : Addr) (n m : Nat) (sp : Sp) (gV : List V → List V → List V) (E : L2.St → XK) (t tk : TA) : TE := fun σ H Q => t σ H fun vs H1 => tk σ H1 fun zs H2 => vs.length = n ∧ zs.length = m ∧ ∀ x dx, H2 x = none → H2 dx = none → dx ≠ x →
  sp (gV (.ref x :: vs) zs) (upd (upd H2 dx (.own x)) x (.ins C dx [])) (fun v H3 => v = .non ∧ Q (.ref x) H3) (E σ)
section
variable {X : Cx} {CX : CXT} {k n : Nat} {f C : Addr} {fd : FuncData} {ps ks : List Str} {sp : Sp} {E : L2.St → XK} {x : Str} {p pos : Pos} {e : Expr} {es : List Expr} {kws : List Keyword} {t tk : TA} {g : List Value → List Value → List Value} {gV : List V → List V → List V}
theorem run_makeKS {pins : List (Addr × Obj)} {σ : L2.St} {H : Hp} {s : Shared} {Q : VK} {us ws : List Value} {vs zs : List V} (M : Mk X.K C f) (F : FnOk X.prog X.w X.K X.mg X.base CX k f fd ps sp) (hr : Room (k + 1) X.A) (hb : KBn X.K fd ps (n + 1) ks g gV) (hx : PassesAt CX X σ (E σ))
    (I : Inv X pins σ H s) (r : Vals vs us) (rz : Vals zs ws) (l1 : vs.length = n) (l2 : zs.length = ks.length)
    (h : ∀ x dx, H x = none → H dx = none → dx ≠ x → sp (gV (.ref x :: vs) zs) (upd (upd H dx (.own x)) x (.ins C dx [])) (fun v H2 => v = .non ∧ Q (.ref x) H2) (E σ)) :
    wpAny (model X.prog X.w) X.A (call (.ref C) us (ks.zip ws)) (EP X pins σ Q) X.xe s := by
  have hq := h (s.heap.objs.size + 1) s.heap.objs.size (I.hok.fresh (Nat.le_succ _)) (I.hok.fresh (Nat.le_refl _)) (Nat.ne_of_lt (Nat.lt_succ_self _))
  have I2 := Inv.made (C := C) I
  have r1 : Vals (V.ref (s.heap.objs.size + 1) :: vs) (Value.ref (s.heap.objs.size + 1) :: us) := .cons rfl r
  have r2 := hb.rel r1 rz
  have n1 : (Value.ref (s.heap.objs.size + 1) :: us).length = n + 1 := by
    rw [List.length_cons, ← r.length, l1]
  refine wpAny_call (make_map (f := f) I.kIn M.makes M.init (beq_iff_eq.mp M.fn) (codeAny_mono (F.run _ X.stack _ _ ⟨Value.ref (s.heap.objs.size + 1) :: us, ks.zip ws⟩ (g (Value.ref (s.heap.objs.size + 1) :: us) ws) _ _ (E σ) (hr.make C us (ks.zip ws))
    (I2.env0.make C us (ks.zip ws)) (hb.to _ (Value.ref (s.heap.objs.size + 1) :: us) ws I2.kIn n1 (rz.length.symm.trans l2)) r2 hq) fun r s' hq' => ?_))
  cases r with
  | error e => exact hx pins _ _ e s' I2 hq'
  | ok fl =>
    cases fl with
    | ret u =>
      obtain ⟨v, H', I3, rv, ev, q3⟩ := I2.after hq'
      subst ev
      exact ⟨rv, ⟨V.ref (s.heap.objs.size + 1), H', I3, rfl, q3⟩⟩
    | next => exact False.elim hq'
    | brk => exact False.elim hq'
    | cont => exact False.elim hq'
theorem pe_makeKS (M : Mk X.K C f) (F : FnOk X.prog X.w X.K X.mg X.base CX k f fd ps sp) (hr : Room (k + 1) X.A) (hg : Gl X x) (hm : X.mg x = some (.ref C)) (hb : KBn X.K fd ps (n + 1) ks g gV) (hx : ∀ σ, PassesAt CX X σ (E σ)) (ha : PA X (e :: es) t) (hkw : PK X kws tk)
    (hall : (backToKw pos (keywordEach kws X.env)).all (·.1.isSome) = true := by rfl) (hks : (backToKw pos (keywordEach kws X.env)).filterMap (·.1) = ks := by rfl) (hdb : (x == ("__debug__" : Str)) = false := by decide)
    (he : starEach (e :: es) X.env = (false, eval e X.env) :: starEach es X.env := by rfl) (hpl : ((backTo pos (starEach (e :: es) X.env)).any (·.1) || (backToKw pos (keywordEach kws X.env)).any (·.1.isNone)) = false := by rfl) :
    PE X (.Call (.Name x p) (e :: es) kws pos) (tMakeKS C n ks.length sp gV E t tk) := by
  refine ⟨fun pins s σ H Q I h => ?_⟩
  refine wpAny_Call_Name_kw (ld_glob I hg hm ?_ hdb)
  refine PySem.W.callWith_KW (h₀ := X.base) I.ok.mod.kin M.kp hall (thn (ha.run pos pins s σ H _ I h) fun us s1 ⟨vs, H1, I1, r, q⟩ => ?_) hpl he
  refine thn (hkw.run pos pins s1 σ H1 _ I1 q) fun ws s2 ⟨zs, H2, I2, rz, l1, l2, q2⟩ => ⟨I2.kIn, ?_⟩
  rw [hks]
  exact run_makeKS M F hr hb (hx σ) I2 r rz l1 l2 q2
end
section
variable {K : PySem.W.Frag} {W : Wd} {H H0 H1 H2 : Hp} {a p : Addr} {xs ys vs zs : List V} {v x y : V} {d e : PyData} {ds : List PyData} {Q : VK} {σ : L2.St} {D : Ends} {i : Int} {b : Bool} {n m : Nat} {f : Str} {C dx : Addr} {fs : List (Str × V)}
variable {ta tb te tv : TE} {tr tk : TA} {t : TS} {sp : Sp} {gV : List V → List V → List V} {E : L2.St → XK}
mutual
theorem DW.keep (kl : ∀ q us, At W H q (.lst us) → At W H1 q (.lst us)) (kt : ∀ q us, At W H q (.tup us) → At W H1 q (.tup us)) : ∀ {v : V} {d : PyData}, DW K W H v d → DW K W H1 v d
  | _, _, .non => .non
  | _, _, .bl b => .bl b
  | _, _, .int i => .int i
  | _, _, .str s => .str s
  | _, _, .lst h t => .lst (kl _ _ h) (DWs.keep kl kt t)
  | _, _, .tup h t => .tup (h.imp (kt _ _) id) (DWs.keep kl kt t)
theorem DWs.keep (kl : ∀ q us, At W H q (.lst us) → At W H1 q (.lst us)) (kt : ∀ q us, At W H q (.tup us) → At W H1 q (.tup us)) : ∀ {vs : List V} {ds : List PyData}, DWs K W H vs ds → DWs K W H1 vs ds
  | _, _, .nil => .nil
  | _, _, .cons a t => .cons (DW.keep kl kt a) (DWs.keep kl kt t)
end
theorem rd_mkS (h : tr σ H fun vs H1 => tk σ H1 fun zs H2 => vs.length = n ∧ zs.length = m ∧ ∀ x dx, H2 x = none → H2 dx = none → dx ≠ x → sp (gV (.ref x :: vs) zs) (upd (upd H2 dx (.own x)) x (.ins C dx [])) (fun v H3 => v = .non ∧ Q (.ref x) H3) (E σ)) : tMakeKS C n m sp gV E tr tk σ H Q := h
/-- a new instance: what its __init__ finds -/
theorem rd_mkN {sp' : V → Hp → Prop} (i : W.iv H) (k : ∀ x dx H3, H x = none → Ex W H H3 → At W H3 x (.ins C dx []) → sp' (.ref x) H3) : ∀ x dx, H x = none → H dx = none → dx ≠ x → sp' (.ref x) (upd (upd H dx (.own x)) x (.ins C dx [])) := fun x dx hx hd ne => by
  have e1 : Ex W H (upd H dx (.own x)) := Ex.new i hd
  have n1 : (upd H dx (.own x)) x = none := by rw [upd_ne (Ne.symm ne)]; exact hx
  exact k x dx _ hx (e1.trans (Ex.new e1.iv n1)) (At.new e1.iv n1)
theorem rd_sfld (h : tv σ H fun y H1 => ta σ H1 fun x H2 => ∃ a C dx fs, x = .ref a ∧ H2 a = some (.ins C dx fs) ∧ Cls K C ∧ NoAttr K C f ∧ fs.length < 1000 ∧ D.nx σ (upd H2 a (.ins C dx (putF f y fs)))) : sFld K ta tv f D σ H := h
/-- o.f = v, o an instance of our own -/
theorem rd_sfldA {P : Hp → Prop} (ex : Ex W H0 H) (h0 : H0 a = none) (h : At W H a (.ins C dx fs)) (c : Cls K C) (na : NoAttr K C f) (hl : fs.length < 1000)
    (k : ∀ H2, Ex W H0 H2 → At W H2 a (.ins C dx (putF f y fs)) → (∀ {v : V} {d : PyData}, DW K W H v d → DW K W H2 v d) → (∀ q o, q ≠ a → At W H q o → At W H2 q o) → P H2) :
    ∃ a' C dx fs, V.ref a = .ref a' ∧ H a' = some (.ins C dx fs) ∧ Cls K C ∧ NoAttr K C f ∧ fs.length < 1000 ∧ P (upd H a' (.ins C dx (putF f y fs))) :=
  ⟨a, C, dx, fs, rfl, h.1, c, na, hl, k _ (ex.mut h0 h) (.mut ex.iv h) (fun {v d} w => w.keep (fun q us hq => .other ex.iv h hq (hq.ne h fun z => by cases z)) (fun q us hq => .other ex.iv h hq (hq.ne h fun z => by cases z))) fun _ _ ne q => .other ex.iv h q ne⟩
/-- raise x(e, e2) -/
theorem rd_raiseS2 {C : Addr} {f k : Str} {Wx : WX} (h : tr σ H fun vs H1 => ∃ v v2, vs = [v, v2] ∧ ∀ d, H1 d = none → Wx (.ref C) (some d) σ (upd H1 d (.xd [(f, v), (k, v2)]))) : tRaiseS2 C f k Wx tr D σ H := h
theorem rd_newX2 {C : Addr} {f k : Str} {Wx : WX} (i : W.iv H) (q : ∀ d H2, Ex W H H2 → At W H2 d (.xd [(f, v), (k, x)]) → Wx (.ref C) (some d) σ H2) : ∃ v' x', [v, x] = [v', x'] ∧ ∀ d, H d = none → Wx (.ref C) (some d) σ (upd H d (.xd [(f, v'), (k, x')])) :=
  ⟨v, x, rfl, fun d hd => q d _ (Ex.new i hd) (At.new i hd)⟩
end
/-- a method of a builtin, the frozen part by its name (in a try: its reading must not name what the suite brings) -/
theorem pe_bmK {X : Cx} {K : PySem.W.Frag} {e : Expr} {T : String} {r : V → List V → Hp → VK → Prop} {to : TE} {t : TA} (h : X.K = K) (p : PE X e (tBM X.K T r to t)) : PE X e (tBM K T r to t) := h ▸ p
section
variable {K : PySem.W.Frag} {W : Wd} {H H0 : Hp} {a : Addr} {xs : List V} {σ : L2.St} {D : Ends} {m : Nat} {g : TG} {tS : TS}
/-- for i, x in enumerate(xs), xs a name: what is walked stood before (at H0), while the loop changes things made since -/
theorem for_eB0 (e0 : Ex W H0 H) (hv : σ[m]? = some (some (.ref a))) (h : SqB K W H0 a xs) (Pv : Nat → L2.St → Hp → Prop) (h0 : Pv 0 σ H) (hg : ∀ i σ' H', Pv i σ' H' → Ex W H0 H')
    (hs : ∀ i x T σ' H1 H', xs[i]? = some x → Pv i σ' H1 → H1 T = none → Ex W H1 H' → At W H' T (.tup [.int ((i : Nat) : Int), x]) → g (.ref T) σ' H' fun σ2 H2 => tS { D with nx := Pv (i + 1), ct := Pv (i + 1), bk := D.nx } σ2 H2)
    (hd : ∀ σ' H', Pv xs.length σ' H' → D.nx σ' H') : tFor (fun σ H R => iEnum K (tCons (tVar m) tNil) σ H R ∨ iEnumT K (tCons (tVar m) tNil) σ H R) g tS D σ H := by
  rcases h with h | h
  · refine .inl ⟨.ref a, hv, a, xs, rfl, (e0.at_ h).sl, ?_⟩
    refine for_it (walk_enum (xs := xs)) Pv h0 (fun i σ H _ p => ((hg i σ H p).at_ h).sl) (fun i x σ H H' hi p y => ?_) hd
    obtain ⟨T, x1, x2, rfl, hT, rfl, e1, e2⟩ := y
    cases e1
    exact hs i x2 T σ H _ e2 p hT (Ex.new (hg i σ H p).iv hT) (At.new (hg i σ H p).iv hT)
  · refine .inr ⟨.ref a, hv, a, xs, rfl, (h.ex e0).sq, ?_⟩
    refine for_it (walk_enumT (xs := xs)) Pv h0 (fun i σ H _ p => (h.ex (hg i σ H p)).sq) (fun i x σ H H' hi p y => ?_) hd
    obtain ⟨T, x1, x2, rfl, hT, rfl, e1, e2⟩ := y
    cases e1
    have z := hs i x2 T σ H (upd H T (.tup [.int ((i : Nat) : Int), x2])) e2 p hT (Ex.new (hg i σ H p).iv hT) (At.new (hg i σ H p).iv hT)
    rwa [show (0 + ((i : Nat) : Int)) = (i : Int) from Int.zero_add _]
end
theorem kwd_cons {K : PySem.W.Frag} {D : Addr} {p : Str × V} {kws : List (Str × V)} (h : ∃ u, PySem.W.nsIn K D p.1 = some (some u) ∧ RelV p.2 u) (t : ∀ q ∈ kws, ∃ u, PySem.W.nsIn K D q.1 = some (some u) ∧ RelV q.2 u) : ∀ q ∈ p :: kws, ∃ u, PySem.W.nsIn K D q.1 = some (some u) ∧ RelV q.2 u := fun q hq => by
  rcases List.mem_cons.mp hq with rfl | hq
  · exact h
  · exact t q hq
end Lw

/-! Lz: lists turned round, fields of caught errors with two fields, dict displays. -/
namespace Lw
open PySem L2 PySem.Spec PyProof.Rows
theorem xfC_of2 {P : Program} {K : PySem.W.Frag} {mg : Str → Option Value} {x f k : Str} {C fI : Addr} (T : PySem.SupY.SupTxt2 P K mg x f k C fI) : XfC K C := ⟨T.ga, T.gg, T.exC, T.hdC⟩
theorem flat_strs : ∀ us : List Str, (us.map V.str).all flatV = true
  | [] => rfl
  | _ :: us => flat_strs us
theorem sapp_len (a b : Str) : (a ++ b).length = a.length + b.length := Array.size_append ..
section
variable {W : Wd} {K : PySem.W.Frag} {H H0 H1 H2 : Hp} {a p : Addr} {xs ys vs : List V} {v x y : V} {Q : VK} {σ : L2.St} {i : Int} {b : Bool} {n m : Nat} {te : TE}
theorem rd_xfs {cls : Value} {d : Option Addr} {C dd : Addr} {f : Str} {fs : List (Str × V)} (hv : σ[m]? = some (some (.ref a))) (h : At W H dd (.xd fs)) (e1 : cls = .ref C) (e2 : d = some dd) (l : fs.lookup f = some v) (k : Q v H) : tXf a cls d C f (tVar m) σ H Q :=
  ⟨_, hv, rfl, e1, dd, fs, v, e2, h.1, l, k⟩
def RevG (K : PySem.W.Frag) (Q : VK) (x : V) (H1 : Hp) : Prop := ∃ a xs, x = .ref a ∧ SqL K H1 a xs ∧ ∀ p, H1 p = none → Q (.ref p) (upd H1 p (.lst xs.reverse))
theorem rd_revL (h : te σ H (RevG K Q)) : tRevL K te σ H Q := h
theorem rd_revA (i : W.iv H) (h : At W H a (.lst xs)) (k : ∀ p H2, H p = none → Ex W H H2 → At W H2 p (.lst xs.reverse) → Q (.ref p) H2) : RevG K Q (.ref a) H :=
  ⟨a, xs, rfl, h.sl, rd_new1 i k⟩
/-- {k: v, ..}, the dict being new -/
def DispG (Q : VK) (p : Addr) (ps : List (V × V)) (H2 : Hp) : Prop := H2 p = some (.dK []) ∧ ∃ kvs : List (Key × V), ps = kvs.map (fun kv => (kV kv.1, kv.2)) ∧ kvs.length ≤ 15 ∧ Q (.ref p) (upd H2 p (.dK (mergeK [] kvs)))
theorem rd_disp {trs : List (TE × TE)} (i : W.iv H) (k : ∀ p H1, H p = none → Ex W H H1 → At W H1 p (.dK []) → tPairs trs σ H1 (DispG Q p)) : tDisp trs σ H Q :=
  fun p hp => k p _ hp (Ex.new i hp) (At.new i hp)
theorem rd_pp {tk tv : TE} {r : List (TE × TE)} {QP : List (V × V) → Hp → Prop} (h : tk σ H fun x H1 => tv σ H1 fun y H2 => tPairs r σ H2 fun ps H3 => QP ((x, y) :: ps) H3) : tPairs ((tk, tv) :: r) σ H QP := h
theorem rd_pn {QP : List (V × V) → Hp → Prop} (h : QP [] H) : tPairs [] σ H QP := h
theorem rd_dput_new {kvs : List (Key × V)} {ps : List (V × V)} (e0 : Ex W H0 H) (h0 : H0 p = none) (h : At W H p (.dK [])) (e : ps = kvs.map (fun kv => (kV kv.1, kv.2))) (l : kvs.length ≤ 15)
    (k : ∀ H2, Ex W H0 H2 → At W H2 p (.dK (mergeK [] kvs)) → Q (.ref p) H2) : DispG Q p ps H :=
  ⟨h.1, kvs, e, l, k _ (e0.mut h0 h) (.mut e0.iv h)⟩
end
end Lw

namespace K08
open PySem L2 Lw TL

def top (i : Nat) : Stmt := PySem.Challenge.pw_capstead_k08_prices.main.body.getD i (.Pass ⟨0, 0, 0, 0⟩)

abbrev s_is_integer : Stmt := top 12
abbrev N_is_integer : List Str := ["value"]
theorem sc_is_integer : FnScope N_is_integer ["value"] (defScope s_is_integer) := ⟨rfl, rfl, rfl, by decide +kernel, rfl, by decide +kernel, by decide +kernel⟩
abbrev s_is_word : Stmt := top 13
abbrev N_is_word : List Str := ["value"]
theorem sc_is_word : FnScope N_is_word ["value"] (defScope s_is_word) := ⟨rfl, rfl, rfl, by decide +kernel, rfl, by decide +kernel, by decide +kernel⟩
abbrev s_is_kind : Stmt := top 14
abbrev N_is_kind : List Str := ["kind"]
theorem sc_is_kind : FnScope N_is_kind ["kind"] (defScope s_is_kind) := ⟨rfl, rfl, rfl, by decide +kernel, rfl, by decide +kernel, by decide +kernel⟩
abbrev s_in_order : Stmt := top 15
abbrev N_in_order : List Str := ["kind", "letters", "place", "letter", "found"]
theorem sc_in_order : FnScope N_in_order ["kind", "letters"] (defScope s_in_order) := ⟨rfl, rfl, rfl, by decide +kernel, rfl, by decide +kernel, by decide +kernel⟩
abbrev s_is_row : Stmt := top 20
abbrev N_is_row : List Str := ["value"]
theorem sc_is_row : FnScope N_is_row ["value"] (defScope s_is_row) := ⟨rfl, rfl, rfl, by decide +kernel, rfl, by decide +kernel, by decide +kernel⟩
abbrev s_bound : Stmt := top 21
abbrev N_bound : List Str := ["role", "length"]
theorem sc_bound : FnScope N_bound ["role", "length"] (defScope s_bound) := ⟨rfl, rfl, rfl, by decide +kernel, rfl, by decide +kernel, by decide +kernel⟩
abbrev s_fits : Stmt := top 22
abbrev N_fits : List Str := ["part", "role", "length"]
theorem sc_fits : FnScope N_fits ["part", "role", "length"] (defScope s_fits) := ⟨rfl, rfl, rfl, by decide +kernel, rfl, by decide +kernel, by decide +kernel⟩
abbrev s_is_instruction : Stmt := top 23
abbrev N_is_instruction : List Str := ["item", "length", "roles", "at", "role"]
theorem sc_is_instruction : FnScope N_is_instruction ["item", "length"] (defScope s_is_instruction) := ⟨rfl, rfl, rfl, by decide +kernel, rfl, by decide +kernel, by decide +kernel⟩
abbrev s_check_program : Stmt := top 24
abbrev N_check_program : List Str := ["value", "index", "item"]
theorem sc_check_program : FnScope N_check_program ["value"] (defScope s_check_program) := ⟨rfl, rfl, rfl, by decide +kernel, rfl, by decide +kernel, by decide +kernel⟩
abbrev s_kind_counts : Stmt := top 26
abbrev N_kind_counts : List Str := ["setup"]
theorem sc_kind_counts : FnScope N_kind_counts ["setup"] (defScope s_kind_counts) := ⟨rfl, rfl, rfl, by decide +kernel, rfl, by decide +kernel, by decide +kernel⟩
abbrev s_kind_of : Stmt := top 27
abbrev N_kind_of : List Str := ["thing"]
theorem sc_kind_of : FnScope N_kind_of ["thing"] (defScope s_kind_of) := ⟨rfl, rfl, rfl, by decide +kernel, rfl, by decide +kernel, by decide +kernel⟩
abbrev s_is_thing : Stmt := top 28
abbrev N_is_thing : List Str := ["setup", "thing", "word", "number", "kind", "many"]
theorem sc_is_thing : FnScope N_is_thing ["setup", "thing"] (defScope s_is_thing) := ⟨rfl, rfl, rfl, by decide +kernel, rfl, by decide +kernel, by decide +kernel⟩
abbrev s_is_between : Stmt := top 42
abbrev N_is_between : List Str := ["value", "low", "high"]
theorem sc_is_between : FnScope N_is_between ["value", "low", "high"] (defScope s_is_between) := ⟨rfl, rfl, rfl, by decide +kernel, rfl, by decide +kernel, by decide +kernel⟩
abbrev s_free_price : Stmt := top 43
abbrev N_free_price : List Str := ["processes", "slots", "windows"]
theorem sc_free_price : FnScope N_free_price ["processes", "slots", "windows"] (defScope s_free_price) := ⟨rfl, rfl, rfl, by decide +kernel, rfl, by decide +kernel, by decide +kernel⟩
abbrev s_least_ticks : Stmt := top 44
abbrev N_least_ticks : List Str := ["processes", "slots", "windows"]
theorem sc_least_ticks : FnScope N_least_ticks ["processes", "slots", "windows"] (defScope s_least_ticks) := ⟨rfl, rfl, rfl, by decide +kernel, rfl, by decide +kernel, by decide +kernel⟩
abbrev s_checked_number : Stmt := top 45
abbrev N_checked_number : List Str := ["field", "value", "low", "high"]
theorem sc_checked_number : FnScope N_checked_number ["field", "value", "low", "high"] (defScope s_checked_number) := ⟨rfl, rfl, rfl, by decide +kernel, rfl, by decide +kernel, by decide +kernel⟩
abbrev s_checked_programs : Stmt := top 46
abbrev N_checked_programs : List Str := ["programs", "found", "at", "program"]
theorem sc_checked_programs : FnScope N_checked_programs ["programs"] (defScope s_checked_programs) := ⟨rfl, rfl, rfl, by decide +kernel, rfl, by decide +kernel, by decide +kernel⟩
abbrev s_is_turn : Stmt := top 47
abbrev N_is_turn : List Str := ["value", "processes", "least"]
theorem sc_is_turn : FnScope N_is_turn ["value", "processes", "least"] (defScope s_is_turn) := ⟨rfl, rfl, rfl, by decide +kernel, rfl, by decide +kernel, by decide +kernel⟩
abbrev s_checked_turns : Stmt := top 48
abbrev N_checked_turns : List Str := ["turns", "processes", "least", "at", "turn", "owners", "process"]
theorem sc_checked_turns : FnScope N_checked_turns ["turns", "processes", "least"] (defScope s_checked_turns) := ⟨rfl, rfl, rfl, by decide +kernel, rfl, by decide +kernel, by decide +kernel⟩
abbrev s_checked_quotas : Stmt := top 49
abbrev N_checked_quotas : List Str := ["quotas", "processes", "process", "quota"]
theorem sc_checked_quotas : FnScope N_checked_quotas ["quotas", "processes"] (defScope s_checked_quotas) := ⟨rfl, rfl, rfl, by decide +kernel, rfl, by decide +kernel, by decide +kernel⟩
abbrev s_is_data : Stmt := top 50
abbrev N_is_data : List Str := ["value", "item"]
theorem sc_is_data : FnScope N_is_data ["value"] (defScope s_is_data) := ⟨rfl, rfl, rfl, by decide +kernel, rfl, by decide +kernel, by decide +kernel⟩
abbrev s_checked_data : Stmt := top 51
abbrev N_checked_data : List Str := ["data", "processes", "process", "words"]
theorem sc_checked_data : FnScope N_checked_data ["data", "processes"] (defScope s_checked_data) := ⟨rfl, rfl, rfl, by decide +kernel, rfl, by decide +kernel, by decide +kernel⟩
abbrev s_checked_lines : Stmt := top 52
abbrev N_checked_lines : List Str := ["lines", "bells", "line", "bell"]
theorem sc_checked_lines : FnScope N_checked_lines ["lines", "bells"] (defScope s_checked_lines) := ⟨rfl, rfl, rfl, by decide +kernel, rfl, by decide +kernel, by decide +kernel⟩
abbrev s_right_row : Stmt := top 53
abbrev N_right_row : List Str := ["setup", "value", "process", "slot", "thing", "letters", "parent"]
theorem sc_right_row : FnScope N_right_row ["setup", "value"] (defScope s_right_row) := ⟨rfl, rfl, rfl, by decide +kernel, rfl, by decide +kernel, by decide +kernel⟩
abbrev s_fits_parent : Stmt := top 54
abbrev N_fits_parent : List Str := ["row", "earlier", "parent", "above", "letter"]
theorem sc_fits_parent : FnScope N_fits_parent ["row", "earlier"] (defScope s_fits_parent) := ⟨rfl, rfl, rfl, by decide +kernel, rfl, by decide +kernel, by decide +kernel⟩
abbrev s_checked_rights : Stmt := top 55
abbrev N_checked_rights : List Str := ["setup", "rights", "found", "used", "at", "value", "row"]
theorem sc_checked_rights : FnScope N_checked_rights ["setup", "rights"] (defScope s_checked_rights) := ⟨rfl, rfl, rfl, by decide +kernel, rfl, by decide +kernel, by decide +kernel⟩
abbrev s_Setup__init : Stmt := inClass (top 56) 0
abbrev N_Setup__init : List Str := ["self", "programs", "turns", "rights", "quotas", "data", "pages", "ports", "bells", "lines", "slots", "windows", "processes"]
theorem sc_Setup__init : FnScope N_Setup__init ["self", "programs", "turns", "rights", "quotas", "data", "pages", "ports", "bells", "lines", "slots", "windows"] (defScope s_Setup__init) := ⟨rfl, rfl, rfl, by decide +kernel, rfl, by decide +kernel, by decide +kernel⟩
abbrev s_price : Stmt := top 57
abbrev N_price : List Str := ["setup", "name", "processes"]
theorem sc_price : FnScope N_price ["setup", "name"] (defScope s_price) := ⟨rfl, rfl, rfl, by decide +kernel, rfl, by decide +kernel, by decide +kernel⟩
abbrev s_law_bag : Stmt := top 59
abbrev N_law_bag : List Str := ["script", "cell"]
theorem sc_law_bag : FnScope N_law_bag ["script"] (defScope s_law_bag) := ⟨rfl, rfl, rfl, by decide +kernel, rfl, by decide +kernel, by decide +kernel⟩
abbrev s_law_take : Stmt := top 60
abbrev N_law_take : List Str := ["bag", "many", "cell", "digit", "number"]
theorem sc_law_take : FnScope N_law_take ["bag", "many"] (defScope s_law_take) := ⟨rfl, rfl, rfl, by decide +kernel, rfl, by decide +kernel, by decide +kernel⟩
abbrev s_law_within : Stmt := top 61
abbrev N_law_within : List Str := ["bag", "low", "high", "way"]
theorem sc_law_within : FnScope N_law_within ["bag", "low", "high"] (defScope s_law_within) := ⟨rfl, rfl, rfl, by decide +kernel, rfl, by decide +kernel, by decide +kernel⟩
abbrev s_law_word : Stmt := top 62
abbrev N_law_word : List Str := ["bag"]
theorem sc_law_word : FnScope N_law_word ["bag"] (defScope s_law_word) := ⟨rfl, rfl, rfl, by decide +kernel, rfl, by decide +kernel, by decide +kernel⟩
abbrev s_law_deeds : Stmt := top 63
abbrev N_law_deeds : List Str := ["names"]
theorem sc_law_deeds : FnScope N_law_deeds [] (defScope s_law_deeds) := ⟨rfl, rfl, rfl, by decide +kernel, rfl, by decide +kernel, by decide +kernel⟩
abbrev s_law_instruction : Stmt := top 64
abbrev N_law_instruction : List Str := ["bag", "length", "kind", "register"]
theorem sc_law_instruction : FnScope N_law_instruction ["bag", "length"] (defScope s_law_instruction) := ⟨rfl, rfl, rfl, by decide +kernel, rfl, by decide +kernel, by decide +kernel⟩
abbrev s_law_program : Stmt := top 65
abbrev N_law_program : List Str := ["bag", "most", "length", "k"]
theorem sc_law_program : FnScope N_law_program ["bag", "most"] (defScope s_law_program) := ⟨rfl, rfl, rfl, by decide +kernel, rfl, by decide +kernel, by decide +kernel⟩
abbrev s_law_same : Stmt := top 66
abbrev N_law_same : List Str := ["told", "due", "k"]
theorem sc_law_same : FnScope N_law_same ["told", "due"] (defScope s_law_same) := ⟨rfl, rfl, rfl, by decide +kernel, rfl, by decide +kernel, by decide +kernel⟩
abbrev s_law_price : Stmt := top 67
abbrev N_law_price : List Str := ["name", "sizes", "cells"]
theorem sc_law_price : FnScope N_law_price ["name", "sizes"] (defScope s_law_price) := ⟨rfl, rfl, rfl, by decide +kernel, rfl, by decide +kernel, by decide +kernel⟩
abbrev s_law_sizes : Stmt := top 68
abbrev N_law_sizes : List Str := ["bag", "count"]
theorem sc_law_sizes : FnScope N_law_sizes ["bag"] (defScope s_law_sizes) := ⟨rfl, rfl, rfl, by decide +kernel, rfl, by decide +kernel, by decide +kernel⟩
abbrev s_law_setup : Stmt := top 69
abbrev N_law_setup : List Str := ["bag", "sizes", "shift", "count", "least", "codes", "pairs", "shares", "words", "rows", "k"]
theorem sc_law_setup : FnScope N_law_setup ["bag", "sizes", "shift"] (defScope s_law_setup) := ⟨rfl, rfl, rfl, by decide +kernel, rfl, by decide +kernel, by decide +kernel⟩
abbrev s_law_letter : Stmt := top 70
abbrev N_law_letter : List Str := ["bag"]
theorem sc_law_letter : FnScope N_law_letter ["bag"] (defScope s_law_letter) := ⟨rfl, rfl, rfl, by decide +kernel, rfl, by decide +kernel, by decide +kernel⟩
abbrev s_law_strangers : Stmt := top 71
abbrev N_law_strangers : List Str := ["bag", "names", "found", "name", "at", "k"]
theorem sc_law_strangers : FnScope N_law_strangers ["bag"] (defScope s_law_strangers) := ⟨rfl, rfl, rfl, by decide +kernel, rfl, by decide +kernel, by decide +kernel⟩
abbrev s_law_unknown : Stmt := top 72
abbrev N_law_unknown : List Str := ["setup", "name", "e"]
theorem sc_law_unknown : FnScope N_law_unknown ["setup", "name"] (defScope s_law_unknown) := ⟨rfl, rfl, rfl, by decide +kernel, rfl, by decide +kernel, by decide +kernel⟩
abbrev s_law_asks_names : Stmt := top 73
abbrev N_law_asks_names : List Str := ["setup", "sizes", "names", "name"]
theorem sc_law_asks_names : FnScope N_law_asks_names ["setup", "sizes", "names"] (defScope s_law_asks_names) := ⟨rfl, rfl, rfl, by decide +kernel, rfl, by decide +kernel, by decide +kernel⟩
abbrev s_law_asks_strangers : Stmt := top 74
abbrev N_law_asks_strangers : List Str := ["bag", "setup", "sizes", "name"]
theorem sc_law_asks_strangers : FnScope N_law_asks_strangers ["bag", "setup", "sizes"] (defScope s_law_asks_strangers) := ⟨rfl, rfl, rfl, by decide +kernel, rfl, by decide +kernel, by decide +kernel⟩
abbrev s_law_asks_turns : Stmt := top 75
abbrev N_law_asks_turns : List Str := ["bag", "sizes", "count", "codes", "least", "pairs", "setup", "at", "e", "k"]
theorem sc_law_asks_turns : FnScope N_law_asks_turns ["bag", "sizes"] (defScope s_law_asks_turns) := ⟨rfl, rfl, rfl, by decide +kernel, rfl, by decide +kernel, by decide +kernel⟩
abbrev s_law : Stmt := top 76
abbrev N_law : List Str := ["script", "bag", "sizes", "other_sizes", "setup", "other", "unlike", "start", "names"]
theorem sc_law : FnScope N_law ["script"] (defScope s_law) := ⟨rfl, rfl, rfl, by decide +kernel, rfl, by decide +kernel, by decide +kernel⟩

/-! ### data of setups, plainly -/
def isWordD : PyData → Bool
  | .int i => decide (0 ≤ i ∧ i < 1048576) | _ => false
def isBet (d : PyData) (lo hi : Int) : Bool := match d with
  | .int i => decide (lo ≤ i ∧ i ≤ hi) | _ => false
def deedsL : List Str := ["halt", "until", "clock", "look", "claim", "free", "copy", "drop", "revoke", "map", "unmap", "send", "take", "trysend", "trytake", "call", "reply", "ring", "await", "tryawait", "ack", "give", "pull"]
def names9 : List Str := ["set", "move", "add", "sub", "load", "store", "jump", "zero", "deed"]
def rolesF (n : Str) : List Str := if n = "set" then ["register", "word"] else if n = "jump" then ["target"] else if n = "zero" then ["register", "target"] else if n = "deed" then ["deed"] else ["register", "register"]
def boundF (role : Str) (n : Int) : Int := if role = "register" then 8 else if role = "word" then 1048576 else n
def inDL : PyData → Bool
  | .str s => decide (s ∈ deedsL) | _ => false
def isBelow (d : PyData) (n : Int) : Bool := match d with
  | .int i => decide (0 ≤ i ∧ i < n) | _ => false
def fitD (d : PyData) (r : Str) (n : Int) : Bool := if r = "deed" then inDL d else isBelow d (boundF r n)
theorem isI_F {d : PyData} (h : isIB d = true) : isI d = !isB d := by cases d <;> first | rfl | cases h
theorem isI_F2 {d : PyData} (h : isIB d = false) : isI d = false := by cases d <;> first | rfl | cases h
theorem isWordD_F {d : PyData} (h : isI d = false) : isWordD d = false := by cases d <;> first | rfl | cases h
theorem isBet_F {d : PyData} {lo hi : Int} (h : isI d = false) : isBet d lo hi = false := by cases d <;> first | rfl | cases h
theorem inDL_F {d : PyData} (h : isS d = false) : inDL d = false := by cases d <;> first | rfl | cases h
theorem isBelow_F {d : PyData} {n : Int} (h : isI d = false) : isBelow d n = false := by cases d <;> first | rfl | cases h
def fitsD : List PyData → List Str → Int → Bool
  | v :: vs, r :: rs, n => fitD v r n && fitsD vs rs n
  | [], [], _ => true
  | _, _, _ => false
def insL (ds : List PyData) (n : Int) : Bool := match ds with
  | .str nm :: ds => decide (nm ∈ names9) && fitsD ds (rolesF nm) n | _ => false
def insD (d : PyData) (n : Int) : Bool := isRow d && insL (items d) n
theorem fitsD_len : ∀ {vs : List PyData} {rs : List Str} {n : Int}, fitsD vs rs n = true → vs.length = rs.length
  | [], [], _, _ => rfl
  | _ :: _, [], _, h => nomatch h
  | [], _ :: _, _, h => nomatch h
  | v :: vs, r :: rs, n, h => by
    rw [fitsD, Bool.and_eq_true] at h
    rw [List.length_cons, List.length_cons, fitsD_len h.2]
theorem fitsD_ne {vs : List PyData} {rs : List Str} {n : Int} (h : vs.length ≠ rs.length) : fitsD vs rs n = false := by
  cases e : fitsD vs rs n with
  | false => rfl
  | true => exact absurd (fitsD_len e) h
theorem fitsD_iff {n : Int} : ∀ {vs : List PyData} {rs : List Str}, vs.length = rs.length → (fitsD vs rs n = true ↔ ∀ (i : Nat) v r, vs[i]? = some v → rs[i]? = some r → fitD v r n = true)
  | [], [], _ => ⟨fun _ i v r h => by simp at h, fun _ => rfl⟩
  | v :: vs, r :: rs, h => by
    have ih := fitsD_iff (n := n) (vs := vs) (rs := rs) (by simpa using h)
    rw [fitsD, Bool.and_eq_true, ih]
    constructor
    · rintro ⟨h1, h2⟩ i v' r' e1 e2
      cases i with
      | zero => simp at e1 e2; subst e1 e2; exact h1
      | succ i => exact h2 i v' r' (by simpa using e1) (by simpa using e2)
    · intro h
      exact ⟨h 0 v r rfl rfl, fun i v' r' e1 e2 => h (i + 1) v' r' (by simpa using e1) (by simpa using e2)⟩
  | [], _ :: _, h => by simp at h
  | _ :: _, [], h => by simp at h
theorem roles_len (n : Str) : (rolesF n).length ≤ 2 := by
  unfold rolesF
  repeat' split
  all_goals decide
/-- the first that does not hold p -/
def fb (p : PyData → Bool) (ds : List PyData) : Option Int := (ds.findIdx? fun d => !p d).map Int.ofNat
theorem fb_some {p : PyData → Bool} {ds : List PyData} {i : Nat} {d : PyData} (h : ds[i]? = some d) (b : p d = false) (a : ∀ (j : Nat) e, j < i → ds[j]? = some e → p e = true) : fb p ds = some (i : Int) := by
  unfold fb
  have : (ds.findIdx? fun d => !p d) = some i := by
    rw [List.findIdx?_eq_some_iff_getElem]
    obtain ⟨hi, e⟩ := List.getElem?_eq_some_iff.mp h
    refine ⟨hi, by rw [e, b]; rfl, fun j hj => ?_⟩
    have := a j ds[j] hj (List.getElem?_eq_getElem _)
    rw [this]; decide
  rw [this]; rfl
theorem fb_none {p : PyData → Bool} {ds : List PyData} (a : ∀ (j : Nat) e, ds[j]? = some e → p e = true) : fb p ds = none := by
  unfold fb
  have : (ds.findIdx? fun d => !p d) = none := by
    rw [List.findIdx?_eq_none_iff]
    intro d hd
    obtain ⟨j, hj⟩ := List.getElem?_of_mem hd
    rw [a j d hj]; rfl
  rw [this]; rfl
theorem fb_all {p : PyData → Bool} {ds : List PyData} (h : fb p ds = none) : ∀ d ∈ ds, p d = true := fun d hd => by
  unfold fb at h
  have q : (ds.findIdx? fun d => !p d) = none := by
    cases e : (ds.findIdx? fun d => !p d) with
    | none => rfl
    | some i => rw [e] at h; cases h
  rw [List.findIdx?_eq_none_iff] at q
  have := q d hd
  cases e : p d with
  | true => rfl
  | false => rw [e] at this; cases this
/-- tuple(d), a tuple of tuples -/
def tupD (d : PyData) : PyData := .tuple (items d)
def rowsD (d : PyData) : PyData := .tuple ((items d).map tupD)
def badLen (d : PyData) (lo hi : Nat) : Bool := !isRow d || !decide (lo ≤ (items d).length ∧ (items d).length ≤ hi)
def progF (d : PyData) : Option Int := if isRow d = false then some (-1) else if 4000 < (items d).length then some 4000 else fb (fun r => insD r (items d).length) (items d)
def progsF (d : PyData) : Option Int := if badLen d 1 6 = true then some (-1) else fb (fun p => isRow p && (progF p).isNone) (items d)
def progsV (d : PyData) : PyData := .tuple ((items d).map rowsD)
def turnB (n least : Int) (d : PyData) : Bool := isRow d && (match items d with | [a, b] => isBet a 0 (n - 1) && isBet b least 100000 | _ => false)
def tickD (d : PyData) : Int := match items d with
  | .int t :: _ => t | _ => 0
def ownsAll (ds : List PyData) (n : Int) : Bool := (List.range n.toNat).all fun p => decide ((p : Int) ∈ ds.map tickD)
def turnsF (d : PyData) (n least : Int) : Option Int := if badLen d 1 12 = true then some (-1) else match fb (turnB n least) (items d) with
  | some j => some j
  | none => if ownsAll (items d) n = true then none else some (-1)
def isNoneD : PyData → Bool
  | .none => true | _ => false
def quotasF (d : PyData) (n : Int) : Option Int := if isNoneD d = true then none else if isRow d = false ∨ ((items d).length : Int) ≠ n then some (-1) else fb (fun q => isBet q 0 8) (items d)
def quotasV (d : PyData) (n : Int) : PyData := if isNoneD d = true then .tuple (List.replicate n.toNat (.int 0)) else tupD d
def dataB (d : PyData) : Bool := isRow d && decide ((items d).length ≤ 64) && (items d).all isWordD
def dataF (d : PyData) (n : Int) : Option Int := if isNoneD d = true then none else if isRow d = false ∨ ((items d).length : Int) ≠ n then some (-1) else fb dataB (items d)
def dataV (d : PyData) (n : Int) : PyData := if isNoneD d = true then .tuple (List.replicate n.toNat (.tuple [])) else rowsD d
def linesF (d : PyData) (bells : Int) : Option Int := if badLen d 0 4 = true then some (-1) else fb (fun q => isBet q 0 (bells - 1)) (items d)
def freeP (n slots windows : Int) : Int := n * slots + n * windows + 1
/-! ### raises -/
def pairB (lo nl : Int) (d : PyData) : Bool := isRow d && (match items d with | [a, b] => isBet a lo 10000000000 && isBet b 0 (nl - 1) | _ => false)
def raisesGo (nl : Int) : List PyData → Int → Nat → Option Int
  | [], _, _ => none
  | d :: ds, lo, i => if pairB lo nl d = true then raisesGo nl ds (tickD d) (i + 1) else some (i : Int)
def raisesF (d : PyData) (nl : Int) : Option Int := if badLen d 0 200 = true then some (-1) else raisesGo nl (items d) 0 0
/-! ### a setup -/
structure SD where
  (programs turns rights quotas data lines : PyData)
  (n slots windows pages ports bells : Int)
theorem isI_E {d : PyData} (h : isI d = true) : ∃ i, d = .int i := by cases d <;> first | exact ⟨_, rfl⟩ | cases h
theorem isS_E {d : PyData} (h : isS d = true) : ∃ i, d = .str i := by cases d <;> first | exact ⟨_, rfl⟩ | cases h
theorem isBet_E {d : PyData} {lo hi : Int} (h : isBet d lo hi = true) : ∃ i, d = .int i ∧ lo ≤ i ∧ i ≤ hi := by
  cases d with
  | int i => exact ⟨i, rfl, of_decide_eq_true h⟩
  | _ => cases h
theorem fitD_noL {d : PyData} {r : Str} {n : Int} (h : fitD d r n = true) : noL d = true := by
  unfold fitD at h
  cases d with
  | list ds => split at h <;> cases h
  | tuple ds => split at h <;> cases h
  | _ => rw [noL] <;> (intro _ z; cases z)
theorem fitsD_noL : ∀ {ds : List PyData} {rs : List Str} {n : Int}, fitsD ds rs n = true → noLs ds = true
  | [], _, _, _ => by rw [noLs]
  | d :: ds, [], _, h => nomatch h
  | d :: ds, r :: rs, n, h => by
    rw [fitsD, Bool.and_eq_true] at h
    rw [noLs, fitD_noL h.1, fitsD_noL h.2]; rfl
theorem insL_noL {ds : List PyData} {n : Int} (h : insL ds n = true) : noLs ds = true := by
  cases ds with
  | nil => cases h
  | cons d ds =>
    cases d with
    | str nm =>
      have q : (decide (nm ∈ names9) && fitsD ds (rolesF nm) n) = true := h
      rw [noLs, fitsD_noL ((Bool.and_eq_true _ _).mp q).2]
      rw [noL] <;> first | rfl | (intro _ z; cases z)
    | _ => cases h
theorem inV_str (l : Str) (us : List Str) : inV (.str l) (us.map V.str) = decide (l ∈ us) := by
  rw [Bool.eq_iff_iff, decide_eq_true_eq]
  unfold inV
  rw [List.any_map, List.any_eq_true]
  constructor
  · rintro ⟨x, hx, e⟩
    have : l = x ∨ x = l := by
      have e' : (x == l) = true ∨ (l == x) = true := by first | exact .inl e | exact .inr e
      rcases e' with q | q
      · exact .inr (by simpa using q)
      · exact .inl (by simpa using q)
    rcases this with rfl | rfl <;> exact hx
  · intro h
    exact ⟨l, h, by show (l == l) = true; simp⟩
theorem noLs_all : ∀ {ds : List PyData}, (∀ d ∈ ds, noL d = true) → noLs ds = true
  | [], _ => by rw [noLs]
  | d :: ds, h => by
    rw [noLs, h d (List.mem_cons_self ..), noLs_all fun x m => h x (List.mem_cons_of_mem _ m)]; rfl
theorem rowsD_noL {p : PyData} (h : progF p = none) : noL (rowsD p) = true := by
  unfold rowsD
  rw [noL]
  refine noLs_all fun d hd => ?_
  obtain ⟨r, hr, rfl⟩ := List.mem_map.mp hd
  unfold progF at h
  split at h
  · cases h
  · split at h
    · cases h
    · have hb := fb_all h r hr
      unfold tupD
      rw [noL]
      exact insL_noL ((Bool.and_eq_true _ _).mp hb).2
theorem words_noL {ds : List PyData} (h : ds.all isWordD = true) : noLs ds = true := noLs_all fun d hd => by
  have := List.all_eq_true.mp h d hd
  cases d <;> first | (cases this; done) | (rw [noL] <;> (intro _ z; cases z))
theorem bets_noL {ds : List PyData} {lo hi : Int} (h : ∀ d ∈ ds, isBet d lo hi = true) : noLs ds = true := noLs_all fun d hd => by
  have := h d hd
  cases d <;> first | (cases this; done) | (rw [noL] <;> (intro _ z; cases z))
theorem badLen_R {d : PyData} {lo hi : Nat} (h : isRow d = false) : badLen d lo hi = true := by unfold badLen; rw [h]; rfl
theorem badLen_T {d : PyData} {lo hi : Nat} (h : ¬(lo ≤ (items d).length ∧ (items d).length ≤ hi)) : badLen d lo hi = true := by
  unfold badLen
  rw [decide_eq_false h, Bool.not_false, Bool.or_true]
theorem badLen_F {d : PyData} {lo hi : Nat} (r : isRow d = true) (h : lo ≤ (items d).length ∧ (items d).length ≤ hi) : badLen d lo hi = false := by
  unfold badLen
  rw [decide_eq_true h, r]; rfl
theorem progF_len {p : PyData} (h : progF p = none) : (items p).length ≤ 4000 := by
  unfold progF at h
  split at h
  · cases h
  · split at h
    · cases h
    · omega
theorem turnB_R {d : PyData} {n least : Int} (h : isRow d = false) : turnB n least d = false := by unfold turnB; rw [h]; rfl
theorem turnB_2 {d x y : PyData} {n least : Int} (r : isRow d = true) (h : items d = [x, y]) : turnB n least d = (isBet x 0 (n - 1) && isBet y least 100000) := by unfold turnB; rw [r, h]; rfl
theorem turnB_L {d : PyData} {n least : Int} (h : (items d).length ≠ 2) : turnB n least d = false := by
  unfold turnB
  match items d, h with
  | [], _ => exact Bool.and_false _
  | [_], _ => exact Bool.and_false _
  | [_, _], h => exact absurd rfl h
  | _ :: _ :: _ :: _, _ => exact Bool.and_false _
theorem pairB_R {d : PyData} {n least : Int} (h : isRow d = false) : pairB n least d = false := by unfold pairB; rw [h]; rfl
theorem pairB_2 {d x y : PyData} {lo nl : Int} (r : isRow d = true) (h : items d = [x, y]) : pairB lo nl d = (isBet x lo 10000000000 && isBet y 0 (nl - 1)) := by unfold pairB; rw [r, h]; rfl
theorem pairB_L {d : PyData} {lo nl : Int} (h : (items d).length ≠ 2) : pairB lo nl d = false := by
  unfold pairB
  match items d, h with
  | [], _ => exact Bool.and_false _
  | [_], _ => exact Bool.and_false _
  | [_, _], h => exact absurd rfl h
  | _ :: _ :: _ :: _, _ => exact Bool.and_false _
theorem two_of {α : Type} {xs : List α} (h : xs.length = 2) : ∃ x y, xs = [x, y] := by
  match xs, h with
  | [x, y], _ => exact ⟨x, y, rfl⟩
theorem _root_.Lw.DWs.two {K : PySem.W.Frag} {W : Wd} {H : Hp} {x y : V} {ds : List PyData} (h : DWs K W H [x, y] ds) : ∃ d e, ds = [d, e] ∧ DW K W H x d ∧ DW K W H y e := by
  cases h with
  | cons a t =>
    cases t with
    | cons b t =>
      cases t with
      | nil => exact ⟨_, _, rfl, a, b⟩
theorem flat_is : ∀ us : List Int, (us.map V.int).all flatV = true
  | [] => rfl
  | u :: us => by rw [List.map_cons, List.all_cons, flat_is us]; rfl
theorem inV_int (l : Int) (us : List Int) : inV (.int l) (us.map V.int) = decide (l ∈ us) := by
  rw [Bool.eq_iff_iff, decide_eq_true_eq]
  unfold inV
  rw [List.any_map, List.any_eq_true]
  constructor
  · rintro ⟨x, hx, e⟩
    have : l = x ∨ x = l := by
      have e' : (x == l) = true ∨ (l == x) = true := by first | exact .inl e | exact .inr e
      rcases e' with q | q
      · exact .inr (by simpa using q)
      · exact .inl (by simpa using q)
    rcases this with rfl | rfl <;> exact hx
  · intro h
    exact ⟨l, h, by show (l == l) = true; simp⟩
theorem turnB_E {d : PyData} {n least : Int} (h : turnB n least d = true) : isRow d = true ∧ ∃ p b, items d = [.int p, .int b] := by
  unfold turnB at h
  rw [Bool.and_eq_true] at h
  refine ⟨h.1, ?_⟩
  have h := h.2
  split at h
  · rename_i a b e
    rw [Bool.and_eq_true] at h
    obtain ⟨p, rfl, _⟩ := isBet_E h.1
    obtain ⟨q, rfl, _⟩ := isBet_E h.2
    exact ⟨p, q, e⟩
  · cases h
theorem pairB_E {d : PyData} {lo nl : Int} (h : pairB lo nl d = true) : isRow d = true ∧ ∃ p b, items d = [.int p, .int b] := by
  unfold pairB at h
  rw [Bool.and_eq_true] at h
  refine ⟨h.1, ?_⟩
  have h := h.2
  split at h
  · rename_i a b e
    rw [Bool.and_eq_true] at h
    obtain ⟨p, rfl, _⟩ := isBet_E h.1
    obtain ⟨q, rfl, _⟩ := isBet_E h.2
    exact ⟨p, q, e⟩
  · cases h
theorem noL_int (i : Int) : noL (.int i) = true := by rw [noL] <;> (intro _ z; cases z)
theorem noLs_2 {ds : List PyData} {p b : Int} (h : ds = [.int p, .int b]) : noLs ds = true := by
  subst h
  exact noLs_all fun d hd => by
    rcases List.mem_cons.mp hd with rfl | hd
    · exact noL_int _
    · rw [List.mem_singleton.mp hd]; exact noL_int _
theorem tickD_2 {d : PyData} {p b : Int} (h : items d = [.int p, .int b]) : tickD d = p := by unfold tickD; rw [h]
theorem ownsAll_F {ds : List PyData} {n : Int} {p : Nat} (hp : p < n.toNat) (h : (p : Int) ∉ ds.map tickD) : ownsAll ds n = false := by
  unfold ownsAll
  rw [List.all_eq_false]
  exact ⟨p, List.mem_range.mpr hp, by rw [decide_eq_false h]; decide⟩
theorem ownsAll_T {ds : List PyData} {n : Int} (h : ∀ p : Nat, p < n.toNat → (p : Int) ∈ ds.map tickD) : ownsAll ds n = true := by
  unfold ownsAll
  rw [List.all_eq_true]
  exact fun p hp => decide_eq_true (h p (List.mem_range.mp hp))
theorem dataB_R {d : PyData} (h : isRow d = false) : dataB d = false := by unfold dataB; rw [h]; rfl
theorem dataB_L {d : PyData} (h : 64 < (items d).length) : dataB d = false := by unfold dataB; rw [decide_eq_false (by omega), Bool.and_false]; rfl
theorem dataB_T {d : PyData} (r : isRow d = true) (h : (items d).length ≤ 64) : dataB d = (items d).all isWordD := by unfold dataB; rw [decide_eq_true h, r]; rfl
theorem dataB_E {d : PyData} (h : dataB d = true) : isRow d = true ∧ noLs (items d) = true := by
  unfold dataB at h
  rw [Bool.and_eq_true, Bool.and_eq_true] at h
  exact ⟨h.1.1, words_noL h.2⟩
theorem isNoneD_E {d : PyData} (h : isNoneD d = true) : d = .none := by cases d <;> first | rfl | cases h
theorem _root_.Lw.DW.ne_non {K : PySem.W.Frag} {W : Wd} {H : Hp} {v : V} {d : PyData} (h : DW K W H v d) (n : isNoneD d = false) : v ≠ .non := by
  intro z
  subst z
  cases h
  cases n
theorem raisesGo_step {nl lo : Int} {ds : List PyData} {d : PyData} {i : Nat} (h : ds[i]? = some d) : raisesGo nl (ds.drop i) lo i = if pairB lo nl d = true then raisesGo nl (ds.drop (i + 1)) (tickD d) (i + 1) else some (i : Int) := by
  obtain ⟨hi, e⟩ := List.getElem?_eq_some_iff.mp h
  rw [List.drop_eq_getElem_cons hi, e, raisesGo]
theorem progsF_len {d : PyData} (h : progsF d = none) : 1 ≤ (items d).length ∧ (items d).length ≤ 6 := by
  unfold progsF at h
  split at h
  · cases h
  · rename_i b
    by_cases q : 1 ≤ (items d).length ∧ (items d).length ≤ 6
    · exact q
    · exact absurd (badLen_T q) b
def intD : PyData → Int
  | .int i => i | _ => 0
def numF (d : PyData) (lo hi : Int) : Option Int := if isBet d lo hi = true then none else some (-1)
theorem numF_none {d : PyData} {lo hi : Int} (h : numF d lo hi = none) : isBet d lo hi = true := by
  unfold numF at h
  split at h
  · assumption
  · cases h
theorem betE {K : PySem.W.Frag} {W : Wd} {H : Hp} {v : V} {d : PyData} {lo hi : Int} (h : DW K W H v d) (b : isBet d lo hi = true) : v = .int (intD d) := by
  obtain ⟨i, rfl, _⟩ := isBet_E b
  exact h.intE

/-! ### rights, plainly -/
structure Cnt where
  (n slots pages ports bells lines : Int)
def kindsL (c : Cnt) : List (Str × Int) := [("page", c.pages), ("port", c.ports), ("bell", c.bells), ("line", c.lines), ("process", c.n)]
def countOf : List (Str × Int) → Str → Option Int
  | [], _ => none
  | (k, m) :: r, s => if k = s then some m else countOf r s
def thingW (c : Cnt) (w : PyData) (i : Int) : Bool := match w with
  | .str s => (match countOf (kindsL c) s with | some m => decide (0 ≤ i ∧ i < m) | none => false)
  | _ => false
def thingL (c : Cnt) (ds : List PyData) : Bool := match ds with
  | [w, .int i] => thingW c w i
  | _ => false
def isThingD (c : Cnt) (d : PyData) : Bool := isT d && thingL c (items d)
def lettersL : List (Str × Str) := [("page", "rw"), ("claim", "rw"), ("port", "sgt"), ("bell", "ka"), ("line", "y"), ("process", "ix")]
def lettersOf (k : Str) : Option Str := lettersL.lookup k
def orderGo (ls : Str) : List Nat → Int → Bool
  | [], _ => true
  | c :: cs, pl => if Txt.find ls ⟨#[c]⟩ ≤ pl then false else orderGo ls cs (Txt.find ls ⟨#[c]⟩)
def inOrderL (ls : Str) (d : PyData) : Bool := match d with
  | .str l => decide (l ≠ "") && orderGo ls l.cps.toList (-1)
  | _ => false
def inOrderF (k : Str) (d : PyData) : Bool := match lettersOf k with
  | none => false
  | some ls => inOrderL ls d
def kindOfF (s : Str) : Str := if s = "claim" then "page" else s
def nth (d : PyData) (i : Nat) : PyData := ((items d)[i]?).getD .none
def strD : PyData → Str
  | .str s => s | _ => ""
def rowParts (c : Cnt) (ds : List PyData) : Bool := match ds with
  | [p, s, th, l, _] => isBet p 0 (c.n - 1) && isBet s 0 (c.slots - 1) && isRow th && isThingD c (tupD th) && inOrderF (kindOfF (strD (nth th 0))) l
  | _ => false
def rowOk (c : Cnt) (d : PyData) : Bool := isRow d && rowParts c (items d)
def rowV (d : PyData) : PyData := .tuple [nth d 0, nth d 1, tupD (nth d 2), nth d 3, nth d 4]
/-- the letters of a stand in b -/
def lettersIn (a b : PyData) : Bool := (strD a).cps.toList.all fun c => decide (c ∈ (strD b).cps.toList)
def aboveOk (row above : PyData) : Bool := PyData.eqv (nth above 2) (nth row 2) && lettersIn (nth row 3) (nth above 3)
def parentOk (row : PyData) (rows : List PyData) : Bool := isNoneD (nth row 4) || (isBet (nth row 4) 0 (rows.length - 1) && (match rows[(intD (nth row 4)).toNat]? with
  | some ab => aboveOk row ab | none => false))
def place (d : PyData) : Int × Int := (intD (nth d 0), intD (nth d 1))
def rightsGo (c : Cnt) : List PyData → List PyData → List (Int × Int) → Nat → Option Int
  | [], _, _, _ => none
  | d :: ds, rows, used, i => if rowOk c d = true ∧ place d ∉ used ∧ parentOk (rowV d) rows = true then rightsGo c ds (rows ++ [rowV d]) (used ++ [place d]) (i + 1) else some (i : Int)
def rightsF (c : Cnt) (d : PyData) : Option Int := if isRow d = false then some (-1) else rightsGo c (items d) [] [] 0
def rightsV (d : PyData) : PyData := .tuple ((items d).map rowV)
theorem rightsGo_step {c : Cnt} {ds : List PyData} {d : PyData} {i : Nat} {rows : List PyData} {used : List (Int × Int)} (h : ds[i]? = some d) :
    rightsGo c (ds.drop i) rows used i = if rowOk c d = true ∧ place d ∉ used ∧ parentOk (rowV d) rows = true then rightsGo c (ds.drop (i + 1)) (rows ++ [rowV d]) (used ++ [place d]) (i + 1) else some (i : Int) := by
  obtain ⟨hi, e⟩ := List.getElem?_eq_some_iff.mp h
  rw [List.drop_eq_getElem_cons hi, e, rightsGo]
theorem rowOk_R {c : Cnt} {d : PyData} (h : isRow d = false) : rowOk c d = false := by unfold rowOk; rw [h]; rfl
theorem rowOk_L {c : Cnt} {d : PyData} (h : (items d).length ≠ 5) : rowOk c d = false := by
  unfold rowOk
  match items d, h with
  | [], _ => exact Bool.and_false _
  | [_], _ => exact Bool.and_false _
  | [_, _], _ => exact Bool.and_false _
  | [_, _, _], _ => exact Bool.and_false _
  | [_, _, _, _], _ => exact Bool.and_false _
  | [_, _, _, _, _], h => exact absurd rfl h
  | _ :: _ :: _ :: _ :: _ :: _ :: _, _ => exact Bool.and_false _
theorem rowOk_5 {c : Cnt} {d p s th l par : PyData} (r : isRow d = true) (h : items d = [p, s, th, l, par]) :
    rowOk c d = (isBet p 0 (c.n - 1) && isBet s 0 (c.slots - 1) && isRow th && isThingD c (tupD th) && inOrderF (kindOfF (strD (nth th 0))) l) := by unfold rowOk; rw [r, h]; rfl
theorem five_of {α : Type} {xs : List α} (h : xs.length = 5) : ∃ a b c d e, xs = [a, b, c, d, e] := by
  match xs, h with
  | [a, b, c, d, e], _ => exact ⟨a, b, c, d, e, rfl⟩
theorem rowV_5 {d p s th l par : PyData} (h : items d = [p, s, th, l, par]) : rowV d = .tuple [p, s, tupD th, l, par] := by unfold rowV nth; rw [h]; rfl
theorem thing_E {c : Cnt} {d : PyData} (h : isThingD c d = true) : ∃ s i m, items d = [.str s, .int i] ∧ countOf (kindsL c) s = some m ∧ 0 ≤ i ∧ i < m := by
  unfold isThingD at h
  rw [Bool.and_eq_true] at h
  have h := h.2
  unfold thingL at h
  split at h
  · rename_i w i e
    unfold thingW at h
    split at h
    · rename_i s
      split at h
      · rename_i m hm
        have := of_decide_eq_true h
        exact ⟨s, i, m, e, hm, this.1, this.2⟩
      · cases h
    · cases h
  · cases h
theorem inOrder_E {k : Str} {d : PyData} (h : inOrderF k d = true) : ∃ l, d = .str l := by
  unfold inOrderF at h
  split at h
  · cases h
  · unfold inOrderL at h
    split at h
    · exact ⟨_, rfl⟩
    · cases h
theorem inOrder_none {s : Str} {d : PyData} (h : (lettersOf s).isSome = false) : inOrderF s d = false := by
  unfold inOrderF
  cases e : lettersOf s with
  | none => rfl
  | some ls => rw [e] at h; cases h
theorem inOrder_some {s ls : Str} {d : PyData} (h : lettersOf s = some ls) : inOrderF s d = inOrderL ls d := by unfold inOrderF; rw [h]
theorem inOrderL_S {ls : Str} {d : PyData} (h : isS d = false) : inOrderL ls d = false := by cases d <;> first | rfl | cases h
theorem inOrderL_0 {ls l : Str} (h : l = "") : inOrderL ls (.str l) = false := by
  show (decide (l ≠ "") && _) = false
  rw [decide_eq_false fun z => z h]; rfl
theorem inOrderL_1 {ls l : Str} (h : ¬ l = "") : inOrderL ls (.str l) = orderGo ls l.cps.toList (-1) := by
  show (decide (l ≠ "") && _) = _
  rw [decide_eq_true h]; rfl
theorem order_step {ls l : Str} {i c : Nat} {pl : Int} (h : l.cps[i]? = some c) : orderGo ls (l.cps.toList.drop i) pl = if Txt.find ls ⟨#[c]⟩ ≤ pl then false else orderGo ls (l.cps.toList.drop (i + 1)) (Txt.find ls ⟨#[c]⟩) := by
  have h2 : l.cps.toList[i]? = some c := by rw [← h]; simp
  obtain ⟨hi, e⟩ := List.getElem?_eq_some_iff.mp h2
  rw [List.drop_eq_getElem_cons hi, e, orderGo]
theorem isT_E {d : PyData} (h : isT d = true) : ∃ ds, d = .tuple ds := by cases d <;> first | exact ⟨_, rfl⟩ | cases h
theorem isThing_T {c : Cnt} {d : PyData} (h : isT d = false) : isThingD c d = false := by unfold isThingD; rw [h]; rfl
theorem isThing_L {c : Cnt} {ds : List PyData} (h : ds.length ≠ 2) : isThingD c (.tuple ds) = false := by
  show (true && thingL c ds) = false
  rw [Bool.true_and]
  unfold thingL
  split
  · exact absurd rfl h
  · rfl
theorem isThing_I {c : Cnt} {x y : PyData} (h : isI y = false) : isThingD c (.tuple [x, y]) = false := by
  show (true && thingL c [x, y]) = false
  cases y <;> first | rfl | cases h
/-- the walk over the kinds -/
def thingK : List (Str × Int) → PyData → Int → Bool
  | [], _, _ => false
  | (k, m) :: r, w, i => if PyData.eqv (.str k) w = true then decide (0 ≤ i ∧ i < m) else thingK r w i
theorem eqv_strN {k : Str} {w : PyData} (h : ∀ s, w ≠ .str s) : PyData.eqv (.str k) w = false := by
  cases w with
  | str s => exact absurd rfl (h s)
  | _ => rw [PyData.eqv]
theorem eqv_strS {k s : Str} : PyData.eqv (.str k) (.str s) = decide (k = s) := by
  rw [PyData.eqv]
  by_cases h : k = s
  · subst h; simp
  · rw [decide_eq_false h]; simpa using h
theorem thingK_S {s : Str} {i : Int} : ∀ l : List (Str × Int), thingK l (.str s) i = match countOf l s with | some m => decide (0 ≤ i ∧ i < m) | none => false
  | [] => rfl
  | (k, m) :: r => by
    rw [thingK, countOf, eqv_strS]
    by_cases h : k = s
    · rw [decide_eq_true h, if_pos rfl, if_pos h]
    · rw [decide_eq_false h, if_neg (by decide), if_neg h, thingK_S r]
theorem thingK_N {w : PyData} {i : Int} (h : ∀ s, w ≠ .str s) : ∀ l : List (Str × Int), thingK l w i = false
  | [] => rfl
  | (k, m) :: r => by rw [thingK, eqv_strN h, if_neg (by decide), thingK_N h r]
theorem isThing_K {c : Cnt} {w : PyData} {i : Int} : isThingD c (.tuple [w, .int i]) = thingK (kindsL c) w i := by
  show (true && thingL c [w, .int i]) = _
  rw [Bool.true_and]
  show thingW c w i = _
  cases w with
  | str s => rw [thingK_S]; rfl
  | _ => rw [thingK_N (fun s z => by cases z)]; rfl
theorem thingK_step {l : List (Str × Int)} {w : PyData} {i m : Int} {n : Nat} {k : Str} (h : l[n]? = some (k, m)) : thingK (l.drop n) w i = if PyData.eqv (.str k) w = true then decide (0 ≤ i ∧ i < m) else thingK (l.drop (n + 1)) w i := by
  obtain ⟨hi, e⟩ := List.getElem?_eq_some_iff.mp h
  rw [List.drop_eq_getElem_cons hi, e, thingK]
theorem letters_six {s ls : Str} (h : lettersOf s = some ls) : (s = "page" ∧ ls = "rw") ∨ (s = "claim" ∧ ls = "rw") ∨ (s = "port" ∧ ls = "sgt") ∨ (s = "bell" ∧ ls = "ka") ∨ (s = "line" ∧ ls = "y") ∨ (s = "process" ∧ ls = "ix") := by
  unfold lettersOf lettersL at h
  simp only [List.lookup] at h
  repeat' split at h
  all_goals first
    | (cases h; done)
    | (rename_i e; have e := eq_of_beq e; subst e; cases h; simp)
theorem letters_no {s : Str} (h : lettersOf s = none) : s ∉ (["page", "claim", "port", "bell", "line", "process"] : List Str) := fun m => by
  simp only [List.mem_cons, List.not_mem_nil, or_false] at m
  rcases m with rfl | rfl | rfl | rfl | rfl | rfl <;> exact absurd h (by decide +kernel)
theorem kind_shaped {c : Cnt} {n : Nat} {k : Str} {m : Int} (h : (kindsL c)[n]? = some (k, m)) : SeqAt.shaped (.str k) = true := by
  have q := List.mem_of_getElem? h
  unfold kindsL at q
  simp only [List.mem_cons, List.not_mem_nil, or_false, Prod.mk.injEq] at q
  rcases q with ⟨rfl, _⟩ | ⟨rfl, _⟩ | ⟨rfl, _⟩ | ⟨rfl, _⟩ | ⟨rfl, _⟩ <;> decide +kernel
def canR (d : PyData) : Prop := PyData.canLay0 d = true ∧ PyData.depth d ≤ 60
theorem can_shaped {d : PyData} (h : canR d) : SeqAt.shaped d = true := by
  unfold SeqAt.shaped
  rw [h.1, decide_eq_true (Nat.le_trans h.2 (by decide))]; rfl
theorem canL {ds : List PyData} (h : PyData.canLayAll0 ds = true) (h2 : PyData.depthAll ds ≤ 60) : ∀ d ∈ ds, canR d := by
  induction ds with
  | nil => exact fun _ m => nomatch m
  | cons x xs ih =>
    rw [PyData.canLayAll0, Bool.and_eq_true] at h
    rw [PyData.depthAll] at h2
    intro d m
    rcases List.mem_cons.mp m with rfl | m
    · exact ⟨h.1, by omega⟩
    · exact ih h.2 (by omega) d m
theorem can_items {d : PyData} (r : isRow d = true) (h : canR d) : ∀ x ∈ items d, canR x := by
  cases d with
  | list ds => exact canL (by have := h.1; rw [PyData.canLay0] at this; exact this) (by have := h.2; rw [PyData.depth] at this; exact Nat.le_of_succ_le this)
  | tuple ds => exact canL (by have := h.1; rw [PyData.canLay0] at this; exact this) (by have := h.2; rw [PyData.depth] at this; exact Nat.le_of_succ_le this)
  | _ => cases r
theorem can_fst {x y : PyData} (h : canR (.tuple [x, y])) : canR x := can_items (d := .tuple [x, y]) rfl h x (List.mem_cons_self ..)
theorem can_five {d a b c e f : PyData} (r : isRow d = true) (h : canR d) (hd : items d = [a, b, c, e, f]) : canR a ∧ canR b ∧ canR c ∧ canR e ∧ canR f := by
  have q := can_items r h
  rw [hd] at q
  exact ⟨q a (by simp), q b (by simp), q c (by simp), q e (by simp), q f (by simp)⟩
theorem can_tup {d : PyData} (r : isRow d = true) (h : canR d) : canR (tupD d) := by
  cases d with
  | list ds =>
    obtain ⟨h1, h2⟩ := h
    rw [PyData.canLay0] at h1
    rw [PyData.depth] at h2
    unfold tupD
    exact ⟨by rw [PyData.canLay0]; exact h1, by rw [PyData.depth]; exact h2⟩
  | tuple ds => exact h
  | _ => cases r
theorem _root_.Lw.DWs.five {K : PySem.W.Frag} {W : Wd} {H : Hp} {a b c d e : V} {ds : List PyData} (h : DWs K W H [a, b, c, d, e] ds) : ∃ p q r s t, ds = [p, q, r, s, t] ∧ DW K W H a p ∧ DW K W H b q ∧ DW K W H c r ∧ DW K W H d s ∧ DW K W H e t := by
  cases h with
  | cons h1 h => cases h with
    | cons h2 h => cases h with
      | cons h3 h => cases h with
        | cons h4 h => cases h with
          | cons h5 h => cases h with
            | nil => exact ⟨_, _, _, _, _, rfl, h1, h2, h3, h4, h5⟩
/-- a row of rights that may be asked -/
def canW (d : PyData) : Prop := canR d ∧ (strD (nth d 3)).cps.size ≤ 50000
theorem at_l1' {a b : V} {xs : List V} : atI (a :: b :: xs) 1 = some b := at_in (by decide) rfl
theorem at_l2' {a b c : V} {xs : List V} : atI (a :: b :: c :: xs) 2 = some c := at_in (by decide) rfl
theorem at_l3' {a b c d : V} {xs : List V} : atI (a :: b :: c :: d :: xs) 3 = some d := at_in (by decide) rfl
theorem at_l4' {a b c d e : V} {xs : List V} : atI (a :: b :: c :: d :: e :: xs) 4 = some e := at_in (by decide) rfl
theorem count_five {c : Cnt} {s : Str} {m : Int} (h : countOf (kindsL c) s = some m) : s = "page" ∨ s = "port" ∨ s = "bell" ∨ s = "line" ∨ s = "process" := by
  unfold kindsL at h
  simp only [countOf] at h
  repeat' split at h
  all_goals first
    | (cases h; done)
    | (rename_i e; subst e; simp)
theorem thing_shaped {c : Cnt} {d : PyData} (h : isThingD c (tupD d) = true) : SeqAt.shaped (tupD d) = true ∧ noL (tupD d) = true ∧ canR (tupD d) := by
  obtain ⟨s, i, m, e, hm, _⟩ := thing_E h
  have e2 : tupD d = .tuple [.str s, .int i] := by
    have e3 : items d = [.str s, .int i] := e
    unfold tupD
    rw [e3]
  have hs : PyData.canLay0 (.str s) = true := by rcases count_five hm with rfl | rfl | rfl | rfl | rfl <;> decide +kernel
  have cr : canR (tupD d) := by
    rw [e2]
    exact ⟨by rw [PyData.canLay0, PyData.canLayAll0, hs]; rfl, by show max 0 (max 0 0) + 1 ≤ 60; decide⟩
  refine ⟨can_shaped cr, ?_, cr⟩
  rw [e2, noL]
  refine noLs_all fun x hx => ?_
  rcases List.mem_cons.mp hx with rfl | hx
  · rw [noL] <;> (intro _ z; cases z)
  · rw [List.mem_singleton.mp hx]; exact noL_int _
/-- what a right row is made of -/
theorem row_E {c : Cnt} {d : PyData} (h : rowOk c d = true) : ∃ th lw par, items d = [.int (place d).1, .int (place d).2, th, .str lw, par] ∧ isThingD c (tupD th) = true := by
  unfold rowOk at h
  rw [Bool.and_eq_true] at h
  have h := h.2
  unfold rowParts at h
  split at h
  · rename_i p s th l par e
    simp only [Bool.and_eq_true] at h
    obtain ⟨⟨⟨⟨h1, h2⟩, h3⟩, h4⟩, h5⟩ := h
    obtain ⟨i, rfl, _⟩ := isBet_E h1
    obtain ⟨j, rfl, _⟩ := isBet_E h2
    obtain ⟨lw, rfl⟩ := inOrder_E h5
    refine ⟨th, lw, par, ?_, h4⟩
    rw [e]
    unfold place nth
    rw [e]; rfl
  · cases h
theorem parent_N {row : PyData} {rows : List PyData} (h : isNoneD (nth row 4) = true) : parentOk row rows = true := by unfold parentOk; rw [h]; rfl
theorem parent_B {row : PyData} {rows : List PyData} (h : isNoneD (nth row 4) = false) (b : isBet (nth row 4) 0 (rows.length - 1) = false) : parentOk row rows = false := by unfold parentOk; rw [h, b]; rfl
theorem parent_A {row ab : PyData} {rows : List PyData} (h : isNoneD (nth row 4) = false) (b : isBet (nth row 4) 0 (rows.length - 1) = true) (e : rows[(intD (nth row 4)).toNat]? = some ab) : parentOk row rows = aboveOk row ab := by
  unfold parentOk
  rw [h, b, e]; rfl

/-! ### promises of the setup's defs -/
def sp_is_integer (K : PySem.W.Frag) : Sp := fun vs H Q _ => ∃ (W : Wd) (v : V) (d : PyData), vs = [v] ∧ DW K W H v d ∧ Q (.bl (isI d)) H
theorem cl_is_integer {K : PySem.W.Frag} {W : Wd} {v : V} {d : PyData} {H : Hp} {Q : VK} {E : XK} (h : DW K W H v d) (k : Q (.bl (isI d)) H) : sp_is_integer K ([v] ++ []) H Q E := ⟨W, v, d, rfl, h, k⟩
def sp_is_word (K : PySem.W.Frag) : Sp := fun vs H Q _ => ∃ (W : Wd) (v : V) (d : PyData), vs = [v] ∧ DW K W H v d ∧ Q (.bl (isWordD d)) H
theorem cl_is_word {K : PySem.W.Frag} {W : Wd} {v : V} {d : PyData} {H : Hp} {Q : VK} {E : XK} (h : DW K W H v d) (k : Q (.bl (isWordD d)) H) : sp_is_word K ([v] ++ []) H Q E := ⟨W, v, d, rfl, h, k⟩
def sp_is_row (K : PySem.W.Frag) : Sp := fun vs H Q _ => ∃ (W : Wd) (v : V) (d : PyData), vs = [v] ∧ W.iv H ∧ DW K W H v d ∧ ∀ H', Ex W H H' → Q (.bl (isRow d)) H'
theorem cl_is_row {K : PySem.W.Frag} {W : Wd} {v : V} {d : PyData} {H : Hp} {Q : VK} {E : XK} (i : W.iv H) (h : DW K W H v d) (k : ∀ H', Ex W H H' → Q (.bl (isRow d)) H') : sp_is_row K ([v] ++ []) H Q E := ⟨W, v, d, rfl, i, h, k⟩
def sp_bound : Sp := fun vs H Q _ => ∃ r n, vs = [.str r, .int n] ∧ Q (.int (boundF r n)) H
theorem cl_bound {r : Str} {n : Int} {H : Hp} {Q : VK} {E : XK} (k : Q (.int (boundF r n)) H) : sp_bound ([.str r, .int n] ++ []) H Q E := ⟨r, n, rfl, k⟩
def sp_fits (K : PySem.W.Frag) : Sp := fun vs H Q _ => ∃ (W : Wd) (v : V) (d : PyData) (r : Str) (n : Int), vs = [v, .str r, .int n] ∧ DW K W H v d ∧ Q (.bl (fitD d r n)) H
theorem cl_fits {K : PySem.W.Frag} {W : Wd} {v : V} {d : PyData} {r : Str} {n : Int} {H : Hp} {Q : VK} {E : XK} (h : DW K W H v d) (k : Q (.bl (fitD d r n)) H) : sp_fits K ([v, .str r, .int n] ++ []) H Q E := ⟨W, v, d, r, n, rfl, h, k⟩
def sp_is_instruction (K : PySem.W.Frag) : Sp := fun vs H Q _ => ∃ (W : Wd) (v : V) (d : PyData) (n : Int), vs = [v, .int n] ∧ W.iv H ∧ DW K W H v d ∧ ∀ H', Ex W H H' → Q (.bl (insD d n)) H'
theorem cl_is_instruction {K : PySem.W.Frag} {W : Wd} {v : V} {d : PyData} {n : Int} {H : Hp} {Q : VK} {E : XK} (i : W.iv H) (h : DW K W H v d) (k : ∀ H', Ex W H H' → Q (.bl (insD d n)) H') : sp_is_instruction K ([v, .int n] ++ []) H Q E := ⟨W, v, d, n, rfl, i, h, k⟩
def sp_check_program (K : PySem.W.Frag) (C : Addr) : Sp := fun vs H Q E => ∃ (W : Wd) (v : V) (d : PyData), vs = [v] ∧ W.iv H ∧ DW K W H v d ∧ (items d).length ≤ 40000 ∧
  (∀ j, progF d = some j → ∀ u H', Ex W H H' → At W H' u (.xd [("index", .int j)]) → E (.ref C) (some u) H') ∧ (progF d = none → ∀ u H', Ex W H H' → DW K W H' u (rowsD d) → Q u H')
def sp_is_between (K : PySem.W.Frag) : Sp := fun vs H Q _ => ∃ (W : Wd) (v : V) (d : PyData) (lo hi : Int), vs = [v, .int lo, .int hi] ∧ DW K W H v d ∧ Q (.bl (isBet d lo hi)) H
theorem cl_is_between {K : PySem.W.Frag} {W : Wd} {v : V} {d : PyData} {lo hi : Int} {H : Hp} {Q : VK} {E : XK} (h : DW K W H v d) (k : Q (.bl (isBet d lo hi)) H) : sp_is_between K ([v, .int lo, .int hi] ++ []) H Q E := ⟨W, v, d, lo, hi, rfl, h, k⟩
def sp_free_price : Sp := fun vs H Q _ => ∃ n s w : Int, vs = [.int n, .int s, .int w] ∧ (0 ≤ n ∧ n ≤ 1000) ∧ Q (.int (freeP n s w)) H
theorem cl_free_price {n s w : Int} {H : Hp} {Q : VK} {E : XK} (h : 0 ≤ n ∧ n ≤ 1000) (k : Q (.int (freeP n s w)) H) : sp_free_price ([.int n, .int s, .int w] ++ []) H Q E := ⟨n, s, w, rfl, h, k⟩
def sp_least_ticks : Sp := fun vs H Q _ => ∃ n s w : Int, vs = [.int n, .int s, .int w] ∧ (0 ≤ n ∧ n ≤ 1000) ∧ Q (.int (freeP n s w + 16)) H
theorem cl_least_ticks {n s w : Int} {H : Hp} {Q : VK} {E : XK} (h : 0 ≤ n ∧ n ≤ 1000) (k : Q (.int (freeP n s w + 16)) H) : sp_least_ticks ([.int n, .int s, .int w] ++ []) H Q E := ⟨n, s, w, rfl, h, k⟩
/-- what a check that raises BadSetup promises -/
def Chk (K : PySem.W.Frag) (C : Addr) (W : Wd) (H : Hp) (Q : VK) (E : XK) (field : Str) (fault : Option Int) (val : PyData) : Prop :=
  (∀ j, fault = some j → ∀ u H', Ex W H H' → At W H' u (.xd [("field", .str field), ("index", .int j)]) → E (.ref C) (some u) H') ∧ (fault = none → ∀ u H', Ex W H H' → DW K W H' u val → Q u H')
theorem Chk.raise {K : PySem.W.Frag} {C : Addr} {W : Wd} {H H' : Hp} {Q : VK} {E : XK} {f : Str} {fault : Option Int} {val : PyData} {j : Int} (c : Chk K C W H Q E f fault val) (e : Ex W H H') (fj : fault = some j) :
    ∃ v' x', [V.str f, V.int j] = [v', x'] ∧ ∀ u, H' u = none → E (.ref C) (some u) (upd H' u (.xd [("field", v'), ("index", x')])) :=
  ⟨_, _, rfl, fun u hu => c.1 j fj u _ (e.trans (Ex.new e.iv hu)) (At.new e.iv hu)⟩
def sp_checked_number (K : PySem.W.Frag) (C : Addr) : Sp := fun vs H Q E => ∃ (W : Wd) (f : Str) (v : V) (d : PyData) (lo hi : Int), vs = [.str f, v, .int lo, .int hi] ∧ W.iv H ∧ DW K W H v d ∧ Chk K C W H Q E f (if isBet d lo hi = true then none else some (-1)) d
def sp_checked_programs (K : PySem.W.Frag) (C : Addr) : Sp := fun vs H Q E => ∃ (W : Wd) (v : V) (d : PyData), vs = [v] ∧ W.iv H ∧ DW K W H v d ∧ (∀ p ∈ items d, isRow p = true → progF p = none) ∧ Chk K C W H Q E "programs" (progsF d) (progsV d)
def sp_is_turn (K : PySem.W.Frag) : Sp := fun vs H Q _ => ∃ (W : Wd) (v : V) (d : PyData) (n least : Int), vs = [v, .int n, .int least] ∧ W.iv H ∧ DW K W H v d ∧ ∀ H', Ex W H H' → Q (.bl (turnB n least d)) H'
theorem cl_is_turn {K : PySem.W.Frag} {W : Wd} {v : V} {d : PyData} {n least : Int} {H : Hp} {Q : VK} {E : XK} (i : W.iv H) (h : DW K W H v d) (k : ∀ H', Ex W H H' → Q (.bl (turnB n least d)) H') : sp_is_turn K ([v, .int n, .int least] ++ []) H Q E := ⟨W, v, d, n, least, rfl, i, h, k⟩
def sp_checked_turns (K : PySem.W.Frag) (C : Addr) : Sp := fun vs H Q E => ∃ (W : Wd) (v : V) (d : PyData) (n least : Int), vs = [v, .int n, .int least] ∧ W.iv H ∧ DW K W H v d ∧ (0 ≤ n ∧ n ≤ 1000) ∧ Chk K C W H Q E "turns" (turnsF d n least) (rowsD d)
def sp_checked_quotas (K : PySem.W.Frag) (C : Addr) : Sp := fun vs H Q E => ∃ (W : Wd) (v : V) (d : PyData) (n : Int), vs = [v, .int n] ∧ W.iv H ∧ DW K W H v d ∧ (0 ≤ n ∧ n ≤ 1000) ∧ Chk K C W H Q E "quotas" (quotasF d n) (quotasV d n)
def sp_is_data (K : PySem.W.Frag) : Sp := fun vs H Q _ => ∃ (W : Wd) (v : V) (d : PyData), vs = [v] ∧ W.iv H ∧ DW K W H v d ∧ ∀ H', Ex W H H' → Q (.bl (dataB d)) H'
theorem cl_is_data {K : PySem.W.Frag} {W : Wd} {v : V} {d : PyData} {H : Hp} {Q : VK} {E : XK} (i : W.iv H) (h : DW K W H v d) (k : ∀ H', Ex W H H' → Q (.bl (dataB d)) H') : sp_is_data K ([v] ++ []) H Q E := ⟨W, v, d, rfl, i, h, k⟩
def sp_checked_data (K : PySem.W.Frag) (C : Addr) : Sp := fun vs H Q E => ∃ (W : Wd) (v : V) (d : PyData) (n : Int), vs = [v, .int n] ∧ W.iv H ∧ DW K W H v d ∧ (0 ≤ n ∧ n ≤ 1000) ∧ Chk K C W H Q E "data" (dataF d n) (dataV d n)
def sp_checked_lines (K : PySem.W.Frag) (C : Addr) : Sp := fun vs H Q E => ∃ (W : Wd) (v : V) (d : PyData) (b : Int), vs = [v, .int b] ∧ W.iv H ∧ DW K W H v d ∧ Chk K C W H Q E "lines" (linesF d b) (tupD d)
/-! ### the setup -/
def SetupAt (K : PySem.W.Frag) (C : Addr) (W : Wd) (H : Hp) (p : Addr) (S : SD) : Prop := ∃ (dx : Addr) (vp vt vq vd vl vr : V),
  At W H p (.ins C dx [("programs", vp), ("slots", .int S.slots), ("windows", .int S.windows), ("turns", vt), ("quotas", vq), ("data", vd), ("pages", .int S.pages), ("ports", .int S.ports), ("bells", .int S.bells), ("lines", vl), ("rights", vr)]) ∧
  DW K W H vp S.programs ∧ DW K W H vt S.turns ∧ DW K W H vq S.quotas ∧ DW K W H vd S.data ∧ DW K W H vl S.lines ∧ DW K W H vr S.rights
theorem SetupAt.ex {K : PySem.W.Frag} {C : Addr} {W : Wd} {H H' : Hp} {p : Addr} {S : SD} (e : Ex W H H') (h : SetupAt K C W H p S) : SetupAt K C W H' p S :=
  let ⟨dx, vp, vt, vq, vd, vl, vr, a, h1, h2, h3, h4, h5, h6⟩ := h
  ⟨dx, vp, vt, vq, vd, vl, vr, e.at_ a, h1.ex e, h2.ex e, h3.ex e, h4.ex e, h5.ex e, h6.ex e⟩
/-- the arguments of a setup -/
structure SA where
  (programs turns rights quotas data pages ports bells lines slots windows : PyData)
def SA.n (A : SA) : Int := (items A.programs).length
def SA.cnt (A : SA) : Cnt := { n := A.n, slots := intD A.slots, pages := intD A.pages, ports := intD A.ports, bells := intD A.bells, lines := (items A.lines).length }
/-- the first argument at fault -/
def oe (f : Str) (o : Option Int) (r : Option (Str × Int)) : Option (Str × Int) := match o with
  | some j => some (f, j) | none => r
def SA.fault (A : SA) : Option (Str × Int) :=
  oe "programs" (progsF A.programs) <| oe "slots" (numF A.slots (A.n + 2) 48) <| oe "windows" (numF A.windows 1 16) <|
  oe "turns" (turnsF A.turns A.n (freeP A.n (intD A.slots) (intD A.windows) + 16)) <| oe "quotas" (quotasF A.quotas A.n) <| oe "data" (dataF A.data A.n) <|
  oe "pages" (numF A.pages 0 8) <| oe "ports" (numF A.ports 0 6) <| oe "bells" (numF A.bells 0 6) <| oe "lines" (linesF A.lines (intD A.bells)) <| oe "rights" (rightsF A.cnt A.rights) none
def SA.kept (A : SA) : SD := { programs := progsV A.programs, turns := rowsD A.turns, rights := rightsV A.rights, quotas := quotasV A.quotas A.n, data := dataV A.data A.n, lines := tupD A.lines, n := A.n, slots := intD A.slots, windows := intD A.windows, pages := intD A.pages, ports := intD A.ports, bells := intD A.bells }
/-! ### rights -/
abbrev fldIs (fs : List (Str × V)) (k : Str) (v : V) : Prop := fs.lookup k = some v
structure PartAt (K : PySem.W.Frag) (C : Addr) (W : Wd) (H : Hp) (p : Addr) (c : Cnt) : Prop where
  ex : ∃ (dx : Addr) (fs : List (Str × V)) (vp vl : V) (dp dl : List PyData), At W H p (.ins C dx fs) ∧ fldIs fs "programs" vp ∧ fldIs fs "slots" (.int c.slots) ∧ fldIs fs "pages" (.int c.pages) ∧ fldIs fs "ports" (.int c.ports) ∧
    fldIs fs "bells" (.int c.bells) ∧ fldIs fs "lines" vl ∧ DW K W H vp (.tuple dp) ∧ (dp.length : Int) = c.n ∧ DW K W H vl (.tuple dl) ∧ (dl.length : Int) = c.lines
theorem PartAt.mono {K : PySem.W.Frag} {C : Addr} {W : Wd} {H H' : Hp} {p : Addr} {c : Cnt} (e : Ex W H H') (h : PartAt K C W H p c) : PartAt K C W H' p c := by
  obtain ⟨dx, fs, vp, vl, dp, dl, h1, h2, h3, h4, h5, h6, h7, h8, h9, h10, h11⟩ := h.ex
  exact ⟨dx, fs, vp, vl, dp, dl, e.at_ h1, h2, h3, h4, h5, h6, h7, h8.ex e, h9, h10.ex e, h11⟩
def kindsD (c : Cnt) : PyData := .tuple ((kindsL c).map fun q => .tuple [.str q.1, .int q.2])
def sp_is_kind : Sp := fun vs H Q _ => ∃ s : Str, vs = [.str s] ∧ Q (.bl (lettersOf s).isSome) H
theorem cl_is_kind {s : Str} {H : Hp} {Q : VK} {E : XK} (k : Q (.bl (lettersOf s).isSome) H) : sp_is_kind ([.str s] ++ []) H Q E := ⟨s, rfl, k⟩
def sp_in_order (K : PySem.W.Frag) : Sp := fun vs H Q _ => ∃ (W : Wd) (s : Str) (v : V) (d : PyData), vs = [.str s, v] ∧ DW K W H v d ∧ Q (.bl (inOrderF s d)) H
def sp_kind_counts (K : PySem.W.Frag) (C : Addr) : Sp := fun vs H Q _ => ∃ (W : Wd) (p : Addr) (c : Cnt), vs = [.ref p] ∧ W.iv H ∧ PartAt K C W H p c ∧ ∀ t H', Ex W H H' → DW K W H' (.ref t) (kindsD c) → Q (.ref t) H'
def sp_kind_of (K : PySem.W.Frag) : Sp := fun vs H Q _ => ∃ (W : Wd) (v : V) (s : Str) (x : PyData), vs = [v] ∧ DW K W H v (.tuple [.str s, x]) ∧ Q (.str (kindOfF s)) H
def sp_is_thing (K : PySem.W.Frag) (C : Addr) : Sp := fun vs H Q _ => ∃ (W : Wd) (p : Addr) (v : V) (c : Cnt) (d : PyData), vs = [.ref p, v] ∧ W.iv H ∧ PartAt K C W H p c ∧ DW K W H v d ∧ canR d ∧ ∀ H', Ex W H H' → Q (.bl (isThingD c d)) H'
def sp_right_row (K : PySem.W.Frag) (C : Addr) : Sp := fun vs H Q _ => ∃ (W : Wd) (p : Addr) (v : V) (c : Cnt) (d : PyData), vs = [.ref p, v] ∧ W.iv H ∧ PartAt K C W H p c ∧ DW K W H v d ∧ canR d ∧
  (rowOk c d = false → ∀ H', Ex W H H' → Q .non H') ∧ (rowOk c d = true → ∀ t H', Ex W H H' → DW K W H' (.ref t) (rowV d) → Q (.ref t) H')
def sp_fits_parent (K : PySem.W.Frag) : Sp := fun vs H Q _ => ∃ (W : Wd) (v : V) (a : Addr) (xs : List V) (c : Cnt) (d : PyData) (es : List PyData), vs = [v, .ref a] ∧ W.iv H ∧ DW K W H v (rowV d) ∧ rowOk c d = true ∧ (strD (nth d 3)).cps.size ≤ 50000 ∧ At W H a (.lst xs) ∧ DWs K W H xs (es.map rowV) ∧ (∀ e ∈ es, rowOk c e = true) ∧ es.length ≤ 1000 ∧
  ∀ H', Ex W H H' → Q (.bl (parentOk (rowV d) (es.map rowV))) H'
def sp_checked_rights (K : PySem.W.Frag) (CS CE : Addr) : Sp := fun vs H Q E => ∃ (W : Wd) (p : Addr) (v : V) (c : Cnt) (d : PyData), vs = [.ref p, v] ∧ W.iv H ∧ PartAt K CS W H p c ∧ DW K W H v d ∧ (∀ x ∈ items d, canW x) ∧ (items d).length ≤ 1000 ∧ Chk K CE W H Q E "rights" (rightsF c d) (rightsV d)
def sp_Setup__init (K : PySem.W.Frag) (CS CE : Addr) : Sp := fun vs H Q E => ∃ (W : Wd) (H0 : Hp) (x dx : Addr) (vp vt vr vq vd vg vo vb vl vs' vw : V) (A : SA), vs = [.ref x, vp, vt, vr, vq, vd, vg, vo, vb, vl, vs', vw] ∧ Ex W H0 H ∧ H0 x = none ∧ At W H x (.ins CS dx []) ∧
  DW K W H vp A.programs ∧ DW K W H vt A.turns ∧ DW K W H vr A.rights ∧ DW K W H vq A.quotas ∧ DW K W H vd A.data ∧ DW K W H vg A.pages ∧ DW K W H vo A.ports ∧ DW K W H vb A.bells ∧ DW K W H vl A.lines ∧ DW K W H vs' A.slots ∧ DW K W H vw A.windows ∧
  (∀ p ∈ items A.programs, isRow p = true → progF p = none) ∧ (∀ x ∈ items A.rights, canW x) ∧ (items A.rights).length ≤ 1000 ∧
  (∀ f j, A.fault = some (f, j) → ∀ u H', Ex W H0 H' → At W H' u (.xd [("field", .str f), ("index", .int j)]) → E (.ref CE) (some u) H') ∧ (A.fault = none → ∀ H', Ex W H0 H' → SetupAt K CS W H' x A.kept → Q .non H')
theorem oe_E {f : Str} {o : Option Int} {r : Option (Str × Int)} {B : Option (Str × Int) → Prop} (c : B (oe f o r)) : (∀ j, o = some j → B (some (f, j))) ∧ (o = none → B r) := by
  cases o with
  | none => exact ⟨fun _ h => (by cases h), fun _ => c⟩
  | some j => exact ⟨fun _ h => (by cases h; exact c), fun h => (by cases h)⟩
def InitB (K : PySem.W.Frag) (CS CE : Addr) (W : Wd) (H0 : Hp) (x : Addr) (A : SA) (Q : VK) (E : XK) (o : Option (Str × Int)) : Prop :=
  (∀ f j, o = some (f, j) → ∀ u H', Ex W H0 H' → At W H' u (.xd [("field", .str f), ("index", .int j)]) → E (.ref CE) (some u) H') ∧ (o = none → ∀ H', Ex W H0 H' → SetupAt K CS W H' x A.kept → Q .non H')
def sp_check_raises (K : PySem.W.Frag) (CS CE : Addr) : Sp := fun vs H Q E => ∃ (W : Wd) (p : Addr) (S : SD) (v : V) (d : PyData), vs = [.ref p, v] ∧ W.iv H ∧ SetupAt K CS W H p S ∧ isRow S.lines = true ∧ (items S.lines).length ≤ 1000 ∧ DW K W H v d ∧
  (∀ j, raisesF d (items S.lines).length = some j → ∀ u H', Ex W H H' → At W H' u (.xd [("index", .int j)]) → E (.ref CE) (some u) H') ∧ (raisesF d (items S.lines).length = none → ∀ u H', Ex W H H' → DW K W H' u (rowsD d) → Q u H')
/-- [tuple(x) for x in xs], xs a name -/
theorem lc_rows {K : PySem.W.Frag} {W : Wd} {H : Hp} {a : Addr} {xs : List V} {ds : List PyData} {n m : Nat} {σ : L2.St} {Q : VK} (hv : σ[n]? = some (some (.ref a))) (h : SqB K W H a xs) (i : W.iv H) (hn : xs.length ≤ 50000) (ws : DWs K W H xs ds)
    (hr : ∀ d ∈ ds, isRow d = true ∧ noLs (items d) = true) (hm : ∀ x : V, ((wipe σ [m]).set m (some x))[m]? = some (some x))
    (k : ∀ D H2 ys, H D = none → Ex W H H2 → At W H2 D (.lst ys) → DWs K W H2 ys (ds.map tupD) → ys.length ≤ xs.length → Q (.ref D) H2) :
    tLc (fun σ H R => iList K (tVar n) σ H R ∨ iTup K (tVar n) σ H R) (gName m) tYes (tCB (rTupO K) (tCons (tVar m) tNil)) [m] σ H Q := by
  refine lc_B hv h i hn (fun i ys Hh => DWs K W Hh ys ((ds.take i).map tupD)) (fun i ys Ha Hb e q => q.ex e) .nil ?_ ?_
  · rintro i x D ys H' QV QN hi hx hD hDa e4 q _ qv qn
    obtain ⟨r, hr1, hd⟩ := ws.get hx
    obtain ⟨hrr, nl⟩ := hr r (List.mem_of_getElem? hr1)
    obtain ⟨b, us, rfl, sqb, wb⟩ := (hd.ex e4).row hrr
    refine rd_yes (iteT (rd_cb (rd_cons (rd_var (hm _) (rd_nil ?_)))))
    refine rd_tupB e4.iv sqb fun t H5 e5 h5 => ?_
    refine qv _ _ e5 ?_
    rw [List.take_add_one, hr1, List.map_append]
    refine DWs.snoc (q.ex (hide_ex e5 hDa)) ?_
    exact DW.hide (.tup h5 (wb.ex e5)) (by show noL (.tuple (items r)) = true; rw [noL]; exact nl) e5.iv (e5.at_ hDa)
  · rintro D H5 ys hD e5 h5 q hl
    rw [ws.length, List.take_length] at q
    exact k D H5 ys hD e5 h5 q hl
theorem lenF {f : Str} {v : V} {fs : List (Str × V)} {n : Nat} (h : fs.length ≤ n) : (putF f v fs).length ≤ n + 1 := Nat.le_trans (length_putF f v fs) (Nat.succ_le_succ h)
theorem rd_rev {W : Wd} {H H0 : Hp} {p : Addr} {xs : List V} {Q : VK} (e : Ex W H0 H) (h0 : H0 p = none) (h : At W H p (.lst xs)) (k : ∀ H2, Ex W H0 H2 → At W H2 p (.lst xs.reverse) → (∀ q o, q ≠ p → At W H q o → At W H2 q o) → Q .non H2) : rReverse (.ref p) [] H Q :=
  ⟨p, xs, rfl, rfl, h.1, k _ (e.mut h0 h) (.mut e.iv h) fun _ _ ne q => .other e.iv h q ne⟩
theorem rd_dnewT {W : Wd} {H : Hp} {σ : L2.St} {Q : VK} (i : W.iv H) (k : ∀ p H2, H p = none → Ex W H H2 → At W H2 p (.dT []) → Q (.ref p) H2) : tDNewT σ H Q := new_of i k
theorem rd_dinT {W : Wd} {H : Hp} {a b : Addr} {Q : VK} {kvs : List (List Key × V)} {k : List Key} {xs : List V} (h : At W H a (.dT kvs)) (hb : At W H b (.tup xs)) (e : xs = k.map kV) (q : Q (.bl (valV kvs k).isSome) H) : DInG Q false (.ref a) (.ref b) H := ⟨a, _, rfl, DGet.t (k := k) h.1 (by rw [← e]; exact hb.1), q⟩
theorem rd_dputT {W : Wd} {H H0 : Hp} {a b : Addr} {v : V} {P : Hp → Prop} {kvs : List (List Key × V)} {k : List Key} {xs : List V} (e0 : Ex W H0 H) (h0 : H0 a = none) (h : At W H a (.dT kvs)) (hb : At W H b (.tup xs)) (e : xs = k.map kV) (hl : kvs.length < 1000000)
    (q : ∀ H2, Ex W H0 H2 → At W H2 a (.dT (putK kvs k v)) → (∀ q o, q ≠ a → At W H q o → At W H2 q o) → P H2) : ∃ a' H4, V.ref a = .ref a' ∧ DPut H a' (.ref b) v H4 ∧ P H4 :=
  ⟨a, _, rfl, DPut.t (k := k) h.1 (by rw [← e]; exact hb.1) (sz_lt hl), q _ (e0.mut h0 h) (.mut e0.iv h) fun _ _ ne q => .other e0.iv h q ne⟩

/-! ### the bag -/
structure BagIs (H : Hp) (b : Addr) (p g n s : Int) (cs : List Int) : Prop where
  hb : H b = some (.lst (V.int p :: V.int g :: V.int n :: V.int s :: cs.map V.int))
  p4 : 4 ≤ p
def WB (b : Addr) : Wd where
  own _ a := a = b
  iv H := ∃ p g n s cs, BagIs H b p g n s cs
  trk := by
    rintro H a ⟨p, g, n, s, cs, B⟩ rfl
    exact ⟨_, B.hb⟩
  loc := by
    rintro H H' ⟨p, g, n, s, cs, B⟩ h
    exact ⟨⟨p, g, n, s, cs, (h b rfl).trans B.hb, B.p4⟩, fun a ha => ha⟩
theorem ex_bag {H H2 : Hp} {b : Addr} {p g n s p2 g2 n2 s2 : Int} {cs cs2 : List Int} (B : BagIs H b p g n s cs) (B2 : BagIs H2 b p2 g2 n2 s2 cs2) (h : ∀ a, a ≠ b → H2 a = H a) : Ex (WB b) H H2 := by
  refine ⟨⟨_, _, _, _, _, B⟩, ⟨_, _, _, _, _, B2⟩, fun {a o} ha => ?_, fun {a o} ha => ?_⟩
  · have nb : a ≠ b := fun e => ha.2 e
    exact ⟨(h a nb).trans ha.1, nb⟩
  · by_cases nb : a = b
    · exact ⟨_, nb ▸ B2.hb⟩
    · exact ⟨_, (h a nb).trans ha⟩
theorem sql_ex {K : PySem.W.Frag} {H H1 : Hp} {a : Addr} {xs : List V} (e : Ex W0 H H1) (h : SqL K H a xs) : SqL K H1 a xs := by
  rcases h with (h | ⟨o, h⟩) | h
  · exact .inl (.inl (e.at_ (W := W0) ⟨h, fun z => z⟩).1)
  · exact .inl (.inr ⟨o, (e.at_ (W := W0) ⟨h, fun z => z⟩).1⟩)
  · exact .inr h
def sp_law_bag (K : PySem.W.Frag) : Sp := fun vs H Q _ => ∃ (a : Addr) (ns : List Int), vs = [.ref a] ∧ SqL K H a (ns.map V.int) ∧ ns.length ≤ 63 ∧ ∀ b H', (WB b).iv H' → Q (.ref b) H'
def sp_law_take : Sp := fun vs H Q _ => ∃ (b : Addr) (many : Int), vs = [.ref b, .int many] ∧ 0 < many ∧ many < 1073741824 ∧ (WB b).iv H ∧ ∀ r H', Ex (WB b) H H' → 0 ≤ r → r < many → Q (.int r) H'
theorem cl_law_take {b : Addr} {many : Int} {H : Hp} {Q : VK} {E : XK} (h1 : 0 < many) (h2 : many < 1073741824) (i : (WB b).iv H) (k : ∀ r H', Ex (WB b) H H' → 0 ≤ r → r < many → Q (.int r) H') : sp_law_take ([.ref b, .int many] ++ []) H Q E := ⟨b, many, rfl, h1, h2, i, k⟩
theorem ix_lit {a b c d : V} {xs : List V} {i : Int} (h0 : 0 ≤ i) (h1 : i < 4) : ixN (a :: b :: c :: d :: xs).length i = some i.toNat := ix_in h0 (by simp only [List.length_cons]; omega)
theorem at_l1 {a b : V} {xs : List V} : atI (a :: b :: xs) 1 = some b := at_in (by decide) rfl
theorem at_l2 {a b c : V} {xs : List V} : atI (a :: b :: c :: xs) 2 = some c := at_in (by decide) rfl
theorem at_l3 {a b c d : V} {xs : List V} : atI (a :: b :: c :: d :: xs) 3 = some d := at_in (by decide) rfl
theorem at_cell {a b c d : V} {cs : List Int} {p : Int} (h : 4 ≤ p) (hl : p < ((a :: b :: c :: d :: cs.map V.int).length : Int)) : ∃ z : Int, atI (a :: b :: c :: d :: cs.map V.int) p = some (.int z) := by
  obtain ⟨q, rfl⟩ : ∃ q : Nat, p = ((q + 4 : Nat) : Int) := ⟨(p - 4).toNat, by omega⟩
  have hq : q < cs.length := by
    simp only [List.length_cons, List.length_map] at hl
    omega
  refine ⟨cs[q], at_in (by omega) ?_⟩
  rw [Int.toNat_natCast]
  simp only [List.getElem?_cons_succ, List.getElem?_map, List.getElem?_eq_getElem hq, Option.map]
/-! ### told and due -/
def flatD : Nat → PyData → Bool
  | _, .int _ => true
  | _, .str _ => true
  | _, .none => true
  | n + 1, .tuple ds => ds.all (flatD n) && decide (ds.length ≤ 100000)
  | _, _ => false
def sp_same (K : PySem.W.Frag) (n : Nat) : Sp := fun vs H Q _ => ∃ (W : Wd) (v u : V) (d : PyData), vs = [v, u] ∧ DW K W H v d ∧ DW K W H u d ∧ flatD n d = true ∧ Q (.bl true) H
abbrev sp_law_same_at0 (K : PySem.W.Frag) : Sp := sp_same K 0
abbrev sp_law_same_at1 (K : PySem.W.Frag) : Sp := sp_same K 1
abbrev sp_law_same_at2 (K : PySem.W.Frag) : Sp := sp_same K 2
theorem cl_law_same {K : PySem.W.Frag} {W : Wd} {v u : V} {d : PyData} {n : Nat} {H : Hp} {Q : VK} {E : XK} (h1 : DW K W H v d) (h2 : DW K W H u d) (f : flatD n d = true) (k : Q (.bl true) H) : sp_same K n ([v, u] ++ []) H Q E := ⟨W, v, u, d, rfl, h1, h2, f, k⟩

/-! ### prices -/
def priceT (nm : Str) : Int := if nm = "halt" then 2 else if nm = "until" then 1 else if nm = "clock" then 1 else if nm = "look" then 1 else if nm = "claim" then 10 else if nm = "copy" then 2 else if nm = "map" then 2 else if nm = "unmap" then 2 else if nm = "send" then 6 else if nm = "take" then 6 else if nm = "trysend" then 6 else if nm = "trytake" then 6 else if nm = "call" then 5 else if nm = "reply" then 5 else if nm = "ring" then 2 else if nm = "await" then 1 else if nm = "tryawait" then 1 else if nm = "ack" then 1 else if nm = "give" then 2 else if nm = "pull" then 2 else 0
def priceF (nm : Str) (n s w : Int) : Int := if nm = "drop" then w + 2 else if nm = "revoke" then n * s + n * w else if nm = "free" then freeP n s w else priceT nm
structure SizeAt (K : PySem.W.Frag) (C : Addr) (W : Wd) (H : Hp) (p : Addr) (n s w : Int) : Prop where
  ex : ∃ (dx : Addr) (fs : List (Str × V)) (vp : V) (dp : List PyData), At W H p (.ins C dx fs) ∧ fldIs fs "programs" vp ∧ fldIs fs "slots" (.int s) ∧ fldIs fs "windows" (.int w) ∧ DW K W H vp (.tuple dp) ∧ (dp.length : Int) = n
def sp_price (K : PySem.W.Frag) (CS CE : Addr) : Sp := fun vs H Q E => ∃ (W : Wd) (p : Addr) (nm : Str) (n s w : Int), vs = [.ref p, .str nm] ∧ W.iv H ∧ SizeAt K CS W H p n s w ∧ (0 ≤ n ∧ n ≤ 1000) ∧
  (nm ∉ deedsL → ∀ u H', Ex W H H' → At W H' u (.xd [("name", .str nm)]) → E (.ref CE) (some u) H') ∧ (nm ∈ deedsL → Q (.int (priceF nm n s w)) H)
/-! ### right instructions -/
theorem fit_reg {r n : Int} (h : 0 ≤ r ∧ r < 8) : fitD (.int r) "register" n = true := by
  unfold fitD boundF
  rw [if_neg (by decide +kernel), if_pos rfl]
  exact decide_eq_true h
theorem fit_word {r n : Int} (h : 0 ≤ r ∧ r < 1048576) : fitD (.int r) "word" n = true := by
  unfold fitD boundF
  rw [if_neg (by decide +kernel), if_neg (by decide +kernel), if_pos rfl]
  exact decide_eq_true h
theorem fit_tgt {r n : Int} (h : 0 ≤ r ∧ r < n) : fitD (.int r) "target" n = true := by
  unfold fitD boundF
  rw [if_neg (by decide +kernel), if_neg (by decide +kernel), if_neg (by decide +kernel)]
  exact decide_eq_true h
theorem fit_deed {s : Str} {n : Int} (h : s ∈ deedsL) : fitD (.str s) "deed" n = true := by
  unfold fitD
  rw [if_pos rfl]
  exact decide_eq_true h
theorem ins_2 {nm a b : Str} {x y : PyData} {n : Int} (hn : nm ∈ names9) (hr : rolesF nm = [a, b]) (h1 : fitD x a n = true) (h2 : fitD y b n = true) : insD (.tuple [.str nm, x, y]) n = true := by
  show (true && (decide (nm ∈ names9) && fitsD [x, y] (rolesF nm) n)) = true
  rw [decide_eq_true hn, hr]
  show (true && (true && (fitD x a n && (fitD y b n && true)))) = true
  rw [h1, h2]; rfl
theorem ins_1 {nm a : Str} {x : PyData} {n : Int} (hn : nm ∈ names9) (hr : rolesF nm = [a]) (h1 : fitD x a n = true) : insD (.tuple [.str nm, x]) n = true := by
  show (true && (decide (nm ∈ names9) && fitsD [x] (rolesF nm) n)) = true
  rw [decide_eq_true hn, hr]
  show (true && (true && (fitD x a n && true))) = true
  rw [h1]; rfl
theorem in_9 : ("set" : Str) ∈ names9 ∧ ("jump" : Str) ∈ names9 ∧ ("zero" : Str) ∈ names9 ∧ ("deed" : Str) ∈ names9 := by decide +kernel
theorem ro_9 : rolesF "set" = (["register", "word"] : List Str) ∧ rolesF "jump" = (["target"] : List Str) ∧ rolesF "zero" = (["register", "target"] : List Str) ∧ rolesF "deed" = (["deed"] : List Str) := by decide +kernel
theorem five_9 : ∀ nm ∈ (["move", "add", "sub", "load", "store"] : List Str), nm ∈ names9 ∧ rolesF nm = (["register", "register"] : List Str) := by decide +kernel
/-! ### drawing -/
def sp_law_within : Sp := fun vs H Q _ => ∃ (b : Addr) (lo hi : Int), vs = [.ref b, .int lo, .int hi] ∧ lo ≤ hi ∧ hi - lo < 1000000 ∧ (WB b).iv H ∧ ∀ r H', Ex (WB b) H H' → lo ≤ r → r ≤ hi → Q (.int r) H'
theorem cl_law_within {b : Addr} {lo hi : Int} {H : Hp} {Q : VK} {E : XK} (h1 : lo ≤ hi) (h2 : hi - lo < 1000000) (i : (WB b).iv H) (k : ∀ r H', Ex (WB b) H H' → lo ≤ r → r ≤ hi → Q (.int r) H') : sp_law_within ([.ref b, .int lo, .int hi] ++ []) H Q E := ⟨b, lo, hi, rfl, h1, h2, i, k⟩
def sp_law_word : Sp := fun vs H Q _ => ∃ b : Addr, vs = [.ref b] ∧ (WB b).iv H ∧ ∀ r H', Ex (WB b) H H' → 0 ≤ r → r < 1048576 → Q (.int r) H'
theorem cl_law_word {b : Addr} {H : Hp} {Q : VK} {E : XK} (i : (WB b).iv H) (k : ∀ r H', Ex (WB b) H H' → 0 ≤ r → r < 1048576 → Q (.int r) H') : sp_law_word ([.ref b] ++ []) H Q E := ⟨b, rfl, i, k⟩
def sp_law_deeds : Sp := fun vs H Q _ => ∃ W : Wd, vs = [] ∧ W.iv H ∧ ∀ p H', H p = none → Ex W H H' → At W H' p (.lst (deedsL.map V.str)) → Q (.ref p) H'
structure SzOk (n s w : Int) : Prop where
  h : 1 ≤ n ∧ n ≤ 6 ∧ n + 2 ≤ s ∧ s ≤ 48 ∧ 1 ≤ w ∧ w ≤ 16
def sp_law_sizes : Sp := fun vs H Q _ => ∃ b : Addr, vs = [.ref b] ∧ (WB b).iv H ∧ ∀ (n s w : Int) p H', Ex (WB b) H H' → At (WB b) H' p (.lst [.int n, .int s, .int w]) → SzOk n s w → Q (.ref p) H'
def sp_law_letter : Sp := fun vs H Q _ => ∃ b : Addr, vs = [.ref b] ∧ (WB b).iv H ∧ ∀ (c : Nat) H', Ex (WB b) H H' → Q (.str ⟨#[c]⟩) H'
def sp_law_instruction (K : PySem.W.Frag) : Sp := fun vs H Q _ => ∃ (b : Addr) (n : Int), vs = [.ref b, .int n] ∧ 0 < n ∧ n ≤ 1000 ∧ (WB b).iv H ∧ ∀ t H' ds, Ex (WB b) H H' → DW K (WB b) H' (.ref t) (.tuple ds) → insD (.tuple ds) n = true → Q (.ref t) H'
theorem prog_ok {ds : List PyData} (h : ∀ d ∈ ds, insD d ds.length = true) (l : ds.length ≤ 4000) : progF (.tuple ds) = none := by
  unfold progF
  rw [if_neg (fun z => nomatch z), if_neg (by show ¬ 4000 < ds.length; omega)]
  exact fb_none fun j e he => h e (List.mem_of_getElem? he)
def sp_law_program (K : PySem.W.Frag) : Sp := fun vs H Q _ => ∃ (b : Addr) (m : Int), vs = [.ref b, .int m] ∧ 0 ≤ m ∧ m ≤ 100 ∧ (WB b).iv H ∧ ∀ t H' ds, Ex (WB b) H H' → DW K (WB b) H' (.ref t) (.tuple ds) → progF (.tuple ds) = none → noLs ds = true → Q (.ref t) H'
/-! ### the price the law reckons -/
theorem pr_5 {nm : Str} {n s w : Int} (h : nm ∈ (["reply", "call"] : List Str)) : priceF nm n s w = 5 := by
  simp only [List.mem_cons, List.not_mem_nil, or_false] at h
  rcases h with rfl | rfl <;> (unfold priceF priceT; repeat (first | rw [if_pos rfl] | rw [if_neg (by decide +kernel)]))
theorem pr_1 {nm : Str} {n s w : Int} (h : nm ∈ (["until", "clock", "look", "await", "tryawait", "ack"] : List Str)) : priceF nm n s w = 1 := by
  simp only [List.mem_cons, List.not_mem_nil, or_false] at h
  rcases h with rfl | rfl | rfl | rfl | rfl | rfl <;> (unfold priceF priceT; repeat (first | rw [if_pos rfl] | rw [if_neg (by decide +kernel)]))
theorem pr_2 {nm : Str} {n s w : Int} (h : nm ∈ (["halt", "copy", "map", "unmap", "ring", "give", "pull"] : List Str)) : priceF nm n s w = 2 := by
  simp only [List.mem_cons, List.not_mem_nil, or_false] at h
  rcases h with rfl | rfl | rfl | rfl | rfl | rfl | rfl <;> (unfold priceF priceT; repeat (first | rw [if_pos rfl] | rw [if_neg (by decide +kernel)]))
theorem pr_6 {nm : Str} {n s w : Int} (h : nm ∈ (["send", "take", "trysend", "trytake"] : List Str)) : priceF nm n s w = 6 := by
  simp only [List.mem_cons, List.not_mem_nil, or_false] at h
  rcases h with rfl | rfl | rfl | rfl <;> (unfold priceF priceT; repeat (first | rw [if_pos rfl] | rw [if_neg (by decide +kernel)]))
theorem pr_x {n s w : Int} : priceF "drop" n s w = w + 2 ∧ priceF "claim" n s w = 10 ∧ priceF "revoke" n s w = n * s + n * w ∧ priceF "free" n s w = n * s + n * w + 1 := by
  refine ⟨?_, ?_, ?_, ?_⟩ <;> (unfold priceF; try unfold priceT) <;> (repeat (first | rw [if_pos rfl] | rw [if_neg (by decide +kernel)])) <;> rfl
theorem pr_rest {nm : Str} (h : nm ∈ deedsL) (h1 : nm ∉ (["reply", "call"] : List Str)) (h2 : nm ∉ (["until", "clock", "look", "await", "tryawait", "ack"] : List Str)) (h3 : nm ∉ (["halt", "copy", "map", "unmap", "ring", "give", "pull"] : List Str)) (h4 : nm ∉ (["send", "take", "trysend", "trytake"] : List Str)) : nm = "drop" ∨ nm = "claim" ∨ nm = "revoke" ∨ nm = "free" := by
  unfold deedsL at h
  simp only [List.mem_cons, List.not_mem_nil, or_false] at h h1 h2 h3 h4
  simp only [not_or] at h1 h2 h3 h4
  rcases h with h | h | h | h | h | h | h | h | h | h | h | h | h | h | h | h | h | h | h | h | h | h | h <;> simp_all
def sp_law_price : Sp := fun vs H Q _ => ∃ (W : Wd) (nm : Str) (p : Addr) (n s w : Int), vs = [.str nm, .ref p] ∧ W.iv H ∧ At W H p (.lst [.int n, .int s, .int w]) ∧ SzOk n s w ∧ nm ∈ deedsL ∧ ∀ H', Ex W H H' → Q (.int (priceF nm n s w)) H'
theorem cl_law_price {W : Wd} {nm : Str} {p : Addr} {n s w : Int} {H : Hp} {Q : VK} {E : XK} (i : W.iv H) (h : At W H p (.lst [.int n, .int s, .int w])) (so : SzOk n s w) (m : nm ∈ deedsL) (k : ∀ H', Ex W H H' → Q (.int (priceF nm n s w)) H') : sp_law_price ([.str nm, .ref p] ++ []) H Q E := ⟨W, nm, p, n, s, w, rfl, i, h, so, m, k⟩
/-! ### the law's setups -/
theorem SizeAt.mono {K : PySem.W.Frag} {C : Addr} {W : Wd} {H H' : Hp} {p : Addr} {n s w : Int} (e : Ex W H H') (h : SizeAt K C W H p n s w) : SizeAt K C W H' p n s w := by
  obtain ⟨dx, fs, vp, dp, h1, h2, h3, h4, h5, h6⟩ := h.ex
  exact ⟨dx, fs, vp, dp, e.at_ h1, h2, h3, h4, h5.ex e, h6⟩
def sp_law_setup (K : PySem.W.Frag) (C : Addr) : Sp := fun vs H Q _ => ∃ (b p : Addr) (n s w sh : Int), vs = [.ref b, .ref p, .int sh] ∧ (WB b).iv H ∧ At (WB b) H p (.lst [.int n, .int s, .int w]) ∧ SzOk n s w ∧ 0 ≤ sh ∧ sh ≤ 1 ∧ ∀ q H', Ex (WB b) H H' → SizeAt K C (WB b) H' q n s w → Q (.ref q) H'
def sp_law_strangers : Sp := fun vs H Q _ => ∃ b : Addr, vs = [.ref b] ∧ (WB b).iv H ∧ ∀ (x y z : Str) q H', Ex (WB b) H H' → At (WB b) H' q (.lst [.str x, .str y, .str z]) → Q (.ref q) H'
def sp_law_unknown (K : PySem.W.Frag) (C : Addr) : Sp := fun vs H Q _ => ∃ (W : Wd) (p : Addr) (nm : Str) (n s w : Int), vs = [.ref p, .str nm] ∧ W.iv H ∧ SizeAt K C W H p n s w ∧ SzOk n s w ∧ nm ∉ deedsL ∧ ∀ H', Ex W H H' → Q (.bl true) H'
def sp_law_asks_names (K : PySem.W.Frag) (C : Addr) : Sp := fun vs H Q _ => ∃ (W : Wd) (p z l : Addr) (nms : List Str) (n s w : Int), vs = [.ref p, .ref z, .ref l] ∧ W.iv H ∧ SizeAt K C W H p n s w ∧ At W H z (.lst [.int n, .int s, .int w]) ∧ SzOk n s w ∧ At W H l (.lst (nms.map V.str)) ∧ (∀ x ∈ nms, x ∈ deedsL) ∧ ∀ H', Ex W H H' → Q (.bl true) H'
def sp_law_asks_strangers (K : PySem.W.Frag) (C : Addr) : Sp := fun vs H Q _ => ∃ (b p z : Addr) (n s w : Int), vs = [.ref b, .ref p, .ref z] ∧ (WB b).iv H ∧ SizeAt K C (WB b) H p n s w ∧ At (WB b) H z (.lst [.int n, .int s, .int w]) ∧ SzOk n s w ∧ ∀ H', Ex (WB b) H H' → Q (.bl true) H'
def sp_law_asks_turns (K : PySem.W.Frag) (C : Addr) : Sp := fun vs H Q _ => ∃ (b z : Addr) (n s w : Int), vs = [.ref b, .ref z] ∧ (WB b).iv H ∧ At (WB b) H z (.lst [.int n, .int s, .int w]) ∧ SzOk n s w ∧ ∀ H', Ex (WB b) H H' → Q (.bl true) H'
/-- the arguments of the law's setups -/
def rowR (s : Int) (k : Nat) : PyData := .tuple [.int (k : Nat), .int (s - 1), .tuple [.str "process", .int (k : Nat)], .str "ix", .none]
def rgtsA (s : Int) (m : Nat) : PyData := .list ((List.range m).map (rowR s))
theorem isBet_T {i lo hi : Int} (h : lo ≤ i ∧ i ≤ hi) : isBet (.int i) lo hi = true := decide_eq_true h
theorem isBet_N {i lo hi : Int} (h : ¬(lo ≤ i ∧ i ≤ hi)) : isBet (.int i) lo hi = false := decide_eq_false h
theorem rowR_ok {c : Cnt} {s : Int} {k : Nat} (h1 : (k : Int) < c.n) (h2 : c.slots = s) (h3 : 0 < s) : rowOk c (rowR s k) = true := by
  show (true && (isBet (.int k) 0 (c.n - 1) && isBet (.int (s - 1)) 0 (c.slots - 1) && true && isThingD c (.tuple [.str "process", .int k]) && inOrderF "process" (.str "ix"))) = true
  rw [isBet_T ⟨by omega, by omega⟩, isBet_T ⟨by omega, by omega⟩]
  have e1 : isThingD c (.tuple [.str "process", .int k]) = true := by
    show (true && (match countOf (kindsL c) "process" with | some m => decide (0 ≤ (k : Int) ∧ (k : Int) < m) | none => false)) = true
    have : countOf (kindsL c) "process" = some c.n := by
      unfold kindsL
      simp only [countOf]
      rw [if_neg (by decide +kernel), if_neg (by decide +kernel), if_neg (by decide +kernel), if_neg (by decide +kernel)]
      exact if_pos trivial
    rw [this]
    exact decide_eq_true ⟨by omega, h1⟩
  rw [e1, show inOrderF "process" (.str "ix") = true by decide +kernel]
  rfl
theorem rightsGo_ok {c : Cnt} {s : Int} (h2 : c.slots = s) (h3 : 0 < s) : ∀ (m k : Nat) (rows : List PyData) (used : List (Int × Int)) (i : Nat), ((k + m : Nat) : Int) ≤ c.n → (∀ u ∈ used, u.1 < k) → rightsGo c ((List.range' k m).map (rowR s)) rows used i = none
  | 0, k, rows, used, i, _, _ => rfl
  | m + 1, k, rows, used, i, hk, hu => by
    rw [List.range'_succ, List.map_cons, rightsGo]
    have p : place (rowR s k) = ((k : Int), s - 1) := rfl
    rw [if_pos ⟨rowR_ok (by omega) h2 h3, fun z => by have := hu _ z; rw [p] at this; exact absurd this (by show ¬ (k : Int) < k; omega), rfl⟩]
    exact rightsGo_ok h2 h3 m (k + 1) _ _ _ (by omega) fun u hu' => by
      rcases List.mem_append.mp hu' with q | q
      · have := hu u q; omega
      · rw [List.mem_singleton.mp q, p]; show (k : Int) < ((k + 1 : Nat) : Int); omega
def pairsA (tk : Nat → Int) (m : Nat) : PyData := .list ((List.range m).map fun j => .tuple [.int (j : Nat), .int (tk j)])
theorem badLen_l {ds : List PyData} {lo hi : Nat} (h1 : lo ≤ ds.length) (h2 : ds.length ≤ hi) : badLen (.list ds) lo hi = false := badLen_F rfl ⟨h1, h2⟩
theorem turns_ok {n : Nat} {least : Int} {ts : List Int} (h : 1 ≤ n ∧ n ≤ 6) (hl : ts.length = n) (ht : ∀ t ∈ ts, least ≤ t ∧ t ≤ 100000) : turnsF (.list (ts.zipIdx.map fun q => .tuple [.int (q.2 : Nat), .int q.1])) n least = none := by
  have ln : (ts.zipIdx.map fun q => PyData.tuple [.int (q.2 : Nat), .int q.1]).length = n := by rw [List.length_map, List.length_zipIdx, hl]
  unfold turnsF
  rw [badLen_l (by rw [ln]; omega) (by rw [ln]; omega), if_neg (by decide)]
  rw [fb_none fun j e he => by
    obtain ⟨⟨t, i⟩, hk, rfl⟩ := List.mem_map.mp (List.mem_of_getElem? he)
    obtain ⟨h1, h2, h3⟩ := List.mem_zipIdx hk
    have := ht t (h3 ▸ List.getElem_mem _)
    rw [turnB_2 (x := .int (i : Nat)) (y := .int t) rfl rfl, isBet_T ⟨by omega, by omega⟩, isBet_T ⟨by omega, by omega⟩]; rfl]
  show (if ownsAll (ts.zipIdx.map fun q => PyData.tuple [.int (q.2 : Nat), .int q.1]) n = true then none else some (-1)) = none
  rw [ownsAll_T fun p hp => ?_]
  · rfl
  · rw [List.map_map]
    have hp' : p < ts.length := by omega
    exact List.mem_map.mpr ⟨(ts[p], p), by rw [List.mem_zipIdx_iff_getElem?]; simp [hp'], rfl⟩
def lawA (pds : List PyData) (ts : List Int) (rs : PyData) (qs : PyData) (dd : PyData) (pg po be s w : Int) : SA := { programs := .list pds, turns := .list (ts.zipIdx.map fun q => .tuple [.int (q.2 : Nat), .int q.1]), rights := rs, quotas := qs, data := dd, pages := .int pg, ports := .int po, bells := .int be, lines := .tuple [], slots := .int s, windows := .int w }
/-- all but turns, quotas, data and rights -/
theorem lawA_fault {pds : List PyData} {ts : List Int} {rs qs dd : PyData} {pg po be s w n : Int} (hn : (pds.length : Int) = n) (sz : SzOk n s w) (h1 : ∀ p ∈ pds, isRow p = true ∧ progF p = none) (h3 : quotasF qs n = none) (h4 : dataF dd n = none) (h5 : 0 ≤ pg ∧ pg ≤ 8) (h6 : 0 ≤ po ∧ po ≤ 6) (h7 : 0 ≤ be ∧ be ≤ 6)
    (h8 : rightsF (lawA pds ts rs qs dd pg po be s w).cnt rs = none) : (lawA pds ts rs qs dd pg po be s w).fault = oe "turns" (turnsF (.list (ts.zipIdx.map fun q => .tuple [.int (q.2 : Nat), .int q.1])) n (freeP n s w + 16)) none := by
  have n0 : (lawA pds ts rs qs dd pg po be s w).n = n := hn
  have zz := sz.h
  have e1 : progsF (lawA pds ts rs qs dd pg po be s w).programs = none := by
    show progsF (.list pds) = none
    unfold progsF
    rw [badLen_l (by omega) (by omega), if_neg (by decide)]
    exact fb_none fun j e he => by
      obtain ⟨a, b⟩ := h1 e (List.mem_of_getElem? he)
      rw [a, b]; rfl
  have e2 : numF (lawA pds ts rs qs dd pg po be s w).slots ((lawA pds ts rs qs dd pg po be s w).n + 2) 48 = none := by
    rw [n0]
    exact if_pos (isBet_T ⟨by omega, by omega⟩)
  have e3 : numF (lawA pds ts rs qs dd pg po be s w).windows 1 16 = none := if_pos (isBet_T ⟨by omega, by omega⟩)
  have e5 : quotasF (lawA pds ts rs qs dd pg po be s w).quotas (lawA pds ts rs qs dd pg po be s w).n = none := by rw [n0]; exact h3
  have e6 : dataF (lawA pds ts rs qs dd pg po be s w).data (lawA pds ts rs qs dd pg po be s w).n = none := by rw [n0]; exact h4
  have e7 : numF (lawA pds ts rs qs dd pg po be s w).pages 0 8 = none := if_pos (isBet_T h5)
  have e8 : numF (lawA pds ts rs qs dd pg po be s w).ports 0 6 = none := if_pos (isBet_T h6)
  have e9 : numF (lawA pds ts rs qs dd pg po be s w).bells 0 6 = none := if_pos (isBet_T h7)
  have e10 : linesF (lawA pds ts rs qs dd pg po be s w).lines (intD (lawA pds ts rs qs dd pg po be s w).bells) = none := by
    show linesF (.tuple []) be = none
    unfold linesF
    rw [badLen_F rfl ⟨Nat.zero_le _, Nat.zero_le _⟩, if_neg (by decide)]
    exact fb_none fun j e he => by cases he
  have e11 : rightsF (lawA pds ts rs qs dd pg po be s w).cnt (lawA pds ts rs qs dd pg po be s w).rights = none := h8
  unfold SA.fault
  rw [e1, e2, e3, e5, e6, e7, e8, e9, e10, e11, n0]
  rfl
def turnsD (ts : List Int) : List PyData := ts.zipIdx.map fun q => .tuple [.int (q.2 : Nat), .int q.1]
theorem turnsD_snoc (ts : List Int) (t : Int) : turnsD (ts ++ [t]) = turnsD ts ++ [.tuple [.int (ts.length : Nat), .int t]] := by
  unfold turnsD
  rw [List.zipIdx_append, List.map_append]
  simp
theorem turnsD_len (ts : List Int) : (turnsD ts).length = ts.length := by unfold turnsD; rw [List.length_map, List.length_zipIdx]
theorem turnsD_get {ts : List Int} {i : Nat} {t : Int} (h : ts[i]? = some t) : (turnsD ts)[i]? = some (.tuple [.int (i : Nat), .int t]) := by
  unfold turnsD
  rw [List.getElem?_map, List.getElem?_zipIdx, h]
  simp
theorem turnsD_mem {ts : List Int} {d : PyData} (h : d ∈ turnsD ts) : ∃ (i : Nat) (t : Int), ts[i]? = some t ∧ d = .tuple [.int (i : Nat), .int t] := by
  obtain ⟨i, hi⟩ := List.getElem?_of_mem h
  have hl := (List.getElem?_eq_some_iff.mp hi).1
  rw [turnsD_len] at hl
  have e := List.getElem?_eq_getElem hl
  refine ⟨i, ts[i], e, ?_⟩
  rw [turnsD_get e] at hi
  exact (Option.some.inj hi).symm
theorem turnsD_set (ts : List Int) (i : Nat) (t : Int) : turnsD (ts.set i t) = (turnsD ts).set i (.tuple [.int (i : Nat), .int t]) := by
  apply List.ext_getElem?
  intro j
  by_cases hj : j < ts.length
  · by_cases e : i = j
    · subst e
      rw [turnsD_get (t := t) (by rw [List.getElem?_set_self hj]), List.getElem?_set_self (by rw [turnsD_len]; exact hj)]
    · have g := List.getElem?_eq_getElem hj
      rw [turnsD_get (t := ts[j]) (by rw [List.getElem?_set_ne e]; exact g), List.getElem?_set_ne e, turnsD_get g]
  · rw [List.getElem?_eq_none (by rw [turnsD_len, List.length_set]; omega), List.getElem?_eq_none (by rw [List.length_set, turnsD_len]; omega)]
theorem mid2 (i t : Int) : noL (.tuple [.int i, .int t]) = true := by rw [noL]; exact noLs_2 rfl
theorem turns_bad {n i : Nat} {least t : Int} {ts : List Int} (h : 1 ≤ n ∧ n ≤ 6) (hl : ts.length = n) (hi : ts[i]? = some t) (hb : t < least) (ht : ∀ j u, j ≠ i → ts[j]? = some u → least ≤ u ∧ u ≤ 100000) : turnsF (.list (turnsD ts)) n least = some (i : Int) := by
  unfold turnsF
  rw [badLen_l (by rw [turnsD_len]; omega) (by rw [turnsD_len]; omega), if_neg (by decide)]
  show (match fb (turnB n least) (turnsD ts) with | some j => some j | none => if ownsAll (turnsD ts) n = true then none else some (-1)) = some (i : Int)
  rw [fb_some (turnsD_get hi) ?_ fun j e hj he => ?_]
  · rw [turnB_2 (x := .int (i : Nat)) (y := .int t) rfl rfl, isBet_N (i := t) (by omega), Bool.and_false]
  · obtain ⟨j', u, hu, rfl⟩ := turnsD_mem (List.mem_of_getElem? he)
    have hjl : j < ts.length := by rw [← turnsD_len]; exact (List.getElem?_eq_some_iff.mp he).1
    have g := List.getElem?_eq_getElem hjl
    rw [turnsD_get g] at he
    have b := ht j _ (by omega) g
    have he := (Option.some.inj he)
    rw [← he, turnB_2 (x := .int (j : Nat)) (y := .int ts[j]) rfl rfl, isBet_T ⟨by omega, by omega⟩, isBet_T ⟨by omega, by omega⟩]; rfl
theorem rows_turns (ts : List Int) : (turnsD ts).map tupD = turnsD ts := by
  unfold turnsD
  rw [List.map_map]
  rfl
theorem flat_turns {ts : List Int} (l : ts.length ≤ 1000) : flatD 2 (.tuple (turnsD ts)) = true := by
  rw [flatD, Bool.and_eq_true]
  refine ⟨List.all_eq_true.mpr fun d hd => ?_, decide_eq_true (by rw [turnsD_len]; omega)⟩
  obtain ⟨_, _, _, rfl⟩ := turnsD_mem hd
  rfl
theorem noLs_turns (ts : List Int) : noLs (turnsD ts) = true := noLs_all fun d hd => by
  obtain ⟨_, _, _, rfl⟩ := turnsD_mem hd
  exact mid2 _ _
theorem rep_dw {K : PySem.W.Frag} {W : Wd} {H : Hp} {v : V} {d : PyData} (h : DW K W H v d) : ∀ n : Nat, DWs K W H (List.replicate n [v]).flatten (List.replicate n d)
  | 0 => .nil
  | n + 1 => by
    rw [List.replicate_succ, List.flatten_cons, List.replicate_succ]
    exact .cons h (rep_dw h n)
theorem sum_ones : ∀ {zs : List Str}, (∀ z ∈ zs, z.length = 1) → (zs.map (·.length)).sum = zs.length
  | [], _ => rfl
  | z :: zs, h => by
    rw [List.map_cons, List.sum_cons, h z (List.mem_cons_self ..), sum_ones fun y hy => h y (List.mem_cons_of_mem _ hy), List.length_cons]; omega
theorem deed_len {nm : Str} (h : nm ∈ deedsL) : 0 < nm.length ∧ nm.length ≤ 8 := by
  have : ∀ x ∈ deedsL, 0 < x.length ∧ x.length ≤ 8 := by decide +kernel
  exact this nm h
theorem can_row {s : Int} {k : Nat} : canW (rowR s k) := by
  refine ⟨⟨?_, ?_⟩, ?_⟩
  · unfold rowR
    simp only [PyData.canLay0, PyData.canLayAll0]
    decide +kernel
  · show max 0 (max 0 (max (max 0 (max 0 0) + 1) (max 0 (max 0 0)))) + 1 ≤ 60
    decide
  · show ("ix" : Str).cps.size ≤ 50000
    decide +kernel
theorem new_ins {W : Wd} {H : Hp} {C x dx : Addr} (i : W.iv H) (hx : H x = none) (hd : H dx = none) (ne : dx ≠ x) : Ex W H (upd (upd H dx (.own x)) x (.ins C dx [])) ∧ At W (upd (upd H dx (.own x)) x (.ins C dx [])) x (.ins C dx []) := by
  have e1 : Ex W H (upd H dx (.own x)) := Ex.new i hd
  have n1 : (upd H dx (.own x)) x = none := by rw [upd_ne (Ne.symm ne)]; exact hx
  exact ⟨e1.trans (Ex.new e1.iv n1), At.new e1.iv n1⟩
theorem lawA_size {K : PySem.W.Frag} {C : Addr} {W : Wd} {H : Hp} {p : Addr} {pds : List PyData} {ts : List Int} {rs qs dd : PyData} {pg po be s w n : Int} (sa : SetupAt K C W H p (lawA pds ts rs qs dd pg po be s w).kept) (hn : (pds.length : Int) = n) : SizeAt K C W H p n s w := by
  obtain ⟨dx, vp, vt, vq, vd, vl, vr, a, h1, _⟩ := sa
  exact ⟨dx, _, vp, pds.map rowsD, a, rfl, rfl, rfl, h1, by rw [List.length_map]; exact hn⟩
theorem rowR_noL (s : Int) (k : Nat) : noL (rowR s k) = true := by
  unfold rowR
  simp [noL, noLs]
theorem quot_ok {qs : List Int} {n : Int} (hl : (qs.length : Int) = n) (hb : ∀ q ∈ qs, 0 ≤ q ∧ q ≤ 8) : quotasF (.list (qs.map .int)) n = none := by
  unfold quotasF
  rw [if_neg (fun z => nomatch z), if_neg (fun o => o.elim (fun z => nomatch z) fun z => z (by show ((qs.map PyData.int).length : Int) = n; rw [List.length_map]; exact hl))]
  exact fb_none fun j e he => by
    obtain ⟨q, hq, rfl⟩ := List.mem_map.mp (List.mem_of_getElem? he)
    exact isBet_T (hb q hq)
theorem data_ok {ds : List PyData} {n : Int} (hl : (ds.length : Int) = n) (hb : ∀ d ∈ ds, dataB d = true) : dataF (.list ds) n = none := by
  unfold dataF
  rw [if_neg (fun z => nomatch z), if_neg (fun o => o.elim (fun z => nomatch z) fun z => z hl)]
  exact fb_none fun j e he => hb e (List.mem_of_getElem? he)
theorem rep_data {w : Int} {m : Nat} (h : 0 ≤ w ∧ w < 1048576) (hm : m ≤ 64) : dataB (.list (List.replicate m (.int w))) = true := by
  rw [dataB_T rfl (by show (List.replicate m (PyData.int w)).length ≤ 64; rw [List.length_replicate]; exact hm)]
  refine List.all_eq_true.mpr fun d hd => ?_
  rw [List.eq_of_mem_replicate (show d ∈ List.replicate m (PyData.int w) from hd)]
  exact decide_eq_true h
theorem rgts_ok {c : Cnt} {s : Int} {m : Nat} (h : (m : Int) ≤ c.n) (h2 : c.slots = s) (h3 : 0 < s) : rightsF c (rgtsA s m) = none := by
  unfold rightsF
  rw [if_neg (fun z => nomatch z)]
  show rightsGo c ((List.range m).map (rowR s)) [] [] 0 = none
  rw [List.range_eq_range']
  exact rightsGo_ok h2 h3 m 0 [] [] 0 (by omega) (fun _ h => nomatch h)
def spLaw (K : PySem.W.Frag) : Sp := fun vs H Q _ => ∃ (a : Addr) (ns : List Int), vs = [.ref a] ∧ SqL K H a (ns.map V.int) ∧ ns.length ≤ 63 ∧ ∀ H', Q (.bl true) H'
structure Tx (P : Program) (w : World) (K : PySem.W.Frag) (mg : Str → Option Value) where
  f_is_integer : Addr
  fd_is_integer : FuncData
  F_is_integer : Fun K "is_integer" "is_integer" s_is_integer f_is_integer fd_is_integer
  b_is_integer : Binds K fd_is_integer ["value"] []
  g_is_integer : mg "is_integer" = some (.ref f_is_integer)
  f_is_word : Addr
  fd_is_word : FuncData
  F_is_word : Fun K "is_word" "is_word" s_is_word f_is_word fd_is_word
  b_is_word : Binds K fd_is_word ["value"] []
  g_is_word : mg "is_word" = some (.ref f_is_word)
  f_is_kind : Addr
  fd_is_kind : FuncData
  F_is_kind : Fun K "_is_kind" "_is_kind" s_is_kind f_is_kind fd_is_kind
  b_is_kind : Binds K fd_is_kind ["kind"] []
  g_is_kind : mg "_is_kind" = some (.ref f_is_kind)
  f_in_order : Addr
  fd_in_order : FuncData
  F_in_order : Fun K "in_order" "in_order" s_in_order f_in_order fd_in_order
  b_in_order : Binds K fd_in_order ["kind", "letters"] []
  g_in_order : mg "in_order" = some (.ref f_in_order)
  f_is_row : Addr
  fd_is_row : FuncData
  F_is_row : Fun K "is_row" "is_row" s_is_row f_is_row fd_is_row
  b_is_row : Binds K fd_is_row ["value"] []
  g_is_row : mg "is_row" = some (.ref f_is_row)
  f_bound : Addr
  fd_bound : FuncData
  F_bound : Fun K "_bound" "_bound" s_bound f_bound fd_bound
  b_bound : Binds K fd_bound ["role", "length"] []
  g_bound : mg "_bound" = some (.ref f_bound)
  f_fits : Addr
  fd_fits : FuncData
  F_fits : Fun K "_fits" "_fits" s_fits f_fits fd_fits
  b_fits : Binds K fd_fits ["part", "role", "length"] []
  g_fits : mg "_fits" = some (.ref f_fits)
  f_is_instruction : Addr
  fd_is_instruction : FuncData
  F_is_instruction : Fun K "is_instruction" "is_instruction" s_is_instruction f_is_instruction fd_is_instruction
  b_is_instruction : Binds K fd_is_instruction ["item", "length"] []
  g_is_instruction : mg "is_instruction" = some (.ref f_is_instruction)
  f_check_program : Addr
  fd_check_program : FuncData
  F_check_program : Fun K "check_program" "check_program" s_check_program f_check_program fd_check_program
  b_check_program : Binds K fd_check_program ["value"] []
  g_check_program : mg "check_program" = some (.ref f_check_program)
  f_kind_counts : Addr
  fd_kind_counts : FuncData
  F_kind_counts : Fun K "kind_counts" "kind_counts" s_kind_counts f_kind_counts fd_kind_counts
  b_kind_counts : Binds K fd_kind_counts ["setup"] []
  g_kind_counts : mg "kind_counts" = some (.ref f_kind_counts)
  f_kind_of : Addr
  fd_kind_of : FuncData
  F_kind_of : Fun K "kind_of" "kind_of" s_kind_of f_kind_of fd_kind_of
  b_kind_of : Binds K fd_kind_of ["thing"] []
  g_kind_of : mg "kind_of" = some (.ref f_kind_of)
  f_is_thing : Addr
  fd_is_thing : FuncData
  F_is_thing : Fun K "is_thing" "is_thing" s_is_thing f_is_thing fd_is_thing
  b_is_thing : Binds K fd_is_thing ["setup", "thing"] []
  g_is_thing : mg "is_thing" = some (.ref f_is_thing)
  f_is_between : Addr
  fd_is_between : FuncData
  F_is_between : Fun K "is_between" "is_between" s_is_between f_is_between fd_is_between
  b_is_between : Binds K fd_is_between ["value", "low", "high"] []
  g_is_between : mg "is_between" = some (.ref f_is_between)
  f_free_price : Addr
  fd_free_price : FuncData
  F_free_price : Fun K "free_price" "free_price" s_free_price f_free_price fd_free_price
  b_free_price : Binds K fd_free_price ["processes", "slots", "windows"] []
  g_free_price : mg "free_price" = some (.ref f_free_price)
  f_least_ticks : Addr
  fd_least_ticks : FuncData
  F_least_ticks : Fun K "least_ticks" "least_ticks" s_least_ticks f_least_ticks fd_least_ticks
  b_least_ticks : Binds K fd_least_ticks ["processes", "slots", "windows"] []
  g_least_ticks : mg "least_ticks" = some (.ref f_least_ticks)
  f_checked_number : Addr
  fd_checked_number : FuncData
  F_checked_number : Fun K "checked_number" "checked_number" s_checked_number f_checked_number fd_checked_number
  b_checked_number : Binds K fd_checked_number ["field", "value", "low", "high"] []
  g_checked_number : mg "checked_number" = some (.ref f_checked_number)
  f_checked_programs : Addr
  fd_checked_programs : FuncData
  F_checked_programs : Fun K "checked_programs" "checked_programs" s_checked_programs f_checked_programs fd_checked_programs
  b_checked_programs : Binds K fd_checked_programs ["programs"] []
  g_checked_programs : mg "checked_programs" = some (.ref f_checked_programs)
  f_is_turn : Addr
  fd_is_turn : FuncData
  F_is_turn : Fun K "is_turn" "is_turn" s_is_turn f_is_turn fd_is_turn
  b_is_turn : Binds K fd_is_turn ["value", "processes", "least"] []
  g_is_turn : mg "is_turn" = some (.ref f_is_turn)
  f_checked_turns : Addr
  fd_checked_turns : FuncData
  F_checked_turns : Fun K "checked_turns" "checked_turns" s_checked_turns f_checked_turns fd_checked_turns
  b_checked_turns : Binds K fd_checked_turns ["turns", "processes", "least"] []
  g_checked_turns : mg "checked_turns" = some (.ref f_checked_turns)
  f_checked_quotas : Addr
  fd_checked_quotas : FuncData
  F_checked_quotas : Fun K "checked_quotas" "checked_quotas" s_checked_quotas f_checked_quotas fd_checked_quotas
  b_checked_quotas : Binds K fd_checked_quotas ["quotas", "processes"] []
  g_checked_quotas : mg "checked_quotas" = some (.ref f_checked_quotas)
  f_is_data : Addr
  fd_is_data : FuncData
  F_is_data : Fun K "is_data" "is_data" s_is_data f_is_data fd_is_data
  b_is_data : Binds K fd_is_data ["value"] []
  g_is_data : mg "is_data" = some (.ref f_is_data)
  f_checked_data : Addr
  fd_checked_data : FuncData
  F_checked_data : Fun K "checked_data" "checked_data" s_checked_data f_checked_data fd_checked_data
  b_checked_data : Binds K fd_checked_data ["data", "processes"] []
  g_checked_data : mg "checked_data" = some (.ref f_checked_data)
  f_checked_lines : Addr
  fd_checked_lines : FuncData
  F_checked_lines : Fun K "checked_lines" "checked_lines" s_checked_lines f_checked_lines fd_checked_lines
  b_checked_lines : Binds K fd_checked_lines ["lines", "bells"] []
  g_checked_lines : mg "checked_lines" = some (.ref f_checked_lines)
  f_right_row : Addr
  fd_right_row : FuncData
  F_right_row : Fun K "right_row" "right_row" s_right_row f_right_row fd_right_row
  b_right_row : Binds K fd_right_row ["setup", "value"] []
  g_right_row : mg "right_row" = some (.ref f_right_row)
  f_fits_parent : Addr
  fd_fits_parent : FuncData
  F_fits_parent : Fun K "fits_parent" "fits_parent" s_fits_parent f_fits_parent fd_fits_parent
  b_fits_parent : Binds K fd_fits_parent ["row", "earlier"] []
  g_fits_parent : mg "fits_parent" = some (.ref f_fits_parent)
  f_checked_rights : Addr
  fd_checked_rights : FuncData
  F_checked_rights : Fun K "checked_rights" "checked_rights" s_checked_rights f_checked_rights fd_checked_rights
  b_checked_rights : Binds K fd_checked_rights ["setup", "rights"] []
  g_checked_rights : mg "checked_rights" = some (.ref f_checked_rights)
  e_Setup__init_rights : Addr
  K_e_Setup__init_rights : KTup K e_Setup__init_rights []
  e_Setup__init_lines : Addr
  K_e_Setup__init_lines : KTup K e_Setup__init_lines []
  f_Setup__init : Addr
  fd_Setup__init : FuncData
  F_Setup__init : FunD K "__init__" "Setup.__init__" (defArgs s_Setup__init) (defBody s_Setup__init) (defScope s_Setup__init) [] [("rights", .ref e_Setup__init_rights), ("quotas", .non), ("data", .non), ("pages", .int 0), ("ports", .int 0), ("bells", .int 0), ("lines", .ref e_Setup__init_lines), ("slots", .int 8), ("windows", .int 2)] f_Setup__init fd_Setup__init
  f_price : Addr
  fd_price : FuncData
  F_price : Fun K "price" "price" s_price f_price fd_price
  b_price : Binds K fd_price ["setup", "name"] []
  g_price : mg "price" = some (.ref f_price)
  f_law_bag : Addr
  fd_law_bag : FuncData
  F_law_bag : Fun K "_law_bag" "_law_bag" s_law_bag f_law_bag fd_law_bag
  b_law_bag : Binds K fd_law_bag ["script"] []
  g_law_bag : mg "_law_bag" = some (.ref f_law_bag)
  f_law_take : Addr
  fd_law_take : FuncData
  F_law_take : Fun K "_law_take" "_law_take" s_law_take f_law_take fd_law_take
  b_law_take : Binds K fd_law_take ["bag", "many"] []
  g_law_take : mg "_law_take" = some (.ref f_law_take)
  f_law_within : Addr
  fd_law_within : FuncData
  F_law_within : Fun K "_law_within" "_law_within" s_law_within f_law_within fd_law_within
  b_law_within : Binds K fd_law_within ["bag", "low", "high"] []
  g_law_within : mg "_law_within" = some (.ref f_law_within)
  f_law_word : Addr
  fd_law_word : FuncData
  F_law_word : Fun K "_law_word" "_law_word" s_law_word f_law_word fd_law_word
  b_law_word : Binds K fd_law_word ["bag"] []
  g_law_word : mg "_law_word" = some (.ref f_law_word)
  f_law_deeds : Addr
  fd_law_deeds : FuncData
  F_law_deeds : Fun K "_law_deeds" "_law_deeds" s_law_deeds f_law_deeds fd_law_deeds
  b_law_deeds : Binds K fd_law_deeds [] []
  g_law_deeds : mg "_law_deeds" = some (.ref f_law_deeds)
  f_law_instruction : Addr
  fd_law_instruction : FuncData
  F_law_instruction : Fun K "_law_instruction" "_law_instruction" s_law_instruction f_law_instruction fd_law_instruction
  b_law_instruction : Binds K fd_law_instruction ["bag", "length"] []
  g_law_instruction : mg "_law_instruction" = some (.ref f_law_instruction)
  f_law_program : Addr
  fd_law_program : FuncData
  F_law_program : Fun K "_law_program" "_law_program" s_law_program f_law_program fd_law_program
  b_law_program : Binds K fd_law_program ["bag", "most"] []
  g_law_program : mg "_law_program" = some (.ref f_law_program)
  f_law_same : Addr
  fd_law_same : FuncData
  F_law_same : Fun K "_law_same" "_law_same" s_law_same f_law_same fd_law_same
  b_law_same : Binds K fd_law_same ["told", "due"] []
  g_law_same : mg "_law_same" = some (.ref f_law_same)
  f_law_price : Addr
  fd_law_price : FuncData
  F_law_price : Fun K "_law_price" "_law_price" s_law_price f_law_price fd_law_price
  b_law_price : Binds K fd_law_price ["name", "sizes"] []
  g_law_price : mg "_law_price" = some (.ref f_law_price)
  f_law_sizes : Addr
  fd_law_sizes : FuncData
  F_law_sizes : Fun K "_law_sizes" "_law_sizes" s_law_sizes f_law_sizes fd_law_sizes
  b_law_sizes : Binds K fd_law_sizes ["bag"] []
  g_law_sizes : mg "_law_sizes" = some (.ref f_law_sizes)
  f_law_setup : Addr
  fd_law_setup : FuncData
  F_law_setup : Fun K "_law_setup" "_law_setup" s_law_setup f_law_setup fd_law_setup
  b_law_setup : Binds K fd_law_setup ["bag", "sizes", "shift"] []
  g_law_setup : mg "_law_setup" = some (.ref f_law_setup)
  f_law_letter : Addr
  fd_law_letter : FuncData
  F_law_letter : Fun K "_law_letter" "_law_letter" s_law_letter f_law_letter fd_law_letter
  b_law_letter : Binds K fd_law_letter ["bag"] []
  g_law_letter : mg "_law_letter" = some (.ref f_law_letter)
  f_law_strangers : Addr
  fd_law_strangers : FuncData
  F_law_strangers : Fun K "_law_strangers" "_law_strangers" s_law_strangers f_law_strangers fd_law_strangers
  b_law_strangers : Binds K fd_law_strangers ["bag"] []
  g_law_strangers : mg "_law_strangers" = some (.ref f_law_strangers)
  f_law_unknown : Addr
  fd_law_unknown : FuncData
  F_law_unknown : Fun K "_law_unknown" "_law_unknown" s_law_unknown f_law_unknown fd_law_unknown
  b_law_unknown : Binds K fd_law_unknown ["setup", "name"] []
  g_law_unknown : mg "_law_unknown" = some (.ref f_law_unknown)
  f_law_asks_names : Addr
  fd_law_asks_names : FuncData
  F_law_asks_names : Fun K "_law_asks_names" "_law_asks_names" s_law_asks_names f_law_asks_names fd_law_asks_names
  b_law_asks_names : Binds K fd_law_asks_names ["setup", "sizes", "names"] []
  g_law_asks_names : mg "_law_asks_names" = some (.ref f_law_asks_names)
  f_law_asks_strangers : Addr
  fd_law_asks_strangers : FuncData
  F_law_asks_strangers : Fun K "_law_asks_strangers" "_law_asks_strangers" s_law_asks_strangers f_law_asks_strangers fd_law_asks_strangers
  b_law_asks_strangers : Binds K fd_law_asks_strangers ["bag", "setup", "sizes"] []
  g_law_asks_strangers : mg "_law_asks_strangers" = some (.ref f_law_asks_strangers)
  f_law_asks_turns : Addr
  fd_law_asks_turns : FuncData
  F_law_asks_turns : Fun K "_law_asks_turns" "_law_asks_turns" s_law_asks_turns f_law_asks_turns fd_law_asks_turns
  b_law_asks_turns : Binds K fd_law_asks_turns ["bag", "sizes"] []
  g_law_asks_turns : mg "_law_asks_turns" = some (.ref f_law_asks_turns)
  a_DEEDS : Addr
  g_DEEDS : mg "DEEDS" = some (.ref a_DEEDS)
  q_DEEDS : ∀ H : Hp, SqT K H a_DEEDS [.str "halt", .str "until", .str "clock", .str "look", .str "claim", .str "free", .str "copy", .str "drop", .str "revoke", .str "map", .str "unmap", .str "send", .str "take", .str "trysend", .str "trytake", .str "call", .str "reply", .str "ring", .str "await", .str "tryawait", .str "ack", .str "give", .str "pull"]
  K_DEEDS : KTup K a_DEEDS [.str "halt", .str "until", .str "clock", .str "look", .str "claim", .str "free", .str "copy", .str "drop", .str "revoke", .str "map", .str "unmap", .str "send", .str "take", .str "trysend", .str "trytake", .str "call", .str "reply", .str "ring", .str "await", .str "tryawait", .str "ack", .str "give", .str "pull"]
  a_LETTERS : Addr
  es_LETTERS : Array DictEntry
  n_LETTERS : Nat
  g_LETTERS : mg "LETTERS" = some (.ref a_LETTERS)
  D_LETTERS : KDict K w a_LETTERS es_LETTERS n_LETTERS
  x_LETTERS : ∀ z : Str, z ∉ (["page", "claim", "port", "bell", "line", "process"] : List Str) → PySem.W.nsIn K a_LETTERS z = some none
  t_LETTERS_page : Tok
  i_LETTERS_page : PySem.W.nsIn K a_LETTERS "page" = some (some (.str "rw" t_LETTERS_page))
  t_LETTERS_claim : Tok
  i_LETTERS_claim : PySem.W.nsIn K a_LETTERS "claim" = some (some (.str "rw" t_LETTERS_claim))
  t_LETTERS_port : Tok
  i_LETTERS_port : PySem.W.nsIn K a_LETTERS "port" = some (some (.str "sgt" t_LETTERS_port))
  t_LETTERS_bell : Tok
  i_LETTERS_bell : PySem.W.nsIn K a_LETTERS "bell" = some (some (.str "ka" t_LETTERS_bell))
  t_LETTERS_line : Tok
  i_LETTERS_line : PySem.W.nsIn K a_LETTERS "line" = some (some (.str "y" t_LETTERS_line))
  t_LETTERS_process : Tok
  i_LETTERS_process : PySem.W.nsIn K a_LETTERS "process" = some (some (.str "ix" t_LETTERS_process))
  t_LONGEST : Tok
  g_LONGEST : mg "LONGEST" = some (.int 4000 t_LONGEST)
  t_MOST_BELLS : Tok
  g_MOST_BELLS : mg "MOST_BELLS" = some (.int 6 t_MOST_BELLS)
  t_MOST_CLAIMS : Tok
  g_MOST_CLAIMS : mg "MOST_CLAIMS" = some (.int 8 t_MOST_CLAIMS)
  t_MOST_DATA : Tok
  g_MOST_DATA : mg "MOST_DATA" = some (.int 64 t_MOST_DATA)
  t_MOST_LINES : Tok
  g_MOST_LINES : mg "MOST_LINES" = some (.int 4 t_MOST_LINES)
  t_MOST_PAGES : Tok
  g_MOST_PAGES : mg "MOST_PAGES" = some (.int 8 t_MOST_PAGES)
  t_MOST_PORTS : Tok
  g_MOST_PORTS : mg "MOST_PORTS" = some (.int 6 t_MOST_PORTS)
  t_MOST_PROCESSES : Tok
  g_MOST_PROCESSES : mg "MOST_PROCESSES" = some (.int 6 t_MOST_PROCESSES)
  t_MOST_SLOTS : Tok
  g_MOST_SLOTS : mg "MOST_SLOTS" = some (.int 48 t_MOST_SLOTS)
  t_MOST_TICKS : Tok
  g_MOST_TICKS : mg "MOST_TICKS" = some (.int 100000 t_MOST_TICKS)
  t_MOST_TURNS : Tok
  g_MOST_TURNS : mg "MOST_TURNS" = some (.int 12 t_MOST_TURNS)
  t_MOST_WINDOWS : Tok
  g_MOST_WINDOWS : mg "MOST_WINDOWS" = some (.int 16 t_MOST_WINDOWS)
  a_PRICES : Addr
  es_PRICES : Array DictEntry
  n_PRICES : Nat
  g_PRICES : mg "PRICES" = some (.ref a_PRICES)
  D_PRICES : KDict K w a_PRICES es_PRICES n_PRICES
  x_PRICES : ∀ z : Str, z ∉ (["halt", "until", "clock", "look", "claim", "copy", "map", "unmap", "send", "take", "trysend", "trytake", "call", "reply", "ring", "await", "tryawait", "ack", "give", "pull"] : List Str) → PySem.W.nsIn K a_PRICES z = some none
  t_PRICES_halt : Tok
  i_PRICES_halt : PySem.W.nsIn K a_PRICES "halt" = some (some (.int 2 t_PRICES_halt))
  t_PRICES_until : Tok
  i_PRICES_until : PySem.W.nsIn K a_PRICES "until" = some (some (.int 1 t_PRICES_until))
  t_PRICES_clock : Tok
  i_PRICES_clock : PySem.W.nsIn K a_PRICES "clock" = some (some (.int 1 t_PRICES_clock))
  t_PRICES_look : Tok
  i_PRICES_look : PySem.W.nsIn K a_PRICES "look" = some (some (.int 1 t_PRICES_look))
  t_PRICES_claim : Tok
  i_PRICES_claim : PySem.W.nsIn K a_PRICES "claim" = some (some (.int 10 t_PRICES_claim))
  t_PRICES_copy : Tok
  i_PRICES_copy : PySem.W.nsIn K a_PRICES "copy" = some (some (.int 2 t_PRICES_copy))
  t_PRICES_map : Tok
  i_PRICES_map : PySem.W.nsIn K a_PRICES "map" = some (some (.int 2 t_PRICES_map))
  t_PRICES_unmap : Tok
  i_PRICES_unmap : PySem.W.nsIn K a_PRICES "unmap" = some (some (.int 2 t_PRICES_unmap))
  t_PRICES_send : Tok
  i_PRICES_send : PySem.W.nsIn K a_PRICES "send" = some (some (.int 6 t_PRICES_send))
  t_PRICES_take : Tok
  i_PRICES_take : PySem.W.nsIn K a_PRICES "take" = some (some (.int 6 t_PRICES_take))
  t_PRICES_trysend : Tok
  i_PRICES_trysend : PySem.W.nsIn K a_PRICES "trysend" = some (some (.int 6 t_PRICES_trysend))
  t_PRICES_trytake : Tok
  i_PRICES_trytake : PySem.W.nsIn K a_PRICES "trytake" = some (some (.int 6 t_PRICES_trytake))
  t_PRICES_call : Tok
  i_PRICES_call : PySem.W.nsIn K a_PRICES "call" = some (some (.int 5 t_PRICES_call))
  t_PRICES_reply : Tok
  i_PRICES_reply : PySem.W.nsIn K a_PRICES "reply" = some (some (.int 5 t_PRICES_reply))
  t_PRICES_ring : Tok
  i_PRICES_ring : PySem.W.nsIn K a_PRICES "ring" = some (some (.int 2 t_PRICES_ring))
  t_PRICES_await : Tok
  i_PRICES_await : PySem.W.nsIn K a_PRICES "await" = some (some (.int 1 t_PRICES_await))
  t_PRICES_tryawait : Tok
  i_PRICES_tryawait : PySem.W.nsIn K a_PRICES "tryawait" = some (some (.int 1 t_PRICES_tryawait))
  t_PRICES_ack : Tok
  i_PRICES_ack : PySem.W.nsIn K a_PRICES "ack" = some (some (.int 1 t_PRICES_ack))
  t_PRICES_give : Tok
  i_PRICES_give : PySem.W.nsIn K a_PRICES "give" = some (some (.int 2 t_PRICES_give))
  t_PRICES_pull : Tok
  i_PRICES_pull : PySem.W.nsIn K a_PRICES "pull" = some (some (.int 2 t_PRICES_pull))
  t_REGISTERS : Tok
  g_REGISTERS : mg "REGISTERS" = some (.int 8 t_REGISTERS)
  a_ROLES : Addr
  es_ROLES : Array DictEntry
  n_ROLES : Nat
  g_ROLES : mg "ROLES" = some (.ref a_ROLES)
  D_ROLES : KDict K w a_ROLES es_ROLES n_ROLES
  x_ROLES : ∀ z : Str, z ∉ (["set", "move", "add", "sub", "load", "store", "jump", "zero", "deed"] : List Str) → PySem.W.nsIn K a_ROLES z = some none
  r_ROLES_set : Addr
  i_ROLES_set : PySem.W.nsIn K a_ROLES "set" = some (some (.ref r_ROLES_set))
  q_ROLES_set : ∀ H : Hp, SqT K H r_ROLES_set [.str "register", .str "word"]
  r_ROLES_move : Addr
  i_ROLES_move : PySem.W.nsIn K a_ROLES "move" = some (some (.ref r_ROLES_move))
  q_ROLES_move : ∀ H : Hp, SqT K H r_ROLES_move [.str "register", .str "register"]
  r_ROLES_add : Addr
  i_ROLES_add : PySem.W.nsIn K a_ROLES "add" = some (some (.ref r_ROLES_add))
  q_ROLES_add : ∀ H : Hp, SqT K H r_ROLES_add [.str "register", .str "register"]
  r_ROLES_sub : Addr
  i_ROLES_sub : PySem.W.nsIn K a_ROLES "sub" = some (some (.ref r_ROLES_sub))
  q_ROLES_sub : ∀ H : Hp, SqT K H r_ROLES_sub [.str "register", .str "register"]
  r_ROLES_load : Addr
  i_ROLES_load : PySem.W.nsIn K a_ROLES "load" = some (some (.ref r_ROLES_load))
  q_ROLES_load : ∀ H : Hp, SqT K H r_ROLES_load [.str "register", .str "register"]
  r_ROLES_store : Addr
  i_ROLES_store : PySem.W.nsIn K a_ROLES "store" = some (some (.ref r_ROLES_store))
  q_ROLES_store : ∀ H : Hp, SqT K H r_ROLES_store [.str "register", .str "register"]
  r_ROLES_jump : Addr
  i_ROLES_jump : PySem.W.nsIn K a_ROLES "jump" = some (some (.ref r_ROLES_jump))
  q_ROLES_jump : ∀ H : Hp, SqT K H r_ROLES_jump [.str "target"]
  r_ROLES_zero : Addr
  i_ROLES_zero : PySem.W.nsIn K a_ROLES "zero" = some (some (.ref r_ROLES_zero))
  q_ROLES_zero : ∀ H : Hp, SqT K H r_ROLES_zero [.str "register", .str "target"]
  r_ROLES_deed : Addr
  i_ROLES_deed : PySem.W.nsIn K a_ROLES "deed" = some (some (.ref r_ROLES_deed))
  q_ROLES_deed : ∀ H : Hp, SqT K H r_ROLES_deed [.str "deed"]
  t_WORD : Tok
  g_WORD : mg "WORD" = some (.int 1048576 t_WORD)
  c_InputError : Addr
  gc_InputError : mg "InputError" = some (.ref c_InputError)
  c_BadNumber : Addr
  gc_BadNumber : mg "BadNumber" = some (.ref c_BadNumber)
  c_BadProgram : Addr
  gc_BadProgram : mg "BadProgram" = some (.ref c_BadProgram)
  i_BadProgram : Addr
  S_BadProgram : PySem.SupX.SupTxt P K mg "BadProgram" "index" c_BadProgram i_BadProgram
  I_BadProgram : IsC K c_BadProgram
  m_BadProgram : PySem.W.exmOne K (.ref c_BadProgram) (.ref c_BadProgram) = some true
  c_BadSetup : Addr
  gc_BadSetup : mg "BadSetup" = some (.ref c_BadSetup)
  i_BadSetup : Addr
  S_BadSetup : PySem.SupY.SupTxt2 P K mg "BadSetup" "field" "index" c_BadSetup i_BadSetup
  I_BadSetup : IsC K c_BadSetup
  m_BadSetup : PySem.W.exmOne K (.ref c_BadSetup) (.ref c_BadSetup) = some true
  c_BadDeed : Addr
  gc_BadDeed : mg "BadDeed" = some (.ref c_BadDeed)
  i_BadDeed : Addr
  S_BadDeed : PySem.SupX.SupTxt P K mg "BadDeed" "name" c_BadDeed i_BadDeed
  I_BadDeed : IsC K c_BadDeed
  m_BadDeed : PySem.W.exmOne K (.ref c_BadDeed) (.ref c_BadDeed) = some true
  c_Setup : Addr
  gc_Setup : mg "Setup" = some (.ref c_Setup)
  cl_Setup : Cls K c_Setup
  na_Setup_programs : NoAttr K c_Setup "programs"
  na_Setup_slots : NoAttr K c_Setup "slots"
  na_Setup_windows : NoAttr K c_Setup "windows"
  na_Setup_turns : NoAttr K c_Setup "turns"
  na_Setup_quotas : NoAttr K c_Setup "quotas"
  na_Setup_data : NoAttr K c_Setup "data"
  na_Setup_pages : NoAttr K c_Setup "pages"
  na_Setup_ports : NoAttr K c_Setup "ports"
  na_Setup_bells : NoAttr K c_Setup "bells"
  na_Setup_lines : NoAttr K c_Setup "lines"
  na_Setup_rights : NoAttr K c_Setup "rights"
  mk_Setup : Mk K c_Setup f_Setup__init
  gk_Setup_0 : List Value → List Value → List Value
  kb_Setup_0 : KBn K fd_Setup__init ["self", "programs", "turns", "rights", "quotas", "data", "pages", "ports", "bells", "lines", "slots", "windows"] 3 ["rights", "quotas", "data", "pages", "ports", "bells", "slots", "windows"] gk_Setup_0 (fun vs zs => vs ++ (zs.drop 0).take 1 ++ (zs.drop 1).take 1 ++ (zs.drop 2).take 1 ++ (zs.drop 3).take 1 ++ (zs.drop 4).take 1 ++ (zs.drop 5).take 1 ++ [.ref e_Setup__init_lines] ++ (zs.drop 6).take 1 ++ (zs.drop 7).take 1)
  gk_Setup_1 : List Value → List Value → List Value
  kb_Setup_1 : KBn K fd_Setup__init ["self", "programs", "turns", "rights", "quotas", "data", "pages", "ports", "bells", "lines", "slots", "windows"] 3 ["slots", "windows"] gk_Setup_1 (fun vs zs => vs ++ [.ref e_Setup__init_rights] ++ [.non] ++ [.non] ++ [.int 0] ++ [.int 0] ++ [.int 0] ++ [.ref e_Setup__init_lines] ++ (zs.drop 0).take 1 ++ (zs.drop 1).take 1)
  k_BadProgram_InputError : PySem.W.kitOne K (.ref c_BadProgram) (.ref c_InputError) = some true
  k_BadProgram_BadNumber : PySem.W.kitOne K (.ref c_BadProgram) (.ref c_BadNumber) = some false
  k_BadProgram_BadProgram : PySem.W.kitOne K (.ref c_BadProgram) (.ref c_BadProgram) = some true
  k_BadProgram_BadSetup : PySem.W.kitOne K (.ref c_BadProgram) (.ref c_BadSetup) = some false
  k_BadProgram_BadDeed : PySem.W.kitOne K (.ref c_BadProgram) (.ref c_BadDeed) = some false
  k_BadProgram_Setup : PySem.W.kitOne K (.ref c_BadProgram) (.ref c_Setup) = some false
  k_BadProgram_ValueError : PySem.W.kitOne K (.ref c_BadProgram) (.type "ValueError") = some true
  k_BadSetup_InputError : PySem.W.kitOne K (.ref c_BadSetup) (.ref c_InputError) = some true
  k_BadSetup_BadNumber : PySem.W.kitOne K (.ref c_BadSetup) (.ref c_BadNumber) = some false
  k_BadSetup_BadProgram : PySem.W.kitOne K (.ref c_BadSetup) (.ref c_BadProgram) = some false
  k_BadSetup_BadSetup : PySem.W.kitOne K (.ref c_BadSetup) (.ref c_BadSetup) = some true
  k_BadSetup_BadDeed : PySem.W.kitOne K (.ref c_BadSetup) (.ref c_BadDeed) = some false
  k_BadSetup_Setup : PySem.W.kitOne K (.ref c_BadSetup) (.ref c_Setup) = some false
  k_BadSetup_ValueError : PySem.W.kitOne K (.ref c_BadSetup) (.type "ValueError") = some true
  k_BadDeed_InputError : PySem.W.kitOne K (.ref c_BadDeed) (.ref c_InputError) = some true
  k_BadDeed_BadNumber : PySem.W.kitOne K (.ref c_BadDeed) (.ref c_BadNumber) = some false
  k_BadDeed_BadProgram : PySem.W.kitOne K (.ref c_BadDeed) (.ref c_BadProgram) = some false
  k_BadDeed_BadSetup : PySem.W.kitOne K (.ref c_BadDeed) (.ref c_BadSetup) = some false
  k_BadDeed_BadDeed : PySem.W.kitOne K (.ref c_BadDeed) (.ref c_BadDeed) = some true
  k_BadDeed_Setup : PySem.W.kitOne K (.ref c_BadDeed) (.ref c_Setup) = some false
  k_BadDeed_ValueError : PySem.W.kitOne K (.ref c_BadDeed) (.type "ValueError") = some true
  n_all : mg "all" = none
  n_bool : mg "bool" = none
  n_enumerate : mg "enumerate" = none
  n_int : mg "int" = none
  n_isinstance : mg "isinstance" = none
  n_len : mg "len" = none
  n_list : mg "list" = none
  n_range : mg "range" = none
  n_str : mg "str" = none
  n_tuple : mg "tuple" = none

/-! ### what the top has written -/
section
variable {P : Program} {w : World} {K : PySem.W.Frag} {mg : Str → Option Value}
theorem roles_in (T : Tx P w K mg) {n : Str} (h : n ∈ names9) : ∃ r, PySem.W.nsIn K T.a_ROLES n = some (some (.ref r)) ∧ ∀ H : Hp, SqT K H r ((rolesF n).map V.str) := by
  unfold names9 at h
  simp only [List.mem_cons, List.not_mem_nil, or_false] at h
  rcases h with rfl | rfl | rfl | rfl | rfl | rfl | rfl | rfl | rfl
  · exact ⟨_, T.i_ROLES_set, T.q_ROLES_set⟩
  · exact ⟨_, T.i_ROLES_move, T.q_ROLES_move⟩
  · exact ⟨_, T.i_ROLES_add, T.q_ROLES_add⟩
  · exact ⟨_, T.i_ROLES_sub, T.q_ROLES_sub⟩
  · exact ⟨_, T.i_ROLES_load, T.q_ROLES_load⟩
  · exact ⟨_, T.i_ROLES_store, T.q_ROLES_store⟩
  · exact ⟨_, T.i_ROLES_jump, T.q_ROLES_jump⟩
  · exact ⟨_, T.i_ROLES_zero, T.q_ROLES_zero⟩
  · exact ⟨_, T.i_ROLES_deed, T.q_ROLES_deed⟩
end
/-! ### the letters, written -/
section
variable {P : Program} {w : World} {K : PySem.W.Frag} {mg : Str → Option Value}
theorem letters_in (T : Tx P w K mg) {s ls : Str} (h : lettersOf s = some ls) : ∃ t, PySem.W.nsIn K T.a_LETTERS s = some (some (.str ls t)) := by
  rcases letters_six h with ⟨rfl, rfl⟩ | ⟨rfl, rfl⟩ | ⟨rfl, rfl⟩ | ⟨rfl, rfl⟩ | ⟨rfl, rfl⟩ | ⟨rfl, rfl⟩
  · exact ⟨_, T.i_LETTERS_page⟩
  · exact ⟨_, T.i_LETTERS_claim⟩
  · exact ⟨_, T.i_LETTERS_port⟩
  · exact ⟨_, T.i_LETTERS_bell⟩
  · exact ⟨_, T.i_LETTERS_line⟩
  · exact ⟨_, T.i_LETTERS_process⟩
end
section
variable {P : Program} {w : World} {K : PySem.W.Frag} {mg : Str → Option Value}
theorem price_in (T : Tx P w K mg) {nm : Str} (h : nm ∈ deedsL) (h1 : nm ≠ "drop") (h2 : nm ≠ "revoke") (h3 : nm ≠ "free") : ∃ t, PySem.W.nsIn K T.a_PRICES nm = some (some (.int (priceT nm) t)) := by
  unfold deedsL at h
  simp only [List.mem_cons, List.not_mem_nil, or_false] at h
  rcases h with rfl | rfl | rfl | rfl | rfl | rfl | rfl | rfl | rfl | rfl | rfl | rfl | rfl | rfl | rfl | rfl | rfl | rfl | rfl | rfl | rfl | rfl | rfl
  · exact ⟨_, T.i_PRICES_halt⟩
  · exact ⟨_, T.i_PRICES_until⟩
  · exact ⟨_, T.i_PRICES_clock⟩
  · exact ⟨_, T.i_PRICES_look⟩
  · exact ⟨_, T.i_PRICES_claim⟩
  · exact absurd rfl h3
  · exact ⟨_, T.i_PRICES_copy⟩
  · exact absurd rfl h1
  · exact absurd rfl h2
  · exact ⟨_, T.i_PRICES_map⟩
  · exact ⟨_, T.i_PRICES_unmap⟩
  · exact ⟨_, T.i_PRICES_send⟩
  · exact ⟨_, T.i_PRICES_take⟩
  · exact ⟨_, T.i_PRICES_trysend⟩
  · exact ⟨_, T.i_PRICES_trytake⟩
  · exact ⟨_, T.i_PRICES_call⟩
  · exact ⟨_, T.i_PRICES_reply⟩
  · exact ⟨_, T.i_PRICES_ring⟩
  · exact ⟨_, T.i_PRICES_await⟩
  · exact ⟨_, T.i_PRICES_tryawait⟩
  · exact ⟨_, T.i_PRICES_ack⟩
  · exact ⟨_, T.i_PRICES_give⟩
  · exact ⟨_, T.i_PRICES_pull⟩
end
/-! the forward steps as a tactic (walk_at "..": the library's own syntax) -/
local macro_rules | `(tactic| walk_at "lw at") => `(tactic| first | assumption | (refine' Ex.at_ ?zze ?zzh; (case zze => assumption); (case zzh => walk_at "lw at")))
local macro_rules | `(tactic| walk_at "lw iv") => `(tactic| first | assumption | exact Ex.iv (by assumption))
local macro_rules | `(tactic| walk_at "lw ex") => `(tactic| first | assumption | exact Ex.refl (by walk_at "lw iv") | (refine' Ex.trans ?zza ?zzb; (case zzb => assumption); (case zza => walk_at "lw ex")))
local macro_rules | `(tactic| walk_at "lw ix") => `(tactic| first | rfl | exact at_0 | exact ix_0 (by simp; done))
local macro_rules | `(tactic| walk_at "lw side") => `(tactic| first | rfl | assumption | decide | omega | decide +kernel | (refine And.intro ?_ ?_ <;> decide +kernel) | exact ⟨by omega, by omega⟩ | exact Or.inr (by decide) | exact Or.inl (by decide) | exact Or.inl ⟨by omega, by omega⟩ | exact Nat.le_trans (cut_len _ _ _) (by first | omega | (simp only [List.length_cons, List.length_nil]; omega)) | (refine Nat.le_trans (Nat.add_le_add (cut_len _ _ _) (cut_len _ _ _)) ?_; decide) | (simp; done) | (simp only [List.length_cons, List.length_nil, List.length_append, List.length_map]; omega) | (simp only [List.length_cons, List.length_nil, List.length_append]; omega) | (simp; omega) | (simp at *; omega))
local macro_rules | `(tactic| walk_at "lw rd") => `(tactic| with_reducible first
  | refine rd_seq ?_ | refine rd_asg ?_ | refine rd_asgG ?_ | refine rd_drop ?_ | refine rd_ret ?_ | refine rd_retN ?_ | refine rd_ifS ?_ | refine rd_c ?_ | refine rd_op ?_ | refine rd_un ?_
  | (refine' rd_var ?zzr ?_; (case zzr => with_unfolding_all rfl)) | refine rd_I0 ?_ | (refine' rd_I ?zzr ?_; (case zzr => with_unfolding_all walk_at "lw side"))
  | refine rd_U ?_ | (refine' rd_eq ?zzr ?_; (case zzr => with_unfolding_all rfl)) | (refine' rd_ne ?zzr ?_; (case zzr => with_unfolding_all rfl)) | refine rd_isN ?_ | refine rd_notN ?_
  | refine rd_test ?_ | refine rd_B ?_ | refine rd_bl ?_ | refine rd_blV ?_ | refine rd_and ?_ | refine rd_or ?_ | refine rd_not ?_ | refine rd_andV ?_ | refine rd_orV ?_ | refine rd_notV ?_ | refine rd_ifE ?_
  | refine rd_nil ?_ | refine rd_cons ?_ | refine rd_call ?_ | refine rd_cb ?_ | refine rd_tupU ?_ | refine rd_lstU ?_
  | (refine' rd_new (by with_unfolding_all walk_at "lw iv") (by with_unfolding_all walk_at "lw side") ?_; intro _ _ _ _ _) | (refine' rd_new1 (by with_unfolding_all walk_at "lw iv") ?_; intro _ _ _ _ _)
  | (refine' rd_ixL ?zzh ?zzr ?_; (case zzh => with_unfolding_all walk_at "lw at"); (case zzr => with_unfolding_all walk_at "lw ix")) | (refine' rd_ixT ?zzh ?zzr ?_; (case zzh => with_unfolding_all walk_at "lw at"); (case zzr => with_unfolding_all walk_at "lw ix"))
  | (refine' rd_len ?zzh ?_; (case zzh => with_unfolding_all walk_at "lw at")) | (refine' rd_lenT ?zzh ?_; (case zzh => with_unfolding_all walk_at "lw at"))
  | refine rd_int ?_ | refine rd_intB ?_ | refine rd_abs ?_ | refine rd_max2 ?_ | refine rd_min2 ?_
  | (refine' rd_lens ?zzr ?_; (case zzr => with_unfolding_all walk_at "lw side")) | (refine' rd_adds ?zzr ?_; (case zzr => with_unfolding_all walk_at "lw side"))
  | refine rd_nopart ?_ | refine rd_part ?_ | refine rd_partI ?_ | refine rd_sl ?_
  | (refine' rd_slL (by with_unfolding_all walk_at "lw iv") ?zzh ?_; (case zzh => with_unfolding_all walk_at "lw at"); intro _ _ _ _ _)
  | (refine' rd_list (by with_unfolding_all walk_at "lw iv") ?zzh ?_; (case zzh => with_unfolding_all walk_at "lw at"); intro _ _ _ _ _)
  | (refine' rd_listT (by with_unfolding_all walk_at "lw iv") ?zzh ?_; (case zzh => with_unfolding_all walk_at "lw at"); intro _ _ _ _ _)
  | (refine' rd_tuple (by with_unfolding_all walk_at "lw iv") ?zzh ?_; (case zzh => with_unfolding_all walk_at "lw at"); intro _ _ _ _ _)
  | (refine' rd_cat (by with_unfolding_all walk_at "lw iv") ?zzh ?zzk ?zzr ?_; (case zzh => with_unfolding_all walk_at "lw at"); (case zzk => with_unfolding_all walk_at "lw at"); (case zzr => with_unfolding_all walk_at "lw side"); intro _ _ _ _ _)
  | refine rd_lc ?_ | refine rd_lcT ?_ | (refine' rd_any ?zzh ?_; (case zzh => with_unfolding_all walk_at "lw at")) | (refine' rd_sum ?zzh ?_; (case zzh => with_unfolding_all walk_at "lw at"))
  | (refine' rd_inK ?zzh ?zzf ?zzg ?_; (case zzh => with_unfolding_all walk_at "lw kt"); (case zzf => with_unfolding_all rfl); (case zzg => with_unfolding_all rfl))
  | (refine' rd_niK ?zzh ?zzf ?zzg ?_; (case zzh => with_unfolding_all walk_at "lw kt"); (case zzf => with_unfolding_all rfl); (case zzg => with_unfolding_all rfl))
  | (refine' rd_inT ?zzh ?zzf ?zzg ?_; (case zzh => with_unfolding_all walk_at "lw at"); (case zzf => with_unfolding_all rfl); (case zzg => with_unfolding_all rfl))
  | (refine' rd_niT ?zzh ?zzf ?zzg ?_; (case zzh => with_unfolding_all walk_at "lw at"); (case zzf => with_unfolding_all rfl); (case zzg => with_unfolding_all rfl))
  | (refine' rd_inL ?zzh ?zzf ?zzg ?_; (case zzh => with_unfolding_all walk_at "lw at"); (case zzf => with_unfolding_all rfl); (case zzg => with_unfolding_all rfl))
  | (refine' rd_niL ?zzh ?zzf ?zzg ?_; (case zzh => with_unfolding_all walk_at "lw at"); (case zzf => with_unfolding_all rfl); (case zzg => with_unfolding_all rfl))
  | (refine' rd_slTn (by with_unfolding_all walk_at "lw iv") ?zzh ?zzn ?_; (case zzh => with_unfolding_all walk_at "lw at"); (case zzn => with_unfolding_all (intro zzi; have zzq := zzi.1; simp [HT.sIx] at zzq)); intro _ _ _ _ _)
  | (refine' rd_gtup ?zzh ?zze ?_; (case zzh => with_unfolding_all walk_at "lw at"); (case zze => with_unfolding_all rfl)) | refine rd_gcons ?_ | refine rd_gnil ?_ | (refine' rd_gconsE ?zze ?_; (case zze => with_unfolding_all rfl)) | (refine' rd_gnilE ?zze ?_; (case zze => with_unfolding_all rfl)) | (refine' rd_isiY ?zzt ?zze ?_; (case zzt => with_unfolding_all walk_at "lw ty"); (case zze => with_unfolding_all decide +kernel)) | (refine' rd_isiN ?zzt ?zze ?_; (case zzt => with_unfolding_all walk_at "lw ty"); (case zze => with_unfolding_all decide +kernel)) | refine rd_gname ?_
  | refine rd_forL ?_ | refine rd_forR1 ?_ | refine rd_forR2 ?_ | (refine' rd_forR1a ?zza ?zzb ?_; (case zza => with_unfolding_all walk_at "lw side"); (case zzb => with_unfolding_all walk_at "lw side")) | (refine' rd_forLa ?zzh ?_; (case zzh => with_unfolding_all walk_at "lw at"))
  | (refine' rd_ixM ?zzh ?zzr ?zzs ?_; (case zzh => with_unfolding_all walk_at "lw at"); (case zzr => with_unfolding_all omega); (case zzs => with_unfolding_all walk_at "lw side"); intro _ _)
  | refine rd_gsub ?_ | (refine' rd_ixLr ?zzh ?zzr ?_; (case zzh => assumption); (case zzr => with_unfolding_all walk_at "lw ix")) | (refine' rd_setr ?zzh ?zzr ?_; (case zzh => assumption); (case zzr => with_unfolding_all walk_at "lw ix"); intro _ _ _) | (refine' rd_lenr ?zzh ?_; (case zzh => assumption))
  | (refine' rd_append ?zze ?zzf ?zzh ?zzr ?_; (case zzf => assumption); (case zze => with_unfolding_all walk_at "lw ex"); (case zzh => with_unfolding_all walk_at "lw at"); (case zzr => with_unfolding_all walk_at "lw side"); intro _ _ _ _)
  | refine rd_bm ?_ | (refine' rd_tyL ?zzh ?_; (case zzh => with_unfolding_all walk_at "lw at")) | refine rd_next ?_ | refine rd_brk ?_ | refine rd_cont ?_)
local macro_rules | `(tactic| walk_at "lw go") => `(tactic| repeat walk_at "lw rd")
local macro_rules | `(tactic| walk_at "lw ai") => `(tactic| with_reducible first | assumption | exact AI.one _ | exact AI.nil | exact AI.of _ | exact AI.cut (by walk_at "lw ai") | exact AI.app (by walk_at "lw ai") (by walk_at "lw ai"))
local macro_rules | `(tactic| walk_at "lw as") => `(tactic| with_reducible first | assumption | exact AS.nil | exact AS.of _ | (refine' AS.cons ?zzx; (case zzx => walk_at "lw as")) | (refine' AS.cut ?zzx; (case zzx => walk_at "lw as")) | (refine' AS.app ?zzx ?zzy; (case zzx => walk_at "lw as"); (case zzy => walk_at "lw as")))
local macro_rules | `(tactic| walk_at "lw ty") => `(tactic| first | exact .base (.int _) | exact .base (.str _) | exact .base (.bl _) | exact .base .non | exact .base (.lst (At.raw (by walk_at "lw at"))) | exact .base (.tup (At.raw (by walk_at "lw at"))))
local macro_rules | `(tactic| walk_at "lw kt") => `(tactic| fail)
local macro_rules | `(tactic| walk_at "lw if") => `(tactic| with_reducible first
  | refine iteNT ?_ | refine iteNF ?_ | refine iteT ?_ | refine iteF ?_
  | (refine' ifS_yes ?zzr ?_; (case zzr => with_unfolding_all first | assumption | decide +kernel)) | (refine' ifS_no ?zzr ?_; (case zzr => with_unfolding_all first | assumption | decide +kernel))
  | (refine' ifSn_no ?zzr ?_; (case zzr => with_unfolding_all first | assumption | decide +kernel)) | (refine' ifSn_yes ?zzr ?_; (case zzr => with_unfolding_all first | assumption | decide +kernel))
  | (refine' ifI_yes ?zzr ?_; (case zzr => with_unfolding_all omega)) | (refine' ifI_no ?zzr ?_; (case zzr => with_unfolding_all omega))
  | (refine' ifIn_no ?zzr ?_; (case zzr => with_unfolding_all omega)) | (refine' ifIn_yes ?zzr ?_; (case zzr => with_unfolding_all omega))
  | (refine' ifS ?_ ?_ <;> intro zze <;> try subst zze) | (refine' ifSn ?_ ?_ <;> intro zze <;> try subst zze) | (refine' ifI ?_ ?_ <;> intro zze <;> try subst zze) | (refine' ifIn ?_ ?_ <;> intro zze <;> try subst zze)
  | (refine' ifD_yes ?zzr ?_; (case zzr => with_unfolding_all omega)) | (refine' ifD_no ?zzr ?_; (case zzr => with_unfolding_all omega))
  | (refine' ifD ?_ ?_ <;> intro zze) | (refine' ifN ?_ ?_ <;> intro zze) | (refine' iteT ?_) | (refine' iteF ?_) | (refine' ifB ?_ ?_ <;> intro zze) | (refine' ifNB ?_ ?_ <;> intro zze))
local macro_rules | `(tactic| walk_at "lw all") => `(tactic| repeat' (first | walk_at "lw rd" | walk_at "lw if"))

local macro_rules | `(tactic| walk_at "lw rd") => `(tactic| with_reducible first
  | refine rd_chain ?_ | refine rd_yes ?_ | refine rd_forS ?_ | refine rd_srcS ?_ | refine rd_forT ?_ | refine rd_forE ?_ | refine rd_forET ?_ | refine rd_lcS ?_ | refine rd_lcR ?_
  | (refine' rd_srcT ?zzh ?_; (case zzh => with_unfolding_all walk_at "lw at"))
  | (refine' rd_srcE ?zzh ?zza ?zzb ?_; (case zzh => with_unfolding_all walk_at "lw at"); (case zza => with_unfolding_all decide); (case zzb => with_unfolding_all decide))
  | (refine' rd_srcR ?zza ?zzb ?_; (case zza => with_unfolding_all walk_at "lw side"); (case zzb => with_unfolding_all walk_at "lw side"))
  | (refine' rd_dnew (by with_unfolding_all walk_at "lw iv") ?_; intro _ _ _ _ _) | refine rd_dget1 ?_ | (refine' rd_isD ?zzh ?_; (case zzh => with_unfolding_all walk_at "lw at")) | (refine' rd_dgetS ?zzh ?_; (case zzh => with_unfolding_all walk_at "lw at"))
  | refine rd_din ?_ | refine rd_dnin ?_ | (refine' rd_dinS ?zzh ?_; (case zzh => with_unfolding_all walk_at "lw at")) | refine rd_dput ?_ | refine rd_dsetd ?_
  | (refine' rd_dputS ?zze ?zzf ?zzh ?zzr ?_; (case zzf => assumption); (case zze => with_unfolding_all walk_at "lw ex"); (case zzh => with_unfolding_all walk_at "lw at"); (case zzr => with_unfolding_all walk_at "lw side"); intro _ _ _ _)
  | refine rd_ends ?_ | refine rd_starts ?_ | refine rd_find ?_ | refine rd_tyS ?_ | refine rd_inSg ?_ | refine rd_ninSg ?_ | refine rd_strS ?_
  | (refine' rd_slS ?zzr ?_; (case zzr => with_unfolding_all walk_at "lw side")) | (refine' rd_ixS ?zzr ?zzs ?_; (case zzr => with_unfolding_all walk_at "lw side"); (case zzs => with_unfolding_all walk_at "lw ixs"))
  | (refine' rd_split (by with_unfolding_all walk_at "lw iv") ?zza ?zzr ?_; (case zza => with_unfolding_all decide +kernel); (case zzr => with_unfolding_all walk_at "lw side"); intro _ _ _ _ _)
  | (refine' rd_rep (by with_unfolding_all walk_at "lw iv") ?zzh ?zza ?zzb ?zzr ?_; (case zzh => with_unfolding_all walk_at "lw at"); (case zza => with_unfolding_all walk_at "lw side"); (case zzb => with_unfolding_all walk_at "lw side"); (case zzr => with_unfolding_all walk_at "lw side"); intro _ _ _ _ _))
local macro_rules | `(tactic| walk_at "lw ixs") => `(tactic| first | assumption | rfl)
local macro_rules | `(tactic| walk_at "lw if") => `(tactic| with_reducible first | (refine' ifB_yes ?zzr ?_; (case zzr => assumption)) | (refine' ifB_no ?zzr ?_; (case zzr => assumption)) | (refine' ifNB_yes ?zzr ?_; (case zzr => assumption)) | (refine' ifNB_no ?zzr ?_; (case zzr => assumption)) | fail)
local macro_rules | `(tactic| walk_at "lw ix") => `(tactic| assumption)
local macro_rules | `(tactic| walk_at "lw gi") => `(tactic| repeat (first | walk_at "lw rd" | with_reducible refine iteT ?_ | with_reducible refine iteF ?_ | with_reducible refine iteNT ?_ | with_reducible refine iteNF ?_))

local macro_rules | `(tactic| walk_at "lw kt") => `(tactic| exact Tx.q_DEEDS (by assumption) _)
local macro_rules | `(tactic| walk_at "lw dw") => `(tactic| first | assumption | (refine' DW.ex ?zze ?zzh; (case zze => assumption); (case zzh => walk_at "lw dw")) | exact DW.int _ | exact DW.str _ | exact DW.bl _ | exact DW.non)
local macro_rules | `(tactic| walk_at "lw sb") => `(tactic| first | assumption | (refine' SqB.ex ?zze ?zzh; (case zze => assumption); (case zzh => walk_at "lw sb")))
local macro_rules | `(tactic| walk_at "lw side") => `(tactic| first | with_reducible assumption | omega | fail)
local macro_rules | `(tactic| walk_at "lw rd") => `(tactic| with_reducible first
  | (refine' cl_is_integer ?zzh ?_; (case zzh => with_unfolding_all walk_at "lw dw")) | (refine' cl_is_word ?zzh ?_; (case zzh => with_unfolding_all walk_at "lw dw")) | (refine' cl_is_row ?zzi ?zzh ?_; (case zzi => with_unfolding_all walk_at "lw iv"); (case zzh => with_unfolding_all walk_at "lw dw"); intro _ _)
  | refine cl_bound ?_ | (refine' cl_fits ?zzh ?_; (case zzh => with_unfolding_all walk_at "lw dw")) | (refine' cl_is_instruction ?zzi ?zzh ?_; (case zzi => with_unfolding_all walk_at "lw iv"); (case zzh => with_unfolding_all walk_at "lw dw"); intro _ _)
  | (refine' rd_isTup ?zzh ?_; (case zzh => with_unfolding_all walk_at "lw dw")) | (refine' rd_isInt ?zzh ?_; (case zzh => with_unfolding_all walk_at "lw dw")) | (refine' rd_isBool ?zzh ?_; (case zzh => with_unfolding_all walk_at "lw dw")) | (refine' rd_isStr ?zzh ?_; (case zzh => with_unfolding_all walk_at "lw dw"))
  | (refine' cl_is_between ?zzh ?_; (case zzh => with_unfolding_all walk_at "lw dw"))
  | (refine' cl_is_turn ?zzi ?zzh ?_; (case zzi => with_unfolding_all walk_at "lw iv"); (case zzh => with_unfolding_all walk_at "lw dw"); intro _ _) | (refine' cl_is_data ?zzi ?zzh ?_; (case zzi => with_unfolding_all walk_at "lw iv"); (case zzh => with_unfolding_all walk_at "lw dw"); intro _ _)
  | (refine' cl_free_price ?zzh ?_; (case zzh => with_unfolding_all walk_at "lw side")) | (refine' cl_least_ticks ?zzh ?_; (case zzh => with_unfolding_all walk_at "lw side"))
  | (refine' rd_ixB ?zzh ?zzr ?_; (case zzh => with_unfolding_all walk_at "lw sb"); (case zzr => with_unfolding_all walk_at "lw ix")) | (refine' rd_lenB ?zzh ?_; (case zzh => with_unfolding_all walk_at "lw sb")))
local macro_rules | `(tactic| walk_at "lw ix") => `(tactic| first | exact ix_lit (by decide) (by decide) | exact at_l1 | exact at_l2 | exact at_l3)
local macro_rules | `(tactic| walk_at "lw rd") => `(tactic| with_reducible first
  | (refine' cl_law_take ?zza ?zzb ?zzc ?_; (case zza => with_unfolding_all walk_at "lw side"); (case zzb => with_unfolding_all walk_at "lw side"); (case zzc => with_unfolding_all walk_at "lw iv"); intro _ _ _ _ _))
local macro_rules | `(tactic| walk_at "lw rd") => `(tactic| with_reducible first
  | (refine' cl_law_within ?zza ?zzb ?zzc ?_; (case zza => with_unfolding_all walk_at "lw side"); (case zzb => with_unfolding_all walk_at "lw side"); (case zzc => with_unfolding_all walk_at "lw iv"); intro _ _ _ _ _)
  | (refine' cl_law_word ?zzc ?_; (case zzc => with_unfolding_all walk_at "lw iv"); intro _ _ _ _ _))
section
variable {P : Program} {w : World} {K : PySem.W.Frag} {mg : Str → Option Value} {base : Heap}

theorem ok_is_integer (T : Tx P w K mg) : FnOk P w K mg base CX0 1 T.f_is_integer T.fd_is_integer ["value"] (sp_is_integer K) := by
  refine T.F_is_integer.ok sc_is_integer (fun vs H Q E h => ?_) (fun cdv A outer s H vs Q E hr h => ?_)
  · obtain ⟨W, v, d, rfl, h, k⟩ := h
    rfl
  · obtain ⟨W, v, d, rfl, h, k⟩ := h
    refine ⟨_, (pss_one (ps_ret (pe_and (pe_callB (r := rIsi K) call_isi (by rfl) T.n_isinstance (by decide +kernel) (pa_cons (pv 0) (pa_cons (pe_bltn (v := .ty "int") rfl T.n_int (by decide +kernel) rfl) pa_nil))) (pe_one (pe_not (pe_callB (r := rIsi K) call_isi (by rfl) T.n_isinstance (by decide +kernel) (pa_cons (pv 0) (pa_cons (pe_bltn (v := .ty "bool") rfl T.n_bool (by decide +kernel) rfl) pa_nil)))))))), ?_⟩
    walk_at "lw go"
    refine ifB ?_ ?_ <;> intro h1
    · walk_at "lw go"
      exact cast_bl k (isI_F h1)
    · walk_at "lw go"
      exact cast_bl k (isI_F2 h1)

theorem ok_is_word (T : Tx P w K mg) : FnOk P w K mg base CX0 2 T.f_is_word T.fd_is_word ["value"] (sp_is_word K) := by
  refine T.F_is_word.ok sc_is_word (fun vs H Q E h => ?_) (fun cdv A outer s H vs Q E hr h => ?_)
  · obtain ⟨W, v, d, rfl, h, k⟩ := h
    rfl
  · obtain ⟨W, v, d, rfl, h, k⟩ := h
    refine ⟨_, (pss_one (ps_ret (pe_and (pe_call (ok_is_integer T) hr (by rfl) T.g_is_integer T.F_is_integer.kp T.b_is_integer .nil pass0 (pa_cons (pv 0) pa_nil)) (pe_one (pe_chain op_le op_lt pe_int (pv 0) (pe_glob (v := .int 1048576) rfl T.g_WORD ⟨_, rfl⟩)))))), ?_⟩
    walk_at "lw go"
    refine ifB ?_ ?_ <;> intro h1
    · obtain ⟨i, rfl⟩ := isI_E h1
      obtain rfl := h.intE
      walk_at "lw all"
      · refine cast_bl k ?_
        show decide _ = decide _
        rw [decide_eq_decide]
        omega
      · exact cast_bl k (decide_eq_false (by omega))
    · walk_at "lw go"
      exact cast_bl k (isWordD_F h1)

theorem ok_is_kind (T : Tx P w K mg) : FnOk P w K mg base CX0 1 T.f_is_kind T.fd_is_kind ["kind"] (sp_is_kind) := by
  refine T.F_is_kind.ok sc_is_kind (fun vs H Q E h => ?_) (fun cdv A outer s H vs Q E hr h => ?_)
  · obtain ⟨s, rfl, k⟩ := h
    rfl
  · obtain ⟨s, rfl, k⟩ := h
    refine ⟨_, (pss_one (ps_ret (pe_and (pe_callB (r := rIsi K) call_isi (by rfl) T.n_isinstance (by decide +kernel) (pa_cons (pv 0) (pa_cons (pe_bltn (v := .ty "str") rfl T.n_str (by decide +kernel) rfl) pa_nil))) (pe_one (pe_cmpR (r := rInKd K T.a_LETTERS) (o_inKd T.D_LETTERS) (pv 0) (pe_glob (v := .ref T.a_LETTERS) rfl T.g_LETTERS rfl) (by rfl)))))), ?_⟩
    walk_at "lw gi"
    cases hl : lettersOf s with
    | none =>
      rw [hl] at k
      refine rd_inKd (T.x_LETTERS s (letters_no hl)) ?_
      walk_at "lw gi"
      exact k
    | some ls =>
      rw [hl] at k
      obtain ⟨t, ht⟩ := letters_in T hl
      refine rd_inKd ht ?_
      walk_at "lw gi"
      exact k

theorem ok_in_order (T : Tx P w K mg) : FnOk P w K mg base CX0 2 T.f_in_order T.fd_in_order ["kind", "letters"] (sp_in_order K) := by
  refine T.F_in_order.ok sc_in_order (fun vs H Q E h => ?_) (fun cdv A outer s H vs Q E hr h => ?_)
  · obtain ⟨W, s, v, d, rfl, h, k⟩ := h
    rfl
  · obtain ⟨W, s, v, d, rfl, h, k⟩ := h
    refine ⟨_, (pss_cons (ps_if (PW.pt (pw_or (pt_not (pt_val (pe_call (ok_is_kind T) hr (by rfl) T.g_is_kind T.F_is_kind.kp T.b_is_kind .nil pass0 (pa_cons (pv 0) pa_nil)))) (pw_or (pt_not (pt_val (pe_callB (r := rIsi K) call_isi (by rfl) T.n_isinstance (by decide +kernel) (pa_cons (pv 1) (pa_cons (pe_bltn (v := .ty "str") rfl T.n_str (by decide +kernel) rfl) pa_nil))))) (pw_or1 (pt_cmpR op_eq (pv 1) pe_str (nomark _))))))
        (pss_one (ps_ret pe_bl))
        pss_nil)
      (pss_cons (ps_set (i := 2) sc_in_order.nd rfl (by first | exact Or.inl rfl | exact Or.inr rfl) (pe_un un_neg pe_int))
      (pss_cons (ps_for PassesOwn.never rfl (pi_str (pv 1)) (pg_name (i := 3) sc_in_order.nd rfl (by first | exact Or.inl rfl | exact Or.inr rfl))
        (pss_cons (ps_set (i := 4) sc_in_order.nd rfl (by first | exact Or.inl rfl | exact Or.inr rfl) (pe_bm PySem.F.plainAttrs_str PySem.F.slot_str_find PySem.F.type_str_find m_find (pe_ix (r := rIxKd K w) x_kd (pe_glob (v := .ref T.a_LETTERS) rfl T.g_LETTERS rfl) (pv 0) (fun _ _ => rfl)) (pa_cons (pv 3) pa_nil)))
        (pss_cons (ps_if (pt_cmpR op_le (pv 4) (pv 2) (nomark _))
          (pss_one (ps_ret pe_bl))
          pss_nil)
        (pss_one (ps_set (i := 2) sc_in_order.nd rfl (by first | exact Or.inl rfl | exact Or.inr rfl) (pv 4))))))
      (pss_one (ps_ret pe_bl))))), ?_⟩
    have key : ∀ b, inOrderF s d = b → Q (.bl b) H := fun b e => cast_bl k e
    clear k
    walk_at "lw gi"
    refine cl_is_kind ?_
    walk_at "lw gi"
    refine ifNB ?_ ?_ <;> intro hk
    · walk_at "lw gi"
      exact key _ (inOrder_none hk)
    obtain ⟨ls, hls⟩ := Option.isSome_iff_exists.mp hk
    obtain ⟨tk, hin⟩ := letters_in T hls
    have key2 : ∀ b, inOrderL ls d = b → Q (.bl b) H := fun b e => key b ((inOrder_some hls).trans e)
    walk_at "lw gi"
    refine ifNB ?_ ?_ <;> intro hs
    · walk_at "lw gi"
      exact key2 _ (inOrderL_S hs)
    obtain ⟨l, rfl⟩ := isS_E hs
    obtain rfl := h.strE
    walk_at "lw gi"
    refine ifS ?_ ?_ <;> intro h0
    · walk_at "lw gi"
      exact key2 _ (inOrderL_0 h0)
    have key3 : ∀ b, orderGo ls l.cps.toList (-1) = b → Q (.bl b) H := fun b e => key2 b ((inOrderL_1 h0).trans e)
    walk_at "lw gi"
    refine for_s (fun i σ' H' => ∃ pl v3 v4, σ' = [some (.str s), some (.str l), some (.int pl), v3, v4] ∧ H' = H ∧ orderGo ls l.cps.toList (-1) = orderGo ls (l.cps.toList.drop i) pl) ⟨_, _, _, rfl, rfl, rfl⟩ ?_ ?_
    · rintro i c σ' H' hc ⟨pl, v3, v4, rfl, rfl, hgo⟩
      rw [order_step hc] at hgo
      walk_at "lw gi"
      refine ⟨_, _, V.str ls, rfl, rfl, ⟨_, _, _, T.D_LETTERS.at_, T.D_LETTERS.lit, hin, ⟨_, rfl⟩⟩, ?_⟩
      walk_at "lw gi"
      refine ifD ?_ ?_ <;> intro hle
      · walk_at "lw gi"
        exact key3 _ (by rw [hgo, if_pos hle])
      · walk_at "lw gi"
        exact ⟨_, _, _, rfl, rfl, by rw [hgo, if_neg hle]⟩
    · rintro σ' H' ⟨pl, v3, v4, rfl, rfl, hgo⟩
      walk_at "lw gi"
      refine key3 _ ?_
      rw [hgo, show l.cps.toList.drop l.cps.size = [] from List.drop_eq_nil_of_le (by simp)]
      rfl

theorem ok_is_row (T : Tx P w K mg) : FnOk P w K mg base CX0 1 T.f_is_row T.fd_is_row ["value"] (sp_is_row K) := by
  refine T.F_is_row.ok sc_is_row (fun vs H Q E h => ?_) (fun cdv A outer s H vs Q E hr h => ?_)
  · obtain ⟨W, v, d, rfl, iv, h, k⟩ := h
    rfl
  · obtain ⟨W, v, d, rfl, iv, h, k⟩ := h
    refine ⟨_, (pss_one (ps_ret (pe_callB (r := rIsiT K) call_isiT (by rfl) T.n_isinstance (by decide +kernel) (pa_cons (pv 0) (pa_cons (pe_tup (pa_cons (pe_bltn (v := .ty "list") rfl T.n_list (by decide +kernel) rfl) (pa_cons (pe_bltn (v := .ty "tuple") rfl T.n_tuple (by decide +kernel) rfl) pa_nil))) pa_nil))))), ?_⟩
    walk_at "lw go"
    rename_i p H1 f1 e1 h1
    refine rd_isRowD (h.ex e1) h1.raw ?_
    exact k _ e1

theorem ok_bound (T : Tx P w K mg) : FnOk P w K mg base CX0 1 T.f_bound T.fd_bound ["role", "length"] (sp_bound) := by
  refine T.F_bound.ok sc_bound (fun vs H Q E h => ?_) (fun cdv A outer s H vs Q E hr h => ?_)
  · obtain ⟨r, n, rfl, k⟩ := h
    rfl
  · obtain ⟨r, n, rfl, k⟩ := h
    refine ⟨_, (pss_cons (ps_if (pt_cmpR op_eq (pv 0) pe_str (nomark _))
        (pss_one (ps_ret (pe_glob (v := .int 8) rfl T.g_REGISTERS ⟨_, rfl⟩)))
        pss_nil)
      (pss_cons (ps_if (pt_cmpR op_eq (pv 0) pe_str (nomark _))
        (pss_one (ps_ret (pe_glob (v := .int 1048576) rfl T.g_WORD ⟨_, rfl⟩)))
        pss_nil)
      (pss_one (ps_ret (pv 1))))), ?_⟩
    unfold boundF at k
    walk_at "lw all"
    · exact k
    · rename_i h
      rw [if_neg (by decide +kernel), if_pos rfl] at k
      exact k
    · rename_i h1 h2
      rw [if_neg h1, if_neg h2] at k
      exact k

theorem ok_fits (T : Tx P w K mg) : FnOk P w K mg base CX0 2 T.f_fits T.fd_fits ["part", "role", "length"] (sp_fits K) := by
  refine T.F_fits.ok sc_fits (fun vs H Q E h => ?_) (fun cdv A outer s H vs Q E hr h => ?_)
  · obtain ⟨W, v, d, r, n, rfl, h, k⟩ := h
    rfl
  · obtain ⟨W, v, d, r, n, rfl, h, k⟩ := h
    refine ⟨_, (pss_cons (ps_if (pt_cmpR op_eq (pv 1) pe_str (nomark _))
        (pss_one (ps_ret (pe_and (pe_callB (r := rIsi K) call_isi (by rfl) T.n_isinstance (by decide +kernel) (pa_cons (pv 0) (pa_cons (pe_bltn (v := .ty "str") rfl T.n_str (by decide +kernel) rfl) pa_nil))) (pe_one (pe_cmpR (r := rIn K false) op_in_seq (pv 0) (pe_glob (v := .ref T.a_DEEDS) rfl T.g_DEEDS rfl) (by rfl))))))
        pss_nil)
      (pss_one (ps_ret (pe_and (pe_call (ok_is_integer T) hr (by rfl) T.g_is_integer T.F_is_integer.kp T.b_is_integer .nil pass0 (pa_cons (pv 0) pa_nil)) (pe_one (pe_chain op_le op_lt pe_int (pv 0) (pe_call (ok_bound T) hr (by rfl) T.g_bound T.F_bound.kp T.b_bound .nil pass0 (pa_cons (pv 1) (pa_cons (pv 2) pa_nil))))))))), ?_⟩
    have hDL : [V.str "halt", .str "until", .str "clock", .str "look", .str "claim", .str "free", .str "copy", .str "drop", .str "revoke", .str "map", .str "unmap", .str "send", .str "take", .str "trysend", .str "trytake", .str "call", .str "reply", .str "ring", .str "await", .str "tryawait", .str "ack", .str "give", .str "pull"] = deedsL.map V.str := rfl
    unfold fitD at k
    by_cases hd : r = "deed"
    · subst hd
      rw [if_pos rfl] at k
      walk_at "lw go"
      refine ifS_yes rfl ?_
      walk_at "lw go"
      refine ifB ?_ ?_ <;> intro h1
      · obtain ⟨s, rfl⟩ := isS_E h1
        obtain rfl := h.strE
        walk_at "lw go"
        rw [hDL, inV_str]
        exact k
      · walk_at "lw go"
        exact cast_bl k (inDL_F h1)
    · rw [if_neg hd] at k
      walk_at "lw go"
      refine ifS_no hd ?_
      walk_at "lw go"
      refine ifB ?_ ?_ <;> intro h1
      · obtain ⟨i, rfl⟩ := isI_E h1
        obtain rfl := h.intE
        walk_at "lw all"
        · refine cast_bl k ?_
          show decide _ = decide _
          rw [decide_eq_decide]
          omega
        · exact cast_bl k (decide_eq_false (by omega))
      · walk_at "lw go"
        exact cast_bl k (isBelow_F h1)

theorem ok_is_instruction (T : Tx P w K mg) : FnOk P w K mg base CX0 3 T.f_is_instruction T.fd_is_instruction ["item", "length"] (sp_is_instruction K) := by
  refine T.F_is_instruction.ok sc_is_instruction (fun vs H Q E h => ?_) (fun cdv A outer s H vs Q E hr h => ?_)
  · obtain ⟨W, v, d, n, rfl, iv, h, k⟩ := h
    rfl
  · obtain ⟨W, v, d, n, rfl, iv, h, k⟩ := h
    refine ⟨_, (pss_cons (ps_if (PW.pt (pw_or (pt_not (pt_val (pe_call (ok_is_row T) (hr.mono (by decide)) (by rfl) T.g_is_row T.F_is_row.kp T.b_is_row .nil pass0 (pa_cons (pv 0) pa_nil)))) (pw_or (pt_cmpR op_eq (pe_callB (r := Lw.rLen K) c_len (by rfl) T.n_len PySem.boot_len (pa_cons (pv 0) pa_nil)) pe_int (nomark _)) (pw_or1 (pt_not (pt_val (pe_callB (r := rIsi K) call_isi (by rfl) T.n_isinstance (by decide +kernel) (pa_cons (pe_ix (r := rIx K) ix_seq (pv 0) pe_int (fun _ _ => rfl)) (pa_cons (pe_bltn (v := .ty "str") rfl T.n_str (by decide +kernel) rfl) pa_nil)))))))))
        (pss_one (ps_ret pe_bl))
        pss_nil)
      (pss_cons (ps_if (pt_cmpR (r := rNinKd K T.a_ROLES) (o_ninKd T.D_ROLES) (pe_ix (r := rIx K) ix_seq (pv 0) pe_int (fun _ _ => rfl)) (pe_glob (v := .ref T.a_ROLES) rfl T.g_ROLES rfl) (by rfl))
        (pss_one (ps_ret pe_bl))
        pss_nil)
      (pss_cons (ps_set (i := 2) sc_is_instruction.nd rfl (by first | exact Or.inl rfl | exact Or.inr rfl) (pe_ix (r := rIxKd K w) x_kd (pe_glob (v := .ref T.a_ROLES) rfl T.g_ROLES rfl) (pe_ix (r := rIx K) ix_seq (pv 0) pe_int (fun _ _ => rfl)) (fun _ _ => rfl)))
      (pss_cons (ps_if (pt_cmpR op_ne (pe_callB (r := Lw.rLen K) c_len (by rfl) T.n_len PySem.boot_len (pa_cons (pv 0) pa_nil)) (pe_op op_add (pe_callB (r := Lw.rLen K) c_len (by rfl) T.n_len PySem.boot_len (pa_cons (pv 2) pa_nil)) pe_int) (nomark _))
        (pss_one (ps_ret pe_bl))
        pss_nil)
      (pss_cons (ps_for PassesOwn.never rfl (pi_enumT (by rfl) T.n_enumerate (pa_cons (pv 2) pa_nil)) (pg_tup (by rfl) (pgs_cons (pg_name (i := 3) sc_is_instruction.nd rfl (by first | exact Or.inl rfl | exact Or.inr rfl)) (pgs_cons (pg_name (i := 4) sc_is_instruction.nd rfl (by first | exact Or.inl rfl | exact Or.inr rfl)) pgs_nil)))
        (pss_one (ps_if (pt_not (pt_val (pe_call (ok_fits T) hr (by rfl) T.g_fits T.F_fits.kp T.b_fits .nil pass0 (pa_cons (pe_ix (r := rIx K) ix_seq (pv 0) (pe_op op_add (pv 3) pe_int) (fun _ _ => rfl)) (pa_cons (pv 4) (pa_cons (pv 1) pa_nil))))))
          (pss_one (ps_ret pe_bl))
          pss_nil)))
      (pss_one (ps_ret pe_bl))))))), ?_⟩
    have key : ∀ c, insD d n = c → ∀ H', Ex W H H' → Q (.bl c) H' := fun c e H' x => cast_bl (k H' x) e
    clear k
    walk_at "lw go"
    rename_i H1 e1
    refine ifNB ?_ ?_ <;> intro hrow
    · walk_at "lw gi"
      exact key _ (by unfold insD; rw [hrow]; rfl) _ e1
    obtain ⟨a, xs, rfl, sq, ws⟩ := h.row hrow
    have ins : ∀ c, insL (items d) n = c → insD d n = c := fun c e => by unfold insD; rw [hrow, e]; rfl
    generalize items d = ds at ws ins
    clear hrow h
    walk_at "lw gi"
    cases ws with
    | nil =>
      refine ifI_yes rfl ?_
      walk_at "lw gi"
      exact key _ (ins _ rfl) _ e1
    | @cons v0 vs d0 ds h0 ws =>
      refine ifI_no (by rw [List.length_cons]; omega) ?_
      have q0 : atI (v0 :: vs) 0 = some v0 := at_0
      have hl := ws.length
      walk_at "lw gi"
      refine ifNB ?_ ?_ <;> intro hs
      · walk_at "lw gi"
        exact key _ (ins _ (by cases d0 <;> simp_all [isS, insL])) _ e1
      obtain ⟨nm, rfl⟩ := isS_E hs
      obtain rfl := h0.strE
      walk_at "lw gi"
      by_cases hn : nm ∈ names9
      · obtain ⟨r, hi, hq⟩ := roles_in T hn
        refine rd_ninKd hi ?_
        walk_at "lw gi"
        refine ifNB_no rfl ?_
        walk_at "lw gi"
        refine rd_ixKd T.D_ROLES hi ?_
        walk_at "lw gi"
        refine ⟨r, (rolesF nm).map V.str, rfl, .inr (hq _), ?_⟩
        walk_at "lw gi"
        have ins2 : ∀ c, fitsD ds (rolesF nm) n = c → insD d n = c := fun c e => ins c (by
          show (decide (nm ∈ names9) && fitsD ds (rolesF nm) n) = c
          rw [decide_eq_true hn, e]; rfl)
        refine ifIn ?_ ?_ <;> intro he
        · walk_at "lw gi"
          exact key _ (ins2 _ (fitsD_ne fun z => he (by rw [List.length_cons, List.length_map, hl, z]; omega))) _ e1
        · have hlen : ds.length = (rolesF nm).length := by rw [List.length_cons, List.length_map, hl] at he; omega
          have hr2 := roles_len nm
          walk_at "lw gi"
          refine rd_srcET (hq _) ?_
          refine for_et (W := W) (xs := (rolesF nm).map V.str) hq (fun i σ' H' => ∃ v3 v4, σ' = [some (.ref a), some (.int n), some (.ref r), v3, v4] ∧ Ex W H1 H' ∧ ∀ (j : Nat) d' r', j < i → ds[j]? = some d' → (rolesF nm)[j]? = some r' → fitD d' r' n = true)
            ⟨_, _, rfl, Ex.refl e1.iv, fun j _ _ hj => absurd hj (Nat.not_lt_zero _)⟩ (fun i σ' H' ⟨_, _, _, e, _⟩ => e.iv) ?_ ?_
          · rintro i x T2 σ' H3 H' hx ⟨v3, v4, rfl, e3, hg⟩ f4 e4 h4
            obtain ⟨role, hr1, rfl⟩ : ∃ role, (rolesF nm)[i]? = some role ∧ x = .str role := by
              rw [List.getElem?_map] at hx
              cases hz : (rolesF nm)[i]? with
              | none => rw [hz] at hx; cases hx
              | some role => rw [hz] at hx; exact ⟨role, rfl, (Option.some.inj hx).symm⟩
            have hi2 : i < ds.length := by rw [hlen]; exact (List.getElem?_eq_some_iff.mp hr1).1
            have hd1 : ds[i]? = some ds[i] := List.getElem?_eq_getElem hi2
            obtain ⟨w1, hw1, dw1⟩ := ws.getR hd1
            generalize ds[i] = d1 at hd1 dw1
            have ea : atI (V.str nm :: vs) (0 + (i : Int) + 1) = some w1 := at_in (by omega) (by rw [show (0 + (i : Int) + 1).toNat = i + 1 by omega, List.getElem?_cons_succ, hw1])
            have e13 : Ex W H H' := (e1.trans e3).trans e4
            have sq3 := sq.ex e13
            have dw3 := dw1.ex e13
            walk_at "lw gi"
            refine ifNB ?_ ?_ <;> intro hb
            · walk_at "lw gi"
              exact key _ (ins2 _ (by
                rw [Bool.eq_false_iff]
                intro z
                have := (fitsD_iff hlen).mp z i d1 role hd1 hr1
                rw [hb] at this; cases this)) _ e13
            · walk_at "lw gi"
              refine ⟨_, _, rfl, e3.trans e4, fun j d' r' hj h1 h2 => ?_⟩
              by_cases q : j = i
              · subst q
                rw [hd1] at h1; rw [hr1] at h2
                cases h1; cases h2; exact hb
              · exact hg j d' r' (by omega) h1 h2
          · rintro σ' H' ⟨v3, v4, rfl, e3, hg⟩
            rw [List.length_map] at hg
            walk_at "lw gi"
            exact key _ (ins2 _ ((fitsD_iff hlen).mpr fun i d' r' h1 h2 => hg i d' r' (by have := (List.getElem?_eq_some_iff.mp h1).1; omega) h1 h2)) _ (e1.trans e3)
      · refine rd_ninKd (T.x_ROLES nm hn) ?_
        walk_at "lw gi"
        refine ifNB_yes rfl ?_
        walk_at "lw gi"
        exact key _ (ins _ (by
          show (decide (nm ∈ names9) && _) = false
          rw [decide_eq_false hn]; rfl)) _ e1

theorem ok_check_program (T : Tx P w K mg) : FnOk P w K mg base (L2.CX P w) 4 T.f_check_program T.fd_check_program ["value"] (sp_check_program K T.c_BadProgram) := by
  refine T.F_check_program.okX sc_check_program (fun vs H Q E h => ?_) (fun cdv A outer s H vs Q E hr h => ?_)
  · obtain ⟨W, v, d, rfl, iv, h, hl, kE, k⟩ := h
    rfl
  · obtain ⟨W, v, d, rfl, iv, h, hl, kE, k⟩ := h
    refine ⟨_, (pss_cons (ps_if (pt_not (pt_val (pe_call (ok_is_row T) (hr.mono (by decide)) (by rfl) T.g_is_row T.F_is_row.kp T.b_is_row .nil pass0 (pa_cons (pv 0) pa_nil))))
        (pss_one (ps_raiseS rfl T.S_BadProgram hr (takes_of rfl rfl rfl rfl) (pa_cons (pe_un un_neg pe_int) pa_nil)))
        pss_nil)
      (pss_cons (ps_if (pt_cmpR op_gt (pe_callB (r := Lw.rLen K) c_len (by rfl) T.n_len PySem.boot_len (pa_cons (pv 0) pa_nil)) (pe_glob (v := .int 4000) rfl T.g_LONGEST ⟨_, rfl⟩) (nomark _))
        (pss_one (ps_raiseS rfl T.S_BadProgram hr (takes_of rfl rfl rfl rfl) (pa_cons (pe_glob (v := .int 4000) rfl T.g_LONGEST ⟨_, rfl⟩) pa_nil)))
        pss_nil)
      (pss_cons (ps_for (passes_of rfl) rfl (pi_or (pi_enum (by rfl) T.n_enumerate (pa_cons (pv 0) pa_nil)) (pi_enumT (by rfl) T.n_enumerate (pa_cons (pv 0) pa_nil))) (pg_tup (by rfl) (pgs_cons (pg_name (i := 1) sc_check_program.nd rfl (by first | exact Or.inl rfl | exact Or.inr rfl)) (pgs_cons (pg_name (i := 2) sc_check_program.nd rfl (by first | exact Or.inl rfl | exact Or.inr rfl)) pgs_nil)))
        (pss_one (ps_if (pt_not (pt_val (pe_call (ok_is_instruction T) hr (by rfl) T.g_is_instruction T.F_is_instruction.kp T.b_is_instruction .nil pass0 (pa_cons (pv 2) (pa_cons (pe_callB (r := Lw.rLen K) c_len (by rfl) T.n_len PySem.boot_len (pa_cons (pv 0) pa_nil)) pa_nil)))))
          (pss_one (ps_raiseS rfl T.S_BadProgram hr (takes_of rfl rfl rfl rfl) (pa_cons (pv 1) pa_nil)))
          pss_nil)))
      (pss_one (ps_ret (pe_callTy (r := Lw.rTupO K) c_tuple (by rfl) T.n_tuple (by decide +kernel) (pa_cons (pe_lc (own := [("item", 2)]) rfl sc_check_program.nd (pi_or (pi_list (pv 0)) (pi_tup (pv 0))) (blkOk_by (own := [("item", 2)]) (N := N_check_program) (sc := (defScope s_check_program)) (by decide +kernel)) (fun _ _ _ _ _ => (pg_name (i := 2) sc_check_program.nd rfl (by first | exact Or.inl rfl | exact Or.inr rfl))) (fun _ _ _ _ _ => pts_nil) (fun _ _ _ _ _ => (pe_callTy (r := Lw.rTupO K) c_tuple (by rfl) T.n_tuple (by decide +kernel) (pa_cons (pv 2) pa_nil)))) pa_nil))))))), ?_⟩
    have raise : ∀ (j : Int) (H' : Hp), Ex W H H' → progF d = some j → ∃ v', [V.int j] = [v'] ∧ ∀ u, H' u = none → E (.ref T.c_BadProgram) (some u) (upd H' u (.xd [("index", v')])) := fun j H' e f =>
      ⟨_, rfl, fun u hu => kE j f u _ (e.trans (Ex.new e.iv hu)) (At.new e.iv hu)⟩
    walk_at "lw go"
    rename_i H1 e1
    refine ifNB ?_ ?_ <;> intro hrow
    · walk_at "lw gi"
      refine rd_raiseS ?_
      walk_at "lw gi"
      exact raise (-1) _ e1 (by unfold progF; rw [if_pos hrow])
    obtain ⟨a, xs, rfl, sq, ws⟩ := h.row hrow
    have hlen := ws.length
    have pf : ∀ o, fb (fun r => insD r (items d).length) (items d) = o → (items d).length ≤ 4000 → progF d = o := fun o e l => by
      unfold progF
      rw [if_neg (by rw [hrow]; decide), if_neg (by omega), e]
    walk_at "lw gi"
    refine ifD ?_ ?_ <;> intro h4
    · walk_at "lw gi"
      refine rd_raiseS ?_
      walk_at "lw gi"
      exact raise 4000 _ e1 (by unfold progF; rw [if_neg (by rw [hrow]; decide), if_pos (by omega)])
    walk_at "lw gi"
    refine for_eB (W := W) (a := a) (xs := xs) rfl (sq.ex e1) (fun i σ' H' => ∃ v1 v2, σ' = [some (.ref a), v1, v2] ∧ Ex W H1 H' ∧ ∀ (j : Nat) r, j < i → (items d)[j]? = some r → insD r (items d).length = true) ⟨_, _, rfl, Ex.refl e1.iv, fun j _ hj => absurd hj (Nat.not_lt_zero _)⟩ (fun i σ' H' ⟨_, _, _, e, _⟩ => e) ?_ ?_
    · rintro i x T2 σ' H2 H' hx ⟨v1, v2, rfl, e2, hg⟩ f3 e3 h3
      obtain ⟨r, hr1, hd⟩ := ws.get hx
      have e4 : Ex W H H' := (e1.trans e2).trans e3
      have sq4 := sq.ex e4
      have hd4 := hd.ex e4
      walk_at "lw gi"
      rename_i H5 e5
      rw [hlen]
      refine ifNB ?_ ?_ <;> intro hb
      · walk_at "lw gi"
        refine rd_raiseS ?_
        walk_at "lw gi"
        exact raise i _ (e4.trans e5) (pf _ (fb_some hr1 hb fun j e hj he => hg j e hj he) (by omega))
      · walk_at "lw gi"
        refine ⟨_, _, rfl, (e2.trans e3).trans e5, fun j r' hj hr => ?_⟩
        by_cases q : j = i
        · subst q
          rw [hr1] at hr
          cases hr
          exact hb
        · exact hg j r' (by omega) hr
    · rintro σ' H2 ⟨v1, v2, rfl, e2, hg⟩
      have hn : progF d = none := pf _ (fb_none fun j e he => hg j e (by rw [hlen]; exact (List.getElem?_eq_some_iff.mp he).1) he) (by omega)
      have e3 : Ex W H H2 := e1.trans e2
      walk_at "lw gi"
      refine lc_B (W := W) (a := a) (xs := xs) rfl (sq.ex e3) e3.iv (by omega) (fun i ys Hh => DWs K W Hh ys (((items d).take i).map tupD)) (fun i ys Ha Hb e q => q.ex e) .nil ?_ ?_
      · rintro i x D ys H' QV QN hi hx hD hDa e4 q _ qv qn
        obtain ⟨r, hr1, hd⟩ := ws.get hx
        have hb := fb_all (p := fun r => insD r (items d).length) (ds := items d) (by
          have z := hn
          unfold progF at z
          rw [if_neg (by rw [hrow]; decide), if_neg (by omega)] at z
          exact z) r (List.mem_of_getElem? hr1)
        have hrr : isRow r = true := ((Bool.and_eq_true _ _).mp hb).1
        have nl : noLs (items r) = true := insL_noL ((Bool.and_eq_true _ _).mp hb).2
        obtain ⟨b, us, rfl, sqb, wb⟩ := (hd.ex (e3.trans e4)).row hrr
        walk_at "lw gi"
        refine rd_tupB e4.iv sqb fun t H5 e5 h5 => ?_
        refine qv _ _ e5 ?_
        rw [List.take_add_one, hr1, List.map_append]
        refine DWs.snoc (q.ex (hide_ex e5 hDa)) ?_
        exact DW.hide (.tup h5 (wb.ex e5)) (by show noLs (items r) = true; exact nl) e5.iv (e5.at_ hDa)
      rintro D H5 ys hD e5 h5 q _
      rw [hlen, List.take_length] at q
      walk_at "lw gi"
      rename_i t H6 f6 e6 h6
      exact k hn (.ref t) H6 ((e3.trans e5).trans e6) (.tup (.inl h6) (q.ex e6))

theorem ok_kind_counts (T : Tx P w K mg) : FnOk P w K mg base CX0 1 T.f_kind_counts T.fd_kind_counts ["setup"] (sp_kind_counts K T.c_Setup) := by
  refine T.F_kind_counts.ok sc_kind_counts (fun vs H Q E h => ?_) (fun cdv A outer s H vs Q E hr h => ?_)
  · obtain ⟨W, p, c, rfl, iv, pa, k⟩ := h
    rfl
  · obtain ⟨W, p, c, rfl, iv, pa, k⟩ := h
    refine ⟨_, (pss_one (ps_ret (pe_tup (pa_cons (pe_tup (pa_cons pe_str (pa_cons (pe_fld (pv 0) rfl) pa_nil))) (pa_cons (pe_tup (pa_cons pe_str (pa_cons (pe_fld (pv 0) rfl) pa_nil))) (pa_cons (pe_tup (pa_cons pe_str (pa_cons (pe_fld (pv 0) rfl) pa_nil))) (pa_cons (pe_tup (pa_cons pe_str (pa_cons (pe_callB (r := Lw.rLen K) c_len (by rfl) T.n_len PySem.boot_len (pa_cons (pe_fld (pv 0) rfl) pa_nil)) pa_nil))) (pa_cons (pe_tup (pa_cons pe_str (pa_cons (pe_callB (r := Lw.rLen K) c_len (by rfl) T.n_len PySem.boot_len (pa_cons (pe_fld (pv 0) rfl) pa_nil)) pa_nil))) pa_nil)))))))), ?_⟩
    obtain ⟨dx, fs, vp, vl, dp, dl, h0, f1, f2, f3, f4, f5, f6, d1, n1, d2, n2⟩ := pa.ex
    obtain ⟨ap, xp, rfl, tp, wp⟩ := d1.tupE
    obtain ⟨al, xl, rfl, tl, wl⟩ := d2.tupE
    have np : (xp.length : Int) = c.n := by rw [wp.length]; exact n1
    have nl : (xl.length : Int) = c.lines := by rw [wl.length]; exact n2
    walk_at "lw gi"
    refine rd_fld ?_
    walk_at "lw gi"
    refine ⟨p, _, _, _, _, rfl, h0.1, T.cl_Setup, T.na_Setup_pages, f3, ?_⟩
    walk_at "lw gi"
    rename_i t1 H1 g1 e1 h1
    refine rd_fld ?_
    walk_at "lw gi"
    refine ⟨p, _, _, _, _, rfl, (e1.at_ h0).1, T.cl_Setup, T.na_Setup_ports, f4, ?_⟩
    walk_at "lw gi"
    rename_i t2 H2 g2 e2 h2
    have e12 := e1.trans e2
    refine rd_fld ?_
    walk_at "lw gi"
    refine ⟨p, _, _, _, _, rfl, (e12.at_ h0).1, T.cl_Setup, T.na_Setup_bells, f5, ?_⟩
    walk_at "lw gi"
    rename_i t3 H3 g3 e3 h3
    have e13 := e12.trans e3
    refine rd_fld ?_
    walk_at "lw gi"
    refine ⟨p, _, _, _, _, rfl, (e13.at_ h0).1, T.cl_Setup, T.na_Setup_lines, f6, ?_⟩
    have sl : SqB K W H3 al xl := .inr (tl.ex e13)
    walk_at "lw gi"
    rename_i t4 H4 g4 e4 h4
    have e14 := e13.trans e4
    refine rd_fld ?_
    walk_at "lw gi"
    refine ⟨p, _, _, _, _, rfl, (e14.at_ h0).1, T.cl_Setup, T.na_Setup_programs, f1, ?_⟩
    have sp : SqB K W H4 ap xp := .inr (tp.ex e14)
    walk_at "lw gi"
    rename_i t5 H5 g5 e5 h5 t6 H6 g6 e6 h6
    rw [np] at h5
    rw [nl] at h4
    have e46 := e5.trans e6
    refine k _ _ (e14.trans e46) (.tup (.inl h6) ?_)
    exact .cons (.tup (.inl (e46.at_ (e4.at_ (e3.at_ (e2.at_ h1))))) (.cons (.str _) (.cons (.int _) .nil))) (.cons (.tup (.inl (e46.at_ (e4.at_ (e3.at_ h2)))) (.cons (.str _) (.cons (.int _) .nil)))
      (.cons (.tup (.inl (e46.at_ (e4.at_ h3))) (.cons (.str _) (.cons (.int _) .nil))) (.cons (.tup (.inl (e46.at_ h4)) (.cons (.str _) (.cons (.int _) .nil))) (.cons (.tup (.inl (e6.at_ h5)) (.cons (.str _) (.cons (.int _) .nil))) .nil))))

theorem ok_kind_of (T : Tx P w K mg) : FnOk P w K mg base CX0 1 T.f_kind_of T.fd_kind_of ["thing"] (sp_kind_of K) := by
  refine T.F_kind_of.ok sc_kind_of (fun vs H Q E h => ?_) (fun cdv A outer s H vs Q E hr h => ?_)
  · obtain ⟨W, v, s, x, rfl, h, k⟩ := h
    rfl
  · obtain ⟨W, v, s, x, rfl, h, k⟩ := h
    refine ⟨_, (pss_cons (ps_if (pt_cmpR op_eq (pe_ix (r := rIxT K) ix_tup (pv 0) pe_int (fun _ _ => rfl)) pe_str (nomark _))
        (pss_one (ps_ret pe_str))
        pss_nil)
      (pss_one (ps_ret (pe_ix (r := rIxT K) ix_tup (pv 0) pe_int (fun _ _ => rfl))))), ?_⟩
    obtain ⟨a, us, rfl, tu, wu⟩ := h.tupE
    obtain ⟨w1, w2, rfl⟩ := two_of wu.length
    obtain ⟨_, _, eq, hw1, hw2⟩ := wu.two
    cases eq
    obtain rfl := hw1.strE
    unfold kindOfF at k
    walk_at "lw gi"
    refine rd_ixTB tu at_0 ?_
    walk_at "lw gi"
    refine ifS ?_ ?_ <;> intro hc
    · walk_at "lw gi"
      rw [if_pos hc] at k
      exact k
    · walk_at "lw gi"
      refine rd_ixTB tu at_0 ?_
      walk_at "lw gi"
      rw [if_neg hc] at k
      exact k

theorem ok_is_thing (T : Tx P w K mg) : FnOk P w K mg base CX0 2 T.f_is_thing T.fd_is_thing ["setup", "thing"] (sp_is_thing K T.c_Setup) := by
  refine T.F_is_thing.ok sc_is_thing (fun vs H Q E h => ?_) (fun cdv A outer s H vs Q E hr h => ?_)
  · obtain ⟨W, p, v, c, d, rfl, iv, pa, h, can, k⟩ := h
    rfl
  · obtain ⟨W, p, v, c, d, rfl, iv, pa, h, can, k⟩ := h
    refine ⟨_, (pss_cons (ps_if (PW.pt (pw_or (pt_not (pt_val (pe_callB (r := rIsi K) call_isi (by rfl) T.n_isinstance (by decide +kernel) (pa_cons (pv 1) (pa_cons (pe_bltn (v := .ty "tuple") rfl T.n_tuple (by decide +kernel) rfl) pa_nil))))) (pw_or1 (pt_cmpR op_ne (pe_callB (r := Lw.rLen K) c_len (by rfl) T.n_len PySem.boot_len (pa_cons (pv 1) pa_nil)) pe_int (nomark _)))))
        (pss_one (ps_ret pe_bl))
        pss_nil)
      (pss_cons (ps_asg (pv 1) (pg_tup (by rfl) (pgs_cons (pg_name (i := 2) sc_is_thing.nd rfl (by first | exact Or.inl rfl | exact Or.inr rfl)) (pgs_cons (pg_name (i := 3) sc_is_thing.nd rfl (by first | exact Or.inl rfl | exact Or.inr rfl)) pgs_nil))))
      (pss_cons (ps_if (pt_not (pt_val (pe_call (ok_is_integer T) hr (by rfl) T.g_is_integer T.F_is_integer.kp T.b_is_integer .nil pass0 (pa_cons (pv 3) pa_nil))))
        (pss_one (ps_ret pe_bl))
        pss_nil)
      (pss_cons (ps_for PassesOwn.never rfl (pi_tup (pe_call (ok_kind_counts T) hr (by rfl) T.g_kind_counts T.F_kind_counts.kp T.b_kind_counts .nil pass0 (pa_cons (pv 0) pa_nil))) (pg_tup (by rfl) (pgs_cons (pg_name (i := 4) sc_is_thing.nd rfl (by first | exact Or.inl rfl | exact Or.inr rfl)) (pgs_cons (pg_name (i := 5) sc_is_thing.nd rfl (by first | exact Or.inl rfl | exact Or.inr rfl)) pgs_nil)))
        (pss_one (ps_if (pt_cmpR (r := rEqD K) (op_eqD hr.units) (pv 4) (pv 2) (nomark _))
          (pss_one (ps_ret (pe_chain op_le op_lt pe_int (pv 3) (pv 5))))
          pss_nil)))
      (pss_one (ps_ret pe_bl)))))), ?_⟩
    have key : ∀ b, isThingD c d = b → ∀ H', Ex W H H' → Q (.bl b) H' := fun b e H' x => cast_bl (k H' x) e
    clear k
    walk_at "lw gi"
    refine ifNB ?_ ?_ <;> intro ht
    · walk_at "lw gi"
      exact key _ (isThing_T ht) _ (Ex.refl iv)
    obtain ⟨ds, rfl⟩ := isT_E ht
    obtain ⟨a, xs, rfl, tu, ws⟩ := id h.tupE
    have hlen := ws.length
    have sq : SqB K W H a xs := .inr tu
    walk_at "lw gi"
    refine ifIn ?_ ?_ <;> intro h2
    · walk_at "lw gi"
      exact key _ (isThing_L fun z => h2 (by rw [hlen, z]; rfl)) _ (Ex.refl iv)
    obtain ⟨x, y, rfl⟩ : ∃ x y, xs = [x, y] := two_of (by omega)
    obtain ⟨d1, d2, rfl, hx, hy⟩ := ws.two
    walk_at "lw gi"
    refine ⟨a, _, rfl, tu.sq, rfl, ?_⟩
    walk_at "lw gi"
    refine ifNB ?_ ?_ <;> intro hi
    · walk_at "lw gi"
      exact key _ (isThing_I hi) _ (Ex.refl iv)
    obtain ⟨i, rfl⟩ := isI_E hi
    obtain rfl := hy.intE
    walk_at "lw gi"
    refine ⟨W, p, c, rfl, iv, pa, fun t H1 e1 dk => ?_⟩
    obtain ⟨t', ks, et, tk, wk⟩ := dk.tupE
    cases et
    refine ⟨t, rfl, ⟨ks, tk.sq⟩, ?_⟩
    refine for_it (walk_tup (xs := ks)) (fun n σ' H' => ∃ v4 v5, σ' = [some (.ref p), some (.ref a), some x, some (.int i), v4, v5] ∧ H' = H1 ∧ thingK (kindsL c) d1 i = thingK ((kindsL c).drop n) d1 i) ⟨_, _, rfl, rfl, rfl⟩ (fun n σ' H' _ ⟨_, _, _, e, _⟩ => e ▸ tk.sq) ?_ ?_
    · rintro n z σ' H' H'' hn ⟨v4, v5, rfl, rfl, hgo⟩ ⟨rfl, hz⟩
      obtain ⟨kd, hk1, hkd⟩ := wk.get hz
      rw [List.getElem?_map] at hk1
      obtain ⟨⟨kn, m⟩, hkn, rfl⟩ : ∃ q : Str × Int, (kindsL c)[n]? = some q ∧ kd = .tuple [.str q.1, .int q.2] := by
        cases e : (kindsL c)[n]? with
        | none => rw [e] at hk1; cases hk1
        | some q => rw [e] at hk1; exact ⟨q, rfl, (Option.some.inj hk1).symm⟩
      rw [thingK_step hkn] at hgo
      obtain ⟨b, us, rfl, tb, wb⟩ := hkd.tupE
      obtain ⟨u1, u2, rfl⟩ := two_of wb.length
      obtain ⟨_, _, eq, hu1, hu2⟩ := wb.two
      cases eq
      obtain rfl := hu1.strE
      obtain rfl := hu2.intE
      refine ⟨b, _, rfl, tb.sq, rfl, ?_⟩
      walk_at "lw gi"
      refine rd_eqD2 (W := W) (.str kn) (hx.ex e1) (kind_shaped hkn) (can_shaped (can_fst can)) ?_
      walk_at "lw gi"
      refine ifB ?_ ?_ <;> intro heq
      · rw [if_pos heq] at hgo
        walk_at "lw all"
        · exact key _ (by rw [isThing_K, hgo]; show decide _ = decide _; rw [decide_eq_decide]; omega) _ e1
        · exact key _ (by rw [isThing_K, hgo]; exact decide_eq_false (by omega)) _ e1
      · rw [if_neg (by rw [heq]; decide)] at hgo
        walk_at "lw gi"
        exact ⟨_, _, rfl, rfl, hgo⟩
    · rintro σ' H' ⟨v4, v5, rfl, rfl, hgo⟩
      have hk5 : ks.length = 5 := by rw [wk.length]; rfl
      walk_at "lw gi"
      refine key _ ?_ _ e1
      rw [isThing_K, hgo, hk5]
      rfl

theorem ok_is_between (T : Tx P w K mg) : FnOk P w K mg base CX0 2 T.f_is_between T.fd_is_between ["value", "low", "high"] (sp_is_between K) := by
  refine T.F_is_between.ok sc_is_between (fun vs H Q E h => ?_) (fun cdv A outer s H vs Q E hr h => ?_)
  · obtain ⟨W, v, d, lo, hi, rfl, h, k⟩ := h
    rfl
  · obtain ⟨W, v, d, lo, hi, rfl, h, k⟩ := h
    refine ⟨_, (pss_one (ps_ret (pe_and (pe_call (ok_is_integer T) hr (by rfl) T.g_is_integer T.F_is_integer.kp T.b_is_integer .nil pass0 (pa_cons (pv 0) pa_nil)) (pe_one (pe_chain op_le op_le (pv 1) (pv 0) (pv 2)))))), ?_⟩
    walk_at "lw go"
    refine ifB ?_ ?_ <;> intro h1
    · obtain ⟨i, rfl⟩ := isI_E h1
      obtain rfl := h.intE
      walk_at "lw all"
      · refine cast_bl k ?_
        show decide _ = decide _
        rw [decide_eq_decide]
        omega
      · exact cast_bl k (decide_eq_false (by omega))
    · walk_at "lw go"
      exact cast_bl k (isBet_F h1)

theorem ok_free_price (T : Tx P w K mg) : FnOk P w K mg base CX0 1 T.f_free_price T.fd_free_price ["processes", "slots", "windows"] (sp_free_price) := by
  refine T.F_free_price.ok sc_free_price (fun vs H Q E h => ?_) (fun cdv A outer s H vs Q E hr h => ?_)
  · obtain ⟨n, s, w', rfl, hn, k⟩ := h
    rfl
  · obtain ⟨n, s, w', rfl, hn, k⟩ := h
    refine ⟨_, (pss_one (ps_ret (pe_op op_add (pe_op op_add (pe_op op_mul (pv 0) (pv 1)) (pe_op op_mul (pv 0) (pv 2))) pe_int))), ?_⟩
    walk_at "lw all"
    exact k

theorem ok_least_ticks (T : Tx P w K mg) : FnOk P w K mg base CX0 2 T.f_least_ticks T.fd_least_ticks ["processes", "slots", "windows"] (sp_least_ticks) := by
  refine T.F_least_ticks.ok sc_least_ticks (fun vs H Q E h => ?_) (fun cdv A outer s H vs Q E hr h => ?_)
  · obtain ⟨n, s, w', rfl, hn, k⟩ := h
    rfl
  · obtain ⟨n, s, w', rfl, hn, k⟩ := h
    refine ⟨_, (pss_one (ps_ret (pe_op op_add (pe_call (ok_free_price T) hr (by rfl) T.g_free_price T.F_free_price.kp T.b_free_price .nil pass0 (pa_cons (pv 0) (pa_cons (pv 1) (pa_cons (pv 2) pa_nil)))) pe_int))), ?_⟩
    walk_at "lw all"
    exact k

theorem ok_checked_number (T : Tx P w K mg) : FnOk P w K mg base (L2.CX P w) 3 T.f_checked_number T.fd_checked_number ["field", "value", "low", "high"] (sp_checked_number K T.c_BadSetup) := by
  refine T.F_checked_number.okX sc_checked_number (fun vs H Q E h => ?_) (fun cdv A outer s H vs Q E hr h => ?_)
  · obtain ⟨W, f, v, d, lo, hi, rfl, iv, h, c⟩ := h
    rfl
  · obtain ⟨W, f, v, d, lo, hi, rfl, iv, h, c⟩ := h
    refine ⟨_, (pss_cons (ps_if (pt_not (pt_val (pe_call (ok_is_between T) hr (by rfl) T.g_is_between T.F_is_between.kp T.b_is_between .nil pass0 (pa_cons (pv 1) (pa_cons (pv 2) (pa_cons (pv 3) pa_nil))))))
        (pss_one (ps_raiseS2 rfl T.S_BadSetup hr (takes_of rfl rfl rfl rfl) (pa_cons (pv 0) (pa_cons (pe_un un_neg pe_int) pa_nil))))
        pss_nil)
      (pss_one (ps_ret (pv 1)))), ?_⟩
    walk_at "lw go"
    refine ifNB ?_ ?_ <;> intro hb
    · walk_at "lw gi"
      refine rd_raiseS2 ?_
      walk_at "lw gi"
      exact c.raise (Ex.refl iv) (if_neg (by rw [hb]; decide))
    · walk_at "lw gi"
      exact c.2 (if_pos hb) _ _ (Ex.refl iv) h

theorem ok_checked_programs (T : Tx P w K mg) : FnOk P w K mg base (L2.CX P w) 5 T.f_checked_programs T.fd_checked_programs ["programs"] (sp_checked_programs K T.c_BadSetup) := by
  refine T.F_checked_programs.okX sc_checked_programs (fun vs H Q E h => ?_) (fun cdv A outer s H vs Q E hr h => ?_)
  · obtain ⟨W, v, d, rfl, iv, h, hp, c⟩ := h
    rfl
  · obtain ⟨W, v, d, rfl, iv, h, hp, c⟩ := h
    refine ⟨_, (pss_cons (ps_if (PW.pt (pw_or (pt_not (pt_val (pe_call (ok_is_row T) (hr.mono (by decide)) (by rfl) T.g_is_row T.F_is_row.kp T.b_is_row .nil pass0 (pa_cons (pv 0) pa_nil)))) (pw_or1 (pt_not (pt_chain op_le op_le pe_int (pe_callB (r := Lw.rLen K) c_len (by rfl) T.n_len PySem.boot_len (pa_cons (pv 0) pa_nil)) (pe_glob (v := .int 6) rfl T.g_MOST_PROCESSES ⟨_, rfl⟩))))))
        (pss_one (ps_raiseS2 rfl T.S_BadSetup hr (takes_of rfl rfl rfl rfl) (pa_cons pe_str (pa_cons (pe_un un_neg pe_int) pa_nil))))
        pss_nil)
      (pss_cons (ps_set (i := 1) sc_checked_programs.nd rfl (by first | exact Or.inl rfl | exact Or.inr rfl) (pe_lst pa_nil))
      (pss_cons (ps_for (passes_of rfl) rfl (pi_or (pi_enum (by rfl) T.n_enumerate (pa_cons (pv 0) pa_nil)) (pi_enumT (by rfl) T.n_enumerate (pa_cons (pv 0) pa_nil))) (pg_tup (by rfl) (pgs_cons (pg_name (i := 2) sc_checked_programs.nd rfl (by first | exact Or.inl rfl | exact Or.inr rfl)) (pgs_cons (pg_name (i := 3) sc_checked_programs.nd rfl (by first | exact Or.inl rfl | exact Or.inr rfl)) pgs_nil)))
        (pss_cons (ps_if (pt_not (pt_val (pe_call (ok_is_row T) (hr.mono (by decide)) (by rfl) T.g_is_row T.F_is_row.kp T.b_is_row .nil pass0 (pa_cons (pv 3) pa_nil))))
          (pss_one (ps_raiseS2 rfl T.S_BadSetup hr (takes_of rfl rfl rfl rfl) (pa_cons pe_str (pa_cons (pv 2) pa_nil))))
          pss_nil)
        (pss_one (ps_try_only rfl rfl ⟨rfl, by decide, Or.inl T.gc_BadProgram⟩ takes0 (fun W pn xe tk po =>
          (pss_one (ps_expr (pe_bmK (K := K) rfl (pe_bm PySem.F.plainAttrs_list PySem.F.slot_list_append PySem.F.type_list_append mt_append (pv 1) (pa_cons (pe_callS (ok_check_program T) hr (by rfl) T.g_check_program T.F_check_program.kp T.b_check_program (fun σ => passAt tk σ) (pa_cons (pv 3) pa_nil)) pa_nil))))))
          (fun a oe cls d pn hz hf =>
          (pss_one ps_never))))))
      (pss_one (ps_ret (pe_callTy (r := Lw.rTupO K) c_tuple (by rfl) T.n_tuple (by decide +kernel) (pa_cons (pv 1) pa_nil))))))), ?_⟩
    walk_at "lw go"
    rename_i H1 e1
    refine ifNB ?_ ?_ <;> intro hrow
    · walk_at "lw gi"
      refine rd_raiseS2 ?_
      walk_at "lw gi"
      exact c.raise e1 (by unfold progsF badLen; rw [hrow]; rfl)
    obtain ⟨a, xs, rfl, sq, ws⟩ := h.row hrow
    have hlen := ws.length
    walk_at "lw gi"
    refine ifD ?_ ?_ <;> intro hl1
    rotate_left
    · walk_at "lw gi"
      refine rd_raiseS2 ?_
      walk_at "lw gi"
      exact c.raise e1 (by unfold progsF; rw [badLen_T (by omega)]; rfl)
    walk_at "lw gi"
    refine ifN ?_ ?_ <;> intro hl2
    · walk_at "lw gi"
      refine rd_raiseS2 ?_
      walk_at "lw gi"
      exact c.raise e1 (by unfold progsF; rw [badLen_T (by omega)]; rfl)
    have pf : ∀ o, fb (fun p => isRow p && (progF p).isNone) (items d) = o → progsF d = o := fun o e => by
      unfold progsF
      rw [badLen_F hrow (by omega), if_neg (by decide), e]
    walk_at "lw gi"
    rename_i q H2 f2 e2 h2
    refine for_eB0 (W := W) (H0 := H1) (a := a) (xs := xs) e2 rfl (sq.ex e1) (fun i σ' H' => ∃ v2 v3 ys, σ' = [some (.ref a), some (.ref q), v2, v3] ∧ Ex W H1 H' ∧ At W H' q (.lst ys) ∧ ys.length = i ∧ DWs K W H' ys (((items d).take i).map rowsD) ∧ ∀ (j : Nat) r, j < i → (items d)[j]? = some r → isRow r = true)
      ⟨_, _, [], rfl, e2, h2, rfl, .nil, fun j _ hj => absurd hj (Nat.not_lt_zero _)⟩ (fun i σ' H' ⟨_, _, _, _, e, _⟩ => e) ?_ ?_
    · rintro i x T2 σ' H3 H' hx ⟨v2, v3, ys, rfl, e3, hq, hy, hD, hg⟩ f4 e4 h4
      obtain ⟨r, hr1, hd⟩ := ws.get hx
      have hi2 := (List.getElem?_eq_some_iff.mp hx).1
      have e14 : Ex W H1 H' := e3.trans e4
      have hd4 := hd.ex (e1.trans e14)
      have hq4 := e4.at_ hq
      walk_at "lw gi"
      rename_i H5 e5
      refine ifNB ?_ ?_ <;> intro hb
      · walk_at "lw gi"
        refine rd_raiseS2 ?_
        walk_at "lw gi"
        refine c.raise ((e1.trans e14).trans e5) (pf _ (fb_some hr1 (by rw [hb]; rfl) fun j e hj he => ?_))
        have q1 := hg j e hj he
        rw [q1, hp e (List.mem_of_getElem? he) q1]; rfl
      · have pn := hp r (List.mem_of_getElem? hr1) hb
        walk_at "lw gi"
        refine rd_callS ?_
        walk_at "lw gi"
        refine ⟨W, _, r, rfl, e5.iv, hd4.ex e5, Nat.le_trans (progF_len pn) (by decide), fun j fj => (by rw [pn] at fj; cases fj), fun _ u H6 e6 h6 => ?_⟩
        have e16 : Ex W H1 H6 := (e14.trans e5).trans e6
        refine rd_nil ?_
        refine rd_append e16 (by assumption) (e6.at_ (e5.at_ hq4)) (by omega) fun H7 e7 h7 o7 => ?_
        have kp : ∀ p us, At W H6 p (.tup us) → At W H7 p (.tup us) := fun p us hp => o7 p _ (hp.ne (e6.at_ (e5.at_ hq4)) fun z => by cases z) hp
        have nl : noLs (((items d).take i).map rowsD) = true := noLs_all fun z hz => by
          obtain ⟨r2, hr2, rfl⟩ := List.mem_map.mp hz
          obtain ⟨j, hj⟩ := List.getElem?_of_mem hr2
          have hj2 : j < i := by
            have := (List.getElem?_eq_some_iff.mp hj).1
            rw [List.length_take] at this
            omega
          rw [List.getElem?_take_of_lt hj2] at hj
          exact rowsD_noL (hp r2 (List.mem_of_getElem? hj) (hg j r2 hj2 hj))
        walk_at "lw gi"
        refine ⟨_, _, ys ++ [u], rfl, e7, h7, by rw [List.length_append, hy]; rfl, ?_, fun j r' hj hr => ?_⟩
        · rw [List.take_add_one, hr1, List.map_append]
          exact DWs.snoc (DWs.keepT kp nl (((hD.ex e4).ex e5).ex e6)) (DW.keepT kp (rowsD_noL pn) h6)
        · by_cases q : j = i
          · subst q
            rw [hr1] at hr
            cases hr
            exact hb
          · exact hg j r' (by omega) hr
    · rintro σ' H3 ⟨v2, v3, ys, rfl, e3, hq, hy, hD, hg⟩
      rw [hlen, List.take_length] at hD
      walk_at "lw gi"
      rename_i t H6 f6 e6 h6
      refine c.2 (pf _ (fb_none fun j e he => ?_)) _ _ ((e1.trans e3).trans e6) (.tup (.inl h6) (hD.ex e6))
      have q1 := hg j e (by rw [hlen]; exact (List.getElem?_eq_some_iff.mp he).1) he
      rw [q1, hp e (List.mem_of_getElem? he) q1]; rfl

theorem ok_is_turn (T : Tx P w K mg) : FnOk P w K mg base CX0 3 T.f_is_turn T.fd_is_turn ["value", "processes", "least"] (sp_is_turn K) := by
  refine T.F_is_turn.ok sc_is_turn (fun vs H Q E h => ?_) (fun cdv A outer s H vs Q E hr h => ?_)
  · obtain ⟨W, v, d, n, least, rfl, iv, h, k⟩ := h
    rfl
  · obtain ⟨W, v, d, n, least, rfl, iv, h, k⟩ := h
    refine ⟨_, (pss_cons (ps_if (PW.pt (pw_or (pt_not (pt_val (pe_call (ok_is_row T) (hr.mono (by decide)) (by rfl) T.g_is_row T.F_is_row.kp T.b_is_row .nil pass0 (pa_cons (pv 0) pa_nil)))) (pw_or1 (pt_cmpR op_ne (pe_callB (r := Lw.rLen K) c_len (by rfl) T.n_len PySem.boot_len (pa_cons (pv 0) pa_nil)) pe_int (nomark _)))))
        (pss_one (ps_ret pe_bl))
        pss_nil)
      (pss_one (ps_ret (pe_and (pe_call (ok_is_between T) hr (by rfl) T.g_is_between T.F_is_between.kp T.b_is_between .nil pass0 (pa_cons (pe_ix (r := rIx K) ix_seq (pv 0) pe_int (fun _ _ => rfl)) (pa_cons pe_int (pa_cons (pe_op op_sub (pv 1) pe_int) pa_nil)))) (pe_one (pe_call (ok_is_between T) hr (by rfl) T.g_is_between T.F_is_between.kp T.b_is_between .nil pass0 (pa_cons (pe_ix (r := rIx K) ix_seq (pv 0) pe_int (fun _ _ => rfl)) (pa_cons (pv 2) (pa_cons (pe_glob (v := .int 100000) rfl T.g_MOST_TICKS ⟨_, rfl⟩) pa_nil))))))))), ?_⟩
    have key : ∀ c, turnB n least d = c → ∀ H', Ex W H H' → Q (.bl c) H' := fun c e H' x => cast_bl (k H' x) e
    clear k
    walk_at "lw go"
    rename_i H1 e1
    refine ifNB ?_ ?_ <;> intro hrow
    · walk_at "lw gi"
      exact key _ (turnB_R hrow) _ e1
    obtain ⟨a, xs, rfl, sq, ws⟩ := h.row hrow
    have hlen := ws.length
    have sq1 := sq.ex e1
    walk_at "lw gi"
    refine ifIn ?_ ?_ <;> intro h2
    · walk_at "lw gi"
      exact key _ (turnB_L fun z => h2 (by rw [hlen, z]; rfl)) _ e1
    obtain ⟨x, y, rfl⟩ : ∃ x y, xs = [x, y] := two_of (by omega)
    obtain ⟨d1, d2, hi, hx, hy⟩ := ws.two
    have hx1 := hx.ex e1
    have hy1 := hy.ex e1
    have ax : atI [x, y] 0 = some x := rfl
    have ay : atI [x, y] 1 = some y := rfl
    walk_at "lw gi"
    refine ifB ?_ ?_ <;> intro hb
    · walk_at "lw gi"
      exact key _ (by rw [turnB_2 hrow hi, hb]; rfl) _ e1
    · walk_at "lw gi"
      exact key _ (by rw [turnB_2 hrow hi, hb]; rfl) _ e1

theorem ok_checked_turns (T : Tx P w K mg) : FnOk P w K mg base (L2.CX P w) 4 T.f_checked_turns T.fd_checked_turns ["turns", "processes", "least"] (sp_checked_turns K T.c_BadSetup) := by
  refine T.F_checked_turns.okX sc_checked_turns (fun vs H Q E h => ?_) (fun cdv A outer s H vs Q E hr h => ?_)
  · obtain ⟨W, v, d, n, least, rfl, iv, h, hn, c⟩ := h
    rfl
  · obtain ⟨W, v, d, n, least, rfl, iv, h, hn, c⟩ := h
    refine ⟨_, (pss_cons (ps_if (PW.pt (pw_or (pt_not (pt_val (pe_call (ok_is_row T) (hr.mono (by decide)) (by rfl) T.g_is_row T.F_is_row.kp T.b_is_row .nil pass0 (pa_cons (pv 0) pa_nil)))) (pw_or1 (pt_not (pt_chain op_le op_le pe_int (pe_callB (r := Lw.rLen K) c_len (by rfl) T.n_len PySem.boot_len (pa_cons (pv 0) pa_nil)) (pe_glob (v := .int 12) rfl T.g_MOST_TURNS ⟨_, rfl⟩))))))
        (pss_one (ps_raiseS2 rfl T.S_BadSetup hr (takes_of rfl rfl rfl rfl) (pa_cons pe_str (pa_cons (pe_un un_neg pe_int) pa_nil))))
        pss_nil)
      (pss_cons (ps_for (passes_of rfl) rfl (pi_or (pi_enum (by rfl) T.n_enumerate (pa_cons (pv 0) pa_nil)) (pi_enumT (by rfl) T.n_enumerate (pa_cons (pv 0) pa_nil))) (pg_tup (by rfl) (pgs_cons (pg_name (i := 3) sc_checked_turns.nd rfl (by first | exact Or.inl rfl | exact Or.inr rfl)) (pgs_cons (pg_name (i := 4) sc_checked_turns.nd rfl (by first | exact Or.inl rfl | exact Or.inr rfl)) pgs_nil)))
        (pss_one (ps_if (pt_not (pt_val (pe_call (ok_is_turn T) hr (by rfl) T.g_is_turn T.F_is_turn.kp T.b_is_turn .nil pass0 (pa_cons (pv 4) (pa_cons (pv 1) (pa_cons (pv 2) pa_nil))))))
          (pss_one (ps_raiseS2 rfl T.S_BadSetup hr (takes_of rfl rfl rfl rfl) (pa_cons pe_str (pa_cons (pv 3) pa_nil))))
          pss_nil)))
      (pss_cons (ps_setLc (i := 5) (own := [("turn", 4)]) rfl sc_checked_turns.nd rfl rfl (sw_true rfl rfl rfl (by decide +kernel)) (pi_or (pi_list (pv 0)) (pi_tup (pv 0))) (blkOk_by (own := [("turn", 4)]) (N := N_checked_turns) (sc := (defScope s_checked_turns)) (by decide +kernel)) (fun _ _ _ _ _ => (pg_name (i := 4) sc_checked_turns.nd rfl (by first | exact Or.inl rfl | exact Or.inr rfl))) (fun _ _ _ _ _ => pts_nil) (fun _ _ _ _ _ => (pe_ix (r := rIx K) ix_seq (pv 4) pe_int (fun _ _ => rfl))))
      (pss_cons (ps_for (passes_of rfl) rfl (pi_range1 rfl T.n_range (pa_cons (pv 1) pa_nil)) (pg_name (i := 6) sc_checked_turns.nd rfl (by first | exact Or.inl rfl | exact Or.inr rfl))
        (pss_one (ps_if (pt_cmpR (r := rIn K true) op_notIn_seq (pv 6) (pv 5) (by rfl))
          (pss_one (ps_raiseS2 rfl T.S_BadSetup hr (takes_of rfl rfl rfl rfl) (pa_cons pe_str (pa_cons (pe_un un_neg pe_int) pa_nil))))
          pss_nil)))
      (pss_one (ps_ret (pe_callTy (r := Lw.rTupO K) c_tuple (by rfl) T.n_tuple (by decide +kernel) (pa_cons (pe_lc (own := [("turn", 4)]) rfl sc_checked_turns.nd (pi_or (pi_list (pv 0)) (pi_tup (pv 0))) (blkOk_by (own := [("turn", 4)]) (N := N_checked_turns) (sc := (defScope s_checked_turns)) (by decide +kernel)) (fun _ _ _ _ _ => (pg_name (i := 4) sc_checked_turns.nd rfl (by first | exact Or.inl rfl | exact Or.inr rfl))) (fun _ _ _ _ _ => pts_nil) (fun _ _ _ _ _ => (pe_callTy (r := Lw.rTupO K) c_tuple (by rfl) T.n_tuple (by decide +kernel) (pa_cons (pv 4) pa_nil)))) pa_nil)))))))), ?_⟩
    walk_at "lw go"
    rename_i H1 e1
    refine ifNB ?_ ?_ <;> intro hrow
    · walk_at "lw gi"
      refine rd_raiseS2 ?_
      walk_at "lw gi"
      exact c.raise e1 (by unfold turnsF; rw [badLen_R hrow]; rfl)
    obtain ⟨a, xs, rfl, sq, ws⟩ := h.row hrow
    have hlen := ws.length
    have sq1 := sq.ex e1
    walk_at "lw gi"
    refine ifD ?_ ?_ <;> intro hl1
    rotate_left
    · walk_at "lw gi"
      refine rd_raiseS2 ?_
      walk_at "lw gi"
      exact c.raise e1 (by unfold turnsF; rw [badLen_T (by omega)]; rfl)
    walk_at "lw gi"
    refine ifN ?_ ?_ <;> intro hl2
    · walk_at "lw gi"
      refine rd_raiseS2 ?_
      walk_at "lw gi"
      exact c.raise e1 (by unfold turnsF; rw [badLen_T (by omega)]; rfl)
    have pf : ∀ j, fb (turnB n least) (items d) = some j → turnsF d n least = some j := fun j e => by
      unfold turnsF
      rw [badLen_F hrow (by omega), if_neg (by decide), e]
    walk_at "lw gi"
    refine for_eB (W := W) (a := a) (xs := xs) rfl sq1 (fun i σ' H' => ∃ v3 v4, σ' = [some (.ref a), some (.int n), some (.int least), v3, v4, none, none] ∧ Ex W H1 H' ∧ ∀ (j : Nat) r, j < i → (items d)[j]? = some r → (turnB n least) r = true) ⟨_, _, rfl, Ex.refl e1.iv, fun j _ hj => absurd hj (Nat.not_lt_zero _)⟩ (fun i σ' H' ⟨_, _, _, e, _⟩ => e) ?_ ?_
    · rintro i x T2 σ' H2 H' hx ⟨v3, v4, rfl, e2, hg⟩ f3 e3 h3
      obtain ⟨r, hr1, hd⟩ := ws.get hx
      have e4 : Ex W H H' := (e1.trans e2).trans e3
      have hd4 := hd.ex e4
      walk_at "lw gi"
      rename_i H5 e5
      refine ifNB ?_ ?_ <;> intro hb
      · walk_at "lw gi"
        refine rd_raiseS2 ?_
        walk_at "lw gi"
        exact c.raise (e4.trans e5) (pf _ (fb_some hr1 hb fun j e hj he => hg j e hj he))
      · walk_at "lw gi"
        refine ⟨_, _, rfl, (e2.trans e3).trans e5, fun j r' hj hr => ?_⟩
        by_cases q : j = i
        · subst q
          rw [hr1] at hr
          cases hr
          exact hb
        · exact hg j r' (by omega) hr
    rintro σ' H2 ⟨v3, v4, rfl, e2, hg⟩
    have hall : fb (turnB n least) (items d) = none := fb_none fun j e he => hg j e (by rw [hlen]; exact (List.getElem?_eq_some_iff.mp he).1) he
    have e3 : Ex W H H2 := e1.trans e2
    have iv3 := e3.iv
    have sq3 := sq.ex e3
    have good := fb_all hall
    have pn : ∀ o, (if ownsAll (items d) n = true then none else some (-1)) = o → turnsF d n least = o := fun o e => by
      unfold turnsF
      rw [badLen_F hrow (by omega), if_neg (by decide), hall]
      exact e
    walk_at "lw gi"
    refine lc_B (W := W) (a := a) (xs := xs) rfl sq3 iv3 (by omega) (fun i ys Hh => ys = (((items d).take i).map tickD).map V.int) (fun _ _ _ _ _ q => q) rfl ?_ ?_
    · rintro i x D ys H' QV QN hi hx hD hDa e4 q _ qv qn
      obtain ⟨r, hr1, hd⟩ := ws.get hx
      obtain ⟨hrr, p, b, hi2⟩ := turnB_E (good r (List.mem_of_getElem? hr1))
      obtain ⟨a2, us, rfl, sq2, ws2⟩ := (hd.ex (e3.trans e4)).row hrr
      rw [hi2] at ws2
      obtain ⟨w1, w2, rfl⟩ := two_of ws2.length
      obtain ⟨_, _, eq, hw1, _⟩ := ws2.two
      cases eq
      obtain rfl := hw1.intE
      have ax : atI [V.int p, w2] 0 = some (V.int p) := rfl
      walk_at "lw gi"
      refine qv _ _ (Ex.refl e4.iv) ?_
      rw [List.take_add_one, hr1, List.map_append, List.map_append, ← q, ← tickD_2 hi2]
      rfl
    rintro D H5 ys hD e5 h5 q _
    rw [hlen, List.take_length] at q
    subst q
    walk_at "lw gi"
    refine for_r (fun i σ' H' => ∃ v4 v6, σ' = [some (.ref a), some (.int n), some (.int least), v3, v4, some (.ref D), v6] ∧ Ex W H5 H' ∧ ∀ p : Nat, p < i → (p : Int) ∈ (items d).map tickD) ⟨_, _, rfl, Ex.refl e5.iv, fun p hp => absurd hp (Nat.not_lt_zero _)⟩ ?_ ?_
    · rintro i σ' H6 hi ⟨v4, v6, rfl, e6, hg2⟩
      walk_at "lw gi"
      refine rd_niL (e6.at_ h5) rfl (flat_is _) ?_
      rw [inV_int, Int.zero_add]
      walk_at "lw gi"
      refine ifN ?_ ?_ <;> intro hm
      · walk_at "lw gi"
        refine rd_raiseS2 ?_
        walk_at "lw gi"
        exact c.raise ((e3.trans e5).trans e6) (pn _ (by rw [ownsAll_F hi hm]; rfl))
      · walk_at "lw gi"
        refine ⟨_, _, rfl, e6, fun p hp => ?_⟩
        by_cases q : p = i
        · subst q; exact hm
        · exact hg2 p (by omega)
    · rintro σ' H6 ⟨v4, v6, rfl, e6, hg2⟩
      have e7 : Ex W H H6 := (e3.trans e5).trans e6
      walk_at "lw gi"
      refine lc_rows (W := W) (a := a) (xs := xs) rfl (sq.ex e7) e7.iv (by omega) (ws.ex e7) (fun d' hd' => ?_) (fun _ => rfl) ?_
      · obtain ⟨h1, p, b, h2⟩ := turnB_E (good d' hd')
        exact ⟨h1, noLs_2 h2⟩
      rintro D2 H8 ys hD2 e8 h8 q _
      walk_at "lw gi"
      rename_i t H9 f9 e9 h9
      exact c.2 (pn _ (by rw [ownsAll_T hg2]; rfl)) (.ref t) H9 ((e7.trans e8).trans e9) (.tup (.inl h9) (q.ex e9))

theorem ok_checked_quotas (T : Tx P w K mg) : FnOk P w K mg base (L2.CX P w) 3 T.f_checked_quotas T.fd_checked_quotas ["quotas", "processes"] (sp_checked_quotas K T.c_BadSetup) := by
  refine T.F_checked_quotas.okX sc_checked_quotas (fun vs H Q E h => ?_) (fun cdv A outer s H vs Q E hr h => ?_)
  · obtain ⟨W, v, d, n, rfl, iv, h, hn, c⟩ := h
    rfl
  · obtain ⟨W, v, d, n, rfl, iv, h, hn, c⟩ := h
    refine ⟨_, (pss_cons (ps_if (pt_cmpR o_isN (pv 0) pe_non (nomark _))
        (pss_one (ps_ret (pe_callTy (r := Lw.rTupO K) c_tuple (by rfl) T.n_tuple (by decide +kernel) (pa_cons (pe_lc (own := [("process", 2)]) rfl sc_checked_quotas.nd (pi_range1 rfl T.n_range (pa_cons (pv 1) pa_nil)) (blkOk_by (own := [("process", 2)]) (N := N_checked_quotas) (sc := (defScope s_checked_quotas)) (by decide +kernel)) (fun _ _ _ _ _ => (pg_name (i := 2) sc_checked_quotas.nd rfl (by first | exact Or.inl rfl | exact Or.inr rfl))) (fun _ _ _ _ _ => pts_nil) (fun _ _ _ _ _ => pe_int)) pa_nil))))
        pss_nil)
      (pss_cons (ps_if (PW.pt (pw_or (pt_not (pt_val (pe_call (ok_is_row T) (hr.mono (by decide)) (by rfl) T.g_is_row T.F_is_row.kp T.b_is_row .nil pass0 (pa_cons (pv 0) pa_nil)))) (pw_or1 (pt_cmpR op_ne (pe_callB (r := Lw.rLen K) c_len (by rfl) T.n_len PySem.boot_len (pa_cons (pv 0) pa_nil)) (pv 1) (nomark _)))))
        (pss_one (ps_raiseS2 rfl T.S_BadSetup hr (takes_of rfl rfl rfl rfl) (pa_cons pe_str (pa_cons (pe_un un_neg pe_int) pa_nil))))
        pss_nil)
      (pss_cons (ps_for (passes_of rfl) rfl (pi_or (pi_enum (by rfl) T.n_enumerate (pa_cons (pv 0) pa_nil)) (pi_enumT (by rfl) T.n_enumerate (pa_cons (pv 0) pa_nil))) (pg_tup (by rfl) (pgs_cons (pg_name (i := 2) sc_checked_quotas.nd rfl (by first | exact Or.inl rfl | exact Or.inr rfl)) (pgs_cons (pg_name (i := 3) sc_checked_quotas.nd rfl (by first | exact Or.inl rfl | exact Or.inr rfl)) pgs_nil)))
        (pss_one (ps_if (pt_not (pt_val (pe_call (ok_is_between T) hr (by rfl) T.g_is_between T.F_is_between.kp T.b_is_between .nil pass0 (pa_cons (pv 3) (pa_cons pe_int (pa_cons (pe_glob (v := .int 8) rfl T.g_MOST_CLAIMS ⟨_, rfl⟩) pa_nil))))))
          (pss_one (ps_raiseS2 rfl T.S_BadSetup hr (takes_of rfl rfl rfl rfl) (pa_cons pe_str (pa_cons (pv 2) pa_nil))))
          pss_nil)))
      (pss_one (ps_ret (pe_callTy (r := Lw.rTupO K) c_tuple (by rfl) T.n_tuple (by decide +kernel) (pa_cons (pv 0) pa_nil))))))), ?_⟩
    walk_at "lw go"
    cases hN : isNoneD d with
    | true =>
      obtain rfl := isNoneD_E hN
      obtain rfl := h.nonE
      refine ifD_yes rfl ?_
      walk_at "lw gi"
      refine lc_w (W := W) (X := fun i x => x = .int (0 + (i : Nat))) (n := n.toNat) walk_range (fun i ys Hh => ys = List.replicate i (V.int 0)) iv (by omega) (fun _ _ => trivial) (fun _ _ _ _ _ q => q) rfl ?_ ?_
      · rintro i x D ys H' QV QN hn' rfl hD hDa e3 rfl _ qv qn
        walk_at "lw gi"
        exact qv _ _ (Ex.refl e3.iv) (List.replicate_succ' ..).symm
      rintro D H5 ys hD e5 h5 rfl _
      walk_at "lw gi"
      rename_i t H6 f6 e6 h6
      exact c.2 (if_pos rfl) (.ref t) H6 (e5.trans e6) (.tup (.inl h6) (DWs.of (F2.rep (.int 0) _)))
    | false =>
    refine ifD_no (h.ne_non hN) ?_
    walk_at "lw gi"
    rename_i H1 e1
    refine ifNB ?_ ?_ <;> intro hrow
    · walk_at "lw gi"
      refine rd_raiseS2 ?_
      walk_at "lw gi"
      exact c.raise e1 (by unfold quotasF; rw [hN, if_neg (by decide), if_pos (.inl hrow)])
    obtain ⟨a, xs, rfl, sq, ws⟩ := h.row hrow
    have hlen := ws.length
    have sq1 := sq.ex e1
    walk_at "lw gi"
    refine ifIn ?_ ?_ <;> intro hl
    · walk_at "lw gi"
      refine rd_raiseS2 ?_
      walk_at "lw gi"
      exact c.raise e1 (by unfold quotasF; rw [hN, if_neg (by decide), if_pos (.inr (by omega))])
    have pf : ∀ o, fb (fun q => isBet q 0 8) (items d) = o → quotasF d n = o := fun o e => by
      unfold quotasF
      rw [hN, if_neg (by decide), if_neg (fun z => z.elim (fun z => by rw [hrow] at z; cases z) fun z => z (by omega)), e]
    walk_at "lw gi"
    refine for_eB (W := W) (a := a) (xs := xs) rfl sq1 (fun i σ' H' => ∃ v3 v4, σ' = [some (.ref a), some (.int n), v3, v4] ∧ Ex W H1 H' ∧ ∀ (j : Nat) r, j < i → (items d)[j]? = some r → (fun q => isBet q 0 8) r = true) ⟨_, _, rfl, Ex.refl e1.iv, fun j _ hj => absurd hj (Nat.not_lt_zero _)⟩ (fun i σ' H' ⟨_, _, _, e, _⟩ => e) ?_ ?_
    · rintro i x T2 σ' H2 H' hx ⟨v3, v4, rfl, e2, hg⟩ f3 e3 h3
      obtain ⟨r, hr1, hd⟩ := ws.get hx
      have e4 : Ex W H H' := (e1.trans e2).trans e3
      have hd4 := hd.ex e4
      walk_at "lw gi"
      refine ifNB ?_ ?_ <;> intro hb
      · walk_at "lw gi"
        refine rd_raiseS2 ?_
        walk_at "lw gi"
        exact c.raise e4 (pf _ (fb_some hr1 hb fun j e hj he => hg j e hj he))
      · walk_at "lw gi"
        refine ⟨_, _, rfl, e2.trans e3, fun j r' hj hr => ?_⟩
        by_cases q : j = i
        · subst q
          rw [hr1] at hr
          cases hr
          exact hb
        · exact hg j r' (by omega) hr
    rintro σ' H2 ⟨v3, v4, rfl, e2, hg⟩
    have hall : fb (fun q => isBet q 0 8) (items d) = none := fb_none fun j e he => hg j e (by rw [hlen]; exact (List.getElem?_eq_some_iff.mp he).1) he
    have e3 : Ex W H H2 := e1.trans e2
    have iv3 := e3.iv
    have sq3 := sq.ex e3
    walk_at "lw gi"
    refine rd_tupB iv3 sq3 fun t H9 e9 h9 => ?_
    exact c.2 (pf _ hall) (.ref t) H9 (e3.trans e9) (by unfold quotasV; rw [hN]; exact .tup h9 (ws.ex (e3.trans e9)))

theorem ok_is_data (T : Tx P w K mg) : FnOk P w K mg base CX0 3 T.f_is_data T.fd_is_data ["value"] (sp_is_data K) := by
  refine T.F_is_data.ok sc_is_data (fun vs H Q E h => ?_) (fun cdv A outer s H vs Q E hr h => ?_)
  · obtain ⟨W, v, d, rfl, iv, h, k⟩ := h
    rfl
  · obtain ⟨W, v, d, rfl, iv, h, k⟩ := h
    refine ⟨_, (pss_cons (ps_if (PW.pt (pw_or (pt_not (pt_val (pe_call (ok_is_row T) (hr.mono (by decide)) (by rfl) T.g_is_row T.F_is_row.kp T.b_is_row .nil pass0 (pa_cons (pv 0) pa_nil)))) (pw_or1 (pt_cmpR op_gt (pe_callB (r := Lw.rLen K) c_len (by rfl) T.n_len PySem.boot_len (pa_cons (pv 0) pa_nil)) (pe_glob (v := .int 64) rfl T.g_MOST_DATA ⟨_, rfl⟩) (nomark _)))))
        (pss_one (ps_ret pe_bl))
        pss_nil)
      (pss_one (ps_ret (pe_callB (r := rAll K) (cr_all rfl) (by rfl) T.n_all (by decide +kernel) (pa_cons (pe_lc (own := [("item", 1)]) rfl sc_is_data.nd (pi_or (pi_list (pv 0)) (pi_tup (pv 0))) (blkOk_by (own := [("item", 1)]) (N := N_is_data) (sc := (defScope s_is_data)) (by decide +kernel)) (fun _ _ _ _ _ => (pg_name (i := 1) sc_is_data.nd rfl (by first | exact Or.inl rfl | exact Or.inr rfl))) (fun _ _ _ _ _ => pts_nil) (fun _ _ _ _ _ => (pe_call (ok_is_word T) hr (by rfl) T.g_is_word T.F_is_word.kp T.b_is_word .nil pass0 (pa_cons (pv 1) pa_nil)))) pa_nil))))), ?_⟩
    have key : ∀ c, dataB d = c → ∀ H', Ex W H H' → Q (.bl c) H' := fun c e H' x => cast_bl (k H' x) e
    clear k
    walk_at "lw go"
    rename_i H1 e1
    refine ifNB ?_ ?_ <;> intro hrow
    · walk_at "lw gi"
      exact key _ (dataB_R hrow) _ e1
    obtain ⟨a, xs, rfl, sq, ws⟩ := h.row hrow
    have hlen := ws.length
    have sq1 := sq.ex e1
    walk_at "lw gi"
    refine ifD ?_ ?_ <;> intro h2
    · walk_at "lw gi"
      exact key _ (dataB_L (by omega)) _ e1
    walk_at "lw gi"
    refine lc_B (W := W) (a := a) (xs := xs) rfl sq1 e1.iv (by omega) (fun i ys Hh => ys = (((items d).take i).map isWordD).map V.bl) (fun _ _ _ _ _ q => q) rfl ?_ ?_
    · rintro i x D ys H' QV QN hi hx hD hDa e4 q _ qv qn
      obtain ⟨r, hr1, hd⟩ := ws.get hx
      have hd4 := hd.ex (e1.trans e4)
      walk_at "lw gi"
      refine qv _ _ (Ex.refl e4.iv) ?_
      rw [List.take_add_one, hr1, List.map_append, List.map_append, ← q]
      rfl
    rintro D H5 ys hD e5 h5 q _
    rw [hlen, List.take_length] at q
    subst q
    walk_at "lw gi"
    refine rd_all h5 ?_
    walk_at "lw gi"
    exact key _ (by rw [dataB_T hrow (by omega), List.all_map]; rfl) _ (e1.trans e5)

theorem ok_checked_data (T : Tx P w K mg) : FnOk P w K mg base (L2.CX P w) 4 T.f_checked_data T.fd_checked_data ["data", "processes"] (sp_checked_data K T.c_BadSetup) := by
  refine T.F_checked_data.okX sc_checked_data (fun vs H Q E h => ?_) (fun cdv A outer s H vs Q E hr h => ?_)
  · obtain ⟨W, v, d, n, rfl, iv, h, hn, c⟩ := h
    rfl
  · obtain ⟨W, v, d, n, rfl, iv, h, hn, c⟩ := h
    refine ⟨_, (pss_cons (ps_if (pt_cmpR o_isN (pv 0) pe_non (nomark _))
        (pss_one (ps_ret (pe_callTy (r := Lw.rTupO K) c_tuple (by rfl) T.n_tuple (by decide +kernel) (pa_cons (pe_lc (own := [("process", 2)]) rfl sc_checked_data.nd (pi_range1 rfl T.n_range (pa_cons (pv 1) pa_nil)) (blkOk_by (own := [("process", 2)]) (N := N_checked_data) (sc := (defScope s_checked_data)) (by decide +kernel)) (fun _ _ _ _ _ => (pg_name (i := 2) sc_checked_data.nd rfl (by first | exact Or.inl rfl | exact Or.inr rfl))) (fun _ _ _ _ _ => pts_nil) (fun _ _ _ _ _ => (pe_tup pa_nil))) pa_nil))))
        pss_nil)
      (pss_cons (ps_if (PW.pt (pw_or (pt_not (pt_val (pe_call (ok_is_row T) (hr.mono (by decide)) (by rfl) T.g_is_row T.F_is_row.kp T.b_is_row .nil pass0 (pa_cons (pv 0) pa_nil)))) (pw_or1 (pt_cmpR op_ne (pe_callB (r := Lw.rLen K) c_len (by rfl) T.n_len PySem.boot_len (pa_cons (pv 0) pa_nil)) (pv 1) (nomark _)))))
        (pss_one (ps_raiseS2 rfl T.S_BadSetup hr (takes_of rfl rfl rfl rfl) (pa_cons pe_str (pa_cons (pe_un un_neg pe_int) pa_nil))))
        pss_nil)
      (pss_cons (ps_for (passes_of rfl) rfl (pi_or (pi_enum (by rfl) T.n_enumerate (pa_cons (pv 0) pa_nil)) (pi_enumT (by rfl) T.n_enumerate (pa_cons (pv 0) pa_nil))) (pg_tup (by rfl) (pgs_cons (pg_name (i := 2) sc_checked_data.nd rfl (by first | exact Or.inl rfl | exact Or.inr rfl)) (pgs_cons (pg_name (i := 3) sc_checked_data.nd rfl (by first | exact Or.inl rfl | exact Or.inr rfl)) pgs_nil)))
        (pss_one (ps_if (pt_not (pt_val (pe_call (ok_is_data T) hr (by rfl) T.g_is_data T.F_is_data.kp T.b_is_data .nil pass0 (pa_cons (pv 3) pa_nil))))
          (pss_one (ps_raiseS2 rfl T.S_BadSetup hr (takes_of rfl rfl rfl rfl) (pa_cons pe_str (pa_cons (pv 2) pa_nil))))
          pss_nil)))
      (pss_one (ps_ret (pe_callTy (r := Lw.rTupO K) c_tuple (by rfl) T.n_tuple (by decide +kernel) (pa_cons (pe_lc (own := [("words", 3)]) rfl sc_checked_data.nd (pi_or (pi_list (pv 0)) (pi_tup (pv 0))) (blkOk_by (own := [("words", 3)]) (N := N_checked_data) (sc := (defScope s_checked_data)) (by decide +kernel)) (fun _ _ _ _ _ => (pg_name (i := 3) sc_checked_data.nd rfl (by first | exact Or.inl rfl | exact Or.inr rfl))) (fun _ _ _ _ _ => pts_nil) (fun _ _ _ _ _ => (pe_callTy (r := Lw.rTupO K) c_tuple (by rfl) T.n_tuple (by decide +kernel) (pa_cons (pv 3) pa_nil)))) pa_nil))))))), ?_⟩
    walk_at "lw go"
    cases hN : isNoneD d with
    | true =>
      obtain rfl := isNoneD_E hN
      obtain rfl := h.nonE
      refine ifD_yes rfl ?_
      walk_at "lw gi"
      refine lc_w (W := W) (X := fun i x => x = .int (0 + (i : Nat))) (n := n.toNat) walk_range (fun i ys Hh => DWs K W Hh ys (List.replicate i (.tuple []))) iv (by omega) (fun _ _ => trivial) (fun _ _ _ _ e q => q.ex e) .nil ?_ ?_
      · rintro i x D ys H' QV QN hn' rfl hD hDa e3 q _ qv qn
        walk_at "lw gi"
        rename_i t H4 f4 e4 h4
        refine qv _ _ e4 ?_
        rw [List.replicate_succ']
        exact DWs.snoc (q.ex (hide_ex e4 hDa)) (DW.hide (.tup (.inl h4) .nil) (by rw [noL, noLs]) e4.iv (e4.at_ hDa))
      rintro D H5 ys hD e5 h5 q _
      walk_at "lw gi"
      rename_i t H6 f6 e6 h6
      exact c.2 (if_pos rfl) (.ref t) H6 (e5.trans e6) (.tup (.inl h6) (q.ex e6))
    | false =>
    refine ifD_no (h.ne_non hN) ?_
    walk_at "lw gi"
    rename_i H1 e1
    refine ifNB ?_ ?_ <;> intro hrow
    · walk_at "lw gi"
      refine rd_raiseS2 ?_
      walk_at "lw gi"
      exact c.raise e1 (by unfold dataF; rw [hN, if_neg (by decide), if_pos (.inl hrow)])
    obtain ⟨a, xs, rfl, sq, ws⟩ := h.row hrow
    have hlen := ws.length
    have sq1 := sq.ex e1
    walk_at "lw gi"
    refine ifIn ?_ ?_ <;> intro hl
    · walk_at "lw gi"
      refine rd_raiseS2 ?_
      walk_at "lw gi"
      exact c.raise e1 (by unfold dataF; rw [hN, if_neg (by decide), if_pos (.inr (by omega))])
    have pf : ∀ o, fb dataB (items d) = o → dataF d n = o := fun o e => by
      unfold dataF
      rw [hN, if_neg (by decide), if_neg (fun z => z.elim (fun z => by rw [hrow] at z; cases z) fun z => z (by omega)), e]
    walk_at "lw gi"
    refine for_eB (W := W) (a := a) (xs := xs) rfl sq1 (fun i σ' H' => ∃ v3 v4, σ' = [some (.ref a), some (.int n), v3, v4] ∧ Ex W H1 H' ∧ ∀ (j : Nat) r, j < i → (items d)[j]? = some r → dataB r = true) ⟨_, _, rfl, Ex.refl e1.iv, fun j _ hj => absurd hj (Nat.not_lt_zero _)⟩ (fun i σ' H' ⟨_, _, _, e, _⟩ => e) ?_ ?_
    · rintro i x T2 σ' H2 H' hx ⟨v3, v4, rfl, e2, hg⟩ f3 e3 h3
      obtain ⟨r, hr1, hd⟩ := ws.get hx
      have e4 : Ex W H H' := (e1.trans e2).trans e3
      have hd4 := hd.ex e4
      walk_at "lw gi"
      rename_i H5 e5
      refine ifNB ?_ ?_ <;> intro hb
      · walk_at "lw gi"
        refine rd_raiseS2 ?_
        walk_at "lw gi"
        exact c.raise (e4.trans e5) (pf _ (fb_some hr1 hb fun j e hj he => hg j e hj he))
      · walk_at "lw gi"
        refine ⟨_, _, rfl, (e2.trans e3).trans e5, fun j r' hj hr => ?_⟩
        by_cases q : j = i
        · subst q
          rw [hr1] at hr
          cases hr
          exact hb
        · exact hg j r' (by omega) hr
    rintro σ' H2 ⟨v3, v4, rfl, e2, hg⟩
    have hall : fb dataB (items d) = none := fb_none fun j e he => hg j e (by rw [hlen]; exact (List.getElem?_eq_some_iff.mp he).1) he
    have e3 : Ex W H H2 := e1.trans e2
    have iv3 := e3.iv
    have sq3 := sq.ex e3
    walk_at "lw gi"
    refine lc_rows (W := W) (a := a) (xs := xs) rfl sq3 iv3 (by omega) (ws.ex e3) (fun d' hd' => dataB_E (fb_all hall d' hd')) (fun _ => rfl) ?_
    rintro D2 H8 ys hD2 e8 h8 q _
    walk_at "lw gi"
    rename_i t H9 f9 e9 h9
    exact c.2 (pf _ hall) (.ref t) H9 ((e3.trans e8).trans e9) (by unfold dataV; rw [hN]; exact .tup (.inl h9) (q.ex e9))

theorem ok_checked_lines (T : Tx P w K mg) : FnOk P w K mg base (L2.CX P w) 3 T.f_checked_lines T.fd_checked_lines ["lines", "bells"] (sp_checked_lines K T.c_BadSetup) := by
  refine T.F_checked_lines.okX sc_checked_lines (fun vs H Q E h => ?_) (fun cdv A outer s H vs Q E hr h => ?_)
  · obtain ⟨W, v, d, b, rfl, iv, h, c⟩ := h
    rfl
  · obtain ⟨W, v, d, b, rfl, iv, h, c⟩ := h
    refine ⟨_, (pss_cons (ps_if (PW.pt (pw_or (pt_not (pt_val (pe_call (ok_is_row T) (hr.mono (by decide)) (by rfl) T.g_is_row T.F_is_row.kp T.b_is_row .nil pass0 (pa_cons (pv 0) pa_nil)))) (pw_or1 (pt_cmpR op_gt (pe_callB (r := Lw.rLen K) c_len (by rfl) T.n_len PySem.boot_len (pa_cons (pv 0) pa_nil)) (pe_glob (v := .int 4) rfl T.g_MOST_LINES ⟨_, rfl⟩) (nomark _)))))
        (pss_one (ps_raiseS2 rfl T.S_BadSetup hr (takes_of rfl rfl rfl rfl) (pa_cons pe_str (pa_cons (pe_un un_neg pe_int) pa_nil))))
        pss_nil)
      (pss_cons (ps_for (passes_of rfl) rfl (pi_or (pi_enum (by rfl) T.n_enumerate (pa_cons (pv 0) pa_nil)) (pi_enumT (by rfl) T.n_enumerate (pa_cons (pv 0) pa_nil))) (pg_tup (by rfl) (pgs_cons (pg_name (i := 2) sc_checked_lines.nd rfl (by first | exact Or.inl rfl | exact Or.inr rfl)) (pgs_cons (pg_name (i := 3) sc_checked_lines.nd rfl (by first | exact Or.inl rfl | exact Or.inr rfl)) pgs_nil)))
        (pss_one (ps_if (pt_not (pt_val (pe_call (ok_is_between T) hr (by rfl) T.g_is_between T.F_is_between.kp T.b_is_between .nil pass0 (pa_cons (pv 3) (pa_cons pe_int (pa_cons (pe_op op_sub (pv 1) pe_int) pa_nil))))))
          (pss_one (ps_raiseS2 rfl T.S_BadSetup hr (takes_of rfl rfl rfl rfl) (pa_cons pe_str (pa_cons (pv 2) pa_nil))))
          pss_nil)))
      (pss_one (ps_ret (pe_callTy (r := Lw.rTupO K) c_tuple (by rfl) T.n_tuple (by decide +kernel) (pa_cons (pv 0) pa_nil)))))), ?_⟩
    walk_at "lw go"
    rename_i H1 e1
    refine ifNB ?_ ?_ <;> intro hrow
    · walk_at "lw gi"
      refine rd_raiseS2 ?_
      walk_at "lw gi"
      exact c.raise e1 (by unfold linesF; rw [badLen_R hrow]; rfl)
    obtain ⟨a, xs, rfl, sq, ws⟩ := h.row hrow
    have hlen := ws.length
    have sq1 := sq.ex e1
    walk_at "lw gi"
    refine ifD ?_ ?_ <;> intro hl1
    · walk_at "lw gi"
      refine rd_raiseS2 ?_
      walk_at "lw gi"
      exact c.raise e1 (by unfold linesF; rw [badLen_T (by omega)]; rfl)
    have pf : ∀ o, fb (fun q => isBet q 0 (b - 1)) (items d) = o → linesF d b = o := fun o e => by
      unfold linesF
      rw [badLen_F hrow (by omega), if_neg (by decide), e]
    walk_at "lw gi"
    refine for_eB (W := W) (a := a) (xs := xs) rfl sq1 (fun i σ' H' => ∃ v3 v4, σ' = [some (.ref a), some (.int b), v3, v4] ∧ Ex W H1 H' ∧ ∀ (j : Nat) r, j < i → (items d)[j]? = some r → (fun q => isBet q 0 (b - 1)) r = true) ⟨_, _, rfl, Ex.refl e1.iv, fun j _ hj => absurd hj (Nat.not_lt_zero _)⟩ (fun i σ' H' ⟨_, _, _, e, _⟩ => e) ?_ ?_
    · rintro i x T2 σ' H2 H' hx ⟨v3, v4, rfl, e2, hg⟩ f3 e3 h3
      obtain ⟨r, hr1, hd⟩ := ws.get hx
      have e4 : Ex W H H' := (e1.trans e2).trans e3
      have hd4 := hd.ex e4
      walk_at "lw gi"
      refine ifNB ?_ ?_ <;> intro hb
      · walk_at "lw gi"
        refine rd_raiseS2 ?_
        walk_at "lw gi"
        exact c.raise e4 (pf _ (fb_some hr1 hb fun j e hj he => hg j e hj he))
      · walk_at "lw gi"
        refine ⟨_, _, rfl, e2.trans e3, fun j r' hj hr => ?_⟩
        by_cases q : j = i
        · subst q
          rw [hr1] at hr
          cases hr
          exact hb
        · exact hg j r' (by omega) hr
    rintro σ' H2 ⟨v3, v4, rfl, e2, hg⟩
    have hall : fb (fun q => isBet q 0 (b - 1)) (items d) = none := fb_none fun j e he => hg j e (by rw [hlen]; exact (List.getElem?_eq_some_iff.mp he).1) he
    have e3 : Ex W H H2 := e1.trans e2
    have iv3 := e3.iv
    have sq3 := sq.ex e3
    walk_at "lw gi"
    refine rd_tupB iv3 sq3 fun t H9 e9 h9 => ?_
    exact c.2 (pf _ hall) (.ref t) H9 (e3.trans e9) (.tup h9 (ws.ex (e3.trans e9)))

theorem ok_right_row (T : Tx P w K mg) : FnOk P w K mg base CX0 3 T.f_right_row T.fd_right_row ["setup", "value"] (sp_right_row K T.c_Setup) := by
  refine T.F_right_row.ok sc_right_row (fun vs H Q E h => ?_) (fun cdv A outer s H vs Q E hr h => ?_)
  · obtain ⟨W, p, v, c, d, rfl, iv, pa, h, can, kF, k⟩ := h
    rfl
  · obtain ⟨W, p, v, c, d, rfl, iv, pa, h, can, kF, k⟩ := h
    refine ⟨_, (pss_cons (ps_if (PW.pt (pw_or (pt_not (pt_val (pe_call (ok_is_row T) (hr.mono (by decide)) (by rfl) T.g_is_row T.F_is_row.kp T.b_is_row .nil pass0 (pa_cons (pv 1) pa_nil)))) (pw_or1 (pt_cmpR op_ne (pe_callB (r := Lw.rLen K) c_len (by rfl) T.n_len PySem.boot_len (pa_cons (pv 1) pa_nil)) pe_int (nomark _)))))
        (pss_one (ps_ret pe_non))
        pss_nil)
      (pss_cons (ps_asg (pv 1) (pg_or (pg_tup (by rfl) (pgs_cons (pg_name (i := 2) sc_right_row.nd rfl (by first | exact Or.inl rfl | exact Or.inr rfl)) (pgs_cons (pg_name (i := 3) sc_right_row.nd rfl (by first | exact Or.inl rfl | exact Or.inr rfl)) (pgs_cons (pg_name (i := 4) sc_right_row.nd rfl (by first | exact Or.inl rfl | exact Or.inr rfl)) (pgs_cons (pg_name (i := 5) sc_right_row.nd rfl (by first | exact Or.inl rfl | exact Or.inr rfl)) (pgs_cons (pg_name (i := 6) sc_right_row.nd rfl (by first | exact Or.inl rfl | exact Or.inr rfl)) pgs_nil)))))) (pg_unl (by rfl) (pgs_cons (pg_name (i := 2) sc_right_row.nd rfl (by first | exact Or.inl rfl | exact Or.inr rfl)) (pgs_cons (pg_name (i := 3) sc_right_row.nd rfl (by first | exact Or.inl rfl | exact Or.inr rfl)) (pgs_cons (pg_name (i := 4) sc_right_row.nd rfl (by first | exact Or.inl rfl | exact Or.inr rfl)) (pgs_cons (pg_name (i := 5) sc_right_row.nd rfl (by first | exact Or.inl rfl | exact Or.inr rfl)) (pgs_cons (pg_name (i := 6) sc_right_row.nd rfl (by first | exact Or.inl rfl | exact Or.inr rfl)) pgs_nil))))))))
      (pss_cons (ps_if (PW.pt (pw_or (pt_not (pt_val (pe_call (ok_is_between T) hr (by rfl) T.g_is_between T.F_is_between.kp T.b_is_between .nil pass0 (pa_cons (pv 2) (pa_cons pe_int (pa_cons (pe_op op_sub (pe_callB (r := Lw.rLen K) c_len (by rfl) T.n_len PySem.boot_len (pa_cons (pe_fld (pv 0) rfl) pa_nil)) pe_int) pa_nil)))))) (pw_or1 (pt_not (pt_val (pe_call (ok_is_between T) hr (by rfl) T.g_is_between T.F_is_between.kp T.b_is_between .nil pass0 (pa_cons (pv 3) (pa_cons pe_int (pa_cons (pe_op op_sub (pe_fld (pv 0) rfl) pe_int) pa_nil)))))))))
        (pss_one (ps_ret pe_non))
        pss_nil)
      (pss_cons (ps_if (pt_not (pt_val (pe_call (ok_is_row T) (hr.mono (by decide)) (by rfl) T.g_is_row T.F_is_row.kp T.b_is_row .nil pass0 (pa_cons (pv 4) pa_nil))))
        (pss_one (ps_ret pe_non))
        pss_nil)
      (pss_cons (ps_set (i := 4) sc_right_row.nd rfl (by first | exact Or.inl rfl | exact Or.inr rfl) (pe_callTy (r := Lw.rTupO K) c_tuple (by rfl) T.n_tuple (by decide +kernel) (pa_cons (pv 4) pa_nil)))
      (pss_cons (ps_if (PW.pt (pw_or (pt_not (pt_val (pe_call (ok_is_thing T) hr (by rfl) T.g_is_thing T.F_is_thing.kp T.b_is_thing .nil pass0 (pa_cons (pv 0) (pa_cons (pv 4) pa_nil))))) (pw_or1 (pt_not (pt_val (pe_call (ok_in_order T) hr (by rfl) T.g_in_order T.F_in_order.kp T.b_in_order .nil pass0 (pa_cons (pe_call (ok_kind_of T) (hr.mono (by decide)) (by rfl) T.g_kind_of T.F_kind_of.kp T.b_kind_of .nil pass0 (pa_cons (pv 4) pa_nil)) (pa_cons (pv 5) pa_nil))))))))
        (pss_one (ps_ret pe_non))
        pss_nil)
      (pss_one (ps_ret (pe_tup (pa_cons (pv 2) (pa_cons (pv 3) (pa_cons (pv 4) (pa_cons (pv 5) (pa_cons (pv 6) pa_nil)))))))))))))), ?_⟩
    walk_at "lw gi"
    rename_i H1 e1
    refine ifNB ?_ ?_ <;> intro hrow
    · walk_at "lw gi"
      exact kF (rowOk_R hrow) _ e1
    obtain ⟨a, xs, rfl, sq, ws⟩ := h.row hrow
    have hlen := ws.length
    have sq1 := sq.ex e1
    walk_at "lw gi"
    refine ifIn ?_ ?_ <;> intro h5
    · walk_at "lw gi"
      exact kF (rowOk_L fun z => h5 (by rw [hlen, z]; rfl)) _ e1
    obtain ⟨x1, x2, x3, x4, x5, rfl⟩ : ∃ a b c d e, xs = [a, b, c, d, e] := five_of (by omega)
    obtain ⟨d1, d2, d3, d4, d5, hd, w1, w2, w3, w4, w5⟩ := ws.five
    obtain ⟨c1, c2, c3, c4, c5⟩ := can_five hrow can hd
    have ok := rowOk_5 (c := c) hrow hd
    have rv := rowV_5 hd
    have v1 := w1.ex e1
    have v2 := w2.ex e1
    have v3 := w3.ex e1
    have v4 := w4.ex e1
    have v5 := w5.ex e1
    have pa1 := pa.mono e1
    obtain ⟨dx, fs, vp, vl, dp, dl, h0, f1, f2, f3, f4, f5, f6, q1, n1, q2, n2⟩ := id pa1.ex
    obtain ⟨ap, xp, rfl, tp, wp⟩ := q1.tupE
    have np : (xp.length : Int) = c.n := by rw [wp.length]; exact n1
    have sp : SqB K W H1 ap xp := .inr tp
    walk_at "lw gi"
    refine rd_gB sq1 rfl ?_
    walk_at "lw gi"
    refine rd_fld ?_
    walk_at "lw gi"
    refine ⟨p, _, _, _, _, rfl, h0.1, T.cl_Setup, T.na_Setup_programs, f1, ?_⟩
    walk_at "lw gi"
    rw [np]
    refine ifNB ?_ ?_ <;> intro hb1
    · walk_at "lw gi"
      exact kF (by rw [ok, hb1]; rfl) _ e1
    walk_at "lw gi"
    refine rd_fld ?_
    walk_at "lw gi"
    refine ⟨p, _, _, _, _, rfl, h0.1, T.cl_Setup, T.na_Setup_slots, f2, ?_⟩
    walk_at "lw gi"
    refine ifNB ?_ ?_ <;> intro hb2
    · walk_at "lw gi"
      exact kF (by rw [ok, hb1, hb2]; rfl) _ e1
    walk_at "lw gi"
    rename_i H2 e2
    refine ifNB ?_ ?_ <;> intro hb3
    · walk_at "lw gi"
      exact kF (by rw [ok, hb1, hb2, hb3]; rfl) _ (e1.trans e2)
    obtain ⟨at3, xs3, rfl, sq3, ws3⟩ := v3.row hb3
    walk_at "lw gi"
    refine rd_tupB e2.iv (sq3.ex e2) fun tt H3 e3 h3 => ?_
    have e23 := e2.trans e3
    have e13 := e1.trans e23
    have dt : DW K W H3 (.ref tt) (tupD d3) := .tup h3 (ws3.ex e23)
    walk_at "lw gi"
    refine ⟨W, p, _, c, tupD d3, rfl, e3.iv, pa1.mono e23, dt, can_tup hb3 c3, fun H4 e4 => ?_⟩
    walk_at "lw gi"
    refine ifNB ?_ ?_ <;> intro hb4
    · walk_at "lw gi"
      exact kF (by rw [ok, hb1, hb2, hb3, hb4]; rfl) _ (e13.trans e4)
    obtain ⟨sw, iw, mw, hit, hm, m0, m1⟩ := thing_E hb4
    have hit3 : items d3 = [.str sw, .int iw] := hit
    have th : tupD d3 = .tuple [.str sw, .int iw] := by unfold tupD; rw [hit3]
    have dt4 := dt.ex e4
    rw [th] at dt4
    have s0 : strD (nth d3 0) = sw := by unfold nth; rw [hit3]; rfl
    walk_at "lw gi"
    refine ⟨W, _, sw, _, rfl, dt4, ?_⟩
    walk_at "lw gi"
    refine ⟨W, _, _, d4, rfl, (v4.ex e23).ex e4, ?_⟩
    walk_at "lw gi"
    refine ifNB ?_ ?_ <;> intro hb5
    · walk_at "lw gi"
      exact kF (by rw [ok, hb1, hb2, hb3, hb4, s0, hb5]; rfl) _ (e13.trans e4)
    walk_at "lw gi"
    rename_i t5 H5 g5 e5 h5
    have e45 := e4.trans e5
    refine k (by rw [ok, hb1, hb2, hb3, hb4, s0, hb5]; rfl) _ _ (e13.trans e45) ?_
    rw [rv, th]
    have e25 := e23.trans e45
    exact .tup (.inl h5) (.cons (v1.ex e25) (.cons (v2.ex e25) (.cons (dt4.ex e5) (.cons (v4.ex e25) (.cons (v5.ex e25) .nil)))))

theorem ok_fits_parent (T : Tx P w K mg) : FnOk P w K mg base CX0 3 T.f_fits_parent T.fd_fits_parent ["row", "earlier"] (sp_fits_parent K) := by
  refine T.F_fits_parent.ok sc_fits_parent (fun vs H Q E h => ?_) (fun cdv A outer s H vs Q E hr h => ?_)
  · obtain ⟨W, v, a, xs, c, d, es, rfl, iv, h, ok, hz, ha, ws, hes, hl, k⟩ := h
    rfl
  · obtain ⟨W, v, a, xs, c, d, es, rfl, iv, h, ok, hz, ha, ws, hes, hl, k⟩ := h
    refine ⟨_, (pss_cons (ps_set (i := 2) sc_fits_parent.nd rfl (by first | exact Or.inl rfl | exact Or.inr rfl) (pe_ix (r := rIxT K) ix_tup (pv 0) pe_int (fun _ _ => rfl)))
      (pss_cons (ps_if (pt_cmpR o_isN (pv 2) pe_non (nomark _))
        (pss_one (ps_ret pe_bl))
        pss_nil)
      (pss_cons (ps_if (pt_not (pt_val (pe_call (ok_is_between T) hr (by rfl) T.g_is_between T.F_is_between.kp T.b_is_between .nil pass0 (pa_cons (pv 2) (pa_cons pe_int (pa_cons (pe_op op_sub (pe_callB (r := Lw.rLen K) c_len (by rfl) T.n_len PySem.boot_len (pa_cons (pv 1) pa_nil)) pe_int) pa_nil))))))
        (pss_one (ps_ret pe_bl))
        pss_nil)
      (pss_cons (ps_set (i := 3) sc_fits_parent.nd rfl (by first | exact Or.inl rfl | exact Or.inr rfl) (pe_ix (r := rIxL K) ix_list (pv 1) (pv 2) (fun _ _ => rfl)))
      (pss_one (ps_ret (pe_and (pe_cmpR (r := rEqD K) (op_eqD hr.units) (pe_ix (r := rIxT K) ix_tup (pv 3) pe_int (fun _ _ => rfl)) (pe_ix (r := rIxT K) ix_tup (pv 0) pe_int (fun _ _ => rfl)) (nomark _)) (pe_one (pe_callB (r := rAll K) (cr_all rfl) (by rfl) T.n_all (by decide +kernel) (pa_cons (pe_lc (own := [("letter", 4)]) rfl sc_fits_parent.nd (pi_str (pe_ix (r := rIxT K) ix_tup (pv 0) pe_int (fun _ _ => rfl))) (blkOk_by (own := [("letter", 4)]) (N := N_fits_parent) (sc := (defScope s_fits_parent)) (by decide +kernel)) (fun _ _ _ _ _ => (pg_name (i := 4) sc_fits_parent.nd rfl (by first | exact Or.inl rfl | exact Or.inr rfl))) (fun _ _ _ _ _ => pts_nil) (fun _ _ _ _ _ => (pe_cmpR o_inSg (pv 4) (pe_ix (r := rIxT K) ix_tup (pv 3) pe_int (fun _ _ => rfl)) (by rfl)))) pa_nil)))))))))), ?_⟩
    have key : ∀ b, parentOk (rowV d) (es.map rowV) = b → ∀ H', Ex W H H' → Q (.bl b) H' := fun b e H' x => cast_bl (k H' x) e
    clear k
    obtain ⟨th, lw, par, hi, hth⟩ := row_E ok
    have rv := rowV_5 hi
    rw [rv] at h
    obtain ⟨t, us, rfl, tu, wu⟩ := h.tupE
    obtain ⟨x1, x2, x3, x4, x5, rfl⟩ := five_of wu.length
    obtain ⟨_, _, _, _, _, eq, w1, w2, w3, w4, w5⟩ := wu.five
    cases eq
    obtain rfl := w4.strE
    have n4 : nth (rowV d) 4 = par := by rw [rv]; rfl
    have hlw : lw.cps.size ≤ 50000 := by
      have : nth d 3 = .str lw := by unfold nth; rw [hi]; rfl
      rw [this] at hz
      exact hz
    have hlx := ws.length
    rw [List.length_map] at hlx
    walk_at "lw gi"
    refine rd_ixTB tu at_l4' ?_
    walk_at "lw gi"
    cases hN : isNoneD par with
    | true =>
      obtain rfl := isNoneD_E hN
      obtain rfl := w5.nonE
      refine ifD_yes rfl ?_
      walk_at "lw gi"
      exact key _ (parent_N (by rw [n4]; rfl)) _ (Ex.refl iv)
    | false =>
    refine ifD_no (w5.ne_non hN) ?_
    have hN4 : isNoneD (nth (rowV d) 4) = false := by rw [n4]; exact hN
    walk_at "lw gi"
    rw [hlx]
    refine ifNB ?_ ?_ <;> intro hb
    · walk_at "lw gi"
      exact key _ (parent_B hN4 (by rw [n4, List.length_map]; exact hb)) _ (Ex.refl iv)
    obtain ⟨i, rfl, i0, i1⟩ := isBet_E hb
    obtain rfl := w5.intE
    have hie : i.toNat < es.length := by omega
    have hee := List.getElem?_eq_getElem hie
    generalize es[i.toNat] = e0 at hee
    have he0 := hes e0 (List.mem_of_getElem? hee)
    have hev : (es.map rowV)[i.toNat]? = some (rowV e0) := by rw [List.getElem?_map, hee]; rfl
    obtain ⟨v', hv', dv'⟩ := ws.getR hev
    obtain ⟨th0, lw0, par0, hi0, hth0⟩ := row_E he0
    have rv0 := rowV_5 hi0
    have pk : parentOk (rowV d) (es.map rowV) = aboveOk (rowV d) (rowV e0) := parent_A hN4 (by rw [n4, List.length_map]; exact hb) (by rw [n4]; exact hev)
    rw [rv0] at dv'
    obtain ⟨b, ub, rfl, tb, wb⟩ := dv'.tupE
    obtain ⟨y1, y2, y3, y4, y5, rfl⟩ := five_of wb.length
    obtain ⟨_, _, _, _, _, eq, z1, z2, z3, z4, z5⟩ := wb.five
    cases eq
    obtain rfl := z4.strE
    have ax : atI xs i = some (.ref b) := at_in i0 hv'
    have ao : aboveOk (rowV d) (rowV e0) = (PyData.eqv (tupD th0) (tupD th) && lw.cps.toList.all fun c => decide (c ∈ lw0.cps.toList)) := by
      unfold aboveOk lettersIn
      rw [rv, rv0]; rfl
    walk_at "lw gi"
    refine rd_ixTB tb at_l2' ?_
    walk_at "lw gi"
    refine rd_ixTB tu at_l2' ?_
    walk_at "lw gi"
    refine rd_eqD2 (W := W) z3 w3 (thing_shaped hth0).1 (thing_shaped hth).1 ?_
    walk_at "lw gi"
    refine ifB ?_ ?_ <;> intro heq
    · walk_at "lw gi"
      refine rd_ixTB tu at_l3' ?_
      walk_at "lw gi"
      refine lc_w (W := W) (X := fun i x => ∃ c, lw.cps[i]? = some c ∧ x = .str ⟨#[c]⟩) walk_str (fun n ys _ => ys = ((lw.cps.toList.take n).map fun c => decide (c ∈ lw0.cps.toList)).map V.bl) iv hlw (fun _ _ => trivial) (fun _ _ _ _ _ h => h) rfl ?_ ?_
      · rintro n x D ys H' QV QN hn ⟨ch, hc, rfl⟩ hD hDa e3 q _ qv qn
        walk_at "lw gi"
        refine rd_ixTB (tb.ex e3) at_l3' ?_
        walk_at "lw gi"
        refine qv _ _ (Ex.refl e3.iv) ?_
        have hc2 : lw.cps.toList[n]? = some ch := by rw [← hc]; simp
        rw [List.take_add_one, hc2, List.map_append, List.map_append, ← q]
        rfl
      rintro D H5 ys hD e5 h5 q _
      rw [List.take_of_length_le (by simp)] at q
      subst q
      walk_at "lw gi"
      refine rd_all h5 ?_
      walk_at "lw gi"
      refine key _ ?_ _ e5
      rw [pk, ao, heq, List.all_map]
      rfl
    · walk_at "lw gi"
      exact key _ (by rw [pk, ao, heq]; rfl) _ (Ex.refl iv)

theorem ok_checked_rights (T : Tx P w K mg) : FnOk P w K mg base (L2.CX P w) 4 T.f_checked_rights T.fd_checked_rights ["setup", "rights"] (sp_checked_rights K T.c_Setup T.c_BadSetup) := by
  refine T.F_checked_rights.okX sc_checked_rights (fun vs H Q E h => ?_) (fun cdv A outer s H vs Q E hr h => ?_)
  · obtain ⟨W, p, v, c, d, rfl, iv, pa, h, can, hl, ch⟩ := h
    rfl
  · obtain ⟨W, p, v, c, d, rfl, iv, pa, h, can, hl, ch⟩ := h
    refine ⟨_, (pss_cons (ps_if (pt_not (pt_val (pe_call (ok_is_row T) (hr.mono (by decide)) (by rfl) T.g_is_row T.F_is_row.kp T.b_is_row .nil pass0 (pa_cons (pv 1) pa_nil))))
        (pss_one (ps_raiseS2 rfl T.S_BadSetup hr (takes_of rfl rfl rfl rfl) (pa_cons pe_str (pa_cons (pe_un un_neg pe_int) pa_nil))))
        pss_nil)
      (pss_cons (ps_set (i := 2) sc_checked_rights.nd rfl (by first | exact Or.inl rfl | exact Or.inr rfl) (pe_lst pa_nil))
      (pss_cons (ps_set (i := 3) sc_checked_rights.nd rfl (by first | exact Or.inl rfl | exact Or.inr rfl) pe_dnewT)
      (pss_cons (ps_for (passes_of rfl) rfl (pi_or (pi_enum (by rfl) T.n_enumerate (pa_cons (pv 1) pa_nil)) (pi_enumT (by rfl) T.n_enumerate (pa_cons (pv 1) pa_nil))) (pg_tup (by rfl) (pgs_cons (pg_name (i := 4) sc_checked_rights.nd rfl (by first | exact Or.inl rfl | exact Or.inr rfl)) (pgs_cons (pg_name (i := 5) sc_checked_rights.nd rfl (by first | exact Or.inl rfl | exact Or.inr rfl)) pgs_nil)))
        (pss_cons (ps_set (i := 6) sc_checked_rights.nd rfl (by first | exact Or.inl rfl | exact Or.inr rfl) (pe_call (ok_right_row T) hr (by rfl) T.g_right_row T.F_right_row.kp T.b_right_row .nil pass0 (pa_cons (pv 0) (pa_cons (pv 5) pa_nil))))
        (pss_cons (ps_if (PW.pt (pw_or (pt_cmpR o_isN (pv 6) pe_non (nomark _)) (pw_or (pt_cmp (pc_din (hu_of hr) (pe_tup (pa_cons (pe_ix (r := rIxT K) ix_tup (pv 6) pe_int (fun _ _ => rfl)) (pa_cons (pe_ix (r := rIxT K) ix_tup (pv 6) pe_int (fun _ _ => rfl)) pa_nil))) (pv 3))) (pw_or1 (pt_not (pt_val (pe_call (ok_fits_parent T) hr (by rfl) T.g_fits_parent T.F_fits_parent.kp T.b_fits_parent .nil pass0 (pa_cons (pv 6) (pa_cons (pv 2) pa_nil)))))))))
          (pss_one (ps_raiseS2 rfl T.S_BadSetup hr (takes_of rfl rfl rfl rfl) (pa_cons pe_str (pa_cons (pv 4) pa_nil))))
          pss_nil)
        (pss_cons (ps_dput (hu_of hr) (pv 3) (pe_tup (pa_cons (pe_ix (r := rIxT K) ix_tup (pv 6) pe_int (fun _ _ => rfl)) (pa_cons (pe_ix (r := rIxT K) ix_tup (pv 6) pe_int (fun _ _ => rfl)) pa_nil))) pe_bl rfl)
        (pss_one (ps_expr (pe_bm PySem.F.plainAttrs_list PySem.F.slot_list_append PySem.F.type_list_append mt_append (pv 2) (pa_cons (pv 6) pa_nil))))))))
      (pss_one (ps_ret (pe_callTy (r := Lw.rTupO K) c_tuple (by rfl) T.n_tuple (by decide +kernel) (pa_cons (pv 2) pa_nil)))))))), ?_⟩
    walk_at "lw go"
    rename_i H1 e1
    refine ifNB ?_ ?_ <;> intro hrow
    · walk_at "lw gi"
      refine rd_raiseS2 ?_
      walk_at "lw gi"
      exact ch.raise e1 (by unfold rightsF; rw [if_pos hrow])
    obtain ⟨a, xs, rfl, sq, ws⟩ := h.row hrow
    have hlen := ws.length
    walk_at "lw gi"
    rename_i q H2 f2 e2 h2
    refine rd_dnewT e2.iv fun r H3 f3 e3 h3 => ?_
    walk_at "lw gi"
    have qr : q ≠ r := h2.ne_fresh f3
    have fr1 : H1 r = none := by
      cases z : H1 r with
      | none => rfl
      | some o =>
        obtain ⟨o2, z2⟩ := e2.tr z
        rw [f3] at z2; cases z2
    have pf : ∀ o, rightsGo c (items d) [] [] 0 = o → rightsF c d = o := fun o e => by
      unfold rightsF
      rw [if_neg (by rw [hrow]; decide), e]
    refine for_eB0 (W := W) (H0 := H1) (a := a) (xs := xs) (e2.trans e3) rfl (sq.ex e1) (fun i σ' H' => ∃ v4 v5 v6 ys kvs, σ' = [some (.ref p), some (.ref a), some (.ref q), some (.ref r), v4, v5, v6] ∧ Ex W H1 H' ∧ At W H' q (.lst ys) ∧ DWs K W H' ys (((items d).take i).map rowV) ∧
        (∀ e ∈ (items d).take i, rowOk c e = true ∧ noL (rowV e) = true) ∧ At W H' r (.dT kvs) ∧ kvs.length ≤ i ∧ (∀ x y : Int, (valV kvs [.inl x, .inl y]).isSome = decide ((x, y) ∈ ((items d).take i).map place)) ∧
        rightsGo c (items d) [] [] 0 = rightsGo c ((items d).drop i) (((items d).take i).map rowV) (((items d).take i).map place) i)
      ⟨_, _, _, [], [], rfl, e2.trans e3, e3.at_ h2, .nil, fun _ h => (nomatch h), h3, Nat.le_refl _, fun _ _ => rfl, rfl⟩ (fun i σ' H' ⟨_, _, _, _, _, _, e, _⟩ => e) ?_ ?_
    · rintro i x T2 σ' H4 H' hx ⟨v4, v5, v6, ys, kvs, rfl, e4, hq, hD, hg, hr, hk, hu, hgo⟩ f5 e5 h5
      obtain ⟨rw', hr1, hd⟩ := ws.get hx
      have hi2 := (List.getElem?_eq_some_iff.mp hx).1
      have can1 := can rw' (List.mem_of_getElem? hr1)
      have e15 : Ex W H1 H' := e4.trans e5
      have hd5 := hd.ex (e1.trans e15)
      have hq5 := e5.at_ hq
      have hr5 := e5.at_ hr
      have hD5 := hD.ex e5
      have tk : (items d).take (i + 1) = (items d).take i ++ [rw'] := by rw [List.take_add_one, hr1]; rfl
      rw [rightsGo_step hr1] at hgo
      have bad : ¬(rowOk c rw' = true ∧ place rw' ∉ ((items d).take i).map place ∧ parentOk (rowV rw') (((items d).take i).map rowV) = true) → rightsF c d = some (i : Int) := fun z => pf _ (by rw [hgo, if_neg z])
      walk_at "lw gi"
      refine ⟨W, p, _, c, rw', rfl, e5.iv, pa.mono (e1.trans e15), hd5, can1.1, fun no H6 e6 => ?_, fun yes t H6 e6 dt => ?_⟩
      · walk_at "lw gi"
        refine ifD_yes rfl ?_
        walk_at "lw gi"
        refine rd_raiseS2 ?_
        walk_at "lw gi"
        exact ch.raise ((e1.trans e15).trans e6) (bad fun z => by rw [no] at z; exact absurd z.1 (by decide))
      obtain ⟨th, lw, par, hi, hth⟩ := row_E yes
      have rv := rowV_5 hi
      have dt' := dt
      rw [rv] at dt'
      obtain ⟨t', us, et, tu, wu⟩ := dt'.tupE
      cases et
      obtain ⟨x1, x2, x3, x4, x5, rfl⟩ := five_of wu.length
      obtain ⟨_, _, _, _, _, eq, w1, w2, w3, w4, w5⟩ := wu.five
      cases eq
      obtain rfl := w1.intE
      obtain rfl := w2.intE
      walk_at "lw gi"
      refine ifD_no (fun z => nomatch z) ?_
      walk_at "lw gi"
      refine rd_ixTB tu at_0 ?_
      walk_at "lw gi"
      refine rd_ixTB tu at_l1' ?_
      walk_at "lw gi"
      rename_i t7 H7 f7 e7 h7
      have e67 := e6.trans e7
      have hr7 := e67.at_ hr5
      refine rd_dinT (k := [.inl (place rw').1, .inl (place rw').2]) hr7 h7 rfl ?_
      rw [hu]
      walk_at "lw gi"
      refine ifD ?_ ?_ <;> intro hin
      · walk_at "lw gi"
        refine rd_raiseS2 ?_
        walk_at "lw gi"
        exact ch.raise ((e1.trans e15).trans e67) (bad fun z => z.2.1 hin)
      have hq7 := e67.at_ hq5
      have dt7 := dt.ex e7
      walk_at "lw gi"
      refine ⟨W, _, q, ys, c, rw', (items d).take i, rfl, e7.iv, dt7, yes, can1.2, hq7, hD5.ex e67, fun e he => (hg e he).1, by rw [List.length_take]; omega, fun H8 e8 => ?_⟩
      walk_at "lw gi"
      refine ifNB ?_ ?_ <;> intro hpar
      · walk_at "lw gi"
        refine rd_raiseS2 ?_
        walk_at "lw gi"
        exact ch.raise (((e1.trans e15).trans e67).trans e8) (bad fun z => by rw [hpar] at z; exact absurd z.2.2 (by decide))
      rw [if_pos ⟨yes, hin, hpar⟩] at hgo
      have npar : noL (rowV rw') = true := by
        have p4 : nth (rowV rw') 4 = par := by rw [rv]; rfl
        have pa : noL par = true := by
          unfold parentOk at hpar
          rw [p4, Bool.or_eq_true] at hpar
          rcases hpar with z | z
          · rw [isNoneD_E z]; rw [noL] <;> (intro _ z; cases z)
          · obtain ⟨ip, rfl, _⟩ := isBet_E ((Bool.and_eq_true _ _).mp z).1
            exact noL_int _
        rw [rv, noL]
        refine noLs_all fun x hx => ?_
        simp only [List.mem_cons, List.not_mem_nil, or_false] at hx
        rcases hx with rfl | rfl | rfl | rfl | rfl
        · exact noL_int _
        · exact noL_int _
        · exact (thing_shaped hth).2.1
        · rw [noL] <;> (intro _ z; cases z)
        · exact pa
      have e68 := e67.trans e8
      have tu8 := tu.ex (e7.trans e8)
      walk_at "lw gi"
      refine rd_ixTB tu8 at_0 ?_
      walk_at "lw gi"
      refine rd_ixTB tu8 at_l1' ?_
      walk_at "lw gi"
      rename_i t9 H9 f9 e9 h9
      have e69 := e68.trans e9
      have hr9 := e69.at_ hr5
      have hq9 := e69.at_ hq5
      have e19 := e15.trans e69
      refine rd_dputT (k := [.inl (place rw').1, .inl (place rw').2]) e19 fr1 hr9 h9 rfl (by omega) fun H10 e10 h10 o10 => ?_
      have kp10 : ∀ z us, At W H9 z (.tup us) → At W H10 z (.tup us) := fun z us hz => o10 _ _ (hz.ne hr9 fun z => by cases z) hz
      have hq10 := o10 _ _ qr hq9
      have nlD : noLs (((items d).take i).map rowV) = true := noLs_all fun z hz => by
        obtain ⟨e, he, rfl⟩ := List.mem_map.mp hz
        exact (hg e he).2
      have hD10 := DWs.keepT kp10 nlD (hD5.ex e69)
      have dt10 := DW.keepT kp10 npar (dt.ex ((e7.trans e8).trans e9))
      walk_at "lw gi"
      refine rd_append e10 f2 hq10 (by rw [hD5.length, List.length_map, List.length_take]; omega) fun H11 e11 h11 o11 => ?_
      have kp11 : ∀ z us, At W H10 z (.tup us) → At W H11 z (.tup us) := fun z us hz => o11 _ _ (hz.ne hq10 fun z => by cases z) hz
      walk_at "lw gi"
      refine ⟨_, _, _, _, _, rfl, e11, h11, ?_, fun e he => ?_, o11 _ _ (Ne.symm qr) h10, Nat.le_trans (length_putK _ _ _) (Nat.succ_le_succ hk), fun x y => ?_, ?_⟩
      · rw [tk, List.map_append]
        exact (DWs.keepT kp11 nlD hD10).snoc (DW.keepT kp11 npar dt10)
      · rw [tk] at he
        rcases List.mem_append.mp he with he | he
        · exact hg e he
        · rw [List.mem_singleton.mp he]; exact ⟨yes, npar⟩
      · rw [valV_put, tk, List.map_append]
        by_cases hxy : (x, y) = place rw'
        · rw [if_pos (by rw [← hxy]), decide_eq_true (List.mem_append_right _ (by rw [hxy]; exact List.mem_singleton.mpr rfl))]; rfl
        · rw [if_neg (fun z => hxy (by injection z with z1 z2; injection z1 with z1; injection z2 with z2 _; injection z2 with z2; rw [z1, z2])), hu, decide_eq_decide, List.mem_append]
          exact ⟨.inl, fun z => z.elim id fun z => absurd (List.mem_singleton.mp z) hxy⟩
      · rw [hgo, tk, List.map_append, List.map_append]; rfl
    · rintro σ' H4 ⟨v4, v5, v6, ys, kvs, rfl, e4, hq, hD, hg, hr, hk, hu, hgo⟩
      rw [hlen, List.take_length] at hD
      rw [hlen, List.drop_length, rightsGo] at hgo
      walk_at "lw gi"
      rename_i t H6 f6 e6 h6
      exact ch.2 (pf _ hgo) (.ref t) H6 ((e1.trans e4).trans e6) (.tup (.inl h6) (hD.ex e6))

theorem ok_Setup__init (T : Tx P w K mg) : FnOk P w K mg base (L2.CX P w) 6 T.f_Setup__init T.fd_Setup__init ["self", "programs", "turns", "rights", "quotas", "data", "pages", "ports", "bells", "lines", "slots", "windows"] (sp_Setup__init K T.c_Setup T.c_BadSetup) := by
  refine FunD.ok T.F_Setup__init sc_Setup__init (fun vs H Q E h => ?_) (fun cdv A outer s H vs Q E hr h => ?_)
  · obtain ⟨W, H0, x, dx, vp, vt, vr, vq, vd, vg, vo, vb, vl, vs', vw, A, rfl, e0, hx0, hx, dp, dt, dr, dq, dd, dg, do', db, dl, ds, dw, hp, cr, lr, kE, k⟩ := h
    rfl
  · obtain ⟨W, H0, x, dx, vp, vt, vr, vq, vd, vg, vo, vb, vl, vs', vw, A, rfl, e0, hx0, hx, dp, dt, dr, dq, dd, dg, do', db, dl, ds, dw, hp, cr, lr, kE, k⟩ := h
    refine ⟨_, (pss_cons (ps_fld (pv 0) (pe_callS (ok_checked_programs T) hr (by rfl) T.g_checked_programs T.F_checked_programs.kp T.b_checked_programs (fun σ => passAt (takes_of rfl rfl rfl rfl) σ) (pa_cons (pv 1) pa_nil)) rfl)
      (pss_cons (ps_set (i := 12) sc_Setup__init.nd rfl (by first | exact Or.inl rfl | exact Or.inr rfl) (pe_callB (r := Lw.rLen K) c_len (by rfl) T.n_len PySem.boot_len (pa_cons (pe_fld (pv 0) rfl) pa_nil)))
      (pss_cons (ps_fld (pv 0) (pe_callS (ok_checked_number T) (hr.mono (by decide)) (by rfl) T.g_checked_number T.F_checked_number.kp T.b_checked_number (fun σ => passAt (takes_of rfl rfl rfl rfl) σ) (pa_cons pe_str (pa_cons (pv 10) (pa_cons (pe_op op_add (pv 12) pe_int) (pa_cons (pe_glob (v := .int 48) rfl T.g_MOST_SLOTS ⟨_, rfl⟩) pa_nil))))) rfl)
      (pss_cons (ps_fld (pv 0) (pe_callS (ok_checked_number T) (hr.mono (by decide)) (by rfl) T.g_checked_number T.F_checked_number.kp T.b_checked_number (fun σ => passAt (takes_of rfl rfl rfl rfl) σ) (pa_cons pe_str (pa_cons (pv 11) (pa_cons pe_int (pa_cons (pe_glob (v := .int 16) rfl T.g_MOST_WINDOWS ⟨_, rfl⟩) pa_nil))))) rfl)
      (pss_cons (ps_fld (pv 0) (pe_callS (ok_checked_turns T) (hr.mono (by decide)) (by rfl) T.g_checked_turns T.F_checked_turns.kp T.b_checked_turns (fun σ => passAt (takes_of rfl rfl rfl rfl) σ) (pa_cons (pv 2) (pa_cons (pv 12) (pa_cons (pe_call (ok_least_ticks T) (hr.mono (by decide)) (by rfl) T.g_least_ticks T.F_least_ticks.kp T.b_least_ticks .nil pass0 (pa_cons (pv 12) (pa_cons (pv 10) (pa_cons (pv 11) pa_nil)))) pa_nil)))) rfl)
      (pss_cons (ps_fld (pv 0) (pe_callS (ok_checked_quotas T) (hr.mono (by decide)) (by rfl) T.g_checked_quotas T.F_checked_quotas.kp T.b_checked_quotas (fun σ => passAt (takes_of rfl rfl rfl rfl) σ) (pa_cons (pv 4) (pa_cons (pv 12) pa_nil))) rfl)
      (pss_cons (ps_fld (pv 0) (pe_callS (ok_checked_data T) (hr.mono (by decide)) (by rfl) T.g_checked_data T.F_checked_data.kp T.b_checked_data (fun σ => passAt (takes_of rfl rfl rfl rfl) σ) (pa_cons (pv 5) (pa_cons (pv 12) pa_nil))) rfl)
      (pss_cons (ps_fld (pv 0) (pe_callS (ok_checked_number T) (hr.mono (by decide)) (by rfl) T.g_checked_number T.F_checked_number.kp T.b_checked_number (fun σ => passAt (takes_of rfl rfl rfl rfl) σ) (pa_cons pe_str (pa_cons (pv 6) (pa_cons pe_int (pa_cons (pe_glob (v := .int 8) rfl T.g_MOST_PAGES ⟨_, rfl⟩) pa_nil))))) rfl)
      (pss_cons (ps_fld (pv 0) (pe_callS (ok_checked_number T) (hr.mono (by decide)) (by rfl) T.g_checked_number T.F_checked_number.kp T.b_checked_number (fun σ => passAt (takes_of rfl rfl rfl rfl) σ) (pa_cons pe_str (pa_cons (pv 7) (pa_cons pe_int (pa_cons (pe_glob (v := .int 6) rfl T.g_MOST_PORTS ⟨_, rfl⟩) pa_nil))))) rfl)
      (pss_cons (ps_fld (pv 0) (pe_callS (ok_checked_number T) (hr.mono (by decide)) (by rfl) T.g_checked_number T.F_checked_number.kp T.b_checked_number (fun σ => passAt (takes_of rfl rfl rfl rfl) σ) (pa_cons pe_str (pa_cons (pv 8) (pa_cons pe_int (pa_cons (pe_glob (v := .int 6) rfl T.g_MOST_BELLS ⟨_, rfl⟩) pa_nil))))) rfl)
      (pss_cons (ps_fld (pv 0) (pe_callS (ok_checked_lines T) (hr.mono (by decide)) (by rfl) T.g_checked_lines T.F_checked_lines.kp T.b_checked_lines (fun σ => passAt (takes_of rfl rfl rfl rfl) σ) (pa_cons (pv 9) (pa_cons (pe_fld (pv 0) rfl) pa_nil))) rfl)
      (pss_one (ps_fld (pv 0) (pe_callS (ok_checked_rights T) (hr.mono (by decide)) (by rfl) T.g_checked_rights T.F_checked_rights.kp T.b_checked_rights (fun σ => passAt (takes_of rfl rfl rfl rfl) σ) (pa_cons (pv 0) (pa_cons (pv 3) pa_nil))) rfl))))))))))))), ?_⟩
    walk_at "lw go"
    have c : InitB K T.c_Setup T.c_BadSetup W H0 x A Q E A.fault := ⟨kE, k⟩
    clear kE k
    unfold SA.fault at c
    have hA0 : ∀ q ∈ ([(vp, A.programs), (vt, A.turns), (vr, A.rights), (vq, A.quotas), (vd, A.data), (vg, A.pages), (vo, A.ports), (vb, A.bells), (vl, A.lines), (vs', A.slots), (vw, A.windows)] : List (V × PyData)), DW K W H q.1 q.2 := fun q hq => by
      simp only [List.mem_cons, List.not_mem_nil, or_false] at hq
      rcases hq with rfl | rfl | rfl | rfl | rfl | rfl | rfl | rfl | rfl | rfl | rfl <;> assumption
    clear dp dt dr dq dd dg do' db dl ds dw
    have xa0 := hx
    have eb0 := e0
    have hl0 : ([] : List (Str × V)).length ≤ 0 := Nat.le_refl _
    obtain ⟨c1, c⟩ := oe_E (B := InitB K T.c_Setup T.c_BadSetup W H0 x A Q E) c
    walk_at "lw gi"
    with_reducible refine rd_sfld ?_
    refine rd_callS ?_
    walk_at "lw gi"
    refine ⟨W, vp, A.programs, rfl, eb0.iv, hA0 (vp, A.programs) (by repeat (first | exact List.mem_cons_self .. | apply List.mem_cons_of_mem)), hp, fun j fj u Hz ez hz => (c1 j fj).1 _ j rfl u Hz (eb0.trans ez) hz, fun fn1 u1 Ha1 ea1 ha1 => ?_⟩
    have c := c fn1
    walk_at "lw gi"
    refine rd_sfldA (W := W) (eb0.trans ea1) hx0 (ea1.at_ xa0) T.cl_Setup T.na_Setup_programs (Nat.lt_of_le_of_lt hl0 (by decide)) fun Hb1 eb1 xa1 kp1 o1 => ?_
    have hl1 := lenF hl0 (f := "programs") (v := u1)
    have hA1 : ∀ q ∈ ([(u1, progsV A.programs), (vp, A.programs), (vt, A.turns), (vr, A.rights), (vq, A.quotas), (vd, A.data), (vg, A.pages), (vo, A.ports), (vb, A.bells), (vl, A.lines), (vs', A.slots), (vw, A.windows)] : List (V × PyData)), DW K W Hb1 q.1 q.2 := fun q hq => kp1 (by rcases List.mem_cons.mp hq with rfl | hq <;> first | exact ha1 | exact (hA0 q hq).ex ea1)
    clear hA0 o1 kp1
    have hn1 : 0 ≤ A.n ∧ A.n ≤ 1000 := by
      have := progsF_len fn1
      unfold SA.n
      omega
    obtain ⟨ap, ts, rfl, ta, wt⟩ := (hA1 (u1, progsV A.programs) (by repeat (first | exact List.mem_cons_self .. | apply List.mem_cons_of_mem))).tupE
    have hnn : (ts.length : Int) = A.n := by rw [wt.length, List.length_map]; rfl
    have sbt : SqB K W Hb1 ap ts := .inr ta
    walk_at "lw gi"
    refine rd_fld ?_
    walk_at "lw gi"
    refine ⟨x, _, _, _, _, rfl, xa1.1, T.cl_Setup, T.na_Setup_programs, rfl, ?_⟩
    walk_at "lw gi"
    rw [hnn]
    obtain ⟨c2, c⟩ := oe_E (B := InitB K T.c_Setup T.c_BadSetup W H0 x A Q E) c
    walk_at "lw gi"
    with_reducible refine rd_sfld ?_
    refine rd_callS ?_
    walk_at "lw gi"
    refine ⟨W, "slots", vs', A.slots, A.n + 2, 48, rfl, eb1.iv, hA1 (vs', A.slots) (by repeat (first | exact List.mem_cons_self .. | apply List.mem_cons_of_mem)), fun j fj u Hz ez hz => (c2 j fj).1 _ j rfl u Hz (eb1.trans ez) hz, fun fn2 u2 Ha2 ea2 ha2 => ?_⟩
    have c := c fn2
    obtain rfl : u2 = V.int (intD A.slots) := betE ha2 (numF_none fn2)
    obtain rfl : vs' = V.int (intD A.slots) := betE (hA1 (vs', A.slots) (by repeat (first | exact List.mem_cons_self .. | apply List.mem_cons_of_mem))) (numF_none fn2)
    walk_at "lw gi"
    refine rd_sfldA (W := W) (eb1.trans ea2) hx0 (ea2.at_ xa1) T.cl_Setup T.na_Setup_slots (Nat.lt_of_le_of_lt hl1 (by decide)) fun Hb2 eb2 xa2 kp2 o2 => ?_
    have hl2 := lenF hl1 (f := "slots") (v := V.int (intD A.slots))
    have hA2 : ∀ q ∈ ([(V.int (intD A.slots), A.slots), (V.ref ap, progsV A.programs), (vp, A.programs), (vt, A.turns), (vr, A.rights), (vq, A.quotas), (vd, A.data), (vg, A.pages), (vo, A.ports), (vb, A.bells), (vl, A.lines), (V.int (intD A.slots), A.slots), (vw, A.windows)] : List (V × PyData)), DW K W Hb2 q.1 q.2 := fun q hq => kp2 (by rcases List.mem_cons.mp hq with rfl | hq <;> first | exact ha2 | exact (hA1 q hq).ex ea2)
    clear hA1 o2 kp2
    obtain ⟨c3, c⟩ := oe_E (B := InitB K T.c_Setup T.c_BadSetup W H0 x A Q E) c
    walk_at "lw gi"
    with_reducible refine rd_sfld ?_
    refine rd_callS ?_
    walk_at "lw gi"
    refine ⟨W, "windows", vw, A.windows, 1, 16, rfl, eb2.iv, hA2 (vw, A.windows) (by repeat (first | exact List.mem_cons_self .. | apply List.mem_cons_of_mem)), fun j fj u Hz ez hz => (c3 j fj).1 _ j rfl u Hz (eb2.trans ez) hz, fun fn3 u3 Ha3 ea3 ha3 => ?_⟩
    have c := c fn3
    obtain rfl : u3 = V.int (intD A.windows) := betE ha3 (numF_none fn3)
    obtain rfl : vw = V.int (intD A.windows) := betE (hA2 (vw, A.windows) (by repeat (first | exact List.mem_cons_self .. | apply List.mem_cons_of_mem))) (numF_none fn3)
    walk_at "lw gi"
    refine rd_sfldA (W := W) (eb2.trans ea3) hx0 (ea3.at_ xa2) T.cl_Setup T.na_Setup_windows (Nat.lt_of_le_of_lt hl2 (by decide)) fun Hb3 eb3 xa3 kp3 o3 => ?_
    have hl3 := lenF hl2 (f := "windows") (v := V.int (intD A.windows))
    have hA3 : ∀ q ∈ ([(V.int (intD A.windows), A.windows), (V.int (intD A.slots), A.slots), (V.ref ap, progsV A.programs), (vp, A.programs), (vt, A.turns), (vr, A.rights), (vq, A.quotas), (vd, A.data), (vg, A.pages), (vo, A.ports), (vb, A.bells), (vl, A.lines), (V.int (intD A.slots), A.slots), (V.int (intD A.windows), A.windows)] : List (V × PyData)), DW K W Hb3 q.1 q.2 := fun q hq => kp3 (by rcases List.mem_cons.mp hq with rfl | hq <;> first | exact ha3 | exact (hA2 q hq).ex ea3)
    clear hA2 o3 kp3
    obtain ⟨c4, c⟩ := oe_E (B := InitB K T.c_Setup T.c_BadSetup W H0 x A Q E) c
    walk_at "lw gi"
    with_reducible refine rd_sfld ?_
    refine rd_callS ?_
    walk_at "lw gi"
    refine ⟨W, vt, A.turns, A.n, freeP A.n (intD A.slots) (intD A.windows) + 16, rfl, eb3.iv, hA3 (vt, A.turns) (by repeat (first | exact List.mem_cons_self .. | apply List.mem_cons_of_mem)), hn1, fun j fj u Hz ez hz => (c4 j fj).1 _ j rfl u Hz (eb3.trans ez) hz, fun fn4 u4 Ha4 ea4 ha4 => ?_⟩
    have c := c fn4
    walk_at "lw gi"
    refine rd_sfldA (W := W) (eb3.trans ea4) hx0 (ea4.at_ xa3) T.cl_Setup T.na_Setup_turns (Nat.lt_of_le_of_lt hl3 (by decide)) fun Hb4 eb4 xa4 kp4 o4 => ?_
    have hl4 := lenF hl3 (f := "turns") (v := u4)
    have hA4 : ∀ q ∈ ([(u4, rowsD A.turns), (V.int (intD A.windows), A.windows), (V.int (intD A.slots), A.slots), (V.ref ap, progsV A.programs), (vp, A.programs), (vt, A.turns), (vr, A.rights), (vq, A.quotas), (vd, A.data), (vg, A.pages), (vo, A.ports), (vb, A.bells), (vl, A.lines), (V.int (intD A.slots), A.slots), (V.int (intD A.windows), A.windows)] : List (V × PyData)), DW K W Hb4 q.1 q.2 := fun q hq => kp4 (by rcases List.mem_cons.mp hq with rfl | hq <;> first | exact ha4 | exact (hA3 q hq).ex ea4)
    clear hA3 o4 kp4
    obtain ⟨c5, c⟩ := oe_E (B := InitB K T.c_Setup T.c_BadSetup W H0 x A Q E) c
    walk_at "lw gi"
    with_reducible refine rd_sfld ?_
    refine rd_callS ?_
    walk_at "lw gi"
    refine ⟨W, vq, A.quotas, A.n, rfl, eb4.iv, hA4 (vq, A.quotas) (by repeat (first | exact List.mem_cons_self .. | apply List.mem_cons_of_mem)), hn1, fun j fj u Hz ez hz => (c5 j fj).1 _ j rfl u Hz (eb4.trans ez) hz, fun fn5 u5 Ha5 ea5 ha5 => ?_⟩
    have c := c fn5
    walk_at "lw gi"
    refine rd_sfldA (W := W) (eb4.trans ea5) hx0 (ea5.at_ xa4) T.cl_Setup T.na_Setup_quotas (Nat.lt_of_le_of_lt hl4 (by decide)) fun Hb5 eb5 xa5 kp5 o5 => ?_
    have hl5 := lenF hl4 (f := "quotas") (v := u5)
    have hA5 : ∀ q ∈ ([(u5, quotasV A.quotas A.n), (u4, rowsD A.turns), (V.int (intD A.windows), A.windows), (V.int (intD A.slots), A.slots), (V.ref ap, progsV A.programs), (vp, A.programs), (vt, A.turns), (vr, A.rights), (vq, A.quotas), (vd, A.data), (vg, A.pages), (vo, A.ports), (vb, A.bells), (vl, A.lines), (V.int (intD A.slots), A.slots), (V.int (intD A.windows), A.windows)] : List (V × PyData)), DW K W Hb5 q.1 q.2 := fun q hq => kp5 (by rcases List.mem_cons.mp hq with rfl | hq <;> first | exact ha5 | exact (hA4 q hq).ex ea5)
    clear hA4 o5 kp5
    obtain ⟨c6, c⟩ := oe_E (B := InitB K T.c_Setup T.c_BadSetup W H0 x A Q E) c
    walk_at "lw gi"
    with_reducible refine rd_sfld ?_
    refine rd_callS ?_
    walk_at "lw gi"
    refine ⟨W, vd, A.data, A.n, rfl, eb5.iv, hA5 (vd, A.data) (by repeat (first | exact List.mem_cons_self .. | apply List.mem_cons_of_mem)), hn1, fun j fj u Hz ez hz => (c6 j fj).1 _ j rfl u Hz (eb5.trans ez) hz, fun fn6 u6 Ha6 ea6 ha6 => ?_⟩
    have c := c fn6
    walk_at "lw gi"
    refine rd_sfldA (W := W) (eb5.trans ea6) hx0 (ea6.at_ xa5) T.cl_Setup T.na_Setup_data (Nat.lt_of_le_of_lt hl5 (by decide)) fun Hb6 eb6 xa6 kp6 o6 => ?_
    have hl6 := lenF hl5 (f := "data") (v := u6)
    have hA6 : ∀ q ∈ ([(u6, dataV A.data A.n), (u5, quotasV A.quotas A.n), (u4, rowsD A.turns), (V.int (intD A.windows), A.windows), (V.int (intD A.slots), A.slots), (V.ref ap, progsV A.programs), (vp, A.programs), (vt, A.turns), (vr, A.rights), (vq, A.quotas), (vd, A.data), (vg, A.pages), (vo, A.ports), (vb, A.bells), (vl, A.lines), (V.int (intD A.slots), A.slots), (V.int (intD A.windows), A.windows)] : List (V × PyData)), DW K W Hb6 q.1 q.2 := fun q hq => kp6 (by rcases List.mem_cons.mp hq with rfl | hq <;> first | exact ha6 | exact (hA5 q hq).ex ea6)
    clear hA5 o6 kp6
    obtain ⟨c7, c⟩ := oe_E (B := InitB K T.c_Setup T.c_BadSetup W H0 x A Q E) c
    walk_at "lw gi"
    with_reducible refine rd_sfld ?_
    refine rd_callS ?_
    walk_at "lw gi"
    refine ⟨W, "pages", vg, A.pages, 0, 8, rfl, eb6.iv, hA6 (vg, A.pages) (by repeat (first | exact List.mem_cons_self .. | apply List.mem_cons_of_mem)), fun j fj u Hz ez hz => (c7 j fj).1 _ j rfl u Hz (eb6.trans ez) hz, fun fn7 u7 Ha7 ea7 ha7 => ?_⟩
    have c := c fn7
    obtain rfl : u7 = V.int (intD A.pages) := betE ha7 (numF_none fn7)
    obtain rfl : vg = V.int (intD A.pages) := betE (hA6 (vg, A.pages) (by repeat (first | exact List.mem_cons_self .. | apply List.mem_cons_of_mem))) (numF_none fn7)
    walk_at "lw gi"
    refine rd_sfldA (W := W) (eb6.trans ea7) hx0 (ea7.at_ xa6) T.cl_Setup T.na_Setup_pages (Nat.lt_of_le_of_lt hl6 (by decide)) fun Hb7 eb7 xa7 kp7 o7 => ?_
    have hl7 := lenF hl6 (f := "pages") (v := V.int (intD A.pages))
    have hA7 : ∀ q ∈ ([(V.int (intD A.pages), A.pages), (u6, dataV A.data A.n), (u5, quotasV A.quotas A.n), (u4, rowsD A.turns), (V.int (intD A.windows), A.windows), (V.int (intD A.slots), A.slots), (V.ref ap, progsV A.programs), (vp, A.programs), (vt, A.turns), (vr, A.rights), (vq, A.quotas), (vd, A.data), (V.int (intD A.pages), A.pages), (vo, A.ports), (vb, A.bells), (vl, A.lines), (V.int (intD A.slots), A.slots), (V.int (intD A.windows), A.windows)] : List (V × PyData)), DW K W Hb7 q.1 q.2 := fun q hq => kp7 (by rcases List.mem_cons.mp hq with rfl | hq <;> first | exact ha7 | exact (hA6 q hq).ex ea7)
    clear hA6 o7 kp7
    obtain ⟨c8, c⟩ := oe_E (B := InitB K T.c_Setup T.c_BadSetup W H0 x A Q E) c
    walk_at "lw gi"
    with_reducible refine rd_sfld ?_
    refine rd_callS ?_
    walk_at "lw gi"
    refine ⟨W, "ports", vo, A.ports, 0, 6, rfl, eb7.iv, hA7 (vo, A.ports) (by repeat (first | exact List.mem_cons_self .. | apply List.mem_cons_of_mem)), fun j fj u Hz ez hz => (c8 j fj).1 _ j rfl u Hz (eb7.trans ez) hz, fun fn8 u8 Ha8 ea8 ha8 => ?_⟩
    have c := c fn8
    obtain rfl : u8 = V.int (intD A.ports) := betE ha8 (numF_none fn8)
    obtain rfl : vo = V.int (intD A.ports) := betE (hA7 (vo, A.ports) (by repeat (first | exact List.mem_cons_self .. | apply List.mem_cons_of_mem))) (numF_none fn8)
    walk_at "lw gi"
    refine rd_sfldA (W := W) (eb7.trans ea8) hx0 (ea8.at_ xa7) T.cl_Setup T.na_Setup_ports (Nat.lt_of_le_of_lt hl7 (by decide)) fun Hb8 eb8 xa8 kp8 o8 => ?_
    have hl8 := lenF hl7 (f := "ports") (v := V.int (intD A.ports))
    have hA8 : ∀ q ∈ ([(V.int (intD A.ports), A.ports), (V.int (intD A.pages), A.pages), (u6, dataV A.data A.n), (u5, quotasV A.quotas A.n), (u4, rowsD A.turns), (V.int (intD A.windows), A.windows), (V.int (intD A.slots), A.slots), (V.ref ap, progsV A.programs), (vp, A.programs), (vt, A.turns), (vr, A.rights), (vq, A.quotas), (vd, A.data), (V.int (intD A.pages), A.pages), (V.int (intD A.ports), A.ports), (vb, A.bells), (vl, A.lines), (V.int (intD A.slots), A.slots), (V.int (intD A.windows), A.windows)] : List (V × PyData)), DW K W Hb8 q.1 q.2 := fun q hq => kp8 (by rcases List.mem_cons.mp hq with rfl | hq <;> first | exact ha8 | exact (hA7 q hq).ex ea8)
    clear hA7 o8 kp8
    obtain ⟨c9, c⟩ := oe_E (B := InitB K T.c_Setup T.c_BadSetup W H0 x A Q E) c
    walk_at "lw gi"
    with_reducible refine rd_sfld ?_
    refine rd_callS ?_
    walk_at "lw gi"
    refine ⟨W, "bells", vb, A.bells, 0, 6, rfl, eb8.iv, hA8 (vb, A.bells) (by repeat (first | exact List.mem_cons_self .. | apply List.mem_cons_of_mem)), fun j fj u Hz ez hz => (c9 j fj).1 _ j rfl u Hz (eb8.trans ez) hz, fun fn9 u9 Ha9 ea9 ha9 => ?_⟩
    have c := c fn9
    obtain rfl : u9 = V.int (intD A.bells) := betE ha9 (numF_none fn9)
    obtain rfl : vb = V.int (intD A.bells) := betE (hA8 (vb, A.bells) (by repeat (first | exact List.mem_cons_self .. | apply List.mem_cons_of_mem))) (numF_none fn9)
    walk_at "lw gi"
    refine rd_sfldA (W := W) (eb8.trans ea9) hx0 (ea9.at_ xa8) T.cl_Setup T.na_Setup_bells (Nat.lt_of_le_of_lt hl8 (by decide)) fun Hb9 eb9 xa9 kp9 o9 => ?_
    have hl9 := lenF hl8 (f := "bells") (v := V.int (intD A.bells))
    have hA9 : ∀ q ∈ ([(V.int (intD A.bells), A.bells), (V.int (intD A.ports), A.ports), (V.int (intD A.pages), A.pages), (u6, dataV A.data A.n), (u5, quotasV A.quotas A.n), (u4, rowsD A.turns), (V.int (intD A.windows), A.windows), (V.int (intD A.slots), A.slots), (V.ref ap, progsV A.programs), (vp, A.programs), (vt, A.turns), (vr, A.rights), (vq, A.quotas), (vd, A.data), (V.int (intD A.pages), A.pages), (V.int (intD A.ports), A.ports), (V.int (intD A.bells), A.bells), (vl, A.lines), (V.int (intD A.slots), A.slots), (V.int (intD A.windows), A.windows)] : List (V × PyData)), DW K W Hb9 q.1 q.2 := fun q hq => kp9 (by rcases List.mem_cons.mp hq with rfl | hq <;> first | exact ha9 | exact (hA8 q hq).ex ea9)
    clear hA8 o9 kp9
    obtain ⟨c10, c⟩ := oe_E (B := InitB K T.c_Setup T.c_BadSetup W H0 x A Q E) c
    walk_at "lw gi"
    with_reducible refine rd_sfld ?_
    refine rd_callS ?_
    walk_at "lw gi"
    refine rd_fld ?_
    walk_at "lw gi"
    refine ⟨x, _, _, _, _, rfl, xa9.1, T.cl_Setup, T.na_Setup_bells, rfl, ?_⟩
    walk_at "lw gi"
    refine ⟨W, vl, A.lines, intD A.bells, rfl, eb9.iv, hA9 (vl, A.lines) (by repeat (first | exact List.mem_cons_self .. | apply List.mem_cons_of_mem)), fun j fj u Hz ez hz => (c10 j fj).1 _ j rfl u Hz (eb9.trans ez) hz, fun fn10 u10 Ha10 ea10 ha10 => ?_⟩
    have c := c fn10
    walk_at "lw gi"
    refine rd_sfldA (W := W) (eb9.trans ea10) hx0 (ea10.at_ xa9) T.cl_Setup T.na_Setup_lines (Nat.lt_of_le_of_lt hl9 (by decide)) fun Hb10 eb10 xa10 kp10 o10 => ?_
    have hl10 := lenF hl9 (f := "lines") (v := u10)
    have hA10 : ∀ q ∈ ([(u10, tupD A.lines), (V.int (intD A.bells), A.bells), (V.int (intD A.ports), A.ports), (V.int (intD A.pages), A.pages), (u6, dataV A.data A.n), (u5, quotasV A.quotas A.n), (u4, rowsD A.turns), (V.int (intD A.windows), A.windows), (V.int (intD A.slots), A.slots), (V.ref ap, progsV A.programs), (vp, A.programs), (vt, A.turns), (vr, A.rights), (vq, A.quotas), (vd, A.data), (V.int (intD A.pages), A.pages), (V.int (intD A.ports), A.ports), (V.int (intD A.bells), A.bells), (vl, A.lines), (V.int (intD A.slots), A.slots), (V.int (intD A.windows), A.windows)] : List (V × PyData)), DW K W Hb10 q.1 q.2 := fun q hq => kp10 (by rcases List.mem_cons.mp hq with rfl | hq <;> first | exact ha10 | exact (hA9 q hq).ex ea10)
    clear hA9 o10 kp10
    obtain ⟨c11, c⟩ := oe_E (B := InitB K T.c_Setup T.c_BadSetup W H0 x A Q E) c
    walk_at "lw gi"
    with_reducible refine rd_sfld ?_
    refine rd_callS ?_
    walk_at "lw gi"
    have part : PartAt K T.c_Setup W Hb10 x A.cnt := ⟨_, _, _, _, _, _, xa10, rfl, rfl, rfl, rfl, rfl, rfl, hA10 (V.ref ap, progsV A.programs) (by repeat (first | exact List.mem_cons_self .. | apply List.mem_cons_of_mem)), (by rw [List.length_map]; rfl), hA10 (u10, tupD A.lines) (by repeat (first | exact List.mem_cons_self .. | apply List.mem_cons_of_mem)), rfl⟩
    refine ⟨W, x, vr, A.cnt, A.rights, rfl, eb10.iv, part, hA10 (vr, A.rights) (by repeat (first | exact List.mem_cons_self .. | apply List.mem_cons_of_mem)), cr, lr, fun j fj u Hz ez hz => (c11 j fj).1 _ j rfl u Hz (eb10.trans ez) hz, fun fn11 u11 Ha11 ea11 ha11 => ?_⟩
    have c := c fn11
    walk_at "lw gi"
    refine rd_sfldA (W := W) (eb10.trans ea11) hx0 (ea11.at_ xa10) T.cl_Setup T.na_Setup_rights (Nat.lt_of_le_of_lt hl10 (by decide)) fun Hb11 eb11 xa11 kp11 o11 => ?_
    have hl11 := lenF hl10 (f := "rights") (v := u11)
    have hA11 : ∀ q ∈ ([(u11, rightsV A.rights), (u10, tupD A.lines), (V.int (intD A.bells), A.bells), (V.int (intD A.ports), A.ports), (V.int (intD A.pages), A.pages), (u6, dataV A.data A.n), (u5, quotasV A.quotas A.n), (u4, rowsD A.turns), (V.int (intD A.windows), A.windows), (V.int (intD A.slots), A.slots), (V.ref ap, progsV A.programs), (vp, A.programs), (vt, A.turns), (vr, A.rights), (vq, A.quotas), (vd, A.data), (V.int (intD A.pages), A.pages), (V.int (intD A.ports), A.ports), (V.int (intD A.bells), A.bells), (vl, A.lines), (V.int (intD A.slots), A.slots), (V.int (intD A.windows), A.windows)] : List (V × PyData)), DW K W Hb11 q.1 q.2 := fun q hq => kp11 (by rcases List.mem_cons.mp hq with rfl | hq <;> first | exact ha11 | exact (hA10 q hq).ex ea11)
    clear hA10 o11 kp11
    walk_at "lw gi"
    exact c.2 rfl _ eb11 ⟨_, _, _, _, _, _, _, xa11, hA11 (V.ref ap, progsV A.programs) (by repeat (first | exact List.mem_cons_self .. | apply List.mem_cons_of_mem)), hA11 (u4, rowsD A.turns) (by repeat (first | exact List.mem_cons_self .. | apply List.mem_cons_of_mem)), hA11 (u5, quotasV A.quotas A.n) (by repeat (first | exact List.mem_cons_self .. | apply List.mem_cons_of_mem)), hA11 (u6, dataV A.data A.n) (by repeat (first | exact List.mem_cons_self .. | apply List.mem_cons_of_mem)), hA11 (u10, tupD A.lines) (by repeat (first | exact List.mem_cons_self .. | apply List.mem_cons_of_mem)), hA11 (u11, rightsV A.rights) (by repeat (first | exact List.mem_cons_self .. | apply List.mem_cons_of_mem))⟩

theorem ok_price (T : Tx P w K mg) : FnOk P w K mg base (L2.CX P w) 2 T.f_price T.fd_price ["setup", "name"] (sp_price K T.c_Setup T.c_BadDeed) := by
  refine T.F_price.okX sc_price (fun vs H Q E h => ?_) (fun cdv A outer s H vs Q E hr h => ?_)
  · obtain ⟨W, p, nm, n, s0, w0, rfl, iv, sa, hn, kE, k⟩ := h
    rfl
  · obtain ⟨W, p, nm, n, s0, w0, rfl, iv, sa, hn, kE, k⟩ := h
    refine ⟨_, (pss_cons (ps_if (pt_cmpR (r := rIn K true) op_notIn_seq (pv 1) (pe_glob (v := .ref T.a_DEEDS) rfl T.g_DEEDS rfl) (by rfl))
        (pss_one (ps_raiseS rfl T.S_BadDeed hr (takes_of rfl rfl rfl rfl) (pa_cons (pv 1) pa_nil)))
        pss_nil)
      (pss_cons (ps_set (i := 2) sc_price.nd rfl (by first | exact Or.inl rfl | exact Or.inr rfl) (pe_callB (r := Lw.rLen K) c_len (by rfl) T.n_len PySem.boot_len (pa_cons (pe_fld (pv 0) rfl) pa_nil)))
      (pss_cons (ps_if (pt_cmpR op_eq (pv 1) pe_str (nomark _))
        (pss_one (ps_ret (pe_op op_add (pe_fld (pv 0) rfl) pe_int)))
        pss_nil)
      (pss_cons (ps_if (pt_cmpR op_eq (pv 1) pe_str (nomark _))
        (pss_one (ps_ret (pe_op op_add (pe_op op_mul (pv 2) (pe_fld (pv 0) rfl)) (pe_op op_mul (pv 2) (pe_fld (pv 0) rfl)))))
        pss_nil)
      (pss_cons (ps_if (pt_cmpR op_eq (pv 1) pe_str (nomark _))
        (pss_one (ps_ret (pe_call (ok_free_price T) hr (by rfl) T.g_free_price T.F_free_price.kp T.b_free_price .nil pass0 (pa_cons (pv 2) (pa_cons (pe_fld (pv 0) rfl) (pa_cons (pe_fld (pv 0) rfl) pa_nil))))))
        pss_nil)
      (pss_one (ps_ret (pe_ix (r := rIxKd K w) x_kd (pe_glob (v := .ref T.a_PRICES) rfl T.g_PRICES rfl) (pv 1) (fun _ _ => rfl))))))))), ?_⟩
    obtain ⟨dx, fs, vp, dp, h0, f1, f2, f3, d1, n1⟩ := sa.ex
    obtain ⟨ap, xp, rfl, tp, wp⟩ := d1.tupE
    have np : (xp.length : Int) = n := by rw [wp.length]; exact n1
    have sp : SqB K W H ap xp := .inr tp
    have hDL : [V.str "halt", .str "until", .str "clock", .str "look", .str "claim", .str "free", .str "copy", .str "drop", .str "revoke", .str "map", .str "unmap", .str "send", .str "take", .str "trysend", .str "trytake", .str "call", .str "reply", .str "ring", .str "await", .str "tryawait", .str "ack", .str "give", .str "pull"] = deedsL.map V.str := rfl
    walk_at "lw gi"
    rw [hDL, inV_str]
    refine ifN ?_ ?_ <;> intro hin
    · walk_at "lw gi"
      refine rd_raiseS ?_
      walk_at "lw gi"
      exact ⟨_, rfl, fun u hu => kE hin u _ (Ex.new iv hu) (At.new iv hu)⟩
    have k := k hin
    unfold priceF at k
    walk_at "lw gi"
    refine rd_fld ?_
    walk_at "lw gi"
    refine ⟨p, _, _, _, _, rfl, h0.1, T.cl_Setup, T.na_Setup_programs, f1, ?_⟩
    walk_at "lw gi"
    rw [np]
    refine ifS ?_ ?_ <;> intro h1
    · rw [if_pos h1] at k
      walk_at "lw gi"
      refine rd_fld ?_
      walk_at "lw gi"
      refine ⟨p, _, _, _, _, rfl, h0.1, T.cl_Setup, T.na_Setup_windows, f3, ?_⟩
      walk_at "lw gi"
      exact k
    rw [if_neg h1] at k
    walk_at "lw gi"
    refine ifS ?_ ?_ <;> intro h2
    · rw [if_pos h2] at k
      walk_at "lw gi"
      refine rd_fld ?_
      walk_at "lw gi"
      refine ⟨p, _, _, _, _, rfl, h0.1, T.cl_Setup, T.na_Setup_slots, f2, ?_⟩
      walk_at "lw gi"
      refine rd_fld ?_
      walk_at "lw gi"
      refine ⟨p, _, _, _, _, rfl, h0.1, T.cl_Setup, T.na_Setup_windows, f3, ?_⟩
      walk_at "lw gi"
      exact k
    rw [if_neg h2] at k
    walk_at "lw gi"
    refine ifS ?_ ?_ <;> intro h3
    · rw [if_pos h3] at k
      walk_at "lw gi"
      refine rd_fld ?_
      walk_at "lw gi"
      refine ⟨p, _, _, _, _, rfl, h0.1, T.cl_Setup, T.na_Setup_slots, f2, ?_⟩
      walk_at "lw gi"
      refine rd_fld ?_
      walk_at "lw gi"
      refine ⟨p, _, _, _, _, rfl, h0.1, T.cl_Setup, T.na_Setup_windows, f3, ?_⟩
      walk_at "lw gi"
      exact k
    rw [if_neg h3] at k
    obtain ⟨tk, ht⟩ := price_in T hin h1 h2 h3
    walk_at "lw gi"
    refine ⟨_, _, V.int (priceT nm), rfl, rfl, ⟨_, _, _, T.D_PRICES.at_, T.D_PRICES.lit, ht, ⟨_, rfl⟩⟩, ?_⟩
    walk_at "lw gi"
    exact k

theorem ok_law_bag (T : Tx P w K mg) : FnOk P w K mg base CX0 1 T.f_law_bag T.fd_law_bag ["script"] (sp_law_bag K) := by
  refine T.F_law_bag.ok sc_law_bag (fun vs H Q E h => ?_) (fun cdv A outer s H vs Q E hr h => ?_)
  · obtain ⟨a, ns, rfl, ha, hn, k⟩ := h
    rfl
  · obtain ⟨a, ns, rfl, ha, hn, k⟩ := h
    refine ⟨_, (pss_one (ps_ret (pe_op op_cat (pe_lst (pa_cons pe_int (pa_cons pe_int (pa_cons pe_int (pa_cons pe_int pa_nil))))) (pe_lc (own := [("cell", 1)]) rfl sc_law_bag.nd (pi_list (pe_slice (r := rSlL K) sl_list (pv 0) po_none (po_some pe_int))) (blkOk_by (own := [("cell", 1)]) (N := N_law_bag) (sc := (defScope s_law_bag)) (by decide +kernel)) (fun _ _ _ _ _ => (pg_name (i := 1) sc_law_bag.nd rfl (by first | exact Or.inl rfl | exact Or.inr rfl))) (fun _ _ _ _ _ => pts_nil) (fun _ _ _ _ _ => (pe_callTy c_int (by rfl) T.n_int (by decide +kernel) (pa_cons (pv 1) pa_nil))))))), ?_⟩
    have iv : W0.iv H := trivial
    walk_at "lw all"
    rename_i t0 H0 f0 e0 h0
    refine rd_slLs (W := W0) e0.iv (sql_ex e0 ha) ?_
    intro p H1 hp e1 h1
    have ai : AI (cutV (ns.map V.int) none (some 63)) := (AI.of ns).cut
    have al : (cutV (ns.map V.int) none (some 63)).length ≤ 63 := Nat.le_trans (cut_len _ _ _) (by rw [List.length_map]; exact hn)
    walk_at "lw all"
    refine rd_lc1 (W := W0) (fun _ y _ => ∃ z : Int, y = .int z) (by walk_at "lw iv") h1 (by omega) (fun _ _ _ _ _ r => r) (fun n x D acc H' QV hx hD hDa e q => ?_) (fun C H2 ys hD e2 h2 hA => ?_)
    · obtain ⟨z, rfl⟩ := ai.get hx
      walk_at "lw go"
      exact q _ _ (Ex.refl e.iv) ⟨_, rfl⟩
    have hys := hA.length
    obtain ⟨cs, rfl⟩ := (AI.of_all hA).ints
    walk_at "lw all"
    rename_i p5 H5 f5 e5 h5
    exact k _ _ ⟨4, 0, 0, 20011, cs, h5.1, by decide⟩

theorem ok_law_take (T : Tx P w K mg) : FnOk P w K mg base CX0 1 T.f_law_take T.fd_law_take ["bag", "many"] (sp_law_take) := by
  refine T.F_law_take.ok sc_law_take (fun vs H Q E h => ?_) (fun cdv A outer s H vs Q E hr h => ?_)
  · obtain ⟨b, many, rfl, m0, m1, ⟨p, g, n, s0, cs, B⟩, k⟩ := h
    rfl
  · obtain ⟨b, many, rfl, m0, m1, ⟨p, g, n, s0, cs, B⟩, k⟩ := h
    refine ⟨_, (pss_cons (ps_asg (pe_op op_add (pe_ix (r := rIxL K) ix_list (pv 0) pe_int (fun _ _ => rfl)) pe_int) (pg_sub (pv 0) pe_int set_list))
      (pss_cut (ps_if (PW.pt (pw_and (pt_cmpR op_eq (pe_ix (r := rIxL K) ix_list (pv 0) pe_int (fun _ _ => rfl)) pe_int (nomark _)) (pw_and1 (pt_cmpR op_lt (pe_ix (r := rIxL K) ix_list (pv 0) pe_int (fun _ _ => rfl)) (pe_callB (r := Lw.rLen K) c_len (by rfl) T.n_len PySem.boot_len (pa_cons (pv 0) pa_nil)) (nomark _)))))
        (pss_cons (ps_set (i := 2) sc_law_take.nd rfl (by first | exact Or.inl rfl | exact Or.inr rfl) (pe_ix (r := rIxL K) ix_list (pv 0) (pe_ix (r := rIxL K) ix_list (pv 0) pe_int (fun _ _ => rfl)) (fun _ _ => rfl)))
        (pss_cons (ps_asg (pe_op op_add (pe_ix (r := rIxL K) ix_list (pv 0) pe_int (fun _ _ => rfl)) pe_int) (pg_sub (pv 0) pe_int set_list))
        (pss_one (ps_if (pt_cmpR op_ge (pv 2) (pe_op op_powW pe_int pe_int) (nomark _))
          (pss_one (ps_asg (pv 2) (pg_sub (pv 0) pe_int set_list)))
          (pss_one (ps_asg (pe_op op_mod (pe_callTy c_int (by rfl) T.n_int (by decide +kernel) (pa_cons (pe_op op_add (pe_op op_add (pe_op op_mul (pe_ix (r := rIxL K) ix_list (pv 0) pe_int (fun _ _ => rfl)) pe_int) (pe_op op_mul (pe_op op_mod (pe_callTy c_int (by rfl) T.n_int (by decide +kernel) (pa_cons (pv 2) pa_nil)) pe_int) pe_int)) pe_int) pa_nil)) pe_int) (pg_sub (pv 0) pe_int set_list)))))))
        pss_nil)
      (pss_cons (ps_if (pt_cmpR op_gt (pe_ix (r := rIxL K) ix_list (pv 0) pe_int (fun _ _ => rfl)) pe_int (nomark _))
        (pss_cons (ps_set (i := 3) sc_law_take.nd rfl (by first | exact Or.inl rfl | exact Or.inr rfl) (pe_op op_mod (pe_callTy c_int (by rfl) T.n_int (by decide +kernel) (pa_cons (pe_ix (r := rIxL K) ix_list (pv 0) pe_int (fun _ _ => rfl)) pa_nil)) (pv 1)))
        (pss_cons (ps_asg (pe_op op_fdiv (pe_ix (r := rIxL K) ix_list (pv 0) pe_int (fun _ _ => rfl)) (pv 1)) (pg_sub (pv 0) pe_int set_list))
        (pss_one (ps_ret (pv 3)))))
        pss_nil)
      (pss_cons (ps_asg (pe_op op_mod (pe_callTy c_int (by rfl) T.n_int (by decide +kernel) (pa_cons (pe_op op_add (pe_op op_add (pe_op op_mul (pe_ix (r := rIxL K) ix_list (pv 0) pe_int (fun _ _ => rfl)) pe_int) (pe_op op_mul (pe_ix (r := rIxL K) ix_list (pv 0) pe_int (fun _ _ => rfl)) pe_int)) pe_int) pa_nil)) pe_int) (pg_sub (pv 0) pe_int set_list))
      (pss_cons (ps_set (i := 4) sc_law_take.nd rfl (by first | exact Or.inl rfl | exact Or.inr rfl) (pe_op op_mod (pe_callTy c_int (by rfl) T.n_int (by decide +kernel) (pa_cons (pe_op op_add (pe_op op_add (pe_op op_mul (pe_ix (r := rIxL K) ix_list (pv 0) pe_int (fun _ _ => rfl)) pe_int) (pe_op op_mul (pe_ix (r := rIxL K) ix_list (pv 0) pe_int (fun _ _ => rfl)) pe_int)) pe_int) pa_nil)) pe_int))
      (pss_one (ps_ret (pe_op op_mod (pe_op op_fdiv (pv 4) pe_int) (pv 1))))))))), ?_⟩
    obtain ⟨hb, p4⟩ := id B
    walk_at "lw go"
    rename_i H1 g1 o1
    refine rd_cut (fun σ' H' => ∃ (p2 g2 s2 : Int) (v : Option V), σ' = [some (.ref b), some (.int many), v, none, none] ∧ BagIs H' b p2 g2 (n + 1) s2 cs ∧ ∀ a, a ≠ b → H' a = H a) ?_ ?_
    · walk_at "lw all"
      · rename_i hlt
        simp only [List.length_set, List.length_cons, List.length_map] at hlt
        obtain ⟨z, hz⟩ := at_cell (a := .int p) (b := .int 0) (c := .int (n + 1)) (d := .int s0) (cs := cs) p4 (by simp only [List.length_cons, List.length_map]; omega)
        refine rd_ixLr g1 hz ?_
        walk_at "lw all"
        · rename_i H2 g2 o2 hc2 H3 g3 o3
          exact ⟨_, _, _, _, rfl, ⟨g3, by omega⟩, fun a ha => (o3 a ha).trans ((o2 a ha).trans (o1 a ha))⟩
        · rename_i H2 g2 o2 hc2 H3 g3 o3
          exact ⟨_, _, _, _, rfl, ⟨g3, by omega⟩, fun a ha => (o3 a ha).trans ((o2 a ha).trans (o1 a ha))⟩
      · exact ⟨_, _, _, _, rfl, ⟨g1, p4⟩, o1⟩
      · exact ⟨_, _, _, _, rfl, ⟨g1, p4⟩, o1⟩
    rintro σ' H2 ⟨p2, g2, s2, v, rfl, B1, h1⟩
    obtain ⟨hb1, p42⟩ := id B1
    clear g1 o1
    walk_at "lw all"
    · rename_i hpos H3 g3 o3
      exact k _ _ (ex_bag B ⟨g3, p42⟩ fun a ha => (o3 a ha).trans (h1 a ha)) (Int.emod_nonneg _ (by omega)) (Int.emod_lt_of_pos _ m0)
    · rename_i hpos H3 g3 o3
      exact k _ _ (ex_bag B ⟨g3, p42⟩ fun a ha => (o3 a ha).trans (h1 a ha)) (Int.emod_nonneg _ (by omega)) (Int.emod_lt_of_pos _ m0)

theorem ok_law_within (T : Tx P w K mg) : FnOk P w K mg base CX0 2 T.f_law_within T.fd_law_within ["bag", "low", "high"] (sp_law_within) := by
  refine T.F_law_within.ok sc_law_within (fun vs H Q E h => ?_) (fun cdv A outer s H vs Q E hr h => ?_)
  · obtain ⟨b, lo, hi, rfl, h1, h2, iv, k⟩ := h
    rfl
  · obtain ⟨b, lo, hi, rfl, h1, h2, iv, k⟩ := h
    refine ⟨_, (pss_cons (ps_set (i := 3) sc_law_within.nd rfl (by first | exact Or.inl rfl | exact Or.inr rfl) (pe_call (ok_law_take T) hr (by rfl) T.g_law_take T.F_law_take.kp T.b_law_take .nil pass0 (pa_cons (pv 0) (pa_cons pe_int pa_nil))))
      (pss_cons (ps_if (pt_cmpR op_eq (pv 3) pe_int (nomark _))
        (pss_one (ps_ret (pv 1)))
        pss_nil)
      (pss_cons (ps_if (pt_cmpR op_eq (pv 3) pe_int (nomark _))
        (pss_one (ps_ret (pv 2)))
        pss_nil)
      (pss_one (ps_ret (pe_op op_add (pv 1) (pe_call (ok_law_take T) hr (by rfl) T.g_law_take T.F_law_take.kp T.b_law_take .nil pass0 (pa_cons (pv 0) (pa_cons (pe_op op_add (pe_op op_sub (pv 2) (pv 1)) pe_int) pa_nil))))))))), ?_⟩
    walk_at "lw all"
    · exact k _ _ (by assumption) (Int.le_refl _) h1
    · exact k _ _ (by assumption) h1 (Int.le_refl _)
    · rename_i r H2 e2 l2 u2
      exact k _ _ (Ex.trans (by assumption) e2) (by omega) (by omega)

theorem ok_law_word (T : Tx P w K mg) : FnOk P w K mg base CX0 2 T.f_law_word T.fd_law_word ["bag"] (sp_law_word) := by
  refine T.F_law_word.ok sc_law_word (fun vs H Q E h => ?_) (fun cdv A outer s H vs Q E hr h => ?_)
  · obtain ⟨b, rfl, iv, k⟩ := h
    rfl
  · obtain ⟨b, rfl, iv, k⟩ := h
    refine ⟨_, (pss_one (ps_ret (pe_ix (r := rIxL K) ix_list (pe_lst (pa_cons pe_int (pa_cons pe_int (pa_cons (pe_call (ok_law_take T) hr (by rfl) T.g_law_take T.F_law_take.kp T.b_law_take .nil pass0 (pa_cons (pv 0) (pa_cons pe_int pa_nil))) (pa_cons (pe_call (ok_law_take T) hr (by rfl) T.g_law_take T.F_law_take.kp T.b_law_take .nil pass0 (pa_cons (pv 0) (pa_cons pe_int pa_nil))) pa_nil))))) (pe_call (ok_law_take T) hr (by rfl) T.g_law_take T.F_law_take.kp T.b_law_take .nil pass0 (pa_cons (pv 0) (pa_cons pe_int pa_nil))) (fun _ _ => rfl)))), ?_⟩
    walk_at "lw all"
    rename_i r1 H1 e1 l1 u1 r2 H2 e2 l2 u2 q H3 f3 e3 h3 r4 H4 e4 l4 u4 v hv
    have e14 := ((e1.trans e2).trans e3).trans e4
    have hv2 : ∃ t : Int, v = .int t ∧ 0 ≤ t ∧ t < 1048576 := by
      simp only [List.mem_cons, List.not_mem_nil, or_false] at hv
      rcases hv with rfl | rfl | rfl | rfl
      · exact ⟨_, rfl, by decide, by decide⟩
      · exact ⟨_, rfl, by decide, by decide⟩
      · exact ⟨_, rfl, by omega, by omega⟩
      · exact ⟨_, rfl, by omega, by omega⟩
    obtain ⟨t, rfl, t0, t1⟩ := hv2
    exact k _ _ e14 t0 t1

theorem ok_law_deeds (T : Tx P w K mg) : FnOk P w K mg base CX0 1 T.f_law_deeds T.fd_law_deeds [] (sp_law_deeds) := by
  refine T.F_law_deeds.ok sc_law_deeds (fun vs H Q E h => ?_) (fun cdv A outer s H vs Q E hr h => ?_)
  · obtain ⟨W, rfl, iv, k⟩ := h
    rfl
  · obtain ⟨W, rfl, iv, k⟩ := h
    refine ⟨_, (pss_cons (ps_set (i := 0) sc_law_deeds.nd rfl (by first | exact Or.inl rfl | exact Or.inr rfl) (pe_lst (pa_cons pe_str (pa_cons pe_str (pa_cons pe_str (pa_cons pe_str (pa_cons pe_str (pa_cons pe_str (pa_cons pe_str (pa_cons pe_str (pa_cons pe_str (pa_cons pe_str (pa_cons pe_str pa_nil)))))))))))))
      (pss_cons (ps_set (i := 0) sc_law_deeds.nd rfl (by first | exact Or.inl rfl | exact Or.inr rfl) (pe_op op_cat (pv 0) (pe_lst (pa_cons pe_str (pa_cons pe_str (pa_cons pe_str (pa_cons pe_str (pa_cons pe_str (pa_cons pe_str (pa_cons pe_str (pa_cons pe_str (pa_cons pe_str pa_nil))))))))))))
      (pss_one (ps_ret (pe_op op_cat (pv 0) (pe_lst (pa_cons pe_str (pa_cons pe_str (pa_cons pe_str pa_nil))))))))), ?_⟩
    walk_at "lw all"
    rename_i l1 H1 f1 e1 h1 l2 H2 f2 e2 h2 l3 H3 f3 e3 h3 l4 H4 f4 e4 h4 l5 H5 f5 e5 h5
    have e14 := ((e1.trans e2).trans e3).trans e4
    refine k _ _ ?_ (e14.trans e5) h5
    cases z : H l5 with
    | none => rfl
    | some o =>
      obtain ⟨o2, z2⟩ := e14.tr z
      rw [f5] at z2; cases z2

theorem ok_law_instruction (T : Tx P w K mg) : FnOk P w K mg base CX0 3 T.f_law_instruction T.fd_law_instruction ["bag", "length"] (sp_law_instruction K) := by
  refine T.F_law_instruction.ok sc_law_instruction (fun vs H Q E h => ?_) (fun cdv A outer s H vs Q E hr h => ?_)
  · obtain ⟨b, n, rfl, n0, n1, iv, k⟩ := h
    rfl
  · obtain ⟨b, n, rfl, n0, n1, iv, k⟩ := h
    refine ⟨_, (pss_cons (ps_set (i := 2) sc_law_instruction.nd rfl (by first | exact Or.inl rfl | exact Or.inr rfl) (pe_call (ok_law_take T) (hr.mono (by decide)) (by rfl) T.g_law_take T.F_law_take.kp T.b_law_take .nil pass0 (pa_cons (pv 0) (pa_cons pe_int pa_nil))))
      (pss_cons (ps_set (i := 3) sc_law_instruction.nd rfl (by first | exact Or.inl rfl | exact Or.inr rfl) (pe_call (ok_law_take T) (hr.mono (by decide)) (by rfl) T.g_law_take T.F_law_take.kp T.b_law_take .nil pass0 (pa_cons (pv 0) (pa_cons pe_int pa_nil))))
      (pss_cons (ps_if (pt_cmpR op_eq (pv 2) pe_int (nomark _))
        (pss_one (ps_ret (pe_tup (pa_cons pe_str (pa_cons (pv 3) (pa_cons (pe_call (ok_law_word T) hr (by rfl) T.g_law_word T.F_law_word.kp T.b_law_word .nil pass0 (pa_cons (pv 0) pa_nil)) pa_nil))))))
        pss_nil)
      (pss_cons (ps_if (pt_cmpR op_lt (pv 2) pe_int (nomark _))
        (pss_one (ps_ret (pe_tup (pa_cons (pe_ix (r := rIxL K) ix_list (pe_lst (pa_cons pe_str (pa_cons pe_str (pa_cons pe_str (pa_cons pe_str (pa_cons pe_str pa_nil)))))) (pe_op op_sub (pv 2) pe_int) (fun _ _ => rfl)) (pa_cons (pv 3) (pa_cons (pe_call (ok_law_take T) (hr.mono (by decide)) (by rfl) T.g_law_take T.F_law_take.kp T.b_law_take .nil pass0 (pa_cons (pv 0) (pa_cons pe_int pa_nil))) pa_nil))))))
        pss_nil)
      (pss_cons (ps_if (pt_cmpR op_eq (pv 2) pe_int (nomark _))
        (pss_one (ps_ret (pe_tup (pa_cons pe_str (pa_cons (pe_call (ok_law_take T) (hr.mono (by decide)) (by rfl) T.g_law_take T.F_law_take.kp T.b_law_take .nil pass0 (pa_cons (pv 0) (pa_cons (pv 1) pa_nil))) pa_nil)))))
        pss_nil)
      (pss_cons (ps_if (pt_cmpR op_eq (pv 2) pe_int (nomark _))
        (pss_one (ps_ret (pe_tup (pa_cons pe_str (pa_cons (pv 3) (pa_cons (pe_call (ok_law_take T) (hr.mono (by decide)) (by rfl) T.g_law_take T.F_law_take.kp T.b_law_take .nil pass0 (pa_cons (pv 0) (pa_cons (pv 1) pa_nil))) pa_nil))))))
        pss_nil)
      (pss_one (ps_ret (pe_tup (pa_cons pe_str (pa_cons (pe_ix (r := rIxL K) ix_list (pe_call0 (ok_law_deeds T) (hr.mono (by decide)) (by rfl) T.g_law_deeds T.F_law_deeds.kp T.b_law_deeds .nil pass0) (pe_call (ok_law_take T) (hr.mono (by decide)) (by rfl) T.g_law_take T.F_law_take.kp T.b_law_take .nil pass0 (pa_cons (pv 0) (pa_cons pe_int pa_nil))) (fun _ _ => rfl)) pa_nil))))))))))), ?_⟩
    walk_at "lw go"
    rename_i kd H1 e1 l1 u1 rg H2 e2 l2 u2
    have e12 := e1.trans e2
    refine ifI ?_ ?_ <;> intro h0
    · walk_at "lw go"
      rename_i w3 H3 e3 l3 u3 t H4 f4 e4 h4
      exact k _ _ [.str "set", .int rg, .int w3] ((e12.trans e3).trans e4) (.tup (.inl h4) (.cons (.str _) (.cons (.int _) (.cons (.int _) .nil)))) (ins_2 in_9.1 ro_9.1 (fit_reg ⟨l2, u2⟩) (fit_word ⟨l3, u3⟩))
    walk_at "lw go"
    refine ifD ?_ ?_ <;> intro h6
    · walk_at "lw go"
      rename_i q H3 f3 e3 h3 v hv r4 H4 e4 l4 u4 t H5 f5 e5 h5
      obtain ⟨nm, hnm, rfl⟩ : ∃ nm ∈ (["move", "add", "sub", "load", "store"] : List Str), v = .str nm := by
        obtain ⟨nm, h1, h2⟩ := List.mem_map.mp (show v ∈ (["move", "add", "sub", "load", "store"] : List Str).map V.str from hv)
        exact ⟨nm, h1, h2.symm⟩
      obtain ⟨g1, g2⟩ := five_9 nm hnm
      exact k _ _ [.str nm, .int rg, .int r4] (((e12.trans e3).trans e4).trans e5) (.tup (.inl h5) (.cons (.str _) (.cons (.int _) (.cons (.int _) .nil)))) (ins_2 g1 g2 (fit_reg ⟨l2, u2⟩) (fit_reg ⟨l4, u4⟩))
    walk_at "lw go"
    refine ifI ?_ ?_ <;> intro h7
    · walk_at "lw go"
      rename_i r3 H3 e3 l3 u3 t H4 f4 e4 h4
      exact k _ _ [.str "jump", .int r3] ((e12.trans e3).trans e4) (.tup (.inl h4) (.cons (.str _) (.cons (.int _) .nil))) (ins_1 in_9.2.1 ro_9.2.1 (fit_tgt ⟨l3, u3⟩))
    walk_at "lw go"
    refine ifI ?_ ?_ <;> intro h8
    · walk_at "lw go"
      rename_i r3 H3 e3 l3 u3 t H4 f4 e4 h4
      exact k _ _ [.str "zero", .int rg, .int r3] ((e12.trans e3).trans e4) (.tup (.inl h4) (.cons (.str _) (.cons (.int _) (.cons (.int _) .nil)))) (ins_2 in_9.2.2.1 ro_9.2.2.1 (fit_reg ⟨l2, u2⟩) (fit_tgt ⟨l3, u3⟩))
    walk_at "lw go"
    refine ⟨WB b, rfl, e2.iv, fun q H3 f3 e3 h3 => ?_⟩
    have h23 : deedsL.length = 23 := rfl
    walk_at "lw go"
    rename_i r4 H4 e4 l4 u4 v hv t H5 f5 e5 h5
    obtain ⟨nm, hnm, rfl⟩ : ∃ nm ∈ deedsL, v = .str nm := by
      obtain ⟨nm, h1, h2⟩ := List.mem_map.mp hv
      exact ⟨nm, h1, h2.symm⟩
    exact k _ _ [.str "deed", .str nm] (((e12.trans e3).trans e4).trans e5) (.tup (.inl h5) (.cons (.str _) (.cons (.str _) .nil))) (ins_1 in_9.2.2.2 ro_9.2.2.2 (fit_deed hnm))

theorem ok_law_program (T : Tx P w K mg) : FnOk P w K mg base CX0 4 T.f_law_program T.fd_law_program ["bag", "most"] (sp_law_program K) := by
  refine T.F_law_program.ok sc_law_program (fun vs H Q E h => ?_) (fun cdv A outer s H vs Q E hr h => ?_)
  · obtain ⟨b, m, rfl, m0, m1, iv, k⟩ := h
    rfl
  · obtain ⟨b, m, rfl, m0, m1, iv, k⟩ := h
    refine ⟨_, (pss_cons (ps_set (i := 2) sc_law_program.nd rfl (by first | exact Or.inl rfl | exact Or.inr rfl) (pe_call (ok_law_take T) (hr.mono (by decide)) (by rfl) T.g_law_take T.F_law_take.kp T.b_law_take .nil pass0 (pa_cons (pv 0) (pa_cons (pe_op op_add (pv 1) pe_int) pa_nil))))
      (pss_one (ps_ret (pe_callTy (r := Lw.rTupO K) c_tuple (by rfl) T.n_tuple (by decide +kernel) (pa_cons (pe_lc (own := [("k", 3)]) rfl sc_law_program.nd (pi_range1 rfl T.n_range (pa_cons (pv 2) pa_nil)) (blkOk_by (own := [("k", 3)]) (N := N_law_program) (sc := (defScope s_law_program)) (by decide +kernel)) (fun _ _ _ _ _ => (pg_name (i := 3) sc_law_program.nd rfl (by first | exact Or.inl rfl | exact Or.inr rfl))) (fun _ _ _ _ _ => pts_nil) (fun _ _ _ _ _ => (pe_call (ok_law_instruction T) hr (by rfl) T.g_law_instruction T.F_law_instruction.kp T.b_law_instruction .nil pass0 (pa_cons (pv 0) (pa_cons (pv 2) pa_nil))))) pa_nil))))), ?_⟩
    walk_at "lw go"
    rename_i r H1 e1 l1 u1
    refine lc_w (W := WB b) (X := fun i x => x = .int (0 + (i : Nat))) (n := r.toNat) walk_range (fun i ys Hh => ∃ ds : List PyData, DWs K (WB b) Hh ys ds ∧ ds.length = i ∧ ∀ d ∈ ds, insD d r = true ∧ noL d = true) e1.iv (by omega) (fun _ _ => trivial) (fun _ _ _ _ e ⟨ds, q, h⟩ => ⟨ds, q.ex e, h⟩) ⟨[], .nil, rfl, fun _ h => nomatch h⟩ ?_ ?_
    · rintro i x D ys H' QV QN hn rfl hD hDa e3 ⟨ds, q, hl, hb⟩ _ qv qn
      walk_at "lw gi"
      refine ⟨b, r, rfl, by omega, by omega, e3.iv, fun t H4 d e4 w4 hi => ?_⟩
      have nl : noL (.tuple d) = true := by rw [noL]; exact insL_noL (show insL d r = true from hi)
      refine qv _ _ e4 ⟨ds ++ [.tuple d], DWs.snoc (q.ex (hide_ex e4 hDa)) (DW.hide w4 nl e4.iv (e4.at_ hDa)), by rw [List.length_append, hl]; rfl, fun z hz => ?_⟩
      rcases List.mem_append.mp hz with hz | hz
      · exact hb z hz
      · rw [List.mem_singleton.mp hz]; exact ⟨hi, nl⟩
    rintro D H5 ys hD e5 h5 ⟨ds, q, hl, hb⟩ _
    walk_at "lw gi"
    rename_i t H6 f6 e6 h6
    exact k t H6 ds ((e1.trans e5).trans e6) (.tup (.inl h6) (q.ex e6)) (prog_ok (fun d hd => by rw [hl, show ((r.toNat : Nat) : Int) = r by omega]; exact (hb d hd).1) (by omega)) (noLs_all fun d hd => (hb d hd).2)

theorem ok_law_same_at0 (T : Tx P w K mg) : FnOk P w K mg base CX0 1 T.f_law_same T.fd_law_same ["told", "due"] (sp_law_same_at0 K) := by
  refine T.F_law_same.ok sc_law_same (fun vs H Q E h => ?_) (fun cdv A outer s H vs Q E hr h => ?_)
  · obtain ⟨W, v, u, d, rfl, h1, h2, hf, k⟩ := h
    rfl
  · obtain ⟨W, v, u, d, rfl, h1, h2, hf, k⟩ := h
    refine ⟨_, (pss_cons (ps_if (pt_cmpR o_isN (pv 1) pe_non (nomark _))
        (pss_one (ps_ret (pe_cmpR o_isN (pv 0) pe_non (nomark _))))
        pss_nil)
      (pss_cons (ps_if (pt_val (pe_callB (r := rIsi K) call_isi (by rfl) T.n_isinstance (by decide +kernel) (pa_cons (pv 1) (pa_cons (pe_bltn (v := .ty "tuple") rfl T.n_tuple (by decide +kernel) rfl) pa_nil))))
        (pss_cons (ps_if (PW.pt (pw_or (pt_not (pt_val (pe_callB (r := rIsi K) call_isi (by rfl) T.n_isinstance (by decide +kernel) (pa_cons (pv 0) (pa_cons (pe_bltn (v := .ty "tuple") rfl T.n_tuple (by decide +kernel) rfl) pa_nil))))) (pw_or1 (pt_cmpR op_ne (pe_callB (r := Lw.rLen K) c_len (by rfl) T.n_len PySem.boot_len (pa_cons (pv 0) pa_nil)) (pe_callB (r := Lw.rLen K) c_len (by rfl) T.n_len PySem.boot_len (pa_cons (pv 1) pa_nil)) (nomark _)))))
          (pss_one (ps_ret pe_bl))
          pss_nil)
        (pss_cons (ps_for PassesOwn.never rfl (pi_range1 rfl T.n_range (pa_cons (pe_callB (r := Lw.rLen K) c_len (by rfl) T.n_len PySem.boot_len (pa_cons (pv 1) pa_nil)) pa_nil)) (pg_name (i := 2) sc_law_same.nd rfl (by first | exact Or.inl rfl | exact Or.inr rfl))
          (pss_one (ps_if (pt_not (pt_val pe_never))
            (pss_one (ps_ret pe_bl))
            pss_nil)))
        (pss_one (ps_ret pe_bl))))
        pss_nil)
      (pss_cons (ps_if (pt_val (pe_callB (r := rIsi K) call_isi (by rfl) T.n_isinstance (by decide +kernel) (pa_cons (pv 1) (pa_cons (pe_bltn (v := .ty "str") rfl T.n_str (by decide +kernel) rfl) pa_nil))))
        (pss_one (ps_ret (pe_and (pe_callB (r := rIsi K) call_isi (by rfl) T.n_isinstance (by decide +kernel) (pa_cons (pv 0) (pa_cons (pe_bltn (v := .ty "str") rfl T.n_str (by decide +kernel) rfl) pa_nil))) (pe_one (pe_cmpR op_eq (pv 0) (pv 1) (nomark _))))))
        pss_nil)
      (pss_one (ps_ret (pe_and (pe_callB (r := rIsi K) call_isi (by rfl) T.n_isinstance (by decide +kernel) (pa_cons (pv 0) (pa_cons (pe_bltn (v := .ty "int") rfl T.n_int (by decide +kernel) rfl) pa_nil))) (pe_and (pe_not (pe_callB (r := rIsi K) call_isi (by rfl) T.n_isinstance (by decide +kernel) (pa_cons (pv 0) (pa_cons (pe_bltn (v := .ty "bool") rfl T.n_bool (by decide +kernel) rfl) pa_nil)))) (pe_one (pe_cmpR op_eq (pv 0) (pv 1) (nomark _)))))))))), ?_⟩
    walk_at "lw go"
    cases d with
    | none =>
      obtain rfl := h1.nonE
      obtain rfl := h2.nonE
      refine ifD_yes rfl ?_
      walk_at "lw gi"
      exact cast_bl k (decide_eq_true rfl).symm
    | bool b => cases hf
    | list ds => cases hf
    | dict ds => cases hf
    | int i =>
      obtain rfl := h1.intE
      obtain rfl := h2.intE
      refine ifD_no (fun z => nomatch z) ?_
      repeat (first | walk_at "lw rd" | with_reducible refine iteT ?_ | with_reducible refine iteF ?_ | refine ifB_yes rfl ?_ | refine ifB_no rfl ?_ | refine ifNB_yes rfl ?_ | refine ifNB_no rfl ?_)
      exact cast_bl k (by simp)
    | str i =>
      obtain rfl := h1.strE
      obtain rfl := h2.strE
      refine ifD_no (fun z => nomatch z) ?_
      repeat (first | walk_at "lw rd" | with_reducible refine iteT ?_ | with_reducible refine iteF ?_ | refine ifB_yes rfl ?_ | refine ifB_no rfl ?_ | refine ifNB_yes rfl ?_ | refine ifNB_no rfl ?_)
      exact cast_bl k (by simp)
    | tuple ds => cases hf
theorem okq_law_same_at0 (T : Tx P w K mg) : FnQ P w K mg base CX0 1 T.f_law_same T.fd_law_same ["told", "due"] (sp_law_same_at0 K) := by
  refine Lw.Fun.okQ T.F_law_same sc_law_same (fun vs H Q E h => ?_) (fun cdv A outer s H vs Q E hr h => ?_)
  · obtain ⟨W, v, u, d, rfl, h1, h2, hf, k⟩ := h
    rfl
  · obtain ⟨W, v, u, d, rfl, h1, h2, hf, k⟩ := h
    refine ⟨_, (pss_cons (ps_if (pt_cmpR o_isN (pv 1) pe_non (nomark _))
        (pss_one (ps_ret (pe_cmpR o_isN (pv 0) pe_non (nomark _))))
        pss_nil)
      (pss_cons (ps_if (pt_val (pe_callB (r := rIsi K) call_isi (by rfl) T.n_isinstance (by decide +kernel) (pa_cons (pv 1) (pa_cons (pe_bltn (v := .ty "tuple") rfl T.n_tuple (by decide +kernel) rfl) pa_nil))))
        (pss_cons (ps_if (PW.pt (pw_or (pt_not (pt_val (pe_callB (r := rIsi K) call_isi (by rfl) T.n_isinstance (by decide +kernel) (pa_cons (pv 0) (pa_cons (pe_bltn (v := .ty "tuple") rfl T.n_tuple (by decide +kernel) rfl) pa_nil))))) (pw_or1 (pt_cmpR op_ne (pe_callB (r := Lw.rLen K) c_len (by rfl) T.n_len PySem.boot_len (pa_cons (pv 0) pa_nil)) (pe_callB (r := Lw.rLen K) c_len (by rfl) T.n_len PySem.boot_len (pa_cons (pv 1) pa_nil)) (nomark _)))))
          (pss_one (ps_ret pe_bl))
          pss_nil)
        (pss_cons ps_never
        (pss_one (ps_ret pe_bl))))
        pss_nil)
      (pss_cons (ps_if (pt_val (pe_callB (r := rIsi K) call_isi (by rfl) T.n_isinstance (by decide +kernel) (pa_cons (pv 1) (pa_cons (pe_bltn (v := .ty "str") rfl T.n_str (by decide +kernel) rfl) pa_nil))))
        (pss_one (ps_ret (pe_and (pe_callB (r := rIsi K) call_isi (by rfl) T.n_isinstance (by decide +kernel) (pa_cons (pv 0) (pa_cons (pe_bltn (v := .ty "str") rfl T.n_str (by decide +kernel) rfl) pa_nil))) (pe_one (pe_cmpR op_eq (pv 0) (pv 1) (nomark _))))))
        pss_nil)
      (pss_one (ps_ret (pe_and (pe_callB (r := rIsi K) call_isi (by rfl) T.n_isinstance (by decide +kernel) (pa_cons (pv 0) (pa_cons (pe_bltn (v := .ty "int") rfl T.n_int (by decide +kernel) rfl) pa_nil))) (pe_and (pe_not (pe_callB (r := rIsi K) call_isi (by rfl) T.n_isinstance (by decide +kernel) (pa_cons (pv 0) (pa_cons (pe_bltn (v := .ty "bool") rfl T.n_bool (by decide +kernel) rfl) pa_nil)))) (pe_one (pe_cmpR op_eq (pv 0) (pv 1) (nomark _)))))))))), ?_⟩
    walk_at "lw go"
    cases d with
    | none =>
      obtain rfl := h1.nonE
      obtain rfl := h2.nonE
      refine ifD_yes rfl ?_
      walk_at "lw gi"
      exact cast_bl k (decide_eq_true rfl).symm
    | bool b => cases hf
    | list ds => cases hf
    | dict ds => cases hf
    | int i =>
      obtain rfl := h1.intE
      obtain rfl := h2.intE
      refine ifD_no (fun z => nomatch z) ?_
      repeat (first | walk_at "lw rd" | with_reducible refine iteT ?_ | with_reducible refine iteF ?_ | refine ifB_yes rfl ?_ | refine ifB_no rfl ?_ | refine ifNB_yes rfl ?_ | refine ifNB_no rfl ?_)
      exact cast_bl k (by simp)
    | str i =>
      obtain rfl := h1.strE
      obtain rfl := h2.strE
      refine ifD_no (fun z => nomatch z) ?_
      repeat (first | walk_at "lw rd" | with_reducible refine iteT ?_ | with_reducible refine iteF ?_ | refine ifB_yes rfl ?_ | refine ifB_no rfl ?_ | refine ifNB_yes rfl ?_ | refine ifNB_no rfl ?_)
      exact cast_bl k (by simp)
    | tuple ds => cases hf

theorem ok_law_same_at1 (T : Tx P w K mg) : FnOk P w K mg base CX0 2 T.f_law_same T.fd_law_same ["told", "due"] (sp_law_same_at1 K) := by
  refine T.F_law_same.ok sc_law_same (fun vs H Q E h => ?_) (fun cdv A outer s H vs Q E hr h => ?_)
  · obtain ⟨W, v, u, d, rfl, h1, h2, hf, k⟩ := h
    rfl
  · obtain ⟨W, v, u, d, rfl, h1, h2, hf, k⟩ := h
    refine ⟨_, (pss_cons (ps_if (pt_cmpR o_isN (pv 1) pe_non (nomark _))
        (pss_one (ps_ret (pe_cmpR o_isN (pv 0) pe_non (nomark _))))
        pss_nil)
      (pss_cons (ps_if (pt_val (pe_callB (r := rIsi K) call_isi (by rfl) T.n_isinstance (by decide +kernel) (pa_cons (pv 1) (pa_cons (pe_bltn (v := .ty "tuple") rfl T.n_tuple (by decide +kernel) rfl) pa_nil))))
        (pss_cons (ps_if (PW.pt (pw_or (pt_not (pt_val (pe_callB (r := rIsi K) call_isi (by rfl) T.n_isinstance (by decide +kernel) (pa_cons (pv 0) (pa_cons (pe_bltn (v := .ty "tuple") rfl T.n_tuple (by decide +kernel) rfl) pa_nil))))) (pw_or1 (pt_cmpR op_ne (pe_callB (r := Lw.rLen K) c_len (by rfl) T.n_len PySem.boot_len (pa_cons (pv 0) pa_nil)) (pe_callB (r := Lw.rLen K) c_len (by rfl) T.n_len PySem.boot_len (pa_cons (pv 1) pa_nil)) (nomark _)))))
          (pss_one (ps_ret pe_bl))
          pss_nil)
        (pss_cons (ps_for PassesOwn.never rfl (pi_range1 rfl T.n_range (pa_cons (pe_callB (r := Lw.rLen K) c_len (by rfl) T.n_len PySem.boot_len (pa_cons (pv 1) pa_nil)) pa_nil)) (pg_name (i := 2) sc_law_same.nd rfl (by first | exact Or.inl rfl | exact Or.inr rfl))
          (pss_one (ps_if (pt_not (pt_val (pe_call (ok_law_same_at0 T) hr (by rfl) T.g_law_same T.F_law_same.kp T.b_law_same .nil pass0 (pa_cons (pe_ix (r := rIx K) ix_seq (pv 0) (pv 2) (fun _ _ => rfl)) (pa_cons (pe_ix (r := rIx K) ix_seq (pv 1) (pv 2) (fun _ _ => rfl)) pa_nil)))))
            (pss_one (ps_ret pe_bl))
            pss_nil)))
        (pss_one (ps_ret pe_bl))))
        pss_nil)
      (pss_cons (ps_if (pt_val (pe_callB (r := rIsi K) call_isi (by rfl) T.n_isinstance (by decide +kernel) (pa_cons (pv 1) (pa_cons (pe_bltn (v := .ty "str") rfl T.n_str (by decide +kernel) rfl) pa_nil))))
        (pss_one (ps_ret (pe_and (pe_callB (r := rIsi K) call_isi (by rfl) T.n_isinstance (by decide +kernel) (pa_cons (pv 0) (pa_cons (pe_bltn (v := .ty "str") rfl T.n_str (by decide +kernel) rfl) pa_nil))) (pe_one (pe_cmpR op_eq (pv 0) (pv 1) (nomark _))))))
        pss_nil)
      (pss_one (ps_ret (pe_and (pe_callB (r := rIsi K) call_isi (by rfl) T.n_isinstance (by decide +kernel) (pa_cons (pv 0) (pa_cons (pe_bltn (v := .ty "int") rfl T.n_int (by decide +kernel) rfl) pa_nil))) (pe_and (pe_not (pe_callB (r := rIsi K) call_isi (by rfl) T.n_isinstance (by decide +kernel) (pa_cons (pv 0) (pa_cons (pe_bltn (v := .ty "bool") rfl T.n_bool (by decide +kernel) rfl) pa_nil)))) (pe_one (pe_cmpR op_eq (pv 0) (pv 1) (nomark _)))))))))), ?_⟩
    walk_at "lw go"
    cases d with
    | none =>
      obtain rfl := h1.nonE
      obtain rfl := h2.nonE
      refine ifD_yes rfl ?_
      walk_at "lw gi"
      exact cast_bl k (decide_eq_true rfl).symm
    | bool b => cases hf
    | list ds => cases hf
    | dict ds => cases hf
    | int i =>
      obtain rfl := h1.intE
      obtain rfl := h2.intE
      refine ifD_no (fun z => nomatch z) ?_
      repeat (first | walk_at "lw rd" | with_reducible refine iteT ?_ | with_reducible refine iteF ?_ | refine ifB_yes rfl ?_ | refine ifB_no rfl ?_ | refine ifNB_yes rfl ?_ | refine ifNB_no rfl ?_)
      exact cast_bl k (by simp)
    | str i =>
      obtain rfl := h1.strE
      obtain rfl := h2.strE
      refine ifD_no (fun z => nomatch z) ?_
      repeat (first | walk_at "lw rd" | with_reducible refine iteT ?_ | with_reducible refine iteF ?_ | refine ifB_yes rfl ?_ | refine ifB_no rfl ?_ | refine ifNB_yes rfl ?_ | refine ifNB_no rfl ?_)
      exact cast_bl k (by simp)
    | tuple ds =>
      obtain ⟨a1, xs, rfl, t1, w1⟩ := id h1.tupE
      obtain ⟨a2, ys, rfl, t2, w2⟩ := id h2.tupE
      rw [flatD, Bool.and_eq_true] at hf
      have hl := of_decide_eq_true hf.2
      have ll : xs.length = ys.length := w1.length.trans w2.length.symm
      have ly := w2.length
      have s1 : SqB K W H a1 xs := .inr t1
      have s2 : SqB K W H a2 ys := .inr t2
      refine ifD_no (fun z => nomatch z) ?_
      repeat (first | walk_at "lw rd" | with_reducible refine iteT ?_ | with_reducible refine iteF ?_ | refine ifB_yes rfl ?_ | refine ifB_no rfl ?_ | refine ifNB_yes rfl ?_ | refine ifNB_no rfl ?_)
      rw [ll]
      refine ifIn_no rfl ?_
      walk_at "lw gi"
      refine for_r (fun i σ' H' => ∃ v3, σ' = [some (.ref a1), some (.ref a2), v3] ∧ H' = H) ⟨_, rfl, rfl⟩ ?_ ?_
      · rintro i σ' H' hi ⟨v3, rfl, rfl⟩
        have hi2 : i < ds.length := by omega
        have hd := List.getElem?_eq_getElem hi2
        obtain ⟨x, hx, dx⟩ := w1.getR hd
        obtain ⟨y, hy, dy⟩ := w2.getR hd
        have ax : atI xs (0 + (i : Int)) = some x := at_in (by omega) (by rw [show (0 + (i : Int)).toNat = i by omega]; exact hx)
        have ay : atI ys (0 + (i : Int)) = some y := at_in (by omega) (by rw [show (0 + (i : Int)).toNat = i by omega]; exact hy)
        walk_at "lw gi"
        refine cl_law_same (W := W) dx dy (List.all_eq_true.mp hf.1 _ (List.getElem_mem hi2)) ?_
        walk_at "lw gi"
        exact ⟨_, rfl, rfl⟩
      · rintro σ' H' ⟨v3, rfl, rfl⟩
        walk_at "lw gi"
        exact k

theorem ok_law_same_at2 (T : Tx P w K mg) : FnOk P w K mg base CX0 3 T.f_law_same T.fd_law_same ["told", "due"] (sp_law_same_at2 K) := by
  refine T.F_law_same.ok sc_law_same (fun vs H Q E h => ?_) (fun cdv A outer s H vs Q E hr h => ?_)
  · obtain ⟨W, v, u, d, rfl, h1, h2, hf, k⟩ := h
    rfl
  · obtain ⟨W, v, u, d, rfl, h1, h2, hf, k⟩ := h
    refine ⟨_, (pss_cons (ps_if (pt_cmpR o_isN (pv 1) pe_non (nomark _))
        (pss_one (ps_ret (pe_cmpR o_isN (pv 0) pe_non (nomark _))))
        pss_nil)
      (pss_cons (ps_if (pt_val (pe_callB (r := rIsi K) call_isi (by rfl) T.n_isinstance (by decide +kernel) (pa_cons (pv 1) (pa_cons (pe_bltn (v := .ty "tuple") rfl T.n_tuple (by decide +kernel) rfl) pa_nil))))
        (pss_cons (ps_if (PW.pt (pw_or (pt_not (pt_val (pe_callB (r := rIsi K) call_isi (by rfl) T.n_isinstance (by decide +kernel) (pa_cons (pv 0) (pa_cons (pe_bltn (v := .ty "tuple") rfl T.n_tuple (by decide +kernel) rfl) pa_nil))))) (pw_or1 (pt_cmpR op_ne (pe_callB (r := Lw.rLen K) c_len (by rfl) T.n_len PySem.boot_len (pa_cons (pv 0) pa_nil)) (pe_callB (r := Lw.rLen K) c_len (by rfl) T.n_len PySem.boot_len (pa_cons (pv 1) pa_nil)) (nomark _)))))
          (pss_one (ps_ret pe_bl))
          pss_nil)
        (pss_cons (ps_for PassesOwn.never rfl (pi_range1 rfl T.n_range (pa_cons (pe_callB (r := Lw.rLen K) c_len (by rfl) T.n_len PySem.boot_len (pa_cons (pv 1) pa_nil)) pa_nil)) (pg_name (i := 2) sc_law_same.nd rfl (by first | exact Or.inl rfl | exact Or.inr rfl))
          (pss_one (ps_if (pt_not (pt_val (pe_call (ok_law_same_at1 T) hr (by rfl) T.g_law_same T.F_law_same.kp T.b_law_same .nil pass0 (pa_cons (pe_ix (r := rIx K) ix_seq (pv 0) (pv 2) (fun _ _ => rfl)) (pa_cons (pe_ix (r := rIx K) ix_seq (pv 1) (pv 2) (fun _ _ => rfl)) pa_nil)))))
            (pss_one (ps_ret pe_bl))
            pss_nil)))
        (pss_one (ps_ret pe_bl))))
        pss_nil)
      (pss_cons (ps_if (pt_val (pe_callB (r := rIsi K) call_isi (by rfl) T.n_isinstance (by decide +kernel) (pa_cons (pv 1) (pa_cons (pe_bltn (v := .ty "str") rfl T.n_str (by decide +kernel) rfl) pa_nil))))
        (pss_one (ps_ret (pe_and (pe_callB (r := rIsi K) call_isi (by rfl) T.n_isinstance (by decide +kernel) (pa_cons (pv 0) (pa_cons (pe_bltn (v := .ty "str") rfl T.n_str (by decide +kernel) rfl) pa_nil))) (pe_one (pe_cmpR op_eq (pv 0) (pv 1) (nomark _))))))
        pss_nil)
      (pss_one (ps_ret (pe_and (pe_callB (r := rIsi K) call_isi (by rfl) T.n_isinstance (by decide +kernel) (pa_cons (pv 0) (pa_cons (pe_bltn (v := .ty "int") rfl T.n_int (by decide +kernel) rfl) pa_nil))) (pe_and (pe_not (pe_callB (r := rIsi K) call_isi (by rfl) T.n_isinstance (by decide +kernel) (pa_cons (pv 0) (pa_cons (pe_bltn (v := .ty "bool") rfl T.n_bool (by decide +kernel) rfl) pa_nil)))) (pe_one (pe_cmpR op_eq (pv 0) (pv 1) (nomark _)))))))))), ?_⟩
    walk_at "lw go"
    cases d with
    | none =>
      obtain rfl := h1.nonE
      obtain rfl := h2.nonE
      refine ifD_yes rfl ?_
      walk_at "lw gi"
      exact cast_bl k (decide_eq_true rfl).symm
    | bool b => cases hf
    | list ds => cases hf
    | dict ds => cases hf
    | int i =>
      obtain rfl := h1.intE
      obtain rfl := h2.intE
      refine ifD_no (fun z => nomatch z) ?_
      repeat (first | walk_at "lw rd" | with_reducible refine iteT ?_ | with_reducible refine iteF ?_ | refine ifB_yes rfl ?_ | refine ifB_no rfl ?_ | refine ifNB_yes rfl ?_ | refine ifNB_no rfl ?_)
      exact cast_bl k (by simp)
    | str i =>
      obtain rfl := h1.strE
      obtain rfl := h2.strE
      refine ifD_no (fun z => nomatch z) ?_
      repeat (first | walk_at "lw rd" | with_reducible refine iteT ?_ | with_reducible refine iteF ?_ | refine ifB_yes rfl ?_ | refine ifB_no rfl ?_ | refine ifNB_yes rfl ?_ | refine ifNB_no rfl ?_)
      exact cast_bl k (by simp)
    | tuple ds =>
      obtain ⟨a1, xs, rfl, t1, w1⟩ := id h1.tupE
      obtain ⟨a2, ys, rfl, t2, w2⟩ := id h2.tupE
      rw [flatD, Bool.and_eq_true] at hf
      have hl := of_decide_eq_true hf.2
      have ll : xs.length = ys.length := w1.length.trans w2.length.symm
      have ly := w2.length
      have s1 : SqB K W H a1 xs := .inr t1
      have s2 : SqB K W H a2 ys := .inr t2
      refine ifD_no (fun z => nomatch z) ?_
      repeat (first | walk_at "lw rd" | with_reducible refine iteT ?_ | with_reducible refine iteF ?_ | refine ifB_yes rfl ?_ | refine ifB_no rfl ?_ | refine ifNB_yes rfl ?_ | refine ifNB_no rfl ?_)
      rw [ll]
      refine ifIn_no rfl ?_
      walk_at "lw gi"
      refine for_r (fun i σ' H' => ∃ v3, σ' = [some (.ref a1), some (.ref a2), v3] ∧ H' = H) ⟨_, rfl, rfl⟩ ?_ ?_
      · rintro i σ' H' hi ⟨v3, rfl, rfl⟩
        have hi2 : i < ds.length := by omega
        have hd := List.getElem?_eq_getElem hi2
        obtain ⟨x, hx, dx⟩ := w1.getR hd
        obtain ⟨y, hy, dy⟩ := w2.getR hd
        have ax : atI xs (0 + (i : Int)) = some x := at_in (by omega) (by rw [show (0 + (i : Int)).toNat = i by omega]; exact hx)
        have ay : atI ys (0 + (i : Int)) = some y := at_in (by omega) (by rw [show (0 + (i : Int)).toNat = i by omega]; exact hy)
        walk_at "lw gi"
        refine cl_law_same (W := W) dx dy (List.all_eq_true.mp hf.1 _ (List.getElem_mem hi2)) ?_
        walk_at "lw gi"
        exact ⟨_, rfl, rfl⟩
      · rintro σ' H' ⟨v3, rfl, rfl⟩
        walk_at "lw gi"
        exact k

theorem ok_law_price (T : Tx P w K mg) : FnOk P w K mg base CX0 1 T.f_law_price T.fd_law_price ["name", "sizes"] (sp_law_price) := by
  refine T.F_law_price.ok sc_law_price (fun vs H Q E h => ?_) (fun cdv A outer s H vs Q E hr h => ?_)
  · obtain ⟨W, nm, p, n, s0, w0, rfl, iv, hp, so, hm, k⟩ := h
    rfl
  · obtain ⟨W, nm, p, n, s0, w0, rfl, iv, hp, so, hm, k⟩ := h
    refine ⟨_, (pss_cons (ps_set (i := 2) sc_law_price.nd rfl (by first | exact Or.inl rfl | exact Or.inr rfl) (pe_op op_add (pe_op op_mul (pe_ix (r := rIxL K) ix_list (pv 1) pe_int (fun _ _ => rfl)) (pe_ix (r := rIxL K) ix_list (pv 1) pe_int (fun _ _ => rfl))) (pe_op op_mul (pe_ix (r := rIxL K) ix_list (pv 1) pe_int (fun _ _ => rfl)) (pe_ix (r := rIxL K) ix_list (pv 1) pe_int (fun _ _ => rfl)))))
      (pss_cons (ps_if (pt_cmpR (r := rIn K false) op_in_seq (pv 0) (pe_lst (pa_cons pe_str (pa_cons pe_str pa_nil))) (by rfl))
        (pss_one (ps_ret pe_int))
        pss_nil)
      (pss_cons (ps_if (pt_cmpR (r := rIn K false) op_in_seq (pv 0) (pe_lst (pa_cons pe_str (pa_cons pe_str (pa_cons pe_str (pa_cons pe_str (pa_cons pe_str (pa_cons pe_str pa_nil))))))) (by rfl))
        (pss_one (ps_ret pe_int))
        pss_nil)
      (pss_cons (ps_if (pt_cmpR (r := rIn K false) op_in_seq (pv 0) (pe_lst (pa_cons pe_str (pa_cons pe_str (pa_cons pe_str (pa_cons pe_str (pa_cons pe_str (pa_cons pe_str (pa_cons pe_str pa_nil)))))))) (by rfl))
        (pss_one (ps_ret pe_int))
        pss_nil)
      (pss_cons (ps_if (pt_cmpR (r := rIn K false) op_in_seq (pv 0) (pe_lst (pa_cons pe_str (pa_cons pe_str (pa_cons pe_str (pa_cons pe_str pa_nil))))) (by rfl))
        (pss_one (ps_ret pe_int))
        pss_nil)
      (pss_one (ps_ret (pe_dget (hu_of hr) (pe_disp (pps_cons pe_str (pe_op op_add (pe_ix (r := rIxL K) ix_list (pv 1) pe_int (fun _ _ => rfl)) pe_int) (pps_cons pe_str pe_int (pps_cons pe_str (pv 2) (pps_cons pe_str (pe_op op_add (pv 2) pe_int) pps_nil)))) (by rfl) (by rfl) (fun z => nomatch z) (Nat.le_of_ble_eq_true rfl)) (pv 0) (fun _ _ => rfl))))))))), ?_⟩
    have zz := so.h
    have b1 : -(2 ^ 64) < n ∧ n < 2 ^ 64 := ⟨by omega, by omega⟩
    walk_at "lw go"
    rw [show [V.str "reply", V.str "call"] = (["reply", "call"] : List Str).map V.str from rfl, inV_str]
    refine ifD ?_ ?_ <;> intro h1
    · rw [pr_5 h1] at k
      walk_at "lw gi"
      exact k _ (by walk_at "lw ex")
    walk_at "lw gi"
    rw [show [V.str "until", V.str "clock", V.str "look", V.str "await", V.str "tryawait", V.str "ack"] = (["until", "clock", "look", "await", "tryawait", "ack"] : List Str).map V.str from rfl, inV_str]
    refine ifD ?_ ?_ <;> intro h2
    · rw [pr_1 h2] at k
      walk_at "lw gi"
      exact k _ (by walk_at "lw ex")
    walk_at "lw gi"
    rw [show [V.str "halt", V.str "copy", V.str "map", V.str "unmap", V.str "ring", V.str "give", V.str "pull"] = (["halt", "copy", "map", "unmap", "ring", "give", "pull"] : List Str).map V.str from rfl, inV_str]
    refine ifD ?_ ?_ <;> intro h3
    · rw [pr_2 h3] at k
      walk_at "lw gi"
      exact k _ (by walk_at "lw ex")
    walk_at "lw gi"
    rw [show [V.str "send", V.str "take", V.str "trysend", V.str "trytake"] = (["send", "take", "trysend", "trytake"] : List Str).map V.str from rfl, inV_str]
    refine ifD ?_ ?_ <;> intro h4
    · rw [pr_6 h4] at k
      walk_at "lw gi"
      exact k _ (by walk_at "lw ex")
    walk_at "lw gi"
    obtain h | h | h | h := pr_rest hm h1 h2 h3 h4
    all_goals
      subst h
      first | rw [pr_x.1] at k | rw [pr_x.2.1] at k | rw [pr_x.2.2.1] at k | rw [pr_x.2.2.2] at k
      refine rd_dget (rd_disp (by walk_at "lw iv") fun p2 H2 f2 e2 h2 => ?_)
      have hp2 := e2.at_ (show At W _ p _ by walk_at "lw at")
      refine rd_pp ?_
      walk_at "lw gi"
      refine rd_pp ?_
      walk_at "lw gi"
      refine rd_pp ?_
      walk_at "lw gi"
      refine rd_pp ?_
      walk_at "lw gi"
      refine rd_pn ?_
      refine rd_dput_new (kvs := [(.inr "drop", .int (w0 + 2)), (.inr "claim", .int 10), (.inr "revoke", .int (n * s0 + n * w0)), (.inr "free", .int (n * s0 + n * w0 + 1))]) e2 f2 h2 rfl (Nat.le_of_ble_eq_true rfl) fun H3 e3 h3 => ?_
      walk_at "lw gi"
      refine rd_dgetX h3 (by rfl) ?_
      exact k _ (by walk_at "lw ex")

theorem ok_law_sizes (T : Tx P w K mg) : FnOk P w K mg base CX0 3 T.f_law_sizes T.fd_law_sizes ["bag"] (sp_law_sizes) := by
  refine T.F_law_sizes.ok sc_law_sizes (fun vs H Q E h => ?_) (fun cdv A outer s H vs Q E hr h => ?_)
  · obtain ⟨b, rfl, iv, k⟩ := h
    rfl
  · obtain ⟨b, rfl, iv, k⟩ := h
    refine ⟨_, (pss_cons (ps_set (i := 1) sc_law_sizes.nd rfl (by first | exact Or.inl rfl | exact Or.inr rfl) (pe_op op_add pe_int (pe_call (ok_law_take T) (hr.mono (by decide)) (by rfl) T.g_law_take T.F_law_take.kp T.b_law_take .nil pass0 (pa_cons (pv 0) (pa_cons pe_int pa_nil)))))
      (pss_one (ps_ret (pe_lst (pa_cons (pv 1) (pa_cons (pe_call (ok_law_within T) hr (by rfl) T.g_law_within T.F_law_within.kp T.b_law_within .nil pass0 (pa_cons (pv 0) (pa_cons (pe_op op_add (pv 1) pe_int) (pa_cons pe_int pa_nil)))) (pa_cons (pe_call (ok_law_within T) hr (by rfl) T.g_law_within T.F_law_within.kp T.b_law_within .nil pass0 (pa_cons (pv 0) (pa_cons pe_int (pa_cons pe_int pa_nil)))) pa_nil))))))), ?_⟩
    walk_at "lw all"
    rename_i c H1 e1 l1 u1 s2 H2 e2 l2 u2 w3 H3 e3 l3 u3 q H4 f4 e4 h4
    exact k _ _ _ _ _ (((e1.trans e2).trans e3).trans e4) h4 ⟨by omega⟩

theorem ok_law_setup (T : Tx P w K mg) : FnOk P w K mg base CX0 8 T.f_law_setup T.fd_law_setup ["bag", "sizes", "shift"] (sp_law_setup K T.c_Setup) := by
  refine T.F_law_setup.ok sc_law_setup (fun vs H Q E h => ?_) (fun cdv A outer s H vs Q E hr h => ?_)
  · obtain ⟨b, p, n, s0, w0, sh, rfl, iv, hp, so, sh0, sh1, k⟩ := h
    rfl
  · obtain ⟨b, p, n, s0, w0, sh, rfl, iv, hp, so, sh0, sh1, k⟩ := h
    refine ⟨_, (pss_cons (ps_set (i := 3) sc_law_setup.nd rfl (by first | exact Or.inl rfl | exact Or.inr rfl) (pe_ix (r := rIxL K) ix_list (pv 1) pe_int (fun _ _ => rfl)))
      (pss_cons (ps_set (i := 4) sc_law_setup.nd rfl (by first | exact Or.inl rfl | exact Or.inr rfl) (pe_op op_add (pe_op op_mul (pv 3) (pe_op op_add (pe_ix (r := rIxL K) ix_list (pv 1) pe_int (fun _ _ => rfl)) (pe_ix (r := rIxL K) ix_list (pv 1) pe_int (fun _ _ => rfl)))) pe_int))
      (pss_cons (ps_setLc (i := 5) (own := [("k", 10)]) rfl sc_law_setup.nd rfl rfl (sw_true rfl rfl rfl (by decide +kernel)) (pi_range1 rfl T.n_range (pa_cons (pv 3) pa_nil)) (blkOk_by (own := [("k", 10)]) (N := N_law_setup) (sc := (defScope s_law_setup)) (by decide +kernel)) (fun _ _ _ _ _ => (pg_name (i := 10) sc_law_setup.nd rfl (by first | exact Or.inl rfl | exact Or.inr rfl))) (fun _ _ _ _ _ => pts_nil) (fun _ _ _ _ _ => (pe_call (ok_law_program T) (hr.mono (by decide)) (by rfl) T.g_law_program T.F_law_program.kp T.b_law_program .nil pass0 (pa_cons (pv 0) (pa_cons pe_int pa_nil)))))
      (pss_cons (ps_setLc (i := 6) (own := [("k", 10)]) rfl sc_law_setup.nd rfl rfl (sw_true rfl rfl rfl (by decide +kernel)) (pi_range1 rfl T.n_range (pa_cons (pv 3) pa_nil)) (blkOk_by (own := [("k", 10)]) (N := N_law_setup) (sc := (defScope s_law_setup)) (by decide +kernel)) (fun _ _ _ _ _ => (pg_name (i := 10) sc_law_setup.nd rfl (by first | exact Or.inl rfl | exact Or.inr rfl))) (fun _ _ _ _ _ => pts_nil) (fun _ _ _ _ _ => (pe_tup (pa_cons (pv 10) (pa_cons (pe_op op_add (pe_op op_add (pv 4) (pv 2)) (pe_call (ok_law_take T) (hr.mono (by decide)) (by rfl) T.g_law_take T.F_law_take.kp T.b_law_take .nil pass0 (pa_cons (pv 0) (pa_cons pe_int pa_nil)))) pa_nil)))))
      (pss_cons (ps_setLc (i := 7) (own := [("k", 10)]) rfl sc_law_setup.nd rfl rfl (sw_true rfl rfl rfl (by decide +kernel)) (pi_range1 rfl T.n_range (pa_cons (pv 3) pa_nil)) (blkOk_by (own := [("k", 10)]) (N := N_law_setup) (sc := (defScope s_law_setup)) (by decide +kernel)) (fun _ _ _ _ _ => (pg_name (i := 10) sc_law_setup.nd rfl (by first | exact Or.inl rfl | exact Or.inr rfl))) (fun _ _ _ _ _ => pts_nil) (fun _ _ _ _ _ => (pe_op op_mod (pe_callTy c_int (by rfl) T.n_int (by decide +kernel) (pa_cons (pe_op op_add (pv 2) (pe_call (ok_law_take T) (hr.mono (by decide)) (by rfl) T.g_law_take T.F_law_take.kp T.b_law_take .nil pass0 (pa_cons (pv 0) (pa_cons pe_int pa_nil)))) pa_nil)) pe_int)))
      (pss_cons (ps_setLc (i := 8) (own := [("k", 10)]) rfl sc_law_setup.nd rfl rfl (sw_true rfl rfl rfl (by decide +kernel)) (pi_range1 rfl T.n_range (pa_cons (pv 3) pa_nil)) (blkOk_by (own := [("k", 10)]) (N := N_law_setup) (sc := (defScope s_law_setup)) (by decide +kernel)) (fun _ _ _ _ _ => (pg_name (i := 10) sc_law_setup.nd rfl (by first | exact Or.inl rfl | exact Or.inr rfl))) (fun _ _ _ _ _ => pts_nil) (fun _ _ _ _ _ => (pe_op op_rep (pe_lst (pa_cons (pe_call (ok_law_word T) (hr.mono (by decide)) (by rfl) T.g_law_word T.F_law_word.kp T.b_law_word .nil pass0 (pa_cons (pv 0) pa_nil)) pa_nil)) (pe_op op_add (pv 2) (pe_call (ok_law_take T) (hr.mono (by decide)) (by rfl) T.g_law_take T.F_law_take.kp T.b_law_take .nil pass0 (pa_cons (pv 0) (pa_cons pe_int pa_nil)))))))
      (pss_cons (ps_setLc (i := 9) (own := [("k", 10)]) rfl sc_law_setup.nd rfl rfl (sw_true rfl rfl rfl (by decide +kernel)) (pi_range1 rfl T.n_range (pa_cons (pe_call (ok_law_take T) (hr.mono (by decide)) (by rfl) T.g_law_take T.F_law_take.kp T.b_law_take .nil pass0 (pa_cons (pv 0) (pa_cons (pe_op op_add (pv 3) pe_int) pa_nil))) pa_nil)) (blkOk_by (own := [("k", 10)]) (N := N_law_setup) (sc := (defScope s_law_setup)) (by decide +kernel)) (fun _ _ _ _ _ => (pg_name (i := 10) sc_law_setup.nd rfl (by first | exact Or.inl rfl | exact Or.inr rfl))) (fun _ _ _ _ _ => pts_nil) (fun _ _ _ _ _ => (pe_tup (pa_cons (pv 10) (pa_cons (pe_op op_sub (pe_ix (r := rIxL K) ix_list (pv 1) pe_int (fun _ _ => rfl)) pe_int) (pa_cons (pe_tup (pa_cons pe_str (pa_cons (pv 10) pa_nil))) (pa_cons pe_str (pa_cons pe_non pa_nil))))))))
      (pss_one (ps_ret (pe_makeKS T.mk_Setup (ok_Setup__init T) hr (by rfl) T.gc_Setup T.kb_Setup_0 (fun σ => passAt takes0 σ) (pa_cons (pv 5) (pa_cons (pv 6) pa_nil)) (pk_cons (pv 9) (pk_cons (pv 7) (pk_cons (pv 8) (pk_cons (pe_op op_add (pv 2) (pe_call (ok_law_take T) (hr.mono (by decide)) (by rfl) T.g_law_take T.F_law_take.kp T.b_law_take .nil pass0 (pa_cons (pv 0) (pa_cons pe_int pa_nil)))) (pk_cons (pe_op op_add (pv 2) (pe_call (ok_law_take T) (hr.mono (by decide)) (by rfl) T.g_law_take T.F_law_take.kp T.b_law_take .nil pass0 (pa_cons (pv 0) (pa_cons pe_int pa_nil)))) (pk_cons (pe_op op_add (pv 2) (pe_call (ok_law_take T) (hr.mono (by decide)) (by rfl) T.g_law_take T.F_law_take.kp T.b_law_take .nil pass0 (pa_cons (pv 0) (pa_cons pe_int pa_nil)))) (pk_cons (pe_ix (r := rIxL K) ix_list (pv 1) pe_int (fun _ _ => rfl)) (pk_cons (pe_ix (r := rIxL K) ix_list (pv 1) pe_int (fun _ _ => rfl)) pk_nil)))))))))))))))))), ?_⟩
    have zz := so.h
    have hm : 0 ≤ n * (s0 + w0) ∧ n * (s0 + w0) ≤ 384 := ⟨Int.mul_nonneg (by omega) (by omega), Int.le_trans (Int.mul_le_mul zz.2.1 (show s0 + w0 ≤ 64 by omega) (by omega) (by decide)) (by decide)⟩
    have hf : n * (s0 + w0) = n * s0 + n * w0 := Int.mul_add ..
    have b1 : -(2 ^ 64) < n ∧ n < 2 ^ 64 := ⟨by omega, by omega⟩
    walk_at "lw go"
    refine lc_w (W := WB b) (X := fun i x => x = .int (0 + (i : Nat))) (n := n.toNat) walk_range (fun i ys Hh => ∃ ds : List PyData, DWs K (WB b) Hh ys ds ∧ ds.length = i ∧ ∀ d ∈ ds, isRow d = true ∧ progF d = none ∧ noL d = true) iv (by omega) (fun _ _ => trivial) (fun _ _ _ _ e ⟨ds, q, h⟩ => ⟨ds, q.ex e, h⟩) ⟨[], .nil, rfl, fun _ h => nomatch h⟩ ?_ ?_
    · rintro i x D ys H' QV QN hn rfl hD hDa e3 ⟨ds, q, hl, hb⟩ _ qv qn
      walk_at "lw gi"
      refine ⟨b, 3, rfl, by decide, by decide, e3.iv, fun t H4 d e4 w4 hi nl0 => ?_⟩
      have nl : noL (.tuple d) = true := by rw [noL]; exact nl0
      refine qv _ _ e4 ⟨ds ++ [.tuple d], DWs.snoc (q.ex (hide_ex e4 hDa)) (DW.hide w4 nl e4.iv (e4.at_ hDa)), by rw [List.length_append, hl]; rfl, fun z hz => ?_⟩
      rcases List.mem_append.mp hz with hz | hz
      · exact hb z hz
      · rw [List.mem_singleton.mp hz]; exact ⟨rfl, hi, nl⟩
    rintro c1 H1 xs1 hc1 e1 h1 ⟨pds, q1, pl, pb⟩ lx1
    walk_at "lw go"
    refine lc_w (W := WB b) (X := fun i x => x = .int (0 + (i : Nat))) (n := n.toNat) walk_range (fun i ys Hh => ∃ ts : List Int, DWs K (WB b) Hh ys (turnsD ts) ∧ ts.length = i ∧ ∀ t ∈ ts, n * (s0 + w0) + 17 ≤ t ∧ t ≤ 100000) e1.iv (by omega) (fun _ _ => trivial) (fun _ _ _ _ e ⟨ds, q, h⟩ => ⟨ds, q.ex e, h⟩) ⟨[], .nil, rfl, fun _ h => nomatch h⟩ ?_ ?_
    · rintro i x D ys H' QV QN hn rfl hD hDa e3 ⟨ts, q, hl, hb⟩ _ qv qn
      walk_at "lw gi"
      rename_i r H4 e4 l4 u4 t H5 f5 e5 h5
      have e45 := e4.trans e5
      refine qv _ _ e45 ⟨ts ++ [n * (s0 + w0) + 17 + sh + r], ?_, by rw [List.length_append, hl]; rfl, fun z hz => ?_⟩
      · rw [turnsD_snoc, hl]
        rw [Int.zero_add] at h5
        exact DWs.snoc (q.ex (hide_ex e45 hDa)) (DW.hide (.tup (.inl h5) (.cons (.int _) (.cons (.int _) .nil))) (mid2 _ _) e45.iv (e45.at_ hDa))
      · rcases List.mem_append.mp hz with hz | hz
        · exact hb z hz
        · rw [List.mem_singleton.mp hz]; omega
    rintro c2 H2 xs2 hc2 e2 h2 ⟨ts, q2, tl2, tb⟩ lx2
    walk_at "lw go"
    refine lc_w (W := WB b) (X := fun i x => x = .int (0 + (i : Nat))) (n := n.toNat) walk_range (fun i ys Hh => ∃ qs : List Int, ys = qs.map V.int ∧ qs.length = i ∧ ∀ q ∈ qs, 0 ≤ q ∧ q ≤ 8) e2.iv (by omega) (fun _ _ => trivial) (fun _ _ _ _ e q => q) ⟨[], rfl, rfl, fun _ h => nomatch h⟩ ?_ ?_
    · rintro i x D ys H' QV QN hn rfl hD hDa e3 ⟨qs, rfl, hl, hb⟩ _ qv qn
      walk_at "lw gi"
      rename_i r H4 e4 l4 u4
      refine qv _ _ e4 ⟨qs ++ [(sh + r) % 9], by rw [List.map_append]; rfl, by rw [List.length_append, hl]; rfl, fun z hz => ?_⟩
      rcases List.mem_append.mp hz with hz | hz
      · exact hb z hz
      · rw [List.mem_singleton.mp hz]; omega
    rintro c3 H3 xs3 hc3 e3 h3 ⟨qs, rfl, ql, qb⟩ lx3
    walk_at "lw go"
    refine lc_w (W := WB b) (X := fun i x => x = .int (0 + (i : Nat))) (n := n.toNat) walk_range (fun i ys Hh => ∃ ds : List PyData, DWs K (WB b) Hh ys ds ∧ ds.length = i ∧ ∀ d ∈ ds, dataB d = true) e3.iv (by omega) (fun _ _ => trivial) (fun _ _ _ _ e ⟨ds, q, h⟩ => ⟨ds, q.ex e, h⟩) ⟨[], .nil, rfl, fun _ h => nomatch h⟩ ?_ ?_
    · rintro i x D ys H' QV QN hn rfl hD hDa e3 ⟨ds, q, hl, hb⟩ _ qv qn
      walk_at "lw gi"
      rename_i wd H4 e4 l4 u4 q5 H5 f5 e5 h5 r6 H6 e6 l6 u6 p7 H7 f7 e7 h7
      have e46 := (e4.trans e5).trans e6
      have e47 := e46.trans e7
      refine qv _ _ e47 ⟨ds ++ [.list (List.replicate (sh + r6).toNat (.int wd))], DWs.snoc (q.ex (hide_ex e47 hDa)) (.lst (At.hideN h7 e47 hDa e46 f7) (rep_dw (.int wd) _)), by rw [List.length_append, hl]; rfl, fun z hz => ?_⟩
      rcases List.mem_append.mp hz with hz | hz
      · exact hb z hz
      · rw [List.mem_singleton.mp hz]; exact rep_data ⟨l4, u4⟩ (by omega)
    rintro c4 H4 xs4 hc4 e4 h4 ⟨dds, q4, dl, db⟩ lx4
    walk_at "lw go"
    rename_i m H5 e5 l5 u5
    refine lc_w (W := WB b) (X := fun i x => x = .int (0 + (i : Nat))) (n := m.toNat) walk_range (fun i ys Hh => DWs K (WB b) Hh ys ((List.range i).map (rowR s0))) e5.iv (by omega) (fun _ _ => trivial) (fun _ _ _ _ e q => q.ex e) .nil ?_ ?_
    · rintro i x D ys H' QV QN hn rfl hD hDa e3 q _ qv qn
      walk_at "lw gi"
      rename_i t6 H6 f6 e6 h6 t7 H7 f7 e7 h7
      have e67 := e6.trans e7
      rw [Int.zero_add] at h6 h7
      refine qv _ _ e67 ?_
      rw [List.range_succ, List.map_append]
      exact DWs.snoc (q.ex (hide_ex e67 hDa)) (DW.hide (.tup (.inl h7) (.cons (.int _) (.cons (.int _) (.cons (.tup (.inl (e7.at_ h6)) (.cons (.str _) (.cons (.int _) .nil))) (.cons (.str _) (.cons .non .nil)))))) (rowR_noL _ _) e67.iv (e67.at_ hDa))
    rintro c6 H6 xs6 hc6 e6 h6 q6 lx6
    walk_at "lw go"
    refine rd_mkS ?_
    walk_at "lw gi"
    rename_i pg H7 e7 l7 u7 po H8 e8 l8 u8 be H9 e9 l9 u9
    refine ⟨rfl, rfl, fun x dx hx hdx ne => ?_⟩
    obtain ⟨e10, h10⟩ := new_ins (C := T.c_Setup) e9.iv hx hdx ne
    have e710 := ((e7.trans e8).trans e9).trans e10
    have e510 := (e5.trans e6).trans e710
    have pn : (pds.length : Int) = n := by omega
    have hc : (lawA pds ts (rgtsA s0 m.toNat) (.list (qs.map .int)) (.list dds) (sh + pg) (sh + po) (sh + be) s0 w0).cnt.n = n := pn
    have good : (lawA pds ts (rgtsA s0 m.toNat) (.list (qs.map .int)) (.list dds) (sh + pg) (sh + po) (sh + be) s0 w0).fault = none := by
      rw [lawA_fault pn so (fun p hp => ⟨(pb p hp).1, (pb p hp).2.1⟩) (quot_ok (by omega) qb) (data_ok (by omega) db) (by omega) (by omega) (by omega) (rgts_ok (by rw [hc]; omega) rfl (by omega))]
      have tk := turns_ok (n := n.toNat) (least := freeP n s0 w0 + 16) (ts := ts) (by omega) tl2 (fun t ht => by have := tb t ht; unfold freeP; omega)
      rw [show ((n.toNat : Nat) : Int) = n by omega] at tk
      rw [tk]; rfl
    refine ⟨WB b, H9, x, dx, _, _, _, _, _, _, _, _, _, _, _, lawA pds ts (rgtsA s0 m.toNat) (.list (qs.map .int)) (.list dds) (sh + pg) (sh + po) (sh + be) s0 w0, rfl, e10, hx, h10, .lst (e510.at_ (e4.at_ (e3.at_ (e2.at_ h1)))) (q1.ex (((e2.trans e3).trans e4).trans e510)), .lst (e510.at_ (e4.at_ (e3.at_ h2))) (q2.ex ((e3.trans e4).trans e510)), .lst (e710.at_ h6) (q6.ex e710), .lst (e510.at_ (e4.at_ h3)) (DWs.ints _), .lst (e510.at_ h4) (q4.ex e510), .int _, .int _, .int _, .tup (.inr T.K_e_Setup__init_lines) .nil, .int _, .int _, fun p hp _ => (pb p hp).2.1, ?_, ?_, fun f j fj => (by rw [good] at fj; cases fj), fun _ H' e' sa => ⟨rfl, k x H' ((((((e1.trans e2).trans e3).trans e4).trans (e5.trans e6)).trans ((e7.trans e8).trans e9)).trans e') (lawA_size sa pn)⟩⟩
    · intro r hr
      obtain ⟨i, _, rfl⟩ := List.mem_map.mp (show r ∈ (List.range m.toNat).map (rowR s0) from hr)
      exact can_row
    · show ((List.range m.toNat).map (rowR s0)).length ≤ 1000
      rw [List.length_map, List.length_range]; omega

theorem ok_law_letter (T : Tx P w K mg) : FnOk P w K mg base CX0 2 T.f_law_letter T.fd_law_letter ["bag"] (sp_law_letter) := by
  refine T.F_law_letter.ok sc_law_letter (fun vs H Q E h => ?_) (fun cdv A outer s H vs Q E hr h => ?_)
  · obtain ⟨b, rfl, iv, k⟩ := h
    rfl
  · obtain ⟨b, rfl, iv, k⟩ := h
    refine ⟨_, (pss_one (ps_ret (pe_ix ix_str pe_str (pe_call (ok_law_take T) hr (by rfl) T.g_law_take T.F_law_take.kp T.b_law_take .nil pass0 (pa_cons (pv 0) (pa_cons pe_int pa_nil))) (fun _ _ => rfl)))), ?_⟩
    walk_at "lw go"
    rename_i r H1 e1 l1 u1
    have hl : r.toNat < ("abcdefghijklmnopqrstuvwxyz" : Str).cps.toList.length := Nat.lt_of_lt_of_le (show r.toNat < 26 by omega) (by decide +kernel)
    refine rd_ixS (by decide +kernel) (at_inG l1 (List.getElem?_eq_getElem hl)) ?_
    walk_at "lw gi"
    exact k _ _ e1

theorem ok_law_strangers (T : Tx P w K mg) : FnOk P w K mg base CX0 3 T.f_law_strangers T.fd_law_strangers ["bag"] (sp_law_strangers) := by
  refine T.F_law_strangers.ok sc_law_strangers (fun vs H Q E h => ?_) (fun cdv A outer s H vs Q E hr h => ?_)
  · obtain ⟨b, rfl, iv, k⟩ := h
    rfl
  · obtain ⟨b, rfl, iv, k⟩ := h
    refine ⟨_, (pss_cons (ps_set (i := 1) sc_law_strangers.nd rfl (by first | exact Or.inl rfl | exact Or.inr rfl) (pe_lst (pa_cons pe_str (pa_cons pe_str (pa_cons pe_str (pa_cons pe_str (pa_cons pe_str (pa_cons pe_str (pa_cons pe_str (pa_cons pe_str (pa_cons pe_str (pa_cons pe_str (pa_cons pe_str (pa_cons pe_str pa_nil))))))))))))))
      (pss_cons (ps_set (i := 1) sc_law_strangers.nd rfl (by first | exact Or.inl rfl | exact Or.inr rfl) (pe_op op_cat (pv 1) (pe_lst (pa_cons pe_str (pa_cons pe_str (pa_cons pe_str pa_nil))))))
      (pss_cons (ps_set (i := 2) sc_law_strangers.nd rfl (by first | exact Or.inl rfl | exact Or.inr rfl) (pe_lst (pa_cons (pe_ix (r := rIxL K) ix_list (pv 1) (pe_call (ok_law_take T) (hr.mono (by decide)) (by rfl) T.g_law_take T.F_law_take.kp T.b_law_take .nil pass0 (pa_cons (pv 0) (pa_cons pe_int pa_nil))) (fun _ _ => rfl)) pa_nil)))
      (pss_cons (ps_set (i := 3) sc_law_strangers.nd rfl (by first | exact Or.inl rfl | exact Or.inr rfl) (pe_ix (r := rIxL K) ix_list (pe_call0 (ok_law_deeds T) (hr.mono (by decide)) (by rfl) T.g_law_deeds T.F_law_deeds.kp T.b_law_deeds .nil pass0) (pe_call (ok_law_take T) (hr.mono (by decide)) (by rfl) T.g_law_take T.F_law_take.kp T.b_law_take .nil pass0 (pa_cons (pv 0) (pa_cons pe_int pa_nil))) (fun _ _ => rfl)))
      (pss_cons (ps_set (i := 4) sc_law_strangers.nd rfl (by first | exact Or.inl rfl | exact Or.inr rfl) (pe_call (ok_law_take T) (hr.mono (by decide)) (by rfl) T.g_law_take T.F_law_take.kp T.b_law_take .nil pass0 (pa_cons (pv 0) (pa_cons (pe_callB c_lens (by rfl) T.n_len PySem.boot_len (pa_cons (pv 3) pa_nil)) pa_nil))))
      (pss_cons (ps_expr (pe_bm PySem.F.plainAttrs_list PySem.F.slot_list_append PySem.F.type_list_append mt_append (pv 2) (pa_cons (pe_op o_adds (pe_op o_adds (pe_slice sl_str (pv 3) po_none (po_some (pv 4))) (pe_call (ok_law_letter T) hr (by rfl) T.g_law_letter T.F_law_letter.kp T.b_law_letter .nil pass0 (pa_cons (pv 0) pa_nil))) (pe_slice sl_str (pv 3) (po_some (pe_op op_add (pv 4) pe_int)) po_none)) pa_nil)))
      (pss_cons (ps_expr (pe_bm PySem.F.plainAttrs_list PySem.F.slot_list_append PySem.F.type_list_append mt_append (pv 2) (pa_cons (pe_bm PySem.F.plainAttrs_str PySem.F.slot_str_join PySem.F.type_str_join (r := rJoinS K) m_join pe_str (pa_cons (pe_lc (own := [("k", 5)]) rfl sc_law_strangers.nd (pi_range1 rfl T.n_range (pa_cons (pe_op op_add pe_int (pe_call (ok_law_take T) (hr.mono (by decide)) (by rfl) T.g_law_take T.F_law_take.kp T.b_law_take .nil pass0 (pa_cons (pv 0) (pa_cons pe_int pa_nil)))) pa_nil)) (blkOk_by (own := [("k", 5)]) (N := N_law_strangers) (sc := (defScope s_law_strangers)) (by decide +kernel)) (fun _ _ _ _ _ => (pg_name (i := 5) sc_law_strangers.nd rfl (by first | exact Or.inl rfl | exact Or.inr rfl))) (fun _ _ _ _ _ => pts_nil) (fun _ _ _ _ _ => (pe_call (ok_law_letter T) hr (by rfl) T.g_law_letter T.F_law_letter.kp T.b_law_letter .nil pass0 (pa_cons (pv 0) pa_nil)))) pa_nil)) pa_nil)))
      (pss_one (ps_ret (pv 2)))))))))), ?_⟩
    walk_at "lw go"
    rename_i l1 H1 f1 e1 h1 l2 H2 f2 e2 h2 l3 H3 f3 e3 h3 r4 H4 e4 l4 u4 v hv q H5 f5 e5 h5
    have as : ∀ v, v ∈ ([V.str "", .str "Halt", .str "halts", .str "hal", .str " halt", .str "halt ", .str "fall", .str "set", .str "load", .str "try", .str "trycall", .str "RING"] ++ [V.str "end", .str "freee", .str "sendtake"]) → ∃ x, v = .str x := (show AS _ by walk_at "lw as")
    obtain ⟨x, rfl⟩ := as v hv
    refine ⟨WB b, rfl, e5.iv, fun q6 H6 f6 e6 h6 => ?_⟩
    have h23 : deedsL.length = 23 := rfl
    walk_at "lw go"
    rename_i r7 H7 e7 l7 u7 v7 hv7
    obtain ⟨nm, hnm, rfl⟩ : ∃ nm ∈ deedsL, v7 = .str nm := by
      obtain ⟨nm, h1, h2⟩ := List.mem_map.mp hv7
      exact ⟨nm, h1, h2.symm⟩
    have hl := deed_len hnm
    walk_at "lw go"
    rename_i at8 H8 e8 l8 u8
    have h58 := e8.at_ (e7.at_ (e6.at_ h5))
    have e58 := (e6.trans e7).trans e8
    walk_at "lw go"
    have hc1 : (cutS nm none (some at8)).length ≤ 8 := Nat.le_trans (cutS_length _ _ _) hl.2
    have hc2 : (cutS nm (some (at8 + 1)) none).length ≤ 8 := Nat.le_trans (cutS_length _ _ _) hl.2
    refine ⟨b, rfl, e8.iv, fun c H9 e9 => ?_⟩
    have one : (⟨#[c]⟩ : Str).length = 1 := rfl
    have hs2 : (cutS nm none (some at8) ++ ⟨#[c]⟩ : Str).length ≤ 9 := by rw [sapp_len, one]; omega
    have e59 := e58.trans e9
    have h59 := e9.at_ h58
    walk_at "lw go"
    rename_i H10 e10 h10 o10 r11 H11 e11 l11 u11
    refine lc_w (W := WB b) (X := fun i x => x = .int (0 + (i : Nat))) (n := (1 + r11).toNat) walk_range (fun i ys Hh => ∃ zs : List Str, ys = zs.map V.str ∧ zs.length = i ∧ ∀ z ∈ zs, z.length = 1) e11.iv (by omega) (fun _ _ => trivial) (fun _ _ _ _ e q => q) ⟨[], rfl, rfl, fun _ h => nomatch h⟩ ?_ ?_
    · rintro i x D ys H' QV QN hn rfl hD hDa e3 ⟨zs, rfl, zl, zb⟩ _ qv qn
      walk_at "lw gi"
      refine ⟨b, rfl, e3.iv, fun c H4 e4 => ?_⟩
      walk_at "lw gi"
      refine qv _ _ e4 ⟨zs ++ [⟨#[c]⟩], by rw [List.map_append]; rfl, by rw [List.length_append, zl]; rfl, fun z hz => ?_⟩
      rcases List.mem_append.mp hz with hz | hz
      · exact zb z hz
      · rw [List.mem_singleton.mp hz]; rfl
    rintro c12 H12 xs12 hc12 e12 h12 ⟨zs, rfl, zl, zb⟩ lx12
    have h10' := e12.at_ (e11.at_ h10)
    walk_at "lw gi"
    refine rd_join h12 (by rw [sum_ones zb]; show zs.length + zs.length * 0 ≤ 16777216; omega) ?_
    walk_at "lw gi"
    rename_i H13 e13 h13 o13
    have h13 : At (WB b) H13 q (.lst [.str x, .str (cutS nm none (some at8) ++ ⟨#[c]⟩ ++ cutS nm (some (at8 + 1)) none), .str (Txt.join "" zs)]) := h13
    exact k _ _ _ _ _ (((e1.trans e2).trans (e3.trans e4)).trans e13) h13

theorem ok_law_unknown (T : Tx P w K mg) : FnOk P w K mg base CX0 4 T.f_law_unknown T.fd_law_unknown ["setup", "name"] (sp_law_unknown K T.c_Setup) := by
  refine T.F_law_unknown.ok sc_law_unknown (fun vs H Q E h => ?_) (fun cdv A outer s H vs Q E hr h => ?_)
  · obtain ⟨W, p, nm, n, s0, w0, rfl, iv, sa, so, hm, k⟩ := h
    rfl
  · obtain ⟨W, p, nm, n, s0, w0, rfl, iv, sa, so, hm, k⟩ := h
    refine ⟨_, (pss_cons (ps_try_as (i := 2) rfl rfl sc_law_unknown.nd rfl rfl ⟨rfl, by decide, Or.inl T.gc_BadDeed⟩ takes0 (fun W pn xe tk po =>
        (pss_one (ps_expr (pe_callS (ok_price T) (hr.mono (by decide)) (by rfl) T.g_price T.F_price.kp T.b_price (fun σ => passAt tk σ) (pa_cons (pv 0) (pa_cons (pv 1) pa_nil))))))
        (fun a oe cls d pn hz hf =>
        (pss_one (ps_ret (pe_and (pe_callB (r := rIsX K cls d a) (c_isX hz hf) (by rfl) T.n_isinstance (by decide +kernel) (pa_cons (pv 2) (pa_cons (pe_glob (v := .ref T.c_InputError) rfl T.gc_InputError rfl) pa_nil))) (pe_and (pe_not (pe_callB (r := rIsX K cls d a) (c_isX hz hf) (by rfl) T.n_isinstance (by decide +kernel) (pa_cons (pv 2) (pa_cons (pe_glob (v := .ref T.c_BadNumber) rfl T.gc_BadNumber rfl) pa_nil)))) (pe_one (pe_callQ (okq_law_same_at0 T) (RoomQ.mark (RoomQ.of (hr.mono (by decide)))) (by rfl) T.g_law_same T.F_law_same.kp T.b_law_same .nil pass0 (pa_cons (pe_xf (xfC_of T.S_BadDeed) T.S_BadDeed.noN hz hf (pv 2)) (pa_cons (pv 1) pa_nil))))))))))
      (pss_one (ps_ret pe_bl))), ?_⟩
    have zz := so.h
    walk_at "lw go"
    refine rd_callS ?_
    walk_at "lw go"
    refine ⟨W, p, nm, n, s0, w0, rfl, iv, sa, by omega, fun _ u H1 e1 h1 => ?_, fun fn => absurd fn hm⟩
    refine ⟨true, T.m_BadDeed, fun _ ea hea => ?_, fun z => nomatch z⟩
    walk_at "lw all"
    refine rd_isX (W := W) h1 rfl rfl T.I_BadDeed (fun _ r => r) T.k_BadDeed_InputError ?_
    walk_at "lw all"
    refine rd_isX (W := W) h1 rfl rfl T.I_BadDeed (fun _ r => r) T.k_BadDeed_BadNumber ?_
    walk_at "lw all"
    refine rd_xf (W := W) rfl h1 rfl rfl ?_
    walk_at "lw all"
    refine cl_law_same (W := W) (d := .str nm) (.str _) (.str _) rfl ?_
    walk_at "lw all"
    exact k _ e1

theorem ok_law_asks_names (T : Tx P w K mg) : FnOk P w K mg base CX0 4 T.f_law_asks_names T.fd_law_asks_names ["setup", "sizes", "names"] (sp_law_asks_names K T.c_Setup) := by
  refine T.F_law_asks_names.ok sc_law_asks_names (fun vs H Q E h => ?_) (fun cdv A outer s H vs Q E hr h => ?_)
  · obtain ⟨W, p, z, l, nms, n, s0, w0, rfl, iv, sa, hz, so, hl, hm, k⟩ := h
    rfl
  · obtain ⟨W, p, z, l, nms, n, s0, w0, rfl, iv, sa, hz, so, hl, hm, k⟩ := h
    refine ⟨_, (pss_cons (ps_for PassesOwn.never rfl (pi_list (pv 2)) (pg_name (i := 3) sc_law_asks_names.nd rfl (by first | exact Or.inl rfl | exact Or.inr rfl))
        (pss_one (ps_if (pt_not (pt_val (pe_call (ok_law_same_at2 T) hr (by rfl) T.g_law_same T.F_law_same.kp T.b_law_same .nil pass0 (pa_cons (pe_callS (ok_price T) (hr.mono (by decide)) (by rfl) T.g_price T.F_price.kp T.b_price (fun σ => passAt takes0 σ) (pa_cons (pv 0) (pa_cons (pv 3) pa_nil))) (pa_cons (pe_call (ok_law_price T) (hr.mono (by decide)) (by rfl) T.g_law_price T.F_law_price.kp T.b_law_price .nil pass0 (pa_cons (pv 3) (pa_cons (pv 1) pa_nil))) pa_nil)))))
          (pss_one (ps_ret pe_bl))
          pss_nil)))
      (pss_one (ps_ret pe_bl))), ?_⟩
    walk_at "lw go"
    refine for_l (a := l) (xs := nms.map V.str) (fun i σ' H' => ∃ v, σ' = [some (.ref p), some (.ref z), some (.ref l), v] ∧ Ex W H H') ⟨_, rfl, Ex.refl iv⟩ (fun i σ' H' _ ⟨_, _, e⟩ => e.at_ hl) ?_ ?_
    · rintro i x σ' H1 hx ⟨v, rfl, e1⟩
      obtain ⟨nm, hnm, rfl⟩ : ∃ nm ∈ nms, x = .str nm := by
        obtain ⟨nm, h1, h2⟩ := List.mem_map.mp (List.mem_of_getElem? hx)
        exact ⟨nm, h1, h2.symm⟩
      have hd := hm nm hnm
      have zz := so.h
      walk_at "lw go"
      refine rd_callS ?_
      walk_at "lw go"
      refine ⟨W, p, nm, n, s0, w0, rfl, e1.iv, sa.mono e1, by omega, fun z => absurd hd z, fun _ => ?_⟩
      walk_at "lw go"
      refine cl_law_price e1.iv (e1.at_ hz) so hd fun H2 e2 => ?_
      walk_at "lw go"
      refine cl_law_same (W := W) (d := .int (priceF nm n s0 w0)) (.int _) (.int _) rfl ?_
      walk_at "lw gi"
      exact ⟨_, rfl, e1.trans e2⟩
    · rintro σ' H1 ⟨v, rfl, e1⟩
      walk_at "lw gi"
      exact k _ e1

theorem ok_law_asks_strangers (T : Tx P w K mg) : FnOk P w K mg base CX0 5 T.f_law_asks_strangers T.fd_law_asks_strangers ["bag", "setup", "sizes"] (sp_law_asks_strangers K T.c_Setup) := by
  refine T.F_law_asks_strangers.ok sc_law_asks_strangers (fun vs H Q E h => ?_) (fun cdv A outer s H vs Q E hr h => ?_)
  · obtain ⟨b, p, z, n, s0, w0, rfl, iv, sa, hz, so, k⟩ := h
    rfl
  · obtain ⟨b, p, z, n, s0, w0, rfl, iv, sa, hz, so, k⟩ := h
    refine ⟨_, (pss_cons (ps_for PassesOwn.never rfl (pi_list (pe_call (ok_law_strangers T) (hr.mono (by decide)) (by rfl) T.g_law_strangers T.F_law_strangers.kp T.b_law_strangers .nil pass0 (pa_cons (pv 0) pa_nil))) (pg_name (i := 3) sc_law_asks_strangers.nd rfl (by first | exact Or.inl rfl | exact Or.inr rfl))
        (pss_one (ps_if (pt_cmpR (r := rIn K false) op_in_seq (pv 3) (pe_call0 (ok_law_deeds T) (hr.mono (by decide)) (by rfl) T.g_law_deeds T.F_law_deeds.kp T.b_law_deeds .nil pass0) (by rfl))
          (pss_one (ps_if (pt_not (pt_val (pe_call (ok_law_asks_names T) hr (by rfl) T.g_law_asks_names T.F_law_asks_names.kp T.b_law_asks_names .nil pass0 (pa_cons (pv 1) (pa_cons (pv 2) (pa_cons (pe_lst (pa_cons (pv 3) pa_nil)) pa_nil))))))
            (pss_one (ps_ret pe_bl))
            pss_nil))
          (pss_one (ps_if (pt_not (pt_val (pe_call (ok_law_unknown T) hr (by rfl) T.g_law_unknown T.F_law_unknown.kp T.b_law_unknown .nil pass0 (pa_cons (pv 1) (pa_cons (pv 3) pa_nil)))))
            (pss_one (ps_ret pe_bl))
            pss_nil)))))
      (pss_one (ps_ret pe_bl))), ?_⟩
    walk_at "lw go"
    refine ⟨b, rfl, iv, fun x1 x2 x3 q H1 e1 h1 => ?_⟩
    have h1 : At (WB b) H1 q (.lst (([x1, x2, x3] : List Str).map V.str)) := h1
    walk_at "lw go"
    refine for_l (a := q) (xs := ([x1, x2, x3] : List Str).map V.str) (fun i σ' H' => ∃ v, σ' = [some (.ref b), some (.ref p), some (.ref z), v] ∧ Ex (WB b) H1 H') ⟨_, rfl, Ex.refl e1.iv⟩ (fun i σ' H' _ ⟨_, _, e⟩ => e.at_ h1) ?_ ?_
    · rintro i x σ' H2 hx ⟨v, rfl, e2⟩
      obtain ⟨nm, hnm, rfl⟩ : ∃ nm ∈ ([x1, x2, x3] : List Str), x = .str nm := by
        obtain ⟨nm, h1, h2⟩ := List.mem_map.mp (List.mem_of_getElem? hx)
        exact ⟨nm, h1, h2.symm⟩
      have e12 := e1.trans e2
      walk_at "lw go"
      refine ⟨WB b, rfl, e2.iv, fun q3 H3 f3 e3 h3 => ?_⟩
      have e13 := e12.trans e3
      walk_at "lw go"
      rw [inV_str]
      walk_at "lw go"
      refine ifD ?_ ?_ <;> intro hd
      · walk_at "lw go"
        rename_i q4 H4 f4 e4 h4
        have e14 := e13.trans e4
        refine ⟨WB b, p, z, q4, [nm], n, s0, w0, rfl, e4.iv, sa.mono e14, e14.at_ hz, so, h4, fun x hx => (by rw [List.mem_singleton.mp hx]; exact hd), fun H5 e5 => ?_⟩
        walk_at "lw gi"
        exact ⟨_, rfl, e2.trans ((e3.trans e4).trans e5)⟩
      · walk_at "lw go"
        refine ⟨WB b, p, nm, n, s0, w0, rfl, e3.iv, sa.mono e13, so, hd, fun H5 e5 => ?_⟩
        walk_at "lw gi"
        exact ⟨_, rfl, e2.trans (e3.trans e5)⟩
    · rintro σ' H2 ⟨v, rfl, e2⟩
      walk_at "lw gi"
      exact k _ (e1.trans e2)

theorem ok_law_asks_turns (T : Tx P w K mg) : FnOk P w K mg base CX0 8 T.f_law_asks_turns T.fd_law_asks_turns ["bag", "sizes"] (sp_law_asks_turns K T.c_Setup) := by
  refine T.F_law_asks_turns.ok sc_law_asks_turns (fun vs H Q E h => ?_) (fun cdv A outer s H vs Q E hr h => ?_)
  · obtain ⟨b, z, n, s0, w0, rfl, iv, hz, so, k⟩ := h
    rfl
  · obtain ⟨b, z, n, s0, w0, rfl, iv, hz, so, k⟩ := h
    refine ⟨_, (pss_cons (ps_set (i := 2) sc_law_asks_turns.nd rfl (by first | exact Or.inl rfl | exact Or.inr rfl) (pe_ix (r := rIxL K) ix_list (pv 1) pe_int (fun _ _ => rfl)))
      (pss_cons (ps_setLc (i := 3) (own := [("k", 9)]) rfl sc_law_asks_turns.nd rfl rfl (sw_true rfl rfl rfl (by decide +kernel)) (pi_range1 rfl T.n_range (pa_cons (pv 2) pa_nil)) (blkOk_by (own := [("k", 9)]) (N := N_law_asks_turns) (sc := (defScope s_law_asks_turns)) (by decide +kernel)) (fun _ _ _ _ _ => (pg_name (i := 9) sc_law_asks_turns.nd rfl (by first | exact Or.inl rfl | exact Or.inr rfl))) (fun _ _ _ _ _ => pts_nil) (fun _ _ _ _ _ => (pe_tup pa_nil)))
      (pss_cons (ps_set (i := 4) sc_law_asks_turns.nd rfl (by first | exact Or.inl rfl | exact Or.inr rfl) (pe_op op_add (pe_call (ok_law_price T) (hr.mono (by decide)) (by rfl) T.g_law_price T.F_law_price.kp T.b_law_price .nil pass0 (pa_cons pe_str (pa_cons (pv 1) pa_nil))) pe_int))
      (pss_cons (ps_setLc (i := 5) (own := [("k", 9)]) rfl sc_law_asks_turns.nd rfl rfl (sw_true rfl rfl rfl (by decide +kernel)) (pi_range1 rfl T.n_range (pa_cons (pv 2) pa_nil)) (blkOk_by (own := [("k", 9)]) (N := N_law_asks_turns) (sc := (defScope s_law_asks_turns)) (by decide +kernel)) (fun _ _ _ _ _ => (pg_name (i := 9) sc_law_asks_turns.nd rfl (by first | exact Or.inl rfl | exact Or.inr rfl))) (fun _ _ _ _ _ => pts_nil) (fun _ _ _ _ _ => (pe_tup (pa_cons (pv 9) (pa_cons (pv 4) pa_nil)))))
      (pss_cons (ps_set (i := 6) sc_law_asks_turns.nd rfl (by first | exact Or.inl rfl | exact Or.inr rfl) (pe_makeKS T.mk_Setup (ok_Setup__init T) hr (by rfl) T.gc_Setup T.kb_Setup_1 (fun σ => passAt takes0 σ) (pa_cons (pv 3) (pa_cons (pv 5) pa_nil)) (pk_cons (pe_ix (r := rIxL K) ix_list (pv 1) pe_int (fun _ _ => rfl)) (pk_cons (pe_ix (r := rIxL K) ix_list (pv 1) pe_int (fun _ _ => rfl)) pk_nil))))
      (pss_cons (ps_if (PW.pt (pw_or (pt_not (pt_val (pe_call (ok_law_same_at2 T) (hr.mono (by decide)) (by rfl) T.g_law_same T.F_law_same.kp T.b_law_same .nil pass0 (pa_cons (pe_fld (pv 6) rfl) (pa_cons (pe_callTy (r := Lw.rTupO K) c_tuple (by rfl) T.n_tuple (by decide +kernel) (pa_cons (pv 5) pa_nil)) pa_nil))))) (pw_or1 (pt_not (pt_val (pe_call (ok_law_same_at2 T) (hr.mono (by decide)) (by rfl) T.g_law_same T.F_law_same.kp T.b_law_same .nil pass0 (pa_cons (pe_callS (ok_price T) (hr.mono (by decide)) (by rfl) T.g_price T.F_price.kp T.b_price (fun σ => passAt takes0 σ) (pa_cons (pv 6) (pa_cons pe_str pa_nil))) (pa_cons (pe_op op_sub (pv 4) pe_int) pa_nil))))))))
        (pss_one (ps_ret pe_bl))
        pss_nil)
      (pss_cons (ps_set (i := 7) sc_law_asks_turns.nd rfl (by first | exact Or.inl rfl | exact Or.inr rfl) (pe_call (ok_law_take T) (hr.mono (by decide)) (by rfl) T.g_law_take T.F_law_take.kp T.b_law_take .nil pass0 (pa_cons (pv 0) (pa_cons (pv 2) pa_nil))))
      (pss_cons (ps_asg (pe_tup (pa_cons (pv 7) (pa_cons (pe_op op_sub (pv 4) pe_int) pa_nil))) (pg_sub (pv 5) (pv 7) set_list))
      (pss_cons (ps_try_as (i := 8) rfl rfl sc_law_asks_turns.nd rfl rfl ⟨rfl, by decide, Or.inl T.gc_BadSetup⟩ takes0 (fun W pn xe tk po =>
        (pss_one (ps_expr (pe_makeKS T.mk_Setup (ok_Setup__init T) hr (by rfl) T.gc_Setup T.kb_Setup_1 (fun σ => passAt tk σ) (pa_cons (pv 3) (pa_cons (pv 5) pa_nil)) (pk_cons (pe_ix (r := rIxL K) ix_list (pv 1) pe_int (fun _ _ => rfl)) (pk_cons (pe_ix (r := rIxL K) ix_list (pv 1) pe_int (fun _ _ => rfl)) pk_nil))))))
        (fun a oe cls d pn hz hf =>
        (pss_one (ps_ret (pe_and (pe_callQ (okq_law_same_at0 T) (RoomQ.mark (RoomQ.of (hr.mono (by decide)))) (by rfl) T.g_law_same T.F_law_same.kp T.b_law_same .nil pass0 (pa_cons (pe_xf (xfC_of2 T.S_BadSetup) T.S_BadSetup.noN hz hf (pv 8)) (pa_cons pe_str pa_nil))) (pe_one (pe_callQ (okq_law_same_at0 T) (RoomQ.mark (RoomQ.of (hr.mono (by decide)))) (by rfl) T.g_law_same T.F_law_same.kp T.b_law_same .nil pass0 (pa_cons (pe_xf (xfC_of2 T.S_BadSetup) T.S_BadSetup.noK hz hf (pv 8)) (pa_cons (pv 7) pa_nil)))))))))
      (pss_one (ps_ret pe_bl))))))))))), ?_⟩
    have zz := so.h
    have hm : 0 ≤ n * (s0 + w0) ∧ n * (s0 + w0) ≤ 384 := ⟨Int.mul_nonneg (by omega) (by omega), Int.le_trans (Int.mul_le_mul zz.2.1 (show s0 + w0 ≤ 64 by omega) (by omega) (by decide)) (by decide)⟩
    have hf : n * (s0 + w0) = n * s0 + n * w0 := Int.mul_add ..
    walk_at "lw go"
    refine lc_w (W := WB b) (X := fun i x => x = .int (0 + (i : Nat))) (n := n.toNat) walk_range (fun i ys Hh => DWs K (WB b) Hh ys (List.replicate i (.tuple []))) iv (by omega) (fun _ _ => trivial) (fun _ _ _ _ e q => q.ex e) .nil ?_ ?_
    · rintro i x R ys H' QV QN hn' rfl hR hRa e3 q _ qv qn
      walk_at "lw gi"
      rename_i t H4 f4 e4 h4
      refine qv _ _ e4 ?_
      rw [List.replicate_succ']
      exact DWs.snoc (q.ex (hide_ex e4 hRa)) (DW.hide (.tup (.inl h4) .nil) (by rw [noL, noLs]) e4.iv (e4.at_ hRa))
    rintro c1 H1 xs1 hc1 e1 h1 q1 lx1
    walk_at "lw go"
    refine cl_law_price e1.iv (e1.at_ hz) so (by decide +kernel) fun H2 e2 => ?_
    rw [pr_x.2.2.2]
    have iv2 := e2.iv
    walk_at "lw go"
    refine lc_w (W := WB b) (X := fun i x => x = .int (0 + (i : Nat))) (n := n.toNat) walk_range (fun i ys Hh => DWs K (WB b) Hh ys (turnsD (List.replicate i (n * s0 + n * w0 + 1 + 16)))) e2.iv (by omega) (fun _ _ => trivial) (fun _ _ _ _ e q => q.ex e) .nil ?_ ?_
    · rintro i x R ys H' QV QN hn' rfl hR hRa e3 q _ qv qn
      walk_at "lw gi"
      rename_i t H4 f4 e4 h4
      rw [Int.zero_add] at h4
      refine qv _ _ e4 ?_
      rw [List.replicate_succ', turnsD_snoc, List.length_replicate]
      exact DWs.snoc (q.ex (hide_ex e4 hRa)) (DW.hide (.tup (.inl h4) (.cons (.int _) (.cons (.int _) .nil))) (mid2 _ _) e4.iv (e4.at_ hRa))
    rintro c3 H3 xs3 hc3 e3 h3 q3 lx3
    walk_at "lw go"
    refine rd_mkS ?_
    walk_at "lw gi"
    refine ⟨rfl, rfl, fun x dx hx hdx ne => ?_⟩
    obtain ⟨e4, h4⟩ := new_ins (C := T.c_Setup) e3.iv hx hdx ne
    have good : (lawA (List.replicate n.toNat (.tuple [])) (List.replicate n.toNat (n * s0 + n * w0 + 1 + 16)) (.tuple []) .none .none 0 0 0 s0 w0).fault = none := by
      rw [lawA_fault (by rw [List.length_replicate]; omega) so (fun p hp => by rw [List.eq_of_mem_replicate hp]; exact ⟨rfl, rfl⟩) rfl rfl (by decide) (by decide) (by decide) rfl]
      have tk := turns_ok (n := n.toNat) (least := freeP n s0 w0 + 16) (ts := List.replicate n.toNat (n * s0 + n * w0 + 1 + 16)) (by omega) (List.length_replicate ..) (fun t ht => by rw [List.eq_of_mem_replicate ht]; unfold freeP; omega)
      rw [show ((n.toNat : Nat) : Int) = n by omega] at tk
      rw [tk]; rfl
    have w1 := q1.ex ((e2.trans e3).trans e4)
    have w3 := q3.ex e4
    refine ⟨WB b, H3, x, dx, _, _, _, _, _, _, _, _, _, _, _, lawA (List.replicate n.toNat (.tuple [])) (List.replicate n.toNat (n * s0 + n * w0 + 1 + 16)) (.tuple []) .none .none 0 0 0 s0 w0, rfl, e4, hx, h4, .lst (e4.at_ (e3.at_ (e2.at_ h1))) w1, .lst (e4.at_ h3) w3, .tup (.inr T.K_e_Setup__init_rights) .nil, .non, .non, .int _, .int _, .int _, .tup (.inr T.K_e_Setup__init_lines) .nil, .int _, .int _, fun p hp _ => (by rw [List.eq_of_mem_replicate (show p ∈ List.replicate n.toNat (PyData.tuple []) from hp)]; rfl), (fun r hr => nomatch hr), Nat.zero_le _, fun f j fj => (by rw [good] at fj; cases fj), fun _ H5 e5 sa => ⟨rfl, ?_⟩⟩
    have sz := lawA_size sa (n := n) (by rw [List.length_replicate]; omega)
    obtain ⟨dx', vp, vt, vq, vd, vl, vr, a5, d1, d2, _⟩ := id sa
    have iv5 := e5.iv
    have h35 := e5.at_ h3
    have lx3e := q3.length
    rw [turnsD_len, List.length_replicate] at lx3e
    walk_at "lw go"
    refine rd_fld ?_
    walk_at "lw gi"
    refine ⟨x, _, _, _, _, rfl, a5.1, T.cl_Setup, T.na_Setup_turns, rfl, ?_⟩
    walk_at "lw gi"
    rename_i t6 H6 f6 e6 h6
    have e36 := e5.trans e6
    have dt : DW K (WB b) H5 vt (.tuple (turnsD (List.replicate n.toNat (n * s0 + n * w0 + 1 + 16)))) := by rw [← rows_turns]; exact d2
    refine cl_law_same (W := WB b) (dt.ex e6) (.tup (.inl h6) (q3.ex e36)) (flat_turns (by rw [List.length_replicate]; omega)) ?_
    walk_at "lw gi"
    refine rd_callS ?_
    walk_at "lw gi"
    refine ⟨WB b, x, "free", n, s0, w0, rfl, e6.iv, sz.mono e6, by omega, fun z => absurd (by decide +kernel) z, fun _ => ?_⟩
    rw [pr_x.2.2.2]
    walk_at "lw gi"
    refine cl_law_same (W := WB b) (d := .int (n * s0 + n * w0 + 1)) (.int _) (by rw [show n * s0 + n * w0 + 1 + 16 - 16 = n * s0 + n * w0 + 1 by omega]; exact .int _) rfl ?_
    have iv6 := e6.iv
    have h36 := e36.at_ h3
    walk_at "lw gi"
    rename_i at7 H7 e7 l7 u7 t8 H8 f8 e8 h8
    have e38 := (e36.trans e7).trans e8
    have h38 := e38.at_ h3
    refine rd_set (e3.trans e38) hc3 h38 (ix_in l7 (by rw [lx3e]; omega)) fun H9 e9 h9 o9 => ?_
    have kp : ∀ q us, At (WB b) H8 q (.tup us) → At (WB b) H9 q (.tup us) := fun q us hq => o9 _ _ (hq.ne h38 fun z => by cases z) hq
    have w9 : DWs K (WB b) H9 xs3 (turnsD (List.replicate n.toNat (n * s0 + n * w0 + 1 + 16))) := DWs.keepT kp (noLs_turns _) (q3.ex e38)
    have t9 : DW K (WB b) H9 (.ref t8) (.tuple [.int (at7.toNat : Nat), .int (n * s0 + n * w0 + 1 + 16 - 1)]) := by
      rw [show ((at7.toNat : Nat) : Int) = at7 by omega]
      exact .tup (.inl (kp _ _ h8)) (.cons (.int _) (.cons (.int _) .nil))
    have s9 : DWs K (WB b) H9 (xs3.set at7.toNat (.ref t8)) (turnsD ((List.replicate n.toNat (n * s0 + n * w0 + 1 + 16)).set at7.toNat (n * s0 + n * w0 + 1 + 16 - 1))) := by
      rw [turnsD_set]
      exact DWs.of (F2.set t9 at7.toNat w9.f2)
    have iv9 := e9.iv
    walk_at "lw go"
    refine rd_mkS ?_
    walk_at "lw go"
    refine ⟨rfl, rfl, fun y dy hy hdy ney => ?_⟩
    obtain ⟨e10, h10⟩ := new_ins (C := T.c_Setup) e9.iv hy hdy ney
    have bad : (lawA (List.replicate n.toNat (.tuple [])) ((List.replicate n.toNat (n * s0 + n * w0 + 1 + 16)).set at7.toNat (n * s0 + n * w0 + 1 + 16 - 1)) (.tuple []) .none .none 0 0 0 s0 w0).fault = some (("turns" : Str), at7) := by
      rw [lawA_fault (by rw [List.length_replicate]; omega) so (fun p hp => by rw [List.eq_of_mem_replicate hp]; exact ⟨rfl, rfl⟩) rfl rfl (by decide) (by decide) (by decide) rfl]
      have tk := turns_bad (n := n.toNat) (i := at7.toNat) (least := freeP n s0 w0 + 16) (t := n * s0 + n * w0 + 1 + 16 - 1) (ts := (List.replicate n.toNat (n * s0 + n * w0 + 1 + 16)).set at7.toNat (n * s0 + n * w0 + 1 + 16 - 1)) (by omega) (by rw [List.length_set, List.length_replicate]) (List.getElem?_set_self (by rw [List.length_replicate]; omega)) (by unfold freeP; omega) (fun j u hj hu => by
        rw [List.getElem?_set_ne (Ne.symm hj)] at hu
        rw [List.eq_of_mem_replicate (List.mem_of_getElem? hu)]
        unfold freeP; omega)
      rw [show ((n.toNat : Nat) : Int) = n by omega, show ((at7.toNat : Nat) : Int) = at7 by omega] at tk
      unfold turnsD at tk
      rw [tk]; rfl
    refine ⟨WB b, H9, y, dy, _, _, _, _, _, _, _, _, _, _, _, lawA (List.replicate n.toNat (.tuple [])) ((List.replicate n.toNat (n * s0 + n * w0 + 1 + 16)).set at7.toNat (n * s0 + n * w0 + 1 + 16 - 1)) (.tuple []) .none .none 0 0 0 s0 w0, rfl, e10, hy, h10, .lst (e10.at_ (e9.at_ (e2.at_ h1))) (q1.ex ((e2.trans e9).trans e10)), .lst (e10.at_ h9) (s9.ex e10), .tup (.inr T.K_e_Setup__init_rights) .nil, .non, .non, .int _, .int _, .int _, .tup (.inr T.K_e_Setup__init_lines) .nil, .int _, .int _, fun p hp _ => (by rw [List.eq_of_mem_replicate (show p ∈ List.replicate n.toNat (PyData.tuple []) from hp)]; rfl), (fun r hr => nomatch hr), Nat.zero_le _, fun f j fj u H11 e11 h11 => ?_, fun fn => (by rw [bad] at fn; cases fn)⟩
    rw [bad] at fj
    cases fj
    refine ⟨true, T.m_BadSetup, fun _ ea hea => ?_, fun z => nomatch z⟩
    walk_at "lw all"
    refine rd_xfs (W := WB b) rfl h11 rfl rfl rfl ?_
    walk_at "lw all"
    refine cl_law_same (W := WB b) (d := .str "turns") (.str _) (.str _) rfl ?_
    walk_at "lw gi"
    refine rd_xfs (W := WB b) rfl h11 rfl rfl rfl ?_
    walk_at "lw all"
    refine cl_law_same (W := WB b) (d := .int at7) (.int _) (.int _) rfl ?_
    walk_at "lw all"
    exact k _ (((e1.trans e2).trans e9).trans e11)

theorem ok_law_at (T : Tx P w K mg) {f : Addr} {fd : FuncData} (F : Fun K "law" "law" s_law f fd) : FnOk P w K mg base CX0 9 f fd ["script"] (spLaw K) := by
  refine F.ok sc_law (fun vs H Q E h => ?_) (fun cdv A outer s H vs Q E hr h => ?_)
  · obtain ⟨a, ns, rfl, ha, hn, k⟩ := h
    rfl
  · obtain ⟨a, ns, rfl, ha, hn, k⟩ := h
    refine ⟨_, (pss_cons (ps_set (i := 1) sc_law.nd rfl (by first | exact Or.inl rfl | exact Or.inr rfl) (pe_call (ok_law_bag T) (hr.mono (by decide)) (by rfl) T.g_law_bag T.F_law_bag.kp T.b_law_bag .nil pass0 (pa_cons (pv 0) pa_nil)))
      (pss_cons (ps_set (i := 2) sc_law.nd rfl (by first | exact Or.inl rfl | exact Or.inr rfl) (pe_call (ok_law_sizes T) (hr.mono (by decide)) (by rfl) T.g_law_sizes T.F_law_sizes.kp T.b_law_sizes .nil pass0 (pa_cons (pv 1) pa_nil)))
      (pss_cons (ps_set (i := 3) sc_law.nd rfl (by first | exact Or.inl rfl | exact Or.inr rfl) (pe_call (ok_law_sizes T) (hr.mono (by decide)) (by rfl) T.g_law_sizes T.F_law_sizes.kp T.b_law_sizes .nil pass0 (pa_cons (pv 1) pa_nil)))
      (pss_cons (ps_set (i := 4) sc_law.nd rfl (by first | exact Or.inl rfl | exact Or.inr rfl) (pe_call (ok_law_setup T) hr (by rfl) T.g_law_setup T.F_law_setup.kp T.b_law_setup .nil pass0 (pa_cons (pv 1) (pa_cons (pv 2) (pa_cons pe_int pa_nil)))))
      (pss_cons (ps_set (i := 5) sc_law.nd rfl (by first | exact Or.inl rfl | exact Or.inr rfl) (pe_call (ok_law_setup T) hr (by rfl) T.g_law_setup T.F_law_setup.kp T.b_law_setup .nil pass0 (pa_cons (pv 1) (pa_cons (pv 3) (pa_cons pe_int pa_nil)))))
      (pss_cons (ps_set (i := 6) sc_law.nd rfl (by first | exact Or.inl rfl | exact Or.inr rfl) (pe_call (ok_law_setup T) hr (by rfl) T.g_law_setup T.F_law_setup.kp T.b_law_setup .nil pass0 (pa_cons (pv 1) (pa_cons (pv 2) (pa_cons pe_int pa_nil)))))
      (pss_cons (ps_set (i := 7) sc_law.nd rfl (by first | exact Or.inl rfl | exact Or.inr rfl) (pe_call (ok_law_take T) (hr.mono (by decide)) (by rfl) T.g_law_take T.F_law_take.kp T.b_law_take .nil pass0 (pa_cons (pv 1) (pa_cons pe_int pa_nil))))
      (pss_cons (ps_set (i := 8) sc_law.nd rfl (by first | exact Or.inl rfl | exact Or.inr rfl) (pe_op op_cat (pe_slice (r := rSlL K) sl_list (pe_call0 (ok_law_deeds T) (hr.mono (by decide)) (by rfl) T.g_law_deeds T.F_law_deeds.kp T.b_law_deeds .nil pass0) (po_some (pv 7)) po_none) (pe_slice (r := rSlL K) sl_list (pe_call0 (ok_law_deeds T) (hr.mono (by decide)) (by rfl) T.g_law_deeds T.F_law_deeds.kp T.b_law_deeds .nil pass0) po_none (po_some (pv 7)))))
      (pss_cut (ps_if (pt_cmpR op_eq (pe_call (ok_law_take T) (hr.mono (by decide)) (by rfl) T.g_law_take T.F_law_take.kp T.b_law_take .nil pass0 (pa_cons (pv 1) (pa_cons pe_int pa_nil))) pe_int (nomark _))
        (pss_one (ps_set (i := 8) sc_law.nd rfl (by first | exact Or.inl rfl | exact Or.inr rfl) (pe_revL (pv 8))))
        pss_nil)
      (pss_cons (ps_if (PW.pt (pw_or (pt_not (pt_val (pe_call (ok_law_same_at2 T) (hr.mono (by decide)) (by rfl) T.g_law_same T.F_law_same.kp T.b_law_same .nil pass0 (pa_cons (pe_glob (v := .ref T.a_DEEDS) rfl T.g_DEEDS rfl) (pa_cons (pe_callTy (r := Lw.rTupO K) c_tuple (by rfl) T.n_tuple (by decide +kernel) (pa_cons (pe_call0 (ok_law_deeds T) (hr.mono (by decide)) (by rfl) T.g_law_deeds T.F_law_deeds.kp T.b_law_deeds .nil pass0) pa_nil)) pa_nil))))) (pw_or1 (pt_not (pt_val (pe_call (ok_law_asks_names T) (hr.mono (by decide)) (by rfl) T.g_law_asks_names T.F_law_asks_names.kp T.b_law_asks_names .nil pass0 (pa_cons (pv 4) (pa_cons (pv 2) (pa_cons (pv 8) pa_nil)))))))))
        (pss_one (ps_ret pe_bl))
        pss_nil)
      (pss_cons (ps_if (PW.pt (pw_or (pt_not (pt_val (pe_call (ok_law_asks_names T) (hr.mono (by decide)) (by rfl) T.g_law_asks_names T.F_law_asks_names.kp T.b_law_asks_names .nil pass0 (pa_cons (pv 5) (pa_cons (pv 3) (pa_cons (pv 8) pa_nil)))))) (pw_or1 (pt_not (pt_val (pe_call (ok_law_asks_names T) (hr.mono (by decide)) (by rfl) T.g_law_asks_names T.F_law_asks_names.kp T.b_law_asks_names .nil pass0 (pa_cons (pv 6) (pa_cons (pv 2) (pa_cons (pv 8) pa_nil)))))))))
        (pss_one (ps_ret pe_bl))
        pss_nil)
      (pss_cons (ps_if (PW.pt (pw_or (pt_not (pt_val (pe_call (ok_law_asks_strangers T) (hr.mono (by decide)) (by rfl) T.g_law_asks_strangers T.F_law_asks_strangers.kp T.b_law_asks_strangers .nil pass0 (pa_cons (pv 1) (pa_cons (pv 5) (pa_cons (pv 3) pa_nil)))))) (pw_or1 (pt_not (pt_val (pe_call (ok_law_asks_strangers T) (hr.mono (by decide)) (by rfl) T.g_law_asks_strangers T.F_law_asks_strangers.kp T.b_law_asks_strangers .nil pass0 (pa_cons (pv 1) (pa_cons (pv 4) (pa_cons (pv 2) pa_nil)))))))))
        (pss_one (ps_ret pe_bl))
        pss_nil)
      (pss_cons (ps_if (PW.pt (pw_or (pt_not (pt_val (pe_call (ok_law_asks_turns T) hr (by rfl) T.g_law_asks_turns T.F_law_asks_turns.kp T.b_law_asks_turns .nil pass0 (pa_cons (pv 1) (pa_cons (pv 2) pa_nil))))) (pw_or1 (pt_not (pt_val (pe_call (ok_law_asks_turns T) hr (by rfl) T.g_law_asks_turns T.F_law_asks_turns.kp T.b_law_asks_turns .nil pass0 (pa_cons (pv 1) (pa_cons (pv 3) pa_nil))))))))
        (pss_one (ps_ret pe_bl))
        pss_nil)
      (pss_one (ps_ret (pe_and (pe_call (ok_law_asks_names T) (hr.mono (by decide)) (by rfl) T.g_law_asks_names T.F_law_asks_names.kp T.b_law_asks_names .nil pass0 (pa_cons (pv 4) (pa_cons (pv 2) (pa_cons (pv 8) pa_nil)))) (pe_one (pe_call (ok_law_asks_names T) (hr.mono (by decide)) (by rfl) T.g_law_asks_names T.F_law_asks_names.kp T.b_law_asks_names .nil pass0 (pa_cons (pv 5) (pa_cons (pv 3) (pa_cons (pv 8) pa_nil))))))))))))))))))))), ?_⟩
    walk_at "lw go"
    refine ⟨a, ns, rfl, ha, hn, fun b H1 iv => ?_⟩
    walk_at "lw go"
    refine ⟨b, rfl, iv, fun n s0 w0 z H2 e2 h2 so => ?_⟩
    walk_at "lw go"
    refine ⟨b, rfl, e2.iv, fun n' s' w' z' H3 e3 h3 so' => ?_⟩
    walk_at "lw go"
    refine ⟨b, z, n, s0, w0, 0, rfl, e3.iv, e3.at_ h2, so, by decide, by decide, fun p H4 e4 sp => ?_⟩
    walk_at "lw go"
    refine ⟨b, z', n', s', w', 0, rfl, e4.iv, e4.at_ h3, so', by decide, by decide, fun p' H5 e5 sp' => ?_⟩
    have e35 := e4.trans e5
    walk_at "lw go"
    refine ⟨b, z, n, s0, w0, 1, rfl, e5.iv, e35.at_ (e3.at_ h2), so, by decide, by decide, fun p2 H6 e6 sp2 => ?_⟩
    have iv6 := e6.iv
    have e36 := e35.trans e6
    walk_at "lw go"
    rename_i st H7 e7 l7 u7
    have h23 : deedsL.length = 23 := rfl
    refine ⟨WB b, rfl, e7.iv, fun q8 H8 f8 e8 h8 => ?_⟩
    walk_at "lw go"
    rename_i q9 H9 f9 e9 h9
    have lc9 : (cutV (deedsL.map V.str) (some st) none).length ≤ 23 := Nat.le_trans (cut_len _ _ _) (by rw [List.length_map]; exact Nat.le_refl _)
    refine ⟨WB b, rfl, e9.iv, fun q10 H10 f10 e10 h10 => ?_⟩
    have lc10 : (cutV (deedsL.map V.str) none (some st)).length ≤ 23 := Nat.le_trans (cut_len _ _ _) (by rw [List.length_map]; exact Nat.le_refl _)
    have h910 := e10.at_ h9
    walk_at "lw go"
    rename_i l11 H11 f11 e11 h11 l12 H12 f12 e12 h12
    have e712 := ((((e7.trans e8).trans e9).trans e10).trans e11).trans e12
    have iv12 := e12.iv
    have h12 : At (WB b) H12 l12 (.lst ((deedsL.drop st.toNat ++ deedsL.take st.toNat).map V.str)) := by
      rw [List.map_append, List.map_drop, List.map_take, ← cut_from _ _ l7, ← cut_to _ _ l7]
      exact h12
    have all : ∀ x ∈ deedsL.drop st.toNat ++ deedsL.take st.toNat, x ∈ deedsL := fun x hx => (List.mem_append.mp hx).elim List.mem_of_mem_drop List.mem_of_mem_take
    refine rd_cut (fun σ' H' => ∃ (l : Addr) (nms : List Str), σ' = [some (.ref a), some (.ref b), some (.ref z), some (.ref z'), some (.ref p), some (.ref p'), some (.ref p2), some (.int st), some (.ref l)] ∧ Ex (WB b) H6 H' ∧ At (WB b) H' l (.lst (nms.map V.str)) ∧ (∀ x ∈ nms, x ∈ deedsL)) ?_ ?_
    · walk_at "lw go"
      rename_i r13 H13 e13 l13 u13
      refine ifI ?_ ?_ <;> intro h1
      · walk_at "lw go"
        refine rd_revL ?_
        walk_at "lw go"
        refine rd_revA e13.iv (e13.at_ h12) fun l14 H14 f14 e14 h14 => ?_
        walk_at "lw go"
        exact ⟨l14, (deedsL.drop st.toNat ++ deedsL.take st.toNat).reverse, rfl, e712.trans (e13.trans e14), by rw [List.map_reverse]; exact h14, fun x hx => all x (List.mem_reverse.mp hx)⟩
      · walk_at "lw go"
        exact ⟨l12, _, rfl, e712.trans e13, e13.at_ h12, all⟩
    rintro σ' H13 ⟨l, nms, rfl, e13, h13, hall⟩
    have iv13 := e13.iv
    have sp13 := (sp.mono (e5.trans e6)).mono e13
    have sp13' := (sp'.mono e6).mono e13
    have sq13 := sp2.mono e13
    have hz13 := e13.at_ (e36.at_ (e3.at_ h2))
    have hz13' := e13.at_ (e36.at_ h3)
    walk_at "lw go"
    refine ⟨WB b, rfl, iv13, fun q14 H14 f14 e14 h14 => ?_⟩
    walk_at "lw go"
    rename_i t15 H15 f15 e15 h15
    refine cl_law_same (W := WB b) (d := .tuple (deedsL.map .str)) (.tup (.inr T.K_DEEDS) (DWs.strs deedsL)) (.tup (.inl h15) (DWs.strs deedsL)) (by decide +kernel) ?_
    have e1315 := e14.trans e15
    walk_at "lw gi"
    refine ⟨WB b, p, z, l, nms, n, s0, w0, rfl, e15.iv, sp13.mono e1315, e1315.at_ hz13, so, e1315.at_ h13, hall, fun H16 e16 => ?_⟩
    have f16 := e1315.trans e16
    walk_at "lw gi"
    refine ⟨WB b, p', z', l, nms, n', s', w', rfl, f16.iv, sp13'.mono f16, f16.at_ hz13', so', f16.at_ h13, hall, fun H17 e17 => ?_⟩
    have f17 := f16.trans e17
    walk_at "lw gi"
    refine ⟨WB b, p2, z, l, nms, n, s0, w0, rfl, f17.iv, sq13.mono f17, f17.at_ hz13, so, f17.at_ h13, hall, fun H18 e18 => ?_⟩
    have f18 := f17.trans e18
    walk_at "lw gi"
    refine ⟨b, p', z', n', s', w', rfl, f18.iv, sp13'.mono f18, f18.at_ hz13', so', fun H19 e19 => ?_⟩
    have f19 := f18.trans e19
    walk_at "lw gi"
    refine ⟨b, p, z, n, s0, w0, rfl, f19.iv, sp13.mono f19, f19.at_ hz13, so, fun H20 e20 => ?_⟩
    have f20 := f19.trans e20
    walk_at "lw gi"
    refine ⟨b, z, n, s0, w0, rfl, f20.iv, f20.at_ hz13, so, fun H21 e21 => ?_⟩
    have f21 := f20.trans e21
    walk_at "lw gi"
    refine ⟨b, z', n', s', w', rfl, f21.iv, f21.at_ hz13', so', fun H22 e22 => ?_⟩
    have f22 := f21.trans e22
    walk_at "lw gi"
    refine ⟨WB b, p, z, l, nms, n, s0, w0, rfl, f22.iv, sp13.mono f22, f22.at_ hz13, so, f22.at_ h13, hall, fun H23 e23 => ?_⟩
    have f23 := f22.trans e23
    walk_at "lw gi"
    exact ⟨WB b, p', z', l, nms, n', s', w', rfl, f23.iv, sp13'.mono f23, f23.at_ hz13', so', f23.at_ h13, hall, fun H24 e24 => k H24⟩

end

theorem all_mk {l : PySem.W.OpenLaw} {w : World} {K : PySem.W.Frag} {h : Heap} {mg : Str → Option Value} {fa : Addr} (X : K.In h) (G : h.Ns mainGlobals mg) (hfa : mg "law" = some (.ref fa))
    {cc_Setup : Addr}
    {f0 : Addr} {od0 an0 : Option Addr} {sl0 : Array (Option Value)} {oc0 kV0 dc0 pm0 cd0 ct0 : Value}
    {f1 : Addr} {od1 an1 : Option Addr} {sl1 : Array (Option Value)} {oc1 kV1 dc1 pm1 cd1 ct1 : Value}
    {f2 : Addr} {od2 an2 : Option Addr} {sl2 : Array (Option Value)} {oc2 kV2 dc2 pm2 cd2 ct2 : Value}
    {f3 : Addr} {od3 an3 : Option Addr} {sl3 : Array (Option Value)} {oc3 kV3 dc3 pm3 cd3 ct3 : Value}
    {f4 : Addr} {od4 an4 : Option Addr} {sl4 : Array (Option Value)} {oc4 kV4 dc4 pm4 cd4 ct4 : Value}
    {f5 : Addr} {od5 an5 : Option Addr} {sl5 : Array (Option Value)} {oc5 kV5 dc5 pm5 cd5 ct5 : Value}
    {f6 : Addr} {od6 an6 : Option Addr} {sl6 : Array (Option Value)} {oc6 kV6 dc6 pm6 cd6 ct6 : Value}
    {f7 : Addr} {od7 an7 : Option Addr} {sl7 : Array (Option Value)} {oc7 kV7 dc7 pm7 cd7 ct7 : Value}
    {f8 : Addr} {od8 an8 : Option Addr} {sl8 : Array (Option Value)} {oc8 kV8 dc8 pm8 cd8 ct8 : Value}
    {f9 : Addr} {od9 an9 : Option Addr} {sl9 : Array (Option Value)} {oc9 kV9 dc9 pm9 cd9 ct9 : Value}
    {f10 : Addr} {od10 an10 : Option Addr} {sl10 : Array (Option Value)} {oc10 kV10 dc10 pm10 cd10 ct10 : Value}
    {f11 : Addr} {od11 an11 : Option Addr} {sl11 : Array (Option Value)} {oc11 kV11 dc11 pm11 cd11 ct11 : Value}
    {f12 : Addr} {od12 an12 : Option Addr} {sl12 : Array (Option Value)} {oc12 kV12 dc12 pm12 cd12 ct12 : Value}
    {f13 : Addr} {od13 an13 : Option Addr} {sl13 : Array (Option Value)} {oc13 kV13 dc13 pm13 cd13 ct13 : Value}
    {f14 : Addr} {od14 an14 : Option Addr} {sl14 : Array (Option Value)} {oc14 kV14 dc14 pm14 cd14 ct14 : Value}
    {f15 : Addr} {od15 an15 : Option Addr} {sl15 : Array (Option Value)} {oc15 kV15 dc15 pm15 cd15 ct15 : Value}
    {f16 : Addr} {od16 an16 : Option Addr} {sl16 : Array (Option Value)} {oc16 kV16 dc16 pm16 cd16 ct16 : Value}
    {f17 : Addr} {od17 an17 : Option Addr} {sl17 : Array (Option Value)} {oc17 kV17 dc17 pm17 cd17 ct17 : Value}
    {f18 : Addr} {od18 an18 : Option Addr} {sl18 : Array (Option Value)} {oc18 kV18 dc18 pm18 cd18 ct18 : Value}
    {f19 : Addr} {od19 an19 : Option Addr} {sl19 : Array (Option Value)} {oc19 kV19 dc19 pm19 cd19 ct19 : Value}
    {f20 : Addr} {od20 an20 : Option Addr} {sl20 : Array (Option Value)} {oc20 kV20 dc20 pm20 cd20 ct20 : Value}
    {f21 : Addr} {od21 an21 : Option Addr} {sl21 : Array (Option Value)} {oc21 kV21 dc21 pm21 cd21 ct21 : Value}
    {f22 : Addr} {od22 an22 : Option Addr} {sl22 : Array (Option Value)} {oc22 kV22 dc22 pm22 cd22 ct22 : Value}
    {f23 : Addr} {od23 an23 : Option Addr} {sl23 : Array (Option Value)} {oc23 kV23 dc23 pm23 cd23 ct23 : Value}
    {f24 : Addr} {od24 an24 : Option Addr} {sl24 : Array (Option Value)} {oc24 kV24 dc24 pm24 cd24 ct24 : Value}
    {f25 : Addr} {od25 an25 : Option Addr} {sl25 : Array (Option Value)} {oc25 kV25 dc25 pm25 cd25 ct25 : Value}
    {f26 : Addr} {od26 an26 : Option Addr} {sl26 : Array (Option Value)} {oc26  dc26 pm26 cd26 ct26 : Value} {kD26 : Addr}
    {de26_rights : Addr} {ds26_rights : Array Value} {dn26_rights : Nat} {dd26_rights : Option Addr} {dl26_rights : Array (Option Value)}
    {dt26_pages : Tok}
    {dt26_ports : Tok}
    {dt26_bells : Tok}
    {de26_lines : Addr} {ds26_lines : Array Value} {dn26_lines : Nat} {dd26_lines : Option Addr} {dl26_lines : Array (Option Value)}
    {dt26_slots : Tok}
    {dt26_windows : Tok}
    {f27 : Addr} {od27 an27 : Option Addr} {sl27 : Array (Option Value)} {oc27 kV27 dc27 pm27 cd27 ct27 : Value}
    {f28 : Addr} {od28 an28 : Option Addr} {sl28 : Array (Option Value)} {oc28 kV28 dc28 pm28 cd28 ct28 : Value}
    {f29 : Addr} {od29 an29 : Option Addr} {sl29 : Array (Option Value)} {oc29 kV29 dc29 pm29 cd29 ct29 : Value}
    {f30 : Addr} {od30 an30 : Option Addr} {sl30 : Array (Option Value)} {oc30 kV30 dc30 pm30 cd30 ct30 : Value}
    {f31 : Addr} {od31 an31 : Option Addr} {sl31 : Array (Option Value)} {oc31 kV31 dc31 pm31 cd31 ct31 : Value}
    {f32 : Addr} {od32 an32 : Option Addr} {sl32 : Array (Option Value)} {oc32 kV32 dc32 pm32 cd32 ct32 : Value}
    {f33 : Addr} {od33 an33 : Option Addr} {sl33 : Array (Option Value)} {oc33 kV33 dc33 pm33 cd33 ct33 : Value}
    {f34 : Addr} {od34 an34 : Option Addr} {sl34 : Array (Option Value)} {oc34 kV34 dc34 pm34 cd34 ct34 : Value}
    {f35 : Addr} {od35 an35 : Option Addr} {sl35 : Array (Option Value)} {oc35 kV35 dc35 pm35 cd35 ct35 : Value}
    {f36 : Addr} {od36 an36 : Option Addr} {sl36 : Array (Option Value)} {oc36 kV36 dc36 pm36 cd36 ct36 : Value}
    {f37 : Addr} {od37 an37 : Option Addr} {sl37 : Array (Option Value)} {oc37 kV37 dc37 pm37 cd37 ct37 : Value}
    {f38 : Addr} {od38 an38 : Option Addr} {sl38 : Array (Option Value)} {oc38 kV38 dc38 pm38 cd38 ct38 : Value}
    {f39 : Addr} {od39 an39 : Option Addr} {sl39 : Array (Option Value)} {oc39 kV39 dc39 pm39 cd39 ct39 : Value}
    {f40 : Addr} {od40 an40 : Option Addr} {sl40 : Array (Option Value)} {oc40 kV40 dc40 pm40 cd40 ct40 : Value}
    {f41 : Addr} {od41 an41 : Option Addr} {sl41 : Array (Option Value)} {oc41 kV41 dc41 pm41 cd41 ct41 : Value}
    {f42 : Addr} {od42 an42 : Option Addr} {sl42 : Array (Option Value)} {oc42 kV42 dc42 pm42 cd42 ct42 : Value}
    {f43 : Addr} {od43 an43 : Option Addr} {sl43 : Array (Option Value)} {oc43 kV43 dc43 pm43 cd43 ct43 : Value}
    {f44 : Addr} {od44 an44 : Option Addr} {sl44 : Array (Option Value)} {oc44 kV44 dc44 pm44 cd44 ct44 : Value}
    {f45 : Addr} {od45 an45 : Option Addr} {sl45 : Array (Option Value)} {oc45 kV45 dc45 pm45 cd45 ct45 : Value}
    {aK_DEEDS : Addr} {its_DEEDS : Array Value} {n_DEEDS : Nat} {dd_DEEDS : Option Addr} {sl_DEEDS : Array (Option Value)}
    {aK_LETTERS : Addr} {es_LETTERS : Array DictEntry} {n_LETTERS : Nat}
    {tk_LETTERS_page : Tok}
    {tk_LETTERS_claim : Tok}
    {tk_LETTERS_port : Tok}
    {tk_LETTERS_bell : Tok}
    {tk_LETTERS_line : Tok}
    {tk_LETTERS_process : Tok}
    {tk_LONGEST : Tok}
    {tk_MOST_BELLS : Tok}
    {tk_MOST_CLAIMS : Tok}
    {tk_MOST_DATA : Tok}
    {tk_MOST_LINES : Tok}
    {tk_MOST_PAGES : Tok}
    {tk_MOST_PORTS : Tok}
    {tk_MOST_PROCESSES : Tok}
    {tk_MOST_SLOTS : Tok}
    {tk_MOST_TICKS : Tok}
    {tk_MOST_TURNS : Tok}
    {tk_MOST_WINDOWS : Tok}
    {aK_PRICES : Addr} {es_PRICES : Array DictEntry} {n_PRICES : Nat}
    {tk_PRICES_halt : Tok}
    {tk_PRICES_until : Tok}
    {tk_PRICES_clock : Tok}
    {tk_PRICES_look : Tok}
    {tk_PRICES_claim : Tok}
    {tk_PRICES_copy : Tok}
    {tk_PRICES_map : Tok}
    {tk_PRICES_unmap : Tok}
    {tk_PRICES_send : Tok}
    {tk_PRICES_take : Tok}
    {tk_PRICES_trysend : Tok}
    {tk_PRICES_trytake : Tok}
    {tk_PRICES_call : Tok}
    {tk_PRICES_reply : Tok}
    {tk_PRICES_ring : Tok}
    {tk_PRICES_await : Tok}
    {tk_PRICES_tryawait : Tok}
    {tk_PRICES_ack : Tok}
    {tk_PRICES_give : Tok}
    {tk_PRICES_pull : Tok}
    {tk_REGISTERS : Tok}
    {aK_ROLES : Addr} {es_ROLES : Array DictEntry} {n_ROLES : Nat}
    {r_ROLES_set : Addr} {its_ROLES_set : Array Value} {n_ROLES_set : Nat} {dd_ROLES_set : Option Addr} {sl_ROLES_set : Array (Option Value)}
    {r_ROLES_move : Addr} {its_ROLES_move : Array Value} {n_ROLES_move : Nat} {dd_ROLES_move : Option Addr} {sl_ROLES_move : Array (Option Value)}
    {r_ROLES_add : Addr} {its_ROLES_add : Array Value} {n_ROLES_add : Nat} {dd_ROLES_add : Option Addr} {sl_ROLES_add : Array (Option Value)}
    {r_ROLES_sub : Addr} {its_ROLES_sub : Array Value} {n_ROLES_sub : Nat} {dd_ROLES_sub : Option Addr} {sl_ROLES_sub : Array (Option Value)}
    {r_ROLES_load : Addr} {its_ROLES_load : Array Value} {n_ROLES_load : Nat} {dd_ROLES_load : Option Addr} {sl_ROLES_load : Array (Option Value)}
    {r_ROLES_store : Addr} {its_ROLES_store : Array Value} {n_ROLES_store : Nat} {dd_ROLES_store : Option Addr} {sl_ROLES_store : Array (Option Value)}
    {r_ROLES_jump : Addr} {its_ROLES_jump : Array Value} {n_ROLES_jump : Nat} {dd_ROLES_jump : Option Addr} {sl_ROLES_jump : Array (Option Value)}
    {r_ROLES_zero : Addr} {its_ROLES_zero : Array Value} {n_ROLES_zero : Nat} {dd_ROLES_zero : Option Addr} {sl_ROLES_zero : Array (Option Value)}
    {r_ROLES_deed : Addr} {its_ROLES_deed : Array Value} {n_ROLES_deed : Nat} {dd_ROLES_deed : Option Addr} {sl_ROLES_deed : Array (Option Value)}
    {tk_WORD : Tok}
    {cc_InputError : Addr}
    {cc_BadNumber : Addr}
    {cc_BadProgram : Addr}
    {ci_BadProgram N_BadProgram da_BadProgram cl_BadProgram : Addr} {nm_BadProgram q_BadProgram qu_BadProgram m_BadProgram fi_BadProgram : Str} {bs_BadProgram bm_BadProgram sub_BadProgram : List Value} {sn_BadProgram : List Str} {ab_BadProgram : Bool} {col_BadProgram : Option Bool} {dd_BadProgram od_BadProgram an_BadProgram cld_BadProgram cdd_BadProgram : Option Addr} {k0_BadProgram k1_BadProgram k2_BadProgram k3_BadProgram k5_BadProgram : Option Value} {oc_BadProgram doc_BadProgram pm_BadProgram ct_BadProgram clv_BadProgram ccl_BadProgram : Value} {osl_BadProgram csl_BadProgram ccs_BadProgram : Array (Option Value)} {vs_BadProgram : Array Value} {nn_BadProgram : Nat} {tf_BadProgram : Tok} {p1_BadProgram p2_BadProgram a0_BadProgram a1_BadProgram a2_BadProgram a3_BadProgram a4_BadProgram a5_BadProgram q1_BadProgram q2_BadProgram q3_BadProgram q4_BadProgram : Pos}
    {cc_BadSetup : Addr}
    {ci_BadSetup N_BadSetup da_BadSetup cl_BadSetup : Addr} {nm_BadSetup q_BadSetup qu_BadSetup m_BadSetup fi_BadSetup : Str} {bs_BadSetup bm_BadSetup sub_BadSetup : List Value} {sn_BadSetup : List Str} {ab_BadSetup : Bool} {col_BadSetup : Option Bool} {dd_BadSetup od_BadSetup an_BadSetup cld_BadSetup cdd_BadSetup : Option Addr} {k0_BadSetup k1_BadSetup k2_BadSetup k3_BadSetup k5_BadSetup : Option Value} {oc_BadSetup doc_BadSetup pm_BadSetup ct_BadSetup clv_BadSetup ccl_BadSetup : Value} {osl_BadSetup csl_BadSetup ccs_BadSetup : Array (Option Value)} {vs_BadSetup : Array Value} {nn_BadSetup : Nat} {tf_BadSetup : Tok} {p1_BadSetup p2_BadSetup p3_BadSetup a0_BadSetup a1_BadSetup a2_BadSetup a3_BadSetup a4_BadSetup a5_BadSetup q1_BadSetup q2_BadSetup q3_BadSetup q4_BadSetup r1_BadSetup r2_BadSetup r3_BadSetup r4_BadSetup : Pos}
    {cc_BadDeed : Addr}
    {ci_BadDeed N_BadDeed da_BadDeed cl_BadDeed : Addr} {nm_BadDeed q_BadDeed qu_BadDeed m_BadDeed fi_BadDeed : Str} {bs_BadDeed bm_BadDeed sub_BadDeed : List Value} {sn_BadDeed : List Str} {ab_BadDeed : Bool} {col_BadDeed : Option Bool} {dd_BadDeed od_BadDeed an_BadDeed cld_BadDeed cdd_BadDeed : Option Addr} {k0_BadDeed k1_BadDeed k2_BadDeed k3_BadDeed k5_BadDeed : Option Value} {oc_BadDeed doc_BadDeed pm_BadDeed ct_BadDeed clv_BadDeed ccl_BadDeed : Value} {osl_BadDeed csl_BadDeed ccs_BadDeed : Array (Option Value)} {vs_BadDeed : Array Value} {nn_BadDeed : Nat} {tf_BadDeed : Tok} {p1_BadDeed p2_BadDeed a0_BadDeed a1_BadDeed a2_BadDeed a3_BadDeed a4_BadDeed a5_BadDeed q1_BadDeed q2_BadDeed q3_BadDeed q4_BadDeed : Pos}
    (ka_Setup : PySem.W.nsIn K mainGlobals "Setup" = some (some (.ref cc_Setup))) (pg_Setup : PySem.W.plainGet K cc_Setup Str.empty = true) (hd_Setup : PySem.W.hasDictIn K cc_Setup = true) (po_Setup : PySem.W.plainOver K cc_Setup = true) (sa_Setup : PySem.W.findIn K (.ref cc_Setup) "__setattr__" = some (some (.builtin "object.__setattr__"))) (mi_Setup : PySem.W.makesIn K cc_Setup = true) (kq_Setup : PySem.W.keepIn K (.ref cc_Setup) = true) (nf_programs_Setup : PySem.W.findIn K (.ref cc_Setup) "programs" = some none) (nf_slots_Setup : PySem.W.findIn K (.ref cc_Setup) "slots" = some none) (nf_windows_Setup : PySem.W.findIn K (.ref cc_Setup) "windows" = some none) (nf_turns_Setup : PySem.W.findIn K (.ref cc_Setup) "turns" = some none) (nf_quotas_Setup : PySem.W.findIn K (.ref cc_Setup) "quotas" = some none) (nf_data_Setup : PySem.W.findIn K (.ref cc_Setup) "data" = some none) (nf_pages_Setup : PySem.W.findIn K (.ref cc_Setup) "pages" = some none) (nf_ports_Setup : PySem.W.findIn K (.ref cc_Setup) "ports" = some none) (nf_bells_Setup : PySem.W.findIn K (.ref cc_Setup) "bells" = some none) (nf_lines_Setup : PySem.W.findIn K (.ref cc_Setup) "lines" = some none) (nf_rights_Setup : PySem.W.findIn K (.ref cc_Setup) "rights" = some none)
    (a0 : PySem.W.nsIn K mainGlobals "is_integer" = some (some (.ref f0))) (l0 : K.lookup f0 = some ⟨oc0, od0, .func (PySem.W.fnOf "is_integer" "is_integer" (defArgs s_is_integer) (defBody s_is_integer) (defScope s_is_integer) .none kV0 dc0 pm0 an0 cd0 ct0), sl0⟩) (c0 : PySem.W.codeIn K cd0 "is_integer" = true) (k0 : PySem.W.keepIn K (.ref f0) = true)
    (a1 : PySem.W.nsIn K mainGlobals "is_word" = some (some (.ref f1))) (l1 : K.lookup f1 = some ⟨oc1, od1, .func (PySem.W.fnOf "is_word" "is_word" (defArgs s_is_word) (defBody s_is_word) (defScope s_is_word) .none kV1 dc1 pm1 an1 cd1 ct1), sl1⟩) (c1 : PySem.W.codeIn K cd1 "is_word" = true) (k1 : PySem.W.keepIn K (.ref f1) = true)
    (a2 : PySem.W.nsIn K mainGlobals "_is_kind" = some (some (.ref f2))) (l2 : K.lookup f2 = some ⟨oc2, od2, .func (PySem.W.fnOf "_is_kind" "_is_kind" (defArgs s_is_kind) (defBody s_is_kind) (defScope s_is_kind) .none kV2 dc2 pm2 an2 cd2 ct2), sl2⟩) (c2 : PySem.W.codeIn K cd2 "_is_kind" = true) (k2 : PySem.W.keepIn K (.ref f2) = true)
    (a3 : PySem.W.nsIn K mainGlobals "in_order" = some (some (.ref f3))) (l3 : K.lookup f3 = some ⟨oc3, od3, .func (PySem.W.fnOf "in_order" "in_order" (defArgs s_in_order) (defBody s_in_order) (defScope s_in_order) .none kV3 dc3 pm3 an3 cd3 ct3), sl3⟩) (c3 : PySem.W.codeIn K cd3 "in_order" = true) (k3 : PySem.W.keepIn K (.ref f3) = true)
    (a4 : PySem.W.nsIn K mainGlobals "is_row" = some (some (.ref f4))) (l4 : K.lookup f4 = some ⟨oc4, od4, .func (PySem.W.fnOf "is_row" "is_row" (defArgs s_is_row) (defBody s_is_row) (defScope s_is_row) .none kV4 dc4 pm4 an4 cd4 ct4), sl4⟩) (c4 : PySem.W.codeIn K cd4 "is_row" = true) (k4 : PySem.W.keepIn K (.ref f4) = true)
    (a5 : PySem.W.nsIn K mainGlobals "_bound" = some (some (.ref f5))) (l5 : K.lookup f5 = some ⟨oc5, od5, .func (PySem.W.fnOf "_bound" "_bound" (defArgs s_bound) (defBody s_bound) (defScope s_bound) .none kV5 dc5 pm5 an5 cd5 ct5), sl5⟩) (c5 : PySem.W.codeIn K cd5 "_bound" = true) (k5 : PySem.W.keepIn K (.ref f5) = true)
    (a6 : PySem.W.nsIn K mainGlobals "_fits" = some (some (.ref f6))) (l6 : K.lookup f6 = some ⟨oc6, od6, .func (PySem.W.fnOf "_fits" "_fits" (defArgs s_fits) (defBody s_fits) (defScope s_fits) .none kV6 dc6 pm6 an6 cd6 ct6), sl6⟩) (c6 : PySem.W.codeIn K cd6 "_fits" = true) (k6 : PySem.W.keepIn K (.ref f6) = true)
    (a7 : PySem.W.nsIn K mainGlobals "is_instruction" = some (some (.ref f7))) (l7 : K.lookup f7 = some ⟨oc7, od7, .func (PySem.W.fnOf "is_instruction" "is_instruction" (defArgs s_is_instruction) (defBody s_is_instruction) (defScope s_is_instruction) .none kV7 dc7 pm7 an7 cd7 ct7), sl7⟩) (c7 : PySem.W.codeIn K cd7 "is_instruction" = true) (k7 : PySem.W.keepIn K (.ref f7) = true)
    (a8 : PySem.W.nsIn K mainGlobals "check_program" = some (some (.ref f8))) (l8 : K.lookup f8 = some ⟨oc8, od8, .func (PySem.W.fnOf "check_program" "check_program" (defArgs s_check_program) (defBody s_check_program) (defScope s_check_program) .none kV8 dc8 pm8 an8 cd8 ct8), sl8⟩) (c8 : PySem.W.codeIn K cd8 "check_program" = true) (k8 : PySem.W.keepIn K (.ref f8) = true)
    (a9 : PySem.W.nsIn K mainGlobals "kind_counts" = some (some (.ref f9))) (l9 : K.lookup f9 = some ⟨oc9, od9, .func (PySem.W.fnOf "kind_counts" "kind_counts" (defArgs s_kind_counts) (defBody s_kind_counts) (defScope s_kind_counts) .none kV9 dc9 pm9 an9 cd9 ct9), sl9⟩) (c9 : PySem.W.codeIn K cd9 "kind_counts" = true) (k9 : PySem.W.keepIn K (.ref f9) = true)
    (a10 : PySem.W.nsIn K mainGlobals "kind_of" = some (some (.ref f10))) (l10 : K.lookup f10 = some ⟨oc10, od10, .func (PySem.W.fnOf "kind_of" "kind_of" (defArgs s_kind_of) (defBody s_kind_of) (defScope s_kind_of) .none kV10 dc10 pm10 an10 cd10 ct10), sl10⟩) (c10 : PySem.W.codeIn K cd10 "kind_of" = true) (k10 : PySem.W.keepIn K (.ref f10) = true)
    (a11 : PySem.W.nsIn K mainGlobals "is_thing" = some (some (.ref f11))) (l11 : K.lookup f11 = some ⟨oc11, od11, .func (PySem.W.fnOf "is_thing" "is_thing" (defArgs s_is_thing) (defBody s_is_thing) (defScope s_is_thing) .none kV11 dc11 pm11 an11 cd11 ct11), sl11⟩) (c11 : PySem.W.codeIn K cd11 "is_thing" = true) (k11 : PySem.W.keepIn K (.ref f11) = true)
    (a12 : PySem.W.nsIn K mainGlobals "is_between" = some (some (.ref f12))) (l12 : K.lookup f12 = some ⟨oc12, od12, .func (PySem.W.fnOf "is_between" "is_between" (defArgs s_is_between) (defBody s_is_between) (defScope s_is_between) .none kV12 dc12 pm12 an12 cd12 ct12), sl12⟩) (c12 : PySem.W.codeIn K cd12 "is_between" = true) (k12 : PySem.W.keepIn K (.ref f12) = true)
    (a13 : PySem.W.nsIn K mainGlobals "free_price" = some (some (.ref f13))) (l13 : K.lookup f13 = some ⟨oc13, od13, .func (PySem.W.fnOf "free_price" "free_price" (defArgs s_free_price) (defBody s_free_price) (defScope s_free_price) .none kV13 dc13 pm13 an13 cd13 ct13), sl13⟩) (c13 : PySem.W.codeIn K cd13 "free_price" = true) (k13 : PySem.W.keepIn K (.ref f13) = true)
    (a14 : PySem.W.nsIn K mainGlobals "least_ticks" = some (some (.ref f14))) (l14 : K.lookup f14 = some ⟨oc14, od14, .func (PySem.W.fnOf "least_ticks" "least_ticks" (defArgs s_least_ticks) (defBody s_least_ticks) (defScope s_least_ticks) .none kV14 dc14 pm14 an14 cd14 ct14), sl14⟩) (c14 : PySem.W.codeIn K cd14 "least_ticks" = true) (k14 : PySem.W.keepIn K (.ref f14) = true)
    (a15 : PySem.W.nsIn K mainGlobals "checked_number" = some (some (.ref f15))) (l15 : K.lookup f15 = some ⟨oc15, od15, .func (PySem.W.fnOf "checked_number" "checked_number" (defArgs s_checked_number) (defBody s_checked_number) (defScope s_checked_number) .none kV15 dc15 pm15 an15 cd15 ct15), sl15⟩) (c15 : PySem.W.codeIn K cd15 "checked_number" = true) (k15 : PySem.W.keepIn K (.ref f15) = true)
    (a16 : PySem.W.nsIn K mainGlobals "checked_programs" = some (some (.ref f16))) (l16 : K.lookup f16 = some ⟨oc16, od16, .func (PySem.W.fnOf "checked_programs" "checked_programs" (defArgs s_checked_programs) (defBody s_checked_programs) (defScope s_checked_programs) .none kV16 dc16 pm16 an16 cd16 ct16), sl16⟩) (c16 : PySem.W.codeIn K cd16 "checked_programs" = true) (k16 : PySem.W.keepIn K (.ref f16) = true)
    (a17 : PySem.W.nsIn K mainGlobals "is_turn" = some (some (.ref f17))) (l17 : K.lookup f17 = some ⟨oc17, od17, .func (PySem.W.fnOf "is_turn" "is_turn" (defArgs s_is_turn) (defBody s_is_turn) (defScope s_is_turn) .none kV17 dc17 pm17 an17 cd17 ct17), sl17⟩) (c17 : PySem.W.codeIn K cd17 "is_turn" = true) (k17 : PySem.W.keepIn K (.ref f17) = true)
    (a18 : PySem.W.nsIn K mainGlobals "checked_turns" = some (some (.ref f18))) (l18 : K.lookup f18 = some ⟨oc18, od18, .func (PySem.W.fnOf "checked_turns" "checked_turns" (defArgs s_checked_turns) (defBody s_checked_turns) (defScope s_checked_turns) .none kV18 dc18 pm18 an18 cd18 ct18), sl18⟩) (c18 : PySem.W.codeIn K cd18 "checked_turns" = true) (k18 : PySem.W.keepIn K (.ref f18) = true)
    (a19 : PySem.W.nsIn K mainGlobals "checked_quotas" = some (some (.ref f19))) (l19 : K.lookup f19 = some ⟨oc19, od19, .func (PySem.W.fnOf "checked_quotas" "checked_quotas" (defArgs s_checked_quotas) (defBody s_checked_quotas) (defScope s_checked_quotas) .none kV19 dc19 pm19 an19 cd19 ct19), sl19⟩) (c19 : PySem.W.codeIn K cd19 "checked_quotas" = true) (k19 : PySem.W.keepIn K (.ref f19) = true)
    (a20 : PySem.W.nsIn K mainGlobals "is_data" = some (some (.ref f20))) (l20 : K.lookup f20 = some ⟨oc20, od20, .func (PySem.W.fnOf "is_data" "is_data" (defArgs s_is_data) (defBody s_is_data) (defScope s_is_data) .none kV20 dc20 pm20 an20 cd20 ct20), sl20⟩) (c20 : PySem.W.codeIn K cd20 "is_data" = true) (k20 : PySem.W.keepIn K (.ref f20) = true)
    (a21 : PySem.W.nsIn K mainGlobals "checked_data" = some (some (.ref f21))) (l21 : K.lookup f21 = some ⟨oc21, od21, .func (PySem.W.fnOf "checked_data" "checked_data" (defArgs s_checked_data) (defBody s_checked_data) (defScope s_checked_data) .none kV21 dc21 pm21 an21 cd21 ct21), sl21⟩) (c21 : PySem.W.codeIn K cd21 "checked_data" = true) (k21 : PySem.W.keepIn K (.ref f21) = true)
    (a22 : PySem.W.nsIn K mainGlobals "checked_lines" = some (some (.ref f22))) (l22 : K.lookup f22 = some ⟨oc22, od22, .func (PySem.W.fnOf "checked_lines" "checked_lines" (defArgs s_checked_lines) (defBody s_checked_lines) (defScope s_checked_lines) .none kV22 dc22 pm22 an22 cd22 ct22), sl22⟩) (c22 : PySem.W.codeIn K cd22 "checked_lines" = true) (k22 : PySem.W.keepIn K (.ref f22) = true)
    (a23 : PySem.W.nsIn K mainGlobals "right_row" = some (some (.ref f23))) (l23 : K.lookup f23 = some ⟨oc23, od23, .func (PySem.W.fnOf "right_row" "right_row" (defArgs s_right_row) (defBody s_right_row) (defScope s_right_row) .none kV23 dc23 pm23 an23 cd23 ct23), sl23⟩) (c23 : PySem.W.codeIn K cd23 "right_row" = true) (k23 : PySem.W.keepIn K (.ref f23) = true)
    (a24 : PySem.W.nsIn K mainGlobals "fits_parent" = some (some (.ref f24))) (l24 : K.lookup f24 = some ⟨oc24, od24, .func (PySem.W.fnOf "fits_parent" "fits_parent" (defArgs s_fits_parent) (defBody s_fits_parent) (defScope s_fits_parent) .none kV24 dc24 pm24 an24 cd24 ct24), sl24⟩) (c24 : PySem.W.codeIn K cd24 "fits_parent" = true) (k24 : PySem.W.keepIn K (.ref f24) = true)
    (a25 : PySem.W.nsIn K mainGlobals "checked_rights" = some (some (.ref f25))) (l25 : K.lookup f25 = some ⟨oc25, od25, .func (PySem.W.fnOf "checked_rights" "checked_rights" (defArgs s_checked_rights) (defBody s_checked_rights) (defScope s_checked_rights) .none kV25 dc25 pm25 an25 cd25 ct25), sl25⟩) (c25 : PySem.W.codeIn K cd25 "checked_rights" = true) (k25 : PySem.W.keepIn K (.ref f25) = true)
    (a26 : PySem.W.findIn K (.ref cc_Setup) "__init__" = some (some (.ref f26))) (l26 : K.lookup f26 = some ⟨oc26, od26, .func (PySem.W.fnOf "__init__" "Setup.__init__" (defArgs s_Setup__init) (defBody s_Setup__init) (defScope s_Setup__init) .none (.ref kD26) dc26 pm26 an26 cd26 ct26), sl26⟩) (c26 : PySem.W.codeIn K cd26 "Setup.__init__" = true) (k26 : PySem.W.keepIn K (.ref f26) = true)
    (i26 : PySem.W.isFn K (.ref f26) = true)
    (kd26_rights : PySem.W.nsIn K kD26 "rights" = some (some (.ref de26_rights))) (ke26_rights : K.lookup de26_rights = some ⟨.type "tuple", dd26_rights, .seq ds26_rights dn26_rights, dl26_rights⟩) (kf26_rights : ds26_rights.toList.map absV = ([] : List V).map some)
    (kd26_quotas : PySem.W.nsIn K kD26 "quotas" = some (some .none))
    (kd26_data : PySem.W.nsIn K kD26 "data" = some (some .none))
    (kd26_pages : PySem.W.nsIn K kD26 "pages" = some (some (.int 0 dt26_pages)))
    (kd26_ports : PySem.W.nsIn K kD26 "ports" = some (some (.int 0 dt26_ports)))
    (kd26_bells : PySem.W.nsIn K kD26 "bells" = some (some (.int 0 dt26_bells)))
    (kd26_lines : PySem.W.nsIn K kD26 "lines" = some (some (.ref de26_lines))) (ke26_lines : K.lookup de26_lines = some ⟨.type "tuple", dd26_lines, .seq ds26_lines dn26_lines, dl26_lines⟩) (kf26_lines : ds26_lines.toList.map absV = ([] : List V).map some)
    (kd26_slots : PySem.W.nsIn K kD26 "slots" = some (some (.int 8 dt26_slots)))
    (kd26_windows : PySem.W.nsIn K kD26 "windows" = some (some (.int 2 dt26_windows)))
    (a27 : PySem.W.nsIn K mainGlobals "price" = some (some (.ref f27))) (l27 : K.lookup f27 = some ⟨oc27, od27, .func (PySem.W.fnOf "price" "price" (defArgs s_price) (defBody s_price) (defScope s_price) .none kV27 dc27 pm27 an27 cd27 ct27), sl27⟩) (c27 : PySem.W.codeIn K cd27 "price" = true) (k27 : PySem.W.keepIn K (.ref f27) = true)
    (a28 : PySem.W.nsIn K mainGlobals "_law_bag" = some (some (.ref f28))) (l28 : K.lookup f28 = some ⟨oc28, od28, .func (PySem.W.fnOf "_law_bag" "_law_bag" (defArgs s_law_bag) (defBody s_law_bag) (defScope s_law_bag) .none kV28 dc28 pm28 an28 cd28 ct28), sl28⟩) (c28 : PySem.W.codeIn K cd28 "_law_bag" = true) (k28 : PySem.W.keepIn K (.ref f28) = true)
    (a29 : PySem.W.nsIn K mainGlobals "_law_take" = some (some (.ref f29))) (l29 : K.lookup f29 = some ⟨oc29, od29, .func (PySem.W.fnOf "_law_take" "_law_take" (defArgs s_law_take) (defBody s_law_take) (defScope s_law_take) .none kV29 dc29 pm29 an29 cd29 ct29), sl29⟩) (c29 : PySem.W.codeIn K cd29 "_law_take" = true) (k29 : PySem.W.keepIn K (.ref f29) = true)
    (a30 : PySem.W.nsIn K mainGlobals "_law_within" = some (some (.ref f30))) (l30 : K.lookup f30 = some ⟨oc30, od30, .func (PySem.W.fnOf "_law_within" "_law_within" (defArgs s_law_within) (defBody s_law_within) (defScope s_law_within) .none kV30 dc30 pm30 an30 cd30 ct30), sl30⟩) (c30 : PySem.W.codeIn K cd30 "_law_within" = true) (k30 : PySem.W.keepIn K (.ref f30) = true)
    (a31 : PySem.W.nsIn K mainGlobals "_law_word" = some (some (.ref f31))) (l31 : K.lookup f31 = some ⟨oc31, od31, .func (PySem.W.fnOf "_law_word" "_law_word" (defArgs s_law_word) (defBody s_law_word) (defScope s_law_word) .none kV31 dc31 pm31 an31 cd31 ct31), sl31⟩) (c31 : PySem.W.codeIn K cd31 "_law_word" = true) (k31 : PySem.W.keepIn K (.ref f31) = true)
    (a32 : PySem.W.nsIn K mainGlobals "_law_deeds" = some (some (.ref f32))) (l32 : K.lookup f32 = some ⟨oc32, od32, .func (PySem.W.fnOf "_law_deeds" "_law_deeds" (defArgs s_law_deeds) (defBody s_law_deeds) (defScope s_law_deeds) .none kV32 dc32 pm32 an32 cd32 ct32), sl32⟩) (c32 : PySem.W.codeIn K cd32 "_law_deeds" = true) (k32 : PySem.W.keepIn K (.ref f32) = true)
    (a33 : PySem.W.nsIn K mainGlobals "_law_instruction" = some (some (.ref f33))) (l33 : K.lookup f33 = some ⟨oc33, od33, .func (PySem.W.fnOf "_law_instruction" "_law_instruction" (defArgs s_law_instruction) (defBody s_law_instruction) (defScope s_law_instruction) .none kV33 dc33 pm33 an33 cd33 ct33), sl33⟩) (c33 : PySem.W.codeIn K cd33 "_law_instruction" = true) (k33 : PySem.W.keepIn K (.ref f33) = true)
    (a34 : PySem.W.nsIn K mainGlobals "_law_program" = some (some (.ref f34))) (l34 : K.lookup f34 = some ⟨oc34, od34, .func (PySem.W.fnOf "_law_program" "_law_program" (defArgs s_law_program) (defBody s_law_program) (defScope s_law_program) .none kV34 dc34 pm34 an34 cd34 ct34), sl34⟩) (c34 : PySem.W.codeIn K cd34 "_law_program" = true) (k34 : PySem.W.keepIn K (.ref f34) = true)
    (a35 : PySem.W.nsIn K mainGlobals "_law_same" = some (some (.ref f35))) (l35 : K.lookup f35 = some ⟨oc35, od35, .func (PySem.W.fnOf "_law_same" "_law_same" (defArgs s_law_same) (defBody s_law_same) (defScope s_law_same) .none kV35 dc35 pm35 an35 cd35 ct35), sl35⟩) (c35 : PySem.W.codeIn K cd35 "_law_same" = true) (k35 : PySem.W.keepIn K (.ref f35) = true)
    (a36 : PySem.W.nsIn K mainGlobals "_law_price" = some (some (.ref f36))) (l36 : K.lookup f36 = some ⟨oc36, od36, .func (PySem.W.fnOf "_law_price" "_law_price" (defArgs s_law_price) (defBody s_law_price) (defScope s_law_price) .none kV36 dc36 pm36 an36 cd36 ct36), sl36⟩) (c36 : PySem.W.codeIn K cd36 "_law_price" = true) (k36 : PySem.W.keepIn K (.ref f36) = true)
    (a37 : PySem.W.nsIn K mainGlobals "_law_sizes" = some (some (.ref f37))) (l37 : K.lookup f37 = some ⟨oc37, od37, .func (PySem.W.fnOf "_law_sizes" "_law_sizes" (defArgs s_law_sizes) (defBody s_law_sizes) (defScope s_law_sizes) .none kV37 dc37 pm37 an37 cd37 ct37), sl37⟩) (c37 : PySem.W.codeIn K cd37 "_law_sizes" = true) (k37 : PySem.W.keepIn K (.ref f37) = true)
    (a38 : PySem.W.nsIn K mainGlobals "_law_setup" = some (some (.ref f38))) (l38 : K.lookup f38 = some ⟨oc38, od38, .func (PySem.W.fnOf "_law_setup" "_law_setup" (defArgs s_law_setup) (defBody s_law_setup) (defScope s_law_setup) .none kV38 dc38 pm38 an38 cd38 ct38), sl38⟩) (c38 : PySem.W.codeIn K cd38 "_law_setup" = true) (k38 : PySem.W.keepIn K (.ref f38) = true)
    (a39 : PySem.W.nsIn K mainGlobals "_law_letter" = some (some (.ref f39))) (l39 : K.lookup f39 = some ⟨oc39, od39, .func (PySem.W.fnOf "_law_letter" "_law_letter" (defArgs s_law_letter) (defBody s_law_letter) (defScope s_law_letter) .none kV39 dc39 pm39 an39 cd39 ct39), sl39⟩) (c39 : PySem.W.codeIn K cd39 "_law_letter" = true) (k39 : PySem.W.keepIn K (.ref f39) = true)
    (a40 : PySem.W.nsIn K mainGlobals "_law_strangers" = some (some (.ref f40))) (l40 : K.lookup f40 = some ⟨oc40, od40, .func (PySem.W.fnOf "_law_strangers" "_law_strangers" (defArgs s_law_strangers) (defBody s_law_strangers) (defScope s_law_strangers) .none kV40 dc40 pm40 an40 cd40 ct40), sl40⟩) (c40 : PySem.W.codeIn K cd40 "_law_strangers" = true) (k40 : PySem.W.keepIn K (.ref f40) = true)
    (a41 : PySem.W.nsIn K mainGlobals "_law_unknown" = some (some (.ref f41))) (l41 : K.lookup f41 = some ⟨oc41, od41, .func (PySem.W.fnOf "_law_unknown" "_law_unknown" (defArgs s_law_unknown) (defBody s_law_unknown) (defScope s_law_unknown) .none kV41 dc41 pm41 an41 cd41 ct41), sl41⟩) (c41 : PySem.W.codeIn K cd41 "_law_unknown" = true) (k41 : PySem.W.keepIn K (.ref f41) = true)
    (a42 : PySem.W.nsIn K mainGlobals "_law_asks_names" = some (some (.ref f42))) (l42 : K.lookup f42 = some ⟨oc42, od42, .func (PySem.W.fnOf "_law_asks_names" "_law_asks_names" (defArgs s_law_asks_names) (defBody s_law_asks_names) (defScope s_law_asks_names) .none kV42 dc42 pm42 an42 cd42 ct42), sl42⟩) (c42 : PySem.W.codeIn K cd42 "_law_asks_names" = true) (k42 : PySem.W.keepIn K (.ref f42) = true)
    (a43 : PySem.W.nsIn K mainGlobals "_law_asks_strangers" = some (some (.ref f43))) (l43 : K.lookup f43 = some ⟨oc43, od43, .func (PySem.W.fnOf "_law_asks_strangers" "_law_asks_strangers" (defArgs s_law_asks_strangers) (defBody s_law_asks_strangers) (defScope s_law_asks_strangers) .none kV43 dc43 pm43 an43 cd43 ct43), sl43⟩) (c43 : PySem.W.codeIn K cd43 "_law_asks_strangers" = true) (k43 : PySem.W.keepIn K (.ref f43) = true)
    (a44 : PySem.W.nsIn K mainGlobals "_law_asks_turns" = some (some (.ref f44))) (l44 : K.lookup f44 = some ⟨oc44, od44, .func (PySem.W.fnOf "_law_asks_turns" "_law_asks_turns" (defArgs s_law_asks_turns) (defBody s_law_asks_turns) (defScope s_law_asks_turns) .none kV44 dc44 pm44 an44 cd44 ct44), sl44⟩) (c44 : PySem.W.codeIn K cd44 "_law_asks_turns" = true) (k44 : PySem.W.keepIn K (.ref f44) = true)
    (a45 : PySem.W.nsIn K mainGlobals "law" = some (some (.ref f45))) (l45 : K.lookup f45 = some ⟨oc45, od45, .func (PySem.W.fnOf "law" "law" (defArgs s_law) (defBody s_law) (defScope s_law) .none kV45 dc45 pm45 an45 cd45 ct45), sl45⟩) (c45 : PySem.W.codeIn K cd45 "law" = true) (k45 : PySem.W.keepIn K (.ref f45) = true)
    (ka_DEEDS : PySem.W.nsIn K mainGlobals "DEEDS" = some (some (.ref aK_DEEDS))) (kl_DEEDS : K.lookup aK_DEEDS = some ⟨.type "tuple", dd_DEEDS, .seq its_DEEDS n_DEEDS, sl_DEEDS⟩) (kv_DEEDS : its_DEEDS.toList.map absV = ([.str "halt", .str "until", .str "clock", .str "look", .str "claim", .str "free", .str "copy", .str "drop", .str "revoke", .str "map", .str "unmap", .str "send", .str "take", .str "trysend", .str "trytake", .str "call", .str "reply", .str "ring", .str "await", .str "tryawait", .str "ack", .str "give", .str "pull"] : List V).map some)
    (ka_LETTERS : PySem.W.nsIn K mainGlobals "LETTERS" = some (some (.ref aK_LETTERS))) (kl_LETTERS : K.lookup aK_LETTERS = some ⟨.type "dict", none, .dict es_LETTERS n_LETTERS, #[]⟩) (kk_LETTERS : PySem.W.KeysLit w.params es_LETTERS.toList) (kz_LETTERS : (aK_LETTERS == sysModules) = false) (kq_LETTERS : es_LETTERS.toList.map Lw.keyS = (["page", "claim", "port", "bell", "line", "process"] : List Str).map some)
    (di_LETTERS_page : PySem.W.nsIn K aK_LETTERS "page" = some (some (.str "rw" tk_LETTERS_page)))
    (di_LETTERS_claim : PySem.W.nsIn K aK_LETTERS "claim" = some (some (.str "rw" tk_LETTERS_claim)))
    (di_LETTERS_port : PySem.W.nsIn K aK_LETTERS "port" = some (some (.str "sgt" tk_LETTERS_port)))
    (di_LETTERS_bell : PySem.W.nsIn K aK_LETTERS "bell" = some (some (.str "ka" tk_LETTERS_bell)))
    (di_LETTERS_line : PySem.W.nsIn K aK_LETTERS "line" = some (some (.str "y" tk_LETTERS_line)))
    (di_LETTERS_process : PySem.W.nsIn K aK_LETTERS "process" = some (some (.str "ix" tk_LETTERS_process)))
    (ka_LONGEST : PySem.W.nsIn K mainGlobals "LONGEST" = some (some (.int 4000 tk_LONGEST)))
    (ka_MOST_BELLS : PySem.W.nsIn K mainGlobals "MOST_BELLS" = some (some (.int 6 tk_MOST_BELLS)))
    (ka_MOST_CLAIMS : PySem.W.nsIn K mainGlobals "MOST_CLAIMS" = some (some (.int 8 tk_MOST_CLAIMS)))
    (ka_MOST_DATA : PySem.W.nsIn K mainGlobals "MOST_DATA" = some (some (.int 64 tk_MOST_DATA)))
    (ka_MOST_LINES : PySem.W.nsIn K mainGlobals "MOST_LINES" = some (some (.int 4 tk_MOST_LINES)))
    (ka_MOST_PAGES : PySem.W.nsIn K mainGlobals "MOST_PAGES" = some (some (.int 8 tk_MOST_PAGES)))
    (ka_MOST_PORTS : PySem.W.nsIn K mainGlobals "MOST_PORTS" = some (some (.int 6 tk_MOST_PORTS)))
    (ka_MOST_PROCESSES : PySem.W.nsIn K mainGlobals "MOST_PROCESSES" = some (some (.int 6 tk_MOST_PROCESSES)))
    (ka_MOST_SLOTS : PySem.W.nsIn K mainGlobals "MOST_SLOTS" = some (some (.int 48 tk_MOST_SLOTS)))
    (ka_MOST_TICKS : PySem.W.nsIn K mainGlobals "MOST_TICKS" = some (some (.int 100000 tk_MOST_TICKS)))
    (ka_MOST_TURNS : PySem.W.nsIn K mainGlobals "MOST_TURNS" = some (some (.int 12 tk_MOST_TURNS)))
    (ka_MOST_WINDOWS : PySem.W.nsIn K mainGlobals "MOST_WINDOWS" = some (some (.int 16 tk_MOST_WINDOWS)))
    (ka_PRICES : PySem.W.nsIn K mainGlobals "PRICES" = some (some (.ref aK_PRICES))) (kl_PRICES : K.lookup aK_PRICES = some ⟨.type "dict", none, .dict es_PRICES n_PRICES, #[]⟩) (kk_PRICES : PySem.W.KeysLit w.params es_PRICES.toList) (kz_PRICES : (aK_PRICES == sysModules) = false) (kq_PRICES : es_PRICES.toList.map Lw.keyS = (["halt", "until", "clock", "look", "claim", "copy", "map", "unmap", "send", "take", "trysend", "trytake", "call", "reply", "ring", "await", "tryawait", "ack", "give", "pull"] : List Str).map some)
    (di_PRICES_halt : PySem.W.nsIn K aK_PRICES "halt" = some (some (.int 2 tk_PRICES_halt)))
    (di_PRICES_until : PySem.W.nsIn K aK_PRICES "until" = some (some (.int 1 tk_PRICES_until)))
    (di_PRICES_clock : PySem.W.nsIn K aK_PRICES "clock" = some (some (.int 1 tk_PRICES_clock)))
    (di_PRICES_look : PySem.W.nsIn K aK_PRICES "look" = some (some (.int 1 tk_PRICES_look)))
    (di_PRICES_claim : PySem.W.nsIn K aK_PRICES "claim" = some (some (.int 10 tk_PRICES_claim)))
    (di_PRICES_copy : PySem.W.nsIn K aK_PRICES "copy" = some (some (.int 2 tk_PRICES_copy)))
    (di_PRICES_map : PySem.W.nsIn K aK_PRICES "map" = some (some (.int 2 tk_PRICES_map)))
    (di_PRICES_unmap : PySem.W.nsIn K aK_PRICES "unmap" = some (some (.int 2 tk_PRICES_unmap)))
    (di_PRICES_send : PySem.W.nsIn K aK_PRICES "send" = some (some (.int 6 tk_PRICES_send)))
    (di_PRICES_take : PySem.W.nsIn K aK_PRICES "take" = some (some (.int 6 tk_PRICES_take)))
    (di_PRICES_trysend : PySem.W.nsIn K aK_PRICES "trysend" = some (some (.int 6 tk_PRICES_trysend)))
    (di_PRICES_trytake : PySem.W.nsIn K aK_PRICES "trytake" = some (some (.int 6 tk_PRICES_trytake)))
    (di_PRICES_call : PySem.W.nsIn K aK_PRICES "call" = some (some (.int 5 tk_PRICES_call)))
    (di_PRICES_reply : PySem.W.nsIn K aK_PRICES "reply" = some (some (.int 5 tk_PRICES_reply)))
    (di_PRICES_ring : PySem.W.nsIn K aK_PRICES "ring" = some (some (.int 2 tk_PRICES_ring)))
    (di_PRICES_await : PySem.W.nsIn K aK_PRICES "await" = some (some (.int 1 tk_PRICES_await)))
    (di_PRICES_tryawait : PySem.W.nsIn K aK_PRICES "tryawait" = some (some (.int 1 tk_PRICES_tryawait)))
    (di_PRICES_ack : PySem.W.nsIn K aK_PRICES "ack" = some (some (.int 1 tk_PRICES_ack)))
    (di_PRICES_give : PySem.W.nsIn K aK_PRICES "give" = some (some (.int 2 tk_PRICES_give)))
    (di_PRICES_pull : PySem.W.nsIn K aK_PRICES "pull" = some (some (.int 2 tk_PRICES_pull)))
    (ka_REGISTERS : PySem.W.nsIn K mainGlobals "REGISTERS" = some (some (.int 8 tk_REGISTERS)))
    (ka_ROLES : PySem.W.nsIn K mainGlobals "ROLES" = some (some (.ref aK_ROLES))) (kl_ROLES : K.lookup aK_ROLES = some ⟨.type "dict", none, .dict es_ROLES n_ROLES, #[]⟩) (kk_ROLES : PySem.W.KeysLit w.params es_ROLES.toList) (kz_ROLES : (aK_ROLES == sysModules) = false) (kq_ROLES : es_ROLES.toList.map Lw.keyS = (["set", "move", "add", "sub", "load", "store", "jump", "zero", "deed"] : List Str).map some)
    (di_ROLES_set : PySem.W.nsIn K aK_ROLES "set" = some (some (.ref r_ROLES_set))) (kl_ROLES_set : K.lookup r_ROLES_set = some ⟨.type "tuple", dd_ROLES_set, .seq its_ROLES_set n_ROLES_set, sl_ROLES_set⟩) (kv_ROLES_set : its_ROLES_set.toList.map absV = ([.str "register", .str "word"] : List V).map some)
    (di_ROLES_move : PySem.W.nsIn K aK_ROLES "move" = some (some (.ref r_ROLES_move))) (kl_ROLES_move : K.lookup r_ROLES_move = some ⟨.type "tuple", dd_ROLES_move, .seq its_ROLES_move n_ROLES_move, sl_ROLES_move⟩) (kv_ROLES_move : its_ROLES_move.toList.map absV = ([.str "register", .str "register"] : List V).map some)
    (di_ROLES_add : PySem.W.nsIn K aK_ROLES "add" = some (some (.ref r_ROLES_add))) (kl_ROLES_add : K.lookup r_ROLES_add = some ⟨.type "tuple", dd_ROLES_add, .seq its_ROLES_add n_ROLES_add, sl_ROLES_add⟩) (kv_ROLES_add : its_ROLES_add.toList.map absV = ([.str "register", .str "register"] : List V).map some)
    (di_ROLES_sub : PySem.W.nsIn K aK_ROLES "sub" = some (some (.ref r_ROLES_sub))) (kl_ROLES_sub : K.lookup r_ROLES_sub = some ⟨.type "tuple", dd_ROLES_sub, .seq its_ROLES_sub n_ROLES_sub, sl_ROLES_sub⟩) (kv_ROLES_sub : its_ROLES_sub.toList.map absV = ([.str "register", .str "register"] : List V).map some)
    (di_ROLES_load : PySem.W.nsIn K aK_ROLES "load" = some (some (.ref r_ROLES_load))) (kl_ROLES_load : K.lookup r_ROLES_load = some ⟨.type "tuple", dd_ROLES_load, .seq its_ROLES_load n_ROLES_load, sl_ROLES_load⟩) (kv_ROLES_load : its_ROLES_load.toList.map absV = ([.str "register", .str "register"] : List V).map some)
    (di_ROLES_store : PySem.W.nsIn K aK_ROLES "store" = some (some (.ref r_ROLES_store))) (kl_ROLES_store : K.lookup r_ROLES_store = some ⟨.type "tuple", dd_ROLES_store, .seq its_ROLES_store n_ROLES_store, sl_ROLES_store⟩) (kv_ROLES_store : its_ROLES_store.toList.map absV = ([.str "register", .str "register"] : List V).map some)
    (di_ROLES_jump : PySem.W.nsIn K aK_ROLES "jump" = some (some (.ref r_ROLES_jump))) (kl_ROLES_jump : K.lookup r_ROLES_jump = some ⟨.type "tuple", dd_ROLES_jump, .seq its_ROLES_jump n_ROLES_jump, sl_ROLES_jump⟩) (kv_ROLES_jump : its_ROLES_jump.toList.map absV = ([.str "target"] : List V).map some)
    (di_ROLES_zero : PySem.W.nsIn K aK_ROLES "zero" = some (some (.ref r_ROLES_zero))) (kl_ROLES_zero : K.lookup r_ROLES_zero = some ⟨.type "tuple", dd_ROLES_zero, .seq its_ROLES_zero n_ROLES_zero, sl_ROLES_zero⟩) (kv_ROLES_zero : its_ROLES_zero.toList.map absV = ([.str "register", .str "target"] : List V).map some)
    (di_ROLES_deed : PySem.W.nsIn K aK_ROLES "deed" = some (some (.ref r_ROLES_deed))) (kl_ROLES_deed : K.lookup r_ROLES_deed = some ⟨.type "tuple", dd_ROLES_deed, .seq its_ROLES_deed n_ROLES_deed, sl_ROLES_deed⟩) (kv_ROLES_deed : its_ROLES_deed.toList.map absV = ([.str "deed"] : List V).map some)
    (ka_WORD : PySem.W.nsIn K mainGlobals "WORD" = some (some (.int 1048576 tk_WORD)))
    (ka_InputError : PySem.W.nsIn K mainGlobals "InputError" = some (some (.ref cc_InputError)))
    (ka_BadNumber : PySem.W.nsIn K mainGlobals "BadNumber" = some (some (.ref cc_BadNumber)))
    (ka_BadProgram : PySem.W.nsIn K mainGlobals "BadProgram" = some (some (.ref cc_BadProgram)))
    (ka_BadSetup : PySem.W.nsIn K mainGlobals "BadSetup" = some (some (.ref cc_BadSetup)))
    (ka_BadDeed : PySem.W.nsIn K mainGlobals "BadDeed" = some (some (.ref cc_BadDeed)))
    (exL_BadProgram : K.lookup cc_BadProgram = some (excClassObj nm_BadProgram q_BadProgram cc_BadProgram N_BadProgram bs_BadProgram bm_BadProgram true sn_BadProgram sub_BadProgram ab_BadProgram col_BadProgram dd_BadProgram k0_BadProgram k1_BadProgram k2_BadProgram k3_BadProgram k5_BadProgram "ValueError.__new__"))
    (exV_BadProgram : PySem.HandSPX.refsVE bm_BadProgram = true)
    (esa_BadProgram : PySem.W.findIn K (.ref cc_BadProgram) "__setattr__" = some (some (.builtin "object.__setattr__")))
    (ega_BadProgram : PySem.W.findIn K (.ref cc_BadProgram) "__getattribute__" = some (some (.builtin "BaseException.__getattribute__")))
    (egg_BadProgram : PySem.W.findIn K (.ref cc_BadProgram) "__getattr__" = some none)
    (enb_BadProgram : PySem.W.findIn K (.ref cc_BadProgram) "index" = some none)
    (efc_BadProgram : PySem.W.findIn K (.ref cc_BadProgram) "__class__" = some (some (.builtin "object.__class__")))
    (eiC_BadProgram : PySem.W.findIn K (.ref cc_BadProgram) "__init__" = some (some (.ref ci_BadProgram)))
    (etC_BadProgram : PySem.W.typeIn K (.ref ci_BadProgram) = some (.type "function"))
    (ekC_BadProgram : PySem.W.keepIn K (.ref cc_BadProgram) = true)
    (eeC_BadProgram : PySem.W.subIn K (.ref cc_BadProgram) (.type "BaseException") = some true)
    (eyC_BadProgram : PySem.W.typeIn K (.ref cc_BadProgram) = some (.type "type"))
    (ehC_BadProgram : PySem.W.hasDictIn K cc_BadProgram = true)
    (ejC_BadProgram : PySem.W.isClsIn K cc_BadProgram = true)
    (esC_BadProgram : PySem.W.subIn K (.ref cc_BadProgram) (.ref cc_BadProgram) = some true)
    (evC_BadProgram : PySem.W.subIn K (.ref cc_BadProgram) (.type "ValueError") = some true)
    (eoC_BadProgram : PySem.W.mroIn K cc_BadProgram (.type "object") = some true)
    (emC_BadProgram : PySem.W.mroIn K cc_BadProgram (.ref cc_BadProgram) = some true)
    (eal_BadProgram : PySem.W.ks_superIn K cc_BadProgram cc_BadProgram "__init__" = some (some (.builtin "ValueError.__init__")))
    (el1_BadProgram : K.lookup ci_BadProgram = some ⟨oc_BadProgram, od_BadProgram, .func (PySem.W.ksFn "__init__" qu_BadProgram (PySem.SupX.iA "index" p1_BadProgram p2_BadProgram) [PySem.SupX.iSup m_BadProgram nn_BadProgram a0_BadProgram a1_BadProgram a2_BadProgram a3_BadProgram a4_BadProgram a5_BadProgram, PySem.SupX.iSt "index" q1_BadProgram q2_BadProgram q3_BadProgram q4_BadProgram] (PySem.SupX.iS "index") .none .none doc_BadProgram pm_BadProgram an_BadProgram (.ref da_BadProgram) ct_BadProgram cl_BadProgram), osl_BadProgram⟩)
    (ec1_BadProgram : PySem.W.codeIn K (.ref da_BadProgram) qu_BadProgram = true)
    (ece_BadProgram : K.lookup cl_BadProgram = some ⟨clv_BadProgram, cld_BadProgram, .cell (some (.ref cc_BadProgram)), csl_BadProgram⟩)
    (ecd_BadProgram : K.lookup da_BadProgram = some ⟨ccl_BadProgram, cdd_BadProgram, .fields vs_BadProgram, ccs_BadProgram⟩)
    (evs_BadProgram : vs_BadProgram[2]? = some (.str fi_BadProgram tf_BadProgram))
    (efi_BadProgram : ((l.prog.main.file : Str) == fi_BadProgram) = true)
    (epl_BadProgram : (a2_BadProgram.endLine == a4_BadProgram.line) = true)
    (ek_InputError_BadProgram : PySem.W.kitOne K (.ref cc_BadProgram) (.ref cc_InputError) = some true)
    (ek_BadNumber_BadProgram : PySem.W.kitOne K (.ref cc_BadProgram) (.ref cc_BadNumber) = some false)
    (ek_BadProgram_BadProgram : PySem.W.kitOne K (.ref cc_BadProgram) (.ref cc_BadProgram) = some true)
    (ek_BadSetup_BadProgram : PySem.W.kitOne K (.ref cc_BadProgram) (.ref cc_BadSetup) = some false)
    (ek_BadDeed_BadProgram : PySem.W.kitOne K (.ref cc_BadProgram) (.ref cc_BadDeed) = some false)
    (ek_Setup_BadProgram : PySem.W.kitOne K (.ref cc_BadProgram) (.ref cc_Setup) = some false)
    (ek_VE_BadProgram : PySem.W.kitOne K (.ref cc_BadProgram) (.type "ValueError") = some true)
    (exL_BadSetup : K.lookup cc_BadSetup = some (excClassObj nm_BadSetup q_BadSetup cc_BadSetup N_BadSetup bs_BadSetup bm_BadSetup true sn_BadSetup sub_BadSetup ab_BadSetup col_BadSetup dd_BadSetup k0_BadSetup k1_BadSetup k2_BadSetup k3_BadSetup k5_BadSetup "ValueError.__new__"))
    (exV_BadSetup : PySem.HandSPX.refsVE bm_BadSetup = true)
    (esa_BadSetup : PySem.W.findIn K (.ref cc_BadSetup) "__setattr__" = some (some (.builtin "object.__setattr__")))
    (ega_BadSetup : PySem.W.findIn K (.ref cc_BadSetup) "__getattribute__" = some (some (.builtin "BaseException.__getattribute__")))
    (egg_BadSetup : PySem.W.findIn K (.ref cc_BadSetup) "__getattr__" = some none)
    (enb_BadSetup : PySem.W.findIn K (.ref cc_BadSetup) "field" = some none)
    (enk_BadSetup : PySem.W.findIn K (.ref cc_BadSetup) "index" = some none)
    (efc_BadSetup : PySem.W.findIn K (.ref cc_BadSetup) "__class__" = some (some (.builtin "object.__class__")))
    (eiC_BadSetup : PySem.W.findIn K (.ref cc_BadSetup) "__init__" = some (some (.ref ci_BadSetup)))
    (etC_BadSetup : PySem.W.typeIn K (.ref ci_BadSetup) = some (.type "function"))
    (ekC_BadSetup : PySem.W.keepIn K (.ref cc_BadSetup) = true)
    (eeC_BadSetup : PySem.W.subIn K (.ref cc_BadSetup) (.type "BaseException") = some true)
    (eyC_BadSetup : PySem.W.typeIn K (.ref cc_BadSetup) = some (.type "type"))
    (ehC_BadSetup : PySem.W.hasDictIn K cc_BadSetup = true)
    (ejC_BadSetup : PySem.W.isClsIn K cc_BadSetup = true)
    (esC_BadSetup : PySem.W.subIn K (.ref cc_BadSetup) (.ref cc_BadSetup) = some true)
    (evC_BadSetup : PySem.W.subIn K (.ref cc_BadSetup) (.type "ValueError") = some true)
    (eoC_BadSetup : PySem.W.mroIn K cc_BadSetup (.type "object") = some true)
    (emC_BadSetup : PySem.W.mroIn K cc_BadSetup (.ref cc_BadSetup) = some true)
    (eal_BadSetup : PySem.W.ks_superIn K cc_BadSetup cc_BadSetup "__init__" = some (some (.builtin "ValueError.__init__")))
    (el1_BadSetup : K.lookup ci_BadSetup = some ⟨oc_BadSetup, od_BadSetup, .func (PySem.W.ksFn "__init__" qu_BadSetup (PySem.SupY.iA "field" "index" p1_BadSetup p2_BadSetup p3_BadSetup) [PySem.SupY.iSup m_BadSetup nn_BadSetup a0_BadSetup a1_BadSetup a2_BadSetup a3_BadSetup a4_BadSetup a5_BadSetup, PySem.SupY.iSt "field" q1_BadSetup q2_BadSetup q3_BadSetup q4_BadSetup, PySem.SupY.iSt "index" r1_BadSetup r2_BadSetup r3_BadSetup r4_BadSetup] (PySem.SupY.iS "field" "index") .none .none doc_BadSetup pm_BadSetup an_BadSetup (.ref da_BadSetup) ct_BadSetup cl_BadSetup), osl_BadSetup⟩)
    (ec1_BadSetup : PySem.W.codeIn K (.ref da_BadSetup) qu_BadSetup = true)
    (ece_BadSetup : K.lookup cl_BadSetup = some ⟨clv_BadSetup, cld_BadSetup, .cell (some (.ref cc_BadSetup)), csl_BadSetup⟩)
    (ecd_BadSetup : K.lookup da_BadSetup = some ⟨ccl_BadSetup, cdd_BadSetup, .fields vs_BadSetup, ccs_BadSetup⟩)
    (evs_BadSetup : vs_BadSetup[2]? = some (.str fi_BadSetup tf_BadSetup))
    (efi_BadSetup : ((l.prog.main.file : Str) == fi_BadSetup) = true)
    (epl_BadSetup : (a2_BadSetup.endLine == a4_BadSetup.line) = true)
    (ek_InputError_BadSetup : PySem.W.kitOne K (.ref cc_BadSetup) (.ref cc_InputError) = some true)
    (ek_BadNumber_BadSetup : PySem.W.kitOne K (.ref cc_BadSetup) (.ref cc_BadNumber) = some false)
    (ek_BadProgram_BadSetup : PySem.W.kitOne K (.ref cc_BadSetup) (.ref cc_BadProgram) = some false)
    (ek_BadSetup_BadSetup : PySem.W.kitOne K (.ref cc_BadSetup) (.ref cc_BadSetup) = some true)
    (ek_BadDeed_BadSetup : PySem.W.kitOne K (.ref cc_BadSetup) (.ref cc_BadDeed) = some false)
    (ek_Setup_BadSetup : PySem.W.kitOne K (.ref cc_BadSetup) (.ref cc_Setup) = some false)
    (ek_VE_BadSetup : PySem.W.kitOne K (.ref cc_BadSetup) (.type "ValueError") = some true)
    (exL_BadDeed : K.lookup cc_BadDeed = some (excClassObj nm_BadDeed q_BadDeed cc_BadDeed N_BadDeed bs_BadDeed bm_BadDeed true sn_BadDeed sub_BadDeed ab_BadDeed col_BadDeed dd_BadDeed k0_BadDeed k1_BadDeed k2_BadDeed k3_BadDeed k5_BadDeed "ValueError.__new__"))
    (exV_BadDeed : PySem.HandSPX.refsVE bm_BadDeed = true)
    (esa_BadDeed : PySem.W.findIn K (.ref cc_BadDeed) "__setattr__" = some (some (.builtin "object.__setattr__")))
    (ega_BadDeed : PySem.W.findIn K (.ref cc_BadDeed) "__getattribute__" = some (some (.builtin "BaseException.__getattribute__")))
    (egg_BadDeed : PySem.W.findIn K (.ref cc_BadDeed) "__getattr__" = some none)
    (enb_BadDeed : PySem.W.findIn K (.ref cc_BadDeed) "name" = some none)
    (efc_BadDeed : PySem.W.findIn K (.ref cc_BadDeed) "__class__" = some (some (.builtin "object.__class__")))
    (eiC_BadDeed : PySem.W.findIn K (.ref cc_BadDeed) "__init__" = some (some (.ref ci_BadDeed)))
    (etC_BadDeed : PySem.W.typeIn K (.ref ci_BadDeed) = some (.type "function"))
    (ekC_BadDeed : PySem.W.keepIn K (.ref cc_BadDeed) = true)
    (eeC_BadDeed : PySem.W.subIn K (.ref cc_BadDeed) (.type "BaseException") = some true)
    (eyC_BadDeed : PySem.W.typeIn K (.ref cc_BadDeed) = some (.type "type"))
    (ehC_BadDeed : PySem.W.hasDictIn K cc_BadDeed = true)
    (ejC_BadDeed : PySem.W.isClsIn K cc_BadDeed = true)
    (esC_BadDeed : PySem.W.subIn K (.ref cc_BadDeed) (.ref cc_BadDeed) = some true)
    (evC_BadDeed : PySem.W.subIn K (.ref cc_BadDeed) (.type "ValueError") = some true)
    (eoC_BadDeed : PySem.W.mroIn K cc_BadDeed (.type "object") = some true)
    (emC_BadDeed : PySem.W.mroIn K cc_BadDeed (.ref cc_BadDeed) = some true)
    (eal_BadDeed : PySem.W.ks_superIn K cc_BadDeed cc_BadDeed "__init__" = some (some (.builtin "ValueError.__init__")))
    (el1_BadDeed : K.lookup ci_BadDeed = some ⟨oc_BadDeed, od_BadDeed, .func (PySem.W.ksFn "__init__" qu_BadDeed (PySem.SupX.iA "name" p1_BadDeed p2_BadDeed) [PySem.SupX.iSup m_BadDeed nn_BadDeed a0_BadDeed a1_BadDeed a2_BadDeed a3_BadDeed a4_BadDeed a5_BadDeed, PySem.SupX.iSt "name" q1_BadDeed q2_BadDeed q3_BadDeed q4_BadDeed] (PySem.SupX.iS "name") .none .none doc_BadDeed pm_BadDeed an_BadDeed (.ref da_BadDeed) ct_BadDeed cl_BadDeed), osl_BadDeed⟩)
    (ec1_BadDeed : PySem.W.codeIn K (.ref da_BadDeed) qu_BadDeed = true)
    (ece_BadDeed : K.lookup cl_BadDeed = some ⟨clv_BadDeed, cld_BadDeed, .cell (some (.ref cc_BadDeed)), csl_BadDeed⟩)
    (ecd_BadDeed : K.lookup da_BadDeed = some ⟨ccl_BadDeed, cdd_BadDeed, .fields vs_BadDeed, ccs_BadDeed⟩)
    (evs_BadDeed : vs_BadDeed[2]? = some (.str fi_BadDeed tf_BadDeed))
    (efi_BadDeed : ((l.prog.main.file : Str) == fi_BadDeed) = true)
    (epl_BadDeed : (a2_BadDeed.endLine == a4_BadDeed.line) = true)
    (ek_InputError_BadDeed : PySem.W.kitOne K (.ref cc_BadDeed) (.ref cc_InputError) = some true)
    (ek_BadNumber_BadDeed : PySem.W.kitOne K (.ref cc_BadDeed) (.ref cc_BadNumber) = some false)
    (ek_BadProgram_BadDeed : PySem.W.kitOne K (.ref cc_BadDeed) (.ref cc_BadProgram) = some false)
    (ek_BadSetup_BadDeed : PySem.W.kitOne K (.ref cc_BadDeed) (.ref cc_BadSetup) = some false)
    (ek_BadDeed_BadDeed : PySem.W.kitOne K (.ref cc_BadDeed) (.ref cc_BadDeed) = some true)
    (ek_Setup_BadDeed : PySem.W.kitOne K (.ref cc_BadDeed) (.ref cc_Setup) = some false)
    (ek_VE_BadDeed : PySem.W.kitOne K (.ref cc_BadDeed) (.type "ValueError") = some true)
    (e_op : PySem.W.nsIn K cStatics "thirdparty.any" = some none) (e_su : PySem.W.nsIn K mainGlobals "super" = some none) (e_top : (l.prog.main.scope.names.lookup (PySem.Str.ofString "super")).isSome = false) (e_sp : PySem.W.specialIn K (.builtin "object.__class__") "__get__" = some (some (.builtin "getset_descriptor.__get__"))) (e_tk : PySem.W.takesIn K (.builtin "object.__class__") = some true)
    (z_all : PySem.W.nsIn K mainGlobals "all" = some none)
    (z_bool : PySem.W.nsIn K mainGlobals "bool" = some none)
    (z_enumerate : PySem.W.nsIn K mainGlobals "enumerate" = some none)
    (z_int : PySem.W.nsIn K mainGlobals "int" = some none)
    (z_isinstance : PySem.W.nsIn K mainGlobals "isinstance" = some none)
    (z_len : PySem.W.nsIn K mainGlobals "len" = some none)
    (z_list : PySem.W.nsIn K mainGlobals "list" = some none)
    (z_range : PySem.W.nsIn K mainGlobals "range" = some none)
    (z_str : PySem.W.nsIn K mainGlobals "str" = some none)
    (z_tuple : PySem.W.nsIn K mainGlobals "tuple" = some none) :
    ∃ fd : FuncData, (∀ (s : Shared) (v : Value), BindsTo s fd ⟨[v], []⟩ [("script", v)]) ∧ ∀ base : Heap, K.In base → base.Ns mainGlobals mg → FnOk l.prog w K mg base CX0 9 fa fd ["script"] (spLaw K) := by
  have e := hfa.symm.trans (PySem.W.mg_of X G a45)
  cases e
  have F0 := fun_mk (st := s_is_integer) l0 c0 k0
  have F1 := fun_mk (st := s_is_word) l1 c1 k1
  have F2 := fun_mk (st := s_is_kind) l2 c2 k2
  have F3 := fun_mk (st := s_in_order) l3 c3 k3
  have F4 := fun_mk (st := s_is_row) l4 c4 k4
  have F5 := fun_mk (st := s_bound) l5 c5 k5
  have F6 := fun_mk (st := s_fits) l6 c6 k6
  have F7 := fun_mk (st := s_is_instruction) l7 c7 k7
  have F8 := fun_mk (st := s_check_program) l8 c8 k8
  have F9 := fun_mk (st := s_kind_counts) l9 c9 k9
  have F10 := fun_mk (st := s_kind_of) l10 c10 k10
  have F11 := fun_mk (st := s_is_thing) l11 c11 k11
  have F12 := fun_mk (st := s_is_between) l12 c12 k12
  have F13 := fun_mk (st := s_free_price) l13 c13 k13
  have F14 := fun_mk (st := s_least_ticks) l14 c14 k14
  have F15 := fun_mk (st := s_checked_number) l15 c15 k15
  have F16 := fun_mk (st := s_checked_programs) l16 c16 k16
  have F17 := fun_mk (st := s_is_turn) l17 c17 k17
  have F18 := fun_mk (st := s_checked_turns) l18 c18 k18
  have F19 := fun_mk (st := s_checked_quotas) l19 c19 k19
  have F20 := fun_mk (st := s_is_data) l20 c20 k20
  have F21 := fun_mk (st := s_checked_data) l21 c21 k21
  have F22 := fun_mk (st := s_checked_lines) l22 c22 k22
  have F23 := fun_mk (st := s_right_row) l23 c23 k23
  have F24 := fun_mk (st := s_fits_parent) l24 c24 k24
  have F25 := fun_mk (st := s_checked_rights) l25 c25 k25
  have F26 : FunD K "__init__" "Setup.__init__" (defArgs s_Setup__init) (defBody s_Setup__init) (defScope s_Setup__init) [] [("rights", .ref de26_rights), ("quotas", .non), ("data", .non), ("pages", .int 0), ("ports", .int 0), ("bells", .int 0), ("lines", .ref de26_lines), ("slots", .int 8), ("windows", .int 2)] f26 _ := ⟨⟨oc26, od26, .none, .ref kD26, dc26, pm26, an26, cd26, ct26, sl26, rfl, l26, c26, .inl ⟨rfl, rfl⟩, .inr ⟨kD26, rfl, (Lw.kwd_cons ⟨_, kd26_rights, rfl⟩ (Lw.kwd_cons ⟨_, kd26_quotas, rfl⟩ (Lw.kwd_cons ⟨_, kd26_data, rfl⟩ (Lw.kwd_cons ⟨_, kd26_pages, _, rfl⟩ (Lw.kwd_cons ⟨_, kd26_ports, _, rfl⟩ (Lw.kwd_cons ⟨_, kd26_bells, _, rfl⟩ (Lw.kwd_cons ⟨_, kd26_lines, rfl⟩ (Lw.kwd_cons ⟨_, kd26_slots, _, rfl⟩ (Lw.kwd_cons ⟨_, kd26_windows, _, rfl⟩ (fun q hq => by cases hq))))))))))⟩⟩, k26⟩
  obtain ⟨mv26_0, kb26_0⟩ := FunD.kbinds0 (ps := ["self", "programs", "turns", "rights", "quotas", "data", "pages", "ports", "bells", "lines", "slots", "windows"]) F26 3 ["rights", "quotas", "data", "pages", "ports", "bells", "slots", "windows"] [("lines", .ref de26_lines)] (fun vs mv zs => vs ++ (zs.drop 0).take 1 ++ (zs.drop 1).take 1 ++ (zs.drop 2).take 1 ++ (zs.drop 3).take 1 ++ (zs.drop 4).take 1 ++ (zs.drop 5).take 1 ++ (mv.drop 0).take 1 ++ (zs.drop 6).take 1 ++ (zs.drop 7).take 1) (fun e => nomatch e) (by intro q hq; simp only [List.mem_cons, List.not_mem_nil, or_false] at hq ⊢; rcases hq with rfl <;> simp) (fun r1 r2 r3 => (((((((((r1.append ((r3.drop 0).take 1)).append ((r3.drop 1).take 1)).append ((r3.drop 2).take 1)).append ((r3.drop 3).take 1)).append ((r3.drop 4).take 1)).append ((r3.drop 5).take 1)).append ((r2.drop 0).take 1)).append ((r3.drop 6).take 1)).append ((r3.drop 7).take 1)))
    (fun D doc pm an cdv ct us mv ws h1 h2 h3 => match us, mv, ws, h1, h2, h3 with | [u0, u1, u2], [m0], [w0, w1, w2, w3, w4, w5, w6, w7], _, _, _ => ⟨_, _, _, _, _, _, rfl, rfl, rfl⟩)
  obtain ⟨mv26_1, kb26_1⟩ := FunD.kbinds0 (ps := ["self", "programs", "turns", "rights", "quotas", "data", "pages", "ports", "bells", "lines", "slots", "windows"]) F26 3 ["slots", "windows"] [("rights", .ref de26_rights), ("quotas", .non), ("data", .non), ("pages", .int 0), ("ports", .int 0), ("bells", .int 0), ("lines", .ref de26_lines)] (fun vs mv zs => vs ++ (mv.drop 0).take 1 ++ (mv.drop 1).take 1 ++ (mv.drop 2).take 1 ++ (mv.drop 3).take 1 ++ (mv.drop 4).take 1 ++ (mv.drop 5).take 1 ++ (mv.drop 6).take 1 ++ (zs.drop 0).take 1 ++ (zs.drop 1).take 1) (fun e => nomatch e) (by intro q hq; simp only [List.mem_cons, List.not_mem_nil, or_false] at hq ⊢; rcases hq with rfl | rfl | rfl | rfl | rfl | rfl | rfl <;> simp) (fun r1 r2 r3 => (((((((((r1.append ((r2.drop 0).take 1)).append ((r2.drop 1).take 1)).append ((r2.drop 2).take 1)).append ((r2.drop 3).take 1)).append ((r2.drop 4).take 1)).append ((r2.drop 5).take 1)).append ((r2.drop 6).take 1)).append ((r3.drop 0).take 1)).append ((r3.drop 1).take 1)))
    (fun D doc pm an cdv ct us mv ws h1 h2 h3 => match us, mv, ws, h1, h2, h3 with | [u0, u1, u2], [m0, m1, m2, m3, m4, m5, m6], [w0, w1], _, _, _ => ⟨_, _, _, _, _, _, rfl, rfl, ⟨_, _, _, _, _, _, rfl, rfl, ⟨_, _, _, _, _, _, rfl, rfl, ⟨_, _, _, _, _, _, rfl, rfl, ⟨_, _, _, _, _, _, rfl, rfl, ⟨_, _, _, _, _, _, rfl, rfl, ⟨_, _, _, _, _, _, rfl, rfl, rfl⟩⟩⟩⟩⟩⟩⟩)
  have F27 := fun_mk (st := s_price) l27 c27 k27
  have F28 := fun_mk (st := s_law_bag) l28 c28 k28
  have F29 := fun_mk (st := s_law_take) l29 c29 k29
  have F30 := fun_mk (st := s_law_within) l30 c30 k30
  have F31 := fun_mk (st := s_law_word) l31 c31 k31
  have F32 := fun_mk (st := s_law_deeds) l32 c32 k32
  have F33 := fun_mk (st := s_law_instruction) l33 c33 k33
  have F34 := fun_mk (st := s_law_program) l34 c34 k34
  have F35 := fun_mk (st := s_law_same) l35 c35 k35
  have F36 := fun_mk (st := s_law_price) l36 c36 k36
  have F37 := fun_mk (st := s_law_sizes) l37 c37 k37
  have F38 := fun_mk (st := s_law_setup) l38 c38 k38
  have F39 := fun_mk (st := s_law_letter) l39 c39 k39
  have F40 := fun_mk (st := s_law_strangers) l40 c40 k40
  have F41 := fun_mk (st := s_law_unknown) l41 c41 k41
  have F42 := fun_mk (st := s_law_asks_names) l42 c42 k42
  have F43 := fun_mk (st := s_law_asks_strangers) l43 c43 k43
  have F44 := fun_mk (st := s_law_asks_turns) l44 c44 k44
  have F45 := fun_mk (st := s_law) l45 c45 k45
  have T : Tx l.prog w K mg := {
    c_Setup := cc_Setup, gc_Setup := PySem.W.mg_of X G ka_Setup, cl_Setup := ⟨pg_Setup, hd_Setup, po_Setup, sa_Setup⟩, na_Setup_programs := nf_programs_Setup, na_Setup_slots := nf_slots_Setup, na_Setup_windows := nf_windows_Setup, na_Setup_turns := nf_turns_Setup, na_Setup_quotas := nf_quotas_Setup, na_Setup_data := nf_data_Setup, na_Setup_pages := nf_pages_Setup, na_Setup_ports := nf_ports_Setup, na_Setup_bells := nf_bells_Setup, na_Setup_lines := nf_lines_Setup, na_Setup_rights := nf_rights_Setup,
    f_is_integer := f0, fd_is_integer := _, F_is_integer := F0, b_is_integer := F0.binds (ps := ["value"]) fun _ _ _ _ _ _ us hl => match us, hl with | [_], _ => rfl, g_is_integer := PySem.W.mg_of X G a0,
    f_is_word := f1, fd_is_word := _, F_is_word := F1, b_is_word := F1.binds (ps := ["value"]) fun _ _ _ _ _ _ us hl => match us, hl with | [_], _ => rfl, g_is_word := PySem.W.mg_of X G a1,
    f_is_kind := f2, fd_is_kind := _, F_is_kind := F2, b_is_kind := F2.binds (ps := ["kind"]) fun _ _ _ _ _ _ us hl => match us, hl with | [_], _ => rfl, g_is_kind := PySem.W.mg_of X G a2,
    f_in_order := f3, fd_in_order := _, F_in_order := F3, b_in_order := F3.binds (ps := ["kind", "letters"]) fun _ _ _ _ _ _ us hl => match us, hl with | [_, _], _ => rfl, g_in_order := PySem.W.mg_of X G a3,
    f_is_row := f4, fd_is_row := _, F_is_row := F4, b_is_row := F4.binds (ps := ["value"]) fun _ _ _ _ _ _ us hl => match us, hl with | [_], _ => rfl, g_is_row := PySem.W.mg_of X G a4,
    f_bound := f5, fd_bound := _, F_bound := F5, b_bound := F5.binds (ps := ["role", "length"]) fun _ _ _ _ _ _ us hl => match us, hl with | [_, _], _ => rfl, g_bound := PySem.W.mg_of X G a5,
    f_fits := f6, fd_fits := _, F_fits := F6, b_fits := F6.binds (ps := ["part", "role", "length"]) fun _ _ _ _ _ _ us hl => match us, hl with | [_, _, _], _ => rfl, g_fits := PySem.W.mg_of X G a6,
    f_is_instruction := f7, fd_is_instruction := _, F_is_instruction := F7, b_is_instruction := F7.binds (ps := ["item", "length"]) fun _ _ _ _ _ _ us hl => match us, hl with | [_, _], _ => rfl, g_is_instruction := PySem.W.mg_of X G a7,
    f_check_program := f8, fd_check_program := _, F_check_program := F8, b_check_program := F8.binds (ps := ["value"]) fun _ _ _ _ _ _ us hl => match us, hl with | [_], _ => rfl, g_check_program := PySem.W.mg_of X G a8,
    f_kind_counts := f9, fd_kind_counts := _, F_kind_counts := F9, b_kind_counts := F9.binds (ps := ["setup"]) fun _ _ _ _ _ _ us hl => match us, hl with | [_], _ => rfl, g_kind_counts := PySem.W.mg_of X G a9,
    f_kind_of := f10, fd_kind_of := _, F_kind_of := F10, b_kind_of := F10.binds (ps := ["thing"]) fun _ _ _ _ _ _ us hl => match us, hl with | [_], _ => rfl, g_kind_of := PySem.W.mg_of X G a10,
    f_is_thing := f11, fd_is_thing := _, F_is_thing := F11, b_is_thing := F11.binds (ps := ["setup", "thing"]) fun _ _ _ _ _ _ us hl => match us, hl with | [_, _], _ => rfl, g_is_thing := PySem.W.mg_of X G a11,
    f_is_between := f12, fd_is_between := _, F_is_between := F12, b_is_between := F12.binds (ps := ["value", "low", "high"]) fun _ _ _ _ _ _ us hl => match us, hl with | [_, _, _], _ => rfl, g_is_between := PySem.W.mg_of X G a12,
    f_free_price := f13, fd_free_price := _, F_free_price := F13, b_free_price := F13.binds (ps := ["processes", "slots", "windows"]) fun _ _ _ _ _ _ us hl => match us, hl with | [_, _, _], _ => rfl, g_free_price := PySem.W.mg_of X G a13,
    f_least_ticks := f14, fd_least_ticks := _, F_least_ticks := F14, b_least_ticks := F14.binds (ps := ["processes", "slots", "windows"]) fun _ _ _ _ _ _ us hl => match us, hl with | [_, _, _], _ => rfl, g_least_ticks := PySem.W.mg_of X G a14,
    f_checked_number := f15, fd_checked_number := _, F_checked_number := F15, b_checked_number := F15.binds (ps := ["field", "value", "low", "high"]) fun _ _ _ _ _ _ us hl => match us, hl with | [_, _, _, _], _ => rfl, g_checked_number := PySem.W.mg_of X G a15,
    f_checked_programs := f16, fd_checked_programs := _, F_checked_programs := F16, b_checked_programs := F16.binds (ps := ["programs"]) fun _ _ _ _ _ _ us hl => match us, hl with | [_], _ => rfl, g_checked_programs := PySem.W.mg_of X G a16,
    f_is_turn := f17, fd_is_turn := _, F_is_turn := F17, b_is_turn := F17.binds (ps := ["value", "processes", "least"]) fun _ _ _ _ _ _ us hl => match us, hl with | [_, _, _], _ => rfl, g_is_turn := PySem.W.mg_of X G a17,
    f_checked_turns := f18, fd_checked_turns := _, F_checked_turns := F18, b_checked_turns := F18.binds (ps := ["turns", "processes", "least"]) fun _ _ _ _ _ _ us hl => match us, hl with | [_, _, _], _ => rfl, g_checked_turns := PySem.W.mg_of X G a18,
    f_checked_quotas := f19, fd_checked_quotas := _, F_checked_quotas := F19, b_checked_quotas := F19.binds (ps := ["quotas", "processes"]) fun _ _ _ _ _ _ us hl => match us, hl with | [_, _], _ => rfl, g_checked_quotas := PySem.W.mg_of X G a19,
    f_is_data := f20, fd_is_data := _, F_is_data := F20, b_is_data := F20.binds (ps := ["value"]) fun _ _ _ _ _ _ us hl => match us, hl with | [_], _ => rfl, g_is_data := PySem.W.mg_of X G a20,
    f_checked_data := f21, fd_checked_data := _, F_checked_data := F21, b_checked_data := F21.binds (ps := ["data", "processes"]) fun _ _ _ _ _ _ us hl => match us, hl with | [_, _], _ => rfl, g_checked_data := PySem.W.mg_of X G a21,
    f_checked_lines := f22, fd_checked_lines := _, F_checked_lines := F22, b_checked_lines := F22.binds (ps := ["lines", "bells"]) fun _ _ _ _ _ _ us hl => match us, hl with | [_, _], _ => rfl, g_checked_lines := PySem.W.mg_of X G a22,
    f_right_row := f23, fd_right_row := _, F_right_row := F23, b_right_row := F23.binds (ps := ["setup", "value"]) fun _ _ _ _ _ _ us hl => match us, hl with | [_, _], _ => rfl, g_right_row := PySem.W.mg_of X G a23,
    f_fits_parent := f24, fd_fits_parent := _, F_fits_parent := F24, b_fits_parent := F24.binds (ps := ["row", "earlier"]) fun _ _ _ _ _ _ us hl => match us, hl with | [_, _], _ => rfl, g_fits_parent := PySem.W.mg_of X G a24,
    f_checked_rights := f25, fd_checked_rights := _, F_checked_rights := F25, b_checked_rights := F25.binds (ps := ["setup", "rights"]) fun _ _ _ _ _ _ us hl => match us, hl with | [_, _], _ => rfl, g_checked_rights := PySem.W.mg_of X G a25,
    e_Setup__init_rights := de26_rights, K_e_Setup__init_rights := ⟨fun H => sqt_k ke26_rights kf26_rights (by decide) H, _, ke26_rights, rfl⟩,
    e_Setup__init_lines := de26_lines, K_e_Setup__init_lines := ⟨fun H => sqt_k ke26_lines kf26_lines (by decide) H, _, ke26_lines, rfl⟩,
    f_Setup__init := f26, fd_Setup__init := _, F_Setup__init := F26,
    gk_Setup_0 := _, kb_Setup_0 := kb26_0,
    gk_Setup_1 := _, kb_Setup_1 := kb26_1,
    mk_Setup := ⟨mi_Setup, a26, i26, kq_Setup⟩,
    f_price := f27, fd_price := _, F_price := F27, b_price := F27.binds (ps := ["setup", "name"]) fun _ _ _ _ _ _ us hl => match us, hl with | [_, _], _ => rfl, g_price := PySem.W.mg_of X G a27,
    f_law_bag := f28, fd_law_bag := _, F_law_bag := F28, b_law_bag := F28.binds (ps := ["script"]) fun _ _ _ _ _ _ us hl => match us, hl with | [_], _ => rfl, g_law_bag := PySem.W.mg_of X G a28,
    f_law_take := f29, fd_law_take := _, F_law_take := F29, b_law_take := F29.binds (ps := ["bag", "many"]) fun _ _ _ _ _ _ us hl => match us, hl with | [_, _], _ => rfl, g_law_take := PySem.W.mg_of X G a29,
    f_law_within := f30, fd_law_within := _, F_law_within := F30, b_law_within := F30.binds (ps := ["bag", "low", "high"]) fun _ _ _ _ _ _ us hl => match us, hl with | [_, _, _], _ => rfl, g_law_within := PySem.W.mg_of X G a30,
    f_law_word := f31, fd_law_word := _, F_law_word := F31, b_law_word := F31.binds (ps := ["bag"]) fun _ _ _ _ _ _ us hl => match us, hl with | [_], _ => rfl, g_law_word := PySem.W.mg_of X G a31,
    f_law_deeds := f32, fd_law_deeds := _, F_law_deeds := F32, b_law_deeds := F32.binds (ps := []) fun _ _ _ _ _ _ us hl => match us, hl with | [], _ => rfl, g_law_deeds := PySem.W.mg_of X G a32,
    f_law_instruction := f33, fd_law_instruction := _, F_law_instruction := F33, b_law_instruction := F33.binds (ps := ["bag", "length"]) fun _ _ _ _ _ _ us hl => match us, hl with | [_, _], _ => rfl, g_law_instruction := PySem.W.mg_of X G a33,
    f_law_program := f34, fd_law_program := _, F_law_program := F34, b_law_program := F34.binds (ps := ["bag", "most"]) fun _ _ _ _ _ _ us hl => match us, hl with | [_, _], _ => rfl, g_law_program := PySem.W.mg_of X G a34,
    f_law_same := f35, fd_law_same := _, F_law_same := F35, b_law_same := F35.binds (ps := ["told", "due"]) fun _ _ _ _ _ _ us hl => match us, hl with | [_, _], _ => rfl, g_law_same := PySem.W.mg_of X G a35,
    f_law_price := f36, fd_law_price := _, F_law_price := F36, b_law_price := F36.binds (ps := ["name", "sizes"]) fun _ _ _ _ _ _ us hl => match us, hl with | [_, _], _ => rfl, g_law_price := PySem.W.mg_of X G a36,
    f_law_sizes := f37, fd_law_sizes := _, F_law_sizes := F37, b_law_sizes := F37.binds (ps := ["bag"]) fun _ _ _ _ _ _ us hl => match us, hl with | [_], _ => rfl, g_law_sizes := PySem.W.mg_of X G a37,
    f_law_setup := f38, fd_law_setup := _, F_law_setup := F38, b_law_setup := F38.binds (ps := ["bag", "sizes", "shift"]) fun _ _ _ _ _ _ us hl => match us, hl with | [_, _, _], _ => rfl, g_law_setup := PySem.W.mg_of X G a38,
    f_law_letter := f39, fd_law_letter := _, F_law_letter := F39, b_law_letter := F39.binds (ps := ["bag"]) fun _ _ _ _ _ _ us hl => match us, hl with | [_], _ => rfl, g_law_letter := PySem.W.mg_of X G a39,
    f_law_strangers := f40, fd_law_strangers := _, F_law_strangers := F40, b_law_strangers := F40.binds (ps := ["bag"]) fun _ _ _ _ _ _ us hl => match us, hl with | [_], _ => rfl, g_law_strangers := PySem.W.mg_of X G a40,
    f_law_unknown := f41, fd_law_unknown := _, F_law_unknown := F41, b_law_unknown := F41.binds (ps := ["setup", "name"]) fun _ _ _ _ _ _ us hl => match us, hl with | [_, _], _ => rfl, g_law_unknown := PySem.W.mg_of X G a41,
    f_law_asks_names := f42, fd_law_asks_names := _, F_law_asks_names := F42, b_law_asks_names := F42.binds (ps := ["setup", "sizes", "names"]) fun _ _ _ _ _ _ us hl => match us, hl with | [_, _, _], _ => rfl, g_law_asks_names := PySem.W.mg_of X G a42,
    f_law_asks_strangers := f43, fd_law_asks_strangers := _, F_law_asks_strangers := F43, b_law_asks_strangers := F43.binds (ps := ["bag", "setup", "sizes"]) fun _ _ _ _ _ _ us hl => match us, hl with | [_, _, _], _ => rfl, g_law_asks_strangers := PySem.W.mg_of X G a43,
    f_law_asks_turns := f44, fd_law_asks_turns := _, F_law_asks_turns := F44, b_law_asks_turns := F44.binds (ps := ["bag", "sizes"]) fun _ _ _ _ _ _ us hl => match us, hl with | [_, _], _ => rfl, g_law_asks_turns := PySem.W.mg_of X G a44,
    a_DEEDS := aK_DEEDS, g_DEEDS := PySem.W.mg_of X G ka_DEEDS, q_DEEDS := fun H => sqt_k kl_DEEDS kv_DEEDS (by decide) H, K_DEEDS := ⟨fun H => sqt_k kl_DEEDS kv_DEEDS (by decide) H, _, kl_DEEDS, rfl⟩,
    a_LETTERS := aK_LETTERS, es_LETTERS := es_LETTERS, n_LETTERS := n_LETTERS, g_LETTERS := PySem.W.mg_of X G ka_LETTERS, D_LETTERS := ⟨kl_LETTERS, kk_LETTERS, kz_LETTERS⟩, x_LETTERS := fun z hz => Lw.ns_miss kl_LETTERS kq_LETTERS hz, t_LETTERS_page := tk_LETTERS_page, i_LETTERS_page := di_LETTERS_page, t_LETTERS_claim := tk_LETTERS_claim, i_LETTERS_claim := di_LETTERS_claim, t_LETTERS_port := tk_LETTERS_port, i_LETTERS_port := di_LETTERS_port, t_LETTERS_bell := tk_LETTERS_bell, i_LETTERS_bell := di_LETTERS_bell, t_LETTERS_line := tk_LETTERS_line, i_LETTERS_line := di_LETTERS_line, t_LETTERS_process := tk_LETTERS_process, i_LETTERS_process := di_LETTERS_process,
    t_LONGEST := tk_LONGEST, g_LONGEST := PySem.W.mg_of X G ka_LONGEST,
    t_MOST_BELLS := tk_MOST_BELLS, g_MOST_BELLS := PySem.W.mg_of X G ka_MOST_BELLS,
    t_MOST_CLAIMS := tk_MOST_CLAIMS, g_MOST_CLAIMS := PySem.W.mg_of X G ka_MOST_CLAIMS,
    t_MOST_DATA := tk_MOST_DATA, g_MOST_DATA := PySem.W.mg_of X G ka_MOST_DATA,
    t_MOST_LINES := tk_MOST_LINES, g_MOST_LINES := PySem.W.mg_of X G ka_MOST_LINES,
    t_MOST_PAGES := tk_MOST_PAGES, g_MOST_PAGES := PySem.W.mg_of X G ka_MOST_PAGES,
    t_MOST_PORTS := tk_MOST_PORTS, g_MOST_PORTS := PySem.W.mg_of X G ka_MOST_PORTS,
    t_MOST_PROCESSES := tk_MOST_PROCESSES, g_MOST_PROCESSES := PySem.W.mg_of X G ka_MOST_PROCESSES,
    t_MOST_SLOTS := tk_MOST_SLOTS, g_MOST_SLOTS := PySem.W.mg_of X G ka_MOST_SLOTS,
    t_MOST_TICKS := tk_MOST_TICKS, g_MOST_TICKS := PySem.W.mg_of X G ka_MOST_TICKS,
    t_MOST_TURNS := tk_MOST_TURNS, g_MOST_TURNS := PySem.W.mg_of X G ka_MOST_TURNS,
    t_MOST_WINDOWS := tk_MOST_WINDOWS, g_MOST_WINDOWS := PySem.W.mg_of X G ka_MOST_WINDOWS,
    a_PRICES := aK_PRICES, es_PRICES := es_PRICES, n_PRICES := n_PRICES, g_PRICES := PySem.W.mg_of X G ka_PRICES, D_PRICES := ⟨kl_PRICES, kk_PRICES, kz_PRICES⟩, x_PRICES := fun z hz => Lw.ns_miss kl_PRICES kq_PRICES hz, t_PRICES_halt := tk_PRICES_halt, i_PRICES_halt := di_PRICES_halt, t_PRICES_until := tk_PRICES_until, i_PRICES_until := di_PRICES_until, t_PRICES_clock := tk_PRICES_clock, i_PRICES_clock := di_PRICES_clock, t_PRICES_look := tk_PRICES_look, i_PRICES_look := di_PRICES_look, t_PRICES_claim := tk_PRICES_claim, i_PRICES_claim := di_PRICES_claim, t_PRICES_copy := tk_PRICES_copy, i_PRICES_copy := di_PRICES_copy, t_PRICES_map := tk_PRICES_map, i_PRICES_map := di_PRICES_map, t_PRICES_unmap := tk_PRICES_unmap, i_PRICES_unmap := di_PRICES_unmap, t_PRICES_send := tk_PRICES_send, i_PRICES_send := di_PRICES_send, t_PRICES_take := tk_PRICES_take, i_PRICES_take := di_PRICES_take, t_PRICES_trysend := tk_PRICES_trysend, i_PRICES_trysend := di_PRICES_trysend, t_PRICES_trytake := tk_PRICES_trytake, i_PRICES_trytake := di_PRICES_trytake, t_PRICES_call := tk_PRICES_call, i_PRICES_call := di_PRICES_call, t_PRICES_reply := tk_PRICES_reply, i_PRICES_reply := di_PRICES_reply, t_PRICES_ring := tk_PRICES_ring, i_PRICES_ring := di_PRICES_ring, t_PRICES_await := tk_PRICES_await, i_PRICES_await := di_PRICES_await, t_PRICES_tryawait := tk_PRICES_tryawait, i_PRICES_tryawait := di_PRICES_tryawait, t_PRICES_ack := tk_PRICES_ack, i_PRICES_ack := di_PRICES_ack, t_PRICES_give := tk_PRICES_give, i_PRICES_give := di_PRICES_give, t_PRICES_pull := tk_PRICES_pull, i_PRICES_pull := di_PRICES_pull,
    t_REGISTERS := tk_REGISTERS, g_REGISTERS := PySem.W.mg_of X G ka_REGISTERS,
    a_ROLES := aK_ROLES, es_ROLES := es_ROLES, n_ROLES := n_ROLES, g_ROLES := PySem.W.mg_of X G ka_ROLES, D_ROLES := ⟨kl_ROLES, kk_ROLES, kz_ROLES⟩, x_ROLES := fun z hz => Lw.ns_miss kl_ROLES kq_ROLES hz, r_ROLES_set := r_ROLES_set, i_ROLES_set := di_ROLES_set, q_ROLES_set := fun H => sqt_k kl_ROLES_set kv_ROLES_set (by decide) H, r_ROLES_move := r_ROLES_move, i_ROLES_move := di_ROLES_move, q_ROLES_move := fun H => sqt_k kl_ROLES_move kv_ROLES_move (by decide) H, r_ROLES_add := r_ROLES_add, i_ROLES_add := di_ROLES_add, q_ROLES_add := fun H => sqt_k kl_ROLES_add kv_ROLES_add (by decide) H, r_ROLES_sub := r_ROLES_sub, i_ROLES_sub := di_ROLES_sub, q_ROLES_sub := fun H => sqt_k kl_ROLES_sub kv_ROLES_sub (by decide) H, r_ROLES_load := r_ROLES_load, i_ROLES_load := di_ROLES_load, q_ROLES_load := fun H => sqt_k kl_ROLES_load kv_ROLES_load (by decide) H, r_ROLES_store := r_ROLES_store, i_ROLES_store := di_ROLES_store, q_ROLES_store := fun H => sqt_k kl_ROLES_store kv_ROLES_store (by decide) H, r_ROLES_jump := r_ROLES_jump, i_ROLES_jump := di_ROLES_jump, q_ROLES_jump := fun H => sqt_k kl_ROLES_jump kv_ROLES_jump (by decide) H, r_ROLES_zero := r_ROLES_zero, i_ROLES_zero := di_ROLES_zero, q_ROLES_zero := fun H => sqt_k kl_ROLES_zero kv_ROLES_zero (by decide) H, r_ROLES_deed := r_ROLES_deed, i_ROLES_deed := di_ROLES_deed, q_ROLES_deed := fun H => sqt_k kl_ROLES_deed kv_ROLES_deed (by decide) H,
    t_WORD := tk_WORD, g_WORD := PySem.W.mg_of X G ka_WORD,
    c_InputError := cc_InputError, gc_InputError := PySem.W.mg_of X G ka_InputError,
    c_BadNumber := cc_BadNumber, gc_BadNumber := PySem.W.mg_of X G ka_BadNumber,
    c_BadProgram := cc_BadProgram, gc_BadProgram := PySem.W.mg_of X G ka_BadProgram,
    i_BadProgram := ci_BadProgram, S_BadProgram := ⟨PySem.W.mg_of X G ka_BadProgram, ⟨by decide, by decide, by decide, by decide, by decide⟩, ⟨nm_BadProgram, q_BadProgram, N_BadProgram, bs_BadProgram, bm_BadProgram, sn_BadProgram, sub_BadProgram, ab_BadProgram, col_BadProgram, dd_BadProgram, k0_BadProgram, k1_BadProgram, k2_BadProgram, k3_BadProgram, k5_BadProgram, exL_BadProgram, exV_BadProgram⟩, esa_BadProgram, ega_BadProgram, egg_BadProgram, enb_BadProgram, eiC_BadProgram, etC_BadProgram, ekC_BadProgram, eeC_BadProgram, eyC_BadProgram, ehC_BadProgram, e_op, eal_BadProgram, evC_BadProgram, emC_BadProgram, e_su, e_top, ⟨_, _, _, _, _, _, _, _, _, _, _, _, _, _, _, _, _, _, _, _, _, _, _, _, el1_BadProgram, ec1_BadProgram, epl_BadProgram, fun s u v => .of_eq rfl, ⟨_, _, _, ece_BadProgram⟩, ⟨_, _, _, _, _, _, ecd_BadProgram, evs_BadProgram, efi_BadProgram⟩⟩⟩,
    I_BadProgram := ⟨ejC_BadProgram, ega_BadProgram, egg_BadProgram, eeC_BadProgram, efc_BadProgram, e_sp, e_tk, eoC_BadProgram⟩, m_BadProgram := Lw.exm_own eeC_BadProgram ejC_BadProgram eyC_BadProgram esC_BadProgram,
    k_BadProgram_InputError := ek_InputError_BadProgram,
    k_BadProgram_BadNumber := ek_BadNumber_BadProgram,
    k_BadProgram_BadProgram := ek_BadProgram_BadProgram,
    k_BadProgram_BadSetup := ek_BadSetup_BadProgram,
    k_BadProgram_BadDeed := ek_BadDeed_BadProgram,
    k_BadProgram_Setup := ek_Setup_BadProgram,
    k_BadProgram_ValueError := ek_VE_BadProgram,
    c_BadSetup := cc_BadSetup, gc_BadSetup := PySem.W.mg_of X G ka_BadSetup,
    i_BadSetup := ci_BadSetup, S_BadSetup := ⟨PySem.W.mg_of X G ka_BadSetup, ⟨⟨by decide, by decide, by decide, by decide, by decide⟩, ⟨by decide, by decide, by decide, by decide, by decide⟩, by decide, by decide, by decide⟩, ⟨nm_BadSetup, q_BadSetup, N_BadSetup, bs_BadSetup, bm_BadSetup, sn_BadSetup, sub_BadSetup, ab_BadSetup, col_BadSetup, dd_BadSetup, k0_BadSetup, k1_BadSetup, k2_BadSetup, k3_BadSetup, k5_BadSetup, exL_BadSetup, exV_BadSetup⟩, esa_BadSetup, ega_BadSetup, egg_BadSetup, enb_BadSetup, enk_BadSetup, eiC_BadSetup, etC_BadSetup, ekC_BadSetup, eeC_BadSetup, eyC_BadSetup, ehC_BadSetup, e_op, eal_BadSetup, evC_BadSetup, emC_BadSetup, e_su, e_top, ⟨_, _, _, _, _, _, _, _, _, _, _, _, _, _, _, _, _, _, _, _, _, _, _, _, _, _, _, _, _, el1_BadSetup, ec1_BadSetup, epl_BadSetup, fun s u v v2 => .of_eq rfl, ⟨_, _, _, ece_BadSetup⟩, ⟨_, _, _, _, _, _, ecd_BadSetup, evs_BadSetup, efi_BadSetup⟩⟩⟩,
    I_BadSetup := ⟨ejC_BadSetup, ega_BadSetup, egg_BadSetup, eeC_BadSetup, efc_BadSetup, e_sp, e_tk, eoC_BadSetup⟩, m_BadSetup := Lw.exm_own eeC_BadSetup ejC_BadSetup eyC_BadSetup esC_BadSetup,
    k_BadSetup_InputError := ek_InputError_BadSetup,
    k_BadSetup_BadNumber := ek_BadNumber_BadSetup,
    k_BadSetup_BadProgram := ek_BadProgram_BadSetup,
    k_BadSetup_BadSetup := ek_BadSetup_BadSetup,
    k_BadSetup_BadDeed := ek_BadDeed_BadSetup,
    k_BadSetup_Setup := ek_Setup_BadSetup,
    k_BadSetup_ValueError := ek_VE_BadSetup,
    c_BadDeed := cc_BadDeed, gc_BadDeed := PySem.W.mg_of X G ka_BadDeed,
    i_BadDeed := ci_BadDeed, S_BadDeed := ⟨PySem.W.mg_of X G ka_BadDeed, ⟨by decide, by decide, by decide, by decide, by decide⟩, ⟨nm_BadDeed, q_BadDeed, N_BadDeed, bs_BadDeed, bm_BadDeed, sn_BadDeed, sub_BadDeed, ab_BadDeed, col_BadDeed, dd_BadDeed, k0_BadDeed, k1_BadDeed, k2_BadDeed, k3_BadDeed, k5_BadDeed, exL_BadDeed, exV_BadDeed⟩, esa_BadDeed, ega_BadDeed, egg_BadDeed, enb_BadDeed, eiC_BadDeed, etC_BadDeed, ekC_BadDeed, eeC_BadDeed, eyC_BadDeed, ehC_BadDeed, e_op, eal_BadDeed, evC_BadDeed, emC_BadDeed, e_su, e_top, ⟨_, _, _, _, _, _, _, _, _, _, _, _, _, _, _, _, _, _, _, _, _, _, _, _, el1_BadDeed, ec1_BadDeed, epl_BadDeed, fun s u v => .of_eq rfl, ⟨_, _, _, ece_BadDeed⟩, ⟨_, _, _, _, _, _, ecd_BadDeed, evs_BadDeed, efi_BadDeed⟩⟩⟩,
    I_BadDeed := ⟨ejC_BadDeed, ega_BadDeed, egg_BadDeed, eeC_BadDeed, efc_BadDeed, e_sp, e_tk, eoC_BadDeed⟩, m_BadDeed := Lw.exm_own eeC_BadDeed ejC_BadDeed eyC_BadDeed esC_BadDeed,
    k_BadDeed_InputError := ek_InputError_BadDeed,
    k_BadDeed_BadNumber := ek_BadNumber_BadDeed,
    k_BadDeed_BadProgram := ek_BadProgram_BadDeed,
    k_BadDeed_BadSetup := ek_BadSetup_BadDeed,
    k_BadDeed_BadDeed := ek_BadDeed_BadDeed,
    k_BadDeed_Setup := ek_Setup_BadDeed,
    k_BadDeed_ValueError := ek_VE_BadDeed,
    n_all := PySem.W.mg_none_of X G z_all,
    n_bool := PySem.W.mg_none_of X G z_bool,
    n_enumerate := PySem.W.mg_none_of X G z_enumerate,
    n_int := PySem.W.mg_none_of X G z_int,
    n_isinstance := PySem.W.mg_none_of X G z_isinstance,
    n_len := PySem.W.mg_none_of X G z_len,
    n_list := PySem.W.mg_none_of X G z_list,
    n_range := PySem.W.mg_none_of X G z_range,
    n_str := PySem.W.mg_none_of X G z_str,
    n_tuple := PySem.W.mg_none_of X G z_tuple }
  exact ⟨PySem.W.fnOf "law" "law" (defArgs s_law) (defBody s_law) (defScope s_law) .none kV45 dc45 pm45 an45 cd45 ct45, fun s v => .of_eq rfl, fun base _ _ => ok_law_at T F45⟩
end K08

open PySem PySem.W PyProof.Rows in
set_option maxRecDepth 100000 in
set_option maxHeartbeats 0 in
theorem PySem.Challenge.cw_capstead_k08_prices_holds : PySem.Challenge.rw_capstead_k08_prices.Holds := by
  w_on; o_law; k_head; (case hw => w_witness2)
  k_fill
  refine L2.walk_ofK (l := PySem.Challenge.rw_capstead_k08_prices) (n := 63) (k := 9) (x := "script") (CX := L2.CX0) (sp := K08.spLaw) rfl (by decide) rfl ⟨rfl, by decide, by decide⟩ (fun w h Y => PySem.W.kIn_of Y) ?F (fun _ _ a ns hl _ hS => ⟨a, ns, rfl, hS, hl, fun _ => rfl⟩) fun _ _ _ _ z => z
  case F =>
    intro w mg fa h KX G hmg
    refine' K08.all_mk KX G hmg ?ka_Setup ?pg_Setup ?hd_Setup ?po_Setup ?sa_Setup ?mi_Setup ?kq_Setup ?nf_programs_Setup ?nf_slots_Setup ?nf_windows_Setup ?nf_turns_Setup ?nf_quotas_Setup ?nf_data_Setup ?nf_pages_Setup ?nf_ports_Setup ?nf_bells_Setup ?nf_lines_Setup ?nf_rights_Setup ?a0 ?l0 ?c0 ?k0 ?a1 ?l1 ?c1 ?k1 ?a2 ?l2 ?c2 ?k2 ?a3 ?l3 ?c3 ?k3 ?a4 ?l4 ?c4 ?k4 ?a5 ?l5 ?c5 ?k5 ?a6 ?l6 ?c6 ?k6 ?a7 ?l7 ?c7 ?k7 ?a8 ?l8 ?c8 ?k8 ?a9 ?l9 ?c9 ?k9 ?a10 ?l10 ?c10 ?k10 ?a11 ?l11 ?c11 ?k11 ?a12 ?l12 ?c12 ?k12 ?a13 ?l13 ?c13 ?k13 ?a14 ?l14 ?c14 ?k14 ?a15 ?l15 ?c15 ?k15 ?a16 ?l16 ?c16 ?k16 ?a17 ?l17 ?c17 ?k17 ?a18 ?l18 ?c18 ?k18 ?a19 ?l19 ?c19 ?k19 ?a20 ?l20 ?c20 ?k20 ?a21 ?l21 ?c21 ?k21 ?a22 ?l22 ?c22 ?k22 ?a23 ?l23 ?c23 ?k23 ?a24 ?l24 ?c24 ?k24 ?a25 ?l25 ?c25 ?k25 ?a26 ?l26 ?c26 ?k26 ?i26 ?kd26_rights ?ke26_rights ?kf26_rights ?kd26_quotas ?kd26_data ?kd26_pages ?kd26_ports ?kd26_bells ?kd26_lines ?ke26_lines ?kf26_lines ?kd26_slots ?kd26_windows ?a27 ?l27 ?c27 ?k27 ?a28 ?l28 ?c28 ?k28 ?a29 ?l29 ?c29 ?k29 ?a30 ?l30 ?c30 ?k30 ?a31 ?l31 ?c31 ?k31 ?a32 ?l32 ?c32 ?k32 ?a33 ?l33 ?c33 ?k33 ?a34 ?l34 ?c34 ?k34 ?a35 ?l35 ?c35 ?k35 ?a36 ?l36 ?c36 ?k36 ?a37 ?l37 ?c37 ?k37 ?a38 ?l38 ?c38 ?k38 ?a39 ?l39 ?c39 ?k39 ?a40 ?l40 ?c40 ?k40 ?a41 ?l41 ?c41 ?k41 ?a42 ?l42 ?c42 ?k42 ?a43 ?l43 ?c43 ?k43 ?a44 ?l44 ?c44 ?k44 ?a45 ?l45 ?c45 ?k45 ?ka_DEEDS ?kl_DEEDS ?kv_DEEDS ?ka_LETTERS ?kl_LETTERS ?kk_LETTERS ?kz_LETTERS ?kq_LETTERS ?di_LETTERS_page ?di_LETTERS_claim ?di_LETTERS_port ?di_LETTERS_bell ?di_LETTERS_line ?di_LETTERS_process ?ka_LONGEST ?ka_MOST_BELLS ?ka_MOST_CLAIMS ?ka_MOST_DATA ?ka_MOST_LINES ?ka_MOST_PAGES ?ka_MOST_PORTS ?ka_MOST_PROCESSES ?ka_MOST_SLOTS ?ka_MOST_TICKS ?ka_MOST_TURNS ?ka_MOST_WINDOWS ?ka_PRICES ?kl_PRICES ?kk_PRICES ?kz_PRICES ?kq_PRICES ?di_PRICES_halt ?di_PRICES_until ?di_PRICES_clock ?di_PRICES_look ?di_PRICES_claim ?di_PRICES_copy ?di_PRICES_map ?di_PRICES_unmap ?di_PRICES_send ?di_PRICES_take ?di_PRICES_trysend ?di_PRICES_trytake ?di_PRICES_call ?di_PRICES_reply ?di_PRICES_ring ?di_PRICES_await ?di_PRICES_tryawait ?di_PRICES_ack ?di_PRICES_give ?di_PRICES_pull ?ka_REGISTERS ?ka_ROLES ?kl_ROLES ?kk_ROLES ?kz_ROLES ?kq_ROLES ?di_ROLES_set ?kl_ROLES_set ?kv_ROLES_set ?di_ROLES_move ?kl_ROLES_move ?kv_ROLES_move ?di_ROLES_add ?kl_ROLES_add ?kv_ROLES_add ?di_ROLES_sub ?kl_ROLES_sub ?kv_ROLES_sub ?di_ROLES_load ?kl_ROLES_load ?kv_ROLES_load ?di_ROLES_store ?kl_ROLES_store ?kv_ROLES_store ?di_ROLES_jump ?kl_ROLES_jump ?kv_ROLES_jump ?di_ROLES_zero ?kl_ROLES_zero ?kv_ROLES_zero ?di_ROLES_deed ?kl_ROLES_deed ?kv_ROLES_deed ?ka_WORD ?ka_InputError ?ka_BadNumber ?ka_BadProgram ?ka_BadSetup ?ka_BadDeed ?exL_BadProgram ?exV_BadProgram ?esa_BadProgram ?ega_BadProgram ?egg_BadProgram ?enb_BadProgram ?efc_BadProgram ?eiC_BadProgram ?etC_BadProgram ?ekC_BadProgram ?eeC_BadProgram ?eyC_BadProgram ?ehC_BadProgram ?ejC_BadProgram ?esC_BadProgram ?evC_BadProgram ?eoC_BadProgram ?emC_BadProgram ?eal_BadProgram ?el1_BadProgram ?ec1_BadProgram ?ece_BadProgram ?ecd_BadProgram ?evs_BadProgram ?efi_BadProgram ?epl_BadProgram ?ek_InputError_BadProgram ?ek_BadNumber_BadProgram ?ek_BadProgram_BadProgram ?ek_BadSetup_BadProgram ?ek_BadDeed_BadProgram ?ek_Setup_BadProgram ?ek_VE_BadProgram ?exL_BadSetup ?exV_BadSetup ?esa_BadSetup ?ega_BadSetup ?egg_BadSetup ?enb_BadSetup ?enk_BadSetup ?efc_BadSetup ?eiC_BadSetup ?etC_BadSetup ?ekC_BadSetup ?eeC_BadSetup ?eyC_BadSetup ?ehC_BadSetup ?ejC_BadSetup ?esC_BadSetup ?evC_BadSetup ?eoC_BadSetup ?emC_BadSetup ?eal_BadSetup ?el1_BadSetup ?ec1_BadSetup ?ece_BadSetup ?ecd_BadSetup ?evs_BadSetup ?efi_BadSetup ?epl_BadSetup ?ek_InputError_BadSetup ?ek_BadNumber_BadSetup ?ek_BadProgram_BadSetup ?ek_BadSetup_BadSetup ?ek_BadDeed_BadSetup ?ek_Setup_BadSetup ?ek_VE_BadSetup ?exL_BadDeed ?exV_BadDeed ?esa_BadDeed ?ega_BadDeed ?egg_BadDeed ?enb_BadDeed ?efc_BadDeed ?eiC_BadDeed ?etC_BadDeed ?ekC_BadDeed ?eeC_BadDeed ?eyC_BadDeed ?ehC_BadDeed ?ejC_BadDeed ?esC_BadDeed ?evC_BadDeed ?eoC_BadDeed ?emC_BadDeed ?eal_BadDeed ?el1_BadDeed ?ec1_BadDeed ?ece_BadDeed ?ecd_BadDeed ?evs_BadDeed ?efi_BadDeed ?epl_BadDeed ?ek_InputError_BadDeed ?ek_BadNumber_BadDeed ?ek_BadProgram_BadDeed ?ek_BadSetup_BadDeed ?ek_BadDeed_BadDeed ?ek_Setup_BadDeed ?ek_VE_BadDeed ?e_op ?e_su ?e_top ?e_sp ?e_tk ?z_all ?z_bool ?z_enumerate ?z_int ?z_isinstance ?z_len ?z_list ?z_range ?z_str ?z_tuple
    (case ka_Setup => k_is)
    (case pg_Setup => k_is)
    (case hd_Setup => k_is)
    (case po_Setup => k_is)
    (case sa_Setup => k_is)
    (case mi_Setup => k_is)
    (case kq_Setup => k_is)
    (case nf_programs_Setup => k_is)
    (case nf_slots_Setup => k_is)
    (case nf_windows_Setup => k_is)
    (case nf_turns_Setup => k_is)
    (case nf_quotas_Setup => k_is)
    (case nf_data_Setup => k_is)
    (case nf_pages_Setup => k_is)
    (case nf_ports_Setup => k_is)
    (case nf_bells_Setup => k_is)
    (case nf_lines_Setup => k_is)
    (case nf_rights_Setup => k_is)
    (case a0 => k_is)
    (case l0 => k_is)
    (case c0 => k_is)
    (case k0 => k_is)
    (case a1 => k_is)
    (case l1 => k_is)
    (case c1 => k_is)
    (case k1 => k_is)
    (case a2 => k_is)
    (case l2 => k_is)
    (case c2 => k_is)
    (case k2 => k_is)
    (case a3 => k_is)
    (case l3 => k_is)
    (case c3 => k_is)
    (case k3 => k_is)
    (case a4 => k_is)
    (case l4 => k_is)
    (case c4 => k_is)
    (case k4 => k_is)
    (case a5 => k_is)
    (case l5 => k_is)
    (case c5 => k_is)
    (case k5 => k_is)
    (case a6 => k_is)
    (case l6 => k_is)
    (case c6 => k_is)
    (case k6 => k_is)
    (case a7 => k_is)
    (case l7 => k_is)
    (case c7 => k_is)
    (case k7 => k_is)
    (case a8 => k_is)
    (case l8 => k_is)
    (case c8 => k_is)
    (case k8 => k_is)
    (case a9 => k_is)
    (case l9 => k_is)
    (case c9 => k_is)
    (case k9 => k_is)
    (case a10 => k_is)
    (case l10 => k_is)
    (case c10 => k_is)
    (case k10 => k_is)
    (case a11 => k_is)
    (case l11 => k_is)
    (case c11 => k_is)
    (case k11 => k_is)
    (case a12 => k_is)
    (case l12 => k_is)
    (case c12 => k_is)
    (case k12 => k_is)
    (case a13 => k_is)
    (case l13 => k_is)
    (case c13 => k_is)
    (case k13 => k_is)
    (case a14 => k_is)
    (case l14 => k_is)
    (case c14 => k_is)
    (case k14 => k_is)
    (case a15 => k_is)
    (case l15 => k_is)
    (case c15 => k_is)
    (case k15 => k_is)
    (case a16 => k_is)
    (case l16 => k_is)
    (case c16 => k_is)
    (case k16 => k_is)
    (case a17 => k_is)
    (case l17 => k_is)
    (case c17 => k_is)
    (case k17 => k_is)
    (case a18 => k_is)
    (case l18 => k_is)
    (case c18 => k_is)
    (case k18 => k_is)
    (case a19 => k_is)
    (case l19 => k_is)
    (case c19 => k_is)
    (case k19 => k_is)
    (case a20 => k_is)
    (case l20 => k_is)
    (case c20 => k_is)
    (case k20 => k_is)
    (case a21 => k_is)
    (case l21 => k_is)
    (case c21 => k_is)
    (case k21 => k_is)
    (case a22 => k_is)
    (case l22 => k_is)
    (case c22 => k_is)
    (case k22 => k_is)
    (case a23 => k_is)
    (case l23 => k_is)
    (case c23 => k_is)
    (case k23 => k_is)
    (case a24 => k_is)
    (case l24 => k_is)
    (case c24 => k_is)
    (case k24 => k_is)
    (case a25 => k_is)
    (case l25 => k_is)
    (case c25 => k_is)
    (case k25 => k_is)
    (case a26 => k_is)
    (case l26 => k_is)
    (case c26 => k_is)
    (case k26 => k_is)
    (case i26 => k_is)
    (case kd26_rights => k_is)
    (case ke26_rights => k_is)
    (case kf26_rights => decide +kernel)
    (case kd26_quotas => k_is)
    (case kd26_data => k_is)
    (case kd26_pages => k_is)
    (case kd26_ports => k_is)
    (case kd26_bells => k_is)
    (case kd26_lines => k_is)
    (case ke26_lines => k_is)
    (case kf26_lines => decide +kernel)
    (case kd26_slots => k_is)
    (case kd26_windows => k_is)
    (case a27 => k_is)
    (case l27 => k_is)
    (case c27 => k_is)
    (case k27 => k_is)
    (case a28 => k_is)
    (case l28 => k_is)
    (case c28 => k_is)
    (case k28 => k_is)
    (case a29 => k_is)
    (case l29 => k_is)
    (case c29 => k_is)
    (case k29 => k_is)
    (case a30 => k_is)
    (case l30 => k_is)
    (case c30 => k_is)
    (case k30 => k_is)
    (case a31 => k_is)
    (case l31 => k_is)
    (case c31 => k_is)
    (case k31 => k_is)
    (case a32 => k_is)
    (case l32 => k_is)
    (case c32 => k_is)
    (case k32 => k_is)
    (case a33 => k_is)
    (case l33 => k_is)
    (case c33 => k_is)
    (case k33 => k_is)
    (case a34 => k_is)
    (case l34 => k_is)
    (case c34 => k_is)
    (case k34 => k_is)
    (case a35 => k_is)
    (case l35 => k_is)
    (case c35 => k_is)
    (case k35 => k_is)
    (case a36 => k_is)
    (case l36 => k_is)
    (case c36 => k_is)
    (case k36 => k_is)
    (case a37 => k_is)
    (case l37 => k_is)
    (case c37 => k_is)
    (case k37 => k_is)
    (case a38 => k_is)
    (case l38 => k_is)
    (case c38 => k_is)
    (case k38 => k_is)
    (case a39 => k_is)
    (case l39 => k_is)
    (case c39 => k_is)
    (case k39 => k_is)
    (case a40 => k_is)
    (case l40 => k_is)
    (case c40 => k_is)
    (case k40 => k_is)
    (case a41 => k_is)
    (case l41 => k_is)
    (case c41 => k_is)
    (case k41 => k_is)
    (case a42 => k_is)
    (case l42 => k_is)
    (case c42 => k_is)
    (case k42 => k_is)
    (case a43 => k_is)
    (case l43 => k_is)
    (case c43 => k_is)
    (case k43 => k_is)
    (case a44 => k_is)
    (case l44 => k_is)
    (case c44 => k_is)
    (case k44 => k_is)
    (case a45 => k_is)
    (case l45 => k_is)
    (case c45 => k_is)
    (case k45 => k_is)
    (case ka_DEEDS => k_is)
    (case kl_DEEDS => k_is)
    (case kv_DEEDS => decide +kernel)
    (case ka_LETTERS => k_is)
    (case kl_LETTERS => k_is)
    (case kk_LETTERS => exact ⟨⟨_, _, rfl, rfl⟩, ⟨⟨_, _, rfl, rfl⟩, ⟨⟨_, _, rfl, rfl⟩, ⟨⟨_, _, rfl, rfl⟩, ⟨⟨_, _, rfl, rfl⟩, ⟨⟨_, _, rfl, rfl⟩, trivial⟩⟩⟩⟩⟩⟩)
    (case kz_LETTERS => decide +kernel)
    (case kq_LETTERS => rfl)
    (case di_LETTERS_page => k_is)
    (case di_LETTERS_claim => k_is)
    (case di_LETTERS_port => k_is)
    (case di_LETTERS_bell => k_is)
    (case di_LETTERS_line => k_is)
    (case di_LETTERS_process => k_is)
    (case ka_LONGEST => k_is)
    (case ka_MOST_BELLS => k_is)
    (case ka_MOST_CLAIMS => k_is)
    (case ka_MOST_DATA => k_is)
    (case ka_MOST_LINES => k_is)
    (case ka_MOST_PAGES => k_is)
    (case ka_MOST_PORTS => k_is)
    (case ka_MOST_PROCESSES => k_is)
    (case ka_MOST_SLOTS => k_is)
    (case ka_MOST_TICKS => k_is)
    (case ka_MOST_TURNS => k_is)
    (case ka_MOST_WINDOWS => k_is)
    (case ka_PRICES => k_is)
    (case kl_PRICES => k_is)
    (case kk_PRICES => exact ⟨⟨_, _, rfl, rfl⟩, ⟨⟨_, _, rfl, rfl⟩, ⟨⟨_, _, rfl, rfl⟩, ⟨⟨_, _, rfl, rfl⟩, ⟨⟨_, _, rfl, rfl⟩, ⟨⟨_, _, rfl, rfl⟩, ⟨⟨_, _, rfl, rfl⟩, ⟨⟨_, _, rfl, rfl⟩, ⟨⟨_, _, rfl, rfl⟩, ⟨⟨_, _, rfl, rfl⟩, ⟨⟨_, _, rfl, rfl⟩, ⟨⟨_, _, rfl, rfl⟩, ⟨⟨_, _, rfl, rfl⟩, ⟨⟨_, _, rfl, rfl⟩, ⟨⟨_, _, rfl, rfl⟩, ⟨⟨_, _, rfl, rfl⟩, ⟨⟨_, _, rfl, rfl⟩, ⟨⟨_, _, rfl, rfl⟩, ⟨⟨_, _, rfl, rfl⟩, ⟨⟨_, _, rfl, rfl⟩, trivial⟩⟩⟩⟩⟩⟩⟩⟩⟩⟩⟩⟩⟩⟩⟩⟩⟩⟩⟩⟩)
    (case kz_PRICES => decide +kernel)
    (case kq_PRICES => rfl)
    (case di_PRICES_halt => k_is)
    (case di_PRICES_until => k_is)
    (case di_PRICES_clock => k_is)
    (case di_PRICES_look => k_is)
    (case di_PRICES_claim => k_is)
    (case di_PRICES_copy => k_is)
    (case di_PRICES_map => k_is)
    (case di_PRICES_unmap => k_is)
    (case di_PRICES_send => k_is)
    (case di_PRICES_take => k_is)
    (case di_PRICES_trysend => k_is)
    (case di_PRICES_trytake => k_is)
    (case di_PRICES_call => k_is)
    (case di_PRICES_reply => k_is)
    (case di_PRICES_ring => k_is)
    (case di_PRICES_await => k_is)
    (case di_PRICES_tryawait => k_is)
    (case di_PRICES_ack => k_is)
    (case di_PRICES_give => k_is)
    (case di_PRICES_pull => k_is)
    (case ka_REGISTERS => k_is)
    (case ka_ROLES => k_is)
    (case kl_ROLES => k_is)
    (case kk_ROLES => exact ⟨⟨_, _, rfl, rfl⟩, ⟨⟨_, _, rfl, rfl⟩, ⟨⟨_, _, rfl, rfl⟩, ⟨⟨_, _, rfl, rfl⟩, ⟨⟨_, _, rfl, rfl⟩, ⟨⟨_, _, rfl, rfl⟩, ⟨⟨_, _, rfl, rfl⟩, ⟨⟨_, _, rfl, rfl⟩, ⟨⟨_, _, rfl, rfl⟩, trivial⟩⟩⟩⟩⟩⟩⟩⟩⟩)
    (case kz_ROLES => decide +kernel)
    (case kq_ROLES => rfl)
    (case di_ROLES_set => k_is)
    (case kl_ROLES_set => k_is)
    (case kv_ROLES_set => decide +kernel)
    (case di_ROLES_move => k_is)
    (case kl_ROLES_move => k_is)
    (case kv_ROLES_move => decide +kernel)
    (case di_ROLES_add => k_is)
    (case kl_ROLES_add => k_is)
    (case kv_ROLES_add => decide +kernel)
    (case di_ROLES_sub => k_is)
    (case kl_ROLES_sub => k_is)
    (case kv_ROLES_sub => decide +kernel)
    (case di_ROLES_load => k_is)
    (case kl_ROLES_load => k_is)
    (case kv_ROLES_load => decide +kernel)
    (case di_ROLES_store => k_is)
    (case kl_ROLES_store => k_is)
    (case kv_ROLES_store => decide +kernel)
    (case di_ROLES_jump => k_is)
    (case kl_ROLES_jump => k_is)
    (case kv_ROLES_jump => decide +kernel)
    (case di_ROLES_zero => k_is)
    (case kl_ROLES_zero => k_is)
    (case kv_ROLES_zero => decide +kernel)
    (case di_ROLES_deed => k_is)
    (case kl_ROLES_deed => k_is)
    (case kv_ROLES_deed => decide +kernel)
    (case ka_WORD => k_is)
    (case ka_InputError => k_is)
    (case ka_BadNumber => k_is)
    (case ka_BadProgram => k_is)
    (case ka_BadSetup => k_is)
    (case ka_BadDeed => k_is)
    (case exL_BadProgram => k_is)
    (case exV_BadProgram => decide +kernel)
    (case esa_BadProgram => k_is)
    (case ega_BadProgram => k_is)
    (case egg_BadProgram => k_is)
    (case enb_BadProgram => k_is)
    (case efc_BadProgram => k_is)
    (case eiC_BadProgram => k_is)
    (case etC_BadProgram => k_is)
    (case ekC_BadProgram => k_is)
    (case eeC_BadProgram => k_is)
    (case eyC_BadProgram => k_is)
    (case ehC_BadProgram => k_is)
    (case ejC_BadProgram => k_is)
    (case esC_BadProgram => kernel_rfl)
    (case evC_BadProgram => k_is)
    (case eoC_BadProgram => k_is)
    (case emC_BadProgram => k_is)
    (case eal_BadProgram => kernel_rfl)
    (case el1_BadProgram => k_is)
    (case ec1_BadProgram => k_is)
    (case ece_BadProgram => k_is)
    (case ecd_BadProgram => k_is)
    (case evs_BadProgram => rfl)
    (case efi_BadProgram => decide +kernel)
    (case epl_BadProgram => rfl)
    (case ek_InputError_BadProgram => kernel_rfl)
    (case ek_BadNumber_BadProgram => kernel_rfl)
    (case ek_BadProgram_BadProgram => kernel_rfl)
    (case ek_BadSetup_BadProgram => kernel_rfl)
    (case ek_BadDeed_BadProgram => kernel_rfl)
    (case ek_Setup_BadProgram => kernel_rfl)
    (case ek_VE_BadProgram => kernel_rfl)
    (case exL_BadSetup => k_is)
    (case exV_BadSetup => decide +kernel)
    (case esa_BadSetup => k_is)
    (case ega_BadSetup => k_is)
    (case egg_BadSetup => k_is)
    (case enb_BadSetup => k_is)
    (case enk_BadSetup => k_is)
    (case efc_BadSetup => k_is)
    (case eiC_BadSetup => k_is)
    (case etC_BadSetup => k_is)
    (case ekC_BadSetup => k_is)
    (case eeC_BadSetup => k_is)
    (case eyC_BadSetup => k_is)
    (case ehC_BadSetup => k_is)
    (case ejC_BadSetup => k_is)
    (case esC_BadSetup => kernel_rfl)
    (case evC_BadSetup => k_is)
    (case eoC_BadSetup => k_is)
    (case emC_BadSetup => k_is)
    (case eal_BadSetup => kernel_rfl)
    (case el1_BadSetup => k_is)
    (case ec1_BadSetup => k_is)
    (case ece_BadSetup => k_is)
    (case ecd_BadSetup => k_is)
    (case evs_BadSetup => rfl)
    (case efi_BadSetup => decide +kernel)
    (case epl_BadSetup => rfl)
    (case ek_InputError_BadSetup => kernel_rfl)
    (case ek_BadNumber_BadSetup => kernel_rfl)
    (case ek_BadProgram_BadSetup => kernel_rfl)
    (case ek_BadSetup_BadSetup => kernel_rfl)
    (case ek_BadDeed_BadSetup => kernel_rfl)
    (case ek_Setup_BadSetup => kernel_rfl)
    (case ek_VE_BadSetup => kernel_rfl)
    (case exL_BadDeed => k_is)
    (case exV_BadDeed => decide +kernel)
    (case esa_BadDeed => k_is)
    (case ega_BadDeed => k_is)
    (case egg_BadDeed => k_is)
    (case enb_BadDeed => k_is)
    (case efc_BadDeed => k_is)
    (case eiC_BadDeed => k_is)
    (case etC_BadDeed => k_is)
    (case ekC_BadDeed => k_is)
    (case eeC_BadDeed => k_is)
    (case eyC_BadDeed => k_is)
    (case ehC_BadDeed => k_is)
    (case ejC_BadDeed => k_is)
    (case esC_BadDeed => kernel_rfl)
    (case evC_BadDeed => k_is)
    (case eoC_BadDeed => k_is)
    (case emC_BadDeed => k_is)
    (case eal_BadDeed => kernel_rfl)
    (case el1_BadDeed => k_is)
    (case ec1_BadDeed => k_is)
    (case ece_BadDeed => k_is)
    (case ecd_BadDeed => k_is)
    (case evs_BadDeed => rfl)
    (case efi_BadDeed => decide +kernel)
    (case epl_BadDeed => rfl)
    (case ek_InputError_BadDeed => kernel_rfl)
    (case ek_BadNumber_BadDeed => kernel_rfl)
    (case ek_BadProgram_BadDeed => kernel_rfl)
    (case ek_BadSetup_BadDeed => kernel_rfl)
    (case ek_BadDeed_BadDeed => kernel_rfl)
    (case ek_Setup_BadDeed => kernel_rfl)
    (case ek_VE_BadDeed => kernel_rfl)
    (case e_op => k_is)
    (case e_su => k_is)
    (case e_top => decide +kernel)
    (case e_sp => k_is)
    (case e_tk => k_is)
    (case z_all => k_is)
    (case z_bool => k_is)
    (case z_enumerate => k_is)
    (case z_int => k_is)
    (case z_isinstance => k_is)
    (case z_len => k_is)
    (case z_list => k_is)
    (case z_range => k_is)
    (case z_str => k_is)
    (case z_tuple => k_is)

