import PyProof.Rows.All
import Wide.All
import OpenK.AllK
import Wide.FinOn
import HandS.ForMost
import HandS.IsInst
import HandS.Walk
import HandS.More
import HandS.SetKeys
import HandS.RaiseMore
import HandS.SortKw
import HandS.Exc
import KE.GoesEnumKw
import HandS.ExcOwn
import HandS.TryOnly
import HandS.WordsExc
import HandS.ExcInit
import HandS.ExcIs
import HandS.ExcSuper
import KE.KExcSuper
import KE.KSuper
import KE.KExcIs
import HandS.ExcField
import HandS.FStr
import HandS.HotCalls
import HandS.Iter
import PyProof.StrOps2
import HandS.NoneIn
import HandS.MakeKwOnly
import HandS.SortInts
import HandS.RaiseFrom
import PySem.Challenge.RW_capstead_k09_raises_checked
set_option Elab.async false
set_option linter.all false
set_option maxRecDepth 100000
set_option maxHeartbeats 4000000
/-! Lw: forward reading over the hand layer. A world W: the objects that a law's drawing pool owns, and what holds of them; everything else stands (Ex). -/
namespace Lw
open PySem L2

/-- what is owned (its content may change in calls), what holds of it -/
structure Wd where
  own : Hp → Addr → Prop
  iv : Hp → Prop
  trk : ∀ {H : Hp} {a : Addr}, iv H → own H a → ∃ o, H a = some o
  loc : ∀ {H H' : Hp}, iv H → (∀ a, own H a → H' a = H a) → iv H' ∧ ∀ a, own H' a → own H a

/-- nothing is owned -/
def W0 : Wd := ⟨fun _ _ => False, fun _ => True, fun _ h => h.elim, fun _ _ => ⟨trivial, fun _ h => h⟩⟩

def At (W : Wd) (H : Hp) (a : Addr) (o : HO) : Prop := H a = some o ∧ ¬ W.own H a
structure Ex (W : Wd) (H H' : Hp) : Prop where
  i0 : W.iv H
  iv : W.iv H'
  at_ : ∀ {a : Addr} {o : HO}, At W H a o → At W H' a o
  tr : ∀ {a : Addr} {o : HO}, H a = some o → ∃ o', H' a = some o'

section
variable {W : Wd} {H H1 H2 H' : Hp} {a p l : Addr} {o u : HO} {xs : List V} {K : PySem.W.Frag}
theorem Ex.refl (i : W.iv H) : Ex W H H := ⟨i, i, fun h => h, fun h => ⟨_, h⟩⟩
theorem Ex.trans (a : Ex W H H1) (b : Ex W H1 H2) : Ex W H H2 := ⟨a.i0, b.iv, fun h => b.at_ (a.at_ h), fun h => let ⟨_, q⟩ := a.tr h; b.tr q⟩
theorem Ex.fresh (e : Ex W H H') (i : H' p = none) : H p = none := by
  cases q : H p with
  | none => rfl
  | some u =>
    obtain ⟨_, z⟩ := e.tr q
    rw [i] at z; cases z
theorem own_ne (i : W.iv H) (h : H p = none) : ¬ W.own H p := fun q => by
  obtain ⟨o, e⟩ := W.trk i q
  rw [h] at e; cases e
/-- what is not owned changes -/
theorem loc_upd (i : W.iv H) (h : ¬ W.own H p) : W.iv (upd H p o) ∧ ∀ a, W.own (upd H p o) a → W.own H a :=
  W.loc i fun a ha => upd_ne fun e => h (e ▸ ha)
theorem Ex.new (i : W.iv H) (h : H p = none) : Ex W H (upd H p o) := by
  have l := loc_upd (o := o) i (own_ne i h)
  refine ⟨i, l.1, fun {b u} hb => ⟨?_, fun q => hb.2 (l.2 _ q)⟩, fun {b u} hb => ⟨u, ?_⟩⟩
  · rw [upd_ne (ne_of_none hb.1 h)]; exact hb.1
  · rw [upd_ne (ne_of_none hb h)]; exact hb
theorem At.new (i : W.iv H) (h : H p = none) : At W (upd H p o) p o := ⟨upd_same, fun q => own_ne i h ((loc_upd i (own_ne i h)).2 _ q)⟩
/-- a local object (unknown at H) changes -/
theorem Ex.mut (e : Ex W H H1) (h : H p = none) (ha : At W H1 p u) : Ex W H (upd H1 p o) := by
  have l := loc_upd (o := o) e.iv ha.2
  refine ⟨e.i0, l.1, fun {b v} hb => ⟨?_, fun q => (e.at_ hb).2 (l.2 _ q)⟩, fun {b v} hb => ?_⟩
  · rw [upd_ne (ne_of_none hb.1 h)]; exact (e.at_ hb).1
  · rw [upd_ne (ne_of_none hb h)]; exact e.tr hb
theorem At.mut (e : W.iv H1) (ha : At W H1 p u) : At W (upd H1 p o) p o := ⟨upd_same, fun q => ha.2 ((loc_upd e ha.2).2 _ q)⟩
theorem At.other {v : HO} (e : W.iv H1) (ha : At W H1 p u) (hb : At W H1 a o) (ne : a ≠ p) : At W (upd H1 p v) a o := ⟨by rw [upd_ne ne]; exact hb.1, fun q => hb.2 ((loc_upd e ha.2).2 _ q)⟩
theorem At.sl (h : At W H a (.lst xs)) : SqL K H a xs := SqL.of h.1
theorem At.raw (h : At W H a o) : H a = some o := h.1
theorem At.st (h : At W H a (.tup xs)) : SqT K H a xs := SqT.of h.1
theorem At.ne_fresh (h : At W H a o) (f : H p = none) : a ≠ p := ne_of_none h.1 f
theorem At.ne (h : At W H a o) (h' : At W H p u) (d : o ≠ u) : a ≠ p := ne_of h.1 h'.1 d
theorem At.uniq (h : At W H a o) (h' : At W H a u) : o = u := Option.some.inj (h.1.symm.trans h'.1)

/-! ### new objects, behind a reading -/
theorem new_of {Q : VK} (i : W.iv H) (k : ∀ p H2, H p = none → Ex W H H2 → At W H2 p o → Q (.ref p) H2) : ∀ p, H p = none → Q (.ref p) (upd H p o) :=
  fun p hp => k p _ hp (Ex.new i hp) (At.new i hp)
theorem lst_of {Q : VK} {n : Nat} (i : W.iv H) (hn : n ≤ 1000000) (k : ∀ p H2, H p = none → Ex W H H2 → At W H2 p o → Q (.ref p) H2) : n ≤ sizeLine ∧ ∀ p, H p = none → Q (.ref p) (upd H p o) :=
  ⟨Nat.le_trans hn (by decide), new_of i k⟩
theorem sz_le {n : Nat} (h : n ≤ 1000000) : n ≤ sizeLine := Nat.le_trans h (by decide)
theorem sz_lt {n : Nat} (h : n < 1000000) : n < sizeLine := Nat.lt_of_lt_of_le h (by decide)

/-! ### tests -/
theorem ifD {c A B : Prop} [Decidable c] (h1 : c → A) (h2 : ¬ c → B) : if decide c = true then A else B := by
  by_cases h : c
  · rw [decide_eq_true h, if_pos rfl]; exact h1 h
  · rw [decide_eq_false h, if_neg Bool.false_ne_true]; exact h2 h
theorem ifN {c A B : Prop} [Decidable c] (h1 : ¬ c → A) (h2 : c → B) : if (!decide c) = true then A else B := by
  by_cases h : c
  · rw [decide_eq_true h]; exact iteF (h2 h)
  · rw [decide_eq_false h]; exact iteT (h1 h)
theorem ifB {b : Bool} {A B : Prop} (h1 : b = true → A) (h2 : b = false → B) : if b = true then A else B := by
  cases b with
  | true => exact iteT (h1 rfl)
  | false => exact iteF (h2 rfl)
theorem ifNB {b : Bool} {A B : Prop} (h1 : b = false → A) (h2 : b = true → B) : if (!b) = true then A else B := by
  cases b with
  | true => exact iteF (h2 rfl)
  | false => exact iteT (h1 rfl)
theorem dVI {i j : Int} : decide (V.int i = V.int j) = decide (i = j) := by rw [dec_int, Bool.beq_eq_decide_eq]
theorem dVS {i j : Str} : decide (V.str i = V.str j) = decide (i = j) := by rw [dec_str, Bool.beq_eq_decide_eq]
theorem dVB {i j : Bool} : decide (V.bl i = V.bl j) = decide (i = j) := by rw [dec_bl, Bool.beq_eq_decide_eq]
theorem ifI {i j : Int} {A B : Prop} (h1 : i = j → A) (h2 : i ≠ j → B) : if decide (V.int i = V.int j) = true then A else B := by rw [dVI]; exact ifD h1 h2
theorem ifIn {i j : Int} {A B : Prop} (h1 : i ≠ j → A) (h2 : i = j → B) : if (!decide (V.int i = V.int j)) = true then A else B := by rw [dVI]; exact ifN h1 h2
theorem ifS {i j : Str} {A B : Prop} (h1 : i = j → A) (h2 : i ≠ j → B) : if decide (V.str i = V.str j) = true then A else B := by rw [dVS]; exact ifD h1 h2
theorem ifSn {i j : Str} {A B : Prop} (h1 : i ≠ j → A) (h2 : i = j → B) : if (!decide (V.str i = V.str j)) = true then A else B := by rw [dVS]; exact ifN h1 h2

/-! ### a list comprehension over a list: each item's value, by a word that only grows -/
/-- of each item of xs there is one of ys -/
inductive All2 (R : V → V → Prop) : List V → List V → Prop
  | nil : All2 R [] []
  | cons {x y : V} {xs ys : List V} : R x y → All2 R xs ys → All2 R (x :: xs) (y :: ys)
theorem All2.length {R : V → V → Prop} : ∀ {xs ys : List V}, All2 R xs ys → ys.length = xs.length
  | _, _, .nil => rfl
  | _, _, .cons _ t => by rw [List.length_cons, List.length_cons, t.length]
theorem All2.mono {R S : V → V → Prop} (f : ∀ x y, R x y → S x y) : ∀ {xs ys : List V}, All2 R xs ys → All2 S xs ys
  | _, _, .nil => .nil
  | _, _, .cons r t => .cons (f _ _ r) (t.mono f)
theorem All2.snoc {R : V → V → Prop} {x y : V} : ∀ {xs ys : List V}, All2 R xs ys → R x y → All2 R (xs ++ [x]) (ys ++ [y])
  | _, _, .nil, r => .cons r .nil
  | _, _, .cons q t, r => .cons q (t.snoc r)
end

/-! ### written tuples -/
theorem rel_abs : ∀ {u : Value} {x : V}, absV u = some x → RelV x u
  | .none, x, h => by cases h; rfl
  | .bool b, x, h => by cases h; rfl
  | .int i t, x, h => by cases h; exact ⟨t, rfl⟩
  | .str y t, x, h => by cases h; exact ⟨t, rfl⟩
  | .bytes b t, x, h => by cases h; exact ⟨t, rfl⟩
  | .float b t, x, h => by cases h; exact ⟨t, rfl⟩
  | .ref a, x, h => by cases h; rfl
  | .type n, x, h => by cases h; rfl
theorem vals_abs : ∀ {its : List Value} {xs : List V}, its.map absV = xs.map some → Vals xs its
  | [], [], _ => .nil
  | u :: us, x :: xs, h => by
    rw [List.map_cons, List.map_cons] at h
    injection h with h1 h2
    exact .cons (rel_abs h1) (vals_abs h2)
theorem sqt_k {K : PySem.W.Frag} {a : Addr} {its : Array Value} {n : Nat} {dd : Option Addr} {sl : Array (Option Value)} {xs : List V} (l : K.lookup a = some ⟨.type "tuple", dd, .seq its n, sl⟩) (h : its.toList.map absV = xs.map some) (hz : xs.length ≤ 1000) (H : Hp) : SqT K H a xs := by
  refine .inr ⟨_, its, n, l, rfl, rfl, ?_, vals_abs h⟩
  have e := (vals_abs h).length
  have el : its.toList.length = its.size := by simp
  exact Nat.le_trans (by omega) (by decide : 1000 ≤ sizeLine)

/-! ### the rules of built-ins under names -/
section
variable {X : Cx}
def rLen (K : PySem.W.Frag) : List V → Hp → VK → Prop := fun xs H Q => ∃ p ys, xs = [.ref p] ∧ (SqL K H p ys ∨ SqT K H p ys) ∧ Q (.int ys.length) H
theorem c_len : CallR X (.builtin "len") (rLen X.K) := call_len_seq
def rLenStr : List V → Hp → VK → Prop := fun xs H Q => ∃ z, xs = [.str z] ∧ z.length ≤ sizeLine ∧ Q (.int z.length) H
theorem c_lens : CallR X (.builtin "len") rLenStr := call_len_str
def rInt : List V → Hp → VK → Prop := fun xs H Q => (∃ i, xs = [.int i] ∧ Q (.int i) H) ∨ ∃ k, xs = [.bl k] ∧ Q (.int (if k then 1 else 0)) H
theorem c_int : CallR X (.type "int") rInt := call_int1
def rAbs : List V → Hp → VK → Prop := fun xs H Q => ∃ i, xs = [.int i] ∧ Q (.int (if i < 0 then -i else i)) H
theorem c_abs : CallR X (.builtin "abs") rAbs := call_abs
def rMax2 : List V → Hp → VK → Prop := fun xs H Q => ∃ i j, xs = [.int i, .int j] ∧ Q (.int (if j > i then j else i)) H
theorem c_max2 (hc : X.calm = true) : CallR X (.builtin "max") rMax2 := call_max2 hc
def rMin2 : List V → Hp → VK → Prop := fun xs H Q => ∃ i j, xs = [.int i, .int j] ∧ Q (.int (if j < i then j else i)) H
theorem c_min2 (hc : X.calm = true) : CallR X (.builtin "min") rMin2 := call_min2 hc
def rStrI : List V → Hp → VK → Prop := fun xs H Q => ∃ i, xs = [.int i] ∧ i.natAbs.log2 < 1920 ∧ Q (.str (toString i)) H
theorem c_strI : CallR X (.type "str") rStrI := call_str_int
def rListO (K : PySem.W.Frag) : List V → Hp → VK → Prop := fun xs H Q => ∃ p ys, xs = [.ref p] ∧ (SqL K H p ys ∨ SqT K H p ys) ∧ ∀ l, H l = none → Q (.ref l) (upd H l (.lst ys))
theorem c_list : CallR X (.type "list") (rListO X.K) := call_list_of
def rTupO (K : PySem.W.Frag) : List V → Hp → VK → Prop := fun xs H Q => ∃ p ys, xs = [.ref p] ∧ ((SqL K H p ys ∧ ∀ l, H l = none → Q (.ref l) (upd H l (.tup ys))) ∨ (SqT K H p ys ∧ Q (.ref p) H))
theorem c_tuple : CallR X (.type "tuple") (rTupO X.K) := call_tuple_of
def rAddS2 : R2 := fun x y H Q => ∃ i j, x = .str i ∧ y = .str j ∧ i.length + j.length ≤ sizeLine ∧ Q (.str (i ++ j)) H
theorem o_adds : OpR X (binaryOp .Add) rAddS2 := op_add_str
def rIsN2 : R2 := fun x y H Q => y = .non ∧ Q (.bl (decide (x = .non))) H
theorem o_isN : OpR X (compareOp .Is) rIsN2 := op_isN
def rNotN2 : R2 := fun x y H Q => y = .non ∧ Q (.bl (!decide (x = .non))) H
theorem o_notN : OpR X (compareOp .IsNot) rNotN2 := op_notN
/-- ** of any size -/
def CPowW (i j : Int) : Prop := 0 ≤ j ∧ (Builtin.Int.intBits i : Int) * j ≤ 2 ^ 27
theorem op_powW : OpR X (binaryOp .Pow) (rI CPowW fun i j => .int (i ^ j.toNat)) := opI fun _ _ _ _ _ _ _ hc q => PyProof.Rows.pow_int hc.1 hc.2 q
end

theorem at_0 {α : Type} {x : α} {r : List α} : atI (x :: r) 0 = some x := by
  unfold atI ixN
  rw [if_pos (by decide), if_pos (by simp)]
  rfl
theorem at_in {xs : List V} {i : Int} {v : V} (h : 0 ≤ i) (e : xs[i.toNat]? = some v) : atI xs i = some v := by
  have q := atI_nat (j := i.toNat) e
  rw [show ((i.toNat : Nat) : Int) = i by omega] at q
  exact q
theorem ix_0 {n : Nat} (h : 0 < n) : ixN n 0 = some 0 := by
  unfold ixN
  rw [if_pos (by omega), if_pos (by omega)]
  rfl
theorem ix_in {n : Nat} {i : Int} (h : 0 ≤ i) (h2 : i < n) : ixN n i = some i.toNat := by
  unfold ixN
  rw [if_pos h, if_pos h2]

/-! ### tests whose answer is known -/
theorem ifS_no {i j : Str} {A B : Prop} (ne : i ≠ j) (h : B) : if decide (V.str i = V.str j) = true then A else B := ifS (fun e => absurd e ne) fun _ => h
theorem ifS_yes {i j : Str} {A B : Prop} (e : i = j) (h : A) : if decide (V.str i = V.str j) = true then A else B := ifS (fun _ => h) fun ne => absurd e ne
theorem ifSn_no {i j : Str} {A B : Prop} (e : i = j) (h : B) : if (!decide (V.str i = V.str j)) = true then A else B := ifSn (fun ne => absurd e ne) fun _ => h
theorem ifSn_yes {i j : Str} {A B : Prop} (ne : i ≠ j) (h : A) : if (!decide (V.str i = V.str j)) = true then A else B := ifSn (fun _ => h) fun e => absurd e ne
theorem ifI_no {i j : Int} {A B : Prop} (ne : i ≠ j) (h : B) : if decide (V.int i = V.int j) = true then A else B := ifI (fun e => absurd e ne) fun _ => h
theorem ifI_yes {i j : Int} {A B : Prop} (e : i = j) (h : A) : if decide (V.int i = V.int j) = true then A else B := ifI (fun _ => h) fun ne => absurd e ne
theorem ifIn_no {i j : Int} {A B : Prop} (e : i = j) (h : B) : if (!decide (V.int i = V.int j)) = true then A else B := ifIn (fun ne => absurd e ne) fun _ => h
theorem ifIn_yes {i j : Int} {A B : Prop} (ne : i ≠ j) (h : A) : if (!decide (V.int i = V.int j)) = true then A else B := ifIn (fun _ => h) fun e => absurd e ne
theorem iteNT {A B : Prop} (h : B) : if (!true) = true then A else B := iteF h
theorem iteNF {A B : Prop} (h : A) : if (!false) = true then A else B := iteT h
theorem ifD_no {c A B : Prop} [Decidable c] (n : ¬ c) (h : B) : if decide c = true then A else B := ifD (fun e => absurd e n) fun _ => h
theorem ifD_yes {c A B : Prop} [Decidable c] (y : c) (h : A) : if decide c = true then A else B := ifD (fun _ => h) fun n => absurd y n

/-! ### slices -/
theorem cut_to (xs : List V) (n : Int) (h : 0 ≤ n) : cutV xs none (some n) = xs.take n.toNat := by
  unfold cutV
  have e : HT.sIx xs.length xs.length (some n) = min n.toNat xs.length := by
    have q := HT.sIx_nat xs.length xs.length n.toNat
    rwa [show ((n.toNat : Nat) : Int) = n by omega] at q
  rw [HT.sIx_none, List.drop_zero, e, Nat.sub_zero, ← List.take_eq_take_min]
theorem cut_from (xs : List V) (n : Int) (h : 0 ≤ n) : cutV xs (some n) none = xs.drop n.toNat := by
  unfold cutV
  have e0 : HT.sIx xs.length 0 (some n) = min n.toNat xs.length := by
    have q := HT.sIx_nat xs.length 0 n.toNat
    rwa [show ((n.toNat : Nat) : Int) = n by omega] at q
  rw [e0, HT.sIx_none]
  have e : xs.drop (min n.toNat xs.length) = xs.drop n.toNat := by
    by_cases q : n.toNat ≤ xs.length
    · rw [Nat.min_eq_left q]
    · rw [Nat.min_eq_right (by omega), List.drop_of_length_le (Nat.le_refl _), List.drop_of_length_le (by omega)]
  rw [e, List.take_of_length_le]
  rw [List.length_drop]
  omega

/-- all are ints -/
def AI (xs : List V) : Prop := ∀ x ∈ xs, ∃ z : Int, x = .int z
theorem AI.get {xs : List V} {n : Nat} {x : V} (h : AI xs) (e : xs[n]? = some x) : ∃ z : Int, x = .int z := h x (List.mem_of_getElem? e)
theorem AI.cut {xs : List V} {lo hi : Option Int} (h : AI xs) : AI (cutV xs lo hi) := fun x hx => h x (List.mem_of_mem_drop (List.mem_of_mem_take hx))
theorem AI.app {xs ys : List V} (h : AI xs) (h' : AI ys) : AI (xs ++ ys) := fun x hx => (List.mem_append.mp hx).elim (h x) (h' x)
theorem AI.nil : AI [] := fun _ h => nomatch h
theorem AI.one (z : Int) : AI [.int z] := fun x h => ⟨z, by simpa using h⟩
theorem AI.ints : ∀ {xs : List V}, AI xs → ∃ ns : List Int, xs = ns.map V.int
  | [], _ => ⟨[], rfl⟩
  | x :: xs, h => by
    obtain ⟨z, rfl⟩ := h x List.mem_cons_self
    obtain ⟨ns, rfl⟩ := AI.ints (xs := xs) fun y hy => h y (List.mem_cons_of_mem _ hy)
    exact ⟨z :: ns, rfl⟩
theorem AI.of (ns : List Int) : AI (ns.map V.int) := fun x hx => by
  obtain ⟨z, _, e⟩ := List.mem_map.mp hx
  exact ⟨z, e.symm⟩
theorem AI.of_all : ∀ {xs ys : List V}, All2 (fun _ y => ∃ z : Int, y = .int z) xs ys → AI ys
  | _, _, .nil => AI.nil
  | _, _, .cons r t => fun y hy => (List.mem_cons.mp hy).elim (fun e => e ▸ r) (AI.of_all t y)
/-- all are texts -/
def AS (xs : List V) : Prop := ∀ x ∈ xs, ∃ z : Str, x = .str z
theorem AS.get {xs : List V} {n : Nat} {x : V} (h : AS xs) (e : xs[n]? = some x) : ∃ z : Str, x = .str z := h x (List.mem_of_getElem? e)
theorem AS.cut {xs : List V} {lo hi : Option Int} (h : AS xs) : AS (cutV xs lo hi) := fun x hx => h x (List.mem_of_mem_drop (List.mem_of_mem_take hx))
theorem AS.app {xs ys : List V} (h : AS xs) (h' : AS ys) : AS (xs ++ ys) := fun x hx => (List.mem_append.mp hx).elim (h x) (h' x)
theorem AS.of (ns : List Str) : AS (ns.map V.str) := fun x hx => by
  obtain ⟨z, _, e⟩ := List.mem_map.mp hx
  exact ⟨z, e.symm⟩
theorem AS.nil : AS [] := fun _ h => nomatch h
theorem AS.cons {z : Str} {xs : List V} (h : AS xs) : AS (.str z :: xs) := fun x hx => (List.mem_cons.mp hx).elim (fun e => ⟨z, e⟩) (h x)
theorem cut_len (xs : List V) (lo hi : Option Int) : (cutV xs lo hi).length ≤ xs.length := cutV_length xs lo hi
theorem cast_int {Q : VK} {H : Hp} {a b : Int} (h : Q (.int a) H) (e : a = b) : Q (.int b) H := e ▸ h

/-! ### forward steps -/
section
variable {W : Wd} {K : PySem.W.Frag} {H H1 : Hp} {σ : L2.St} {D : Ends} {Q : VK} {v x y : V} {i j : Int} {n : Nat} {s z : Str} {b c : Bool} {p a : Addr} {xs ys vs : List V}
variable {ta tb te : TE} {t u : TS} {c1 c2 : TT} {tr : TA} {r : R2} {QB : Bool → Hp → Prop} {QA : List V → Hp → Prop} {QO : Option Int → Hp → Prop}
theorem rd_seq (h : t { D with nx := u D } σ H) : tSeq t u D σ H := h
theorem rd_next (h : D.nx σ H) : tNext D σ H := h
theorem rd_asg {m : Nat} (h : te σ H fun x H1 => D.nx (σ.set m (some x)) H1) : tAsg te (gName m) D σ H := h
theorem rd_asgG {g : TG} (h : te σ H fun x H1 => g x σ H1 D.nx) : tAsg te g D σ H := h
theorem rd_drop (h : te σ H fun _ H1 => D.nx σ H1) : tDrop te D σ H := h
theorem rd_ret (h : te σ H D.rt) : tRet te D σ H := h
theorem rd_retN (h : D.rt .non H) : tRetN D σ H := h
theorem rd_brk (h : D.bk σ H) : tBreak D σ H := h
theorem rd_cont (h : D.ct σ H) : tCont D σ H := h
theorem rd_ifS (h : c1 σ H fun b H1 => if b = true then t D σ H1 else u D σ H1) : tIfS c1 t u D σ H := h
theorem rd_var {m : Nat} (e : σ[m]? = some (some v)) (h : Q v H) : tVar m σ H Q := ⟨v, e, h⟩
theorem rd_c (h : Q v H) : tC v σ H Q := h
theorem rd_op (h : ta σ H fun x H1 => tb σ H1 fun y H2 => r x y H2 Q) : tOp r ta tb σ H Q := h
theorem rd_un {r : V → Hp → VK → Prop} (h : ta σ H fun x H1 => r x H1 Q) : tUn r ta σ H Q := h
theorem rd_I0 {g : Int → Int → V} (h : Q (g i j) H) : rI0 g (.int i) (.int j) H Q := ⟨_, _, rfl, rfl, h⟩
theorem rd_I {C : Int → Int → Prop} {g : Int → Int → V} (k : C i j) (h : Q (g i j) H) : rI C g (.int i) (.int j) H Q := ⟨_, _, rfl, rfl, k, h⟩
theorem rd_U {g : Int → V} (h : Q (g i) H) : rU g (.int i) H Q := ⟨_, rfl, h⟩
theorem rd_eq (k : scal x y = true) (h : Q (.bl (decide (x = y))) H) : rEq x y H Q := ⟨k, h⟩
theorem rd_ne (k : scal x y = true) (h : Q (.bl (!decide (x = y))) H) : rNe x y H Q := ⟨k, h⟩
theorem rd_isN (h : Q (.bl (decide (x = .non))) H) : rIsN2 x .non H Q := ⟨rfl, h⟩
theorem rd_notN (h : Q (.bl (!decide (x = .non))) H) : rNotN2 x .non H Q := ⟨rfl, h⟩
theorem rd_test (h : te σ H fun x H1 => ∃ k, x = .bl k ∧ QB k H1) : tTest te σ H QB := h
theorem rd_B (h : te σ H fun x H1 => ∃ k, x = .bl k ∧ QB k H1) : tB te σ H QB := h
theorem rd_bl {P : Bool → Prop} (h : P b) : ∃ k, V.bl b = V.bl k ∧ P k := ⟨b, rfl, h⟩
theorem rd_and (h : c1 σ H fun c H1 => if c = true then c2 σ H1 QB else QB false H1) : tAnd c1 c2 σ H QB := h
theorem rd_or (h : c1 σ H fun c H1 => if c = true then QB true H1 else c2 σ H1 QB) : tOr c1 c2 σ H QB := h
theorem rd_not (h : c1 σ H fun c H1 => QB (!c) H1) : tNot c1 σ H QB := h
theorem rd_andV (h : ta σ H fun x H1 => ∃ k, x = .bl k ∧ if k = true then tb σ H1 Q else Q (.bl false) H1) : tAndV ta tb σ H Q := h
theorem rd_orV (h : ta σ H fun x H1 => ∃ k, x = .bl k ∧ if k = true then Q (.bl true) H1 else tb σ H1 Q) : tOrV ta tb σ H Q := h
theorem rd_notV (h : ta σ H fun x H1 => ∃ k, x = .bl k ∧ Q (.bl (!k)) H1) : tNotV ta σ H Q := h
theorem rd_blV {P : Bool → Prop} (h : P b) : ∃ k, V.bl b = .bl k ∧ P k := ⟨b, rfl, h⟩
theorem rd_ifE (h : c1 σ H fun c H1 => if c = true then ta σ H1 Q else tb σ H1 Q) : tIf c1 ta tb σ H Q := h
theorem rd_nil (h : QA [] H) : tNil σ H QA := h
theorem rd_cons (h : te σ H fun x H1 => tr σ H1 fun xs H2 => QA (x :: xs) H2) : tCons te tr σ H QA := h
theorem rd_call {sp : Sp} {E : XK} (h : tr σ H fun vs H1 => sp (vs ++ []) H1 Q E) : tCall sp [] E tr σ H Q := h
theorem rd_app0 {P : List V → Prop} (h : P vs) : P (vs ++ []) := by rw [List.append_nil]; exact h
theorem rd_cb {r : List V → Hp → VK → Prop} (h : tr σ H fun vs H1 => r vs H1 Q) : tCB r tr σ H Q := h
/-- a new tuple, a new list -/
def NewO (Q : VK) (o : HO) (n : Nat) (H1 : Hp) : Prop := n ≤ sizeLine ∧ ∀ p, H1 p = none → Q (.ref p) (upd H1 p o)
theorem rd_tupU (h : tr σ H fun xs H1 => NewO Q (.tup xs) xs.length H1) : tTup tr σ H Q := h
theorem rd_lstU (h : tr σ H fun xs H1 => NewO Q (.lst xs) xs.length H1) : tLst tr σ H Q := h
theorem rd_new {o : HO} (i : W.iv H) (hn : n ≤ 1000000) (k : ∀ p H2, H p = none → Ex W H H2 → At W H2 p o → Q (.ref p) H2) : NewO Q o n H := lst_of i hn k
theorem rd_new1 {o : HO} (i : W.iv H) (k : ∀ p H2, H p = none → Ex W H H2 → At W H2 p o → Q (.ref p) H2) : ∀ p, H p = none → Q (.ref p) (upd H p o) := new_of i k
theorem rd_ixL (h : At W H p (.lst xs)) (e : atI xs i = some v) (k : Q v H) : rIxL K (.ref p) (.int i) H Q := ⟨p, xs, i, v, rfl, rfl, h.sl, e, k⟩
theorem rd_ixT (h : At W H p (.tup xs)) (e : atI xs i = some v) (k : Q v H) : rIxT K (.ref p) (.int i) H Q := ⟨p, xs, i, v, rfl, rfl, h.st, e, k⟩
theorem rd_slLr {lo hi : Option Int} (h : H a = some (.lst xs)) (k : ∀ p H2, H p = none → H2 p = some (.lst (cutV xs lo hi)) → (∀ q, q ≠ p → H2 q = H q) → Q (.ref p) H2) : rSlL K (.ref a) lo hi H Q := ⟨a, xs, rfl, SqL.of h, fun p hp => k p _ hp upd_same fun _ ne => upd_ne ne⟩
theorem rd_ixM (h : At W H p (.lst xs)) (h0 : 0 ≤ i) (h1 : i < (xs.length : Int)) (k : ∀ v, v ∈ xs → Q v H) : rIxL K (.ref p) (.int i) H Q := by
  have e : xs[i.toNat]? = some (xs[i.toNat]'(by omega)) := List.getElem?_eq_getElem (by omega)
  exact ⟨p, xs, i, _, rfl, rfl, h.sl, at_in h0 e, k _ (List.getElem_mem _)⟩
theorem rd_ixLr (h : H p = some (.lst xs)) (e : atI xs i = some v) (k : Q v H) : rIxL K (.ref p) (.int i) H Q := ⟨p, xs, i, v, rfl, rfl, SqL.of h, e, k⟩
theorem rd_gsub {to ti : TE} {ts : TSet} {QS : L2.St → Hp → Prop} (h : to σ H fun o H1 => ti σ H1 fun i H2 => ts o i v H2 fun H3 => QS σ H3) : gSub to ti ts v σ H QS := h
theorem rd_setr {m : Nat} {QH : Hp → Prop} (h : H p = some (.lst xs)) (e : ixN xs.length i = some m) (k : ∀ H2, H2 p = some (.lst (xs.set m v)) → (∀ q, q ≠ p → H2 q = H q) → QH H2) : rSetL (.ref p) (.int i) v H QH :=
  ⟨p, xs, i, m, rfl, rfl, h, e, k _ upd_same fun _ ne => upd_ne ne⟩
/-- a store to a list of our own (unknown at H0) -/
theorem rd_set {m : Nat} {QH : Hp → Prop} {H0 : Hp} (e0 : Ex W H0 H) (h0 : H0 p = none) (h : At W H p (.lst xs)) (e : ixN xs.length i = some m) (k : ∀ H2, Ex W H0 H2 → At W H2 p (.lst (xs.set m v)) → (∀ q o, q ≠ p → At W H q o → At W H2 q o) → QH H2) : rSetL (.ref p) (.int i) v H QH :=
  ⟨p, xs, i, m, rfl, rfl, h.1, e, k _ (e0.mut h0 h) (.mut e0.iv h) fun _ _ ne q => .other e0.iv h q ne⟩
theorem rd_len (h : At W H p (.lst xs)) (k : Q (.int xs.length) H) : rLen K [.ref p] H Q := ⟨p, xs, rfl, .inl h.sl, k⟩
theorem rd_lenT (h : At W H p (.tup xs)) (k : Q (.int xs.length) H) : rLen K [.ref p] H Q := ⟨p, xs, rfl, .inr h.st, k⟩
theorem rd_lenr (h : H p = some (.lst xs)) (k : Q (.int xs.length) H) : rLen K [.ref p] H Q := ⟨p, xs, rfl, .inl (SqL.of h), k⟩
theorem rd_int (k : Q (.int i) H) : rInt [.int i] H Q := .inl ⟨_, rfl, k⟩
theorem rd_intB (k : Q (.int (if b then 1 else 0)) H) : rInt [.bl b] H Q := .inr ⟨_, rfl, k⟩
theorem rd_abs (k : Q (.int (if i < 0 then -i else i)) H) : rAbs [.int i] H Q := ⟨_, rfl, k⟩
theorem rd_max2 (k : Q (.int (if j > i then j else i)) H) : rMax2 [.int i, .int j] H Q := ⟨_, _, rfl, k⟩
theorem rd_min2 (k : Q (.int (if j < i then j else i)) H) : rMin2 [.int i, .int j] H Q := ⟨_, _, rfl, k⟩
theorem rd_lens (h : s.length ≤ 1000000) (k : Q (.int s.length) H) : rLenStr [.str s] H Q := ⟨_, rfl, sz_le h, k⟩
theorem rd_adds (h : s.length + z.length ≤ 1000000) (k : Q (.str (s ++ z)) H) : rAddS2 (.str s) (.str z) H Q := ⟨_, _, rfl, rfl, sz_le h, k⟩
theorem rd_nopart (k : QO none H) : tNoPart σ H QO := k
theorem rd_part (h : te σ H fun x H1 => ∃ i, x = .int i ∧ QO (some i) H1) : tPart te σ H QO := h
theorem rd_partI {P : Int → Prop} (k : P i) : ∃ i', V.int i = V.int i' ∧ P i' := ⟨_, rfl, k⟩
theorem rd_sl {r : V → Option Int → Option Int → Hp → VK → Prop} {tl th : TO} (h : te σ H fun x H1 => tl σ H1 fun l H2 => th σ H2 fun u H3 => r x l u H3 Q) : tSl r te tl th σ H Q := h
theorem rd_slL {lo hi : Option Int} (i : W.iv H) (h : At W H a (.lst xs)) (k : ∀ p H2, H p = none → Ex W H H2 → At W H2 p (.lst (cutV xs lo hi)) → Q (.ref p) H2) : rSlL K (.ref a) lo hi H Q := ⟨a, xs, rfl, h.sl, rd_new1 i k⟩
theorem rd_slT {lo hi : Option Int} (i : W.iv H) (h : At W H a (.tup xs)) (k0 : cutV xs lo hi = xs → Q (.ref a) H) (k : ∀ p H2, H p = none → Ex W H H2 → At W H2 p (.tup (cutV xs lo hi)) → Q (.ref p) H2) : rSlT K (.ref a) lo hi H Q → rSlT K (.ref a) lo hi H Q := id
theorem rd_list (i : W.iv H) (h : At W H p (.lst xs)) (k : ∀ l H2, H l = none → Ex W H H2 → At W H2 l (.lst xs) → Q (.ref l) H2) : rListO K [.ref p] H Q := ⟨p, xs, rfl, .inl h.sl, rd_new1 i k⟩
theorem rd_listT (i : W.iv H) (h : At W H p (.tup xs)) (k : ∀ l H2, H l = none → Ex W H H2 → At W H2 l (.lst xs) → Q (.ref l) H2) : rListO K [.ref p] H Q := ⟨p, xs, rfl, .inr h.st, rd_new1 i k⟩
theorem rd_tuple (i : W.iv H) (h : At W H p (.lst xs)) (k : ∀ l H2, H l = none → Ex W H H2 → At W H2 l (.tup xs) → Q (.ref l) H2) : rTupO K [.ref p] H Q := ⟨p, xs, rfl, .inl ⟨h.sl, rd_new1 i k⟩⟩
theorem rd_cat (i : W.iv H) (h1 : At W H p (.lst xs)) (h2 : At W H a (.lst ys)) (hz : xs.length + ys.length ≤ 1000000) (k : ∀ l H2, H l = none → Ex W H H2 → At W H2 l (.lst (xs ++ ys)) → Q (.ref l) H2) : rCat (.ref p) (.ref a) H Q :=
  ⟨p, a, xs, ys, rfl, rfl, h1.1, h2.1, sz_le hz, rd_new1 i k⟩
theorem rd_bm {T : String} {r : V → List V → Hp → VK → Prop} (h : ta σ H fun x H1 => tyV K T x H1 ∧ tr σ H1 fun xs H2 => r x xs H2 Q) : tBM K T r ta tr σ H Q := h
theorem rd_tyL {P : Prop} (h : At W H p (.lst xs)) (k : P) : tyV K "list" (.ref p) H ∧ P := ⟨.inl ⟨rfl, xs, h.sl⟩, k⟩
/-- a statement, then the rest, with a word between them -/
def tCut (t u : TS) : TS := fun D σ H => ∃ Mid : L2.St → Hp → Prop, t { D with nx := Mid } σ H ∧ ∀ σ' H', Mid σ' H' → u D σ' H'
theorem pss_cut {X : Cx} {st : Stmt} {rest : List Stmt} {t u : TS} (h1 : PS X st t) (h2 : PSs X rest u) : PSs X (st :: rest) (tCut t u) := by
  refine ⟨fun pins s σ H D I h => ?_⟩
  obtain ⟨Mid, hm, hu⟩ := h
  refine PySem.wpAny_execs_cons (thn (h1.run pins s σ H { D with nx := Mid } I hm) fun f s1 q => ?_)
  cases f with
  | next =>
    obtain ⟨σ', H', I', q⟩ := q
    exact h2.run pins s1 σ' H' D I' (hu σ' H' q)
  | ret v => exact q
  | brk => exact q
  | cont => exact q
theorem rd_cut (M : L2.St → Hp → Prop) (h : t { D with nx := M } σ H) (k : ∀ σ' H', M σ' H' → u D σ' H') : tCut t u D σ H := ⟨M, h, k⟩
/-- a list comprehension over a list: what its source gives, then its items -/
def LcG (K : PySem.W.Frag) (a : Addr) (g : TG) (tt : TT) (te : TE) (ws : List Nat) (σ : L2.St) (H1 : Hp) (Q : VK) : Prop := ∀ D, H1 D = none → ∃ W : Nat → Nat → Hp → Prop, (∃ m, W 0 m (upd H1 D (.lst []))) ∧ ∀ i m H, W i m H →
  ((Itl K a).stop i H ∧ Q (.ref D) H) ∨ ((Itl K a).go i H ∧ ∃ Nx : Hp → Prop, (∀ H', Nx H' → ∃ m', m' < m ∧ W (i + 1) m' H') ∧ ∀ x H', (Itl K a).yld i H x H' → g x (wipe σ ws) H' fun σ2 H2 => wipe σ2 ws = wipe σ ws ∧ tt σ2 H2 fun b H3 =>
    if b = true then te σ2 H3 fun y H4 => ∃ acc, H4 D = some (.lst acc) ∧ acc.length < sizeLine ∧ Nx (upd H4 D (.lst (acc ++ [y]))) else Nx H3)
theorem rd_lc {tl : TE} {g : TG} {tt : TT} {ws : List Nat} (h : tl σ H fun x H1 => ∃ a, x = .ref a ∧ (∃ xs, SqL K H1 a xs) ∧ LcG K a g tt te ws σ H1 Q) : tLc (iList K tl) g tt te ws σ H Q := h
/-- the heap without the list at D -/
def hide (D : Addr) (H : Hp) : Hp := fun a => if a = D then none else H a
theorem hide_ne {D q : Addr} {H : Hp} (h : q ≠ D) : hide D H q = H q := if_neg h
theorem hide_upd {D : Addr} {H : Hp} {o : HO} : hide D (upd H D o) = hide D H := by
  funext q
  unfold hide upd
  split <;> rfl
theorem hide_loc {D : Addr} {H : Hp} (i : W.iv H) (n : ¬ W.own H D) : W.iv (hide D H) ∧ ∀ a, W.own (hide D H) a → W.own H a := W.loc i fun _ ha => hide_ne fun e => n (e ▸ ha)
theorem At.hide {D q : Addr} {H : Hp} {o u : HO} (h : At W H q o) (ne : q ≠ D) (i : W.iv H) (hD : At W H D u) : At W (hide D H) q o := ⟨(hide_ne ne).trans h.1, fun z => h.2 ((hide_loc i hD.2).2 _ z)⟩
theorem Ex.unhide {D : Addr} {H : Hp} {u : HO} (i : W.iv H) (hD : At W H D u) : Ex W (Lw.hide D H) H := by
  have l := hide_loc i hD.2
  refine ⟨l.1, i, fun {a o} h => ?_, fun {a o} h => ?_⟩
  · have ne : a ≠ D := fun e => by
      have q := h.1
      rw [e] at q
      unfold Lw.hide at q
      rw [if_pos rfl] at q; cases q
    refine ⟨(hide_ne ne).symm.trans h.1, fun z => h.2 ?_⟩
    -- owned in H: owned without D
    have l2 := W.loc (H := Lw.hide D H) (H' := H) l.1 fun b hb => (hide_ne (fun e : b = D => hD.2 (e ▸ l.2 b hb))).symm
    exact l2.2 a z
  · have ne : a ≠ D := fun e => by
      rw [e] at h
      unfold Lw.hide at h
      rw [if_pos rfl] at h; cases h
    exact ⟨o, (hide_ne ne).symm.trans h⟩
theorem hide_ex {D : Addr} {H H' : Hp} {u : HO} (e : Ex W H H') (hD : At W H D u) : Ex W (Lw.hide D H) (Lw.hide D H') := by
  have l := hide_loc e.i0 hD.2
  have l' := hide_loc e.iv (e.at_ hD).2
  refine ⟨l.1, l'.1, fun {a o} h => ?_, fun {a o} h => ?_⟩
  · have h1 := (Ex.unhide e.i0 hD).at_ h
    have ne : a ≠ D := fun q => by
      have z := h.1
      rw [q] at z
      unfold Lw.hide at z
      rw [if_pos rfl] at z; cases z
    exact (e.at_ h1).hide ne e.iv (e.at_ hD)
  · have ne : a ≠ D := fun q => by
      rw [q] at h
      unfold Lw.hide at h
      rw [if_pos rfl] at h; cases h
    obtain ⟨o', q⟩ := e.tr ((hide_ne ne).symm.trans h)
    exact ⟨o', (hide_ne ne).trans q⟩
/-- a tuple, a list made since -/
theorem At.hideT {D q : Addr} {H0 H : Hp} {vs acc : List V} (h : At W H q (.tup vs)) (e : Ex W H0 H) (hD : At W H0 D (.lst acc)) : At W (Lw.hide D H) q (.tup vs) := h.hide (h.ne (e.at_ hD) (fun z => by cases z)) e.iv (e.at_ hD)
theorem At.hideN {D q : Addr} {H0 H1 H : Hp} {o : HO} {acc : List V} (h : At W H q o) (e : Ex W H0 H) (hD : At W H0 D (.lst acc)) (e1 : Ex W H0 H1) (f : H1 q = none) : At W (Lw.hide D H) q o :=
  h.hide (fun z => by have r := (e1.at_ hD).1; rw [← z, f] at r; cases r) e.iv (e.at_ hD)
/-- the items: keep says which are taken, R what is made of one (without the new list, at D) -/
theorem rd_lcF {tt : TT} {m : Nat} (keep : V → Bool) (R : V → V → Hp → Prop) (i : W.iv H) (ha : At W H a (.lst xs)) (hz : xs.length ≤ 50000) (hm : ∀ x y H H', Ex W H H' → R x y H → R x y H')
    (ht : ∀ (n : Nat) x H' (QB : Bool → Hp → Prop), xs[n]? = some x → Ex W H H' → (∀ H3, Ex W H' H3 → QB (keep x) H3) → tt ((wipe σ [m]).set m (some x)) H' QB)
    (he : ∀ (n : Nat) x D acc H' (QV : VK), xs[n]? = some x → keep x = true → H D = none → At W H' D (.lst acc) → Ex W H H' → (∀ y H4, Ex W H' H4 → R x y (Lw.hide D H4) → QV y H4) → te ((wipe σ [m]).set m (some x)) H' QV)
    (k : ∀ D H2 ys, H D = none → Ex W H H2 → At W H2 D (.lst ys) → All2 (fun x y => R x y H2) (xs.filter keep) ys → Q (.ref D) H2) :
    ∃ a', V.ref a = V.ref a' ∧ (∃ xs, SqL K H a' xs) ∧ LcG K a' (gName m) tt te [m] σ H Q := by
  refine ⟨a, rfl, ⟨xs, ha.sl⟩, fun D hD => ?_⟩
  refine lc_list (xs := xs) (fun n H' => ∃ ys, Ex W H H' ∧ At W H' D (.lst ys) ∧ All2 (fun x y => R x y (Lw.hide D H')) ((xs.take n).filter keep) ys ∧ ys.length ≤ n) ⟨[], Ex.new i hD, At.new i hD, .nil, Nat.le_refl _⟩ (fun n H' _ ⟨_, e, _⟩ => (e.at_ ha).sl) (fun n x H' hx ⟨ys, e, hd, h2, hl⟩ => ?_) (fun H' ⟨ys, e, hd, h2, hl⟩ => ?_)
  · have hn : n < xs.length := (List.getElem?_eq_some_iff.mp hx).1
    have tk : xs.take (n + 1) = xs.take n ++ [x] := by rw [List.take_add_one, hx]; rfl
    refine ⟨by show wipe _ _ = _; simp [wipe, List.set_set], ?_⟩
    refine ht n x H' _ hx e fun H3 e3 => ?_
    refine ifB (fun hk => ?_) (fun hk => ?_)
    · refine he n x D ys H3 _ hx hk hD (e3.at_ hd) (e.trans e3) fun y H4 e4 r => ⟨ys, (e4.at_ (e3.at_ hd)).1, sz_lt (by omega), ys ++ [y], ((e.trans e3).trans e4).mut hD (e4.at_ (e3.at_ hd)), At.mut e4.iv (e4.at_ (e3.at_ hd)), ?_, by rw [List.length_append, List.length_singleton]; omega⟩
      rw [tk, List.filter_append, List.filter_cons, if_pos hk, hide_upd]
      exact All2.snoc (All2.mono (fun x' y' r' => hm x' y' _ _ (hide_ex (e3.trans e4) hd) r') h2) r
    · refine ⟨ys, e.trans e3, e3.at_ hd, ?_, by omega⟩
      rw [tk, List.filter_append, List.filter_cons, if_neg (by rw [hk]; decide)]
      show All2 _ (_ ++ []) _
      rw [List.append_nil]
      exact All2.mono (fun x' y' r' => hm x' y' _ _ (hide_ex e3 hd) r') h2
  · rw [List.take_length] at h2
    exact k D H' ys hD e hd (All2.mono (fun x' y' r' => hm x' y' _ _ (Ex.unhide e.iv hd) r') h2)
/-- no test -/
theorem rd_lc1 {m : Nat} (R : V → V → Hp → Prop) (i : W.iv H) (ha : At W H a (.lst xs)) (hz : xs.length ≤ 50000) (hm : ∀ x y H H', Ex W H H' → R x y H → R x y H')
    (he : ∀ (n : Nat) x D acc H' (QV : VK), xs[n]? = some x → H D = none → At W H' D (.lst acc) → Ex W H H' → (∀ y H4, Ex W H' H4 → R x y (Lw.hide D H4) → QV y H4) → te ((wipe σ [m]).set m (some x)) H' QV)
    (k : ∀ D H2 ys, H D = none → Ex W H H2 → At W H2 D (.lst ys) → All2 (fun x y => R x y H2) xs ys → Q (.ref D) H2) :
    ∃ a', V.ref a = V.ref a' ∧ (∃ xs, SqL K H a' xs) ∧ LcG K a' (gName m) tYes te [m] σ H Q :=
  rd_lcF (fun _ => true) R i ha hz hm (fun n x H' QB _ e q => q H' (Ex.refl e.iv)) (fun n x D acc H' QV h1 _ h2 h3 h4 h5 => he n x D acc H' QV h1 h2 h3 h4 h5) fun D H2 ys h1 h2 h3 h4 => k D H2 ys h1 h2 h3 (by
    have z : xs.filter (fun _ => true) = xs := by simp
    rwa [z] at h4)
/-- a list comprehension over a list: what its source gives, then its items -/
def LcGT (K : PySem.W.Frag) (a : Addr) (g : TG) (tt : TT) (te : TE) (ws : List Nat) (σ : L2.St) (H1 : Hp) (Q : VK) : Prop := ∀ D, H1 D = none → ∃ W : Nat → Nat → Hp → Prop, (∃ m, W 0 m (upd H1 D (.lst []))) ∧ ∀ i m H, W i m H →
  ((Itt K a).stop i H ∧ Q (.ref D) H) ∨ ((Itt K a).go i H ∧ ∃ Nx : Hp → Prop, (∀ H', Nx H' → ∃ m', m' < m ∧ W (i + 1) m' H') ∧ ∀ x H', (Itt K a).yld i H x H' → g x (wipe σ ws) H' fun σ2 H2 => wipe σ2 ws = wipe σ ws ∧ tt σ2 H2 fun b H3 =>
    if b = true then te σ2 H3 fun y H4 => ∃ acc, H4 D = some (.lst acc) ∧ acc.length < sizeLine ∧ Nx (upd H4 D (.lst (acc ++ [y]))) else Nx H3)
theorem rd_lcT {tl : TE} {g : TG} {tt : TT} {ws : List Nat} (h : tl σ H fun x H1 => ∃ a, x = .ref a ∧ (∃ xs, SqT K H1 a xs) ∧ LcGT K a g tt te ws σ H1 Q) : tLc (iTup K tl) g tt te ws σ H Q := h
/-- the items: keep says which are taken, R what is made of one (without the new list, at D) -/
theorem rd_lcTF {tt : TT} {m : Nat} (keep : V → Bool) (R : V → V → Hp → Prop) (i : W.iv H) (ha : At W H a (.tup xs)) (hz : xs.length ≤ 50000) (hm : ∀ x y H H', Ex W H H' → R x y H → R x y H')
    (ht : ∀ (n : Nat) x H' (QB : Bool → Hp → Prop), xs[n]? = some x → Ex W H H' → (∀ H3, Ex W H' H3 → QB (keep x) H3) → tt ((wipe σ [m]).set m (some x)) H' QB)
    (he : ∀ (n : Nat) x D acc H' (QV : VK), xs[n]? = some x → keep x = true → H D = none → At W H' D (.lst acc) → Ex W H H' → (∀ y H4, Ex W H' H4 → R x y (Lw.hide D H4) → QV y H4) → te ((wipe σ [m]).set m (some x)) H' QV)
    (k : ∀ D H2 ys, H D = none → Ex W H H2 → At W H2 D (.lst ys) → All2 (fun x y => R x y H2) (xs.filter keep) ys → Q (.ref D) H2) :
    ∃ a', V.ref a = V.ref a' ∧ (∃ xs, SqT K H a' xs) ∧ LcGT K a' (gName m) tt te [m] σ H Q := by
  refine ⟨a, rfl, ⟨xs, ha.st⟩, fun D hD => ?_⟩
  refine lc_tup (xs := xs) (fun n H' => ∃ ys, Ex W H H' ∧ At W H' D (.lst ys) ∧ All2 (fun x y => R x y (Lw.hide D H')) ((xs.take n).filter keep) ys ∧ ys.length ≤ n) ⟨[], Ex.new i hD, At.new i hD, .nil, Nat.le_refl _⟩ (fun n H' _ ⟨_, e, _⟩ => (e.at_ ha).st) (fun n x H' hx ⟨ys, e, hd, h2, hl⟩ => ?_) (fun H' ⟨ys, e, hd, h2, hl⟩ => ?_)
  · have hn : n < xs.length := (List.getElem?_eq_some_iff.mp hx).1
    have tk : xs.take (n + 1) = xs.take n ++ [x] := by rw [List.take_add_one, hx]; rfl
    refine ⟨by show wipe _ _ = _; simp [wipe, List.set_set], ?_⟩
    refine ht n x H' _ hx e fun H3 e3 => ?_
    refine ifB (fun hk => ?_) (fun hk => ?_)
    · refine he n x D ys H3 _ hx hk hD (e3.at_ hd) (e.trans e3) fun y H4 e4 r => ⟨ys, (e4.at_ (e3.at_ hd)).1, sz_lt (by omega), ys ++ [y], ((e.trans e3).trans e4).mut hD (e4.at_ (e3.at_ hd)), At.mut e4.iv (e4.at_ (e3.at_ hd)), ?_, by rw [List.length_append, List.length_singleton]; omega⟩
      rw [tk, List.filter_append, List.filter_cons, if_pos hk, hide_upd]
      exact All2.snoc (All2.mono (fun x' y' r' => hm x' y' _ _ (hide_ex (e3.trans e4) hd) r') h2) r
    · refine ⟨ys, e.trans e3, e3.at_ hd, ?_, by omega⟩
      rw [tk, List.filter_append, List.filter_cons, if_neg (by rw [hk]; decide)]
      show All2 _ (_ ++ []) _
      rw [List.append_nil]
      exact All2.mono (fun x' y' r' => hm x' y' _ _ (hide_ex e3 hd) r') h2
  · rw [List.take_length] at h2
    exact k D H' ys hD e hd (All2.mono (fun x' y' r' => hm x' y' _ _ (Ex.unhide e.iv hd) r') h2)
/-- no test -/
theorem rd_lcT1 {m : Nat} (R : V → V → Hp → Prop) (i : W.iv H) (ha : At W H a (.tup xs)) (hz : xs.length ≤ 50000) (hm : ∀ x y H H', Ex W H H' → R x y H → R x y H')
    (he : ∀ (n : Nat) x D acc H' (QV : VK), xs[n]? = some x → H D = none → At W H' D (.lst acc) → Ex W H H' → (∀ y H4, Ex W H' H4 → R x y (Lw.hide D H4) → QV y H4) → te ((wipe σ [m]).set m (some x)) H' QV)
    (k : ∀ D H2 ys, H D = none → Ex W H H2 → At W H2 D (.lst ys) → All2 (fun x y => R x y H2) xs ys → Q (.ref D) H2) :
    ∃ a', V.ref a = V.ref a' ∧ (∃ xs, SqT K H a' xs) ∧ LcGT K a' (gName m) tYes te [m] σ H Q :=
  rd_lcTF (fun _ => true) R i ha hz hm (fun n x H' QB _ e q => q H' (Ex.refl e.iv)) (fun n x D acc H' QV h1 _ h2 h3 h4 h5 => he n x D acc H' QV h1 h2 h3 h4 h5) fun D H2 ys h1 h2 h3 h4 => k D H2 ys h1 h2 h3 (by
    have z : xs.filter (fun _ => true) = xs := by simp
    rwa [z] at h4)
theorem rd_any {bs : List Bool} (h : At W H a (.lst (bs.map V.bl))) (k : Q (.bl (bs.any id)) H) : rAny K [.ref a] H Q := ⟨a, bs, rfl, h.sl, k⟩
theorem rd_all {bs : List Bool} (h : At W H a (.lst (bs.map V.bl))) (k : Q (.bl (bs.all id)) H) : rAll K [.ref a] H Q := ⟨a, bs, rfl, h.sl, k⟩
theorem rd_sum {ns : List Int} (h : At W H a (.lst (ns.map V.int))) (k : Q (.int ns.sum) H) : rSum K [.ref a] H Q := ⟨a, ns, rfl, h.sl, k⟩
theorem rd_inK (h : SqT K H p xs) (f : flatV x = true) (g : xs.all flatV = true) (k : Q (.bl (inV x xs)) H) : rIn K false x (.ref p) H Q := ⟨p, xs, rfl, .inr h, f, g, k⟩
theorem rd_niK (h : SqT K H p xs) (f : flatV x = true) (g : xs.all flatV = true) (k : Q (.bl (!inV x xs)) H) : rIn K true x (.ref p) H Q := ⟨p, xs, rfl, .inr h, f, g, k⟩
theorem rd_inT (h : At W H p (.tup xs)) (f : flatV x = true) (g : xs.all flatV = true) (k : Q (.bl (inV x xs)) H) : rIn K false x (.ref p) H Q := ⟨p, xs, rfl, .inr h.st, f, g, k⟩
theorem rd_niT (h : At W H p (.tup xs)) (f : flatV x = true) (g : xs.all flatV = true) (k : Q (.bl (!inV x xs)) H) : rIn K true x (.ref p) H Q := ⟨p, xs, rfl, .inr h.st, f, g, k⟩
theorem rd_inL (h : At W H p (.lst xs)) (f : flatV x = true) (g : xs.all flatV = true) (k : Q (.bl (inV x xs)) H) : rIn K false x (.ref p) H Q := ⟨p, xs, rfl, .inl h.sl, f, g, k⟩
theorem rd_niL (h : At W H p (.lst xs)) (f : flatV x = true) (g : xs.all flatV = true) (k : Q (.bl (!inV x xs)) H) : rIn K true x (.ref p) H Q := ⟨p, xs, rfl, .inl h.sl, f, g, k⟩
theorem rd_slTn {lo hi : Option Int} (i : W.iv H) (h : At W H a (.tup xs)) (n : ¬ (HT.sIx xs.length 0 lo = 0 ∧ HT.sIx xs.length xs.length hi = xs.length)) (k : ∀ p H2, H p = none → Ex W H H2 → At W H2 p (.tup (cutV xs lo hi)) → Q (.ref p) H2) : rSlT K (.ref a) lo hi H Q := ⟨a, xs, rfl, h.st, n, rd_new1 i k⟩
theorem rd_gtup {QS : L2.St → Hp → Prop} {ts : TGs} (h : At W H a (.tup xs)) (e : xs.length = n) (k : ts xs σ H QS) : gTup K n ts (.ref a) σ H QS := ⟨a, xs, rfl, h.st, e, k⟩
theorem rd_gconsE {QS : L2.St → Hp → Prop} {g : TG} {ts : TGs} (e : vs = v :: xs) (k : g v σ H fun σ' H' => ts xs σ' H' QS) : gCons g ts vs σ H QS := ⟨v, xs, e, k⟩
theorem rd_gnilE {QS : L2.St → Hp → Prop} (e : vs = []) (k : QS σ H) : gNil vs σ H QS := ⟨e, k⟩
theorem rd_isi {nm mm : String} (ty : TyX K H x (.type nm)) (h : kitB nm mm = some b) (k : Q (.bl b) H) : rIsi K [x, .ty mm] H Q := ⟨x, .ty mm, .type nm, .type mm, b, rfl, .ty _, ty, kit_ty h, k⟩
theorem rd_isiY {nm mm : String} (ty : TyX K H x (.type nm)) (h : kitB nm mm = some true) (k : Q (.bl true) H) : rIsi K [x, .ty mm] H Q := rd_isi ty h k
theorem rd_isiN {nm mm : String} (ty : TyX K H x (.type nm)) (h : kitB nm mm = some false) (k : Q (.bl false) H) : rIsi K [x, .ty mm] H Q := rd_isi ty h k
theorem rd_slLs {lo hi : Option Int} (i : W.iv H) (h : SqL K H a xs) (k : ∀ p H2, H p = none → Ex W H H2 → At W H2 p (.lst (cutV xs lo hi)) → Q (.ref p) H2) : rSlL K (.ref a) lo hi H Q := ⟨a, xs, rfl, h, rd_new1 i k⟩
theorem rd_gcons {QS : L2.St → Hp → Prop} {g : TG} {ts : TGs} (k : g v σ H fun σ' H' => ts xs σ' H' QS) : gCons g ts (v :: xs) σ H QS := ⟨v, xs, rfl, k⟩
theorem rd_gnil {QS : L2.St → Hp → Prop} (k : QS σ H) : gNil [] σ H QS := ⟨rfl, k⟩
theorem rd_gname {QS : L2.St → Hp → Prop} {m : Nat} (k : QS (σ.set m (some v)) H) : gName m v σ H QS := k
/-- a for over a list, a tuple, a range: its source, then for_list .. -/
def FoG (K : PySem.W.Frag) (a : Addr) (g : TG) (tb : TS) (D : Ends) (σ : L2.St) (H : Hp) : Prop := ∃ W : Nat → Nat → L2.St → Hp → Prop, (∃ m, W 0 m σ H) ∧ ∀ i m σ H, W i m σ H →
  ((Itl K a).stop i H ∧ D.nx σ H) ∨ ((Itl K a).go i H ∧ ∃ N : L2.St → Hp → Prop, (∀ σ' H', N σ' H' → ∃ m', m' < m ∧ W (i + 1) m' σ' H') ∧ ∀ x H', (Itl K a).yld i H x H' → g x σ H' fun σ2 H2 => tb { D with nx := N, ct := N, bk := D.nx } σ2 H2)
def FoR (lo : Int) (n : Nat) (g : TG) (tb : TS) (D : Ends) (σ : L2.St) (H : Hp) : Prop := ∃ W : Nat → Nat → L2.St → Hp → Prop, (∃ m, W 0 m σ H) ∧ ∀ i m σ H, W i m σ H →
  ((Itr lo n).stop i H ∧ D.nx σ H) ∨ ((Itr lo n).go i H ∧ ∃ N : L2.St → Hp → Prop, (∀ σ' H', N σ' H' → ∃ m', m' < m ∧ W (i + 1) m' σ' H') ∧ ∀ x H', (Itr lo n).yld i H x H' → g x σ H' fun σ2 H2 => tb { D with nx := N, ct := N, bk := D.nx } σ2 H2)
theorem rd_forL {tl : TE} {g : TG} {tb : TS} (h : tl σ H fun x H1 => ∃ a, x = .ref a ∧ (∃ xs, SqL K H1 a xs) ∧ FoG K a g tb D σ H1) : tFor (iList K tl) g tb D σ H := h
theorem rd_forR1 {g : TG} {tb : TS} (h : tr σ H fun vs H1 => ∃ j : Int, vs = [.int j] ∧ -(2 ^ 62) ≤ j ∧ j < 2 ^ 62 ∧ FoR 0 j.toNat g tb D σ H1) : tFor (iRng1 tr) g tb D σ H := h
theorem rd_forR2 {g : TG} {tb : TS} (h : tr σ H fun vs H1 => ∃ i j : Int, vs = [.int i, .int j] ∧ (-(2 ^ 62) ≤ i ∧ i < 2 ^ 62 ∧ -(2 ^ 62) ≤ j ∧ j < 2 ^ 62) ∧ FoR i (j - i).toNat g tb D σ H1) : tFor (iRng2 tr) g tb D σ H := h
theorem rd_forR1a {g : TG} {tb : TS} (h1 : -(2 ^ 62) ≤ j) (h2 : j < 2 ^ 62) (h : FoR 0 j.toNat g tb D σ H) : ∃ j' : Int, [V.int j] = [V.int j'] ∧ -(2 ^ 62) ≤ j' ∧ j' < 2 ^ 62 ∧ FoR 0 j'.toNat g tb D σ H := ⟨j, rfl, h1, h2, h⟩
theorem rd_forR2a {g : TG} {tb : TS} (h1 : -(2 ^ 62) ≤ i) (h2 : i < 2 ^ 62) (h3 : -(2 ^ 62) ≤ j) (h4 : j < 2 ^ 62) (h : FoR i (j - i).toNat g tb D σ H) : ∃ i' j' : Int, [V.int i, V.int j] = [V.int i', V.int j'] ∧ (-(2 ^ 62) ≤ i' ∧ i' < 2 ^ 62 ∧ -(2 ^ 62) ≤ j' ∧ j' < 2 ^ 62) ∧ FoR i' (j' - i').toNat g tb D σ H := ⟨i, j, rfl, ⟨h1, h2, h3, h4⟩, h⟩
theorem rd_forLa {g : TG} {tb : TS} (h : At W H a (.lst xs)) (k : FoG K a g tb D σ H) : ∃ a', V.ref a = V.ref a' ∧ (∃ xs, SqL K H a' xs) ∧ FoG K a' g tb D σ H := ⟨a, rfl, ⟨xs, h.sl⟩, k⟩
/-- over range: Pv by the turn -/
theorem for_r {lo : Int} {m n : Nat} {tb : TS} (Pv : Nat → L2.St → Hp → Prop) (h0 : Pv 0 σ H) (hs : ∀ (i : Nat) σ H, i < n → Pv i σ H → tb { D with nx := Pv (i + 1), ct := Pv (i + 1), bk := D.nx } (σ.set m (some (.int (lo + i)))) H) (hd : ∀ σ H, Pv n σ H → D.nx σ H) : FoR lo n (gName m) tb D σ H :=
  for_range Pv h0 hs hd
theorem for_l {g : TG} {tb : TS} (Pv : Nat → L2.St → Hp → Prop) (h0 : Pv 0 σ H) (hl : ∀ i σ H, i ≤ xs.length → Pv i σ H → At W H a (.lst xs)) (hs : ∀ i x σ H, xs[i]? = some x → Pv i σ H → g x σ H fun σ2 H2 => tb { D with nx := Pv (i + 1), ct := Pv (i + 1), bk := D.nx } σ2 H2) (hd : ∀ σ H, Pv xs.length σ H → D.nx σ H) : FoG K a g tb D σ H :=
  for_list Pv h0 (fun i σ H h p => (hl i σ H h p).sl) hs hd
/-- an append to a list of our own (unknown at H0) -/
theorem rd_append {H0 : Hp} (e : Ex W H0 H) (h0 : H0 p = none) (h : At W H p (.lst xs)) (hz : xs.length < 1000000)
    (k : ∀ H2, Ex W H0 H2 → At W H2 p (.lst (xs ++ [y])) → (∀ q o, q ≠ p → At W H q o → At W H2 q o) → Q .non H2) : rAppend (.ref p) [y] H Q :=
  ⟨p, xs, y, rfl, rfl, h.1, sz_lt hz, k _ (e.mut h0 h) (.mut e.iv h) fun _ _ ne q => .other e.iv h q ne⟩
end
end Lw

/-! Lw2: loops and comprehensions over anything that is walked, enumerate with a start, dicts, texts. -/
namespace Lw
open PySem L2 PySem.Spec PyProof.Rows

/-! ### enumerate(xs, start=k), enumerate of a tuple -/
/-- a type of the language called with named arguments -/
theorem callWith_tyK {M : Model} {A : Around} {E : Value → Shared → Prop} {s : Shared} {env : Env} {pos : Pos} {T : String} {e : Expr} {rest : List Expr} {kws : List Keyword} {Q : Value → Shared → Prop}
    (h : wpAny M A (spliced (backTo pos (starEach (e :: rest) env))) (fun vs s₁ => wpAny M A (evalAll ((backToKw pos (keywordEach kws env)).map (·.2)))
      (fun zs s₂ => wpAny M A (call (.type T) vs (((backToKw pos (keywordEach kws env)).filterMap (·.1)).zip zs)) Q E s₂) E s₁) E s)
    (he : backTo pos (starEach (e :: rest) env) = (false, eval e env) :: backTo pos (starEach rest env)) (hp : (backTo pos (starEach (e :: rest) env)).any (·.1) = false)
    (ha : (backToKw pos (keywordEach kws env)).all (·.1.isSome) = true) (hk : (backToKw pos (keywordEach kws env)).any (·.1.isNone) = false) :
    wpAny M A (callWith pos (.type T) [] (backTo pos (starEach (e :: rest) env)) (backToKw pos (keywordEach kws env))) Q E s := by
  have h1 : wpAny M A (evalArgs (.type T) true (backTo pos (starEach (e :: rest) env)) (backToKw pos (keywordEach kws env))) (fun a s₁ => wpAny M A (call (.type T) ([] ++ a.pos) a.kw) Q E s₁) E s := by
    rw [he] at h ⊢
    exact evalArgs_kwB ha h
  unfold callWith
  refine wpAny_bind (wpAny_holding (wpAny_mono h1 (fun a s₁ q => wpAny_bind (wpAny_standAt ?_)) fun _ _ x => x))
  simp only [hp, hk, Bool.or_false]
  exact wpAny_bind (wpAny_pure (wpAny_bind (wpAny_mono q (fun r s₂ hr => wpAny_bind (wpAny_holding (wpAny_point (wpAny_pure hr)))) fun _ _ x => x)))
def IteL (K : PySem.W.Frag) (c : Int) (a : Addr) : It :=
  ⟨fun i H => ∃ xs x, SqL K H a xs ∧ xs[i]? = some x, fun i H v H' => ∃ T x, v = .ref T ∧ H T = none ∧ H' = upd H T (.tup [.int (c + (i : Nat)), x]) ∧ ∀ xs, SqL K H a xs → xs[i]? = some x, fun i H => ∃ xs, SqL K H a xs ∧ xs.length ≤ i⟩
def IteT (K : PySem.W.Frag) (c : Int) (a : Addr) : It :=
  ⟨fun i H => ∃ xs x, SqT K H a xs ∧ xs[i]? = some x, fun i H v H' => ∃ T x, v = .ref T ∧ H T = none ∧ H' = upd H T (.tup [.int (c + (i : Nat)), x]) ∧ ∀ xs, SqT K H a xs → xs[i]? = some x, fun i H => ∃ xs, SqT K H a xs ∧ xs.length ≤ i⟩
/-- one turn of it, told by what its source draws -/
theorem enum_turn {elts : List Expr} {kk : Nat} {tpos : Pos} {X : Cx} {pins : List (Addr × Obj)} {s : Shared} {σ : L2.St} {H : Hp} {E : Value → Shared → Prop} {e it src : Addr} {n i : Nat} {c : Int} {x : V} {u old : Value} {P : Nat → Value → Prop} {S : Nat → Heap → Prop} {tn' : Heap → Prop} {y : V → Hp → Prop}
    (I : Inv X pins σ H s) (D : Draws X.prog X.w X.A.in1 it [it, src] n P S) (hf : ∀ b ∈ [e, it], FpOk X pins H b) (he : IsEnum s.heap e it (c + ((i : Nat) : Int)) old) (hst : S i s.heap) (hi : i < n) (hne : e ≠ it) (hns : e ≠ src)
    (hP : ∀ v, P i v → v = u) (ru : RelV x u) (hs : ∀ h, S (i + 1) h → ∃ o, h.get? it = some o) (hk : ∀ h h', S (i + 1) h → (∀ b o, b ≠ e → h.get? b = some o → h'.get? b = some o) → S (i + 1) h')
    (ht : ∀ h, (∃ old, IsEnum h e it (c + ((i + 1 : Nat) : Int)) old) → S (i + 1) h → tn' h) (hy : ∀ T, H T = none → y (.ref T) (upd H T (.tup [.int (c + (i : Nat)), x]))) :
    wpAny (model X.prog X.w) X.A (pyNext (.ref e)) (fun r s1 => ∃ v, r = some v ∧
      wpAny (model X.prog X.w) X.A (letOwnedTupleGo (.Tuple elts kk tpos) (.ref e) v) (fun _ s2 => ∃ x' H', Inv X pins σ H' s2 ∧ RelV x' v ∧ y x' H' ∧ tn' s2.heap ∧ ∀ b ∈ [e, it], H' b = none) E s1) E s := by
  have hel : e < s.heap.objs.size := Heap.lt_size he
  have hil : it < s.heap.objs.size := by obtain ⟨_, q⟩ := D.live _ _ hst; exact Heap.lt_size q
  refine wpAny_pyNext_enum_itemC D he hst hi hne (by simp [hne, hns]) fun v h' tk hv ho hs' hT hsz hb => ?_
  cases hP v hv
  refine ⟨_, rfl, wpAny_letOwnedTupleGo_enum (s := { s with heap := h', toks := tk + 1 }) ho fun h2 he2 sb => ?_⟩
  have hT2 : h2.get? s.heap.objs.size = some { cls := .type "tuple", data := .seq #[.int (c + (i : Nat)) tk, u] } := (sb.2 _ (Nat.ne_of_gt hel)).trans hT
  have new : ObjOk X.prog X.w (upd H s.heap.objs.size (.tup [.int (c + (i : Nat)), x])) h2 s.heap.objs.size (.tup [.int (c + (i : Nat)), x]) :=
    ⟨by show 2 ≤ sizeLine; decide, [.int (c + (i : Nat)) tk, u], .cons ⟨_, rfl⟩ (.cons ru .nil), ⟨_, hT2, rfl, _, rfl⟩⟩
  have I2 : Inv X pins σ (upd H s.heap.objs.size (.tup [.int (c + (i : Nat)), x])) { s with heap := h2, toks := tk + 1 } :=
    I.turnedNew (ch := [e, it]) (fun b ob hc q => (sb.2 b (fun z => hc (by simp [z]))).trans (hb b ob (fun z => hc (by simp [z])) (fun z => hc (by simp [z])) q)) hf (Nat.le_refl _) new
  refine ⟨.ref s.heap.objs.size, _, I2, rfl, hy _ (I.hok.fresh (Nat.le_refl _)), ht _ ⟨u, ?_⟩ (hk _ _ hs' fun b o ne q => (sb.2 b ne).trans q), fun b hm => ?_⟩
  · have e1 : c + ((i + 1 : Nat) : Int) = c + (i : Int) + 1 := by omega
    rw [e1]; exact he2
  · have hlt : b < s.heap.objs.size := by
      rcases List.mem_cons.mp hm with z | z
      · rw [z]; exact hel
      · rw [List.mem_singleton.mp z]; exact hil
    rw [upd_ne (Nat.ne_of_lt hlt)]
    exact (hf b hm).1
theorem isEnum_ne_seq {h : Heap} {e it a : Addr} {c : Int} {old : Value} {ob : Obj} {t : String} (he : IsEnum h e it c old) (hl : h.get? a = some ob) (hc : ob.cls = .type t) (ht : t ≠ "enumerate") : e ≠ a := fun z => by
  rw [← z, show h.get? e = _ from he] at hl
  cases hl
  exact ht (by injection hc with q; exact q.symm)
theorem turn_enumL {P : Program} {w : World} {K : PySem.W.Frag} {elts : List Expr} {kk : Nat} {tpos : Pos} (c : Int) (a e it : Addr) :
    Turn P w K (.Tuple elts kk tpos) (IteL K c a) [e, it] e (fun i h => (∃ old, IsEnum h e it (c + ((i : Nat) : Int)) old) ∧ h.IsListIter it a i ∧ e ≠ it) where
  mem := by simp
  obj := fun i h st b hb => by
    obtain ⟨⟨old, he⟩, ⟨o, ho, _, hd⟩, _⟩ := st
    rcases List.mem_cons.mp hb with z | z
    · rw [z]; exact ⟨_, he, fun v q => nomatch q⟩
    · rw [List.mem_singleton.mp z]; exact ⟨o, ho, fun v q => by rw [hd] at q; cases q⟩
  keep := fun i h h' st k => let ⟨⟨old, he⟩, hi, hne⟩ := st; ⟨⟨old, k e (by simp) _ he⟩, hi.at fun o q => k it (by simp) o q, hne⟩
  item := by
    intro X hP hw hK hc i pins s σ H E I hf st hg
    subst hP hw hK
    obtain ⟨⟨old, he⟩, hit, hne⟩ := st
    obtain ⟨xs, x, hq, hx⟩ := hg
    obtain ⟨its, rv, p, hz⟩ := I.list hq
    obtain ⟨u, hu, ru⟩ := rv.get hx
    obtain ⟨ol, hol, hcl, _⟩ := p.isList
    obtain ⟨oi, hoi, hci, _⟩ := id hit
    have hai : a ≠ it := fun z => by
      rw [z, hoi] at hol
      cases hol
      rw [hci] at hcl
      injection hcl with q; exact absurd q (by decide)
    have hi : i < its.toArray.size := by simpa using (List.getElem?_eq_some_iff.mp hu).1
    refine enum_turn (y := (IteL X.K c a).yld i H) (tn' := fun h => (∃ old, IsEnum h e it (c + ((i + 1 : Nat) : Int)) old) ∧ h.IsListIter it a (i + 1) ∧ e ≠ it) I (Draws.list (show X.A.in1.handled = none from I.ok.hd hc) it a hai its.toArray) hf he ⟨hit, p.isList⟩ hi hne (isEnum_ne_seq he hol hcl (by decide)) (u := u) (fun v hv => ?_) ru (fun h q => ?_) (fun h h' q k => ?_) (fun h q r => ⟨q, r.1, hne⟩) fun T hT => ⟨T, x, rfl, hT, rfl, fun ys hy => by rw [I.list_inj hy hq]; exact hx⟩
    · have hv' : its[i]? = some v := by simpa using hv
      rw [hu] at hv'; exact (Option.some.inj hv').symm
    · obtain ⟨o, ho, _⟩ := q.1; exact ⟨o, ho⟩
    · exact ⟨q.1.at fun o z => k _ o (Ne.symm hne) z, q.2.at fun o z => k _ o (isEnum_ne_seq he hol hcl (by decide)).symm z⟩
  done := by
    intro X hP hw hK hc i pins s σ H E I hf st hg
    subst hP hw hK
    obtain ⟨⟨old, he⟩, hit, hne⟩ := st
    obtain ⟨xs, hq, hx⟩ := hg
    obtain ⟨its, rv, p, hz⟩ := I.list hq
    obtain ⟨f0, f1, f2, f3, f4, f5⟩ := hf it (by simp)
    have hl := rv.length
    have hT : s.TypeIs (.ref e) "enumerate" := ⟨_, he, rfl⟩
    unfold pyNext
    refine wpAny_bind (wpAny_attempt (wpAny_callSpecial?_slot (name := Str.ofString "__next__") hT F.slot_enumerate_next
      (wpAny_call_entry F.slot_enumerate_next hT F.entry_enumerate_next ?_ (F.args_enumerate_next_1 _))))
    show wpAny _ _ (field (.ref e) 2 >>= _) _ _ _
    refine wpAny_bind (wpAny_field he rfl (x := .ref it) rfl ?_)
    refine wpAny_bind (wpAny_nextOf_list_end (I.ok.hd hc) hit p.isList (by simp; omega) fun h' x eb hx' => ?_)
    obtain ⟨o, ho, hcs⟩ := hx'
    refine wpAny_bind (wpAny_isInstance (T := "StopIteration") (b := true) ⟨o, ho, hcs⟩ isSubtype_stop ?_)
    exact wpAny_pure ⟨rfl, I.turned (t' := s.toks) (fun b o hb q => eb b o hb q) f0 f1 f3 f4 f5⟩
  self := fun A i s Q E st h => let ⟨⟨_, he⟩, _⟩ := st; wpAny_pyIter_enum he h
theorem turn_enumT {P : Program} {w : World} {K : PySem.W.Frag} {elts : List Expr} {kk : Nat} {tpos : Pos} (c : Int) (a e it : Addr) :
    Turn P w K (.Tuple elts kk tpos) (IteT K c a) [e, it] e (fun i h => (∃ old, IsEnum h e it (c + ((i : Nat) : Int)) old) ∧ h.IsTupleIter it a i ∧ e ≠ it) where
  mem := by simp
  obj := fun i h st b hb => by
    obtain ⟨⟨old, he⟩, ⟨o, ho, _, hd⟩, _⟩ := st
    rcases List.mem_cons.mp hb with z | z
    · rw [z]; exact ⟨_, he, fun v q => nomatch q⟩
    · rw [List.mem_singleton.mp z]; exact ⟨o, ho, fun v q => by rw [hd] at q; cases q⟩
  keep := fun i h h' st k => let ⟨⟨old, he⟩, hi, hne⟩ := st; ⟨⟨old, k e (by simp) _ he⟩, hi.at fun o q => k it (by simp) o q, hne⟩
  item := by
    intro X hP hw hK hc i pins s σ H E I hf st hg
    subst hP hw hK
    obtain ⟨⟨old, he⟩, hit, hne⟩ := st
    obtain ⟨xs, x, hq, hx⟩ := hg
    obtain ⟨its, rv, p, hz⟩ := I.tuple hq
    obtain ⟨u, hu, ru⟩ := rv.get hx
    have p' : s.heap.IsTuple a its.toArray := p
    obtain ⟨ol, hol, hcl, _⟩ := id p'
    obtain ⟨oi, hoi, hci, _⟩ := id hit
    have hai : a ≠ it := fun z => by
      rw [z, hoi] at hol
      cases hol
      rw [hci] at hcl
      injection hcl with q; exact absurd q (by decide)
    have hi : i < its.toArray.size := by simpa using (List.getElem?_eq_some_iff.mp hu).1
    refine enum_turn (y := (IteT X.K c a).yld i H) (tn' := fun h => (∃ old, IsEnum h e it (c + ((i + 1 : Nat) : Int)) old) ∧ h.IsTupleIter it a (i + 1) ∧ e ≠ it) I (Draws.tuple (show X.A.in1.handled = none from I.ok.hd hc) it a hai its.toArray) hf he ⟨hit, p'⟩ hi hne (isEnum_ne_seq he hol hcl (by decide)) (u := u) (fun v hv => ?_) ru (fun h q => ?_) (fun h h' q k => ?_) (fun h q r => ⟨q, r.1, hne⟩) fun T hT => ⟨T, x, rfl, hT, rfl, fun ys hy => by rw [I.tuple_inj hy hq]; exact hx⟩
    · have hv' : its[i]? = some v := by simpa using hv
      rw [hu] at hv'; exact (Option.some.inj hv').symm
    · obtain ⟨o, ho, _⟩ := q.1; exact ⟨o, ho⟩
    · exact ⟨q.1.at fun o z => k _ o (Ne.symm hne) z, q.2.at fun o z => k _ o (isEnum_ne_seq he hol hcl (by decide)).symm z⟩
  done := by
    intro X hP hw hK hc i pins s σ H E I hf st hg
    subst hP hw hK
    obtain ⟨⟨old, he⟩, hit, hne⟩ := st
    obtain ⟨xs, hq, hx⟩ := hg
    obtain ⟨its, rv, p, hz⟩ := I.tuple hq
    have p' : s.heap.IsTuple a its.toArray := p
    obtain ⟨f0, f1, f2, f3, f4, f5⟩ := hf it (by simp)
    have hl := rv.length
    have hT : s.TypeIs (.ref e) "enumerate" := ⟨_, he, rfl⟩
    unfold pyNext
    refine wpAny_bind (wpAny_attempt (wpAny_callSpecial?_slot (name := Str.ofString "__next__") hT F.slot_enumerate_next
      (wpAny_call_entry F.slot_enumerate_next hT F.entry_enumerate_next ?_ (F.args_enumerate_next_1 _))))
    show wpAny _ _ (field (.ref e) 2 >>= _) _ _ _
    refine wpAny_bind (wpAny_field he rfl (x := .ref it) rfl ?_)
    refine wpAny_bind (wpAny_nextOf_tuple_end (I.ok.hd hc) hit p' (by simp; omega) fun h' x eb hx' => ?_)
    obtain ⟨o, ho, hcs⟩ := hx'
    refine wpAny_bind (wpAny_isInstance (T := "StopIteration") (b := true) ⟨o, ho, hcs⟩ isSubtype_stop ?_)
    exact wpAny_pure ⟨rfl, I.turned (t' := s.toks) (fun b o hb q => eb b o hb q) f0 f1 f3 f4 f5⟩
  self := fun A i s Q E st h => let ⟨⟨_, he⟩, _⟩ := st; wpAny_pyIter_enum he h
/-- its two new cells are nobody's -/
theorem fp_two {X : Cx} {pins : List (Addr × Obj)} {σ : L2.St} {H : Hp} {s : Shared} (I : Inv X pins σ H s) : ∀ b ∈ [s.heap.objs.size + 1, s.heap.objs.size], FpOk X pins H b := fun b hb => by
  have hle : s.heap.objs.size ≤ b := by
    rcases List.mem_cons.mp hb with z | z
    · rw [z]; exact Nat.le_add_right _ _
    · rw [List.mem_singleton.mp z]; exact Nat.le_refl _
  exact I.fpOk hle (I.hok.fresh hle)
/-- enumerate(list, start=k) -/
def iEnumS (K : PySem.W.Frag) (ta tk : TA) : TI := fun σ H R => ta σ H fun vs H1 => tk σ H1 fun zs H2 => ∃ a xs c, vs = [.ref a] ∧ zs = [.int c] ∧ -(2 ^ 63) ≤ c ∧ c < 2 ^ 63 ∧ SqL K H2 a xs ∧ R (IteL K c a) H2
theorem pi_enumS {X : Cx} {e : Expr} {ta tk : TA} {kws : List Keyword} {p pos tpos : Pos} {elts : List Expr} {kk : Nat} (hg : Gl X "enumerate") (hm : X.mg "enumerate" = none) (ha : PA X [e] ta) (hk : PK X kws tk)
    (he : backTo pos (starEach [e] X.env) = (false, eval e X.env) :: backTo pos (starEach [] X.env) := by rfl) (hp : (backTo pos (starEach [e] X.env)).any (·.1) = false := by rfl)
    (hal : (backToKw pos (keywordEach kws X.env)).all (·.1.isSome) = true := by rfl) (hn : (backToKw pos (keywordEach kws X.env)).any (·.1.isNone) = false := by rfl) (hks : (backToKw pos (keywordEach kws X.env)).filterMap (·.1) = [Str.ofString "start"] := by rfl) :
    PI X (.Tuple elts kk tpos) (.Call (.Name "enumerate" p) [e] kws pos) (iEnumS X.K ta tk) := by
  refine ⟨fun pins s σ H R I h => ?_⟩
  refine wpAny_Call_Name_kw (ld_blt I hg hm boot_enumerate ?_)
  refine callWith_tyK (thn (ha.run pos pins s σ H _ I h) fun us s1 ⟨vs, H1, I1, r1, q1⟩ => thn (hk.run pos pins s1 σ H1 _ I1 q1) fun ws s2 ⟨zs, H2, I2, r2, q2⟩ => ?_) he hp hal hn
  rw [hks]
  obtain ⟨a, xs, c, ex, ez, c0, c1, hq, q⟩ := q2
  subst ex ez
  cases r1 with
  | cons r rr =>
    cases rr
    cases r
    cases r2 with
    | cons r' rr' =>
      cases rr'
      obtain ⟨t, rfl⟩ := r'
      obtain ⟨its, rv, p', hz⟩ := I2.list hq
      refine enum_begins_start (begins_list a its.toArray) p'.isList c0 c1 fun h' he' hit hsz hkeep => wpAny_pyIter_enum he' ?_
      have I3 : Inv X pins σ H2 { s2 with heap := h' } := I2.kept (t' := s2.toks) hkeep
      refine ⟨s2.heap.objs.size + 1, [s2.heap.objs.size + 1, s2.heap.objs.size], _, _, H2, rfl, I3, turn_enumL c a (s2.heap.objs.size + 1) s2.heap.objs.size, ⟨⟨.none, ?_⟩, ⟨_, hit, rfl, rfl⟩, Nat.succ_ne_self _⟩, fp_two I2, q⟩
      show IsEnum h' _ _ (c + ((0 : Nat) : Int)) _
      rw [show c + ((0 : Nat) : Int) = c by omega]
      exact he'
/-- enumerate(v), whatever v's iterator is -/
theorem enum_new1 {v : Value} {o : Obj} {G : Heap → Prop} (B : Begins v o G) : Meets (Builtin.«enumerate.__new__» ⟨[.type "enumerate", v], []⟩) (fun _ R s => G s.heap ∧ R (.ok (.ret (.ref (s.heap.push o).objs.size)))
    { s with heap := (s.heap.push o).push { cls := .type "enumerate", data := .fields #[.none, .bool false, .ref s.heap.objs.size, rawInt 0, .none, .none] } }) := by
  refine .of_wp fun prog w A R s hh => ?_
  obtain ⟨hp, g, d, tk, os⟩ := s
  obtain ⟨hG, hR⟩ := hh
  have hsub := sub_enumerate
  have it1 : ∀ {A' : Around} {E Q : Value → Shared → Prop}, Q (.ref hp.objs.size) ⟨hp.push o, g, d, tk, os⟩ → wpAny (model prog w) A' (pyIter v) Q E ⟨hp, g, d, tk, os⟩ := fun q => B.iter prog w _ _ ⟨hp, g, d, tk, os⟩ _ hG q
  wp_walk using it1
  refine wpAny_stack_any fun st => wpAny_pure ?_
  split
  · rename_i c _ _ _ _ _
    cases (c == Value.type "enumerate") <;> (wp_walk using it1; exact ⟨_, rfl, hR⟩)
  · wp_walk using it1
    exact ⟨_, rfl, hR⟩
theorem enum_begins1 {prog : Program} {w : World} {A : Around} {E : Value → Shared → Prop} {s : Shared} {v : Value} {o : Obj} {G : Heap → Prop} {Q : Value → Shared → Prop} (B : Begins v o G) (hG : G s.heap)
    (k : ∀ h', IsEnum h' (s.heap.objs.size + 1) s.heap.objs.size 0 .none → h'.get? s.heap.objs.size = some o → h'.objs.size = s.heap.objs.size + 2 → (∀ b o, s.heap.get? b = some o → h'.get? b = some o) → Q (.ref (s.heap.objs.size + 1)) { s with heap := h' }) :
    wpAny (model prog w) A (call (.type "enumerate") [v]) Q E s := by
  refine callType_new F.called_enumerate (by decide) (F.typeCall_enumerate_1 _) (F.newCall_enumerate_1 _) (fun obj => F.args_object_init_2 obj _) F.entry_enumerate_new (enum_new1 B) ⟨hG, ?_⟩
  have e1 : (s.heap.push o).objs.size = s.heap.objs.size + 1 := Heap.size_push ..
  show _ ∧ _
  rw [e1]
  have e2 := Heap.get?_push_size (s.heap.push o) (o := { cls := .type "enumerate", data := .fields #[.none, .bool false, .ref s.heap.objs.size, rawInt 0, .none, .none] }) rfl
  rw [e1] at e2
  exact ⟨⟨_, e2, rfl⟩, k _ e2 (Heap.get?_push_of_some _ (Heap.get?_push_size _ B.free)) (by rw [Heap.size_push, e1]) fun b o q => Heap.get?_push_of_some _ (Heap.get?_push_of_some _ q)⟩
/-- enumerate(tuple) -/
def iEnumT (K : PySem.W.Frag) (ta : TA) : TI := fun σ H R => ta σ H fun vs H1 => ∃ a xs, vs = [.ref a] ∧ SqT K H1 a xs ∧ R (IteT K 0 a) H1
theorem pi_enumT {X : Cx} {e : Expr} {ta : TA} {p pos tpos : Pos} {elts : List Expr} {kk : Nat} (hg : Gl X "enumerate") (hm : X.mg "enumerate" = none) (ha : PA X [e] ta) (hs : starEach [e] X.env = [(false, eval e X.env)] := by rfl) :
    PI X (.Tuple elts kk tpos) (.Call (.Name "enumerate" p) [e] [] pos) (iEnumT X.K ta) := by
  refine ⟨fun pins s σ H R I h => ?_⟩
  refine Call_ (ld_blt I hg hm boot_enumerate (PyProof.Rows.callWith_type1 (thn (ha.run pos pins s σ H _ I h) fun us s1 ⟨vs, H1, I1, r1, q1⟩ => ?_) hs rfl))
  obtain ⟨a, xs, ex, hq, q⟩ := q1
  subst ex
  cases r1 with
  | cons r rr =>
    cases rr
    cases r
    obtain ⟨its, rv, p', hz⟩ := I1.tuple hq
    refine enum_begins1 (begins_tuple a its.toArray) (show s1.heap.IsTuple a its.toArray from p') fun h' he' hit hsz hkeep => wpAny_pyIter_enum he' ?_
    have I3 : Inv X pins σ H1 { s1 with heap := h' } := I1.kept (t' := s1.toks) hkeep
    exact ⟨s1.heap.objs.size + 1, [s1.heap.objs.size + 1, s1.heap.objs.size], _, _, H1, rfl, I3, turn_enumT 0 a (s1.heap.objs.size + 1) s1.heap.objs.size, ⟨⟨.none, he'⟩, ⟨_, hit, rfl, rfl⟩, Nat.succ_ne_self _⟩, fp_two I1, q⟩

section
variable {W : Wd} {K : PySem.W.Frag} {H H1 : Hp} {σ : L2.St} {D : Ends} {Q : VK} {v x y : V} {i j c : Int} {n m : Nat} {s z : Str} {b : Bool} {p a : Addr} {xs ys vs : List V}
variable {ta tb te : TE} {t u : TS} {tr tk : TA} {g : TG} {tS : TS}
/-! ### loops over anything that is walked -/
def FoW (J : It) (g : TG) (tb : TS) (D : Ends) (σ : L2.St) (H : Hp) : Prop := ∃ W : Nat → Nat → L2.St → Hp → Prop, (∃ m, W 0 m σ H) ∧ ∀ i m σ H, W i m σ H →
  (J.stop i H ∧ D.nx σ H) ∨ (J.go i H ∧ ∃ N : L2.St → Hp → Prop, (∀ σ' H', N σ' H' → ∃ m', m' < m ∧ W (i + 1) m' σ' H') ∧ ∀ x H', J.yld i H x H' → g x σ H' fun σ2 H2 => tb { D with nx := N, ct := N, bk := D.nx } σ2 H2)
theorem rd_forS (h : te σ H fun v H1 => ∃ x, v = .str x ∧ FoW (Its x) g tS D σ H1) : tFor (iStr te) g tS D σ H := h
theorem rd_srcS {P : Str → Prop} (k : P s) : ∃ x, V.str s = .str x ∧ P x := ⟨s, rfl, k⟩
theorem rd_forT (h : te σ H fun x H1 => ∃ a, x = .ref a ∧ (∃ xs, SqT K H1 a xs) ∧ FoW (Itt K a) g tS D σ H1) : tFor (iTup K te) g tS D σ H := h
theorem rd_srcT {P : Addr → Prop} (h : At W H a (.tup xs)) (k : P a) : ∃ a', V.ref a = .ref a' ∧ (∃ xs, SqT K H a' xs) ∧ P a' := ⟨a, rfl, ⟨xs, h.st⟩, k⟩
theorem rd_forE (h : tr σ H fun vs H1 => tk σ H1 fun zs H2 => ∃ a xs c, vs = [.ref a] ∧ zs = [.int c] ∧ -(2 ^ 63) ≤ c ∧ c < 2 ^ 63 ∧ SqL K H2 a xs ∧ FoW (IteL K c a) g tS D σ H2) : tFor (iEnumS K tr tk) g tS D σ H := h
theorem rd_srcE {P : Addr → Int → Prop} (h : At W H a (.lst xs)) (c0 : -(2 ^ 63) ≤ c) (c1 : c < 2 ^ 63) (k : P a c) : ∃ a' xs c', [V.ref a] = [.ref a'] ∧ [V.int c] = [.int c'] ∧ -(2 ^ 63) ≤ c' ∧ c' < 2 ^ 63 ∧ SqL K H a' xs ∧ P a' c' := ⟨a, xs, c, rfl, rfl, c0, c1, h.sl, k⟩
theorem rd_forET (h : tr σ H fun vs H1 => ∃ a xs, vs = [.ref a] ∧ SqT K H1 a xs ∧ FoW (IteT K 0 a) g tS D σ H1) : tFor (iEnumT K tr) g tS D σ H := h
theorem rd_srcET {P : Addr → Prop} (h : SqT K H a xs) (k : P a) : ∃ a' xs, [V.ref a] = [.ref a'] ∧ SqT K H a' xs ∧ P a' := ⟨a, xs, rfl, h, k⟩
theorem for_s (Pv : Nat → L2.St → Hp → Prop) (h0 : Pv 0 σ H) (hs : ∀ i c σ H, s.cps[i]? = some c → Pv i σ H → g (.str ⟨#[c]⟩) σ H fun σ2 H2 => tS { D with nx := Pv (i + 1), ct := Pv (i + 1), bk := D.nx } σ2 H2) (hd : ∀ σ H, Pv s.cps.size σ H → D.nx σ H) : FoW (Its s) g tS D σ H :=
  for_it walk_str Pv h0 (fun _ _ _ _ _ => trivial) (fun i x σ H H' hi p y => by
    obtain ⟨rfl, c, hc, rfl⟩ := y
    exact hs i c σ _ hc p) hd
theorem walk_enumL : Walk (IteL K c a) xs.length (fun H => SqL K H a xs) (YPair (fun i => some (.int (c + (i : Nat)))) (fun i => xs[i]?)) := by
  refine ⟨fun i _ hi q => ⟨xs, xs[i], q, by simp [hi]⟩, fun _ q => ⟨xs, q, Nat.le_refl _⟩, fun i H v H' _ q y => ?_⟩
  obtain ⟨T, x, h1, h2, h3, h4⟩ := y
  exact ⟨T, _, x, h1, h2, h3, rfl, h4 xs q⟩
theorem walk_enumT : Walk (IteT K c a) xs.length (fun H => SqT K H a xs) (YPair (fun i => some (.int (c + (i : Nat)))) (fun i => xs[i]?)) := by
  refine ⟨fun i _ hi q => ⟨xs, xs[i], q, by simp [hi]⟩, fun _ q => ⟨xs, q, Nat.le_refl _⟩, fun i H v H' _ q y => ?_⟩
  obtain ⟨T, x, h1, h2, h3, h4⟩ := y
  exact ⟨T, _, x, h1, h2, h3, rfl, h4 xs q⟩
theorem for_e (Pv : Nat → L2.St → Hp → Prop) (h0 : Pv 0 σ H) (hv : ∀ i σ H, Pv i σ H → W.iv H ∧ At W H a (.lst xs))
    (hs : ∀ i x T σ H H', xs[i]? = some x → Pv i σ H → H T = none → Ex W H H' → At W H' T (.tup [.int (c + (i : Nat)), x]) → g (.ref T) σ H' fun σ2 H2 => tS { D with nx := Pv (i + 1), ct := Pv (i + 1), bk := D.nx } σ2 H2)
    (hd : ∀ σ H, Pv xs.length σ H → D.nx σ H) : FoW (IteL K c a) g tS D σ H :=
  for_it (walk_enumL (xs := xs)) Pv h0 (fun i σ H _ p => (hv i σ H p).2.sl) (fun i x σ H H' hi p y => by
    obtain ⟨T, x1, x2, rfl, hT, rfl, e1, e2⟩ := y
    cases e1
    exact hs i x2 T σ H _ e2 p hT (Ex.new (hv i σ H p).1 hT) (At.new (hv i σ H p).1 hT)) hd
theorem for_et (hq : ∀ H, SqT K H a xs) (Pv : Nat → L2.St → Hp → Prop) (h0 : Pv 0 σ H) (hv : ∀ i σ H, Pv i σ H → W.iv H)
    (hs : ∀ i x T σ H H', xs[i]? = some x → Pv i σ H → H T = none → Ex W H H' → At W H' T (.tup [.int (c + (i : Nat)), x]) → g (.ref T) σ H' fun σ2 H2 => tS { D with nx := Pv (i + 1), ct := Pv (i + 1), bk := D.nx } σ2 H2)
    (hd : ∀ σ H, Pv xs.length σ H → D.nx σ H) : FoW (IteT K c a) g tS D σ H :=
  for_it (walk_enumT (xs := xs)) Pv h0 (fun i σ H _ p => hq H) (fun i x σ H H' hi p y => by
    obtain ⟨T, x1, x2, rfl, hT, rfl, e1, e2⟩ := y
    cases e1
    exact hs i x2 T σ H _ e2 p hT (Ex.new (hv i σ H p) hT) (At.new (hv i σ H p) hT)) hd
/-! ### comprehensions over anything that is walked: S is what holds of the items made (without the new list) -/
def LcW (J : It) (g : TG) (tt : TT) (te : TE) (ws : List Nat) (σ : L2.St) (H1 : Hp) (Q : VK) : Prop := ∀ D, H1 D = none → ∃ W : Nat → Nat → Hp → Prop, (∃ m, W 0 m (upd H1 D (.lst []))) ∧ ∀ i m H, W i m H →
  (J.stop i H ∧ Q (.ref D) H) ∨ (J.go i H ∧ ∃ Nx : Hp → Prop, (∀ H', Nx H' → ∃ m', m' < m ∧ W (i + 1) m' H') ∧ ∀ x H', J.yld i H x H' → g x (wipe σ ws) H' fun σ2 H2 => wipe σ2 ws = wipe σ ws ∧ tt σ2 H2 fun b H3 =>
    if b = true then te σ2 H3 fun y H4 => ∃ acc, H4 D = some (.lst acc) ∧ acc.length < sizeLine ∧ Nx (upd H4 D (.lst (acc ++ [y]))) else Nx H3)
theorem rd_lcS {tt : TT} {ws : List Nat} (h : ta σ H fun v H1 => ∃ x, v = .str x ∧ LcW (Its x) g tt te ws σ H1 Q) : tLc (iStr ta) g tt te ws σ H Q := h
theorem rd_lcR {tt : TT} {ws : List Nat} (h : tr σ H fun vs H1 => ∃ j : Int, vs = [.int j] ∧ -(2 ^ 62) ≤ j ∧ j < 2 ^ 62 ∧ LcW (Itr 0 j.toNat) g tt te ws σ H1 Q) : tLc (iRng1 tr) g tt te ws σ H Q := h
theorem rd_srcR {P : Int → Prop} (h1 : -(2 ^ 62) ≤ j) (h2 : j < 2 ^ 62) (k : P j) : ∃ j' : Int, [V.int j] = [V.int j'] ∧ -(2 ^ 62) ≤ j' ∧ j' < 2 ^ 62 ∧ P j' := ⟨j, rfl, h1, h2, k⟩
theorem rd_lcL {tt : TT} {ws : List Nat} (h : ta σ H fun x H1 => ∃ a, x = .ref a ∧ (∃ xs, SqL K H1 a xs) ∧ LcW (Itl K a) g tt te ws σ H1 Q) : tLc (iList K ta) g tt te ws σ H Q := h
theorem rd_srcL {P : Addr → Prop} (h : At W H a (.lst xs)) (k : P a) : ∃ a', V.ref a = .ref a' ∧ (∃ xs, SqL K H a' xs) ∧ P a' := ⟨a, rfl, ⟨xs, h.sl⟩, k⟩
theorem hide_none {D : Addr} (h : H D = none) : Lw.hide D H = H := by
  funext q
  unfold Lw.hide
  split
  · rename_i e; rw [e, h]
  · rfl
theorem lc_w {J : It} {G : Hp → Prop} {X : Nat → V → Prop} {tt : TT} (w : Walk J n G fun i H x H' => H' = H ∧ X i x) (S : Nat → List V → Hp → Prop) (i : W.iv H) (hn : n ≤ 50000) (hG : ∀ H', Ex W H H' → G H')
    (hm : ∀ k ys H1 H2, Ex W H1 H2 → S k ys H1 → S k ys H2) (h0 : S 0 [] H)
    (hs : ∀ k x D ys H' (QV : VK) (QN : Hp → Prop), k < n → X k x → H D = none → At W H' D (.lst ys) → Ex W H H' → S k ys (Lw.hide D H') → ys.length ≤ k →
      (∀ y H4, Ex W H' H4 → S (k + 1) (ys ++ [y]) (Lw.hide D H4) → QV y H4) → (∀ H3, Ex W H' H3 → S (k + 1) ys (Lw.hide D H3) → QN H3) →
      tt ((wipe σ [m]).set m (some x)) H' fun b H3 => if b = true then te ((wipe σ [m]).set m (some x)) H3 QV else QN H3)
    (k : ∀ D H2 ys, H D = none → Ex W H H2 → At W H2 D (.lst ys) → S n ys H2 → ys.length ≤ n → Q (.ref D) H2) : LcW J (gName m) tt te [m] σ H Q := by
  intro D hD
  refine lc_it w (fun k H' => ∃ ys, Ex W H H' ∧ At W H' D (.lst ys) ∧ S k ys (Lw.hide D H') ∧ ys.length ≤ k) ⟨[], Ex.new i hD, At.new i hD, ?_, Nat.le_refl _⟩ (fun k H' _ ⟨_, e, _⟩ => hG H' e) (fun k x H1 H' hk ⟨ys, e, hd, hS, hl⟩ hx => ?_) fun H' ⟨ys, e, hd, hS, hl⟩ => ?_
  · rw [hide_upd, hide_none hD]; exact h0
  · obtain ⟨rfl, hx⟩ := hx
    refine ⟨by show wipe _ _ = _; simp [wipe, List.set_set], ?_⟩
    refine hs k x D ys _ _ _ hk hx hD hd e hS hl (fun y H4 e4 q => ⟨ys, (e4.at_ hd).1, sz_lt (by omega), ys ++ [y], (e.trans e4).mut hD (e4.at_ hd), At.mut e4.iv (e4.at_ hd), ?_, by rw [List.length_append, List.length_singleton]; omega⟩) fun H3 e3 q => ⟨ys, e.trans e3, e3.at_ hd, q, by omega⟩
    rw [hide_upd]; exact q
  · exact k D H' ys hD e hd (hm _ _ _ _ (Ex.unhide e.iv hd) hS) hl
theorem rd_yes {QB : Bool → Hp → Prop} (h : QB true H) : tYes σ H QB := h
/-! ### dicts with ints or texts as keys -/
theorem rd_dnew (i : W.iv H) (k : ∀ p H2, H p = none → Ex W H H2 → At W H2 p (.dK []) → Q (.ref p) H2) : tDNewK σ H Q := new_of i k
def DGetG (Q : VK) (a : Addr) (y : V) (H : Hp) : Prop := ∃ o, DGet H a y o ∧ Q (o.getD .non) H
def DInG (Q : VK) (neg : Bool) (x y : V) (H : Hp) : Prop := ∃ a o, x = .ref a ∧ DGet H a y o ∧ Q (.bl (if neg then !o.isSome else o.isSome)) H
def DSetG (Q : VK) (a : Addr) (y z : V) (H : Hp) : Prop := ∃ (kvs : List (Key × V)) (k : Key), H a = some (.dK kvs) ∧ y = kV k ∧ kvs.length < sizeLine ∧ (∀ v, valV kvs k = some v → Q v H) ∧ (valV kvs k = none → Q z (upd H a (.dK (putK kvs k z))))
theorem rd_dget1 (h : ta σ H fun x H1 => ∃ a, x = .ref a ∧ IsD H1 a ∧ te σ H1 fun y H2 => DGetG Q a y H2) : tDGet1 ta te σ H Q := h
theorem rd_isD {kvs : List (Key × V)} {P : Addr → Prop} (h : At W H a (.dK kvs)) (k : P a) : ∃ a', V.ref a = .ref a' ∧ IsD H a' ∧ P a' := ⟨a, rfl, .inl ⟨kvs, .inl h.1⟩, k⟩
theorem rd_dgetS {kvs : List (Key × V)} (h : At W H a (.dK kvs)) (k : Q ((valV kvs (.inr z)).getD .non) H) : DGetG Q a (.str z) H := ⟨_, DGet.k (k := .inr z) h.1, k⟩
theorem rd_din (h : ta σ H fun y H1 => te σ H1 fun x H2 => DInG Q false x y H2) : tDIn ta te σ H Q := h
theorem rd_dnin (h : ta σ H fun y H1 => te σ H1 fun x H2 => DInG Q true x y H2) : tDNotIn ta te σ H Q := h
theorem rd_dinS {kvs : List (Key × V)} (h : At W H a (.dK kvs)) (k : Q (.bl (valV kvs (.inr z)).isSome) H) : DInG Q false (.ref a) (.str z) H := ⟨a, _, rfl, DGet.k (k := .inr z) h.1, k⟩
theorem rd_dput {tv : TE} (h : tv σ H fun v H1 => ta σ H1 fun x H2 => te σ H2 fun y H3 => ∃ a H4, x = .ref a ∧ DPut H3 a y v H4 ∧ D.nx σ H4) : sDPut ta te tv D σ H := h
theorem rd_dputS {kvs : List (Key × V)} {H0 : Hp} {P : Hp → Prop} (e : Ex W H0 H) (h0 : H0 a = none) (h : At W H a (.dK kvs)) (hl : kvs.length < 1000000) (k : ∀ H2, Ex W H0 H2 → At W H2 a (.dK (putK kvs (.inr z) v)) → (∀ q o, q ≠ a → At W H q o → At W H2 q o) → P H2) :
    ∃ a' H4, V.ref a = .ref a' ∧ DPut H a' (.str z) v H4 ∧ P H4 := ⟨a, _, rfl, DPut.k (k := .inr z) h.1 (sz_lt hl), k _ (e.mut h0 h) (.mut e.iv h) fun _ _ ne q => .other e.iv h q ne⟩
theorem rd_dsetd {tx : TE} (h : ta σ H fun x H1 => ∃ a, x = .ref a ∧ IsD H1 a ∧ te σ H1 fun y H2 => tx σ H2 fun z H3 => DSetG Q a y z H3) : tDSetd ta te tx σ H Q := h
theorem rd_dsetN {kvs : List (Key × V)} {H0 : Hp} (e : Ex W H0 H) (h0 : H0 a = none) (h : At W H a (.dK kvs)) (hl : kvs.length < 1000000) (hn : valV kvs (.inr z) = none) (k : ∀ H2, Ex W H0 H2 → At W H2 a (.dK (putK kvs (.inr z) v)) → (∀ q o, q ≠ a → At W H q o → At W H2 q o) → Q v H2) :
    DSetG Q a (.str z) v H := ⟨kvs, .inr z, h.1, rfl, sz_lt hl, fun v q => (by rw [hn] at q; cases q), fun _ => k _ (e.mut h0 h) (.mut e.iv h) fun _ _ ne q => .other e.iv h q ne⟩
/-! ### texts -/
section
variable {X : Cx}
def rEndsS : V → List V → Hp → VK → Prop := fun x xs H Q => ∃ a b, x = .str a ∧ xs = [.str b] ∧ Q (.bl (Txt.endswith a b)) H
theorem m_endswith : MtR X "str.endswith" rEndsS := mt_endswith
def rStartsS : V → List V → Hp → VK → Prop := fun x xs H Q => ∃ a b, x = .str a ∧ xs = [.str b] ∧ Q (.bl (Txt.startswith a b)) H
theorem m_startswith : MtR X "str.startswith" rStartsS := mt_startswith
def rFindS : V → List V → Hp → VK → Prop := fun x xs H Q => ∃ a b, x = .str a ∧ xs = [.str b] ∧ Q (.int (Txt.find a b)) H
theorem m_find : MtR X "str.find" rFindS := mt_find
def rSplitS : V → List V → Hp → VK → Prop := fun x xs H Q => ∃ a b, x = .str a ∧ xs = [.str b] ∧ (b.length == 0) = false ∧ a.length + 2 ≤ sizeLine ∧ rNewStrs (Txt.split a b) H Q
theorem m_split : MtR X "str.split" rSplitS := mt_split
def rInSg : R2 := fun x y H Q => ∃ (c : Nat) (z : Str), x = .str ⟨#[c]⟩ ∧ y = .str z ∧ Q (.bl (decide (c ∈ z.cps.toList))) H
theorem o_inSg : OpR X (compareOp .In) rInSg := op_in_sign
def rNinSg : R2 := fun x y H Q => ∃ (c : Nat) (z : Str), x = .str ⟨#[c]⟩ ∧ y = .str z ∧ Q (.bl (!decide (c ∈ z.cps.toList))) H
theorem o_ninSg : OpR X (compareOp .NotIn) rNinSg := op_notIn_sign
def rStrB : List V → Hp → VK → Prop := fun xs H Q => (∃ i, xs = [.int i] ∧ i.natAbs.log2 < 1920 ∧ Q (.str (toString i)) H) ∨ ∃ a, xs = [.str a] ∧ Q (.str a) H
theorem c_strB : CallR X (.type "str") rStrB := by
  intro pins s σ H xs us Q I rs h
  rcases h with ⟨i, e, h1, q⟩ | ⟨a, e, q⟩
  · exact call_str_int pins s σ H xs us Q I rs ⟨i, e, h1, q⟩
  · exact SkE.call_str_str pins s σ H xs us Q I rs ⟨a, e, q⟩
end
theorem rd_ends (k : Q (.bl (Txt.endswith s z)) H) : rEndsS (.str s) [.str z] H Q := ⟨_, _, rfl, rfl, k⟩
theorem rd_starts (k : Q (.bl (Txt.startswith s z)) H) : rStartsS (.str s) [.str z] H Q := ⟨_, _, rfl, rfl, k⟩
theorem rd_find (k : Q (.int (Txt.find s z)) H) : rFindS (.str s) [.str z] H Q := ⟨_, _, rfl, rfl, k⟩
theorem rd_split (i : W.iv H) (hz : (z.length == 0) = false) (h : s.length ≤ 1000000) (k : ∀ p H2, H p = none → Ex W H H2 → At W H2 p (.lst ((Txt.split s z).map V.str)) → Q (.ref p) H2) : rSplitS (.str s) [.str z] H Q :=
  ⟨_, _, rfl, rfl, hz, Nat.le_trans (Nat.add_le_add_right h 2) (by decide), new_of i k⟩
theorem rd_tyS {P : Prop} (k : P) : tyV K "str" (.str s) H ∧ P := ⟨rfl, k⟩
theorem rd_slS {lo hi : Option Int} (h : z.length ≤ 1000000) (k : Q (.str (cutS z lo hi)) H) : rSlS (.str z) lo hi H Q := ⟨z, rfl, sz_le h, k⟩
theorem rd_ixS {c : Nat} (h : z.length ≤ 1000000) (e : atI z.cps.toList i = some c) (k : Q (.str ⟨#[c]⟩) H) : rIxS (.str z) (.int i) H Q := ⟨z, i, c, rfl, rfl, sz_le h, e, k⟩
theorem rd_inSg {c : Nat} (k : Q (.bl (decide (c ∈ z.cps.toList))) H) : rInSg (.str ⟨#[c]⟩) (.str z) H Q := ⟨c, z, rfl, rfl, k⟩
theorem rd_ninSg {c : Nat} (k : Q (.bl (!decide (c ∈ z.cps.toList))) H) : rNinSg (.str ⟨#[c]⟩) (.str z) H Q := ⟨c, z, rfl, rfl, k⟩
theorem rd_strI (h : i.natAbs.log2 < 1920) (k : Q (.str (toString i)) H) : rStrB [.int i] H Q := .inl ⟨i, rfl, h, k⟩
theorem rd_strS (k : Q (.str s) H) : rStrB [.str s] H Q := .inr ⟨s, rfl, k⟩
theorem rd_rep (i : W.iv H) (h : At W H p (.lst xs)) (h0 : -(2 ^ 63) ≤ j) (h1 : j < 2 ^ 63) (hz : xs.length * j.toNat ≤ 1000000) (k : ∀ l H2, H l = none → Ex W H H2 → At W H2 l (.lst (List.replicate j.toNat xs).flatten) → Q (.ref l) H2) : rRep (.ref p) (.int j) H Q :=
  ⟨p, j, xs, rfl, rfl, h.1, h0, h1, sz_le hz, new_of i k⟩
end
def rJoinS (K : PySem.W.Frag) : V → List V → Hp → VK → Prop := fun x xs H Q => ∃ a p, ∃ ys : List Str, x = .str a ∧ xs = [.ref p] ∧ (SqL K H p (ys.map V.str) ∨ SqT K H p (ys.map V.str)) ∧
    (ys.map (·.length)).sum + ys.length * a.length ≤ 16777216 ∧ Q (.str (Txt.join a ys)) H
theorem m_join {X : Cx} : MtR X "str.join" (rJoinS X.K) := mt_join
theorem rd_join {W : Wd} {K : PySem.W.Frag} {H : Hp} {Q : VK} {s : Str} {p : Addr} {ys : List Str} (h : At W H p (.lst (ys.map V.str))) (hz : (ys.map (·.length)).sum + ys.length * s.length ≤ 16777216) (k : Q (.str (Txt.join s ys)) H) : rJoinS K (.str s) [.ref p] H Q :=
  ⟨s, p, ys, rfl, rfl, .inl h.sl, hz, k⟩
/-! ### a written dict with texts as keys -/
def rInKd (K : PySem.W.Frag) (d : Addr) : R2 := fun x y H Q => ∃ (z : Str) (r : Option Value), x = .str z ∧ y = .ref d ∧ PySem.W.nsIn K d z = some r ∧ Q (.bl r.isSome) H
def rNinKd (K : PySem.W.Frag) (d : Addr) : R2 := fun x y H Q => ∃ (z : Str) (r : Option Value), x = .str z ∧ y = .ref d ∧ PySem.W.nsIn K d z = some r ∧ Q (.bl (!r.isSome)) H
def rIxKd (K : PySem.W.Frag) (w : World) : R2 := fun x y H Q => ∃ p z v, x = .ref p ∧ y = .str z ∧ KDct K w p z v ∧ Q v H
section
variable {X : Cx} {d p : Addr} {es : Array DictEntry} {n : Nat} {K : PySem.W.Frag} {w : World} {H : Hp} {Q : VK} {z : Str} {r : Option Value} {v : V}
theorem o_inKd (D : KDict X.K X.w d es n) : OpR X (compareOp .In) (rInKd X.K d) := op_in_kd D
theorem o_ninKd (D : KDict X.K X.w d es n) : OpR X (compareOp .NotIn) (rNinKd X.K d) := op_notIn_kd D
theorem x_kd : IxR X (rIxKd X.K X.w) := ix_kdict
theorem rd_ninKd (h : PySem.W.nsIn K d z = some r) (k : Q (.bl (!r.isSome)) H) : rNinKd K d (.str z) (.ref d) H Q := ⟨z, r, rfl, rfl, h, k⟩
theorem rd_inKd (h : PySem.W.nsIn K d z = some r) (k : Q (.bl r.isSome) H) : rInKd K d (.str z) (.ref d) H Q := ⟨z, r, rfl, rfl, h, k⟩
theorem rd_ixKd (D : KDict K w d es n) {a : Addr} (h : PySem.W.nsIn K d z = some (some (.ref a))) (k : Q (.ref a) H) : rIxKd K w (.ref d) (.str z) H Q := ⟨d, z, .ref a, rfl, rfl, ⟨es, n, _, D.at_, D.lit, h, rfl⟩, k⟩
end
section
variable {H : Hp} {σ : L2.St} {Q : VK} {s : Str} {b c : Bool} {v x : V} {r r' : R2} {ta tb tc : TE}
theorem rd_chain (h : ta σ H fun x H1 => tb σ H1 fun y H2 => r x y H2 fun z H3 => ∃ k, z = .bl k ∧ (if k = true then tc σ H3 fun w' H4 => r' y w' H4 Q else Q (.bl false) H3)) : tChain r r' ta tb tc σ H Q := h
theorem at_inG {α : Type} {xs : List α} {i : Int} {v : α} (h : 0 ≤ i) (e : xs[i.toNat]? = some v) : atI xs i = some v := by
  have hl := (List.getElem?_eq_some_iff.mp e).1
  unfold atI ixN
  rw [if_pos h, if_pos (by omega)]
  exact e
theorem ifB_yes {A B : Prop} (e : b = true) (h : A) : if b = true then A else B := by rw [if_pos e]; exact h
theorem ifB_no {A B : Prop} (e : b = false) (h : B) : if b = true then A else B := by rw [if_neg (by rw [e]; decide)]; exact h
theorem ifNB_yes {A B : Prop} (e : b = false) (h : A) : if (!b) = true then A else B := by rw [e]; exact h
theorem ifNB_no {A B : Prop} (e : b = true) (h : B) : if (!b) = true then A else B := by rw [e]; exact h
theorem cast_bl (h : Q (.bl b) H) (e : b = c) : Q (.bl c) H := e ▸ h
theorem cast_str {z : Str} (h : Q (.str s) H) (e : s = z) : Q (.str z) H := e ▸ h
theorem cast_v (h : Q v H) (e : v = x) : Q x H := e ▸ h
end
end Lw

/-! Lx: the program's own exceptions: class X(..) over ValueError whose __init__ says super().__init__('..') and keeps its argument in a field. -/
namespace PySem
namespace SupX
open PySem.W PySem.Calls PyProof.Rows PySem.HandSPX
def iA (f : Str) (p1 p2 : Pos) : Arguments := { posonlyargs := [], args := [{ arg := "self", annotation := none, pos := p1 }, { arg := f, annotation := none, pos := p2 }], vararg := none, kwonlyargs := [], kw_defaults := [], kwarg := none, defaults := [] }
def iSup (m : Str) (n : Nat) (p0 p1 p2 p3 p4 p5 : Pos) : Stmt := .Expr (.Call (.Attribute (.Call (.Name "super" p0) [] [] p1) "__init__" p2) [.Constant (.str m) n p3] [] p4) p5
def iSt (f : Str) (q1 q2 q3 q4 : Pos) : Stmt := .Assign [.Attribute (.Name "self" q1) f q2] (.Name f q3) q4
def iS (f : Str) : Scope := { kind := .function, names := [(PySem.Str.ofString "self", .local), (f, .local), (PySem.Str.ofString "__class__", .free), (PySem.Str.ofString "super", .globalImplicit)], isGenerator := false, isCoroutine := false, more := [] }
/-- the field's name is none of the four -/
structure NmOk (f : Str) : Prop where
  a : (PySem.Str.ofString "self" == f) = false
  a' : (f == PySem.Str.ofString "self") = false
  b : (PySem.Str.ofString "super" == f) = false
  c : (PySem.Str.ofString "__class__" == f) = false
  d : (f == PySem.Str.ofString "__debug__") = false
/-- what the written part says of the class x, at C, and of its __init__, at fI -/
structure SupTxt (P : Program) (K : Frag) (mg : Str → Option Value) (x : Str) (f : Str) (C fI : Addr) : Prop where
  gC : mg x = some (.ref C)
  nm : NmOk f
  cls : ∃ nm q N bs bm sn sub ab col dd k0 k1 k2 k3 k5, K.lookup C = some (excClassObj nm q C N bs bm true sn sub ab col dd k0 k1 k2 k3 k5 "ValueError.__new__") ∧ refsVE bm = true
  sa : findIn K (.ref C) "__setattr__" = some (some (.builtin "object.__setattr__"))
  ga : findIn K (.ref C) "__getattribute__" = some (some (.builtin "BaseException.__getattribute__"))
  gg : findIn K (.ref C) "__getattr__" = some none
  noN : findIn K (.ref C) f = some none
  iC : findIn K (.ref C) "__init__" = some (some (.ref fI))
  tC : typeIn K (.ref fI) = some (.type "function")
  kC : keepIn K (.ref C) = true
  exC : subIn K (.ref C) (.type "BaseException") = some true
  tyC : typeIn K (.ref C) = some (.type "type")
  hdC : hasDictIn K C = true
  op : nsIn K cStatics "thirdparty.any" = some none
  along : ks_superIn K C C "__init__" = some (some (.builtin "ValueError.__init__"))
  hB : subIn K (.ref C) (.type "ValueError") = some true
  ms : mroIn K C (.ref C) = some true
  su : nsIn K mainGlobals "super" = some none
  top : (P.main.scope.names.lookup (PySem.Str.ofString "super")).isSome = false
  fn : ∃ (oc : Value) (od : Option Addr) (doc pm : Value) (an : Option Addr) (cda : Addr) (ct : Value) (osl : Array (Option Value)) (qual m : Str) (n : Nat) (p1 p2 a0 a1 a2 a3 a4 a5 q1 q2 q3 q4 : Pos) (cc : Addr),
    K.lookup fI = some ⟨oc, od, .func (ksFn "__init__" qual (iA f p1 p2) [iSup m n a0 a1 a2 a3 a4 a5, iSt f q1 q2 q3 q4] (iS f) .none .none doc pm an (.ref cda) ct cc), osl⟩ ∧ codeIn K (.ref cda) qual = true ∧
    (a2.endLine == a4.line) = true ∧ (∀ (s : Shared) (u v : Value), BindsTo s (ksFn "__init__" qual (iA f p1 p2) [iSup m n a0 a1 a2 a3 a4 a5, iSt f q1 q2 q3 q4] (iS f) .none .none doc pm an (.ref cda) ct cc) ⟨[u, v], []⟩ [("self", u), (f, v)]) ∧
    (∃ cl cld csl, K.lookup cc = some ⟨cl, cld, .cell (some (.ref C)), csl⟩) ∧ ∃ ccl cdd vs ccs file tf, K.lookup cda = some ⟨ccl, cdd, .fields vs, ccs⟩ ∧ vs[2]? = some (.str file tf) ∧ ((P.main.file : Str) == file) = true
/-- what __init__ leaves of a fresh exception at x -/
structure InitEnd (h h' : Heap) (x C dx t1 : Addr) (f : Str) (v : Value) : Prop where
  keep : ∀ b o, b ≠ x → h.get? b = some o → h'.get? b = some o
  obj : h'.get? x = some { cls := .ref C, dict := some dx, data := .fields #[.ref t1, .none, .none, .none, .bool false, .none] }
  dbig : h.objs.size ≤ dx
  dne : dx ≠ x
  ns : h'.Ns1 dx (fun y => if y = f then some v else none)
/-- a made one -/
structure OwnMade (h h' : Heap) (e C d : Addr) (f : Str) (v : Value) : Prop where
  keep : ∀ b o, h.get? b = some o → h'.get? b = some o
  new : h.objs.size ≤ e
  obj : ∃ oe vs, h'.get? e = some oe ∧ oe.cls = .ref C ∧ oe.dict = some d ∧ oe.data = .fields vs ∧ vs[1]? = some .none
  dbig : h.objs.size ≤ d
  dne : d ≠ e
  ns : h'.Ns1 d (fun y => if y = f then some v else none)
section
variable {prog : Program} {w : World} {A : Around} {E : Value → Shared → Prop} {h : Heap} {g : Array GenState} {d : Drawn} {t : Nat} {os : OsState}
variable {nm q : Str} {C N : Addr} {bs bm : List Value} {hdct : Bool} {sn : List Str} {sub : List Value} {ab : Bool} {col : Option Bool} {dd : Option Addr} {k0 k1 k2 k3 k5 : Option Value}
/-- the bound ValueError.__init__ called -/
theorem call_mw {u e t0 : Addr} {rest : List Value} {Q : Value → Shared → Prop}
    (hC : h.get? C = some (excClassObj nm q C N bs bm hdct sn sub ab col dd k0 k1 k2 k3 k5 "ValueError.__new__")) (he : h.get? e = some (excO C t0)) (hu : h.get? u = some (kxs_mw "ValueError.__init__" e)) (hrest : rest.length ≤ sizeLine)
    (hq : ∀ h' t1, (∀ b o, b ≠ e → h.get? b = some o → h'.get? b = some o) → h'.get? e = some (excO C t1) → Q .none ⟨h', g, d, t, os⟩) :
    wpAny (model prog w) A (call (.ref u) rest) Q E ⟨h, g, d, t, os⟩ := by
  refine wpAny_call (codeAny_of_tree ?_)
  show wpAny _ A.in1 (callAny (.ref u) ⟨rest, []⟩) _ _ _
  simp only [callAny]
  refine wpAny_bind (wpAny_load hu ?_)
  simp only [kxs_mw, show (Value.type "method-wrapper" == Value.type "method" || Value.type "method-wrapper" == Value.type "builtin_function_or_method" || Value.type "method-wrapper" == Value.type "method-wrapper") = true by decide, if_true]
  refine W.KFB.if_so (by decide) ?_
  refine wpAny_bind (ESX.check_bound F.excBase_ValueError hC he rfl ?_)
  refine wpAny_bind (wpAny_pure (wpAny_pure ?_))
  refine ⟨Code.quiet_builtin _ (by decide +kernel), codeAny_builtin F.excBase_ValueError.initEntry ?_⟩
  rw [Around.under_plainId F.excBase_ValueError.init.plain _]
  wp_walk
  refine hq _ h.objs.size (fun b o hb ho => ?_) ?_
  · rw [Heap.get?_update_other _ _ (Ne.symm hb)]
    exact Heap.get?_push_of_some _ ho
  · rw [Heap.get?_update_self _ (Heap.get?_push_of_some _ he) rfl]
    rfl
end
section
variable {prog : Program} {w : World} {A : Around} {E : Value → Shared → Prop} {R : Result → Shared → Prop} {s : Shared} {K : Frag} {mg mb : Str → Option Value} {x f : Str} {C fI : Addr}
theorem kind_of {f : Str} {e a : Addr} {q : Str} {cd : Value} {cc : Addr} (N : NmOk f) : (ksEnv q (iS f) e a cd cc).kindOf "super" = some .globalImplicit ∧ (ksEnv q (iS f) e a cd cc).kindOf "__class__" = some .free ∧ (ksEnv q (iS f) e a cd cc).kindOf "self" = some .local ∧ (ksEnv q (iS f) e a cd cc).kindOf f = some .local := by
  have e1 : ∀ y : Str, (ksEnv q (iS f) e a cd cc).kindOf y = (iS f).names.lookup y := fun _ => rfl
  have c1 : (PySem.Str.ofString "super" == PySem.Str.ofString "self") = false := by decide
  have c2 : (PySem.Str.ofString "super" == PySem.Str.ofString "__class__") = false := by decide
  have c3 : (PySem.Str.ofString "__class__" == PySem.Str.ofString "self") = false := by decide
  refine ⟨?_, ?_, ?_, ?_⟩ <;> rw [e1] <;> unfold iS <;> simp only [List.lookup, N.a, N.a', N.b, N.c, c1, c2, c3, beq_self_eq_true]
theorem bs_self {f : Str} (N : NmOk f) {u v : Value} : (([(PySem.Str.ofString "self", u), (f, v)] : List (Str × Value)).reverse.lookup (PySem.Str.ofString "self") = some u) := by
  simp [List.lookup, N.a]
theorem bs_f {f : Str} (N : NmOk f) {u v : Value} : (([(PySem.Str.ofString "self", u), (f, v)] : List (Str × Value)).reverse.lookup f = some v) := by
  simp [List.lookup, N.a]
theorem he_of {o : Expr} {name m : Str} {n : Nat} {apos p3 pos : Pos} {env : Env} (hpl : (apos.endLine == pos.line) = true) : eval (.Call (.Attribute o name apos) [.Constant (.str m) n p3] [] pos) env = (do
      let ov ← attributeBase o name env (eval o env)
      standAt apos.atName
      let (f, first) ← holding [ov] (getMethod ov name (do return (← importBound o env).getD true))
      callWith pos f first (backTo pos (starEach [.Constant (.str m) n p3] env)) []) := by
  have e : methodCallPos true o env apos pos = pure pos := by unfold methodCallPos; rw [hpl]; rfl
  show (attributeBase o name env (eval o env) >>= fun ov => standAt apos.atName >>= fun _ => holding [ov] (getMethod ov name (do return (← importBound o env).getD true)) >>= fun fx => methodCallPos true o env apos pos >>= fun cp => callWith cp fx.1 fx.2 (backTo pos (starEach [.Constant (.str m) n p3] env)) []) = _
  rw [e]
  rfl
theorem sup_init (T : SupTxt prog K mg x f C fI) {e t0 : Addr} {v : Value} (X : K.In s.heap) (hlim : s.heap.NoLimit) (G : s.heap.Ns mainGlobals mg) (hms : mg "super" = none) (B : s.heap.Ns builtinsNs mb) (hmb : mb "super" = some (.type "super"))
    (hx : s.heap.get? e = some (excO C t0)) (hnx : K.lookup e = none) (hroom : A.depth < recursionLimit)
    (hq : ∀ h' tk dx t1, InitEnd s.heap h' e C dx t1 f v → R (.ok (.ret .none)) { s with heap := h', toks := tk }) :
    codeAny (model prog w) A (.call (.ref fI) ⟨[.ref e, v], []⟩) R s := by
  obtain ⟨oc, od, doc, pm, an, cda, ct, osl, qual, m, n, p1, p2, a0, a1, a2, a3, a4, a5, q1, q2, q3, q4, cc, ho, hcd, hpl, hbd, ⟨cl, cld, csl, hcell⟩, ccl, cdd, vs, ccs, file, tf, hcode, hvs, hfile⟩ := T.fn
  obtain ⟨nm, q, N, bs, bm, sn, sub, ab, col, dd, k0, k1, k2, k3, k5, hC, hbm⟩ := T.cls
  have hcl : clsIn K C = some { name := nm, bases := bs, mro := .ref C :: bm, ns := N, qualname := q, hasDict := true, slotNames := sn, subclasses := sub, abstract := ab, collection := col, hasDel := false } := by unfold clsIn; rw [hC] <;> rfl
  have kd := fun (L : Addr) => kind_of (q := qual) (e := L) (a := fI) (cd := .ref cda) (cc := cc) T.nm
  refine ks_codeAny_call_defAt (fd := ksFn "__init__" qual (iA f p1 p2) [iSup m n a0 a1 a2 a3 a4 a5, iSt f q1 q2 q3 q4] (iS f) .none .none doc pm an (.ref cda) ct cc) (body := [iSup m n a0 a1 a2 a3 a4 a5, iSt f q1 q2 q3 q4])
    (binds := [(PySem.Str.ofString "self", .ref e), (f, v)]) hroom (X _ _ ho) rfl hlim (codeRec_of X hcd) rfl (hbd _ _ _) ?cell ?loc (fun h₁ hns hk => ?_) rfl rfl rfl
  case cell => 
    intro y hy
    simp only [ksFn, fnX, iS, List.mem_cons, List.not_mem_nil, or_false] at hy
    rcases hy with rfl | rfl | rfl | rfl <;> intro z <;> cases z
  case loc =>
    intro y hy
    simp only [List.mem_cons, List.not_mem_nil, or_false] at hy
    rcases hy with rfl | rfl
    · exact (kd 0).2.2.1
    · exact (kd 0).2.2.2
  have kd := kd s.heap.objs.size
  obtain ⟨hp, g, d, tk, os⟩ := s
  dsimp only at hns hk hx X G B hlim hq ⊢
  have X₁ : K.In h₁ := X.keeps hk
  have hx₁ := hk _ _ hx
  show _root_.PySem.wpAt (model prog w) _ (.func _ (ksEnv qual (iS f) hp.objs.size fI (.ref cda) cc)) (execs [iSup m n a0 a1 a2 a3 a4 a5, iSt f q1 q2 q3 q4] (ksEnv qual (iS f) hp.objs.size fI (.ref cda) cc)) _ _ _
  refine ks_wpAt_execs_cons (ks_wpAt_Expr_any (ks_wpAt_MethodCall ?_ (he_of hpl)))
  refine ks_wpAt_super_base (env := ksEnv qual (iS f) hp.objs.size fI (.ref cda) cc) kd.1 kd.2.1 (by decide) rfl (X₁ _ _ ho) rfl rfl rfl (X₁ _ _ hcode) rfl hvs hfile T.top ?_
  refine ks_loadName_global rfl kd.1 (loadGlobal_builtin (env := ksEnv qual (iS f) hp.objs.size fI (.ref cda) cc) (G.keeps hk) hms (B.keeps hk) hmb ⟨rfl, ?_⟩)
  refine wpAny_loadName_free rfl kd.2.1 rfl ⟨_, X₁ _ _ hcell, rfl⟩ ?_
  refine wpAny_loadName_local rfl kd.2.2.1 hns (bs_self T.nm) ?_
  have hCo := X₁ _ _ hC
  refine ks_wpAny_isType_cls hCo rfl ⟨rfl, ?_⟩
  refine ks_wpAny_call_super hCo rfl hx₁ rfl (fun c z => by cases z) (looks_mroIn X₁ T.ms) (fun h₂ hso hk₂ => ?_)
  have X₂ : K.In h₂ := X₁.keeps hk₂
  have hx₂ := hk₂ _ _ hx₁
  have eC : e ≠ C := fun z => by
    rw [z] at hnx
    rw [hnx] at hC
    cases hC
  have I₂ : InstAt h₂ e (excO C t0) C none := ⟨hx₂, rfl, rfl, trivial⟩
  have al := T.along
  unfold ks_superIn at al
  rw [hcl] at al
  refine kxs_getMethod kxs_ValueError (x := e) (D := C) (C := C) hso (looks_opaque X₂ T.op) (l₀ := .ref C :: bm) ?mro rfl X₂ al (I₂.type.andThen (looks_subIn X₂ T.hB)) eC (by decide) ?_
  case mro => exact fun A Q E s k q => wpAny_bind ((looks_clsIn X₂ hcl) A _ E s k (wpAny_pure q))
  have hu : (h₂.push (kxs_mw "ValueError.__init__" e)).get? h₂.objs.size = some (kxs_mw "ValueError.__init__" e) := Heap.get?_push_at rfl rfl
  have hk₃ : ∀ b o, h₂.get? b = some o → (h₂.push (kxs_mw "ValueError.__init__" e)).get? b = some o := fun b o z => Heap.get?_push_of_some _ z
  refine kxs_callWith (i := "ValueError.__init__") (x := e) (by rfl) (evalArgs_plain ?_)
  refine Calls.spliced_cons (Calls.Constant_str (k := n) (pos := a3) (Calls.spliced_nil ⟨hu, ?_⟩))
  refine call_mw (hk₃ _ _ (hk₂ _ _ hCo)) (hk₃ _ _ hx₂) hu (by show 1 ≤ sizeLine; rw [sizeLine_eq]; decide) (fun h₄ t1 hk₄ hx₄ => ?_)
  have keep : ∀ b o, b ≠ e → hp.get? b = some o → h₄.get? b = some o := fun b o nb z => hk₄ b o nb (hk₃ _ _ (hk₂ _ _ (hk _ _ z)))
  have X₄ : K.In h₄ := fun b o z => keep b o (fun q => by rw [q, hnx] at z; cases z) (X b o z)
  have neL : hp.objs.size ≠ e := Nat.ne_of_gt (Heap.lt_size hx)
  have hns₄ : h₄.Ns hp.objs.size (fun y => ([(PySem.Str.ofString "self", Value.ref e), (f, v)] : List (Str × Value)).reverse.lookup y) := by
    obtain ⟨oL, es, ep, hL, r⟩ := hns
    exact ⟨oL, es, ep, hk₄ _ _ neL (hk₃ _ _ (hk₂ _ _ hL)), r⟩
  refine ks_wpAt_execs_cons (wpAt_of_wpAny ?_)
  refine plainObj_wpAny_Assign_Attribute (wpAny_Name (wpAny_loadName_local rfl kd.2.2.2 hns₄ (bs_f T.nm) (wpAny_Name (wpAny_loadName_local rfl kd.2.2.1 hns₄ (bs_self T.nm) ?_) (by decide))) T.nm.d) (by rfl)
  refine set_plain X₄ (ox := excO C t1) (od := none) ⟨hx₄, rfl, rfl, trivial⟩ T.sa ?_
  refine exc_osa X₄ hx₄ hcl (show refsVE (.ref C :: bm) = true from hbm) rfl T.noN (fun h₅ tk₅ dx k₅ dn dne hx₅ hn₅ => ?_)
  have lt4 : hp.objs.size < h₄.objs.size := hns₄.lt
  refine wpAt_of_wpAny (wpAny_execs_nil (hq h₅ tk₅ dx t1 ⟨fun b o hb z => k₅ b o hb (keep b o hb z), hx₅, Nat.le_of_lt (Nat.lt_of_lt_of_le lt4 dn), dne, hn₅⟩))
theorem sup_made (T : SupTxt prog K mg x f C fI) {v : Value} (X : K.In s.heap) (hlim : s.heap.NoLimit) (G : s.heap.Ns mainGlobals mg) (hms : mg "super" = none) (B : s.heap.Ns builtinsNs mb) (hmb : mb "super" = some (.type "super")) (hroom : A.depth + 1 < recursionLimit)
    (hq : ∀ h' tk e d, OwnMade s.heap h' e C d f v → R (.ok (.ret (.ref e))) { s with heap := h', toks := tk }) :
    codeAny (model prog w) A (.call (.ref C) ⟨[v], []⟩) R s := by
  obtain ⟨nm, q, N, bs, bm, sn, sub, ab, col, dd, k0, k1, k2, k3, k5, hC, hbm⟩ := T.cls
  obtain ⟨hp, g, dr, tk, os⟩ := s
  have k : ∀ b o, hp.get? b = some o → ((hp.push (kdv_tup [v])).push (excO C hp.objs.size)).get? b = some o := fun b o e => Heap.get?_push_of_some _ (Heap.get?_push_of_some _ e)
  have hget : ((hp.push (kdv_tup [v])).push (excO C hp.objs.size)).get? (hp.objs.size + 1) = some (excO C hp.objs.size) := by heap_get
  have hnx : K.lookup (hp.objs.size + 1) = none := by
    cases e : K.lookup (hp.objs.size + 1) with
    | none => rfl
    | some o =>
      have z : hp.get? (hp.objs.size + 1) = some o := X _ _ e
      exact absurd (Nat.lt_of_succ_lt (Heap.lt_size z)) (Nat.lt_irrefl _)
  refine call_own F.excBase_ValueError (fun X => refsVE_contains X bm hbm) (X _ _ hC) (looks_findIn X T.iC) (fun self => bind_fn X self T.tC) (by show 1 ≤ sizeLine; rw [sizeLine_eq]; decide) ?_
  refine sup_init (s := ⟨(hp.push (kdv_tup [v])).push (excO C hp.objs.size), g, dr, tk, os⟩) T (X.keeps k) (hlim.keeps k) (G.keeps k) hms (B.keeps k) hmb hget hnx ?_ fun h' tk' dx t1 ⟨k', hx, dn, dne, hns⟩ => ?_
  · show A.depth + 1 < recursionLimit
    exact hroom
  · have old : ∀ b o, hp.get? b = some o → h'.get? b = some o := fun b o e => k' b o (Nat.ne_of_lt (Nat.lt_succ_of_lt (Heap.lt_size e))) (k b o e)
    have z : hp.objs.size + 1 + 1 ≤ dx := by
      first
        | (simpa only [Heap.size_push] using dn)
        | exact dn
        | (have q := dn; rw [Heap.size_push, Heap.size_push] at q; exact q)
    exact ⟨rfl, hq h' tk' (hp.objs.size + 1) dx ⟨old, Nat.le_succ _, ⟨_, _, hx, rfl, rfl, rfl, rfl⟩, Nat.le_trans (Nat.le_trans (Nat.le_succ _) (Nat.le_succ _)) z, dne, hns⟩⟩
end
end SupX
end PySem
namespace Lw
open PySem L2 PySem.Spec PyProof.Rows
section
variable {X : Cx} {C fI : Addr} {x f : Str}
theorem relO_f {f : Str} {v : V} {v' : Value} (r : RelV v v') (g : Str) : RelO (List.lookup g [(f, v)]) (if g = f then some v' else none) := by
  by_cases hw : g = f
  · subst hw
    rw [if_pos rfl]
    have q : List.lookup g [(g, v)] = some v := by simp [List.lookup]
    rw [q]
    exact r
  · rw [if_neg hw]
    have qw : (g == f) = false := by simpa using hw
    have q2 : List.lookup g [(f, v)] = none := by simp [List.lookup, qw]
    rw [q2]
    trivial
/-- x(e) -/
def tMkS (C : Addr) (f : Str) (ta : TA) : L2.St → Hp → XK → Prop := fun σ H Q => ta σ H fun vs H1 => ∃ v, vs = [v] ∧ ∀ d, H1 d = none → Q (.ref C) (some d) (upd H1 d (.xd [(f, v)]))
theorem pmk_sup {a : Expr} {ta : TA} {p pos : Pos} {k : Nat} (T : PySem.SupX.SupTxt X.prog X.K X.mg x f C fI) (hr : Room k X.A) (ha : PA X [a] ta) (hg : Gl X x := by rfl) (hdb : (x == ("__debug__" : Str)) = false := by decide)
    (he : starEach (a :: []) X.env = (false, eval a X.env) :: starEach [] X.env := by rfl) (hpl : (backTo pos (starEach [] X.env)).any (·.1) = false := by rfl) :
    PMk X (.Call (.Name x p) [a] [] pos) (tMkS C f ta) := by
  intro pins s σ H Q I h
  refine wpAny_Call_Name_kw (ld_glob I hg T.gC ?_ hdb)
  refine PySem.W.callWith_K (h₀ := X.base) I.ok.mod.kin T.kC (thn (ha.run pos pins s σ H _ I h) fun us s1 hh => ?_) he hpl
  obtain ⟨vs, H1, I1, r1, v, ev, q1⟩ := hh
  subst ev
  refine ⟨I1.kIn, ?_⟩
  cases r1 with
  | cons rv rn =>
    rename_i v' us'
    cases rn
    show wpAny _ _ (call (.ref C) [v']) _ _ _
    have hlim := I1.nolimit
    obtain ⟨mb, hb1, hb2⟩ := I1.mod.blt
    have hms : X.mg "super" = none := PySem.W.mg_none_of I1.ok.mod.kin I1.mod.glob T.su
    have hG := I1.mod.glob.keeps I1.bk
    have hB := hb1.keeps I1.bk
    have hmb : mb "super" = some (.type "super") := (hb2 "super" (by decide)).trans (by first | boot_by_name | rfl | kernel_rfl)
    obtain ⟨hp, g, dr, tk, os⟩ := s1
    refine wpAny_call (PySem.SupX.sup_made T I1.kIn hlim hG hms hB hmb (by have := hr.dp; omega) fun h' tk' e d M => ?_)
    show MkP X pins σ Q (.ref e) ⟨h', g, dr, tk', os⟩
    obtain ⟨oe, fv, hoe, hc, hd, hdat, h1⟩ := M.obj
    have hns := M.ns
    obtain ⟨G', g1, g2⟩ := restrict h' fun b => decide (b ≠ e)
    have gk : ∀ b, b ≠ e → G'.get? b = h'.get? b := fun b hb => g1 b (decide_eq_true hb)
    have ge : G'.get? e = none := g2 e (by simp)
    have old : ∀ b o, hp.get? b = some o → G'.get? b = some o := fun b o q => (gk b (Nat.ne_of_lt (Nat.lt_of_lt_of_le (Heap.lt_size q) M.new))).trans (M.keep b o q)
    have ob : ObjOk X.prog X.w (upd H1 d (.xd [(f, v)])) G' d (.xd [(f, v)]) :=
      ⟨_, hns.at (fun o q => (gk d M.dne).trans q), fun g => relO_f rv g⟩
    have J : Inv X pins σ (upd H1 d (.xd [(f, v)])) ⟨G', g, dr, tk', os⟩ := I1.laid (t' := tk') old M.dbig ob
    refine ⟨e, oe, fv, ⟨G', g, dr, tk', os⟩, _, .ref C, some d, rfl, J, fun b o q => ?_, ge, hoe, ⟨hc, hd⟩, hdat, h1, ?_, rfl, I1.bare, raises_own T.exC T.tyC, q1 d (I1.hok.fresh M.dbig)⟩
    · by_cases hb : b = e
      · have q' : G'.get? b = some o := q
        rw [hb, ge] at q'; cases q'
      · exact (gk b hb).symm.trans q
    · rw [upd_ne (Ne.symm M.dne)]
      exact I1.hok.fresh M.new
/-- raise x(e) -/
def tRaiseS (C : Addr) (f : Str) (W : WX) (ta : TA) : TS := fun _ σ H => tMkS C f ta σ H fun cls d H' => W cls d σ H'
theorem ps_raiseS {a : Expr} {ta : TA} {W : WX} {p pos pos2 : Pos} {k : Nat} (hc : X.calm = true) (T : PySem.SupX.SupTxt X.prog X.K X.mg x f C fI) (hr : Room k X.A) (tk : Takes X W) (ha : PA X [a] ta) (hg : Gl X x := by rfl) (hdb : (x == ("__debug__" : Str)) = false := by decide)
    (he : starEach (a :: []) X.env = (false, eval a X.env) :: starEach [] X.env := by rfl) (hpl : (backTo pos (starEach [] X.env)).any (·.1) = false := by rfl) :
    PS X (.Raise (some (.Call (.Name x p) [a] [] pos)) none pos2) (tRaiseS C f W ta) := ps_raise hc tk (pmk_sup T hr ha hg hdb he hpl)
end
end Lw

/-! Lg: defs that are called where no repr runs (so that they may ask repr of lists); repr of data; isinstance and fields of a caught error; enumerate and walks of a list or a tuple. -/
namespace Lw
open PySem L2 PySem.Spec PyProof.Rows
/-- a def's promise, kept wherever no repr is under way -/
structure FnG (P : Program) (w : World) (K : PySem.W.Frag) (mg : Str → Option Value) (base : Heap) (CX : CXT) (k : Nat) (f : Addr) (fd : FuncData) (ps : List Str) (sp : Sp) : Prop where
  len : ∀ vs H Q E, sp vs H Q E → vs.length = ps.length
  run : ∀ {A : Around} {outer : List Env} {s : Shared} {H : Hp} {args : Args} {us : List Value} {vs : List V} {Q : VK} {E : XK}, Room k A → A.guards = some [] → Env0 P w K mg base A outer s H → BindsTo s fd args (ps.zip us) → Vals vs us → sp vs H Q E →
    codeAny (model P w) A (.call (.ref f) args) (CR CX outer P w H s Q E) s
section
variable {P : Program} {w : World} {K : PySem.W.Frag} {mg : Str → Option Value} {base : Heap} {CX : CXT} {k : Nat} {f : Addr} {fd : FuncData} {ps N : List Str} {sp : Sp}
theorem FnG.of (F : FnOk P w K mg base CX k f fd ps sp) : FnG P w K mg base CX k f fd ps sp := ⟨F.len, fun hr _ e b r h => F.run _ _ _ _ _ _ _ _ _ hr e b r h⟩
/-- by its body -/
theorem fnG_body {name qual : Str} {params : Arguments} {body : List Stmt} {scope : Scope} {dV kV doc pm cdv ct oc : Value} {an od : Option Addr} {osl : Array (Option Value)}
    (lk : K.lookup f = some ⟨oc, od, .func (PySem.W.fnOf name qual params body scope dV kV doc pm an cdv ct), osl⟩) (hcd : PySem.W.codeIn K cdv qual = true) (S : FnScope N ps scope) (len : ∀ vs H Q E, sp vs H Q E → vs.length = ps.length)
    (hb : ∀ (A : Around) (outer : List Env) (s : Shared) (H : Hp) (vs : List V) (Q : VK) (E : XK), Room k (A.deeper (envOfC qual scope s.heap.objs.size f cdv)) → A.guards = some [] → sp vs H Q E →
      ∃ t, PSs (cxOf CX P w K mg base N qual scope f cdv A outer s H E) body t ∧ t { nx := fun _ H' => Q .non H', rt := Q } (start N vs) H) :
    FnG P w K mg base CX (k + 1) f (PySem.W.fnOf name qual params body scope dV kV doc pm an cdv ct) ps sp := by
  constructor
  · exact len
  intro A outer s H args us vs Q E hr hG e0 bnd rel h
  have inBase : ∀ b o, base.get? b = some o → s.heap.get? b = some o := fun b o e => (e0.bs b o e).1
  have KX : K.In s.heap := e0.mod.kin.keeps inBase
  have kinds : ∀ y ∈ ps.zip us, scope.names.lookup y.1 = some .local ∨ (scope.names.lookup y.1 = some .cell ∧ ((cellsFrom (s.heap.objs.size + 1) scope.names []).lookup y.1).isSome = true) := by
    rintro ⟨n, v⟩ hy
    have hn := (List.of_mem_zip hy).1
    exact (S.par n hn).imp id fun q => ⟨q, PySem.W.cellsFrom_some _ _ _ (.inl q)⟩
  refine codeAny_call_function hr.depth (KX _ _ lk) rfl S.co S.gen rfl (PySem.W.codeRec_of KX hcd) (bnd _ _ _ _ (wpAny_newFunctionEnv_cells S.kind kinds ?_))
  rintro env rfl s1 x
  obtain ⟨t, ht, hq⟩ := hb A outer s H vs Q E (hr.deeper _) hG h
  have I := inv_start (CX := CX) (E := E) S hr.hd e0 (len _ _ _ _ h) rel x
  refine ⟨(e0.mod.nolimit.keeps inBase).keeps x.toInCall.keep, codeAny_func (wpAny_mono (ht.run [] s1 (start N vs) H _ I hq) ?_ fun _ _ z => z)⟩
  intro fl s' hs
  cases fl with
  | next => obtain ⟨_, H', J, q⟩ := hs; exact ⟨.non, H', J.os, J.bare, J.base, J.hok, rfl, q⟩
  | ret u => obtain ⟨v, _, H', J, rv, q⟩ := hs; exact ⟨v, H', J.os, J.bare, J.base, J.hok, rv, q⟩
  | brk => obtain ⟨_, _, _, q⟩ := hs; cases q
  | cont => obtain ⟨_, _, _, q⟩ := hs; cases q
theorem Fun.okG {x qual : Str} {st : Stmt} (F : Fun K x qual st f fd) (S : FnScope N ps (defScope st)) (len : ∀ vs H Q E, sp vs H Q E → vs.length = ps.length)
    (hb : ∀ (cdv : Value) (A : Around) (outer : List Env) (s : Shared) (H : Hp) (vs : List V) (Q : VK) (E : XK), Room k (A.deeper (envOfC qual (defScope st) s.heap.objs.size f cdv)) → A.guards = some [] → sp vs H Q E →
      ∃ t, PSs (cxOf CX0 P w K mg base N qual (defScope st) f cdv A outer s H E).nox (defBody st) t ∧ t { nx := fun _ H' => Q .non H', rt := Q } (start N vs) H) : FnG P w K mg base CX0 (k + 1) f fd ps sp := by
  obtain ⟨_, _, _, _, _, _, cdv, _, _, rfl, lk, hcd⟩ := F.ex
  refine fnG_body lk hcd S len fun A outer s H vs Q E hr hG h => ?_
  obtain ⟨t, ht, q⟩ := hb cdv A outer s H vs Q E hr hG h
  exact ⟨t, ht.nox, q⟩
end
section
variable {X : Cx} {CX : CXT} {k : Nat} {f : Addr} {fd : FuncData} {ps : List Str} {sp : Sp} {E : XK} {x : Str} {p pos : Pos} {e : Expr} {es : List Expr} {t : TA} {ds : List Value} {dvs : List V}
theorem callee_G {pins : List (Addr × Obj)} {σ : L2.St} {H : Hp} {s : Shared} {Q : VK} {us : List Value} {vs : List V} (F : FnG X.prog X.w X.K X.mg X.base CX k f fd ps sp) (hr : Room k X.A) (hG : X.A.guards = some []) (hb : Binds X.K fd ps ds) (hd : Vals dvs ds) (hx : Passes CX X E)
    (I : Inv X pins σ H s) (r : Vals vs us) (h : sp (vs ++ dvs) H Q E) : wpAny (model X.prog X.w) X.A (call (.ref f) us) (EP X pins σ Q) X.xe s := by
  have both : Vals (vs ++ dvs) (us ++ ds) := r.append hd
  have n : (us ++ ds).length = ps.length := both.length.symm.trans (F.len _ _ _ _ h)
  refine wpAny_call (codeAny_mono (F.run hr hG I.env0 (hb s us I.kIn n) both h) ?_)
  rintro (er | fl) s' q
  · exact hx pins σ H s er s' I q
  · cases fl with
    | ret u => exact I.after q
    | next => cases q
    | brk => cases q
    | cont => cases q
theorem pe_callG (F : FnG X.prog X.w X.K X.mg X.base CX k f fd ps sp) (hG : X.A.guards = some []) (hr : Room k X.A) (hg : Gl X x) (hm : X.mg x = some (.ref f)) (hk : PySem.W.keepIn X.K (.ref f) = true) (hb : Binds X.K fd ps ds) (hd : Vals dvs ds) (hx : Passes CX X E)
    (ha : PA X (e :: es) t) (hdb : (x == ("__debug__" : Str)) = false := by decide) (he : starEach (e :: es) X.env = (false, eval e X.env) :: starEach es X.env := by rfl) (hpl : (backTo pos (starEach es X.env)).any (·.1) = false := by rfl) :
    PE X (.Call (.Name x p) (e :: es) [] pos) (tCall sp dvs E t) where
  run pins s σ H Q I h := by
    refine wpAny_Call_Name_kw (ld_glob I hg hm (PySem.W.callWith_K (h₀ := X.base) I.ok.mod.kin hk ?_ he hpl) hdb)
    refine thn (ha.run pos pins s σ H _ I h) ?_
    rintro us s1 ⟨vs, H1, I1, r, q⟩
    exact ⟨I1.kIn, callee_G F hr hG hb hd hx I1 r q⟩
/-- repr of data -/
def rReprD (K : PySem.W.Frag) : List V → Hp → VK → Prop := fun xs H Q => ∃ a d, xs = [.ref a] ∧ Dp K H (.ref a) d ∧ d.showable = true ∧ d.hasDict = false ∧ d.depth ≤ 50 ∧ d.shown.length ≤ sizeLine ∧ Q (.str d.shown) H
theorem c_repr (hG : X.A.guards = some []) (hu : X.A.units + 64 < cLine) : CallR X (.builtin "repr") (rReprD X.K) := by
  intro pins s σ H xs us Q I r h
  obtain ⟨a, d, rfl, hd, hs, hn, hdp, hl, q⟩ := h
  cases r with
  | cons rx rr =>
    cases rr
    obtain ⟨as, r1⟩ := Dp.reads I d _ _ hd rx
    cases rx
    refine repr_of_reads' r1 hs (PyData.noDict_hsm hn) hG (by omega) (fun _ _ z => z) (fun h' u tk hk => ?_) hl
    exact ⟨.str d.shown, H, I.kept (t' := tk) hk, ⟨_, rfl⟩, q⟩
end
/-! ### the head of a law whose def is kept by FnG -/
section
variable {P : Program} {w : World} {K : PySem.W.Frag} {mg mb : Str → Option Value} {k : Nat} {fa a : Addr} {fd : FuncData} {x : Str} {sp : Sp} {s₁ : Shared} {vs : List Value} {ns : List Int}
theorem head_G (KX : K.In s₁.heap) (hG : s₁.heap.Ns mainGlobals mg) (hB : s₁.heap.Ns builtinsNs mb) (hbt : ∀ x : Str, x ≠ "__name__" → mb x = bootBuiltins x) (hlim : s₁.heap.NoLimit) (hgen : s₁.gens = #[])
    (ha : s₁.heap.get? a = some { cls := .type "list", data := .seq vs.toArray }) (hi : IntsAre vs ns) (hl : ns.length ≤ sizeLine) (hr : Room k callerA)
    (F : ∀ base : Heap, K.In base → base.Ns mainGlobals mg → FnG P w K mg base CX0 k fa fd [x] sp) (hbind : ∀ (s : Shared) (u : Value), BindsTo s fd ⟨[u], []⟩ [(x, u)])
    (hsp : ∀ H : Hp, Only H → SqL K H a (ns.map V.int) → sp [.ref a] H (fun v _ => v = .bl true) fun _ _ _ => False) :
    codeAny (model P w) callerA (.call (.ref fa) ⟨[.ref a], []⟩) (fun r s' => r = .ok (.ret (.bool true)) ∧ OldK s₁.heap s'.heap ∧ s'.os = s₁.os ∧ AllBare s'.gens) s₁ := by
  have rv : Vals (ns.map V.int) vs := vals_ints hi
  obtain ⟨H, hH, hS⟩ : ∃ H : Hp, (∀ b u, H b = some u → b = a ∧ K.lookup a = none ∧ u = .frz { cls := .type "list", data := .seq vs.toArray } (.lst (ns.map V.int))) ∧ SqL K H a (ns.map V.int) := by
    cases q : K.lookup a with
    | none =>
      refine ⟨fun b => if b = a then some (.frz { cls := .type "list", data := .seq vs.toArray } (.lst (ns.map V.int))) else none, fun b u z => ?_, .inl (.inr ⟨_, if_pos rfl⟩)⟩
      by_cases e : b = a
      · have z := (if_pos e).symm.trans z
        exact ⟨e, rfl, (Option.some.inj z).symm⟩
      · cases (if_neg e).symm.trans z
    | some o =>
      have e := (KX a o q).symm.trans ha
      cases e
      exact ⟨fun _ => none, fun b u z => (by cases z), .inr ⟨_, vs.toArray, _, q, rfl, rfl, rfl, by rw [List.size_toArray, hi.length]; exact hl, by simpa using rv⟩⟩
  have off : ∀ {b o}, s₁.heap.get? b = some o → b ≠ a → H b = none := fun {b o} _ ne => by
    cases q : H b with
    | none => rfl
    | some u => exact absurd (hH b u q).1 ne
  have ns_at : ∀ {b : Addr} {m : Str → Option Value}, s₁.heap.Ns b m → (hidT s₁.heap H).Ns b m := by
    rintro b m ⟨o, es, ep, e, d, r⟩
    refine ⟨o, es, ep, hidT_get e (off e fun z => ?_), d, r⟩
    rw [z, ha] at e
    cases e
    cases (show Data.seq vs.toArray _ = Data.dict es ep from d)
  have kin : K.In (hidT s₁.heap H) := fun b o e => hidT_get (KX b o e) (by
    cases q : H b with
    | none => rfl
    | some u =>
      obtain ⟨rfl, n, _⟩ := hH b u q
      rw [n] at e; cases e)
  have okH : HOk P w H s₁.heap := fun b u z => by
    obtain ⟨rfl, _, rfl⟩ := hH b u z
    exact ⟨ha, by rw [List.length_map]; exact hl, vs, _, rv, ha⟩
  have only : Only H := fun b => by
    cases q : H b with
    | none => exact .inl rfl
    | some u => exact .inr ⟨_, _, congrArg some (hH b u q).2.2⟩
  have hM : Mod K mg (hidT s₁.heap H) := ⟨kin, ns_at hG, ⟨mb, ns_at hB, hbt⟩, let ⟨mc, n1, n2⟩ := hlim; ⟨mc, ns_at n1, n2⟩⟩
  have e0 : Env0 P w K mg (hidT s₁.heap H) callerA [] s₁ H := ⟨rfl, hM, fun _ _ e => of_hidT e, Nat.le_of_eq (hidT_size _ _), trivial, fun _ z => absurd z List.not_mem_nil, okH, .of_eq hgen⟩
  refine codeAny_mono ((F _ kin (ns_at hG)).run (us := [.ref a]) (vs := [.ref a]) hr rfl e0 (hbind s₁ (.ref a)) (.cons rfl .nil) (hsp H only hS)) ?_
  rintro (er | fl) s' h
  · exact False.elim h
  · cases fl with
    | next => cases h
    | brk => cases h
    | cont => cases h
    | ret u =>
      obtain ⟨v, H', os, bare, un, ok', r', (rfl : v = .bl true)⟩ := h
      obtain rfl : u = Value.bool true := r'
      refine ⟨rfl, OldK.of_keep fun b o e => ?_, os, bare⟩
      cases q : H b with
      | none => exact un.keep b o e q (fun z => absurd z List.not_mem_nil) (by simp)
      | some u =>
        obtain ⟨rfl, _, rfl⟩ := hH b u q
        have e1 := (okH _ _ q).1
        have e2 := (ok' _ _ (un.frzs _ _ _ q)).1
        exact e2.trans (e1.symm.trans e)
end
theorem walk_G {l : PySem.W.OpenLaw} {n k : Nat} {q : Program} {loose : List Str} {XP : (Str → Option Value) → Heap → Prop} {YP : World → Heap → Prop} {d : DefRec} {K : Params → PySem.W.Frag} {sp : PySem.W.Frag → Sp} {x : Str}
    (hn : l.most = some n) (hn2 : n ≤ sizeLine) (hdf : d.params.defaults = []) (hr : Room k callerA) (hY : ∀ (w : World) (h : Heap), YP w h → (K w.params).In h)
    (F : ∀ (w : World) (mg : Str → Option Value) (fa : Addr) (h : Heap), (K w.params).In h → h.Ns mainGlobals mg → mg d.name = some (.ref fa) →
      ∃ fd : FuncData, (∀ (s : Shared) (u : Value), BindsTo s fd ⟨[u], []⟩ [(x, u)]) ∧ ∀ base : Heap, (K w.params).In base → base.Ns mainGlobals mg → FnG l.prog w (K w.params) mg base CX0 k fa fd [x] (sp (K w.params)))
    (hsp : ∀ (K : PySem.W.Frag) (H : Hp) (a : Addr) (ns : List Int), ns.length ≤ n → Only H → SqL K H a (ns.map V.int) → sp K [.ref a] H (fun v _ => v = .bl true) fun _ _ _ => False) :
    PySem.W.WalkO q loose XP YP l.row.toRowW d [] (fun f vs => PySem.call f vs) := by
  refine Att.attach_call hn hdf fun w s₀ s₁ mg mb fa o pm cd doc a vs ns G Y ho hd hcd hmg hobj hints hlen hg => ?_
  have KX := hY w _ Y
  obtain ⟨fd, bnd, hF⟩ := F w mg fa _ KX G.T.g hmg
  exact head_G KX G.T.g G.T.b G.T.builtins G.T.nolimit hg hobj hints (Nat.le_trans hlen hn2) hr hF bnd fun H o1 o2 => hsp _ H a ns hlen o1 o2
/-! ### a caught error -/
/-- what the written part says of a caught error's class, for isinstance -/
structure IsC (K : PySem.W.Frag) (C : Addr) : Prop where
  cl : (PySem.W.clsIn K C).isSome = true
  ga : PySem.W.findIn K (.ref C) "__getattribute__" = some (some (.builtin "BaseException.__getattribute__"))
  gg : PySem.W.findIn K (.ref C) "__getattr__" = some none
  ex : PySem.W.subIn K (.ref C) (.type "BaseException") = some true
  fc : PySem.W.findIn K (.ref C) "__class__" = some (some (.builtin "object.__class__"))
  sp : PySem.W.specialIn K (.builtin "object.__class__") "__get__" = some (some (.builtin "getset_descriptor.__get__"))
  tk : PySem.W.takesIn K (.builtin "object.__class__") = some true
  ob : PySem.W.mroIn K C (.type "object") = some true
/-- isinstance(e, c), e the error that the suite holds at a -/
def rIsX (K : PySem.W.Frag) (cls : Value) (d : Option Addr) (a : Addr) : List V → Hp → VK → Prop := fun xs H Q => ∃ (C dd : Addr) (fs : List (Str × V)) (c : V) (cv : Value) (b : Bool), cls = .ref C ∧ d = some dd ∧ H dd = some (.xd fs) ∧ IsC K C ∧ xs = [.ref a, c] ∧ (∀ u, RelV c u → u = cv) ∧
  PySem.W.kitOne K (.ref C) cv = some b ∧ Q (.bl b) H
theorem c_isX {X : Cx} {a : Addr} {cls : Value} {d : Option Addr} {oe : Obj} {pn : List (Addr × Obj)} (hz : Zc cls d oe) (hf : ∃ vs, oe.data = .fields vs) : CallR (X.suite a ((a, oe) :: pn)) (.builtin "isinstance") (rIsX X.K cls d a) := by
  intro pins s σ H xs us Q I r h
  obtain ⟨C, dd, fs, c, cv, b, rfl, rfl, hd, T, rfl, hcv, e, q⟩ := h
  cases r with
  | cons rx rr =>
    cases rr with
    | cons rt rr =>
      cases rr
      cases rx
      cases hcv _ rt
      have at_ := (I.pin (a, oe) (List.mem_append_left _ List.mem_cons_self)).1
      obtain ⟨vs, hv⟩ := hf
      have hx : ObjOk X.prog X.w H s.heap dd (.xd fs) := I.hok dd _ hd
      obtain ⟨mA, hns, _⟩ := hx
      obtain ⟨od, ho, _⟩ := lookIn_ns hns
      have J : PySem.W.InstAt s.heap a oe C (some od) := ⟨at_, hz.1, by unfold PySem.W.notCls; rw [hv] <;> rfl, by rw [hz.2]; exact ho⟩
      exact PySem.W.kia_one (PySem.W.kitx_exc T.cl T.ga T.gg T.ex T.fc T.sp T.tk T.ob) I.kIn J e (fun z => nomatch z) fun tk => ⟨.bl b, H, I.kept (t' := tk) fun _ _ z => z, rfl, q⟩
theorem xfC_of {P : Program} {K : PySem.W.Frag} {mg : Str → Option Value} {x f : Str} {C fI : Addr} (T : PySem.SupX.SupTxt P K mg x f C fI) : XfC K C := ⟨T.ga, T.gg, T.exC, T.hdC⟩
/-! ### the end's facts -/
def keyS (e : DictEntry) : Option Str := match e.key with
  | .str z _ => some z
  | _ => none
theorem ns_miss {K : PySem.W.Frag} {a : Addr} {es : Array DictEntry} {n : Nat} {dd : Option Addr} {sl : Array (Option Value)} {ks : List Str} {z : Str} (l : K.lookup a = some ⟨.type "dict", dd, .dict es n, sl⟩) (h : es.toList.map keyS = ks.map some) (hz : z ∉ ks) : PySem.W.nsIn K a z = some none := by
  have key : ∀ (xs : List DictEntry) (ks : List Str), xs.map keyS = ks.map some → z ∉ ks → xs.find? (·.key.isStr z) = none ∧ xs.any (·.refKey) = false := by
    intro xs
    induction xs with
    | nil => intro _ _ _; exact ⟨rfl, rfl⟩
    | cons x xs ih =>
      intro ks h hz
      cases ks with
      | nil => cases h
      | cons k ks =>
        rw [List.map_cons, List.map_cons] at h
        injection h with h1 h2
        obtain ⟨i1, i2⟩ := ih ks h2 fun q => hz (List.mem_cons_of_mem _ q)
        obtain ⟨kh, ke, kv⟩ := x
        unfold keyS at h1
        cases ke with
        | str y t =>
          have e : y = k := by injection h1
          subst e
          have ne : (y == z) = false := by
            refine Bool.eq_false_iff.mpr fun q => hz ?_
            rw [← beq_iff_eq.mp q]
            exact List.mem_cons_self
          refine ⟨?_, ?_⟩
          · rw [List.find?_cons]
            have : (Value.str y t).isStr z = false := ne
            simp only [this]
            exact i1
          · rw [List.any_cons, i2]; rfl
        | _ => cases h1
  obtain ⟨h1, h2⟩ := key _ _ h hz
  unfold PySem.W.nsIn
  rw [l]
  simp only [h1, h2]
  rfl
theorem exm_own {K : PySem.W.Frag} {C : Addr} (h1 : PySem.W.subIn K (.ref C) (.type "BaseException") = some true) (h2 : PySem.W.isClsIn K C = true) (h3 : PySem.W.typeIn K (.ref C) = some (.type "type")) (h4 : PySem.W.subIn K (.ref C) (.ref C) = some true) : PySem.W.exmOne K (.ref C) (.ref C) = some true := by
  have h2' : (PySem.W.clsIn K C).isSome = true := h2
  show (if (PySem.W.subIn K (.ref C) (.type "BaseException") == some true) = true then (if ((PySem.W.clsIn K C).isSome && PySem.W.typeIn K (.ref C) == some (.type "type")) = true then PySem.W.subIn K (.ref C) (.ref C) else none) else none) = some true
  rw [h1, h2', h3]
  exact h4
/-! ### either of two roads, chosen by the state -/
theorem pi_or {X : Cx} {tg it : Expr} {t u : TI} (h1 : PI X tg it t) (h2 : PI X tg it u) : PI X tg it (fun σ H R => t σ H R ∨ u σ H R) :=
  ⟨fun pins s σ H R I h => h.elim (h1.run pins s σ H R I) (h2.run pins s σ H R I)⟩
end Lw

/-! Lq: forward steps over what is a list or a tuple. -/
namespace Lw
open PySem L2 PySem.Spec PyProof.Rows
/-- a list or a tuple -/
def SqA (W : Wd) (H : Hp) (a : Addr) (xs : List V) : Prop := At W H a (.lst xs) ∨ At W H a (.tup xs)
/-- a plain value -/
inductive Pl : V → Prop
  | non : Pl .non
  | bl (b : Bool) : Pl (.bl b)
  | int (i : Int) : Pl (.int i)
  | str (s : Str) : Pl (.str s)
theorem Pl.flat {v : V} (h : Pl v) : flatV v = true := by cases h <;> rfl
section
variable {W : Wd} {K : PySem.W.Frag} {H H1 : Hp} {σ : L2.St} {D : Ends} {Q : VK} {v x y : V} {i j c : Int} {n m : Nat} {s z : Str} {b : Bool} {p a : Addr} {xs ys vs : List V}
variable {ta tb te : TE} {t u : TS} {tr tk ta' : TA} {g : TG} {tS : TS} {tt : TT}
theorem SqA.ex (e : Ex W H H1) (h : SqA W H a xs) : SqA W H1 a xs := h.imp e.at_ e.at_
theorem SqA.ofL (h : At W H a (.lst xs)) : SqA W H a xs := .inl h
theorem SqA.ofT (h : At W H a (.tup xs)) : SqA W H a xs := .inr h
theorem SqA.raw (h : SqA W H a xs) : SqL K H a xs ∨ SqT K H a xs := h.imp At.sl At.st
theorem rd_ixQ (h : SqA W H p xs) (e : atI xs i = some v) (k : Q v H) : rIx K (.ref p) (.int i) H Q := by
  rcases h with h | h
  · exact .inl ⟨p, xs, i, v, rfl, rfl, h.sl, e, k⟩
  · exact .inr (.inl ⟨p, xs, i, v, rfl, rfl, h.st, e, k⟩)
theorem rd_lenQ (h : SqA W H p xs) (k : Q (.int xs.length) H) : rLen K [.ref p] H Q := ⟨p, xs, rfl, h.raw, k⟩
theorem rd_lenK (h : SqT K H p xs) (k : Q (.int xs.length) H) : rLen K [.ref p] H Q := ⟨p, xs, rfl, .inr h, k⟩
theorem rd_tupQ (i : W.iv H) (h : SqA W H p xs) (k : ∀ t H2, Ex W H H2 → At W H2 t (.tup xs) → Q (.ref t) H2) : rTupO K [.ref p] H Q := by
  rcases h with h | h
  · exact ⟨p, xs, rfl, .inl ⟨h.sl, new_of i fun q H2 _ e a => k q H2 e a⟩⟩
  · exact ⟨p, xs, rfl, .inr ⟨h.st, k p H (Ex.refl i) h⟩⟩
theorem SqA.ty (h : SqA W H a xs) : TyX K H (.ref a) (.type "list") ∨ TyX K H (.ref a) (.type "tuple") := h.imp (fun h => .base (.lst h.raw)) fun h => .base (.tup h.raw)
/-- isinstance(x, (list, tuple)) -/
theorem rd_isRow {tp : Addr} (h : SqA W H a xs) (ht : H tp = some (.tup [.ty "list", .ty "tuple"])) (k : Q (.bl true) H) : rIsiT K [.ref a, .ref tp] H Q := by
  have cs : Paired ClsV [V.ty "list", V.ty "tuple"] [Value.type "list", Value.type "tuple"] := .cons (.ty _) (.cons (.ty _) .nil)
  rcases h.ty (K := K) with q | q
  · exact ⟨_, tp, _, _, _, true, rfl, ht, cs, q, by kernel_rfl, k⟩
  · exact ⟨_, tp, _, _, _, true, rfl, ht, cs, q, by kernel_rfl, k⟩
/-- for i, x in enumerate(xs), xs a name -/
theorem for_eq (hv : σ[m]? = some (some (.ref a))) (h : SqA W H a xs) (Pv : Nat → L2.St → Hp → Prop) (h0 : Pv 0 σ H) (hg : ∀ i σ' H', Pv i σ' H' → Ex W H H')
    (hs : ∀ i x T σ' H1 H', xs[i]? = some x → Pv i σ' H1 → H1 T = none → Ex W H1 H' → At W H' T (.tup [.int ((i : Nat) : Int), x]) → g (.ref T) σ' H' fun σ2 H2 => tS { D with nx := Pv (i + 1), ct := Pv (i + 1), bk := D.nx } σ2 H2)
    (hd : ∀ σ' H', Pv xs.length σ' H' → D.nx σ' H') : tFor (fun σ H R => iEnum K (tCons (tVar m) tNil) σ H R ∨ iEnumT K (tCons (tVar m) tNil) σ H R) g tS D σ H := by
  rcases h with h | h
  · refine .inl ⟨.ref a, hv, a, xs, rfl, h.sl, ?_⟩
    refine for_it (walk_enum (xs := xs)) Pv h0 (fun i σ H _ p => ((hg i σ H p).at_ h).sl) (fun i x σ H H' hi p y => ?_) hd
    obtain ⟨T, x1, x2, rfl, hT, rfl, e1, e2⟩ := y
    cases e1
    exact hs i x2 T σ H _ e2 p hT (Ex.new (hg i σ H p).iv hT) (At.new (hg i σ H p).iv hT)
  · refine .inr ⟨.ref a, hv, a, xs, rfl, h.st, ?_⟩
    refine for_it (walk_enumT (xs := xs)) Pv h0 (fun i σ H _ p => ((hg i σ H p).at_ h).st) (fun i x σ H H' hi p y => ?_) hd
    obtain ⟨T, x1, x2, rfl, hT, rfl, e1, e2⟩ := y
    cases e1
    have z := hs i x2 T σ H (upd H T (.tup [.int ((i : Nat) : Int), x2])) e2 p hT (Ex.new (hg i σ H p).iv hT) (At.new (hg i σ H p).iv hT)
    rwa [show (0 + ((i : Nat) : Int)) = (i : Int) from Int.zero_add _]
/-- [e for x in xs], xs a name: S is what holds of the items made (without the new list) -/
theorem lc_q (hv : σ[n]? = some (some (.ref a))) (h : SqA W H a xs) (i : W.iv H) (hn : xs.length ≤ 50000) (S : Nat → List V → Hp → Prop) (hm : ∀ k ys H1 H2, Ex W H1 H2 → S k ys H1 → S k ys H2) (h0 : S 0 [] H)
    (hs : ∀ k x D ys H' (QV : VK) (QN : Hp → Prop), k < xs.length → xs[k]? = some x → H D = none → At W H' D (.lst ys) → Ex W H H' → S k ys (Lw.hide D H') → ys.length ≤ k →
      (∀ y H4, Ex W H' H4 → S (k + 1) (ys ++ [y]) (Lw.hide D H4) → QV y H4) → (∀ H3, Ex W H' H3 → S (k + 1) ys (Lw.hide D H3) → QN H3) →
      tt ((wipe σ [m]).set m (some x)) H' fun b H3 => if b = true then te ((wipe σ [m]).set m (some x)) H3 QV else QN H3)
    (k : ∀ D H2 ys, H D = none → Ex W H H2 → At W H2 D (.lst ys) → S xs.length ys H2 → ys.length ≤ xs.length → Q (.ref D) H2) :
    tLc (fun σ H R => iList K (tVar n) σ H R ∨ iTup K (tVar n) σ H R) (gName m) tt te [m] σ H Q := by
  rcases h with h | h
  · exact .inl ⟨.ref a, hv, a, rfl, ⟨xs, h.sl⟩, lc_w (X := fun i x => xs[i]? = some x) walk_list S i hn (fun H' e => (e.at_ h).sl) hm h0 hs k⟩
  · exact .inr ⟨.ref a, hv, a, rfl, ⟨xs, h.st⟩, lc_w (X := fun i x => xs[i]? = some x) walk_tup S i hn (fun H' e => (e.at_ h).st) hm h0 hs k⟩
def rUpperS : V → List V → Hp → VK → Prop := fun x xs H Q => ∃ a, x = .str a ∧ xs = [] ∧ a.length ≤ 5592405 ∧ Q (.str (Txt.upper a)) H
theorem m_upper {X : Cx} : MtR X "str.upper" rUpperS := mt_upper
theorem rd_upper (h : s.length ≤ 1000000) (k : Q (.str (Txt.upper s)) H) : rUpperS (.str s) [] H Q := ⟨s, rfl, rfl, Nat.le_trans h (by decide), k⟩
theorem rd_bm0 {T : String} {r : V → List V → Hp → VK → Prop} (h : ta σ H fun x H1 => tyV K T x H1 ∧ r x [] H1 Q) : tBM0 K T r ta σ H Q := h
/-! ### raising -/
theorem rd_raiseS {C : Addr} {f : Str} {Wx : WX} (h : ta' σ H fun vs H1 => ∃ v, vs = [v] ∧ ∀ d, H1 d = none → Wx (.ref C) (some d) σ (upd H1 d (.xd [(f, v)]))) : tRaiseS C f Wx ta' D σ H := h
/-- the error's dict is new -/
theorem rd_newX {C : Addr} {f : Str} {Wx : WX} (i : W.iv H) (k : ∀ d H2, Ex W H H2 → At W H2 d (.xd [(f, v)]) → Wx (.ref C) (some d) σ H2) : ∃ v', [v] = [v'] ∧ ∀ d, H d = none → Wx (.ref C) (some d) σ (upd H d (.xd [(f, v')])) :=
  ⟨v, rfl, fun d hd => k d _ (Ex.new i hd) (At.new i hd)⟩
theorem rd_callS {sp : Sp} {E : L2.St → XK} (h : tr σ H fun vs H1 => sp vs H1 Q (E σ)) : tCallS sp E tr σ H Q := h
theorem rd_isX {cls : Value} {d : Option Addr} {C dd : Addr} {fs : List (Str × V)} {cv : Value} (h : At W H dd (.xd fs)) (e1 : cls = .ref C) (e2 : d = some dd) (T : IsC K C) (hc : ∀ u, RelV x u → u = cv) (e : PySem.W.kitOne K (.ref C) cv = some b) (k : Q (.bl b) H) : rIsX K cls d a [.ref a, x] H Q :=
  ⟨C, dd, fs, x, cv, b, e1, e2, h.1, T, rfl, hc, e, k⟩
theorem rd_xf {cls : Value} {d : Option Addr} {C dd : Addr} {f : Str} (hv : σ[m]? = some (some (.ref a))) (h : At W H dd (.xd [(f, v)])) (e1 : cls = .ref C) (e2 : d = some dd) (k : Q v H) : tXf a cls d C f (tVar m) σ H Q :=
  ⟨_, hv, rfl, e1, dd, _, v, e2, h.1, by simp [List.lookup], k⟩
end
end Lw

/-! Lh: f-strings, dicts by ints, walks of tuples that stand in the heap. -/
namespace Lw
open PySem L2 PySem.Spec PyProof.Rows
section
variable {W : Wd} {K : PySem.W.Frag} {H H1 : Hp} {σ : L2.St} {D : Ends} {Q : VK} {v x y : V} {i j c : Int} {n m : Nat} {s z : Str} {b : Bool} {p a : Addr} {xs ys vs : List V}
variable {ta tb te : TE} {t u : TS} {tr tk : TA} {g : TG} {tS : TS}
def FmtG (Q : VK) (x : V) (H : Hp) : Prop := (∃ y : Str, x = .str y ∧ y.length ≤ sizeLine ∧ Q (.str y) H) ∨ ∃ i : Int, x = .int i ∧ i.natAbs.log2 < 1920 ∧ Q (.str (toString i)) H
theorem rd_fmt (h : te σ H fun x H1 => FmtG Q x H1) : tFmt te σ H Q := h
theorem rd_fmtS (h : s.length ≤ 1000000) (k : Q (.str s) H) : FmtG Q (.str s) H := .inl ⟨s, rfl, sz_le h, k⟩
theorem rd_fmtI (h : i.natAbs.log2 < 1920) (k : Q (.str (toString i)) H) : FmtG Q (.int i) H := .inr ⟨i, rfl, h, k⟩
def JsG (ts : List TE) (acc : Str) (σ : L2.St) (QS : Str → Hp → Prop) (x : V) (H : Hp) : Prop := ∃ y : Str, x = .str y ∧ (acc ++ y).length ≤ sizeLine ∧ tJs ts (acc ++ y) σ H QS
theorem rd_js {ts : List TE} {acc : Str} {QS : Str → Hp → Prop} (h : te σ H fun x H1 => JsG ts acc σ QS x H1) : tJs (te :: ts) acc σ H QS := h
theorem rd_jsS {ts : List TE} {acc : Str} {QS : Str → Hp → Prop} (h : (acc ++ s).length ≤ 1000000) (k : tJs ts (acc ++ s) σ H QS) : JsG ts acc σ QS (.str s) H := ⟨s, rfl, sz_le h, k⟩
theorem rd_js0 {acc : Str} {QS : Str → Hp → Prop} (k : QS acc H) : tJs [] acc σ H QS := k
theorem rd_dinI {kvs : List (Key × V)} (h : At W H a (.dK kvs)) (k : Q (.bl (valV kvs (.inl i)).isSome) H) : DInG Q false (.ref a) (.int i) H := ⟨a, _, rfl, DGet.k (k := .inl i) h.1, k⟩
theorem rd_dputI {kvs : List (Key × V)} {H0 : Hp} {P : Hp → Prop} (e : Ex W H0 H) (h0 : H0 a = none) (h : At W H a (.dK kvs)) (hl : kvs.length < 1000000) (k : ∀ H2, Ex W H0 H2 → At W H2 a (.dK (putK kvs (.inl i) v)) → (∀ q o, q ≠ a → At W H q o → At W H2 q o) → P H2) :
    ∃ a' H4, V.ref a = .ref a' ∧ DPut H a' (.int i) v H4 ∧ P H4 := ⟨a, _, rfl, DPut.k (k := .inl i) h.1 (sz_lt hl), k _ (e.mut h0 h) (.mut e.iv h) fun _ _ ne q => .other e.iv h q ne⟩
/-- over a tuple of the heap -/
theorem for_t (Pv : Nat → L2.St → Hp → Prop) (h0 : Pv 0 σ H) (hl : ∀ i σ H, Pv i σ H → At W H a (.tup xs)) (hs : ∀ i x σ H, xs[i]? = some x → Pv i σ H → g x σ H fun σ2 H2 => tS { D with nx := Pv (i + 1), ct := Pv (i + 1), bk := D.nx } σ2 H2) (hd : ∀ σ H, Pv xs.length σ H → D.nx σ H) : FoW (Itt K a) g tS D σ H :=
  for_it (walk_tup (xs := xs)) Pv h0 (fun i σ H _ p => (hl i σ H p).st) (fun i x σ H H' hi p y => by
    obtain ⟨rfl, e⟩ := y
    exact hs i x σ _ e p) hd
theorem rd_srcET2 {P : Addr → Prop} (h : At W H a (.tup xs)) (k : P a) : ∃ a' xs, [V.ref a] = [.ref a'] ∧ SqT K H a' xs ∧ P a' := ⟨a, xs, rfl, h.st, k⟩
/-- enumerate of a tuple of the heap -/
theorem for_etA (Pv : Nat → L2.St → Hp → Prop) (h0 : Pv 0 σ H) (hv : ∀ i σ H, Pv i σ H → W.iv H ∧ At W H a (.tup xs))
    (hs : ∀ i x T σ H H', xs[i]? = some x → Pv i σ H → H T = none → Ex W H H' → At W H' T (.tup [.int (c + (i : Nat)), x]) → g (.ref T) σ H' fun σ2 H2 => tS { D with nx := Pv (i + 1), ct := Pv (i + 1), bk := D.nx } σ2 H2)
    (hd : ∀ σ H, Pv xs.length σ H → D.nx σ H) : FoW (IteT K c a) g tS D σ H :=
  for_it (walk_enumT (xs := xs)) Pv h0 (fun i σ H _ p => (hv i σ H p).2.st) (fun i x σ H H' hi p y => by
    obtain ⟨T, x1, x2, rfl, hT, rfl, e1, e2⟩ := y
    cases e1
    exact hs i x2 T σ H _ e2 p hT (Ex.new (hv i σ H p).1 hT) (At.new (hv i σ H p).1 hT)) hd
end
end Lw

/-! Lr: quiet defs: they raise nothing and are called where an exception is handled, too (in an except suite). -/
namespace Lw
open PySem L2 PySem.Spec PyProof.Rows
/-- nothing but room is asked of what is around -/
structure RoomQ (k : Nat) (A : Around) : Prop where
  dp : A.depth + 3 * k + 5 < recursionLimit
  un : A.units + 16 * k + 200 < cLine
theorem RoomQ.of {k : Nat} {A : Around} (r : Room k A) : RoomQ k A := ⟨r.dp, r.un⟩
theorem RoomQ.mark {k : Nat} {A : Around} {v : Option Value} (r : RoomQ k A) : RoomQ k (A.mark v) := ⟨r.dp, r.un⟩
theorem RoomQ.mono {j k : Nat} {A : Around} (r : RoomQ k A) (h : j ≤ k) : RoomQ j A := ⟨by have := r.dp; omega, by have := r.un; omega⟩
theorem RoomQ.deeper {k : Nat} {A : Around} (r : RoomQ (k + 1) A) (env : Env) : RoomQ k (A.deeper env) :=
  ⟨by have := r.dp; show A.depth + 1 + 3 * k + 5 < _; omega, by have := r.un; show A.units + 3 + 16 * k + 200 < _; omega⟩
structure FnQ (P : Program) (w : World) (K : PySem.W.Frag) (mg : Str → Option Value) (base : Heap) (CX : CXT) (k : Nat) (f : Addr) (fd : FuncData) (ps : List Str) (sp : Sp) : Prop where
  len : ∀ vs H Q E, sp vs H Q E → vs.length = ps.length
  run : ∀ {A : Around} {outer : List Env} {s : Shared} {H : Hp} {args : Args} {us : List Value} {vs : List V} {Q : VK} {E : XK}, RoomQ k A → Env0 P w K mg base A outer s H → BindsTo s fd args (ps.zip us) → Vals vs us → sp vs H Q E →
    codeAny (model P w) A (.call (.ref f) args) (CR CX outer P w H s Q E) s
/-- the context of such a def's body -/
abbrev cxQ (CX : CXT) (P : Program) (w : World) (K : PySem.W.Frag) (mg : Str → Option Value) (base : Heap) (N : List Str) (qual : Str) (scope : Scope) (f : Addr) (cd : Value) (A : Around) (outer : List Env) (s : Shared) (H : Hp) (E : XK) : Cx :=
  { cxOf CX P w K mg base N qual scope f cd A outer s H E with calm := false }
section
variable {P : Program} {w : World} {K : PySem.W.Frag} {mg : Str → Option Value} {base : Heap} {CX : CXT} {k : Nat} {f : Addr} {fd : FuncData} {ps N : List Str} {sp : Sp}
theorem Env0.unmark {A : Around} {outer : List Env} {s : Shared} {H : Hp} (e : Env0 P w K mg base A outer s H) : Env0 P w K mg base { A with handled := none } outer s H := ⟨e.frames, e.mod, e.bs, e.bsz, e.funs, e.frf, e.hok, e.bare⟩
theorem inv_startQ {qual : Str} {scope : Scope} {cd : Value} {A : Around} {outer : List Env} {s s1 : Shared} {H : Hp} {E : XK} {us : List Value} {vs : List V} (S : FnScope N ps scope) (e0 : Env0 P w K mg base A outer s H) (hl : vs.length = ps.length) (r : Vals vs us)
    (x : InCallC s s.heap.objs.size (bindL (envOfC qual scope s.heap.objs.size f cd).kindOf (ps.zip us) fun _ => none) (cellsFrom (s.heap.objs.size + 1) scope.names []) (bindC (envOfC qual scope s.heap.objs.size f cd).kindOf (ps.zip us) fun _ => none) s1) :
    Inv (cxQ CX P w K mg base N qual scope f cd A outer s H E) [] (start N vs) H s1 := by
  have I := inv_start (CX := CX) (E := E) (A := { A with handled := none }) S rfl (Env0.unmark e0) hl r x
  have o := I.ok
  have ok : (cxQ CX P w K mg base N qual scope f cd A outer s H E).Ok := ⟨o.mod, o.kind, o.glob, o.blt, o.above, o.inj, o.has, o.cab, fun z => Bool.noConfusion (show false = true from z), Around.frames_deeper e0.frames, o.stk, o.exf, o.bs, o.bsz, o.noex, o.exfs, o.funs, o.frf⟩
  exact ⟨ok, I.os, I.bare, I.base, I.loc, I.cell, I.free, I.freeC, I.pin, I.hok, I.len⟩
/-- by its body -/
theorem fnQ_body {name qual : Str} {params : Arguments} {body : List Stmt} {scope : Scope} {dV kV doc pm cdv ct oc : Value} {an od : Option Addr} {osl : Array (Option Value)}
    (lk : K.lookup f = some ⟨oc, od, .func (PySem.W.fnOf name qual params body scope dV kV doc pm an cdv ct), osl⟩) (hcd : PySem.W.codeIn K cdv qual = true) (S : FnScope N ps scope) (len : ∀ vs H Q E, sp vs H Q E → vs.length = ps.length)
    (hb : ∀ (A : Around) (outer : List Env) (s : Shared) (H : Hp) (vs : List V) (Q : VK) (E : XK), RoomQ k (A.deeper (envOfC qual scope s.heap.objs.size f cdv)) → sp vs H Q E →
      ∃ t, PSs (cxQ CX P w K mg base N qual scope f cdv A outer s H E) body t ∧ t { nx := fun _ H' => Q .non H', rt := Q } (start N vs) H) :
    FnQ P w K mg base CX (k + 1) f (PySem.W.fnOf name qual params body scope dV kV doc pm an cdv ct) ps sp := by
  constructor
  · exact len
  intro A outer s H args us vs Q E hr e0 bnd rel h
  have inBase : ∀ b o, base.get? b = some o → s.heap.get? b = some o := fun b o e => (e0.bs b o e).1
  have KX : K.In s.heap := e0.mod.kin.keeps inBase
  have kinds : ∀ y ∈ ps.zip us, scope.names.lookup y.1 = some .local ∨ (scope.names.lookup y.1 = some .cell ∧ ((cellsFrom (s.heap.objs.size + 1) scope.names []).lookup y.1).isSome = true) := by
    rintro ⟨n, v⟩ hy
    have hn := (List.of_mem_zip hy).1
    exact (S.par n hn).imp id fun q => ⟨q, PySem.W.cellsFrom_some _ _ _ (.inl q)⟩
  refine codeAny_call_function (by have := hr.dp; omega) (KX _ _ lk) rfl S.co S.gen rfl (PySem.W.codeRec_of KX hcd) (bnd _ _ _ _ (wpAny_newFunctionEnv_cells S.kind kinds ?_))
  rintro env rfl s1 x
  obtain ⟨t, ht, hq⟩ := hb A outer s H vs Q E (hr.deeper _) h
  have I := inv_startQ (CX := CX) (E := E) S e0 (len _ _ _ _ h) rel x
  refine ⟨(e0.mod.nolimit.keeps inBase).keeps x.toInCall.keep, codeAny_func (wpAny_mono (ht.run [] s1 (start N vs) H _ I hq) ?_ fun _ _ z => z)⟩
  intro fl s' hs
  cases fl with
  | next => obtain ⟨_, H', J, q⟩ := hs; exact ⟨.non, H', J.os, J.bare, J.base, J.hok, rfl, q⟩
  | ret u => obtain ⟨v, _, H', J, rv, q⟩ := hs; exact ⟨v, H', J.os, J.bare, J.base, J.hok, rv, q⟩
  | brk => obtain ⟨_, _, _, q⟩ := hs; cases q
  | cont => obtain ⟨_, _, _, q⟩ := hs; cases q
theorem Fun.okQ {x qual : Str} {st : Stmt} (F : Fun K x qual st f fd) (S : FnScope N ps (defScope st)) (len : ∀ vs H Q E, sp vs H Q E → vs.length = ps.length)
    (hb : ∀ (cdv : Value) (A : Around) (outer : List Env) (s : Shared) (H : Hp) (vs : List V) (Q : VK) (E : XK), RoomQ k (A.deeper (envOfC qual (defScope st) s.heap.objs.size f cdv)) → sp vs H Q E →
      ∃ t, PSs (cxQ CX0 P w K mg base N qual (defScope st) f cdv A outer s H E).nox (defBody st) t ∧ t { nx := fun _ H' => Q .non H', rt := Q } (start N vs) H) : FnQ P w K mg base CX0 (k + 1) f fd ps sp := by
  obtain ⟨_, _, _, _, _, _, cdv, _, _, rfl, lk, hcd⟩ := F.ex
  refine fnQ_body lk hcd S len fun A outer s H vs Q E hr h => ?_
  obtain ⟨t, ht, q⟩ := hb cdv A outer s H vs Q E hr h
  exact ⟨t, ht.nox, q⟩
end
section
variable {X : Cx} {CX : CXT} {k : Nat} {f : Addr} {fd : FuncData} {ps : List Str} {sp : Sp} {E : XK} {x : Str} {p pos : Pos} {e : Expr} {es : List Expr} {t : TA} {ds : List Value} {dvs : List V}
theorem callee_Q {pins : List (Addr × Obj)} {σ : L2.St} {H : Hp} {s : Shared} {Q : VK} {us : List Value} {vs : List V} (F : FnQ X.prog X.w X.K X.mg X.base CX k f fd ps sp) (hr : RoomQ k X.A) (hb : Binds X.K fd ps ds) (hd : Vals dvs ds) (hx : Passes CX X E)
    (I : Inv X pins σ H s) (r : Vals vs us) (h : sp (vs ++ dvs) H Q E) : wpAny (model X.prog X.w) X.A (call (.ref f) us) (EP X pins σ Q) X.xe s := by
  have both : Vals (vs ++ dvs) (us ++ ds) := r.append hd
  have n : (us ++ ds).length = ps.length := both.length.symm.trans (F.len _ _ _ _ h)
  refine wpAny_call (codeAny_mono (F.run hr I.env0 (hb s us I.kIn n) both h) ?_)
  rintro (er | fl) s' q
  · exact hx pins σ H s er s' I q
  · cases fl with
    | ret u => exact I.after q
    | next => cases q
    | brk => cases q
    | cont => cases q
/-- a call of such a def, also in an except suite -/
theorem pe_callQ (F : FnQ X.prog X.w X.K X.mg X.base CX k f fd ps sp) (hr : RoomQ k X.A) (hg : Gl X x) (hm : X.mg x = some (.ref f)) (hk : PySem.W.keepIn X.K (.ref f) = true) (hb : Binds X.K fd ps ds) (hd : Vals dvs ds) (hx : Passes CX X E)
    (ha : PA X (e :: es) t) (hdb : (x == ("__debug__" : Str)) = false := by decide) (he : starEach (e :: es) X.env = (false, eval e X.env) :: starEach es X.env := by rfl) (hpl : (backTo pos (starEach es X.env)).any (·.1) = false := by rfl) :
    PE X (.Call (.Name x p) (e :: es) [] pos) (tCall sp dvs E t) where
  run pins s σ H Q I h := by
    refine wpAny_Call_Name_kw (ld_glob I hg hm (PySem.W.callWith_K (h₀ := X.base) I.ok.mod.kin hk ?_ he hpl) hdb)
    refine thn (ha.run pos pins s σ H _ I h) ?_
    rintro us s1 ⟨vs, H1, I1, r, q⟩
    exact ⟨I1.kIn, callee_Q F hr hb hd hx I1 r q⟩
end
/-! ### range with a step -/
section
variable {σ : L2.St} {H : Hp} {D : Ends} {lo c : Int} {n m : Nat} {g : TG} {tS : TS} {ta : TA}
theorem rd_forR3 (h : ta σ H fun vs H1 => ∃ (i j c : Int) (n : Nat), vs = [.int i, .int j, .int c] ∧ RgC i j c n ∧ FoW (Itc i c n) g tS D σ H1) : tFor (iRng3 ta) g tS D σ H := h
theorem rd_down {P : Int → Int → Nat → Prop} {i : Int} (h0 : 0 ≤ i + 1) (h1 : i < 1000000) (k : P i (-1) (i + 1).toNat) : ∃ (i' j' c : Int) (n : Nat), [V.int i, V.int (-1), V.int (-1)] = [.int i', .int j', .int c] ∧ RgC i' j' c n ∧ P i' c n :=
  ⟨i, -1, -1, (i + 1).toNat, rfl, by have q := RgC.neg (i := i) (j := -1) (by omega) (by omega) (by decide) (by decide); rwa [show i - -1 = i + 1 by omega] at q, k⟩
theorem for_rC (Pv : Nat → L2.St → Hp → Prop) (h0 : Pv 0 σ H) (hs : ∀ (i : Nat) σ H, i < n → Pv i σ H → tS { D with nx := Pv (i + 1), ct := Pv (i + 1), bk := D.nx } (σ.set m (some (.int (lo + i * c)))) H) (hd : ∀ σ H, Pv n σ H → D.nx σ H) : FoW (Itc lo c n) (gName m) tS D σ H := by
  refine ⟨fun i k σ H => i ≤ n ∧ k = n - i ∧ Pv i σ H, ⟨_, Nat.zero_le _, rfl, h0⟩, ?_⟩
  rintro i k σ H ⟨hi, rfl, p⟩
  by_cases e : i < n
  · refine .inr ⟨e, Pv (i + 1), fun σ' H' q => ⟨n - (i + 1), by omega, by omega, rfl, q⟩, ?_⟩
    rintro x H' ⟨rfl, rfl⟩
    exact hs i σ _ e p
  · have e2 : i = n := by omega
    subst e2
    exact .inl ⟨Nat.le_refl _, hd _ _ p⟩
end
end Lw

/-! Lt: a text times an int, list.insert, d[text], int(text). -/
namespace Lw
open PySem L2 PySem.Spec PyProof.Rows
def repS (z : Str) (n : Nat) : Str := ⟨(List.replicate n z.cps).foldl (· ++ ·) #[]⟩
theorem rep_list : ∀ (l : List (Array Nat)) (a : Array Nat), (l.foldl (· ++ ·) a).toList = a.toList ++ (l.map Array.toList).flatten
  | [], a => by simp
  | b :: l, a => by
    rw [List.foldl_cons, rep_list l, Array.toList_append, List.map_cons, List.flatten_cons, List.append_assoc]
theorem repS_tl (z : Str) (n : Nat) : (repS z n).cps.toList = (List.replicate n z.cps.toList).flatten := by
  unfold repS
  show (List.foldl _ _ _ : Array Nat).toList = _
  rw [rep_list, List.map_replicate]
  rfl
theorem repS_len (z : Str) (n : Nat) : (repS z n).length = n * z.length := by
  have : (repS z n).length = (repS z n).cps.toList.length := Array.length_toList.symm
  rw [this, repS_tl, List.length_flatten, List.map_replicate, List.sum_replicate_nat]
  rfl
/-- a text times an int from 2 on -/
def rRepS : R2 := fun x y H Q => ∃ (z : Str) (k : Int), x = .str z ∧ y = .int k ∧ 2 ≤ k ∧ z.length ≠ 0 ∧ z.length * k.toNat ≤ 1000000 ∧ Q (.str (repS z k.toNat)) H
theorem op_repS {X : Cx} : OpR X (binaryOp .Mult) rRepS := by
  intro pins s σ H x y v u Q I rx ry h
  obtain ⟨z, k, rfl, rfl, hk, hz, hl, q⟩ := h
  obtain ⟨t, rfl⟩ := rx
  obtain ⟨t', rfl⟩ := ry
  have hk2 : k ≤ 1000000 := by
    have : k.toNat ≤ z.length * k.toNat := Nat.le_mul_of_pos_left _ (by omega)
    omega
  have hz2 : z.length ≤ 1000000 := by
    have : z.length ≤ z.length * k.toNat := Nat.le_mul_of_pos_right _ (by omega)
    omega
  have e1 : ¬ k < 1 := by omega
  have e2 : (k == 1 || z.length == 0) = false := by
    rw [Bool.or_eq_false_iff]
    exact ⟨beq_eq_false_iff_ne.mpr (by omega), beq_eq_false_iff_ne.mpr hz⟩
  have e3 : Builtin.Str.tooLong (z.length * k.toNat) = false := by
    unfold Builtin.Str.tooLong
    exact decide_eq_false (by have : (1000000 : Nat) ≤ sizeLine := by decide
                              omega)
  refine PySem.P.mul_str ?_ (fun _ _ => ?_) (fun _ _ => e3) ?_
  · rw [decide_eq_false (by omega), decide_eq_false (by omega)]; rfl
  · have e5 : (z.length : Int) * k ≤ 2 ^ 63 - 1 := by
      have : (z.length : Int) * k = ((z.length * k.toNat : Nat) : Int) := by rw [Int.natCast_mul, Int.toNat_of_nonneg (by omega)]
      rw [this]
      omega
    exact Int.not_lt.mpr (Int.le_ediv_of_mul_le (by omega) e5)
  · rw [if_neg e1, if_neg (by rw [e2]; decide)]
    refine ⟨?_, .str (repS z k.toNat), H, I.tok _, ⟨_, rfl⟩, q⟩
    show (repS z k.toNat).length ≤ sizeLine
    rw [repS_len, Nat.mul_comm]
    exact Nat.le_trans hl (by decide)
section
variable {W : Wd} {K : PySem.W.Frag} {H H1 : Hp} {σ : L2.St} {D : Ends} {Q : VK} {v x y : V} {i j c : Int} {n m : Nat} {s z : Str} {b : Bool} {p a : Addr} {xs ys vs : List V}
variable {ta tb te : TE} {t u : TS} {tr tk : TA} {g : TG} {tS : TS}
theorem rd_repS (h : 2 ≤ i) (hz : s.length ≠ 0) (hl : s.length * i.toNat ≤ 1000000) (k : Q (.str (repS s i.toNat)) H) : rRepS (.str s) (.int i) H Q := ⟨s, i, rfl, rfl, h, hz, hl, k⟩
/-- xs.insert(i, y), xs a list of our own -/
def rIns : V → List V → Hp → VK → Prop := fun x vs H Q => ∃ (l : Addr) (xs : List V) (i : Int) (y : V), x = .ref l ∧ vs = [.int i, y] ∧ H l = some (.lst xs) ∧ xs.length < sizeLine ∧ 0 ≤ i ∧ i < 2 ^ 63 ∧ Q .non (upd H l (.lst (xs.take i.toNat ++ [y] ++ xs.drop i.toNat)))
theorem m_insert {X : Cx} : MtR X "list.insert" rIns := mt_insert
theorem rd_ins {H0 : Hp} (e : Ex W H0 H) (h0 : H0 a = none) (h : At W H a (.lst xs)) (hl : xs.length < 1000000) (i0 : 0 ≤ i) (i1 : i ≤ 1000000) (k : ∀ H2, Ex W H0 H2 → At W H2 a (.lst (xs.take i.toNat ++ [v] ++ xs.drop i.toNat)) → (∀ q o, q ≠ a → At W H q o → At W H2 q o) → Q .non H2) : rIns (.ref a) [.int i, v] H Q :=
  ⟨a, xs, i, v, rfl, rfl, h.1, sz_lt hl, i0, by omega, k _ (e.mut h0 h) (.mut e.iv h) fun _ _ ne q => .other e.iv h q ne⟩
theorem rd_dsetS {kvs : List (Key × V)} {H0 : Hp} (e : Ex W H0 H) (h0 : H0 a = none) (h : At W H a (.dK kvs)) (hl : kvs.length < 1000000) (k1 : ∀ u, valV kvs (.inr s) = some u → Q u H) (k2 : valV kvs (.inr s) = none → ∀ H2, Ex W H0 H2 → At W H2 a (.dK (putK kvs (.inr s) v)) → (∀ q o, q ≠ a → At W H q o → At W H2 q o) → Q v H2) :
    DSetG Q a (.str s) v H := ⟨kvs, .inr s, h.1, rfl, sz_lt hl, k1, fun n => k2 n _ (e.mut h0 h) (.mut e.iv h) fun _ _ ne q => .other e.iv h q ne⟩
theorem rd_dninS {kvs : List (Key × V)} (h : At W H a (.dK kvs)) (k : Q (.bl (!(valV kvs (.inr s)).isSome)) H) : DInG Q true (.ref a) (.str s) H := ⟨a, _, rfl, DGet.k (k := .inr s) h.1, k⟩
/-- d[k] -/
def DIxG (Q : VK) (x : V) (y : V) (H : Hp) : Prop := ∃ a v, x = .ref a ∧ DGet H a y (some v) ∧ Q v H
theorem rd_dget (h : ta σ H fun x H1 => te σ H1 fun y H2 => DIxG Q x y H2) : tDGet ta te σ H Q := h
theorem rd_dgetX {kvs : List (Key × V)} (h : At W H a (.dK kvs)) (e : valV kvs (.inr s) = some v) (k : Q v H) : DIxG Q (.ref a) (.str s) H := ⟨a, v, rfl, by rw [← e]; exact DGet.k (k := .inr s) h.1, k⟩
theorem rd_dgetXi {kvs : List (Key × V)} (h : At W H a (.dK kvs)) (e : valV kvs (.inl i) = some v) (k : Q v H) : DIxG Q (.ref a) (.int i) H := ⟨a, v, rfl, by rw [← e]; exact DGet.k (k := .inl i) h.1, k⟩
/-- int(text) of digits -/
def rIntS : List V → Hp → VK → Prop := fun xs H Q => ∃ a n, xs = [.str a] ∧ PySem.intText? a = some n ∧ a.length ≤ 640 ∧ Q (.int n) H
theorem c_intS {X : Cx} : CallR X (.type "int") rIntS := call_int_str
theorem rd_intS (h : ∀ c ∈ s.cps.toList, 48 ≤ c ∧ c ≤ 57) (h1 : s.cps.toList ≠ []) (h2 : s.length ≤ 640) (k : Q (.int ((s.cps.toList.foldl (fun (acc : Nat) c => acc * 10 + (c - 48)) 0 : Nat) : Int)) H) : rIntS [.str s] H Q :=
  ⟨s, _, rfl, PySem.intText_digits h h1 (Nat.le_trans h2 (by decide)), h2, k⟩
end
end Lw

/-! Ld: data: what a value stands for, as a tree of None, bools, ints, texts, lists and tuples. -/
namespace Lw
open PySem L2 PySem.Spec PyProof.Rows
inductive F2 {α β : Type} (R : α → β → Prop) : List α → List β → Prop
  | nil : F2 R [] []
  | cons {x : α} {y : β} {xs : List α} {ys : List β} : R x y → F2 R xs ys → F2 R (x :: xs) (y :: ys)
namespace F2
variable {α β : Type} {R S : α → β → Prop}
theorem length : ∀ {xs : List α} {ys : List β}, F2 R xs ys → xs.length = ys.length
  | _, _, .nil => rfl
  | _, _, .cons _ t => by rw [List.length_cons, List.length_cons, t.length]
theorem mono (f : ∀ x y, R x y → S x y) : ∀ {xs : List α} {ys : List β}, F2 R xs ys → F2 S xs ys
  | _, _, .nil => .nil
  | _, _, .cons a t => .cons (f _ _ a) (t.mono f)
theorem monoM : ∀ {xs : List α} {ys : List β}, (∀ x y, y ∈ ys → R x y → S x y) → F2 R xs ys → F2 S xs ys
  | _, _, _, .nil => .nil
  | _, _, f, .cons a t => .cons (f _ _ (List.mem_cons_self ..) a) (t.monoM fun x y h => f x y (List.mem_cons_of_mem _ h))
theorem append {us : List α} {vs : List β} (h : F2 R us vs) : ∀ {xs : List α} {ys : List β}, F2 R xs ys → F2 R (xs ++ us) (ys ++ vs)
  | _, _, .nil => h
  | _, _, .cons a t => .cons a (append h t)
theorem snoc {xs : List α} {ys : List β} {x : α} {y : β} (t : F2 R xs ys) (h : R x y) : F2 R (xs ++ [x]) (ys ++ [y]) := append (.cons h .nil) t
theorem get : ∀ {xs : List α} {ys : List β} {n : Nat} {x : α}, F2 R xs ys → xs[n]? = some x → ∃ y, ys[n]? = some y ∧ R x y
  | _, _, _, _, .nil, e => by simp at e
  | _, _, 0, _, .cons a _, e => by simp at e; subst e; exact ⟨_, rfl, a⟩
  | _, _, n + 1, _, .cons _ t, e => t.get (n := n) (by simpa using e)
theorem getR : ∀ {xs : List α} {ys : List β} {n : Nat} {y : β}, F2 R xs ys → ys[n]? = some y → ∃ x, xs[n]? = some x ∧ R x y
  | _, _, _, _, .nil, e => by simp at e
  | _, _, 0, _, .cons a _, e => by simp at e; subst e; exact ⟨_, rfl, a⟩
  | _, _, n + 1, _, .cons _ t, e => t.getR (n := n) (by simpa using e)
theorem mem : ∀ {xs : List α} {ys : List β} {x : α}, F2 R xs ys → x ∈ xs → ∃ y ∈ ys, R x y
  | _, _, _, .nil, h => by cases h
  | _, _, x, .cons a t, h => by
    rcases List.mem_cons.mp h with rfl | h
    · exact ⟨_, List.mem_cons_self .., a⟩
    · obtain ⟨y, hy, r⟩ := t.mem h
      exact ⟨y, List.mem_cons_of_mem _ hy, r⟩
theorem rep {x : α} {y : β} (h : R x y) : ∀ n, F2 R (List.replicate n x) (List.replicate n y)
  | 0 => .nil
  | n + 1 => .cons h (rep h n)
theorem take : ∀ {xs : List α} {ys : List β} (n : Nat), F2 R xs ys → F2 R (xs.take n) (ys.take n)
  | _, _, 0, _ => by rw [List.take_zero, List.take_zero]; exact .nil
  | _, _, n + 1, .nil => by rw [List.take_nil, List.take_nil]; exact .nil
  | _, _, n + 1, .cons a t => .cons a (take n t)
theorem drop : ∀ {xs : List α} {ys : List β} (n : Nat), F2 R xs ys → F2 R (xs.drop n) (ys.drop n)
  | _, _, 0, t => by rw [List.drop_zero, List.drop_zero]; exact t
  | _, _, n + 1, .nil => by rw [List.drop_nil, List.drop_nil]; exact .nil
  | _, _, n + 1, .cons a t => by rw [List.drop_succ_cons, List.drop_succ_cons]; exact drop n t
theorem set {x : α} {y : β} (h : R x y) : ∀ {xs : List α} {ys : List β} (n : Nat), F2 R xs ys → F2 R (xs.set n x) (ys.set n y)
  | _, _, _, .nil => .nil
  | _, _, 0, .cons a t => .cons h t
  | _, _, n + 1, .cons a t => .cons a (set h n t)
theorem rev : ∀ {xs : List α} {ys : List β}, F2 R xs ys → F2 R xs.reverse ys.reverse
  | _, _, .nil => .nil
  | _, _, .cons a t => by rw [List.reverse_cons, List.reverse_cons]; exact (rev t).snoc a
theorem map1 {γ : Type} {f : γ → α} : ∀ {xs : List γ} {ys : List β}, F2 (fun x y => R (f x) y) xs ys → F2 R (xs.map f) ys
  | _, _, .nil => .nil
  | _, _, .cons a t => .cons a (map1 t)
theorem map2 {γ : Type} {f : γ → β} : ∀ {xs : List α} {ys : List γ}, F2 (fun x y => R x (f y)) xs ys → F2 R xs (ys.map f)
  | _, _, .nil => .nil
  | _, _, .cons a t => .cons a (map2 t)
end F2
/-- a tuple of the written part -/
structure KTup (K : PySem.W.Frag) (a : Addr) (xs : List V) : Prop where
  sq : ∀ H : Hp, SqT K H a xs
  cl : ∃ o, K.lookup a = some o ∧ o.cls = .type "tuple"
/-- a tuple; a list or a tuple -/
def TuA (K : PySem.W.Frag) (W : Wd) (H : Hp) (a : Addr) (xs : List V) : Prop := At W H a (.tup xs) ∨ KTup K a xs
def SqB (K : PySem.W.Frag) (W : Wd) (H : Hp) (a : Addr) (xs : List V) : Prop := At W H a (.lst xs) ∨ TuA K W H a xs
mutual
inductive DW (K : PySem.W.Frag) (W : Wd) (H : Hp) : V → PyData → Prop
  | non : DW K W H .non .none
  | bl (b : Bool) : DW K W H (.bl b) (.bool b)
  | int (i : Int) : DW K W H (.int i) (.int i)
  | str (s : Str) : DW K W H (.str s) (.str s)
  | lst {a : Addr} {xs : List V} {ds : List PyData} : At W H a (.lst xs) → DWs K W H xs ds → DW K W H (.ref a) (.list ds)
  | tup {a : Addr} {xs : List V} {ds : List PyData} : TuA K W H a xs → DWs K W H xs ds → DW K W H (.ref a) (.tuple ds)
inductive DWs (K : PySem.W.Frag) (W : Wd) (H : Hp) : List V → List PyData → Prop
  | nil : DWs K W H [] []
  | cons {v : V} {vs : List V} {d : PyData} {ds : List PyData} : DW K W H v d → DWs K W H vs ds → DWs K W H (v :: vs) (d :: ds)
end
section
variable {K : PySem.W.Frag} {W : Wd} {H H1 H2 : Hp} {a : Addr} {xs : List V} {v : V} {d : PyData} {ds : List PyData}
theorem TuA.ex (e : Ex W H H1) (h : TuA K W H a xs) : TuA K W H1 a xs := h.imp e.at_ id
theorem SqB.ex (e : Ex W H H1) (h : SqB K W H a xs) : SqB K W H1 a xs := h.imp e.at_ (TuA.ex e)
theorem TuA.sq (h : TuA K W H a xs) : SqT K H a xs := h.elim At.st fun k => k.sq H
theorem SqB.raw (h : SqB K W H a xs) : SqL K H a xs ∨ SqT K H a xs := h.imp At.sl TuA.sq
theorem TuA.ty (h : TuA K W H a xs) : TyX K H (.ref a) (.type "tuple") := by
  rcases h with h | h
  · exact .base (.tup h.raw)
  · obtain ⟨o, e, c⟩ := h.cl
    exact .kTuple e c
mutual
theorem DW.ex (e : Ex W H H1) : ∀ {v : V} {d : PyData}, DW K W H v d → DW K W H1 v d
  | _, _, .non => .non
  | _, _, .bl b => .bl b
  | _, _, .int i => .int i
  | _, _, .str s => .str s
  | _, _, .lst h t => .lst (e.at_ h) (DWs.ex e t)
  | _, _, .tup h t => .tup (h.ex e) (DWs.ex e t)
theorem DWs.ex (e : Ex W H H1) : ∀ {vs : List V} {ds : List PyData}, DWs K W H vs ds → DWs K W H1 vs ds
  | _, _, .nil => .nil
  | _, _, .cons a t => .cons (DW.ex e a) (DWs.ex e t)
end
/-! no list within -/
mutual
def noL : PyData → Bool
  | .list _ => false
  | .tuple ds => noLs ds
  | _ => true
def noLs : List PyData → Bool
  | [] => true
  | d :: ds => noL d && noLs ds
end
mutual
theorem DW.keepT (k : ∀ q us, At W H q (.tup us) → At W H1 q (.tup us)) : ∀ {v : V} {d : PyData}, noL d = true → DW K W H v d → DW K W H1 v d
  | _, _, _, .non => .non
  | _, _, _, .bl b => .bl b
  | _, _, _, .int i => .int i
  | _, _, _, .str s => .str s
  | _, _, n, .lst h t => by rw [noL] at n; cases n
  | _, _, n, .tup h t => .tup (h.imp (k _ _) id) (DWs.keepT k (by rw [noL] at n; exact n) t)
theorem DWs.keepT (k : ∀ q us, At W H q (.tup us) → At W H1 q (.tup us)) : ∀ {vs : List V} {ds : List PyData}, noLs ds = true → DWs K W H vs ds → DWs K W H1 vs ds
  | _, _, _, .nil => .nil
  | _, _, n, .cons a t => by
    rw [noLs, Bool.and_eq_true] at n
    exact .cons (DW.keepT k n.1 a) (DWs.keepT k n.2 t)
end
mutual
theorem DW.dp : ∀ {v : V} {d : PyData}, DW K W H v d → Dp K H v d
  | _, _, .non => .non
  | _, _, .bl b => .bl b
  | _, _, .int i => .int i
  | _, _, .str s => .str s
  | _, _, .lst h t => .lst h.sl (DWs.dp t)
  | _, _, .tup h t => .tup h.sq (DWs.dp t)
theorem DWs.dp : ∀ {vs : List V} {ds : List PyData}, DWs K W H vs ds → DpAll K H vs ds
  | _, _, .nil => .nil
  | _, _, .cons a t => .cons (DW.dp a) (DWs.dp t)
end
theorem DWs.f2 : ∀ {vs : List V} {ds : List PyData}, DWs K W H vs ds → F2 (DW K W H) vs ds
  | _, _, .nil => .nil
  | _, _, .cons a t => .cons a t.f2
theorem DWs.of : ∀ {vs : List V} {ds : List PyData}, F2 (DW K W H) vs ds → DWs K W H vs ds
  | _, _, .nil => .nil
  | _, _, .cons a t => .cons a (DWs.of t)
theorem DWs.length {vs : List V} (h : DWs K W H vs ds) : vs.length = ds.length := h.f2.length
theorem DWs.get {vs : List V} {n : Nat} {x : V} (h : DWs K W H vs ds) (e : vs[n]? = some x) : ∃ d, ds[n]? = some d ∧ DW K W H x d := h.f2.get e
theorem DWs.getR {vs : List V} {n : Nat} {x : PyData} (h : DWs K W H vs ds) (e : ds[n]? = some x) : ∃ v, vs[n]? = some v ∧ DW K W H v x := h.f2.getR e
theorem DWs.snoc {vs : List V} (h : DWs K W H vs ds) (x : DW K W H v d) : DWs K W H (vs ++ [v]) (ds ++ [d]) := .of (h.f2.snoc x)
theorem DWs.take {vs : List V} (n : Nat) (h : DWs K W H vs ds) : DWs K W H (vs.take n) (ds.take n) := .of (h.f2.take n)
theorem DWs.drop {vs : List V} (n : Nat) (h : DWs K W H vs ds) : DWs K W H (vs.drop n) (ds.drop n) := .of (h.f2.drop n)
theorem DWs.app {vs us : List V} {es : List PyData} (h : DWs K W H vs ds) (h2 : DWs K W H us es) : DWs K W H (vs ++ us) (ds ++ es) := .of (F2.append h2.f2 h.f2)
theorem DWs.ints : ∀ ns : List Int, DWs K W H (ns.map V.int) (ns.map PyData.int)
  | [] => .nil
  | n :: ns => .cons (.int n) (DWs.ints ns)
theorem DWs.strs : ∀ ns : List Str, DWs K W H (ns.map V.str) (ns.map PyData.str)
  | [] => .nil
  | n :: ns => .cons (.str n) (DWs.strs ns)
/-! ### what the kinds are -/
def isRow : PyData → Bool
  | .list _ => true | .tuple _ => true | _ => false
def items : PyData → List PyData
  | .list ds => ds | .tuple ds => ds | _ => []
def isI : PyData → Bool
  | .int _ => true | _ => false
def isB : PyData → Bool
  | .bool _ => true | _ => false
def isIB : PyData → Bool
  | .int _ => true | .bool _ => true | _ => false
def isS : PyData → Bool
  | .str _ => true | _ => false
def isT : PyData → Bool
  | .tuple _ => true | _ => false
def isLs : PyData → Bool
  | .list _ => true | _ => false
def tyD : PyData → String
  | .none => "NoneType" | .bool _ => "bool" | .int _ => "int" | .str _ => "str" | .list _ => "list" | .tuple _ => "tuple" | .dict _ => "dict"
theorem DW.ty (h : DW K W H v d) : TyX K H v (.type (tyD d)) := by
  cases h with
  | non => exact .base .non
  | bl b => exact .base (.bl b)
  | int i => exact .base (.int i)
  | str s => exact .base (.str s)
  | lst h _ => exact .base (.lst h.raw)
  | tup h _ => exact h.ty
theorem DW.row (h : DW K W H v d) (r : isRow d = true) : ∃ a xs, v = .ref a ∧ SqB K W H a xs ∧ DWs K W H xs (items d) := by
  cases h with
  | lst h t => exact ⟨_, _, rfl, .inl h, t⟩
  | tup h t => exact ⟨_, _, rfl, .inr h, t⟩
  | _ => cases r
theorem DW.tupE (h : DW K W H v (.tuple ds)) : ∃ a xs, v = .ref a ∧ TuA K W H a xs ∧ DWs K W H xs ds := by
  cases h with
  | tup h t => exact ⟨_, _, rfl, h, t⟩
theorem DW.lstE (h : DW K W H v (.list ds)) : ∃ a xs, v = .ref a ∧ At W H a (.lst xs) ∧ DWs K W H xs ds := by
  cases h with
  | lst h t => exact ⟨_, _, rfl, h, t⟩
theorem DW.intE {i : Int} (h : DW K W H v (.int i)) : v = .int i := by cases h; rfl
theorem DW.strE {s : Str} (h : DW K W H v (.str s)) : v = .str s := by cases h; rfl
theorem DW.nonE (h : DW K W H v .none) : v = .non := by cases h; rfl
theorem DW.bl_E {b : Bool} (h : DW K W H v (.bool b)) : v = .bl b := by cases h; rfl
theorem DW.isN (h : DW K W H v d) : decide (v = .non) = (match d with | .none => true | _ => false) := by
  cases h with
  | non => exact decide_eq_true rfl
  | _ => exact decide_eq_false (fun z => nomatch z)
theorem DW.noDict (h : DW K W H v d) : ∀ kvs, d ≠ .dict kvs := fun kvs z => by
  subst z
  cases h
theorem DW.kit (h : DW K W H v d) : kitB (tyD d) "int" = some (isIB d) ∧ kitB (tyD d) "bool" = some (isB d) ∧ kitB (tyD d) "str" = some (isS d) ∧ kitB (tyD d) "tuple" = some (isT d) ∧ kitB (tyD d) "list" = some (isLs d) := by
  cases h with
  | non => exact ⟨(by decide +kernel : kitB "NoneType" "int" = some false), (by decide +kernel : kitB "NoneType" "bool" = some false), (by decide +kernel : kitB "NoneType" "str" = some false), (by decide +kernel : kitB "NoneType" "tuple" = some false), (by decide +kernel : kitB "NoneType" "list" = some false)⟩
  | bl b => exact ⟨(by decide +kernel : kitB "bool" "int" = some true), (by decide +kernel : kitB "bool" "bool" = some true), (by decide +kernel : kitB "bool" "str" = some false), (by decide +kernel : kitB "bool" "tuple" = some false), (by decide +kernel : kitB "bool" "list" = some false)⟩
  | int i => exact ⟨(by decide +kernel : kitB "int" "int" = some true), (by decide +kernel : kitB "int" "bool" = some false), (by decide +kernel : kitB "int" "str" = some false), (by decide +kernel : kitB "int" "tuple" = some false), (by decide +kernel : kitB "int" "list" = some false)⟩
  | str s => exact ⟨(by decide +kernel : kitB "str" "int" = some false), (by decide +kernel : kitB "str" "bool" = some false), (by decide +kernel : kitB "str" "str" = some true), (by decide +kernel : kitB "str" "tuple" = some false), (by decide +kernel : kitB "str" "list" = some false)⟩
  | lst h _ => exact ⟨(by decide +kernel : kitB "list" "int" = some false), (by decide +kernel : kitB "list" "bool" = some false), (by decide +kernel : kitB "list" "str" = some false), (by decide +kernel : kitB "list" "tuple" = some false), (by decide +kernel : kitB "list" "list" = some true)⟩
  | tup h _ => exact ⟨(by decide +kernel : kitB "tuple" "int" = some false), (by decide +kernel : kitB "tuple" "bool" = some false), (by decide +kernel : kitB "tuple" "str" = some false), (by decide +kernel : kitB "tuple" "tuple" = some true), (by decide +kernel : kitB "tuple" "list" = some false)⟩
end
/-! ### steps -/
section
variable {K : PySem.W.Frag} {W : Wd} {H H1 H2 : Hp} {a p : Addr} {xs ys vs : List V} {v x y : V} {d e : PyData} {ds : List PyData} {Q : VK} {σ : L2.St} {D : Ends} {i : Int} {b : Bool} {n m : Nat} {f : Str} {C dx : Addr} {fs : List (Str × V)}
variable {ta tb te : TE} {tr : TA} {t : TS} {g : TG} {tt : TT} {tS : TS} {tgs : TGs}
theorem rd_isInt (h : DW K W H v d) (k : Q (.bl (isIB d)) H) : rIsi K [v, .ty "int"] H Q := rd_isi h.ty h.kit.1 k
theorem rd_isBool (h : DW K W H v d) (k : Q (.bl (isB d)) H) : rIsi K [v, .ty "bool"] H Q := rd_isi h.ty h.kit.2.1 k
theorem rd_isStr (h : DW K W H v d) (k : Q (.bl (isS d)) H) : rIsi K [v, .ty "str"] H Q := rd_isi h.ty h.kit.2.2.1 k
theorem rd_isTup (h : DW K W H v d) (k : Q (.bl (isT d)) H) : rIsi K [v, .ty "tuple"] H Q := rd_isi h.ty h.kit.2.2.2.1 k
theorem rd_isLst (h : DW K W H v d) (k : Q (.bl (isLs d)) H) : rIsi K [v, .ty "list"] H Q := rd_isi h.ty h.kit.2.2.2.2 k
/-- isinstance(x, (list, tuple)) -/
theorem rd_isRowD {tp : Addr} (h : DW K W H v d) (ht : H tp = some (.tup [.ty "list", .ty "tuple"])) (k : Q (.bl (isRow d)) H) : rIsiT K [v, .ref tp] H Q := by
  have cs : Paired ClsV [V.ty "list", V.ty "tuple"] [Value.type "list", Value.type "tuple"] := .cons (.ty _) (.cons (.ty _) .nil)
  refine ⟨_, tp, _, _, _, isRow d, rfl, ht, cs, h.ty, ?_, k⟩
  cases h with
  | non => kernel_rfl
  | bl b => kernel_rfl
  | int i => kernel_rfl
  | str s => kernel_rfl
  | lst h _ => kernel_rfl
  | tup h _ => kernel_rfl
theorem rd_ixB (h : SqB K W H p xs) (e : atI xs i = some v) (k : Q v H) : rIx K (.ref p) (.int i) H Q := by
  rcases h.raw with h | h
  · exact .inl ⟨p, xs, i, v, rfl, rfl, h, e, k⟩
  · exact .inr (.inl ⟨p, xs, i, v, rfl, rfl, h, e, k⟩)
theorem rd_ixTB (h : TuA K W H p xs) (e : atI xs i = some v) (k : Q v H) : rIxT K (.ref p) (.int i) H Q := ⟨p, xs, i, v, rfl, rfl, h.sq, e, k⟩
theorem rd_lenB (h : SqB K W H p xs) (k : Q (.int xs.length) H) : rLen K [.ref p] H Q := ⟨p, xs, rfl, h.raw, k⟩
theorem rd_tupB (i : W.iv H) (h : SqB K W H p xs) (k : ∀ t H2, Ex W H H2 → TuA K W H2 t xs → Q (.ref t) H2) : rTupO K [.ref p] H Q := by
  rcases h with h | h
  · exact ⟨p, xs, rfl, .inl ⟨h.sl, new_of i fun q H2 _ e a => k q H2 e (.inl a)⟩⟩
  · exact ⟨p, xs, rfl, .inr ⟨h.sq, k p H (Ex.refl i) h⟩⟩
theorem rd_listB (i : W.iv H) (h : SqB K W H p xs) (k : ∀ l H2, H l = none → Ex W H H2 → At W H2 l (.lst xs) → Q (.ref l) H2) : rListO K [.ref p] H Q := ⟨p, xs, rfl, h.raw, rd_new1 i k⟩
theorem rd_inB (h : SqB K W H p xs) (f : flatV x = true) (g : xs.all flatV = true) (k : Q (.bl (inV x xs)) H) : rIn K false x (.ref p) H Q := ⟨p, xs, rfl, h.raw, f, g, k⟩
theorem rd_niB (h : SqB K W H p xs) (f : flatV x = true) (g : xs.all flatV = true) (k : Q (.bl (!inV x xs)) H) : rIn K true x (.ref p) H Q := ⟨p, xs, rfl, h.raw, f, g, k⟩
theorem rd_eqD2 (h : DW K W H x d) (h2 : DW K W H y e) (s1 : SeqAt.shaped d = true) (s2 : SeqAt.shaped e = true) (k : Q (.bl (PyData.eqv d e)) H) : rEqD K x y H Q := ⟨d, e, h.dp, h2.dp, s1, s2, k⟩
theorem rd_neD2 (h : DW K W H x d) (h2 : DW K W H y e) (s1 : SeqAt.shaped d = true) (s2 : SeqAt.shaped e = true) (k : Q (.bl (!PyData.eqv d e)) H) : rNeD K x y H Q := ⟨d, e, h.dp, h2.dp, s1, s2, k⟩
/-- for i, x in enumerate(xs), xs a name -/
theorem for_eB (hv : σ[m]? = some (some (.ref a))) (h : SqB K W H a xs) (Pv : Nat → L2.St → Hp → Prop) (h0 : Pv 0 σ H) (hg : ∀ i σ' H', Pv i σ' H' → Ex W H H')
    (hs : ∀ i x T σ' H1 H', xs[i]? = some x → Pv i σ' H1 → H1 T = none → Ex W H1 H' → At W H' T (.tup [.int ((i : Nat) : Int), x]) → g (.ref T) σ' H' fun σ2 H2 => tS { D with nx := Pv (i + 1), ct := Pv (i + 1), bk := D.nx } σ2 H2)
    (hd : ∀ σ' H', Pv xs.length σ' H' → D.nx σ' H') : tFor (fun σ H R => iEnum K (tCons (tVar m) tNil) σ H R ∨ iEnumT K (tCons (tVar m) tNil) σ H R) g tS D σ H := by
  rcases h with h | h
  · refine .inl ⟨.ref a, hv, a, xs, rfl, h.sl, ?_⟩
    refine for_it (walk_enum (xs := xs)) Pv h0 (fun i σ H _ p => ((hg i σ H p).at_ h).sl) (fun i x σ H H' hi p y => ?_) hd
    obtain ⟨T, x1, x2, rfl, hT, rfl, e1, e2⟩ := y
    cases e1
    exact hs i x2 T σ H _ e2 p hT (Ex.new (hg i σ H p).iv hT) (At.new (hg i σ H p).iv hT)
  · refine .inr ⟨.ref a, hv, a, xs, rfl, h.sq, ?_⟩
    refine for_it (walk_enumT (xs := xs)) Pv h0 (fun i σ H _ p => (h.ex (hg i σ H p)).sq) (fun i x σ H H' hi p y => ?_) hd
    obtain ⟨T, x1, x2, rfl, hT, rfl, e1, e2⟩ := y
    cases e1
    have z := hs i x2 T σ H (upd H T (.tup [.int ((i : Nat) : Int), x2])) e2 p hT (Ex.new (hg i σ H p).iv hT) (At.new (hg i σ H p).iv hT)
    rwa [show (0 + ((i : Nat) : Int)) = (i : Int) from Int.zero_add _]
/-- for x in xs, xs a name -/
theorem for_B (hv : σ[m]? = some (some (.ref a))) (h : SqB K W H a xs) (Pv : Nat → L2.St → Hp → Prop) (h0 : Pv 0 σ H) (hg : ∀ i σ' H', Pv i σ' H' → Ex W H H')
    (hs : ∀ i x σ' H', xs[i]? = some x → Pv i σ' H' → g x σ' H' fun σ2 H2 => tS { D with nx := Pv (i + 1), ct := Pv (i + 1), bk := D.nx } σ2 H2)
    (hd : ∀ σ' H', Pv xs.length σ' H' → D.nx σ' H') : tFor (fun σ H R => iList K (tVar m) σ H R ∨ iTup K (tVar m) σ H R) g tS D σ H := by
  rcases h with h | h
  · refine .inl ⟨.ref a, hv, a, rfl, ⟨xs, h.sl⟩, ?_⟩
    exact for_it (walk_list (xs := xs)) Pv h0 (fun i σ H _ p => ((hg i σ H p).at_ h).sl) (fun i x σ H H' hi p y => by obtain ⟨rfl, e⟩ := y; exact hs i x σ _ e p) hd
  · refine .inr ⟨.ref a, hv, a, rfl, ⟨xs, h.sq⟩, ?_⟩
    exact for_it (walk_tup (xs := xs)) Pv h0 (fun i σ H _ p => (h.ex (hg i σ H p)).sq) (fun i x σ H H' hi p y => by obtain ⟨rfl, e⟩ := y; exact hs i x σ _ e p) hd
/-- [e for x in xs], xs a name: S is what holds of the items made (without the new list) -/
theorem lc_B (hv : σ[n]? = some (some (.ref a))) (h : SqB K W H a xs) (i : W.iv H) (hn : xs.length ≤ 50000) (S : Nat → List V → Hp → Prop) (hm : ∀ k ys H1 H2, Ex W H1 H2 → S k ys H1 → S k ys H2) (h0 : S 0 [] H)
    (hs : ∀ k x D ys H' (QV : VK) (QN : Hp → Prop), k < xs.length → xs[k]? = some x → H D = none → At W H' D (.lst ys) → Ex W H H' → S k ys (Lw.hide D H') → ys.length ≤ k →
      (∀ y H4, Ex W H' H4 → S (k + 1) (ys ++ [y]) (Lw.hide D H4) → QV y H4) → (∀ H3, Ex W H' H3 → S (k + 1) ys (Lw.hide D H3) → QN H3) →
      tt ((wipe σ [m]).set m (some x)) H' fun b H3 => if b = true then te ((wipe σ [m]).set m (some x)) H3 QV else QN H3)
    (k : ∀ D H2 ys, H D = none → Ex W H H2 → At W H2 D (.lst ys) → S xs.length ys H2 → ys.length ≤ xs.length → Q (.ref D) H2) :
    tLc (fun σ H R => iList K (tVar n) σ H R ∨ iTup K (tVar n) σ H R) (gName m) tt te [m] σ H Q := by
  rcases h with h | h
  · exact .inl ⟨.ref a, hv, a, rfl, ⟨xs, h.sl⟩, lc_w (X := fun i x => xs[i]? = some x) walk_list S i hn (fun H' e => (e.at_ h).sl) hm h0 hs k⟩
  · exact .inr ⟨.ref a, hv, a, rfl, ⟨xs, h.sq⟩, lc_w (X := fun i x => xs[i]? = some x) walk_tup S i hn (fun H' e => (h.ex e).sq) hm h0 hs k⟩
/-- what stands in the hidden heap -/
theorem DW.hide {Da : Addr} {acc : List V} (h : DW K W H v d) (hn : noL d = true) (i : W.iv H) (hD : At W H Da (.lst acc)) : DW K W (Lw.hide Da H) v d :=
  h.keepT (fun q us a => a.hide (a.ne hD fun z => by cases z) i hD) hn
/-- attributes -/
theorem rd_fld (h : ta σ H fun x H1 => ∃ a C dx fs v, x = .ref a ∧ H1 a = some (.ins C dx fs) ∧ Cls K C ∧ NoAttr K C f ∧ fs.lookup f = some v ∧ Q v H1) : tFld K ta f σ H Q := h
theorem rd_fldA (h : At W H a (.ins C dx fs)) (c : Cls K C) (na : NoAttr K C f) (e : fs.lookup f = some v) (k : Q v H) : ∃ a' C dx fs v, V.ref a = .ref a' ∧ H a' = some (.ins C dx fs) ∧ Cls K C ∧ NoAttr K C f ∧ fs.lookup f = some v ∧ Q v H := ⟨a, C, dx, fs, v, rfl, h.1, c, na, e, k⟩
/-- unpacking a list or a tuple -/
theorem pg_or {X : Cx} {tg : Expr} {t u : TG} (h1 : PG X tg t) (h2 : PG X tg u) : PG X tg (fun v σ H Q => t v σ H Q ∨ u v σ H Q) :=
  ⟨fun pins s σ H v w Q I r h => h.elim (h1.run pins s σ H v w Q I r) (h2.run pins s σ H v w Q I r)⟩
theorem rd_gB {QS : L2.St → Hp → Prop} (h : SqB K W H a xs) (e : xs.length = n) (k : tgs xs σ H QS) : gTup K n tgs (.ref a) σ H QS ∨ gUnl K n tgs (.ref a) σ H QS := by
  rcases h.raw with h | h
  · exact .inr ⟨a, xs, rfl, h, e, k⟩
  · exact .inl ⟨a, xs, rfl, h, e, k⟩
/-- sorted(xs) of ints -/
theorem rd_sorted {ns : List Int} (i : W.iv H) (h : At W H a (.lst (ns.map V.int))) (k : ∀ (ns' : List Int) l H2, ns'.Perm ns → ns'.Pairwise (· ≤ ·) → H l = none → Ex W H H2 → At W H2 l (.lst (ns'.map V.int)) → Q (.ref l) H2) : rSortedI K [.ref a] H Q :=
  ⟨a, ns, rfl, h.sl, fun ns' p hp hs hn => k ns' p _ hp hs hn (Ex.new i hn) (At.new i hn)⟩
/-- what is never reached -/
theorem pe_never {X : Cx} {e : Expr} : PE X e (fun _ _ _ => False) := ⟨fun _ _ _ _ _ _ h => h.elim⟩
end
end Lw

/-! Ly: the program's own exceptions with two fields. -/
namespace PySem
namespace SupY
open PySem.W PySem.Calls PyProof.Rows PySem.HandSPX
def iA (f k : Str) (p1 p2 p3 : Pos) : Arguments := { posonlyargs := [], args := [{ arg := "self", annotation := none, pos := p1 }, { arg := f, annotation := none, pos := p2 }, { arg := k, annotation := none, pos := p3 }], vararg := none, kwonlyargs := [], kw_defaults := [], kwarg := none, defaults := [] }
def iSup (m : Str) (n : Nat) (p0 p1 p2 p3 p4 p5 : Pos) : Stmt := .Expr (.Call (.Attribute (.Call (.Name "super" p0) [] [] p1) "__init__" p2) [.Constant (.str m) n p3] [] p4) p5
def iSt (f : Str) (q1 q2 q3 q4 : Pos) : Stmt := .Assign [.Attribute (.Name "self" q1) f q2] (.Name f q3) q4
def iS (f k : Str) : Scope := { kind := .function, names := [(PySem.Str.ofString "self", .local), (f, .local), (k, .local), (PySem.Str.ofString "__class__", .free), (PySem.Str.ofString "super", .globalImplicit)], isGenerator := false, isCoroutine := false, more := [] }
/-- the field's name is none of the four -/
structure NmOk (f : Str) : Prop where
  a : (PySem.Str.ofString "self" == f) = false
  a' : (f == PySem.Str.ofString "self") = false
  b : (PySem.Str.ofString "super" == f) = false
  c : (PySem.Str.ofString "__class__" == f) = false
  d : (f == PySem.Str.ofString "__debug__") = false
/-- two unlike fields -/
structure Nm2 (f k : Str) : Prop where
  nf : NmOk f
  nk : NmOk k
  fk : (f == k) = false
  kf : (k == f) = false
  ne : k ≠ f
/-- what the written part says of the class x, at C, and of its __init__, at fI -/
structure SupTxt2 (P : Program) (K : Frag) (mg : Str → Option Value) (x : Str) (f k : Str) (C fI : Addr) : Prop where
  gC : mg x = some (.ref C)
  nm : Nm2 f k
  cls : ∃ nm q N bs bm sn sub ab col dd k0 k1 k2 k3 k5, K.lookup C = some (excClassObj nm q C N bs bm true sn sub ab col dd k0 k1 k2 k3 k5 "ValueError.__new__") ∧ refsVE bm = true
  sa : findIn K (.ref C) "__setattr__" = some (some (.builtin "object.__setattr__"))
  ga : findIn K (.ref C) "__getattribute__" = some (some (.builtin "BaseException.__getattribute__"))
  gg : findIn K (.ref C) "__getattr__" = some none
  noN : findIn K (.ref C) f = some none
  noK : findIn K (.ref C) k = some none
  iC : findIn K (.ref C) "__init__" = some (some (.ref fI))
  tC : typeIn K (.ref fI) = some (.type "function")
  kC : keepIn K (.ref C) = true
  exC : subIn K (.ref C) (.type "BaseException") = some true
  tyC : typeIn K (.ref C) = some (.type "type")
  hdC : hasDictIn K C = true
  op : nsIn K cStatics "thirdparty.any" = some none
  along : ks_superIn K C C "__init__" = some (some (.builtin "ValueError.__init__"))
  hB : subIn K (.ref C) (.type "ValueError") = some true
  ms : mroIn K C (.ref C) = some true
  su : nsIn K mainGlobals "super" = some none
  top : (P.main.scope.names.lookup (PySem.Str.ofString "super")).isSome = false
  fn : ∃ (oc : Value) (od : Option Addr) (doc pm : Value) (an : Option Addr) (cda : Addr) (ct : Value) (osl : Array (Option Value)) (qual m : Str) (n : Nat) (p1 p2 p3 a0 a1 a2 a3 a4 a5 q1 q2 q3 q4 r1 r2 r3 r4 : Pos) (cc : Addr),
    K.lookup fI = some ⟨oc, od, .func (ksFn "__init__" qual (iA f k p1 p2 p3) [iSup m n a0 a1 a2 a3 a4 a5, iSt f q1 q2 q3 q4, iSt k r1 r2 r3 r4] (iS f k) .none .none doc pm an (.ref cda) ct cc), osl⟩ ∧ codeIn K (.ref cda) qual = true ∧
    (a2.endLine == a4.line) = true ∧ (∀ (s : Shared) (u v v2 : Value), BindsTo s (ksFn "__init__" qual (iA f k p1 p2 p3) [iSup m n a0 a1 a2 a3 a4 a5, iSt f q1 q2 q3 q4, iSt k r1 r2 r3 r4] (iS f k) .none .none doc pm an (.ref cda) ct cc) ⟨[u, v, v2], []⟩ [("self", u), (f, v), (k, v2)]) ∧
    (∃ cl cld csl, K.lookup cc = some ⟨cl, cld, .cell (some (.ref C)), csl⟩) ∧ ∃ ccl cdd vs ccs file tf, K.lookup cda = some ⟨ccl, cdd, .fields vs, ccs⟩ ∧ vs[2]? = some (.str file tf) ∧ ((P.main.file : Str) == file) = true
/-- what __init__ leaves of a fresh exception at x -/
structure InitEnd (h h' : Heap) (x C dx t1 : Addr) (f k : Str) (v v2 : Value) : Prop where
  keep : ∀ b o, b ≠ x → h.get? b = some o → h'.get? b = some o
  obj : h'.get? x = some { cls := .ref C, dict := some dx, data := .fields #[.ref t1, .none, .none, .none, .bool false, .none] }
  dbig : h.objs.size ≤ dx
  dne : dx ≠ x
  ns : h'.Ns1 dx (fun y => if y = k then some v2 else if y = f then some v else none)
/-- a made one -/
structure OwnMade (h h' : Heap) (e C d : Addr) (f k : Str) (v v2 : Value) : Prop where
  keep : ∀ b o, h.get? b = some o → h'.get? b = some o
  new : h.objs.size ≤ e
  obj : ∃ oe vs, h'.get? e = some oe ∧ oe.cls = .ref C ∧ oe.dict = some d ∧ oe.data = .fields vs ∧ vs[1]? = some .none
  dbig : h.objs.size ≤ d
  dne : d ≠ e
  ns : h'.Ns1 d (fun y => if y = k then some v2 else if y = f then some v else none)
section
variable {prog : Program} {w : World} {A : Around} {E : Value → Shared → Prop} {h : Heap} {g : Array GenState} {d : Drawn} {t : Nat} {os : OsState}
variable {nm q : Str} {C N : Addr} {bs bm : List Value} {hdct : Bool} {sn : List Str} {sub : List Value} {ab : Bool} {col : Option Bool} {dd : Option Addr} {k0 k1 k2 k3 k5 : Option Value}
/-- the bound ValueError.__init__ called -/
theorem call_mw {u e t0 : Addr} {rest : List Value} {Q : Value → Shared → Prop}
    (hC : h.get? C = some (excClassObj nm q C N bs bm hdct sn sub ab col dd k0 k1 k2 k3 k5 "ValueError.__new__")) (he : h.get? e = some (excO C t0)) (hu : h.get? u = some (kxs_mw "ValueError.__init__" e)) (hrest : rest.length ≤ sizeLine)
    (hq : ∀ h' t1, (∀ b o, b ≠ e → h.get? b = some o → h'.get? b = some o) → h'.get? e = some (excO C t1) → Q .none ⟨h', g, d, t, os⟩) :
    wpAny (model prog w) A (call (.ref u) rest) Q E ⟨h, g, d, t, os⟩ := by
  refine wpAny_call (codeAny_of_tree ?_)
  show wpAny _ A.in1 (callAny (.ref u) ⟨rest, []⟩) _ _ _
  simp only [callAny]
  refine wpAny_bind (wpAny_load hu ?_)
  simp only [kxs_mw, show (Value.type "method-wrapper" == Value.type "method" || Value.type "method-wrapper" == Value.type "builtin_function_or_method" || Value.type "method-wrapper" == Value.type "method-wrapper") = true by decide, if_true]
  refine W.KFB.if_so (by decide) ?_
  refine wpAny_bind (ESX.check_bound F.excBase_ValueError hC he rfl ?_)
  refine wpAny_bind (wpAny_pure (wpAny_pure ?_))
  refine ⟨Code.quiet_builtin _ (by decide +kernel), codeAny_builtin F.excBase_ValueError.initEntry ?_⟩
  rw [Around.under_plainId F.excBase_ValueError.init.plain _]
  wp_walk
  refine hq _ h.objs.size (fun b o hb ho => ?_) ?_
  · rw [Heap.get?_update_other _ _ (Ne.symm hb)]
    exact Heap.get?_push_of_some _ ho
  · rw [Heap.get?_update_self _ (Heap.get?_push_of_some _ he) rfl]
    rfl
end
section
variable {prog : Program} {w : World} {A : Around} {E : Value → Shared → Prop} {R : Result → Shared → Prop} {s : Shared} {K : Frag} {mg mb : Str → Option Value} {x f k : Str} {C fI : Addr}
theorem kind_of {f k : Str} {e a : Addr} {q : Str} {cd : Value} {cc : Addr} (N : Nm2 f k) : (ksEnv q (iS f k) e a cd cc).kindOf "super" = some .globalImplicit ∧ (ksEnv q (iS f k) e a cd cc).kindOf "__class__" = some .free ∧ (ksEnv q (iS f k) e a cd cc).kindOf "self" = some .local ∧ (ksEnv q (iS f k) e a cd cc).kindOf f = some .local ∧ (ksEnv q (iS f k) e a cd cc).kindOf k = some .local := by
  have e1 : ∀ y : Str, (ksEnv q (iS f k) e a cd cc).kindOf y = (iS f k).names.lookup y := fun _ => rfl
  have c1 : (PySem.Str.ofString "super" == PySem.Str.ofString "self") = false := by decide
  have c2 : (PySem.Str.ofString "super" == PySem.Str.ofString "__class__") = false := by decide
  have c3 : (PySem.Str.ofString "__class__" == PySem.Str.ofString "self") = false := by decide
  refine ⟨?_, ?_, ?_, ?_, ?_⟩ <;> rw [e1] <;> unfold iS <;> simp only [List.lookup, N.nf.a, N.nf.a', N.nf.b, N.nf.c, N.nk.a, N.nk.a', N.nk.b, N.nk.c, N.kf, c1, c2, c3, beq_self_eq_true]
theorem bs_self {f k : Str} (N : Nm2 f k) {u v v2 : Value} : (([(PySem.Str.ofString "self", u), (f, v), (k, v2)] : List (Str × Value)).reverse.lookup (PySem.Str.ofString "self") = some u) := by
  simp [List.lookup, N.nf.a, N.nk.a]
theorem bs_f {f k : Str} (N : Nm2 f k) {u v v2 : Value} : (([(PySem.Str.ofString "self", u), (f, v), (k, v2)] : List (Str × Value)).reverse.lookup f = some v) := by
  simp [List.lookup, N.fk]
theorem bs_k {f k : Str} (N : Nm2 f k) {u v v2 : Value} : (([(PySem.Str.ofString "self", u), (f, v), (k, v2)] : List (Str × Value)).reverse.lookup k = some v2) := by
  simp [List.lookup]
theorem he_of {o : Expr} {name m : Str} {n : Nat} {apos p3 pos : Pos} {env : Env} (hpl : (apos.endLine == pos.line) = true) : eval (.Call (.Attribute o name apos) [.Constant (.str m) n p3] [] pos) env = (do
      let ov ← attributeBase o name env (eval o env)
      standAt apos.atName
      let (f, first) ← holding [ov] (getMethod ov name (do return (← importBound o env).getD true))
      callWith pos f first (backTo pos (starEach [.Constant (.str m) n p3] env)) []) := by
  have e : methodCallPos true o env apos pos = pure pos := by unfold methodCallPos; rw [hpl]; rfl
  show (attributeBase o name env (eval o env) >>= fun ov => standAt apos.atName >>= fun _ => holding [ov] (getMethod ov name (do return (← importBound o env).getD true)) >>= fun fx => methodCallPos true o env apos pos >>= fun cp => callWith cp fx.1 fx.2 (backTo pos (starEach [.Constant (.str m) n p3] env)) []) = _
  rw [e]
  rfl
theorem sup_init (T : SupTxt2 prog K mg x f k C fI) {e t0 : Addr} {v v2 : Value} (X : K.In s.heap) (hlim : s.heap.NoLimit) (G : s.heap.Ns mainGlobals mg) (hms : mg "super" = none) (B : s.heap.Ns builtinsNs mb) (hmb : mb "super" = some (.type "super"))
    (hx : s.heap.get? e = some (excO C t0)) (hnx : K.lookup e = none) (hroom : A.depth < recursionLimit)
    (hq : ∀ h' tk dx t1, InitEnd s.heap h' e C dx t1 f k v v2 → R (.ok (.ret .none)) { s with heap := h', toks := tk }) :
    codeAny (model prog w) A (.call (.ref fI) ⟨[.ref e, v, v2], []⟩) R s := by
  obtain ⟨oc, od, doc, pm, an, cda, ct, osl, qual, m, n, p1, p2, p3, a0, a1, a2, a3, a4, a5, q1, q2, q3, q4, r1, r2, r3, r4, cc, ho, hcd, hpl, hbd, ⟨cl, cld, csl, hcell⟩, ccl, cdd, vs, ccs, file, tf, hcode, hvs, hfile⟩ := T.fn
  obtain ⟨nm, q, N, bs, bm, sn, sub, ab, col, dd, k0, k1, k2, k3, k5, hC, hbm⟩ := T.cls
  have hcl : clsIn K C = some { name := nm, bases := bs, mro := .ref C :: bm, ns := N, qualname := q, hasDict := true, slotNames := sn, subclasses := sub, abstract := ab, collection := col, hasDel := false } := by unfold clsIn; rw [hC] <;> rfl
  have kd := fun (L : Addr) => kind_of (q := qual) (e := L) (a := fI) (cd := .ref cda) (cc := cc) T.nm
  refine ks_codeAny_call_defAt (fd := ksFn "__init__" qual (iA f k p1 p2 p3) [iSup m n a0 a1 a2 a3 a4 a5, iSt f q1 q2 q3 q4, iSt k r1 r2 r3 r4] (iS f k) .none .none doc pm an (.ref cda) ct cc) (body := [iSup m n a0 a1 a2 a3 a4 a5, iSt f q1 q2 q3 q4, iSt k r1 r2 r3 r4])
    (binds := [(PySem.Str.ofString "self", .ref e), (f, v), (k, v2)]) hroom (X _ _ ho) rfl hlim (codeRec_of X hcd) rfl (hbd _ _ _ _) ?cell ?loc (fun h₁ hns hk => ?_) rfl rfl rfl
  case cell => 
    intro y hy
    simp only [ksFn, fnX, iS, List.mem_cons, List.not_mem_nil, or_false] at hy
    rcases hy with rfl | rfl | rfl | rfl | rfl <;> intro z <;> cases z
  case loc =>
    intro y hy
    simp only [List.mem_cons, List.not_mem_nil, or_false] at hy
    rcases hy with rfl | rfl | rfl
    · exact (kd 0).2.2.1
    · exact (kd 0).2.2.2.1
    · exact (kd 0).2.2.2.2
  have kd := kd s.heap.objs.size
  obtain ⟨hp, g, d, tk, os⟩ := s
  dsimp only at hns hk hx X G B hlim hq ⊢
  have X₁ : K.In h₁ := X.keeps hk
  have hx₁ := hk _ _ hx
  show _root_.PySem.wpAt (model prog w) _ (.func _ (ksEnv qual (iS f k) hp.objs.size fI (.ref cda) cc)) (execs [iSup m n a0 a1 a2 a3 a4 a5, iSt f q1 q2 q3 q4, iSt k r1 r2 r3 r4] (ksEnv qual (iS f k) hp.objs.size fI (.ref cda) cc)) _ _ _
  refine ks_wpAt_execs_cons (ks_wpAt_Expr_any (ks_wpAt_MethodCall ?_ (he_of hpl)))
  refine ks_wpAt_super_base (env := ksEnv qual (iS f k) hp.objs.size fI (.ref cda) cc) kd.1 kd.2.1 (by decide) rfl (X₁ _ _ ho) rfl rfl rfl (X₁ _ _ hcode) rfl hvs hfile T.top ?_
  refine ks_loadName_global rfl kd.1 (loadGlobal_builtin (env := ksEnv qual (iS f k) hp.objs.size fI (.ref cda) cc) (G.keeps hk) hms (B.keeps hk) hmb ⟨rfl, ?_⟩)
  refine wpAny_loadName_free rfl kd.2.1 rfl ⟨_, X₁ _ _ hcell, rfl⟩ ?_
  refine wpAny_loadName_local rfl kd.2.2.1 hns (bs_self T.nm) ?_
  have hCo := X₁ _ _ hC
  refine ks_wpAny_isType_cls hCo rfl ⟨rfl, ?_⟩
  refine ks_wpAny_call_super hCo rfl hx₁ rfl (fun c z => by cases z) (looks_mroIn X₁ T.ms) (fun h₂ hso hk₂ => ?_)
  have X₂ : K.In h₂ := X₁.keeps hk₂
  have hx₂ := hk₂ _ _ hx₁
  have eC : e ≠ C := fun z => by
    rw [z] at hnx
    rw [hnx] at hC
    cases hC
  have I₂ : InstAt h₂ e (excO C t0) C none := ⟨hx₂, rfl, rfl, trivial⟩
  have al := T.along
  unfold ks_superIn at al
  rw [hcl] at al
  refine kxs_getMethod kxs_ValueError (x := e) (D := C) (C := C) hso (looks_opaque X₂ T.op) (l₀ := .ref C :: bm) ?mro rfl X₂ al (I₂.type.andThen (looks_subIn X₂ T.hB)) eC (by decide) ?_
  case mro => exact fun A Q E s k q => wpAny_bind ((looks_clsIn X₂ hcl) A _ E s k (wpAny_pure q))
  have hu : (h₂.push (kxs_mw "ValueError.__init__" e)).get? h₂.objs.size = some (kxs_mw "ValueError.__init__" e) := Heap.get?_push_at rfl rfl
  have hk₃ : ∀ b o, h₂.get? b = some o → (h₂.push (kxs_mw "ValueError.__init__" e)).get? b = some o := fun b o z => Heap.get?_push_of_some _ z
  refine kxs_callWith (i := "ValueError.__init__") (x := e) (by rfl) (evalArgs_plain ?_)
  refine Calls.spliced_cons (Calls.Constant_str (k := n) (pos := a3) (Calls.spliced_nil ⟨hu, ?_⟩))
  refine call_mw (hk₃ _ _ (hk₂ _ _ hCo)) (hk₃ _ _ hx₂) hu (by show 1 ≤ sizeLine; rw [sizeLine_eq]; decide) (fun h₄ t1 hk₄ hx₄ => ?_)
  have keep : ∀ b o, b ≠ e → hp.get? b = some o → h₄.get? b = some o := fun b o nb z => hk₄ b o nb (hk₃ _ _ (hk₂ _ _ (hk _ _ z)))
  have X₄ : K.In h₄ := fun b o z => keep b o (fun q => by rw [q, hnx] at z; cases z) (X b o z)
  have neL : hp.objs.size ≠ e := Nat.ne_of_gt (Heap.lt_size hx)
  have hns₄ : h₄.Ns hp.objs.size (fun y => ([(PySem.Str.ofString "self", Value.ref e), (f, v), (k, v2)] : List (Str × Value)).reverse.lookup y) := by
    obtain ⟨oL, es, ep, hL, r⟩ := hns
    exact ⟨oL, es, ep, hk₄ _ _ neL (hk₃ _ _ (hk₂ _ _ hL)), r⟩
  refine ks_wpAt_execs_cons (wpAt_of_wpAny ?_)
  refine plainObj_wpAny_Assign_Attribute (wpAny_Name (wpAny_loadName_local rfl kd.2.2.2.1 hns₄ (bs_f T.nm) (wpAny_Name (wpAny_loadName_local rfl kd.2.2.1 hns₄ (bs_self T.nm) ?_) (by decide))) T.nm.nf.d) (by rfl)
  refine set_plain X₄ (ox := excO C t1) (od := none) ⟨hx₄, rfl, rfl, trivial⟩ T.sa ?_
  refine exc_osa X₄ hx₄ hcl (show refsVE (.ref C :: bm) = true from hbm) rfl T.noN (fun h₅ tk₅ dx k₅ dn dne hx₅ hn₅ => ?_)
  have lt4 : hp.objs.size < h₄.objs.size := hns₄.lt
  have X₅ : K.In h₅ := fun b o z => k₅ b o (fun q => by rw [q, hnx] at z; cases z) (X₄ b o z)
  have neD : hp.objs.size ≠ dx := fun z => by rw [z] at lt4; exact absurd (Nat.lt_of_lt_of_le lt4 dn) (Nat.lt_irrefl _)
  have hns₅ : h₅.Ns hp.objs.size (fun y => ([(PySem.Str.ofString "self", Value.ref e), (f, v), (k, v2)] : List (Str × Value)).reverse.lookup y) := by
    obtain ⟨oL, es, ep, hL, r⟩ := hns₄
    exact ⟨oL, es, ep, k₅ _ _ neL hL, r⟩
  refine ks_wpAt_execs_cons (wpAt_of_wpAny ?_)
  refine plainObj_wpAny_Assign_Attribute (wpAny_Name (wpAny_loadName_local rfl kd.2.2.2.2 hns₅ (bs_k T.nm) (wpAny_Name (wpAny_loadName_local rfl kd.2.2.1 hns₅ (bs_self T.nm) ?_) (by decide))) T.nm.nk.d) (by rfl)
  obtain ⟨oD, _, _, hoD, _⟩ := id hn₅
  refine set_plain X₅ (ox := { cls := .ref C, dict := some dx, data := .fields #[.ref t1, .none, .none, .none, .bool false, .none] }) (od := some oD) ⟨hx₅, rfl, rfl, hoD⟩ T.sa ?_
  refine PySem.OEX.osa_old (nl := [f]) X₅ hx₅ hn₅ ?wi (by show 1 ≤ 1000; decide) hcl (show refsVE (.ref C :: bm) = true from hbm) rfl T.noK (fun h₆ tk₆ k₆ hn₆ => ?_)
  case wi =>
    intro y hy
    have hy : (if y = f then some v else none) ≠ none := hy
    by_cases q : y = f
    · exact List.mem_singleton.mpr q
    · rw [if_neg q] at hy; exact absurd rfl hy
  refine wpAt_of_wpAny (wpAny_execs_nil (hq h₆ tk₆ dx t1 ⟨fun b o hb z => k₆ b o (fun q => by
    have lt5 : b < hp.objs.size := Heap.lt_size z
    rw [q] at lt5
    exact absurd (Nat.lt_of_lt_of_le (Nat.lt_trans lt5 lt4) dn) (Nat.lt_irrefl _)) (k₅ b o hb (keep b o hb z)), k₆ _ _ (Ne.symm dne) hx₅, Nat.le_of_lt (Nat.lt_of_lt_of_le lt4 dn), dne, hn₆⟩))
theorem sup_made (T : SupTxt2 prog K mg x f k C fI) {v v2 : Value} (X : K.In s.heap) (hlim : s.heap.NoLimit) (G : s.heap.Ns mainGlobals mg) (hms : mg "super" = none) (B : s.heap.Ns builtinsNs mb) (hmb : mb "super" = some (.type "super")) (hroom : A.depth + 1 < recursionLimit)
    (hq : ∀ h' tk e d, OwnMade s.heap h' e C d f k v v2 → R (.ok (.ret (.ref e))) { s with heap := h', toks := tk }) :
    codeAny (model prog w) A (.call (.ref C) ⟨[v, v2], []⟩) R s := by
  obtain ⟨nm, q, N, bs, bm, sn, sub, ab, col, dd, k0, k1, k2, k3, k5, hC, hbm⟩ := T.cls
  obtain ⟨hp, g, dr, tk, os⟩ := s
  have k : ∀ b o, hp.get? b = some o → ((hp.push (kdv_tup [v, v2])).push (excO C hp.objs.size)).get? b = some o := fun b o e => Heap.get?_push_of_some _ (Heap.get?_push_of_some _ e)
  have hget : ((hp.push (kdv_tup [v, v2])).push (excO C hp.objs.size)).get? (hp.objs.size + 1) = some (excO C hp.objs.size) := by heap_get
  have hnx : K.lookup (hp.objs.size + 1) = none := by
    cases e : K.lookup (hp.objs.size + 1) with
    | none => rfl
    | some o =>
      have z : hp.get? (hp.objs.size + 1) = some o := X _ _ e
      exact absurd (Nat.lt_of_succ_lt (Heap.lt_size z)) (Nat.lt_irrefl _)
  refine call_own F.excBase_ValueError (fun X => refsVE_contains X bm hbm) (X _ _ hC) (looks_findIn X T.iC) (fun self => bind_fn X self T.tC) (by show 2 ≤ sizeLine; rw [sizeLine_eq]; decide) ?_
  refine sup_init (s := ⟨(hp.push (kdv_tup [v, v2])).push (excO C hp.objs.size), g, dr, tk, os⟩) T (X.keeps k) (hlim.keeps k) (G.keeps k) hms (B.keeps k) hmb hget hnx ?_ fun h' tk' dx t1 ⟨k', hx, dn, dne, hns⟩ => ?_
  · show A.depth + 1 < recursionLimit
    exact hroom
  · have old : ∀ b o, hp.get? b = some o → h'.get? b = some o := fun b o e => k' b o (Nat.ne_of_lt (Nat.lt_succ_of_lt (Heap.lt_size e))) (k b o e)
    have z : hp.objs.size + 1 + 1 ≤ dx := by
      first
        | (simpa only [Heap.size_push] using dn)
        | exact dn
        | (have q := dn; rw [Heap.size_push, Heap.size_push] at q; exact q)
    exact ⟨rfl, hq h' tk' (hp.objs.size + 1) dx ⟨old, Nat.le_succ _, ⟨_, _, hx, rfl, rfl, rfl, rfl⟩, Nat.le_trans (Nat.le_trans (Nat.le_succ _) (Nat.le_succ _)) z, dne, hns⟩⟩
end
end SupY
end PySem
namespace Lw
open PySem L2 PySem.Spec PyProof.Rows
section
variable {X : Cx} {C fI : Addr} {x f k : Str}
theorem relO_fk {f k : Str} {v v2 : V} {v' v2' : Value} (ne : k ≠ f) (r : RelV v v') (r2 : RelV v2 v2') (g : Str) : RelO (List.lookup g [(f, v), (k, v2)]) (if g = k then some v2' else if g = f then some v' else none) := by
  by_cases hk : g = k
  · subst hk
    rw [if_pos rfl]
    have q : List.lookup g [(f, v), (g, v2)] = some v2 := by
      have : (g == f) = false := by simpa using ne
      simp [List.lookup, this]
    rw [q]
    exact r2
  · rw [if_neg hk]
    by_cases hw : g = f
    · subst hw
      rw [if_pos rfl]
      have q : List.lookup g [(g, v), (k, v2)] = some v := by simp [List.lookup]
      rw [q]
      exact r
    · rw [if_neg hw]
      have qw : (g == f) = false := by simpa using hw
      have qk : (g == k) = false := by simpa using hk
      have q2 : List.lookup g [(f, v), (k, v2)] = none := by simp [List.lookup, qw, qk]
      rw [q2]
      trivial
/-- x(e, e2) -/
def tMkS2 (C : Addr) (f k : Str) (ta : TA) : L2.St → Hp → XK → Prop := fun σ H Q => ta σ H fun vs H1 => ∃ v v2, vs = [v, v2] ∧ ∀ d, H1 d = none → Q (.ref C) (some d) (upd H1 d (.xd [(f, v), (k, v2)]))
theorem pmk_sup2 {a a2 : Expr} {ta : TA} {p pos : Pos} {j : Nat} (T : PySem.SupY.SupTxt2 X.prog X.K X.mg x f k C fI) (hr : Room j X.A) (ha : PA X [a, a2] ta) (hg : Gl X x := by rfl) (hdb : (x == ("__debug__" : Str)) = false := by decide)
    (he : starEach (a :: [a2]) X.env = (false, eval a X.env) :: starEach [a2] X.env := by rfl) (hpl : (backTo pos (starEach [a2] X.env)).any (·.1) = false := by rfl) :
    PMk X (.Call (.Name x p) [a, a2] [] pos) (tMkS2 C f k ta) := by
  intro pins s σ H Q I h
  refine wpAny_Call_Name_kw (ld_glob I hg T.gC ?_ hdb)
  refine PySem.W.callWith_K (h₀ := X.base) I.ok.mod.kin T.kC (thn (ha.run pos pins s σ H _ I h) fun us s1 hh => ?_) he hpl
  obtain ⟨vs, H1, I1, r1, v, v2, ev, q1⟩ := hh
  subst ev
  refine ⟨I1.kIn, ?_⟩
  obtain ⟨v', v2', rfl, rv, rv2⟩ := r1.two
  show wpAny _ _ (call (.ref C) [v', v2']) _ _ _
  have hlim := I1.nolimit
  obtain ⟨mb, hb1, hb2⟩ := I1.mod.blt
  have hms : X.mg "super" = none := PySem.W.mg_none_of I1.ok.mod.kin I1.mod.glob T.su
  have hG := I1.mod.glob.keeps I1.bk
  have hB := hb1.keeps I1.bk
  have hmb : mb "super" = some (.type "super") := (hb2 "super" (by decide)).trans (by first | boot_by_name | rfl | kernel_rfl)
  obtain ⟨hp, g, dr, tk, os⟩ := s1
  refine wpAny_call (PySem.SupY.sup_made T I1.kIn hlim hG hms hB hmb (by have := hr.dp; omega) fun h' tk' e d M => ?_)
  show MkP X pins σ Q (.ref e) ⟨h', g, dr, tk', os⟩
  obtain ⟨oe, fv, hoe, hc, hd, hdat, h1⟩ := M.obj
  have hns := M.ns
  obtain ⟨G', g1, g2⟩ := restrict h' fun b => decide (b ≠ e)
  have gk : ∀ b, b ≠ e → G'.get? b = h'.get? b := fun b hb => g1 b (decide_eq_true hb)
  have ge : G'.get? e = none := g2 e (by simp)
  have old : ∀ b o, hp.get? b = some o → G'.get? b = some o := fun b o q => (gk b (Nat.ne_of_lt (Nat.lt_of_lt_of_le (Heap.lt_size q) M.new))).trans (M.keep b o q)
  have ob : ObjOk X.prog X.w (upd H1 d (.xd [(f, v), (k, v2)])) G' d (.xd [(f, v), (k, v2)]) :=
    ⟨_, hns.at (fun o q => (gk d M.dne).trans q), fun g => relO_fk T.nm.ne rv rv2 g⟩
  have J : Inv X pins σ (upd H1 d (.xd [(f, v), (k, v2)])) ⟨G', g, dr, tk', os⟩ := I1.laid (t' := tk') old M.dbig ob
  refine ⟨e, oe, fv, ⟨G', g, dr, tk', os⟩, _, .ref C, some d, rfl, J, fun b o q => ?_, ge, hoe, ⟨hc, hd⟩, hdat, h1, ?_, rfl, I1.bare, raises_own T.exC T.tyC, q1 d (I1.hok.fresh M.dbig)⟩
  · by_cases hb : b = e
    · have q' : G'.get? b = some o := q
      rw [hb, ge] at q'; cases q'
    · exact (gk b hb).symm.trans q
  · rw [upd_ne (Ne.symm M.dne)]
    exact I1.hok.fresh M.new
/-- raise x(e, e2) -/
def tRaiseS2 (C : Addr) (f k : Str) (W : WX) (ta : TA) : TS := fun _ σ H => tMkS2 C f k ta σ H fun cls d H' => W cls d σ H'
theorem ps_raiseS2 {a a2 : Expr} {ta : TA} {W : WX} {p pos pos2 : Pos} {j : Nat} (hc : X.calm = true) (T : PySem.SupY.SupTxt2 X.prog X.K X.mg x f k C fI) (hr : Room j X.A) (tk : Takes X W) (ha : PA X [a, a2] ta) (hg : Gl X x := by rfl) (hdb : (x == ("__debug__" : Str)) = false := by decide)
    (he : starEach (a :: [a2]) X.env = (false, eval a X.env) :: starEach [a2] X.env := by rfl) (hpl : (backTo pos (starEach [a2] X.env)).any (·.1) = false := by rfl) :
    PS X (.Raise (some (.Call (.Name x p) [a, a2] [] pos)) none pos2) (tRaiseS2 C f k W ta) := ps_raise hc tk (pmk_sup2 T hr ha hg hdb he hpl)
end
end Lw

/-! Lk: own classes: made with keywords, fields stored and read. -/
namespace Lw
open PySem L2 PySem.Spec PyProof.Rows
/-- C(.., k = v, ..), what is raised being wished for at the caller's slots -/
def tMakeKS (C : Addr) (n m : Nat) (sp : Sp) (gV : List V → List V → List V) (E : L2.St → XK) (t tk : TA) : TE := fun σ H Q => t σ H fun vs H1 => tk σ H1 fun zs H2 => vs.length = n ∧ zs.length = m ∧ ∀ x dx, H2 x = none → H2 dx = none → dx ≠ x →
  sp (gV (.ref x :: vs) zs) (upd (upd H2 dx (.own x)) x (.ins C dx [])) (fun v H3 => v = .non ∧ Q (.ref x) H3) (E σ)
section
variable {X : Cx} {CX : CXT} {k n : Nat} {f C : Addr} {fd : FuncData} {ps ks : List Str} {sp : Sp} {E : L2.St → XK} {x : Str} {p pos : Pos} {e : Expr} {es : List Expr} {kws : List Keyword} {t tk : TA} {g : List Value → List Value → List Value} {gV : List V → List V → List V}
theorem run_makeKS {pins : List (Addr × Obj)} {σ : L2.St} {H : Hp} {s : Shared} {Q : VK} {us ws : List Value} {vs zs : List V} (M : Mk X.K C f) (F : FnOk X.prog X.w X.K X.mg X.base CX k f fd ps sp) (hr : Room (k + 1) X.A) (hb : KBn X.K fd ps (n + 1) ks g gV) (hx : PassesAt CX X σ (E σ))
    (I : Inv X pins σ H s) (r : Vals vs us) (rz : Vals zs ws) (l1 : vs.length = n) (l2 : zs.length = ks.length)
    (h : ∀ x dx, H x = none → H dx = none → dx ≠ x → sp (gV (.ref x :: vs) zs) (upd (upd H dx (.own x)) x (.ins C dx [])) (fun v H2 => v = .non ∧ Q (.ref x) H2) (E σ)) :
    wpAny (model X.prog X.w) X.A (call (.ref C) us (ks.zip ws)) (EP X pins σ Q) X.xe s := by
  have hq := h (s.heap.objs.size + 1) s.heap.objs.size (I.hok.fresh (Nat.le_succ _)) (I.hok.fresh (Nat.le_refl _)) (Nat.ne_of_lt (Nat.lt_succ_self _))
  have I2 := Inv.made (C := C) I
  have r1 : Vals (V.ref (s.heap.objs.size + 1) :: vs) (Value.ref (s.heap.objs.size + 1) :: us) := .cons rfl r
  have r2 := hb.rel r1 rz
  have n1 : (Value.ref (s.heap.objs.size + 1) :: us).length = n + 1 := by
    rw [List.length_cons, ← r.length, l1]
  refine wpAny_call (make_map (f := f) I.kIn M.makes M.init (beq_iff_eq.mp M.fn) (codeAny_mono (F.run _ X.stack _ _ ⟨Value.ref (s.heap.objs.size + 1) :: us, ks.zip ws⟩ (g (Value.ref (s.heap.objs.size + 1) :: us) ws) _ _ (E σ) (hr.make C us (ks.zip ws))
    (I2.env0.make C us (ks.zip ws)) (hb.to _ (Value.ref (s.heap.objs.size + 1) :: us) ws I2.kIn n1 (rz.length.symm.trans l2)) r2 hq) fun r s' hq' => ?_))
  cases r with
  | error e => exact hx pins _ _ e s' I2 hq'
  | ok fl =>
    cases fl with
    | ret u =>
      obtain ⟨v, H', I3, rv, ev, q3⟩ := I2.after hq'
      subst ev
      exact ⟨rv, ⟨V.ref (s.heap.objs.size + 1), H', I3, rfl, q3⟩⟩
    | next => exact False.elim hq'
    | brk => exact False.elim hq'
    | cont => exact False.elim hq'
theorem pe_makeKS (M : Mk X.K C f) (F : FnOk X.prog X.w X.K X.mg X.base CX k f fd ps sp) (hr : Room (k + 1) X.A) (hg : Gl X x) (hm : X.mg x = some (.ref C)) (hb : KBn X.K fd ps (n + 1) ks g gV) (hx : ∀ σ, PassesAt CX X σ (E σ)) (ha : PA X (e :: es) t) (hkw : PK X kws tk)
    (hall : (backToKw pos (keywordEach kws X.env)).all (·.1.isSome) = true := by rfl) (hks : (backToKw pos (keywordEach kws X.env)).filterMap (·.1) = ks := by rfl) (hdb : (x == ("__debug__" : Str)) = false := by decide)
    (he : starEach (e :: es) X.env = (false, eval e X.env) :: starEach es X.env := by rfl) (hpl : ((backTo pos (starEach (e :: es) X.env)).any (·.1) || (backToKw pos (keywordEach kws X.env)).any (·.1.isNone)) = false := by rfl) :
    PE X (.Call (.Name x p) (e :: es) kws pos) (tMakeKS C n ks.length sp gV E t tk) := by
  refine ⟨fun pins s σ H Q I h => ?_⟩
  refine wpAny_Call_Name_kw (ld_glob I hg hm ?_ hdb)
  refine PySem.W.callWith_KW (h₀ := X.base) I.ok.mod.kin M.kp hall (thn (ha.run pos pins s σ H _ I h) fun us s1 ⟨vs, H1, I1, r, q⟩ => ?_) hpl he
  refine thn (hkw.run pos pins s1 σ H1 _ I1 q) fun ws s2 ⟨zs, H2, I2, rz, l1, l2, q2⟩ => ⟨I2.kIn, ?_⟩
  rw [hks]
  exact run_makeKS M F hr hb (hx σ) I2 r rz l1 l2 q2
end
section
variable {K : PySem.W.Frag} {W : Wd} {H H0 H1 H2 : Hp} {a p : Addr} {xs ys vs zs : List V} {v x y : V} {d e : PyData} {ds : List PyData} {Q : VK} {σ : L2.St} {D : Ends} {i : Int} {b : Bool} {n m : Nat} {f : Str} {C dx : Addr} {fs : List (Str × V)}
variable {ta tb te tv : TE} {tr tk : TA} {t : TS} {sp : Sp} {gV : List V → List V → List V} {E : L2.St → XK}
mutual
theorem DW.keep (kl : ∀ q us, At W H q (.lst us) → At W H1 q (.lst us)) (kt : ∀ q us, At W H q (.tup us) → At W H1 q (.tup us)) : ∀ {v : V} {d : PyData}, DW K W H v d → DW K W H1 v d
  | _, _, .non => .non
  | _, _, .bl b => .bl b
  | _, _, .int i => .int i
  | _, _, .str s => .str s
  | _, _, .lst h t => .lst (kl _ _ h) (DWs.keep kl kt t)
  | _, _, .tup h t => .tup (h.imp (kt _ _) id) (DWs.keep kl kt t)
theorem DWs.keep (kl : ∀ q us, At W H q (.lst us) → At W H1 q (.lst us)) (kt : ∀ q us, At W H q (.tup us) → At W H1 q (.tup us)) : ∀ {vs : List V} {ds : List PyData}, DWs K W H vs ds → DWs K W H1 vs ds
  | _, _, .nil => .nil
  | _, _, .cons a t => .cons (DW.keep kl kt a) (DWs.keep kl kt t)
end
theorem rd_mkS (h : tr σ H fun vs H1 => tk σ H1 fun zs H2 => vs.length = n ∧ zs.length = m ∧ ∀ x dx, H2 x = none → H2 dx = none → dx ≠ x → sp (gV (.ref x :: vs) zs) (upd (upd H2 dx (.own x)) x (.ins C dx [])) (fun v H3 => v = .non ∧ Q (.ref x) H3) (E σ)) : tMakeKS C n m sp gV E tr tk σ H Q := h
/-- a new instance: what its __init__ finds -/
theorem rd_mkN {sp' : V → Hp → Prop} (i : W.iv H) (k : ∀ x dx H3, H x = none → Ex W H H3 → At W H3 x (.ins C dx []) → sp' (.ref x) H3) : ∀ x dx, H x = none → H dx = none → dx ≠ x → sp' (.ref x) (upd (upd H dx (.own x)) x (.ins C dx [])) := fun x dx hx hd ne => by
  have e1 : Ex W H (upd H dx (.own x)) := Ex.new i hd
  have n1 : (upd H dx (.own x)) x = none := by rw [upd_ne (Ne.symm ne)]; exact hx
  exact k x dx _ hx (e1.trans (Ex.new e1.iv n1)) (At.new e1.iv n1)
theorem rd_sfld (h : tv σ H fun y H1 => ta σ H1 fun x H2 => ∃ a C dx fs, x = .ref a ∧ H2 a = some (.ins C dx fs) ∧ Cls K C ∧ NoAttr K C f ∧ fs.length < 1000 ∧ D.nx σ (upd H2 a (.ins C dx (putF f y fs)))) : sFld K ta tv f D σ H := h
/-- o.f = v, o an instance of our own -/
theorem rd_sfldA {P : Hp → Prop} (ex : Ex W H0 H) (h0 : H0 a = none) (h : At W H a (.ins C dx fs)) (c : Cls K C) (na : NoAttr K C f) (hl : fs.length < 1000)
    (k : ∀ H2, Ex W H0 H2 → At W H2 a (.ins C dx (putF f y fs)) → (∀ {v : V} {d : PyData}, DW K W H v d → DW K W H2 v d) → (∀ q o, q ≠ a → At W H q o → At W H2 q o) → P H2) :
    ∃ a' C dx fs, V.ref a = .ref a' ∧ H a' = some (.ins C dx fs) ∧ Cls K C ∧ NoAttr K C f ∧ fs.length < 1000 ∧ P (upd H a' (.ins C dx (putF f y fs))) :=
  ⟨a, C, dx, fs, rfl, h.1, c, na, hl, k _ (ex.mut h0 h) (.mut ex.iv h) (fun {v d} w => w.keep (fun q us hq => .other ex.iv h hq (hq.ne h fun z => by cases z)) (fun q us hq => .other ex.iv h hq (hq.ne h fun z => by cases z))) fun _ _ ne q => .other ex.iv h q ne⟩
/-- raise x(e, e2) -/
theorem rd_raiseS2 {C : Addr} {f k : Str} {Wx : WX} (h : tr σ H fun vs H1 => ∃ v v2, vs = [v, v2] ∧ ∀ d, H1 d = none → Wx (.ref C) (some d) σ (upd H1 d (.xd [(f, v), (k, v2)]))) : tRaiseS2 C f k Wx tr D σ H := h
theorem rd_newX2 {C : Addr} {f k : Str} {Wx : WX} (i : W.iv H) (q : ∀ d H2, Ex W H H2 → At W H2 d (.xd [(f, v), (k, x)]) → Wx (.ref C) (some d) σ H2) : ∃ v' x', [v, x] = [v', x'] ∧ ∀ d, H d = none → Wx (.ref C) (some d) σ (upd H d (.xd [(f, v'), (k, x')])) :=
  ⟨v, x, rfl, fun d hd => q d _ (Ex.new i hd) (At.new i hd)⟩
end
/-- a method of a builtin, the frozen part by its name (in a try: its reading must not name what the suite brings) -/
theorem pe_bmK {X : Cx} {K : PySem.W.Frag} {e : Expr} {T : String} {r : V → List V → Hp → VK → Prop} {to : TE} {t : TA} (h : X.K = K) (p : PE X e (tBM X.K T r to t)) : PE X e (tBM K T r to t) := h ▸ p
section
variable {K : PySem.W.Frag} {W : Wd} {H H0 : Hp} {a : Addr} {xs : List V} {σ : L2.St} {D : Ends} {m : Nat} {g : TG} {tS : TS}
/-- for i, x in enumerate(xs), xs a name: what is walked stood before (at H0), while the loop changes things made since -/
theorem for_eB0 (e0 : Ex W H0 H) (hv : σ[m]? = some (some (.ref a))) (h : SqB K W H0 a xs) (Pv : Nat → L2.St → Hp → Prop) (h0 : Pv 0 σ H) (hg : ∀ i σ' H', Pv i σ' H' → Ex W H0 H')
    (hs : ∀ i x T σ' H1 H', xs[i]? = some x → Pv i σ' H1 → H1 T = none → Ex W H1 H' → At W H' T (.tup [.int ((i : Nat) : Int), x]) → g (.ref T) σ' H' fun σ2 H2 => tS { D with nx := Pv (i + 1), ct := Pv (i + 1), bk := D.nx } σ2 H2)
    (hd : ∀ σ' H', Pv xs.length σ' H' → D.nx σ' H') : tFor (fun σ H R => iEnum K (tCons (tVar m) tNil) σ H R ∨ iEnumT K (tCons (tVar m) tNil) σ H R) g tS D σ H := by
  rcases h with h | h
  · refine .inl ⟨.ref a, hv, a, xs, rfl, (e0.at_ h).sl, ?_⟩
    refine for_it (walk_enum (xs := xs)) Pv h0 (fun i σ H _ p => ((hg i σ H p).at_ h).sl) (fun i x σ H H' hi p y => ?_) hd
    obtain ⟨T, x1, x2, rfl, hT, rfl, e1, e2⟩ := y
    cases e1
    exact hs i x2 T σ H _ e2 p hT (Ex.new (hg i σ H p).iv hT) (At.new (hg i σ H p).iv hT)
  · refine .inr ⟨.ref a, hv, a, xs, rfl, (h.ex e0).sq, ?_⟩
    refine for_it (walk_enumT (xs := xs)) Pv h0 (fun i σ H _ p => (h.ex (hg i σ H p)).sq) (fun i x σ H H' hi p y => ?_) hd
    obtain ⟨T, x1, x2, rfl, hT, rfl, e1, e2⟩ := y
    cases e1
    have z := hs i x2 T σ H (upd H T (.tup [.int ((i : Nat) : Int), x2])) e2 p hT (Ex.new (hg i σ H p).iv hT) (At.new (hg i σ H p).iv hT)
    rwa [show (0 + ((i : Nat) : Int)) = (i : Int) from Int.zero_add _]
end
theorem kwd_cons {K : PySem.W.Frag} {D : Addr} {p : Str × V} {kws : List (Str × V)} (h : ∃ u, PySem.W.nsIn K D p.1 = some (some u) ∧ RelV p.2 u) (t : ∀ q ∈ kws, ∃ u, PySem.W.nsIn K D q.1 = some (some u) ∧ RelV q.2 u) : ∀ q ∈ p :: kws, ∃ u, PySem.W.nsIn K D q.1 = some (some u) ∧ RelV q.2 u := fun q hq => by
  rcases List.mem_cons.mp hq with rfl | hq
  · exact h
  · exact t q hq
end Lw

namespace K09
open PySem L2 Lw TL
def top (i : Nat) : Stmt := PySem.Challenge.pw_capstead_k09_raises_checked.main.body.getD i (.Pass ⟨0, 0, 0, 0⟩)

abbrev s_is_integer : Stmt := top 12
abbrev N_is_integer : List Str := ["value"]
theorem sc_is_integer : FnScope N_is_integer ["value"] (defScope s_is_integer) := ⟨rfl, rfl, rfl, by decide +kernel, rfl, by decide +kernel, by decide +kernel⟩
abbrev s_is_word : Stmt := top 13
abbrev N_is_word : List Str := ["value"]
theorem sc_is_word : FnScope N_is_word ["value"] (defScope s_is_word) := ⟨rfl, rfl, rfl, by decide +kernel, rfl, by decide +kernel, by decide +kernel⟩
abbrev s_is_kind : Stmt := top 14
abbrev N_is_kind : List Str := ["kind"]
theorem sc_is_kind : FnScope N_is_kind ["kind"] (defScope s_is_kind) := ⟨rfl, rfl, rfl, by decide +kernel, rfl, by decide +kernel, by decide +kernel⟩
abbrev s_in_order : Stmt := top 15
abbrev N_in_order : List Str := ["kind", "letters", "place", "letter", "found"]
theorem sc_in_order : FnScope N_in_order ["kind", "letters"] (defScope s_in_order) := ⟨rfl, rfl, rfl, by decide +kernel, rfl, by decide +kernel, by decide +kernel⟩
abbrev s_is_row : Stmt := top 20
abbrev N_is_row : List Str := ["value"]
theorem sc_is_row : FnScope N_is_row ["value"] (defScope s_is_row) := ⟨rfl, rfl, rfl, by decide +kernel, rfl, by decide +kernel, by decide +kernel⟩
abbrev s_bound : Stmt := top 21
abbrev N_bound : List Str := ["role", "length"]
theorem sc_bound : FnScope N_bound ["role", "length"] (defScope s_bound) := ⟨rfl, rfl, rfl, by decide +kernel, rfl, by decide +kernel, by decide +kernel⟩
abbrev s_fits : Stmt := top 22
abbrev N_fits : List Str := ["part", "role", "length"]
theorem sc_fits : FnScope N_fits ["part", "role", "length"] (defScope s_fits) := ⟨rfl, rfl, rfl, by decide +kernel, rfl, by decide +kernel, by decide +kernel⟩
abbrev s_is_instruction : Stmt := top 23
abbrev N_is_instruction : List Str := ["item", "length", "roles", "at", "role"]
theorem sc_is_instruction : FnScope N_is_instruction ["item", "length"] (defScope s_is_instruction) := ⟨rfl, rfl, rfl, by decide +kernel, rfl, by decide +kernel, by decide +kernel⟩
abbrev s_check_program : Stmt := top 24
abbrev N_check_program : List Str := ["value", "index", "item"]
theorem sc_check_program : FnScope N_check_program ["value"] (defScope s_check_program) := ⟨rfl, rfl, rfl, by decide +kernel, rfl, by decide +kernel, by decide +kernel⟩
abbrev s_kind_counts : Stmt := top 26
abbrev N_kind_counts : List Str := ["setup"]
theorem sc_kind_counts : FnScope N_kind_counts ["setup"] (defScope s_kind_counts) := ⟨rfl, rfl, rfl, by decide +kernel, rfl, by decide +kernel, by decide +kernel⟩
abbrev s_kind_of : Stmt := top 27
abbrev N_kind_of : List Str := ["thing"]
theorem sc_kind_of : FnScope N_kind_of ["thing"] (defScope s_kind_of) := ⟨rfl, rfl, rfl, by decide +kernel, rfl, by decide +kernel, by decide +kernel⟩
abbrev s_is_thing : Stmt := top 28
abbrev N_is_thing : List Str := ["setup", "thing", "word", "number", "kind", "many"]
theorem sc_is_thing : FnScope N_is_thing ["setup", "thing"] (defScope s_is_thing) := ⟨rfl, rfl, rfl, by decide +kernel, rfl, by decide +kernel, by decide +kernel⟩
abbrev s_is_between : Stmt := top 43
abbrev N_is_between : List Str := ["value", "low", "high"]
theorem sc_is_between : FnScope N_is_between ["value", "low", "high"] (defScope s_is_between) := ⟨rfl, rfl, rfl, by decide +kernel, rfl, by decide +kernel, by decide +kernel⟩
abbrev s_free_price : Stmt := top 44
abbrev N_free_price : List Str := ["processes", "slots", "windows"]
theorem sc_free_price : FnScope N_free_price ["processes", "slots", "windows"] (defScope s_free_price) := ⟨rfl, rfl, rfl, by decide +kernel, rfl, by decide +kernel, by decide +kernel⟩
abbrev s_least_ticks : Stmt := top 45
abbrev N_least_ticks : List Str := ["processes", "slots", "windows"]
theorem sc_least_ticks : FnScope N_least_ticks ["processes", "slots", "windows"] (defScope s_least_ticks) := ⟨rfl, rfl, rfl, by decide +kernel, rfl, by decide +kernel, by decide +kernel⟩
abbrev s_checked_number : Stmt := top 46
abbrev N_checked_number : List Str := ["field", "value", "low", "high"]
theorem sc_checked_number : FnScope N_checked_number ["field", "value", "low", "high"] (defScope s_checked_number) := ⟨rfl, rfl, rfl, by decide +kernel, rfl, by decide +kernel, by decide +kernel⟩
abbrev s_checked_programs : Stmt := top 47
abbrev N_checked_programs : List Str := ["programs", "found", "at", "program"]
theorem sc_checked_programs : FnScope N_checked_programs ["programs"] (defScope s_checked_programs) := ⟨rfl, rfl, rfl, by decide +kernel, rfl, by decide +kernel, by decide +kernel⟩
abbrev s_is_turn : Stmt := top 48
abbrev N_is_turn : List Str := ["value", "processes", "least"]
theorem sc_is_turn : FnScope N_is_turn ["value", "processes", "least"] (defScope s_is_turn) := ⟨rfl, rfl, rfl, by decide +kernel, rfl, by decide +kernel, by decide +kernel⟩
abbrev s_checked_turns : Stmt := top 49
abbrev N_checked_turns : List Str := ["turns", "processes", "least", "at", "turn", "owners", "process"]
theorem sc_checked_turns : FnScope N_checked_turns ["turns", "processes", "least"] (defScope s_checked_turns) := ⟨rfl, rfl, rfl, by decide +kernel, rfl, by decide +kernel, by decide +kernel⟩
abbrev s_checked_quotas : Stmt := top 50
abbrev N_checked_quotas : List Str := ["quotas", "processes", "process", "quota"]
theorem sc_checked_quotas : FnScope N_checked_quotas ["quotas", "processes"] (defScope s_checked_quotas) := ⟨rfl, rfl, rfl, by decide +kernel, rfl, by decide +kernel, by decide +kernel⟩
abbrev s_is_data : Stmt := top 51
abbrev N_is_data : List Str := ["value", "item"]
theorem sc_is_data : FnScope N_is_data ["value"] (defScope s_is_data) := ⟨rfl, rfl, rfl, by decide +kernel, rfl, by decide +kernel, by decide +kernel⟩
abbrev s_checked_data : Stmt := top 52
abbrev N_checked_data : List Str := ["data", "processes", "process", "words"]
theorem sc_checked_data : FnScope N_checked_data ["data", "processes"] (defScope s_checked_data) := ⟨rfl, rfl, rfl, by decide +kernel, rfl, by decide +kernel, by decide +kernel⟩
abbrev s_checked_lines : Stmt := top 53
abbrev N_checked_lines : List Str := ["lines", "bells", "line", "bell"]
theorem sc_checked_lines : FnScope N_checked_lines ["lines", "bells"] (defScope s_checked_lines) := ⟨rfl, rfl, rfl, by decide +kernel, rfl, by decide +kernel, by decide +kernel⟩
abbrev s_right_row : Stmt := top 54
abbrev N_right_row : List Str := ["setup", "value", "process", "slot", "thing", "letters", "parent"]
theorem sc_right_row : FnScope N_right_row ["setup", "value"] (defScope s_right_row) := ⟨rfl, rfl, rfl, by decide +kernel, rfl, by decide +kernel, by decide +kernel⟩
abbrev s_fits_parent : Stmt := top 55
abbrev N_fits_parent : List Str := ["row", "earlier", "parent", "above", "letter"]
theorem sc_fits_parent : FnScope N_fits_parent ["row", "earlier"] (defScope s_fits_parent) := ⟨rfl, rfl, rfl, by decide +kernel, rfl, by decide +kernel, by decide +kernel⟩
abbrev s_checked_rights : Stmt := top 56
abbrev N_checked_rights : List Str := ["setup", "rights", "found", "used", "at", "value", "row"]
theorem sc_checked_rights : FnScope N_checked_rights ["setup", "rights"] (defScope s_checked_rights) := ⟨rfl, rfl, rfl, by decide +kernel, rfl, by decide +kernel, by decide +kernel⟩
abbrev s_Setup__init : Stmt := inClass (top 57) 0
abbrev N_Setup__init : List Str := ["self", "programs", "turns", "rights", "quotas", "data", "pages", "ports", "bells", "lines", "slots", "windows", "processes"]
theorem sc_Setup__init : FnScope N_Setup__init ["self", "programs", "turns", "rights", "quotas", "data", "pages", "ports", "bells", "lines", "slots", "windows"] (defScope s_Setup__init) := ⟨rfl, rfl, rfl, by decide +kernel, rfl, by decide +kernel, by decide +kernel⟩
abbrev s_check_raises : Stmt := top 58
abbrev N_check_raises : List Str := ["setup", "raises", "earliest", "at", "pair", "tick", "line"]
theorem sc_check_raises : FnScope N_check_raises ["setup", "raises"] (defScope s_check_raises) := ⟨rfl, rfl, rfl, by decide +kernel, rfl, by decide +kernel, by decide +kernel⟩
abbrev s_law_bag : Stmt := top 60
abbrev N_law_bag : List Str := ["script", "cell"]
theorem sc_law_bag : FnScope N_law_bag ["script"] (defScope s_law_bag) := ⟨rfl, rfl, rfl, by decide +kernel, rfl, by decide +kernel, by decide +kernel⟩
abbrev s_law_take : Stmt := top 61
abbrev N_law_take : List Str := ["bag", "many", "cell", "digit", "number"]
theorem sc_law_take : FnScope N_law_take ["bag", "many"] (defScope s_law_take) := ⟨rfl, rfl, rfl, by decide +kernel, rfl, by decide +kernel, by decide +kernel⟩
abbrev s_law_same : Stmt := top 62
abbrev N_law_same : List Str := ["told", "due", "k"]
theorem sc_law_same : FnScope N_law_same ["told", "due"] (defScope s_law_same) := ⟨rfl, rfl, rfl, by decide +kernel, rfl, by decide +kernel, by decide +kernel⟩
abbrev s_law_setup : Stmt := top 63
abbrev N_law_setup : List Str := ["bag", "count", "tops", "rung", "processes", "pairs", "k"]
theorem sc_law_setup : FnScope N_law_setup ["bag", "count"] (defScope s_law_setup) := ⟨rfl, rfl, rfl, by decide +kernel, rfl, by decide +kernel, by decide +kernel⟩
abbrev s_law_tick : Stmt := top 64
abbrev N_law_tick : List Str := ["bag", "way"]
theorem sc_law_tick : FnScope N_law_tick ["bag"] (defScope s_law_tick) := ⟨rfl, rfl, rfl, by decide +kernel, rfl, by decide +kernel, by decide +kernel⟩
abbrev s_law_pairs : Stmt := top 65
abbrev N_law_pairs : List Str := ["bag", "count", "size", "ticks", "k", "tick"]
theorem sc_law_pairs : FnScope N_law_pairs ["bag", "count", "size"] (defScope s_law_pairs) := ⟨rfl, rfl, rfl, by decide +kernel, rfl, by decide +kernel, by decide +kernel⟩
abbrev s_law_refused : Stmt := top 66
abbrev N_law_refused : List Str := ["setup", "handed", "index", "e"]
theorem sc_law_refused : FnScope N_law_refused ["setup", "handed", "index"] (defScope s_law_refused) := ⟨rfl, rfl, rfl, by decide +kernel, rfl, by decide +kernel, by decide +kernel⟩
abbrev s_law_let : Stmt := top 67
abbrev N_law_let : List Str := ["setup", "pairs", "due", "handed", "before", "told"]
theorem sc_law_let : FnScope N_law_let ["setup", "pairs"] (defScope s_law_let) := ⟨rfl, rfl, rfl, by decide +kernel, rfl, by decide +kernel, by decide +kernel⟩
abbrev s_law_wrong : Stmt := top 68
abbrev N_law_wrong : List Str := ["bag", "count", "front", "menu", "below"]
theorem sc_law_wrong : FnScope N_law_wrong ["bag", "count", "front"] (defScope s_law_wrong) := ⟨rfl, rfl, rfl, by decide +kernel, rfl, by decide +kernel, by decide +kernel⟩
abbrev s_law_asks_wrong : Stmt := top 69
abbrev N_law_asks_wrong : List Str := ["bag", "setup", "count", "pairs", "at", "front", "many", "handed"]
theorem sc_law_asks_wrong : FnScope N_law_asks_wrong ["bag", "setup", "count", "pairs"] (defScope s_law_asks_wrong) := ⟨rfl, rfl, rfl, by decide +kernel, rfl, by decide +kernel, by decide +kernel⟩
abbrev s_law_asks_many : Stmt := top 70
abbrev N_law_asks_many : List Str := ["bag", "setup", "count", "tick", "pair"]
theorem sc_law_asks_many : FnScope N_law_asks_many ["bag", "setup", "count"] (defScope s_law_asks_many) := ⟨rfl, rfl, rfl, by decide +kernel, rfl, by decide +kernel, by decide +kernel⟩
abbrev s_law_asks_other : Stmt := top 71
abbrev N_law_asks_other : List Str := ["bag", "count", "pairs", "fewer", "other", "late", "k"]
theorem sc_law_asks_other : FnScope N_law_asks_other ["bag", "count", "pairs"] (defScope s_law_asks_other) := ⟨rfl, rfl, rfl, by decide +kernel, rfl, by decide +kernel, by decide +kernel⟩
abbrev s_law : Stmt := top 72
abbrev N_law : List Str := ["script", "bag", "count", "setup", "size", "pairs", "k"]
theorem sc_law : FnScope N_law ["script"] (defScope s_law) := ⟨rfl, rfl, rfl, by decide +kernel, rfl, by decide +kernel, by decide +kernel⟩

/-! ### data of setups, plainly -/
def isWordD : PyData → Bool
  | .int i => decide (0 ≤ i ∧ i < 1048576) | _ => false
def isBet (d : PyData) (lo hi : Int) : Bool := match d with
  | .int i => decide (lo ≤ i ∧ i ≤ hi) | _ => false
def deedsL : List Str := ["halt", "until", "clock", "look", "claim", "free", "copy", "drop", "revoke", "map", "unmap", "send", "take", "trysend", "trytake", "call", "reply", "ring", "await", "tryawait", "ack", "give", "pull"]
def names9 : List Str := ["set", "move", "add", "sub", "load", "store", "jump", "zero", "deed"]
def rolesF (n : Str) : List Str := if n = "set" then ["register", "word"] else if n = "jump" then ["target"] else if n = "zero" then ["register", "target"] else if n = "deed" then ["deed"] else ["register", "register"]
def boundF (role : Str) (n : Int) : Int := if role = "register" then 8 else if role = "word" then 1048576 else n
def inDL : PyData → Bool
  | .str s => decide (s ∈ deedsL) | _ => false
def isBelow (d : PyData) (n : Int) : Bool := match d with
  | .int i => decide (0 ≤ i ∧ i < n) | _ => false
def fitD (d : PyData) (r : Str) (n : Int) : Bool := if r = "deed" then inDL d else isBelow d (boundF r n)
theorem isI_F {d : PyData} (h : isIB d = true) : isI d = !isB d := by cases d <;> first | rfl | cases h
theorem isI_F2 {d : PyData} (h : isIB d = false) : isI d = false := by cases d <;> first | rfl | cases h
theorem isWordD_F {d : PyData} (h : isI d = false) : isWordD d = false := by cases d <;> first | rfl | cases h
theorem isBet_F {d : PyData} {lo hi : Int} (h : isI d = false) : isBet d lo hi = false := by cases d <;> first | rfl | cases h
theorem inDL_F {d : PyData} (h : isS d = false) : inDL d = false := by cases d <;> first | rfl | cases h
theorem isBelow_F {d : PyData} {n : Int} (h : isI d = false) : isBelow d n = false := by cases d <;> first | rfl | cases h
def fitsD : List PyData → List Str → Int → Bool
  | v :: vs, r :: rs, n => fitD v r n && fitsD vs rs n
  | [], [], _ => true
  | _, _, _ => false
def insL (ds : List PyData) (n : Int) : Bool := match ds with
  | .str nm :: ds => decide (nm ∈ names9) && fitsD ds (rolesF nm) n | _ => false
def insD (d : PyData) (n : Int) : Bool := isRow d && insL (items d) n
theorem fitsD_len : ∀ {vs : List PyData} {rs : List Str} {n : Int}, fitsD vs rs n = true → vs.length = rs.length
  | [], [], _, _ => rfl
  | _ :: _, [], _, h => nomatch h
  | [], _ :: _, _, h => nomatch h
  | v :: vs, r :: rs, n, h => by
    rw [fitsD, Bool.and_eq_true] at h
    rw [List.length_cons, List.length_cons, fitsD_len h.2]
theorem fitsD_ne {vs : List PyData} {rs : List Str} {n : Int} (h : vs.length ≠ rs.length) : fitsD vs rs n = false := by
  cases e : fitsD vs rs n with
  | false => rfl
  | true => exact absurd (fitsD_len e) h
theorem fitsD_iff {n : Int} : ∀ {vs : List PyData} {rs : List Str}, vs.length = rs.length → (fitsD vs rs n = true ↔ ∀ (i : Nat) v r, vs[i]? = some v → rs[i]? = some r → fitD v r n = true)
  | [], [], _ => ⟨fun _ i v r h => by simp at h, fun _ => rfl⟩
  | v :: vs, r :: rs, h => by
    have ih := fitsD_iff (n := n) (vs := vs) (rs := rs) (by simpa using h)
    rw [fitsD, Bool.and_eq_true, ih]
    constructor
    · rintro ⟨h1, h2⟩ i v' r' e1 e2
      cases i with
      | zero => simp at e1 e2; subst e1 e2; exact h1
      | succ i => exact h2 i v' r' (by simpa using e1) (by simpa using e2)
    · intro h
      exact ⟨h 0 v r rfl rfl, fun i v' r' e1 e2 => h (i + 1) v' r' (by simpa using e1) (by simpa using e2)⟩
  | [], _ :: _, h => by simp at h
  | _ :: _, [], h => by simp at h
theorem roles_len (n : Str) : (rolesF n).length ≤ 2 := by
  unfold rolesF
  repeat' split
  all_goals decide
/-- the first that does not hold p -/
def fb (p : PyData → Bool) (ds : List PyData) : Option Int := (ds.findIdx? fun d => !p d).map Int.ofNat
theorem fb_some {p : PyData → Bool} {ds : List PyData} {i : Nat} {d : PyData} (h : ds[i]? = some d) (b : p d = false) (a : ∀ (j : Nat) e, j < i → ds[j]? = some e → p e = true) : fb p ds = some (i : Int) := by
  unfold fb
  have : (ds.findIdx? fun d => !p d) = some i := by
    rw [List.findIdx?_eq_some_iff_getElem]
    obtain ⟨hi, e⟩ := List.getElem?_eq_some_iff.mp h
    refine ⟨hi, by rw [e, b]; rfl, fun j hj => ?_⟩
    have := a j ds[j] hj (List.getElem?_eq_getElem _)
    rw [this]; decide
  rw [this]; rfl
theorem fb_none {p : PyData → Bool} {ds : List PyData} (a : ∀ (j : Nat) e, ds[j]? = some e → p e = true) : fb p ds = none := by
  unfold fb
  have : (ds.findIdx? fun d => !p d) = none := by
    rw [List.findIdx?_eq_none_iff]
    intro d hd
    obtain ⟨j, hj⟩ := List.getElem?_of_mem hd
    rw [a j d hj]; rfl
  rw [this]; rfl
theorem fb_all {p : PyData → Bool} {ds : List PyData} (h : fb p ds = none) : ∀ d ∈ ds, p d = true := fun d hd => by
  unfold fb at h
  have q : (ds.findIdx? fun d => !p d) = none := by
    cases e : (ds.findIdx? fun d => !p d) with
    | none => rfl
    | some i => rw [e] at h; cases h
  rw [List.findIdx?_eq_none_iff] at q
  have := q d hd
  cases e : p d with
  | true => rfl
  | false => rw [e] at this; cases this
/-- tuple(d), a tuple of tuples -/
def tupD (d : PyData) : PyData := .tuple (items d)
def rowsD (d : PyData) : PyData := .tuple ((items d).map tupD)
def badLen (d : PyData) (lo hi : Nat) : Bool := !isRow d || !decide (lo ≤ (items d).length ∧ (items d).length ≤ hi)
def progF (d : PyData) : Option Int := if isRow d = false then some (-1) else if 4000 < (items d).length then some 4000 else fb (fun r => insD r (items d).length) (items d)
def progsF (d : PyData) : Option Int := if badLen d 1 6 = true then some (-1) else fb (fun p => isRow p && (progF p).isNone) (items d)
def progsV (d : PyData) : PyData := .tuple ((items d).map rowsD)
def turnB (n least : Int) (d : PyData) : Bool := isRow d && (match items d with | [a, b] => isBet a 0 (n - 1) && isBet b least 100000 | _ => false)
def tickD (d : PyData) : Int := match items d with
  | .int t :: _ => t | _ => 0
def ownsAll (ds : List PyData) (n : Int) : Bool := (List.range n.toNat).all fun p => decide ((p : Int) ∈ ds.map tickD)
def turnsF (d : PyData) (n least : Int) : Option Int := if badLen d 1 12 = true then some (-1) else match fb (turnB n least) (items d) with
  | some j => some j
  | none => if ownsAll (items d) n = true then none else some (-1)
def isNoneD : PyData → Bool
  | .none => true | _ => false
def quotasF (d : PyData) (n : Int) : Option Int := if isNoneD d = true then none else if isRow d = false ∨ ((items d).length : Int) ≠ n then some (-1) else fb (fun q => isBet q 0 8) (items d)
def quotasV (d : PyData) (n : Int) : PyData := if isNoneD d = true then .tuple (List.replicate n.toNat (.int 0)) else tupD d
def dataB (d : PyData) : Bool := isRow d && decide ((items d).length ≤ 64) && (items d).all isWordD
def dataF (d : PyData) (n : Int) : Option Int := if isNoneD d = true then none else if isRow d = false ∨ ((items d).length : Int) ≠ n then some (-1) else fb dataB (items d)
def dataV (d : PyData) (n : Int) : PyData := if isNoneD d = true then .tuple (List.replicate n.toNat (.tuple [])) else rowsD d
def linesF (d : PyData) (bells : Int) : Option Int := if badLen d 0 4 = true then some (-1) else fb (fun q => isBet q 0 (bells - 1)) (items d)
def freeP (n slots windows : Int) : Int := n * slots + n * windows + 1
/-! ### raises -/
def pairB (lo nl : Int) (d : PyData) : Bool := isRow d && (match items d with | [a, b] => isBet a lo 10000000000 && isBet b 0 (nl - 1) | _ => false)
def raisesGo (nl : Int) : List PyData → Int → Nat → Option Int
  | [], _, _ => none
  | d :: ds, lo, i => if pairB lo nl d = true then raisesGo nl ds (tickD d) (i + 1) else some (i : Int)
def raisesF (d : PyData) (nl : Int) : Option Int := if badLen d 0 200 = true then some (-1) else raisesGo nl (items d) 0 0
/-! ### a setup -/
structure SD where
  (programs turns rights quotas data lines : PyData)
  (n slots windows pages ports bells : Int)
theorem isI_E {d : PyData} (h : isI d = true) : ∃ i, d = .int i := by cases d <;> first | exact ⟨_, rfl⟩ | cases h
theorem isS_E {d : PyData} (h : isS d = true) : ∃ i, d = .str i := by cases d <;> first | exact ⟨_, rfl⟩ | cases h
theorem isBet_E {d : PyData} {lo hi : Int} (h : isBet d lo hi = true) : ∃ i, d = .int i ∧ lo ≤ i ∧ i ≤ hi := by
  cases d with
  | int i => exact ⟨i, rfl, of_decide_eq_true h⟩
  | _ => cases h
theorem fitD_noL {d : PyData} {r : Str} {n : Int} (h : fitD d r n = true) : noL d = true := by
  unfold fitD at h
  cases d with
  | list ds => split at h <;> cases h
  | tuple ds => split at h <;> cases h
  | _ => rw [noL] <;> (intro _ z; cases z)
theorem fitsD_noL : ∀ {ds : List PyData} {rs : List Str} {n : Int}, fitsD ds rs n = true → noLs ds = true
  | [], _, _, _ => by rw [noLs]
  | d :: ds, [], _, h => nomatch h
  | d :: ds, r :: rs, n, h => by
    rw [fitsD, Bool.and_eq_true] at h
    rw [noLs, fitD_noL h.1, fitsD_noL h.2]; rfl
theorem insL_noL {ds : List PyData} {n : Int} (h : insL ds n = true) : noLs ds = true := by
  cases ds with
  | nil => cases h
  | cons d ds =>
    cases d with
    | str nm =>
      have q : (decide (nm ∈ names9) && fitsD ds (rolesF nm) n) = true := h
      rw [noLs, fitsD_noL ((Bool.and_eq_true _ _).mp q).2]
      rw [noL] <;> first | rfl | (intro _ z; cases z)
    | _ => cases h
theorem inV_str (l : Str) (us : List Str) : inV (.str l) (us.map V.str) = decide (l ∈ us) := by
  rw [Bool.eq_iff_iff, decide_eq_true_eq]
  unfold inV
  rw [List.any_map, List.any_eq_true]
  constructor
  · rintro ⟨x, hx, e⟩
    have : l = x ∨ x = l := by
      have e' : (x == l) = true ∨ (l == x) = true := by first | exact .inl e | exact .inr e
      rcases e' with q | q
      · exact .inr (by simpa using q)
      · exact .inl (by simpa using q)
    rcases this with rfl | rfl <;> exact hx
  · intro h
    exact ⟨l, h, by show (l == l) = true; simp⟩
theorem noLs_all : ∀ {ds : List PyData}, (∀ d ∈ ds, noL d = true) → noLs ds = true
  | [], _ => by rw [noLs]
  | d :: ds, h => by
    rw [noLs, h d (List.mem_cons_self ..), noLs_all fun x m => h x (List.mem_cons_of_mem _ m)]; rfl
theorem rowsD_noL {p : PyData} (h : progF p = none) : noL (rowsD p) = true := by
  unfold rowsD
  rw [noL]
  refine noLs_all fun d hd => ?_
  obtain ⟨r, hr, rfl⟩ := List.mem_map.mp hd
  unfold progF at h
  split at h
  · cases h
  · split at h
    · cases h
    · have hb := fb_all h r hr
      unfold tupD
      rw [noL]
      exact insL_noL ((Bool.and_eq_true _ _).mp hb).2
theorem words_noL {ds : List PyData} (h : ds.all isWordD = true) : noLs ds = true := noLs_all fun d hd => by
  have := List.all_eq_true.mp h d hd
  cases d <;> first | (cases this; done) | (rw [noL] <;> (intro _ z; cases z))
theorem bets_noL {ds : List PyData} {lo hi : Int} (h : ∀ d ∈ ds, isBet d lo hi = true) : noLs ds = true := noLs_all fun d hd => by
  have := h d hd
  cases d <;> first | (cases this; done) | (rw [noL] <;> (intro _ z; cases z))
theorem badLen_R {d : PyData} {lo hi : Nat} (h : isRow d = false) : badLen d lo hi = true := by unfold badLen; rw [h]; rfl
theorem badLen_T {d : PyData} {lo hi : Nat} (h : ¬(lo ≤ (items d).length ∧ (items d).length ≤ hi)) : badLen d lo hi = true := by
  unfold badLen
  rw [decide_eq_false h, Bool.not_false, Bool.or_true]
theorem badLen_F {d : PyData} {lo hi : Nat} (r : isRow d = true) (h : lo ≤ (items d).length ∧ (items d).length ≤ hi) : badLen d lo hi = false := by
  unfold badLen
  rw [decide_eq_true h, r]; rfl
theorem progF_len {p : PyData} (h : progF p = none) : (items p).length ≤ 4000 := by
  unfold progF at h
  split at h
  · cases h
  · split at h
    · cases h
    · omega
theorem turnB_R {d : PyData} {n least : Int} (h : isRow d = false) : turnB n least d = false := by unfold turnB; rw [h]; rfl
theorem turnB_2 {d x y : PyData} {n least : Int} (r : isRow d = true) (h : items d = [x, y]) : turnB n least d = (isBet x 0 (n - 1) && isBet y least 100000) := by unfold turnB; rw [r, h]; rfl
theorem turnB_L {d : PyData} {n least : Int} (h : (items d).length ≠ 2) : turnB n least d = false := by
  unfold turnB
  match items d, h with
  | [], _ => exact Bool.and_false _
  | [_], _ => exact Bool.and_false _
  | [_, _], h => exact absurd rfl h
  | _ :: _ :: _ :: _, _ => exact Bool.and_false _
theorem pairB_R {d : PyData} {n least : Int} (h : isRow d = false) : pairB n least d = false := by unfold pairB; rw [h]; rfl
theorem pairB_2 {d x y : PyData} {lo nl : Int} (r : isRow d = true) (h : items d = [x, y]) : pairB lo nl d = (isBet x lo 10000000000 && isBet y 0 (nl - 1)) := by unfold pairB; rw [r, h]; rfl
theorem pairB_L {d : PyData} {lo nl : Int} (h : (items d).length ≠ 2) : pairB lo nl d = false := by
  unfold pairB
  match items d, h with
  | [], _ => exact Bool.and_false _
  | [_], _ => exact Bool.and_false _
  | [_, _], h => exact absurd rfl h
  | _ :: _ :: _ :: _, _ => exact Bool.and_false _
theorem two_of {α : Type} {xs : List α} (h : xs.length = 2) : ∃ x y, xs = [x, y] := by
  match xs, h with
  | [x, y], _ => exact ⟨x, y, rfl⟩
theorem _root_.Lw.DWs.two {K : PySem.W.Frag} {W : Wd} {H : Hp} {x y : V} {ds : List PyData} (h : DWs K W H [x, y] ds) : ∃ d e, ds = [d, e] ∧ DW K W H x d ∧ DW K W H y e := by
  cases h with
  | cons a t =>
    cases t with
    | cons b t =>
      cases t with
      | nil => exact ⟨_, _, rfl, a, b⟩
theorem flat_is : ∀ us : List Int, (us.map V.int).all flatV = true
  | [] => rfl
  | u :: us => by rw [List.map_cons, List.all_cons, flat_is us]; rfl
theorem inV_int (l : Int) (us : List Int) : inV (.int l) (us.map V.int) = decide (l ∈ us) := by
  rw [Bool.eq_iff_iff, decide_eq_true_eq]
  unfold inV
  rw [List.any_map, List.any_eq_true]
  constructor
  · rintro ⟨x, hx, e⟩
    have : l = x ∨ x = l := by
      have e' : (x == l) = true ∨ (l == x) = true := by first | exact .inl e | exact .inr e
      rcases e' with q | q
      · exact .inr (by simpa using q)
      · exact .inl (by simpa using q)
    rcases this with rfl | rfl <;> exact hx
  · intro h
    exact ⟨l, h, by show (l == l) = true; simp⟩
theorem turnB_E {d : PyData} {n least : Int} (h : turnB n least d = true) : isRow d = true ∧ ∃ p b, items d = [.int p, .int b] := by
  unfold turnB at h
  rw [Bool.and_eq_true] at h
  refine ⟨h.1, ?_⟩
  have h := h.2
  split at h
  · rename_i a b e
    rw [Bool.and_eq_true] at h
    obtain ⟨p, rfl, _⟩ := isBet_E h.1
    obtain ⟨q, rfl, _⟩ := isBet_E h.2
    exact ⟨p, q, e⟩
  · cases h
theorem pairB_E {d : PyData} {lo nl : Int} (h : pairB lo nl d = true) : isRow d = true ∧ ∃ p b, items d = [.int p, .int b] := by
  unfold pairB at h
  rw [Bool.and_eq_true] at h
  refine ⟨h.1, ?_⟩
  have h := h.2
  split at h
  · rename_i a b e
    rw [Bool.and_eq_true] at h
    obtain ⟨p, rfl, _⟩ := isBet_E h.1
    obtain ⟨q, rfl, _⟩ := isBet_E h.2
    exact ⟨p, q, e⟩
  · cases h
theorem noL_int (i : Int) : noL (.int i) = true := by rw [noL] <;> (intro _ z; cases z)
theorem noLs_2 {ds : List PyData} {p b : Int} (h : ds = [.int p, .int b]) : noLs ds = true := by
  subst h
  exact noLs_all fun d hd => by
    rcases List.mem_cons.mp hd with rfl | hd
    · exact noL_int _
    · rw [List.mem_singleton.mp hd]; exact noL_int _
theorem tickD_2 {d : PyData} {p b : Int} (h : items d = [.int p, .int b]) : tickD d = p := by unfold tickD; rw [h]
theorem ownsAll_F {ds : List PyData} {n : Int} {p : Nat} (hp : p < n.toNat) (h : (p : Int) ∉ ds.map tickD) : ownsAll ds n = false := by
  unfold ownsAll
  rw [List.all_eq_false]
  exact ⟨p, List.mem_range.mpr hp, by rw [decide_eq_false h]; decide⟩
theorem ownsAll_T {ds : List PyData} {n : Int} (h : ∀ p : Nat, p < n.toNat → (p : Int) ∈ ds.map tickD) : ownsAll ds n = true := by
  unfold ownsAll
  rw [List.all_eq_true]
  exact fun p hp => decide_eq_true (h p (List.mem_range.mp hp))
theorem dataB_R {d : PyData} (h : isRow d = false) : dataB d = false := by unfold dataB; rw [h]; rfl
theorem dataB_L {d : PyData} (h : 64 < (items d).length) : dataB d = false := by unfold dataB; rw [decide_eq_false (by omega), Bool.and_false]; rfl
theorem dataB_T {d : PyData} (r : isRow d = true) (h : (items d).length ≤ 64) : dataB d = (items d).all isWordD := by unfold dataB; rw [decide_eq_true h, r]; rfl
theorem dataB_E {d : PyData} (h : dataB d = true) : isRow d = true ∧ noLs (items d) = true := by
  unfold dataB at h
  rw [Bool.and_eq_true, Bool.and_eq_true] at h
  exact ⟨h.1.1, words_noL h.2⟩
theorem isNoneD_E {d : PyData} (h : isNoneD d = true) : d = .none := by cases d <;> first | rfl | cases h
theorem _root_.Lw.DW.ne_non {K : PySem.W.Frag} {W : Wd} {H : Hp} {v : V} {d : PyData} (h : DW K W H v d) (n : isNoneD d = false) : v ≠ .non := by
  intro z
  subst z
  cases h
  cases n
theorem raisesGo_step {nl lo : Int} {ds : List PyData} {d : PyData} {i : Nat} (h : ds[i]? = some d) : raisesGo nl (ds.drop i) lo i = if pairB lo nl d = true then raisesGo nl (ds.drop (i + 1)) (tickD d) (i + 1) else some (i : Int) := by
  obtain ⟨hi, e⟩ := List.getElem?_eq_some_iff.mp h
  rw [List.drop_eq_getElem_cons hi, e, raisesGo]
theorem progsF_len {d : PyData} (h : progsF d = none) : 1 ≤ (items d).length ∧ (items d).length ≤ 6 := by
  unfold progsF at h
  split at h
  · cases h
  · rename_i b
    by_cases q : 1 ≤ (items d).length ∧ (items d).length ≤ 6
    · exact q
    · exact absurd (badLen_T q) b
def intD : PyData → Int
  | .int i => i | _ => 0
def numF (d : PyData) (lo hi : Int) : Option Int := if isBet d lo hi = true then none else some (-1)
theorem numF_none {d : PyData} {lo hi : Int} (h : numF d lo hi = none) : isBet d lo hi = true := by
  unfold numF at h
  split at h
  · assumption
  · cases h
theorem betE {K : PySem.W.Frag} {W : Wd} {H : Hp} {v : V} {d : PyData} {lo hi : Int} (h : DW K W H v d) (b : isBet d lo hi = true) : v = .int (intD d) := by
  obtain ⟨i, rfl, _⟩ := isBet_E b
  exact h.intE

/-! ### promises of the setup's defs -/
def sp_is_integer (K : PySem.W.Frag) : Sp := fun vs H Q _ => ∃ (W : Wd) (v : V) (d : PyData), vs = [v] ∧ DW K W H v d ∧ Q (.bl (isI d)) H
theorem cl_is_integer {K : PySem.W.Frag} {W : Wd} {v : V} {d : PyData} {H : Hp} {Q : VK} {E : XK} (h : DW K W H v d) (k : Q (.bl (isI d)) H) : sp_is_integer K ([v] ++ []) H Q E := ⟨W, v, d, rfl, h, k⟩
def sp_is_word (K : PySem.W.Frag) : Sp := fun vs H Q _ => ∃ (W : Wd) (v : V) (d : PyData), vs = [v] ∧ DW K W H v d ∧ Q (.bl (isWordD d)) H
theorem cl_is_word {K : PySem.W.Frag} {W : Wd} {v : V} {d : PyData} {H : Hp} {Q : VK} {E : XK} (h : DW K W H v d) (k : Q (.bl (isWordD d)) H) : sp_is_word K ([v] ++ []) H Q E := ⟨W, v, d, rfl, h, k⟩
def sp_is_row (K : PySem.W.Frag) : Sp := fun vs H Q _ => ∃ (W : Wd) (v : V) (d : PyData), vs = [v] ∧ W.iv H ∧ DW K W H v d ∧ ∀ H', Ex W H H' → Q (.bl (isRow d)) H'
theorem cl_is_row {K : PySem.W.Frag} {W : Wd} {v : V} {d : PyData} {H : Hp} {Q : VK} {E : XK} (i : W.iv H) (h : DW K W H v d) (k : ∀ H', Ex W H H' → Q (.bl (isRow d)) H') : sp_is_row K ([v] ++ []) H Q E := ⟨W, v, d, rfl, i, h, k⟩
def sp_bound : Sp := fun vs H Q _ => ∃ r n, vs = [.str r, .int n] ∧ Q (.int (boundF r n)) H
theorem cl_bound {r : Str} {n : Int} {H : Hp} {Q : VK} {E : XK} (k : Q (.int (boundF r n)) H) : sp_bound ([.str r, .int n] ++ []) H Q E := ⟨r, n, rfl, k⟩
def sp_fits (K : PySem.W.Frag) : Sp := fun vs H Q _ => ∃ (W : Wd) (v : V) (d : PyData) (r : Str) (n : Int), vs = [v, .str r, .int n] ∧ DW K W H v d ∧ Q (.bl (fitD d r n)) H
theorem cl_fits {K : PySem.W.Frag} {W : Wd} {v : V} {d : PyData} {r : Str} {n : Int} {H : Hp} {Q : VK} {E : XK} (h : DW K W H v d) (k : Q (.bl (fitD d r n)) H) : sp_fits K ([v, .str r, .int n] ++ []) H Q E := ⟨W, v, d, r, n, rfl, h, k⟩
def sp_is_instruction (K : PySem.W.Frag) : Sp := fun vs H Q _ => ∃ (W : Wd) (v : V) (d : PyData) (n : Int), vs = [v, .int n] ∧ W.iv H ∧ DW K W H v d ∧ ∀ H', Ex W H H' → Q (.bl (insD d n)) H'
theorem cl_is_instruction {K : PySem.W.Frag} {W : Wd} {v : V} {d : PyData} {n : Int} {H : Hp} {Q : VK} {E : XK} (i : W.iv H) (h : DW K W H v d) (k : ∀ H', Ex W H H' → Q (.bl (insD d n)) H') : sp_is_instruction K ([v, .int n] ++ []) H Q E := ⟨W, v, d, n, rfl, i, h, k⟩
def sp_check_program (K : PySem.W.Frag) (C : Addr) : Sp := fun vs H Q E => ∃ (W : Wd) (v : V) (d : PyData), vs = [v] ∧ W.iv H ∧ DW K W H v d ∧ (items d).length ≤ 40000 ∧
  (∀ j, progF d = some j → ∀ u H', Ex W H H' → At W H' u (.xd [("index", .int j)]) → E (.ref C) (some u) H') ∧ (progF d = none → ∀ u H', Ex W H H' → DW K W H' u (rowsD d) → Q u H')
def sp_is_between (K : PySem.W.Frag) : Sp := fun vs H Q _ => ∃ (W : Wd) (v : V) (d : PyData) (lo hi : Int), vs = [v, .int lo, .int hi] ∧ DW K W H v d ∧ Q (.bl (isBet d lo hi)) H
theorem cl_is_between {K : PySem.W.Frag} {W : Wd} {v : V} {d : PyData} {lo hi : Int} {H : Hp} {Q : VK} {E : XK} (h : DW K W H v d) (k : Q (.bl (isBet d lo hi)) H) : sp_is_between K ([v, .int lo, .int hi] ++ []) H Q E := ⟨W, v, d, lo, hi, rfl, h, k⟩
def sp_free_price : Sp := fun vs H Q _ => ∃ n s w : Int, vs = [.int n, .int s, .int w] ∧ (0 ≤ n ∧ n ≤ 1000) ∧ Q (.int (freeP n s w)) H
theorem cl_free_price {n s w : Int} {H : Hp} {Q : VK} {E : XK} (h : 0 ≤ n ∧ n ≤ 1000) (k : Q (.int (freeP n s w)) H) : sp_free_price ([.int n, .int s, .int w] ++ []) H Q E := ⟨n, s, w, rfl, h, k⟩
def sp_least_ticks : Sp := fun vs H Q _ => ∃ n s w : Int, vs = [.int n, .int s, .int w] ∧ (0 ≤ n ∧ n ≤ 1000) ∧ Q (.int (freeP n s w + 16)) H
theorem cl_least_ticks {n s w : Int} {H : Hp} {Q : VK} {E : XK} (h : 0 ≤ n ∧ n ≤ 1000) (k : Q (.int (freeP n s w + 16)) H) : sp_least_ticks ([.int n, .int s, .int w] ++ []) H Q E := ⟨n, s, w, rfl, h, k⟩
/-- what a check that raises BadSetup promises -/
def Chk (K : PySem.W.Frag) (C : Addr) (W : Wd) (H : Hp) (Q : VK) (E : XK) (field : Str) (fault : Option Int) (val : PyData) : Prop :=
  (∀ j, fault = some j → ∀ u H', Ex W H H' → At W H' u (.xd [("field", .str field), ("index", .int j)]) → E (.ref C) (some u) H') ∧ (fault = none → ∀ u H', Ex W H H' → DW K W H' u val → Q u H')
theorem Chk.raise {K : PySem.W.Frag} {C : Addr} {W : Wd} {H H' : Hp} {Q : VK} {E : XK} {f : Str} {fault : Option Int} {val : PyData} {j : Int} (c : Chk K C W H Q E f fault val) (e : Ex W H H') (fj : fault = some j) :
    ∃ v' x', [V.str f, V.int j] = [v', x'] ∧ ∀ u, H' u = none → E (.ref C) (some u) (upd H' u (.xd [("field", v'), ("index", x')])) :=
  ⟨_, _, rfl, fun u hu => c.1 j fj u _ (e.trans (Ex.new e.iv hu)) (At.new e.iv hu)⟩
def sp_checked_number (K : PySem.W.Frag) (C : Addr) : Sp := fun vs H Q E => ∃ (W : Wd) (f : Str) (v : V) (d : PyData) (lo hi : Int), vs = [.str f, v, .int lo, .int hi] ∧ W.iv H ∧ DW K W H v d ∧ Chk K C W H Q E f (if isBet d lo hi = true then none else some (-1)) d
def sp_checked_programs (K : PySem.W.Frag) (C : Addr) : Sp := fun vs H Q E => ∃ (W : Wd) (v : V) (d : PyData), vs = [v] ∧ W.iv H ∧ DW K W H v d ∧ (∀ p ∈ items d, isRow p = true → progF p = none) ∧ Chk K C W H Q E "programs" (progsF d) (progsV d)
def sp_is_turn (K : PySem.W.Frag) : Sp := fun vs H Q _ => ∃ (W : Wd) (v : V) (d : PyData) (n least : Int), vs = [v, .int n, .int least] ∧ W.iv H ∧ DW K W H v d ∧ ∀ H', Ex W H H' → Q (.bl (turnB n least d)) H'
theorem cl_is_turn {K : PySem.W.Frag} {W : Wd} {v : V} {d : PyData} {n least : Int} {H : Hp} {Q : VK} {E : XK} (i : W.iv H) (h : DW K W H v d) (k : ∀ H', Ex W H H' → Q (.bl (turnB n least d)) H') : sp_is_turn K ([v, .int n, .int least] ++ []) H Q E := ⟨W, v, d, n, least, rfl, i, h, k⟩
def sp_checked_turns (K : PySem.W.Frag) (C : Addr) : Sp := fun vs H Q E => ∃ (W : Wd) (v : V) (d : PyData) (n least : Int), vs = [v, .int n, .int least] ∧ W.iv H ∧ DW K W H v d ∧ (0 ≤ n ∧ n ≤ 1000) ∧ Chk K C W H Q E "turns" (turnsF d n least) (rowsD d)
def sp_checked_quotas (K : PySem.W.Frag) (C : Addr) : Sp := fun vs H Q E => ∃ (W : Wd) (v : V) (d : PyData) (n : Int), vs = [v, .int n] ∧ W.iv H ∧ DW K W H v d ∧ (0 ≤ n ∧ n ≤ 1000) ∧ Chk K C W H Q E "quotas" (quotasF d n) (quotasV d n)
def sp_is_data (K : PySem.W.Frag) : Sp := fun vs H Q _ => ∃ (W : Wd) (v : V) (d : PyData), vs = [v] ∧ W.iv H ∧ DW K W H v d ∧ ∀ H', Ex W H H' → Q (.bl (dataB d)) H'
theorem cl_is_data {K : PySem.W.Frag} {W : Wd} {v : V} {d : PyData} {H : Hp} {Q : VK} {E : XK} (i : W.iv H) (h : DW K W H v d) (k : ∀ H', Ex W H H' → Q (.bl (dataB d)) H') : sp_is_data K ([v] ++ []) H Q E := ⟨W, v, d, rfl, i, h, k⟩
def sp_checked_data (K : PySem.W.Frag) (C : Addr) : Sp := fun vs H Q E => ∃ (W : Wd) (v : V) (d : PyData) (n : Int), vs = [v, .int n] ∧ W.iv H ∧ DW K W H v d ∧ (0 ≤ n ∧ n ≤ 1000) ∧ Chk K C W H Q E "data" (dataF d n) (dataV d n)
def sp_checked_lines (K : PySem.W.Frag) (C : Addr) : Sp := fun vs H Q E => ∃ (W : Wd) (v : V) (d : PyData) (b : Int), vs = [v, .int b] ∧ W.iv H ∧ DW K W H v d ∧ Chk K C W H Q E "lines" (linesF d b) (tupD d)
/-! ### the setup -/
def SetupAt (K : PySem.W.Frag) (C : Addr) (W : Wd) (H : Hp) (p : Addr) (S : SD) : Prop := ∃ (dx : Addr) (vp vt vq vd vl vr : V),
  At W H p (.ins C dx [("programs", vp), ("slots", .int S.slots), ("windows", .int S.windows), ("turns", vt), ("quotas", vq), ("data", vd), ("pages", .int S.pages), ("ports", .int S.ports), ("bells", .int S.bells), ("lines", vl), ("rights", vr)]) ∧
  DW K W H vp S.programs ∧ DW K W H vt S.turns ∧ DW K W H vq S.quotas ∧ DW K W H vd S.data ∧ DW K W H vl S.lines ∧ DW K W H vr S.rights
theorem SetupAt.ex {K : PySem.W.Frag} {C : Addr} {W : Wd} {H H' : Hp} {p : Addr} {S : SD} (e : Ex W H H') (h : SetupAt K C W H p S) : SetupAt K C W H' p S :=
  let ⟨dx, vp, vt, vq, vd, vl, vr, a, h1, h2, h3, h4, h5, h6⟩ := h
  ⟨dx, vp, vt, vq, vd, vl, vr, e.at_ a, h1.ex e, h2.ex e, h3.ex e, h4.ex e, h5.ex e, h6.ex e⟩
/-- the arguments of a setup -/
structure SA where
  (programs turns rights quotas data pages ports bells lines slots windows : PyData)
def SA.n (A : SA) : Int := (items A.programs).length
/-- the first argument at fault -/
def oe (f : Str) (o : Option Int) (r : Option (Str × Int)) : Option (Str × Int) := match o with
  | some j => some (f, j) | none => r
def SA.fault (A : SA) : Option (Str × Int) :=
  oe "programs" (progsF A.programs) <| oe "slots" (numF A.slots (A.n + 2) 48) <| oe "windows" (numF A.windows 1 16) <|
  oe "turns" (turnsF A.turns A.n (freeP A.n (intD A.slots) (intD A.windows) + 16)) <| oe "quotas" (quotasF A.quotas A.n) <| oe "data" (dataF A.data A.n) <|
  oe "pages" (numF A.pages 0 8) <| oe "ports" (numF A.ports 0 6) <| oe "bells" (numF A.bells 0 6) <| oe "lines" (linesF A.lines (intD A.bells)) none
def SA.kept (A : SA) : SD := { programs := progsV A.programs, turns := rowsD A.turns, rights := .tuple [], quotas := quotasV A.quotas A.n, data := dataV A.data A.n, lines := tupD A.lines, n := A.n, slots := intD A.slots, windows := intD A.windows, pages := intD A.pages, ports := intD A.ports, bells := intD A.bells }
def sp_checked_rights (K : PySem.W.Frag) (C : Addr) : Sp := fun vs H Q E => ∃ (W : Wd) (s v : V) (d : PyData), vs = [s, v] ∧ W.iv H ∧ DW K W H v d ∧ isRow d = true ∧ items d = [] ∧ Chk K C W H Q E "rights" none (.tuple [])
def sp_Setup__init (K : PySem.W.Frag) (CS CE : Addr) : Sp := fun vs H Q E => ∃ (W : Wd) (H0 : Hp) (x dx : Addr) (vp vt vr vq vd vg vo vb vl vs' vw : V) (A : SA), vs = [.ref x, vp, vt, vr, vq, vd, vg, vo, vb, vl, vs', vw] ∧ Ex W H0 H ∧ H0 x = none ∧ At W H x (.ins CS dx []) ∧
  DW K W H vp A.programs ∧ DW K W H vt A.turns ∧ DW K W H vr A.rights ∧ DW K W H vq A.quotas ∧ DW K W H vd A.data ∧ DW K W H vg A.pages ∧ DW K W H vo A.ports ∧ DW K W H vb A.bells ∧ DW K W H vl A.lines ∧ DW K W H vs' A.slots ∧ DW K W H vw A.windows ∧
  (∀ p ∈ items A.programs, isRow p = true → progF p = none) ∧ isRow A.rights = true ∧ items A.rights = [] ∧
  (∀ f j, A.fault = some (f, j) → ∀ u H', Ex W H0 H' → At W H' u (.xd [("field", .str f), ("index", .int j)]) → E (.ref CE) (some u) H') ∧ (A.fault = none → ∀ H', Ex W H0 H' → SetupAt K CS W H' x A.kept → Q .non H')
theorem oe_E {f : Str} {o : Option Int} {r : Option (Str × Int)} {B : Option (Str × Int) → Prop} (c : B (oe f o r)) : (∀ j, o = some j → B (some (f, j))) ∧ (o = none → B r) := by
  cases o with
  | none => exact ⟨fun _ h => (by cases h), fun _ => c⟩
  | some j => exact ⟨fun _ h => (by cases h; exact c), fun h => (by cases h)⟩
def InitB (K : PySem.W.Frag) (CS CE : Addr) (W : Wd) (H0 : Hp) (x : Addr) (A : SA) (Q : VK) (E : XK) (o : Option (Str × Int)) : Prop :=
  (∀ f j, o = some (f, j) → ∀ u H', Ex W H0 H' → At W H' u (.xd [("field", .str f), ("index", .int j)]) → E (.ref CE) (some u) H') ∧ (o = none → ∀ H', Ex W H0 H' → SetupAt K CS W H' x A.kept → Q .non H')
def sp_check_raises (K : PySem.W.Frag) (CS CE : Addr) : Sp := fun vs H Q E => ∃ (W : Wd) (p : Addr) (S : SD) (v : V) (d : PyData), vs = [.ref p, v] ∧ W.iv H ∧ SetupAt K CS W H p S ∧ isRow S.lines = true ∧ (items S.lines).length ≤ 1000 ∧ DW K W H v d ∧
  (∀ j, raisesF d (items S.lines).length = some j → ∀ u H', Ex W H H' → At W H' u (.xd [("index", .int j)]) → E (.ref CE) (some u) H') ∧ (raisesF d (items S.lines).length = none → ∀ u H', Ex W H H' → DW K W H' u (rowsD d) → Q u H')
def sp_is_kind : Sp := fun vs _ _ _ => ∃ v0 : V, vs = [v0] ∧ False
def sp_in_order : Sp := fun vs _ _ _ => ∃ v0 v1 : V, vs = [v0, v1] ∧ False
def sp_kind_counts : Sp := fun vs _ _ _ => ∃ v0 : V, vs = [v0] ∧ False
def sp_kind_of : Sp := fun vs _ _ _ => ∃ v0 : V, vs = [v0] ∧ False
def sp_is_thing : Sp := fun vs _ _ _ => ∃ v0 v1 : V, vs = [v0, v1] ∧ False
def sp_right_row : Sp := fun vs _ _ _ => ∃ v0 v1 : V, vs = [v0, v1] ∧ False
def sp_fits_parent : Sp := fun vs _ _ _ => ∃ v0 v1 : V, vs = [v0, v1] ∧ False
/-- [tuple(x) for x in xs], xs a name -/
theorem lc_rows {K : PySem.W.Frag} {W : Wd} {H : Hp} {a : Addr} {xs : List V} {ds : List PyData} {n m : Nat} {σ : L2.St} {Q : VK} (hv : σ[n]? = some (some (.ref a))) (h : SqB K W H a xs) (i : W.iv H) (hn : xs.length ≤ 50000) (ws : DWs K W H xs ds)
    (hr : ∀ d ∈ ds, isRow d = true ∧ noLs (items d) = true) (hm : ∀ x : V, ((wipe σ [m]).set m (some x))[m]? = some (some x))
    (k : ∀ D H2 ys, H D = none → Ex W H H2 → At W H2 D (.lst ys) → DWs K W H2 ys (ds.map tupD) → ys.length ≤ xs.length → Q (.ref D) H2) :
    tLc (fun σ H R => iList K (tVar n) σ H R ∨ iTup K (tVar n) σ H R) (gName m) tYes (tCB (rTupO K) (tCons (tVar m) tNil)) [m] σ H Q := by
  refine lc_B hv h i hn (fun i ys Hh => DWs K W Hh ys ((ds.take i).map tupD)) (fun i ys Ha Hb e q => q.ex e) .nil ?_ ?_
  · rintro i x D ys H' QV QN hi hx hD hDa e4 q _ qv qn
    obtain ⟨r, hr1, hd⟩ := ws.get hx
    obtain ⟨hrr, nl⟩ := hr r (List.mem_of_getElem? hr1)
    obtain ⟨b, us, rfl, sqb, wb⟩ := (hd.ex e4).row hrr
    refine rd_yes (iteT (rd_cb (rd_cons (rd_var (hm _) (rd_nil ?_)))))
    refine rd_tupB e4.iv sqb fun t H5 e5 h5 => ?_
    refine qv _ _ e5 ?_
    rw [List.take_add_one, hr1, List.map_append]
    refine DWs.snoc (q.ex (hide_ex e5 hDa)) ?_
    exact DW.hide (.tup h5 (wb.ex e5)) (by show noL (.tuple (items r)) = true; rw [noL]; exact nl) e5.iv (e5.at_ hDa)
  · rintro D H5 ys hD e5 h5 q hl
    rw [ws.length, List.take_length] at q
    exact k D H5 ys hD e5 h5 q hl
theorem lenF {f : Str} {v : V} {fs : List (Str × V)} {n : Nat} (h : fs.length ≤ n) : (putF f v fs).length ≤ n + 1 := Nat.le_trans (length_putF f v fs) (Nat.succ_le_succ h)
theorem rd_rev {W : Wd} {H H0 : Hp} {p : Addr} {xs : List V} {Q : VK} (e : Ex W H0 H) (h0 : H0 p = none) (h : At W H p (.lst xs)) (k : ∀ H2, Ex W H0 H2 → At W H2 p (.lst xs.reverse) → (∀ q o, q ≠ p → At W H q o → At W H2 q o) → Q .non H2) : rReverse (.ref p) [] H Q :=
  ⟨p, xs, rfl, rfl, h.1, k _ (e.mut h0 h) (.mut e.iv h) fun _ _ ne q => .other e.iv h q ne⟩

/-! ### the bag -/
structure BagIs (H : Hp) (b : Addr) (p g n s : Int) (cs : List Int) : Prop where
  hb : H b = some (.lst (V.int p :: V.int g :: V.int n :: V.int s :: cs.map V.int))
  p4 : 4 ≤ p
def WB (b : Addr) : Wd where
  own _ a := a = b
  iv H := ∃ p g n s cs, BagIs H b p g n s cs
  trk := by
    rintro H a ⟨p, g, n, s, cs, B⟩ rfl
    exact ⟨_, B.hb⟩
  loc := by
    rintro H H' ⟨p, g, n, s, cs, B⟩ h
    exact ⟨⟨p, g, n, s, cs, (h b rfl).trans B.hb, B.p4⟩, fun a ha => ha⟩
theorem ex_bag {H H2 : Hp} {b : Addr} {p g n s p2 g2 n2 s2 : Int} {cs cs2 : List Int} (B : BagIs H b p g n s cs) (B2 : BagIs H2 b p2 g2 n2 s2 cs2) (h : ∀ a, a ≠ b → H2 a = H a) : Ex (WB b) H H2 := by
  refine ⟨⟨_, _, _, _, _, B⟩, ⟨_, _, _, _, _, B2⟩, fun {a o} ha => ?_, fun {a o} ha => ?_⟩
  · have nb : a ≠ b := fun e => ha.2 e
    exact ⟨(h a nb).trans ha.1, nb⟩
  · by_cases nb : a = b
    · exact ⟨_, nb ▸ B2.hb⟩
    · exact ⟨_, (h a nb).trans ha⟩
theorem sql_ex {K : PySem.W.Frag} {H H1 : Hp} {a : Addr} {xs : List V} (e : Ex W0 H H1) (h : SqL K H a xs) : SqL K H1 a xs := by
  rcases h with (h | ⟨o, h⟩) | h
  · exact .inl (.inl (e.at_ (W := W0) ⟨h, fun z => z⟩).1)
  · exact .inl (.inr ⟨o, (e.at_ (W := W0) ⟨h, fun z => z⟩).1⟩)
  · exact .inr h
def sp_law_bag (K : PySem.W.Frag) : Sp := fun vs H Q _ => ∃ (a : Addr) (ns : List Int), vs = [.ref a] ∧ SqL K H a (ns.map V.int) ∧ ns.length ≤ 63 ∧ ∀ b H', (WB b).iv H' → Q (.ref b) H'
def sp_law_take : Sp := fun vs H Q _ => ∃ (b : Addr) (many : Int), vs = [.ref b, .int many] ∧ 0 < many ∧ many < 1073741824 ∧ (WB b).iv H ∧ ∀ r H', Ex (WB b) H H' → 0 ≤ r → r < many → Q (.int r) H'
theorem cl_law_take {b : Addr} {many : Int} {H : Hp} {Q : VK} {E : XK} (h1 : 0 < many) (h2 : many < 1073741824) (i : (WB b).iv H) (k : ∀ r H', Ex (WB b) H H' → 0 ≤ r → r < many → Q (.int r) H') : sp_law_take ([.ref b, .int many] ++ []) H Q E := ⟨b, many, rfl, h1, h2, i, k⟩
theorem ix_lit {a b c d : V} {xs : List V} {i : Int} (h0 : 0 ≤ i) (h1 : i < 4) : ixN (a :: b :: c :: d :: xs).length i = some i.toNat := ix_in h0 (by simp only [List.length_cons]; omega)
theorem at_l1 {a b : V} {xs : List V} : atI (a :: b :: xs) 1 = some b := at_in (by decide) rfl
theorem at_l2 {a b c : V} {xs : List V} : atI (a :: b :: c :: xs) 2 = some c := at_in (by decide) rfl
theorem at_l3 {a b c d : V} {xs : List V} : atI (a :: b :: c :: d :: xs) 3 = some d := at_in (by decide) rfl
theorem at_cell {a b c d : V} {cs : List Int} {p : Int} (h : 4 ≤ p) (hl : p < ((a :: b :: c :: d :: cs.map V.int).length : Int)) : ∃ z : Int, atI (a :: b :: c :: d :: cs.map V.int) p = some (.int z) := by
  obtain ⟨q, rfl⟩ : ∃ q : Nat, p = ((q + 4 : Nat) : Int) := ⟨(p - 4).toNat, by omega⟩
  have hq : q < cs.length := by
    simp only [List.length_cons, List.length_map] at hl
    omega
  refine ⟨cs[q], at_in (by omega) ?_⟩
  rw [Int.toNat_natCast]
  simp only [List.getElem?_cons_succ, List.getElem?_map, List.getElem?_eq_getElem hq, Option.map]
/-! ### told and due -/
def flatD : Nat → PyData → Bool
  | _, .int _ => true
  | _, .str _ => true
  | _, .none => true
  | n + 1, .tuple ds => ds.all (flatD n) && decide (ds.length ≤ 100000)
  | _, _ => false
def sp_same (K : PySem.W.Frag) (n : Nat) : Sp := fun vs H Q _ => ∃ (W : Wd) (v u : V) (d : PyData), vs = [v, u] ∧ DW K W H v d ∧ DW K W H u d ∧ flatD n d = true ∧ Q (.bl true) H
abbrev sp_law_same_at0 (K : PySem.W.Frag) : Sp := sp_same K 0
abbrev sp_law_same_at1 (K : PySem.W.Frag) : Sp := sp_same K 1
abbrev sp_law_same_at2 (K : PySem.W.Frag) : Sp := sp_same K 2
theorem cl_law_same {K : PySem.W.Frag} {W : Wd} {v u : V} {d : PyData} {n : Nat} {H : Hp} {Q : VK} {E : XK} (h1 : DW K W H v d) (h2 : DW K W H u d) (f : flatD n d = true) (k : Q (.bl true) H) : sp_same K n ([v, u] ++ []) H Q E := ⟨W, v, u, d, rfl, h1, h2, f, k⟩
/-! ### the law's setups and raises -/
def pairD (p : Int × Int) : PyData := .tuple [.int p.1, .int p.2]
def OkFrom (nl : Int) : Int → List (Int × Int) → Prop
  | _, [] => True
  | lo, p :: ps => lo ≤ p.1 ∧ p.1 ≤ 10000000000 ∧ 0 ≤ p.2 ∧ p.2 < nl ∧ OkFrom nl p.1 ps
structure SetOk (K : PySem.W.Frag) (C : Addr) (W : Wd) (H : Hp) (p : Addr) (nl : Nat) : Prop where
  ex : ∃ S, SetupAt K C W H p S ∧ isRow S.lines = true ∧ (items S.lines).length = nl ∧ nl ≤ 1000
theorem SetOk.mono {K : PySem.W.Frag} {C : Addr} {W : Wd} {H H' : Hp} {p : Addr} {nl : Nat} (e : Ex W H H') (h : SetOk K C W H p nl) : SetOk K C W H' p nl := by
  obtain ⟨S, h1, h2⟩ := h.ex
  exact ⟨S, h1.ex e, h2⟩
theorem okFrom_of {nl : Int} : ∀ {ps : List (Int × Int)} {lo : Int}, (ps.map Prod.fst).Pairwise (· ≤ ·) → (∀ p ∈ ps, lo ≤ p.1 ∧ p.1 ≤ 10000000000 ∧ 0 ≤ p.2 ∧ p.2 < nl) → OkFrom nl lo ps
  | [], _, _, _ => trivial
  | p :: ps, lo, h, a => by
    obtain ⟨h1, h2, h3, h4⟩ := a p (List.mem_cons_self ..)
    rw [List.map_cons, List.pairwise_cons] at h
    refine ⟨h1, h2, h3, h4, okFrom_of h.2 fun q hq => ?_⟩
    obtain ⟨_, g2⟩ := a q (List.mem_cons_of_mem _ hq)
    exact ⟨h.1 _ (List.mem_map.mpr ⟨q, hq, rfl⟩), g2⟩
theorem isBet_T {i lo hi : Int} (h : lo ≤ i ∧ i ≤ hi) : isBet (.int i) lo hi = true := decide_eq_true h
theorem pairB_P {lo nl : Int} {p : Int × Int} : pairB lo nl (pairD p) = (isBet (.int p.1) lo 10000000000 && isBet (.int p.2) 0 (nl - 1)) := rfl
theorem go_ok {nl : Int} {ds : List PyData} : ∀ {ps : List (Int × Int)} {lo : Int} {i : Nat}, OkFrom nl lo ps → raisesGo nl (ps.map pairD ++ ds) lo i = raisesGo nl ds ((ps.map Prod.fst).getLastD lo) (i + ps.length)
  | [], lo, i, _ => rfl
  | p :: ps, lo, i, ⟨h1, h2, h3, h4, h⟩ => by
    rw [List.map_cons, List.cons_append, raisesGo, pairB_P, isBet_T ⟨h1, h2⟩, isBet_T ⟨h3, by omega⟩, Bool.and_self, if_pos rfl]
    have := go_ok (ds := ds) (i := i + 1) h
    rw [show tickD (pairD p) = p.1 from rfl, this, List.length_cons, List.map_cons, List.getLastD_cons, show i + 1 + ps.length = i + (ps.length + 1) by omega]
theorem ok_none {nl : Nat} {ps : List (Int × Int)} (h : OkFrom nl 0 ps) (l : ps.length ≤ 200) : raisesF (.list (ps.map pairD)) nl = none ∧ raisesF (.tuple (ps.map pairD)) nl = none := by
  have q := go_ok (ds := []) (i := 0) h
  rw [List.append_nil] at q
  have r : raisesGo nl (ps.map pairD) 0 0 = none := q
  have b1 : badLen (.list (ps.map pairD)) 0 200 = false := badLen_F rfl ⟨Nat.zero_le _, by show (ps.map pairD).length ≤ 200; rw [List.length_map]; exact l⟩
  have b2 : badLen (.tuple (ps.map pairD)) 0 200 = false := badLen_F rfl ⟨Nat.zero_le _, by show (ps.map pairD).length ≤ 200; rw [List.length_map]; exact l⟩
  exact ⟨by unfold raisesF; rw [b1, if_neg (by decide)]; exact r, by unfold raisesF; rw [b2, if_neg (by decide)]; exact r⟩
theorem rows_pairs (ps : List (Int × Int)) : (ps.map pairD).map tupD = ps.map pairD := by
  rw [List.map_map]
  rfl
theorem noL_pair (p : Int × Int) : noL (pairD p) = true := by
  unfold pairD
  rw [noL]
  exact noLs_2 rfl
theorem noLs_pairs (ps : List (Int × Int)) : noLs (ps.map pairD) = true := noLs_all fun d hd => by
  obtain ⟨p, _, rfl⟩ := List.mem_map.mp hd
  exact noL_pair p
theorem flat_pairs {ps : List (Int × Int)} (l : ps.length ≤ 100000) : flatD 2 (.tuple (ps.map pairD)) = true := by
  rw [flatD, Bool.and_eq_true]
  refine ⟨List.all_eq_true.mpr fun d hd => ?_, decide_eq_true (by rw [List.length_map]; exact l)⟩
  obtain ⟨p, _, rfl⟩ := List.mem_map.mp hd
  rfl
theorem can_all : ∀ {ds : List PyData}, (∀ d ∈ ds, PyData.canLay0 d = true ∧ PyData.depth d ≤ 2) → PyData.canLayAll0 ds = true ∧ PyData.depthAll ds ≤ 2
  | [], _ => ⟨by rw [PyData.canLayAll0], by rw [PyData.depthAll]; omega⟩
  | d :: ds, h => by
    obtain ⟨a, b⟩ := h d (List.mem_cons_self ..)
    obtain ⟨c, e⟩ := can_all fun x m => h x (List.mem_cons_of_mem _ m)
    rw [PyData.canLayAll0, PyData.depthAll, a, c]
    exact ⟨rfl, by omega⟩
theorem shaped_list {ds : List PyData} (h : ∀ d ∈ ds, PyData.canLay0 d = true ∧ PyData.depth d ≤ 2) : SeqAt.shaped (.list ds) = true ∧ PyData.eqv (.list ds) (.list ds) = true := by
  obtain ⟨a, b⟩ := can_all h
  have c : PyData.canLay0 (.list ds) = true := by rw [PyData.canLay0]; exact a
  refine ⟨?_, SeqAt.eqv_refl _ c⟩
  unfold SeqAt.shaped
  rw [c, PyData.depth, decide_eq_true (by omega)]; rfl
theorem can_pair (p : Int × Int) : PyData.canLay0 (pairD p) = true ∧ PyData.depth (pairD p) ≤ 2 := ⟨rfl, by show max 0 (max 0 0) + 1 ≤ 2; decide⟩
/-- the arguments of the law's setups -/
def setA (np : Nat) (tops : Int) (cs : List Int) : SA := { programs := .list (List.replicate np (.tuple [])), turns := .list ((List.range np).map fun j => .tuple [.int (j : Nat), .int 1000]), rights := .tuple [], quotas := .none, data := .none, pages := .int 0, ports := .int 0, bells := .int tops, lines := .list (cs.map .int), slots := .int 8, windows := .int 2 }
theorem badLen_l {ds : List PyData} {lo hi : Nat} (h1 : lo ≤ ds.length) (h2 : ds.length ≤ hi) : badLen (.list ds) lo hi = false := badLen_F rfl ⟨h1, h2⟩
theorem setA_fault {np : Nat} {tops : Int} {cs : List Int} (h1 : 1 ≤ np ∧ np ≤ 3) (h2 : 1 ≤ tops ∧ tops ≤ 6) (h3 : cs.length ≤ 4) (h4 : ∀ c ∈ cs, 0 ≤ c ∧ c < tops) : (setA np tops cs).fault = none := by
  have n0 : (setA np tops cs).n = np := by
    show ((List.replicate np (PyData.tuple [])).length : Int) = np
    rw [List.length_replicate]
  have e1 : progsF (setA np tops cs).programs = none := by
    show progsF (.list (List.replicate np (.tuple []))) = none
    unfold progsF
    rw [badLen_l (by rw [List.length_replicate]; omega) (by rw [List.length_replicate]; omega), if_neg (by decide)]
    exact fb_none fun j e he => by
      have q := List.mem_of_getElem? he
      rw [List.eq_of_mem_replicate q]
      rfl
  have e2 : numF (setA np tops cs).slots ((setA np tops cs).n + 2) 48 = none := by
    rw [n0]
    exact if_pos (isBet_T ⟨by omega, by decide⟩)
  have e4 : turnsF (setA np tops cs).turns (setA np tops cs).n (freeP (setA np tops cs).n (intD (setA np tops cs).slots) (intD (setA np tops cs).windows) + 16) = none := by
    rw [n0]
    show turnsF (.list ((List.range np).map fun j => .tuple [.int (j : Nat), .int 1000])) np (freeP np 8 2 + 16) = none
    unfold turnsF
    rw [badLen_l (by rw [List.length_map, List.length_range]; omega) (by rw [List.length_map, List.length_range]; omega), if_neg (by decide)]
    rw [fb_none fun j e he => by
      obtain ⟨k, hk, rfl⟩ := List.mem_map.mp (List.mem_of_getElem? he)
      have := List.mem_range.mp hk
      rw [turnB_2 (x := .int (k : Nat)) (y := .int 1000) rfl rfl, isBet_T ⟨by omega, by omega⟩, isBet_T ⟨by unfold freeP; omega, by decide⟩]; rfl]
    show (if ownsAll ((List.range np).map fun j => PyData.tuple [.int (j : Nat), .int 1000]) np = true then none else some (-1)) = none
    rw [ownsAll_T fun p hp => ?_]
    · rfl
    · rw [List.map_map]
      exact List.mem_map.mpr ⟨p, List.mem_range.mpr (by omega), rfl⟩
  have e9 : numF (setA np tops cs).bells 0 6 = none := if_pos (isBet_T ⟨by omega, by omega⟩)
  have e10 : linesF (setA np tops cs).lines (intD (setA np tops cs).bells) = none := by
    show linesF (.list (cs.map .int)) tops = none
    unfold linesF
    rw [badLen_l (Nat.zero_le _) (by rw [List.length_map]; exact h3), if_neg (by decide)]
    exact fb_none fun j e he => by
      obtain ⟨c, hc, rfl⟩ := List.mem_map.mp (List.mem_of_getElem? he)
      have := h4 c hc
      exact isBet_T ⟨by omega, by omega⟩
  unfold SA.fault
  rw [e1, e2, e4, e9, e10]
  rfl
theorem new_ins {W : Wd} {H : Hp} {C x dx : Addr} (i : W.iv H) (hx : H x = none) (hd : H dx = none) (ne : dx ≠ x) : Ex W H (upd (upd H dx (.own x)) x (.ins C dx [])) ∧ At W (upd (upd H dx (.own x)) x (.ins C dx [])) x (.ins C dx []) := by
  have e1 : Ex W H (upd H dx (.own x)) := Ex.new i hd
  have n1 : (upd H dx (.own x)) x = none := by rw [upd_ne (Ne.symm ne)]; exact hx
  exact ⟨e1.trans (Ex.new e1.iv n1), At.new e1.iv n1⟩
theorem pairs_of {K : PySem.W.Frag} {W : Wd} {H : Hp} {nl : Int} : ∀ {ns : List Int} {ys : List V}, All2 (fun x y => ∃ t c : Int, x = .int t ∧ 0 ≤ c ∧ c < nl ∧ DW K W H y (pairD (t, c))) (ns.map V.int) ys → ∃ ps : List (Int × Int), DWs K W H ys (ps.map pairD) ∧ ps.map Prod.fst = ns ∧ ∀ p ∈ ps, 0 ≤ p.2 ∧ p.2 < nl
  | [], _, h => by
    cases h
    exact ⟨[], .nil, rfl, fun _ h => nomatch h⟩
  | n :: ns, _, h => by
    cases h with
    | cons r t =>
      obtain ⟨ps, h1, h2, h3⟩ := pairs_of t
      obtain ⟨n', c, e, c0, c1, dw⟩ := r
      cases e
      refine ⟨(n, c) :: ps, .cons dw h1, by rw [List.map_cons, h2], fun p hp => ?_⟩
      rcases List.mem_cons.mp hp with rfl | hp
      · exact ⟨c0, c1⟩
      · exact h3 p hp
def sp_law_setup (K : PySem.W.Frag) (C : Addr) : Sp := fun vs H Q _ => ∃ (b : Addr) (n : Nat), vs = [.ref b, .int n] ∧ n ≤ 4 ∧ (WB b).iv H ∧ ∀ p H', Ex (WB b) H H' → SetOk K C (WB b) H' p n → Q (.ref p) H'
def sp_law_tick : Sp := fun vs H Q _ => ∃ b : Addr, vs = [.ref b] ∧ (WB b).iv H ∧ ∀ r H', Ex (WB b) H H' → 0 ≤ r → r ≤ 10000000000 → Q (.int r) H'
theorem cl_law_tick {b : Addr} {H : Hp} {Q : VK} {E : XK} (i : (WB b).iv H) (k : ∀ r H', Ex (WB b) H H' → 0 ≤ r → r ≤ 10000000000 → Q (.int r) H') : sp_law_tick ([.ref b] ++ []) H Q E := ⟨b, rfl, i, k⟩
def sp_law_pairs (K : PySem.W.Frag) : Sp := fun vs H Q _ => ∃ (b : Addr) (nl size : Int), vs = [.ref b, .int nl, .int size] ∧ (0 < nl ∧ nl ≤ 4) ∧ (0 ≤ size ∧ size ≤ 1000) ∧ (WB b).iv H ∧
  ∀ a H' (ps : List (Int × Int)), Ex (WB b) H H' → DW K (WB b) H' (.ref a) (.list (ps.map pairD)) → (ps.length : Int) = size → OkFrom nl 0 ps → Q (.ref a) H'
def sp_law_refused (K : PySem.W.Frag) (C : Addr) : Sp := fun vs H Q _ => ∃ (W : Wd) (p : Addr) (v : V) (d : PyData) (j : Int) (nl : Nat), vs = [.ref p, v, .int j] ∧ W.iv H ∧ SetOk K C W H p nl ∧ DW K W H v d ∧ raisesF d nl = some j ∧ ∀ H', Ex W H H' → Q (.bl true) H'
def sp_law_let (K : PySem.W.Frag) (C : Addr) : Sp := fun vs H Q _ => ∃ (W : Wd) (p a : Addr) (nl : Nat) (ps : List (Int × Int)), vs = [.ref p, .ref a] ∧ W.iv H ∧ SetOk K C W H p nl ∧ DW K W H (.ref a) (.list (ps.map pairD)) ∧ OkFrom nl 0 ps ∧ ps.length ≤ 200 ∧ ∀ H', Ex W H H' → Q (.bl true) H'
def BadP (front nl : Int) (d : PyData) : Prop := noL d = true ∧ PyData.canLay0 d = true ∧ PyData.depth d ≤ 2 ∧ pairB front nl d = false
theorem bad_fst {lo nl : Int} {x y : PyData} (h : isBet x lo 10000000000 = false) : pairB lo nl (.tuple [x, y]) = false := by
  show (isBet x lo 10000000000 && isBet y 0 (nl - 1)) = false
  rw [h]; rfl
theorem bad_snd {lo nl : Int} {x y : PyData} (h : isBet y 0 (nl - 1) = false) : pairB lo nl (.tuple [x, y]) = false := by
  show (isBet x lo 10000000000 && isBet y 0 (nl - 1)) = false
  rw [h, Bool.and_false]
theorem bet_F {i lo hi : Int} (h : ¬(lo ≤ i ∧ i ≤ hi)) : isBet (.int i) lo hi = false := decide_eq_false h
theorem p10 : (10 : Int) ^ (Int.toNat 10) = 10000000000 := by decide +kernel
def atomD : PyData → Bool
  | .list _ => false | .tuple _ => false | .dict _ => false | _ => true
theorem noL_atom {d : PyData} (h : atomD d = true) : noL d = true := by cases d <;> first | (cases h; done) | (rw [noL] <;> (intro _ z; cases z))
theorem noL_tup {ds : List PyData} (h : ds.all atomD = true) : noL (.tuple ds) = true := by
  rw [noL]
  exact noLs_all fun d hd => noL_atom (List.all_eq_true.mp h d hd)
def sp_law_wrong (K : PySem.W.Frag) : Sp := fun vs H Q _ => ∃ (b : Addr) (nl front : Int), vs = [.ref b, .int nl, .int front] ∧ (0 ≤ nl ∧ nl ≤ 4) ∧ (0 ≤ front ∧ front ≤ 10000000000) ∧ (WB b).iv H ∧
  ∀ v H' d, Ex (WB b) H H' → DW K (WB b) H' v d → noL d = true → PyData.canLay0 d = true → PyData.depth d ≤ 2 → pairB front nl d = false → Q v H'
theorem ok_mem {nl : Int} : ∀ {ps : List (Int × Int)} {lo : Int}, OkFrom nl lo ps → 0 ≤ lo → ∀ p ∈ ps, 0 ≤ p.1 ∧ p.1 ≤ 10000000000
  | [], _, _, _ => fun _ h => nomatch h
  | q :: ps, lo, ⟨h1, h2, h3, h4, h⟩, l => fun p hp => by
    rcases List.mem_cons.mp hp with rfl | hp
    · exact ⟨by omega, h2⟩
    · exact ok_mem h (by omega) p hp
theorem ok_takeW {nl : Int} : ∀ {ps : List (Int × Int)} {lo : Int} (n : Nat), OkFrom nl lo ps → OkFrom nl lo (ps.take n)
  | [], _, n, _ => by rw [List.take_nil]; trivial
  | p :: ps, lo, 0, _ => trivial
  | p :: ps, lo, n + 1, ⟨h1, h2, h3, h4, h⟩ => ⟨h1, h2, h3, h4, ok_takeW n h⟩
theorem front_of {ps : List (Int × Int)} {n : Nat} {p : Int × Int} (h : ps[n]? = some p) : ((ps.take (n + 1)).map Prod.fst).getLastD 0 = p.1 := by
  rw [List.take_add_one, h, List.map_append]
  show ((ps.take n).map Prod.fst ++ [p.1]).getLastD 0 = p.1
  rw [List.getLastD_concat]
theorem wrong_fault {nl : Nat} {ps : List (Int × Int)} {d : PyData} {ds : List PyData} (h : OkFrom nl 0 ps) (b : pairB ((ps.map Prod.fst).getLastD 0) nl d = false) (l : (ps.map pairD ++ d :: ds).length ≤ 200) :
    raisesF (.list (ps.map pairD ++ d :: ds)) nl = some (ps.length : Int) ∧ raisesF (.tuple (ps.map pairD ++ d :: ds)) nl = some (ps.length : Int) := by
  have q := go_ok (ds := d :: ds) (i := 0) h
  rw [raisesGo, b, Nat.zero_add] at q
  have b1 : badLen (.list (ps.map pairD ++ d :: ds)) 0 200 = false := badLen_F rfl ⟨Nat.zero_le _, l⟩
  have b2 : badLen (.tuple (ps.map pairD ++ d :: ds)) 0 200 = false := badLen_F rfl ⟨Nat.zero_le _, l⟩
  exact ⟨by unfold raisesF; rw [b1, if_neg (by decide)]; exact q, by unfold raisesF; rw [b2, if_neg (by decide)]; exact q⟩
def sp_law_asks_wrong (K : PySem.W.Frag) (C : Addr) : Sp := fun vs H Q _ => ∃ (b p a : Addr) (nl : Nat) (ps : List (Int × Int)), vs = [.ref b, .ref p, .int nl, .ref a] ∧ nl ≤ 4 ∧ (WB b).iv H ∧ SetOk K C (WB b) H p nl ∧ DW K (WB b) H (.ref a) (.list (ps.map pairD)) ∧ OkFrom nl 0 ps ∧ ps.length ≤ 200 ∧ ∀ H', Ex (WB b) H H' → Q (.bl true) H'
theorem rep_dw {K : PySem.W.Frag} {W : Wd} {H : Hp} {v : V} {d : PyData} (h : DW K W H v d) : ∀ n : Nat, DWs K W H (List.replicate n [v]).flatten (List.replicate n d)
  | 0 => .nil
  | n + 1 => by
    rw [List.replicate_succ, List.flatten_cons, List.replicate_succ]
    exact .cons h (rep_dw h n)
def sp_law_asks_many (K : PySem.W.Frag) (C : Addr) : Sp := fun vs H Q _ => ∃ (b p : Addr) (nl : Nat), vs = [.ref b, .ref p, .int nl] ∧ 0 < nl ∧ nl ≤ 4 ∧ (WB b).iv H ∧ SetOk K C (WB b) H p nl ∧ ∀ H', Ex (WB b) H H' → Q (.bl true) H'
def lateP (fw : Nat) (ps : List (Int × Int)) (j : Nat) : Bool := match ps[j]? with
  | some p => decide ((fw : Int) ≤ p.2) | none => false
theorem lateP_T {fw : Nat} {ps : List (Int × Int)} {j : Nat} {p : Int × Int} (h : ps[j]? = some p) (l : (fw : Int) ≤ p.2) : lateP fw ps j = true := by unfold lateP; rw [h]; exact decide_eq_true l
theorem lateP_F {fw : Nat} {ps : List (Int × Int)} {j : Nat} {p : Int × Int} (h : ps[j]? = some p) (l : ¬(fw : Int) ≤ p.2) : lateP fw ps j = false := by unfold lateP; rw [h]; exact decide_eq_false l
theorem ok_lower {nl fw : Int} : ∀ {ps : List (Int × Int)} {lo : Int}, OkFrom nl lo ps → (∀ p ∈ ps, p.2 < fw) → OkFrom fw lo ps
  | [], _, _, _ => trivial
  | p :: ps, lo, ⟨h1, h2, h3, _, h⟩, a => ⟨h1, h2, h3, a p (List.mem_cons_self ..), ok_lower h fun q hq => a q (List.mem_cons_of_mem _ hq)⟩
theorem ok_take {nl : Int} : ∀ {ps : List (Int × Int)} {lo : Int} (n : Nat), OkFrom nl lo ps → OkFrom nl lo (ps.take n)
  | [], _, n, _ => by rw [List.take_nil]; trivial
  | p :: ps, lo, 0, _ => trivial
  | p :: ps, lo, n + 1, ⟨h1, h2, h3, h4, h⟩ => ⟨h1, h2, h3, h4, ok_take n h⟩
theorem ok_fewer {nl : Int} {fw : Nat} {ps : List (Int × Int)} (h : OkFrom nl 0 ps) (e : (List.range ps.length).filter (fun j => lateP fw ps j) = []) : OkFrom fw 0 ps := ok_lower h fun p hp => by
  obtain ⟨j, hj⟩ := List.getElem?_of_mem hp
  have hlt := (List.getElem?_eq_some_iff.mp hj).1
  rw [List.filter_eq_nil_iff] at e
  have q := e j (List.mem_range.mpr hlt)
  by_cases c : (fw : Int) ≤ p.2
  · exact absurd (lateP_T hj c) q
  · omega
/-- the first late pair -/
theorem late_first {fw : Nat} {ps : List (Int × Int)} : ∀ {n m j : Nat} {js : List Nat}, (List.range' m n).filter (fun j => lateP fw ps j) = j :: js → m ≤ j ∧ j < m + n ∧ lateP fw ps j = true ∧ ∀ i, m ≤ i → i < j → lateP fw ps i = false
  | 0, m, j, js, h => by simp at h
  | n + 1, m, j, js, h => by
    rw [List.range'_succ] at h
    by_cases c : lateP fw ps m = true
    · rw [List.filter_cons_of_pos c] at h
      cases h
      exact ⟨Nat.le_refl _, by omega, c, fun i h1 h2 => by omega⟩
    · rw [List.filter_cons_of_neg c] at h
      obtain ⟨h1, h2, h3, h4⟩ := late_first h
      refine ⟨by omega, by omega, h3, fun i g1 g2 => ?_⟩
      by_cases e : i = m
      · subst e; exact Bool.eq_false_iff.mpr c
      · exact h4 i (by omega) g2
theorem go_fault {nl lo : Int} {ps : List (Int × Int)} {d : PyData} {ds : List PyData} (h : OkFrom nl lo ps) (b : pairB ((ps.map Prod.fst).getLastD lo) nl d = false) : raisesGo nl (ps.map pairD ++ d :: ds) lo 0 = some (ps.length : Int) := by
  rw [go_ok h, raisesGo, b, Nat.zero_add]; rfl
theorem late_fault {nl : Int} {fw : Nat} {ps : List (Int × Int)} {j : Nat} (h : OkFrom nl 0 ps) (hl : ps.length ≤ 200) (j1 : j < ps.length) (j2 : lateP fw ps j = true) (j3 : ∀ i, i < j → lateP fw ps i = false) : raisesF (.list (ps.map pairD)) fw = some (j : Int) ∧ OkFrom fw 0 (ps.take j) := by
  have hj := List.getElem?_eq_getElem j1
  generalize ps[j] = p at hj
  have sp : ps = ps.take j ++ p :: ps.drop (j + 1) := by
    conv => lhs; rw [← List.take_append_drop j ps]
    rw [List.drop_eq_getElem_cons j1]
    rw [List.getElem?_eq_getElem j1] at hj
    rw [Option.some.inj hj]
  have ok : OkFrom fw 0 (ps.take j) := ok_lower (ok_take j h) fun q hq => by
    obtain ⟨i, hi⟩ := List.getElem?_of_mem hq
    have lt := (List.getElem?_eq_some_iff.mp hi).1
    rw [List.length_take] at lt
    rw [List.getElem?_take_of_lt (by omega)] at hi
    by_cases c : (fw : Int) ≤ q.2
    · have z := j3 i (by omega)
      rw [lateP_T hi c] at z
      cases z
    · omega
  refine ⟨?_, ok⟩
  have c : (fw : Int) ≤ p.2 := by
    unfold lateP at j2
    rw [hj] at j2
    exact of_decide_eq_true j2
  unfold raisesF
  rw [badLen_l (Nat.zero_le _) (by rw [List.length_map]; exact hl), if_neg (by decide)]
  show raisesGo fw (ps.map pairD) 0 0 = _
  rw [sp, List.map_append, List.map_cons, go_fault ok (by rw [pairB_P]; exact (by rw [show isBet (.int p.2) 0 ((fw : Int) - 1) = false from decide_eq_false (by omega), Bool.and_false])), List.length_take]
  congr 1
  omega
def sp_law_asks_other (K : PySem.W.Frag) (C : Addr) : Sp := fun vs H Q _ => ∃ (b a : Addr) (nl : Nat) (ps : List (Int × Int)), vs = [.ref b, .int nl, .ref a] ∧ 0 < nl ∧ nl ≤ 4 ∧ (WB b).iv H ∧ DW K (WB b) H (.ref a) (.list (ps.map pairD)) ∧ OkFrom nl 0 ps ∧ ps.length ≤ 200 ∧ ∀ H', Ex (WB b) H H' → Q (.bl true) H'
def spLaw (K : PySem.W.Frag) : Sp := fun vs H Q _ => ∃ (a : Addr) (ns : List Int), vs = [.ref a] ∧ SqL K H a (ns.map V.int) ∧ ns.length ≤ 63 ∧ ∀ H', Q (.bl true) H'
structure Tx (P : Program) (w : World) (K : PySem.W.Frag) (mg : Str → Option Value) where
  f_is_integer : Addr
  fd_is_integer : FuncData
  F_is_integer : Fun K "is_integer" "is_integer" s_is_integer f_is_integer fd_is_integer
  b_is_integer : Binds K fd_is_integer ["value"] []
  g_is_integer : mg "is_integer" = some (.ref f_is_integer)
  f_is_word : Addr
  fd_is_word : FuncData
  F_is_word : Fun K "is_word" "is_word" s_is_word f_is_word fd_is_word
  b_is_word : Binds K fd_is_word ["value"] []
  g_is_word : mg "is_word" = some (.ref f_is_word)
  f_is_kind : Addr
  fd_is_kind : FuncData
  F_is_kind : Fun K "_is_kind" "_is_kind" s_is_kind f_is_kind fd_is_kind
  b_is_kind : Binds K fd_is_kind ["kind"] []
  g_is_kind : mg "_is_kind" = some (.ref f_is_kind)
  f_in_order : Addr
  fd_in_order : FuncData
  F_in_order : Fun K "in_order" "in_order" s_in_order f_in_order fd_in_order
  b_in_order : Binds K fd_in_order ["kind", "letters"] []
  g_in_order : mg "in_order" = some (.ref f_in_order)
  f_is_row : Addr
  fd_is_row : FuncData
  F_is_row : Fun K "is_row" "is_row" s_is_row f_is_row fd_is_row
  b_is_row : Binds K fd_is_row ["value"] []
  g_is_row : mg "is_row" = some (.ref f_is_row)
  f_bound : Addr
  fd_bound : FuncData
  F_bound : Fun K "_bound" "_bound" s_bound f_bound fd_bound
  b_bound : Binds K fd_bound ["role", "length"] []
  g_bound : mg "_bound" = some (.ref f_bound)
  f_fits : Addr
  fd_fits : FuncData
  F_fits : Fun K "_fits" "_fits" s_fits f_fits fd_fits
  b_fits : Binds K fd_fits ["part", "role", "length"] []
  g_fits : mg "_fits" = some (.ref f_fits)
  f_is_instruction : Addr
  fd_is_instruction : FuncData
  F_is_instruction : Fun K "is_instruction" "is_instruction" s_is_instruction f_is_instruction fd_is_instruction
  b_is_instruction : Binds K fd_is_instruction ["item", "length"] []
  g_is_instruction : mg "is_instruction" = some (.ref f_is_instruction)
  f_check_program : Addr
  fd_check_program : FuncData
  F_check_program : Fun K "check_program" "check_program" s_check_program f_check_program fd_check_program
  b_check_program : Binds K fd_check_program ["value"] []
  g_check_program : mg "check_program" = some (.ref f_check_program)
  f_kind_counts : Addr
  fd_kind_counts : FuncData
  F_kind_counts : Fun K "kind_counts" "kind_counts" s_kind_counts f_kind_counts fd_kind_counts
  b_kind_counts : Binds K fd_kind_counts ["setup"] []
  g_kind_counts : mg "kind_counts" = some (.ref f_kind_counts)
  f_kind_of : Addr
  fd_kind_of : FuncData
  F_kind_of : Fun K "kind_of" "kind_of" s_kind_of f_kind_of fd_kind_of
  b_kind_of : Binds K fd_kind_of ["thing"] []
  g_kind_of : mg "kind_of" = some (.ref f_kind_of)
  f_is_thing : Addr
  fd_is_thing : FuncData
  F_is_thing : Fun K "is_thing" "is_thing" s_is_thing f_is_thing fd_is_thing
  b_is_thing : Binds K fd_is_thing ["setup", "thing"] []
  g_is_thing : mg "is_thing" = some (.ref f_is_thing)
  f_is_between : Addr
  fd_is_between : FuncData
  F_is_between : Fun K "is_between" "is_between" s_is_between f_is_between fd_is_between
  b_is_between : Binds K fd_is_between ["value", "low", "high"] []
  g_is_between : mg "is_between" = some (.ref f_is_between)
  f_free_price : Addr
  fd_free_price : FuncData
  F_free_price : Fun K "free_price" "free_price" s_free_price f_free_price fd_free_price
  b_free_price : Binds K fd_free_price ["processes", "slots", "windows"] []
  g_free_price : mg "free_price" = some (.ref f_free_price)
  f_least_ticks : Addr
  fd_least_ticks : FuncData
  F_least_ticks : Fun K "least_ticks" "least_ticks" s_least_ticks f_least_ticks fd_least_ticks
  b_least_ticks : Binds K fd_least_ticks ["processes", "slots", "windows"] []
  g_least_ticks : mg "least_ticks" = some (.ref f_least_ticks)
  f_checked_number : Addr
  fd_checked_number : FuncData
  F_checked_number : Fun K "checked_number" "checked_number" s_checked_number f_checked_number fd_checked_number
  b_checked_number : Binds K fd_checked_number ["field", "value", "low", "high"] []
  g_checked_number : mg "checked_number" = some (.ref f_checked_number)
  f_checked_programs : Addr
  fd_checked_programs : FuncData
  F_checked_programs : Fun K "checked_programs" "checked_programs" s_checked_programs f_checked_programs fd_checked_programs
  b_checked_programs : Binds K fd_checked_programs ["programs"] []
  g_checked_programs : mg "checked_programs" = some (.ref f_checked_programs)
  f_is_turn : Addr
  fd_is_turn : FuncData
  F_is_turn : Fun K "is_turn" "is_turn" s_is_turn f_is_turn fd_is_turn
  b_is_turn : Binds K fd_is_turn ["value", "processes", "least"] []
  g_is_turn : mg "is_turn" = some (.ref f_is_turn)
  f_checked_turns : Addr
  fd_checked_turns : FuncData
  F_checked_turns : Fun K "checked_turns" "checked_turns" s_checked_turns f_checked_turns fd_checked_turns
  b_checked_turns : Binds K fd_checked_turns ["turns", "processes", "least"] []
  g_checked_turns : mg "checked_turns" = some (.ref f_checked_turns)
  f_checked_quotas : Addr
  fd_checked_quotas : FuncData
  F_checked_quotas : Fun K "checked_quotas" "checked_quotas" s_checked_quotas f_checked_quotas fd_checked_quotas
  b_checked_quotas : Binds K fd_checked_quotas ["quotas", "processes"] []
  g_checked_quotas : mg "checked_quotas" = some (.ref f_checked_quotas)
  f_is_data : Addr
  fd_is_data : FuncData
  F_is_data : Fun K "is_data" "is_data" s_is_data f_is_data fd_is_data
  b_is_data : Binds K fd_is_data ["value"] []
  g_is_data : mg "is_data" = some (.ref f_is_data)
  f_checked_data : Addr
  fd_checked_data : FuncData
  F_checked_data : Fun K "checked_data" "checked_data" s_checked_data f_checked_data fd_checked_data
  b_checked_data : Binds K fd_checked_data ["data", "processes"] []
  g_checked_data : mg "checked_data" = some (.ref f_checked_data)
  f_checked_lines : Addr
  fd_checked_lines : FuncData
  F_checked_lines : Fun K "checked_lines" "checked_lines" s_checked_lines f_checked_lines fd_checked_lines
  b_checked_lines : Binds K fd_checked_lines ["lines", "bells"] []
  g_checked_lines : mg "checked_lines" = some (.ref f_checked_lines)
  f_right_row : Addr
  fd_right_row : FuncData
  F_right_row : Fun K "right_row" "right_row" s_right_row f_right_row fd_right_row
  b_right_row : Binds K fd_right_row ["setup", "value"] []
  g_right_row : mg "right_row" = some (.ref f_right_row)
  f_fits_parent : Addr
  fd_fits_parent : FuncData
  F_fits_parent : Fun K "fits_parent" "fits_parent" s_fits_parent f_fits_parent fd_fits_parent
  b_fits_parent : Binds K fd_fits_parent ["row", "earlier"] []
  g_fits_parent : mg "fits_parent" = some (.ref f_fits_parent)
  f_checked_rights : Addr
  fd_checked_rights : FuncData
  F_checked_rights : Fun K "checked_rights" "checked_rights" s_checked_rights f_checked_rights fd_checked_rights
  b_checked_rights : Binds K fd_checked_rights ["setup", "rights"] []
  g_checked_rights : mg "checked_rights" = some (.ref f_checked_rights)
  e_Setup__init_rights : Addr
  K_e_Setup__init_rights : KTup K e_Setup__init_rights []
  e_Setup__init_lines : Addr
  K_e_Setup__init_lines : KTup K e_Setup__init_lines []
  f_Setup__init : Addr
  fd_Setup__init : FuncData
  F_Setup__init : FunD K "__init__" "Setup.__init__" (defArgs s_Setup__init) (defBody s_Setup__init) (defScope s_Setup__init) [] [("rights", .ref e_Setup__init_rights), ("quotas", .non), ("data", .non), ("pages", .int 0), ("ports", .int 0), ("bells", .int 0), ("lines", .ref e_Setup__init_lines), ("slots", .int 8), ("windows", .int 2)] f_Setup__init fd_Setup__init
  f_check_raises : Addr
  fd_check_raises : FuncData
  F_check_raises : Fun K "check_raises" "check_raises" s_check_raises f_check_raises fd_check_raises
  b_check_raises : Binds K fd_check_raises ["setup", "raises"] []
  g_check_raises : mg "check_raises" = some (.ref f_check_raises)
  f_law_bag : Addr
  fd_law_bag : FuncData
  F_law_bag : Fun K "_law_bag" "_law_bag" s_law_bag f_law_bag fd_law_bag
  b_law_bag : Binds K fd_law_bag ["script"] []
  g_law_bag : mg "_law_bag" = some (.ref f_law_bag)
  f_law_take : Addr
  fd_law_take : FuncData
  F_law_take : Fun K "_law_take" "_law_take" s_law_take f_law_take fd_law_take
  b_law_take : Binds K fd_law_take ["bag", "many"] []
  g_law_take : mg "_law_take" = some (.ref f_law_take)
  f_law_same : Addr
  fd_law_same : FuncData
  F_law_same : Fun K "_law_same" "_law_same" s_law_same f_law_same fd_law_same
  b_law_same : Binds K fd_law_same ["told", "due"] []
  g_law_same : mg "_law_same" = some (.ref f_law_same)
  f_law_setup : Addr
  fd_law_setup : FuncData
  F_law_setup : Fun K "_law_setup" "_law_setup" s_law_setup f_law_setup fd_law_setup
  b_law_setup : Binds K fd_law_setup ["bag", "count"] []
  g_law_setup : mg "_law_setup" = some (.ref f_law_setup)
  f_law_tick : Addr
  fd_law_tick : FuncData
  F_law_tick : Fun K "_law_tick" "_law_tick" s_law_tick f_law_tick fd_law_tick
  b_law_tick : Binds K fd_law_tick ["bag"] []
  g_law_tick : mg "_law_tick" = some (.ref f_law_tick)
  f_law_pairs : Addr
  fd_law_pairs : FuncData
  F_law_pairs : Fun K "_law_pairs" "_law_pairs" s_law_pairs f_law_pairs fd_law_pairs
  b_law_pairs : Binds K fd_law_pairs ["bag", "count", "size"] []
  g_law_pairs : mg "_law_pairs" = some (.ref f_law_pairs)
  f_law_refused : Addr
  fd_law_refused : FuncData
  F_law_refused : Fun K "_law_refused" "_law_refused" s_law_refused f_law_refused fd_law_refused
  b_law_refused : Binds K fd_law_refused ["setup", "handed", "index"] []
  g_law_refused : mg "_law_refused" = some (.ref f_law_refused)
  f_law_let : Addr
  fd_law_let : FuncData
  F_law_let : Fun K "_law_let" "_law_let" s_law_let f_law_let fd_law_let
  b_law_let : Binds K fd_law_let ["setup", "pairs"] []
  g_law_let : mg "_law_let" = some (.ref f_law_let)
  f_law_wrong : Addr
  fd_law_wrong : FuncData
  F_law_wrong : Fun K "_law_wrong" "_law_wrong" s_law_wrong f_law_wrong fd_law_wrong
  b_law_wrong : Binds K fd_law_wrong ["bag", "count", "front"] []
  g_law_wrong : mg "_law_wrong" = some (.ref f_law_wrong)
  f_law_asks_wrong : Addr
  fd_law_asks_wrong : FuncData
  F_law_asks_wrong : Fun K "_law_asks_wrong" "_law_asks_wrong" s_law_asks_wrong f_law_asks_wrong fd_law_asks_wrong
  b_law_asks_wrong : Binds K fd_law_asks_wrong ["bag", "setup", "count", "pairs"] []
  g_law_asks_wrong : mg "_law_asks_wrong" = some (.ref f_law_asks_wrong)
  f_law_asks_many : Addr
  fd_law_asks_many : FuncData
  F_law_asks_many : Fun K "_law_asks_many" "_law_asks_many" s_law_asks_many f_law_asks_many fd_law_asks_many
  b_law_asks_many : Binds K fd_law_asks_many ["bag", "setup", "count"] []
  g_law_asks_many : mg "_law_asks_many" = some (.ref f_law_asks_many)
  f_law_asks_other : Addr
  fd_law_asks_other : FuncData
  F_law_asks_other : Fun K "_law_asks_other" "_law_asks_other" s_law_asks_other f_law_asks_other fd_law_asks_other
  b_law_asks_other : Binds K fd_law_asks_other ["bag", "count", "pairs"] []
  g_law_asks_other : mg "_law_asks_other" = some (.ref f_law_asks_other)
  a_DEEDS : Addr
  g_DEEDS : mg "DEEDS" = some (.ref a_DEEDS)
  q_DEEDS : ∀ H : Hp, SqT K H a_DEEDS [.str "halt", .str "until", .str "clock", .str "look", .str "claim", .str "free", .str "copy", .str "drop", .str "revoke", .str "map", .str "unmap", .str "send", .str "take", .str "trysend", .str "trytake", .str "call", .str "reply", .str "ring", .str "await", .str "tryawait", .str "ack", .str "give", .str "pull"]
  t_GREATEST_TICK : Tok
  g_GREATEST_TICK : mg "GREATEST_TICK" = some (.int 10000000000 t_GREATEST_TICK)
  a_LETTERS : Addr
  es_LETTERS : Array DictEntry
  n_LETTERS : Nat
  g_LETTERS : mg "LETTERS" = some (.ref a_LETTERS)
  D_LETTERS : KDict K w a_LETTERS es_LETTERS n_LETTERS
  x_LETTERS : ∀ z : Str, z ∉ (["page", "claim", "port", "bell", "line", "process"] : List Str) → PySem.W.nsIn K a_LETTERS z = some none
  t_LETTERS_page : Tok
  i_LETTERS_page : PySem.W.nsIn K a_LETTERS "page" = some (some (.str "rw" t_LETTERS_page))
  t_LETTERS_claim : Tok
  i_LETTERS_claim : PySem.W.nsIn K a_LETTERS "claim" = some (some (.str "rw" t_LETTERS_claim))
  t_LETTERS_port : Tok
  i_LETTERS_port : PySem.W.nsIn K a_LETTERS "port" = some (some (.str "sgt" t_LETTERS_port))
  t_LETTERS_bell : Tok
  i_LETTERS_bell : PySem.W.nsIn K a_LETTERS "bell" = some (some (.str "ka" t_LETTERS_bell))
  t_LETTERS_line : Tok
  i_LETTERS_line : PySem.W.nsIn K a_LETTERS "line" = some (some (.str "y" t_LETTERS_line))
  t_LETTERS_process : Tok
  i_LETTERS_process : PySem.W.nsIn K a_LETTERS "process" = some (some (.str "ix" t_LETTERS_process))
  t_LONGEST : Tok
  g_LONGEST : mg "LONGEST" = some (.int 4000 t_LONGEST)
  t_MOST_BELLS : Tok
  g_MOST_BELLS : mg "MOST_BELLS" = some (.int 6 t_MOST_BELLS)
  t_MOST_CLAIMS : Tok
  g_MOST_CLAIMS : mg "MOST_CLAIMS" = some (.int 8 t_MOST_CLAIMS)
  t_MOST_DATA : Tok
  g_MOST_DATA : mg "MOST_DATA" = some (.int 64 t_MOST_DATA)
  t_MOST_LINES : Tok
  g_MOST_LINES : mg "MOST_LINES" = some (.int 4 t_MOST_LINES)
  t_MOST_PAGES : Tok
  g_MOST_PAGES : mg "MOST_PAGES" = some (.int 8 t_MOST_PAGES)
  t_MOST_PORTS : Tok
  g_MOST_PORTS : mg "MOST_PORTS" = some (.int 6 t_MOST_PORTS)
  t_MOST_PROCESSES : Tok
  g_MOST_PROCESSES : mg "MOST_PROCESSES" = some (.int 6 t_MOST_PROCESSES)
  t_MOST_RAISES : Tok
  g_MOST_RAISES : mg "MOST_RAISES" = some (.int 200 t_MOST_RAISES)
  t_MOST_SLOTS : Tok
  g_MOST_SLOTS : mg "MOST_SLOTS" = some (.int 48 t_MOST_SLOTS)
  t_MOST_TICKS : Tok
  g_MOST_TICKS : mg "MOST_TICKS" = some (.int 100000 t_MOST_TICKS)
  t_MOST_TURNS : Tok
  g_MOST_TURNS : mg "MOST_TURNS" = some (.int 12 t_MOST_TURNS)
  t_MOST_WINDOWS : Tok
  g_MOST_WINDOWS : mg "MOST_WINDOWS" = some (.int 16 t_MOST_WINDOWS)
  t_REGISTERS : Tok
  g_REGISTERS : mg "REGISTERS" = some (.int 8 t_REGISTERS)
  a_ROLES : Addr
  es_ROLES : Array DictEntry
  n_ROLES : Nat
  g_ROLES : mg "ROLES" = some (.ref a_ROLES)
  D_ROLES : KDict K w a_ROLES es_ROLES n_ROLES
  x_ROLES : ∀ z : Str, z ∉ (["set", "move", "add", "sub", "load", "store", "jump", "zero", "deed"] : List Str) → PySem.W.nsIn K a_ROLES z = some none
  r_ROLES_set : Addr
  i_ROLES_set : PySem.W.nsIn K a_ROLES "set" = some (some (.ref r_ROLES_set))
  q_ROLES_set : ∀ H : Hp, SqT K H r_ROLES_set [.str "register", .str "word"]
  r_ROLES_move : Addr
  i_ROLES_move : PySem.W.nsIn K a_ROLES "move" = some (some (.ref r_ROLES_move))
  q_ROLES_move : ∀ H : Hp, SqT K H r_ROLES_move [.str "register", .str "register"]
  r_ROLES_add : Addr
  i_ROLES_add : PySem.W.nsIn K a_ROLES "add" = some (some (.ref r_ROLES_add))
  q_ROLES_add : ∀ H : Hp, SqT K H r_ROLES_add [.str "register", .str "register"]
  r_ROLES_sub : Addr
  i_ROLES_sub : PySem.W.nsIn K a_ROLES "sub" = some (some (.ref r_ROLES_sub))
  q_ROLES_sub : ∀ H : Hp, SqT K H r_ROLES_sub [.str "register", .str "register"]
  r_ROLES_load : Addr
  i_ROLES_load : PySem.W.nsIn K a_ROLES "load" = some (some (.ref r_ROLES_load))
  q_ROLES_load : ∀ H : Hp, SqT K H r_ROLES_load [.str "register", .str "register"]
  r_ROLES_store : Addr
  i_ROLES_store : PySem.W.nsIn K a_ROLES "store" = some (some (.ref r_ROLES_store))
  q_ROLES_store : ∀ H : Hp, SqT K H r_ROLES_store [.str "register", .str "register"]
  r_ROLES_jump : Addr
  i_ROLES_jump : PySem.W.nsIn K a_ROLES "jump" = some (some (.ref r_ROLES_jump))
  q_ROLES_jump : ∀ H : Hp, SqT K H r_ROLES_jump [.str "target"]
  r_ROLES_zero : Addr
  i_ROLES_zero : PySem.W.nsIn K a_ROLES "zero" = some (some (.ref r_ROLES_zero))
  q_ROLES_zero : ∀ H : Hp, SqT K H r_ROLES_zero [.str "register", .str "target"]
  r_ROLES_deed : Addr
  i_ROLES_deed : PySem.W.nsIn K a_ROLES "deed" = some (some (.ref r_ROLES_deed))
  q_ROLES_deed : ∀ H : Hp, SqT K H r_ROLES_deed [.str "deed"]
  t_WORD : Tok
  g_WORD : mg "WORD" = some (.int 1048576 t_WORD)
  c_InputError : Addr
  gc_InputError : mg "InputError" = some (.ref c_InputError)
  c_BadNumber : Addr
  gc_BadNumber : mg "BadNumber" = some (.ref c_BadNumber)
  c_BadProgram : Addr
  gc_BadProgram : mg "BadProgram" = some (.ref c_BadProgram)
  i_BadProgram : Addr
  S_BadProgram : PySem.SupX.SupTxt P K mg "BadProgram" "index" c_BadProgram i_BadProgram
  I_BadProgram : IsC K c_BadProgram
  m_BadProgram : PySem.W.exmOne K (.ref c_BadProgram) (.ref c_BadProgram) = some true
  c_BadSetup : Addr
  gc_BadSetup : mg "BadSetup" = some (.ref c_BadSetup)
  i_BadSetup : Addr
  S_BadSetup : PySem.SupY.SupTxt2 P K mg "BadSetup" "field" "index" c_BadSetup i_BadSetup
  I_BadSetup : IsC K c_BadSetup
  m_BadSetup : PySem.W.exmOne K (.ref c_BadSetup) (.ref c_BadSetup) = some true
  c_BadRaises : Addr
  gc_BadRaises : mg "BadRaises" = some (.ref c_BadRaises)
  i_BadRaises : Addr
  S_BadRaises : PySem.SupX.SupTxt P K mg "BadRaises" "index" c_BadRaises i_BadRaises
  I_BadRaises : IsC K c_BadRaises
  m_BadRaises : PySem.W.exmOne K (.ref c_BadRaises) (.ref c_BadRaises) = some true
  c_Setup : Addr
  gc_Setup : mg "Setup" = some (.ref c_Setup)
  cl_Setup : Cls K c_Setup
  na_Setup_programs : NoAttr K c_Setup "programs"
  na_Setup_slots : NoAttr K c_Setup "slots"
  na_Setup_windows : NoAttr K c_Setup "windows"
  na_Setup_turns : NoAttr K c_Setup "turns"
  na_Setup_quotas : NoAttr K c_Setup "quotas"
  na_Setup_data : NoAttr K c_Setup "data"
  na_Setup_pages : NoAttr K c_Setup "pages"
  na_Setup_ports : NoAttr K c_Setup "ports"
  na_Setup_bells : NoAttr K c_Setup "bells"
  na_Setup_lines : NoAttr K c_Setup "lines"
  na_Setup_rights : NoAttr K c_Setup "rights"
  mk_Setup : Mk K c_Setup f_Setup__init
  gk_Setup_0 : List Value → List Value → List Value
  kb_Setup_0 : KBn K fd_Setup__init ["self", "programs", "turns", "rights", "quotas", "data", "pages", "ports", "bells", "lines", "slots", "windows"] 3 ["bells", "lines"] gk_Setup_0 (fun vs zs => vs ++ [.ref e_Setup__init_rights] ++ [.non] ++ [.non] ++ [.int 0] ++ [.int 0] ++ (zs.drop 0).take 1 ++ (zs.drop 1).take 1 ++ [.int 8] ++ [.int 2])
  k_BadProgram_InputError : PySem.W.kitOne K (.ref c_BadProgram) (.ref c_InputError) = some true
  k_BadProgram_BadNumber : PySem.W.kitOne K (.ref c_BadProgram) (.ref c_BadNumber) = some false
  k_BadProgram_BadProgram : PySem.W.kitOne K (.ref c_BadProgram) (.ref c_BadProgram) = some true
  k_BadProgram_BadSetup : PySem.W.kitOne K (.ref c_BadProgram) (.ref c_BadSetup) = some false
  k_BadProgram_BadRaises : PySem.W.kitOne K (.ref c_BadProgram) (.ref c_BadRaises) = some false
  k_BadProgram_Setup : PySem.W.kitOne K (.ref c_BadProgram) (.ref c_Setup) = some false
  k_BadProgram_ValueError : PySem.W.kitOne K (.ref c_BadProgram) (.type "ValueError") = some true
  k_BadSetup_InputError : PySem.W.kitOne K (.ref c_BadSetup) (.ref c_InputError) = some true
  k_BadSetup_BadNumber : PySem.W.kitOne K (.ref c_BadSetup) (.ref c_BadNumber) = some false
  k_BadSetup_BadProgram : PySem.W.kitOne K (.ref c_BadSetup) (.ref c_BadProgram) = some false
  k_BadSetup_BadSetup : PySem.W.kitOne K (.ref c_BadSetup) (.ref c_BadSetup) = some true
  k_BadSetup_BadRaises : PySem.W.kitOne K (.ref c_BadSetup) (.ref c_BadRaises) = some false
  k_BadSetup_Setup : PySem.W.kitOne K (.ref c_BadSetup) (.ref c_Setup) = some false
  k_BadSetup_ValueError : PySem.W.kitOne K (.ref c_BadSetup) (.type "ValueError") = some true
  k_BadRaises_InputError : PySem.W.kitOne K (.ref c_BadRaises) (.ref c_InputError) = some true
  k_BadRaises_BadNumber : PySem.W.kitOne K (.ref c_BadRaises) (.ref c_BadNumber) = some false
  k_BadRaises_BadProgram : PySem.W.kitOne K (.ref c_BadRaises) (.ref c_BadProgram) = some false
  k_BadRaises_BadSetup : PySem.W.kitOne K (.ref c_BadRaises) (.ref c_BadSetup) = some false
  k_BadRaises_BadRaises : PySem.W.kitOne K (.ref c_BadRaises) (.ref c_BadRaises) = some true
  k_BadRaises_Setup : PySem.W.kitOne K (.ref c_BadRaises) (.ref c_Setup) = some false
  k_BadRaises_ValueError : PySem.W.kitOne K (.ref c_BadRaises) (.type "ValueError") = some true
  n_ValueError : mg "ValueError" = none
  n_all : mg "all" = none
  n_bool : mg "bool" = none
  n_enumerate : mg "enumerate" = none
  n_int : mg "int" = none
  n_isinstance : mg "isinstance" = none
  n_len : mg "len" = none
  n_list : mg "list" = none
  n_min : mg "min" = none
  n_range : mg "range" = none
  n_sorted : mg "sorted" = none
  n_str : mg "str" = none
  n_tuple : mg "tuple" = none

/-! ### what the top has written -/
section
variable {P : Program} {w : World} {K : PySem.W.Frag} {mg : Str → Option Value}
theorem roles_in (T : Tx P w K mg) {n : Str} (h : n ∈ names9) : ∃ r, PySem.W.nsIn K T.a_ROLES n = some (some (.ref r)) ∧ ∀ H : Hp, SqT K H r ((rolesF n).map V.str) := by
  unfold names9 at h
  simp only [List.mem_cons, List.not_mem_nil, or_false] at h
  rcases h with rfl | rfl | rfl | rfl | rfl | rfl | rfl | rfl | rfl
  · exact ⟨_, T.i_ROLES_set, T.q_ROLES_set⟩
  · exact ⟨_, T.i_ROLES_move, T.q_ROLES_move⟩
  · exact ⟨_, T.i_ROLES_add, T.q_ROLES_add⟩
  · exact ⟨_, T.i_ROLES_sub, T.q_ROLES_sub⟩
  · exact ⟨_, T.i_ROLES_load, T.q_ROLES_load⟩
  · exact ⟨_, T.i_ROLES_store, T.q_ROLES_store⟩
  · exact ⟨_, T.i_ROLES_jump, T.q_ROLES_jump⟩
  · exact ⟨_, T.i_ROLES_zero, T.q_ROLES_zero⟩
  · exact ⟨_, T.i_ROLES_deed, T.q_ROLES_deed⟩
end
/-! the forward steps as a tactic (walk_at "..": the library's own syntax) -/
local macro_rules | `(tactic| walk_at "lw at") => `(tactic| first | assumption | (refine' Ex.at_ ?zze ?zzh; (case zze => assumption); (case zzh => walk_at "lw at")))
local macro_rules | `(tactic| walk_at "lw iv") => `(tactic| first | assumption | exact Ex.iv (by assumption))
local macro_rules | `(tactic| walk_at "lw ex") => `(tactic| first | assumption | exact Ex.refl (by walk_at "lw iv") | (refine' Ex.trans ?zza ?zzb; (case zzb => assumption); (case zza => walk_at "lw ex")))
local macro_rules | `(tactic| walk_at "lw ix") => `(tactic| first | rfl | exact at_0 | exact ix_0 (by simp; done))
local macro_rules | `(tactic| walk_at "lw side") => `(tactic| first | rfl | assumption | decide | omega | decide +kernel | (refine And.intro ?_ ?_ <;> decide +kernel) | exact ⟨by omega, by omega⟩ | exact Or.inr (by decide) | exact Or.inl (by decide) | exact Or.inl ⟨by omega, by omega⟩ | exact Nat.le_trans (cut_len _ _ _) (by first | omega | (simp only [List.length_cons, List.length_nil]; omega)) | (refine Nat.le_trans (Nat.add_le_add (cut_len _ _ _) (cut_len _ _ _)) ?_; decide) | (simp; done) | (simp only [List.length_cons, List.length_nil, List.length_append, List.length_map]; omega) | (simp only [List.length_cons, List.length_nil, List.length_append]; omega) | (simp; omega) | (simp at *; omega))
local macro_rules | `(tactic| walk_at "lw rd") => `(tactic| with_reducible first
  | refine rd_seq ?_ | refine rd_asg ?_ | refine rd_asgG ?_ | refine rd_drop ?_ | refine rd_ret ?_ | refine rd_retN ?_ | refine rd_ifS ?_ | refine rd_c ?_ | refine rd_op ?_ | refine rd_un ?_
  | (refine' rd_var ?zzr ?_; (case zzr => with_unfolding_all rfl)) | refine rd_I0 ?_ | (refine' rd_I ?zzr ?_; (case zzr => with_unfolding_all walk_at "lw side"))
  | refine rd_U ?_ | (refine' rd_eq ?zzr ?_; (case zzr => with_unfolding_all rfl)) | (refine' rd_ne ?zzr ?_; (case zzr => with_unfolding_all rfl)) | refine rd_isN ?_ | refine rd_notN ?_
  | refine rd_test ?_ | refine rd_B ?_ | refine rd_bl ?_ | refine rd_blV ?_ | refine rd_and ?_ | refine rd_or ?_ | refine rd_not ?_ | refine rd_andV ?_ | refine rd_orV ?_ | refine rd_notV ?_ | refine rd_ifE ?_
  | refine rd_nil ?_ | refine rd_cons ?_ | refine rd_call ?_ | refine rd_cb ?_ | refine rd_tupU ?_ | refine rd_lstU ?_
  | (refine' rd_new (by with_unfolding_all walk_at "lw iv") (by with_unfolding_all walk_at "lw side") ?_; intro _ _ _ _ _) | (refine' rd_new1 (by with_unfolding_all walk_at "lw iv") ?_; intro _ _ _ _ _)
  | (refine' rd_ixL ?zzh ?zzr ?_; (case zzh => with_unfolding_all walk_at "lw at"); (case zzr => with_unfolding_all walk_at "lw ix")) | (refine' rd_ixT ?zzh ?zzr ?_; (case zzh => with_unfolding_all walk_at "lw at"); (case zzr => with_unfolding_all walk_at "lw ix"))
  | (refine' rd_len ?zzh ?_; (case zzh => with_unfolding_all walk_at "lw at")) | (refine' rd_lenT ?zzh ?_; (case zzh => with_unfolding_all walk_at "lw at"))
  | refine rd_int ?_ | refine rd_intB ?_ | refine rd_abs ?_ | refine rd_max2 ?_ | refine rd_min2 ?_
  | (refine' rd_lens ?zzr ?_; (case zzr => with_unfolding_all walk_at "lw side")) | (refine' rd_adds ?zzr ?_; (case zzr => with_unfolding_all walk_at "lw side"))
  | refine rd_nopart ?_ | refine rd_part ?_ | refine rd_partI ?_ | refine rd_sl ?_
  | (refine' rd_slL (by with_unfolding_all walk_at "lw iv") ?zzh ?_; (case zzh => with_unfolding_all walk_at "lw at"); intro _ _ _ _ _)
  | (refine' rd_list (by with_unfolding_all walk_at "lw iv") ?zzh ?_; (case zzh => with_unfolding_all walk_at "lw at"); intro _ _ _ _ _)
  | (refine' rd_listT (by with_unfolding_all walk_at "lw iv") ?zzh ?_; (case zzh => with_unfolding_all walk_at "lw at"); intro _ _ _ _ _)
  | (refine' rd_tuple (by with_unfolding_all walk_at "lw iv") ?zzh ?_; (case zzh => with_unfolding_all walk_at "lw at"); intro _ _ _ _ _)
  | (refine' rd_cat (by with_unfolding_all walk_at "lw iv") ?zzh ?zzk ?zzr ?_; (case zzh => with_unfolding_all walk_at "lw at"); (case zzk => with_unfolding_all walk_at "lw at"); (case zzr => with_unfolding_all walk_at "lw side"); intro _ _ _ _ _)
  | refine rd_lc ?_ | refine rd_lcT ?_ | (refine' rd_any ?zzh ?_; (case zzh => with_unfolding_all walk_at "lw at")) | (refine' rd_sum ?zzh ?_; (case zzh => with_unfolding_all walk_at "lw at"))
  | (refine' rd_inK ?zzh ?zzf ?zzg ?_; (case zzh => with_unfolding_all walk_at "lw kt"); (case zzf => with_unfolding_all rfl); (case zzg => with_unfolding_all rfl))
  | (refine' rd_niK ?zzh ?zzf ?zzg ?_; (case zzh => with_unfolding_all walk_at "lw kt"); (case zzf => with_unfolding_all rfl); (case zzg => with_unfolding_all rfl))
  | (refine' rd_inT ?zzh ?zzf ?zzg ?_; (case zzh => with_unfolding_all walk_at "lw at"); (case zzf => with_unfolding_all rfl); (case zzg => with_unfolding_all rfl))
  | (refine' rd_niT ?zzh ?zzf ?zzg ?_; (case zzh => with_unfolding_all walk_at "lw at"); (case zzf => with_unfolding_all rfl); (case zzg => with_unfolding_all rfl))
  | (refine' rd_inL ?zzh ?zzf ?zzg ?_; (case zzh => with_unfolding_all walk_at "lw at"); (case zzf => with_unfolding_all rfl); (case zzg => with_unfolding_all rfl))
  | (refine' rd_niL ?zzh ?zzf ?zzg ?_; (case zzh => with_unfolding_all walk_at "lw at"); (case zzf => with_unfolding_all rfl); (case zzg => with_unfolding_all rfl))
  | (refine' rd_slTn (by with_unfolding_all walk_at "lw iv") ?zzh ?zzn ?_; (case zzh => with_unfolding_all walk_at "lw at"); (case zzn => with_unfolding_all (intro zzi; have zzq := zzi.1; simp [HT.sIx] at zzq)); intro _ _ _ _ _)
  | (refine' rd_gtup ?zzh ?zze ?_; (case zzh => with_unfolding_all walk_at "lw at"); (case zze => with_unfolding_all rfl)) | refine rd_gcons ?_ | refine rd_gnil ?_ | (refine' rd_gconsE ?zze ?_; (case zze => with_unfolding_all rfl)) | (refine' rd_gnilE ?zze ?_; (case zze => with_unfolding_all rfl)) | (refine' rd_isiY ?zzt ?zze ?_; (case zzt => with_unfolding_all walk_at "lw ty"); (case zze => with_unfolding_all decide +kernel)) | (refine' rd_isiN ?zzt ?zze ?_; (case zzt => with_unfolding_all walk_at "lw ty"); (case zze => with_unfolding_all decide +kernel)) | refine rd_gname ?_
  | refine rd_forL ?_ | refine rd_forR1 ?_ | refine rd_forR2 ?_ | (refine' rd_forR1a ?zza ?zzb ?_; (case zza => with_unfolding_all walk_at "lw side"); (case zzb => with_unfolding_all walk_at "lw side")) | (refine' rd_forLa ?zzh ?_; (case zzh => with_unfolding_all walk_at "lw at"))
  | (refine' rd_ixM ?zzh ?zzr ?zzs ?_; (case zzh => with_unfolding_all walk_at "lw at"); (case zzr => with_unfolding_all omega); (case zzs => with_unfolding_all walk_at "lw side"); intro _ _)
  | refine rd_gsub ?_ | (refine' rd_ixLr ?zzh ?zzr ?_; (case zzh => assumption); (case zzr => with_unfolding_all walk_at "lw ix")) | (refine' rd_setr ?zzh ?zzr ?_; (case zzh => assumption); (case zzr => with_unfolding_all walk_at "lw ix"); intro _ _ _) | (refine' rd_lenr ?zzh ?_; (case zzh => assumption))
  | (refine' rd_append ?zze ?zzf ?zzh ?zzr ?_; (case zzf => assumption); (case zze => with_unfolding_all walk_at "lw ex"); (case zzh => with_unfolding_all walk_at "lw at"); (case zzr => with_unfolding_all walk_at "lw side"); intro _ _ _ _)
  | refine rd_bm ?_ | (refine' rd_tyL ?zzh ?_; (case zzh => with_unfolding_all walk_at "lw at")) | refine rd_next ?_ | refine rd_brk ?_ | refine rd_cont ?_)
local macro_rules | `(tactic| walk_at "lw go") => `(tactic| repeat walk_at "lw rd")
local macro_rules | `(tactic| walk_at "lw ai") => `(tactic| with_reducible first | assumption | exact AI.one _ | exact AI.nil | exact AI.of _ | exact AI.cut (by walk_at "lw ai") | exact AI.app (by walk_at "lw ai") (by walk_at "lw ai"))
local macro_rules | `(tactic| walk_at "lw as") => `(tactic| with_reducible first | assumption | exact AS.nil | exact AS.of _ | (refine' AS.cons ?zzx; (case zzx => walk_at "lw as")) | (refine' AS.cut ?zzx; (case zzx => walk_at "lw as")) | (refine' AS.app ?zzx ?zzy; (case zzx => walk_at "lw as"); (case zzy => walk_at "lw as")))
local macro_rules | `(tactic| walk_at "lw ty") => `(tactic| first | exact .base (.int _) | exact .base (.str _) | exact .base (.bl _) | exact .base .non | exact .base (.lst (At.raw (by walk_at "lw at"))) | exact .base (.tup (At.raw (by walk_at "lw at"))))
local macro_rules | `(tactic| walk_at "lw kt") => `(tactic| fail)
local macro_rules | `(tactic| walk_at "lw if") => `(tactic| with_reducible first
  | refine iteNT ?_ | refine iteNF ?_ | refine iteT ?_ | refine iteF ?_
  | (refine' ifS_yes ?zzr ?_; (case zzr => with_unfolding_all first | assumption | decide +kernel)) | (refine' ifS_no ?zzr ?_; (case zzr => with_unfolding_all first | assumption | decide +kernel))
  | (refine' ifSn_no ?zzr ?_; (case zzr => with_unfolding_all first | assumption | decide +kernel)) | (refine' ifSn_yes ?zzr ?_; (case zzr => with_unfolding_all first | assumption | decide +kernel))
  | (refine' ifI_yes ?zzr ?_; (case zzr => with_unfolding_all omega)) | (refine' ifI_no ?zzr ?_; (case zzr => with_unfolding_all omega))
  | (refine' ifIn_no ?zzr ?_; (case zzr => with_unfolding_all omega)) | (refine' ifIn_yes ?zzr ?_; (case zzr => with_unfolding_all omega))
  | (refine' ifS ?_ ?_ <;> intro zze <;> try subst zze) | (refine' ifSn ?_ ?_ <;> intro zze <;> try subst zze) | (refine' ifI ?_ ?_ <;> intro zze <;> try subst zze) | (refine' ifIn ?_ ?_ <;> intro zze <;> try subst zze)
  | (refine' ifD_yes ?zzr ?_; (case zzr => with_unfolding_all omega)) | (refine' ifD_no ?zzr ?_; (case zzr => with_unfolding_all omega))
  | (refine' ifD ?_ ?_ <;> intro zze) | (refine' ifN ?_ ?_ <;> intro zze) | (refine' iteT ?_) | (refine' iteF ?_) | (refine' ifB ?_ ?_ <;> intro zze) | (refine' ifNB ?_ ?_ <;> intro zze))
local macro_rules | `(tactic| walk_at "lw all") => `(tactic| repeat' (first | walk_at "lw rd" | walk_at "lw if"))

local macro_rules | `(tactic| walk_at "lw rd") => `(tactic| with_reducible first
  | refine rd_chain ?_ | refine rd_yes ?_ | refine rd_forS ?_ | refine rd_srcS ?_ | refine rd_forT ?_ | refine rd_forE ?_ | refine rd_forET ?_ | refine rd_lcS ?_ | refine rd_lcR ?_
  | (refine' rd_srcT ?zzh ?_; (case zzh => with_unfolding_all walk_at "lw at"))
  | (refine' rd_srcE ?zzh ?zza ?zzb ?_; (case zzh => with_unfolding_all walk_at "lw at"); (case zza => with_unfolding_all decide); (case zzb => with_unfolding_all decide))
  | (refine' rd_srcR ?zza ?zzb ?_; (case zza => with_unfolding_all walk_at "lw side"); (case zzb => with_unfolding_all walk_at "lw side"))
  | (refine' rd_dnew (by with_unfolding_all walk_at "lw iv") ?_; intro _ _ _ _ _) | refine rd_dget1 ?_ | (refine' rd_isD ?zzh ?_; (case zzh => with_unfolding_all walk_at "lw at")) | (refine' rd_dgetS ?zzh ?_; (case zzh => with_unfolding_all walk_at "lw at"))
  | refine rd_din ?_ | refine rd_dnin ?_ | (refine' rd_dinS ?zzh ?_; (case zzh => with_unfolding_all walk_at "lw at")) | refine rd_dput ?_ | refine rd_dsetd ?_
  | (refine' rd_dputS ?zze ?zzf ?zzh ?zzr ?_; (case zzf => assumption); (case zze => with_unfolding_all walk_at "lw ex"); (case zzh => with_unfolding_all walk_at "lw at"); (case zzr => with_unfolding_all walk_at "lw side"); intro _ _ _ _)
  | refine rd_ends ?_ | refine rd_starts ?_ | refine rd_find ?_ | refine rd_tyS ?_ | refine rd_inSg ?_ | refine rd_ninSg ?_ | refine rd_strS ?_
  | (refine' rd_slS ?zzr ?_; (case zzr => with_unfolding_all walk_at "lw side")) | (refine' rd_ixS ?zzr ?zzs ?_; (case zzr => with_unfolding_all walk_at "lw side"); (case zzs => with_unfolding_all walk_at "lw ixs"))
  | (refine' rd_split (by with_unfolding_all walk_at "lw iv") ?zza ?zzr ?_; (case zza => with_unfolding_all decide +kernel); (case zzr => with_unfolding_all walk_at "lw side"); intro _ _ _ _ _)
  | (refine' rd_rep (by with_unfolding_all walk_at "lw iv") ?zzh ?zza ?zzb ?zzr ?_; (case zzh => with_unfolding_all walk_at "lw at"); (case zza => with_unfolding_all walk_at "lw side"); (case zzb => with_unfolding_all walk_at "lw side"); (case zzr => with_unfolding_all walk_at "lw side"); intro _ _ _ _ _))
local macro_rules | `(tactic| walk_at "lw ixs") => `(tactic| first | assumption | rfl)
local macro_rules | `(tactic| walk_at "lw if") => `(tactic| with_reducible first | (refine' ifB_yes ?zzr ?_; (case zzr => assumption)) | (refine' ifB_no ?zzr ?_; (case zzr => assumption)) | (refine' ifNB_yes ?zzr ?_; (case zzr => assumption)) | (refine' ifNB_no ?zzr ?_; (case zzr => assumption)) | fail)
local macro_rules | `(tactic| walk_at "lw ix") => `(tactic| assumption)
local macro_rules | `(tactic| walk_at "lw gi") => `(tactic| repeat (first | walk_at "lw rd" | with_reducible refine iteT ?_ | with_reducible refine iteF ?_ | with_reducible refine iteNT ?_ | with_reducible refine iteNF ?_))

local macro_rules | `(tactic| walk_at "lw kt") => `(tactic| exact Tx.q_DEEDS (by assumption) _)
local macro_rules | `(tactic| walk_at "lw dw") => `(tactic| first | assumption | (refine' DW.ex ?zze ?zzh; (case zze => assumption); (case zzh => walk_at "lw dw")) | exact DW.int _ | exact DW.str _ | exact DW.bl _ | exact DW.non)
local macro_rules | `(tactic| walk_at "lw sb") => `(tactic| first | assumption | (refine' SqB.ex ?zze ?zzh; (case zze => assumption); (case zzh => walk_at "lw sb")))
local macro_rules | `(tactic| walk_at "lw side") => `(tactic| first | with_reducible assumption | omega | fail)
local macro_rules | `(tactic| walk_at "lw rd") => `(tactic| with_reducible first
  | (refine' cl_is_integer ?zzh ?_; (case zzh => with_unfolding_all walk_at "lw dw")) | (refine' cl_is_word ?zzh ?_; (case zzh => with_unfolding_all walk_at "lw dw")) | (refine' cl_is_row ?zzi ?zzh ?_; (case zzi => with_unfolding_all walk_at "lw iv"); (case zzh => with_unfolding_all walk_at "lw dw"); intro _ _)
  | refine cl_bound ?_ | (refine' cl_fits ?zzh ?_; (case zzh => with_unfolding_all walk_at "lw dw")) | (refine' cl_is_instruction ?zzi ?zzh ?_; (case zzi => with_unfolding_all walk_at "lw iv"); (case zzh => with_unfolding_all walk_at "lw dw"); intro _ _)
  | (refine' rd_isTup ?zzh ?_; (case zzh => with_unfolding_all walk_at "lw dw")) | (refine' rd_isInt ?zzh ?_; (case zzh => with_unfolding_all walk_at "lw dw")) | (refine' rd_isBool ?zzh ?_; (case zzh => with_unfolding_all walk_at "lw dw")) | (refine' rd_isStr ?zzh ?_; (case zzh => with_unfolding_all walk_at "lw dw"))
  | (refine' cl_is_between ?zzh ?_; (case zzh => with_unfolding_all walk_at "lw dw"))
  | (refine' cl_is_turn ?zzi ?zzh ?_; (case zzi => with_unfolding_all walk_at "lw iv"); (case zzh => with_unfolding_all walk_at "lw dw"); intro _ _) | (refine' cl_is_data ?zzi ?zzh ?_; (case zzi => with_unfolding_all walk_at "lw iv"); (case zzh => with_unfolding_all walk_at "lw dw"); intro _ _)
  | (refine' cl_free_price ?zzh ?_; (case zzh => with_unfolding_all walk_at "lw side")) | (refine' cl_least_ticks ?zzh ?_; (case zzh => with_unfolding_all walk_at "lw side"))
  | (refine' rd_ixB ?zzh ?zzr ?_; (case zzh => with_unfolding_all walk_at "lw sb"); (case zzr => with_unfolding_all walk_at "lw ix")) | (refine' rd_lenB ?zzh ?_; (case zzh => with_unfolding_all walk_at "lw sb")))
local macro_rules | `(tactic| walk_at "bad now") => `(tactic| exact ⟨by first | exact noL_tup rfl | exact noL_atom rfl, by first | rfl | (simp only [PyData.canLay0, PyData.canLayAll0]; decide +kernel), of_decide_eq_true rfl, by first | rfl | exact bad_snd rfl | exact bad_fst rfl | exact bad_snd (bet_F (by omega)) | exact bad_fst (bet_F (by omega)) | exact bad_fst (bet_F (by rw [p10]; omega))⟩)
local macro_rules | `(tactic| walk_at "lw ix") => `(tactic| first | exact ix_lit (by decide) (by decide) | exact at_l1 | exact at_l2 | exact at_l3)
local macro_rules | `(tactic| walk_at "lw rd") => `(tactic| with_reducible first
  | (refine' cl_law_take ?zza ?zzb ?zzc ?_; (case zza => with_unfolding_all walk_at "lw side"); (case zzb => with_unfolding_all walk_at "lw side"); (case zzc => with_unfolding_all walk_at "lw iv"); intro _ _ _ _ _)
  | (refine' cl_law_tick ?zzc ?_; (case zzc => with_unfolding_all walk_at "lw iv"); intro _ _ _ _ _))
section
variable {P : Program} {w : World} {K : PySem.W.Frag} {mg : Str → Option Value} {base : Heap}

theorem ok_is_integer (T : Tx P w K mg) : FnOk P w K mg base CX0 1 T.f_is_integer T.fd_is_integer ["value"] (sp_is_integer K) := by
  refine T.F_is_integer.ok sc_is_integer (fun vs H Q E h => ?_) (fun cdv A outer s H vs Q E hr h => ?_)
  · obtain ⟨W, v, d, rfl, h, k⟩ := h
    rfl
  · obtain ⟨W, v, d, rfl, h, k⟩ := h
    refine ⟨_, (pss_one (ps_ret (pe_and (pe_callB (r := rIsi K) call_isi (by rfl) T.n_isinstance (by decide +kernel) (pa_cons (pv 0) (pa_cons (pe_bltn (v := .ty "int") rfl T.n_int (by decide +kernel) rfl) pa_nil))) (pe_one (pe_not (pe_callB (r := rIsi K) call_isi (by rfl) T.n_isinstance (by decide +kernel) (pa_cons (pv 0) (pa_cons (pe_bltn (v := .ty "bool") rfl T.n_bool (by decide +kernel) rfl) pa_nil)))))))), ?_⟩
    walk_at "lw go"
    refine ifB ?_ ?_ <;> intro h1
    · walk_at "lw go"
      exact cast_bl k (isI_F h1)
    · walk_at "lw go"
      exact cast_bl k (isI_F2 h1)

theorem ok_is_word (T : Tx P w K mg) : FnOk P w K mg base CX0 2 T.f_is_word T.fd_is_word ["value"] (sp_is_word K) := by
  refine T.F_is_word.ok sc_is_word (fun vs H Q E h => ?_) (fun cdv A outer s H vs Q E hr h => ?_)
  · obtain ⟨W, v, d, rfl, h, k⟩ := h
    rfl
  · obtain ⟨W, v, d, rfl, h, k⟩ := h
    refine ⟨_, (pss_one (ps_ret (pe_and (pe_call (ok_is_integer T) hr (by rfl) T.g_is_integer T.F_is_integer.kp T.b_is_integer .nil pass0 (pa_cons (pv 0) pa_nil)) (pe_one (pe_chain op_le op_lt pe_int (pv 0) (pe_glob (v := .int 1048576) rfl T.g_WORD ⟨_, rfl⟩)))))), ?_⟩
    walk_at "lw go"
    refine ifB ?_ ?_ <;> intro h1
    · obtain ⟨i, rfl⟩ := isI_E h1
      obtain rfl := h.intE
      walk_at "lw all"
      · refine cast_bl k ?_
        show decide _ = decide _
        rw [decide_eq_decide]
        omega
      · exact cast_bl k (decide_eq_false (by omega))
    · walk_at "lw go"
      exact cast_bl k (isWordD_F h1)

theorem ok_is_kind (T : Tx P w K mg) : FnOk P w K mg base CX0 1 T.f_is_kind T.fd_is_kind ["kind"] (sp_is_kind) := by
  refine T.F_is_kind.ok sc_is_kind (fun vs H Q E h => ?_) (fun cdv A outer s H vs Q E hr h => ?_)
  · obtain ⟨v0, rfl, hF⟩ := h
    rfl
  · obtain ⟨v0, rfl, hF⟩ := h
    refine ⟨_, (pss_one (ps_ret (pe_and (pe_callB (r := rIsi K) call_isi (by rfl) T.n_isinstance (by decide +kernel) (pa_cons (pv 0) (pa_cons (pe_bltn (v := .ty "str") rfl T.n_str (by decide +kernel) rfl) pa_nil))) (pe_one (pe_cmpR (r := rInKd K T.a_LETTERS) (o_inKd T.D_LETTERS) (pv 0) (pe_glob (v := .ref T.a_LETTERS) rfl T.g_LETTERS rfl) (by rfl)))))), ?_⟩
    exact hF.elim

theorem ok_in_order (T : Tx P w K mg) : FnOk P w K mg base CX0 2 T.f_in_order T.fd_in_order ["kind", "letters"] (sp_in_order) := by
  refine T.F_in_order.ok sc_in_order (fun vs H Q E h => ?_) (fun cdv A outer s H vs Q E hr h => ?_)
  · obtain ⟨v0, v1, rfl, hF⟩ := h
    rfl
  · obtain ⟨v0, v1, rfl, hF⟩ := h
    refine ⟨_, (pss_cons (ps_if (PW.pt (pw_or (pt_not (pt_val (pe_call (ok_is_kind T) hr (by rfl) T.g_is_kind T.F_is_kind.kp T.b_is_kind .nil pass0 (pa_cons (pv 0) pa_nil)))) (pw_or (pt_not (pt_val (pe_callB (r := rIsi K) call_isi (by rfl) T.n_isinstance (by decide +kernel) (pa_cons (pv 1) (pa_cons (pe_bltn (v := .ty "str") rfl T.n_str (by decide +kernel) rfl) pa_nil))))) (pw_or1 (pt_cmpR op_eq (pv 1) pe_str (nomark _))))))
        (pss_one (ps_ret pe_bl))
        pss_nil)
      (pss_cons (ps_set (i := 2) sc_in_order.nd rfl (by first | exact Or.inl rfl | exact Or.inr rfl) (pe_un un_neg pe_int))
      (pss_cons (ps_for PassesOwn.never rfl (pi_str (pv 1)) (pg_name (i := 3) sc_in_order.nd rfl (by first | exact Or.inl rfl | exact Or.inr rfl))
        (pss_cons (ps_set (i := 4) sc_in_order.nd rfl (by first | exact Or.inl rfl | exact Or.inr rfl) (pe_bm PySem.F.plainAttrs_str PySem.F.slot_str_find PySem.F.type_str_find m_find (pe_ix (r := rIxKd K w) x_kd (pe_glob (v := .ref T.a_LETTERS) rfl T.g_LETTERS rfl) (pv 0) (fun _ _ => rfl)) (pa_cons (pv 3) pa_nil)))
        (pss_cons (ps_if (pt_cmpR op_le (pv 4) (pv 2) (nomark _))
          (pss_one (ps_ret pe_bl))
          pss_nil)
        (pss_one (ps_set (i := 2) sc_in_order.nd rfl (by first | exact Or.inl rfl | exact Or.inr rfl) (pv 4))))))
      (pss_one (ps_ret pe_bl))))), ?_⟩
    exact hF.elim

theorem ok_is_row (T : Tx P w K mg) : FnOk P w K mg base CX0 1 T.f_is_row T.fd_is_row ["value"] (sp_is_row K) := by
  refine T.F_is_row.ok sc_is_row (fun vs H Q E h => ?_) (fun cdv A outer s H vs Q E hr h => ?_)
  · obtain ⟨W, v, d, rfl, iv, h, k⟩ := h
    rfl
  · obtain ⟨W, v, d, rfl, iv, h, k⟩ := h
    refine ⟨_, (pss_one (ps_ret (pe_callB (r := rIsiT K) call_isiT (by rfl) T.n_isinstance (by decide +kernel) (pa_cons (pv 0) (pa_cons (pe_tup (pa_cons (pe_bltn (v := .ty "list") rfl T.n_list (by decide +kernel) rfl) (pa_cons (pe_bltn (v := .ty "tuple") rfl T.n_tuple (by decide +kernel) rfl) pa_nil))) pa_nil))))), ?_⟩
    walk_at "lw go"
    rename_i p H1 f1 e1 h1
    refine rd_isRowD (h.ex e1) h1.raw ?_
    exact k _ e1

theorem ok_bound (T : Tx P w K mg) : FnOk P w K mg base CX0 1 T.f_bound T.fd_bound ["role", "length"] (sp_bound) := by
  refine T.F_bound.ok sc_bound (fun vs H Q E h => ?_) (fun cdv A outer s H vs Q E hr h => ?_)
  · obtain ⟨r, n, rfl, k⟩ := h
    rfl
  · obtain ⟨r, n, rfl, k⟩ := h
    refine ⟨_, (pss_cons (ps_if (pt_cmpR op_eq (pv 0) pe_str (nomark _))
        (pss_one (ps_ret (pe_glob (v := .int 8) rfl T.g_REGISTERS ⟨_, rfl⟩)))
        pss_nil)
      (pss_cons (ps_if (pt_cmpR op_eq (pv 0) pe_str (nomark _))
        (pss_one (ps_ret (pe_glob (v := .int 1048576) rfl T.g_WORD ⟨_, rfl⟩)))
        pss_nil)
      (pss_one (ps_ret (pv 1))))), ?_⟩
    unfold boundF at k
    walk_at "lw all"
    · exact k
    · rename_i h
      rw [if_neg (by decide +kernel), if_pos rfl] at k
      exact k
    · rename_i h1 h2
      rw [if_neg h1, if_neg h2] at k
      exact k

theorem ok_fits (T : Tx P w K mg) : FnOk P w K mg base CX0 2 T.f_fits T.fd_fits ["part", "role", "length"] (sp_fits K) := by
  refine T.F_fits.ok sc_fits (fun vs H Q E h => ?_) (fun cdv A outer s H vs Q E hr h => ?_)
  · obtain ⟨W, v, d, r, n, rfl, h, k⟩ := h
    rfl
  · obtain ⟨W, v, d, r, n, rfl, h, k⟩ := h
    refine ⟨_, (pss_cons (ps_if (pt_cmpR op_eq (pv 1) pe_str (nomark _))
        (pss_one (ps_ret (pe_and (pe_callB (r := rIsi K) call_isi (by rfl) T.n_isinstance (by decide +kernel) (pa_cons (pv 0) (pa_cons (pe_bltn (v := .ty "str") rfl T.n_str (by decide +kernel) rfl) pa_nil))) (pe_one (pe_cmpR (r := rIn K false) op_in_seq (pv 0) (pe_glob (v := .ref T.a_DEEDS) rfl T.g_DEEDS rfl) (by rfl))))))
        pss_nil)
      (pss_one (ps_ret (pe_and (pe_call (ok_is_integer T) hr (by rfl) T.g_is_integer T.F_is_integer.kp T.b_is_integer .nil pass0 (pa_cons (pv 0) pa_nil)) (pe_one (pe_chain op_le op_lt pe_int (pv 0) (pe_call (ok_bound T) hr (by rfl) T.g_bound T.F_bound.kp T.b_bound .nil pass0 (pa_cons (pv 1) (pa_cons (pv 2) pa_nil))))))))), ?_⟩
    have hDL : [V.str "halt", .str "until", .str "clock", .str "look", .str "claim", .str "free", .str "copy", .str "drop", .str "revoke", .str "map", .str "unmap", .str "send", .str "take", .str "trysend", .str "trytake", .str "call", .str "reply", .str "ring", .str "await", .str "tryawait", .str "ack", .str "give", .str "pull"] = deedsL.map V.str := rfl
    unfold fitD at k
    by_cases hd : r = "deed"
    · subst hd
      rw [if_pos rfl] at k
      walk_at "lw go"
      refine ifS_yes rfl ?_
      walk_at "lw go"
      refine ifB ?_ ?_ <;> intro h1
      · obtain ⟨s, rfl⟩ := isS_E h1
        obtain rfl := h.strE
        walk_at "lw go"
        rw [hDL, inV_str]
        exact k
      · walk_at "lw go"
        exact cast_bl k (inDL_F h1)
    · rw [if_neg hd] at k
      walk_at "lw go"
      refine ifS_no hd ?_
      walk_at "lw go"
      refine ifB ?_ ?_ <;> intro h1
      · obtain ⟨i, rfl⟩ := isI_E h1
        obtain rfl := h.intE
        walk_at "lw all"
        · refine cast_bl k ?_
          show decide _ = decide _
          rw [decide_eq_decide]
          omega
        · exact cast_bl k (decide_eq_false (by omega))
      · walk_at "lw go"
        exact cast_bl k (isBelow_F h1)

theorem ok_is_instruction (T : Tx P w K mg) : FnOk P w K mg base CX0 3 T.f_is_instruction T.fd_is_instruction ["item", "length"] (sp_is_instruction K) := by
  refine T.F_is_instruction.ok sc_is_instruction (fun vs H Q E h => ?_) (fun cdv A outer s H vs Q E hr h => ?_)
  · obtain ⟨W, v, d, n, rfl, iv, h, k⟩ := h
    rfl
  · obtain ⟨W, v, d, n, rfl, iv, h, k⟩ := h
    refine ⟨_, (pss_cons (ps_if (PW.pt (pw_or (pt_not (pt_val (pe_call (ok_is_row T) (hr.mono (by decide)) (by rfl) T.g_is_row T.F_is_row.kp T.b_is_row .nil pass0 (pa_cons (pv 0) pa_nil)))) (pw_or (pt_cmpR op_eq (pe_callB (r := Lw.rLen K) c_len (by rfl) T.n_len PySem.boot_len (pa_cons (pv 0) pa_nil)) pe_int (nomark _)) (pw_or1 (pt_not (pt_val (pe_callB (r := rIsi K) call_isi (by rfl) T.n_isinstance (by decide +kernel) (pa_cons (pe_ix (r := rIx K) ix_seq (pv 0) pe_int (fun _ _ => rfl)) (pa_cons (pe_bltn (v := .ty "str") rfl T.n_str (by decide +kernel) rfl) pa_nil)))))))))
        (pss_one (ps_ret pe_bl))
        pss_nil)
      (pss_cons (ps_if (pt_cmpR (r := rNinKd K T.a_ROLES) (o_ninKd T.D_ROLES) (pe_ix (r := rIx K) ix_seq (pv 0) pe_int (fun _ _ => rfl)) (pe_glob (v := .ref T.a_ROLES) rfl T.g_ROLES rfl) (by rfl))
        (pss_one (ps_ret pe_bl))
        pss_nil)
      (pss_cons (ps_set (i := 2) sc_is_instruction.nd rfl (by first | exact Or.inl rfl | exact Or.inr rfl) (pe_ix (r := rIxKd K w) x_kd (pe_glob (v := .ref T.a_ROLES) rfl T.g_ROLES rfl) (pe_ix (r := rIx K) ix_seq (pv 0) pe_int (fun _ _ => rfl)) (fun _ _ => rfl)))
      (pss_cons (ps_if (pt_cmpR op_ne (pe_callB (r := Lw.rLen K) c_len (by rfl) T.n_len PySem.boot_len (pa_cons (pv 0) pa_nil)) (pe_op op_add (pe_callB (r := Lw.rLen K) c_len (by rfl) T.n_len PySem.boot_len (pa_cons (pv 2) pa_nil)) pe_int) (nomark _))
        (pss_one (ps_ret pe_bl))
        pss_nil)
      (pss_cons (ps_for PassesOwn.never rfl (pi_enumT (by rfl) T.n_enumerate (pa_cons (pv 2) pa_nil)) (pg_tup (by rfl) (pgs_cons (pg_name (i := 3) sc_is_instruction.nd rfl (by first | exact Or.inl rfl | exact Or.inr rfl)) (pgs_cons (pg_name (i := 4) sc_is_instruction.nd rfl (by first | exact Or.inl rfl | exact Or.inr rfl)) pgs_nil)))
        (pss_one (ps_if (pt_not (pt_val (pe_call (ok_fits T) hr (by rfl) T.g_fits T.F_fits.kp T.b_fits .nil pass0 (pa_cons (pe_ix (r := rIx K) ix_seq (pv 0) (pe_op op_add (pv 3) pe_int) (fun _ _ => rfl)) (pa_cons (pv 4) (pa_cons (pv 1) pa_nil))))))
          (pss_one (ps_ret pe_bl))
          pss_nil)))
      (pss_one (ps_ret pe_bl))))))), ?_⟩
    have key : ∀ c, insD d n = c → ∀ H', Ex W H H' → Q (.bl c) H' := fun c e H' x => cast_bl (k H' x) e
    clear k
    walk_at "lw go"
    rename_i H1 e1
    refine ifNB ?_ ?_ <;> intro hrow
    · walk_at "lw gi"
      exact key _ (by unfold insD; rw [hrow]; rfl) _ e1
    obtain ⟨a, xs, rfl, sq, ws⟩ := h.row hrow
    have ins : ∀ c, insL (items d) n = c → insD d n = c := fun c e => by unfold insD; rw [hrow, e]; rfl
    generalize items d = ds at ws ins
    clear hrow h
    walk_at "lw gi"
    cases ws with
    | nil =>
      refine ifI_yes rfl ?_
      walk_at "lw gi"
      exact key _ (ins _ rfl) _ e1
    | @cons v0 vs d0 ds h0 ws =>
      refine ifI_no (by rw [List.length_cons]; omega) ?_
      have q0 : atI (v0 :: vs) 0 = some v0 := at_0
      have hl := ws.length
      walk_at "lw gi"
      refine ifNB ?_ ?_ <;> intro hs
      · walk_at "lw gi"
        exact key _ (ins _ (by cases d0 <;> simp_all [isS, insL])) _ e1
      obtain ⟨nm, rfl⟩ := isS_E hs
      obtain rfl := h0.strE
      walk_at "lw gi"
      by_cases hn : nm ∈ names9
      · obtain ⟨r, hi, hq⟩ := roles_in T hn
        refine rd_ninKd hi ?_
        walk_at "lw gi"
        refine ifNB_no rfl ?_
        walk_at "lw gi"
        refine rd_ixKd T.D_ROLES hi ?_
        walk_at "lw gi"
        refine ⟨r, (rolesF nm).map V.str, rfl, .inr (hq _), ?_⟩
        walk_at "lw gi"
        have ins2 : ∀ c, fitsD ds (rolesF nm) n = c → insD d n = c := fun c e => ins c (by
          show (decide (nm ∈ names9) && fitsD ds (rolesF nm) n) = c
          rw [decide_eq_true hn, e]; rfl)
        refine ifIn ?_ ?_ <;> intro he
        · walk_at "lw gi"
          exact key _ (ins2 _ (fitsD_ne fun z => he (by rw [List.length_cons, List.length_map, hl, z]; omega))) _ e1
        · have hlen : ds.length = (rolesF nm).length := by rw [List.length_cons, List.length_map, hl] at he; omega
          have hr2 := roles_len nm
          walk_at "lw gi"
          refine rd_srcET (hq _) ?_
          refine for_et (W := W) (xs := (rolesF nm).map V.str) hq (fun i σ' H' => ∃ v3 v4, σ' = [some (.ref a), some (.int n), some (.ref r), v3, v4] ∧ Ex W H1 H' ∧ ∀ (j : Nat) d' r', j < i → ds[j]? = some d' → (rolesF nm)[j]? = some r' → fitD d' r' n = true)
            ⟨_, _, rfl, Ex.refl e1.iv, fun j _ _ hj => absurd hj (Nat.not_lt_zero _)⟩ (fun i σ' H' ⟨_, _, _, e, _⟩ => e.iv) ?_ ?_
          · rintro i x T2 σ' H3 H' hx ⟨v3, v4, rfl, e3, hg⟩ f4 e4 h4
            obtain ⟨role, hr1, rfl⟩ : ∃ role, (rolesF nm)[i]? = some role ∧ x = .str role := by
              rw [List.getElem?_map] at hx
              cases hz : (rolesF nm)[i]? with
              | none => rw [hz] at hx; cases hx
              | some role => rw [hz] at hx; exact ⟨role, rfl, (Option.some.inj hx).symm⟩
            have hi2 : i < ds.length := by rw [hlen]; exact (List.getElem?_eq_some_iff.mp hr1).1
            have hd1 : ds[i]? = some ds[i] := List.getElem?_eq_getElem hi2
            obtain ⟨w1, hw1, dw1⟩ := ws.getR hd1
            generalize ds[i] = d1 at hd1 dw1
            have ea : atI (V.str nm :: vs) (0 + (i : Int) + 1) = some w1 := at_in (by omega) (by rw [show (0 + (i : Int) + 1).toNat = i + 1 by omega, List.getElem?_cons_succ, hw1])
            have e13 : Ex W H H' := (e1.trans e3).trans e4
            have sq3 := sq.ex e13
            have dw3 := dw1.ex e13
            walk_at "lw gi"
            refine ifNB ?_ ?_ <;> intro hb
            · walk_at "lw gi"
              exact key _ (ins2 _ (by
                rw [Bool.eq_false_iff]
                intro z
                have := (fitsD_iff hlen).mp z i d1 role hd1 hr1
                rw [hb] at this; cases this)) _ e13
            · walk_at "lw gi"
              refine ⟨_, _, rfl, e3.trans e4, fun j d' r' hj h1 h2 => ?_⟩
              by_cases q : j = i
              · subst q
                rw [hd1] at h1; rw [hr1] at h2
                cases h1; cases h2; exact hb
              · exact hg j d' r' (by omega) h1 h2
          · rintro σ' H' ⟨v3, v4, rfl, e3, hg⟩
            rw [List.length_map] at hg
            walk_at "lw gi"
            exact key _ (ins2 _ ((fitsD_iff hlen).mpr fun i d' r' h1 h2 => hg i d' r' (by have := (List.getElem?_eq_some_iff.mp h1).1; omega) h1 h2)) _ (e1.trans e3)
      · refine rd_ninKd (T.x_ROLES nm hn) ?_
        walk_at "lw gi"
        refine ifNB_yes rfl ?_
        walk_at "lw gi"
        exact key _ (ins _ (by
          show (decide (nm ∈ names9) && _) = false
          rw [decide_eq_false hn]; rfl)) _ e1

theorem ok_check_program (T : Tx P w K mg) : FnOk P w K mg base (L2.CX P w) 4 T.f_check_program T.fd_check_program ["value"] (sp_check_program K T.c_BadProgram) := by
  refine T.F_check_program.okX sc_check_program (fun vs H Q E h => ?_) (fun cdv A outer s H vs Q E hr h => ?_)
  · obtain ⟨W, v, d, rfl, iv, h, hl, kE, k⟩ := h
    rfl
  · obtain ⟨W, v, d, rfl, iv, h, hl, kE, k⟩ := h
    refine ⟨_, (pss_cons (ps_if (pt_not (pt_val (pe_call (ok_is_row T) (hr.mono (by decide)) (by rfl) T.g_is_row T.F_is_row.kp T.b_is_row .nil pass0 (pa_cons (pv 0) pa_nil))))
        (pss_one (ps_raiseS rfl T.S_BadProgram hr (takes_of rfl rfl rfl rfl) (pa_cons (pe_un un_neg pe_int) pa_nil)))
        pss_nil)
      (pss_cons (ps_if (pt_cmpR op_gt (pe_callB (r := Lw.rLen K) c_len (by rfl) T.n_len PySem.boot_len (pa_cons (pv 0) pa_nil)) (pe_glob (v := .int 4000) rfl T.g_LONGEST ⟨_, rfl⟩) (nomark _))
        (pss_one (ps_raiseS rfl T.S_BadProgram hr (takes_of rfl rfl rfl rfl) (pa_cons (pe_glob (v := .int 4000) rfl T.g_LONGEST ⟨_, rfl⟩) pa_nil)))
        pss_nil)
      (pss_cons (ps_for (passes_of rfl) rfl (pi_or (pi_enum (by rfl) T.n_enumerate (pa_cons (pv 0) pa_nil)) (pi_enumT (by rfl) T.n_enumerate (pa_cons (pv 0) pa_nil))) (pg_tup (by rfl) (pgs_cons (pg_name (i := 1) sc_check_program.nd rfl (by first | exact Or.inl rfl | exact Or.inr rfl)) (pgs_cons (pg_name (i := 2) sc_check_program.nd rfl (by first | exact Or.inl rfl | exact Or.inr rfl)) pgs_nil)))
        (pss_one (ps_if (pt_not (pt_val (pe_call (ok_is_instruction T) hr (by rfl) T.g_is_instruction T.F_is_instruction.kp T.b_is_instruction .nil pass0 (pa_cons (pv 2) (pa_cons (pe_callB (r := Lw.rLen K) c_len (by rfl) T.n_len PySem.boot_len (pa_cons (pv 0) pa_nil)) pa_nil)))))
          (pss_one (ps_raiseS rfl T.S_BadProgram hr (takes_of rfl rfl rfl rfl) (pa_cons (pv 1) pa_nil)))
          pss_nil)))
      (pss_one (ps_ret (pe_callTy (r := Lw.rTupO K) c_tuple (by rfl) T.n_tuple (by decide +kernel) (pa_cons (pe_lc (own := [("item", 2)]) rfl sc_check_program.nd (pi_or (pi_list (pv 0)) (pi_tup (pv 0))) (blkOk_by (own := [("item", 2)]) (N := N_check_program) (sc := (defScope s_check_program)) (by decide +kernel)) (fun _ _ _ _ _ => (pg_name (i := 2) sc_check_program.nd rfl (by first | exact Or.inl rfl | exact Or.inr rfl))) (fun _ _ _ _ _ => pts_nil) (fun _ _ _ _ _ => (pe_callTy (r := Lw.rTupO K) c_tuple (by rfl) T.n_tuple (by decide +kernel) (pa_cons (pv 2) pa_nil)))) pa_nil))))))), ?_⟩
    have raise : ∀ (j : Int) (H' : Hp), Ex W H H' → progF d = some j → ∃ v', [V.int j] = [v'] ∧ ∀ u, H' u = none → E (.ref T.c_BadProgram) (some u) (upd H' u (.xd [("index", v')])) := fun j H' e f =>
      ⟨_, rfl, fun u hu => kE j f u _ (e.trans (Ex.new e.iv hu)) (At.new e.iv hu)⟩
    walk_at "lw go"
    rename_i H1 e1
    refine ifNB ?_ ?_ <;> intro hrow
    · walk_at "lw gi"
      refine rd_raiseS ?_
      walk_at "lw gi"
      exact raise (-1) _ e1 (by unfold progF; rw [if_pos hrow])
    obtain ⟨a, xs, rfl, sq, ws⟩ := h.row hrow
    have hlen := ws.length
    have pf : ∀ o, fb (fun r => insD r (items d).length) (items d) = o → (items d).length ≤ 4000 → progF d = o := fun o e l => by
      unfold progF
      rw [if_neg (by rw [hrow]; decide), if_neg (by omega), e]
    walk_at "lw gi"
    refine ifD ?_ ?_ <;> intro h4
    · walk_at "lw gi"
      refine rd_raiseS ?_
      walk_at "lw gi"
      exact raise 4000 _ e1 (by unfold progF; rw [if_neg (by rw [hrow]; decide), if_pos (by omega)])
    walk_at "lw gi"
    refine for_eB (W := W) (a := a) (xs := xs) rfl (sq.ex e1) (fun i σ' H' => ∃ v1 v2, σ' = [some (.ref a), v1, v2] ∧ Ex W H1 H' ∧ ∀ (j : Nat) r, j < i → (items d)[j]? = some r → insD r (items d).length = true) ⟨_, _, rfl, Ex.refl e1.iv, fun j _ hj => absurd hj (Nat.not_lt_zero _)⟩ (fun i σ' H' ⟨_, _, _, e, _⟩ => e) ?_ ?_
    · rintro i x T2 σ' H2 H' hx ⟨v1, v2, rfl, e2, hg⟩ f3 e3 h3
      obtain ⟨r, hr1, hd⟩ := ws.get hx
      have e4 : Ex W H H' := (e1.trans e2).trans e3
      have sq4 := sq.ex e4
      have hd4 := hd.ex e4
      walk_at "lw gi"
      rename_i H5 e5
      rw [hlen]
      refine ifNB ?_ ?_ <;> intro hb
      · walk_at "lw gi"
        refine rd_raiseS ?_
        walk_at "lw gi"
        exact raise i _ (e4.trans e5) (pf _ (fb_some hr1 hb fun j e hj he => hg j e hj he) (by omega))
      · walk_at "lw gi"
        refine ⟨_, _, rfl, (e2.trans e3).trans e5, fun j r' hj hr => ?_⟩
        by_cases q : j = i
        · subst q
          rw [hr1] at hr
          cases hr
          exact hb
        · exact hg j r' (by omega) hr
    · rintro σ' H2 ⟨v1, v2, rfl, e2, hg⟩
      have hn : progF d = none := pf _ (fb_none fun j e he => hg j e (by rw [hlen]; exact (List.getElem?_eq_some_iff.mp he).1) he) (by omega)
      have e3 : Ex W H H2 := e1.trans e2
      walk_at "lw gi"
      refine lc_B (W := W) (a := a) (xs := xs) rfl (sq.ex e3) e3.iv (by omega) (fun i ys Hh => DWs K W Hh ys (((items d).take i).map tupD)) (fun i ys Ha Hb e q => q.ex e) .nil ?_ ?_
      · rintro i x D ys H' QV QN hi hx hD hDa e4 q _ qv qn
        obtain ⟨r, hr1, hd⟩ := ws.get hx
        have hb := fb_all (p := fun r => insD r (items d).length) (ds := items d) (by
          have z := hn
          unfold progF at z
          rw [if_neg (by rw [hrow]; decide), if_neg (by omega)] at z
          exact z) r (List.mem_of_getElem? hr1)
        have hrr : isRow r = true := ((Bool.and_eq_true _ _).mp hb).1
        have nl : noLs (items r) = true := insL_noL ((Bool.and_eq_true _ _).mp hb).2
        obtain ⟨b, us, rfl, sqb, wb⟩ := (hd.ex (e3.trans e4)).row hrr
        walk_at "lw gi"
        refine rd_tupB e4.iv sqb fun t H5 e5 h5 => ?_
        refine qv _ _ e5 ?_
        rw [List.take_add_one, hr1, List.map_append]
        refine DWs.snoc (q.ex (hide_ex e5 hDa)) ?_
        exact DW.hide (.tup h5 (wb.ex e5)) (by show noLs (items r) = true; exact nl) e5.iv (e5.at_ hDa)
      rintro D H5 ys hD e5 h5 q _
      rw [hlen, List.take_length] at q
      walk_at "lw gi"
      rename_i t H6 f6 e6 h6
      exact k hn (.ref t) H6 ((e3.trans e5).trans e6) (.tup (.inl h6) (q.ex e6))

theorem ok_kind_counts (T : Tx P w K mg) : FnOk P w K mg base CX0 1 T.f_kind_counts T.fd_kind_counts ["setup"] (sp_kind_counts) := by
  refine T.F_kind_counts.ok sc_kind_counts (fun vs H Q E h => ?_) (fun cdv A outer s H vs Q E hr h => ?_)
  · obtain ⟨v0, rfl, hF⟩ := h
    rfl
  · obtain ⟨v0, rfl, hF⟩ := h
    refine ⟨_, (pss_one (ps_ret (pe_tup (pa_cons (pe_tup (pa_cons pe_str (pa_cons (pe_fld (pv 0) rfl) pa_nil))) (pa_cons (pe_tup (pa_cons pe_str (pa_cons (pe_fld (pv 0) rfl) pa_nil))) (pa_cons (pe_tup (pa_cons pe_str (pa_cons (pe_fld (pv 0) rfl) pa_nil))) (pa_cons (pe_tup (pa_cons pe_str (pa_cons (pe_callB (r := Lw.rLen K) c_len (by rfl) T.n_len PySem.boot_len (pa_cons (pe_fld (pv 0) rfl) pa_nil)) pa_nil))) (pa_cons (pe_tup (pa_cons pe_str (pa_cons (pe_callB (r := Lw.rLen K) c_len (by rfl) T.n_len PySem.boot_len (pa_cons (pe_fld (pv 0) rfl) pa_nil)) pa_nil))) pa_nil)))))))), ?_⟩
    exact hF.elim

theorem ok_kind_of (T : Tx P w K mg) : FnOk P w K mg base CX0 1 T.f_kind_of T.fd_kind_of ["thing"] (sp_kind_of) := by
  refine T.F_kind_of.ok sc_kind_of (fun vs H Q E h => ?_) (fun cdv A outer s H vs Q E hr h => ?_)
  · obtain ⟨v0, rfl, hF⟩ := h
    rfl
  · obtain ⟨v0, rfl, hF⟩ := h
    refine ⟨_, (pss_cons (ps_if (pt_cmpR op_eq (pe_ix (r := rIxT K) ix_tup (pv 0) pe_int (fun _ _ => rfl)) pe_str (nomark _))
        (pss_one (ps_ret pe_str))
        pss_nil)
      (pss_one (ps_ret (pe_ix (r := rIxT K) ix_tup (pv 0) pe_int (fun _ _ => rfl))))), ?_⟩
    exact hF.elim

theorem ok_is_thing (T : Tx P w K mg) : FnOk P w K mg base CX0 2 T.f_is_thing T.fd_is_thing ["setup", "thing"] (sp_is_thing) := by
  refine T.F_is_thing.ok sc_is_thing (fun vs H Q E h => ?_) (fun cdv A outer s H vs Q E hr h => ?_)
  · obtain ⟨v0, v1, rfl, hF⟩ := h
    rfl
  · obtain ⟨v0, v1, rfl, hF⟩ := h
    refine ⟨_, (pss_cons (ps_if (PW.pt (pw_or (pt_not (pt_val (pe_callB (r := rIsi K) call_isi (by rfl) T.n_isinstance (by decide +kernel) (pa_cons (pv 1) (pa_cons (pe_bltn (v := .ty "tuple") rfl T.n_tuple (by decide +kernel) rfl) pa_nil))))) (pw_or1 (pt_cmpR op_ne (pe_callB (r := Lw.rLen K) c_len (by rfl) T.n_len PySem.boot_len (pa_cons (pv 1) pa_nil)) pe_int (nomark _)))))
        (pss_one (ps_ret pe_bl))
        pss_nil)
      (pss_cons (ps_asg (pv 1) (pg_tup (by rfl) (pgs_cons (pg_name (i := 2) sc_is_thing.nd rfl (by first | exact Or.inl rfl | exact Or.inr rfl)) (pgs_cons (pg_name (i := 3) sc_is_thing.nd rfl (by first | exact Or.inl rfl | exact Or.inr rfl)) pgs_nil))))
      (pss_cons (ps_if (pt_not (pt_val (pe_call (ok_is_integer T) hr (by rfl) T.g_is_integer T.F_is_integer.kp T.b_is_integer .nil pass0 (pa_cons (pv 3) pa_nil))))
        (pss_one (ps_ret pe_bl))
        pss_nil)
      (pss_cons (ps_for PassesOwn.never rfl (pi_tup (pe_call (ok_kind_counts T) hr (by rfl) T.g_kind_counts T.F_kind_counts.kp T.b_kind_counts .nil pass0 (pa_cons (pv 0) pa_nil))) (pg_tup (by rfl) (pgs_cons (pg_name (i := 4) sc_is_thing.nd rfl (by first | exact Or.inl rfl | exact Or.inr rfl)) (pgs_cons (pg_name (i := 5) sc_is_thing.nd rfl (by first | exact Or.inl rfl | exact Or.inr rfl)) pgs_nil)))
        (pss_one (ps_if (pt_cmpR (r := rEqD K) (op_eqD hr.units) (pv 4) (pv 2) (nomark _))
          (pss_one (ps_ret (pe_chain op_le op_lt pe_int (pv 3) (pv 5))))
          pss_nil)))
      (pss_one (ps_ret pe_bl)))))), ?_⟩
    exact hF.elim

theorem ok_is_between (T : Tx P w K mg) : FnOk P w K mg base CX0 2 T.f_is_between T.fd_is_between ["value", "low", "high"] (sp_is_between K) := by
  refine T.F_is_between.ok sc_is_between (fun vs H Q E h => ?_) (fun cdv A outer s H vs Q E hr h => ?_)
  · obtain ⟨W, v, d, lo, hi, rfl, h, k⟩ := h
    rfl
  · obtain ⟨W, v, d, lo, hi, rfl, h, k⟩ := h
    refine ⟨_, (pss_one (ps_ret (pe_and (pe_call (ok_is_integer T) hr (by rfl) T.g_is_integer T.F_is_integer.kp T.b_is_integer .nil pass0 (pa_cons (pv 0) pa_nil)) (pe_one (pe_chain op_le op_le (pv 1) (pv 0) (pv 2)))))), ?_⟩
    walk_at "lw go"
    refine ifB ?_ ?_ <;> intro h1
    · obtain ⟨i, rfl⟩ := isI_E h1
      obtain rfl := h.intE
      walk_at "lw all"
      · refine cast_bl k ?_
        show decide _ = decide _
        rw [decide_eq_decide]
        omega
      · exact cast_bl k (decide_eq_false (by omega))
    · walk_at "lw go"
      exact cast_bl k (isBet_F h1)

theorem ok_free_price (T : Tx P w K mg) : FnOk P w K mg base CX0 1 T.f_free_price T.fd_free_price ["processes", "slots", "windows"] (sp_free_price) := by
  refine T.F_free_price.ok sc_free_price (fun vs H Q E h => ?_) (fun cdv A outer s H vs Q E hr h => ?_)
  · obtain ⟨n, s, w', rfl, hn, k⟩ := h
    rfl
  · obtain ⟨n, s, w', rfl, hn, k⟩ := h
    refine ⟨_, (pss_one (ps_ret (pe_op op_add (pe_op op_add (pe_op op_mul (pv 0) (pv 1)) (pe_op op_mul (pv 0) (pv 2))) pe_int))), ?_⟩
    walk_at "lw all"
    exact k

theorem ok_least_ticks (T : Tx P w K mg) : FnOk P w K mg base CX0 2 T.f_least_ticks T.fd_least_ticks ["processes", "slots", "windows"] (sp_least_ticks) := by
  refine T.F_least_ticks.ok sc_least_ticks (fun vs H Q E h => ?_) (fun cdv A outer s H vs Q E hr h => ?_)
  · obtain ⟨n, s, w', rfl, hn, k⟩ := h
    rfl
  · obtain ⟨n, s, w', rfl, hn, k⟩ := h
    refine ⟨_, (pss_one (ps_ret (pe_op op_add (pe_call (ok_free_price T) hr (by rfl) T.g_free_price T.F_free_price.kp T.b_free_price .nil pass0 (pa_cons (pv 0) (pa_cons (pv 1) (pa_cons (pv 2) pa_nil)))) pe_int))), ?_⟩
    walk_at "lw all"
    exact k

theorem ok_checked_number (T : Tx P w K mg) : FnOk P w K mg base (L2.CX P w) 3 T.f_checked_number T.fd_checked_number ["field", "value", "low", "high"] (sp_checked_number K T.c_BadSetup) := by
  refine T.F_checked_number.okX sc_checked_number (fun vs H Q E h => ?_) (fun cdv A outer s H vs Q E hr h => ?_)
  · obtain ⟨W, f, v, d, lo, hi, rfl, iv, h, c⟩ := h
    rfl
  · obtain ⟨W, f, v, d, lo, hi, rfl, iv, h, c⟩ := h
    refine ⟨_, (pss_cons (ps_if (pt_not (pt_val (pe_call (ok_is_between T) hr (by rfl) T.g_is_between T.F_is_between.kp T.b_is_between .nil pass0 (pa_cons (pv 1) (pa_cons (pv 2) (pa_cons (pv 3) pa_nil))))))
        (pss_one (ps_raiseS2 rfl T.S_BadSetup hr (takes_of rfl rfl rfl rfl) (pa_cons (pv 0) (pa_cons (pe_un un_neg pe_int) pa_nil))))
        pss_nil)
      (pss_one (ps_ret (pv 1)))), ?_⟩
    walk_at "lw go"
    refine ifNB ?_ ?_ <;> intro hb
    · walk_at "lw gi"
      refine rd_raiseS2 ?_
      walk_at "lw gi"
      exact c.raise (Ex.refl iv) (if_neg (by rw [hb]; decide))
    · walk_at "lw gi"
      exact c.2 (if_pos hb) _ _ (Ex.refl iv) h

theorem ok_checked_programs (T : Tx P w K mg) : FnOk P w K mg base (L2.CX P w) 5 T.f_checked_programs T.fd_checked_programs ["programs"] (sp_checked_programs K T.c_BadSetup) := by
  refine T.F_checked_programs.okX sc_checked_programs (fun vs H Q E h => ?_) (fun cdv A outer s H vs Q E hr h => ?_)
  · obtain ⟨W, v, d, rfl, iv, h, hp, c⟩ := h
    rfl
  · obtain ⟨W, v, d, rfl, iv, h, hp, c⟩ := h
    refine ⟨_, (pss_cons (ps_if (PW.pt (pw_or (pt_not (pt_val (pe_call (ok_is_row T) (hr.mono (by decide)) (by rfl) T.g_is_row T.F_is_row.kp T.b_is_row .nil pass0 (pa_cons (pv 0) pa_nil)))) (pw_or1 (pt_not (pt_chain op_le op_le pe_int (pe_callB (r := Lw.rLen K) c_len (by rfl) T.n_len PySem.boot_len (pa_cons (pv 0) pa_nil)) (pe_glob (v := .int 6) rfl T.g_MOST_PROCESSES ⟨_, rfl⟩))))))
        (pss_one (ps_raiseS2 rfl T.S_BadSetup hr (takes_of rfl rfl rfl rfl) (pa_cons pe_str (pa_cons (pe_un un_neg pe_int) pa_nil))))
        pss_nil)
      (pss_cons (ps_set (i := 1) sc_checked_programs.nd rfl (by first | exact Or.inl rfl | exact Or.inr rfl) (pe_lst pa_nil))
      (pss_cons (ps_for (passes_of rfl) rfl (pi_or (pi_enum (by rfl) T.n_enumerate (pa_cons (pv 0) pa_nil)) (pi_enumT (by rfl) T.n_enumerate (pa_cons (pv 0) pa_nil))) (pg_tup (by rfl) (pgs_cons (pg_name (i := 2) sc_checked_programs.nd rfl (by first | exact Or.inl rfl | exact Or.inr rfl)) (pgs_cons (pg_name (i := 3) sc_checked_programs.nd rfl (by first | exact Or.inl rfl | exact Or.inr rfl)) pgs_nil)))
        (pss_cons (ps_if (pt_not (pt_val (pe_call (ok_is_row T) (hr.mono (by decide)) (by rfl) T.g_is_row T.F_is_row.kp T.b_is_row .nil pass0 (pa_cons (pv 3) pa_nil))))
          (pss_one (ps_raiseS2 rfl T.S_BadSetup hr (takes_of rfl rfl rfl rfl) (pa_cons pe_str (pa_cons (pv 2) pa_nil))))
          pss_nil)
        (pss_one (ps_try_only rfl rfl ⟨rfl, by decide, Or.inl T.gc_BadProgram⟩ takes0 (fun W pn xe tk po =>
          (pss_one (ps_expr (pe_bmK (K := K) rfl (pe_bm PySem.F.plainAttrs_list PySem.F.slot_list_append PySem.F.type_list_append mt_append (pv 1) (pa_cons (pe_callS (ok_check_program T) hr (by rfl) T.g_check_program T.F_check_program.kp T.b_check_program (fun σ => passAt tk σ) (pa_cons (pv 3) pa_nil)) pa_nil))))))
          (fun a oe cls d pn hz hf =>
          (pss_one ps_never))))))
      (pss_one (ps_ret (pe_callTy (r := Lw.rTupO K) c_tuple (by rfl) T.n_tuple (by decide +kernel) (pa_cons (pv 1) pa_nil))))))), ?_⟩
    walk_at "lw go"
    rename_i H1 e1
    refine ifNB ?_ ?_ <;> intro hrow
    · walk_at "lw gi"
      refine rd_raiseS2 ?_
      walk_at "lw gi"
      exact c.raise e1 (by unfold progsF badLen; rw [hrow]; rfl)
    obtain ⟨a, xs, rfl, sq, ws⟩ := h.row hrow
    have hlen := ws.length
    walk_at "lw gi"
    refine ifD ?_ ?_ <;> intro hl1
    rotate_left
    · walk_at "lw gi"
      refine rd_raiseS2 ?_
      walk_at "lw gi"
      exact c.raise e1 (by unfold progsF; rw [badLen_T (by omega)]; rfl)
    walk_at "lw gi"
    refine ifN ?_ ?_ <;> intro hl2
    · walk_at "lw gi"
      refine rd_raiseS2 ?_
      walk_at "lw gi"
      exact c.raise e1 (by unfold progsF; rw [badLen_T (by omega)]; rfl)
    have pf : ∀ o, fb (fun p => isRow p && (progF p).isNone) (items d) = o → progsF d = o := fun o e => by
      unfold progsF
      rw [badLen_F hrow (by omega), if_neg (by decide), e]
    walk_at "lw gi"
    rename_i q H2 f2 e2 h2
    refine for_eB0 (W := W) (H0 := H1) (a := a) (xs := xs) e2 rfl (sq.ex e1) (fun i σ' H' => ∃ v2 v3 ys, σ' = [some (.ref a), some (.ref q), v2, v3] ∧ Ex W H1 H' ∧ At W H' q (.lst ys) ∧ ys.length = i ∧ DWs K W H' ys (((items d).take i).map rowsD) ∧ ∀ (j : Nat) r, j < i → (items d)[j]? = some r → isRow r = true)
      ⟨_, _, [], rfl, e2, h2, rfl, .nil, fun j _ hj => absurd hj (Nat.not_lt_zero _)⟩ (fun i σ' H' ⟨_, _, _, _, e, _⟩ => e) ?_ ?_
    · rintro i x T2 σ' H3 H' hx ⟨v2, v3, ys, rfl, e3, hq, hy, hD, hg⟩ f4 e4 h4
      obtain ⟨r, hr1, hd⟩ := ws.get hx
      have hi2 := (List.getElem?_eq_some_iff.mp hx).1
      have e14 : Ex W H1 H' := e3.trans e4
      have hd4 := hd.ex (e1.trans e14)
      have hq4 := e4.at_ hq
      walk_at "lw gi"
      rename_i H5 e5
      refine ifNB ?_ ?_ <;> intro hb
      · walk_at "lw gi"
        refine rd_raiseS2 ?_
        walk_at "lw gi"
        refine c.raise ((e1.trans e14).trans e5) (pf _ (fb_some hr1 (by rw [hb]; rfl) fun j e hj he => ?_))
        have q1 := hg j e hj he
        rw [q1, hp e (List.mem_of_getElem? he) q1]; rfl
      · have pn := hp r (List.mem_of_getElem? hr1) hb
        walk_at "lw gi"
        refine rd_callS ?_
        walk_at "lw gi"
        refine ⟨W, _, r, rfl, e5.iv, hd4.ex e5, Nat.le_trans (progF_len pn) (by decide), fun j fj => (by rw [pn] at fj; cases fj), fun _ u H6 e6 h6 => ?_⟩
        have e16 : Ex W H1 H6 := (e14.trans e5).trans e6
        refine rd_nil ?_
        refine rd_append e16 (by assumption) (e6.at_ (e5.at_ hq4)) (by omega) fun H7 e7 h7 o7 => ?_
        have kp : ∀ p us, At W H6 p (.tup us) → At W H7 p (.tup us) := fun p us hp => o7 p _ (hp.ne (e6.at_ (e5.at_ hq4)) fun z => by cases z) hp
        have nl : noLs (((items d).take i).map rowsD) = true := noLs_all fun z hz => by
          obtain ⟨r2, hr2, rfl⟩ := List.mem_map.mp hz
          obtain ⟨j, hj⟩ := List.getElem?_of_mem hr2
          have hj2 : j < i := by
            have := (List.getElem?_eq_some_iff.mp hj).1
            rw [List.length_take] at this
            omega
          rw [List.getElem?_take_of_lt hj2] at hj
          exact rowsD_noL (hp r2 (List.mem_of_getElem? hj) (hg j r2 hj2 hj))
        walk_at "lw gi"
        refine ⟨_, _, ys ++ [u], rfl, e7, h7, by rw [List.length_append, hy]; rfl, ?_, fun j r' hj hr => ?_⟩
        · rw [List.take_add_one, hr1, List.map_append]
          exact DWs.snoc (DWs.keepT kp nl (((hD.ex e4).ex e5).ex e6)) (DW.keepT kp (rowsD_noL pn) h6)
        · by_cases q : j = i
          · subst q
            rw [hr1] at hr
            cases hr
            exact hb
          · exact hg j r' (by omega) hr
    · rintro σ' H3 ⟨v2, v3, ys, rfl, e3, hq, hy, hD, hg⟩
      rw [hlen, List.take_length] at hD
      walk_at "lw gi"
      rename_i t H6 f6 e6 h6
      refine c.2 (pf _ (fb_none fun j e he => ?_)) _ _ ((e1.trans e3).trans e6) (.tup (.inl h6) (hD.ex e6))
      have q1 := hg j e (by rw [hlen]; exact (List.getElem?_eq_some_iff.mp he).1) he
      rw [q1, hp e (List.mem_of_getElem? he) q1]; rfl

theorem ok_is_turn (T : Tx P w K mg) : FnOk P w K mg base CX0 3 T.f_is_turn T.fd_is_turn ["value", "processes", "least"] (sp_is_turn K) := by
  refine T.F_is_turn.ok sc_is_turn (fun vs H Q E h => ?_) (fun cdv A outer s H vs Q E hr h => ?_)
  · obtain ⟨W, v, d, n, least, rfl, iv, h, k⟩ := h
    rfl
  · obtain ⟨W, v, d, n, least, rfl, iv, h, k⟩ := h
    refine ⟨_, (pss_cons (ps_if (PW.pt (pw_or (pt_not (pt_val (pe_call (ok_is_row T) (hr.mono (by decide)) (by rfl) T.g_is_row T.F_is_row.kp T.b_is_row .nil pass0 (pa_cons (pv 0) pa_nil)))) (pw_or1 (pt_cmpR op_ne (pe_callB (r := Lw.rLen K) c_len (by rfl) T.n_len PySem.boot_len (pa_cons (pv 0) pa_nil)) pe_int (nomark _)))))
        (pss_one (ps_ret pe_bl))
        pss_nil)
      (pss_one (ps_ret (pe_and (pe_call (ok_is_between T) hr (by rfl) T.g_is_between T.F_is_between.kp T.b_is_between .nil pass0 (pa_cons (pe_ix (r := rIx K) ix_seq (pv 0) pe_int (fun _ _ => rfl)) (pa_cons pe_int (pa_cons (pe_op op_sub (pv 1) pe_int) pa_nil)))) (pe_one (pe_call (ok_is_between T) hr (by rfl) T.g_is_between T.F_is_between.kp T.b_is_between .nil pass0 (pa_cons (pe_ix (r := rIx K) ix_seq (pv 0) pe_int (fun _ _ => rfl)) (pa_cons (pv 2) (pa_cons (pe_glob (v := .int 100000) rfl T.g_MOST_TICKS ⟨_, rfl⟩) pa_nil))))))))), ?_⟩
    have key : ∀ c, turnB n least d = c → ∀ H', Ex W H H' → Q (.bl c) H' := fun c e H' x => cast_bl (k H' x) e
    clear k
    walk_at "lw go"
    rename_i H1 e1
    refine ifNB ?_ ?_ <;> intro hrow
    · walk_at "lw gi"
      exact key _ (turnB_R hrow) _ e1
    obtain ⟨a, xs, rfl, sq, ws⟩ := h.row hrow
    have hlen := ws.length
    have sq1 := sq.ex e1
    walk_at "lw gi"
    refine ifIn ?_ ?_ <;> intro h2
    · walk_at "lw gi"
      exact key _ (turnB_L fun z => h2 (by rw [hlen, z]; rfl)) _ e1
    obtain ⟨x, y, rfl⟩ : ∃ x y, xs = [x, y] := two_of (by omega)
    obtain ⟨d1, d2, hi, hx, hy⟩ := ws.two
    have hx1 := hx.ex e1
    have hy1 := hy.ex e1
    have ax : atI [x, y] 0 = some x := rfl
    have ay : atI [x, y] 1 = some y := rfl
    walk_at "lw gi"
    refine ifB ?_ ?_ <;> intro hb
    · walk_at "lw gi"
      exact key _ (by rw [turnB_2 hrow hi, hb]; rfl) _ e1
    · walk_at "lw gi"
      exact key _ (by rw [turnB_2 hrow hi, hb]; rfl) _ e1

theorem ok_checked_turns (T : Tx P w K mg) : FnOk P w K mg base (L2.CX P w) 4 T.f_checked_turns T.fd_checked_turns ["turns", "processes", "least"] (sp_checked_turns K T.c_BadSetup) := by
  refine T.F_checked_turns.okX sc_checked_turns (fun vs H Q E h => ?_) (fun cdv A outer s H vs Q E hr h => ?_)
  · obtain ⟨W, v, d, n, least, rfl, iv, h, hn, c⟩ := h
    rfl
  · obtain ⟨W, v, d, n, least, rfl, iv, h, hn, c⟩ := h
    refine ⟨_, (pss_cons (ps_if (PW.pt (pw_or (pt_not (pt_val (pe_call (ok_is_row T) (hr.mono (by decide)) (by rfl) T.g_is_row T.F_is_row.kp T.b_is_row .nil pass0 (pa_cons (pv 0) pa_nil)))) (pw_or1 (pt_not (pt_chain op_le op_le pe_int (pe_callB (r := Lw.rLen K) c_len (by rfl) T.n_len PySem.boot_len (pa_cons (pv 0) pa_nil)) (pe_glob (v := .int 12) rfl T.g_MOST_TURNS ⟨_, rfl⟩))))))
        (pss_one (ps_raiseS2 rfl T.S_BadSetup hr (takes_of rfl rfl rfl rfl) (pa_cons pe_str (pa_cons (pe_un un_neg pe_int) pa_nil))))
        pss_nil)
      (pss_cons (ps_for (passes_of rfl) rfl (pi_or (pi_enum (by rfl) T.n_enumerate (pa_cons (pv 0) pa_nil)) (pi_enumT (by rfl) T.n_enumerate (pa_cons (pv 0) pa_nil))) (pg_tup (by rfl) (pgs_cons (pg_name (i := 3) sc_checked_turns.nd rfl (by first | exact Or.inl rfl | exact Or.inr rfl)) (pgs_cons (pg_name (i := 4) sc_checked_turns.nd rfl (by first | exact Or.inl rfl | exact Or.inr rfl)) pgs_nil)))
        (pss_one (ps_if (pt_not (pt_val (pe_call (ok_is_turn T) hr (by rfl) T.g_is_turn T.F_is_turn.kp T.b_is_turn .nil pass0 (pa_cons (pv 4) (pa_cons (pv 1) (pa_cons (pv 2) pa_nil))))))
          (pss_one (ps_raiseS2 rfl T.S_BadSetup hr (takes_of rfl rfl rfl rfl) (pa_cons pe_str (pa_cons (pv 3) pa_nil))))
          pss_nil)))
      (pss_cons (ps_setLc (i := 5) (own := [("turn", 4)]) rfl sc_checked_turns.nd rfl rfl (sw_true rfl rfl rfl (by decide +kernel)) (pi_or (pi_list (pv 0)) (pi_tup (pv 0))) (blkOk_by (own := [("turn", 4)]) (N := N_checked_turns) (sc := (defScope s_checked_turns)) (by decide +kernel)) (fun _ _ _ _ _ => (pg_name (i := 4) sc_checked_turns.nd rfl (by first | exact Or.inl rfl | exact Or.inr rfl))) (fun _ _ _ _ _ => pts_nil) (fun _ _ _ _ _ => (pe_ix (r := rIx K) ix_seq (pv 4) pe_int (fun _ _ => rfl))))
      (pss_cons (ps_for (passes_of rfl) rfl (pi_range1 rfl T.n_range (pa_cons (pv 1) pa_nil)) (pg_name (i := 6) sc_checked_turns.nd rfl (by first | exact Or.inl rfl | exact Or.inr rfl))
        (pss_one (ps_if (pt_cmpR (r := rIn K true) op_notIn_seq (pv 6) (pv 5) (by rfl))
          (pss_one (ps_raiseS2 rfl T.S_BadSetup hr (takes_of rfl rfl rfl rfl) (pa_cons pe_str (pa_cons (pe_un un_neg pe_int) pa_nil))))
          pss_nil)))
      (pss_one (ps_ret (pe_callTy (r := Lw.rTupO K) c_tuple (by rfl) T.n_tuple (by decide +kernel) (pa_cons (pe_lc (own := [("turn", 4)]) rfl sc_checked_turns.nd (pi_or (pi_list (pv 0)) (pi_tup (pv 0))) (blkOk_by (own := [("turn", 4)]) (N := N_checked_turns) (sc := (defScope s_checked_turns)) (by decide +kernel)) (fun _ _ _ _ _ => (pg_name (i := 4) sc_checked_turns.nd rfl (by first | exact Or.inl rfl | exact Or.inr rfl))) (fun _ _ _ _ _ => pts_nil) (fun _ _ _ _ _ => (pe_callTy (r := Lw.rTupO K) c_tuple (by rfl) T.n_tuple (by decide +kernel) (pa_cons (pv 4) pa_nil)))) pa_nil)))))))), ?_⟩
    walk_at "lw go"
    rename_i H1 e1
    refine ifNB ?_ ?_ <;> intro hrow
    · walk_at "lw gi"
      refine rd_raiseS2 ?_
      walk_at "lw gi"
      exact c.raise e1 (by unfold turnsF; rw [badLen_R hrow]; rfl)
    obtain ⟨a, xs, rfl, sq, ws⟩ := h.row hrow
    have hlen := ws.length
    have sq1 := sq.ex e1
    walk_at "lw gi"
    refine ifD ?_ ?_ <;> intro hl1
    rotate_left
    · walk_at "lw gi"
      refine rd_raiseS2 ?_
      walk_at "lw gi"
      exact c.raise e1 (by unfold turnsF; rw [badLen_T (by omega)]; rfl)
    walk_at "lw gi"
    refine ifN ?_ ?_ <;> intro hl2
    · walk_at "lw gi"
      refine rd_raiseS2 ?_
      walk_at "lw gi"
      exact c.raise e1 (by unfold turnsF; rw [badLen_T (by omega)]; rfl)
    have pf : ∀ j, fb (turnB n least) (items d) = some j → turnsF d n least = some j := fun j e => by
      unfold turnsF
      rw [badLen_F hrow (by omega), if_neg (by decide), e]
    walk_at "lw gi"
    refine for_eB (W := W) (a := a) (xs := xs) rfl sq1 (fun i σ' H' => ∃ v3 v4, σ' = [some (.ref a), some (.int n), some (.int least), v3, v4, none, none] ∧ Ex W H1 H' ∧ ∀ (j : Nat) r, j < i → (items d)[j]? = some r → (turnB n least) r = true) ⟨_, _, rfl, Ex.refl e1.iv, fun j _ hj => absurd hj (Nat.not_lt_zero _)⟩ (fun i σ' H' ⟨_, _, _, e, _⟩ => e) ?_ ?_
    · rintro i x T2 σ' H2 H' hx ⟨v3, v4, rfl, e2, hg⟩ f3 e3 h3
      obtain ⟨r, hr1, hd⟩ := ws.get hx
      have e4 : Ex W H H' := (e1.trans e2).trans e3
      have hd4 := hd.ex e4
      walk_at "lw gi"
      rename_i H5 e5
      refine ifNB ?_ ?_ <;> intro hb
      · walk_at "lw gi"
        refine rd_raiseS2 ?_
        walk_at "lw gi"
        exact c.raise (e4.trans e5) (pf _ (fb_some hr1 hb fun j e hj he => hg j e hj he))
      · walk_at "lw gi"
        refine ⟨_, _, rfl, (e2.trans e3).trans e5, fun j r' hj hr => ?_⟩
        by_cases q : j = i
        · subst q
          rw [hr1] at hr
          cases hr
          exact hb
        · exact hg j r' (by omega) hr
    rintro σ' H2 ⟨v3, v4, rfl, e2, hg⟩
    have hall : fb (turnB n least) (items d) = none := fb_none fun j e he => hg j e (by rw [hlen]; exact (List.getElem?_eq_some_iff.mp he).1) he
    have e3 : Ex W H H2 := e1.trans e2
    have iv3 := e3.iv
    have sq3 := sq.ex e3
    have good := fb_all hall
    have pn : ∀ o, (if ownsAll (items d) n = true then none else some (-1)) = o → turnsF d n least = o := fun o e => by
      unfold turnsF
      rw [badLen_F hrow (by omega), if_neg (by decide), hall]
      exact e
    walk_at "lw gi"
    refine lc_B (W := W) (a := a) (xs := xs) rfl sq3 iv3 (by omega) (fun i ys Hh => ys = (((items d).take i).map tickD).map V.int) (fun _ _ _ _ _ q => q) rfl ?_ ?_
    · rintro i x D ys H' QV QN hi hx hD hDa e4 q _ qv qn
      obtain ⟨r, hr1, hd⟩ := ws.get hx
      obtain ⟨hrr, p, b, hi2⟩ := turnB_E (good r (List.mem_of_getElem? hr1))
      obtain ⟨a2, us, rfl, sq2, ws2⟩ := (hd.ex (e3.trans e4)).row hrr
      rw [hi2] at ws2
      obtain ⟨w1, w2, rfl⟩ := two_of ws2.length
      obtain ⟨_, _, eq, hw1, _⟩ := ws2.two
      cases eq
      obtain rfl := hw1.intE
      have ax : atI [V.int p, w2] 0 = some (V.int p) := rfl
      walk_at "lw gi"
      refine qv _ _ (Ex.refl e4.iv) ?_
      rw [List.take_add_one, hr1, List.map_append, List.map_append, ← q, ← tickD_2 hi2]
      rfl
    rintro D H5 ys hD e5 h5 q _
    rw [hlen, List.take_length] at q
    subst q
    walk_at "lw gi"
    refine for_r (fun i σ' H' => ∃ v4 v6, σ' = [some (.ref a), some (.int n), some (.int least), v3, v4, some (.ref D), v6] ∧ Ex W H5 H' ∧ ∀ p : Nat, p < i → (p : Int) ∈ (items d).map tickD) ⟨_, _, rfl, Ex.refl e5.iv, fun p hp => absurd hp (Nat.not_lt_zero _)⟩ ?_ ?_
    · rintro i σ' H6 hi ⟨v4, v6, rfl, e6, hg2⟩
      walk_at "lw gi"
      refine rd_niL (e6.at_ h5) rfl (flat_is _) ?_
      rw [inV_int, Int.zero_add]
      walk_at "lw gi"
      refine ifN ?_ ?_ <;> intro hm
      · walk_at "lw gi"
        refine rd_raiseS2 ?_
        walk_at "lw gi"
        exact c.raise ((e3.trans e5).trans e6) (pn _ (by rw [ownsAll_F hi hm]; rfl))
      · walk_at "lw gi"
        refine ⟨_, _, rfl, e6, fun p hp => ?_⟩
        by_cases q : p = i
        · subst q; exact hm
        · exact hg2 p (by omega)
    · rintro σ' H6 ⟨v4, v6, rfl, e6, hg2⟩
      have e7 : Ex W H H6 := (e3.trans e5).trans e6
      walk_at "lw gi"
      refine lc_rows (W := W) (a := a) (xs := xs) rfl (sq.ex e7) e7.iv (by omega) (ws.ex e7) (fun d' hd' => ?_) (fun _ => rfl) ?_
      · obtain ⟨h1, p, b, h2⟩ := turnB_E (good d' hd')
        exact ⟨h1, noLs_2 h2⟩
      rintro D2 H8 ys hD2 e8 h8 q _
      walk_at "lw gi"
      rename_i t H9 f9 e9 h9
      exact c.2 (pn _ (by rw [ownsAll_T hg2]; rfl)) (.ref t) H9 ((e7.trans e8).trans e9) (.tup (.inl h9) (q.ex e9))

theorem ok_checked_quotas (T : Tx P w K mg) : FnOk P w K mg base (L2.CX P w) 3 T.f_checked_quotas T.fd_checked_quotas ["quotas", "processes"] (sp_checked_quotas K T.c_BadSetup) := by
  refine T.F_checked_quotas.okX sc_checked_quotas (fun vs H Q E h => ?_) (fun cdv A outer s H vs Q E hr h => ?_)
  · obtain ⟨W, v, d, n, rfl, iv, h, hn, c⟩ := h
    rfl
  · obtain ⟨W, v, d, n, rfl, iv, h, hn, c⟩ := h
    refine ⟨_, (pss_cons (ps_if (pt_cmpR o_isN (pv 0) pe_non (nomark _))
        (pss_one (ps_ret (pe_callTy (r := Lw.rTupO K) c_tuple (by rfl) T.n_tuple (by decide +kernel) (pa_cons (pe_lc (own := [("process", 2)]) rfl sc_checked_quotas.nd (pi_range1 rfl T.n_range (pa_cons (pv 1) pa_nil)) (blkOk_by (own := [("process", 2)]) (N := N_checked_quotas) (sc := (defScope s_checked_quotas)) (by decide +kernel)) (fun _ _ _ _ _ => (pg_name (i := 2) sc_checked_quotas.nd rfl (by first | exact Or.inl rfl | exact Or.inr rfl))) (fun _ _ _ _ _ => pts_nil) (fun _ _ _ _ _ => pe_int)) pa_nil))))
        pss_nil)
      (pss_cons (ps_if (PW.pt (pw_or (pt_not (pt_val (pe_call (ok_is_row T) (hr.mono (by decide)) (by rfl) T.g_is_row T.F_is_row.kp T.b_is_row .nil pass0 (pa_cons (pv 0) pa_nil)))) (pw_or1 (pt_cmpR op_ne (pe_callB (r := Lw.rLen K) c_len (by rfl) T.n_len PySem.boot_len (pa_cons (pv 0) pa_nil)) (pv 1) (nomark _)))))
        (pss_one (ps_raiseS2 rfl T.S_BadSetup hr (takes_of rfl rfl rfl rfl) (pa_cons pe_str (pa_cons (pe_un un_neg pe_int) pa_nil))))
        pss_nil)
      (pss_cons (ps_for (passes_of rfl) rfl (pi_or (pi_enum (by rfl) T.n_enumerate (pa_cons (pv 0) pa_nil)) (pi_enumT (by rfl) T.n_enumerate (pa_cons (pv 0) pa_nil))) (pg_tup (by rfl) (pgs_cons (pg_name (i := 2) sc_checked_quotas.nd rfl (by first | exact Or.inl rfl | exact Or.inr rfl)) (pgs_cons (pg_name (i := 3) sc_checked_quotas.nd rfl (by first | exact Or.inl rfl | exact Or.inr rfl)) pgs_nil)))
        (pss_one (ps_if (pt_not (pt_val (pe_call (ok_is_between T) hr (by rfl) T.g_is_between T.F_is_between.kp T.b_is_between .nil pass0 (pa_cons (pv 3) (pa_cons pe_int (pa_cons (pe_glob (v := .int 8) rfl T.g_MOST_CLAIMS ⟨_, rfl⟩) pa_nil))))))
          (pss_one (ps_raiseS2 rfl T.S_BadSetup hr (takes_of rfl rfl rfl rfl) (pa_cons pe_str (pa_cons (pv 2) pa_nil))))
          pss_nil)))
      (pss_one (ps_ret (pe_callTy (r := Lw.rTupO K) c_tuple (by rfl) T.n_tuple (by decide +kernel) (pa_cons (pv 0) pa_nil))))))), ?_⟩
    walk_at "lw go"
    cases hN : isNoneD d with
    | true =>
      obtain rfl := isNoneD_E hN
      obtain rfl := h.nonE
      refine ifD_yes rfl ?_
      walk_at "lw gi"
      refine lc_w (W := W) (X := fun i x => x = .int (0 + (i : Nat))) (n := n.toNat) walk_range (fun i ys Hh => ys = List.replicate i (V.int 0)) iv (by omega) (fun _ _ => trivial) (fun _ _ _ _ _ q => q) rfl ?_ ?_
      · rintro i x D ys H' QV QN hn' rfl hD hDa e3 rfl _ qv qn
        walk_at "lw gi"
        exact qv _ _ (Ex.refl e3.iv) (List.replicate_succ' ..).symm
      rintro D H5 ys hD e5 h5 rfl _
      walk_at "lw gi"
      rename_i t H6 f6 e6 h6
      exact c.2 (if_pos rfl) (.ref t) H6 (e5.trans e6) (.tup (.inl h6) (DWs.of (F2.rep (.int 0) _)))
    | false =>
    refine ifD_no (h.ne_non hN) ?_
    walk_at "lw gi"
    rename_i H1 e1
    refine ifNB ?_ ?_ <;> intro hrow
    · walk_at "lw gi"
      refine rd_raiseS2 ?_
      walk_at "lw gi"
      exact c.raise e1 (by unfold quotasF; rw [hN, if_neg (by decide), if_pos (.inl hrow)])
    obtain ⟨a, xs, rfl, sq, ws⟩ := h.row hrow
    have hlen := ws.length
    have sq1 := sq.ex e1
    walk_at "lw gi"
    refine ifIn ?_ ?_ <;> intro hl
    · walk_at "lw gi"
      refine rd_raiseS2 ?_
      walk_at "lw gi"
      exact c.raise e1 (by unfold quotasF; rw [hN, if_neg (by decide), if_pos (.inr (by omega))])
    have pf : ∀ o, fb (fun q => isBet q 0 8) (items d) = o → quotasF d n = o := fun o e => by
      unfold quotasF
      rw [hN, if_neg (by decide), if_neg (fun z => z.elim (fun z => by rw [hrow] at z; cases z) fun z => z (by omega)), e]
    walk_at "lw gi"
    refine for_eB (W := W) (a := a) (xs := xs) rfl sq1 (fun i σ' H' => ∃ v3 v4, σ' = [some (.ref a), some (.int n), v3, v4] ∧ Ex W H1 H' ∧ ∀ (j : Nat) r, j < i → (items d)[j]? = some r → (fun q => isBet q 0 8) r = true) ⟨_, _, rfl, Ex.refl e1.iv, fun j _ hj => absurd hj (Nat.not_lt_zero _)⟩ (fun i σ' H' ⟨_, _, _, e, _⟩ => e) ?_ ?_
    · rintro i x T2 σ' H2 H' hx ⟨v3, v4, rfl, e2, hg⟩ f3 e3 h3
      obtain ⟨r, hr1, hd⟩ := ws.get hx
      have e4 : Ex W H H' := (e1.trans e2).trans e3
      have hd4 := hd.ex e4
      walk_at "lw gi"
      refine ifNB ?_ ?_ <;> intro hb
      · walk_at "lw gi"
        refine rd_raiseS2 ?_
        walk_at "lw gi"
        exact c.raise e4 (pf _ (fb_some hr1 hb fun j e hj he => hg j e hj he))
      · walk_at "lw gi"
        refine ⟨_, _, rfl, e2.trans e3, fun j r' hj hr => ?_⟩
        by_cases q : j = i
        · subst q
          rw [hr1] at hr
          cases hr
          exact hb
        · exact hg j r' (by omega) hr
    rintro σ' H2 ⟨v3, v4, rfl, e2, hg⟩
    have hall : fb (fun q => isBet q 0 8) (items d) = none := fb_none fun j e he => hg j e (by rw [hlen]; exact (List.getElem?_eq_some_iff.mp he).1) he
    have e3 : Ex W H H2 := e1.trans e2
    have iv3 := e3.iv
    have sq3 := sq.ex e3
    walk_at "lw gi"
    refine rd_tupB iv3 sq3 fun t H9 e9 h9 => ?_
    exact c.2 (pf _ hall) (.ref t) H9 (e3.trans e9) (by unfold quotasV; rw [hN]; exact .tup h9 (ws.ex (e3.trans e9)))

theorem ok_is_data (T : Tx P w K mg) : FnOk P w K mg base CX0 3 T.f_is_data T.fd_is_data ["value"] (sp_is_data K) := by
  refine T.F_is_data.ok sc_is_data (fun vs H Q E h => ?_) (fun cdv A outer s H vs Q E hr h => ?_)
  · obtain ⟨W, v, d, rfl, iv, h, k⟩ := h
    rfl
  · obtain ⟨W, v, d, rfl, iv, h, k⟩ := h
    refine ⟨_, (pss_cons (ps_if (PW.pt (pw_or (pt_not (pt_val (pe_call (ok_is_row T) (hr.mono (by decide)) (by rfl) T.g_is_row T.F_is_row.kp T.b_is_row .nil pass0 (pa_cons (pv 0) pa_nil)))) (pw_or1 (pt_cmpR op_gt (pe_callB (r := Lw.rLen K) c_len (by rfl) T.n_len PySem.boot_len (pa_cons (pv 0) pa_nil)) (pe_glob (v := .int 64) rfl T.g_MOST_DATA ⟨_, rfl⟩) (nomark _)))))
        (pss_one (ps_ret pe_bl))
        pss_nil)
      (pss_one (ps_ret (pe_callB (r := rAll K) (cr_all rfl) (by rfl) T.n_all (by decide +kernel) (pa_cons (pe_lc (own := [("item", 1)]) rfl sc_is_data.nd (pi_or (pi_list (pv 0)) (pi_tup (pv 0))) (blkOk_by (own := [("item", 1)]) (N := N_is_data) (sc := (defScope s_is_data)) (by decide +kernel)) (fun _ _ _ _ _ => (pg_name (i := 1) sc_is_data.nd rfl (by first | exact Or.inl rfl | exact Or.inr rfl))) (fun _ _ _ _ _ => pts_nil) (fun _ _ _ _ _ => (pe_call (ok_is_word T) hr (by rfl) T.g_is_word T.F_is_word.kp T.b_is_word .nil pass0 (pa_cons (pv 1) pa_nil)))) pa_nil))))), ?_⟩
    have key : ∀ c, dataB d = c → ∀ H', Ex W H H' → Q (.bl c) H' := fun c e H' x => cast_bl (k H' x) e
    clear k
    walk_at "lw go"
    rename_i H1 e1
    refine ifNB ?_ ?_ <;> intro hrow
    · walk_at "lw gi"
      exact key _ (dataB_R hrow) _ e1
    obtain ⟨a, xs, rfl, sq, ws⟩ := h.row hrow
    have hlen := ws.length
    have sq1 := sq.ex e1
    walk_at "lw gi"
    refine ifD ?_ ?_ <;> intro h2
    · walk_at "lw gi"
      exact key _ (dataB_L (by omega)) _ e1
    walk_at "lw gi"
    refine lc_B (W := W) (a := a) (xs := xs) rfl sq1 e1.iv (by omega) (fun i ys Hh => ys = (((items d).take i).map isWordD).map V.bl) (fun _ _ _ _ _ q => q) rfl ?_ ?_
    · rintro i x D ys H' QV QN hi hx hD hDa e4 q _ qv qn
      obtain ⟨r, hr1, hd⟩ := ws.get hx
      have hd4 := hd.ex (e1.trans e4)
      walk_at "lw gi"
      refine qv _ _ (Ex.refl e4.iv) ?_
      rw [List.take_add_one, hr1, List.map_append, List.map_append, ← q]
      rfl
    rintro D H5 ys hD e5 h5 q _
    rw [hlen, List.take_length] at q
    subst q
    walk_at "lw gi"
    refine rd_all h5 ?_
    walk_at "lw gi"
    exact key _ (by rw [dataB_T hrow (by omega), List.all_map]; rfl) _ (e1.trans e5)

theorem ok_checked_data (T : Tx P w K mg) : FnOk P w K mg base (L2.CX P w) 4 T.f_checked_data T.fd_checked_data ["data", "processes"] (sp_checked_data K T.c_BadSetup) := by
  refine T.F_checked_data.okX sc_checked_data (fun vs H Q E h => ?_) (fun cdv A outer s H vs Q E hr h => ?_)
  · obtain ⟨W, v, d, n, rfl, iv, h, hn, c⟩ := h
    rfl
  · obtain ⟨W, v, d, n, rfl, iv, h, hn, c⟩ := h
    refine ⟨_, (pss_cons (ps_if (pt_cmpR o_isN (pv 0) pe_non (nomark _))
        (pss_one (ps_ret (pe_callTy (r := Lw.rTupO K) c_tuple (by rfl) T.n_tuple (by decide +kernel) (pa_cons (pe_lc (own := [("process", 2)]) rfl sc_checked_data.nd (pi_range1 rfl T.n_range (pa_cons (pv 1) pa_nil)) (blkOk_by (own := [("process", 2)]) (N := N_checked_data) (sc := (defScope s_checked_data)) (by decide +kernel)) (fun _ _ _ _ _ => (pg_name (i := 2) sc_checked_data.nd rfl (by first | exact Or.inl rfl | exact Or.inr rfl))) (fun _ _ _ _ _ => pts_nil) (fun _ _ _ _ _ => (pe_tup pa_nil))) pa_nil))))
        pss_nil)
      (pss_cons (ps_if (PW.pt (pw_or (pt_not (pt_val (pe_call (ok_is_row T) (hr.mono (by decide)) (by rfl) T.g_is_row T.F_is_row.kp T.b_is_row .nil pass0 (pa_cons (pv 0) pa_nil)))) (pw_or1 (pt_cmpR op_ne (pe_callB (r := Lw.rLen K) c_len (by rfl) T.n_len PySem.boot_len (pa_cons (pv 0) pa_nil)) (pv 1) (nomark _)))))
        (pss_one (ps_raiseS2 rfl T.S_BadSetup hr (takes_of rfl rfl rfl rfl) (pa_cons pe_str (pa_cons (pe_un un_neg pe_int) pa_nil))))
        pss_nil)
      (pss_cons (ps_for (passes_of rfl) rfl (pi_or (pi_enum (by rfl) T.n_enumerate (pa_cons (pv 0) pa_nil)) (pi_enumT (by rfl) T.n_enumerate (pa_cons (pv 0) pa_nil))) (pg_tup (by rfl) (pgs_cons (pg_name (i := 2) sc_checked_data.nd rfl (by first | exact Or.inl rfl | exact Or.inr rfl)) (pgs_cons (pg_name (i := 3) sc_checked_data.nd rfl (by first | exact Or.inl rfl | exact Or.inr rfl)) pgs_nil)))
        (pss_one (ps_if (pt_not (pt_val (pe_call (ok_is_data T) hr (by rfl) T.g_is_data T.F_is_data.kp T.b_is_data .nil pass0 (pa_cons (pv 3) pa_nil))))
          (pss_one (ps_raiseS2 rfl T.S_BadSetup hr (takes_of rfl rfl rfl rfl) (pa_cons pe_str (pa_cons (pv 2) pa_nil))))
          pss_nil)))
      (pss_one (ps_ret (pe_callTy (r := Lw.rTupO K) c_tuple (by rfl) T.n_tuple (by decide +kernel) (pa_cons (pe_lc (own := [("words", 3)]) rfl sc_checked_data.nd (pi_or (pi_list (pv 0)) (pi_tup (pv 0))) (blkOk_by (own := [("words", 3)]) (N := N_checked_data) (sc := (defScope s_checked_data)) (by decide +kernel)) (fun _ _ _ _ _ => (pg_name (i := 3) sc_checked_data.nd rfl (by first | exact Or.inl rfl | exact Or.inr rfl))) (fun _ _ _ _ _ => pts_nil) (fun _ _ _ _ _ => (pe_callTy (r := Lw.rTupO K) c_tuple (by rfl) T.n_tuple (by decide +kernel) (pa_cons (pv 3) pa_nil)))) pa_nil))))))), ?_⟩
    walk_at "lw go"
    cases hN : isNoneD d with
    | true =>
      obtain rfl := isNoneD_E hN
      obtain rfl := h.nonE
      refine ifD_yes rfl ?_
      walk_at "lw gi"
      refine lc_w (W := W) (X := fun i x => x = .int (0 + (i : Nat))) (n := n.toNat) walk_range (fun i ys Hh => DWs K W Hh ys (List.replicate i (.tuple []))) iv (by omega) (fun _ _ => trivial) (fun _ _ _ _ e q => q.ex e) .nil ?_ ?_
      · rintro i x D ys H' QV QN hn' rfl hD hDa e3 q _ qv qn
        walk_at "lw gi"
        rename_i t H4 f4 e4 h4
        refine qv _ _ e4 ?_
        rw [List.replicate_succ']
        exact DWs.snoc (q.ex (hide_ex e4 hDa)) (DW.hide (.tup (.inl h4) .nil) (by rw [noL, noLs]) e4.iv (e4.at_ hDa))
      rintro D H5 ys hD e5 h5 q _
      walk_at "lw gi"
      rename_i t H6 f6 e6 h6
      exact c.2 (if_pos rfl) (.ref t) H6 (e5.trans e6) (.tup (.inl h6) (q.ex e6))
    | false =>
    refine ifD_no (h.ne_non hN) ?_
    walk_at "lw gi"
    rename_i H1 e1
    refine ifNB ?_ ?_ <;> intro hrow
    · walk_at "lw gi"
      refine rd_raiseS2 ?_
      walk_at "lw gi"
      exact c.raise e1 (by unfold dataF; rw [hN, if_neg (by decide), if_pos (.inl hrow)])
    obtain ⟨a, xs, rfl, sq, ws⟩ := h.row hrow
    have hlen := ws.length
    have sq1 := sq.ex e1
    walk_at "lw gi"
    refine ifIn ?_ ?_ <;> intro hl
    · walk_at "lw gi"
      refine rd_raiseS2 ?_
      walk_at "lw gi"
      exact c.raise e1 (by unfold dataF; rw [hN, if_neg (by decide), if_pos (.inr (by omega))])
    have pf : ∀ o, fb dataB (items d) = o → dataF d n = o := fun o e => by
      unfold dataF
      rw [hN, if_neg (by decide), if_neg (fun z => z.elim (fun z => by rw [hrow] at z; cases z) fun z => z (by omega)), e]
    walk_at "lw gi"
    refine for_eB (W := W) (a := a) (xs := xs) rfl sq1 (fun i σ' H' => ∃ v3 v4, σ' = [some (.ref a), some (.int n), v3, v4] ∧ Ex W H1 H' ∧ ∀ (j : Nat) r, j < i → (items d)[j]? = some r → dataB r = true) ⟨_, _, rfl, Ex.refl e1.iv, fun j _ hj => absurd hj (Nat.not_lt_zero _)⟩ (fun i σ' H' ⟨_, _, _, e, _⟩ => e) ?_ ?_
    · rintro i x T2 σ' H2 H' hx ⟨v3, v4, rfl, e2, hg⟩ f3 e3 h3
      obtain ⟨r, hr1, hd⟩ := ws.get hx
      have e4 : Ex W H H' := (e1.trans e2).trans e3
      have hd4 := hd.ex e4
      walk_at "lw gi"
      rename_i H5 e5
      refine ifNB ?_ ?_ <;> intro hb
      · walk_at "lw gi"
        refine rd_raiseS2 ?_
        walk_at "lw gi"
        exact c.raise (e4.trans e5) (pf _ (fb_some hr1 hb fun j e hj he => hg j e hj he))
      · walk_at "lw gi"
        refine ⟨_, _, rfl, (e2.trans e3).trans e5, fun j r' hj hr => ?_⟩
        by_cases q : j = i
        · subst q
          rw [hr1] at hr
          cases hr
          exact hb
        · exact hg j r' (by omega) hr
    rintro σ' H2 ⟨v3, v4, rfl, e2, hg⟩
    have hall : fb dataB (items d) = none := fb_none fun j e he => hg j e (by rw [hlen]; exact (List.getElem?_eq_some_iff.mp he).1) he
    have e3 : Ex W H H2 := e1.trans e2
    have iv3 := e3.iv
    have sq3 := sq.ex e3
    walk_at "lw gi"
    refine lc_rows (W := W) (a := a) (xs := xs) rfl sq3 iv3 (by omega) (ws.ex e3) (fun d' hd' => dataB_E (fb_all hall d' hd')) (fun _ => rfl) ?_
    rintro D2 H8 ys hD2 e8 h8 q _
    walk_at "lw gi"
    rename_i t H9 f9 e9 h9
    exact c.2 (pf _ hall) (.ref t) H9 ((e3.trans e8).trans e9) (by unfold dataV; rw [hN]; exact .tup (.inl h9) (q.ex e9))

theorem ok_checked_lines (T : Tx P w K mg) : FnOk P w K mg base (L2.CX P w) 3 T.f_checked_lines T.fd_checked_lines ["lines", "bells"] (sp_checked_lines K T.c_BadSetup) := by
  refine T.F_checked_lines.okX sc_checked_lines (fun vs H Q E h => ?_) (fun cdv A outer s H vs Q E hr h => ?_)
  · obtain ⟨W, v, d, b, rfl, iv, h, c⟩ := h
    rfl
  · obtain ⟨W, v, d, b, rfl, iv, h, c⟩ := h
    refine ⟨_, (pss_cons (ps_if (PW.pt (pw_or (pt_not (pt_val (pe_call (ok_is_row T) (hr.mono (by decide)) (by rfl) T.g_is_row T.F_is_row.kp T.b_is_row .nil pass0 (pa_cons (pv 0) pa_nil)))) (pw_or1 (pt_cmpR op_gt (pe_callB (r := Lw.rLen K) c_len (by rfl) T.n_len PySem.boot_len (pa_cons (pv 0) pa_nil)) (pe_glob (v := .int 4) rfl T.g_MOST_LINES ⟨_, rfl⟩) (nomark _)))))
        (pss_one (ps_raiseS2 rfl T.S_BadSetup hr (takes_of rfl rfl rfl rfl) (pa_cons pe_str (pa_cons (pe_un un_neg pe_int) pa_nil))))
        pss_nil)
      (pss_cons (ps_for (passes_of rfl) rfl (pi_or (pi_enum (by rfl) T.n_enumerate (pa_cons (pv 0) pa_nil)) (pi_enumT (by rfl) T.n_enumerate (pa_cons (pv 0) pa_nil))) (pg_tup (by rfl) (pgs_cons (pg_name (i := 2) sc_checked_lines.nd rfl (by first | exact Or.inl rfl | exact Or.inr rfl)) (pgs_cons (pg_name (i := 3) sc_checked_lines.nd rfl (by first | exact Or.inl rfl | exact Or.inr rfl)) pgs_nil)))
        (pss_one (ps_if (pt_not (pt_val (pe_call (ok_is_between T) hr (by rfl) T.g_is_between T.F_is_between.kp T.b_is_between .nil pass0 (pa_cons (pv 3) (pa_cons pe_int (pa_cons (pe_op op_sub (pv 1) pe_int) pa_nil))))))
          (pss_one (ps_raiseS2 rfl T.S_BadSetup hr (takes_of rfl rfl rfl rfl) (pa_cons pe_str (pa_cons (pv 2) pa_nil))))
          pss_nil)))
      (pss_one (ps_ret (pe_callTy (r := Lw.rTupO K) c_tuple (by rfl) T.n_tuple (by decide +kernel) (pa_cons (pv 0) pa_nil)))))), ?_⟩
    walk_at "lw go"
    rename_i H1 e1
    refine ifNB ?_ ?_ <;> intro hrow
    · walk_at "lw gi"
      refine rd_raiseS2 ?_
      walk_at "lw gi"
      exact c.raise e1 (by unfold linesF; rw [badLen_R hrow]; rfl)
    obtain ⟨a, xs, rfl, sq, ws⟩ := h.row hrow
    have hlen := ws.length
    have sq1 := sq.ex e1
    walk_at "lw gi"
    refine ifD ?_ ?_ <;> intro hl1
    · walk_at "lw gi"
      refine rd_raiseS2 ?_
      walk_at "lw gi"
      exact c.raise e1 (by unfold linesF; rw [badLen_T (by omega)]; rfl)
    have pf : ∀ o, fb (fun q => isBet q 0 (b - 1)) (items d) = o → linesF d b = o := fun o e => by
      unfold linesF
      rw [badLen_F hrow (by omega), if_neg (by decide), e]
    walk_at "lw gi"
    refine for_eB (W := W) (a := a) (xs := xs) rfl sq1 (fun i σ' H' => ∃ v3 v4, σ' = [some (.ref a), some (.int b), v3, v4] ∧ Ex W H1 H' ∧ ∀ (j : Nat) r, j < i → (items d)[j]? = some r → (fun q => isBet q 0 (b - 1)) r = true) ⟨_, _, rfl, Ex.refl e1.iv, fun j _ hj => absurd hj (Nat.not_lt_zero _)⟩ (fun i σ' H' ⟨_, _, _, e, _⟩ => e) ?_ ?_
    · rintro i x T2 σ' H2 H' hx ⟨v3, v4, rfl, e2, hg⟩ f3 e3 h3
      obtain ⟨r, hr1, hd⟩ := ws.get hx
      have e4 : Ex W H H' := (e1.trans e2).trans e3
      have hd4 := hd.ex e4
      walk_at "lw gi"
      refine ifNB ?_ ?_ <;> intro hb
      · walk_at "lw gi"
        refine rd_raiseS2 ?_
        walk_at "lw gi"
        exact c.raise e4 (pf _ (fb_some hr1 hb fun j e hj he => hg j e hj he))
      · walk_at "lw gi"
        refine ⟨_, _, rfl, e2.trans e3, fun j r' hj hr => ?_⟩
        by_cases q : j = i
        · subst q
          rw [hr1] at hr
          cases hr
          exact hb
        · exact hg j r' (by omega) hr
    rintro σ' H2 ⟨v3, v4, rfl, e2, hg⟩
    have hall : fb (fun q => isBet q 0 (b - 1)) (items d) = none := fb_none fun j e he => hg j e (by rw [hlen]; exact (List.getElem?_eq_some_iff.mp he).1) he
    have e3 : Ex W H H2 := e1.trans e2
    have iv3 := e3.iv
    have sq3 := sq.ex e3
    walk_at "lw gi"
    refine rd_tupB iv3 sq3 fun t H9 e9 h9 => ?_
    exact c.2 (pf _ hall) (.ref t) H9 (e3.trans e9) (.tup h9 (ws.ex (e3.trans e9)))

theorem ok_right_row (T : Tx P w K mg) : FnOk P w K mg base CX0 3 T.f_right_row T.fd_right_row ["setup", "value"] (sp_right_row) := by
  refine T.F_right_row.ok sc_right_row (fun vs H Q E h => ?_) (fun cdv A outer s H vs Q E hr h => ?_)
  · obtain ⟨v0, v1, rfl, hF⟩ := h
    rfl
  · obtain ⟨v0, v1, rfl, hF⟩ := h
    refine ⟨_, (pss_cons (ps_if (PW.pt (pw_or (pt_not (pt_val (pe_call (ok_is_row T) (hr.mono (by decide)) (by rfl) T.g_is_row T.F_is_row.kp T.b_is_row .nil pass0 (pa_cons (pv 1) pa_nil)))) (pw_or1 (pt_cmpR op_ne (pe_callB (r := Lw.rLen K) c_len (by rfl) T.n_len PySem.boot_len (pa_cons (pv 1) pa_nil)) pe_int (nomark _)))))
        (pss_one (ps_ret pe_non))
        pss_nil)
      (pss_cons (ps_asg (pv 1) (pg_or (pg_tup (by rfl) (pgs_cons (pg_name (i := 2) sc_right_row.nd rfl (by first | exact Or.inl rfl | exact Or.inr rfl)) (pgs_cons (pg_name (i := 3) sc_right_row.nd rfl (by first | exact Or.inl rfl | exact Or.inr rfl)) (pgs_cons (pg_name (i := 4) sc_right_row.nd rfl (by first | exact Or.inl rfl | exact Or.inr rfl)) (pgs_cons (pg_name (i := 5) sc_right_row.nd rfl (by first | exact Or.inl rfl | exact Or.inr rfl)) (pgs_cons (pg_name (i := 6) sc_right_row.nd rfl (by first | exact Or.inl rfl | exact Or.inr rfl)) pgs_nil)))))) (pg_unl (by rfl) (pgs_cons (pg_name (i := 2) sc_right_row.nd rfl (by first | exact Or.inl rfl | exact Or.inr rfl)) (pgs_cons (pg_name (i := 3) sc_right_row.nd rfl (by first | exact Or.inl rfl | exact Or.inr rfl)) (pgs_cons (pg_name (i := 4) sc_right_row.nd rfl (by first | exact Or.inl rfl | exact Or.inr rfl)) (pgs_cons (pg_name (i := 5) sc_right_row.nd rfl (by first | exact Or.inl rfl | exact Or.inr rfl)) (pgs_cons (pg_name (i := 6) sc_right_row.nd rfl (by first | exact Or.inl rfl | exact Or.inr rfl)) pgs_nil))))))))
      (pss_cons (ps_if (PW.pt (pw_or (pt_not (pt_val (pe_call (ok_is_between T) hr (by rfl) T.g_is_between T.F_is_between.kp T.b_is_between .nil pass0 (pa_cons (pv 2) (pa_cons pe_int (pa_cons (pe_op op_sub (pe_callB (r := Lw.rLen K) c_len (by rfl) T.n_len PySem.boot_len (pa_cons (pe_fld (pv 0) rfl) pa_nil)) pe_int) pa_nil)))))) (pw_or1 (pt_not (pt_val (pe_call (ok_is_between T) hr (by rfl) T.g_is_between T.F_is_between.kp T.b_is_between .nil pass0 (pa_cons (pv 3) (pa_cons pe_int (pa_cons (pe_op op_sub (pe_fld (pv 0) rfl) pe_int) pa_nil)))))))))
        (pss_one (ps_ret pe_non))
        pss_nil)
      (pss_cons (ps_if (pt_not (pt_val (pe_call (ok_is_row T) (hr.mono (by decide)) (by rfl) T.g_is_row T.F_is_row.kp T.b_is_row .nil pass0 (pa_cons (pv 4) pa_nil))))
        (pss_one (ps_ret pe_non))
        pss_nil)
      (pss_cons (ps_set (i := 4) sc_right_row.nd rfl (by first | exact Or.inl rfl | exact Or.inr rfl) (pe_callTy (r := Lw.rTupO K) c_tuple (by rfl) T.n_tuple (by decide +kernel) (pa_cons (pv 4) pa_nil)))
      (pss_cons (ps_if (PW.pt (pw_or (pt_not (pt_val (pe_call (ok_is_thing T) hr (by rfl) T.g_is_thing T.F_is_thing.kp T.b_is_thing .nil pass0 (pa_cons (pv 0) (pa_cons (pv 4) pa_nil))))) (pw_or1 (pt_not (pt_val (pe_call (ok_in_order T) hr (by rfl) T.g_in_order T.F_in_order.kp T.b_in_order .nil pass0 (pa_cons (pe_call (ok_kind_of T) (hr.mono (by decide)) (by rfl) T.g_kind_of T.F_kind_of.kp T.b_kind_of .nil pass0 (pa_cons (pv 4) pa_nil)) (pa_cons (pv 5) pa_nil))))))))
        (pss_one (ps_ret pe_non))
        pss_nil)
      (pss_one (ps_ret (pe_tup (pa_cons (pv 2) (pa_cons (pv 3) (pa_cons (pv 4) (pa_cons (pv 5) (pa_cons (pv 6) pa_nil)))))))))))))), ?_⟩
    exact hF.elim

theorem ok_fits_parent (T : Tx P w K mg) : FnOk P w K mg base CX0 3 T.f_fits_parent T.fd_fits_parent ["row", "earlier"] (sp_fits_parent) := by
  refine T.F_fits_parent.ok sc_fits_parent (fun vs H Q E h => ?_) (fun cdv A outer s H vs Q E hr h => ?_)
  · obtain ⟨v0, v1, rfl, hF⟩ := h
    rfl
  · obtain ⟨v0, v1, rfl, hF⟩ := h
    refine ⟨_, (pss_cons (ps_set (i := 2) sc_fits_parent.nd rfl (by first | exact Or.inl rfl | exact Or.inr rfl) (pe_ix (r := rIxT K) ix_tup (pv 0) pe_int (fun _ _ => rfl)))
      (pss_cons (ps_if (pt_cmpR o_isN (pv 2) pe_non (nomark _))
        (pss_one (ps_ret pe_bl))
        pss_nil)
      (pss_cons (ps_if (pt_not (pt_val (pe_call (ok_is_between T) hr (by rfl) T.g_is_between T.F_is_between.kp T.b_is_between .nil pass0 (pa_cons (pv 2) (pa_cons pe_int (pa_cons (pe_op op_sub (pe_callB (r := Lw.rLen K) c_len (by rfl) T.n_len PySem.boot_len (pa_cons (pv 1) pa_nil)) pe_int) pa_nil))))))
        (pss_one (ps_ret pe_bl))
        pss_nil)
      (pss_cons (ps_set (i := 3) sc_fits_parent.nd rfl (by first | exact Or.inl rfl | exact Or.inr rfl) (pe_ix (r := rIxL K) ix_list (pv 1) (pv 2) (fun _ _ => rfl)))
      (pss_one (ps_ret (pe_and (pe_cmpR (r := rEqD K) (op_eqD hr.units) (pe_ix (r := rIxT K) ix_tup (pv 3) pe_int (fun _ _ => rfl)) (pe_ix (r := rIxT K) ix_tup (pv 0) pe_int (fun _ _ => rfl)) (nomark _)) (pe_one (pe_callB (r := rAll K) (cr_all rfl) (by rfl) T.n_all (by decide +kernel) (pa_cons (pe_lc (own := [("letter", 4)]) rfl sc_fits_parent.nd (pi_str (pe_ix (r := rIxT K) ix_tup (pv 0) pe_int (fun _ _ => rfl))) (blkOk_by (own := [("letter", 4)]) (N := N_fits_parent) (sc := (defScope s_fits_parent)) (by decide +kernel)) (fun _ _ _ _ _ => (pg_name (i := 4) sc_fits_parent.nd rfl (by first | exact Or.inl rfl | exact Or.inr rfl))) (fun _ _ _ _ _ => pts_nil) (fun _ _ _ _ _ => (pe_cmpR o_inSg (pv 4) (pe_ix (r := rIxT K) ix_tup (pv 3) pe_int (fun _ _ => rfl)) (by rfl)))) pa_nil)))))))))), ?_⟩
    exact hF.elim

theorem ok_checked_rights (T : Tx P w K mg) : FnOk P w K mg base (L2.CX P w) 4 T.f_checked_rights T.fd_checked_rights ["setup", "rights"] (sp_checked_rights K T.c_BadSetup) := by
  refine T.F_checked_rights.okX sc_checked_rights (fun vs H Q E h => ?_) (fun cdv A outer s H vs Q E hr h => ?_)
  · obtain ⟨W, s0, v, d, rfl, iv, h, hrow, hi, c⟩ := h
    rfl
  · obtain ⟨W, s0, v, d, rfl, iv, h, hrow, hi, c⟩ := h
    refine ⟨_, (pss_cons (ps_if (pt_not (pt_val (pe_call (ok_is_row T) (hr.mono (by decide)) (by rfl) T.g_is_row T.F_is_row.kp T.b_is_row .nil pass0 (pa_cons (pv 1) pa_nil))))
        (pss_one (ps_raiseS2 rfl T.S_BadSetup hr (takes_of rfl rfl rfl rfl) (pa_cons pe_str (pa_cons (pe_un un_neg pe_int) pa_nil))))
        pss_nil)
      (pss_cons (ps_set (i := 2) sc_checked_rights.nd rfl (by first | exact Or.inl rfl | exact Or.inr rfl) (pe_lst pa_nil))
      (pss_cons (ps_set (i := 3) sc_checked_rights.nd rfl (by first | exact Or.inl rfl | exact Or.inr rfl) pe_dnewK)
      (pss_cons (ps_for (passes_of rfl) rfl (pi_or (pi_enum (by rfl) T.n_enumerate (pa_cons (pv 1) pa_nil)) (pi_enumT (by rfl) T.n_enumerate (pa_cons (pv 1) pa_nil))) (pg_tup (by rfl) (pgs_cons (pg_name (i := 4) sc_checked_rights.nd rfl (by first | exact Or.inl rfl | exact Or.inr rfl)) (pgs_cons (pg_name (i := 5) sc_checked_rights.nd rfl (by first | exact Or.inl rfl | exact Or.inr rfl)) pgs_nil)))
        (pss_cons (ps_set (i := 6) sc_checked_rights.nd rfl (by first | exact Or.inl rfl | exact Or.inr rfl) (pe_call (ok_right_row T) hr (by rfl) T.g_right_row T.F_right_row.kp T.b_right_row .nil pass0 (pa_cons (pv 0) (pa_cons (pv 5) pa_nil))))
        (pss_cons (ps_if (PW.pt (pw_or (pt_cmpR o_isN (pv 6) pe_non (nomark _)) (pw_or (pt_cmp (pc_din (hu_of hr) (pe_tup (pa_cons (pe_ix (r := rIxT K) ix_tup (pv 6) pe_int (fun _ _ => rfl)) (pa_cons (pe_ix (r := rIxT K) ix_tup (pv 6) pe_int (fun _ _ => rfl)) pa_nil))) (pv 3))) (pw_or1 (pt_not (pt_val (pe_call (ok_fits_parent T) hr (by rfl) T.g_fits_parent T.F_fits_parent.kp T.b_fits_parent .nil pass0 (pa_cons (pv 6) (pa_cons (pv 2) pa_nil)))))))))
          (pss_one (ps_raiseS2 rfl T.S_BadSetup hr (takes_of rfl rfl rfl rfl) (pa_cons pe_str (pa_cons (pv 4) pa_nil))))
          pss_nil)
        (pss_cons (ps_dput (hu_of hr) (pv 3) (pe_tup (pa_cons (pe_ix (r := rIxT K) ix_tup (pv 6) pe_int (fun _ _ => rfl)) (pa_cons (pe_ix (r := rIxT K) ix_tup (pv 6) pe_int (fun _ _ => rfl)) pa_nil))) pe_bl rfl)
        (pss_one (ps_expr (pe_bm PySem.F.plainAttrs_list PySem.F.slot_list_append PySem.F.type_list_append mt_append (pv 2) (pa_cons (pv 6) pa_nil))))))))
      (pss_one (ps_ret (pe_callTy (r := Lw.rTupO K) c_tuple (by rfl) T.n_tuple (by decide +kernel) (pa_cons (pv 2) pa_nil)))))))), ?_⟩
    walk_at "lw go"
    rename_i H1 e1
    rw [hrow]
    obtain ⟨a, xs, rfl, sq, ws⟩ := h.row hrow
    rw [hi] at ws
    obtain rfl : xs = [] := by cases ws; rfl
    walk_at "lw gi"
    rename_i q H2 f2 e2 h2 q3 H3 f3 e3 h3
    refine for_eB0 (W := W) (H0 := H1) (a := a) (xs := []) (e2.trans e3) rfl (sq.ex e1) (fun i σ' H' => ∃ v4 v5 v6, σ' = [some s0, some (.ref a), some (.ref q), some (.ref q3), v4, v5, v6] ∧ H' = H3) ⟨_, _, _, rfl, rfl⟩ (fun i σ' H' ⟨_, _, _, _, e⟩ => e ▸ (e2.trans e3)) ?_ ?_
    · intro i x T2 σ' H4 H' hx
      cases hx
    · rintro σ' H4 ⟨v4, v5, v6, rfl, rfl⟩
      walk_at "lw gi"
      rename_i t H6 f6 e6 h6
      exact c.2 rfl (.ref t) H6 (((e1.trans e2).trans e3).trans e6) (.tup (.inl h6) .nil)

theorem ok_Setup__init (T : Tx P w K mg) : FnOk P w K mg base (L2.CX P w) 6 T.f_Setup__init T.fd_Setup__init ["self", "programs", "turns", "rights", "quotas", "data", "pages", "ports", "bells", "lines", "slots", "windows"] (sp_Setup__init K T.c_Setup T.c_BadSetup) := by
  refine FunD.ok T.F_Setup__init sc_Setup__init (fun vs H Q E h => ?_) (fun cdv A outer s H vs Q E hr h => ?_)
  · obtain ⟨W, H0, x, dx, vp, vt, vr, vq, vd, vg, vo, vb, vl, vs', vw, A, rfl, e0, hx0, hx, dp, dt, dr, dq, dd, dg, do', db, dl, ds, dw, hp, rr, ri, kE, k⟩ := h
    rfl
  · obtain ⟨W, H0, x, dx, vp, vt, vr, vq, vd, vg, vo, vb, vl, vs', vw, A, rfl, e0, hx0, hx, dp, dt, dr, dq, dd, dg, do', db, dl, ds, dw, hp, rr, ri, kE, k⟩ := h
    refine ⟨_, (pss_cons (ps_fld (pv 0) (pe_callS (ok_checked_programs T) hr (by rfl) T.g_checked_programs T.F_checked_programs.kp T.b_checked_programs (fun σ => passAt (takes_of rfl rfl rfl rfl) σ) (pa_cons (pv 1) pa_nil)) rfl)
      (pss_cons (ps_set (i := 12) sc_Setup__init.nd rfl (by first | exact Or.inl rfl | exact Or.inr rfl) (pe_callB (r := Lw.rLen K) c_len (by rfl) T.n_len PySem.boot_len (pa_cons (pe_fld (pv 0) rfl) pa_nil)))
      (pss_cons (ps_fld (pv 0) (pe_callS (ok_checked_number T) (hr.mono (by decide)) (by rfl) T.g_checked_number T.F_checked_number.kp T.b_checked_number (fun σ => passAt (takes_of rfl rfl rfl rfl) σ) (pa_cons pe_str (pa_cons (pv 10) (pa_cons (pe_op op_add (pv 12) pe_int) (pa_cons (pe_glob (v := .int 48) rfl T.g_MOST_SLOTS ⟨_, rfl⟩) pa_nil))))) rfl)
      (pss_cons (ps_fld (pv 0) (pe_callS (ok_checked_number T) (hr.mono (by decide)) (by rfl) T.g_checked_number T.F_checked_number.kp T.b_checked_number (fun σ => passAt (takes_of rfl rfl rfl rfl) σ) (pa_cons pe_str (pa_cons (pv 11) (pa_cons pe_int (pa_cons (pe_glob (v := .int 16) rfl T.g_MOST_WINDOWS ⟨_, rfl⟩) pa_nil))))) rfl)
      (pss_cons (ps_fld (pv 0) (pe_callS (ok_checked_turns T) (hr.mono (by decide)) (by rfl) T.g_checked_turns T.F_checked_turns.kp T.b_checked_turns (fun σ => passAt (takes_of rfl rfl rfl rfl) σ) (pa_cons (pv 2) (pa_cons (pv 12) (pa_cons (pe_call (ok_least_ticks T) (hr.mono (by decide)) (by rfl) T.g_least_ticks T.F_least_ticks.kp T.b_least_ticks .nil pass0 (pa_cons (pv 12) (pa_cons (pv 10) (pa_cons (pv 11) pa_nil)))) pa_nil)))) rfl)
      (pss_cons (ps_fld (pv 0) (pe_callS (ok_checked_quotas T) (hr.mono (by decide)) (by rfl) T.g_checked_quotas T.F_checked_quotas.kp T.b_checked_quotas (fun σ => passAt (takes_of rfl rfl rfl rfl) σ) (pa_cons (pv 4) (pa_cons (pv 12) pa_nil))) rfl)
      (pss_cons (ps_fld (pv 0) (pe_callS (ok_checked_data T) (hr.mono (by decide)) (by rfl) T.g_checked_data T.F_checked_data.kp T.b_checked_data (fun σ => passAt (takes_of rfl rfl rfl rfl) σ) (pa_cons (pv 5) (pa_cons (pv 12) pa_nil))) rfl)
      (pss_cons (ps_fld (pv 0) (pe_callS (ok_checked_number T) (hr.mono (by decide)) (by rfl) T.g_checked_number T.F_checked_number.kp T.b_checked_number (fun σ => passAt (takes_of rfl rfl rfl rfl) σ) (pa_cons pe_str (pa_cons (pv 6) (pa_cons pe_int (pa_cons (pe_glob (v := .int 8) rfl T.g_MOST_PAGES ⟨_, rfl⟩) pa_nil))))) rfl)
      (pss_cons (ps_fld (pv 0) (pe_callS (ok_checked_number T) (hr.mono (by decide)) (by rfl) T.g_checked_number T.F_checked_number.kp T.b_checked_number (fun σ => passAt (takes_of rfl rfl rfl rfl) σ) (pa_cons pe_str (pa_cons (pv 7) (pa_cons pe_int (pa_cons (pe_glob (v := .int 6) rfl T.g_MOST_PORTS ⟨_, rfl⟩) pa_nil))))) rfl)
      (pss_cons (ps_fld (pv 0) (pe_callS (ok_checked_number T) (hr.mono (by decide)) (by rfl) T.g_checked_number T.F_checked_number.kp T.b_checked_number (fun σ => passAt (takes_of rfl rfl rfl rfl) σ) (pa_cons pe_str (pa_cons (pv 8) (pa_cons pe_int (pa_cons (pe_glob (v := .int 6) rfl T.g_MOST_BELLS ⟨_, rfl⟩) pa_nil))))) rfl)
      (pss_cons (ps_fld (pv 0) (pe_callS (ok_checked_lines T) (hr.mono (by decide)) (by rfl) T.g_checked_lines T.F_checked_lines.kp T.b_checked_lines (fun σ => passAt (takes_of rfl rfl rfl rfl) σ) (pa_cons (pv 9) (pa_cons (pe_fld (pv 0) rfl) pa_nil))) rfl)
      (pss_one (ps_fld (pv 0) (pe_callS (ok_checked_rights T) (hr.mono (by decide)) (by rfl) T.g_checked_rights T.F_checked_rights.kp T.b_checked_rights (fun σ => passAt (takes_of rfl rfl rfl rfl) σ) (pa_cons (pv 0) (pa_cons (pv 3) pa_nil))) rfl))))))))))))), ?_⟩
    walk_at "lw go"
    have c : InitB K T.c_Setup T.c_BadSetup W H0 x A Q E A.fault := ⟨kE, k⟩
    clear kE k
    unfold SA.fault at c
    have hA0 : ∀ q ∈ ([(vp, A.programs), (vt, A.turns), (vr, A.rights), (vq, A.quotas), (vd, A.data), (vg, A.pages), (vo, A.ports), (vb, A.bells), (vl, A.lines), (vs', A.slots), (vw, A.windows)] : List (V × PyData)), DW K W H q.1 q.2 := fun q hq => by
      simp only [List.mem_cons, List.not_mem_nil, or_false] at hq
      rcases hq with rfl | rfl | rfl | rfl | rfl | rfl | rfl | rfl | rfl | rfl | rfl <;> assumption
    clear dp dt dr dq dd dg do' db dl ds dw
    have xa0 := hx
    have eb0 := e0
    have hl0 : ([] : List (Str × V)).length ≤ 0 := Nat.le_refl _
    obtain ⟨c1, c⟩ := oe_E (B := InitB K T.c_Setup T.c_BadSetup W H0 x A Q E) c
    walk_at "lw gi"
    with_reducible refine rd_sfld ?_
    refine rd_callS ?_
    walk_at "lw gi"
    refine ⟨W, vp, A.programs, rfl, eb0.iv, hA0 (vp, A.programs) (by repeat (first | exact List.mem_cons_self .. | apply List.mem_cons_of_mem)), hp, fun j fj u Hz ez hz => (c1 j fj).1 _ j rfl u Hz (eb0.trans ez) hz, fun fn1 u1 Ha1 ea1 ha1 => ?_⟩
    have c := c fn1
    walk_at "lw gi"
    refine rd_sfldA (W := W) (eb0.trans ea1) hx0 (ea1.at_ xa0) T.cl_Setup T.na_Setup_programs (Nat.lt_of_le_of_lt hl0 (by decide)) fun Hb1 eb1 xa1 kp1 o1 => ?_
    have hl1 := lenF hl0 (f := "programs") (v := u1)
    have hA1 : ∀ q ∈ ([(u1, progsV A.programs), (vp, A.programs), (vt, A.turns), (vr, A.rights), (vq, A.quotas), (vd, A.data), (vg, A.pages), (vo, A.ports), (vb, A.bells), (vl, A.lines), (vs', A.slots), (vw, A.windows)] : List (V × PyData)), DW K W Hb1 q.1 q.2 := fun q hq => kp1 (by rcases List.mem_cons.mp hq with rfl | hq <;> first | exact ha1 | exact (hA0 q hq).ex ea1)
    clear hA0 o1 kp1
    have hn1 : 0 ≤ A.n ∧ A.n ≤ 1000 := by
      have := progsF_len fn1
      unfold SA.n
      omega
    obtain ⟨ap, ts, rfl, ta, wt⟩ := (hA1 (u1, progsV A.programs) (by repeat (first | exact List.mem_cons_self .. | apply List.mem_cons_of_mem))).tupE
    have hnn : (ts.length : Int) = A.n := by rw [wt.length, List.length_map]; rfl
    have sbt : SqB K W Hb1 ap ts := .inr ta
    walk_at "lw gi"
    refine rd_fld ?_
    walk_at "lw gi"
    refine ⟨x, _, _, _, _, rfl, xa1.1, T.cl_Setup, T.na_Setup_programs, rfl, ?_⟩
    walk_at "lw gi"
    rw [hnn]
    obtain ⟨c2, c⟩ := oe_E (B := InitB K T.c_Setup T.c_BadSetup W H0 x A Q E) c
    walk_at "lw gi"
    with_reducible refine rd_sfld ?_
    refine rd_callS ?_
    walk_at "lw gi"
    refine ⟨W, "slots", vs', A.slots, A.n + 2, 48, rfl, eb1.iv, hA1 (vs', A.slots) (by repeat (first | exact List.mem_cons_self .. | apply List.mem_cons_of_mem)), fun j fj u Hz ez hz => (c2 j fj).1 _ j rfl u Hz (eb1.trans ez) hz, fun fn2 u2 Ha2 ea2 ha2 => ?_⟩
    have c := c fn2
    obtain rfl : u2 = V.int (intD A.slots) := betE ha2 (numF_none fn2)
    obtain rfl : vs' = V.int (intD A.slots) := betE (hA1 (vs', A.slots) (by repeat (first | exact List.mem_cons_self .. | apply List.mem_cons_of_mem))) (numF_none fn2)
    walk_at "lw gi"
    refine rd_sfldA (W := W) (eb1.trans ea2) hx0 (ea2.at_ xa1) T.cl_Setup T.na_Setup_slots (Nat.lt_of_le_of_lt hl1 (by decide)) fun Hb2 eb2 xa2 kp2 o2 => ?_
    have hl2 := lenF hl1 (f := "slots") (v := V.int (intD A.slots))
    have hA2 : ∀ q ∈ ([(V.int (intD A.slots), A.slots), (V.ref ap, progsV A.programs), (vp, A.programs), (vt, A.turns), (vr, A.rights), (vq, A.quotas), (vd, A.data), (vg, A.pages), (vo, A.ports), (vb, A.bells), (vl, A.lines), (V.int (intD A.slots), A.slots), (vw, A.windows)] : List (V × PyData)), DW K W Hb2 q.1 q.2 := fun q hq => kp2 (by rcases List.mem_cons.mp hq with rfl | hq <;> first | exact ha2 | exact (hA1 q hq).ex ea2)
    clear hA1 o2 kp2
    obtain ⟨c3, c⟩ := oe_E (B := InitB K T.c_Setup T.c_BadSetup W H0 x A Q E) c
    walk_at "lw gi"
    with_reducible refine rd_sfld ?_
    refine rd_callS ?_
    walk_at "lw gi"
    refine ⟨W, "windows", vw, A.windows, 1, 16, rfl, eb2.iv, hA2 (vw, A.windows) (by repeat (first | exact List.mem_cons_self .. | apply List.mem_cons_of_mem)), fun j fj u Hz ez hz => (c3 j fj).1 _ j rfl u Hz (eb2.trans ez) hz, fun fn3 u3 Ha3 ea3 ha3 => ?_⟩
    have c := c fn3
    obtain rfl : u3 = V.int (intD A.windows) := betE ha3 (numF_none fn3)
    obtain rfl : vw = V.int (intD A.windows) := betE (hA2 (vw, A.windows) (by repeat (first | exact List.mem_cons_self .. | apply List.mem_cons_of_mem))) (numF_none fn3)
    walk_at "lw gi"
    refine rd_sfldA (W := W) (eb2.trans ea3) hx0 (ea3.at_ xa2) T.cl_Setup T.na_Setup_windows (Nat.lt_of_le_of_lt hl2 (by decide)) fun Hb3 eb3 xa3 kp3 o3 => ?_
    have hl3 := lenF hl2 (f := "windows") (v := V.int (intD A.windows))
    have hA3 : ∀ q ∈ ([(V.int (intD A.windows), A.windows), (V.int (intD A.slots), A.slots), (V.ref ap, progsV A.programs), (vp, A.programs), (vt, A.turns), (vr, A.rights), (vq, A.quotas), (vd, A.data), (vg, A.pages), (vo, A.ports), (vb, A.bells), (vl, A.lines), (V.int (intD A.slots), A.slots), (V.int (intD A.windows), A.windows)] : List (V × PyData)), DW K W Hb3 q.1 q.2 := fun q hq => kp3 (by rcases List.mem_cons.mp hq with rfl | hq <;> first | exact ha3 | exact (hA2 q hq).ex ea3)
    clear hA2 o3 kp3
    obtain ⟨c4, c⟩ := oe_E (B := InitB K T.c_Setup T.c_BadSetup W H0 x A Q E) c
    walk_at "lw gi"
    with_reducible refine rd_sfld ?_
    refine rd_callS ?_
    walk_at "lw gi"
    refine ⟨W, vt, A.turns, A.n, freeP A.n (intD A.slots) (intD A.windows) + 16, rfl, eb3.iv, hA3 (vt, A.turns) (by repeat (first | exact List.mem_cons_self .. | apply List.mem_cons_of_mem)), hn1, fun j fj u Hz ez hz => (c4 j fj).1 _ j rfl u Hz (eb3.trans ez) hz, fun fn4 u4 Ha4 ea4 ha4 => ?_⟩
    have c := c fn4
    walk_at "lw gi"
    refine rd_sfldA (W := W) (eb3.trans ea4) hx0 (ea4.at_ xa3) T.cl_Setup T.na_Setup_turns (Nat.lt_of_le_of_lt hl3 (by decide)) fun Hb4 eb4 xa4 kp4 o4 => ?_
    have hl4 := lenF hl3 (f := "turns") (v := u4)
    have hA4 : ∀ q ∈ ([(u4, rowsD A.turns), (V.int (intD A.windows), A.windows), (V.int (intD A.slots), A.slots), (V.ref ap, progsV A.programs), (vp, A.programs), (vt, A.turns), (vr, A.rights), (vq, A.quotas), (vd, A.data), (vg, A.pages), (vo, A.ports), (vb, A.bells), (vl, A.lines), (V.int (intD A.slots), A.slots), (V.int (intD A.windows), A.windows)] : List (V × PyData)), DW K W Hb4 q.1 q.2 := fun q hq => kp4 (by rcases List.mem_cons.mp hq with rfl | hq <;> first | exact ha4 | exact (hA3 q hq).ex ea4)
    clear hA3 o4 kp4
    obtain ⟨c5, c⟩ := oe_E (B := InitB K T.c_Setup T.c_BadSetup W H0 x A Q E) c
    walk_at "lw gi"
    with_reducible refine rd_sfld ?_
    refine rd_callS ?_
    walk_at "lw gi"
    refine ⟨W, vq, A.quotas, A.n, rfl, eb4.iv, hA4 (vq, A.quotas) (by repeat (first | exact List.mem_cons_self .. | apply List.mem_cons_of_mem)), hn1, fun j fj u Hz ez hz => (c5 j fj).1 _ j rfl u Hz (eb4.trans ez) hz, fun fn5 u5 Ha5 ea5 ha5 => ?_⟩
    have c := c fn5
    walk_at "lw gi"
    refine rd_sfldA (W := W) (eb4.trans ea5) hx0 (ea5.at_ xa4) T.cl_Setup T.na_Setup_quotas (Nat.lt_of_le_of_lt hl4 (by decide)) fun Hb5 eb5 xa5 kp5 o5 => ?_
    have hl5 := lenF hl4 (f := "quotas") (v := u5)
    have hA5 : ∀ q ∈ ([(u5, quotasV A.quotas A.n), (u4, rowsD A.turns), (V.int (intD A.windows), A.windows), (V.int (intD A.slots), A.slots), (V.ref ap, progsV A.programs), (vp, A.programs), (vt, A.turns), (vr, A.rights), (vq, A.quotas), (vd, A.data), (vg, A.pages), (vo, A.ports), (vb, A.bells), (vl, A.lines), (V.int (intD A.slots), A.slots), (V.int (intD A.windows), A.windows)] : List (V × PyData)), DW K W Hb5 q.1 q.2 := fun q hq => kp5 (by rcases List.mem_cons.mp hq with rfl | hq <;> first | exact ha5 | exact (hA4 q hq).ex ea5)
    clear hA4 o5 kp5
    obtain ⟨c6, c⟩ := oe_E (B := InitB K T.c_Setup T.c_BadSetup W H0 x A Q E) c
    walk_at "lw gi"
    with_reducible refine rd_sfld ?_
    refine rd_callS ?_
    walk_at "lw gi"
    refine ⟨W, vd, A.data, A.n, rfl, eb5.iv, hA5 (vd, A.data) (by repeat (first | exact List.mem_cons_self .. | apply List.mem_cons_of_mem)), hn1, fun j fj u Hz ez hz => (c6 j fj).1 _ j rfl u Hz (eb5.trans ez) hz, fun fn6 u6 Ha6 ea6 ha6 => ?_⟩
    have c := c fn6
    walk_at "lw gi"
    refine rd_sfldA (W := W) (eb5.trans ea6) hx0 (ea6.at_ xa5) T.cl_Setup T.na_Setup_data (Nat.lt_of_le_of_lt hl5 (by decide)) fun Hb6 eb6 xa6 kp6 o6 => ?_
    have hl6 := lenF hl5 (f := "data") (v := u6)
    have hA6 : ∀ q ∈ ([(u6, dataV A.data A.n), (u5, quotasV A.quotas A.n), (u4, rowsD A.turns), (V.int (intD A.windows), A.windows), (V.int (intD A.slots), A.slots), (V.ref ap, progsV A.programs), (vp, A.programs), (vt, A.turns), (vr, A.rights), (vq, A.quotas), (vd, A.data), (vg, A.pages), (vo, A.ports), (vb, A.bells), (vl, A.lines), (V.int (intD A.slots), A.slots), (V.int (intD A.windows), A.windows)] : List (V × PyData)), DW K W Hb6 q.1 q.2 := fun q hq => kp6 (by rcases List.mem_cons.mp hq with rfl | hq <;> first | exact ha6 | exact (hA5 q hq).ex ea6)
    clear hA5 o6 kp6
    obtain ⟨c7, c⟩ := oe_E (B := InitB K T.c_Setup T.c_BadSetup W H0 x A Q E) c
    walk_at "lw gi"
    with_reducible refine rd_sfld ?_
    refine rd_callS ?_
    walk_at "lw gi"
    refine ⟨W, "pages", vg, A.pages, 0, 8, rfl, eb6.iv, hA6 (vg, A.pages) (by repeat (first | exact List.mem_cons_self .. | apply List.mem_cons_of_mem)), fun j fj u Hz ez hz => (c7 j fj).1 _ j rfl u Hz (eb6.trans ez) hz, fun fn7 u7 Ha7 ea7 ha7 => ?_⟩
    have c := c fn7
    obtain rfl : u7 = V.int (intD A.pages) := betE ha7 (numF_none fn7)
    obtain rfl : vg = V.int (intD A.pages) := betE (hA6 (vg, A.pages) (by repeat (first | exact List.mem_cons_self .. | apply List.mem_cons_of_mem))) (numF_none fn7)
    walk_at "lw gi"
    refine rd_sfldA (W := W) (eb6.trans ea7) hx0 (ea7.at_ xa6) T.cl_Setup T.na_Setup_pages (Nat.lt_of_le_of_lt hl6 (by decide)) fun Hb7 eb7 xa7 kp7 o7 => ?_
    have hl7 := lenF hl6 (f := "pages") (v := V.int (intD A.pages))
    have hA7 : ∀ q ∈ ([(V.int (intD A.pages), A.pages), (u6, dataV A.data A.n), (u5, quotasV A.quotas A.n), (u4, rowsD A.turns), (V.int (intD A.windows), A.windows), (V.int (intD A.slots), A.slots), (V.ref ap, progsV A.programs), (vp, A.programs), (vt, A.turns), (vr, A.rights), (vq, A.quotas), (vd, A.data), (V.int (intD A.pages), A.pages), (vo, A.ports), (vb, A.bells), (vl, A.lines), (V.int (intD A.slots), A.slots), (V.int (intD A.windows), A.windows)] : List (V × PyData)), DW K W Hb7 q.1 q.2 := fun q hq => kp7 (by rcases List.mem_cons.mp hq with rfl | hq <;> first | exact ha7 | exact (hA6 q hq).ex ea7)
    clear hA6 o7 kp7
    obtain ⟨c8, c⟩ := oe_E (B := InitB K T.c_Setup T.c_BadSetup W H0 x A Q E) c
    walk_at "lw gi"
    with_reducible refine rd_sfld ?_
    refine rd_callS ?_
    walk_at "lw gi"
    refine ⟨W, "ports", vo, A.ports, 0, 6, rfl, eb7.iv, hA7 (vo, A.ports) (by repeat (first | exact List.mem_cons_self .. | apply List.mem_cons_of_mem)), fun j fj u Hz ez hz => (c8 j fj).1 _ j rfl u Hz (eb7.trans ez) hz, fun fn8 u8 Ha8 ea8 ha8 => ?_⟩
    have c := c fn8
    obtain rfl : u8 = V.int (intD A.ports) := betE ha8 (numF_none fn8)
    obtain rfl : vo = V.int (intD A.ports) := betE (hA7 (vo, A.ports) (by repeat (first | exact List.mem_cons_self .. | apply List.mem_cons_of_mem))) (numF_none fn8)
    walk_at "lw gi"
    refine rd_sfldA (W := W) (eb7.trans ea8) hx0 (ea8.at_ xa7) T.cl_Setup T.na_Setup_ports (Nat.lt_of_le_of_lt hl7 (by decide)) fun Hb8 eb8 xa8 kp8 o8 => ?_
    have hl8 := lenF hl7 (f := "ports") (v := V.int (intD A.ports))
    have hA8 : ∀ q ∈ ([(V.int (intD A.ports), A.ports), (V.int (intD A.pages), A.pages), (u6, dataV A.data A.n), (u5, quotasV A.quotas A.n), (u4, rowsD A.turns), (V.int (intD A.windows), A.windows), (V.int (intD A.slots), A.slots), (V.ref ap, progsV A.programs), (vp, A.programs), (vt, A.turns), (vr, A.rights), (vq, A.quotas), (vd, A.data), (V.int (intD A.pages), A.pages), (V.int (intD A.ports), A.ports), (vb, A.bells), (vl, A.lines), (V.int (intD A.slots), A.slots), (V.int (intD A.windows), A.windows)] : List (V × PyData)), DW K W Hb8 q.1 q.2 := fun q hq => kp8 (by rcases List.mem_cons.mp hq with rfl | hq <;> first | exact ha8 | exact (hA7 q hq).ex ea8)
    clear hA7 o8 kp8
    obtain ⟨c9, c⟩ := oe_E (B := InitB K T.c_Setup T.c_BadSetup W H0 x A Q E) c
    walk_at "lw gi"
    with_reducible refine rd_sfld ?_
    refine rd_callS ?_
    walk_at "lw gi"
    refine ⟨W, "bells", vb, A.bells, 0, 6, rfl, eb8.iv, hA8 (vb, A.bells) (by repeat (first | exact List.mem_cons_self .. | apply List.mem_cons_of_mem)), fun j fj u Hz ez hz => (c9 j fj).1 _ j rfl u Hz (eb8.trans ez) hz, fun fn9 u9 Ha9 ea9 ha9 => ?_⟩
    have c := c fn9
    obtain rfl : u9 = V.int (intD A.bells) := betE ha9 (numF_none fn9)
    obtain rfl : vb = V.int (intD A.bells) := betE (hA8 (vb, A.bells) (by repeat (first | exact List.mem_cons_self .. | apply List.mem_cons_of_mem))) (numF_none fn9)
    walk_at "lw gi"
    refine rd_sfldA (W := W) (eb8.trans ea9) hx0 (ea9.at_ xa8) T.cl_Setup T.na_Setup_bells (Nat.lt_of_le_of_lt hl8 (by decide)) fun Hb9 eb9 xa9 kp9 o9 => ?_
    have hl9 := lenF hl8 (f := "bells") (v := V.int (intD A.bells))
    have hA9 : ∀ q ∈ ([(V.int (intD A.bells), A.bells), (V.int (intD A.ports), A.ports), (V.int (intD A.pages), A.pages), (u6, dataV A.data A.n), (u5, quotasV A.quotas A.n), (u4, rowsD A.turns), (V.int (intD A.windows), A.windows), (V.int (intD A.slots), A.slots), (V.ref ap, progsV A.programs), (vp, A.programs), (vt, A.turns), (vr, A.rights), (vq, A.quotas), (vd, A.data), (V.int (intD A.pages), A.pages), (V.int (intD A.ports), A.ports), (V.int (intD A.bells), A.bells), (vl, A.lines), (V.int (intD A.slots), A.slots), (V.int (intD A.windows), A.windows)] : List (V × PyData)), DW K W Hb9 q.1 q.2 := fun q hq => kp9 (by rcases List.mem_cons.mp hq with rfl | hq <;> first | exact ha9 | exact (hA8 q hq).ex ea9)
    clear hA8 o9 kp9
    obtain ⟨c10, c⟩ := oe_E (B := InitB K T.c_Setup T.c_BadSetup W H0 x A Q E) c
    walk_at "lw gi"
    with_reducible refine rd_sfld ?_
    refine rd_callS ?_
    walk_at "lw gi"
    refine rd_fld ?_
    walk_at "lw gi"
    refine ⟨x, _, _, _, _, rfl, xa9.1, T.cl_Setup, T.na_Setup_bells, rfl, ?_⟩
    walk_at "lw gi"
    refine ⟨W, vl, A.lines, intD A.bells, rfl, eb9.iv, hA9 (vl, A.lines) (by repeat (first | exact List.mem_cons_self .. | apply List.mem_cons_of_mem)), fun j fj u Hz ez hz => (c10 j fj).1 _ j rfl u Hz (eb9.trans ez) hz, fun fn10 u10 Ha10 ea10 ha10 => ?_⟩
    have c := c fn10
    walk_at "lw gi"
    refine rd_sfldA (W := W) (eb9.trans ea10) hx0 (ea10.at_ xa9) T.cl_Setup T.na_Setup_lines (Nat.lt_of_le_of_lt hl9 (by decide)) fun Hb10 eb10 xa10 kp10 o10 => ?_
    have hl10 := lenF hl9 (f := "lines") (v := u10)
    have hA10 : ∀ q ∈ ([(u10, tupD A.lines), (V.int (intD A.bells), A.bells), (V.int (intD A.ports), A.ports), (V.int (intD A.pages), A.pages), (u6, dataV A.data A.n), (u5, quotasV A.quotas A.n), (u4, rowsD A.turns), (V.int (intD A.windows), A.windows), (V.int (intD A.slots), A.slots), (V.ref ap, progsV A.programs), (vp, A.programs), (vt, A.turns), (vr, A.rights), (vq, A.quotas), (vd, A.data), (V.int (intD A.pages), A.pages), (V.int (intD A.ports), A.ports), (V.int (intD A.bells), A.bells), (vl, A.lines), (V.int (intD A.slots), A.slots), (V.int (intD A.windows), A.windows)] : List (V × PyData)), DW K W Hb10 q.1 q.2 := fun q hq => kp10 (by rcases List.mem_cons.mp hq with rfl | hq <;> first | exact ha10 | exact (hA9 q hq).ex ea10)
    clear hA9 o10 kp10
    walk_at "lw gi"
    with_reducible refine rd_sfld ?_
    refine rd_callS ?_
    walk_at "lw gi"
    refine ⟨W, .ref x, vr, A.rights, rfl, eb10.iv, hA10 (vr, A.rights) (by repeat (first | exact List.mem_cons_self .. | apply List.mem_cons_of_mem)), rr, ri, (fun j fj => nomatch fj), fun fn11 u11 Ha11 ea11 ha11 => ?_⟩
    walk_at "lw gi"
    refine rd_sfldA (W := W) (eb10.trans ea11) hx0 (ea11.at_ xa10) T.cl_Setup T.na_Setup_rights (Nat.lt_of_le_of_lt hl10 (by decide)) fun Hb11 eb11 xa11 kp11 o11 => ?_
    have hl11 := lenF hl10 (f := "rights") (v := u11)
    have hA11 : ∀ q ∈ ([(u11, .tuple []), (u10, tupD A.lines), (V.int (intD A.bells), A.bells), (V.int (intD A.ports), A.ports), (V.int (intD A.pages), A.pages), (u6, dataV A.data A.n), (u5, quotasV A.quotas A.n), (u4, rowsD A.turns), (V.int (intD A.windows), A.windows), (V.int (intD A.slots), A.slots), (V.ref ap, progsV A.programs), (vp, A.programs), (vt, A.turns), (vr, A.rights), (vq, A.quotas), (vd, A.data), (V.int (intD A.pages), A.pages), (V.int (intD A.ports), A.ports), (V.int (intD A.bells), A.bells), (vl, A.lines), (V.int (intD A.slots), A.slots), (V.int (intD A.windows), A.windows)] : List (V × PyData)), DW K W Hb11 q.1 q.2 := fun q hq => kp11 (by rcases List.mem_cons.mp hq with rfl | hq <;> first | exact ha11 | exact (hA10 q hq).ex ea11)
    clear hA10 o11 kp11
    walk_at "lw gi"
    exact c.2 rfl _ eb11 ⟨_, _, _, _, _, _, _, xa11, hA11 (V.ref ap, progsV A.programs) (by repeat (first | exact List.mem_cons_self .. | apply List.mem_cons_of_mem)), hA11 (u4, rowsD A.turns) (by repeat (first | exact List.mem_cons_self .. | apply List.mem_cons_of_mem)), hA11 (u5, quotasV A.quotas A.n) (by repeat (first | exact List.mem_cons_self .. | apply List.mem_cons_of_mem)), hA11 (u6, dataV A.data A.n) (by repeat (first | exact List.mem_cons_self .. | apply List.mem_cons_of_mem)), hA11 (u10, tupD A.lines) (by repeat (first | exact List.mem_cons_self .. | apply List.mem_cons_of_mem)), hA11 (u11, .tuple []) (by repeat (first | exact List.mem_cons_self .. | apply List.mem_cons_of_mem))⟩

theorem ok_check_raises (T : Tx P w K mg) : FnOk P w K mg base (L2.CX P w) 3 T.f_check_raises T.fd_check_raises ["setup", "raises"] (sp_check_raises K T.c_Setup T.c_BadRaises) := by
  refine T.F_check_raises.okX sc_check_raises (fun vs H Q E h => ?_) (fun cdv A outer s H vs Q E hr h => ?_)
  · obtain ⟨W, p, S, v, d, rfl, iv, sa, lr, ll, h, kE, k⟩ := h
    rfl
  · obtain ⟨W, p, S, v, d, rfl, iv, sa, lr, ll, h, kE, k⟩ := h
    refine ⟨_, (pss_cons (ps_if (PW.pt (pw_or (pt_not (pt_val (pe_call (ok_is_row T) (hr.mono (by decide)) (by rfl) T.g_is_row T.F_is_row.kp T.b_is_row .nil pass0 (pa_cons (pv 1) pa_nil)))) (pw_or1 (pt_cmpR op_gt (pe_callB (r := Lw.rLen K) c_len (by rfl) T.n_len PySem.boot_len (pa_cons (pv 1) pa_nil)) (pe_glob (v := .int 200) rfl T.g_MOST_RAISES ⟨_, rfl⟩) (nomark _)))))
        (pss_one (ps_raiseS rfl T.S_BadRaises hr (takes_of rfl rfl rfl rfl) (pa_cons (pe_un un_neg pe_int) pa_nil)))
        pss_nil)
      (pss_cons (ps_set (i := 2) sc_check_raises.nd rfl (by first | exact Or.inl rfl | exact Or.inr rfl) pe_int)
      (pss_cons (ps_for (passes_of rfl) rfl (pi_or (pi_enum (by rfl) T.n_enumerate (pa_cons (pv 1) pa_nil)) (pi_enumT (by rfl) T.n_enumerate (pa_cons (pv 1) pa_nil))) (pg_tup (by rfl) (pgs_cons (pg_name (i := 3) sc_check_raises.nd rfl (by first | exact Or.inl rfl | exact Or.inr rfl)) (pgs_cons (pg_name (i := 4) sc_check_raises.nd rfl (by first | exact Or.inl rfl | exact Or.inr rfl)) pgs_nil)))
        (pss_cons (ps_if (PW.pt (pw_or (pt_not (pt_val (pe_call (ok_is_row T) (hr.mono (by decide)) (by rfl) T.g_is_row T.F_is_row.kp T.b_is_row .nil pass0 (pa_cons (pv 4) pa_nil)))) (pw_or1 (pt_cmpR op_ne (pe_callB (r := Lw.rLen K) c_len (by rfl) T.n_len PySem.boot_len (pa_cons (pv 4) pa_nil)) pe_int (nomark _)))))
          (pss_one (ps_raiseS rfl T.S_BadRaises hr (takes_of rfl rfl rfl rfl) (pa_cons (pv 3) pa_nil)))
          pss_nil)
        (pss_cons (ps_asg (pv 4) (pg_or (pg_tup (by rfl) (pgs_cons (pg_name (i := 5) sc_check_raises.nd rfl (by first | exact Or.inl rfl | exact Or.inr rfl)) (pgs_cons (pg_name (i := 6) sc_check_raises.nd rfl (by first | exact Or.inl rfl | exact Or.inr rfl)) pgs_nil))) (pg_unl (by rfl) (pgs_cons (pg_name (i := 5) sc_check_raises.nd rfl (by first | exact Or.inl rfl | exact Or.inr rfl)) (pgs_cons (pg_name (i := 6) sc_check_raises.nd rfl (by first | exact Or.inl rfl | exact Or.inr rfl)) pgs_nil)))))
        (pss_cons (ps_if (PW.pt (pw_or (pt_not (pt_val (pe_call (ok_is_between T) hr (by rfl) T.g_is_between T.F_is_between.kp T.b_is_between .nil pass0 (pa_cons (pv 5) (pa_cons (pv 2) (pa_cons (pe_glob (v := .int 10000000000) rfl T.g_GREATEST_TICK ⟨_, rfl⟩) pa_nil)))))) (pw_or1 (pt_not (pt_val (pe_call (ok_is_between T) hr (by rfl) T.g_is_between T.F_is_between.kp T.b_is_between .nil pass0 (pa_cons (pv 6) (pa_cons pe_int (pa_cons (pe_op op_sub (pe_callB (r := Lw.rLen K) c_len (by rfl) T.n_len PySem.boot_len (pa_cons (pe_fld (pv 0) rfl) pa_nil)) pe_int) pa_nil)))))))))
          (pss_one (ps_raiseS rfl T.S_BadRaises hr (takes_of rfl rfl rfl rfl) (pa_cons (pv 3) pa_nil)))
          pss_nil)
        (pss_one (ps_set (i := 2) sc_check_raises.nd rfl (by first | exact Or.inl rfl | exact Or.inr rfl) (pv 5)))))))
      (pss_one (ps_ret (pe_callTy (r := Lw.rTupO K) c_tuple (by rfl) T.n_tuple (by decide +kernel) (pa_cons (pe_lc (own := [("pair", 4)]) rfl sc_check_raises.nd (pi_or (pi_list (pv 1)) (pi_tup (pv 1))) (blkOk_by (own := [("pair", 4)]) (N := N_check_raises) (sc := (defScope s_check_raises)) (by decide +kernel)) (fun _ _ _ _ _ => (pg_name (i := 4) sc_check_raises.nd rfl (by first | exact Or.inl rfl | exact Or.inr rfl))) (fun _ _ _ _ _ => pts_nil) (fun _ _ _ _ _ => (pe_callTy (r := Lw.rTupO K) c_tuple (by rfl) T.n_tuple (by decide +kernel) (pa_cons (pv 4) pa_nil)))) pa_nil))))))), ?_⟩
    have raise : ∀ (j : Int) (H' : Hp), Ex W H H' → raisesF d (items S.lines).length = some j → ∃ v', [V.int j] = [v'] ∧ ∀ u, H' u = none → E (.ref T.c_BadRaises) (some u) (upd H' u (.xd [("index", v')])) := fun j H' e f =>
      ⟨_, rfl, fun u hu => kE j f u _ (e.trans (Ex.new e.iv hu)) (At.new e.iv hu)⟩
    walk_at "lw go"
    rename_i H1 e1
    refine ifNB ?_ ?_ <;> intro hrow
    · walk_at "lw gi"
      refine rd_raiseS ?_
      walk_at "lw gi"
      exact raise (-1) _ e1 (by unfold raisesF; rw [badLen_R hrow]; rfl)
    obtain ⟨a, xs, rfl, sq, ws⟩ := h.row hrow
    have hlen := ws.length
    have sq1 := sq.ex e1
    walk_at "lw gi"
    refine ifD ?_ ?_ <;> intro hl1
    · walk_at "lw gi"
      refine rd_raiseS ?_
      walk_at "lw gi"
      exact raise (-1) _ e1 (by unfold raisesF; rw [badLen_T (by omega)]; rfl)
    generalize hnl : (items S.lines).length = nl at *
    have pf : ∀ o, raisesGo nl (items d) 0 0 = o → raisesF d nl = o := fun o e => by
      unfold raisesF
      rw [badLen_F hrow (by omega), if_neg (by decide), e]
    obtain ⟨dx, vp, vt, vq, vd, vl, vr, at1, _, _, _, _, dl, _⟩ := sa
    obtain ⟨al, ls, rfl, sl, wl⟩ := dl.row lr
    have hll := wl.length
    rw [hnl] at hll
    walk_at "lw gi"
    refine for_eB (W := W) (a := a) (xs := xs) rfl sq1 (fun i σ' H' => ∃ lo v3 v4 v5 v6, σ' = [some (.ref p), some (.ref a), some (.int lo), v3, v4, v5, v6] ∧ Ex W H1 H' ∧ raisesGo nl (items d) 0 0 = raisesGo nl ((items d).drop i) lo i ∧ ∀ (j : Nat) r, j < i → (items d)[j]? = some r → isRow r = true ∧ noLs (items r) = true)
      ⟨_, _, _, _, _, rfl, Ex.refl e1.iv, rfl, fun j _ hj => absurd hj (Nat.not_lt_zero _)⟩ (fun i σ' H' ⟨_, _, _, _, _, _, e, _⟩ => e) ?_ ?_
    · rintro i x T2 σ' H2 H' hx ⟨lo, v3, v4, v5, v6, rfl, e2, hgo, hg⟩ f3 e3 h3
      obtain ⟨r, hr1, hd⟩ := ws.get hx
      have e4 : Ex W H H' := (e1.trans e2).trans e3
      have hd4 := hd.ex e4
      rw [raisesGo_step hr1] at hgo
      have bad : pairB lo nl r = false → raisesF d nl = some (i : Int) := fun z => pf _ (by rw [hgo, z]; rfl)
      walk_at "lw gi"
      rename_i H5 e5
      have e45 := e4.trans e5
      refine ifNB ?_ ?_ <;> intro hb
      · walk_at "lw gi"
        refine rd_raiseS ?_
        walk_at "lw gi"
        exact raise i _ e45 (bad (pairB_R hb))
      obtain ⟨a2, us, rfl, sq2, ws2⟩ := hd.row hb
      have hlen2 := ws2.length
      have sq25 := sq2.ex e45
      walk_at "lw gi"
      refine ifIn ?_ ?_ <;> intro h2
      · walk_at "lw gi"
        refine rd_raiseS ?_
        walk_at "lw gi"
        exact raise i _ e45 (bad (pairB_L fun z => h2 (by rw [hlen2, z]; rfl)))
      obtain ⟨x, y, rfl⟩ : ∃ x y, us = [x, y] := two_of (by omega)
      obtain ⟨d1, d2, hi, hx1, hy1⟩ := ws2.two
      have hx5 := hx1.ex e45
      have hy5 := hy1.ex e45
      have at5 := e45.at_ at1
      have sl5 := sl.ex e45
      walk_at "lw gi"
      refine rd_gB sq25 rfl ?_
      walk_at "lw gi"
      refine ifNB ?_ ?_ <;> intro hb1
      · walk_at "lw gi"
        refine rd_raiseS ?_
        walk_at "lw gi"
        exact raise i _ e45 (bad (by rw [pairB_2 hb hi, hb1]; rfl))
      walk_at "lw gi"
      refine rd_fld ?_
      walk_at "lw gi"
      refine ⟨p, _, _, _, _, rfl, at5.1, T.cl_Setup, T.na_Setup_lines, rfl, ?_⟩
      walk_at "lw gi"
      rw [hll]
      refine ifNB ?_ ?_ <;> intro hb2
      · walk_at "lw gi"
        refine rd_raiseS ?_
        walk_at "lw gi"
        exact raise i _ e45 (bad (by rw [pairB_2 hb hi, hb1, hb2]; rfl))
      obtain ⟨t, rfl, _, _⟩ := isBet_E hb1
      obtain ⟨l, rfl, _, _⟩ := isBet_E hb2
      obtain rfl := hx1.intE
      obtain rfl := hy1.intE
      walk_at "lw gi"
      refine ⟨t, _, _, _, _, rfl, (e2.trans e3).trans e5, ?_, fun j r' hj hr => ?_⟩
      · rw [hgo, if_pos (by rw [pairB_2 hb hi, hb1, hb2]; rfl), tickD_2 hi]
      · by_cases q : j = i
        · subst q
          rw [hr1] at hr
          cases hr
          exact ⟨hb, noLs_2 hi⟩
        · exact hg j r' (by omega) hr
    · rintro σ' H2 ⟨lo, v3, v4, v5, v6, rfl, e2, hgo, hg⟩
      rw [hlen, List.drop_length, raisesGo] at hgo
      have e3 : Ex W H H2 := e1.trans e2
      walk_at "lw gi"
      refine lc_rows (W := W) (a := a) (xs := xs) rfl (sq.ex e3) e3.iv (by omega) (ws.ex e3) (fun d' hd' => ?_) (fun _ => rfl) ?_
      · obtain ⟨j, hj⟩ := List.getElem?_of_mem hd'
        exact hg j d' (by rw [hlen]; exact (List.getElem?_eq_some_iff.mp hj).1) hj
      rintro D2 H8 ys hD2 e8 h8 q _
      walk_at "lw gi"
      rename_i t H9 f9 e9 h9
      exact k (pf _ hgo) (.ref t) H9 ((e3.trans e8).trans e9) (.tup (.inl h9) (q.ex e9))

theorem ok_law_bag (T : Tx P w K mg) : FnOk P w K mg base CX0 1 T.f_law_bag T.fd_law_bag ["script"] (sp_law_bag K) := by
  refine T.F_law_bag.ok sc_law_bag (fun vs H Q E h => ?_) (fun cdv A outer s H vs Q E hr h => ?_)
  · obtain ⟨a, ns, rfl, ha, hn, k⟩ := h
    rfl
  · obtain ⟨a, ns, rfl, ha, hn, k⟩ := h
    refine ⟨_, (pss_one (ps_ret (pe_op op_cat (pe_lst (pa_cons pe_int (pa_cons pe_int (pa_cons pe_int (pa_cons pe_int pa_nil))))) (pe_lc (own := [("cell", 1)]) rfl sc_law_bag.nd (pi_list (pe_slice (r := rSlL K) sl_list (pv 0) po_none (po_some pe_int))) (blkOk_by (own := [("cell", 1)]) (N := N_law_bag) (sc := (defScope s_law_bag)) (by decide +kernel)) (fun _ _ _ _ _ => (pg_name (i := 1) sc_law_bag.nd rfl (by first | exact Or.inl rfl | exact Or.inr rfl))) (fun _ _ _ _ _ => pts_nil) (fun _ _ _ _ _ => (pe_callTy c_int (by rfl) T.n_int (by decide +kernel) (pa_cons (pv 1) pa_nil))))))), ?_⟩
    have iv : W0.iv H := trivial
    walk_at "lw all"
    rename_i t0 H0 f0 e0 h0
    refine rd_slLs (W := W0) e0.iv (sql_ex e0 ha) ?_
    intro p H1 hp e1 h1
    have ai : AI (cutV (ns.map V.int) none (some 63)) := (AI.of ns).cut
    have al : (cutV (ns.map V.int) none (some 63)).length ≤ 63 := Nat.le_trans (cut_len _ _ _) (by rw [List.length_map]; exact hn)
    walk_at "lw all"
    refine rd_lc1 (W := W0) (fun _ y _ => ∃ z : Int, y = .int z) (by walk_at "lw iv") h1 (by omega) (fun _ _ _ _ _ r => r) (fun n x D acc H' QV hx hD hDa e q => ?_) (fun C H2 ys hD e2 h2 hA => ?_)
    · obtain ⟨z, rfl⟩ := ai.get hx
      walk_at "lw go"
      exact q _ _ (Ex.refl e.iv) ⟨_, rfl⟩
    have hys := hA.length
    obtain ⟨cs, rfl⟩ := (AI.of_all hA).ints
    walk_at "lw all"
    rename_i p5 H5 f5 e5 h5
    exact k _ _ ⟨4, 0, 0, 20011, cs, h5.1, by decide⟩

theorem ok_law_take (T : Tx P w K mg) : FnOk P w K mg base CX0 1 T.f_law_take T.fd_law_take ["bag", "many"] (sp_law_take) := by
  refine T.F_law_take.ok sc_law_take (fun vs H Q E h => ?_) (fun cdv A outer s H vs Q E hr h => ?_)
  · obtain ⟨b, many, rfl, m0, m1, ⟨p, g, n, s0, cs, B⟩, k⟩ := h
    rfl
  · obtain ⟨b, many, rfl, m0, m1, ⟨p, g, n, s0, cs, B⟩, k⟩ := h
    refine ⟨_, (pss_cons (ps_asg (pe_op op_add (pe_ix (r := rIxL K) ix_list (pv 0) pe_int (fun _ _ => rfl)) pe_int) (pg_sub (pv 0) pe_int set_list))
      (pss_cut (ps_if (PW.pt (pw_and (pt_cmpR op_eq (pe_ix (r := rIxL K) ix_list (pv 0) pe_int (fun _ _ => rfl)) pe_int (nomark _)) (pw_and1 (pt_cmpR op_lt (pe_ix (r := rIxL K) ix_list (pv 0) pe_int (fun _ _ => rfl)) (pe_callB (r := Lw.rLen K) c_len (by rfl) T.n_len PySem.boot_len (pa_cons (pv 0) pa_nil)) (nomark _)))))
        (pss_cons (ps_set (i := 2) sc_law_take.nd rfl (by first | exact Or.inl rfl | exact Or.inr rfl) (pe_ix (r := rIxL K) ix_list (pv 0) (pe_ix (r := rIxL K) ix_list (pv 0) pe_int (fun _ _ => rfl)) (fun _ _ => rfl)))
        (pss_cons (ps_asg (pe_op op_add (pe_ix (r := rIxL K) ix_list (pv 0) pe_int (fun _ _ => rfl)) pe_int) (pg_sub (pv 0) pe_int set_list))
        (pss_one (ps_if (pt_cmpR op_ge (pv 2) (pe_op op_powW pe_int pe_int) (nomark _))
          (pss_one (ps_asg (pv 2) (pg_sub (pv 0) pe_int set_list)))
          (pss_one (ps_asg (pe_op op_mod (pe_callTy c_int (by rfl) T.n_int (by decide +kernel) (pa_cons (pe_op op_add (pe_op op_add (pe_op op_mul (pe_ix (r := rIxL K) ix_list (pv 0) pe_int (fun _ _ => rfl)) pe_int) (pe_op op_mul (pe_op op_mod (pe_callTy c_int (by rfl) T.n_int (by decide +kernel) (pa_cons (pv 2) pa_nil)) pe_int) pe_int)) pe_int) pa_nil)) pe_int) (pg_sub (pv 0) pe_int set_list)))))))
        pss_nil)
      (pss_cons (ps_if (pt_cmpR op_gt (pe_ix (r := rIxL K) ix_list (pv 0) pe_int (fun _ _ => rfl)) pe_int (nomark _))
        (pss_cons (ps_set (i := 3) sc_law_take.nd rfl (by first | exact Or.inl rfl | exact Or.inr rfl) (pe_op op_mod (pe_callTy c_int (by rfl) T.n_int (by decide +kernel) (pa_cons (pe_ix (r := rIxL K) ix_list (pv 0) pe_int (fun _ _ => rfl)) pa_nil)) (pv 1)))
        (pss_cons (ps_asg (pe_op op_fdiv (pe_ix (r := rIxL K) ix_list (pv 0) pe_int (fun _ _ => rfl)) (pv 1)) (pg_sub (pv 0) pe_int set_list))
        (pss_one (ps_ret (pv 3)))))
        pss_nil)
      (pss_cons (ps_asg (pe_op op_mod (pe_callTy c_int (by rfl) T.n_int (by decide +kernel) (pa_cons (pe_op op_add (pe_op op_add (pe_op op_mul (pe_ix (r := rIxL K) ix_list (pv 0) pe_int (fun _ _ => rfl)) pe_int) (pe_op op_mul (pe_ix (r := rIxL K) ix_list (pv 0) pe_int (fun _ _ => rfl)) pe_int)) pe_int) pa_nil)) pe_int) (pg_sub (pv 0) pe_int set_list))
      (pss_cons (ps_set (i := 4) sc_law_take.nd rfl (by first | exact Or.inl rfl | exact Or.inr rfl) (pe_op op_mod (pe_callTy c_int (by rfl) T.n_int (by decide +kernel) (pa_cons (pe_op op_add (pe_op op_add (pe_op op_mul (pe_ix (r := rIxL K) ix_list (pv 0) pe_int (fun _ _ => rfl)) pe_int) (pe_op op_mul (pe_ix (r := rIxL K) ix_list (pv 0) pe_int (fun _ _ => rfl)) pe_int)) pe_int) pa_nil)) pe_int))
      (pss_one (ps_ret (pe_op op_mod (pe_op op_fdiv (pv 4) pe_int) (pv 1))))))))), ?_⟩
    obtain ⟨hb, p4⟩ := id B
    walk_at "lw go"
    rename_i H1 g1 o1
    refine rd_cut (fun σ' H' => ∃ (p2 g2 s2 : Int) (v : Option V), σ' = [some (.ref b), some (.int many), v, none, none] ∧ BagIs H' b p2 g2 (n + 1) s2 cs ∧ ∀ a, a ≠ b → H' a = H a) ?_ ?_
    · walk_at "lw all"
      · rename_i hlt
        simp only [List.length_set, List.length_cons, List.length_map] at hlt
        obtain ⟨z, hz⟩ := at_cell (a := .int p) (b := .int 0) (c := .int (n + 1)) (d := .int s0) (cs := cs) p4 (by simp only [List.length_cons, List.length_map]; omega)
        refine rd_ixLr g1 hz ?_
        walk_at "lw all"
        · rename_i H2 g2 o2 hc2 H3 g3 o3
          exact ⟨_, _, _, _, rfl, ⟨g3, by omega⟩, fun a ha => (o3 a ha).trans ((o2 a ha).trans (o1 a ha))⟩
        · rename_i H2 g2 o2 hc2 H3 g3 o3
          exact ⟨_, _, _, _, rfl, ⟨g3, by omega⟩, fun a ha => (o3 a ha).trans ((o2 a ha).trans (o1 a ha))⟩
      · exact ⟨_, _, _, _, rfl, ⟨g1, p4⟩, o1⟩
      · exact ⟨_, _, _, _, rfl, ⟨g1, p4⟩, o1⟩
    rintro σ' H2 ⟨p2, g2, s2, v, rfl, B1, h1⟩
    obtain ⟨hb1, p42⟩ := id B1
    clear g1 o1
    walk_at "lw all"
    · rename_i hpos H3 g3 o3
      exact k _ _ (ex_bag B ⟨g3, p42⟩ fun a ha => (o3 a ha).trans (h1 a ha)) (Int.emod_nonneg _ (by omega)) (Int.emod_lt_of_pos _ m0)
    · rename_i hpos H3 g3 o3
      exact k _ _ (ex_bag B ⟨g3, p42⟩ fun a ha => (o3 a ha).trans (h1 a ha)) (Int.emod_nonneg _ (by omega)) (Int.emod_lt_of_pos _ m0)

theorem ok_law_same_at0 (T : Tx P w K mg) : FnOk P w K mg base CX0 1 T.f_law_same T.fd_law_same ["told", "due"] (sp_law_same_at0 K) := by
  refine T.F_law_same.ok sc_law_same (fun vs H Q E h => ?_) (fun cdv A outer s H vs Q E hr h => ?_)
  · obtain ⟨W, v, u, d, rfl, h1, h2, hf, k⟩ := h
    rfl
  · obtain ⟨W, v, u, d, rfl, h1, h2, hf, k⟩ := h
    refine ⟨_, (pss_cons (ps_if (pt_cmpR o_isN (pv 1) pe_non (nomark _))
        (pss_one (ps_ret (pe_cmpR o_isN (pv 0) pe_non (nomark _))))
        pss_nil)
      (pss_cons (ps_if (pt_val (pe_callB (r := rIsi K) call_isi (by rfl) T.n_isinstance (by decide +kernel) (pa_cons (pv 1) (pa_cons (pe_bltn (v := .ty "tuple") rfl T.n_tuple (by decide +kernel) rfl) pa_nil))))
        (pss_cons (ps_if (PW.pt (pw_or (pt_not (pt_val (pe_callB (r := rIsi K) call_isi (by rfl) T.n_isinstance (by decide +kernel) (pa_cons (pv 0) (pa_cons (pe_bltn (v := .ty "tuple") rfl T.n_tuple (by decide +kernel) rfl) pa_nil))))) (pw_or1 (pt_cmpR op_ne (pe_callB (r := Lw.rLen K) c_len (by rfl) T.n_len PySem.boot_len (pa_cons (pv 0) pa_nil)) (pe_callB (r := Lw.rLen K) c_len (by rfl) T.n_len PySem.boot_len (pa_cons (pv 1) pa_nil)) (nomark _)))))
          (pss_one (ps_ret pe_bl))
          pss_nil)
        (pss_cons (ps_for PassesOwn.never rfl (pi_range1 rfl T.n_range (pa_cons (pe_callB (r := Lw.rLen K) c_len (by rfl) T.n_len PySem.boot_len (pa_cons (pv 1) pa_nil)) pa_nil)) (pg_name (i := 2) sc_law_same.nd rfl (by first | exact Or.inl rfl | exact Or.inr rfl))
          (pss_one (ps_if (pt_not (pt_val pe_never))
            (pss_one (ps_ret pe_bl))
            pss_nil)))
        (pss_one (ps_ret pe_bl))))
        pss_nil)
      (pss_cons (ps_if (pt_val (pe_callB (r := rIsi K) call_isi (by rfl) T.n_isinstance (by decide +kernel) (pa_cons (pv 1) (pa_cons (pe_bltn (v := .ty "str") rfl T.n_str (by decide +kernel) rfl) pa_nil))))
        (pss_one (ps_ret (pe_and (pe_callB (r := rIsi K) call_isi (by rfl) T.n_isinstance (by decide +kernel) (pa_cons (pv 0) (pa_cons (pe_bltn (v := .ty "str") rfl T.n_str (by decide +kernel) rfl) pa_nil))) (pe_one (pe_cmpR op_eq (pv 0) (pv 1) (nomark _))))))
        pss_nil)
      (pss_one (ps_ret (pe_and (pe_callB (r := rIsi K) call_isi (by rfl) T.n_isinstance (by decide +kernel) (pa_cons (pv 0) (pa_cons (pe_bltn (v := .ty "int") rfl T.n_int (by decide +kernel) rfl) pa_nil))) (pe_and (pe_not (pe_callB (r := rIsi K) call_isi (by rfl) T.n_isinstance (by decide +kernel) (pa_cons (pv 0) (pa_cons (pe_bltn (v := .ty "bool") rfl T.n_bool (by decide +kernel) rfl) pa_nil)))) (pe_one (pe_cmpR op_eq (pv 0) (pv 1) (nomark _)))))))))), ?_⟩
    walk_at "lw go"
    cases d with
    | none =>
      obtain rfl := h1.nonE
      obtain rfl := h2.nonE
      refine ifD_yes rfl ?_
      walk_at "lw gi"
      exact cast_bl k (decide_eq_true rfl).symm
    | bool b => cases hf
    | list ds => cases hf
    | dict ds => cases hf
    | int i =>
      obtain rfl := h1.intE
      obtain rfl := h2.intE
      refine ifD_no (fun z => nomatch z) ?_
      repeat (first | walk_at "lw rd" | with_reducible refine iteT ?_ | with_reducible refine iteF ?_ | refine ifB_yes rfl ?_ | refine ifB_no rfl ?_ | refine ifNB_yes rfl ?_ | refine ifNB_no rfl ?_)
      exact cast_bl k (by simp)
    | str i =>
      obtain rfl := h1.strE
      obtain rfl := h2.strE
      refine ifD_no (fun z => nomatch z) ?_
      repeat (first | walk_at "lw rd" | with_reducible refine iteT ?_ | with_reducible refine iteF ?_ | refine ifB_yes rfl ?_ | refine ifB_no rfl ?_ | refine ifNB_yes rfl ?_ | refine ifNB_no rfl ?_)
      exact cast_bl k (by simp)
    | tuple ds => cases hf
theorem okq_law_same_at0 (T : Tx P w K mg) : FnQ P w K mg base CX0 1 T.f_law_same T.fd_law_same ["told", "due"] (sp_law_same_at0 K) := by
  refine Lw.Fun.okQ T.F_law_same sc_law_same (fun vs H Q E h => ?_) (fun cdv A outer s H vs Q E hr h => ?_)
  · obtain ⟨W, v, u, d, rfl, h1, h2, hf, k⟩ := h
    rfl
  · obtain ⟨W, v, u, d, rfl, h1, h2, hf, k⟩ := h
    refine ⟨_, (pss_cons (ps_if (pt_cmpR o_isN (pv 1) pe_non (nomark _))
        (pss_one (ps_ret (pe_cmpR o_isN (pv 0) pe_non (nomark _))))
        pss_nil)
      (pss_cons (ps_if (pt_val (pe_callB (r := rIsi K) call_isi (by rfl) T.n_isinstance (by decide +kernel) (pa_cons (pv 1) (pa_cons (pe_bltn (v := .ty "tuple") rfl T.n_tuple (by decide +kernel) rfl) pa_nil))))
        (pss_cons (ps_if (PW.pt (pw_or (pt_not (pt_val (pe_callB (r := rIsi K) call_isi (by rfl) T.n_isinstance (by decide +kernel) (pa_cons (pv 0) (pa_cons (pe_bltn (v := .ty "tuple") rfl T.n_tuple (by decide +kernel) rfl) pa_nil))))) (pw_or1 (pt_cmpR op_ne (pe_callB (r := Lw.rLen K) c_len (by rfl) T.n_len PySem.boot_len (pa_cons (pv 0) pa_nil)) (pe_callB (r := Lw.rLen K) c_len (by rfl) T.n_len PySem.boot_len (pa_cons (pv 1) pa_nil)) (nomark _)))))
          (pss_one (ps_ret pe_bl))
          pss_nil)
        (pss_cons ps_never
        (pss_one (ps_ret pe_bl))))
        pss_nil)
      (pss_cons (ps_if (pt_val (pe_callB (r := rIsi K) call_isi (by rfl) T.n_isinstance (by decide +kernel) (pa_cons (pv 1) (pa_cons (pe_bltn (v := .ty "str") rfl T.n_str (by decide +kernel) rfl) pa_nil))))
        (pss_one (ps_ret (pe_and (pe_callB (r := rIsi K) call_isi (by rfl) T.n_isinstance (by decide +kernel) (pa_cons (pv 0) (pa_cons (pe_bltn (v := .ty "str") rfl T.n_str (by decide +kernel) rfl) pa_nil))) (pe_one (pe_cmpR op_eq (pv 0) (pv 1) (nomark _))))))
        pss_nil)
      (pss_one (ps_ret (pe_and (pe_callB (r := rIsi K) call_isi (by rfl) T.n_isinstance (by decide +kernel) (pa_cons (pv 0) (pa_cons (pe_bltn (v := .ty "int") rfl T.n_int (by decide +kernel) rfl) pa_nil))) (pe_and (pe_not (pe_callB (r := rIsi K) call_isi (by rfl) T.n_isinstance (by decide +kernel) (pa_cons (pv 0) (pa_cons (pe_bltn (v := .ty "bool") rfl T.n_bool (by decide +kernel) rfl) pa_nil)))) (pe_one (pe_cmpR op_eq (pv 0) (pv 1) (nomark _)))))))))), ?_⟩
    walk_at "lw go"
    cases d with
    | none =>
      obtain rfl := h1.nonE
      obtain rfl := h2.nonE
      refine ifD_yes rfl ?_
      walk_at "lw gi"
      exact cast_bl k (decide_eq_true rfl).symm
    | bool b => cases hf
    | list ds => cases hf
    | dict ds => cases hf
    | int i =>
      obtain rfl := h1.intE
      obtain rfl := h2.intE
      refine ifD_no (fun z => nomatch z) ?_
      repeat (first | walk_at "lw rd" | with_reducible refine iteT ?_ | with_reducible refine iteF ?_ | refine ifB_yes rfl ?_ | refine ifB_no rfl ?_ | refine ifNB_yes rfl ?_ | refine ifNB_no rfl ?_)
      exact cast_bl k (by simp)
    | str i =>
      obtain rfl := h1.strE
      obtain rfl := h2.strE
      refine ifD_no (fun z => nomatch z) ?_
      repeat (first | walk_at "lw rd" | with_reducible refine iteT ?_ | with_reducible refine iteF ?_ | refine ifB_yes rfl ?_ | refine ifB_no rfl ?_ | refine ifNB_yes rfl ?_ | refine ifNB_no rfl ?_)
      exact cast_bl k (by simp)
    | tuple ds => cases hf

theorem ok_law_same_at1 (T : Tx P w K mg) : FnOk P w K mg base CX0 2 T.f_law_same T.fd_law_same ["told", "due"] (sp_law_same_at1 K) := by
  refine T.F_law_same.ok sc_law_same (fun vs H Q E h => ?_) (fun cdv A outer s H vs Q E hr h => ?_)
  · obtain ⟨W, v, u, d, rfl, h1, h2, hf, k⟩ := h
    rfl
  · obtain ⟨W, v, u, d, rfl, h1, h2, hf, k⟩ := h
    refine ⟨_, (pss_cons (ps_if (pt_cmpR o_isN (pv 1) pe_non (nomark _))
        (pss_one (ps_ret (pe_cmpR o_isN (pv 0) pe_non (nomark _))))
        pss_nil)
      (pss_cons (ps_if (pt_val (pe_callB (r := rIsi K) call_isi (by rfl) T.n_isinstance (by decide +kernel) (pa_cons (pv 1) (pa_cons (pe_bltn (v := .ty "tuple") rfl T.n_tuple (by decide +kernel) rfl) pa_nil))))
        (pss_cons (ps_if (PW.pt (pw_or (pt_not (pt_val (pe_callB (r := rIsi K) call_isi (by rfl) T.n_isinstance (by decide +kernel) (pa_cons (pv 0) (pa_cons (pe_bltn (v := .ty "tuple") rfl T.n_tuple (by decide +kernel) rfl) pa_nil))))) (pw_or1 (pt_cmpR op_ne (pe_callB (r := Lw.rLen K) c_len (by rfl) T.n_len PySem.boot_len (pa_cons (pv 0) pa_nil)) (pe_callB (r := Lw.rLen K) c_len (by rfl) T.n_len PySem.boot_len (pa_cons (pv 1) pa_nil)) (nomark _)))))
          (pss_one (ps_ret pe_bl))
          pss_nil)
        (pss_cons (ps_for PassesOwn.never rfl (pi_range1 rfl T.n_range (pa_cons (pe_callB (r := Lw.rLen K) c_len (by rfl) T.n_len PySem.boot_len (pa_cons (pv 1) pa_nil)) pa_nil)) (pg_name (i := 2) sc_law_same.nd rfl (by first | exact Or.inl rfl | exact Or.inr rfl))
          (pss_one (ps_if (pt_not (pt_val (pe_call (ok_law_same_at0 T) hr (by rfl) T.g_law_same T.F_law_same.kp T.b_law_same .nil pass0 (pa_cons (pe_ix (r := rIx K) ix_seq (pv 0) (pv 2) (fun _ _ => rfl)) (pa_cons (pe_ix (r := rIx K) ix_seq (pv 1) (pv 2) (fun _ _ => rfl)) pa_nil)))))
            (pss_one (ps_ret pe_bl))
            pss_nil)))
        (pss_one (ps_ret pe_bl))))
        pss_nil)
      (pss_cons (ps_if (pt_val (pe_callB (r := rIsi K) call_isi (by rfl) T.n_isinstance (by decide +kernel) (pa_cons (pv 1) (pa_cons (pe_bltn (v := .ty "str") rfl T.n_str (by decide +kernel) rfl) pa_nil))))
        (pss_one (ps_ret (pe_and (pe_callB (r := rIsi K) call_isi (by rfl) T.n_isinstance (by decide +kernel) (pa_cons (pv 0) (pa_cons (pe_bltn (v := .ty "str") rfl T.n_str (by decide +kernel) rfl) pa_nil))) (pe_one (pe_cmpR op_eq (pv 0) (pv 1) (nomark _))))))
        pss_nil)
      (pss_one (ps_ret (pe_and (pe_callB (r := rIsi K) call_isi (by rfl) T.n_isinstance (by decide +kernel) (pa_cons (pv 0) (pa_cons (pe_bltn (v := .ty "int") rfl T.n_int (by decide +kernel) rfl) pa_nil))) (pe_and (pe_not (pe_callB (r := rIsi K) call_isi (by rfl) T.n_isinstance (by decide +kernel) (pa_cons (pv 0) (pa_cons (pe_bltn (v := .ty "bool") rfl T.n_bool (by decide +kernel) rfl) pa_nil)))) (pe_one (pe_cmpR op_eq (pv 0) (pv 1) (nomark _)))))))))), ?_⟩
    walk_at "lw go"
    cases d with
    | none =>
      obtain rfl := h1.nonE
      obtain rfl := h2.nonE
      refine ifD_yes rfl ?_
      walk_at "lw gi"
      exact cast_bl k (decide_eq_true rfl).symm
    | bool b => cases hf
    | list ds => cases hf
    | dict ds => cases hf
    | int i =>
      obtain rfl := h1.intE
      obtain rfl := h2.intE
      refine ifD_no (fun z => nomatch z) ?_
      repeat (first | walk_at "lw rd" | with_reducible refine iteT ?_ | with_reducible refine iteF ?_ | refine ifB_yes rfl ?_ | refine ifB_no rfl ?_ | refine ifNB_yes rfl ?_ | refine ifNB_no rfl ?_)
      exact cast_bl k (by simp)
    | str i =>
      obtain rfl := h1.strE
      obtain rfl := h2.strE
      refine ifD_no (fun z => nomatch z) ?_
      repeat (first | walk_at "lw rd" | with_reducible refine iteT ?_ | with_reducible refine iteF ?_ | refine ifB_yes rfl ?_ | refine ifB_no rfl ?_ | refine ifNB_yes rfl ?_ | refine ifNB_no rfl ?_)
      exact cast_bl k (by simp)
    | tuple ds =>
      obtain ⟨a1, xs, rfl, t1, w1⟩ := id h1.tupE
      obtain ⟨a2, ys, rfl, t2, w2⟩ := id h2.tupE
      rw [flatD, Bool.and_eq_true] at hf
      have hl := of_decide_eq_true hf.2
      have ll : xs.length = ys.length := w1.length.trans w2.length.symm
      have ly := w2.length
      have s1 : SqB K W H a1 xs := .inr t1
      have s2 : SqB K W H a2 ys := .inr t2
      refine ifD_no (fun z => nomatch z) ?_
      repeat (first | walk_at "lw rd" | with_reducible refine iteT ?_ | with_reducible refine iteF ?_ | refine ifB_yes rfl ?_ | refine ifB_no rfl ?_ | refine ifNB_yes rfl ?_ | refine ifNB_no rfl ?_)
      rw [ll]
      refine ifIn_no rfl ?_
      walk_at "lw gi"
      refine for_r (fun i σ' H' => ∃ v3, σ' = [some (.ref a1), some (.ref a2), v3] ∧ H' = H) ⟨_, rfl, rfl⟩ ?_ ?_
      · rintro i σ' H' hi ⟨v3, rfl, rfl⟩
        have hi2 : i < ds.length := by omega
        have hd := List.getElem?_eq_getElem hi2
        obtain ⟨x, hx, dx⟩ := w1.getR hd
        obtain ⟨y, hy, dy⟩ := w2.getR hd
        have ax : atI xs (0 + (i : Int)) = some x := at_in (by omega) (by rw [show (0 + (i : Int)).toNat = i by omega]; exact hx)
        have ay : atI ys (0 + (i : Int)) = some y := at_in (by omega) (by rw [show (0 + (i : Int)).toNat = i by omega]; exact hy)
        walk_at "lw gi"
        refine cl_law_same (W := W) dx dy (List.all_eq_true.mp hf.1 _ (List.getElem_mem hi2)) ?_
        walk_at "lw gi"
        exact ⟨_, rfl, rfl⟩
      · rintro σ' H' ⟨v3, rfl, rfl⟩
        walk_at "lw gi"
        exact k

theorem ok_law_same_at2 (T : Tx P w K mg) : FnOk P w K mg base CX0 3 T.f_law_same T.fd_law_same ["told", "due"] (sp_law_same_at2 K) := by
  refine T.F_law_same.ok sc_law_same (fun vs H Q E h => ?_) (fun cdv A outer s H vs Q E hr h => ?_)
  · obtain ⟨W, v, u, d, rfl, h1, h2, hf, k⟩ := h
    rfl
  · obtain ⟨W, v, u, d, rfl, h1, h2, hf, k⟩ := h
    refine ⟨_, (pss_cons (ps_if (pt_cmpR o_isN (pv 1) pe_non (nomark _))
        (pss_one (ps_ret (pe_cmpR o_isN (pv 0) pe_non (nomark _))))
        pss_nil)
      (pss_cons (ps_if (pt_val (pe_callB (r := rIsi K) call_isi (by rfl) T.n_isinstance (by decide +kernel) (pa_cons (pv 1) (pa_cons (pe_bltn (v := .ty "tuple") rfl T.n_tuple (by decide +kernel) rfl) pa_nil))))
        (pss_cons (ps_if (PW.pt (pw_or (pt_not (pt_val (pe_callB (r := rIsi K) call_isi (by rfl) T.n_isinstance (by decide +kernel) (pa_cons (pv 0) (pa_cons (pe_bltn (v := .ty "tuple") rfl T.n_tuple (by decide +kernel) rfl) pa_nil))))) (pw_or1 (pt_cmpR op_ne (pe_callB (r := Lw.rLen K) c_len (by rfl) T.n_len PySem.boot_len (pa_cons (pv 0) pa_nil)) (pe_callB (r := Lw.rLen K) c_len (by rfl) T.n_len PySem.boot_len (pa_cons (pv 1) pa_nil)) (nomark _)))))
          (pss_one (ps_ret pe_bl))
          pss_nil)
        (pss_cons (ps_for PassesOwn.never rfl (pi_range1 rfl T.n_range (pa_cons (pe_callB (r := Lw.rLen K) c_len (by rfl) T.n_len PySem.boot_len (pa_cons (pv 1) pa_nil)) pa_nil)) (pg_name (i := 2) sc_law_same.nd rfl (by first | exact Or.inl rfl | exact Or.inr rfl))
          (pss_one (ps_if (pt_not (pt_val (pe_call (ok_law_same_at1 T) hr (by rfl) T.g_law_same T.F_law_same.kp T.b_law_same .nil pass0 (pa_cons (pe_ix (r := rIx K) ix_seq (pv 0) (pv 2) (fun _ _ => rfl)) (pa_cons (pe_ix (r := rIx K) ix_seq (pv 1) (pv 2) (fun _ _ => rfl)) pa_nil)))))
            (pss_one (ps_ret pe_bl))
            pss_nil)))
        (pss_one (ps_ret pe_bl))))
        pss_nil)
      (pss_cons (ps_if (pt_val (pe_callB (r := rIsi K) call_isi (by rfl) T.n_isinstance (by decide +kernel) (pa_cons (pv 1) (pa_cons (pe_bltn (v := .ty "str") rfl T.n_str (by decide +kernel) rfl) pa_nil))))
        (pss_one (ps_ret (pe_and (pe_callB (r := rIsi K) call_isi (by rfl) T.n_isinstance (by decide +kernel) (pa_cons (pv 0) (pa_cons (pe_bltn (v := .ty "str") rfl T.n_str (by decide +kernel) rfl) pa_nil))) (pe_one (pe_cmpR op_eq (pv 0) (pv 1) (nomark _))))))
        pss_nil)
      (pss_one (ps_ret (pe_and (pe_callB (r := rIsi K) call_isi (by rfl) T.n_isinstance (by decide +kernel) (pa_cons (pv 0) (pa_cons (pe_bltn (v := .ty "int") rfl T.n_int (by decide +kernel) rfl) pa_nil))) (pe_and (pe_not (pe_callB (r := rIsi K) call_isi (by rfl) T.n_isinstance (by decide +kernel) (pa_cons (pv 0) (pa_cons (pe_bltn (v := .ty "bool") rfl T.n_bool (by decide +kernel) rfl) pa_nil)))) (pe_one (pe_cmpR op_eq (pv 0) (pv 1) (nomark _)))))))))), ?_⟩
    walk_at "lw go"
    cases d with
    | none =>
      obtain rfl := h1.nonE
      obtain rfl := h2.nonE
      refine ifD_yes rfl ?_
      walk_at "lw gi"
      exact cast_bl k (decide_eq_true rfl).symm
    | bool b => cases hf
    | list ds => cases hf
    | dict ds => cases hf
    | int i =>
      obtain rfl := h1.intE
      obtain rfl := h2.intE
      refine ifD_no (fun z => nomatch z) ?_
      repeat (first | walk_at "lw rd" | with_reducible refine iteT ?_ | with_reducible refine iteF ?_ | refine ifB_yes rfl ?_ | refine ifB_no rfl ?_ | refine ifNB_yes rfl ?_ | refine ifNB_no rfl ?_)
      exact cast_bl k (by simp)
    | str i =>
      obtain rfl := h1.strE
      obtain rfl := h2.strE
      refine ifD_no (fun z => nomatch z) ?_
      repeat (first | walk_at "lw rd" | with_reducible refine iteT ?_ | with_reducible refine iteF ?_ | refine ifB_yes rfl ?_ | refine ifB_no rfl ?_ | refine ifNB_yes rfl ?_ | refine ifNB_no rfl ?_)
      exact cast_bl k (by simp)
    | tuple ds =>
      obtain ⟨a1, xs, rfl, t1, w1⟩ := id h1.tupE
      obtain ⟨a2, ys, rfl, t2, w2⟩ := id h2.tupE
      rw [flatD, Bool.and_eq_true] at hf
      have hl := of_decide_eq_true hf.2
      have ll : xs.length = ys.length := w1.length.trans w2.length.symm
      have ly := w2.length
      have s1 : SqB K W H a1 xs := .inr t1
      have s2 : SqB K W H a2 ys := .inr t2
      refine ifD_no (fun z => nomatch z) ?_
      repeat (first | walk_at "lw rd" | with_reducible refine iteT ?_ | with_reducible refine iteF ?_ | refine ifB_yes rfl ?_ | refine ifB_no rfl ?_ | refine ifNB_yes rfl ?_ | refine ifNB_no rfl ?_)
      rw [ll]
      refine ifIn_no rfl ?_
      walk_at "lw gi"
      refine for_r (fun i σ' H' => ∃ v3, σ' = [some (.ref a1), some (.ref a2), v3] ∧ H' = H) ⟨_, rfl, rfl⟩ ?_ ?_
      · rintro i σ' H' hi ⟨v3, rfl, rfl⟩
        have hi2 : i < ds.length := by omega
        have hd := List.getElem?_eq_getElem hi2
        obtain ⟨x, hx, dx⟩ := w1.getR hd
        obtain ⟨y, hy, dy⟩ := w2.getR hd
        have ax : atI xs (0 + (i : Int)) = some x := at_in (by omega) (by rw [show (0 + (i : Int)).toNat = i by omega]; exact hx)
        have ay : atI ys (0 + (i : Int)) = some y := at_in (by omega) (by rw [show (0 + (i : Int)).toNat = i by omega]; exact hy)
        walk_at "lw gi"
        refine cl_law_same (W := W) dx dy (List.all_eq_true.mp hf.1 _ (List.getElem_mem hi2)) ?_
        walk_at "lw gi"
        exact ⟨_, rfl, rfl⟩
      · rintro σ' H' ⟨v3, rfl, rfl⟩
        walk_at "lw gi"
        exact k

theorem ok_law_setup (T : Tx P w K mg) : FnOk P w K mg base CX0 8 T.f_law_setup T.fd_law_setup ["bag", "count"] (sp_law_setup K T.c_Setup) := by
  refine T.F_law_setup.ok sc_law_setup (fun vs H Q E h => ?_) (fun cdv A outer s H vs Q E hr h => ?_)
  · obtain ⟨b, n, rfl, hn, iv, k⟩ := h
    rfl
  · obtain ⟨b, n, rfl, hn, iv, k⟩ := h
    refine ⟨_, (pss_cons (ps_set (i := 2) sc_law_setup.nd rfl (by first | exact Or.inl rfl | exact Or.inr rfl) (pe_op op_add pe_int (pe_call (ok_law_take T) (hr.mono (by decide)) (by rfl) T.g_law_take T.F_law_take.kp T.b_law_take .nil pass0 (pa_cons (pv 0) (pa_cons pe_int pa_nil)))))
      (pss_cons (ps_setLc (i := 3) (own := [("k", 6)]) rfl sc_law_setup.nd rfl rfl (sw_true rfl rfl rfl (by decide +kernel)) (pi_range1 rfl T.n_range (pa_cons (pv 1) pa_nil)) (blkOk_by (own := [("k", 6)]) (N := N_law_setup) (sc := (defScope s_law_setup)) (by decide +kernel)) (fun _ _ _ _ _ => (pg_name (i := 6) sc_law_setup.nd rfl (by first | exact Or.inl rfl | exact Or.inr rfl))) (fun _ _ _ _ _ => pts_nil) (fun _ _ _ _ _ => (pe_call (ok_law_take T) (hr.mono (by decide)) (by rfl) T.g_law_take T.F_law_take.kp T.b_law_take .nil pass0 (pa_cons (pv 0) (pa_cons (pv 2) pa_nil)))))
      (pss_cons (ps_set (i := 4) sc_law_setup.nd rfl (by first | exact Or.inl rfl | exact Or.inr rfl) (pe_op op_add pe_int (pe_call (ok_law_take T) (hr.mono (by decide)) (by rfl) T.g_law_take T.F_law_take.kp T.b_law_take .nil pass0 (pa_cons (pv 0) (pa_cons pe_int pa_nil)))))
      (pss_cons (ps_setLc (i := 5) (own := [("k", 6)]) rfl sc_law_setup.nd rfl rfl (sw_true rfl rfl rfl (by decide +kernel)) (pi_range1 rfl T.n_range (pa_cons (pv 4) pa_nil)) (blkOk_by (own := [("k", 6)]) (N := N_law_setup) (sc := (defScope s_law_setup)) (by decide +kernel)) (fun _ _ _ _ _ => (pg_name (i := 6) sc_law_setup.nd rfl (by first | exact Or.inl rfl | exact Or.inr rfl))) (fun _ _ _ _ _ => pts_nil) (fun _ _ _ _ _ => (pe_tup (pa_cons (pv 6) (pa_cons pe_int pa_nil)))))
      (pss_one (ps_ret (pe_makeKS T.mk_Setup (ok_Setup__init T) hr (by rfl) T.gc_Setup T.kb_Setup_0 (fun σ => passAt takes0 σ) (pa_cons (pe_lc (own := [("k", 6)]) rfl sc_law_setup.nd (pi_range1 rfl T.n_range (pa_cons (pv 4) pa_nil)) (blkOk_by (own := [("k", 6)]) (N := N_law_setup) (sc := (defScope s_law_setup)) (by decide +kernel)) (fun _ _ _ _ _ => (pg_name (i := 6) sc_law_setup.nd rfl (by first | exact Or.inl rfl | exact Or.inr rfl))) (fun _ _ _ _ _ => pts_nil) (fun _ _ _ _ _ => (pe_tup pa_nil))) (pa_cons (pv 5) pa_nil)) (pk_cons (pv 2) (pk_cons (pv 3) pk_nil))))))))), ?_⟩
    walk_at "lw go"
    rename_i r1 H1 e1 l1 u1
    refine lc_w (W := WB b) (X := fun i x => x = .int (0 + (i : Nat))) (n := ((n : Nat) : Int).toNat) walk_range (fun i ys Hh => ∃ cs : List Int, ys = cs.map V.int ∧ cs.length = i ∧ ∀ c ∈ cs, 0 ≤ c ∧ c < 1 + r1) e1.iv (by omega) (fun _ _ => trivial) (fun _ _ _ _ _ q => q) ⟨[], rfl, rfl, fun _ h => nomatch h⟩ ?_ ?_
    · rintro i x D ys H' QV QN hn' rfl hD hDa e3 ⟨cs, rfl, hc, hb⟩ _ qv qn
      walk_at "lw gi"
      rename_i c H4 e4 l4 u4
      refine qv _ _ e4 ⟨cs ++ [c], by rw [List.map_append]; rfl, by rw [List.length_append, hc]; rfl, fun z hz => ?_⟩
      rcases List.mem_append.mp hz with hz | hz
      · exact hb z hz
      · rw [List.mem_singleton.mp hz]; omega
    rintro D H5 ys hD e5 h5 ⟨cs, rfl, hc, hb⟩ _
    walk_at "lw gi"
    rename_i r6 H6 e6 l6 u6
    have mid : ∀ i : Nat, noL (.tuple [.int (i : Nat), .int 1000]) = true := fun i => by rw [noL]; exact noLs_2 rfl
    refine lc_w (W := WB b) (X := fun i x => x = .int (0 + (i : Nat))) (n := (1 + r6).toNat) walk_range (fun i ys Hh => DWs K (WB b) Hh ys ((List.range i).map fun j => .tuple [.int (j : Nat), .int 1000])) e6.iv (by omega) (fun _ _ => trivial) (fun _ _ _ _ e q => q.ex e) .nil ?_ ?_
    · rintro i x P ys H' QV QN hn' rfl hP hPa e3 q _ qv qn
      walk_at "lw gi"
      rename_i t H4 f4 e4 h4
      refine qv _ _ e4 ?_
      rw [List.range_succ, List.map_append]
      rw [Int.zero_add] at h4
      exact DWs.snoc (q.ex (hide_ex e4 hPa)) (DW.hide (.tup (.inl h4) (.cons (.int _) (.cons (.int _) .nil))) (mid i) e4.iv (e4.at_ hPa))
    rintro P H7 ps hP e7 h7 q7 _
    walk_at "lw gi"
    refine rd_mkS ?_
    walk_at "lw gi"
    refine lc_w (W := WB b) (X := fun i x => x = .int (0 + (i : Nat))) (n := (1 + r6).toNat) walk_range (fun i ys Hh => DWs K (WB b) Hh ys (List.replicate i (.tuple []))) e7.iv (by omega) (fun _ _ => trivial) (fun _ _ _ _ e q => q.ex e) .nil ?_ ?_
    · rintro i x R ys H' QV QN hn' rfl hR hRa e3 q _ qv qn
      walk_at "lw gi"
      rename_i t H4 f4 e4 h4
      refine qv _ _ e4 ?_
      rw [List.replicate_succ']
      exact DWs.snoc (q.ex (hide_ex e4 hRa)) (DW.hide (.tup (.inl h4) .nil) (by rw [noL, noLs]) e4.iv (e4.at_ hRa))
    rintro R H8 rs hR e8 h8 q8 _
    walk_at "lw gi"
    refine ⟨rfl, rfl, fun x dx hx hdx ne => ?_⟩
    obtain ⟨e9, h9⟩ := new_ins (C := T.c_Setup) e8.iv hx hdx ne
    have np1 : 1 ≤ (1 + r6).toNat ∧ (1 + r6).toNat ≤ 3 := by omega
    have good : (setA (1 + r6).toNat (1 + r1) cs).fault = none := setA_fault np1 (by omega) (by omega) hb
    have ex1 : Ex (WB b) H H8 := (((e1.trans e5).trans e6).trans e7).trans e8
    refine ⟨WB b, H8, x, dx, _, _, _, _, _, _, _, _, _, _, _, setA (1 + r6).toNat (1 + r1) cs, rfl, e9, hx, h9, .lst (e9.at_ h8) (q8.ex e9), .lst (e9.at_ (e8.at_ h7)) ((q7.ex e8).ex e9), .tup (.inr T.K_e_Setup__init_rights) .nil, .non, .non, .int _, .int _, .int _, .lst (e9.at_ (e8.at_ (e7.at_ (e6.at_ h5)))) (DWs.ints _), .int _, .int _, ?_, rfl, rfl, fun f j fj => (by rw [good] at fj; cases fj), fun _ H' e' sa => ⟨rfl, ?_⟩⟩
    · intro p hp _
      rw [List.eq_of_mem_replicate (show p ∈ List.replicate (1 + r6).toNat (PyData.tuple []) from hp)]
      rfl
    · refine k x H' (ex1.trans e') ⟨_, sa, rfl, ?_, by omega⟩
      show (cs.map PyData.int).length = n
      rw [List.length_map, hc, Int.toNat_natCast]

theorem ok_law_tick (T : Tx P w K mg) : FnOk P w K mg base CX0 2 T.f_law_tick T.fd_law_tick ["bag"] (sp_law_tick) := by
  refine T.F_law_tick.ok sc_law_tick (fun vs H Q E h => ?_) (fun cdv A outer s H vs Q E hr h => ?_)
  · obtain ⟨b, rfl, iv, k⟩ := h
    rfl
  · obtain ⟨b, rfl, iv, k⟩ := h
    refine ⟨_, (pss_cons (ps_set (i := 1) sc_law_tick.nd rfl (by first | exact Or.inl rfl | exact Or.inr rfl) (pe_call (ok_law_take T) hr (by rfl) T.g_law_take T.F_law_take.kp T.b_law_take .nil pass0 (pa_cons (pv 0) (pa_cons pe_int pa_nil))))
      (pss_cons (ps_if (pt_cmpR op_lt (pv 1) pe_int (nomark _))
        (pss_one (ps_ret (pe_ix (r := rIxL K) ix_list (pe_lst (pa_cons pe_int (pa_cons (pe_op op_powW pe_int pe_int) pa_nil))) (pv 1) (fun _ _ => rfl))))
        pss_nil)
      (pss_cons (ps_if (pt_cmpR op_lt (pv 1) pe_int (nomark _))
        (pss_one (ps_ret (pe_call (ok_law_take T) hr (by rfl) T.g_law_take T.F_law_take.kp T.b_law_take .nil pass0 (pa_cons (pv 0) (pa_cons pe_int pa_nil)))))
        pss_nil)
      (pss_one (ps_ret (pe_op op_add (pe_op op_mul (pe_call (ok_law_take T) hr (by rfl) T.g_law_take T.F_law_take.kp T.b_law_take .nil pass0 (pa_cons (pv 0) (pa_cons pe_int pa_nil))) pe_int) (pe_call (ok_law_take T) hr (by rfl) T.g_law_take T.F_law_take.kp T.b_law_take .nil pass0 (pa_cons (pv 0) (pa_cons pe_int pa_nil))))))))), ?_⟩
    walk_at "lw all"
    · rename_i v hv
      rename_i H1 e1 l1 u1 z1 p5 H5 f5 e5 h5
      have hv2 : ∃ t : Int, v = .int t ∧ 0 ≤ t ∧ t ≤ 10000000000 := by
        rcases List.mem_cons.mp hv with rfl | hv
        · exact ⟨_, rfl, by decide, by decide⟩
        · rw [List.mem_singleton.mp hv]
          exact ⟨_, rfl, by decide, by decide⟩
      obtain ⟨t, rfl, t0, t1⟩ := hv2
      exact k _ _ (e1.trans e5) t0 t1
    · rename_i w1 H1 e1 l1 u1 z1 z2 r H2 e2 l2 u2
      exact k _ _ (e1.trans e2) l2 (by omega)
    · rename_i w1 H1 e1 l1 u1 z1 z2 r H2 e2 l2 u2 r3 H3 e3 l3 u3
      exact k _ _ ((e1.trans e2).trans e3) (by omega) (by omega)

theorem ok_law_pairs (T : Tx P w K mg) : FnOk P w K mg base CX0 3 T.f_law_pairs T.fd_law_pairs ["bag", "count", "size"] (sp_law_pairs K) := by
  refine T.F_law_pairs.ok sc_law_pairs (fun vs H Q E h => ?_) (fun cdv A outer s H vs Q E hr h => ?_)
  · obtain ⟨b, nl, size, rfl, hnl, hsz, iv, k⟩ := h
    rfl
  · obtain ⟨b, nl, size, rfl, hnl, hsz, iv, k⟩ := h
    refine ⟨_, (pss_cons (ps_set (i := 3) sc_law_pairs.nd rfl (by first | exact Or.inl rfl | exact Or.inr rfl) (pe_lst pa_nil))
      (pss_cons (ps_for PassesOwn.never rfl (pi_range1 rfl T.n_range (pa_cons (pv 2) pa_nil)) (pg_name (i := 4) sc_law_pairs.nd rfl (by first | exact Or.inl rfl | exact Or.inr rfl))
        (pss_one (ps_if (PW.pt (pw_and (pt_cmpR op_gt (pv 4) pe_int (nomark _)) (pw_and1 (pt_cmpR op_eq (pe_call (ok_law_take T) (hr.mono (by decide)) (by rfl) T.g_law_take T.F_law_take.kp T.b_law_take .nil pass0 (pa_cons (pv 0) (pa_cons pe_int pa_nil))) pe_int (nomark _)))))
          (pss_one (ps_expr (pe_bm PySem.F.plainAttrs_list PySem.F.slot_list_append PySem.F.type_list_append mt_append (pv 3) (pa_cons (pe_ix (r := rIxL K) ix_list (pv 3) (pe_call (ok_law_take T) (hr.mono (by decide)) (by rfl) T.g_law_take T.F_law_take.kp T.b_law_take .nil pass0 (pa_cons (pv 0) (pa_cons (pv 4) pa_nil))) (fun _ _ => rfl)) pa_nil))))
          (pss_one (ps_expr (pe_bm PySem.F.plainAttrs_list PySem.F.slot_list_append PySem.F.type_list_append mt_append (pv 3) (pa_cons (pe_call (ok_law_tick T) hr (by rfl) T.g_law_tick T.F_law_tick.kp T.b_law_tick .nil pass0 (pa_cons (pv 0) pa_nil)) pa_nil)))))))
      (pss_cons (ps_set (i := 3) sc_law_pairs.nd rfl (by first | exact Or.inl rfl | exact Or.inr rfl) (pe_callB (r := rSortedI K) cr_sortedI (by rfl) T.n_sorted (by decide +kernel) (pa_cons (pv 3) pa_nil)))
      (pss_one (ps_ret (pe_lc (own := [("tick", 5)]) rfl sc_law_pairs.nd (pi_list (pv 3)) (blkOk_by (own := [("tick", 5)]) (N := N_law_pairs) (sc := (defScope s_law_pairs)) (by decide +kernel)) (fun _ _ _ _ _ => (pg_name (i := 5) sc_law_pairs.nd rfl (by first | exact Or.inl rfl | exact Or.inr rfl))) (fun _ _ _ _ _ => pts_nil) (fun _ _ _ _ _ => (pe_tup (pa_cons (pv 5) (pa_cons (pe_call (ok_law_take T) (hr.mono (by decide)) (by rfl) T.g_law_take T.F_law_take.kp T.b_law_take .nil pass0 (pa_cons (pv 0) (pa_cons (pv 1) pa_nil))) pa_nil)))))))))), ?_⟩
    walk_at "lw go"
    rename_i q H1 f1 e1 h1
    refine for_r (fun i σ' H' => ∃ v4 v5 ns, σ' = [some (.ref b), some (.int nl), some (.int size), some (.ref q), v4, v5] ∧ Ex (WB b) H H' ∧ At (WB b) H' q (.lst (ns.map V.int)) ∧ ns.length = i ∧ ∀ t ∈ ns, 0 ≤ t ∧ t ≤ 10000000000) ⟨_, _, [], rfl, e1, h1, rfl, fun _ h => (nomatch h)⟩ ?_ ?_
    · rintro i σ' H2 hi ⟨v4, v5, ns, rfl, e2, h2, hl, hb⟩
      have add : ∀ t : Int, 0 ≤ t ∧ t ≤ 10000000000 → (ns ++ [t]).length = i + 1 ∧ ∀ z ∈ ns ++ [t], 0 ≤ z ∧ z ≤ 10000000000 := fun t ht => ⟨by rw [List.length_append, hl]; rfl, fun z hz => (List.mem_append.mp hz).elim (hb z) fun m => List.mem_singleton.mp m ▸ ht⟩
      have mm : ∀ v, v ∈ ns.map V.int → ∃ t ∈ ns, v = V.int t := fun v hv => by obtain ⟨t, ht, rfl⟩ := List.mem_map.mp hv; exact ⟨t, ht, rfl⟩
      have iv2 := e2.iv
      walk_at "lw all"
      · rename_i v hv H7 e7 h7 o7
        obtain ⟨t, ht, rfl⟩ := mm v hv
        exact ⟨_, _, ns ++ [t], rfl, e7, by rw [List.map_append]; exact h7, (add t (hb t ht)).1, (add t (hb t ht)).2⟩
      · rename_i t Ht et lt ut H7 e7 h7 o7
        exact ⟨_, _, ns ++ [t], rfl, e7, by rw [List.map_append]; exact h7, (add t ⟨lt, ut⟩).1, (add t ⟨lt, ut⟩).2⟩
      · rename_i t Ht et lt ut H7 e7 h7 o7
        exact ⟨_, _, ns ++ [t], rfl, e7, by rw [List.map_append]; exact h7, (add t ⟨lt, ut⟩).1, (add t ⟨lt, ut⟩).2⟩
    · rintro σ' H2 ⟨v4, v5, ns, rfl, e2, h2, hl, hb⟩
      walk_at "lw gi"
      refine rd_sorted e2.iv h2 fun ns' l H3 pm pw f3 e3 h3 => ?_
      have hb' : ∀ t ∈ ns', 0 ≤ t ∧ t ≤ 10000000000 := fun t ht => hb t (pm.mem_iff.mp ht)
      have hl' := pm.length_eq
      walk_at "lw gi"
      refine rd_lc1 (W := WB b) (fun x y Hh => ∃ t c : Int, x = .int t ∧ 0 ≤ c ∧ c < nl ∧ DW K (WB b) Hh y (pairD (t, c))) e3.iv h3 (by rw [List.length_map]; omega) (fun x y Ha Hb e r => by obtain ⟨t, c, r1, r2, r3, r4⟩ := r; exact ⟨t, c, r1, r2, r3, r4.ex e⟩) (fun n x D acc H' QV hx hD hDa e q => ?_) (fun C H4 ys hD e4 h4 hA => ?_)
      · obtain ⟨t, rfl⟩ : ∃ t : Int, x = .int t := by
          rw [List.getElem?_map] at hx
          cases hz : ns'[n]? with
          | none => rw [hz] at hx; cases hx
          | some t => rw [hz] at hx; exact ⟨t, (Option.some.inj hx).symm⟩
        walk_at "lw gi"
        rename_i c H5 e5 l5 u5 t5 H6 f6 e6 h6
        have e56 := e5.trans e6
        refine q _ _ e56 ⟨t, c, rfl, l5, u5, ?_⟩
        exact DW.hide (.tup (.inl h6) (.cons (.int _) (.cons (.int _) .nil))) (noL_pair _) e56.iv (e56.at_ hDa)
      walk_at "lw gi"
      obtain ⟨ps, hp1, hp2, hp3⟩ := pairs_of hA
      refine k C H4 ps ((e2.trans e3).trans e4) (.lst h4 hp1) ?_ (okFrom_of (by rw [hp2]; exact pw) fun p hp => ?_)
      · have := congrArg List.length hp2
        rw [List.length_map] at this
        omega
      · have := hb' p.1 (by rw [← hp2]; exact List.mem_map.mpr ⟨p, hp, rfl⟩)
        exact ⟨this.1, this.2, hp3 p hp⟩

theorem ok_law_refused (T : Tx P w K mg) : FnOk P w K mg base CX0 4 T.f_law_refused T.fd_law_refused ["setup", "handed", "index"] (sp_law_refused K T.c_Setup) := by
  refine T.F_law_refused.ok sc_law_refused (fun vs H Q E h => ?_) (fun cdv A outer s H vs Q E hr h => ?_)
  · obtain ⟨W, p, v, d, j, nl, rfl, iv, so, h, hf, k⟩ := h
    rfl
  · obtain ⟨W, p, v, d, j, nl, rfl, iv, so, h, hf, k⟩ := h
    refine ⟨_, (pss_cons (ps_try_as (i := 3) rfl rfl sc_law_refused.nd rfl rfl ⟨rfl, by decide, Or.inl T.gc_BadRaises⟩ takes0 (fun W pn xe tk po =>
        (pss_one (ps_expr (pe_callS (ok_check_raises T) hr (by rfl) T.g_check_raises T.F_check_raises.kp T.b_check_raises (fun σ => passAt tk σ) (pa_cons (pv 0) (pa_cons (pv 1) pa_nil))))))
        (fun a oe cls d pn hz hf =>
        (pss_cons (ps_if (PW.pt (pw_or (pt_not (pt_val (pe_callB (r := rIsX K cls d a) (c_isX hz hf) (by rfl) T.n_isinstance (by decide +kernel) (pa_cons (pv 3) (pa_cons (pe_glob (v := .ref T.c_InputError) rfl T.gc_InputError rfl) pa_nil))))) (pw_or (pt_not (pt_val (pe_callB (r := rIsX K cls d a) (c_isX hz hf) (by rfl) T.n_isinstance (by decide +kernel) (pa_cons (pv 3) (pa_cons (pe_bltn (v := .ty "ValueError") rfl T.n_ValueError (by decide +kernel) rfl) pa_nil))))) (pw_or1 (pt_val (pe_callB (r := rIsX K cls d a) (c_isX hz hf) (by rfl) T.n_isinstance (by decide +kernel) (pa_cons (pv 3) (pa_cons (pe_glob (v := .ref T.c_BadNumber) rfl T.gc_BadNumber rfl) pa_nil))))))))
          (pss_one (ps_ret pe_bl))
          pss_nil)
        (pss_one (ps_ret (pe_callQ (okq_law_same_at0 T) (RoomQ.mark (RoomQ.of (hr.mono (by decide)))) (by rfl) T.g_law_same T.F_law_same.kp T.b_law_same .nil pass0 (pa_cons (pe_xf (xfC_of T.S_BadRaises) T.S_BadRaises.noN hz hf (pv 3)) (pa_cons (pv 2) pa_nil))))))))
      (pss_one (ps_ret pe_bl))), ?_⟩
    obtain ⟨S, sa, lr, ll, l1000⟩ := so.ex
    walk_at "lw go"
    refine rd_callS ?_
    walk_at "lw go"
    refine ⟨W, p, S, v, d, rfl, iv, sa, lr, by omega, h, fun j2 fj u H1 e1 h1 => ?_, fun fn => by rw [ll, hf] at fn; cases fn⟩
    obtain rfl : j = j2 := by rw [ll, hf] at fj; exact Option.some.inj fj
    refine ⟨true, T.m_BadRaises, fun _ ea hea => ?_, fun z => nomatch z⟩
    walk_at "lw all"
    refine rd_isX (W := W) h1 rfl rfl T.I_BadRaises (fun _ r => r) T.k_BadRaises_InputError ?_
    walk_at "lw all"
    refine rd_isX (W := W) h1 rfl rfl T.I_BadRaises (fun _ r => r) T.k_BadRaises_ValueError ?_
    walk_at "lw all"
    refine rd_isX (W := W) h1 rfl rfl T.I_BadRaises (fun _ r => r) T.k_BadRaises_BadNumber ?_
    walk_at "lw all"
    refine rd_xf (W := W) rfl h1 rfl rfl ?_
    walk_at "lw all"
    refine cl_law_same (W := W) (d := .int j) (.int _) (.int _) rfl ?_
    walk_at "lw all"
    exact k _ e1

theorem ok_law_let (T : Tx P w K mg) : FnOk P w K mg base CX0 4 T.f_law_let T.fd_law_let ["setup", "pairs"] (sp_law_let K T.c_Setup) := by
  refine T.F_law_let.ok sc_law_let (fun vs H Q E h => ?_) (fun cdv A outer s H vs Q E hr h => ?_)
  · obtain ⟨W, p, a, nl, ps, rfl, iv, so, hd, ok, hl, k⟩ := h
    rfl
  · obtain ⟨W, p, a, nl, ps, rfl, iv, so, hd, ok, hl, k⟩ := h
    refine ⟨_, (pss_cons (ps_set (i := 2) sc_law_let.nd rfl (by first | exact Or.inl rfl | exact Or.inr rfl) (pe_callTy (r := Lw.rTupO K) c_tuple (by rfl) T.n_tuple (by decide +kernel) (pa_cons (pv 1) pa_nil)))
      (pss_cons (ps_for PassesOwn.never rfl (pi_list (pe_lst (pa_cons (pe_callTy (r := Lw.rListO K) c_list (by rfl) T.n_list (by decide +kernel) (pa_cons (pv 1) pa_nil)) (pa_cons (pv 2) pa_nil)))) (pg_name (i := 3) sc_law_let.nd rfl (by first | exact Or.inl rfl | exact Or.inr rfl))
        (pss_cons (ps_set (i := 4) sc_law_let.nd rfl (by first | exact Or.inl rfl | exact Or.inr rfl) (pe_callTy (r := Lw.rListO K) c_list (by rfl) T.n_list (by decide +kernel) (pa_cons (pv 3) pa_nil)))
        (pss_cons (ps_set (i := 5) sc_law_let.nd rfl (by first | exact Or.inl rfl | exact Or.inr rfl) (pe_callS (ok_check_raises T) hr (by rfl) T.g_check_raises T.F_check_raises.kp T.b_check_raises (fun σ => passAt takes0 σ) (pa_cons (pv 0) (pa_cons (pv 3) pa_nil))))
        (pss_cons (ps_if (PW.pt (pw_or (pt_not (pt_val (pe_call (ok_law_same_at2 T) hr (by rfl) T.g_law_same T.F_law_same.kp T.b_law_same .nil pass0 (pa_cons (pv 5) (pa_cons (pv 2) pa_nil))))) (pw_or1 (pt_cmpR (r := rNeD K) (op_neD hr.units) (pe_callTy (r := Lw.rListO K) c_list (by rfl) T.n_list (by decide +kernel) (pa_cons (pv 3) pa_nil)) (pv 4) (nomark _)))))
          (pss_one (ps_ret pe_bl))
          pss_nil)
        (pss_one (ps_if (pt_val (pe_callB (r := rIsi K) call_isi (by rfl) T.n_isinstance (by decide +kernel) (pa_cons (pv 3) (pa_cons (pe_bltn (v := .ty "list") rfl T.n_list (by decide +kernel) rfl) pa_nil))))
          (pss_cons (ps_expr (pe_bm PySem.F.plainAttrs_list PySem.F.slot_list_append PySem.F.type_list_append mt_append (pv 3) (pa_cons (pe_tup (pa_cons pe_int (pa_cons pe_int pa_nil))) pa_nil)))
          (pss_cons (ps_expr (pe_bm0 PySem.F.plainAttrs_list PySem.F.slot_list_reverse PySem.F.type_list_reverse mt_reverse (pv 3)))
          (pss_one (ps_if (pt_not (pt_val (pe_call (ok_law_same_at2 T) hr (by rfl) T.g_law_same T.F_law_same.kp T.b_law_same .nil pass0 (pa_cons (pv 5) (pa_cons (pv 2) pa_nil)))))
            (pss_one (ps_ret pe_bl))
            pss_nil))))
          pss_nil))))))
      (pss_one (ps_ret pe_bl)))), ?_⟩
    obtain ⟨S, sa, lr, ll, l1000⟩ := so.ex
    obtain ⟨n1, n2⟩ := ok_none ok hl
    obtain ⟨a', xs, e, ha, ws⟩ := hd.lstE
    cases e
    have lx := ws.length
    rw [List.length_map] at lx
    have sh := shaped_list (ds := ps.map pairD) fun d hd => by obtain ⟨p, _, rfl⟩ := List.mem_map.mp hd; exact can_pair p
    have fl := flat_pairs (ps := ps) (by omega)
    walk_at "lw go"
    rename_i t H1 f1 e1 h1 q H2 f2 e2 h2 m H3 f3 e3 h3
    have wt : DW K W H1 (.ref t) (.tuple (ps.map pairD)) := .tup (.inl h1) (ws.ex e1)
    have e23 := e2.trans e3
    refine for_l (a := m) (xs := [.ref q, .ref t]) (fun i σ' H' => ∃ v3 v4 v5, σ' = [some (.ref p), some (.ref a), some (.ref t), v3, v4, v5] ∧ Ex W H1 H' ∧ At W H' m (.lst [.ref q, .ref t]) ∧ (i = 0 → At W H' q (.lst xs)))
      ⟨_, _, _, rfl, e23, h3, fun _ => e3.at_ h2⟩ (fun i σ' H' _ ⟨_, _, _, _, _, h, _⟩ => h) ?_ ?_
    · rintro i x σ' H4 hx ⟨v3, v4, v5, rfl, e4, hm, hq⟩
      have e14 := e1.trans e4
      have wt4 := wt.ex e4
      match i, hx with
      | 0, hx =>
        cases hx
        have hq := hq rfl
        walk_at "lw go"
        rename_i bf H5 f5 e5 h5
        refine rd_callS ?_
        walk_at "lw go"
        refine ⟨W, p, S, _, _, rfl, e5.iv, sa.ex (e14.trans e5), lr, by omega, .lst (e5.at_ hq) (ws.ex (e14.trans e5)), fun j fj => (by rw [ll, n1] at fj; cases fj), fun _ u H6 e6 h6 => ?_⟩
        have h6 : DW K W H6 u (.tuple (ps.map pairD)) := by rw [← rows_pairs]; exact h6
        walk_at "lw go"
        refine cl_law_same (W := W) h6 ((wt4.ex e5).ex e6) fl ?_
        walk_at "lw gi"
        have hq6 := e6.at_ (e5.at_ hq)
        have h56 := e6.at_ h5
        walk_at "lw gi"
        rename_i c7 H7 f7 e7 h7
        have e67 := e6.trans e7
        have wl7 : DW K W H7 (.ref c7) (.list (ps.map pairD)) := .lst h7 (ws.ex ((e14.trans e5).trans e67))
        have wb7 : DW K W H7 (.ref bf) (.list (ps.map pairD)) := .lst (e7.at_ h56) (ws.ex ((e14.trans e5).trans e67))
        refine rd_neD2 wl7 wb7 sh.1 sh.1 ?_
        rw [sh.2]
        walk_at "lw gi"
        rename_i t8 H8 f8 e8 h8 H9 e9 h9 o9
        refine rd_bm0 ?_
        walk_at "lw gi"
        refine rd_rev e9 f2 h9 fun H10 e10 h10 o10 => ?_
        have e68 := e67.trans e8
        have hq8 := e8.at_ (e7.at_ hq6)
        have kp : ∀ z us, At W H8 z (.tup us) → At W H10 z (.tup us) := fun z us hz => o10 _ _ (hz.ne hq8 fun z => by cases z) (o9 _ _ (hz.ne hq8 fun z => by cases z) hz)
        have u10 : DW K W H10 u (.tuple (ps.map pairD)) := DW.keepT kp (by rw [noL]; exact noLs_pairs ps) ((h6.ex e7).ex e8)
        walk_at "lw gi"
        refine cl_law_same (W := W) u10 (wt.ex e10) fl ?_
        walk_at "lw gi"
        refine ⟨_, _, _, rfl, e10, ?_, fun z => absurd z (by omega)⟩
        have hm8 := e8.at_ (e7.at_ (e6.at_ (e5.at_ hm)))
        have ne : m ≠ q := (h2.ne_fresh f3).symm
        exact o10 _ _ ne (o9 _ _ ne hm8)
      | 1, hx =>
        cases hx
        have ht4 := e4.at_ h1
        walk_at "lw go"
        rename_i bf H5 f5 e5 h5
        refine rd_callS ?_
        walk_at "lw go"
        refine ⟨W, p, S, _, _, rfl, e5.iv, sa.ex (e14.trans e5), lr, by omega, wt4.ex e5, fun j fj => (by rw [ll, n2] at fj; cases fj), fun _ u H6 e6 h6 => ?_⟩
        have h6 : DW K W H6 u (.tuple (ps.map pairD)) := by rw [← rows_pairs]; exact h6
        walk_at "lw go"
        refine cl_law_same (W := W) h6 ((wt4.ex e5).ex e6) fl ?_
        walk_at "lw gi"
        have ht6 := (e4.trans (e5.trans e6)).at_ h1
        have h56 := e6.at_ h5
        walk_at "lw gi"
        rename_i c7 H7 f7 e7 h7
        have e67 := e6.trans e7
        have wl7 : DW K W H7 (.ref c7) (.list (ps.map pairD)) := .lst h7 (ws.ex ((e14.trans e5).trans e67))
        have wb7 : DW K W H7 (.ref bf) (.list (ps.map pairD)) := .lst (e7.at_ h56) (ws.ex ((e14.trans e5).trans e67))
        refine rd_neD2 wl7 wb7 sh.1 sh.1 ?_
        rw [sh.2]
        have ht7 := e7.at_ ht6
        walk_at "lw gi"
        exact ⟨_, _, _, rfl, e4.trans (e5.trans e67), (e5.trans e67).at_ hm, fun z => absurd z (by omega)⟩
      | i + 2, hx => cases hx
    · rintro σ' H4 ⟨v3, v4, v5, rfl, e4, hm, hq⟩
      walk_at "lw gi"
      exact k _ (e1.trans e4)

theorem ok_law_wrong (T : Tx P w K mg) : FnOk P w K mg base CX0 2 T.f_law_wrong T.fd_law_wrong ["bag", "count", "front"] (sp_law_wrong K) := by
  refine T.F_law_wrong.ok sc_law_wrong (fun vs H Q E h => ?_) (fun cdv A outer s H vs Q E hr h => ?_)
  · obtain ⟨b, nl, front, rfl, hnl, hf, iv, k⟩ := h
    rfl
  · obtain ⟨b, nl, front, rfl, hnl, hf, iv, k⟩ := h
    refine ⟨_, (pss_cut (ps_set (i := 3) sc_law_wrong.nd rfl (by first | exact Or.inl rfl | exact Or.inr rfl) (pe_lst (pa_cons (pe_tup (pa_cons (pv 2) (pa_cons (pv 1) pa_nil))) (pa_cons (pe_tup (pa_cons (pv 2) (pa_cons (pe_op op_add (pv 1) (pe_call (ok_law_take T) hr (by rfl) T.g_law_take T.F_law_take.kp T.b_law_take .nil pass0 (pa_cons (pv 0) (pa_cons pe_int pa_nil)))) pa_nil))) (pa_cons (pe_tup (pa_cons (pv 2) (pa_cons (pe_un un_neg pe_int) pa_nil))) (pa_cons (pe_tup (pa_cons (pv 2) (pa_cons pe_non pa_nil))) (pa_cons (pe_tup (pa_cons (pv 2) (pa_cons pe_str pa_nil))) pa_nil)))))))
      (pss_cut (ps_set (i := 3) sc_law_wrong.nd rfl (by first | exact Or.inl rfl | exact Or.inr rfl) (pe_op op_cat (pv 3) (pe_lst (pa_cons (pe_tup (pa_cons (pv 2) (pa_cons pe_bl pa_nil))) (pa_cons (pe_tup (pa_cons (pv 2) (pa_cons pe_bl pa_nil))) (pa_cons (pe_tup (pa_cons (pv 2) pa_nil)) (pa_cons (pe_tup (pa_cons (pv 2) (pa_cons pe_int (pa_cons pe_int pa_nil)))) (pa_cons pe_non (pa_cons pe_int (pa_cons (pe_tup pa_nil) (pa_cons (pe_tup (pa_cons pe_non (pa_cons pe_int pa_nil))) (pa_cons (pe_tup (pa_cons pe_str (pa_cons pe_int pa_nil))) pa_nil))))))))))))
      (pss_cut (ps_set (i := 3) sc_law_wrong.nd rfl (by first | exact Or.inl rfl | exact Or.inr rfl) (pe_op op_cat (pv 3) (pe_lst (pa_cons (pe_tup (pa_cons pe_bl (pa_cons pe_int pa_nil))) (pa_cons (pe_tup (pa_cons (pe_un un_neg pe_int) (pa_cons pe_int pa_nil))) (pa_cons (pe_tup (pa_cons (pe_op op_sub (pe_un un_neg pe_int) (pe_call (ok_law_take T) hr (by rfl) T.g_law_take T.F_law_take.kp T.b_law_take .nil pass0 (pa_cons (pv 0) (pa_cons pe_int pa_nil)))) (pa_cons pe_int pa_nil))) (pa_cons (pe_tup (pa_cons (pe_op op_add (pe_op op_powW pe_int pe_int) pe_int) (pa_cons pe_int pa_nil))) pa_nil)))))))
      (pss_cut (ps_set (i := 3) sc_law_wrong.nd rfl (by first | exact Or.inl rfl | exact Or.inr rfl) (pe_op op_cat (pv 3) (pe_lst (pa_cons (pe_tup (pa_cons (pe_op op_add (pe_op op_add (pe_op op_powW pe_int pe_int) pe_int) (pe_call (ok_law_take T) hr (by rfl) T.g_law_take T.F_law_take.kp T.b_law_take .nil pass0 (pa_cons (pv 0) (pa_cons pe_int pa_nil)))) (pa_cons pe_int pa_nil))) pa_nil))))
      (pss_cut (ps_if (pt_cmpR op_gt (pv 2) pe_int (nomark _))
        (pss_cons (ps_set (i := 4) sc_law_wrong.nd rfl (by first | exact Or.inl rfl | exact Or.inr rfl) (pe_tup (pa_cons (pe_op op_sub (pe_op op_sub (pv 2) pe_int) (pe_call (ok_law_take T) hr (by rfl) T.g_law_take T.F_law_take.kp T.b_law_take .nil pass0 (pa_cons (pv 0) (pa_cons (pe_callB (c_min2 rfl) (by rfl) T.n_min (by decide +kernel) (pa_cons (pv 2) (pa_cons pe_int pa_nil))) pa_nil)))) (pa_cons pe_int pa_nil))))
        (pss_one (ps_set (i := 3) sc_law_wrong.nd rfl (by first | exact Or.inl rfl | exact Or.inr rfl) (pe_op op_cat (pv 3) (pe_lst (pa_cons (pe_tup (pa_cons (pe_op op_sub (pv 2) pe_int) (pa_cons pe_int pa_nil))) (pa_cons (pe_tup (pa_cons (pe_op op_sub (pv 2) pe_int) (pa_cons pe_int pa_nil))) (pa_cons (pe_tup (pa_cons pe_int (pa_cons pe_int pa_nil))) (pa_cons (pv 4) pa_nil)))))))))
        pss_nil)
      (pss_one (ps_ret (pe_ix (r := rIxL K) ix_list (pv 3) (pe_call (ok_law_take T) hr (by rfl) T.g_law_take T.F_law_take.kp T.b_law_take .nil pass0 (pa_cons (pv 0) (pa_cons (pe_callB (r := Lw.rLen K) c_len (by rfl) T.n_len PySem.boot_len (pa_cons (pv 3) pa_nil)) pa_nil))) (fun _ _ => rfl))))))))), ?_⟩
    refine rd_cut (fun σ' H' => ∃ (l : Addr) (xs : List V) (DM : List PyData), σ' = [some (.ref b), some (.int nl), some (.int front), some (.ref l), none] ∧ Ex (WB b) H H' ∧ At (WB b) H' l (.lst xs) ∧ DWs K (WB b) H' xs DM ∧ (∀ d ∈ DM, BadP front nl d) ∧ 0 < xs.length ∧ xs.length ≤ 10) ?_ ?_
    · walk_at "lw go"
      rename_i t1 H1 f1 e1 h1 r2 H2 e2 l2 u2 t3 H3 f3 e3 h3 t4 H4 f4 e4 h4 t5 H5 f5 e5 h5 t6 H6 f6 e6 h6 t7 H7 f7 e7 h7
      have dws : DWs K (WB b) H7 _ ([.tuple [.int front, .int nl], .tuple [.int front, .int (nl + r2)], .tuple [.int front, .int (-1)], .tuple [.int front, .none], .tuple [.int front, .str "0"]] : List PyData) := (.cons (.tup (.inl (e7.at_ (e6.at_ (e5.at_ (e4.at_ (e3.at_ (e2.at_ h1))))))) (.cons (.int _) (.cons (.int _) .nil))) (.cons (.tup (.inl (e7.at_ (e6.at_ (e5.at_ (e4.at_ h3))))) (.cons (.int _) (.cons (.int _) .nil))) (.cons (.tup (.inl (e7.at_ (e6.at_ (e5.at_ h4)))) (.cons (.int _) (.cons (.int _) .nil))) (.cons (.tup (.inl (e7.at_ (e6.at_ h5))) (.cons (.int _) (.cons .non .nil))) (.cons (.tup (.inl (e7.at_ h6)) (.cons (.int _) (.cons (.str _) .nil))) .nil)))))
      have bad : ∀ d ∈ ([.tuple [.int front, .int nl], .tuple [.int front, .int (nl + r2)], .tuple [.int front, .int (-1)], .tuple [.int front, .none], .tuple [.int front, .str "0"]] : List PyData), BadP front nl d := by
        intro d hd
        simp only [List.mem_cons, List.not_mem_nil, or_false] at hd
        rcases hd with rfl | rfl | rfl | rfl | rfl
        all_goals walk_at "bad now"
      exact ⟨_, _, _, rfl, ((((((e1.trans e2).trans e3).trans e4).trans e5).trans e6).trans e7), h7, dws, bad, Nat.zero_lt_succ _, Nat.le_of_ble_eq_true rfl⟩
    rintro σ' H0 ⟨l, xs, DM, rfl, e0, h0, hD, hB, x0, x1⟩
    have iv0 := e0.iv
    refine rd_cut (fun σ' H' => ∃ (l : Addr) (xs : List V) (DM : List PyData), σ' = [some (.ref b), some (.int nl), some (.int front), some (.ref l), none] ∧ Ex (WB b) H H' ∧ At (WB b) H' l (.lst xs) ∧ DWs K (WB b) H' xs DM ∧ (∀ d ∈ DM, BadP front nl d) ∧ 0 < xs.length ∧ xs.length ≤ 20) ?_ ?_
    · walk_at "lw go"
      rename_i t1 H1 f1 e1 h1 t2 H2 f2 e2 h2 t3 H3 f3 e3 h3 t4 H4 f4 e4 h4 t5 H5 f5 e5 h5 t6 H6 f6 e6 h6 t7 H7 f7 e7 h7 t8 H8 f8 e8 h8 t9 H9 f9 e9 h9
      have dws : DWs K (WB b) H9 _ ([.tuple [.int front, .bool true], .tuple [.int front, .bool false], .tuple [.int front], .tuple [.int front, .int 0, .int 0], .none, .int 7, .tuple [], .tuple [.none, .int 0], .tuple [.str "0", .int 0]] : List PyData) := (.cons (.tup (.inl (e9.at_ (e8.at_ (e7.at_ (e6.at_ (e5.at_ (e4.at_ (e3.at_ (e2.at_ h1))))))))) (.cons (.int _) (.cons (.bl _) .nil))) (.cons (.tup (.inl (e9.at_ (e8.at_ (e7.at_ (e6.at_ (e5.at_ (e4.at_ (e3.at_ h2)))))))) (.cons (.int _) (.cons (.bl _) .nil))) (.cons (.tup (.inl (e9.at_ (e8.at_ (e7.at_ (e6.at_ (e5.at_ (e4.at_ h3))))))) (.cons (.int _) .nil)) (.cons (.tup (.inl (e9.at_ (e8.at_ (e7.at_ (e6.at_ (e5.at_ h4)))))) (.cons (.int _) (.cons (.int _) (.cons (.int _) .nil)))) (.cons .non (.cons (.int _) (.cons (.tup (.inl (e9.at_ (e8.at_ (e7.at_ (e6.at_ h5))))) .nil) (.cons (.tup (.inl (e9.at_ (e8.at_ (e7.at_ h6)))) (.cons .non (.cons (.int _) .nil))) (.cons (.tup (.inl (e9.at_ (e8.at_ h7))) (.cons (.str _) (.cons (.int _) .nil))) .nil)))))))))
      have bad : ∀ d ∈ ([.tuple [.int front, .bool true], .tuple [.int front, .bool false], .tuple [.int front], .tuple [.int front, .int 0, .int 0], .none, .int 7, .tuple [], .tuple [.none, .int 0], .tuple [.str "0", .int 0]] : List PyData), BadP front nl d := by
        intro d hd
        simp only [List.mem_cons, List.not_mem_nil, or_false] at hd
        rcases hd with rfl | rfl | rfl | rfl | rfl | rfl | rfl | rfl | rfl
        all_goals walk_at "bad now"
      exact ⟨_, _, _, rfl, (((((((((e0.trans e1).trans e2).trans e3).trans e4).trans e5).trans e6).trans e7).trans e8).trans e9), h9, DWs.app (hD.ex ((((((((e1.trans e2).trans e3).trans e4).trans e5).trans e6).trans e7).trans e8).trans e9)) dws, (fun d hd => (List.mem_append.mp hd).elim (hB d) (bad d)), (by rw [List.length_append]; omega), (by rw [List.length_append]; simp only [List.length_cons, List.length_nil]; omega)⟩
    clear h0 hD hB x0 x1 iv0 e0
    rintro σ' H0 ⟨l, xs, DM, rfl, e0, h0, hD, hB, x0, x1⟩
    have iv0 := e0.iv
    refine rd_cut (fun σ' H' => ∃ (l : Addr) (xs : List V) (DM : List PyData), σ' = [some (.ref b), some (.int nl), some (.int front), some (.ref l), none] ∧ Ex (WB b) H H' ∧ At (WB b) H' l (.lst xs) ∧ DWs K (WB b) H' xs DM ∧ (∀ d ∈ DM, BadP front nl d) ∧ 0 < xs.length ∧ xs.length ≤ 30) ?_ ?_
    · walk_at "lw go"
      rename_i t1 H1 f1 e1 h1 t2 H2 f2 e2 h2 r3 H3 e3 l3 u3 t4 H4 f4 e4 h4 t5 H5 f5 e5 h5 t6 H6 f6 e6 h6 t7 H7 f7 e7 h7
      have dws : DWs K (WB b) H7 _ ([.tuple [.bool true, .int 0], .tuple [.int (-1), .int 0], .tuple [.int (-1 - r3), .int 0], .tuple [.int ((10 : Int) ^ (Int.toNat 10) + 1), .int 0]] : List PyData) := (.cons (.tup (.inl (e7.at_ (e6.at_ (e5.at_ (e4.at_ (e3.at_ (e2.at_ h1))))))) (.cons (.bl _) (.cons (.int _) .nil))) (.cons (.tup (.inl (e7.at_ (e6.at_ (e5.at_ (e4.at_ (e3.at_ h2)))))) (.cons (.int _) (.cons (.int _) .nil))) (.cons (.tup (.inl (e7.at_ (e6.at_ (e5.at_ h4)))) (.cons (.int _) (.cons (.int _) .nil))) (.cons (.tup (.inl (e7.at_ (e6.at_ h5))) (.cons (.int _) (.cons (.int _) .nil))) .nil))))
      have bad : ∀ d ∈ ([.tuple [.bool true, .int 0], .tuple [.int (-1), .int 0], .tuple [.int (-1 - r3), .int 0], .tuple [.int ((10 : Int) ^ (Int.toNat 10) + 1), .int 0]] : List PyData), BadP front nl d := by
        intro d hd
        simp only [List.mem_cons, List.not_mem_nil, or_false] at hd
        rcases hd with rfl | rfl | rfl | rfl
        all_goals walk_at "bad now"
      exact ⟨_, _, _, rfl, (((((((e0.trans e1).trans e2).trans e3).trans e4).trans e5).trans e6).trans e7), h7, DWs.app (hD.ex ((((((e1.trans e2).trans e3).trans e4).trans e5).trans e6).trans e7)) dws, (fun d hd => (List.mem_append.mp hd).elim (hB d) (bad d)), (by rw [List.length_append]; omega), (by rw [List.length_append]; simp only [List.length_cons, List.length_nil]; omega)⟩
    clear h0 hD hB x0 x1 iv0 e0
    rintro σ' H0 ⟨l, xs, DM, rfl, e0, h0, hD, hB, x0, x1⟩
    have iv0 := e0.iv
    refine rd_cut (fun σ' H' => ∃ (l : Addr) (xs : List V) (DM : List PyData), σ' = [some (.ref b), some (.int nl), some (.int front), some (.ref l), none] ∧ Ex (WB b) H H' ∧ At (WB b) H' l (.lst xs) ∧ DWs K (WB b) H' xs DM ∧ (∀ d ∈ DM, BadP front nl d) ∧ 0 < xs.length ∧ xs.length ≤ 40) ?_ ?_
    · walk_at "lw go"
      rename_i r1 H1 e1 l1 u1 t2 H2 f2 e2 h2 t3 H3 f3 e3 h3 t4 H4 f4 e4 h4
      have dws : DWs K (WB b) H4 _ ([.tuple [.int ((10 : Int) ^ (Int.toNat 10) + 1 + r1), .int 0]] : List PyData) := (.cons (.tup (.inl (e4.at_ (e3.at_ h2))) (.cons (.int _) (.cons (.int _) .nil))) .nil)
      have bad : ∀ d ∈ ([.tuple [.int ((10 : Int) ^ (Int.toNat 10) + 1 + r1), .int 0]] : List PyData), BadP front nl d := by
        intro d hd
        simp only [List.mem_cons, List.not_mem_nil, or_false] at hd
        rcases hd with rfl
        all_goals walk_at "bad now"
      exact ⟨_, _, _, rfl, ((((e0.trans e1).trans e2).trans e3).trans e4), h4, DWs.app (hD.ex (((e1.trans e2).trans e3).trans e4)) dws, (fun d hd => (List.mem_append.mp hd).elim (hB d) (bad d)), (by rw [List.length_append]; omega), (by rw [List.length_append]; simp only [List.length_cons, List.length_nil]; omega)⟩
    clear h0 hD hB x0 x1 iv0 e0
    rintro σ' H0 ⟨l, xs, DM, rfl, e0, h0, hD, hB, x0, x1⟩
    have iv0 := e0.iv
    refine rd_cut (fun σ' H' => ∃ (l : Addr) (xs : List V) (DM : List PyData) (v4 : Option V), σ' = [some (.ref b), some (.int nl), some (.int front), some (.ref l), v4] ∧ Ex (WB b) H H' ∧ At (WB b) H' l (.lst xs) ∧ DWs K (WB b) H' xs DM ∧ (∀ d ∈ DM, BadP front nl d) ∧ 0 < xs.length ∧ xs.length ≤ 50) ?_ ?_
    · walk_at "lw go"
      refine ifD ?_ ?_ <;> intro hpos
      · walk_at "lw go"
        rename_i r1 H1 e1 l1 u1 t2 H2 f2 e2 h2 t3 H3 f3 e3 h3 t4 H4 f4 e4 h4 t5 H5 f5 e5 h5 t6 H6 f6 e6 h6 t7 H7 f7 e7 h7
        have dws : DWs K (WB b) H7 _ ([.tuple [.int (front - 1), .int 0], .tuple [.int (front - 1), .int 0], .tuple [.int 0, .int 0], .tuple [.int (front - 1 - r1), .int 0]] : List PyData) := (.cons (.tup (.inl (e7.at_ (e6.at_ (e5.at_ (e4.at_ h3))))) (.cons (.int _) (.cons (.int _) .nil))) (.cons (.tup (.inl (e7.at_ (e6.at_ (e5.at_ h4)))) (.cons (.int _) (.cons (.int _) .nil))) (.cons (.tup (.inl (e7.at_ (e6.at_ h5))) (.cons (.int _) (.cons (.int _) .nil))) (.cons (.tup (.inl (e7.at_ (e6.at_ (e5.at_ (e4.at_ (e3.at_ h2)))))) (.cons (.int _) (.cons (.int _) .nil))) .nil))))
        have bad : ∀ d ∈ ([.tuple [.int (front - 1), .int 0], .tuple [.int (front - 1), .int 0], .tuple [.int 0, .int 0], .tuple [.int (front - 1 - r1), .int 0]] : List PyData), BadP front nl d := by
          intro d hd
          simp only [List.mem_cons, List.not_mem_nil, or_false] at hd
          rcases hd with rfl | rfl | rfl | rfl
          all_goals walk_at "bad now"
        exact ⟨_, _, _, _, rfl, (((((((e0.trans e1).trans e2).trans e3).trans e4).trans e5).trans e6).trans e7), h7, DWs.app (hD.ex ((((((e1.trans e2).trans e3).trans e4).trans e5).trans e6).trans e7)) dws, (fun d hd => (List.mem_append.mp hd).elim (hB d) (bad d)), (by rw [List.length_append]; omega), (by rw [List.length_append]; simp only [List.length_cons, List.length_nil]; omega)⟩
      · walk_at "lw go"
        exact ⟨_, _, _, _, rfl, e0, h0, hD, hB, x0, (by omega)⟩
    clear h0 hD hB x0 x1 iv0 e0
    rintro σ' H0 ⟨l, xs, DM, v4, rfl, e0, h0, hD, hB, x0, x1⟩
    have iv0 := e0.iv
    walk_at "lw go"
    rename_i r H1 e1 l1 u1 v hv
    obtain ⟨d, hd, dw⟩ := (hD.ex e1).f2.mem hv
    obtain ⟨b1, b2, b3, b4⟩ := hB d hd
    exact k v H1 d (e0.trans e1) dw b1 b2 b3 b4

theorem ok_law_asks_wrong (T : Tx P w K mg) : FnOk P w K mg base CX0 5 T.f_law_asks_wrong T.fd_law_asks_wrong ["bag", "setup", "count", "pairs"] (sp_law_asks_wrong K T.c_Setup) := by
  refine T.F_law_asks_wrong.ok sc_law_asks_wrong (fun vs H Q E h => ?_) (fun cdv A outer s H vs Q E hr h => ?_)
  · obtain ⟨b, p, a, nl, ps, rfl, hn, iv, so, hd, ok, hl, k⟩ := h
    rfl
  · obtain ⟨b, p, a, nl, ps, rfl, hn, iv, so, hd, ok, hl, k⟩ := h
    refine ⟨_, (pss_cons (ps_set (i := 4) sc_law_asks_wrong.nd rfl (by first | exact Or.inl rfl | exact Or.inr rfl) (pe_call (ok_law_take T) (hr.mono (by decide)) (by rfl) T.g_law_take T.F_law_take.kp T.b_law_take .nil pass0 (pa_cons (pv 0) (pa_cons (pe_op op_add (pe_callB (r := Lw.rLen K) c_len (by rfl) T.n_len PySem.boot_len (pa_cons (pv 3) pa_nil)) pe_int) pa_nil))))
      (pss_cut (ps_if (pt_cmpR op_eq (pe_callB (r := Lw.rLen K) c_len (by rfl) T.n_len PySem.boot_len (pa_cons (pv 3) pa_nil)) pe_int (nomark _))
        (pss_cons (ps_set (i := 3) sc_law_asks_wrong.nd rfl (by first | exact Or.inl rfl | exact Or.inr rfl) (pe_slice (r := rSlL K) sl_list (pv 3) po_none (po_some pe_int)))
        (pss_one (ps_set (i := 4) sc_law_asks_wrong.nd rfl (by first | exact Or.inl rfl | exact Or.inr rfl) (pe_callB (c_min2 rfl) (by rfl) T.n_min (by decide +kernel) (pa_cons (pv 4) (pa_cons pe_int pa_nil))))))
        pss_nil)
      (pss_cons (ps_set (i := 5) sc_law_asks_wrong.nd rfl (by first | exact Or.inl rfl | exact Or.inr rfl) pe_int)
      (pss_cut (ps_if (pt_cmpR op_gt (pv 4) pe_int (nomark _))
        (pss_one (ps_set (i := 5) sc_law_asks_wrong.nd rfl (by first | exact Or.inl rfl | exact Or.inr rfl) (pe_ix (r := rIxT K) ix_tup (pe_ix (r := rIxL K) ix_list (pv 3) (pe_op op_sub (pv 4) pe_int) (fun _ _ => rfl)) pe_int (fun _ _ => rfl))))
        pss_nil)
      (pss_cons (ps_set (i := 6) sc_law_asks_wrong.nd rfl (by first | exact Or.inl rfl | exact Or.inr rfl) (pe_op op_cat (pe_op op_cat (pe_slice (r := rSlL K) sl_list (pv 3) po_none (po_some (pv 4))) (pe_lst (pa_cons (pe_call (ok_law_wrong T) (hr.mono (by decide)) (by rfl) T.g_law_wrong T.F_law_wrong.kp T.b_law_wrong .nil pass0 (pa_cons (pv 0) (pa_cons (pv 2) (pa_cons (pv 5) pa_nil)))) pa_nil))) (pe_slice (r := rSlL K) sl_list (pv 3) (po_some (pv 4)) po_none)))
      (pss_cut (ps_if (PW.pt (pw_and (pt_cmpR op_lt (pe_callB (r := Lw.rLen K) c_len (by rfl) T.n_len PySem.boot_len (pa_cons (pv 6) pa_nil)) pe_int (nomark _)) (pw_and1 (pt_cmpR op_eq (pe_call (ok_law_take T) (hr.mono (by decide)) (by rfl) T.g_law_take T.F_law_take.kp T.b_law_take .nil pass0 (pa_cons (pv 0) (pa_cons pe_int pa_nil))) pe_int (nomark _)))))
        (pss_one (ps_expr (pe_bm PySem.F.plainAttrs_list PySem.F.slot_list_append PySem.F.type_list_append mt_append (pv 6) (pa_cons (pe_tup (pa_cons (pe_un un_neg pe_int) (pa_cons pe_int pa_nil))) pa_nil))))
        pss_nil)
      (pss_cons (ps_set (i := 7) sc_law_asks_wrong.nd rfl (by first | exact Or.inl rfl | exact Or.inr rfl) (pe_callTy (r := Lw.rListO K) c_list (by rfl) T.n_list (by decide +kernel) (pa_cons (pv 6) pa_nil)))
      (pss_one (ps_ret (pe_and (pe_call (ok_law_refused T) hr (by rfl) T.g_law_refused T.F_law_refused.kp T.b_law_refused .nil pass0 (pa_cons (pv 1) (pa_cons (pv 7) (pa_cons (pv 4) pa_nil)))) (pe_and (pe_cmpR (r := rEqD K) (op_eqD hr.units) (pv 7) (pv 6) (nomark _)) (pe_one (pe_call (ok_law_refused T) hr (by rfl) T.g_law_refused T.F_law_refused.kp T.b_law_refused .nil pass0 (pa_cons (pv 1) (pa_cons (pe_callTy (r := Lw.rTupO K) c_tuple (by rfl) T.n_tuple (by decide +kernel) (pa_cons (pv 6) pa_nil)) (pa_cons (pv 4) pa_nil)))))))))))))))), ?_⟩
    have hnl : (0 : Int) ≤ nl ∧ (nl : Int) ≤ 4 := by omega
    obtain ⟨a', xs, e, ha, ws⟩ := hd.lstE
    cases e
    have lx := ws.length
    rw [List.length_map] at lx
    walk_at "lw go"
    rename_i r H1 e1 l1 u1
    obtain ⟨at1, rfl⟩ : ∃ n : Nat, r = n := ⟨r.toNat, by omega⟩
    refine rd_cut (fun σ' H' => ∃ (a2 : Addr) (xs2 : List V) (ps2 : List (Int × Int)) (at2 : Nat), σ' = [some (.ref b), some (.ref p), some (.int nl), some (.ref a2), some (.int at2), none, none, none] ∧ Ex (WB b) H H' ∧ At (WB b) H' a2 (.lst xs2) ∧ DWs K (WB b) H' xs2 (ps2.map pairD) ∧ OkFrom nl 0 ps2 ∧ ps2.length ≤ 199 ∧ at2 ≤ ps2.length) ?_ ?_
    · have ha1 := e1.at_ ha
      walk_at "lw go"
      refine ifI ?_ ?_ <;> intro h2
      · walk_at "lw go"
        rename_i q H2 f2 e2 h2'
        refine ⟨q, _, ps.take 199, if (199 : Int) < at1 then 199 else at1, ?_, e1.trans e2, h2', ?_, ok_takeW 199 ok, by rw [List.length_take]; omega, by rw [List.length_take]; split <;> omega⟩
        · split <;> rfl
        · rw [cut_to _ _ (by decide), List.map_take]
          exact (ws.ex (e1.trans e2)).take 199
      · walk_at "lw go"
        exact ⟨a, xs, ps, at1, rfl, e1, ha1, ws.ex e1, ok, by omega, by omega⟩
    clear ha ws lx ok hl hd
    rintro σ' H2 ⟨a2, xs2, ps2, at2, rfl, e2, h2, w2, ok2, l2, la⟩
    have lx2 := w2.length
    rw [List.length_map] at lx2
    walk_at "lw go"
    refine rd_cut (fun σ' H' => ∃ fr : Int, σ' = [some (.ref b), some (.ref p), some (.int nl), some (.ref a2), some (.int at2), some (.int fr), none, none] ∧ H' = H2 ∧ ((ps2.take at2).map Prod.fst).getLastD 0 = fr ∧ 0 ≤ fr ∧ fr ≤ 10000000000) ?_ ?_
    · walk_at "lw go"
      refine ifD ?_ ?_ <;> intro hp
      · obtain ⟨n, rfl⟩ : ∃ n, at2 = n + 1 := ⟨at2 - 1, by omega⟩
        have hpi := List.getElem?_eq_getElem (show n < ps2.length by omega)
        generalize ps2[n] = pr at hpi
        obtain ⟨v, hv, dv⟩ := w2.getR (show (ps2.map pairD)[n]? = some (pairD pr) by rw [List.getElem?_map, hpi]; rfl)
        obtain ⟨ta, us, rfl, tu, wu⟩ := dv.tupE
        obtain ⟨w1, w3, rfl⟩ := two_of wu.length
        obtain ⟨_, _, eq, hw1, hw2⟩ := wu.two
        cases eq
        obtain rfl := hw1.intE
        have ax : atI xs2 (((n + 1 : Nat) : Int) - 1) = some (.ref ta) := at_in (by omega) (by rw [show (((n + 1 : Nat) : Int) - 1).toNat = n by omega]; exact hv)
        walk_at "lw gi"
        refine rd_ixTB tu at_0 ?_
        walk_at "lw gi"
        have bd := ok_mem ok2 (Int.le_refl _) pr (List.mem_of_getElem? hpi)
        exact ⟨_, rfl, rfl, front_of hpi, bd.1, bd.2⟩
      · walk_at "lw gi"
        obtain rfl : at2 = 0 := by omega
        exact ⟨_, rfl, rfl, rfl, Int.le_refl _, by decide⟩
    rintro σ' H2' ⟨fr, rfl, rfl, hfr, f0, f1⟩
    have iv2 := e2.iv
    walk_at "lw go"
    rename_i s3 H3 f3 e3 h3
    refine ⟨b, nl, fr, rfl, hnl, ⟨f0, f1⟩, e3.iv, fun v H4 d e4 dv b1 b2 b3 b4 => ?_⟩
    have h24 := e4.at_ (e3.at_ h2)
    have h34 := e4.at_ h3
    have hc3 : (cutV xs2 none (some (at2 : Int))).length ≤ 199 := Nat.le_trans (cut_len _ _ _) (by omega)
    have hc4 : (cutV xs2 (some (at2 : Int)) none).length ≤ 199 := Nat.le_trans (cut_len _ _ _) (by omega)
    walk_at "lw go"
    rename_i s5 H5 f5 e5 h5 s6 H6 f6 e6 h6 s7 H7 f7 e7 h7 m H8 f8 e8 h8
    have e27 := ((((e2.trans e3).trans e4).trans e5).trans e6).trans e7
    have e28 := e27.trans e8
    have w8 := w2.ex (((((e3.trans e4).trans e5).trans e6).trans e7).trans e8)
    have dv8 := dv.ex (((e5.trans e6).trans e7).trans e8)
    have pre : ((ps2.take at2).map pairD ++ [d]) ++ (ps2.drop at2).map pairD = (ps2.take at2).map pairD ++ d :: (ps2.drop at2).map pairD := by rw [List.append_assoc]; rfl
    have wm : DWs K (WB b) H8 ((cutV xs2 none (some (at2 : Int)) ++ [v]) ++ cutV xs2 (some (at2 : Int)) none) ((ps2.take at2).map pairD ++ d :: (ps2.drop at2).map pairD) := by
      rw [← pre, cut_to _ _ (by omega), cut_from _ _ (by omega), Int.toNat_natCast, List.map_take, List.map_drop]
      exact DWs.app (DWs.app (w8.take at2) (.cons dv8 .nil)) (w8.drop at2)
    have lm := wm.length
    have lq : ((ps2.take at2).map pairD ++ d :: (ps2.drop at2).map pairD).length ≤ 200 := by
      rw [List.length_append, List.length_cons, List.length_map, List.length_map, List.length_take, List.length_drop]
      omega
    have cz : ∀ x ∈ (ps2.drop at2).map pairD, PyData.canLay0 x = true ∧ PyData.depth x ≤ 2 := fun x hx => by obtain ⟨q, _, rfl⟩ := List.mem_map.mp hx; exact can_pair q
    refine rd_cut (fun σ' H' => ∃ mxs rest, σ' = [some (.ref b), some (.ref p), some (.int nl), some (.ref a2), some (.int at2), some (.int fr), some (.ref m), none] ∧ Ex (WB b) H H' ∧ At (WB b) H' m (.lst mxs) ∧ DWs K (WB b) H' mxs ((ps2.take at2).map pairD ++ d :: rest) ∧ (∀ x ∈ rest, PyData.canLay0 x = true ∧ PyData.depth x ≤ 2) ∧ ((ps2.take at2).map pairD ++ d :: rest).length ≤ 200) ?_ ?_
    · have stay : ∀ H9, Ex (WB b) H8 H9 → ∃ mxs rest, Ex (WB b) H H9 ∧ At (WB b) H9 m (.lst mxs) ∧ DWs K (WB b) H9 mxs ((ps2.take at2).map pairD ++ d :: rest) ∧ (∀ x ∈ rest, PyData.canLay0 x = true ∧ PyData.depth x ≤ 2) ∧ ((ps2.take at2).map pairD ++ d :: rest).length ≤ 200 :=
        fun H9 e9 => ⟨_, _, e28.trans e9, e9.at_ h8, wm.ex e9, cz, lq⟩
      walk_at "lw go"
      refine ifD ?_ ?_ <;> intro hlt
      · walk_at "lw go"
        refine ifI ?_ ?_ <;> intro hz
        · walk_at "lw go"
          rename_i r9 H9 e9 l9 u9 t10 H10 f10 e10 h10 H11 e11 h11 o11
          have e910 := e9.trans e10
          have hm10 := e910.at_ h8
          have kp : ∀ z us, At (WB b) H10 z (.tup us) → At (WB b) H11 z (.tup us) := fun z us hz => o11 _ _ (hz.ne hm10 fun z => by cases z) hz
          have nl1 : noLs ((ps2.take at2).map pairD ++ d :: (ps2.drop at2).map pairD) = true := noLs_all fun x hx => by
            rcases List.mem_append.mp hx with hx | hx
            · obtain ⟨q, _, rfl⟩ := List.mem_map.mp hx; exact noL_pair q
            · rcases List.mem_cons.mp hx with rfl | hx
              · exact b1
              · obtain ⟨q, _, rfl⟩ := List.mem_map.mp hx; exact noL_pair q
          have w11 := DWs.keepT kp nl1 (wm.ex e910)
          refine ⟨_, (ps2.drop at2).map pairD ++ [pairD (-1, 0)], rfl, e27.trans e11, h11, ?_, fun x hx => ?_, ?_⟩
          · rw [← List.cons_append, ← List.append_assoc]
            exact w11.snoc (.tup (.inl (kp _ _ h10)) (.cons (.int _) (.cons (.int _) .nil)))
          · rcases List.mem_append.mp hx with hx | hx
            · exact cz x hx
            · rw [List.mem_singleton.mp hx]; exact can_pair _
          · rw [← List.cons_append, ← List.append_assoc, List.length_append]
            rw [lm] at hlt
            simp only [List.length_cons, List.length_nil]
            omega
        · walk_at "lw go"
          rename_i r9 H9 e9 l9 u9
          obtain ⟨x1, x2, x3⟩ := stay _ e9
          exact ⟨x1, x2, rfl, x3⟩
      · walk_at "lw go"
        obtain ⟨x1, x2, x3⟩ := stay _ (Ex.refl e8.iv)
        exact ⟨x1, x2, rfl, x3⟩
    clear h2 w2 h24 h34 h3 h5 h6 h7 h8 wm w8 dv8 lm lq
    rintro σ' H9 ⟨mxs, rest, rfl, e9, h9, w9, cr, lr⟩
    have iv9 := e9.iv
    have okt := ok_takeW at2 ok2
    have lt : (ps2.take at2).length = at2 := by rw [List.length_take]; omega
    obtain ⟨g1, g2⟩ := wrong_fault okt (by rw [hfr]; exact b4) lr
    rw [lt] at g1 g2
    have sh := shaped_list (ds := (ps2.take at2).map pairD ++ d :: rest) fun x hx => by
      rcases List.mem_append.mp hx with hx | hx
      · obtain ⟨q, _, rfl⟩ := List.mem_map.mp hx; exact can_pair q
      · rcases List.mem_cons.mp hx with rfl | hx
        · exact ⟨b2, b3⟩
        · exact cr x hx
    walk_at "lw go"
    rename_i l10 H10 f10 e10 h10
    refine ⟨WB b, p, _, _, at2, nl, rfl, e10.iv, so.mono (e9.trans e10), .lst h10 (w9.ex e10), g1, fun H11 e11 => ?_⟩
    have h11 := e11.at_ h10
    have m11 := e11.at_ (e10.at_ h9)
    have e1011 := e10.trans e11
    walk_at "lw gi"
    refine rd_eqD2 (W := WB b) (.lst h11 (w9.ex e1011)) (.lst m11 (w9.ex e1011)) sh.1 sh.1 ?_
    rw [sh.2]
    walk_at "lw gi"
    rename_i t12 H12 f12 e12 h12
    exact ⟨WB b, p, _, _, at2, nl, rfl, e12.iv, so.mono ((e9.trans e1011).trans e12), .tup (.inl h12) (w9.ex (e1011.trans e12)), g2, fun H13 e13 => k H13 (((e9.trans e1011).trans e12).trans e13)⟩

theorem ok_law_asks_many (T : Tx P w K mg) : FnOk P w K mg base CX0 5 T.f_law_asks_many T.fd_law_asks_many ["bag", "setup", "count"] (sp_law_asks_many K T.c_Setup) := by
  refine T.F_law_asks_many.ok sc_law_asks_many (fun vs H Q E h => ?_) (fun cdv A outer s H vs Q E hr h => ?_)
  · obtain ⟨b, p, nl, rfl, n0, n4, iv, so, k⟩ := h
    rfl
  · obtain ⟨b, p, nl, rfl, n0, n4, iv, so, k⟩ := h
    refine ⟨_, (pss_cons (ps_set (i := 3) sc_law_asks_many.nd rfl (by first | exact Or.inl rfl | exact Or.inr rfl) (pe_call (ok_law_tick T) (hr.mono (by decide)) (by rfl) T.g_law_tick T.F_law_tick.kp T.b_law_tick .nil pass0 (pa_cons (pv 0) pa_nil)))
      (pss_cons (ps_set (i := 4) sc_law_asks_many.nd rfl (by first | exact Or.inl rfl | exact Or.inr rfl) (pe_tup (pa_cons (pv 3) (pa_cons (pe_call (ok_law_take T) (hr.mono (by decide)) (by rfl) T.g_law_take T.F_law_take.kp T.b_law_take .nil pass0 (pa_cons (pv 0) (pa_cons (pv 2) pa_nil))) pa_nil))))
      (pss_one (ps_ret (pe_and (pe_call (ok_law_let T) hr (by rfl) T.g_law_let T.F_law_let.kp T.b_law_let .nil pass0 (pa_cons (pv 1) (pa_cons (pe_op op_rep (pe_lst (pa_cons (pv 4) pa_nil)) pe_int) pa_nil))) (pe_one (pe_call (ok_law_refused T) hr (by rfl) T.g_law_refused T.F_law_refused.kp T.b_law_refused .nil pass0 (pa_cons (pv 1) (pa_cons (pe_op op_rep (pe_lst (pa_cons (pv 4) pa_nil)) pe_int) (pa_cons (pe_un un_neg pe_int) pa_nil)))))))))), ?_⟩
    have hnl : (0 : Int) < nl ∧ (nl : Int) ≤ 4 := by omega
    walk_at "lw go"
    rename_i t H1 e1 l1 u1 c H2 e2 l2 u2 q H3 f3 e3 h3 s4 H4 f4 e4 h4 s5 H5 f5 e5 h5
    have e15 := (((e1.trans e2).trans e3).trans e4).trans e5
    have ok : OkFrom nl 0 (List.replicate 200 (t, c)) := okFrom_of (by
      rw [List.map_replicate]
      exact List.pairwise_replicate.mpr (.inr (Int.le_refl _))) fun p hp => by
        rw [List.eq_of_mem_replicate hp]
        exact ⟨l1, u1, l2, u2⟩
    have dq : DW K (WB b) H5 (.ref q) (pairD (t, c)) := .tup (.inl (e5.at_ (e4.at_ h3))) (.cons (.int _) (.cons (.int _) .nil))
    refine ⟨WB b, p, s5, nl, List.replicate 200 (t, c), rfl, e5.iv, so.mono e15, .lst h5 ?_, ok, by rw [List.length_replicate]; decide, fun H6 e6 => ?_⟩
    · rw [List.map_replicate]
      exact rep_dw dq 200
    have h36 := e6.at_ (e5.at_ (e4.at_ h3))
    walk_at "lw gi"
    rename_i s7 H7 f7 e7 h7 s8 H8 f8 e8 h8
    have e68 := (e6.trans e7).trans e8
    refine ⟨WB b, p, _, .list (List.replicate 201 (pairD (t, c))), -1, nl, rfl, e8.iv, so.mono (e15.trans e68), .lst h8 (rep_dw (dq.ex e68) 201), ?_, fun H9 e9 => k H9 ((e15.trans e68).trans e9)⟩
    unfold raisesF
    rw [if_pos (badLen_T fun z => absurd (show (List.replicate 201 (pairD (t, c))).length ≤ 200 from z.2) (by rw [List.length_replicate]; decide))]

theorem ok_law_asks_other (T : Tx P w K mg) : FnOk P w K mg base CX0 9 T.f_law_asks_other T.fd_law_asks_other ["bag", "count", "pairs"] (sp_law_asks_other K T.c_Setup) := by
  refine T.F_law_asks_other.ok sc_law_asks_other (fun vs H Q E h => ?_) (fun cdv A outer s H vs Q E hr h => ?_)
  · obtain ⟨b, a, nl, ps, rfl, n0, n4, iv, hd, ok, hl, k⟩ := h
    rfl
  · obtain ⟨b, a, nl, ps, rfl, n0, n4, iv, hd, ok, hl, k⟩ := h
    refine ⟨_, (pss_cons (ps_set (i := 3) sc_law_asks_other.nd rfl (by first | exact Or.inl rfl | exact Or.inr rfl) (pe_call (ok_law_take T) (hr.mono (by decide)) (by rfl) T.g_law_take T.F_law_take.kp T.b_law_take .nil pass0 (pa_cons (pv 0) (pa_cons (pv 1) pa_nil))))
      (pss_cons (ps_set (i := 4) sc_law_asks_other.nd rfl (by first | exact Or.inl rfl | exact Or.inr rfl) (pe_call (ok_law_setup T) hr (by rfl) T.g_law_setup T.F_law_setup.kp T.b_law_setup .nil pass0 (pa_cons (pv 0) (pa_cons (pv 3) pa_nil))))
      (pss_cons (ps_setLc (i := 5) (own := [("k", 6)]) rfl sc_law_asks_other.nd rfl rfl (sw_true rfl rfl rfl (by decide +kernel)) (pi_range1 rfl T.n_range (pa_cons (pe_callB (r := Lw.rLen K) c_len (by rfl) T.n_len PySem.boot_len (pa_cons (pv 2) pa_nil)) pa_nil)) (blkOk_by (own := [("k", 6)]) (N := N_law_asks_other) (sc := (defScope s_law_asks_other)) (by decide +kernel)) (fun _ _ _ _ _ => (pg_name (i := 6) sc_law_asks_other.nd rfl (by first | exact Or.inl rfl | exact Or.inr rfl))) (fun _ _ _ _ _ => (pts_one (pt_cmpR op_ge (pe_ix (r := rIxT K) ix_tup (pe_ix (r := rIxL K) ix_list (pv 2) (pv 6) (fun _ _ => rfl)) pe_int (fun _ _ => rfl)) (pv 3) (nomark _)))) (fun _ _ _ _ _ => (pv 6)))
      (pss_cons (ps_if (pt_cmpR op_eq (pe_callB (r := Lw.rLen K) c_len (by rfl) T.n_len PySem.boot_len (pa_cons (pv 5) pa_nil)) pe_int (nomark _))
        (pss_one (ps_ret (pe_call (ok_law_let T) (hr.mono (by decide)) (by rfl) T.g_law_let T.F_law_let.kp T.b_law_let .nil pass0 (pa_cons (pv 4) (pa_cons (pv 2) pa_nil)))))
        pss_nil)
      (pss_one (ps_ret (pe_and (pe_call (ok_law_refused T) (hr.mono (by decide)) (by rfl) T.g_law_refused T.F_law_refused.kp T.b_law_refused .nil pass0 (pa_cons (pv 4) (pa_cons (pe_callTy (r := Lw.rListO K) c_list (by rfl) T.n_list (by decide +kernel) (pa_cons (pv 2) pa_nil)) (pa_cons (pe_ix (r := rIxL K) ix_list (pv 5) pe_int (fun _ _ => rfl)) pa_nil)))) (pe_one (pe_call (ok_law_let T) (hr.mono (by decide)) (by rfl) T.g_law_let T.F_law_let.kp T.b_law_let .nil pass0 (pa_cons (pv 4) (pa_cons (pe_slice (r := rSlL K) sl_list (pv 2) po_none (po_some (pe_ix (r := rIxL K) ix_list (pv 5) pe_int (fun _ _ => rfl)))) pa_nil))))))))))), ?_⟩
    have hnl : (0 : Int) < nl ∧ (nl : Int) ≤ 4 := by omega
    obtain ⟨a', xs, e, ha, ws⟩ := hd.lstE
    cases e
    have lx := ws.length
    rw [List.length_map] at lx
    walk_at "lw go"
    rename_i r H1 e1 l1 u1
    obtain ⟨fw, rfl⟩ : ∃ fw : Nat, r = fw := ⟨r.toNat, by omega⟩
    refine ⟨b, fw, rfl, by omega, e1.iv, fun p H2 e2 so => ?_⟩
    have e12 := e1.trans e2
    have ha2 := e12.at_ ha
    walk_at "lw go"
    refine lc_w (W := WB b) (X := fun i x => x = .int (0 + (i : Nat))) (n := (xs.length : Int).toNat) walk_range (fun i ys Hh => ys = ((List.range i).filter fun j => lateP fw ps j).map fun j : Nat => V.int j) e12.iv (by omega) (fun _ _ => trivial) (fun _ _ _ _ _ q => q) rfl ?_ ?_
    · rintro i x D ys H' QV QN hi rfl hD hDa e4 q _ qv qn
      have hip : i < ps.length := by omega
      have hpi := List.getElem?_eq_getElem hip
      generalize ps[i] = pr at hpi
      obtain ⟨v, hv, dv⟩ := ws.getR (show (ps.map pairD)[i]? = some (pairD pr) by rw [List.getElem?_map, hpi]; rfl)
      obtain ⟨ta, us, rfl, tu, wu⟩ := (dv.ex (e12.trans e4)).tupE
      obtain ⟨w1, w2, rfl⟩ := two_of wu.length
      obtain ⟨_, _, eq, hw1, hw2⟩ := wu.two
      cases eq
      obtain rfl := hw1.intE
      obtain rfl := hw2.intE
      have ax : atI xs (0 + (i : Int)) = some (.ref ta) := at_in (by omega) (by rw [show (0 + (i : Int)).toNat = i by omega]; exact hv)
      walk_at "lw gi"
      refine rd_ixTB tu at_l1 ?_
      walk_at "lw gi"
      refine ifD ?_ ?_ <;> intro hlt
      · walk_at "lw gi"
        refine qv _ _ (Ex.refl e4.iv) ?_
        rw [List.range_succ, List.filter_append, List.map_append, q, List.filter_cons_of_pos (lateP_T hpi hlt), Int.zero_add]
        rfl
      · refine qn _ (Ex.refl e4.iv) ?_
        rw [List.range_succ, List.filter_append, q, List.filter_cons_of_neg (by rw [lateP_F hpi hlt]; decide), List.filter_nil, List.append_nil]
    rintro D H5 ys hD e5 h5 q _
    rw [Int.toNat_natCast, lx] at q
    have e15 := e12.trans e5
    have so5 := so.mono e5
    walk_at "lw gi"
    refine ifI ?_ ?_ <;> intro hz
    · walk_at "lw gi"
      have none_late : (List.range ps.length).filter (fun j => lateP fw ps j) = [] := by
        rw [q, List.length_map] at hz
        exact List.length_eq_zero_iff.mp (by omega)
      exact ⟨WB b, p, a, fw, ps, rfl, e15.iv, so5, hd.ex e15, ok_fewer ok none_late, hl, fun H' e' => k H' (e15.trans e')⟩
    · obtain ⟨j, js, hj⟩ : ∃ j js, (List.range ps.length).filter (fun j => lateP fw ps j) = j :: js := by
        cases hc : (List.range ps.length).filter (fun j => lateP fw ps j) with
        | nil => rw [hc] at q; subst q; exact absurd rfl hz
        | cons j js => exact ⟨j, js, rfl⟩
      rw [hj] at q
      subst q
      have h5' : At (WB b) H5 D (.lst (V.int j :: js.map fun j : Nat => V.int j)) := h5
      have a0 : atI (V.int j :: js.map fun j : Nat => V.int j) 0 = some (V.int j) := at_0
      have ha5 := e5.at_ ha2
      walk_at "lw gi"
      rename_i l6 H6 f6 e6 h6
      have e16 := e15.trans e6
      have jj : (List.range' 0 ps.length).filter (fun j => lateP fw ps j) = j :: js := by rw [← List.range_eq_range']; exact hj
      obtain ⟨j0, j1, j2, j3⟩ := late_first jj
      obtain ⟨lf, lo⟩ := late_fault ok hl (by omega) j2 (fun i hi => j3 i (Nat.zero_le _) hi)
      refine ⟨WB b, p, _, .list (ps.map pairD), j, fw, rfl, e6.iv, so5.mono e6, .lst h6 (ws.ex e16), lf, fun H7 e7 => ?_⟩
      have h57 := e7.at_ (e6.at_ h5')
      have ha7 := e7.at_ (e6.at_ ha5)
      walk_at "lw gi"
      rename_i l8 H8 f8 e8 h8
      have e18 := (e16.trans e7).trans e8
      refine ⟨WB b, p, l8, fw, ps.take j, rfl, e8.iv, ((so5.mono e6).mono e7).mono e8, .lst h8 ?_, lo, by rw [List.length_take]; omega, fun H9 e9 => k H9 (e18.trans e9)⟩
      rw [cut_to _ _ (by omega), Int.toNat_natCast, List.map_take]
      exact (ws.ex e18).take j

theorem ok_law_at (T : Tx P w K mg) {f : Addr} {fd : FuncData} (F : Fun K "law" "law" s_law f fd) : FnOk P w K mg base CX0 10 f fd ["script"] (spLaw K) := by
  refine F.ok sc_law (fun vs H Q E h => ?_) (fun cdv A outer s H vs Q E hr h => ?_)
  · obtain ⟨a, ns, rfl, ha, hn, k⟩ := h
    rfl
  · obtain ⟨a, ns, rfl, ha, hn, k⟩ := h
    refine ⟨_, (pss_cons (ps_set (i := 1) sc_law.nd rfl (by first | exact Or.inl rfl | exact Or.inr rfl) (pe_call (ok_law_bag T) (hr.mono (by decide)) (by rfl) T.g_law_bag T.F_law_bag.kp T.b_law_bag .nil pass0 (pa_cons (pv 0) pa_nil)))
      (pss_cons (ps_set (i := 2) sc_law.nd rfl (by first | exact Or.inl rfl | exact Or.inr rfl) (pe_op op_add pe_int (pe_call (ok_law_take T) (hr.mono (by decide)) (by rfl) T.g_law_take T.F_law_take.kp T.b_law_take .nil pass0 (pa_cons (pv 1) (pa_cons pe_int pa_nil)))))
      (pss_cut (ps_if (pt_cmpR op_eq (pe_call (ok_law_take T) (hr.mono (by decide)) (by rfl) T.g_law_take T.F_law_take.kp T.b_law_take .nil pass0 (pa_cons (pv 1) (pa_cons pe_int pa_nil))) pe_int (nomark _))
        (pss_one (ps_set (i := 2) sc_law.nd rfl (by first | exact Or.inl rfl | exact Or.inr rfl) pe_int))
        pss_nil)
      (pss_cons (ps_set (i := 3) sc_law.nd rfl (by first | exact Or.inl rfl | exact Or.inr rfl) (pe_call (ok_law_setup T) (hr.mono (by decide)) (by rfl) T.g_law_setup T.F_law_setup.kp T.b_law_setup .nil pass0 (pa_cons (pv 1) (pa_cons (pv 2) pa_nil))))
      (pss_cons (ps_set (i := 4) sc_law.nd rfl (by first | exact Or.inl rfl | exact Or.inr rfl) (pe_call (ok_law_take T) (hr.mono (by decide)) (by rfl) T.g_law_take T.F_law_take.kp T.b_law_take .nil pass0 (pa_cons (pv 1) (pa_cons pe_int pa_nil))))
      (pss_cut (ps_if (pt_cmpR op_eq (pe_call (ok_law_take T) (hr.mono (by decide)) (by rfl) T.g_law_take T.F_law_take.kp T.b_law_take .nil pass0 (pa_cons (pv 1) (pa_cons pe_int pa_nil))) pe_int (nomark _))
        (pss_one (ps_set (i := 4) sc_law.nd rfl (by first | exact Or.inl rfl | exact Or.inr rfl) (pe_op op_add pe_int (pe_call (ok_law_take T) (hr.mono (by decide)) (by rfl) T.g_law_take T.F_law_take.kp T.b_law_take .nil pass0 (pa_cons (pv 1) (pa_cons pe_int pa_nil))))))
        pss_nil)
      (pss_cons (ps_set (i := 5) sc_law.nd rfl (by first | exact Or.inl rfl | exact Or.inr rfl) (pe_lst pa_nil))
      (pss_cut (ps_if (pt_cmpR op_gt (pv 2) pe_int (nomark _))
        (pss_one (ps_set (i := 5) sc_law.nd rfl (by first | exact Or.inl rfl | exact Or.inr rfl) (pe_call (ok_law_pairs T) (hr.mono (by decide)) (by rfl) T.g_law_pairs T.F_law_pairs.kp T.b_law_pairs .nil pass0 (pa_cons (pv 1) (pa_cons (pv 2) (pa_cons (pv 4) pa_nil))))))
        pss_nil)
      (pss_cons (ps_if (PW.pt (pw_or (pt_not (pt_val (pe_call (ok_law_let T) (hr.mono (by decide)) (by rfl) T.g_law_let T.F_law_let.kp T.b_law_let .nil pass0 (pa_cons (pv 3) (pa_cons (pv 5) pa_nil))))) (pw_or1 (pt_not (pt_val (pe_call (ok_law_let T) (hr.mono (by decide)) (by rfl) T.g_law_let T.F_law_let.kp T.b_law_let .nil pass0 (pa_cons (pv 3) (pa_cons (pe_lst pa_nil) pa_nil))))))))
        (pss_one (ps_ret pe_bl))
        pss_nil)
      (pss_cons (ps_if (PW.pt (pw_or (pt_not (pt_val (pe_call (ok_law_refused T) (hr.mono (by decide)) (by rfl) T.g_law_refused T.F_law_refused.kp T.b_law_refused .nil pass0 (pa_cons (pv 3) (pa_cons pe_non (pa_cons (pe_un un_neg pe_int) pa_nil)))))) (pw_or1 (pt_not (pt_val (pe_call (ok_law_refused T) (hr.mono (by decide)) (by rfl) T.g_law_refused T.F_law_refused.kp T.b_law_refused .nil pass0 (pa_cons (pv 3) (pa_cons pe_int (pa_cons (pe_un un_neg pe_int) pa_nil)))))))))
        (pss_one (ps_ret pe_bl))
        pss_nil)
      (pss_cons (ps_for PassesOwn.never rfl (pi_range1 rfl T.n_range (pa_cons pe_int pa_nil)) (pg_name (i := 6) sc_law.nd rfl (by first | exact Or.inl rfl | exact Or.inr rfl))
        (pss_one (ps_if (pt_not (pt_val (pe_call (ok_law_asks_wrong T) (hr.mono (by decide)) (by rfl) T.g_law_asks_wrong T.F_law_asks_wrong.kp T.b_law_asks_wrong .nil pass0 (pa_cons (pv 1) (pa_cons (pv 3) (pa_cons (pv 2) (pa_cons (pv 5) pa_nil)))))))
          (pss_one (ps_ret pe_bl))
          pss_nil)))
      (pss_cut (ps_if (pt_cmpR op_gt (pv 2) pe_int (nomark _))
        (pss_one (ps_if (PW.pt (pw_or (pt_not (pt_val (pe_call (ok_law_asks_many T) (hr.mono (by decide)) (by rfl) T.g_law_asks_many T.F_law_asks_many.kp T.b_law_asks_many .nil pass0 (pa_cons (pv 1) (pa_cons (pv 3) (pa_cons (pv 2) pa_nil)))))) (pw_or1 (pt_not (pt_val (pe_call (ok_law_asks_other T) hr (by rfl) T.g_law_asks_other T.F_law_asks_other.kp T.b_law_asks_other .nil pass0 (pa_cons (pv 1) (pa_cons (pv 2) (pa_cons (pv 5) pa_nil)))))))))
          (pss_one (ps_ret pe_bl))
          pss_nil))
        pss_nil)
      (pss_one (ps_ret (pe_call (ok_law_let T) (hr.mono (by decide)) (by rfl) T.g_law_let T.F_law_let.kp T.b_law_let .nil pass0 (pa_cons (pv 3) (pa_cons (pv 5) pa_nil))))))))))))))))), ?_⟩
    walk_at "lw go"
    refine ⟨a, ns, rfl, ha, hn, fun b H1 iv => ?_⟩
    walk_at "lw go"
    rename_i c0 H2 e2 l2 u2
    have iv2 := e2.iv
    refine rd_cut (fun σ' H' => ∃ n : Nat, σ' = [some (.ref a), some (.ref b), some (.int n), none, none, none, none] ∧ (WB b).iv H' ∧ n ≤ 4) ?_ ?_
    · walk_at "lw go"
      rename_i r3 H3 e3 l3 u3
      refine ifI ?_ ?_ <;> intro h5
      · walk_at "lw go"
        exact ⟨0, rfl, e3.iv, by decide⟩
      · walk_at "lw go"
        exact ⟨(1 + c0).toNat, by rw [show (((1 + c0).toNat : Nat) : Int) = 1 + c0 by omega]; rfl, e3.iv, by omega⟩
    clear iv2 iv e2
    rintro σ' H3 ⟨n, rfl, iv3, hn4⟩
    have hnl : (0 : Int) ≤ n ∧ (n : Int) ≤ 4 := by omega
    walk_at "lw go"
    refine ⟨b, n, rfl, hn4, iv3, fun p H4 e4 so => ?_⟩
    have iv4 := e4.iv
    walk_at "lw go"
    rename_i sz H5 e5 l5 u5
    have so5 := so.mono e5
    have iv5 := e5.iv
    refine rd_cut (fun σ' H' => ∃ sz : Int, σ' = [some (.ref a), some (.ref b), some (.int n), some (.ref p), some (.int sz), none, none] ∧ (WB b).iv H' ∧ SetOk K T.c_Setup (WB b) H' p n ∧ 0 ≤ sz ∧ sz ≤ 200) ?_ ?_
    · walk_at "lw go"
      rename_i r6 H6 e6 l6 u6
      refine ifI ?_ ?_ <;> intro h5
      · walk_at "lw go"
        rename_i r7 H7 e7 l7 u7
        exact ⟨_, rfl, e7.iv, (so5.mono e6).mono e7, by omega, by omega⟩
      · walk_at "lw go"
        exact ⟨_, rfl, e6.iv, so5.mono e6, l5, by omega⟩
    clear so so5 iv5 e5 iv4 e4
    rintro σ' H6 ⟨sz, rfl, iv6, so6, z0, z1⟩
    walk_at "lw go"
    rename_i q H7 f7 e7 h7
    have so7 := so6.mono e7
    have iv7 := e7.iv
    refine rd_cut (fun σ' H' => ∃ (q : Addr) (ps : List (Int × Int)), σ' = [some (.ref a), some (.ref b), some (.int n), some (.ref p), some (.int sz), some (.ref q), none] ∧ (WB b).iv H' ∧ SetOk K T.c_Setup (WB b) H' p n ∧ DW K (WB b) H' (.ref q) (.list (ps.map pairD)) ∧ OkFrom n 0 ps ∧ ps.length ≤ 200) ?_ ?_
    · walk_at "lw go"
      refine ifD ?_ ?_ <;> intro hpos
      · walk_at "lw go"
        refine ⟨b, n, sz, rfl, ⟨hpos, hnl.2⟩, ⟨z0, by omega⟩, iv7, fun a8 H8 ps e8 d8 l8 ok8 => ?_⟩
        walk_at "lw go"
        exact ⟨_, ps, rfl, e8.iv, so7.mono e8, d8, ok8, by omega⟩
      · walk_at "lw go"
        exact ⟨_, [], rfl, iv7, so7, .lst h7 .nil, trivial, Nat.zero_le _⟩
    clear so7 iv7 h7 e7 so6 iv6
    rintro σ' H8 ⟨q, ps, rfl, iv8, so8, d8, ok8, l8⟩
    walk_at "lw go"
    refine ⟨WB b, p, q, n, ps, rfl, iv8, so8, d8, ok8, l8, fun H9 e9 => ?_⟩
    have iv9 := e9.iv
    walk_at "lw gi"
    rename_i q10 H10 f10 e10 h10
    refine ⟨WB b, p, _, n, [], rfl, e10.iv, (so8.mono e9).mono e10, .lst h10 .nil, trivial, Nat.zero_le _, fun H11 e11 => ?_⟩
    have e811 := (e9.trans e10).trans e11
    walk_at "lw gi"
    refine ⟨WB b, p, _, .none, -1, n, rfl, e811.iv, so8.mono e811, .non, if_pos rfl, fun H12 e12 => ?_⟩
    walk_at "lw gi"
    refine ⟨WB b, p, _, .int 7, -1, n, rfl, e12.iv, (so8.mono e811).mono e12, .int _, if_pos rfl, fun H13 e13 => ?_⟩
    have e813 := (e811.trans e12).trans e13
    walk_at "lw gi"
    refine for_r (fun i σ' H' => ∃ v, σ' = [some (.ref a), some (.ref b), some (.int n), some (.ref p), some (.int sz), some (.ref q), v] ∧ Ex (WB b) H8 H') ⟨_, rfl, e813⟩ ?_ ?_
    · rintro i σ' H14 hi ⟨v, rfl, e14⟩
      walk_at "lw gi"
      refine ⟨b, p, q, n, ps, rfl, hn4, e14.iv, so8.mono e14, d8.ex e14, ok8, l8, fun H15 e15 => ?_⟩
      walk_at "lw gi"
      exact ⟨_, rfl, e14.trans e15⟩
    rintro σ' H14 ⟨v, rfl, e14⟩
    refine rd_cut (fun σ' H' => ∃ v, σ' = [some (.ref a), some (.ref b), some (.int n), some (.ref p), some (.int sz), some (.ref q), v] ∧ Ex (WB b) H8 H') ?_ ?_
    · walk_at "lw go"
      refine ifD ?_ ?_ <;> intro hpos
      · walk_at "lw go"
        refine ⟨b, p, n, rfl, by omega, hn4, e14.iv, so8.mono e14, fun H15 e15 => ?_⟩
        walk_at "lw gi"
        refine ⟨b, q, n, ps, rfl, by omega, hn4, e15.iv, d8.ex (e14.trans e15), ok8, l8, fun H16 e16 => ?_⟩
        walk_at "lw gi"
        exact ⟨_, rfl, (e14.trans e15).trans e16⟩
      · walk_at "lw go"
        exact ⟨_, rfl, e14⟩
    rintro σ' H15 ⟨v, rfl, e15⟩
    walk_at "lw go"
    exact ⟨WB b, p, q, n, ps, rfl, e15.iv, so8.mono e15, d8.ex e15, ok8, l8, fun H16 e16 => k H16⟩

end

theorem all_mk {l : PySem.W.OpenLaw} {w : World} {K : PySem.W.Frag} {h : Heap} {mg : Str → Option Value} {fa : Addr} (X : K.In h) (G : h.Ns mainGlobals mg) (hfa : mg "law" = some (.ref fa))
    {cc_Setup : Addr}
    {f0 : Addr} {od0 an0 : Option Addr} {sl0 : Array (Option Value)} {oc0 kV0 dc0 pm0 cd0 ct0 : Value}
    {f1 : Addr} {od1 an1 : Option Addr} {sl1 : Array (Option Value)} {oc1 kV1 dc1 pm1 cd1 ct1 : Value}
    {f2 : Addr} {od2 an2 : Option Addr} {sl2 : Array (Option Value)} {oc2 kV2 dc2 pm2 cd2 ct2 : Value}
    {f3 : Addr} {od3 an3 : Option Addr} {sl3 : Array (Option Value)} {oc3 kV3 dc3 pm3 cd3 ct3 : Value}
    {f4 : Addr} {od4 an4 : Option Addr} {sl4 : Array (Option Value)} {oc4 kV4 dc4 pm4 cd4 ct4 : Value}
    {f5 : Addr} {od5 an5 : Option Addr} {sl5 : Array (Option Value)} {oc5 kV5 dc5 pm5 cd5 ct5 : Value}
    {f6 : Addr} {od6 an6 : Option Addr} {sl6 : Array (Option Value)} {oc6 kV6 dc6 pm6 cd6 ct6 : Value}
    {f7 : Addr} {od7 an7 : Option Addr} {sl7 : Array (Option Value)} {oc7 kV7 dc7 pm7 cd7 ct7 : Value}
    {f8 : Addr} {od8 an8 : Option Addr} {sl8 : Array (Option Value)} {oc8 kV8 dc8 pm8 cd8 ct8 : Value}
    {f9 : Addr} {od9 an9 : Option Addr} {sl9 : Array (Option Value)} {oc9 kV9 dc9 pm9 cd9 ct9 : Value}
    {f10 : Addr} {od10 an10 : Option Addr} {sl10 : Array (Option Value)} {oc10 kV10 dc10 pm10 cd10 ct10 : Value}
    {f11 : Addr} {od11 an11 : Option Addr} {sl11 : Array (Option Value)} {oc11 kV11 dc11 pm11 cd11 ct11 : Value}
    {f12 : Addr} {od12 an12 : Option Addr} {sl12 : Array (Option Value)} {oc12 kV12 dc12 pm12 cd12 ct12 : Value}
    {f13 : Addr} {od13 an13 : Option Addr} {sl13 : Array (Option Value)} {oc13 kV13 dc13 pm13 cd13 ct13 : Value}
    {f14 : Addr} {od14 an14 : Option Addr} {sl14 : Array (Option Value)} {oc14 kV14 dc14 pm14 cd14 ct14 : Value}
    {f15 : Addr} {od15 an15 : Option Addr} {sl15 : Array (Option Value)} {oc15 kV15 dc15 pm15 cd15 ct15 : Value}
    {f16 : Addr} {od16 an16 : Option Addr} {sl16 : Array (Option Value)} {oc16 kV16 dc16 pm16 cd16 ct16 : Value}
    {f17 : Addr} {od17 an17 : Option Addr} {sl17 : Array (Option Value)} {oc17 kV17 dc17 pm17 cd17 ct17 : Value}
    {f18 : Addr} {od18 an18 : Option Addr} {sl18 : Array (Option Value)} {oc18 kV18 dc18 pm18 cd18 ct18 : Value}
    {f19 : Addr} {od19 an19 : Option Addr} {sl19 : Array (Option Value)} {oc19 kV19 dc19 pm19 cd19 ct19 : Value}
    {f20 : Addr} {od20 an20 : Option Addr} {sl20 : Array (Option Value)} {oc20 kV20 dc20 pm20 cd20 ct20 : Value}
    {f21 : Addr} {od21 an21 : Option Addr} {sl21 : Array (Option Value)} {oc21 kV21 dc21 pm21 cd21 ct21 : Value}
    {f22 : Addr} {od22 an22 : Option Addr} {sl22 : Array (Option Value)} {oc22 kV22 dc22 pm22 cd22 ct22 : Value}
    {f23 : Addr} {od23 an23 : Option Addr} {sl23 : Array (Option Value)} {oc23 kV23 dc23 pm23 cd23 ct23 : Value}
    {f24 : Addr} {od24 an24 : Option Addr} {sl24 : Array (Option Value)} {oc24 kV24 dc24 pm24 cd24 ct24 : Value}
    {f25 : Addr} {od25 an25 : Option Addr} {sl25 : Array (Option Value)} {oc25 kV25 dc25 pm25 cd25 ct25 : Value}
    {f26 : Addr} {od26 an26 : Option Addr} {sl26 : Array (Option Value)} {oc26  dc26 pm26 cd26 ct26 : Value} {kD26 : Addr}
    {de26_rights : Addr} {ds26_rights : Array Value} {dn26_rights : Nat} {dd26_rights : Option Addr} {dl26_rights : Array (Option Value)}
    {dt26_pages : Tok}
    {dt26_ports : Tok}
    {dt26_bells : Tok}
    {de26_lines : Addr} {ds26_lines : Array Value} {dn26_lines : Nat} {dd26_lines : Option Addr} {dl26_lines : Array (Option Value)}
    {dt26_slots : Tok}
    {dt26_windows : Tok}
    {f27 : Addr} {od27 an27 : Option Addr} {sl27 : Array (Option Value)} {oc27 kV27 dc27 pm27 cd27 ct27 : Value}
    {f28 : Addr} {od28 an28 : Option Addr} {sl28 : Array (Option Value)} {oc28 kV28 dc28 pm28 cd28 ct28 : Value}
    {f29 : Addr} {od29 an29 : Option Addr} {sl29 : Array (Option Value)} {oc29 kV29 dc29 pm29 cd29 ct29 : Value}
    {f30 : Addr} {od30 an30 : Option Addr} {sl30 : Array (Option Value)} {oc30 kV30 dc30 pm30 cd30 ct30 : Value}
    {f31 : Addr} {od31 an31 : Option Addr} {sl31 : Array (Option Value)} {oc31 kV31 dc31 pm31 cd31 ct31 : Value}
    {f32 : Addr} {od32 an32 : Option Addr} {sl32 : Array (Option Value)} {oc32 kV32 dc32 pm32 cd32 ct32 : Value}
    {f33 : Addr} {od33 an33 : Option Addr} {sl33 : Array (Option Value)} {oc33 kV33 dc33 pm33 cd33 ct33 : Value}
    {f34 : Addr} {od34 an34 : Option Addr} {sl34 : Array (Option Value)} {oc34 kV34 dc34 pm34 cd34 ct34 : Value}
    {f35 : Addr} {od35 an35 : Option Addr} {sl35 : Array (Option Value)} {oc35 kV35 dc35 pm35 cd35 ct35 : Value}
    {f36 : Addr} {od36 an36 : Option Addr} {sl36 : Array (Option Value)} {oc36 kV36 dc36 pm36 cd36 ct36 : Value}
    {f37 : Addr} {od37 an37 : Option Addr} {sl37 : Array (Option Value)} {oc37 kV37 dc37 pm37 cd37 ct37 : Value}
    {f38 : Addr} {od38 an38 : Option Addr} {sl38 : Array (Option Value)} {oc38 kV38 dc38 pm38 cd38 ct38 : Value}
    {f39 : Addr} {od39 an39 : Option Addr} {sl39 : Array (Option Value)} {oc39 kV39 dc39 pm39 cd39 ct39 : Value}
    {f40 : Addr} {od40 an40 : Option Addr} {sl40 : Array (Option Value)} {oc40 kV40 dc40 pm40 cd40 ct40 : Value}
    {aK_DEEDS : Addr} {its_DEEDS : Array Value} {n_DEEDS : Nat} {dd_DEEDS : Option Addr} {sl_DEEDS : Array (Option Value)}
    {tk_GREATEST_TICK : Tok}
    {aK_LETTERS : Addr} {es_LETTERS : Array DictEntry} {n_LETTERS : Nat}
    {tk_LETTERS_page : Tok}
    {tk_LETTERS_claim : Tok}
    {tk_LETTERS_port : Tok}
    {tk_LETTERS_bell : Tok}
    {tk_LETTERS_line : Tok}
    {tk_LETTERS_process : Tok}
    {tk_LONGEST : Tok}
    {tk_MOST_BELLS : Tok}
    {tk_MOST_CLAIMS : Tok}
    {tk_MOST_DATA : Tok}
    {tk_MOST_LINES : Tok}
    {tk_MOST_PAGES : Tok}
    {tk_MOST_PORTS : Tok}
    {tk_MOST_PROCESSES : Tok}
    {tk_MOST_RAISES : Tok}
    {tk_MOST_SLOTS : Tok}
    {tk_MOST_TICKS : Tok}
    {tk_MOST_TURNS : Tok}
    {tk_MOST_WINDOWS : Tok}
    {tk_REGISTERS : Tok}
    {aK_ROLES : Addr} {es_ROLES : Array DictEntry} {n_ROLES : Nat}
    {r_ROLES_set : Addr} {its_ROLES_set : Array Value} {n_ROLES_set : Nat} {dd_ROLES_set : Option Addr} {sl_ROLES_set : Array (Option Value)}
    {r_ROLES_move : Addr} {its_ROLES_move : Array Value} {n_ROLES_move : Nat} {dd_ROLES_move : Option Addr} {sl_ROLES_move : Array (Option Value)}
    {r_ROLES_add : Addr} {its_ROLES_add : Array Value} {n_ROLES_add : Nat} {dd_ROLES_add : Option Addr} {sl_ROLES_add : Array (Option Value)}
    {r_ROLES_sub : Addr} {its_ROLES_sub : Array Value} {n_ROLES_sub : Nat} {dd_ROLES_sub : Option Addr} {sl_ROLES_sub : Array (Option Value)}
    {r_ROLES_load : Addr} {its_ROLES_load : Array Value} {n_ROLES_load : Nat} {dd_ROLES_load : Option Addr} {sl_ROLES_load : Array (Option Value)}
    {r_ROLES_store : Addr} {its_ROLES_store : Array Value} {n_ROLES_store : Nat} {dd_ROLES_store : Option Addr} {sl_ROLES_store : Array (Option Value)}
    {r_ROLES_jump : Addr} {its_ROLES_jump : Array Value} {n_ROLES_jump : Nat} {dd_ROLES_jump : Option Addr} {sl_ROLES_jump : Array (Option Value)}
    {r_ROLES_zero : Addr} {its_ROLES_zero : Array Value} {n_ROLES_zero : Nat} {dd_ROLES_zero : Option Addr} {sl_ROLES_zero : Array (Option Value)}
    {r_ROLES_deed : Addr} {its_ROLES_deed : Array Value} {n_ROLES_deed : Nat} {dd_ROLES_deed : Option Addr} {sl_ROLES_deed : Array (Option Value)}
    {tk_WORD : Tok}
    {cc_InputError : Addr}
    {cc_BadNumber : Addr}
    {cc_BadProgram : Addr}
    {ci_BadProgram N_BadProgram da_BadProgram cl_BadProgram : Addr} {nm_BadProgram q_BadProgram qu_BadProgram m_BadProgram fi_BadProgram : Str} {bs_BadProgram bm_BadProgram sub_BadProgram : List Value} {sn_BadProgram : List Str} {ab_BadProgram : Bool} {col_BadProgram : Option Bool} {dd_BadProgram od_BadProgram an_BadProgram cld_BadProgram cdd_BadProgram : Option Addr} {k0_BadProgram k1_BadProgram k2_BadProgram k3_BadProgram k5_BadProgram : Option Value} {oc_BadProgram doc_BadProgram pm_BadProgram ct_BadProgram clv_BadProgram ccl_BadProgram : Value} {osl_BadProgram csl_BadProgram ccs_BadProgram : Array (Option Value)} {vs_BadProgram : Array Value} {nn_BadProgram : Nat} {tf_BadProgram : Tok} {p1_BadProgram p2_BadProgram a0_BadProgram a1_BadProgram a2_BadProgram a3_BadProgram a4_BadProgram a5_BadProgram q1_BadProgram q2_BadProgram q3_BadProgram q4_BadProgram : Pos}
    {cc_BadSetup : Addr}
    {ci_BadSetup N_BadSetup da_BadSetup cl_BadSetup : Addr} {nm_BadSetup q_BadSetup qu_BadSetup m_BadSetup fi_BadSetup : Str} {bs_BadSetup bm_BadSetup sub_BadSetup : List Value} {sn_BadSetup : List Str} {ab_BadSetup : Bool} {col_BadSetup : Option Bool} {dd_BadSetup od_BadSetup an_BadSetup cld_BadSetup cdd_BadSetup : Option Addr} {k0_BadSetup k1_BadSetup k2_BadSetup k3_BadSetup k5_BadSetup : Option Value} {oc_BadSetup doc_BadSetup pm_BadSetup ct_BadSetup clv_BadSetup ccl_BadSetup : Value} {osl_BadSetup csl_BadSetup ccs_BadSetup : Array (Option Value)} {vs_BadSetup : Array Value} {nn_BadSetup : Nat} {tf_BadSetup : Tok} {p1_BadSetup p2_BadSetup p3_BadSetup a0_BadSetup a1_BadSetup a2_BadSetup a3_BadSetup a4_BadSetup a5_BadSetup q1_BadSetup q2_BadSetup q3_BadSetup q4_BadSetup r1_BadSetup r2_BadSetup r3_BadSetup r4_BadSetup : Pos}
    {cc_BadRaises : Addr}
    {ci_BadRaises N_BadRaises da_BadRaises cl_BadRaises : Addr} {nm_BadRaises q_BadRaises qu_BadRaises m_BadRaises fi_BadRaises : Str} {bs_BadRaises bm_BadRaises sub_BadRaises : List Value} {sn_BadRaises : List Str} {ab_BadRaises : Bool} {col_BadRaises : Option Bool} {dd_BadRaises od_BadRaises an_BadRaises cld_BadRaises cdd_BadRaises : Option Addr} {k0_BadRaises k1_BadRaises k2_BadRaises k3_BadRaises k5_BadRaises : Option Value} {oc_BadRaises doc_BadRaises pm_BadRaises ct_BadRaises clv_BadRaises ccl_BadRaises : Value} {osl_BadRaises csl_BadRaises ccs_BadRaises : Array (Option Value)} {vs_BadRaises : Array Value} {nn_BadRaises : Nat} {tf_BadRaises : Tok} {p1_BadRaises p2_BadRaises a0_BadRaises a1_BadRaises a2_BadRaises a3_BadRaises a4_BadRaises a5_BadRaises q1_BadRaises q2_BadRaises q3_BadRaises q4_BadRaises : Pos}
    (ka_Setup : PySem.W.nsIn K mainGlobals "Setup" = some (some (.ref cc_Setup))) (pg_Setup : PySem.W.plainGet K cc_Setup Str.empty = true) (hd_Setup : PySem.W.hasDictIn K cc_Setup = true) (po_Setup : PySem.W.plainOver K cc_Setup = true) (sa_Setup : PySem.W.findIn K (.ref cc_Setup) "__setattr__" = some (some (.builtin "object.__setattr__"))) (mi_Setup : PySem.W.makesIn K cc_Setup = true) (kq_Setup : PySem.W.keepIn K (.ref cc_Setup) = true) (nf_programs_Setup : PySem.W.findIn K (.ref cc_Setup) "programs" = some none) (nf_slots_Setup : PySem.W.findIn K (.ref cc_Setup) "slots" = some none) (nf_windows_Setup : PySem.W.findIn K (.ref cc_Setup) "windows" = some none) (nf_turns_Setup : PySem.W.findIn K (.ref cc_Setup) "turns" = some none) (nf_quotas_Setup : PySem.W.findIn K (.ref cc_Setup) "quotas" = some none) (nf_data_Setup : PySem.W.findIn K (.ref cc_Setup) "data" = some none) (nf_pages_Setup : PySem.W.findIn K (.ref cc_Setup) "pages" = some none) (nf_ports_Setup : PySem.W.findIn K (.ref cc_Setup) "ports" = some none) (nf_bells_Setup : PySem.W.findIn K (.ref cc_Setup) "bells" = some none) (nf_lines_Setup : PySem.W.findIn K (.ref cc_Setup) "lines" = some none) (nf_rights_Setup : PySem.W.findIn K (.ref cc_Setup) "rights" = some none)
    (a0 : PySem.W.nsIn K mainGlobals "is_integer" = some (some (.ref f0))) (l0 : K.lookup f0 = some ⟨oc0, od0, .func (PySem.W.fnOf "is_integer" "is_integer" (defArgs s_is_integer) (defBody s_is_integer) (defScope s_is_integer) .none kV0 dc0 pm0 an0 cd0 ct0), sl0⟩) (c0 : PySem.W.codeIn K cd0 "is_integer" = true) (k0 : PySem.W.keepIn K (.ref f0) = true)
    (a1 : PySem.W.nsIn K mainGlobals "is_word" = some (some (.ref f1))) (l1 : K.lookup f1 = some ⟨oc1, od1, .func (PySem.W.fnOf "is_word" "is_word" (defArgs s_is_word) (defBody s_is_word) (defScope s_is_word) .none kV1 dc1 pm1 an1 cd1 ct1), sl1⟩) (c1 : PySem.W.codeIn K cd1 "is_word" = true) (k1 : PySem.W.keepIn K (.ref f1) = true)
    (a2 : PySem.W.nsIn K mainGlobals "_is_kind" = some (some (.ref f2))) (l2 : K.lookup f2 = some ⟨oc2, od2, .func (PySem.W.fnOf "_is_kind" "_is_kind" (defArgs s_is_kind) (defBody s_is_kind) (defScope s_is_kind) .none kV2 dc2 pm2 an2 cd2 ct2), sl2⟩) (c2 : PySem.W.codeIn K cd2 "_is_kind" = true) (k2 : PySem.W.keepIn K (.ref f2) = true)
    (a3 : PySem.W.nsIn K mainGlobals "in_order" = some (some (.ref f3))) (l3 : K.lookup f3 = some ⟨oc3, od3, .func (PySem.W.fnOf "in_order" "in_order" (defArgs s_in_order) (defBody s_in_order) (defScope s_in_order) .none kV3 dc3 pm3 an3 cd3 ct3), sl3⟩) (c3 : PySem.W.codeIn K cd3 "in_order" = true) (k3 : PySem.W.keepIn K (.ref f3) = true)
    (a4 : PySem.W.nsIn K mainGlobals "is_row" = some (some (.ref f4))) (l4 : K.lookup f4 = some ⟨oc4, od4, .func (PySem.W.fnOf "is_row" "is_row" (defArgs s_is_row) (defBody s_is_row) (defScope s_is_row) .none kV4 dc4 pm4 an4 cd4 ct4), sl4⟩) (c4 : PySem.W.codeIn K cd4 "is_row" = true) (k4 : PySem.W.keepIn K (.ref f4) = true)
    (a5 : PySem.W.nsIn K mainGlobals "_bound" = some (some (.ref f5))) (l5 : K.lookup f5 = some ⟨oc5, od5, .func (PySem.W.fnOf "_bound" "_bound" (defArgs s_bound) (defBody s_bound) (defScope s_bound) .none kV5 dc5 pm5 an5 cd5 ct5), sl5⟩) (c5 : PySem.W.codeIn K cd5 "_bound" = true) (k5 : PySem.W.keepIn K (.ref f5) = true)
    (a6 : PySem.W.nsIn K mainGlobals "_fits" = some (some (.ref f6))) (l6 : K.lookup f6 = some ⟨oc6, od6, .func (PySem.W.fnOf "_fits" "_fits" (defArgs s_fits) (defBody s_fits) (defScope s_fits) .none kV6 dc6 pm6 an6 cd6 ct6), sl6⟩) (c6 : PySem.W.codeIn K cd6 "_fits" = true) (k6 : PySem.W.keepIn K (.ref f6) = true)
    (a7 : PySem.W.nsIn K mainGlobals "is_instruction" = some (some (.ref f7))) (l7 : K.lookup f7 = some ⟨oc7, od7, .func (PySem.W.fnOf "is_instruction" "is_instruction" (defArgs s_is_instruction) (defBody s_is_instruction) (defScope s_is_instruction) .none kV7 dc7 pm7 an7 cd7 ct7), sl7⟩) (c7 : PySem.W.codeIn K cd7 "is_instruction" = true) (k7 : PySem.W.keepIn K (.ref f7) = true)
    (a8 : PySem.W.nsIn K mainGlobals "check_program" = some (some (.ref f8))) (l8 : K.lookup f8 = some ⟨oc8, od8, .func (PySem.W.fnOf "check_program" "check_program" (defArgs s_check_program) (defBody s_check_program) (defScope s_check_program) .none kV8 dc8 pm8 an8 cd8 ct8), sl8⟩) (c8 : PySem.W.codeIn K cd8 "check_program" = true) (k8 : PySem.W.keepIn K (.ref f8) = true)
    (a9 : PySem.W.nsIn K mainGlobals "kind_counts" = some (some (.ref f9))) (l9 : K.lookup f9 = some ⟨oc9, od9, .func (PySem.W.fnOf "kind_counts" "kind_counts" (defArgs s_kind_counts) (defBody s_kind_counts) (defScope s_kind_counts) .none kV9 dc9 pm9 an9 cd9 ct9), sl9⟩) (c9 : PySem.W.codeIn K cd9 "kind_counts" = true) (k9 : PySem.W.keepIn K (.ref f9) = true)
    (a10 : PySem.W.nsIn K mainGlobals "kind_of" = some (some (.ref f10))) (l10 : K.lookup f10 = some ⟨oc10, od10, .func (PySem.W.fnOf "kind_of" "kind_of" (defArgs s_kind_of) (defBody s_kind_of) (defScope s_kind_of) .none kV10 dc10 pm10 an10 cd10 ct10), sl10⟩) (c10 : PySem.W.codeIn K cd10 "kind_of" = true) (k10 : PySem.W.keepIn K (.ref f10) = true)
    (a11 : PySem.W.nsIn K mainGlobals "is_thing" = some (some (.ref f11))) (l11 : K.lookup f11 = some ⟨oc11, od11, .func (PySem.W.fnOf "is_thing" "is_thing" (defArgs s_is_thing) (defBody s_is_thing) (defScope s_is_thing) .none kV11 dc11 pm11 an11 cd11 ct11), sl11⟩) (c11 : PySem.W.codeIn K cd11 "is_thing" = true) (k11 : PySem.W.keepIn K (.ref f11) = true)
    (a12 : PySem.W.nsIn K mainGlobals "is_between" = some (some (.ref f12))) (l12 : K.lookup f12 = some ⟨oc12, od12, .func (PySem.W.fnOf "is_between" "is_between" (defArgs s_is_between) (defBody s_is_between) (defScope s_is_between) .none kV12 dc12 pm12 an12 cd12 ct12), sl12⟩) (c12 : PySem.W.codeIn K cd12 "is_between" = true) (k12 : PySem.W.keepIn K (.ref f12) = true)
    (a13 : PySem.W.nsIn K mainGlobals "free_price" = some (some (.ref f13))) (l13 : K.lookup f13 = some ⟨oc13, od13, .func (PySem.W.fnOf "free_price" "free_price" (defArgs s_free_price) (defBody s_free_price) (defScope s_free_price) .none kV13 dc13 pm13 an13 cd13 ct13), sl13⟩) (c13 : PySem.W.codeIn K cd13 "free_price" = true) (k13 : PySem.W.keepIn K (.ref f13) = true)
    (a14 : PySem.W.nsIn K mainGlobals "least_ticks" = some (some (.ref f14))) (l14 : K.lookup f14 = some ⟨oc14, od14, .func (PySem.W.fnOf "least_ticks" "least_ticks" (defArgs s_least_ticks) (defBody s_least_ticks) (defScope s_least_ticks) .none kV14 dc14 pm14 an14 cd14 ct14), sl14⟩) (c14 : PySem.W.codeIn K cd14 "least_ticks" = true) (k14 : PySem.W.keepIn K (.ref f14) = true)
    (a15 : PySem.W.nsIn K mainGlobals "checked_number" = some (some (.ref f15))) (l15 : K.lookup f15 = some ⟨oc15, od15, .func (PySem.W.fnOf "checked_number" "checked_number" (defArgs s_checked_number) (defBody s_checked_number) (defScope s_checked_number) .none kV15 dc15 pm15 an15 cd15 ct15), sl15⟩) (c15 : PySem.W.codeIn K cd15 "checked_number" = true) (k15 : PySem.W.keepIn K (.ref f15) = true)
    (a16 : PySem.W.nsIn K mainGlobals "checked_programs" = some (some (.ref f16))) (l16 : K.lookup f16 = some ⟨oc16, od16, .func (PySem.W.fnOf "checked_programs" "checked_programs" (defArgs s_checked_programs) (defBody s_checked_programs) (defScope s_checked_programs) .none kV16 dc16 pm16 an16 cd16 ct16), sl16⟩) (c16 : PySem.W.codeIn K cd16 "checked_programs" = true) (k16 : PySem.W.keepIn K (.ref f16) = true)
    (a17 : PySem.W.nsIn K mainGlobals "is_turn" = some (some (.ref f17))) (l17 : K.lookup f17 = some ⟨oc17, od17, .func (PySem.W.fnOf "is_turn" "is_turn" (defArgs s_is_turn) (defBody s_is_turn) (defScope s_is_turn) .none kV17 dc17 pm17 an17 cd17 ct17), sl17⟩) (c17 : PySem.W.codeIn K cd17 "is_turn" = true) (k17 : PySem.W.keepIn K (.ref f17) = true)
    (a18 : PySem.W.nsIn K mainGlobals "checked_turns" = some (some (.ref f18))) (l18 : K.lookup f18 = some ⟨oc18, od18, .func (PySem.W.fnOf "checked_turns" "checked_turns" (defArgs s_checked_turns) (defBody s_checked_turns) (defScope s_checked_turns) .none kV18 dc18 pm18 an18 cd18 ct18), sl18⟩) (c18 : PySem.W.codeIn K cd18 "checked_turns" = true) (k18 : PySem.W.keepIn K (.ref f18) = true)
    (a19 : PySem.W.nsIn K mainGlobals "checked_quotas" = some (some (.ref f19))) (l19 : K.lookup f19 = some ⟨oc19, od19, .func (PySem.W.fnOf "checked_quotas" "checked_quotas" (defArgs s_checked_quotas) (defBody s_checked_quotas) (defScope s_checked_quotas) .none kV19 dc19 pm19 an19 cd19 ct19), sl19⟩) (c19 : PySem.W.codeIn K cd19 "checked_quotas" = true) (k19 : PySem.W.keepIn K (.ref f19) = true)
    (a20 : PySem.W.nsIn K mainGlobals "is_data" = some (some (.ref f20))) (l20 : K.lookup f20 = some ⟨oc20, od20, .func (PySem.W.fnOf "is_data" "is_data" (defArgs s_is_data) (defBody s_is_data) (defScope s_is_data) .none kV20 dc20 pm20 an20 cd20 ct20), sl20⟩) (c20 : PySem.W.codeIn K cd20 "is_data" = true) (k20 : PySem.W.keepIn K (.ref f20) = true)
    (a21 : PySem.W.nsIn K mainGlobals "checked_data" = some (some (.ref f21))) (l21 : K.lookup f21 = some ⟨oc21, od21, .func (PySem.W.fnOf "checked_data" "checked_data" (defArgs s_checked_data) (defBody s_checked_data) (defScope s_checked_data) .none kV21 dc21 pm21 an21 cd21 ct21), sl21⟩) (c21 : PySem.W.codeIn K cd21 "checked_data" = true) (k21 : PySem.W.keepIn K (.ref f21) = true)
    (a22 : PySem.W.nsIn K mainGlobals "checked_lines" = some (some (.ref f22))) (l22 : K.lookup f22 = some ⟨oc22, od22, .func (PySem.W.fnOf "checked_lines" "checked_lines" (defArgs s_checked_lines) (defBody s_checked_lines) (defScope s_checked_lines) .none kV22 dc22 pm22 an22 cd22 ct22), sl22⟩) (c22 : PySem.W.codeIn K cd22 "checked_lines" = true) (k22 : PySem.W.keepIn K (.ref f22) = true)
    (a23 : PySem.W.nsIn K mainGlobals "right_row" = some (some (.ref f23))) (l23 : K.lookup f23 = some ⟨oc23, od23, .func (PySem.W.fnOf "right_row" "right_row" (defArgs s_right_row) (defBody s_right_row) (defScope s_right_row) .none kV23 dc23 pm23 an23 cd23 ct23), sl23⟩) (c23 : PySem.W.codeIn K cd23 "right_row" = true) (k23 : PySem.W.keepIn K (.ref f23) = true)
    (a24 : PySem.W.nsIn K mainGlobals "fits_parent" = some (some (.ref f24))) (l24 : K.lookup f24 = some ⟨oc24, od24, .func (PySem.W.fnOf "fits_parent" "fits_parent" (defArgs s_fits_parent) (defBody s_fits_parent) (defScope s_fits_parent) .none kV24 dc24 pm24 an24 cd24 ct24), sl24⟩) (c24 : PySem.W.codeIn K cd24 "fits_parent" = true) (k24 : PySem.W.keepIn K (.ref f24) = true)
    (a25 : PySem.W.nsIn K mainGlobals "checked_rights" = some (some (.ref f25))) (l25 : K.lookup f25 = some ⟨oc25, od25, .func (PySem.W.fnOf "checked_rights" "checked_rights" (defArgs s_checked_rights) (defBody s_checked_rights) (defScope s_checked_rights) .none kV25 dc25 pm25 an25 cd25 ct25), sl25⟩) (c25 : PySem.W.codeIn K cd25 "checked_rights" = true) (k25 : PySem.W.keepIn K (.ref f25) = true)
    (a26 : PySem.W.findIn K (.ref cc_Setup) "__init__" = some (some (.ref f26))) (l26 : K.lookup f26 = some ⟨oc26, od26, .func (PySem.W.fnOf "__init__" "Setup.__init__" (defArgs s_Setup__init) (defBody s_Setup__init) (defScope s_Setup__init) .none (.ref kD26) dc26 pm26 an26 cd26 ct26), sl26⟩) (c26 : PySem.W.codeIn K cd26 "Setup.__init__" = true) (k26 : PySem.W.keepIn K (.ref f26) = true)
    (i26 : PySem.W.isFn K (.ref f26) = true)
    (kd26_rights : PySem.W.nsIn K kD26 "rights" = some (some (.ref de26_rights))) (ke26_rights : K.lookup de26_rights = some ⟨.type "tuple", dd26_rights, .seq ds26_rights dn26_rights, dl26_rights⟩) (kf26_rights : ds26_rights.toList.map absV = ([] : List V).map some)
    (kd26_quotas : PySem.W.nsIn K kD26 "quotas" = some (some .none))
    (kd26_data : PySem.W.nsIn K kD26 "data" = some (some .none))
    (kd26_pages : PySem.W.nsIn K kD26 "pages" = some (some (.int 0 dt26_pages)))
    (kd26_ports : PySem.W.nsIn K kD26 "ports" = some (some (.int 0 dt26_ports)))
    (kd26_bells : PySem.W.nsIn K kD26 "bells" = some (some (.int 0 dt26_bells)))
    (kd26_lines : PySem.W.nsIn K kD26 "lines" = some (some (.ref de26_lines))) (ke26_lines : K.lookup de26_lines = some ⟨.type "tuple", dd26_lines, .seq ds26_lines dn26_lines, dl26_lines⟩) (kf26_lines : ds26_lines.toList.map absV = ([] : List V).map some)
    (kd26_slots : PySem.W.nsIn K kD26 "slots" = some (some (.int 8 dt26_slots)))
    (kd26_windows : PySem.W.nsIn K kD26 "windows" = some (some (.int 2 dt26_windows)))
    (a27 : PySem.W.nsIn K mainGlobals "check_raises" = some (some (.ref f27))) (l27 : K.lookup f27 = some ⟨oc27, od27, .func (PySem.W.fnOf "check_raises" "check_raises" (defArgs s_check_raises) (defBody s_check_raises) (defScope s_check_raises) .none kV27 dc27 pm27 an27 cd27 ct27), sl27⟩) (c27 : PySem.W.codeIn K cd27 "check_raises" = true) (k27 : PySem.W.keepIn K (.ref f27) = true)
    (a28 : PySem.W.nsIn K mainGlobals "_law_bag" = some (some (.ref f28))) (l28 : K.lookup f28 = some ⟨oc28, od28, .func (PySem.W.fnOf "_law_bag" "_law_bag" (defArgs s_law_bag) (defBody s_law_bag) (defScope s_law_bag) .none kV28 dc28 pm28 an28 cd28 ct28), sl28⟩) (c28 : PySem.W.codeIn K cd28 "_law_bag" = true) (k28 : PySem.W.keepIn K (.ref f28) = true)
    (a29 : PySem.W.nsIn K mainGlobals "_law_take" = some (some (.ref f29))) (l29 : K.lookup f29 = some ⟨oc29, od29, .func (PySem.W.fnOf "_law_take" "_law_take" (defArgs s_law_take) (defBody s_law_take) (defScope s_law_take) .none kV29 dc29 pm29 an29 cd29 ct29), sl29⟩) (c29 : PySem.W.codeIn K cd29 "_law_take" = true) (k29 : PySem.W.keepIn K (.ref f29) = true)
    (a30 : PySem.W.nsIn K mainGlobals "_law_same" = some (some (.ref f30))) (l30 : K.lookup f30 = some ⟨oc30, od30, .func (PySem.W.fnOf "_law_same" "_law_same" (defArgs s_law_same) (defBody s_law_same) (defScope s_law_same) .none kV30 dc30 pm30 an30 cd30 ct30), sl30⟩) (c30 : PySem.W.codeIn K cd30 "_law_same" = true) (k30 : PySem.W.keepIn K (.ref f30) = true)
    (a31 : PySem.W.nsIn K mainGlobals "_law_setup" = some (some (.ref f31))) (l31 : K.lookup f31 = some ⟨oc31, od31, .func (PySem.W.fnOf "_law_setup" "_law_setup" (defArgs s_law_setup) (defBody s_law_setup) (defScope s_law_setup) .none kV31 dc31 pm31 an31 cd31 ct31), sl31⟩) (c31 : PySem.W.codeIn K cd31 "_law_setup" = true) (k31 : PySem.W.keepIn K (.ref f31) = true)
    (a32 : PySem.W.nsIn K mainGlobals "_law_tick" = some (some (.ref f32))) (l32 : K.lookup f32 = some ⟨oc32, od32, .func (PySem.W.fnOf "_law_tick" "_law_tick" (defArgs s_law_tick) (defBody s_law_tick) (defScope s_law_tick) .none kV32 dc32 pm32 an32 cd32 ct32), sl32⟩) (c32 : PySem.W.codeIn K cd32 "_law_tick" = true) (k32 : PySem.W.keepIn K (.ref f32) = true)
    (a33 : PySem.W.nsIn K mainGlobals "_law_pairs" = some (some (.ref f33))) (l33 : K.lookup f33 = some ⟨oc33, od33, .func (PySem.W.fnOf "_law_pairs" "_law_pairs" (defArgs s_law_pairs) (defBody s_law_pairs) (defScope s_law_pairs) .none kV33 dc33 pm33 an33 cd33 ct33), sl33⟩) (c33 : PySem.W.codeIn K cd33 "_law_pairs" = true) (k33 : PySem.W.keepIn K (.ref f33) = true)
    (a34 : PySem.W.nsIn K mainGlobals "_law_refused" = some (some (.ref f34))) (l34 : K.lookup f34 = some ⟨oc34, od34, .func (PySem.W.fnOf "_law_refused" "_law_refused" (defArgs s_law_refused) (defBody s_law_refused) (defScope s_law_refused) .none kV34 dc34 pm34 an34 cd34 ct34), sl34⟩) (c34 : PySem.W.codeIn K cd34 "_law_refused" = true) (k34 : PySem.W.keepIn K (.ref f34) = true)
    (a35 : PySem.W.nsIn K mainGlobals "_law_let" = some (some (.ref f35))) (l35 : K.lookup f35 = some ⟨oc35, od35, .func (PySem.W.fnOf "_law_let" "_law_let" (defArgs s_law_let) (defBody s_law_let) (defScope s_law_let) .none kV35 dc35 pm35 an35 cd35 ct35), sl35⟩) (c35 : PySem.W.codeIn K cd35 "_law_let" = true) (k35 : PySem.W.keepIn K (.ref f35) = true)
    (a36 : PySem.W.nsIn K mainGlobals "_law_wrong" = some (some (.ref f36))) (l36 : K.lookup f36 = some ⟨oc36, od36, .func (PySem.W.fnOf "_law_wrong" "_law_wrong" (defArgs s_law_wrong) (defBody s_law_wrong) (defScope s_law_wrong) .none kV36 dc36 pm36 an36 cd36 ct36), sl36⟩) (c36 : PySem.W.codeIn K cd36 "_law_wrong" = true) (k36 : PySem.W.keepIn K (.ref f36) = true)
    (a37 : PySem.W.nsIn K mainGlobals "_law_asks_wrong" = some (some (.ref f37))) (l37 : K.lookup f37 = some ⟨oc37, od37, .func (PySem.W.fnOf "_law_asks_wrong" "_law_asks_wrong" (defArgs s_law_asks_wrong) (defBody s_law_asks_wrong) (defScope s_law_asks_wrong) .none kV37 dc37 pm37 an37 cd37 ct37), sl37⟩) (c37 : PySem.W.codeIn K cd37 "_law_asks_wrong" = true) (k37 : PySem.W.keepIn K (.ref f37) = true)
    (a38 : PySem.W.nsIn K mainGlobals "_law_asks_many" = some (some (.ref f38))) (l38 : K.lookup f38 = some ⟨oc38, od38, .func (PySem.W.fnOf "_law_asks_many" "_law_asks_many" (defArgs s_law_asks_many) (defBody s_law_asks_many) (defScope s_law_asks_many) .none kV38 dc38 pm38 an38 cd38 ct38), sl38⟩) (c38 : PySem.W.codeIn K cd38 "_law_asks_many" = true) (k38 : PySem.W.keepIn K (.ref f38) = true)
    (a39 : PySem.W.nsIn K mainGlobals "_law_asks_other" = some (some (.ref f39))) (l39 : K.lookup f39 = some ⟨oc39, od39, .func (PySem.W.fnOf "_law_asks_other" "_law_asks_other" (defArgs s_law_asks_other) (defBody s_law_asks_other) (defScope s_law_asks_other) .none kV39 dc39 pm39 an39 cd39 ct39), sl39⟩) (c39 : PySem.W.codeIn K cd39 "_law_asks_other" = true) (k39 : PySem.W.keepIn K (.ref f39) = true)
    (a40 : PySem.W.nsIn K mainGlobals "law" = some (some (.ref f40))) (l40 : K.lookup f40 = some ⟨oc40, od40, .func (PySem.W.fnOf "law" "law" (defArgs s_law) (defBody s_law) (defScope s_law) .none kV40 dc40 pm40 an40 cd40 ct40), sl40⟩) (c40 : PySem.W.codeIn K cd40 "law" = true) (k40 : PySem.W.keepIn K (.ref f40) = true)
    (ka_DEEDS : PySem.W.nsIn K mainGlobals "DEEDS" = some (some (.ref aK_DEEDS))) (kl_DEEDS : K.lookup aK_DEEDS = some ⟨.type "tuple", dd_DEEDS, .seq its_DEEDS n_DEEDS, sl_DEEDS⟩) (kv_DEEDS : its_DEEDS.toList.map absV = ([.str "halt", .str "until", .str "clock", .str "look", .str "claim", .str "free", .str "copy", .str "drop", .str "revoke", .str "map", .str "unmap", .str "send", .str "take", .str "trysend", .str "trytake", .str "call", .str "reply", .str "ring", .str "await", .str "tryawait", .str "ack", .str "give", .str "pull"] : List V).map some)
    (ka_GREATEST_TICK : PySem.W.nsIn K mainGlobals "GREATEST_TICK" = some (some (.int 10000000000 tk_GREATEST_TICK)))
    (ka_LETTERS : PySem.W.nsIn K mainGlobals "LETTERS" = some (some (.ref aK_LETTERS))) (kl_LETTERS : K.lookup aK_LETTERS = some ⟨.type "dict", none, .dict es_LETTERS n_LETTERS, #[]⟩) (kk_LETTERS : PySem.W.KeysLit w.params es_LETTERS.toList) (kz_LETTERS : (aK_LETTERS == sysModules) = false) (kq_LETTERS : es_LETTERS.toList.map Lw.keyS = (["page", "claim", "port", "bell", "line", "process"] : List Str).map some)
    (di_LETTERS_page : PySem.W.nsIn K aK_LETTERS "page" = some (some (.str "rw" tk_LETTERS_page)))
    (di_LETTERS_claim : PySem.W.nsIn K aK_LETTERS "claim" = some (some (.str "rw" tk_LETTERS_claim)))
    (di_LETTERS_port : PySem.W.nsIn K aK_LETTERS "port" = some (some (.str "sgt" tk_LETTERS_port)))
    (di_LETTERS_bell : PySem.W.nsIn K aK_LETTERS "bell" = some (some (.str "ka" tk_LETTERS_bell)))
    (di_LETTERS_line : PySem.W.nsIn K aK_LETTERS "line" = some (some (.str "y" tk_LETTERS_line)))
    (di_LETTERS_process : PySem.W.nsIn K aK_LETTERS "process" = some (some (.str "ix" tk_LETTERS_process)))
    (ka_LONGEST : PySem.W.nsIn K mainGlobals "LONGEST" = some (some (.int 4000 tk_LONGEST)))
    (ka_MOST_BELLS : PySem.W.nsIn K mainGlobals "MOST_BELLS" = some (some (.int 6 tk_MOST_BELLS)))
    (ka_MOST_CLAIMS : PySem.W.nsIn K mainGlobals "MOST_CLAIMS" = some (some (.int 8 tk_MOST_CLAIMS)))
    (ka_MOST_DATA : PySem.W.nsIn K mainGlobals "MOST_DATA" = some (some (.int 64 tk_MOST_DATA)))
    (ka_MOST_LINES : PySem.W.nsIn K mainGlobals "MOST_LINES" = some (some (.int 4 tk_MOST_LINES)))
    (ka_MOST_PAGES : PySem.W.nsIn K mainGlobals "MOST_PAGES" = some (some (.int 8 tk_MOST_PAGES)))
    (ka_MOST_PORTS : PySem.W.nsIn K mainGlobals "MOST_PORTS" = some (some (.int 6 tk_MOST_PORTS)))
    (ka_MOST_PROCESSES : PySem.W.nsIn K mainGlobals "MOST_PROCESSES" = some (some (.int 6 tk_MOST_PROCESSES)))
    (ka_MOST_RAISES : PySem.W.nsIn K mainGlobals "MOST_RAISES" = some (some (.int 200 tk_MOST_RAISES)))
    (ka_MOST_SLOTS : PySem.W.nsIn K mainGlobals "MOST_SLOTS" = some (some (.int 48 tk_MOST_SLOTS)))
    (ka_MOST_TICKS : PySem.W.nsIn K mainGlobals "MOST_TICKS" = some (some (.int 100000 tk_MOST_TICKS)))
    (ka_MOST_TURNS : PySem.W.nsIn K mainGlobals "MOST_TURNS" = some (some (.int 12 tk_MOST_TURNS)))
    (ka_MOST_WINDOWS : PySem.W.nsIn K mainGlobals "MOST_WINDOWS" = some (some (.int 16 tk_MOST_WINDOWS)))
    (ka_REGISTERS : PySem.W.nsIn K mainGlobals "REGISTERS" = some (some (.int 8 tk_REGISTERS)))
    (ka_ROLES : PySem.W.nsIn K mainGlobals "ROLES" = some (some (.ref aK_ROLES))) (kl_ROLES : K.lookup aK_ROLES = some ⟨.type "dict", none, .dict es_ROLES n_ROLES, #[]⟩) (kk_ROLES : PySem.W.KeysLit w.params es_ROLES.toList) (kz_ROLES : (aK_ROLES == sysModules) = false) (kq_ROLES : es_ROLES.toList.map Lw.keyS = (["set", "move", "add", "sub", "load", "store", "jump", "zero", "deed"] : List Str).map some)
    (di_ROLES_set : PySem.W.nsIn K aK_ROLES "set" = some (some (.ref r_ROLES_set))) (kl_ROLES_set : K.lookup r_ROLES_set = some ⟨.type "tuple", dd_ROLES_set, .seq its_ROLES_set n_ROLES_set, sl_ROLES_set⟩) (kv_ROLES_set : its_ROLES_set.toList.map absV = ([.str "register", .str "word"] : List V).map some)
    (di_ROLES_move : PySem.W.nsIn K aK_ROLES "move" = some (some (.ref r_ROLES_move))) (kl_ROLES_move : K.lookup r_ROLES_move = some ⟨.type "tuple", dd_ROLES_move, .seq its_ROLES_move n_ROLES_move, sl_ROLES_move⟩) (kv_ROLES_move : its_ROLES_move.toList.map absV = ([.str "register", .str "register"] : List V).map some)
    (di_ROLES_add : PySem.W.nsIn K aK_ROLES "add" = some (some (.ref r_ROLES_add))) (kl_ROLES_add : K.lookup r_ROLES_add = some ⟨.type "tuple", dd_ROLES_add, .seq its_ROLES_add n_ROLES_add, sl_ROLES_add⟩) (kv_ROLES_add : its_ROLES_add.toList.map absV = ([.str "register", .str "register"] : List V).map some)
    (di_ROLES_sub : PySem.W.nsIn K aK_ROLES "sub" = some (some (.ref r_ROLES_sub))) (kl_ROLES_sub : K.lookup r_ROLES_sub = some ⟨.type "tuple", dd_ROLES_sub, .seq its_ROLES_sub n_ROLES_sub, sl_ROLES_sub⟩) (kv_ROLES_sub : its_ROLES_sub.toList.map absV = ([.str "register", .str "register"] : List V).map some)
    (di_ROLES_load : PySem.W.nsIn K aK_ROLES "load" = some (some (.ref r_ROLES_load))) (kl_ROLES_load : K.lookup r_ROLES_load = some ⟨.type "tuple", dd_ROLES_load, .seq its_ROLES_load n_ROLES_load, sl_ROLES_load⟩) (kv_ROLES_load : its_ROLES_load.toList.map absV = ([.str "register", .str "register"] : List V).map some)
    (di_ROLES_store : PySem.W.nsIn K aK_ROLES "store" = some (some (.ref r_ROLES_store))) (kl_ROLES_store : K.lookup r_ROLES_store = some ⟨.type "tuple", dd_ROLES_store, .seq its_ROLES_store n_ROLES_store, sl_ROLES_store⟩) (kv_ROLES_store : its_ROLES_store.toList.map absV = ([.str "register", .str "register"] : List V).map some)
    (di_ROLES_jump : PySem.W.nsIn K aK_ROLES "jump" = some (some (.ref r_ROLES_jump))) (kl_ROLES_jump : K.lookup r_ROLES_jump = some ⟨.type "tuple", dd_ROLES_jump, .seq its_ROLES_jump n_ROLES_jump, sl_ROLES_jump⟩) (kv_ROLES_jump : its_ROLES_jump.toList.map absV = ([.str "target"] : List V).map some)
    (di_ROLES_zero : PySem.W.nsIn K aK_ROLES "zero" = some (some (.ref r_ROLES_zero))) (kl_ROLES_zero : K.lookup r_ROLES_zero = some ⟨.type "tuple", dd_ROLES_zero, .seq its_ROLES_zero n_ROLES_zero, sl_ROLES_zero⟩) (kv_ROLES_zero : its_ROLES_zero.toList.map absV = ([.str "register", .str "target"] : List V).map some)
    (di_ROLES_deed : PySem.W.nsIn K aK_ROLES "deed" = some (some (.ref r_ROLES_deed))) (kl_ROLES_deed : K.lookup r_ROLES_deed = some ⟨.type "tuple", dd_ROLES_deed, .seq its_ROLES_deed n_ROLES_deed, sl_ROLES_deed⟩) (kv_ROLES_deed : its_ROLES_deed.toList.map absV = ([.str "deed"] : List V).map some)
    (ka_WORD : PySem.W.nsIn K mainGlobals "WORD" = some (some (.int 1048576 tk_WORD)))
    (ka_InputError : PySem.W.nsIn K mainGlobals "InputError" = some (some (.ref cc_InputError)))
    (ka_BadNumber : PySem.W.nsIn K mainGlobals "BadNumber" = some (some (.ref cc_BadNumber)))
    (ka_BadProgram : PySem.W.nsIn K mainGlobals "BadProgram" = some (some (.ref cc_BadProgram)))
    (ka_BadSetup : PySem.W.nsIn K mainGlobals "BadSetup" = some (some (.ref cc_BadSetup)))
    (ka_BadRaises : PySem.W.nsIn K mainGlobals "BadRaises" = some (some (.ref cc_BadRaises)))
    (exL_BadProgram : K.lookup cc_BadProgram = some (excClassObj nm_BadProgram q_BadProgram cc_BadProgram N_BadProgram bs_BadProgram bm_BadProgram true sn_BadProgram sub_BadProgram ab_BadProgram col_BadProgram dd_BadProgram k0_BadProgram k1_BadProgram k2_BadProgram k3_BadProgram k5_BadProgram "ValueError.__new__"))
    (exV_BadProgram : PySem.HandSPX.refsVE bm_BadProgram = true)
    (esa_BadProgram : PySem.W.findIn K (.ref cc_BadProgram) "__setattr__" = some (some (.builtin "object.__setattr__")))
    (ega_BadProgram : PySem.W.findIn K (.ref cc_BadProgram) "__getattribute__" = some (some (.builtin "BaseException.__getattribute__")))
    (egg_BadProgram : PySem.W.findIn K (.ref cc_BadProgram) "__getattr__" = some none)
    (enb_BadProgram : PySem.W.findIn K (.ref cc_BadProgram) "index" = some none)
    (efc_BadProgram : PySem.W.findIn K (.ref cc_BadProgram) "__class__" = some (some (.builtin "object.__class__")))
    (eiC_BadProgram : PySem.W.findIn K (.ref cc_BadProgram) "__init__" = some (some (.ref ci_BadProgram)))
    (etC_BadProgram : PySem.W.typeIn K (.ref ci_BadProgram) = some (.type "function"))
    (ekC_BadProgram : PySem.W.keepIn K (.ref cc_BadProgram) = true)
    (eeC_BadProgram : PySem.W.subIn K (.ref cc_BadProgram) (.type "BaseException") = some true)
    (eyC_BadProgram : PySem.W.typeIn K (.ref cc_BadProgram) = some (.type "type"))
    (ehC_BadProgram : PySem.W.hasDictIn K cc_BadProgram = true)
    (ejC_BadProgram : PySem.W.isClsIn K cc_BadProgram = true)
    (esC_BadProgram : PySem.W.subIn K (.ref cc_BadProgram) (.ref cc_BadProgram) = some true)
    (evC_BadProgram : PySem.W.subIn K (.ref cc_BadProgram) (.type "ValueError") = some true)
    (eoC_BadProgram : PySem.W.mroIn K cc_BadProgram (.type "object") = some true)
    (emC_BadProgram : PySem.W.mroIn K cc_BadProgram (.ref cc_BadProgram) = some true)
    (eal_BadProgram : PySem.W.ks_superIn K cc_BadProgram cc_BadProgram "__init__" = some (some (.builtin "ValueError.__init__")))
    (el1_BadProgram : K.lookup ci_BadProgram = some ⟨oc_BadProgram, od_BadProgram, .func (PySem.W.ksFn "__init__" qu_BadProgram (PySem.SupX.iA "index" p1_BadProgram p2_BadProgram) [PySem.SupX.iSup m_BadProgram nn_BadProgram a0_BadProgram a1_BadProgram a2_BadProgram a3_BadProgram a4_BadProgram a5_BadProgram, PySem.SupX.iSt "index" q1_BadProgram q2_BadProgram q3_BadProgram q4_BadProgram] (PySem.SupX.iS "index") .none .none doc_BadProgram pm_BadProgram an_BadProgram (.ref da_BadProgram) ct_BadProgram cl_BadProgram), osl_BadProgram⟩)
    (ec1_BadProgram : PySem.W.codeIn K (.ref da_BadProgram) qu_BadProgram = true)
    (ece_BadProgram : K.lookup cl_BadProgram = some ⟨clv_BadProgram, cld_BadProgram, .cell (some (.ref cc_BadProgram)), csl_BadProgram⟩)
    (ecd_BadProgram : K.lookup da_BadProgram = some ⟨ccl_BadProgram, cdd_BadProgram, .fields vs_BadProgram, ccs_BadProgram⟩)
    (evs_BadProgram : vs_BadProgram[2]? = some (.str fi_BadProgram tf_BadProgram))
    (efi_BadProgram : ((l.prog.main.file : Str) == fi_BadProgram) = true)
    (epl_BadProgram : (a2_BadProgram.endLine == a4_BadProgram.line) = true)
    (ek_InputError_BadProgram : PySem.W.kitOne K (.ref cc_BadProgram) (.ref cc_InputError) = some true)
    (ek_BadNumber_BadProgram : PySem.W.kitOne K (.ref cc_BadProgram) (.ref cc_BadNumber) = some false)
    (ek_BadProgram_BadProgram : PySem.W.kitOne K (.ref cc_BadProgram) (.ref cc_BadProgram) = some true)
    (ek_BadSetup_BadProgram : PySem.W.kitOne K (.ref cc_BadProgram) (.ref cc_BadSetup) = some false)
    (ek_BadRaises_BadProgram : PySem.W.kitOne K (.ref cc_BadProgram) (.ref cc_BadRaises) = some false)
    (ek_Setup_BadProgram : PySem.W.kitOne K (.ref cc_BadProgram) (.ref cc_Setup) = some false)
    (ek_VE_BadProgram : PySem.W.kitOne K (.ref cc_BadProgram) (.type "ValueError") = some true)
    (exL_BadSetup : K.lookup cc_BadSetup = some (excClassObj nm_BadSetup q_BadSetup cc_BadSetup N_BadSetup bs_BadSetup bm_BadSetup true sn_BadSetup sub_BadSetup ab_BadSetup col_BadSetup dd_BadSetup k0_BadSetup k1_BadSetup k2_BadSetup k3_BadSetup k5_BadSetup "ValueError.__new__"))
    (exV_BadSetup : PySem.HandSPX.refsVE bm_BadSetup = true)
    (esa_BadSetup : PySem.W.findIn K (.ref cc_BadSetup) "__setattr__" = some (some (.builtin "object.__setattr__")))
    (ega_BadSetup : PySem.W.findIn K (.ref cc_BadSetup) "__getattribute__" = some (some (.builtin "BaseException.__getattribute__")))
    (egg_BadSetup : PySem.W.findIn K (.ref cc_BadSetup) "__getattr__" = some none)
    (enb_BadSetup : PySem.W.findIn K (.ref cc_BadSetup) "field" = some none)
    (enk_BadSetup : PySem.W.findIn K (.ref cc_BadSetup) "index" = some none)
    (efc_BadSetup : PySem.W.findIn K (.ref cc_BadSetup) "__class__" = some (some (.builtin "object.__class__")))
    (eiC_BadSetup : PySem.W.findIn K (.ref cc_BadSetup) "__init__" = some (some (.ref ci_BadSetup)))
    (etC_BadSetup : PySem.W.typeIn K (.ref ci_BadSetup) = some (.type "function"))
    (ekC_BadSetup : PySem.W.keepIn K (.ref cc_BadSetup) = true)
    (eeC_BadSetup : PySem.W.subIn K (.ref cc_BadSetup) (.type "BaseException") = some true)
    (eyC_BadSetup : PySem.W.typeIn K (.ref cc_BadSetup) = some (.type "type"))
    (ehC_BadSetup : PySem.W.hasDictIn K cc_BadSetup = true)
    (ejC_BadSetup : PySem.W.isClsIn K cc_BadSetup = true)
    (esC_BadSetup : PySem.W.subIn K (.ref cc_BadSetup) (.ref cc_BadSetup) = some true)
    (evC_BadSetup : PySem.W.subIn K (.ref cc_BadSetup) (.type "ValueError") = some true)
    (eoC_BadSetup : PySem.W.mroIn K cc_BadSetup (.type "object") = some true)
    (emC_BadSetup : PySem.W.mroIn K cc_BadSetup (.ref cc_BadSetup) = some true)
    (eal_BadSetup : PySem.W.ks_superIn K cc_BadSetup cc_BadSetup "__init__" = some (some (.builtin "ValueError.__init__")))
    (el1_BadSetup : K.lookup ci_BadSetup = some ⟨oc_BadSetup, od_BadSetup, .func (PySem.W.ksFn "__init__" qu_BadSetup (PySem.SupY.iA "field" "index" p1_BadSetup p2_BadSetup p3_BadSetup) [PySem.SupY.iSup m_BadSetup nn_BadSetup a0_BadSetup a1_BadSetup a2_BadSetup a3_BadSetup a4_BadSetup a5_BadSetup, PySem.SupY.iSt "field" q1_BadSetup q2_BadSetup q3_BadSetup q4_BadSetup, PySem.SupY.iSt "index" r1_BadSetup r2_BadSetup r3_BadSetup r4_BadSetup] (PySem.SupY.iS "field" "index") .none .none doc_BadSetup pm_BadSetup an_BadSetup (.ref da_BadSetup) ct_BadSetup cl_BadSetup), osl_BadSetup⟩)
    (ec1_BadSetup : PySem.W.codeIn K (.ref da_BadSetup) qu_BadSetup = true)
    (ece_BadSetup : K.lookup cl_BadSetup = some ⟨clv_BadSetup, cld_BadSetup, .cell (some (.ref cc_BadSetup)), csl_BadSetup⟩)
    (ecd_BadSetup : K.lookup da_BadSetup = some ⟨ccl_BadSetup, cdd_BadSetup, .fields vs_BadSetup, ccs_BadSetup⟩)
    (evs_BadSetup : vs_BadSetup[2]? = some (.str fi_BadSetup tf_BadSetup))
    (efi_BadSetup : ((l.prog.main.file : Str) == fi_BadSetup) = true)
    (epl_BadSetup : (a2_BadSetup.endLine == a4_BadSetup.line) = true)
    (ek_InputError_BadSetup : PySem.W.kitOne K (.ref cc_BadSetup) (.ref cc_InputError) = some true)
    (ek_BadNumber_BadSetup : PySem.W.kitOne K (.ref cc_BadSetup) (.ref cc_BadNumber) = some false)
    (ek_BadProgram_BadSetup : PySem.W.kitOne K (.ref cc_BadSetup) (.ref cc_BadProgram) = some false)
    (ek_BadSetup_BadSetup : PySem.W.kitOne K (.ref cc_BadSetup) (.ref cc_BadSetup) = some true)
    (ek_BadRaises_BadSetup : PySem.W.kitOne K (.ref cc_BadSetup) (.ref cc_BadRaises) = some false)
    (ek_Setup_BadSetup : PySem.W.kitOne K (.ref cc_BadSetup) (.ref cc_Setup) = some false)
    (ek_VE_BadSetup : PySem.W.kitOne K (.ref cc_BadSetup) (.type "ValueError") = some true)
    (exL_BadRaises : K.lookup cc_BadRaises = some (excClassObj nm_BadRaises q_BadRaises cc_BadRaises N_BadRaises bs_BadRaises bm_BadRaises true sn_BadRaises sub_BadRaises ab_BadRaises col_BadRaises dd_BadRaises k0_BadRaises k1_BadRaises k2_BadRaises k3_BadRaises k5_BadRaises "ValueError.__new__"))
    (exV_BadRaises : PySem.HandSPX.refsVE bm_BadRaises = true)
    (esa_BadRaises : PySem.W.findIn K (.ref cc_BadRaises) "__setattr__" = some (some (.builtin "object.__setattr__")))
    (ega_BadRaises : PySem.W.findIn K (.ref cc_BadRaises) "__getattribute__" = some (some (.builtin "BaseException.__getattribute__")))
    (egg_BadRaises : PySem.W.findIn K (.ref cc_BadRaises) "__getattr__" = some none)
    (enb_BadRaises : PySem.W.findIn K (.ref cc_BadRaises) "index" = some none)
    (efc_BadRaises : PySem.W.findIn K (.ref cc_BadRaises) "__class__" = some (some (.builtin "object.__class__")))
    (eiC_BadRaises : PySem.W.findIn K (.ref cc_BadRaises) "__init__" = some (some (.ref ci_BadRaises)))
    (etC_BadRaises : PySem.W.typeIn K (.ref ci_BadRaises) = some (.type "function"))
    (ekC_BadRaises : PySem.W.keepIn K (.ref cc_BadRaises) = true)
    (eeC_BadRaises : PySem.W.subIn K (.ref cc_BadRaises) (.type "BaseException") = some true)
    (eyC_BadRaises : PySem.W.typeIn K (.ref cc_BadRaises) = some (.type "type"))
    (ehC_BadRaises : PySem.W.hasDictIn K cc_BadRaises = true)
    (ejC_BadRaises : PySem.W.isClsIn K cc_BadRaises = true)
    (esC_BadRaises : PySem.W.subIn K (.ref cc_BadRaises) (.ref cc_BadRaises) = some true)
    (evC_BadRaises : PySem.W.subIn K (.ref cc_BadRaises) (.type "ValueError") = some true)
    (eoC_BadRaises : PySem.W.mroIn K cc_BadRaises (.type "object") = some true)
    (emC_BadRaises : PySem.W.mroIn K cc_BadRaises (.ref cc_BadRaises) = some true)
    (eal_BadRaises : PySem.W.ks_superIn K cc_BadRaises cc_BadRaises "__init__" = some (some (.builtin "ValueError.__init__")))
    (el1_BadRaises : K.lookup ci_BadRaises = some ⟨oc_BadRaises, od_BadRaises, .func (PySem.W.ksFn "__init__" qu_BadRaises (PySem.SupX.iA "index" p1_BadRaises p2_BadRaises) [PySem.SupX.iSup m_BadRaises nn_BadRaises a0_BadRaises a1_BadRaises a2_BadRaises a3_BadRaises a4_BadRaises a5_BadRaises, PySem.SupX.iSt "index" q1_BadRaises q2_BadRaises q3_BadRaises q4_BadRaises] (PySem.SupX.iS "index") .none .none doc_BadRaises pm_BadRaises an_BadRaises (.ref da_BadRaises) ct_BadRaises cl_BadRaises), osl_BadRaises⟩)
    (ec1_BadRaises : PySem.W.codeIn K (.ref da_BadRaises) qu_BadRaises = true)
    (ece_BadRaises : K.lookup cl_BadRaises = some ⟨clv_BadRaises, cld_BadRaises, .cell (some (.ref cc_BadRaises)), csl_BadRaises⟩)
    (ecd_BadRaises : K.lookup da_BadRaises = some ⟨ccl_BadRaises, cdd_BadRaises, .fields vs_BadRaises, ccs_BadRaises⟩)
    (evs_BadRaises : vs_BadRaises[2]? = some (.str fi_BadRaises tf_BadRaises))
    (efi_BadRaises : ((l.prog.main.file : Str) == fi_BadRaises) = true)
    (epl_BadRaises : (a2_BadRaises.endLine == a4_BadRaises.line) = true)
    (ek_InputError_BadRaises : PySem.W.kitOne K (.ref cc_BadRaises) (.ref cc_InputError) = some true)
    (ek_BadNumber_BadRaises : PySem.W.kitOne K (.ref cc_BadRaises) (.ref cc_BadNumber) = some false)
    (ek_BadProgram_BadRaises : PySem.W.kitOne K (.ref cc_BadRaises) (.ref cc_BadProgram) = some false)
    (ek_BadSetup_BadRaises : PySem.W.kitOne K (.ref cc_BadRaises) (.ref cc_BadSetup) = some false)
    (ek_BadRaises_BadRaises : PySem.W.kitOne K (.ref cc_BadRaises) (.ref cc_BadRaises) = some true)
    (ek_Setup_BadRaises : PySem.W.kitOne K (.ref cc_BadRaises) (.ref cc_Setup) = some false)
    (ek_VE_BadRaises : PySem.W.kitOne K (.ref cc_BadRaises) (.type "ValueError") = some true)
    (e_op : PySem.W.nsIn K cStatics "thirdparty.any" = some none) (e_su : PySem.W.nsIn K mainGlobals "super" = some none) (e_top : (l.prog.main.scope.names.lookup (PySem.Str.ofString "super")).isSome = false) (e_sp : PySem.W.specialIn K (.builtin "object.__class__") "__get__" = some (some (.builtin "getset_descriptor.__get__"))) (e_tk : PySem.W.takesIn K (.builtin "object.__class__") = some true)
    (z_ValueError : PySem.W.nsIn K mainGlobals "ValueError" = some none)
    (z_all : PySem.W.nsIn K mainGlobals "all" = some none)
    (z_bool : PySem.W.nsIn K mainGlobals "bool" = some none)
    (z_enumerate : PySem.W.nsIn K mainGlobals "enumerate" = some none)
    (z_int : PySem.W.nsIn K mainGlobals "int" = some none)
    (z_isinstance : PySem.W.nsIn K mainGlobals "isinstance" = some none)
    (z_len : PySem.W.nsIn K mainGlobals "len" = some none)
    (z_list : PySem.W.nsIn K mainGlobals "list" = some none)
    (z_min : PySem.W.nsIn K mainGlobals "min" = some none)
    (z_range : PySem.W.nsIn K mainGlobals "range" = some none)
    (z_sorted : PySem.W.nsIn K mainGlobals "sorted" = some none)
    (z_str : PySem.W.nsIn K mainGlobals "str" = some none)
    (z_tuple : PySem.W.nsIn K mainGlobals "tuple" = some none) :
    ∃ fd : FuncData, (∀ (s : Shared) (v : Value), BindsTo s fd ⟨[v], []⟩ [("script", v)]) ∧ ∀ base : Heap, K.In base → base.Ns mainGlobals mg → FnOk l.prog w K mg base CX0 10 fa fd ["script"] (spLaw K) := by
  have e := hfa.symm.trans (PySem.W.mg_of X G a40)
  cases e
  have F0 := fun_mk (st := s_is_integer) l0 c0 k0
  have F1 := fun_mk (st := s_is_word) l1 c1 k1
  have F2 := fun_mk (st := s_is_kind) l2 c2 k2
  have F3 := fun_mk (st := s_in_order) l3 c3 k3
  have F4 := fun_mk (st := s_is_row) l4 c4 k4
  have F5 := fun_mk (st := s_bound) l5 c5 k5
  have F6 := fun_mk (st := s_fits) l6 c6 k6
  have F7 := fun_mk (st := s_is_instruction) l7 c7 k7
  have F8 := fun_mk (st := s_check_program) l8 c8 k8
  have F9 := fun_mk (st := s_kind_counts) l9 c9 k9
  have F10 := fun_mk (st := s_kind_of) l10 c10 k10
  have F11 := fun_mk (st := s_is_thing) l11 c11 k11
  have F12 := fun_mk (st := s_is_between) l12 c12 k12
  have F13 := fun_mk (st := s_free_price) l13 c13 k13
  have F14 := fun_mk (st := s_least_ticks) l14 c14 k14
  have F15 := fun_mk (st := s_checked_number) l15 c15 k15
  have F16 := fun_mk (st := s_checked_programs) l16 c16 k16
  have F17 := fun_mk (st := s_is_turn) l17 c17 k17
  have F18 := fun_mk (st := s_checked_turns) l18 c18 k18
  have F19 := fun_mk (st := s_checked_quotas) l19 c19 k19
  have F20 := fun_mk (st := s_is_data) l20 c20 k20
  have F21 := fun_mk (st := s_checked_data) l21 c21 k21
  have F22 := fun_mk (st := s_checked_lines) l22 c22 k22
  have F23 := fun_mk (st := s_right_row) l23 c23 k23
  have F24 := fun_mk (st := s_fits_parent) l24 c24 k24
  have F25 := fun_mk (st := s_checked_rights) l25 c25 k25
  have F26 : FunD K "__init__" "Setup.__init__" (defArgs s_Setup__init) (defBody s_Setup__init) (defScope s_Setup__init) [] [("rights", .ref de26_rights), ("quotas", .non), ("data", .non), ("pages", .int 0), ("ports", .int 0), ("bells", .int 0), ("lines", .ref de26_lines), ("slots", .int 8), ("windows", .int 2)] f26 _ := ⟨⟨oc26, od26, .none, .ref kD26, dc26, pm26, an26, cd26, ct26, sl26, rfl, l26, c26, .inl ⟨rfl, rfl⟩, .inr ⟨kD26, rfl, (Lw.kwd_cons ⟨_, kd26_rights, rfl⟩ (Lw.kwd_cons ⟨_, kd26_quotas, rfl⟩ (Lw.kwd_cons ⟨_, kd26_data, rfl⟩ (Lw.kwd_cons ⟨_, kd26_pages, _, rfl⟩ (Lw.kwd_cons ⟨_, kd26_ports, _, rfl⟩ (Lw.kwd_cons ⟨_, kd26_bells, _, rfl⟩ (Lw.kwd_cons ⟨_, kd26_lines, rfl⟩ (Lw.kwd_cons ⟨_, kd26_slots, _, rfl⟩ (Lw.kwd_cons ⟨_, kd26_windows, _, rfl⟩ (fun q hq => by cases hq))))))))))⟩⟩, k26⟩
  obtain ⟨mv26_0, kb26_0⟩ := FunD.kbinds0 (ps := ["self", "programs", "turns", "rights", "quotas", "data", "pages", "ports", "bells", "lines", "slots", "windows"]) F26 3 ["bells", "lines"] [("rights", .ref de26_rights), ("quotas", .non), ("data", .non), ("pages", .int 0), ("ports", .int 0), ("slots", .int 8), ("windows", .int 2)] (fun vs mv zs => vs ++ (mv.drop 0).take 1 ++ (mv.drop 1).take 1 ++ (mv.drop 2).take 1 ++ (mv.drop 3).take 1 ++ (mv.drop 4).take 1 ++ (zs.drop 0).take 1 ++ (zs.drop 1).take 1 ++ (mv.drop 5).take 1 ++ (mv.drop 6).take 1) (fun e => nomatch e) (by intro q hq; simp only [List.mem_cons, List.not_mem_nil, or_false] at hq ⊢; rcases hq with rfl | rfl | rfl | rfl | rfl | rfl | rfl <;> simp) (fun r1 r2 r3 => (((((((((r1.append ((r2.drop 0).take 1)).append ((r2.drop 1).take 1)).append ((r2.drop 2).take 1)).append ((r2.drop 3).take 1)).append ((r2.drop 4).take 1)).append ((r3.drop 0).take 1)).append ((r3.drop 1).take 1)).append ((r2.drop 5).take 1)).append ((r2.drop 6).take 1)))
    (fun D doc pm an cdv ct us mv ws h1 h2 h3 => match us, mv, ws, h1, h2, h3 with | [u0, u1, u2], [m0, m1, m2, m3, m4, m5, m6], [w0, w1], _, _, _ => ⟨_, _, _, _, _, _, rfl, rfl, ⟨_, _, _, _, _, _, rfl, rfl, ⟨_, _, _, _, _, _, rfl, rfl, ⟨_, _, _, _, _, _, rfl, rfl, ⟨_, _, _, _, _, _, rfl, rfl, ⟨_, _, _, _, _, _, rfl, rfl, ⟨_, _, _, _, _, _, rfl, rfl, rfl⟩⟩⟩⟩⟩⟩⟩)
  have F27 := fun_mk (st := s_check_raises) l27 c27 k27
  have F28 := fun_mk (st := s_law_bag) l28 c28 k28
  have F29 := fun_mk (st := s_law_take) l29 c29 k29
  have F30 := fun_mk (st := s_law_same) l30 c30 k30
  have F31 := fun_mk (st := s_law_setup) l31 c31 k31
  have F32 := fun_mk (st := s_law_tick) l32 c32 k32
  have F33 := fun_mk (st := s_law_pairs) l33 c33 k33
  have F34 := fun_mk (st := s_law_refused) l34 c34 k34
  have F35 := fun_mk (st := s_law_let) l35 c35 k35
  have F36 := fun_mk (st := s_law_wrong) l36 c36 k36
  have F37 := fun_mk (st := s_law_asks_wrong) l37 c37 k37
  have F38 := fun_mk (st := s_law_asks_many) l38 c38 k38
  have F39 := fun_mk (st := s_law_asks_other) l39 c39 k39
  have F40 := fun_mk (st := s_law) l40 c40 k40
  have T : Tx l.prog w K mg := {
    c_Setup := cc_Setup, gc_Setup := PySem.W.mg_of X G ka_Setup, cl_Setup := ⟨pg_Setup, hd_Setup, po_Setup, sa_Setup⟩, na_Setup_programs := nf_programs_Setup, na_Setup_slots := nf_slots_Setup, na_Setup_windows := nf_windows_Setup, na_Setup_turns := nf_turns_Setup, na_Setup_quotas := nf_quotas_Setup, na_Setup_data := nf_data_Setup, na_Setup_pages := nf_pages_Setup, na_Setup_ports := nf_ports_Setup, na_Setup_bells := nf_bells_Setup, na_Setup_lines := nf_lines_Setup, na_Setup_rights := nf_rights_Setup,
    f_is_integer := f0, fd_is_integer := _, F_is_integer := F0, b_is_integer := F0.binds (ps := ["value"]) fun _ _ _ _ _ _ us hl => match us, hl with | [_], _ => rfl, g_is_integer := PySem.W.mg_of X G a0,
    f_is_word := f1, fd_is_word := _, F_is_word := F1, b_is_word := F1.binds (ps := ["value"]) fun _ _ _ _ _ _ us hl => match us, hl with | [_], _ => rfl, g_is_word := PySem.W.mg_of X G a1,
    f_is_kind := f2, fd_is_kind := _, F_is_kind := F2, b_is_kind := F2.binds (ps := ["kind"]) fun _ _ _ _ _ _ us hl => match us, hl with | [_], _ => rfl, g_is_kind := PySem.W.mg_of X G a2,
    f_in_order := f3, fd_in_order := _, F_in_order := F3, b_in_order := F3.binds (ps := ["kind", "letters"]) fun _ _ _ _ _ _ us hl => match us, hl with | [_, _], _ => rfl, g_in_order := PySem.W.mg_of X G a3,
    f_is_row := f4, fd_is_row := _, F_is_row := F4, b_is_row := F4.binds (ps := ["value"]) fun _ _ _ _ _ _ us hl => match us, hl with | [_], _ => rfl, g_is_row := PySem.W.mg_of X G a4,
    f_bound := f5, fd_bound := _, F_bound := F5, b_bound := F5.binds (ps := ["role", "length"]) fun _ _ _ _ _ _ us hl => match us, hl with | [_, _], _ => rfl, g_bound := PySem.W.mg_of X G a5,
    f_fits := f6, fd_fits := _, F_fits := F6, b_fits := F6.binds (ps := ["part", "role", "length"]) fun _ _ _ _ _ _ us hl => match us, hl with | [_, _, _], _ => rfl, g_fits := PySem.W.mg_of X G a6,
    f_is_instruction := f7, fd_is_instruction := _, F_is_instruction := F7, b_is_instruction := F7.binds (ps := ["item", "length"]) fun _ _ _ _ _ _ us hl => match us, hl with | [_, _], _ => rfl, g_is_instruction := PySem.W.mg_of X G a7,
    f_check_program := f8, fd_check_program := _, F_check_program := F8, b_check_program := F8.binds (ps := ["value"]) fun _ _ _ _ _ _ us hl => match us, hl with | [_], _ => rfl, g_check_program := PySem.W.mg_of X G a8,
    f_kind_counts := f9, fd_kind_counts := _, F_kind_counts := F9, b_kind_counts := F9.binds (ps := ["setup"]) fun _ _ _ _ _ _ us hl => match us, hl with | [_], _ => rfl, g_kind_counts := PySem.W.mg_of X G a9,
    f_kind_of := f10, fd_kind_of := _, F_kind_of := F10, b_kind_of := F10.binds (ps := ["thing"]) fun _ _ _ _ _ _ us hl => match us, hl with | [_], _ => rfl, g_kind_of := PySem.W.mg_of X G a10,
    f_is_thing := f11, fd_is_thing := _, F_is_thing := F11, b_is_thing := F11.binds (ps := ["setup", "thing"]) fun _ _ _ _ _ _ us hl => match us, hl with | [_, _], _ => rfl, g_is_thing := PySem.W.mg_of X G a11,
    f_is_between := f12, fd_is_between := _, F_is_between := F12, b_is_between := F12.binds (ps := ["value", "low", "high"]) fun _ _ _ _ _ _ us hl => match us, hl with | [_, _, _], _ => rfl, g_is_between := PySem.W.mg_of X G a12,
    f_free_price := f13, fd_free_price := _, F_free_price := F13, b_free_price := F13.binds (ps := ["processes", "slots", "windows"]) fun _ _ _ _ _ _ us hl => match us, hl with | [_, _, _], _ => rfl, g_free_price := PySem.W.mg_of X G a13,
    f_least_ticks := f14, fd_least_ticks := _, F_least_ticks := F14, b_least_ticks := F14.binds (ps := ["processes", "slots", "windows"]) fun _ _ _ _ _ _ us hl => match us, hl with | [_, _, _], _ => rfl, g_least_ticks := PySem.W.mg_of X G a14,
    f_checked_number := f15, fd_checked_number := _, F_checked_number := F15, b_checked_number := F15.binds (ps := ["field", "value", "low", "high"]) fun _ _ _ _ _ _ us hl => match us, hl with | [_, _, _, _], _ => rfl, g_checked_number := PySem.W.mg_of X G a15,
    f_checked_programs := f16, fd_checked_programs := _, F_checked_programs := F16, b_checked_programs := F16.binds (ps := ["programs"]) fun _ _ _ _ _ _ us hl => match us, hl with | [_], _ => rfl, g_checked_programs := PySem.W.mg_of X G a16,
    f_is_turn := f17, fd_is_turn := _, F_is_turn := F17, b_is_turn := F17.binds (ps := ["value", "processes", "least"]) fun _ _ _ _ _ _ us hl => match us, hl with | [_, _, _], _ => rfl, g_is_turn := PySem.W.mg_of X G a17,
    f_checked_turns := f18, fd_checked_turns := _, F_checked_turns := F18, b_checked_turns := F18.binds (ps := ["turns", "processes", "least"]) fun _ _ _ _ _ _ us hl => match us, hl with | [_, _, _], _ => rfl, g_checked_turns := PySem.W.mg_of X G a18,
    f_checked_quotas := f19, fd_checked_quotas := _, F_checked_quotas := F19, b_checked_quotas := F19.binds (ps := ["quotas", "processes"]) fun _ _ _ _ _ _ us hl => match us, hl with | [_, _], _ => rfl, g_checked_quotas := PySem.W.mg_of X G a19,
    f_is_data := f20, fd_is_data := _, F_is_data := F20, b_is_data := F20.binds (ps := ["value"]) fun _ _ _ _ _ _ us hl => match us, hl with | [_], _ => rfl, g_is_data := PySem.W.mg_of X G a20,
    f_checked_data := f21, fd_checked_data := _, F_checked_data := F21, b_checked_data := F21.binds (ps := ["data", "processes"]) fun _ _ _ _ _ _ us hl => match us, hl with | [_, _], _ => rfl, g_checked_data := PySem.W.mg_of X G a21,
    f_checked_lines := f22, fd_checked_lines := _, F_checked_lines := F22, b_checked_lines := F22.binds (ps := ["lines", "bells"]) fun _ _ _ _ _ _ us hl => match us, hl with | [_, _], _ => rfl, g_checked_lines := PySem.W.mg_of X G a22,
    f_right_row := f23, fd_right_row := _, F_right_row := F23, b_right_row := F23.binds (ps := ["setup", "value"]) fun _ _ _ _ _ _ us hl => match us, hl with | [_, _], _ => rfl, g_right_row := PySem.W.mg_of X G a23,
    f_fits_parent := f24, fd_fits_parent := _, F_fits_parent := F24, b_fits_parent := F24.binds (ps := ["row", "earlier"]) fun _ _ _ _ _ _ us hl => match us, hl with | [_, _], _ => rfl, g_fits_parent := PySem.W.mg_of X G a24,
    f_checked_rights := f25, fd_checked_rights := _, F_checked_rights := F25, b_checked_rights := F25.binds (ps := ["setup", "rights"]) fun _ _ _ _ _ _ us hl => match us, hl with | [_, _], _ => rfl, g_checked_rights := PySem.W.mg_of X G a25,
    e_Setup__init_rights := de26_rights, K_e_Setup__init_rights := ⟨fun H => sqt_k ke26_rights kf26_rights (by decide) H, _, ke26_rights, rfl⟩,
    e_Setup__init_lines := de26_lines, K_e_Setup__init_lines := ⟨fun H => sqt_k ke26_lines kf26_lines (by decide) H, _, ke26_lines, rfl⟩,
    f_Setup__init := f26, fd_Setup__init := _, F_Setup__init := F26,
    gk_Setup_0 := _, kb_Setup_0 := kb26_0,
    mk_Setup := ⟨mi_Setup, a26, i26, kq_Setup⟩,
    f_check_raises := f27, fd_check_raises := _, F_check_raises := F27, b_check_raises := F27.binds (ps := ["setup", "raises"]) fun _ _ _ _ _ _ us hl => match us, hl with | [_, _], _ => rfl, g_check_raises := PySem.W.mg_of X G a27,
    f_law_bag := f28, fd_law_bag := _, F_law_bag := F28, b_law_bag := F28.binds (ps := ["script"]) fun _ _ _ _ _ _ us hl => match us, hl with | [_], _ => rfl, g_law_bag := PySem.W.mg_of X G a28,
    f_law_take := f29, fd_law_take := _, F_law_take := F29, b_law_take := F29.binds (ps := ["bag", "many"]) fun _ _ _ _ _ _ us hl => match us, hl with | [_, _], _ => rfl, g_law_take := PySem.W.mg_of X G a29,
    f_law_same := f30, fd_law_same := _, F_law_same := F30, b_law_same := F30.binds (ps := ["told", "due"]) fun _ _ _ _ _ _ us hl => match us, hl with | [_, _], _ => rfl, g_law_same := PySem.W.mg_of X G a30,
    f_law_setup := f31, fd_law_setup := _, F_law_setup := F31, b_law_setup := F31.binds (ps := ["bag", "count"]) fun _ _ _ _ _ _ us hl => match us, hl with | [_, _], _ => rfl, g_law_setup := PySem.W.mg_of X G a31,
    f_law_tick := f32, fd_law_tick := _, F_law_tick := F32, b_law_tick := F32.binds (ps := ["bag"]) fun _ _ _ _ _ _ us hl => match us, hl with | [_], _ => rfl, g_law_tick := PySem.W.mg_of X G a32,
    f_law_pairs := f33, fd_law_pairs := _, F_law_pairs := F33, b_law_pairs := F33.binds (ps := ["bag", "count", "size"]) fun _ _ _ _ _ _ us hl => match us, hl with | [_, _, _], _ => rfl, g_law_pairs := PySem.W.mg_of X G a33,
    f_law_refused := f34, fd_law_refused := _, F_law_refused := F34, b_law_refused := F34.binds (ps := ["setup", "handed", "index"]) fun _ _ _ _ _ _ us hl => match us, hl with | [_, _, _], _ => rfl, g_law_refused := PySem.W.mg_of X G a34,
    f_law_let := f35, fd_law_let := _, F_law_let := F35, b_law_let := F35.binds (ps := ["setup", "pairs"]) fun _ _ _ _ _ _ us hl => match us, hl with | [_, _], _ => rfl, g_law_let := PySem.W.mg_of X G a35,
    f_law_wrong := f36, fd_law_wrong := _, F_law_wrong := F36, b_law_wrong := F36.binds (ps := ["bag", "count", "front"]) fun _ _ _ _ _ _ us hl => match us, hl with | [_, _, _], _ => rfl, g_law_wrong := PySem.W.mg_of X G a36,
    f_law_asks_wrong := f37, fd_law_asks_wrong := _, F_law_asks_wrong := F37, b_law_asks_wrong := F37.binds (ps := ["bag", "setup", "count", "pairs"]) fun _ _ _ _ _ _ us hl => match us, hl with | [_, _, _, _], _ => rfl, g_law_asks_wrong := PySem.W.mg_of X G a37,
    f_law_asks_many := f38, fd_law_asks_many := _, F_law_asks_many := F38, b_law_asks_many := F38.binds (ps := ["bag", "setup", "count"]) fun _ _ _ _ _ _ us hl => match us, hl with | [_, _, _], _ => rfl, g_law_asks_many := PySem.W.mg_of X G a38,
    f_law_asks_other := f39, fd_law_asks_other := _, F_law_asks_other := F39, b_law_asks_other := F39.binds (ps := ["bag", "count", "pairs"]) fun _ _ _ _ _ _ us hl => match us, hl with | [_, _, _], _ => rfl, g_law_asks_other := PySem.W.mg_of X G a39,
    a_DEEDS := aK_DEEDS, g_DEEDS := PySem.W.mg_of X G ka_DEEDS, q_DEEDS := fun H => sqt_k kl_DEEDS kv_DEEDS (by decide) H,
    t_GREATEST_TICK := tk_GREATEST_TICK, g_GREATEST_TICK := PySem.W.mg_of X G ka_GREATEST_TICK,
    a_LETTERS := aK_LETTERS, es_LETTERS := es_LETTERS, n_LETTERS := n_LETTERS, g_LETTERS := PySem.W.mg_of X G ka_LETTERS, D_LETTERS := ⟨kl_LETTERS, kk_LETTERS, kz_LETTERS⟩, x_LETTERS := fun z hz => Lw.ns_miss kl_LETTERS kq_LETTERS hz, t_LETTERS_page := tk_LETTERS_page, i_LETTERS_page := di_LETTERS_page, t_LETTERS_claim := tk_LETTERS_claim, i_LETTERS_claim := di_LETTERS_claim, t_LETTERS_port := tk_LETTERS_port, i_LETTERS_port := di_LETTERS_port, t_LETTERS_bell := tk_LETTERS_bell, i_LETTERS_bell := di_LETTERS_bell, t_LETTERS_line := tk_LETTERS_line, i_LETTERS_line := di_LETTERS_line, t_LETTERS_process := tk_LETTERS_process, i_LETTERS_process := di_LETTERS_process,
    t_LONGEST := tk_LONGEST, g_LONGEST := PySem.W.mg_of X G ka_LONGEST,
    t_MOST_BELLS := tk_MOST_BELLS, g_MOST_BELLS := PySem.W.mg_of X G ka_MOST_BELLS,
    t_MOST_CLAIMS := tk_MOST_CLAIMS, g_MOST_CLAIMS := PySem.W.mg_of X G ka_MOST_CLAIMS,
    t_MOST_DATA := tk_MOST_DATA, g_MOST_DATA := PySem.W.mg_of X G ka_MOST_DATA,
    t_MOST_LINES := tk_MOST_LINES, g_MOST_LINES := PySem.W.mg_of X G ka_MOST_LINES,
    t_MOST_PAGES := tk_MOST_PAGES, g_MOST_PAGES := PySem.W.mg_of X G ka_MOST_PAGES,
    t_MOST_PORTS := tk_MOST_PORTS, g_MOST_PORTS := PySem.W.mg_of X G ka_MOST_PORTS,
    t_MOST_PROCESSES := tk_MOST_PROCESSES, g_MOST_PROCESSES := PySem.W.mg_of X G ka_MOST_PROCESSES,
    t_MOST_RAISES := tk_MOST_RAISES, g_MOST_RAISES := PySem.W.mg_of X G ka_MOST_RAISES,
    t_MOST_SLOTS := tk_MOST_SLOTS, g_MOST_SLOTS := PySem.W.mg_of X G ka_MOST_SLOTS,
    t_MOST_TICKS := tk_MOST_TICKS, g_MOST_TICKS := PySem.W.mg_of X G ka_MOST_TICKS,
    t_MOST_TURNS := tk_MOST_TURNS, g_MOST_TURNS := PySem.W.mg_of X G ka_MOST_TURNS,
    t_MOST_WINDOWS := tk_MOST_WINDOWS, g_MOST_WINDOWS := PySem.W.mg_of X G ka_MOST_WINDOWS,
    t_REGISTERS := tk_REGISTERS, g_REGISTERS := PySem.W.mg_of X G ka_REGISTERS,
    a_ROLES := aK_ROLES, es_ROLES := es_ROLES, n_ROLES := n_ROLES, g_ROLES := PySem.W.mg_of X G ka_ROLES, D_ROLES := ⟨kl_ROLES, kk_ROLES, kz_ROLES⟩, x_ROLES := fun z hz => Lw.ns_miss kl_ROLES kq_ROLES hz, r_ROLES_set := r_ROLES_set, i_ROLES_set := di_ROLES_set, q_ROLES_set := fun H => sqt_k kl_ROLES_set kv_ROLES_set (by decide) H, r_ROLES_move := r_ROLES_move, i_ROLES_move := di_ROLES_move, q_ROLES_move := fun H => sqt_k kl_ROLES_move kv_ROLES_move (by decide) H, r_ROLES_add := r_ROLES_add, i_ROLES_add := di_ROLES_add, q_ROLES_add := fun H => sqt_k kl_ROLES_add kv_ROLES_add (by decide) H, r_ROLES_sub := r_ROLES_sub, i_ROLES_sub := di_ROLES_sub, q_ROLES_sub := fun H => sqt_k kl_ROLES_sub kv_ROLES_sub (by decide) H, r_ROLES_load := r_ROLES_load, i_ROLES_load := di_ROLES_load, q_ROLES_load := fun H => sqt_k kl_ROLES_load kv_ROLES_load (by decide) H, r_ROLES_store := r_ROLES_store, i_ROLES_store := di_ROLES_store, q_ROLES_store := fun H => sqt_k kl_ROLES_store kv_ROLES_store (by decide) H, r_ROLES_jump := r_ROLES_jump, i_ROLES_jump := di_ROLES_jump, q_ROLES_jump := fun H => sqt_k kl_ROLES_jump kv_ROLES_jump (by decide) H, r_ROLES_zero := r_ROLES_zero, i_ROLES_zero := di_ROLES_zero, q_ROLES_zero := fun H => sqt_k kl_ROLES_zero kv_ROLES_zero (by decide) H, r_ROLES_deed := r_ROLES_deed, i_ROLES_deed := di_ROLES_deed, q_ROLES_deed := fun H => sqt_k kl_ROLES_deed kv_ROLES_deed (by decide) H,
    t_WORD := tk_WORD, g_WORD := PySem.W.mg_of X G ka_WORD,
    c_InputError := cc_InputError, gc_InputError := PySem.W.mg_of X G ka_InputError,
    c_BadNumber := cc_BadNumber, gc_BadNumber := PySem.W.mg_of X G ka_BadNumber,
    c_BadProgram := cc_BadProgram, gc_BadProgram := PySem.W.mg_of X G ka_BadProgram,
    i_BadProgram := ci_BadProgram, S_BadProgram := ⟨PySem.W.mg_of X G ka_BadProgram, ⟨by decide, by decide, by decide, by decide, by decide⟩, ⟨nm_BadProgram, q_BadProgram, N_BadProgram, bs_BadProgram, bm_BadProgram, sn_BadProgram, sub_BadProgram, ab_BadProgram, col_BadProgram, dd_BadProgram, k0_BadProgram, k1_BadProgram, k2_BadProgram, k3_BadProgram, k5_BadProgram, exL_BadProgram, exV_BadProgram⟩, esa_BadProgram, ega_BadProgram, egg_BadProgram, enb_BadProgram, eiC_BadProgram, etC_BadProgram, ekC_BadProgram, eeC_BadProgram, eyC_BadProgram, ehC_BadProgram, e_op, eal_BadProgram, evC_BadProgram, emC_BadProgram, e_su, e_top, ⟨_, _, _, _, _, _, _, _, _, _, _, _, _, _, _, _, _, _, _, _, _, _, _, _, el1_BadProgram, ec1_BadProgram, epl_BadProgram, fun s u v => .of_eq rfl, ⟨_, _, _, ece_BadProgram⟩, ⟨_, _, _, _, _, _, ecd_BadProgram, evs_BadProgram, efi_BadProgram⟩⟩⟩,
    I_BadProgram := ⟨ejC_BadProgram, ega_BadProgram, egg_BadProgram, eeC_BadProgram, efc_BadProgram, e_sp, e_tk, eoC_BadProgram⟩, m_BadProgram := Lw.exm_own eeC_BadProgram ejC_BadProgram eyC_BadProgram esC_BadProgram,
    k_BadProgram_InputError := ek_InputError_BadProgram,
    k_BadProgram_BadNumber := ek_BadNumber_BadProgram,
    k_BadProgram_BadProgram := ek_BadProgram_BadProgram,
    k_BadProgram_BadSetup := ek_BadSetup_BadProgram,
    k_BadProgram_BadRaises := ek_BadRaises_BadProgram,
    k_BadProgram_Setup := ek_Setup_BadProgram,
    k_BadProgram_ValueError := ek_VE_BadProgram,
    c_BadSetup := cc_BadSetup, gc_BadSetup := PySem.W.mg_of X G ka_BadSetup,
    i_BadSetup := ci_BadSetup, S_BadSetup := ⟨PySem.W.mg_of X G ka_BadSetup, ⟨⟨by decide, by decide, by decide, by decide, by decide⟩, ⟨by decide, by decide, by decide, by decide, by decide⟩, by decide, by decide, by decide⟩, ⟨nm_BadSetup, q_BadSetup, N_BadSetup, bs_BadSetup, bm_BadSetup, sn_BadSetup, sub_BadSetup, ab_BadSetup, col_BadSetup, dd_BadSetup, k0_BadSetup, k1_BadSetup, k2_BadSetup, k3_BadSetup, k5_BadSetup, exL_BadSetup, exV_BadSetup⟩, esa_BadSetup, ega_BadSetup, egg_BadSetup, enb_BadSetup, enk_BadSetup, eiC_BadSetup, etC_BadSetup, ekC_BadSetup, eeC_BadSetup, eyC_BadSetup, ehC_BadSetup, e_op, eal_BadSetup, evC_BadSetup, emC_BadSetup, e_su, e_top, ⟨_, _, _, _, _, _, _, _, _, _, _, _, _, _, _, _, _, _, _, _, _, _, _, _, _, _, _, _, _, el1_BadSetup, ec1_BadSetup, epl_BadSetup, fun s u v v2 => .of_eq rfl, ⟨_, _, _, ece_BadSetup⟩, ⟨_, _, _, _, _, _, ecd_BadSetup, evs_BadSetup, efi_BadSetup⟩⟩⟩,
    I_BadSetup := ⟨ejC_BadSetup, ega_BadSetup, egg_BadSetup, eeC_BadSetup, efc_BadSetup, e_sp, e_tk, eoC_BadSetup⟩, m_BadSetup := Lw.exm_own eeC_BadSetup ejC_BadSetup eyC_BadSetup esC_BadSetup,
    k_BadSetup_InputError := ek_InputError_BadSetup,
    k_BadSetup_BadNumber := ek_BadNumber_BadSetup,
    k_BadSetup_BadProgram := ek_BadProgram_BadSetup,
    k_BadSetup_BadSetup := ek_BadSetup_BadSetup,
    k_BadSetup_BadRaises := ek_BadRaises_BadSetup,
    k_BadSetup_Setup := ek_Setup_BadSetup,
    k_BadSetup_ValueError := ek_VE_BadSetup,
    c_BadRaises := cc_BadRaises, gc_BadRaises := PySem.W.mg_of X G ka_BadRaises,
    i_BadRaises := ci_BadRaises, S_BadRaises := ⟨PySem.W.mg_of X G ka_BadRaises, ⟨by decide, by decide, by decide, by decide, by decide⟩, ⟨nm_BadRaises, q_BadRaises, N_BadRaises, bs_BadRaises, bm_BadRaises, sn_BadRaises, sub_BadRaises, ab_BadRaises, col_BadRaises, dd_BadRaises, k0_BadRaises, k1_BadRaises, k2_BadRaises, k3_BadRaises, k5_BadRaises, exL_BadRaises, exV_BadRaises⟩, esa_BadRaises, ega_BadRaises, egg_BadRaises, enb_BadRaises, eiC_BadRaises, etC_BadRaises, ekC_BadRaises, eeC_BadRaises, eyC_BadRaises, ehC_BadRaises, e_op, eal_BadRaises, evC_BadRaises, emC_BadRaises, e_su, e_top, ⟨_, _, _, _, _, _, _, _, _, _, _, _, _, _, _, _, _, _, _, _, _, _, _, _, el1_BadRaises, ec1_BadRaises, epl_BadRaises, fun s u v => .of_eq rfl, ⟨_, _, _, ece_BadRaises⟩, ⟨_, _, _, _, _, _, ecd_BadRaises, evs_BadRaises, efi_BadRaises⟩⟩⟩,
    I_BadRaises := ⟨ejC_BadRaises, ega_BadRaises, egg_BadRaises, eeC_BadRaises, efc_BadRaises, e_sp, e_tk, eoC_BadRaises⟩, m_BadRaises := Lw.exm_own eeC_BadRaises ejC_BadRaises eyC_BadRaises esC_BadRaises,
    k_BadRaises_InputError := ek_InputError_BadRaises,
    k_BadRaises_BadNumber := ek_BadNumber_BadRaises,
    k_BadRaises_BadProgram := ek_BadProgram_BadRaises,
    k_BadRaises_BadSetup := ek_BadSetup_BadRaises,
    k_BadRaises_BadRaises := ek_BadRaises_BadRaises,
    k_BadRaises_Setup := ek_Setup_BadRaises,
    k_BadRaises_ValueError := ek_VE_BadRaises,
    n_ValueError := PySem.W.mg_none_of X G z_ValueError,
    n_all := PySem.W.mg_none_of X G z_all,
    n_bool := PySem.W.mg_none_of X G z_bool,
    n_enumerate := PySem.W.mg_none_of X G z_enumerate,
    n_int := PySem.W.mg_none_of X G z_int,
    n_isinstance := PySem.W.mg_none_of X G z_isinstance,
    n_len := PySem.W.mg_none_of X G z_len,
    n_list := PySem.W.mg_none_of X G z_list,
    n_min := PySem.W.mg_none_of X G z_min,
    n_range := PySem.W.mg_none_of X G z_range,
    n_sorted := PySem.W.mg_none_of X G z_sorted,
    n_str := PySem.W.mg_none_of X G z_str,
    n_tuple := PySem.W.mg_none_of X G z_tuple }
  exact ⟨PySem.W.fnOf "law" "law" (defArgs s_law) (defBody s_law) (defScope s_law) .none kV40 dc40 pm40 an40 cd40 ct40, fun s v => .of_eq rfl, fun base _ _ => ok_law_at T F40⟩
end K09

open PySem PySem.W PyProof.Rows in
set_option maxRecDepth 100000 in
set_option maxHeartbeats 0 in
theorem PySem.Challenge.cw_capstead_k09_raises_checked_holds : PySem.Challenge.rw_capstead_k09_raises_checked.Holds := by
  w_on; o_law; k_head; (case hw => w_witness2)
  k_fill
  refine L2.walk_ofK (l := PySem.Challenge.rw_capstead_k09_raises_checked) (n := 63) (k := 10) (x := "script") (CX := L2.CX0) (sp := K09.spLaw) rfl (by decide) rfl ⟨rfl, by decide, by decide⟩ (fun w h Y => PySem.W.kIn_of Y) ?F (fun _ _ a ns hl _ hS => ⟨a, ns, rfl, hS, hl, fun _ => rfl⟩) fun _ _ _ _ z => z
  case F =>
    intro w mg fa h KX G hmg
    refine' K09.all_mk KX G hmg ?ka_Setup ?pg_Setup ?hd_Setup ?po_Setup ?sa_Setup ?mi_Setup ?kq_Setup ?nf_programs_Setup ?nf_slots_Setup ?nf_windows_Setup ?nf_turns_Setup ?nf_quotas_Setup ?nf_data_Setup ?nf_pages_Setup ?nf_ports_Setup ?nf_bells_Setup ?nf_lines_Setup ?nf_rights_Setup ?a0 ?l0 ?c0 ?k0 ?a1 ?l1 ?c1 ?k1 ?a2 ?l2 ?c2 ?k2 ?a3 ?l3 ?c3 ?k3 ?a4 ?l4 ?c4 ?k4 ?a5 ?l5 ?c5 ?k5 ?a6 ?l6 ?c6 ?k6 ?a7 ?l7 ?c7 ?k7 ?a8 ?l8 ?c8 ?k8 ?a9 ?l9 ?c9 ?k9 ?a10 ?l10 ?c10 ?k10 ?a11 ?l11 ?c11 ?k11 ?a12 ?l12 ?c12 ?k12 ?a13 ?l13 ?c13 ?k13 ?a14 ?l14 ?c14 ?k14 ?a15 ?l15 ?c15 ?k15 ?a16 ?l16 ?c16 ?k16 ?a17 ?l17 ?c17 ?k17 ?a18 ?l18 ?c18 ?k18 ?a19 ?l19 ?c19 ?k19 ?a20 ?l20 ?c20 ?k20 ?a21 ?l21 ?c21 ?k21 ?a22 ?l22 ?c22 ?k22 ?a23 ?l23 ?c23 ?k23 ?a24 ?l24 ?c24 ?k24 ?a25 ?l25 ?c25 ?k25 ?a26 ?l26 ?c26 ?k26 ?i26 ?kd26_rights ?ke26_rights ?kf26_rights ?kd26_quotas ?kd26_data ?kd26_pages ?kd26_ports ?kd26_bells ?kd26_lines ?ke26_lines ?kf26_lines ?kd26_slots ?kd26_windows ?a27 ?l27 ?c27 ?k27 ?a28 ?l28 ?c28 ?k28 ?a29 ?l29 ?c29 ?k29 ?a30 ?l30 ?c30 ?k30 ?a31 ?l31 ?c31 ?k31 ?a32 ?l32 ?c32 ?k32 ?a33 ?l33 ?c33 ?k33 ?a34 ?l34 ?c34 ?k34 ?a35 ?l35 ?c35 ?k35 ?a36 ?l36 ?c36 ?k36 ?a37 ?l37 ?c37 ?k37 ?a38 ?l38 ?c38 ?k38 ?a39 ?l39 ?c39 ?k39 ?a40 ?l40 ?c40 ?k40 ?ka_DEEDS ?kl_DEEDS ?kv_DEEDS ?ka_GREATEST_TICK ?ka_LETTERS ?kl_LETTERS ?kk_LETTERS ?kz_LETTERS ?kq_LETTERS ?di_LETTERS_page ?di_LETTERS_claim ?di_LETTERS_port ?di_LETTERS_bell ?di_LETTERS_line ?di_LETTERS_process ?ka_LONGEST ?ka_MOST_BELLS ?ka_MOST_CLAIMS ?ka_MOST_DATA ?ka_MOST_LINES ?ka_MOST_PAGES ?ka_MOST_PORTS ?ka_MOST_PROCESSES ?ka_MOST_RAISES ?ka_MOST_SLOTS ?ka_MOST_TICKS ?ka_MOST_TURNS ?ka_MOST_WINDOWS ?ka_REGISTERS ?ka_ROLES ?kl_ROLES ?kk_ROLES ?kz_ROLES ?kq_ROLES ?di_ROLES_set ?kl_ROLES_set ?kv_ROLES_set ?di_ROLES_move ?kl_ROLES_move ?kv_ROLES_move ?di_ROLES_add ?kl_ROLES_add ?kv_ROLES_add ?di_ROLES_sub ?kl_ROLES_sub ?kv_ROLES_sub ?di_ROLES_load ?kl_ROLES_load ?kv_ROLES_load ?di_ROLES_store ?kl_ROLES_store ?kv_ROLES_store ?di_ROLES_jump ?kl_ROLES_jump ?kv_ROLES_jump ?di_ROLES_zero ?kl_ROLES_zero ?kv_ROLES_zero ?di_ROLES_deed ?kl_ROLES_deed ?kv_ROLES_deed ?ka_WORD ?ka_InputError ?ka_BadNumber ?ka_BadProgram ?ka_BadSetup ?ka_BadRaises ?exL_BadProgram ?exV_BadProgram ?esa_BadProgram ?ega_BadProgram ?egg_BadProgram ?enb_BadProgram ?efc_BadProgram ?eiC_BadProgram ?etC_BadProgram ?ekC_BadProgram ?eeC_BadProgram ?eyC_BadProgram ?ehC_BadProgram ?ejC_BadProgram ?esC_BadProgram ?evC_BadProgram ?eoC_BadProgram ?emC_BadProgram ?eal_BadProgram ?el1_BadProgram ?ec1_BadProgram ?ece_BadProgram ?ecd_BadProgram ?evs_BadProgram ?efi_BadProgram ?epl_BadProgram ?ek_InputError_BadProgram ?ek_BadNumber_BadProgram ?ek_BadProgram_BadProgram ?ek_BadSetup_BadProgram ?ek_BadRaises_BadProgram ?ek_Setup_BadProgram ?ek_VE_BadProgram ?exL_BadSetup ?exV_BadSetup ?esa_BadSetup ?ega_BadSetup ?egg_BadSetup ?enb_BadSetup ?enk_BadSetup ?efc_BadSetup ?eiC_BadSetup ?etC_BadSetup ?ekC_BadSetup ?eeC_BadSetup ?eyC_BadSetup ?ehC_BadSetup ?ejC_BadSetup ?esC_BadSetup ?evC_BadSetup ?eoC_BadSetup ?emC_BadSetup ?eal_BadSetup ?el1_BadSetup ?ec1_BadSetup ?ece_BadSetup ?ecd_BadSetup ?evs_BadSetup ?efi_BadSetup ?epl_BadSetup ?ek_InputError_BadSetup ?ek_BadNumber_BadSetup ?ek_BadProgram_BadSetup ?ek_BadSetup_BadSetup ?ek_BadRaises_BadSetup ?ek_Setup_BadSetup ?ek_VE_BadSetup ?exL_BadRaises ?exV_BadRaises ?esa_BadRaises ?ega_BadRaises ?egg_BadRaises ?enb_BadRaises ?efc_BadRaises ?eiC_BadRaises ?etC_BadRaises ?ekC_BadRaises ?eeC_BadRaises ?eyC_BadRaises ?ehC_BadRaises ?ejC_BadRaises ?esC_BadRaises ?evC_BadRaises ?eoC_BadRaises ?emC_BadRaises ?eal_BadRaises ?el1_BadRaises ?ec1_BadRaises ?ece_BadRaises ?ecd_BadRaises ?evs_BadRaises ?efi_BadRaises ?epl_BadRaises ?ek_InputError_BadRaises ?ek_BadNumber_BadRaises ?ek_BadProgram_BadRaises ?ek_BadSetup_BadRaises ?ek_BadRaises_BadRaises ?ek_Setup_BadRaises ?ek_VE_BadRaises ?e_op ?e_su ?e_top ?e_sp ?e_tk ?z_ValueError ?z_all ?z_bool ?z_enumerate ?z_int ?z_isinstance ?z_len ?z_list ?z_min ?z_range ?z_sorted ?z_str ?z_tuple
    (case ka_Setup => k_is)
    (case pg_Setup => k_is)
    (case hd_Setup => k_is)
    (case po_Setup => k_is)
    (case sa_Setup => k_is)
    (case mi_Setup => k_is)
    (case kq_Setup => k_is)
    (case nf_programs_Setup => k_is)
    (case nf_slots_Setup => k_is)
    (case nf_windows_Setup => k_is)
    (case nf_turns_Setup => k_is)
    (case nf_quotas_Setup => k_is)
    (case nf_data_Setup => k_is)
    (case nf_pages_Setup => k_is)
    (case nf_ports_Setup => k_is)
    (case nf_bells_Setup => k_is)
    (case nf_lines_Setup => k_is)
    (case nf_rights_Setup => k_is)
    (case a0 => k_is)
    (case l0 => k_is)
    (case c0 => k_is)
    (case k0 => k_is)
    (case a1 => k_is)
    (case l1 => k_is)
    (case c1 => k_is)
    (case k1 => k_is)
    (case a2 => k_is)
    (case l2 => k_is)
    (case c2 => k_is)
    (case k2 => k_is)
    (case a3 => k_is)
    (case l3 => k_is)
    (case c3 => k_is)
    (case k3 => k_is)
    (case a4 => k_is)
    (case l4 => k_is)
    (case c4 => k_is)
    (case k4 => k_is)
    (case a5 => k_is)
    (case l5 => k_is)
    (case c5 => k_is)
    (case k5 => k_is)
    (case a6 => k_is)
    (case l6 => k_is)
    (case c6 => k_is)
    (case k6 => k_is)
    (case a7 => k_is)
    (case l7 => k_is)
    (case c7 => k_is)
    (case k7 => k_is)
    (case a8 => k_is)
    (case l8 => k_is)
    (case c8 => k_is)
    (case k8 => k_is)
    (case a9 => k_is)
    (case l9 => k_is)
    (case c9 => k_is)
    (case k9 => k_is)
    (case a10 => k_is)
    (case l10 => k_is)
    (case c10 => k_is)
    (case k10 => k_is)
    (case a11 => k_is)
    (case l11 => k_is)
    (case c11 => k_is)
    (case k11 => k_is)
    (case a12 => k_is)
    (case l12 => k_is)
    (case c12 => k_is)
    (case k12 => k_is)
    (case a13 => k_is)
    (case l13 => k_is)
    (case c13 => k_is)
    (case k13 => k_is)
    (case a14 => k_is)
    (case l14 => k_is)
    (case c14 => k_is)
    (case k14 => k_is)
    (case a15 => k_is)
    (case l15 => k_is)
    (case c15 => k_is)
    (case k15 => k_is)
    (case a16 => k_is)
    (case l16 => k_is)
    (case c16 => k_is)
    (case k16 => k_is)
    (case a17 => k_is)
    (case l17 => k_is)
    (case c17 => k_is)
    (case k17 => k_is)
    (case a18 => k_is)
    (case l18 => k_is)
    (case c18 => k_is)
    (case k18 => k_is)
    (case a19 => k_is)
    (case l19 => k_is)
    (case c19 => k_is)
    (case k19 => k_is)
    (case a20 => k_is)
    (case l20 => k_is)
    (case c20 => k_is)
    (case k20 => k_is)
    (case a21 => k_is)
    (case l21 => k_is)
    (case c21 => k_is)
    (case k21 => k_is)
    (case a22 => k_is)
    (case l22 => k_is)
    (case c22 => k_is)
    (case k22 => k_is)
    (case a23 => k_is)
    (case l23 => k_is)
    (case c23 => k_is)
    (case k23 => k_is)
    (case a24 => k_is)
    (case l24 => k_is)
    (case c24 => k_is)
    (case k24 => k_is)
    (case a25 => k_is)
    (case l25 => k_is)
    (case c25 => k_is)
    (case k25 => k_is)
    (case a26 => k_is)
    (case l26 => k_is)
    (case c26 => k_is)
    (case k26 => k_is)
    (case i26 => k_is)
    (case kd26_rights => k_is)
    (case ke26_rights => k_is)
    (case kf26_rights => decide +kernel)
    (case kd26_quotas => k_is)
    (case kd26_data => k_is)
    (case kd26_pages => k_is)
    (case kd26_ports => k_is)
    (case kd26_bells => k_is)
    (case kd26_lines => k_is)
    (case ke26_lines => k_is)
    (case kf26_lines => decide +kernel)
    (case kd26_slots => k_is)
    (case kd26_windows => k_is)
    (case a27 => k_is)
    (case l27 => k_is)
    (case c27 => k_is)
    (case k27 => k_is)
    (case a28 => k_is)
    (case l28 => k_is)
    (case c28 => k_is)
    (case k28 => k_is)
    (case a29 => k_is)
    (case l29 => k_is)
    (case c29 => k_is)
    (case k29 => k_is)
    (case a30 => k_is)
    (case l30 => k_is)
    (case c30 => k_is)
    (case k30 => k_is)
    (case a31 => k_is)
    (case l31 => k_is)
    (case c31 => k_is)
    (case k31 => k_is)
    (case a32 => k_is)
    (case l32 => k_is)
    (case c32 => k_is)
    (case k32 => k_is)
    (case a33 => k_is)
    (case l33 => k_is)
    (case c33 => k_is)
    (case k33 => k_is)
    (case a34 => k_is)
    (case l34 => k_is)
    (case c34 => k_is)
    (case k34 => k_is)
    (case a35 => k_is)
    (case l35 => k_is)
    (case c35 => k_is)
    (case k35 => k_is)
    (case a36 => k_is)
    (case l36 => k_is)
    (case c36 => k_is)
    (case k36 => k_is)
    (case a37 => k_is)
    (case l37 => k_is)
    (case c37 => k_is)
    (case k37 => k_is)
    (case a38 => k_is)
    (case l38 => k_is)
    (case c38 => k_is)
    (case k38 => k_is)
    (case a39 => k_is)
    (case l39 => k_is)
    (case c39 => k_is)
    (case k39 => k_is)
    (case a40 => k_is)
    (case l40 => k_is)
    (case c40 => k_is)
    (case k40 => k_is)
    (case ka_DEEDS => k_is)
    (case kl_DEEDS => k_is)
    (case kv_DEEDS => decide +kernel)
    (case ka_GREATEST_TICK => k_is)
    (case ka_LETTERS => k_is)
    (case kl_LETTERS => k_is)
    (case kk_LETTERS => exact ⟨⟨_, _, rfl, rfl⟩, ⟨⟨_, _, rfl, rfl⟩, ⟨⟨_, _, rfl, rfl⟩, ⟨⟨_, _, rfl, rfl⟩, ⟨⟨_, _, rfl, rfl⟩, ⟨⟨_, _, rfl, rfl⟩, trivial⟩⟩⟩⟩⟩⟩)
    (case kz_LETTERS => decide +kernel)
    (case kq_LETTERS => rfl)
    (case di_LETTERS_page => k_is)
    (case di_LETTERS_claim => k_is)
    (case di_LETTERS_port => k_is)
    (case di_LETTERS_bell => k_is)
    (case di_LETTERS_line => k_is)
    (case di_LETTERS_process => k_is)
    (case ka_LONGEST => k_is)
    (case ka_MOST_BELLS => k_is)
    (case ka_MOST_CLAIMS => k_is)
    (case ka_MOST_DATA => k_is)
    (case ka_MOST_LINES => k_is)
    (case ka_MOST_PAGES => k_is)
    (case ka_MOST_PORTS => k_is)
    (case ka_MOST_PROCESSES => k_is)
    (case ka_MOST_RAISES => k_is)
    (case ka_MOST_SLOTS => k_is)
    (case ka_MOST_TICKS => k_is)
    (case ka_MOST_TURNS => k_is)
    (case ka_MOST_WINDOWS => k_is)
    (case ka_REGISTERS => k_is)
    (case ka_ROLES => k_is)
    (case kl_ROLES => k_is)
    (case kk_ROLES => exact ⟨⟨_, _, rfl, rfl⟩, ⟨⟨_, _, rfl, rfl⟩, ⟨⟨_, _, rfl, rfl⟩, ⟨⟨_, _, rfl, rfl⟩, ⟨⟨_, _, rfl, rfl⟩, ⟨⟨_, _, rfl, rfl⟩, ⟨⟨_, _, rfl, rfl⟩, ⟨⟨_, _, rfl, rfl⟩, ⟨⟨_, _, rfl, rfl⟩, trivial⟩⟩⟩⟩⟩⟩⟩⟩⟩)
    (case kz_ROLES => decide +kernel)
    (case kq_ROLES => rfl)
    (case di_ROLES_set => k_is)
    (case kl_ROLES_set => k_is)
    (case kv_ROLES_set => decide +kernel)
    (case di_ROLES_move => k_is)
    (case kl_ROLES_move => k_is)
    (case kv_ROLES_move => decide +kernel)
    (case di_ROLES_add => k_is)
    (case kl_ROLES_add => k_is)
    (case kv_ROLES_add => decide +kernel)
    (case di_ROLES_sub => k_is)
    (case kl_ROLES_sub => k_is)
    (case kv_ROLES_sub => decide +kernel)
    (case di_ROLES_load => k_is)
    (case kl_ROLES_load => k_is)
    (case kv_ROLES_load => decide +kernel)
    (case di_ROLES_store => k_is)
    (case kl_ROLES_store => k_is)
    (case kv_ROLES_store => decide +kernel)
    (case di_ROLES_jump => k_is)
    (case kl_ROLES_jump => k_is)
    (case kv_ROLES_jump => decide +kernel)
    (case di_ROLES_zero => k_is)
    (case kl_ROLES_zero => k_is)
    (case kv_ROLES_zero => decide +kernel)
    (case di_ROLES_deed => k_is)
    (case kl_ROLES_deed => k_is)
    (case kv_ROLES_deed => decide +kernel)
    (case ka_WORD => k_is)
    (case ka_InputError => k_is)
    (case ka_BadNumber => k_is)
    (case ka_BadProgram => k_is)
    (case ka_BadSetup => k_is)
    (case ka_BadRaises => k_is)
    (case exL_BadProgram => k_is)
    (case exV_BadProgram => decide +kernel)
    (case esa_BadProgram => k_is)
    (case ega_BadProgram => k_is)
    (case egg_BadProgram => k_is)
    (case enb_BadProgram => k_is)
    (case efc_BadProgram => k_is)
    (case eiC_BadProgram => k_is)
    (case etC_BadProgram => k_is)
    (case ekC_BadProgram => k_is)
    (case eeC_BadProgram => k_is)
    (case eyC_BadProgram => k_is)
    (case ehC_BadProgram => k_is)
    (case ejC_BadProgram => k_is)
    (case esC_BadProgram => kernel_rfl)
    (case evC_BadProgram => k_is)
    (case eoC_BadProgram => k_is)
    (case emC_BadProgram => k_is)
    (case eal_BadProgram => kernel_rfl)
    (case el1_BadProgram => k_is)
    (case ec1_BadProgram => k_is)
    (case ece_BadProgram => k_is)
    (case ecd_BadProgram => k_is)
    (case evs_BadProgram => rfl)
    (case efi_BadProgram => decide +kernel)
    (case epl_BadProgram => rfl)
    (case ek_InputError_BadProgram => kernel_rfl)
    (case ek_BadNumber_BadProgram => kernel_rfl)
    (case ek_BadProgram_BadProgram => kernel_rfl)
    (case ek_BadSetup_BadProgram => kernel_rfl)
    (case ek_BadRaises_BadProgram => kernel_rfl)
    (case ek_Setup_BadProgram => kernel_rfl)
    (case ek_VE_BadProgram => kernel_rfl)
    (case exL_BadSetup => k_is)
    (case exV_BadSetup => decide +kernel)
    (case esa_BadSetup => k_is)
    (case ega_BadSetup => k_is)
    (case egg_BadSetup => k_is)
    (case enb_BadSetup => k_is)
    (case enk_BadSetup => k_is)
    (case efc_BadSetup => k_is)
    (case eiC_BadSetup => k_is)
    (case etC_BadSetup => k_is)
    (case ekC_BadSetup => k_is)
    (case eeC_BadSetup => k_is)
    (case eyC_BadSetup => k_is)
    (case ehC_BadSetup => k_is)
    (case ejC_BadSetup => k_is)
    (case esC_BadSetup => kernel_rfl)
    (case evC_BadSetup => k_is)
    (case eoC_BadSetup => k_is)
    (case emC_BadSetup => k_is)
    (case eal_BadSetup => kernel_rfl)
    (case el1_BadSetup => k_is)
    (case ec1_BadSetup => k_is)
    (case ece_BadSetup => k_is)
    (case ecd_BadSetup => k_is)
    (case evs_BadSetup => rfl)
    (case efi_BadSetup => decide +kernel)
    (case epl_BadSetup => rfl)
    (case ek_InputError_BadSetup => kernel_rfl)
    (case ek_BadNumber_BadSetup => kernel_rfl)
    (case ek_BadProgram_BadSetup => kernel_rfl)
    (case ek_BadSetup_BadSetup => kernel_rfl)
    (case ek_BadRaises_BadSetup => kernel_rfl)
    (case ek_Setup_BadSetup => kernel_rfl)
    (case ek_VE_BadSetup => kernel_rfl)
    (case exL_BadRaises => k_is)
    (case exV_BadRaises => decide +kernel)
    (case esa_BadRaises => k_is)
    (case ega_BadRaises => k_is)
    (case egg_BadRaises => k_is)
    (case enb_BadRaises => k_is)
    (case efc_BadRaises => k_is)
    (case eiC_BadRaises => k_is)
    (case etC_BadRaises => k_is)
    (case ekC_BadRaises => k_is)
    (case eeC_BadRaises => k_is)
    (case eyC_BadRaises => k_is)
    (case ehC_BadRaises => k_is)
    (case ejC_BadRaises => k_is)
    (case esC_BadRaises => kernel_rfl)
    (case evC_BadRaises => k_is)
    (case eoC_BadRaises => k_is)
    (case emC_BadRaises => k_is)
    (case eal_BadRaises => kernel_rfl)
    (case el1_BadRaises => k_is)
    (case ec1_BadRaises => k_is)
    (case ece_BadRaises => k_is)
    (case ecd_BadRaises => k_is)
    (case evs_BadRaises => rfl)
    (case efi_BadRaises => decide +kernel)
    (case epl_BadRaises => rfl)
    (case ek_InputError_BadRaises => kernel_rfl)
    (case ek_BadNumber_BadRaises => kernel_rfl)
    (case ek_BadProgram_BadRaises => kernel_rfl)
    (case ek_BadSetup_BadRaises => kernel_rfl)
    (case ek_BadRaises_BadRaises => kernel_rfl)
    (case ek_Setup_BadRaises => kernel_rfl)
    (case ek_VE_BadRaises => kernel_rfl)
    (case e_op => k_is)
    (case e_su => k_is)
    (case e_top => decide +kernel)
    (case e_sp => k_is)
    (case e_tk => k_is)
    (case z_ValueError => k_is)
    (case z_all => k_is)
    (case z_bool => k_is)
    (case z_enumerate => k_is)
    (case z_int => k_is)
    (case z_isinstance => k_is)
    (case z_len => k_is)
    (case z_list => k_is)
    (case z_min => k_is)
    (case z_range => k_is)
    (case z_sorted => k_is)
    (case z_str => k_is)
    (case z_tuple => k_is)

