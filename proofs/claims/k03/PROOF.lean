import PyProof.Rows.All
import Wide.All
import OpenK.AllK
import Wide.FinOn
import HandS.ForMost
import HandS.IsInst
import HandS.Walk
import HandS.More
import HandS.SetKeys
import HandS.RaiseMore
import HandS.SortKw
import HandS.Exc
import KE.GoesEnumKw
import HandS.ExcOwn
import HandS.TryOnly
import HandS.WordsExc
import HandS.ExcInit
import HandS.ExcIs
import HandS.ExcSuper
import KE.KExcSuper
import KE.KSuper
import KE.KExcIs
import HandS.ExcField
import HandS.FStr
import HandS.HotCalls
import HandS.Iter
import PyProof.StrOps2
import PySem.Challenge.RW_capstead_k03_assemble_first_fault
set_option Elab.async false
set_option linter.all false
set_option maxRecDepth 100000
set_option maxHeartbeats 4000000
/-! Lw: forward reading over the hand layer. A world W: the objects that a law's drawing pool owns, and what holds of them; everything else stands (Ex). -/
namespace Lw
open PySem L2

/-- what is owned (its content may change in calls), what holds of it -/
structure Wd where
  own : Hp → Addr → Prop
  iv : Hp → Prop
  trk : ∀ {H : Hp} {a : Addr}, iv H → own H a → ∃ o, H a = some o
  loc : ∀ {H H' : Hp}, iv H → (∀ a, own H a → H' a = H a) → iv H' ∧ ∀ a, own H' a → own H a

/-- nothing is owned -/
def W0 : Wd := ⟨fun _ _ => False, fun _ => True, fun _ h => h.elim, fun _ _ => ⟨trivial, fun _ h => h⟩⟩

def At (W : Wd) (H : Hp) (a : Addr) (o : HO) : Prop := H a = some o ∧ ¬ W.own H a
structure Ex (W : Wd) (H H' : Hp) : Prop where
  i0 : W.iv H
  iv : W.iv H'
  at_ : ∀ {a : Addr} {o : HO}, At W H a o → At W H' a o
  tr : ∀ {a : Addr} {o : HO}, H a = some o → ∃ o', H' a = some o'

section
variable {W : Wd} {H H1 H2 H' : Hp} {a p l : Addr} {o u : HO} {xs : List V} {K : PySem.W.Frag}
theorem Ex.refl (i : W.iv H) : Ex W H H := ⟨i, i, fun h => h, fun h => ⟨_, h⟩⟩
theorem Ex.trans (a : Ex W H H1) (b : Ex W H1 H2) : Ex W H H2 := ⟨a.i0, b.iv, fun h => b.at_ (a.at_ h), fun h => let ⟨_, q⟩ := a.tr h; b.tr q⟩
theorem Ex.fresh (e : Ex W H H') (i : H' p = none) : H p = none := by
  cases q : H p with
  | none => rfl
  | some u =>
    obtain ⟨_, z⟩ := e.tr q
    rw [i] at z; cases z
theorem own_ne (i : W.iv H) (h : H p = none) : ¬ W.own H p := fun q => by
  obtain ⟨o, e⟩ := W.trk i q
  rw [h] at e; cases e
/-- what is not owned changes -/
theorem loc_upd (i : W.iv H) (h : ¬ W.own H p) : W.iv (upd H p o) ∧ ∀ a, W.own (upd H p o) a → W.own H a :=
  W.loc i fun a ha => upd_ne fun e => h (e ▸ ha)
theorem Ex.new (i : W.iv H) (h : H p = none) : Ex W H (upd H p o) := by
  have l := loc_upd (o := o) i (own_ne i h)
  refine ⟨i, l.1, fun {b u} hb => ⟨?_, fun q => hb.2 (l.2 _ q)⟩, fun {b u} hb => ⟨u, ?_⟩⟩
  · rw [upd_ne (ne_of_none hb.1 h)]; exact hb.1
  · rw [upd_ne (ne_of_none hb h)]; exact hb
theorem At.new (i : W.iv H) (h : H p = none) : At W (upd H p o) p o := ⟨upd_same, fun q => own_ne i h ((loc_upd i (own_ne i h)).2 _ q)⟩
/-- a local object (unknown at H) changes -/
theorem Ex.mut (e : Ex W H H1) (h : H p = none) (ha : At W H1 p u) : Ex W H (upd H1 p o) := by
  have l := loc_upd (o := o) e.iv ha.2
  refine ⟨e.i0, l.1, fun {b v} hb => ⟨?_, fun q => (e.at_ hb).2 (l.2 _ q)⟩, fun {b v} hb => ?_⟩
  · rw [upd_ne (ne_of_none hb.1 h)]; exact (e.at_ hb).1
  · rw [upd_ne (ne_of_none hb h)]; exact e.tr hb
theorem At.mut (e : W.iv H1) (ha : At W H1 p u) : At W (upd H1 p o) p o := ⟨upd_same, fun q => ha.2 ((loc_upd e ha.2).2 _ q)⟩
theorem At.other {v : HO} (e : W.iv H1) (ha : At W H1 p u) (hb : At W H1 a o) (ne : a ≠ p) : At W (upd H1 p v) a o := ⟨by rw [upd_ne ne]; exact hb.1, fun q => hb.2 ((loc_upd e ha.2).2 _ q)⟩
theorem At.sl (h : At W H a (.lst xs)) : SqL K H a xs := SqL.of h.1
theorem At.raw (h : At W H a o) : H a = some o := h.1
theorem At.st (h : At W H a (.tup xs)) : SqT K H a xs := SqT.of h.1
theorem At.ne_fresh (h : At W H a o) (f : H p = none) : a ≠ p := ne_of_none h.1 f
theorem At.ne (h : At W H a o) (h' : At W H p u) (d : o ≠ u) : a ≠ p := ne_of h.1 h'.1 d
theorem At.uniq (h : At W H a o) (h' : At W H a u) : o = u := Option.some.inj (h.1.symm.trans h'.1)

/-! ### new objects, behind a reading -/
theorem new_of {Q : VK} (i : W.iv H) (k : ∀ p H2, H p = none → Ex W H H2 → At W H2 p o → Q (.ref p) H2) : ∀ p, H p = none → Q (.ref p) (upd H p o) :=
  fun p hp => k p _ hp (Ex.new i hp) (At.new i hp)
theorem lst_of {Q : VK} {n : Nat} (i : W.iv H) (hn : n ≤ 1000000) (k : ∀ p H2, H p = none → Ex W H H2 → At W H2 p o → Q (.ref p) H2) : n ≤ sizeLine ∧ ∀ p, H p = none → Q (.ref p) (upd H p o) :=
  ⟨Nat.le_trans hn (by decide), new_of i k⟩
theorem sz_le {n : Nat} (h : n ≤ 1000000) : n ≤ sizeLine := Nat.le_trans h (by decide)
theorem sz_lt {n : Nat} (h : n < 1000000) : n < sizeLine := Nat.lt_of_lt_of_le h (by decide)

/-! ### tests -/
theorem ifD {c A B : Prop} [Decidable c] (h1 : c → A) (h2 : ¬ c → B) : if decide c = true then A else B := by
  by_cases h : c
  · rw [decide_eq_true h, if_pos rfl]; exact h1 h
  · rw [decide_eq_false h, if_neg Bool.false_ne_true]; exact h2 h
theorem ifN {c A B : Prop} [Decidable c] (h1 : ¬ c → A) (h2 : c → B) : if (!decide c) = true then A else B := by
  by_cases h : c
  · rw [decide_eq_true h]; exact iteF (h2 h)
  · rw [decide_eq_false h]; exact iteT (h1 h)
theorem ifB {b : Bool} {A B : Prop} (h1 : b = true → A) (h2 : b = false → B) : if b = true then A else B := by
  cases b with
  | true => exact iteT (h1 rfl)
  | false => exact iteF (h2 rfl)
theorem ifNB {b : Bool} {A B : Prop} (h1 : b = false → A) (h2 : b = true → B) : if (!b) = true then A else B := by
  cases b with
  | true => exact iteF (h2 rfl)
  | false => exact iteT (h1 rfl)
theorem dVI {i j : Int} : decide (V.int i = V.int j) = decide (i = j) := by rw [dec_int, Bool.beq_eq_decide_eq]
theorem dVS {i j : Str} : decide (V.str i = V.str j) = decide (i = j) := by rw [dec_str, Bool.beq_eq_decide_eq]
theorem dVB {i j : Bool} : decide (V.bl i = V.bl j) = decide (i = j) := by rw [dec_bl, Bool.beq_eq_decide_eq]
theorem ifI {i j : Int} {A B : Prop} (h1 : i = j → A) (h2 : i ≠ j → B) : if decide (V.int i = V.int j) = true then A else B := by rw [dVI]; exact ifD h1 h2
theorem ifIn {i j : Int} {A B : Prop} (h1 : i ≠ j → A) (h2 : i = j → B) : if (!decide (V.int i = V.int j)) = true then A else B := by rw [dVI]; exact ifN h1 h2
theorem ifS {i j : Str} {A B : Prop} (h1 : i = j → A) (h2 : i ≠ j → B) : if decide (V.str i = V.str j) = true then A else B := by rw [dVS]; exact ifD h1 h2
theorem ifSn {i j : Str} {A B : Prop} (h1 : i ≠ j → A) (h2 : i = j → B) : if (!decide (V.str i = V.str j)) = true then A else B := by rw [dVS]; exact ifN h1 h2

/-! ### a list comprehension over a list: each item's value, by a word that only grows -/
/-- of each item of xs there is one of ys -/
inductive All2 (R : V → V → Prop) : List V → List V → Prop
  | nil : All2 R [] []
  | cons {x y : V} {xs ys : List V} : R x y → All2 R xs ys → All2 R (x :: xs) (y :: ys)
theorem All2.length {R : V → V → Prop} : ∀ {xs ys : List V}, All2 R xs ys → ys.length = xs.length
  | _, _, .nil => rfl
  | _, _, .cons _ t => by rw [List.length_cons, List.length_cons, t.length]
theorem All2.mono {R S : V → V → Prop} (f : ∀ x y, R x y → S x y) : ∀ {xs ys : List V}, All2 R xs ys → All2 S xs ys
  | _, _, .nil => .nil
  | _, _, .cons r t => .cons (f _ _ r) (t.mono f)
theorem All2.snoc {R : V → V → Prop} {x y : V} : ∀ {xs ys : List V}, All2 R xs ys → R x y → All2 R (xs ++ [x]) (ys ++ [y])
  | _, _, .nil, r => .cons r .nil
  | _, _, .cons q t, r => .cons q (t.snoc r)
end

/-! ### written tuples -/
theorem rel_abs : ∀ {u : Value} {x : V}, absV u = some x → RelV x u
  | .none, x, h => by cases h; rfl
  | .bool b, x, h => by cases h; rfl
  | .int i t, x, h => by cases h; exact ⟨t, rfl⟩
  | .str y t, x, h => by cases h; exact ⟨t, rfl⟩
  | .bytes b t, x, h => by cases h; exact ⟨t, rfl⟩
  | .float b t, x, h => by cases h; exact ⟨t, rfl⟩
  | .ref a, x, h => by cases h; rfl
  | .type n, x, h => by cases h; rfl
theorem vals_abs : ∀ {its : List Value} {xs : List V}, its.map absV = xs.map some → Vals xs its
  | [], [], _ => .nil
  | u :: us, x :: xs, h => by
    rw [List.map_cons, List.map_cons] at h
    injection h with h1 h2
    exact .cons (rel_abs h1) (vals_abs h2)
theorem sqt_k {K : PySem.W.Frag} {a : Addr} {its : Array Value} {n : Nat} {dd : Option Addr} {sl : Array (Option Value)} {xs : List V} (l : K.lookup a = some ⟨.type "tuple", dd, .seq its n, sl⟩) (h : its.toList.map absV = xs.map some) (hz : xs.length ≤ 1000) (H : Hp) : SqT K H a xs := by
  refine .inr ⟨_, its, n, l, rfl, rfl, ?_, vals_abs h⟩
  have e := (vals_abs h).length
  have el : its.toList.length = its.size := by simp
  exact Nat.le_trans (by omega) (by decide : 1000 ≤ sizeLine)

/-! ### the rules of built-ins under names -/
section
variable {X : Cx}
def rLen (K : PySem.W.Frag) : List V → Hp → VK → Prop := fun xs H Q => ∃ p ys, xs = [.ref p] ∧ (SqL K H p ys ∨ SqT K H p ys) ∧ Q (.int ys.length) H
theorem c_len : CallR X (.builtin "len") (rLen X.K) := call_len_seq
def rLenStr : List V → Hp → VK → Prop := fun xs H Q => ∃ z, xs = [.str z] ∧ z.length ≤ sizeLine ∧ Q (.int z.length) H
theorem c_lens : CallR X (.builtin "len") rLenStr := call_len_str
def rInt : List V → Hp → VK → Prop := fun xs H Q => (∃ i, xs = [.int i] ∧ Q (.int i) H) ∨ ∃ k, xs = [.bl k] ∧ Q (.int (if k then 1 else 0)) H
theorem c_int : CallR X (.type "int") rInt := call_int1
def rAbs : List V → Hp → VK → Prop := fun xs H Q => ∃ i, xs = [.int i] ∧ Q (.int (if i < 0 then -i else i)) H
theorem c_abs : CallR X (.builtin "abs") rAbs := call_abs
def rMax2 : List V → Hp → VK → Prop := fun xs H Q => ∃ i j, xs = [.int i, .int j] ∧ Q (.int (if j > i then j else i)) H
theorem c_max2 (hc : X.calm = true) : CallR X (.builtin "max") rMax2 := call_max2 hc
def rMin2 : List V → Hp → VK → Prop := fun xs H Q => ∃ i j, xs = [.int i, .int j] ∧ Q (.int (if j < i then j else i)) H
theorem c_min2 (hc : X.calm = true) : CallR X (.builtin "min") rMin2 := call_min2 hc
def rStrI : List V → Hp → VK → Prop := fun xs H Q => ∃ i, xs = [.int i] ∧ i.natAbs.log2 < 1920 ∧ Q (.str (toString i)) H
theorem c_strI : CallR X (.type "str") rStrI := call_str_int
def rListO (K : PySem.W.Frag) : List V → Hp → VK → Prop := fun xs H Q => ∃ p ys, xs = [.ref p] ∧ (SqL K H p ys ∨ SqT K H p ys) ∧ ∀ l, H l = none → Q (.ref l) (upd H l (.lst ys))
theorem c_list : CallR X (.type "list") (rListO X.K) := call_list_of
def rTupO (K : PySem.W.Frag) : List V → Hp → VK → Prop := fun xs H Q => ∃ p ys, xs = [.ref p] ∧ ((SqL K H p ys ∧ ∀ l, H l = none → Q (.ref l) (upd H l (.tup ys))) ∨ (SqT K H p ys ∧ Q (.ref p) H))
theorem c_tuple : CallR X (.type "tuple") (rTupO X.K) := call_tuple_of
def rAddS2 : R2 := fun x y H Q => ∃ i j, x = .str i ∧ y = .str j ∧ i.length + j.length ≤ sizeLine ∧ Q (.str (i ++ j)) H
theorem o_adds : OpR X (binaryOp .Add) rAddS2 := op_add_str
def rIsN2 : R2 := fun x y H Q => y = .non ∧ Q (.bl (decide (x = .non))) H
theorem o_isN : OpR X (compareOp .Is) rIsN2 := op_isN
def rNotN2 : R2 := fun x y H Q => y = .non ∧ Q (.bl (!decide (x = .non))) H
theorem o_notN : OpR X (compareOp .IsNot) rNotN2 := op_notN
/-- ** of any size -/
def CPowW (i j : Int) : Prop := 0 ≤ j ∧ (Builtin.Int.intBits i : Int) * j ≤ 2 ^ 27
theorem op_powW : OpR X (binaryOp .Pow) (rI CPowW fun i j => .int (i ^ j.toNat)) := opI fun _ _ _ _ _ _ _ hc q => PyProof.Rows.pow_int hc.1 hc.2 q
end

theorem at_0 {α : Type} {x : α} {r : List α} : atI (x :: r) 0 = some x := by
  unfold atI ixN
  rw [if_pos (by decide), if_pos (by simp)]
  rfl
theorem at_in {xs : List V} {i : Int} {v : V} (h : 0 ≤ i) (e : xs[i.toNat]? = some v) : atI xs i = some v := by
  have q := atI_nat (j := i.toNat) e
  rw [show ((i.toNat : Nat) : Int) = i by omega] at q
  exact q
theorem ix_0 {n : Nat} (h : 0 < n) : ixN n 0 = some 0 := by
  unfold ixN
  rw [if_pos (by omega), if_pos (by omega)]
  rfl
theorem ix_in {n : Nat} {i : Int} (h : 0 ≤ i) (h2 : i < n) : ixN n i = some i.toNat := by
  unfold ixN
  rw [if_pos h, if_pos h2]

/-! ### tests whose answer is known -/
theorem ifS_no {i j : Str} {A B : Prop} (ne : i ≠ j) (h : B) : if decide (V.str i = V.str j) = true then A else B := ifS (fun e => absurd e ne) fun _ => h
theorem ifS_yes {i j : Str} {A B : Prop} (e : i = j) (h : A) : if decide (V.str i = V.str j) = true then A else B := ifS (fun _ => h) fun ne => absurd e ne
theorem ifSn_no {i j : Str} {A B : Prop} (e : i = j) (h : B) : if (!decide (V.str i = V.str j)) = true then A else B := ifSn (fun ne => absurd e ne) fun _ => h
theorem ifSn_yes {i j : Str} {A B : Prop} (ne : i ≠ j) (h : A) : if (!decide (V.str i = V.str j)) = true then A else B := ifSn (fun _ => h) fun e => absurd e ne
theorem ifI_no {i j : Int} {A B : Prop} (ne : i ≠ j) (h : B) : if decide (V.int i = V.int j) = true then A else B := ifI (fun e => absurd e ne) fun _ => h
theorem ifI_yes {i j : Int} {A B : Prop} (e : i = j) (h : A) : if decide (V.int i = V.int j) = true then A else B := ifI (fun _ => h) fun ne => absurd e ne
theorem ifIn_no {i j : Int} {A B : Prop} (e : i = j) (h : B) : if (!decide (V.int i = V.int j)) = true then A else B := ifIn (fun ne => absurd e ne) fun _ => h
theorem ifIn_yes {i j : Int} {A B : Prop} (ne : i ≠ j) (h : A) : if (!decide (V.int i = V.int j)) = true then A else B := ifIn (fun _ => h) fun e => absurd e ne
theorem iteNT {A B : Prop} (h : B) : if (!true) = true then A else B := iteF h
theorem iteNF {A B : Prop} (h : A) : if (!false) = true then A else B := iteT h
theorem ifD_no {c A B : Prop} [Decidable c] (n : ¬ c) (h : B) : if decide c = true then A else B := ifD (fun e => absurd e n) fun _ => h
theorem ifD_yes {c A B : Prop} [Decidable c] (y : c) (h : A) : if decide c = true then A else B := ifD (fun _ => h) fun n => absurd y n

/-! ### slices -/
theorem cut_to (xs : List V) (n : Int) (h : 0 ≤ n) : cutV xs none (some n) = xs.take n.toNat := by
  unfold cutV
  have e : HT.sIx xs.length xs.length (some n) = min n.toNat xs.length := by
    have q := HT.sIx_nat xs.length xs.length n.toNat
    rwa [show ((n.toNat : Nat) : Int) = n by omega] at q
  rw [HT.sIx_none, List.drop_zero, e, Nat.sub_zero, ← List.take_eq_take_min]
theorem cut_from (xs : List V) (n : Int) (h : 0 ≤ n) : cutV xs (some n) none = xs.drop n.toNat := by
  unfold cutV
  have e0 : HT.sIx xs.length 0 (some n) = min n.toNat xs.length := by
    have q := HT.sIx_nat xs.length 0 n.toNat
    rwa [show ((n.toNat : Nat) : Int) = n by omega] at q
  rw [e0, HT.sIx_none]
  have e : xs.drop (min n.toNat xs.length) = xs.drop n.toNat := by
    by_cases q : n.toNat ≤ xs.length
    · rw [Nat.min_eq_left q]
    · rw [Nat.min_eq_right (by omega), List.drop_of_length_le (Nat.le_refl _), List.drop_of_length_le (by omega)]
  rw [e, List.take_of_length_le]
  rw [List.length_drop]
  omega

/-- all are ints -/
def AI (xs : List V) : Prop := ∀ x ∈ xs, ∃ z : Int, x = .int z
theorem AI.get {xs : List V} {n : Nat} {x : V} (h : AI xs) (e : xs[n]? = some x) : ∃ z : Int, x = .int z := h x (List.mem_of_getElem? e)
theorem AI.cut {xs : List V} {lo hi : Option Int} (h : AI xs) : AI (cutV xs lo hi) := fun x hx => h x (List.mem_of_mem_drop (List.mem_of_mem_take hx))
theorem AI.app {xs ys : List V} (h : AI xs) (h' : AI ys) : AI (xs ++ ys) := fun x hx => (List.mem_append.mp hx).elim (h x) (h' x)
theorem AI.nil : AI [] := fun _ h => nomatch h
theorem AI.one (z : Int) : AI [.int z] := fun x h => ⟨z, by simpa using h⟩
theorem AI.ints : ∀ {xs : List V}, AI xs → ∃ ns : List Int, xs = ns.map V.int
  | [], _ => ⟨[], rfl⟩
  | x :: xs, h => by
    obtain ⟨z, rfl⟩ := h x List.mem_cons_self
    obtain ⟨ns, rfl⟩ := AI.ints (xs := xs) fun y hy => h y (List.mem_cons_of_mem _ hy)
    exact ⟨z :: ns, rfl⟩
theorem AI.of (ns : List Int) : AI (ns.map V.int) := fun x hx => by
  obtain ⟨z, _, e⟩ := List.mem_map.mp hx
  exact ⟨z, e.symm⟩
theorem AI.of_all : ∀ {xs ys : List V}, All2 (fun _ y => ∃ z : Int, y = .int z) xs ys → AI ys
  | _, _, .nil => AI.nil
  | _, _, .cons r t => fun y hy => (List.mem_cons.mp hy).elim (fun e => e ▸ r) (AI.of_all t y)
/-- all are texts -/
def AS (xs : List V) : Prop := ∀ x ∈ xs, ∃ z : Str, x = .str z
theorem AS.get {xs : List V} {n : Nat} {x : V} (h : AS xs) (e : xs[n]? = some x) : ∃ z : Str, x = .str z := h x (List.mem_of_getElem? e)
theorem AS.cut {xs : List V} {lo hi : Option Int} (h : AS xs) : AS (cutV xs lo hi) := fun x hx => h x (List.mem_of_mem_drop (List.mem_of_mem_take hx))
theorem AS.app {xs ys : List V} (h : AS xs) (h' : AS ys) : AS (xs ++ ys) := fun x hx => (List.mem_append.mp hx).elim (h x) (h' x)
theorem AS.of (ns : List Str) : AS (ns.map V.str) := fun x hx => by
  obtain ⟨z, _, e⟩ := List.mem_map.mp hx
  exact ⟨z, e.symm⟩
theorem AS.nil : AS [] := fun _ h => nomatch h
theorem AS.cons {z : Str} {xs : List V} (h : AS xs) : AS (.str z :: xs) := fun x hx => (List.mem_cons.mp hx).elim (fun e => ⟨z, e⟩) (h x)
theorem cut_len (xs : List V) (lo hi : Option Int) : (cutV xs lo hi).length ≤ xs.length := cutV_length xs lo hi
theorem cast_int {Q : VK} {H : Hp} {a b : Int} (h : Q (.int a) H) (e : a = b) : Q (.int b) H := e ▸ h

/-! ### forward steps -/
section
variable {W : Wd} {K : PySem.W.Frag} {H H1 : Hp} {σ : L2.St} {D : Ends} {Q : VK} {v x y : V} {i j : Int} {n : Nat} {s z : Str} {b c : Bool} {p a : Addr} {xs ys vs : List V}
variable {ta tb te : TE} {t u : TS} {c1 c2 : TT} {tr : TA} {r : R2} {QB : Bool → Hp → Prop} {QA : List V → Hp → Prop} {QO : Option Int → Hp → Prop}
theorem rd_seq (h : t { D with nx := u D } σ H) : tSeq t u D σ H := h
theorem rd_next (h : D.nx σ H) : tNext D σ H := h
theorem rd_asg {m : Nat} (h : te σ H fun x H1 => D.nx (σ.set m (some x)) H1) : tAsg te (gName m) D σ H := h
theorem rd_asgG {g : TG} (h : te σ H fun x H1 => g x σ H1 D.nx) : tAsg te g D σ H := h
theorem rd_drop (h : te σ H fun _ H1 => D.nx σ H1) : tDrop te D σ H := h
theorem rd_ret (h : te σ H D.rt) : tRet te D σ H := h
theorem rd_retN (h : D.rt .non H) : tRetN D σ H := h
theorem rd_brk (h : D.bk σ H) : tBreak D σ H := h
theorem rd_cont (h : D.ct σ H) : tCont D σ H := h
theorem rd_ifS (h : c1 σ H fun b H1 => if b = true then t D σ H1 else u D σ H1) : tIfS c1 t u D σ H := h
theorem rd_var {m : Nat} (e : σ[m]? = some (some v)) (h : Q v H) : tVar m σ H Q := ⟨v, e, h⟩
theorem rd_c (h : Q v H) : tC v σ H Q := h
theorem rd_op (h : ta σ H fun x H1 => tb σ H1 fun y H2 => r x y H2 Q) : tOp r ta tb σ H Q := h
theorem rd_un {r : V → Hp → VK → Prop} (h : ta σ H fun x H1 => r x H1 Q) : tUn r ta σ H Q := h
theorem rd_I0 {g : Int → Int → V} (h : Q (g i j) H) : rI0 g (.int i) (.int j) H Q := ⟨_, _, rfl, rfl, h⟩
theorem rd_I {C : Int → Int → Prop} {g : Int → Int → V} (k : C i j) (h : Q (g i j) H) : rI C g (.int i) (.int j) H Q := ⟨_, _, rfl, rfl, k, h⟩
theorem rd_U {g : Int → V} (h : Q (g i) H) : rU g (.int i) H Q := ⟨_, rfl, h⟩
theorem rd_eq (k : scal x y = true) (h : Q (.bl (decide (x = y))) H) : rEq x y H Q := ⟨k, h⟩
theorem rd_ne (k : scal x y = true) (h : Q (.bl (!decide (x = y))) H) : rNe x y H Q := ⟨k, h⟩
theorem rd_isN (h : Q (.bl (decide (x = .non))) H) : rIsN2 x .non H Q := ⟨rfl, h⟩
theorem rd_notN (h : Q (.bl (!decide (x = .non))) H) : rNotN2 x .non H Q := ⟨rfl, h⟩
theorem rd_test (h : te σ H fun x H1 => ∃ k, x = .bl k ∧ QB k H1) : tTest te σ H QB := h
theorem rd_B (h : te σ H fun x H1 => ∃ k, x = .bl k ∧ QB k H1) : tB te σ H QB := h
theorem rd_bl {P : Bool → Prop} (h : P b) : ∃ k, V.bl b = V.bl k ∧ P k := ⟨b, rfl, h⟩
theorem rd_and (h : c1 σ H fun c H1 => if c = true then c2 σ H1 QB else QB false H1) : tAnd c1 c2 σ H QB := h
theorem rd_or (h : c1 σ H fun c H1 => if c = true then QB true H1 else c2 σ H1 QB) : tOr c1 c2 σ H QB := h
theorem rd_not (h : c1 σ H fun c H1 => QB (!c) H1) : tNot c1 σ H QB := h
theorem rd_andV (h : ta σ H fun x H1 => ∃ k, x = .bl k ∧ if k = true then tb σ H1 Q else Q (.bl false) H1) : tAndV ta tb σ H Q := h
theorem rd_orV (h : ta σ H fun x H1 => ∃ k, x = .bl k ∧ if k = true then Q (.bl true) H1 else tb σ H1 Q) : tOrV ta tb σ H Q := h
theorem rd_notV (h : ta σ H fun x H1 => ∃ k, x = .bl k ∧ Q (.bl (!k)) H1) : tNotV ta σ H Q := h
theorem rd_blV {P : Bool → Prop} (h : P b) : ∃ k, V.bl b = .bl k ∧ P k := ⟨b, rfl, h⟩
theorem rd_ifE (h : c1 σ H fun c H1 => if c = true then ta σ H1 Q else tb σ H1 Q) : tIf c1 ta tb σ H Q := h
theorem rd_nil (h : QA [] H) : tNil σ H QA := h
theorem rd_cons (h : te σ H fun x H1 => tr σ H1 fun xs H2 => QA (x :: xs) H2) : tCons te tr σ H QA := h
theorem rd_call {sp : Sp} {E : XK} (h : tr σ H fun vs H1 => sp (vs ++ []) H1 Q E) : tCall sp [] E tr σ H Q := h
theorem rd_app0 {P : List V → Prop} (h : P vs) : P (vs ++ []) := by rw [List.append_nil]; exact h
theorem rd_cb {r : List V → Hp → VK → Prop} (h : tr σ H fun vs H1 => r vs H1 Q) : tCB r tr σ H Q := h
/-- a new tuple, a new list -/
def NewO (Q : VK) (o : HO) (n : Nat) (H1 : Hp) : Prop := n ≤ sizeLine ∧ ∀ p, H1 p = none → Q (.ref p) (upd H1 p o)
theorem rd_tupU (h : tr σ H fun xs H1 => NewO Q (.tup xs) xs.length H1) : tTup tr σ H Q := h
theorem rd_lstU (h : tr σ H fun xs H1 => NewO Q (.lst xs) xs.length H1) : tLst tr σ H Q := h
theorem rd_new {o : HO} (i : W.iv H) (hn : n ≤ 1000000) (k : ∀ p H2, H p = none → Ex W H H2 → At W H2 p o → Q (.ref p) H2) : NewO Q o n H := lst_of i hn k
theorem rd_new1 {o : HO} (i : W.iv H) (k : ∀ p H2, H p = none → Ex W H H2 → At W H2 p o → Q (.ref p) H2) : ∀ p, H p = none → Q (.ref p) (upd H p o) := new_of i k
theorem rd_ixL (h : At W H p (.lst xs)) (e : atI xs i = some v) (k : Q v H) : rIxL K (.ref p) (.int i) H Q := ⟨p, xs, i, v, rfl, rfl, h.sl, e, k⟩
theorem rd_ixT (h : At W H p (.tup xs)) (e : atI xs i = some v) (k : Q v H) : rIxT K (.ref p) (.int i) H Q := ⟨p, xs, i, v, rfl, rfl, h.st, e, k⟩
theorem rd_slLr {lo hi : Option Int} (h : H a = some (.lst xs)) (k : ∀ p H2, H p = none → H2 p = some (.lst (cutV xs lo hi)) → (∀ q, q ≠ p → H2 q = H q) → Q (.ref p) H2) : rSlL K (.ref a) lo hi H Q := ⟨a, xs, rfl, SqL.of h, fun p hp => k p _ hp upd_same fun _ ne => upd_ne ne⟩
theorem rd_ixM (h : At W H p (.lst xs)) (h0 : 0 ≤ i) (h1 : i < (xs.length : Int)) (k : ∀ v, v ∈ xs → Q v H) : rIxL K (.ref p) (.int i) H Q := by
  have e : xs[i.toNat]? = some (xs[i.toNat]'(by omega)) := List.getElem?_eq_getElem (by omega)
  exact ⟨p, xs, i, _, rfl, rfl, h.sl, at_in h0 e, k _ (List.getElem_mem _)⟩
theorem rd_ixLr (h : H p = some (.lst xs)) (e : atI xs i = some v) (k : Q v H) : rIxL K (.ref p) (.int i) H Q := ⟨p, xs, i, v, rfl, rfl, SqL.of h, e, k⟩
theorem rd_gsub {to ti : TE} {ts : TSet} {QS : L2.St → Hp → Prop} (h : to σ H fun o H1 => ti σ H1 fun i H2 => ts o i v H2 fun H3 => QS σ H3) : gSub to ti ts v σ H QS := h
theorem rd_setr {m : Nat} {QH : Hp → Prop} (h : H p = some (.lst xs)) (e : ixN xs.length i = some m) (k : ∀ H2, H2 p = some (.lst (xs.set m v)) → (∀ q, q ≠ p → H2 q = H q) → QH H2) : rSetL (.ref p) (.int i) v H QH :=
  ⟨p, xs, i, m, rfl, rfl, h, e, k _ upd_same fun _ ne => upd_ne ne⟩
/-- a store to a list of our own (unknown at H0) -/
theorem rd_set {m : Nat} {QH : Hp → Prop} {H0 : Hp} (e0 : Ex W H0 H) (h0 : H0 p = none) (h : At W H p (.lst xs)) (e : ixN xs.length i = some m) (k : ∀ H2, Ex W H0 H2 → At W H2 p (.lst (xs.set m v)) → (∀ q o, q ≠ p → At W H q o → At W H2 q o) → QH H2) : rSetL (.ref p) (.int i) v H QH :=
  ⟨p, xs, i, m, rfl, rfl, h.1, e, k _ (e0.mut h0 h) (.mut e0.iv h) fun _ _ ne q => .other e0.iv h q ne⟩
theorem rd_len (h : At W H p (.lst xs)) (k : Q (.int xs.length) H) : rLen K [.ref p] H Q := ⟨p, xs, rfl, .inl h.sl, k⟩
theorem rd_lenT (h : At W H p (.tup xs)) (k : Q (.int xs.length) H) : rLen K [.ref p] H Q := ⟨p, xs, rfl, .inr h.st, k⟩
theorem rd_lenr (h : H p = some (.lst xs)) (k : Q (.int xs.length) H) : rLen K [.ref p] H Q := ⟨p, xs, rfl, .inl (SqL.of h), k⟩
theorem rd_int (k : Q (.int i) H) : rInt [.int i] H Q := .inl ⟨_, rfl, k⟩
theorem rd_intB (k : Q (.int (if b then 1 else 0)) H) : rInt [.bl b] H Q := .inr ⟨_, rfl, k⟩
theorem rd_abs (k : Q (.int (if i < 0 then -i else i)) H) : rAbs [.int i] H Q := ⟨_, rfl, k⟩
theorem rd_max2 (k : Q (.int (if j > i then j else i)) H) : rMax2 [.int i, .int j] H Q := ⟨_, _, rfl, k⟩
theorem rd_min2 (k : Q (.int (if j < i then j else i)) H) : rMin2 [.int i, .int j] H Q := ⟨_, _, rfl, k⟩
theorem rd_lens (h : s.length ≤ 1000000) (k : Q (.int s.length) H) : rLenStr [.str s] H Q := ⟨_, rfl, sz_le h, k⟩
theorem rd_adds (h : s.length + z.length ≤ 1000000) (k : Q (.str (s ++ z)) H) : rAddS2 (.str s) (.str z) H Q := ⟨_, _, rfl, rfl, sz_le h, k⟩
theorem rd_nopart (k : QO none H) : tNoPart σ H QO := k
theorem rd_part (h : te σ H fun x H1 => ∃ i, x = .int i ∧ QO (some i) H1) : tPart te σ H QO := h
theorem rd_partI {P : Int → Prop} (k : P i) : ∃ i', V.int i = V.int i' ∧ P i' := ⟨_, rfl, k⟩
theorem rd_sl {r : V → Option Int → Option Int → Hp → VK → Prop} {tl th : TO} (h : te σ H fun x H1 => tl σ H1 fun l H2 => th σ H2 fun u H3 => r x l u H3 Q) : tSl r te tl th σ H Q := h
theorem rd_slL {lo hi : Option Int} (i : W.iv H) (h : At W H a (.lst xs)) (k : ∀ p H2, H p = none → Ex W H H2 → At W H2 p (.lst (cutV xs lo hi)) → Q (.ref p) H2) : rSlL K (.ref a) lo hi H Q := ⟨a, xs, rfl, h.sl, rd_new1 i k⟩
theorem rd_slT {lo hi : Option Int} (i : W.iv H) (h : At W H a (.tup xs)) (k0 : cutV xs lo hi = xs → Q (.ref a) H) (k : ∀ p H2, H p = none → Ex W H H2 → At W H2 p (.tup (cutV xs lo hi)) → Q (.ref p) H2) : rSlT K (.ref a) lo hi H Q → rSlT K (.ref a) lo hi H Q := id
theorem rd_list (i : W.iv H) (h : At W H p (.lst xs)) (k : ∀ l H2, H l = none → Ex W H H2 → At W H2 l (.lst xs) → Q (.ref l) H2) : rListO K [.ref p] H Q := ⟨p, xs, rfl, .inl h.sl, rd_new1 i k⟩
theorem rd_listT (i : W.iv H) (h : At W H p (.tup xs)) (k : ∀ l H2, H l = none → Ex W H H2 → At W H2 l (.lst xs) → Q (.ref l) H2) : rListO K [.ref p] H Q := ⟨p, xs, rfl, .inr h.st, rd_new1 i k⟩
theorem rd_tuple (i : W.iv H) (h : At W H p (.lst xs)) (k : ∀ l H2, H l = none → Ex W H H2 → At W H2 l (.tup xs) → Q (.ref l) H2) : rTupO K [.ref p] H Q := ⟨p, xs, rfl, .inl ⟨h.sl, rd_new1 i k⟩⟩
theorem rd_cat (i : W.iv H) (h1 : At W H p (.lst xs)) (h2 : At W H a (.lst ys)) (hz : xs.length + ys.length ≤ 1000000) (k : ∀ l H2, H l = none → Ex W H H2 → At W H2 l (.lst (xs ++ ys)) → Q (.ref l) H2) : rCat (.ref p) (.ref a) H Q :=
  ⟨p, a, xs, ys, rfl, rfl, h1.1, h2.1, sz_le hz, rd_new1 i k⟩
theorem rd_bm {T : String} {r : V → List V → Hp → VK → Prop} (h : ta σ H fun x H1 => tyV K T x H1 ∧ tr σ H1 fun xs H2 => r x xs H2 Q) : tBM K T r ta tr σ H Q := h
theorem rd_tyL {P : Prop} (h : At W H p (.lst xs)) (k : P) : tyV K "list" (.ref p) H ∧ P := ⟨.inl ⟨rfl, xs, h.sl⟩, k⟩
/-- a statement, then the rest, with a word between them -/
def tCut (t u : TS) : TS := fun D σ H => ∃ Mid : L2.St → Hp → Prop, t { D with nx := Mid } σ H ∧ ∀ σ' H', Mid σ' H' → u D σ' H'
theorem pss_cut {X : Cx} {st : Stmt} {rest : List Stmt} {t u : TS} (h1 : PS X st t) (h2 : PSs X rest u) : PSs X (st :: rest) (tCut t u) := by
  refine ⟨fun pins s σ H D I h => ?_⟩
  obtain ⟨Mid, hm, hu⟩ := h
  refine PySem.wpAny_execs_cons (thn (h1.run pins s σ H { D with nx := Mid } I hm) fun f s1 q => ?_)
  cases f with
  | next =>
    obtain ⟨σ', H', I', q⟩ := q
    exact h2.run pins s1 σ' H' D I' (hu σ' H' q)
  | ret v => exact q
  | brk => exact q
  | cont => exact q
theorem rd_cut (M : L2.St → Hp → Prop) (h : t { D with nx := M } σ H) (k : ∀ σ' H', M σ' H' → u D σ' H') : tCut t u D σ H := ⟨M, h, k⟩
/-- a list comprehension over a list: what its source gives, then its items -/
def LcG (K : PySem.W.Frag) (a : Addr) (g : TG) (tt : TT) (te : TE) (ws : List Nat) (σ : L2.St) (H1 : Hp) (Q : VK) : Prop := ∀ D, H1 D = none → ∃ W : Nat → Nat → Hp → Prop, (∃ m, W 0 m (upd H1 D (.lst []))) ∧ ∀ i m H, W i m H →
  ((Itl K a).stop i H ∧ Q (.ref D) H) ∨ ((Itl K a).go i H ∧ ∃ Nx : Hp → Prop, (∀ H', Nx H' → ∃ m', m' < m ∧ W (i + 1) m' H') ∧ ∀ x H', (Itl K a).yld i H x H' → g x (wipe σ ws) H' fun σ2 H2 => wipe σ2 ws = wipe σ ws ∧ tt σ2 H2 fun b H3 =>
    if b = true then te σ2 H3 fun y H4 => ∃ acc, H4 D = some (.lst acc) ∧ acc.length < sizeLine ∧ Nx (upd H4 D (.lst (acc ++ [y]))) else Nx H3)
theorem rd_lc {tl : TE} {g : TG} {tt : TT} {ws : List Nat} (h : tl σ H fun x H1 => ∃ a, x = .ref a ∧ (∃ xs, SqL K H1 a xs) ∧ LcG K a g tt te ws σ H1 Q) : tLc (iList K tl) g tt te ws σ H Q := h
/-- the heap without the list at D -/
def hide (D : Addr) (H : Hp) : Hp := fun a => if a = D then none else H a
theorem hide_ne {D q : Addr} {H : Hp} (h : q ≠ D) : hide D H q = H q := if_neg h
theorem hide_upd {D : Addr} {H : Hp} {o : HO} : hide D (upd H D o) = hide D H := by
  funext q
  unfold hide upd
  split <;> rfl
theorem hide_loc {D : Addr} {H : Hp} (i : W.iv H) (n : ¬ W.own H D) : W.iv (hide D H) ∧ ∀ a, W.own (hide D H) a → W.own H a := W.loc i fun _ ha => hide_ne fun e => n (e ▸ ha)
theorem At.hide {D q : Addr} {H : Hp} {o u : HO} (h : At W H q o) (ne : q ≠ D) (i : W.iv H) (hD : At W H D u) : At W (hide D H) q o := ⟨(hide_ne ne).trans h.1, fun z => h.2 ((hide_loc i hD.2).2 _ z)⟩
theorem Ex.unhide {D : Addr} {H : Hp} {u : HO} (i : W.iv H) (hD : At W H D u) : Ex W (Lw.hide D H) H := by
  have l := hide_loc i hD.2
  refine ⟨l.1, i, fun {a o} h => ?_, fun {a o} h => ?_⟩
  · have ne : a ≠ D := fun e => by
      have q := h.1
      rw [e] at q
      unfold Lw.hide at q
      rw [if_pos rfl] at q; cases q
    refine ⟨(hide_ne ne).symm.trans h.1, fun z => h.2 ?_⟩
    -- owned in H: owned without D
    have l2 := W.loc (H := Lw.hide D H) (H' := H) l.1 fun b hb => (hide_ne (fun e : b = D => hD.2 (e ▸ l.2 b hb))).symm
    exact l2.2 a z
  · have ne : a ≠ D := fun e => by
      rw [e] at h
      unfold Lw.hide at h
      rw [if_pos rfl] at h; cases h
    exact ⟨o, (hide_ne ne).symm.trans h⟩
theorem hide_ex {D : Addr} {H H' : Hp} {u : HO} (e : Ex W H H') (hD : At W H D u) : Ex W (Lw.hide D H) (Lw.hide D H') := by
  have l := hide_loc e.i0 hD.2
  have l' := hide_loc e.iv (e.at_ hD).2
  refine ⟨l.1, l'.1, fun {a o} h => ?_, fun {a o} h => ?_⟩
  · have h1 := (Ex.unhide e.i0 hD).at_ h
    have ne : a ≠ D := fun q => by
      have z := h.1
      rw [q] at z
      unfold Lw.hide at z
      rw [if_pos rfl] at z; cases z
    exact (e.at_ h1).hide ne e.iv (e.at_ hD)
  · have ne : a ≠ D := fun q => by
      rw [q] at h
      unfold Lw.hide at h
      rw [if_pos rfl] at h; cases h
    obtain ⟨o', q⟩ := e.tr ((hide_ne ne).symm.trans h)
    exact ⟨o', (hide_ne ne).trans q⟩
/-- a tuple, a list made since -/
theorem At.hideT {D q : Addr} {H0 H : Hp} {vs acc : List V} (h : At W H q (.tup vs)) (e : Ex W H0 H) (hD : At W H0 D (.lst acc)) : At W (Lw.hide D H) q (.tup vs) := h.hide (h.ne (e.at_ hD) (fun z => by cases z)) e.iv (e.at_ hD)
theorem At.hideN {D q : Addr} {H0 H1 H : Hp} {o : HO} {acc : List V} (h : At W H q o) (e : Ex W H0 H) (hD : At W H0 D (.lst acc)) (e1 : Ex W H0 H1) (f : H1 q = none) : At W (Lw.hide D H) q o :=
  h.hide (fun z => by have r := (e1.at_ hD).1; rw [← z, f] at r; cases r) e.iv (e.at_ hD)
/-- the items: keep says which are taken, R what is made of one (without the new list, at D) -/
theorem rd_lcF {tt : TT} {m : Nat} (keep : V → Bool) (R : V → V → Hp → Prop) (i : W.iv H) (ha : At W H a (.lst xs)) (hz : xs.length ≤ 50000) (hm : ∀ x y H H', Ex W H H' → R x y H → R x y H')
    (ht : ∀ (n : Nat) x H' (QB : Bool → Hp → Prop), xs[n]? = some x → Ex W H H' → (∀ H3, Ex W H' H3 → QB (keep x) H3) → tt ((wipe σ [m]).set m (some x)) H' QB)
    (he : ∀ (n : Nat) x D acc H' (QV : VK), xs[n]? = some x → keep x = true → H D = none → At W H' D (.lst acc) → Ex W H H' → (∀ y H4, Ex W H' H4 → R x y (Lw.hide D H4) → QV y H4) → te ((wipe σ [m]).set m (some x)) H' QV)
    (k : ∀ D H2 ys, H D = none → Ex W H H2 → At W H2 D (.lst ys) → All2 (fun x y => R x y H2) (xs.filter keep) ys → Q (.ref D) H2) :
    ∃ a', V.ref a = V.ref a' ∧ (∃ xs, SqL K H a' xs) ∧ LcG K a' (gName m) tt te [m] σ H Q := by
  refine ⟨a, rfl, ⟨xs, ha.sl⟩, fun D hD => ?_⟩
  refine lc_list (xs := xs) (fun n H' => ∃ ys, Ex W H H' ∧ At W H' D (.lst ys) ∧ All2 (fun x y => R x y (Lw.hide D H')) ((xs.take n).filter keep) ys ∧ ys.length ≤ n) ⟨[], Ex.new i hD, At.new i hD, .nil, Nat.le_refl _⟩ (fun n H' _ ⟨_, e, _⟩ => (e.at_ ha).sl) (fun n x H' hx ⟨ys, e, hd, h2, hl⟩ => ?_) (fun H' ⟨ys, e, hd, h2, hl⟩ => ?_)
  · have hn : n < xs.length := (List.getElem?_eq_some_iff.mp hx).1
    have tk : xs.take (n + 1) = xs.take n ++ [x] := by rw [List.take_add_one, hx]; rfl
    refine ⟨by show wipe _ _ = _; simp [wipe, List.set_set], ?_⟩
    refine ht n x H' _ hx e fun H3 e3 => ?_
    refine ifB (fun hk => ?_) (fun hk => ?_)
    · refine he n x D ys H3 _ hx hk hD (e3.at_ hd) (e.trans e3) fun y H4 e4 r => ⟨ys, (e4.at_ (e3.at_ hd)).1, sz_lt (by omega), ys ++ [y], ((e.trans e3).trans e4).mut hD (e4.at_ (e3.at_ hd)), At.mut e4.iv (e4.at_ (e3.at_ hd)), ?_, by rw [List.length_append, List.length_singleton]; omega⟩
      rw [tk, List.filter_append, List.filter_cons, if_pos hk, hide_upd]
      exact All2.snoc (All2.mono (fun x' y' r' => hm x' y' _ _ (hide_ex (e3.trans e4) hd) r') h2) r
    · refine ⟨ys, e.trans e3, e3.at_ hd, ?_, by omega⟩
      rw [tk, List.filter_append, List.filter_cons, if_neg (by rw [hk]; decide)]
      show All2 _ (_ ++ []) _
      rw [List.append_nil]
      exact All2.mono (fun x' y' r' => hm x' y' _ _ (hide_ex e3 hd) r') h2
  · rw [List.take_length] at h2
    exact k D H' ys hD e hd (All2.mono (fun x' y' r' => hm x' y' _ _ (Ex.unhide e.iv hd) r') h2)
/-- no test -/
theorem rd_lc1 {m : Nat} (R : V → V → Hp → Prop) (i : W.iv H) (ha : At W H a (.lst xs)) (hz : xs.length ≤ 50000) (hm : ∀ x y H H', Ex W H H' → R x y H → R x y H')
    (he : ∀ (n : Nat) x D acc H' (QV : VK), xs[n]? = some x → H D = none → At W H' D (.lst acc) → Ex W H H' → (∀ y H4, Ex W H' H4 → R x y (Lw.hide D H4) → QV y H4) → te ((wipe σ [m]).set m (some x)) H' QV)
    (k : ∀ D H2 ys, H D = none → Ex W H H2 → At W H2 D (.lst ys) → All2 (fun x y => R x y H2) xs ys → Q (.ref D) H2) :
    ∃ a', V.ref a = V.ref a' ∧ (∃ xs, SqL K H a' xs) ∧ LcG K a' (gName m) tYes te [m] σ H Q :=
  rd_lcF (fun _ => true) R i ha hz hm (fun n x H' QB _ e q => q H' (Ex.refl e.iv)) (fun n x D acc H' QV h1 _ h2 h3 h4 h5 => he n x D acc H' QV h1 h2 h3 h4 h5) fun D H2 ys h1 h2 h3 h4 => k D H2 ys h1 h2 h3 (by
    have z : xs.filter (fun _ => true) = xs := by simp
    rwa [z] at h4)
/-- a list comprehension over a list: what its source gives, then its items -/
def LcGT (K : PySem.W.Frag) (a : Addr) (g : TG) (tt : TT) (te : TE) (ws : List Nat) (σ : L2.St) (H1 : Hp) (Q : VK) : Prop := ∀ D, H1 D = none → ∃ W : Nat → Nat → Hp → Prop, (∃ m, W 0 m (upd H1 D (.lst []))) ∧ ∀ i m H, W i m H →
  ((Itt K a).stop i H ∧ Q (.ref D) H) ∨ ((Itt K a).go i H ∧ ∃ Nx : Hp → Prop, (∀ H', Nx H' → ∃ m', m' < m ∧ W (i + 1) m' H') ∧ ∀ x H', (Itt K a).yld i H x H' → g x (wipe σ ws) H' fun σ2 H2 => wipe σ2 ws = wipe σ ws ∧ tt σ2 H2 fun b H3 =>
    if b = true then te σ2 H3 fun y H4 => ∃ acc, H4 D = some (.lst acc) ∧ acc.length < sizeLine ∧ Nx (upd H4 D (.lst (acc ++ [y]))) else Nx H3)
theorem rd_lcT {tl : TE} {g : TG} {tt : TT} {ws : List Nat} (h : tl σ H fun x H1 => ∃ a, x = .ref a ∧ (∃ xs, SqT K H1 a xs) ∧ LcGT K a g tt te ws σ H1 Q) : tLc (iTup K tl) g tt te ws σ H Q := h
/-- the items: keep says which are taken, R what is made of one (without the new list, at D) -/
theorem rd_lcTF {tt : TT} {m : Nat} (keep : V → Bool) (R : V → V → Hp → Prop) (i : W.iv H) (ha : At W H a (.tup xs)) (hz : xs.length ≤ 50000) (hm : ∀ x y H H', Ex W H H' → R x y H → R x y H')
    (ht : ∀ (n : Nat) x H' (QB : Bool → Hp → Prop), xs[n]? = some x → Ex W H H' → (∀ H3, Ex W H' H3 → QB (keep x) H3) → tt ((wipe σ [m]).set m (some x)) H' QB)
    (he : ∀ (n : Nat) x D acc H' (QV : VK), xs[n]? = some x → keep x = true → H D = none → At W H' D (.lst acc) → Ex W H H' → (∀ y H4, Ex W H' H4 → R x y (Lw.hide D H4) → QV y H4) → te ((wipe σ [m]).set m (some x)) H' QV)
    (k : ∀ D H2 ys, H D = none → Ex W H H2 → At W H2 D (.lst ys) → All2 (fun x y => R x y H2) (xs.filter keep) ys → Q (.ref D) H2) :
    ∃ a', V.ref a = V.ref a' ∧ (∃ xs, SqT K H a' xs) ∧ LcGT K a' (gName m) tt te [m] σ H Q := by
  refine ⟨a, rfl, ⟨xs, ha.st⟩, fun D hD => ?_⟩
  refine lc_tup (xs := xs) (fun n H' => ∃ ys, Ex W H H' ∧ At W H' D (.lst ys) ∧ All2 (fun x y => R x y (Lw.hide D H')) ((xs.take n).filter keep) ys ∧ ys.length ≤ n) ⟨[], Ex.new i hD, At.new i hD, .nil, Nat.le_refl _⟩ (fun n H' _ ⟨_, e, _⟩ => (e.at_ ha).st) (fun n x H' hx ⟨ys, e, hd, h2, hl⟩ => ?_) (fun H' ⟨ys, e, hd, h2, hl⟩ => ?_)
  · have hn : n < xs.length := (List.getElem?_eq_some_iff.mp hx).1
    have tk : xs.take (n + 1) = xs.take n ++ [x] := by rw [List.take_add_one, hx]; rfl
    refine ⟨by show wipe _ _ = _; simp [wipe, List.set_set], ?_⟩
    refine ht n x H' _ hx e fun H3 e3 => ?_
    refine ifB (fun hk => ?_) (fun hk => ?_)
    · refine he n x D ys H3 _ hx hk hD (e3.at_ hd) (e.trans e3) fun y H4 e4 r => ⟨ys, (e4.at_ (e3.at_ hd)).1, sz_lt (by omega), ys ++ [y], ((e.trans e3).trans e4).mut hD (e4.at_ (e3.at_ hd)), At.mut e4.iv (e4.at_ (e3.at_ hd)), ?_, by rw [List.length_append, List.length_singleton]; omega⟩
      rw [tk, List.filter_append, List.filter_cons, if_pos hk, hide_upd]
      exact All2.snoc (All2.mono (fun x' y' r' => hm x' y' _ _ (hide_ex (e3.trans e4) hd) r') h2) r
    · refine ⟨ys, e.trans e3, e3.at_ hd, ?_, by omega⟩
      rw [tk, List.filter_append, List.filter_cons, if_neg (by rw [hk]; decide)]
      show All2 _ (_ ++ []) _
      rw [List.append_nil]
      exact All2.mono (fun x' y' r' => hm x' y' _ _ (hide_ex e3 hd) r') h2
  · rw [List.take_length] at h2
    exact k D H' ys hD e hd (All2.mono (fun x' y' r' => hm x' y' _ _ (Ex.unhide e.iv hd) r') h2)
/-- no test -/
theorem rd_lcT1 {m : Nat} (R : V → V → Hp → Prop) (i : W.iv H) (ha : At W H a (.tup xs)) (hz : xs.length ≤ 50000) (hm : ∀ x y H H', Ex W H H' → R x y H → R x y H')
    (he : ∀ (n : Nat) x D acc H' (QV : VK), xs[n]? = some x → H D = none → At W H' D (.lst acc) → Ex W H H' → (∀ y H4, Ex W H' H4 → R x y (Lw.hide D H4) → QV y H4) → te ((wipe σ [m]).set m (some x)) H' QV)
    (k : ∀ D H2 ys, H D = none → Ex W H H2 → At W H2 D (.lst ys) → All2 (fun x y => R x y H2) xs ys → Q (.ref D) H2) :
    ∃ a', V.ref a = V.ref a' ∧ (∃ xs, SqT K H a' xs) ∧ LcGT K a' (gName m) tYes te [m] σ H Q :=
  rd_lcTF (fun _ => true) R i ha hz hm (fun n x H' QB _ e q => q H' (Ex.refl e.iv)) (fun n x D acc H' QV h1 _ h2 h3 h4 h5 => he n x D acc H' QV h1 h2 h3 h4 h5) fun D H2 ys h1 h2 h3 h4 => k D H2 ys h1 h2 h3 (by
    have z : xs.filter (fun _ => true) = xs := by simp
    rwa [z] at h4)
theorem rd_any {bs : List Bool} (h : At W H a (.lst (bs.map V.bl))) (k : Q (.bl (bs.any id)) H) : rAny K [.ref a] H Q := ⟨a, bs, rfl, h.sl, k⟩
theorem rd_all {bs : List Bool} (h : At W H a (.lst (bs.map V.bl))) (k : Q (.bl (bs.all id)) H) : rAll K [.ref a] H Q := ⟨a, bs, rfl, h.sl, k⟩
theorem rd_sum {ns : List Int} (h : At W H a (.lst (ns.map V.int))) (k : Q (.int ns.sum) H) : rSum K [.ref a] H Q := ⟨a, ns, rfl, h.sl, k⟩
theorem rd_inK (h : SqT K H p xs) (f : flatV x = true) (g : xs.all flatV = true) (k : Q (.bl (inV x xs)) H) : rIn K false x (.ref p) H Q := ⟨p, xs, rfl, .inr h, f, g, k⟩
theorem rd_niK (h : SqT K H p xs) (f : flatV x = true) (g : xs.all flatV = true) (k : Q (.bl (!inV x xs)) H) : rIn K true x (.ref p) H Q := ⟨p, xs, rfl, .inr h, f, g, k⟩
theorem rd_inT (h : At W H p (.tup xs)) (f : flatV x = true) (g : xs.all flatV = true) (k : Q (.bl (inV x xs)) H) : rIn K false x (.ref p) H Q := ⟨p, xs, rfl, .inr h.st, f, g, k⟩
theorem rd_niT (h : At W H p (.tup xs)) (f : flatV x = true) (g : xs.all flatV = true) (k : Q (.bl (!inV x xs)) H) : rIn K true x (.ref p) H Q := ⟨p, xs, rfl, .inr h.st, f, g, k⟩
theorem rd_inL (h : At W H p (.lst xs)) (f : flatV x = true) (g : xs.all flatV = true) (k : Q (.bl (inV x xs)) H) : rIn K false x (.ref p) H Q := ⟨p, xs, rfl, .inl h.sl, f, g, k⟩
theorem rd_niL (h : At W H p (.lst xs)) (f : flatV x = true) (g : xs.all flatV = true) (k : Q (.bl (!inV x xs)) H) : rIn K true x (.ref p) H Q := ⟨p, xs, rfl, .inl h.sl, f, g, k⟩
theorem rd_slTn {lo hi : Option Int} (i : W.iv H) (h : At W H a (.tup xs)) (n : ¬ (HT.sIx xs.length 0 lo = 0 ∧ HT.sIx xs.length xs.length hi = xs.length)) (k : ∀ p H2, H p = none → Ex W H H2 → At W H2 p (.tup (cutV xs lo hi)) → Q (.ref p) H2) : rSlT K (.ref a) lo hi H Q := ⟨a, xs, rfl, h.st, n, rd_new1 i k⟩
theorem rd_gtup {QS : L2.St → Hp → Prop} {ts : TGs} (h : At W H a (.tup xs)) (e : xs.length = n) (k : ts xs σ H QS) : gTup K n ts (.ref a) σ H QS := ⟨a, xs, rfl, h.st, e, k⟩
theorem rd_gconsE {QS : L2.St → Hp → Prop} {g : TG} {ts : TGs} (e : vs = v :: xs) (k : g v σ H fun σ' H' => ts xs σ' H' QS) : gCons g ts vs σ H QS := ⟨v, xs, e, k⟩
theorem rd_gnilE {QS : L2.St → Hp → Prop} (e : vs = []) (k : QS σ H) : gNil vs σ H QS := ⟨e, k⟩
theorem rd_isi {nm mm : String} (ty : TyX K H x (.type nm)) (h : kitB nm mm = some b) (k : Q (.bl b) H) : rIsi K [x, .ty mm] H Q := ⟨x, .ty mm, .type nm, .type mm, b, rfl, .ty _, ty, kit_ty h, k⟩
theorem rd_isiY {nm mm : String} (ty : TyX K H x (.type nm)) (h : kitB nm mm = some true) (k : Q (.bl true) H) : rIsi K [x, .ty mm] H Q := rd_isi ty h k
theorem rd_isiN {nm mm : String} (ty : TyX K H x (.type nm)) (h : kitB nm mm = some false) (k : Q (.bl false) H) : rIsi K [x, .ty mm] H Q := rd_isi ty h k
theorem rd_slLs {lo hi : Option Int} (i : W.iv H) (h : SqL K H a xs) (k : ∀ p H2, H p = none → Ex W H H2 → At W H2 p (.lst (cutV xs lo hi)) → Q (.ref p) H2) : rSlL K (.ref a) lo hi H Q := ⟨a, xs, rfl, h, rd_new1 i k⟩
theorem rd_gcons {QS : L2.St → Hp → Prop} {g : TG} {ts : TGs} (k : g v σ H fun σ' H' => ts xs σ' H' QS) : gCons g ts (v :: xs) σ H QS := ⟨v, xs, rfl, k⟩
theorem rd_gnil {QS : L2.St → Hp → Prop} (k : QS σ H) : gNil [] σ H QS := ⟨rfl, k⟩
theorem rd_gname {QS : L2.St → Hp → Prop} {m : Nat} (k : QS (σ.set m (some v)) H) : gName m v σ H QS := k
/-- a for over a list, a tuple, a range: its source, then for_list .. -/
def FoG (K : PySem.W.Frag) (a : Addr) (g : TG) (tb : TS) (D : Ends) (σ : L2.St) (H : Hp) : Prop := ∃ W : Nat → Nat → L2.St → Hp → Prop, (∃ m, W 0 m σ H) ∧ ∀ i m σ H, W i m σ H →
  ((Itl K a).stop i H ∧ D.nx σ H) ∨ ((Itl K a).go i H ∧ ∃ N : L2.St → Hp → Prop, (∀ σ' H', N σ' H' → ∃ m', m' < m ∧ W (i + 1) m' σ' H') ∧ ∀ x H', (Itl K a).yld i H x H' → g x σ H' fun σ2 H2 => tb { D with nx := N, ct := N, bk := D.nx } σ2 H2)
def FoR (lo : Int) (n : Nat) (g : TG) (tb : TS) (D : Ends) (σ : L2.St) (H : Hp) : Prop := ∃ W : Nat → Nat → L2.St → Hp → Prop, (∃ m, W 0 m σ H) ∧ ∀ i m σ H, W i m σ H →
  ((Itr lo n).stop i H ∧ D.nx σ H) ∨ ((Itr lo n).go i H ∧ ∃ N : L2.St → Hp → Prop, (∀ σ' H', N σ' H' → ∃ m', m' < m ∧ W (i + 1) m' σ' H') ∧ ∀ x H', (Itr lo n).yld i H x H' → g x σ H' fun σ2 H2 => tb { D with nx := N, ct := N, bk := D.nx } σ2 H2)
theorem rd_forL {tl : TE} {g : TG} {tb : TS} (h : tl σ H fun x H1 => ∃ a, x = .ref a ∧ (∃ xs, SqL K H1 a xs) ∧ FoG K a g tb D σ H1) : tFor (iList K tl) g tb D σ H := h
theorem rd_forR1 {g : TG} {tb : TS} (h : tr σ H fun vs H1 => ∃ j : Int, vs = [.int j] ∧ -(2 ^ 62) ≤ j ∧ j < 2 ^ 62 ∧ FoR 0 j.toNat g tb D σ H1) : tFor (iRng1 tr) g tb D σ H := h
theorem rd_forR2 {g : TG} {tb : TS} (h : tr σ H fun vs H1 => ∃ i j : Int, vs = [.int i, .int j] ∧ (-(2 ^ 62) ≤ i ∧ i < 2 ^ 62 ∧ -(2 ^ 62) ≤ j ∧ j < 2 ^ 62) ∧ FoR i (j - i).toNat g tb D σ H1) : tFor (iRng2 tr) g tb D σ H := h
theorem rd_forR1a {g : TG} {tb : TS} (h1 : -(2 ^ 62) ≤ j) (h2 : j < 2 ^ 62) (h : FoR 0 j.toNat g tb D σ H) : ∃ j' : Int, [V.int j] = [V.int j'] ∧ -(2 ^ 62) ≤ j' ∧ j' < 2 ^ 62 ∧ FoR 0 j'.toNat g tb D σ H := ⟨j, rfl, h1, h2, h⟩
theorem rd_forR2a {g : TG} {tb : TS} (h1 : -(2 ^ 62) ≤ i) (h2 : i < 2 ^ 62) (h3 : -(2 ^ 62) ≤ j) (h4 : j < 2 ^ 62) (h : FoR i (j - i).toNat g tb D σ H) : ∃ i' j' : Int, [V.int i, V.int j] = [V.int i', V.int j'] ∧ (-(2 ^ 62) ≤ i' ∧ i' < 2 ^ 62 ∧ -(2 ^ 62) ≤ j' ∧ j' < 2 ^ 62) ∧ FoR i' (j' - i').toNat g tb D σ H := ⟨i, j, rfl, ⟨h1, h2, h3, h4⟩, h⟩
theorem rd_forLa {g : TG} {tb : TS} (h : At W H a (.lst xs)) (k : FoG K a g tb D σ H) : ∃ a', V.ref a = V.ref a' ∧ (∃ xs, SqL K H a' xs) ∧ FoG K a' g tb D σ H := ⟨a, rfl, ⟨xs, h.sl⟩, k⟩
/-- over range: Pv by the turn -/
theorem for_r {lo : Int} {m n : Nat} {tb : TS} (Pv : Nat → L2.St → Hp → Prop) (h0 : Pv 0 σ H) (hs : ∀ (i : Nat) σ H, i < n → Pv i σ H → tb { D with nx := Pv (i + 1), ct := Pv (i + 1), bk := D.nx } (σ.set m (some (.int (lo + i)))) H) (hd : ∀ σ H, Pv n σ H → D.nx σ H) : FoR lo n (gName m) tb D σ H :=
  for_range Pv h0 hs hd
theorem for_l {g : TG} {tb : TS} (Pv : Nat → L2.St → Hp → Prop) (h0 : Pv 0 σ H) (hl : ∀ i σ H, i ≤ xs.length → Pv i σ H → At W H a (.lst xs)) (hs : ∀ i x σ H, xs[i]? = some x → Pv i σ H → g x σ H fun σ2 H2 => tb { D with nx := Pv (i + 1), ct := Pv (i + 1), bk := D.nx } σ2 H2) (hd : ∀ σ H, Pv xs.length σ H → D.nx σ H) : FoG K a g tb D σ H :=
  for_list Pv h0 (fun i σ H h p => (hl i σ H h p).sl) hs hd
/-- an append to a list of our own (unknown at H0) -/
theorem rd_append {H0 : Hp} (e : Ex W H0 H) (h0 : H0 p = none) (h : At W H p (.lst xs)) (hz : xs.length < 1000000)
    (k : ∀ H2, Ex W H0 H2 → At W H2 p (.lst (xs ++ [y])) → (∀ q o, q ≠ p → At W H q o → At W H2 q o) → Q .non H2) : rAppend (.ref p) [y] H Q :=
  ⟨p, xs, y, rfl, rfl, h.1, sz_lt hz, k _ (e.mut h0 h) (.mut e.iv h) fun _ _ ne q => .other e.iv h q ne⟩
end
end Lw

/-! Lw2: loops and comprehensions over anything that is walked, enumerate with a start, dicts, texts. -/
namespace Lw
open PySem L2 PySem.Spec PyProof.Rows

/-! ### enumerate(xs, start=k), enumerate of a tuple -/
/-- a type of the language called with named arguments -/
theorem callWith_tyK {M : Model} {A : Around} {E : Value → Shared → Prop} {s : Shared} {env : Env} {pos : Pos} {T : String} {e : Expr} {rest : List Expr} {kws : List Keyword} {Q : Value → Shared → Prop}
    (h : wpAny M A (spliced (backTo pos (starEach (e :: rest) env))) (fun vs s₁ => wpAny M A (evalAll ((backToKw pos (keywordEach kws env)).map (·.2)))
      (fun zs s₂ => wpAny M A (call (.type T) vs (((backToKw pos (keywordEach kws env)).filterMap (·.1)).zip zs)) Q E s₂) E s₁) E s)
    (he : backTo pos (starEach (e :: rest) env) = (false, eval e env) :: backTo pos (starEach rest env)) (hp : (backTo pos (starEach (e :: rest) env)).any (·.1) = false)
    (ha : (backToKw pos (keywordEach kws env)).all (·.1.isSome) = true) (hk : (backToKw pos (keywordEach kws env)).any (·.1.isNone) = false) :
    wpAny M A (callWith pos (.type T) [] (backTo pos (starEach (e :: rest) env)) (backToKw pos (keywordEach kws env))) Q E s := by
  have h1 : wpAny M A (evalArgs (.type T) true (backTo pos (starEach (e :: rest) env)) (backToKw pos (keywordEach kws env))) (fun a s₁ => wpAny M A (call (.type T) ([] ++ a.pos) a.kw) Q E s₁) E s := by
    rw [he] at h ⊢
    exact evalArgs_kwB ha h
  unfold callWith
  refine wpAny_bind (wpAny_holding (wpAny_mono h1 (fun a s₁ q => wpAny_bind (wpAny_standAt ?_)) fun _ _ x => x))
  simp only [hp, hk, Bool.or_false]
  exact wpAny_bind (wpAny_pure (wpAny_bind (wpAny_mono q (fun r s₂ hr => wpAny_bind (wpAny_holding (wpAny_point (wpAny_pure hr)))) fun _ _ x => x)))
def IteL (K : PySem.W.Frag) (c : Int) (a : Addr) : It :=
  ⟨fun i H => ∃ xs x, SqL K H a xs ∧ xs[i]? = some x, fun i H v H' => ∃ T x, v = .ref T ∧ H T = none ∧ H' = upd H T (.tup [.int (c + (i : Nat)), x]) ∧ ∀ xs, SqL K H a xs → xs[i]? = some x, fun i H => ∃ xs, SqL K H a xs ∧ xs.length ≤ i⟩
def IteT (K : PySem.W.Frag) (c : Int) (a : Addr) : It :=
  ⟨fun i H => ∃ xs x, SqT K H a xs ∧ xs[i]? = some x, fun i H v H' => ∃ T x, v = .ref T ∧ H T = none ∧ H' = upd H T (.tup [.int (c + (i : Nat)), x]) ∧ ∀ xs, SqT K H a xs → xs[i]? = some x, fun i H => ∃ xs, SqT K H a xs ∧ xs.length ≤ i⟩
/-- one turn of it, told by what its source draws -/
theorem enum_turn {elts : List Expr} {kk : Nat} {tpos : Pos} {X : Cx} {pins : List (Addr × Obj)} {s : Shared} {σ : L2.St} {H : Hp} {E : Value → Shared → Prop} {e it src : Addr} {n i : Nat} {c : Int} {x : V} {u old : Value} {P : Nat → Value → Prop} {S : Nat → Heap → Prop} {tn' : Heap → Prop} {y : V → Hp → Prop}
    (I : Inv X pins σ H s) (D : Draws X.prog X.w X.A.in1 it [it, src] n P S) (hf : ∀ b ∈ [e, it], FpOk X pins H b) (he : IsEnum s.heap e it (c + ((i : Nat) : Int)) old) (hst : S i s.heap) (hi : i < n) (hne : e ≠ it) (hns : e ≠ src)
    (hP : ∀ v, P i v → v = u) (ru : RelV x u) (hs : ∀ h, S (i + 1) h → ∃ o, h.get? it = some o) (hk : ∀ h h', S (i + 1) h → (∀ b o, b ≠ e → h.get? b = some o → h'.get? b = some o) → S (i + 1) h')
    (ht : ∀ h, (∃ old, IsEnum h e it (c + ((i + 1 : Nat) : Int)) old) → S (i + 1) h → tn' h) (hy : ∀ T, H T = none → y (.ref T) (upd H T (.tup [.int (c + (i : Nat)), x]))) :
    wpAny (model X.prog X.w) X.A (pyNext (.ref e)) (fun r s1 => ∃ v, r = some v ∧
      wpAny (model X.prog X.w) X.A (letOwnedTupleGo (.Tuple elts kk tpos) (.ref e) v) (fun _ s2 => ∃ x' H', Inv X pins σ H' s2 ∧ RelV x' v ∧ y x' H' ∧ tn' s2.heap ∧ ∀ b ∈ [e, it], H' b = none) E s1) E s := by
  have hel : e < s.heap.objs.size := Heap.lt_size he
  have hil : it < s.heap.objs.size := by obtain ⟨_, q⟩ := D.live _ _ hst; exact Heap.lt_size q
  refine wpAny_pyNext_enum_itemC D he hst hi hne (by simp [hne, hns]) fun v h' tk hv ho hs' hT hsz hb => ?_
  cases hP v hv
  refine ⟨_, rfl, wpAny_letOwnedTupleGo_enum (s := { s with heap := h', toks := tk + 1 }) ho fun h2 he2 sb => ?_⟩
  have hT2 : h2.get? s.heap.objs.size = some { cls := .type "tuple", data := .seq #[.int (c + (i : Nat)) tk, u] } := (sb.2 _ (Nat.ne_of_gt hel)).trans hT
  have new : ObjOk X.prog X.w (upd H s.heap.objs.size (.tup [.int (c + (i : Nat)), x])) h2 s.heap.objs.size (.tup [.int (c + (i : Nat)), x]) :=
    ⟨by show 2 ≤ sizeLine; decide, [.int (c + (i : Nat)) tk, u], .cons ⟨_, rfl⟩ (.cons ru .nil), ⟨_, hT2, rfl, _, rfl⟩⟩
  have I2 : Inv X pins σ (upd H s.heap.objs.size (.tup [.int (c + (i : Nat)), x])) { s with heap := h2, toks := tk + 1 } :=
    I.turnedNew (ch := [e, it]) (fun b ob hc q => (sb.2 b (fun z => hc (by simp [z]))).trans (hb b ob (fun z => hc (by simp [z])) (fun z => hc (by simp [z])) q)) hf (Nat.le_refl _) new
  refine ⟨.ref s.heap.objs.size, _, I2, rfl, hy _ (I.hok.fresh (Nat.le_refl _)), ht _ ⟨u, ?_⟩ (hk _ _ hs' fun b o ne q => (sb.2 b ne).trans q), fun b hm => ?_⟩
  · have e1 : c + ((i + 1 : Nat) : Int) = c + (i : Int) + 1 := by omega
    rw [e1]; exact he2
  · have hlt : b < s.heap.objs.size := by
      rcases List.mem_cons.mp hm with z | z
      · rw [z]; exact hel
      · rw [List.mem_singleton.mp z]; exact hil
    rw [upd_ne (Nat.ne_of_lt hlt)]
    exact (hf b hm).1
theorem isEnum_ne_seq {h : Heap} {e it a : Addr} {c : Int} {old : Value} {ob : Obj} {t : String} (he : IsEnum h e it c old) (hl : h.get? a = some ob) (hc : ob.cls = .type t) (ht : t ≠ "enumerate") : e ≠ a := fun z => by
  rw [← z, show h.get? e = _ from he] at hl
  cases hl
  exact ht (by injection hc with q; exact q.symm)
theorem turn_enumL {P : Program} {w : World} {K : PySem.W.Frag} {elts : List Expr} {kk : Nat} {tpos : Pos} (c : Int) (a e it : Addr) :
    Turn P w K (.Tuple elts kk tpos) (IteL K c a) [e, it] e (fun i h => (∃ old, IsEnum h e it (c + ((i : Nat) : Int)) old) ∧ h.IsListIter it a i ∧ e ≠ it) where
  mem := by simp
  obj := fun i h st b hb => by
    obtain ⟨⟨old, he⟩, ⟨o, ho, _, hd⟩, _⟩ := st
    rcases List.mem_cons.mp hb with z | z
    · rw [z]; exact ⟨_, he, fun v q => nomatch q⟩
    · rw [List.mem_singleton.mp z]; exact ⟨o, ho, fun v q => by rw [hd] at q; cases q⟩
  keep := fun i h h' st k => let ⟨⟨old, he⟩, hi, hne⟩ := st; ⟨⟨old, k e (by simp) _ he⟩, hi.at fun o q => k it (by simp) o q, hne⟩
  item := by
    intro X hP hw hK hc i pins s σ H E I hf st hg
    subst hP hw hK
    obtain ⟨⟨old, he⟩, hit, hne⟩ := st
    obtain ⟨xs, x, hq, hx⟩ := hg
    obtain ⟨its, rv, p, hz⟩ := I.list hq
    obtain ⟨u, hu, ru⟩ := rv.get hx
    obtain ⟨ol, hol, hcl, _⟩ := p.isList
    obtain ⟨oi, hoi, hci, _⟩ := id hit
    have hai : a ≠ it := fun z => by
      rw [z, hoi] at hol
      cases hol
      rw [hci] at hcl
      injection hcl with q; exact absurd q (by decide)
    have hi : i < its.toArray.size := by simpa using (List.getElem?_eq_some_iff.mp hu).1
    refine enum_turn (y := (IteL X.K c a).yld i H) (tn' := fun h => (∃ old, IsEnum h e it (c + ((i + 1 : Nat) : Int)) old) ∧ h.IsListIter it a (i + 1) ∧ e ≠ it) I (Draws.list (show X.A.in1.handled = none from I.ok.hd hc) it a hai its.toArray) hf he ⟨hit, p.isList⟩ hi hne (isEnum_ne_seq he hol hcl (by decide)) (u := u) (fun v hv => ?_) ru (fun h q => ?_) (fun h h' q k => ?_) (fun h q r => ⟨q, r.1, hne⟩) fun T hT => ⟨T, x, rfl, hT, rfl, fun ys hy => by rw [I.list_inj hy hq]; exact hx⟩
    · have hv' : its[i]? = some v := by simpa using hv
      rw [hu] at hv'; exact (Option.some.inj hv').symm
    · obtain ⟨o, ho, _⟩ := q.1; exact ⟨o, ho⟩
    · exact ⟨q.1.at fun o z => k _ o (Ne.symm hne) z, q.2.at fun o z => k _ o (isEnum_ne_seq he hol hcl (by decide)).symm z⟩
  done := by
    intro X hP hw hK hc i pins s σ H E I hf st hg
    subst hP hw hK
    obtain ⟨⟨old, he⟩, hit, hne⟩ := st
    obtain ⟨xs, hq, hx⟩ := hg
    obtain ⟨its, rv, p, hz⟩ := I.list hq
    obtain ⟨f0, f1, f2, f3, f4, f5⟩ := hf it (by simp)
    have hl := rv.length
    have hT : s.TypeIs (.ref e) "enumerate" := ⟨_, he, rfl⟩
    unfold pyNext
    refine wpAny_bind (wpAny_attempt (wpAny_callSpecial?_slot (name := Str.ofString "__next__") hT F.slot_enumerate_next
      (wpAny_call_entry F.slot_enumerate_next hT F.entry_enumerate_next ?_ (F.args_enumerate_next_1 _))))
    show wpAny _ _ (field (.ref e) 2 >>= _) _ _ _
    refine wpAny_bind (wpAny_field he rfl (x := .ref it) rfl ?_)
    refine wpAny_bind (wpAny_nextOf_list_end (I.ok.hd hc) hit p.isList (by simp; omega) fun h' x eb hx' => ?_)
    obtain ⟨o, ho, hcs⟩ := hx'
    refine wpAny_bind (wpAny_isInstance (T := "StopIteration") (b := true) ⟨o, ho, hcs⟩ isSubtype_stop ?_)
    exact wpAny_pure ⟨rfl, I.turned (t' := s.toks) (fun b o hb q => eb b o hb q) f0 f1 f3 f4 f5⟩
  self := fun A i s Q E st h => let ⟨⟨_, he⟩, _⟩ := st; wpAny_pyIter_enum he h
theorem turn_enumT {P : Program} {w : World} {K : PySem.W.Frag} {elts : List Expr} {kk : Nat} {tpos : Pos} (c : Int) (a e it : Addr) :
    Turn P w K (.Tuple elts kk tpos) (IteT K c a) [e, it] e (fun i h => (∃ old, IsEnum h e it (c + ((i : Nat) : Int)) old) ∧ h.IsTupleIter it a i ∧ e ≠ it) where
  mem := by simp
  obj := fun i h st b hb => by
    obtain ⟨⟨old, he⟩, ⟨o, ho, _, hd⟩, _⟩ := st
    rcases List.mem_cons.mp hb with z | z
    · rw [z]; exact ⟨_, he, fun v q => nomatch q⟩
    · rw [List.mem_singleton.mp z]; exact ⟨o, ho, fun v q => by rw [hd] at q; cases q⟩
  keep := fun i h h' st k => let ⟨⟨old, he⟩, hi, hne⟩ := st; ⟨⟨old, k e (by simp) _ he⟩, hi.at fun o q => k it (by simp) o q, hne⟩
  item := by
    intro X hP hw hK hc i pins s σ H E I hf st hg
    subst hP hw hK
    obtain ⟨⟨old, he⟩, hit, hne⟩ := st
    obtain ⟨xs, x, hq, hx⟩ := hg
    obtain ⟨its, rv, p, hz⟩ := I.tuple hq
    obtain ⟨u, hu, ru⟩ := rv.get hx
    have p' : s.heap.IsTuple a its.toArray := p
    obtain ⟨ol, hol, hcl, _⟩ := id p'
    obtain ⟨oi, hoi, hci, _⟩ := id hit
    have hai : a ≠ it := fun z => by
      rw [z, hoi] at hol
      cases hol
      rw [hci] at hcl
      injection hcl with q; exact absurd q (by decide)
    have hi : i < its.toArray.size := by simpa using (List.getElem?_eq_some_iff.mp hu).1
    refine enum_turn (y := (IteT X.K c a).yld i H) (tn' := fun h => (∃ old, IsEnum h e it (c + ((i + 1 : Nat) : Int)) old) ∧ h.IsTupleIter it a (i + 1) ∧ e ≠ it) I (Draws.tuple (show X.A.in1.handled = none from I.ok.hd hc) it a hai its.toArray) hf he ⟨hit, p'⟩ hi hne (isEnum_ne_seq he hol hcl (by decide)) (u := u) (fun v hv => ?_) ru (fun h q => ?_) (fun h h' q k => ?_) (fun h q r => ⟨q, r.1, hne⟩) fun T hT => ⟨T, x, rfl, hT, rfl, fun ys hy => by rw [I.tuple_inj hy hq]; exact hx⟩
    · have hv' : its[i]? = some v := by simpa using hv
      rw [hu] at hv'; exact (Option.some.inj hv').symm
    · obtain ⟨o, ho, _⟩ := q.1; exact ⟨o, ho⟩
    · exact ⟨q.1.at fun o z => k _ o (Ne.symm hne) z, q.2.at fun o z => k _ o (isEnum_ne_seq he hol hcl (by decide)).symm z⟩
  done := by
    intro X hP hw hK hc i pins s σ H E I hf st hg
    subst hP hw hK
    obtain ⟨⟨old, he⟩, hit, hne⟩ := st
    obtain ⟨xs, hq, hx⟩ := hg
    obtain ⟨its, rv, p, hz⟩ := I.tuple hq
    have p' : s.heap.IsTuple a its.toArray := p
    obtain ⟨f0, f1, f2, f3, f4, f5⟩ := hf it (by simp)
    have hl := rv.length
    have hT : s.TypeIs (.ref e) "enumerate" := ⟨_, he, rfl⟩
    unfold pyNext
    refine wpAny_bind (wpAny_attempt (wpAny_callSpecial?_slot (name := Str.ofString "__next__") hT F.slot_enumerate_next
      (wpAny_call_entry F.slot_enumerate_next hT F.entry_enumerate_next ?_ (F.args_enumerate_next_1 _))))
    show wpAny _ _ (field (.ref e) 2 >>= _) _ _ _
    refine wpAny_bind (wpAny_field he rfl (x := .ref it) rfl ?_)
    refine wpAny_bind (wpAny_nextOf_tuple_end (I.ok.hd hc) hit p' (by simp; omega) fun h' x eb hx' => ?_)
    obtain ⟨o, ho, hcs⟩ := hx'
    refine wpAny_bind (wpAny_isInstance (T := "StopIteration") (b := true) ⟨o, ho, hcs⟩ isSubtype_stop ?_)
    exact wpAny_pure ⟨rfl, I.turned (t' := s.toks) (fun b o hb q => eb b o hb q) f0 f1 f3 f4 f5⟩
  self := fun A i s Q E st h => let ⟨⟨_, he⟩, _⟩ := st; wpAny_pyIter_enum he h
/-- its two new cells are nobody's -/
theorem fp_two {X : Cx} {pins : List (Addr × Obj)} {σ : L2.St} {H : Hp} {s : Shared} (I : Inv X pins σ H s) : ∀ b ∈ [s.heap.objs.size + 1, s.heap.objs.size], FpOk X pins H b := fun b hb => by
  have hle : s.heap.objs.size ≤ b := by
    rcases List.mem_cons.mp hb with z | z
    · rw [z]; exact Nat.le_add_right _ _
    · rw [List.mem_singleton.mp z]; exact Nat.le_refl _
  exact I.fpOk hle (I.hok.fresh hle)
/-- enumerate(list, start=k) -/
def iEnumS (K : PySem.W.Frag) (ta tk : TA) : TI := fun σ H R => ta σ H fun vs H1 => tk σ H1 fun zs H2 => ∃ a xs c, vs = [.ref a] ∧ zs = [.int c] ∧ -(2 ^ 63) ≤ c ∧ c < 2 ^ 63 ∧ SqL K H2 a xs ∧ R (IteL K c a) H2
theorem pi_enumS {X : Cx} {e : Expr} {ta tk : TA} {kws : List Keyword} {p pos tpos : Pos} {elts : List Expr} {kk : Nat} (hg : Gl X "enumerate") (hm : X.mg "enumerate" = none) (ha : PA X [e] ta) (hk : PK X kws tk)
    (he : backTo pos (starEach [e] X.env) = (false, eval e X.env) :: backTo pos (starEach [] X.env) := by rfl) (hp : (backTo pos (starEach [e] X.env)).any (·.1) = false := by rfl)
    (hal : (backToKw pos (keywordEach kws X.env)).all (·.1.isSome) = true := by rfl) (hn : (backToKw pos (keywordEach kws X.env)).any (·.1.isNone) = false := by rfl) (hks : (backToKw pos (keywordEach kws X.env)).filterMap (·.1) = [Str.ofString "start"] := by rfl) :
    PI X (.Tuple elts kk tpos) (.Call (.Name "enumerate" p) [e] kws pos) (iEnumS X.K ta tk) := by
  refine ⟨fun pins s σ H R I h => ?_⟩
  refine wpAny_Call_Name_kw (ld_blt I hg hm boot_enumerate ?_)
  refine callWith_tyK (thn (ha.run pos pins s σ H _ I h) fun us s1 ⟨vs, H1, I1, r1, q1⟩ => thn (hk.run pos pins s1 σ H1 _ I1 q1) fun ws s2 ⟨zs, H2, I2, r2, q2⟩ => ?_) he hp hal hn
  rw [hks]
  obtain ⟨a, xs, c, ex, ez, c0, c1, hq, q⟩ := q2
  subst ex ez
  cases r1 with
  | cons r rr =>
    cases rr
    cases r
    cases r2 with
    | cons r' rr' =>
      cases rr'
      obtain ⟨t, rfl⟩ := r'
      obtain ⟨its, rv, p', hz⟩ := I2.list hq
      refine enum_begins_start (begins_list a its.toArray) p'.isList c0 c1 fun h' he' hit hsz hkeep => wpAny_pyIter_enum he' ?_
      have I3 : Inv X pins σ H2 { s2 with heap := h' } := I2.kept (t' := s2.toks) hkeep
      refine ⟨s2.heap.objs.size + 1, [s2.heap.objs.size + 1, s2.heap.objs.size], _, _, H2, rfl, I3, turn_enumL c a (s2.heap.objs.size + 1) s2.heap.objs.size, ⟨⟨.none, ?_⟩, ⟨_, hit, rfl, rfl⟩, Nat.succ_ne_self _⟩, fp_two I2, q⟩
      show IsEnum h' _ _ (c + ((0 : Nat) : Int)) _
      rw [show c + ((0 : Nat) : Int) = c by omega]
      exact he'
/-- enumerate(v), whatever v's iterator is -/
theorem enum_new1 {v : Value} {o : Obj} {G : Heap → Prop} (B : Begins v o G) : Meets (Builtin.«enumerate.__new__» ⟨[.type "enumerate", v], []⟩) (fun _ R s => G s.heap ∧ R (.ok (.ret (.ref (s.heap.push o).objs.size)))
    { s with heap := (s.heap.push o).push { cls := .type "enumerate", data := .fields #[.none, .bool false, .ref s.heap.objs.size, rawInt 0, .none, .none] } }) := by
  refine .of_wp fun prog w A R s hh => ?_
  obtain ⟨hp, g, d, tk, os⟩ := s
  obtain ⟨hG, hR⟩ := hh
  have hsub := sub_enumerate
  have it1 : ∀ {A' : Around} {E Q : Value → Shared → Prop}, Q (.ref hp.objs.size) ⟨hp.push o, g, d, tk, os⟩ → wpAny (model prog w) A' (pyIter v) Q E ⟨hp, g, d, tk, os⟩ := fun q => B.iter prog w _ _ ⟨hp, g, d, tk, os⟩ _ hG q
  wp_walk using it1
  refine wpAny_stack_any fun st => wpAny_pure ?_
  split
  · rename_i c _ _ _ _ _
    cases (c == Value.type "enumerate") <;> (wp_walk using it1; exact ⟨_, rfl, hR⟩)
  · wp_walk using it1
    exact ⟨_, rfl, hR⟩
theorem enum_begins1 {prog : Program} {w : World} {A : Around} {E : Value → Shared → Prop} {s : Shared} {v : Value} {o : Obj} {G : Heap → Prop} {Q : Value → Shared → Prop} (B : Begins v o G) (hG : G s.heap)
    (k : ∀ h', IsEnum h' (s.heap.objs.size + 1) s.heap.objs.size 0 .none → h'.get? s.heap.objs.size = some o → h'.objs.size = s.heap.objs.size + 2 → (∀ b o, s.heap.get? b = some o → h'.get? b = some o) → Q (.ref (s.heap.objs.size + 1)) { s with heap := h' }) :
    wpAny (model prog w) A (call (.type "enumerate") [v]) Q E s := by
  refine callType_new F.called_enumerate (by decide) (F.typeCall_enumerate_1 _) (F.newCall_enumerate_1 _) (fun obj => F.args_object_init_2 obj _) F.entry_enumerate_new (enum_new1 B) ⟨hG, ?_⟩
  have e1 : (s.heap.push o).objs.size = s.heap.objs.size + 1 := Heap.size_push ..
  show _ ∧ _
  rw [e1]
  have e2 := Heap.get?_push_size (s.heap.push o) (o := { cls := .type "enumerate", data := .fields #[.none, .bool false, .ref s.heap.objs.size, rawInt 0, .none, .none] }) rfl
  rw [e1] at e2
  exact ⟨⟨_, e2, rfl⟩, k _ e2 (Heap.get?_push_of_some _ (Heap.get?_push_size _ B.free)) (by rw [Heap.size_push, e1]) fun b o q => Heap.get?_push_of_some _ (Heap.get?_push_of_some _ q)⟩
/-- enumerate(tuple) -/
def iEnumT (K : PySem.W.Frag) (ta : TA) : TI := fun σ H R => ta σ H fun vs H1 => ∃ a xs, vs = [.ref a] ∧ SqT K H1 a xs ∧ R (IteT K 0 a) H1
theorem pi_enumT {X : Cx} {e : Expr} {ta : TA} {p pos tpos : Pos} {elts : List Expr} {kk : Nat} (hg : Gl X "enumerate") (hm : X.mg "enumerate" = none) (ha : PA X [e] ta) (hs : starEach [e] X.env = [(false, eval e X.env)] := by rfl) :
    PI X (.Tuple elts kk tpos) (.Call (.Name "enumerate" p) [e] [] pos) (iEnumT X.K ta) := by
  refine ⟨fun pins s σ H R I h => ?_⟩
  refine Call_ (ld_blt I hg hm boot_enumerate (PyProof.Rows.callWith_type1 (thn (ha.run pos pins s σ H _ I h) fun us s1 ⟨vs, H1, I1, r1, q1⟩ => ?_) hs rfl))
  obtain ⟨a, xs, ex, hq, q⟩ := q1
  subst ex
  cases r1 with
  | cons r rr =>
    cases rr
    cases r
    obtain ⟨its, rv, p', hz⟩ := I1.tuple hq
    refine enum_begins1 (begins_tuple a its.toArray) (show s1.heap.IsTuple a its.toArray from p') fun h' he' hit hsz hkeep => wpAny_pyIter_enum he' ?_
    have I3 : Inv X pins σ H1 { s1 with heap := h' } := I1.kept (t' := s1.toks) hkeep
    exact ⟨s1.heap.objs.size + 1, [s1.heap.objs.size + 1, s1.heap.objs.size], _, _, H1, rfl, I3, turn_enumT 0 a (s1.heap.objs.size + 1) s1.heap.objs.size, ⟨⟨.none, he'⟩, ⟨_, hit, rfl, rfl⟩, Nat.succ_ne_self _⟩, fp_two I1, q⟩

section
variable {W : Wd} {K : PySem.W.Frag} {H H1 : Hp} {σ : L2.St} {D : Ends} {Q : VK} {v x y : V} {i j c : Int} {n m : Nat} {s z : Str} {b : Bool} {p a : Addr} {xs ys vs : List V}
variable {ta tb te : TE} {t u : TS} {tr tk : TA} {g : TG} {tS : TS}
/-! ### loops over anything that is walked -/
def FoW (J : It) (g : TG) (tb : TS) (D : Ends) (σ : L2.St) (H : Hp) : Prop := ∃ W : Nat → Nat → L2.St → Hp → Prop, (∃ m, W 0 m σ H) ∧ ∀ i m σ H, W i m σ H →
  (J.stop i H ∧ D.nx σ H) ∨ (J.go i H ∧ ∃ N : L2.St → Hp → Prop, (∀ σ' H', N σ' H' → ∃ m', m' < m ∧ W (i + 1) m' σ' H') ∧ ∀ x H', J.yld i H x H' → g x σ H' fun σ2 H2 => tb { D with nx := N, ct := N, bk := D.nx } σ2 H2)
theorem rd_forS (h : te σ H fun v H1 => ∃ x, v = .str x ∧ FoW (Its x) g tS D σ H1) : tFor (iStr te) g tS D σ H := h
theorem rd_srcS {P : Str → Prop} (k : P s) : ∃ x, V.str s = .str x ∧ P x := ⟨s, rfl, k⟩
theorem rd_forT (h : te σ H fun x H1 => ∃ a, x = .ref a ∧ (∃ xs, SqT K H1 a xs) ∧ FoW (Itt K a) g tS D σ H1) : tFor (iTup K te) g tS D σ H := h
theorem rd_srcT {P : Addr → Prop} (h : At W H a (.tup xs)) (k : P a) : ∃ a', V.ref a = .ref a' ∧ (∃ xs, SqT K H a' xs) ∧ P a' := ⟨a, rfl, ⟨xs, h.st⟩, k⟩
theorem rd_forE (h : tr σ H fun vs H1 => tk σ H1 fun zs H2 => ∃ a xs c, vs = [.ref a] ∧ zs = [.int c] ∧ -(2 ^ 63) ≤ c ∧ c < 2 ^ 63 ∧ SqL K H2 a xs ∧ FoW (IteL K c a) g tS D σ H2) : tFor (iEnumS K tr tk) g tS D σ H := h
theorem rd_srcE {P : Addr → Int → Prop} (h : At W H a (.lst xs)) (c0 : -(2 ^ 63) ≤ c) (c1 : c < 2 ^ 63) (k : P a c) : ∃ a' xs c', [V.ref a] = [.ref a'] ∧ [V.int c] = [.int c'] ∧ -(2 ^ 63) ≤ c' ∧ c' < 2 ^ 63 ∧ SqL K H a' xs ∧ P a' c' := ⟨a, xs, c, rfl, rfl, c0, c1, h.sl, k⟩
theorem rd_forET (h : tr σ H fun vs H1 => ∃ a xs, vs = [.ref a] ∧ SqT K H1 a xs ∧ FoW (IteT K 0 a) g tS D σ H1) : tFor (iEnumT K tr) g tS D σ H := h
theorem rd_srcET {P : Addr → Prop} (h : SqT K H a xs) (k : P a) : ∃ a' xs, [V.ref a] = [.ref a'] ∧ SqT K H a' xs ∧ P a' := ⟨a, xs, rfl, h, k⟩
theorem for_s (Pv : Nat → L2.St → Hp → Prop) (h0 : Pv 0 σ H) (hs : ∀ i c σ H, s.cps[i]? = some c → Pv i σ H → g (.str ⟨#[c]⟩) σ H fun σ2 H2 => tS { D with nx := Pv (i + 1), ct := Pv (i + 1), bk := D.nx } σ2 H2) (hd : ∀ σ H, Pv s.cps.size σ H → D.nx σ H) : FoW (Its s) g tS D σ H :=
  for_it walk_str Pv h0 (fun _ _ _ _ _ => trivial) (fun i x σ H H' hi p y => by
    obtain ⟨rfl, c, hc, rfl⟩ := y
    exact hs i c σ _ hc p) hd
theorem walk_enumL : Walk (IteL K c a) xs.length (fun H => SqL K H a xs) (YPair (fun i => some (.int (c + (i : Nat)))) (fun i => xs[i]?)) := by
  refine ⟨fun i _ hi q => ⟨xs, xs[i], q, by simp [hi]⟩, fun _ q => ⟨xs, q, Nat.le_refl _⟩, fun i H v H' _ q y => ?_⟩
  obtain ⟨T, x, h1, h2, h3, h4⟩ := y
  exact ⟨T, _, x, h1, h2, h3, rfl, h4 xs q⟩
theorem walk_enumT : Walk (IteT K c a) xs.length (fun H => SqT K H a xs) (YPair (fun i => some (.int (c + (i : Nat)))) (fun i => xs[i]?)) := by
  refine ⟨fun i _ hi q => ⟨xs, xs[i], q, by simp [hi]⟩, fun _ q => ⟨xs, q, Nat.le_refl _⟩, fun i H v H' _ q y => ?_⟩
  obtain ⟨T, x, h1, h2, h3, h4⟩ := y
  exact ⟨T, _, x, h1, h2, h3, rfl, h4 xs q⟩
theorem for_e (Pv : Nat → L2.St → Hp → Prop) (h0 : Pv 0 σ H) (hv : ∀ i σ H, Pv i σ H → W.iv H ∧ At W H a (.lst xs))
    (hs : ∀ i x T σ H H', xs[i]? = some x → Pv i σ H → H T = none → Ex W H H' → At W H' T (.tup [.int (c + (i : Nat)), x]) → g (.ref T) σ H' fun σ2 H2 => tS { D with nx := Pv (i + 1), ct := Pv (i + 1), bk := D.nx } σ2 H2)
    (hd : ∀ σ H, Pv xs.length σ H → D.nx σ H) : FoW (IteL K c a) g tS D σ H :=
  for_it (walk_enumL (xs := xs)) Pv h0 (fun i σ H _ p => (hv i σ H p).2.sl) (fun i x σ H H' hi p y => by
    obtain ⟨T, x1, x2, rfl, hT, rfl, e1, e2⟩ := y
    cases e1
    exact hs i x2 T σ H _ e2 p hT (Ex.new (hv i σ H p).1 hT) (At.new (hv i σ H p).1 hT)) hd
theorem for_et (hq : ∀ H, SqT K H a xs) (Pv : Nat → L2.St → Hp → Prop) (h0 : Pv 0 σ H) (hv : ∀ i σ H, Pv i σ H → W.iv H)
    (hs : ∀ i x T σ H H', xs[i]? = some x → Pv i σ H → H T = none → Ex W H H' → At W H' T (.tup [.int (c + (i : Nat)), x]) → g (.ref T) σ H' fun σ2 H2 => tS { D with nx := Pv (i + 1), ct := Pv (i + 1), bk := D.nx } σ2 H2)
    (hd : ∀ σ H, Pv xs.length σ H → D.nx σ H) : FoW (IteT K c a) g tS D σ H :=
  for_it (walk_enumT (xs := xs)) Pv h0 (fun i σ H _ p => hq H) (fun i x σ H H' hi p y => by
    obtain ⟨T, x1, x2, rfl, hT, rfl, e1, e2⟩ := y
    cases e1
    exact hs i x2 T σ H _ e2 p hT (Ex.new (hv i σ H p) hT) (At.new (hv i σ H p) hT)) hd
/-! ### comprehensions over anything that is walked: S is what holds of the items made (without the new list) -/
def LcW (J : It) (g : TG) (tt : TT) (te : TE) (ws : List Nat) (σ : L2.St) (H1 : Hp) (Q : VK) : Prop := ∀ D, H1 D = none → ∃ W : Nat → Nat → Hp → Prop, (∃ m, W 0 m (upd H1 D (.lst []))) ∧ ∀ i m H, W i m H →
  (J.stop i H ∧ Q (.ref D) H) ∨ (J.go i H ∧ ∃ Nx : Hp → Prop, (∀ H', Nx H' → ∃ m', m' < m ∧ W (i + 1) m' H') ∧ ∀ x H', J.yld i H x H' → g x (wipe σ ws) H' fun σ2 H2 => wipe σ2 ws = wipe σ ws ∧ tt σ2 H2 fun b H3 =>
    if b = true then te σ2 H3 fun y H4 => ∃ acc, H4 D = some (.lst acc) ∧ acc.length < sizeLine ∧ Nx (upd H4 D (.lst (acc ++ [y]))) else Nx H3)
theorem rd_lcS {tt : TT} {ws : List Nat} (h : ta σ H fun v H1 => ∃ x, v = .str x ∧ LcW (Its x) g tt te ws σ H1 Q) : tLc (iStr ta) g tt te ws σ H Q := h
theorem rd_lcR {tt : TT} {ws : List Nat} (h : tr σ H fun vs H1 => ∃ j : Int, vs = [.int j] ∧ -(2 ^ 62) ≤ j ∧ j < 2 ^ 62 ∧ LcW (Itr 0 j.toNat) g tt te ws σ H1 Q) : tLc (iRng1 tr) g tt te ws σ H Q := h
theorem rd_srcR {P : Int → Prop} (h1 : -(2 ^ 62) ≤ j) (h2 : j < 2 ^ 62) (k : P j) : ∃ j' : Int, [V.int j] = [V.int j'] ∧ -(2 ^ 62) ≤ j' ∧ j' < 2 ^ 62 ∧ P j' := ⟨j, rfl, h1, h2, k⟩
theorem rd_lcL {tt : TT} {ws : List Nat} (h : ta σ H fun x H1 => ∃ a, x = .ref a ∧ (∃ xs, SqL K H1 a xs) ∧ LcW (Itl K a) g tt te ws σ H1 Q) : tLc (iList K ta) g tt te ws σ H Q := h
theorem rd_srcL {P : Addr → Prop} (h : At W H a (.lst xs)) (k : P a) : ∃ a', V.ref a = .ref a' ∧ (∃ xs, SqL K H a' xs) ∧ P a' := ⟨a, rfl, ⟨xs, h.sl⟩, k⟩
theorem hide_none {D : Addr} (h : H D = none) : Lw.hide D H = H := by
  funext q
  unfold Lw.hide
  split
  · rename_i e; rw [e, h]
  · rfl
theorem lc_w {J : It} {G : Hp → Prop} {X : Nat → V → Prop} {tt : TT} (w : Walk J n G fun i H x H' => H' = H ∧ X i x) (S : Nat → List V → Hp → Prop) (i : W.iv H) (hn : n ≤ 50000) (hG : ∀ H', Ex W H H' → G H')
    (hm : ∀ k ys H1 H2, Ex W H1 H2 → S k ys H1 → S k ys H2) (h0 : S 0 [] H)
    (hs : ∀ k x D ys H' (QV : VK) (QN : Hp → Prop), k < n → X k x → H D = none → At W H' D (.lst ys) → Ex W H H' → S k ys (Lw.hide D H') → ys.length ≤ k →
      (∀ y H4, Ex W H' H4 → S (k + 1) (ys ++ [y]) (Lw.hide D H4) → QV y H4) → (∀ H3, Ex W H' H3 → S (k + 1) ys (Lw.hide D H3) → QN H3) →
      tt ((wipe σ [m]).set m (some x)) H' fun b H3 => if b = true then te ((wipe σ [m]).set m (some x)) H3 QV else QN H3)
    (k : ∀ D H2 ys, H D = none → Ex W H H2 → At W H2 D (.lst ys) → S n ys H2 → ys.length ≤ n → Q (.ref D) H2) : LcW J (gName m) tt te [m] σ H Q := by
  intro D hD
  refine lc_it w (fun k H' => ∃ ys, Ex W H H' ∧ At W H' D (.lst ys) ∧ S k ys (Lw.hide D H') ∧ ys.length ≤ k) ⟨[], Ex.new i hD, At.new i hD, ?_, Nat.le_refl _⟩ (fun k H' _ ⟨_, e, _⟩ => hG H' e) (fun k x H1 H' hk ⟨ys, e, hd, hS, hl⟩ hx => ?_) fun H' ⟨ys, e, hd, hS, hl⟩ => ?_
  · rw [hide_upd, hide_none hD]; exact h0
  · obtain ⟨rfl, hx⟩ := hx
    refine ⟨by show wipe _ _ = _; simp [wipe, List.set_set], ?_⟩
    refine hs k x D ys _ _ _ hk hx hD hd e hS hl (fun y H4 e4 q => ⟨ys, (e4.at_ hd).1, sz_lt (by omega), ys ++ [y], (e.trans e4).mut hD (e4.at_ hd), At.mut e4.iv (e4.at_ hd), ?_, by rw [List.length_append, List.length_singleton]; omega⟩) fun H3 e3 q => ⟨ys, e.trans e3, e3.at_ hd, q, by omega⟩
    rw [hide_upd]; exact q
  · exact k D H' ys hD e hd (hm _ _ _ _ (Ex.unhide e.iv hd) hS) hl
theorem rd_yes {QB : Bool → Hp → Prop} (h : QB true H) : tYes σ H QB := h
/-! ### dicts with ints or texts as keys -/
theorem rd_dnew (i : W.iv H) (k : ∀ p H2, H p = none → Ex W H H2 → At W H2 p (.dK []) → Q (.ref p) H2) : tDNewK σ H Q := new_of i k
def DGetG (Q : VK) (a : Addr) (y : V) (H : Hp) : Prop := ∃ o, DGet H a y o ∧ Q (o.getD .non) H
def DInG (Q : VK) (neg : Bool) (x y : V) (H : Hp) : Prop := ∃ a o, x = .ref a ∧ DGet H a y o ∧ Q (.bl (if neg then !o.isSome else o.isSome)) H
def DSetG (Q : VK) (a : Addr) (y z : V) (H : Hp) : Prop := ∃ (kvs : List (Key × V)) (k : Key), H a = some (.dK kvs) ∧ y = kV k ∧ kvs.length < sizeLine ∧ (∀ v, valV kvs k = some v → Q v H) ∧ (valV kvs k = none → Q z (upd H a (.dK (putK kvs k z))))
theorem rd_dget1 (h : ta σ H fun x H1 => ∃ a, x = .ref a ∧ IsD H1 a ∧ te σ H1 fun y H2 => DGetG Q a y H2) : tDGet1 ta te σ H Q := h
theorem rd_isD {kvs : List (Key × V)} {P : Addr → Prop} (h : At W H a (.dK kvs)) (k : P a) : ∃ a', V.ref a = .ref a' ∧ IsD H a' ∧ P a' := ⟨a, rfl, .inl ⟨kvs, .inl h.1⟩, k⟩
theorem rd_dgetS {kvs : List (Key × V)} (h : At W H a (.dK kvs)) (k : Q ((valV kvs (.inr z)).getD .non) H) : DGetG Q a (.str z) H := ⟨_, DGet.k (k := .inr z) h.1, k⟩
theorem rd_din (h : ta σ H fun y H1 => te σ H1 fun x H2 => DInG Q false x y H2) : tDIn ta te σ H Q := h
theorem rd_dnin (h : ta σ H fun y H1 => te σ H1 fun x H2 => DInG Q true x y H2) : tDNotIn ta te σ H Q := h
theorem rd_dinS {kvs : List (Key × V)} (h : At W H a (.dK kvs)) (k : Q (.bl (valV kvs (.inr z)).isSome) H) : DInG Q false (.ref a) (.str z) H := ⟨a, _, rfl, DGet.k (k := .inr z) h.1, k⟩
theorem rd_dput {tv : TE} (h : tv σ H fun v H1 => ta σ H1 fun x H2 => te σ H2 fun y H3 => ∃ a H4, x = .ref a ∧ DPut H3 a y v H4 ∧ D.nx σ H4) : sDPut ta te tv D σ H := h
theorem rd_dputS {kvs : List (Key × V)} {H0 : Hp} {P : Hp → Prop} (e : Ex W H0 H) (h0 : H0 a = none) (h : At W H a (.dK kvs)) (hl : kvs.length < 1000000) (k : ∀ H2, Ex W H0 H2 → At W H2 a (.dK (putK kvs (.inr z) v)) → (∀ q o, q ≠ a → At W H q o → At W H2 q o) → P H2) :
    ∃ a' H4, V.ref a = .ref a' ∧ DPut H a' (.str z) v H4 ∧ P H4 := ⟨a, _, rfl, DPut.k (k := .inr z) h.1 (sz_lt hl), k _ (e.mut h0 h) (.mut e.iv h) fun _ _ ne q => .other e.iv h q ne⟩
theorem rd_dsetd {tx : TE} (h : ta σ H fun x H1 => ∃ a, x = .ref a ∧ IsD H1 a ∧ te σ H1 fun y H2 => tx σ H2 fun z H3 => DSetG Q a y z H3) : tDSetd ta te tx σ H Q := h
theorem rd_dsetN {kvs : List (Key × V)} {H0 : Hp} (e : Ex W H0 H) (h0 : H0 a = none) (h : At W H a (.dK kvs)) (hl : kvs.length < 1000000) (hn : valV kvs (.inr z) = none) (k : ∀ H2, Ex W H0 H2 → At W H2 a (.dK (putK kvs (.inr z) v)) → (∀ q o, q ≠ a → At W H q o → At W H2 q o) → Q v H2) :
    DSetG Q a (.str z) v H := ⟨kvs, .inr z, h.1, rfl, sz_lt hl, fun v q => (by rw [hn] at q; cases q), fun _ => k _ (e.mut h0 h) (.mut e.iv h) fun _ _ ne q => .other e.iv h q ne⟩
/-! ### texts -/
section
variable {X : Cx}
def rEndsS : V → List V → Hp → VK → Prop := fun x xs H Q => ∃ a b, x = .str a ∧ xs = [.str b] ∧ Q (.bl (Txt.endswith a b)) H
theorem m_endswith : MtR X "str.endswith" rEndsS := mt_endswith
def rStartsS : V → List V → Hp → VK → Prop := fun x xs H Q => ∃ a b, x = .str a ∧ xs = [.str b] ∧ Q (.bl (Txt.startswith a b)) H
theorem m_startswith : MtR X "str.startswith" rStartsS := mt_startswith
def rFindS : V → List V → Hp → VK → Prop := fun x xs H Q => ∃ a b, x = .str a ∧ xs = [.str b] ∧ Q (.int (Txt.find a b)) H
theorem m_find : MtR X "str.find" rFindS := mt_find
def rSplitS : V → List V → Hp → VK → Prop := fun x xs H Q => ∃ a b, x = .str a ∧ xs = [.str b] ∧ (b.length == 0) = false ∧ a.length + 2 ≤ sizeLine ∧ rNewStrs (Txt.split a b) H Q
theorem m_split : MtR X "str.split" rSplitS := mt_split
def rInSg : R2 := fun x y H Q => ∃ (c : Nat) (z : Str), x = .str ⟨#[c]⟩ ∧ y = .str z ∧ Q (.bl (decide (c ∈ z.cps.toList))) H
theorem o_inSg : OpR X (compareOp .In) rInSg := op_in_sign
def rNinSg : R2 := fun x y H Q => ∃ (c : Nat) (z : Str), x = .str ⟨#[c]⟩ ∧ y = .str z ∧ Q (.bl (!decide (c ∈ z.cps.toList))) H
theorem o_ninSg : OpR X (compareOp .NotIn) rNinSg := op_notIn_sign
def rStrB : List V → Hp → VK → Prop := fun xs H Q => (∃ i, xs = [.int i] ∧ i.natAbs.log2 < 1920 ∧ Q (.str (toString i)) H) ∨ ∃ a, xs = [.str a] ∧ Q (.str a) H
theorem c_strB : CallR X (.type "str") rStrB := by
  intro pins s σ H xs us Q I rs h
  rcases h with ⟨i, e, h1, q⟩ | ⟨a, e, q⟩
  · exact call_str_int pins s σ H xs us Q I rs ⟨i, e, h1, q⟩
  · exact SkE.call_str_str pins s σ H xs us Q I rs ⟨a, e, q⟩
end
theorem rd_ends (k : Q (.bl (Txt.endswith s z)) H) : rEndsS (.str s) [.str z] H Q := ⟨_, _, rfl, rfl, k⟩
theorem rd_starts (k : Q (.bl (Txt.startswith s z)) H) : rStartsS (.str s) [.str z] H Q := ⟨_, _, rfl, rfl, k⟩
theorem rd_find (k : Q (.int (Txt.find s z)) H) : rFindS (.str s) [.str z] H Q := ⟨_, _, rfl, rfl, k⟩
theorem rd_split (i : W.iv H) (hz : (z.length == 0) = false) (h : s.length ≤ 1000000) (k : ∀ p H2, H p = none → Ex W H H2 → At W H2 p (.lst ((Txt.split s z).map V.str)) → Q (.ref p) H2) : rSplitS (.str s) [.str z] H Q :=
  ⟨_, _, rfl, rfl, hz, Nat.le_trans (Nat.add_le_add_right h 2) (by decide), new_of i k⟩
theorem rd_tyS {P : Prop} (k : P) : tyV K "str" (.str s) H ∧ P := ⟨rfl, k⟩
theorem rd_slS {lo hi : Option Int} (h : z.length ≤ 1000000) (k : Q (.str (cutS z lo hi)) H) : rSlS (.str z) lo hi H Q := ⟨z, rfl, sz_le h, k⟩
theorem rd_ixS {c : Nat} (h : z.length ≤ 1000000) (e : atI z.cps.toList i = some c) (k : Q (.str ⟨#[c]⟩) H) : rIxS (.str z) (.int i) H Q := ⟨z, i, c, rfl, rfl, sz_le h, e, k⟩
theorem rd_inSg {c : Nat} (k : Q (.bl (decide (c ∈ z.cps.toList))) H) : rInSg (.str ⟨#[c]⟩) (.str z) H Q := ⟨c, z, rfl, rfl, k⟩
theorem rd_ninSg {c : Nat} (k : Q (.bl (!decide (c ∈ z.cps.toList))) H) : rNinSg (.str ⟨#[c]⟩) (.str z) H Q := ⟨c, z, rfl, rfl, k⟩
theorem rd_strI (h : i.natAbs.log2 < 1920) (k : Q (.str (toString i)) H) : rStrB [.int i] H Q := .inl ⟨i, rfl, h, k⟩
theorem rd_strS (k : Q (.str s) H) : rStrB [.str s] H Q := .inr ⟨s, rfl, k⟩
theorem rd_rep (i : W.iv H) (h : At W H p (.lst xs)) (h0 : -(2 ^ 63) ≤ j) (h1 : j < 2 ^ 63) (hz : xs.length * j.toNat ≤ 1000000) (k : ∀ l H2, H l = none → Ex W H H2 → At W H2 l (.lst (List.replicate j.toNat xs).flatten) → Q (.ref l) H2) : rRep (.ref p) (.int j) H Q :=
  ⟨p, j, xs, rfl, rfl, h.1, h0, h1, sz_le hz, new_of i k⟩
end
def rJoinS (K : PySem.W.Frag) : V → List V → Hp → VK → Prop := fun x xs H Q => ∃ a p, ∃ ys : List Str, x = .str a ∧ xs = [.ref p] ∧ (SqL K H p (ys.map V.str) ∨ SqT K H p (ys.map V.str)) ∧
    (ys.map (·.length)).sum + ys.length * a.length ≤ 16777216 ∧ Q (.str (Txt.join a ys)) H
theorem m_join {X : Cx} : MtR X "str.join" (rJoinS X.K) := mt_join
theorem rd_join {W : Wd} {K : PySem.W.Frag} {H : Hp} {Q : VK} {s : Str} {p : Addr} {ys : List Str} (h : At W H p (.lst (ys.map V.str))) (hz : (ys.map (·.length)).sum + ys.length * s.length ≤ 16777216) (k : Q (.str (Txt.join s ys)) H) : rJoinS K (.str s) [.ref p] H Q :=
  ⟨s, p, ys, rfl, rfl, .inl h.sl, hz, k⟩
/-! ### a written dict with texts as keys -/
def rInKd (K : PySem.W.Frag) (d : Addr) : R2 := fun x y H Q => ∃ (z : Str) (r : Option Value), x = .str z ∧ y = .ref d ∧ PySem.W.nsIn K d z = some r ∧ Q (.bl r.isSome) H
def rNinKd (K : PySem.W.Frag) (d : Addr) : R2 := fun x y H Q => ∃ (z : Str) (r : Option Value), x = .str z ∧ y = .ref d ∧ PySem.W.nsIn K d z = some r ∧ Q (.bl (!r.isSome)) H
def rIxKd (K : PySem.W.Frag) (w : World) : R2 := fun x y H Q => ∃ p z v, x = .ref p ∧ y = .str z ∧ KDct K w p z v ∧ Q v H
section
variable {X : Cx} {d p : Addr} {es : Array DictEntry} {n : Nat} {K : PySem.W.Frag} {w : World} {H : Hp} {Q : VK} {z : Str} {r : Option Value} {v : V}
theorem o_inKd (D : KDict X.K X.w d es n) : OpR X (compareOp .In) (rInKd X.K d) := op_in_kd D
theorem o_ninKd (D : KDict X.K X.w d es n) : OpR X (compareOp .NotIn) (rNinKd X.K d) := op_notIn_kd D
theorem x_kd : IxR X (rIxKd X.K X.w) := ix_kdict
theorem rd_ninKd (h : PySem.W.nsIn K d z = some r) (k : Q (.bl (!r.isSome)) H) : rNinKd K d (.str z) (.ref d) H Q := ⟨z, r, rfl, rfl, h, k⟩
theorem rd_inKd (h : PySem.W.nsIn K d z = some r) (k : Q (.bl r.isSome) H) : rInKd K d (.str z) (.ref d) H Q := ⟨z, r, rfl, rfl, h, k⟩
theorem rd_ixKd (D : KDict K w d es n) {a : Addr} (h : PySem.W.nsIn K d z = some (some (.ref a))) (k : Q (.ref a) H) : rIxKd K w (.ref d) (.str z) H Q := ⟨d, z, .ref a, rfl, rfl, ⟨es, n, _, D.at_, D.lit, h, rfl⟩, k⟩
end
section
variable {H : Hp} {σ : L2.St} {Q : VK} {s : Str} {b c : Bool} {v x : V} {r r' : R2} {ta tb tc : TE}
theorem rd_chain (h : ta σ H fun x H1 => tb σ H1 fun y H2 => r x y H2 fun z H3 => ∃ k, z = .bl k ∧ (if k = true then tc σ H3 fun w' H4 => r' y w' H4 Q else Q (.bl false) H3)) : tChain r r' ta tb tc σ H Q := h
theorem at_inG {α : Type} {xs : List α} {i : Int} {v : α} (h : 0 ≤ i) (e : xs[i.toNat]? = some v) : atI xs i = some v := by
  have hl := (List.getElem?_eq_some_iff.mp e).1
  unfold atI ixN
  rw [if_pos h, if_pos (by omega)]
  exact e
theorem ifB_yes {A B : Prop} (e : b = true) (h : A) : if b = true then A else B := by rw [if_pos e]; exact h
theorem ifB_no {A B : Prop} (e : b = false) (h : B) : if b = true then A else B := by rw [if_neg (by rw [e]; decide)]; exact h
theorem ifNB_yes {A B : Prop} (e : b = false) (h : A) : if (!b) = true then A else B := by rw [e]; exact h
theorem ifNB_no {A B : Prop} (e : b = true) (h : B) : if (!b) = true then A else B := by rw [e]; exact h
theorem cast_bl (h : Q (.bl b) H) (e : b = c) : Q (.bl c) H := e ▸ h
theorem cast_str {z : Str} (h : Q (.str s) H) (e : s = z) : Q (.str z) H := e ▸ h
theorem cast_v (h : Q v H) (e : v = x) : Q x H := e ▸ h
end
end Lw

/-! Lx: the program's own exceptions: class X(..) over ValueError whose __init__ says super().__init__('..') and keeps its argument in a field. -/
namespace PySem
namespace SupX
open PySem.W PySem.Calls PyProof.Rows PySem.HandSPX
def iA (f : Str) (p1 p2 : Pos) : Arguments := { posonlyargs := [], args := [{ arg := "self", annotation := none, pos := p1 }, { arg := f, annotation := none, pos := p2 }], vararg := none, kwonlyargs := [], kw_defaults := [], kwarg := none, defaults := [] }
def iSup (m : Str) (n : Nat) (p0 p1 p2 p3 p4 p5 : Pos) : Stmt := .Expr (.Call (.Attribute (.Call (.Name "super" p0) [] [] p1) "__init__" p2) [.Constant (.str m) n p3] [] p4) p5
def iSt (f : Str) (q1 q2 q3 q4 : Pos) : Stmt := .Assign [.Attribute (.Name "self" q1) f q2] (.Name f q3) q4
def iS (f : Str) : Scope := { kind := .function, names := [(PySem.Str.ofString "self", .local), (f, .local), (PySem.Str.ofString "__class__", .free), (PySem.Str.ofString "super", .globalImplicit)], isGenerator := false, isCoroutine := false, more := [] }
/-- the field's name is none of the four -/
structure NmOk (f : Str) : Prop where
  a : (PySem.Str.ofString "self" == f) = false
  a' : (f == PySem.Str.ofString "self") = false
  b : (PySem.Str.ofString "super" == f) = false
  c : (PySem.Str.ofString "__class__" == f) = false
  d : (f == PySem.Str.ofString "__debug__") = false
/-- what the written part says of the class x, at C, and of its __init__, at fI -/
structure SupTxt (P : Program) (K : Frag) (mg : Str → Option Value) (x : Str) (f : Str) (C fI : Addr) : Prop where
  gC : mg x = some (.ref C)
  nm : NmOk f
  cls : ∃ nm q N bs bm sn sub ab col dd k0 k1 k2 k3 k5, K.lookup C = some (excClassObj nm q C N bs bm true sn sub ab col dd k0 k1 k2 k3 k5 "ValueError.__new__") ∧ refsVE bm = true
  sa : findIn K (.ref C) "__setattr__" = some (some (.builtin "object.__setattr__"))
  ga : findIn K (.ref C) "__getattribute__" = some (some (.builtin "BaseException.__getattribute__"))
  gg : findIn K (.ref C) "__getattr__" = some none
  noN : findIn K (.ref C) f = some none
  iC : findIn K (.ref C) "__init__" = some (some (.ref fI))
  tC : typeIn K (.ref fI) = some (.type "function")
  kC : keepIn K (.ref C) = true
  exC : subIn K (.ref C) (.type "BaseException") = some true
  tyC : typeIn K (.ref C) = some (.type "type")
  hdC : hasDictIn K C = true
  op : nsIn K cStatics "thirdparty.any" = some none
  along : ks_superIn K C C "__init__" = some (some (.builtin "ValueError.__init__"))
  hB : subIn K (.ref C) (.type "ValueError") = some true
  ms : mroIn K C (.ref C) = some true
  su : nsIn K mainGlobals "super" = some none
  top : (P.main.scope.names.lookup (PySem.Str.ofString "super")).isSome = false
  fn : ∃ (oc : Value) (od : Option Addr) (doc pm : Value) (an : Option Addr) (cda : Addr) (ct : Value) (osl : Array (Option Value)) (qual m : Str) (n : Nat) (p1 p2 a0 a1 a2 a3 a4 a5 q1 q2 q3 q4 : Pos) (cc : Addr),
    K.lookup fI = some ⟨oc, od, .func (ksFn "__init__" qual (iA f p1 p2) [iSup m n a0 a1 a2 a3 a4 a5, iSt f q1 q2 q3 q4] (iS f) .none .none doc pm an (.ref cda) ct cc), osl⟩ ∧ codeIn K (.ref cda) qual = true ∧
    (a2.endLine == a4.line) = true ∧ (∀ (s : Shared) (u v : Value), BindsTo s (ksFn "__init__" qual (iA f p1 p2) [iSup m n a0 a1 a2 a3 a4 a5, iSt f q1 q2 q3 q4] (iS f) .none .none doc pm an (.ref cda) ct cc) ⟨[u, v], []⟩ [("self", u), (f, v)]) ∧
    (∃ cl cld csl, K.lookup cc = some ⟨cl, cld, .cell (some (.ref C)), csl⟩) ∧ ∃ ccl cdd vs ccs file tf, K.lookup cda = some ⟨ccl, cdd, .fields vs, ccs⟩ ∧ vs[2]? = some (.str file tf) ∧ ((P.main.file : Str) == file) = true
/-- what __init__ leaves of a fresh exception at x -/
structure InitEnd (h h' : Heap) (x C dx t1 : Addr) (f : Str) (v : Value) : Prop where
  keep : ∀ b o, b ≠ x → h.get? b = some o → h'.get? b = some o
  obj : h'.get? x = some { cls := .ref C, dict := some dx, data := .fields #[.ref t1, .none, .none, .none, .bool false, .none] }
  dbig : h.objs.size ≤ dx
  dne : dx ≠ x
  ns : h'.Ns1 dx (fun y => if y = f then some v else none)
/-- a made one -/
structure OwnMade (h h' : Heap) (e C d : Addr) (f : Str) (v : Value) : Prop where
  keep : ∀ b o, h.get? b = some o → h'.get? b = some o
  new : h.objs.size ≤ e
  obj : ∃ oe vs, h'.get? e = some oe ∧ oe.cls = .ref C ∧ oe.dict = some d ∧ oe.data = .fields vs ∧ vs[1]? = some .none
  dbig : h.objs.size ≤ d
  dne : d ≠ e
  ns : h'.Ns1 d (fun y => if y = f then some v else none)
section
variable {prog : Program} {w : World} {A : Around} {E : Value → Shared → Prop} {h : Heap} {g : Array GenState} {d : Drawn} {t : Nat} {os : OsState}
variable {nm q : Str} {C N : Addr} {bs bm : List Value} {hdct : Bool} {sn : List Str} {sub : List Value} {ab : Bool} {col : Option Bool} {dd : Option Addr} {k0 k1 k2 k3 k5 : Option Value}
/-- the bound ValueError.__init__ called -/
theorem call_mw {u e t0 : Addr} {rest : List Value} {Q : Value → Shared → Prop}
    (hC : h.get? C = some (excClassObj nm q C N bs bm hdct sn sub ab col dd k0 k1 k2 k3 k5 "ValueError.__new__")) (he : h.get? e = some (excO C t0)) (hu : h.get? u = some (kxs_mw "ValueError.__init__" e)) (hrest : rest.length ≤ sizeLine)
    (hq : ∀ h' t1, (∀ b o, b ≠ e → h.get? b = some o → h'.get? b = some o) → h'.get? e = some (excO C t1) → Q .none ⟨h', g, d, t, os⟩) :
    wpAny (model prog w) A (call (.ref u) rest) Q E ⟨h, g, d, t, os⟩ := by
  refine wpAny_call (codeAny_of_tree ?_)
  show wpAny _ A.in1 (callAny (.ref u) ⟨rest, []⟩) _ _ _
  simp only [callAny]
  refine wpAny_bind (wpAny_load hu ?_)
  simp only [kxs_mw, show (Value.type "method-wrapper" == Value.type "method" || Value.type "method-wrapper" == Value.type "builtin_function_or_method" || Value.type "method-wrapper" == Value.type "method-wrapper") = true by decide, if_true]
  refine W.KFB.if_so (by decide) ?_
  refine wpAny_bind (ESX.check_bound F.excBase_ValueError hC he rfl ?_)
  refine wpAny_bind (wpAny_pure (wpAny_pure ?_))
  refine ⟨Code.quiet_builtin _ (by decide +kernel), codeAny_builtin F.excBase_ValueError.initEntry ?_⟩
  rw [Around.under_plainId F.excBase_ValueError.init.plain _]
  wp_walk
  refine hq _ h.objs.size (fun b o hb ho => ?_) ?_
  · rw [Heap.get?_update_other _ _ (Ne.symm hb)]
    exact Heap.get?_push_of_some _ ho
  · rw [Heap.get?_update_self _ (Heap.get?_push_of_some _ he) rfl]
    rfl
end
section
variable {prog : Program} {w : World} {A : Around} {E : Value → Shared → Prop} {R : Result → Shared → Prop} {s : Shared} {K : Frag} {mg mb : Str → Option Value} {x f : Str} {C fI : Addr}
theorem kind_of {f : Str} {e a : Addr} {q : Str} {cd : Value} {cc : Addr} (N : NmOk f) : (ksEnv q (iS f) e a cd cc).kindOf "super" = some .globalImplicit ∧ (ksEnv q (iS f) e a cd cc).kindOf "__class__" = some .free ∧ (ksEnv q (iS f) e a cd cc).kindOf "self" = some .local ∧ (ksEnv q (iS f) e a cd cc).kindOf f = some .local := by
  have e1 : ∀ y : Str, (ksEnv q (iS f) e a cd cc).kindOf y = (iS f).names.lookup y := fun _ => rfl
  have c1 : (PySem.Str.ofString "super" == PySem.Str.ofString "self") = false := by decide
  have c2 : (PySem.Str.ofString "super" == PySem.Str.ofString "__class__") = false := by decide
  have c3 : (PySem.Str.ofString "__class__" == PySem.Str.ofString "self") = false := by decide
  refine ⟨?_, ?_, ?_, ?_⟩ <;> rw [e1] <;> unfold iS <;> simp only [List.lookup, N.a, N.a', N.b, N.c, c1, c2, c3, beq_self_eq_true]
theorem bs_self {f : Str} (N : NmOk f) {u v : Value} : (([(PySem.Str.ofString "self", u), (f, v)] : List (Str × Value)).reverse.lookup (PySem.Str.ofString "self") = some u) := by
  simp [List.lookup, N.a]
theorem bs_f {f : Str} (N : NmOk f) {u v : Value} : (([(PySem.Str.ofString "self", u), (f, v)] : List (Str × Value)).reverse.lookup f = some v) := by
  simp [List.lookup, N.a]
theorem he_of {o : Expr} {name m : Str} {n : Nat} {apos p3 pos : Pos} {env : Env} (hpl : (apos.endLine == pos.line) = true) : eval (.Call (.Attribute o name apos) [.Constant (.str m) n p3] [] pos) env = (do
      let ov ← attributeBase o name env (eval o env)
      standAt apos.atName
      let (f, first) ← holding [ov] (getMethod ov name (do return (← importBound o env).getD true))
      callWith pos f first (backTo pos (starEach [.Constant (.str m) n p3] env)) []) := by
  have e : methodCallPos true o env apos pos = pure pos := by unfold methodCallPos; rw [hpl]; rfl
  show (attributeBase o name env (eval o env) >>= fun ov => standAt apos.atName >>= fun _ => holding [ov] (getMethod ov name (do return (← importBound o env).getD true)) >>= fun fx => methodCallPos true o env apos pos >>= fun cp => callWith cp fx.1 fx.2 (backTo pos (starEach [.Constant (.str m) n p3] env)) []) = _
  rw [e]
  rfl
theorem sup_init (T : SupTxt prog K mg x f C fI) {e t0 : Addr} {v : Value} (X : K.In s.heap) (hlim : s.heap.NoLimit) (G : s.heap.Ns mainGlobals mg) (hms : mg "super" = none) (B : s.heap.Ns builtinsNs mb) (hmb : mb "super" = some (.type "super"))
    (hx : s.heap.get? e = some (excO C t0)) (hnx : K.lookup e = none) (hroom : A.depth < recursionLimit)
    (hq : ∀ h' tk dx t1, InitEnd s.heap h' e C dx t1 f v → R (.ok (.ret .none)) { s with heap := h', toks := tk }) :
    codeAny (model prog w) A (.call (.ref fI) ⟨[.ref e, v], []⟩) R s := by
  obtain ⟨oc, od, doc, pm, an, cda, ct, osl, qual, m, n, p1, p2, a0, a1, a2, a3, a4, a5, q1, q2, q3, q4, cc, ho, hcd, hpl, hbd, ⟨cl, cld, csl, hcell⟩, ccl, cdd, vs, ccs, file, tf, hcode, hvs, hfile⟩ := T.fn
  obtain ⟨nm, q, N, bs, bm, sn, sub, ab, col, dd, k0, k1, k2, k3, k5, hC, hbm⟩ := T.cls
  have hcl : clsIn K C = some { name := nm, bases := bs, mro := .ref C :: bm, ns := N, qualname := q, hasDict := true, slotNames := sn, subclasses := sub, abstract := ab, collection := col, hasDel := false } := by unfold clsIn; rw [hC] <;> rfl
  have kd := fun (L : Addr) => kind_of (q := qual) (e := L) (a := fI) (cd := .ref cda) (cc := cc) T.nm
  refine ks_codeAny_call_defAt (fd := ksFn "__init__" qual (iA f p1 p2) [iSup m n a0 a1 a2 a3 a4 a5, iSt f q1 q2 q3 q4] (iS f) .none .none doc pm an (.ref cda) ct cc) (body := [iSup m n a0 a1 a2 a3 a4 a5, iSt f q1 q2 q3 q4])
    (binds := [(PySem.Str.ofString "self", .ref e), (f, v)]) hroom (X _ _ ho) rfl hlim (codeRec_of X hcd) rfl (hbd _ _ _) ?cell ?loc (fun h₁ hns hk => ?_) rfl rfl rfl
  case cell => 
    intro y hy
    simp only [ksFn, fnX, iS, List.mem_cons, List.not_mem_nil, or_false] at hy
    rcases hy with rfl | rfl | rfl | rfl <;> intro z <;> cases z
  case loc =>
    intro y hy
    simp only [List.mem_cons, List.not_mem_nil, or_false] at hy
    rcases hy with rfl | rfl
    · exact (kd 0).2.2.1
    · exact (kd 0).2.2.2
  have kd := kd s.heap.objs.size
  obtain ⟨hp, g, d, tk, os⟩ := s
  dsimp only at hns hk hx X G B hlim hq ⊢
  have X₁ : K.In h₁ := X.keeps hk
  have hx₁ := hk _ _ hx
  show _root_.PySem.wpAt (model prog w) _ (.func _ (ksEnv qual (iS f) hp.objs.size fI (.ref cda) cc)) (execs [iSup m n a0 a1 a2 a3 a4 a5, iSt f q1 q2 q3 q4] (ksEnv qual (iS f) hp.objs.size fI (.ref cda) cc)) _ _ _
  refine ks_wpAt_execs_cons (ks_wpAt_Expr_any (ks_wpAt_MethodCall ?_ (he_of hpl)))
  refine ks_wpAt_super_base (env := ksEnv qual (iS f) hp.objs.size fI (.ref cda) cc) kd.1 kd.2.1 (by decide) rfl (X₁ _ _ ho) rfl rfl rfl (X₁ _ _ hcode) rfl hvs hfile T.top ?_
  refine ks_loadName_global rfl kd.1 (loadGlobal_builtin (env := ksEnv qual (iS f) hp.objs.size fI (.ref cda) cc) (G.keeps hk) hms (B.keeps hk) hmb ⟨rfl, ?_⟩)
  refine wpAny_loadName_free rfl kd.2.1 rfl ⟨_, X₁ _ _ hcell, rfl⟩ ?_
  refine wpAny_loadName_local rfl kd.2.2.1 hns (bs_self T.nm) ?_
  have hCo := X₁ _ _ hC
  refine ks_wpAny_isType_cls hCo rfl ⟨rfl, ?_⟩
  refine ks_wpAny_call_super hCo rfl hx₁ rfl (fun c z => by cases z) (looks_mroIn X₁ T.ms) (fun h₂ hso hk₂ => ?_)
  have X₂ : K.In h₂ := X₁.keeps hk₂
  have hx₂ := hk₂ _ _ hx₁
  have eC : e ≠ C := fun z => by
    rw [z] at hnx
    rw [hnx] at hC
    cases hC
  have I₂ : InstAt h₂ e (excO C t0) C none := ⟨hx₂, rfl, rfl, trivial⟩
  have al := T.along
  unfold ks_superIn at al
  rw [hcl] at al
  refine kxs_getMethod kxs_ValueError (x := e) (D := C) (C := C) hso (looks_opaque X₂ T.op) (l₀ := .ref C :: bm) ?mro rfl X₂ al (I₂.type.andThen (looks_subIn X₂ T.hB)) eC (by decide) ?_
  case mro => exact fun A Q E s k q => wpAny_bind ((looks_clsIn X₂ hcl) A _ E s k (wpAny_pure q))
  have hu : (h₂.push (kxs_mw "ValueError.__init__" e)).get? h₂.objs.size = some (kxs_mw "ValueError.__init__" e) := Heap.get?_push_at rfl rfl
  have hk₃ : ∀ b o, h₂.get? b = some o → (h₂.push (kxs_mw "ValueError.__init__" e)).get? b = some o := fun b o z => Heap.get?_push_of_some _ z
  refine kxs_callWith (i := "ValueError.__init__") (x := e) (by rfl) (evalArgs_plain ?_)
  refine Calls.spliced_cons (Calls.Constant_str (k := n) (pos := a3) (Calls.spliced_nil ⟨hu, ?_⟩))
  refine call_mw (hk₃ _ _ (hk₂ _ _ hCo)) (hk₃ _ _ hx₂) hu (by show 1 ≤ sizeLine; rw [sizeLine_eq]; decide) (fun h₄ t1 hk₄ hx₄ => ?_)
  have keep : ∀ b o, b ≠ e → hp.get? b = some o → h₄.get? b = some o := fun b o nb z => hk₄ b o nb (hk₃ _ _ (hk₂ _ _ (hk _ _ z)))
  have X₄ : K.In h₄ := fun b o z => keep b o (fun q => by rw [q, hnx] at z; cases z) (X b o z)
  have neL : hp.objs.size ≠ e := Nat.ne_of_gt (Heap.lt_size hx)
  have hns₄ : h₄.Ns hp.objs.size (fun y => ([(PySem.Str.ofString "self", Value.ref e), (f, v)] : List (Str × Value)).reverse.lookup y) := by
    obtain ⟨oL, es, ep, hL, r⟩ := hns
    exact ⟨oL, es, ep, hk₄ _ _ neL (hk₃ _ _ (hk₂ _ _ hL)), r⟩
  refine ks_wpAt_execs_cons (wpAt_of_wpAny ?_)
  refine plainObj_wpAny_Assign_Attribute (wpAny_Name (wpAny_loadName_local rfl kd.2.2.2 hns₄ (bs_f T.nm) (wpAny_Name (wpAny_loadName_local rfl kd.2.2.1 hns₄ (bs_self T.nm) ?_) (by decide))) T.nm.d) (by rfl)
  refine set_plain X₄ (ox := excO C t1) (od := none) ⟨hx₄, rfl, rfl, trivial⟩ T.sa ?_
  refine exc_osa X₄ hx₄ hcl (show refsVE (.ref C :: bm) = true from hbm) rfl T.noN (fun h₅ tk₅ dx k₅ dn dne hx₅ hn₅ => ?_)
  have lt4 : hp.objs.size < h₄.objs.size := hns₄.lt
  refine wpAt_of_wpAny (wpAny_execs_nil (hq h₅ tk₅ dx t1 ⟨fun b o hb z => k₅ b o hb (keep b o hb z), hx₅, Nat.le_of_lt (Nat.lt_of_lt_of_le lt4 dn), dne, hn₅⟩))
theorem sup_made (T : SupTxt prog K mg x f C fI) {v : Value} (X : K.In s.heap) (hlim : s.heap.NoLimit) (G : s.heap.Ns mainGlobals mg) (hms : mg "super" = none) (B : s.heap.Ns builtinsNs mb) (hmb : mb "super" = some (.type "super")) (hroom : A.depth + 1 < recursionLimit)
    (hq : ∀ h' tk e d, OwnMade s.heap h' e C d f v → R (.ok (.ret (.ref e))) { s with heap := h', toks := tk }) :
    codeAny (model prog w) A (.call (.ref C) ⟨[v], []⟩) R s := by
  obtain ⟨nm, q, N, bs, bm, sn, sub, ab, col, dd, k0, k1, k2, k3, k5, hC, hbm⟩ := T.cls
  obtain ⟨hp, g, dr, tk, os⟩ := s
  have k : ∀ b o, hp.get? b = some o → ((hp.push (kdv_tup [v])).push (excO C hp.objs.size)).get? b = some o := fun b o e => Heap.get?_push_of_some _ (Heap.get?_push_of_some _ e)
  have hget : ((hp.push (kdv_tup [v])).push (excO C hp.objs.size)).get? (hp.objs.size + 1) = some (excO C hp.objs.size) := by heap_get
  have hnx : K.lookup (hp.objs.size + 1) = none := by
    cases e : K.lookup (hp.objs.size + 1) with
    | none => rfl
    | some o =>
      have z : hp.get? (hp.objs.size + 1) = some o := X _ _ e
      exact absurd (Nat.lt_of_succ_lt (Heap.lt_size z)) (Nat.lt_irrefl _)
  refine call_own F.excBase_ValueError (fun X => refsVE_contains X bm hbm) (X _ _ hC) (looks_findIn X T.iC) (fun self => bind_fn X self T.tC) (by show 1 ≤ sizeLine; rw [sizeLine_eq]; decide) ?_
  refine sup_init (s := ⟨(hp.push (kdv_tup [v])).push (excO C hp.objs.size), g, dr, tk, os⟩) T (X.keeps k) (hlim.keeps k) (G.keeps k) hms (B.keeps k) hmb hget hnx ?_ fun h' tk' dx t1 ⟨k', hx, dn, dne, hns⟩ => ?_
  · show A.depth + 1 < recursionLimit
    exact hroom
  · have old : ∀ b o, hp.get? b = some o → h'.get? b = some o := fun b o e => k' b o (Nat.ne_of_lt (Nat.lt_succ_of_lt (Heap.lt_size e))) (k b o e)
    have z : hp.objs.size + 1 + 1 ≤ dx := by
      first
        | (simpa only [Heap.size_push] using dn)
        | exact dn
        | (have q := dn; rw [Heap.size_push, Heap.size_push] at q; exact q)
    exact ⟨rfl, hq h' tk' (hp.objs.size + 1) dx ⟨old, Nat.le_succ _, ⟨_, _, hx, rfl, rfl, rfl, rfl⟩, Nat.le_trans (Nat.le_trans (Nat.le_succ _) (Nat.le_succ _)) z, dne, hns⟩⟩
end
end SupX
end PySem
namespace Lw
open PySem L2 PySem.Spec PyProof.Rows
section
variable {X : Cx} {C fI : Addr} {x f : Str}
theorem relO_f {f : Str} {v : V} {v' : Value} (r : RelV v v') (g : Str) : RelO (List.lookup g [(f, v)]) (if g = f then some v' else none) := by
  by_cases hw : g = f
  · subst hw
    rw [if_pos rfl]
    have q : List.lookup g [(g, v)] = some v := by simp [List.lookup]
    rw [q]
    exact r
  · rw [if_neg hw]
    have qw : (g == f) = false := by simpa using hw
    have q2 : List.lookup g [(f, v)] = none := by simp [List.lookup, qw]
    rw [q2]
    trivial
/-- x(e) -/
def tMkS (C : Addr) (f : Str) (ta : TA) : L2.St → Hp → XK → Prop := fun σ H Q => ta σ H fun vs H1 => ∃ v, vs = [v] ∧ ∀ d, H1 d = none → Q (.ref C) (some d) (upd H1 d (.xd [(f, v)]))
theorem pmk_sup {a : Expr} {ta : TA} {p pos : Pos} {k : Nat} (T : PySem.SupX.SupTxt X.prog X.K X.mg x f C fI) (hr : Room k X.A) (ha : PA X [a] ta) (hg : Gl X x := by rfl) (hdb : (x == ("__debug__" : Str)) = false := by decide)
    (he : starEach (a :: []) X.env = (false, eval a X.env) :: starEach [] X.env := by rfl) (hpl : (backTo pos (starEach [] X.env)).any (·.1) = false := by rfl) :
    PMk X (.Call (.Name x p) [a] [] pos) (tMkS C f ta) := by
  intro pins s σ H Q I h
  refine wpAny_Call_Name_kw (ld_glob I hg T.gC ?_ hdb)
  refine PySem.W.callWith_K (h₀ := X.base) I.ok.mod.kin T.kC (thn (ha.run pos pins s σ H _ I h) fun us s1 hh => ?_) he hpl
  obtain ⟨vs, H1, I1, r1, v, ev, q1⟩ := hh
  subst ev
  refine ⟨I1.kIn, ?_⟩
  cases r1 with
  | cons rv rn =>
    rename_i v' us'
    cases rn
    show wpAny _ _ (call (.ref C) [v']) _ _ _
    have hlim := I1.nolimit
    obtain ⟨mb, hb1, hb2⟩ := I1.mod.blt
    have hms : X.mg "super" = none := PySem.W.mg_none_of I1.ok.mod.kin I1.mod.glob T.su
    have hG := I1.mod.glob.keeps I1.bk
    have hB := hb1.keeps I1.bk
    have hmb : mb "super" = some (.type "super") := (hb2 "super" (by decide)).trans (by first | boot_by_name | rfl | kernel_rfl)
    obtain ⟨hp, g, dr, tk, os⟩ := s1
    refine wpAny_call (PySem.SupX.sup_made T I1.kIn hlim hG hms hB hmb (by have := hr.dp; omega) fun h' tk' e d M => ?_)
    show MkP X pins σ Q (.ref e) ⟨h', g, dr, tk', os⟩
    obtain ⟨oe, fv, hoe, hc, hd, hdat, h1⟩ := M.obj
    have hns := M.ns
    obtain ⟨G', g1, g2⟩ := restrict h' fun b => decide (b ≠ e)
    have gk : ∀ b, b ≠ e → G'.get? b = h'.get? b := fun b hb => g1 b (decide_eq_true hb)
    have ge : G'.get? e = none := g2 e (by simp)
    have old : ∀ b o, hp.get? b = some o → G'.get? b = some o := fun b o q => (gk b (Nat.ne_of_lt (Nat.lt_of_lt_of_le (Heap.lt_size q) M.new))).trans (M.keep b o q)
    have ob : ObjOk X.prog X.w (upd H1 d (.xd [(f, v)])) G' d (.xd [(f, v)]) :=
      ⟨_, hns.at (fun o q => (gk d M.dne).trans q), fun g => relO_f rv g⟩
    have J : Inv X pins σ (upd H1 d (.xd [(f, v)])) ⟨G', g, dr, tk', os⟩ := I1.laid (t' := tk') old M.dbig ob
    refine ⟨e, oe, fv, ⟨G', g, dr, tk', os⟩, _, .ref C, some d, rfl, J, fun b o q => ?_, ge, hoe, ⟨hc, hd⟩, hdat, h1, ?_, rfl, I1.bare, raises_own T.exC T.tyC, q1 d (I1.hok.fresh M.dbig)⟩
    · by_cases hb : b = e
      · have q' : G'.get? b = some o := q
        rw [hb, ge] at q'; cases q'
      · exact (gk b hb).symm.trans q
    · rw [upd_ne (Ne.symm M.dne)]
      exact I1.hok.fresh M.new
/-- raise x(e) -/
def tRaiseS (C : Addr) (f : Str) (W : WX) (ta : TA) : TS := fun _ σ H => tMkS C f ta σ H fun cls d H' => W cls d σ H'
theorem ps_raiseS {a : Expr} {ta : TA} {W : WX} {p pos pos2 : Pos} {k : Nat} (hc : X.calm = true) (T : PySem.SupX.SupTxt X.prog X.K X.mg x f C fI) (hr : Room k X.A) (tk : Takes X W) (ha : PA X [a] ta) (hg : Gl X x := by rfl) (hdb : (x == ("__debug__" : Str)) = false := by decide)
    (he : starEach (a :: []) X.env = (false, eval a X.env) :: starEach [] X.env := by rfl) (hpl : (backTo pos (starEach [] X.env)).any (·.1) = false := by rfl) :
    PS X (.Raise (some (.Call (.Name x p) [a] [] pos)) none pos2) (tRaiseS C f W ta) := ps_raise hc tk (pmk_sup T hr ha hg hdb he hpl)
end
end Lw

/-! Lg: defs that are called where no repr runs (so that they may ask repr of lists); repr of data; isinstance and fields of a caught error; enumerate and walks of a list or a tuple. -/
namespace Lw
open PySem L2 PySem.Spec PyProof.Rows
/-- a def's promise, kept wherever no repr is under way -/
structure FnG (P : Program) (w : World) (K : PySem.W.Frag) (mg : Str → Option Value) (base : Heap) (CX : CXT) (k : Nat) (f : Addr) (fd : FuncData) (ps : List Str) (sp : Sp) : Prop where
  len : ∀ vs H Q E, sp vs H Q E → vs.length = ps.length
  run : ∀ {A : Around} {outer : List Env} {s : Shared} {H : Hp} {args : Args} {us : List Value} {vs : List V} {Q : VK} {E : XK}, Room k A → A.guards = some [] → Env0 P w K mg base A outer s H → BindsTo s fd args (ps.zip us) → Vals vs us → sp vs H Q E →
    codeAny (model P w) A (.call (.ref f) args) (CR CX outer P w H s Q E) s
section
variable {P : Program} {w : World} {K : PySem.W.Frag} {mg : Str → Option Value} {base : Heap} {CX : CXT} {k : Nat} {f : Addr} {fd : FuncData} {ps N : List Str} {sp : Sp}
theorem FnG.of (F : FnOk P w K mg base CX k f fd ps sp) : FnG P w K mg base CX k f fd ps sp := ⟨F.len, fun hr _ e b r h => F.run _ _ _ _ _ _ _ _ _ hr e b r h⟩
/-- by its body -/
theorem fnG_body {name qual : Str} {params : Arguments} {body : List Stmt} {scope : Scope} {dV kV doc pm cdv ct oc : Value} {an od : Option Addr} {osl : Array (Option Value)}
    (lk : K.lookup f = some ⟨oc, od, .func (PySem.W.fnOf name qual params body scope dV kV doc pm an cdv ct), osl⟩) (hcd : PySem.W.codeIn K cdv qual = true) (S : FnScope N ps scope) (len : ∀ vs H Q E, sp vs H Q E → vs.length = ps.length)
    (hb : ∀ (A : Around) (outer : List Env) (s : Shared) (H : Hp) (vs : List V) (Q : VK) (E : XK), Room k (A.deeper (envOfC qual scope s.heap.objs.size f cdv)) → A.guards = some [] → sp vs H Q E →
      ∃ t, PSs (cxOf CX P w K mg base N qual scope f cdv A outer s H E) body t ∧ t { nx := fun _ H' => Q .non H', rt := Q } (start N vs) H) :
    FnG P w K mg base CX (k + 1) f (PySem.W.fnOf name qual params body scope dV kV doc pm an cdv ct) ps sp := by
  constructor
  · exact len
  intro A outer s H args us vs Q E hr hG e0 bnd rel h
  have inBase : ∀ b o, base.get? b = some o → s.heap.get? b = some o := fun b o e => (e0.bs b o e).1
  have KX : K.In s.heap := e0.mod.kin.keeps inBase
  have kinds : ∀ y ∈ ps.zip us, scope.names.lookup y.1 = some .local ∨ (scope.names.lookup y.1 = some .cell ∧ ((cellsFrom (s.heap.objs.size + 1) scope.names []).lookup y.1).isSome = true) := by
    rintro ⟨n, v⟩ hy
    have hn := (List.of_mem_zip hy).1
    exact (S.par n hn).imp id fun q => ⟨q, PySem.W.cellsFrom_some _ _ _ (.inl q)⟩
  refine codeAny_call_function hr.depth (KX _ _ lk) rfl S.co S.gen rfl (PySem.W.codeRec_of KX hcd) (bnd _ _ _ _ (wpAny_newFunctionEnv_cells S.kind kinds ?_))
  rintro env rfl s1 x
  obtain ⟨t, ht, hq⟩ := hb A outer s H vs Q E (hr.deeper _) hG h
  have I := inv_start (CX := CX) (E := E) S hr.hd e0 (len _ _ _ _ h) rel x
  refine ⟨(e0.mod.nolimit.keeps inBase).keeps x.toInCall.keep, codeAny_func (wpAny_mono (ht.run [] s1 (start N vs) H _ I hq) ?_ fun _ _ z => z)⟩
  intro fl s' hs
  cases fl with
  | next => obtain ⟨_, H', J, q⟩ := hs; exact ⟨.non, H', J.os, J.bare, J.base, J.hok, rfl, q⟩
  | ret u => obtain ⟨v, _, H', J, rv, q⟩ := hs; exact ⟨v, H', J.os, J.bare, J.base, J.hok, rv, q⟩
  | brk => obtain ⟨_, _, _, q⟩ := hs; cases q
  | cont => obtain ⟨_, _, _, q⟩ := hs; cases q
theorem Fun.okG {x qual : Str} {st : Stmt} (F : Fun K x qual st f fd) (S : FnScope N ps (defScope st)) (len : ∀ vs H Q E, sp vs H Q E → vs.length = ps.length)
    (hb : ∀ (cdv : Value) (A : Around) (outer : List Env) (s : Shared) (H : Hp) (vs : List V) (Q : VK) (E : XK), Room k (A.deeper (envOfC qual (defScope st) s.heap.objs.size f cdv)) → A.guards = some [] → sp vs H Q E →
      ∃ t, PSs (cxOf CX0 P w K mg base N qual (defScope st) f cdv A outer s H E).nox (defBody st) t ∧ t { nx := fun _ H' => Q .non H', rt := Q } (start N vs) H) : FnG P w K mg base CX0 (k + 1) f fd ps sp := by
  obtain ⟨_, _, _, _, _, _, cdv, _, _, rfl, lk, hcd⟩ := F.ex
  refine fnG_body lk hcd S len fun A outer s H vs Q E hr hG h => ?_
  obtain ⟨t, ht, q⟩ := hb cdv A outer s H vs Q E hr hG h
  exact ⟨t, ht.nox, q⟩
end
section
variable {X : Cx} {CX : CXT} {k : Nat} {f : Addr} {fd : FuncData} {ps : List Str} {sp : Sp} {E : XK} {x : Str} {p pos : Pos} {e : Expr} {es : List Expr} {t : TA} {ds : List Value} {dvs : List V}
theorem callee_G {pins : List (Addr × Obj)} {σ : L2.St} {H : Hp} {s : Shared} {Q : VK} {us : List Value} {vs : List V} (F : FnG X.prog X.w X.K X.mg X.base CX k f fd ps sp) (hr : Room k X.A) (hG : X.A.guards = some []) (hb : Binds X.K fd ps ds) (hd : Vals dvs ds) (hx : Passes CX X E)
    (I : Inv X pins σ H s) (r : Vals vs us) (h : sp (vs ++ dvs) H Q E) : wpAny (model X.prog X.w) X.A (call (.ref f) us) (EP X pins σ Q) X.xe s := by
  have both : Vals (vs ++ dvs) (us ++ ds) := r.append hd
  have n : (us ++ ds).length = ps.length := both.length.symm.trans (F.len _ _ _ _ h)
  refine wpAny_call (codeAny_mono (F.run hr hG I.env0 (hb s us I.kIn n) both h) ?_)
  rintro (er | fl) s' q
  · exact hx pins σ H s er s' I q
  · cases fl with
    | ret u => exact I.after q
    | next => cases q
    | brk => cases q
    | cont => cases q
theorem pe_callG (F : FnG X.prog X.w X.K X.mg X.base CX k f fd ps sp) (hG : X.A.guards = some []) (hr : Room k X.A) (hg : Gl X x) (hm : X.mg x = some (.ref f)) (hk : PySem.W.keepIn X.K (.ref f) = true) (hb : Binds X.K fd ps ds) (hd : Vals dvs ds) (hx : Passes CX X E)
    (ha : PA X (e :: es) t) (hdb : (x == ("__debug__" : Str)) = false := by decide) (he : starEach (e :: es) X.env = (false, eval e X.env) :: starEach es X.env := by rfl) (hpl : (backTo pos (starEach es X.env)).any (·.1) = false := by rfl) :
    PE X (.Call (.Name x p) (e :: es) [] pos) (tCall sp dvs E t) where
  run pins s σ H Q I h := by
    refine wpAny_Call_Name_kw (ld_glob I hg hm (PySem.W.callWith_K (h₀ := X.base) I.ok.mod.kin hk ?_ he hpl) hdb)
    refine thn (ha.run pos pins s σ H _ I h) ?_
    rintro us s1 ⟨vs, H1, I1, r, q⟩
    exact ⟨I1.kIn, callee_G F hr hG hb hd hx I1 r q⟩
/-- repr of data -/
def rReprD (K : PySem.W.Frag) : List V → Hp → VK → Prop := fun xs H Q => ∃ a d, xs = [.ref a] ∧ Dp K H (.ref a) d ∧ d.showable = true ∧ d.hasDict = false ∧ d.depth ≤ 50 ∧ d.shown.length ≤ sizeLine ∧ Q (.str d.shown) H
theorem c_repr (hG : X.A.guards = some []) (hu : X.A.units + 64 < cLine) : CallR X (.builtin "repr") (rReprD X.K) := by
  intro pins s σ H xs us Q I r h
  obtain ⟨a, d, rfl, hd, hs, hn, hdp, hl, q⟩ := h
  cases r with
  | cons rx rr =>
    cases rr
    obtain ⟨as, r1⟩ := Dp.reads I d _ _ hd rx
    cases rx
    refine repr_of_reads' r1 hs (PyData.noDict_hsm hn) hG (by omega) (fun _ _ z => z) (fun h' u tk hk => ?_) hl
    exact ⟨.str d.shown, H, I.kept (t' := tk) hk, ⟨_, rfl⟩, q⟩
end
/-! ### the head of a law whose def is kept by FnG -/
section
variable {P : Program} {w : World} {K : PySem.W.Frag} {mg mb : Str → Option Value} {k : Nat} {fa a : Addr} {fd : FuncData} {x : Str} {sp : Sp} {s₁ : Shared} {vs : List Value} {ns : List Int}
theorem head_G (KX : K.In s₁.heap) (hG : s₁.heap.Ns mainGlobals mg) (hB : s₁.heap.Ns builtinsNs mb) (hbt : ∀ x : Str, x ≠ "__name__" → mb x = bootBuiltins x) (hlim : s₁.heap.NoLimit) (hgen : s₁.gens = #[])
    (ha : s₁.heap.get? a = some { cls := .type "list", data := .seq vs.toArray }) (hi : IntsAre vs ns) (hl : ns.length ≤ sizeLine) (hr : Room k callerA)
    (F : ∀ base : Heap, K.In base → base.Ns mainGlobals mg → FnG P w K mg base CX0 k fa fd [x] sp) (hbind : ∀ (s : Shared) (u : Value), BindsTo s fd ⟨[u], []⟩ [(x, u)])
    (hsp : ∀ H : Hp, Only H → SqL K H a (ns.map V.int) → sp [.ref a] H (fun v _ => v = .bl true) fun _ _ _ => False) :
    codeAny (model P w) callerA (.call (.ref fa) ⟨[.ref a], []⟩) (fun r s' => r = .ok (.ret (.bool true)) ∧ OldK s₁.heap s'.heap ∧ s'.os = s₁.os ∧ AllBare s'.gens) s₁ := by
  have rv : Vals (ns.map V.int) vs := vals_ints hi
  obtain ⟨H, hH, hS⟩ : ∃ H : Hp, (∀ b u, H b = some u → b = a ∧ K.lookup a = none ∧ u = .frz { cls := .type "list", data := .seq vs.toArray } (.lst (ns.map V.int))) ∧ SqL K H a (ns.map V.int) := by
    cases q : K.lookup a with
    | none =>
      refine ⟨fun b => if b = a then some (.frz { cls := .type "list", data := .seq vs.toArray } (.lst (ns.map V.int))) else none, fun b u z => ?_, .inl (.inr ⟨_, if_pos rfl⟩)⟩
      by_cases e : b = a
      · have z := (if_pos e).symm.trans z
        exact ⟨e, rfl, (Option.some.inj z).symm⟩
      · cases (if_neg e).symm.trans z
    | some o =>
      have e := (KX a o q).symm.trans ha
      cases e
      exact ⟨fun _ => none, fun b u z => (by cases z), .inr ⟨_, vs.toArray, _, q, rfl, rfl, rfl, by rw [List.size_toArray, hi.length]; exact hl, by simpa using rv⟩⟩
  have off : ∀ {b o}, s₁.heap.get? b = some o → b ≠ a → H b = none := fun {b o} _ ne => by
    cases q : H b with
    | none => rfl
    | some u => exact absurd (hH b u q).1 ne
  have ns_at : ∀ {b : Addr} {m : Str → Option Value}, s₁.heap.Ns b m → (hidT s₁.heap H).Ns b m := by
    rintro b m ⟨o, es, ep, e, d, r⟩
    refine ⟨o, es, ep, hidT_get e (off e fun z => ?_), d, r⟩
    rw [z, ha] at e
    cases e
    cases (show Data.seq vs.toArray _ = Data.dict es ep from d)
  have kin : K.In (hidT s₁.heap H) := fun b o e => hidT_get (KX b o e) (by
    cases q : H b with
    | none => rfl
    | some u =>
      obtain ⟨rfl, n, _⟩ := hH b u q
      rw [n] at e; cases e)
  have okH : HOk P w H s₁.heap := fun b u z => by
    obtain ⟨rfl, _, rfl⟩ := hH b u z
    exact ⟨ha, by rw [List.length_map]; exact hl, vs, _, rv, ha⟩
  have only : Only H := fun b => by
    cases q : H b with
    | none => exact .inl rfl
    | some u => exact .inr ⟨_, _, congrArg some (hH b u q).2.2⟩
  have hM : Mod K mg (hidT s₁.heap H) := ⟨kin, ns_at hG, ⟨mb, ns_at hB, hbt⟩, let ⟨mc, n1, n2⟩ := hlim; ⟨mc, ns_at n1, n2⟩⟩
  have e0 : Env0 P w K mg (hidT s₁.heap H) callerA [] s₁ H := ⟨rfl, hM, fun _ _ e => of_hidT e, Nat.le_of_eq (hidT_size _ _), trivial, fun _ z => absurd z List.not_mem_nil, okH, .of_eq hgen⟩
  refine codeAny_mono ((F _ kin (ns_at hG)).run (us := [.ref a]) (vs := [.ref a]) hr rfl e0 (hbind s₁ (.ref a)) (.cons rfl .nil) (hsp H only hS)) ?_
  rintro (er | fl) s' h
  · exact False.elim h
  · cases fl with
    | next => cases h
    | brk => cases h
    | cont => cases h
    | ret u =>
      obtain ⟨v, H', os, bare, un, ok', r', (rfl : v = .bl true)⟩ := h
      obtain rfl : u = Value.bool true := r'
      refine ⟨rfl, OldK.of_keep fun b o e => ?_, os, bare⟩
      cases q : H b with
      | none => exact un.keep b o e q (fun z => absurd z List.not_mem_nil) (by simp)
      | some u =>
        obtain ⟨rfl, _, rfl⟩ := hH b u q
        have e1 := (okH _ _ q).1
        have e2 := (ok' _ _ (un.frzs _ _ _ q)).1
        exact e2.trans (e1.symm.trans e)
end
theorem walk_G {l : PySem.W.OpenLaw} {n k : Nat} {q : Program} {loose : List Str} {XP : (Str → Option Value) → Heap → Prop} {YP : World → Heap → Prop} {d : DefRec} {K : Params → PySem.W.Frag} {sp : PySem.W.Frag → Sp} {x : Str}
    (hn : l.most = some n) (hn2 : n ≤ sizeLine) (hdf : d.params.defaults = []) (hr : Room k callerA) (hY : ∀ (w : World) (h : Heap), YP w h → (K w.params).In h)
    (F : ∀ (w : World) (mg : Str → Option Value) (fa : Addr) (h : Heap), (K w.params).In h → h.Ns mainGlobals mg → mg d.name = some (.ref fa) →
      ∃ fd : FuncData, (∀ (s : Shared) (u : Value), BindsTo s fd ⟨[u], []⟩ [(x, u)]) ∧ ∀ base : Heap, (K w.params).In base → base.Ns mainGlobals mg → FnG l.prog w (K w.params) mg base CX0 k fa fd [x] (sp (K w.params)))
    (hsp : ∀ (K : PySem.W.Frag) (H : Hp) (a : Addr) (ns : List Int), ns.length ≤ n → Only H → SqL K H a (ns.map V.int) → sp K [.ref a] H (fun v _ => v = .bl true) fun _ _ _ => False) :
    PySem.W.WalkO q loose XP YP l.row.toRowW d [] (fun f vs => PySem.call f vs) := by
  refine Att.attach_call hn hdf fun w s₀ s₁ mg mb fa o pm cd doc a vs ns G Y ho hd hcd hmg hobj hints hlen hg => ?_
  have KX := hY w _ Y
  obtain ⟨fd, bnd, hF⟩ := F w mg fa _ KX G.T.g hmg
  exact head_G KX G.T.g G.T.b G.T.builtins G.T.nolimit hg hobj hints (Nat.le_trans hlen hn2) hr hF bnd fun H o1 o2 => hsp _ H a ns hlen o1 o2
/-! ### a caught error -/
/-- what the written part says of a caught error's class, for isinstance -/
structure IsC (K : PySem.W.Frag) (C : Addr) : Prop where
  cl : (PySem.W.clsIn K C).isSome = true
  ga : PySem.W.findIn K (.ref C) "__getattribute__" = some (some (.builtin "BaseException.__getattribute__"))
  gg : PySem.W.findIn K (.ref C) "__getattr__" = some none
  ex : PySem.W.subIn K (.ref C) (.type "BaseException") = some true
  fc : PySem.W.findIn K (.ref C) "__class__" = some (some (.builtin "object.__class__"))
  sp : PySem.W.specialIn K (.builtin "object.__class__") "__get__" = some (some (.builtin "getset_descriptor.__get__"))
  tk : PySem.W.takesIn K (.builtin "object.__class__") = some true
  ob : PySem.W.mroIn K C (.type "object") = some true
/-- isinstance(e, c), e the error that the suite holds at a -/
def rIsX (K : PySem.W.Frag) (cls : Value) (d : Option Addr) (a : Addr) : List V → Hp → VK → Prop := fun xs H Q => ∃ (C dd : Addr) (fs : List (Str × V)) (c : V) (cv : Value) (b : Bool), cls = .ref C ∧ d = some dd ∧ H dd = some (.xd fs) ∧ IsC K C ∧ xs = [.ref a, c] ∧ (∀ u, RelV c u → u = cv) ∧
  PySem.W.kitOne K (.ref C) cv = some b ∧ Q (.bl b) H
theorem c_isX {X : Cx} {a : Addr} {cls : Value} {d : Option Addr} {oe : Obj} {pn : List (Addr × Obj)} (hz : Zc cls d oe) (hf : ∃ vs, oe.data = .fields vs) : CallR (X.suite a ((a, oe) :: pn)) (.builtin "isinstance") (rIsX X.K cls d a) := by
  intro pins s σ H xs us Q I r h
  obtain ⟨C, dd, fs, c, cv, b, rfl, rfl, hd, T, rfl, hcv, e, q⟩ := h
  cases r with
  | cons rx rr =>
    cases rr with
    | cons rt rr =>
      cases rr
      cases rx
      cases hcv _ rt
      have at_ := (I.pin (a, oe) (List.mem_append_left _ List.mem_cons_self)).1
      obtain ⟨vs, hv⟩ := hf
      have hx : ObjOk X.prog X.w H s.heap dd (.xd fs) := I.hok dd _ hd
      obtain ⟨mA, hns, _⟩ := hx
      obtain ⟨od, ho, _⟩ := lookIn_ns hns
      have J : PySem.W.InstAt s.heap a oe C (some od) := ⟨at_, hz.1, by unfold PySem.W.notCls; rw [hv] <;> rfl, by rw [hz.2]; exact ho⟩
      exact PySem.W.kia_one (PySem.W.kitx_exc T.cl T.ga T.gg T.ex T.fc T.sp T.tk T.ob) I.kIn J e (fun z => nomatch z) fun tk => ⟨.bl b, H, I.kept (t' := tk) fun _ _ z => z, rfl, q⟩
theorem xfC_of {P : Program} {K : PySem.W.Frag} {mg : Str → Option Value} {x f : Str} {C fI : Addr} (T : PySem.SupX.SupTxt P K mg x f C fI) : XfC K C := ⟨T.ga, T.gg, T.exC, T.hdC⟩
/-! ### the end's facts -/
def keyS (e : DictEntry) : Option Str := match e.key with
  | .str z _ => some z
  | _ => none
theorem ns_miss {K : PySem.W.Frag} {a : Addr} {es : Array DictEntry} {n : Nat} {dd : Option Addr} {sl : Array (Option Value)} {ks : List Str} {z : Str} (l : K.lookup a = some ⟨.type "dict", dd, .dict es n, sl⟩) (h : es.toList.map keyS = ks.map some) (hz : z ∉ ks) : PySem.W.nsIn K a z = some none := by
  have key : ∀ (xs : List DictEntry) (ks : List Str), xs.map keyS = ks.map some → z ∉ ks → xs.find? (·.key.isStr z) = none ∧ xs.any (·.refKey) = false := by
    intro xs
    induction xs with
    | nil => intro _ _ _; exact ⟨rfl, rfl⟩
    | cons x xs ih =>
      intro ks h hz
      cases ks with
      | nil => cases h
      | cons k ks =>
        rw [List.map_cons, List.map_cons] at h
        injection h with h1 h2
        obtain ⟨i1, i2⟩ := ih ks h2 fun q => hz (List.mem_cons_of_mem _ q)
        obtain ⟨kh, ke, kv⟩ := x
        unfold keyS at h1
        cases ke with
        | str y t =>
          have e : y = k := by injection h1
          subst e
          have ne : (y == z) = false := by
            refine Bool.eq_false_iff.mpr fun q => hz ?_
            rw [← beq_iff_eq.mp q]
            exact List.mem_cons_self
          refine ⟨?_, ?_⟩
          · rw [List.find?_cons]
            have : (Value.str y t).isStr z = false := ne
            simp only [this]
            exact i1
          · rw [List.any_cons, i2]; rfl
        | _ => cases h1
  obtain ⟨h1, h2⟩ := key _ _ h hz
  unfold PySem.W.nsIn
  rw [l]
  simp only [h1, h2]
  rfl
theorem exm_own {K : PySem.W.Frag} {C : Addr} (h1 : PySem.W.subIn K (.ref C) (.type "BaseException") = some true) (h2 : PySem.W.isClsIn K C = true) (h3 : PySem.W.typeIn K (.ref C) = some (.type "type")) (h4 : PySem.W.subIn K (.ref C) (.ref C) = some true) : PySem.W.exmOne K (.ref C) (.ref C) = some true := by
  have h2' : (PySem.W.clsIn K C).isSome = true := h2
  show (if (PySem.W.subIn K (.ref C) (.type "BaseException") == some true) = true then (if ((PySem.W.clsIn K C).isSome && PySem.W.typeIn K (.ref C) == some (.type "type")) = true then PySem.W.subIn K (.ref C) (.ref C) else none) else none) = some true
  rw [h1, h2', h3]
  exact h4
/-! ### either of two roads, chosen by the state -/
theorem pi_or {X : Cx} {tg it : Expr} {t u : TI} (h1 : PI X tg it t) (h2 : PI X tg it u) : PI X tg it (fun σ H R => t σ H R ∨ u σ H R) :=
  ⟨fun pins s σ H R I h => h.elim (h1.run pins s σ H R I) (h2.run pins s σ H R I)⟩
end Lw

/-! Lq: forward steps over what is a list or a tuple. -/
namespace Lw
open PySem L2 PySem.Spec PyProof.Rows
/-- a list or a tuple -/
def SqA (W : Wd) (H : Hp) (a : Addr) (xs : List V) : Prop := At W H a (.lst xs) ∨ At W H a (.tup xs)
/-- a plain value -/
inductive Pl : V → Prop
  | non : Pl .non
  | bl (b : Bool) : Pl (.bl b)
  | int (i : Int) : Pl (.int i)
  | str (s : Str) : Pl (.str s)
theorem Pl.flat {v : V} (h : Pl v) : flatV v = true := by cases h <;> rfl
section
variable {W : Wd} {K : PySem.W.Frag} {H H1 : Hp} {σ : L2.St} {D : Ends} {Q : VK} {v x y : V} {i j c : Int} {n m : Nat} {s z : Str} {b : Bool} {p a : Addr} {xs ys vs : List V}
variable {ta tb te : TE} {t u : TS} {tr tk ta' : TA} {g : TG} {tS : TS} {tt : TT}
theorem SqA.ex (e : Ex W H H1) (h : SqA W H a xs) : SqA W H1 a xs := h.imp e.at_ e.at_
theorem SqA.ofL (h : At W H a (.lst xs)) : SqA W H a xs := .inl h
theorem SqA.ofT (h : At W H a (.tup xs)) : SqA W H a xs := .inr h
theorem SqA.raw (h : SqA W H a xs) : SqL K H a xs ∨ SqT K H a xs := h.imp At.sl At.st
theorem rd_ixQ (h : SqA W H p xs) (e : atI xs i = some v) (k : Q v H) : rIx K (.ref p) (.int i) H Q := by
  rcases h with h | h
  · exact .inl ⟨p, xs, i, v, rfl, rfl, h.sl, e, k⟩
  · exact .inr (.inl ⟨p, xs, i, v, rfl, rfl, h.st, e, k⟩)
theorem rd_lenQ (h : SqA W H p xs) (k : Q (.int xs.length) H) : rLen K [.ref p] H Q := ⟨p, xs, rfl, h.raw, k⟩
theorem rd_lenK (h : SqT K H p xs) (k : Q (.int xs.length) H) : rLen K [.ref p] H Q := ⟨p, xs, rfl, .inr h, k⟩
theorem rd_tupQ (i : W.iv H) (h : SqA W H p xs) (k : ∀ t H2, Ex W H H2 → At W H2 t (.tup xs) → Q (.ref t) H2) : rTupO K [.ref p] H Q := by
  rcases h with h | h
  · exact ⟨p, xs, rfl, .inl ⟨h.sl, new_of i fun q H2 _ e a => k q H2 e a⟩⟩
  · exact ⟨p, xs, rfl, .inr ⟨h.st, k p H (Ex.refl i) h⟩⟩
theorem SqA.ty (h : SqA W H a xs) : TyX K H (.ref a) (.type "list") ∨ TyX K H (.ref a) (.type "tuple") := h.imp (fun h => .base (.lst h.raw)) fun h => .base (.tup h.raw)
/-- isinstance(x, (list, tuple)) -/
theorem rd_isRow {tp : Addr} (h : SqA W H a xs) (ht : H tp = some (.tup [.ty "list", .ty "tuple"])) (k : Q (.bl true) H) : rIsiT K [.ref a, .ref tp] H Q := by
  have cs : Paired ClsV [V.ty "list", V.ty "tuple"] [Value.type "list", Value.type "tuple"] := .cons (.ty _) (.cons (.ty _) .nil)
  rcases h.ty (K := K) with q | q
  · exact ⟨_, tp, _, _, _, true, rfl, ht, cs, q, by kernel_rfl, k⟩
  · exact ⟨_, tp, _, _, _, true, rfl, ht, cs, q, by kernel_rfl, k⟩
/-- for i, x in enumerate(xs), xs a name -/
theorem for_eq (hv : σ[m]? = some (some (.ref a))) (h : SqA W H a xs) (Pv : Nat → L2.St → Hp → Prop) (h0 : Pv 0 σ H) (hg : ∀ i σ' H', Pv i σ' H' → Ex W H H')
    (hs : ∀ i x T σ' H1 H', xs[i]? = some x → Pv i σ' H1 → H1 T = none → Ex W H1 H' → At W H' T (.tup [.int ((i : Nat) : Int), x]) → g (.ref T) σ' H' fun σ2 H2 => tS { D with nx := Pv (i + 1), ct := Pv (i + 1), bk := D.nx } σ2 H2)
    (hd : ∀ σ' H', Pv xs.length σ' H' → D.nx σ' H') : tFor (fun σ H R => iEnum K (tCons (tVar m) tNil) σ H R ∨ iEnumT K (tCons (tVar m) tNil) σ H R) g tS D σ H := by
  rcases h with h | h
  · refine .inl ⟨.ref a, hv, a, xs, rfl, h.sl, ?_⟩
    refine for_it (walk_enum (xs := xs)) Pv h0 (fun i σ H _ p => ((hg i σ H p).at_ h).sl) (fun i x σ H H' hi p y => ?_) hd
    obtain ⟨T, x1, x2, rfl, hT, rfl, e1, e2⟩ := y
    cases e1
    exact hs i x2 T σ H _ e2 p hT (Ex.new (hg i σ H p).iv hT) (At.new (hg i σ H p).iv hT)
  · refine .inr ⟨.ref a, hv, a, xs, rfl, h.st, ?_⟩
    refine for_it (walk_enumT (xs := xs)) Pv h0 (fun i σ H _ p => ((hg i σ H p).at_ h).st) (fun i x σ H H' hi p y => ?_) hd
    obtain ⟨T, x1, x2, rfl, hT, rfl, e1, e2⟩ := y
    cases e1
    have z := hs i x2 T σ H (upd H T (.tup [.int ((i : Nat) : Int), x2])) e2 p hT (Ex.new (hg i σ H p).iv hT) (At.new (hg i σ H p).iv hT)
    rwa [show (0 + ((i : Nat) : Int)) = (i : Int) from Int.zero_add _]
/-- [e for x in xs], xs a name: S is what holds of the items made (without the new list) -/
theorem lc_q (hv : σ[n]? = some (some (.ref a))) (h : SqA W H a xs) (i : W.iv H) (hn : xs.length ≤ 50000) (S : Nat → List V → Hp → Prop) (hm : ∀ k ys H1 H2, Ex W H1 H2 → S k ys H1 → S k ys H2) (h0 : S 0 [] H)
    (hs : ∀ k x D ys H' (QV : VK) (QN : Hp → Prop), k < xs.length → xs[k]? = some x → H D = none → At W H' D (.lst ys) → Ex W H H' → S k ys (Lw.hide D H') → ys.length ≤ k →
      (∀ y H4, Ex W H' H4 → S (k + 1) (ys ++ [y]) (Lw.hide D H4) → QV y H4) → (∀ H3, Ex W H' H3 → S (k + 1) ys (Lw.hide D H3) → QN H3) →
      tt ((wipe σ [m]).set m (some x)) H' fun b H3 => if b = true then te ((wipe σ [m]).set m (some x)) H3 QV else QN H3)
    (k : ∀ D H2 ys, H D = none → Ex W H H2 → At W H2 D (.lst ys) → S xs.length ys H2 → ys.length ≤ xs.length → Q (.ref D) H2) :
    tLc (fun σ H R => iList K (tVar n) σ H R ∨ iTup K (tVar n) σ H R) (gName m) tt te [m] σ H Q := by
  rcases h with h | h
  · exact .inl ⟨.ref a, hv, a, rfl, ⟨xs, h.sl⟩, lc_w (X := fun i x => xs[i]? = some x) walk_list S i hn (fun H' e => (e.at_ h).sl) hm h0 hs k⟩
  · exact .inr ⟨.ref a, hv, a, rfl, ⟨xs, h.st⟩, lc_w (X := fun i x => xs[i]? = some x) walk_tup S i hn (fun H' e => (e.at_ h).st) hm h0 hs k⟩
def rUpperS : V → List V → Hp → VK → Prop := fun x xs H Q => ∃ a, x = .str a ∧ xs = [] ∧ a.length ≤ 5592405 ∧ Q (.str (Txt.upper a)) H
theorem m_upper {X : Cx} : MtR X "str.upper" rUpperS := mt_upper
theorem rd_upper (h : s.length ≤ 1000000) (k : Q (.str (Txt.upper s)) H) : rUpperS (.str s) [] H Q := ⟨s, rfl, rfl, Nat.le_trans h (by decide), k⟩
theorem rd_bm0 {T : String} {r : V → List V → Hp → VK → Prop} (h : ta σ H fun x H1 => tyV K T x H1 ∧ r x [] H1 Q) : tBM0 K T r ta σ H Q := h
/-! ### raising -/
theorem rd_raiseS {C : Addr} {f : Str} {Wx : WX} (h : ta' σ H fun vs H1 => ∃ v, vs = [v] ∧ ∀ d, H1 d = none → Wx (.ref C) (some d) σ (upd H1 d (.xd [(f, v)]))) : tRaiseS C f Wx ta' D σ H := h
/-- the error's dict is new -/
theorem rd_newX {C : Addr} {f : Str} {Wx : WX} (i : W.iv H) (k : ∀ d H2, Ex W H H2 → At W H2 d (.xd [(f, v)]) → Wx (.ref C) (some d) σ H2) : ∃ v', [v] = [v'] ∧ ∀ d, H d = none → Wx (.ref C) (some d) σ (upd H d (.xd [(f, v')])) :=
  ⟨v, rfl, fun d hd => k d _ (Ex.new i hd) (At.new i hd)⟩
theorem rd_callS {sp : Sp} {E : L2.St → XK} (h : tr σ H fun vs H1 => sp vs H1 Q (E σ)) : tCallS sp E tr σ H Q := h
theorem rd_isX {cls : Value} {d : Option Addr} {C dd : Addr} {fs : List (Str × V)} {cv : Value} (h : At W H dd (.xd fs)) (e1 : cls = .ref C) (e2 : d = some dd) (T : IsC K C) (hc : ∀ u, RelV x u → u = cv) (e : PySem.W.kitOne K (.ref C) cv = some b) (k : Q (.bl b) H) : rIsX K cls d a [.ref a, x] H Q :=
  ⟨C, dd, fs, x, cv, b, e1, e2, h.1, T, rfl, hc, e, k⟩
theorem rd_xf {cls : Value} {d : Option Addr} {C dd : Addr} {f : Str} (hv : σ[m]? = some (some (.ref a))) (h : At W H dd (.xd [(f, v)])) (e1 : cls = .ref C) (e2 : d = some dd) (k : Q v H) : tXf a cls d C f (tVar m) σ H Q :=
  ⟨_, hv, rfl, e1, dd, _, v, e2, h.1, by simp [List.lookup], k⟩
end
end Lw

/-! Lh: f-strings, dicts by ints, walks of tuples that stand in the heap. -/
namespace Lw
open PySem L2 PySem.Spec PyProof.Rows
section
variable {W : Wd} {K : PySem.W.Frag} {H H1 : Hp} {σ : L2.St} {D : Ends} {Q : VK} {v x y : V} {i j c : Int} {n m : Nat} {s z : Str} {b : Bool} {p a : Addr} {xs ys vs : List V}
variable {ta tb te : TE} {t u : TS} {tr tk : TA} {g : TG} {tS : TS}
def FmtG (Q : VK) (x : V) (H : Hp) : Prop := (∃ y : Str, x = .str y ∧ y.length ≤ sizeLine ∧ Q (.str y) H) ∨ ∃ i : Int, x = .int i ∧ i.natAbs.log2 < 1920 ∧ Q (.str (toString i)) H
theorem rd_fmt (h : te σ H fun x H1 => FmtG Q x H1) : tFmt te σ H Q := h
theorem rd_fmtS (h : s.length ≤ 1000000) (k : Q (.str s) H) : FmtG Q (.str s) H := .inl ⟨s, rfl, sz_le h, k⟩
theorem rd_fmtI (h : i.natAbs.log2 < 1920) (k : Q (.str (toString i)) H) : FmtG Q (.int i) H := .inr ⟨i, rfl, h, k⟩
def JsG (ts : List TE) (acc : Str) (σ : L2.St) (QS : Str → Hp → Prop) (x : V) (H : Hp) : Prop := ∃ y : Str, x = .str y ∧ (acc ++ y).length ≤ sizeLine ∧ tJs ts (acc ++ y) σ H QS
theorem rd_js {ts : List TE} {acc : Str} {QS : Str → Hp → Prop} (h : te σ H fun x H1 => JsG ts acc σ QS x H1) : tJs (te :: ts) acc σ H QS := h
theorem rd_jsS {ts : List TE} {acc : Str} {QS : Str → Hp → Prop} (h : (acc ++ s).length ≤ 1000000) (k : tJs ts (acc ++ s) σ H QS) : JsG ts acc σ QS (.str s) H := ⟨s, rfl, sz_le h, k⟩
theorem rd_js0 {acc : Str} {QS : Str → Hp → Prop} (k : QS acc H) : tJs [] acc σ H QS := k
theorem rd_dinI {kvs : List (Key × V)} (h : At W H a (.dK kvs)) (k : Q (.bl (valV kvs (.inl i)).isSome) H) : DInG Q false (.ref a) (.int i) H := ⟨a, _, rfl, DGet.k (k := .inl i) h.1, k⟩
theorem rd_dputI {kvs : List (Key × V)} {H0 : Hp} {P : Hp → Prop} (e : Ex W H0 H) (h0 : H0 a = none) (h : At W H a (.dK kvs)) (hl : kvs.length < 1000000) (k : ∀ H2, Ex W H0 H2 → At W H2 a (.dK (putK kvs (.inl i) v)) → (∀ q o, q ≠ a → At W H q o → At W H2 q o) → P H2) :
    ∃ a' H4, V.ref a = .ref a' ∧ DPut H a' (.int i) v H4 ∧ P H4 := ⟨a, _, rfl, DPut.k (k := .inl i) h.1 (sz_lt hl), k _ (e.mut h0 h) (.mut e.iv h) fun _ _ ne q => .other e.iv h q ne⟩
/-- over a tuple of the heap -/
theorem for_t (Pv : Nat → L2.St → Hp → Prop) (h0 : Pv 0 σ H) (hl : ∀ i σ H, Pv i σ H → At W H a (.tup xs)) (hs : ∀ i x σ H, xs[i]? = some x → Pv i σ H → g x σ H fun σ2 H2 => tS { D with nx := Pv (i + 1), ct := Pv (i + 1), bk := D.nx } σ2 H2) (hd : ∀ σ H, Pv xs.length σ H → D.nx σ H) : FoW (Itt K a) g tS D σ H :=
  for_it (walk_tup (xs := xs)) Pv h0 (fun i σ H _ p => (hl i σ H p).st) (fun i x σ H H' hi p y => by
    obtain ⟨rfl, e⟩ := y
    exact hs i x σ _ e p) hd
theorem rd_srcET2 {P : Addr → Prop} (h : At W H a (.tup xs)) (k : P a) : ∃ a' xs, [V.ref a] = [.ref a'] ∧ SqT K H a' xs ∧ P a' := ⟨a, xs, rfl, h.st, k⟩
/-- enumerate of a tuple of the heap -/
theorem for_etA (Pv : Nat → L2.St → Hp → Prop) (h0 : Pv 0 σ H) (hv : ∀ i σ H, Pv i σ H → W.iv H ∧ At W H a (.tup xs))
    (hs : ∀ i x T σ H H', xs[i]? = some x → Pv i σ H → H T = none → Ex W H H' → At W H' T (.tup [.int (c + (i : Nat)), x]) → g (.ref T) σ H' fun σ2 H2 => tS { D with nx := Pv (i + 1), ct := Pv (i + 1), bk := D.nx } σ2 H2)
    (hd : ∀ σ H, Pv xs.length σ H → D.nx σ H) : FoW (IteT K c a) g tS D σ H :=
  for_it (walk_enumT (xs := xs)) Pv h0 (fun i σ H _ p => (hv i σ H p).2.st) (fun i x σ H H' hi p y => by
    obtain ⟨T, x1, x2, rfl, hT, rfl, e1, e2⟩ := y
    cases e1
    exact hs i x2 T σ H _ e2 p hT (Ex.new (hv i σ H p).1 hT) (At.new (hv i σ H p).1 hT)) hd
end
end Lw

/-! Lr: quiet defs: they raise nothing and are called where an exception is handled, too (in an except suite). -/
namespace Lw
open PySem L2 PySem.Spec PyProof.Rows
/-- nothing but room is asked of what is around -/
structure RoomQ (k : Nat) (A : Around) : Prop where
  dp : A.depth + 3 * k + 5 < recursionLimit
  un : A.units + 16 * k + 200 < cLine
theorem RoomQ.of {k : Nat} {A : Around} (r : Room k A) : RoomQ k A := ⟨r.dp, r.un⟩
theorem RoomQ.mark {k : Nat} {A : Around} {v : Option Value} (r : RoomQ k A) : RoomQ k (A.mark v) := ⟨r.dp, r.un⟩
theorem RoomQ.mono {j k : Nat} {A : Around} (r : RoomQ k A) (h : j ≤ k) : RoomQ j A := ⟨by have := r.dp; omega, by have := r.un; omega⟩
theorem RoomQ.deeper {k : Nat} {A : Around} (r : RoomQ (k + 1) A) (env : Env) : RoomQ k (A.deeper env) :=
  ⟨by have := r.dp; show A.depth + 1 + 3 * k + 5 < _; omega, by have := r.un; show A.units + 3 + 16 * k + 200 < _; omega⟩
structure FnQ (P : Program) (w : World) (K : PySem.W.Frag) (mg : Str → Option Value) (base : Heap) (CX : CXT) (k : Nat) (f : Addr) (fd : FuncData) (ps : List Str) (sp : Sp) : Prop where
  len : ∀ vs H Q E, sp vs H Q E → vs.length = ps.length
  run : ∀ {A : Around} {outer : List Env} {s : Shared} {H : Hp} {args : Args} {us : List Value} {vs : List V} {Q : VK} {E : XK}, RoomQ k A → Env0 P w K mg base A outer s H → BindsTo s fd args (ps.zip us) → Vals vs us → sp vs H Q E →
    codeAny (model P w) A (.call (.ref f) args) (CR CX outer P w H s Q E) s
/-- the context of such a def's body -/
abbrev cxQ (CX : CXT) (P : Program) (w : World) (K : PySem.W.Frag) (mg : Str → Option Value) (base : Heap) (N : List Str) (qual : Str) (scope : Scope) (f : Addr) (cd : Value) (A : Around) (outer : List Env) (s : Shared) (H : Hp) (E : XK) : Cx :=
  { cxOf CX P w K mg base N qual scope f cd A outer s H E with calm := false }
section
variable {P : Program} {w : World} {K : PySem.W.Frag} {mg : Str → Option Value} {base : Heap} {CX : CXT} {k : Nat} {f : Addr} {fd : FuncData} {ps N : List Str} {sp : Sp}
theorem Env0.unmark {A : Around} {outer : List Env} {s : Shared} {H : Hp} (e : Env0 P w K mg base A outer s H) : Env0 P w K mg base { A with handled := none } outer s H := ⟨e.frames, e.mod, e.bs, e.bsz, e.funs, e.frf, e.hok, e.bare⟩
theorem inv_startQ {qual : Str} {scope : Scope} {cd : Value} {A : Around} {outer : List Env} {s s1 : Shared} {H : Hp} {E : XK} {us : List Value} {vs : List V} (S : FnScope N ps scope) (e0 : Env0 P w K mg base A outer s H) (hl : vs.length = ps.length) (r : Vals vs us)
    (x : InCallC s s.heap.objs.size (bindL (envOfC qual scope s.heap.objs.size f cd).kindOf (ps.zip us) fun _ => none) (cellsFrom (s.heap.objs.size + 1) scope.names []) (bindC (envOfC qual scope s.heap.objs.size f cd).kindOf (ps.zip us) fun _ => none) s1) :
    Inv (cxQ CX P w K mg base N qual scope f cd A outer s H E) [] (start N vs) H s1 := by
  have I := inv_start (CX := CX) (E := E) (A := { A with handled := none }) S rfl (Env0.unmark e0) hl r x
  have o := I.ok
  have ok : (cxQ CX P w K mg base N qual scope f cd A outer s H E).Ok := ⟨o.mod, o.kind, o.glob, o.blt, o.above, o.inj, o.has, o.cab, fun z => Bool.noConfusion (show false = true from z), Around.frames_deeper e0.frames, o.stk, o.exf, o.bs, o.bsz, o.noex, o.exfs, o.funs, o.frf⟩
  exact ⟨ok, I.os, I.bare, I.base, I.loc, I.cell, I.free, I.freeC, I.pin, I.hok, I.len⟩
/-- by its body -/
theorem fnQ_body {name qual : Str} {params : Arguments} {body : List Stmt} {scope : Scope} {dV kV doc pm cdv ct oc : Value} {an od : Option Addr} {osl : Array (Option Value)}
    (lk : K.lookup f = some ⟨oc, od, .func (PySem.W.fnOf name qual params body scope dV kV doc pm an cdv ct), osl⟩) (hcd : PySem.W.codeIn K cdv qual = true) (S : FnScope N ps scope) (len : ∀ vs H Q E, sp vs H Q E → vs.length = ps.length)
    (hb : ∀ (A : Around) (outer : List Env) (s : Shared) (H : Hp) (vs : List V) (Q : VK) (E : XK), RoomQ k (A.deeper (envOfC qual scope s.heap.objs.size f cdv)) → sp vs H Q E →
      ∃ t, PSs (cxQ CX P w K mg base N qual scope f cdv A outer s H E) body t ∧ t { nx := fun _ H' => Q .non H', rt := Q } (start N vs) H) :
    FnQ P w K mg base CX (k + 1) f (PySem.W.fnOf name qual params body scope dV kV doc pm an cdv ct) ps sp := by
  constructor
  · exact len
  intro A outer s H args us vs Q E hr e0 bnd rel h
  have inBase : ∀ b o, base.get? b = some o → s.heap.get? b = some o := fun b o e => (e0.bs b o e).1
  have KX : K.In s.heap := e0.mod.kin.keeps inBase
  have kinds : ∀ y ∈ ps.zip us, scope.names.lookup y.1 = some .local ∨ (scope.names.lookup y.1 = some .cell ∧ ((cellsFrom (s.heap.objs.size + 1) scope.names []).lookup y.1).isSome = true) := by
    rintro ⟨n, v⟩ hy
    have hn := (List.of_mem_zip hy).1
    exact (S.par n hn).imp id fun q => ⟨q, PySem.W.cellsFrom_some _ _ _ (.inl q)⟩
  refine codeAny_call_function (by have := hr.dp; omega) (KX _ _ lk) rfl S.co S.gen rfl (PySem.W.codeRec_of KX hcd) (bnd _ _ _ _ (wpAny_newFunctionEnv_cells S.kind kinds ?_))
  rintro env rfl s1 x
  obtain ⟨t, ht, hq⟩ := hb A outer s H vs Q E (hr.deeper _) h
  have I := inv_startQ (CX := CX) (E := E) S e0 (len _ _ _ _ h) rel x
  refine ⟨(e0.mod.nolimit.keeps inBase).keeps x.toInCall.keep, codeAny_func (wpAny_mono (ht.run [] s1 (start N vs) H _ I hq) ?_ fun _ _ z => z)⟩
  intro fl s' hs
  cases fl with
  | next => obtain ⟨_, H', J, q⟩ := hs; exact ⟨.non, H', J.os, J.bare, J.base, J.hok, rfl, q⟩
  | ret u => obtain ⟨v, _, H', J, rv, q⟩ := hs; exact ⟨v, H', J.os, J.bare, J.base, J.hok, rv, q⟩
  | brk => obtain ⟨_, _, _, q⟩ := hs; cases q
  | cont => obtain ⟨_, _, _, q⟩ := hs; cases q
theorem Fun.okQ {x qual : Str} {st : Stmt} (F : Fun K x qual st f fd) (S : FnScope N ps (defScope st)) (len : ∀ vs H Q E, sp vs H Q E → vs.length = ps.length)
    (hb : ∀ (cdv : Value) (A : Around) (outer : List Env) (s : Shared) (H : Hp) (vs : List V) (Q : VK) (E : XK), RoomQ k (A.deeper (envOfC qual (defScope st) s.heap.objs.size f cdv)) → sp vs H Q E →
      ∃ t, PSs (cxQ CX0 P w K mg base N qual (defScope st) f cdv A outer s H E).nox (defBody st) t ∧ t { nx := fun _ H' => Q .non H', rt := Q } (start N vs) H) : FnQ P w K mg base CX0 (k + 1) f fd ps sp := by
  obtain ⟨_, _, _, _, _, _, cdv, _, _, rfl, lk, hcd⟩ := F.ex
  refine fnQ_body lk hcd S len fun A outer s H vs Q E hr h => ?_
  obtain ⟨t, ht, q⟩ := hb cdv A outer s H vs Q E hr h
  exact ⟨t, ht.nox, q⟩
end
section
variable {X : Cx} {CX : CXT} {k : Nat} {f : Addr} {fd : FuncData} {ps : List Str} {sp : Sp} {E : XK} {x : Str} {p pos : Pos} {e : Expr} {es : List Expr} {t : TA} {ds : List Value} {dvs : List V}
theorem callee_Q {pins : List (Addr × Obj)} {σ : L2.St} {H : Hp} {s : Shared} {Q : VK} {us : List Value} {vs : List V} (F : FnQ X.prog X.w X.K X.mg X.base CX k f fd ps sp) (hr : RoomQ k X.A) (hb : Binds X.K fd ps ds) (hd : Vals dvs ds) (hx : Passes CX X E)
    (I : Inv X pins σ H s) (r : Vals vs us) (h : sp (vs ++ dvs) H Q E) : wpAny (model X.prog X.w) X.A (call (.ref f) us) (EP X pins σ Q) X.xe s := by
  have both : Vals (vs ++ dvs) (us ++ ds) := r.append hd
  have n : (us ++ ds).length = ps.length := both.length.symm.trans (F.len _ _ _ _ h)
  refine wpAny_call (codeAny_mono (F.run hr I.env0 (hb s us I.kIn n) both h) ?_)
  rintro (er | fl) s' q
  · exact hx pins σ H s er s' I q
  · cases fl with
    | ret u => exact I.after q
    | next => cases q
    | brk => cases q
    | cont => cases q
/-- a call of such a def, also in an except suite -/
theorem pe_callQ (F : FnQ X.prog X.w X.K X.mg X.base CX k f fd ps sp) (hr : RoomQ k X.A) (hg : Gl X x) (hm : X.mg x = some (.ref f)) (hk : PySem.W.keepIn X.K (.ref f) = true) (hb : Binds X.K fd ps ds) (hd : Vals dvs ds) (hx : Passes CX X E)
    (ha : PA X (e :: es) t) (hdb : (x == ("__debug__" : Str)) = false := by decide) (he : starEach (e :: es) X.env = (false, eval e X.env) :: starEach es X.env := by rfl) (hpl : (backTo pos (starEach es X.env)).any (·.1) = false := by rfl) :
    PE X (.Call (.Name x p) (e :: es) [] pos) (tCall sp dvs E t) where
  run pins s σ H Q I h := by
    refine wpAny_Call_Name_kw (ld_glob I hg hm (PySem.W.callWith_K (h₀ := X.base) I.ok.mod.kin hk ?_ he hpl) hdb)
    refine thn (ha.run pos pins s σ H _ I h) ?_
    rintro us s1 ⟨vs, H1, I1, r, q⟩
    exact ⟨I1.kIn, callee_Q F hr hb hd hx I1 r q⟩
end
/-! ### range with a step -/
section
variable {σ : L2.St} {H : Hp} {D : Ends} {lo c : Int} {n m : Nat} {g : TG} {tS : TS} {ta : TA}
theorem rd_forR3 (h : ta σ H fun vs H1 => ∃ (i j c : Int) (n : Nat), vs = [.int i, .int j, .int c] ∧ RgC i j c n ∧ FoW (Itc i c n) g tS D σ H1) : tFor (iRng3 ta) g tS D σ H := h
theorem rd_down {P : Int → Int → Nat → Prop} {i : Int} (h0 : 0 ≤ i + 1) (h1 : i < 1000000) (k : P i (-1) (i + 1).toNat) : ∃ (i' j' c : Int) (n : Nat), [V.int i, V.int (-1), V.int (-1)] = [.int i', .int j', .int c] ∧ RgC i' j' c n ∧ P i' c n :=
  ⟨i, -1, -1, (i + 1).toNat, rfl, by have q := RgC.neg (i := i) (j := -1) (by omega) (by omega) (by decide) (by decide); rwa [show i - -1 = i + 1 by omega] at q, k⟩
theorem for_rC (Pv : Nat → L2.St → Hp → Prop) (h0 : Pv 0 σ H) (hs : ∀ (i : Nat) σ H, i < n → Pv i σ H → tS { D with nx := Pv (i + 1), ct := Pv (i + 1), bk := D.nx } (σ.set m (some (.int (lo + i * c)))) H) (hd : ∀ σ H, Pv n σ H → D.nx σ H) : FoW (Itc lo c n) (gName m) tS D σ H := by
  refine ⟨fun i k σ H => i ≤ n ∧ k = n - i ∧ Pv i σ H, ⟨_, Nat.zero_le _, rfl, h0⟩, ?_⟩
  rintro i k σ H ⟨hi, rfl, p⟩
  by_cases e : i < n
  · refine .inr ⟨e, Pv (i + 1), fun σ' H' q => ⟨n - (i + 1), by omega, by omega, rfl, q⟩, ?_⟩
    rintro x H' ⟨rfl, rfl⟩
    exact hs i σ _ e p
  · have e2 : i = n := by omega
    subst e2
    exact .inl ⟨Nat.le_refl _, hd _ _ p⟩
end
end Lw

/-! Lt: a text times an int, list.insert, d[text], int(text). -/
namespace Lw
open PySem L2 PySem.Spec PyProof.Rows
def repS (z : Str) (n : Nat) : Str := ⟨(List.replicate n z.cps).foldl (· ++ ·) #[]⟩
theorem rep_list : ∀ (l : List (Array Nat)) (a : Array Nat), (l.foldl (· ++ ·) a).toList = a.toList ++ (l.map Array.toList).flatten
  | [], a => by simp
  | b :: l, a => by
    rw [List.foldl_cons, rep_list l, Array.toList_append, List.map_cons, List.flatten_cons, List.append_assoc]
theorem repS_tl (z : Str) (n : Nat) : (repS z n).cps.toList = (List.replicate n z.cps.toList).flatten := by
  unfold repS
  show (List.foldl _ _ _ : Array Nat).toList = _
  rw [rep_list, List.map_replicate]
  rfl
theorem repS_len (z : Str) (n : Nat) : (repS z n).length = n * z.length := by
  have : (repS z n).length = (repS z n).cps.toList.length := Array.length_toList.symm
  rw [this, repS_tl, List.length_flatten, List.map_replicate, List.sum_replicate_nat]
  rfl
/-- a text times an int from 2 on -/
def rRepS : R2 := fun x y H Q => ∃ (z : Str) (k : Int), x = .str z ∧ y = .int k ∧ 2 ≤ k ∧ z.length ≠ 0 ∧ z.length * k.toNat ≤ 1000000 ∧ Q (.str (repS z k.toNat)) H
theorem op_repS {X : Cx} : OpR X (binaryOp .Mult) rRepS := by
  intro pins s σ H x y v u Q I rx ry h
  obtain ⟨z, k, rfl, rfl, hk, hz, hl, q⟩ := h
  obtain ⟨t, rfl⟩ := rx
  obtain ⟨t', rfl⟩ := ry
  have hk2 : k ≤ 1000000 := by
    have : k.toNat ≤ z.length * k.toNat := Nat.le_mul_of_pos_left _ (by omega)
    omega
  have hz2 : z.length ≤ 1000000 := by
    have : z.length ≤ z.length * k.toNat := Nat.le_mul_of_pos_right _ (by omega)
    omega
  have e1 : ¬ k < 1 := by omega
  have e2 : (k == 1 || z.length == 0) = false := by
    rw [Bool.or_eq_false_iff]
    exact ⟨beq_eq_false_iff_ne.mpr (by omega), beq_eq_false_iff_ne.mpr hz⟩
  have e3 : Builtin.Str.tooLong (z.length * k.toNat) = false := by
    unfold Builtin.Str.tooLong
    exact decide_eq_false (by have : (1000000 : Nat) ≤ sizeLine := by decide
                              omega)
  refine PySem.P.mul_str ?_ (fun _ _ => ?_) (fun _ _ => e3) ?_
  · rw [decide_eq_false (by omega), decide_eq_false (by omega)]; rfl
  · have e5 : (z.length : Int) * k ≤ 2 ^ 63 - 1 := by
      have : (z.length : Int) * k = ((z.length * k.toNat : Nat) : Int) := by rw [Int.natCast_mul, Int.toNat_of_nonneg (by omega)]
      rw [this]
      omega
    exact Int.not_lt.mpr (Int.le_ediv_of_mul_le (by omega) e5)
  · rw [if_neg e1, if_neg (by rw [e2]; decide)]
    refine ⟨?_, .str (repS z k.toNat), H, I.tok _, ⟨_, rfl⟩, q⟩
    show (repS z k.toNat).length ≤ sizeLine
    rw [repS_len, Nat.mul_comm]
    exact Nat.le_trans hl (by decide)
section
variable {W : Wd} {K : PySem.W.Frag} {H H1 : Hp} {σ : L2.St} {D : Ends} {Q : VK} {v x y : V} {i j c : Int} {n m : Nat} {s z : Str} {b : Bool} {p a : Addr} {xs ys vs : List V}
variable {ta tb te : TE} {t u : TS} {tr tk : TA} {g : TG} {tS : TS}
theorem rd_repS (h : 2 ≤ i) (hz : s.length ≠ 0) (hl : s.length * i.toNat ≤ 1000000) (k : Q (.str (repS s i.toNat)) H) : rRepS (.str s) (.int i) H Q := ⟨s, i, rfl, rfl, h, hz, hl, k⟩
/-- xs.insert(i, y), xs a list of our own -/
def rIns : V → List V → Hp → VK → Prop := fun x vs H Q => ∃ (l : Addr) (xs : List V) (i : Int) (y : V), x = .ref l ∧ vs = [.int i, y] ∧ H l = some (.lst xs) ∧ xs.length < sizeLine ∧ 0 ≤ i ∧ i < 2 ^ 63 ∧ Q .non (upd H l (.lst (xs.take i.toNat ++ [y] ++ xs.drop i.toNat)))
theorem m_insert {X : Cx} : MtR X "list.insert" rIns := mt_insert
theorem rd_ins {H0 : Hp} (e : Ex W H0 H) (h0 : H0 a = none) (h : At W H a (.lst xs)) (hl : xs.length < 1000000) (i0 : 0 ≤ i) (i1 : i ≤ 1000000) (k : ∀ H2, Ex W H0 H2 → At W H2 a (.lst (xs.take i.toNat ++ [v] ++ xs.drop i.toNat)) → (∀ q o, q ≠ a → At W H q o → At W H2 q o) → Q .non H2) : rIns (.ref a) [.int i, v] H Q :=
  ⟨a, xs, i, v, rfl, rfl, h.1, sz_lt hl, i0, by omega, k _ (e.mut h0 h) (.mut e.iv h) fun _ _ ne q => .other e.iv h q ne⟩
theorem rd_dsetS {kvs : List (Key × V)} {H0 : Hp} (e : Ex W H0 H) (h0 : H0 a = none) (h : At W H a (.dK kvs)) (hl : kvs.length < 1000000) (k1 : ∀ u, valV kvs (.inr s) = some u → Q u H) (k2 : valV kvs (.inr s) = none → ∀ H2, Ex W H0 H2 → At W H2 a (.dK (putK kvs (.inr s) v)) → (∀ q o, q ≠ a → At W H q o → At W H2 q o) → Q v H2) :
    DSetG Q a (.str s) v H := ⟨kvs, .inr s, h.1, rfl, sz_lt hl, k1, fun n => k2 n _ (e.mut h0 h) (.mut e.iv h) fun _ _ ne q => .other e.iv h q ne⟩
theorem rd_dninS {kvs : List (Key × V)} (h : At W H a (.dK kvs)) (k : Q (.bl (!(valV kvs (.inr s)).isSome)) H) : DInG Q true (.ref a) (.str s) H := ⟨a, _, rfl, DGet.k (k := .inr s) h.1, k⟩
/-- d[k] -/
def DIxG (Q : VK) (x : V) (y : V) (H : Hp) : Prop := ∃ a v, x = .ref a ∧ DGet H a y (some v) ∧ Q v H
theorem rd_dget (h : ta σ H fun x H1 => te σ H1 fun y H2 => DIxG Q x y H2) : tDGet ta te σ H Q := h
theorem rd_dgetX {kvs : List (Key × V)} (h : At W H a (.dK kvs)) (e : valV kvs (.inr s) = some v) (k : Q v H) : DIxG Q (.ref a) (.str s) H := ⟨a, v, rfl, by rw [← e]; exact DGet.k (k := .inr s) h.1, k⟩
theorem rd_dgetXi {kvs : List (Key × V)} (h : At W H a (.dK kvs)) (e : valV kvs (.inl i) = some v) (k : Q v H) : DIxG Q (.ref a) (.int i) H := ⟨a, v, rfl, by rw [← e]; exact DGet.k (k := .inl i) h.1, k⟩
/-- int(text) of digits -/
def rIntS : List V → Hp → VK → Prop := fun xs H Q => ∃ a n, xs = [.str a] ∧ PySem.intText? a = some n ∧ a.length ≤ 640 ∧ Q (.int n) H
theorem c_intS {X : Cx} : CallR X (.type "int") rIntS := call_int_str
theorem rd_intS (h : ∀ c ∈ s.cps.toList, 48 ≤ c ∧ c ≤ 57) (h1 : s.cps.toList ≠ []) (h2 : s.length ≤ 640) (k : Q (.int ((s.cps.toList.foldl (fun (acc : Nat) c => acc * 10 + (c - 48)) 0 : Nat) : Int)) H) : rIntS [.str s] H Q :=
  ⟨s, _, rfl, PySem.intText_digits h h1 (Nat.le_trans h2 (by decide)), h2, k⟩
end
end Lw

namespace K03
open PySem L2 Lw TL
def top (i : Nat) : Stmt := PySem.Challenge.pw_capstead_k03_assemble_first_fault.main.body.getD i (.Pass ⟨0, 0, 0, 0⟩)

abbrev s_is_integer : Stmt := top 10
abbrev N_is_integer : List Str := ["value"]
theorem sc_is_integer : FnScope N_is_integer ["value"] (defScope s_is_integer) := ⟨rfl, rfl, rfl, by decide +kernel, rfl, by decide +kernel, by decide +kernel⟩
abbrev s_bound : Stmt := top 19
abbrev N_bound : List Str := ["role", "length"]
theorem sc_bound : FnScope N_bound ["role", "length"] (defScope s_bound) := ⟨rfl, rfl, rfl, by decide +kernel, rfl, by decide +kernel, by decide +kernel⟩
abbrev s_fits : Stmt := top 20
abbrev N_fits : List Str := ["part", "role", "length"]
theorem sc_fits : FnScope N_fits ["part", "role", "length"] (defScope s_fits) := ⟨rfl, rfl, rfl, by decide +kernel, rfl, by decide +kernel, by decide +kernel⟩
abbrev s_is_label : Stmt := top 21
abbrev N_is_label : List Str := ["word", "sign"]
theorem sc_is_label : FnScope N_is_label ["word"] (defScope s_is_label) := ⟨rfl, rfl, rfl, by decide +kernel, rfl, by decide +kernel, by decide +kernel⟩
abbrev s_label_in : Stmt := top 22
abbrev N_label_in : List Str := ["line"]
theorem sc_label_in : FnScope N_label_in ["line"] (defScope s_label_in) := ⟨rfl, rfl, rfl, by decide +kernel, rfl, by decide +kernel, by decide +kernel⟩
abbrev s_is_ignored : Stmt := top 23
abbrev N_is_ignored : List Str := ["line"]
theorem sc_is_ignored : FnScope N_is_ignored ["line"] (defScope s_is_ignored) := ⟨rfl, rfl, rfl, by decide +kernel, rfl, by decide +kernel, by decide +kernel⟩
abbrev s_number_in : Stmt := top 24
abbrev N_number_in : List Str := ["word", "number", "sign", "digit"]
theorem sc_number_in : FnScope N_number_in ["word"] (defScope s_number_in) := ⟨rfl, rfl, rfl, by decide +kernel, rfl, by decide +kernel, by decide +kernel⟩
abbrev s_part_in : Stmt := top 25
abbrev N_part_in : List Str := ["word", "role", "labels", "number"]
theorem sc_part_in : FnScope N_part_in ["word", "role", "labels"] (defScope s_part_in) := ⟨rfl, rfl, rfl, by decide +kernel, rfl, by decide +kernel, by decide +kernel⟩
abbrev s_instruction_in : Stmt := top 26
abbrev N_instruction_in : List Str := ["line", "labels", "parts", "name", "roles", "instruction", "at", "role", "part"]
theorem sc_instruction_in : FnScope N_instruction_in ["line", "labels"] (defScope s_instruction_in) := ⟨rfl, rfl, rfl, by decide +kernel, rfl, by decide +kernel, by decide +kernel⟩
abbrev s_labels_given : Stmt := top 27
abbrev N_labels_given : List Str := ["lines", "labels", "index", "line", "label"]
theorem sc_labels_given : FnScope N_labels_given ["lines"] (defScope s_labels_given) := ⟨rfl, rfl, rfl, by decide +kernel, rfl, by decide +kernel, by decide +kernel⟩
abbrev s_last_instruction : Stmt := top 28
abbrev N_last_instruction : List Str := ["lines", "last", "number", "line"]
theorem sc_last_instruction : FnScope N_last_instruction ["lines"] (defScope s_last_instruction) := ⟨rfl, rfl, rfl, by decide +kernel, rfl, by decide +kernel, by decide +kernel⟩
abbrev s_assemble : Stmt := top 29
abbrev N_assemble : List Str := ["text", "lines", "labels", "last", "met", "program", "number", "line", "label", "instruction"]
theorem sc_assemble : FnScope N_assemble ["text"] (defScope s_assemble) := ⟨rfl, rfl, rfl, by decide +kernel, rfl, by decide +kernel, by decide +kernel⟩
abbrev s_law_pool : Stmt := top 31
abbrev N_law_pool : List Str := ["script", "limit", "cells", "cell"]
theorem sc_law_pool : FnScope N_law_pool ["script"] (defScope s_law_pool) := ⟨rfl, rfl, rfl, by decide +kernel, rfl, by decide +kernel, by decide +kernel⟩
abbrev s_law_draw : Stmt := top 32
abbrev N_law_draw : List Str := ["pool", "many", "cell", "told", "mixed"]
theorem sc_law_draw : FnScope N_law_draw ["pool", "many"] (defScope s_law_draw) := ⟨rfl, rfl, rfl, by decide +kernel, rfl, by decide +kernel, by decide +kernel⟩
abbrev s_law_is_integer : Stmt := top 33
abbrev N_law_is_integer : List Str := ["thing"]
theorem sc_law_is_integer : FnScope N_law_is_integer ["thing"] (defScope s_law_is_integer) := ⟨rfl, rfl, rfl, by decide +kernel, rfl, by decide +kernel, by decide +kernel⟩
abbrev s_law_deeds : Stmt := top 34
abbrev N_law_deeds : List Str := ["deeds"]
theorem sc_law_deeds : FnScope N_law_deeds [] (defScope s_law_deeds) := ⟨rfl, rfl, rfl, by decide +kernel, rfl, by decide +kernel, by decide +kernel⟩
abbrev s_law_signs : Stmt := top 35
abbrev N_law_signs : List Str := ["signs"]
theorem sc_law_signs : FnScope N_law_signs [] (defScope s_law_signs) := ⟨rfl, rfl, rfl, by decide +kernel, rfl, by decide +kernel, by decide +kernel⟩
abbrev s_law_same_row : Stmt := top 36
abbrev N_law_same_row : List Str := ["told", "due", "k"]
theorem sc_law_same_row : FnScope N_law_same_row ["told", "due"] (defScope s_law_same_row) := ⟨rfl, rfl, rfl, by decide +kernel, rfl, by decide +kernel, by decide +kernel⟩
abbrev s_law_same_program : Stmt := top 37
abbrev N_law_same_program : List Str := ["told", "due", "k"]
theorem sc_law_same_program : FnScope N_law_same_program ["told", "due"] (defScope s_law_same_program) := ⟨rfl, rfl, rfl, by decide +kernel, rfl, by decide +kernel, by decide +kernel⟩
abbrev s_law_label : Stmt := top 38
abbrev N_law_label : List Str := ["pool", "used", "letters", "label", "k", "free", "word"]
theorem sc_law_label : FnScope N_law_label ["pool", "used"] (defScope s_law_label) := ⟨rfl, rfl, rfl, by decide +kernel, rfl, by decide +kernel, by decide +kernel⟩
abbrev s_law_read_number : Stmt := top 39
abbrev N_law_read_number : List Str := ["word", "bound", "sign", "number"]
theorem sc_law_read_number : FnScope N_law_read_number ["word", "bound"] (defScope s_law_read_number) := ⟨rfl, rfl, rfl, by decide +kernel, rfl, by decide +kernel, by decide +kernel⟩
abbrev s_law_is_label : Stmt := top 40
abbrev N_law_is_label : List Str := ["word", "letters", "sign"]
theorem sc_law_is_label : FnScope N_law_is_label ["word"] (defScope s_law_is_label) := ⟨rfl, rfl, rfl, by decide +kernel, rfl, by decide +kernel, by decide +kernel⟩
abbrev s_law_read_instruction : Stmt := top 41
abbrev N_law_read_instruction : List Str := ["words", "name", "number", "last"]
theorem sc_law_read_instruction : FnScope N_law_read_instruction ["words"] (defScope s_law_read_instruction) := ⟨rfl, rfl, rfl, by decide +kernel, rfl, by decide +kernel, by decide +kernel⟩
abbrev s_law_form : Stmt := top 42
abbrev N_law_form : List Str := ["line", "item"]
theorem sc_law_form : FnScope N_law_form ["line"] (defScope s_law_form) := ⟨rfl, rfl, rfl, by decide +kernel, rfl, by decide +kernel, by decide +kernel⟩
abbrev s_law_forms : Stmt := top 43
abbrev N_law_forms : List Str := ["text", "known", "forms", "line"]
theorem sc_law_forms : FnScope N_law_forms ["text"] (defScope s_law_forms) := ⟨rfl, rfl, rfl, by decide +kernel, rfl, by decide +kernel, by decide +kernel⟩
abbrev s_law_given : Stmt := top 44
abbrev N_law_given : List Str := ["forms", "given", "count", "form"]
theorem sc_law_given : FnScope N_law_given ["forms"] (defScope s_law_given) := ⟨rfl, rfl, rfl, by decide +kernel, rfl, by decide +kernel, by decide +kernel⟩
abbrev s_law_due : Stmt := top 45
abbrev N_law_due : List Str := ["text", "forms", "given", "last", "k", "seen", "items", "form", "item"]
theorem sc_law_due : FnScope N_law_due ["text"] (defScope s_law_due) := ⟨rfl, rfl, rfl, by decide +kernel, rfl, by decide +kernel, by decide +kernel⟩
abbrev s_law_holds : Stmt := top 46
abbrev N_law_holds : List Str := ["text", "due", "told", "e", "stands", "apart"]
theorem sc_law_holds : FnScope N_law_holds ["text"] (defScope s_law_holds) := ⟨rfl, rfl, rfl, by decide +kernel, rfl, by decide +kernel, by decide +kernel⟩
abbrev s_law_number_word : Stmt := top 47
abbrev N_law_number_word : List Str := ["pool", "bound", "number", "right", "menu"]
theorem sc_law_number_word : FnScope N_law_number_word ["pool", "bound"] (defScope s_law_number_word) := ⟨rfl, rfl, rfl, by decide +kernel, rfl, by decide +kernel, by decide +kernel⟩
abbrev s_law_odd_label : Stmt := top 48
abbrev N_law_odd_label : List Str := ["pool", "names", "odd"]
theorem sc_law_odd_label : FnScope N_law_odd_label ["pool", "names"] (defScope s_law_odd_label) := ⟨rfl, rfl, rfl, by decide +kernel, rfl, by decide +kernel, by decide +kernel⟩
abbrev s_law_odd_line : Stmt := top 49
abbrev N_law_odd_line : List Str := ["pool", "names", "way", "deed", "menu", "name", "bound"]
theorem sc_law_odd_line : FnScope N_law_odd_line ["pool", "names"] (defScope s_law_odd_line) := ⟨rfl, rfl, rfl, by decide +kernel, rfl, by decide +kernel, by decide +kernel⟩
abbrev s_law_right_line : Stmt := top 50
abbrev N_law_right_line : List Str := ["pool", "names", "kinds", "name", "number"]
theorem sc_law_right_line : FnScope N_law_right_line ["pool", "names"] (defScope s_law_right_line) := ⟨rfl, rfl, rfl, by decide +kernel, rfl, by decide +kernel, by decide +kernel⟩
abbrev s_law_lines : Stmt := top 51
abbrev N_law_lines : List Str := ["pool", "names", "lines", "more", "name", "k", "place"]
theorem sc_law_lines : FnScope N_law_lines ["pool", "names"] (defScope s_law_lines) := ⟨rfl, rfl, rfl, by decide +kernel, rfl, by decide +kernel, by decide +kernel⟩
abbrev s_law_sign_changed : Stmt := top 52
abbrev N_law_sign_changed : List Str := ["pool", "text", "signs", "sign", "place", "way"]
theorem sc_law_sign_changed : FnScope N_law_sign_changed ["pool", "text"] (defScope s_law_sign_changed) := ⟨rfl, rfl, rfl, by decide +kernel, rfl, by decide +kernel, by decide +kernel⟩
abbrev s_law_changed : Stmt := top 53
abbrev N_law_changed : List Str := ["pool", "lines", "names", "way", "name", "place", "ends", "line"]
theorem sc_law_changed : FnScope N_law_changed ["pool", "lines", "names"] (defScope s_law_changed) := ⟨rfl, rfl, rfl, by decide +kernel, rfl, by decide +kernel, by decide +kernel⟩
abbrev s_law : Stmt := top 54
abbrev N_law : List Str := ["script", "pool", "names", "k", "lines"]
theorem sc_law : FnScope N_law ["script"] (defScope s_law) := ⟨rfl, rfl, rfl, by decide +kernel, rfl, by decide +kernel, by decide +kernel⟩

/-! ### texts -/
theorem ends1 (x : Str) (c : Nat) : Txt.endswith x ⟨#[c]⟩ = decide ((tl x).getLast? = some c) := by
  unfold Txt.endswith
  rw [Bool.eq_iff_iff, Bool.and_eq_true, decide_eq_true_eq, decide_eq_true_eq]
  have hl : (⟨#[c]⟩ : Str).length = 1 := rfl
  have hx : x.length = (tl x).length := len_tl x
  rw [hl, List.getLast?_eq_getElem?]
  constructor
  · rintro ⟨h1, h2⟩
    have := (StrLaws.subAt_one x c (x.length - 1)).mp ⟨by rw [hl]; omega, h2⟩
    rw [hx] at this; exact this
  · intro h
    rw [← hx] at h
    have := (StrLaws.subAt_one x c (x.length - 1)).mpr h
    rw [hl] at this
    exact ⟨by omega, this.2⟩
theorem starts1 (x : Str) (c : Nat) : Txt.startswith x ⟨#[c]⟩ = decide ((tl x).head? = some c) := by
  unfold Txt.startswith
  rw [Bool.eq_iff_iff, Bool.and_eq_true, decide_eq_true_eq, decide_eq_true_eq]
  have hl : (⟨#[c]⟩ : Str).length = 1 := rfl
  rw [hl, List.head?_eq_getElem?]
  constructor
  · rintro ⟨h1, h2⟩
    exact (StrLaws.subAt_one x c 0).mp ⟨h1, h2⟩
  · intro h
    exact (StrLaws.subAt_one x c 0).mpr h
theorem tl_butlast (s : Str) : tl (cutS s none (some (-1))) = (tl s).dropLast := by
  show ((tl s).drop (HT.sIx s.length 0 none)).take (HT.sIx s.length s.length (some (-1)) - HT.sIx s.length 0 none) = _
  rw [HT.sIx_none, List.drop_zero, List.dropLast_eq_take, len_tl]
  congr 1
  simp [HT.sIx]
  omega
def sm (c : Nat) : Bool := decide (97 ≤ c ∧ c ≤ 122)
def dg (c : Nat) : Bool := decide (48 ≤ c ∧ c ≤ 57)
theorem mem_run (a n c : Nat) : c ∈ (List.range n).map (a + ·) ↔ a ≤ c ∧ c < a + n := by
  rw [List.mem_map]
  constructor
  · rintro ⟨k, hk, rfl⟩
    have := List.mem_range.mp hk
    omega
  · intro h
    exact ⟨c - a, List.mem_range.mpr (by omega), by omega⟩
theorem small_run : ("abcdefghijklmnopqrstuvwxyz" : Str).cps.toList = (List.range 26).map (97 + ·) := by decide +kernel
theorem dig_run : ("0123456789" : Str).cps.toList = (List.range 10).map (48 + ·) := by decide +kernel
theorem small_mem (c : Nat) : decide (c ∈ ("abcdefghijklmnopqrstuvwxyz" : Str).cps.toList) = sm c := by
  unfold sm
  rw [small_run, decide_eq_decide, mem_run]
  omega
theorem dig_mem (c : Nat) : decide (c ∈ ("0123456789" : Str).cps.toList) = dg c := by
  unfold dg
  rw [dig_run, decide_eq_decide, mem_run]
  omega
def isL (s : Str) : Bool := match tl s with
  | [] => false
  | c :: r => decide (r.length ≤ 7) && (sm c && (c :: r).all fun c => sm c || dg c)
theorem isL_of {s : Str} (h : isL s = true) : ∃ c r, tl s = c :: r ∧ r.length ≤ 7 ∧ sm c = true ∧ ∀ x ∈ tl s, (sm x || dg x) = true := by
  unfold isL at h
  cases e : tl s with
  | nil => rw [e] at h; cases h
  | cons c r =>
    rw [e] at h
    have h1 := (Bool.and_eq_true _ _).mp h
    have h2 := (Bool.and_eq_true _ _).mp h1.2
    exact ⟨c, r, rfl, of_decide_eq_true h1.1, h2.1, List.all_eq_true.mp h2.2⟩
theorem isL_mk {s : Str} {c : Nat} {r : List Nat} (e : tl s = c :: r) (h1 : r.length ≤ 7) (h2 : sm c = true) (h3 : ∀ x ∈ tl s, (sm x || dg x) = true) : isL s = true := by
  unfold isL
  rw [e]
  rw [e] at h3
  show (decide _ && (sm c && _)) = true
  rw [decide_eq_true h1, h2, List.all_eq_true.mpr h3]
  rfl
def labF (s : Str) : Str := if (Txt.endswith s ":" && isL (cutS s none (some (-1)))) = true then cutS s none (some (-1)) else ""
def ignF (s : Str) : Bool := decide (s = "") || Txt.startswith s "#"
theorem colon : (":" : Str) = ⟨#[58]⟩ := by decide +kernel
theorem hash : ("#" : Str) = ⟨#[35]⟩ := by decide +kernel
theorem tl_nil : tl ("" : Str) = [] := rfl
theorem nil_iff (s : Str) : s = "" ↔ tl s = [] := ⟨fun e => by rw [e]; rfl, fun e => ext_tl e⟩
theorem sm_ne {c : Nat} (h : sm c = true) : c ≠ 35 ∧ c ≠ 58 ∧ c ≠ 10 ∧ c ≠ 32 := by
  have := of_decide_eq_true h
  omega
theorem wd_ne {c : Nat} (h : (sm c || dg c) = true) : c ≠ 35 ∧ c ≠ 58 ∧ c ≠ 10 ∧ c ≠ 32 := by
  unfold sm dg at h
  simp only [Bool.or_eq_true, decide_eq_true_eq] at h
  omega
theorem tl_lb (l : Str) : tl (l ++ ":") = tl l ++ [58] := by rw [tl_append]; rfl
theorem lab_lb {l : Str} (h : isL l = true) : labF (l ++ ":") = l := by
  have e : cutS (l ++ ":") none (some (-1)) = l := ext_tl (by rw [tl_butlast, tl_lb, List.dropLast_concat])
  unfold labF
  rw [colon, ends1, ← colon, e, h, tl_lb, List.getLast?_concat]
  rfl
theorem ign_lb {l : Str} (h : isL l = true) : ignF (l ++ ":") = false := by
  obtain ⟨c, r, e, _, hc, _⟩ := isL_of h
  unfold ignF
  rw [hash, starts1, decide_eq_false (fun z => by rw [nil_iff, tl_lb] at z; simp at z), decide_eq_false, Bool.or_self]
  rw [tl_lb, e]
  intro z
  exact (sm_ne hc).1 (Option.some.inj z)
theorem isL_ne {l : Str} (h : isL l = true) : l ≠ "" := by
  obtain ⟨c, r, e, _⟩ := isL_of h
  intro z
  rw [nil_iff, e] at z
  cases z
/-- an empty line, a comment -/
theorem ign_ok {g : Str} (h : tl g = [] ∨ ∃ r, tl g = 35 :: r) : ignF g = true ∧ labF g = "" := by
  rcases h with e | ⟨r, e⟩
  · have : g = "" := (nil_iff g).mpr e
    subst this
    exact ⟨by decide +kernel, by decide +kernel⟩
  · refine ⟨?_, ?_⟩
    · unfold ignF
      rw [hash, starts1, e, Bool.or_eq_true]
      exact .inr rfl
    · have q : isL (cutS g none (some (-1))) = false := by
        unfold isL
        rw [tl_butlast, e]
        cases r with
        | nil => rfl
        | cons a r =>
          rw [List.dropLast_cons₂]
          show (_ && (sm 35 && _)) = false
          rw [show sm 35 = false from rfl, Bool.false_and, Bool.and_false]
      unfold labF
      rw [q, Bool.and_false]
      rfl
theorem op_ok {s : Str} {c : Nat} {r : List Nat} (e : tl s = c :: r) (h : c ≠ 35) (h2 : 58 ∉ tl s) : ignF s = false ∧ labF s = "" := by
  refine ⟨?_, ?_⟩
  · unfold ignF
    rw [hash, starts1, e, decide_eq_false (fun z => by rw [nil_iff, e] at z; cases z), decide_eq_false, Bool.or_self]
    intro z
    exact h (Option.some.inj z)
  · unfold labF
    rw [colon, ends1, decide_eq_false, Bool.false_and]
    · rfl
    · intro z
      exact h2 (List.mem_of_getLast? z)
/-! ### numbers -/
theorem numL_len1 {n : Nat} (h : 1 < (numL n).length) : 10 ≤ n := by
  by_cases q : n < 10
  · rw [numL_lt q] at h; simp at h
  · omega
theorem numL_head : ∀ n : Nat, 1 ≤ n → ∃ c r, numL n = c :: r ∧ c ≠ 48 := by
  intro n
  induction n using Nat.strongRecOn with
  | ind n ih =>
    intro h
    by_cases q : n < 10
    · exact ⟨48 + n, [], numL_lt q, by omega⟩
    · obtain ⟨c, r, e, hc⟩ := ih (n / 10) (by omega) (by omega)
      exact ⟨c, r ++ [48 + n % 10], by rw [numL_step (by omega), e]; rfl, hc⟩
theorem find_dig {c : Nat} (h : dg c = true) : Txt.find "0123456789" ⟨#[c]⟩ = ((c : Int) - 48) := by
  have := of_decide_eq_true h
  have q : c = 48 ∨ c = 49 ∨ c = 50 ∨ c = 51 ∨ c = 52 ∨ c = 53 ∨ c = 54 ∨ c = 55 ∨ c = 56 ∨ c = 57 := by omega
  rcases q with rfl | rfl | rfl | rfl | rfl | rfl | rfl | rfl | rfl | rfl <;> decide +kernel
theorem numL_dg {n c : Nat} (h : c ∈ numL n) : dg c = true := by
  have := numL_free (n := n) (s := c)
  unfold dg
  by_cases q : 48 ≤ c ∧ c ≤ 57
  · exact decide_eq_true q
  · exact absurd h (this (by omega))
theorem tl_toString {z : Int} (h : 0 ≤ z) : tl (toString z : Str) = numL z.toNat := by
  have := tl_num z.toNat
  rw [show ((z.toNat : Nat) : Int) = z by omega] at this
  exact this
/-! ### lines -/
def Wrd (p : Str) : Prop := tl p ≠ [] ∧ ∀ c ∈ tl p, (sm c || dg c) = true
theorem Wrd.num {z : Int} (h : 0 ≤ z) : Wrd (toString z : Str) := by
  unfold Wrd
  rw [tl_toString h]
  exact ⟨numL_ne _, fun c hc => by rw [numL_dg hc, Bool.or_true]⟩
theorem Wrd.lab {l : Str} (h : isL l = true) : Wrd l := by
  obtain ⟨c, r, e, _, _, q⟩ := isL_of h
  exact ⟨by rw [e]; simp, q⟩
theorem mem_joinL {S : List Nat} {c : Nat} : ∀ {ps : List (List Nat)}, c ∈ joinL S ps → c ∈ S ∨ ∃ p ∈ ps, c ∈ p
  | [], h => by simp [joinL] at h
  | [p], h => .inr ⟨p, by simp, by simpa [joinL] using h⟩
  | p :: q :: r, h => by
    have h' : c ∈ p ++ (S ++ joinL S (q :: r)) := by simpa [joinL] using h
    rcases List.mem_append.mp h' with a | a
    · exact .inr ⟨p, by simp, a⟩
    · rcases List.mem_append.mp a with b | b
      · exact .inl b
      · rcases mem_joinL b with d | ⟨x, hx, hc⟩
        · exact .inl d
        · exact .inr ⟨x, List.mem_cons_of_mem _ hx, hc⟩
theorem head_joinL {S : List Nat} {c : Nat} {r : List Nat} : ∀ (ps : List (List Nat)), ∃ r', joinL S ((c :: r) :: ps) = c :: r'
  | [] => ⟨r, rfl⟩
  | q :: ps => ⟨r ++ (S ++ joinL S (q :: ps)), by simp [joinL]⟩
theorem space : tl (" " : Str) = [32] := by decide +kernel
theorem newl : tl ("\n" : Str) = [10] := by decide +kernel
theorem line_chars {name : Str} {ws : List Str} (hw : ∀ p ∈ name :: ws, Wrd p) {c : Nat} (h : c ∈ tl (Txt.join " " (name :: ws))) : c = 32 ∨ (sm c || dg c) = true := by
  rw [join_eq, tl_join, space] at h
  rcases mem_joinL h with a | ⟨p, hp, hc⟩
  · exact .inl (by simpa using a)
  · obtain ⟨q, hq, rfl⟩ := List.mem_map.mp hp
    exact .inr ((hw q hq).2 c hc)
theorem line_ok {name : Str} {ws : List Str} {c : Nat} {r : List Nat} (e : tl name = c :: r) (hc : sm c = true) (hw : ∀ p ∈ name :: ws, Wrd p) :
    ignF (Txt.join " " (name :: ws)) = false ∧ labF (Txt.join " " (name :: ws)) = "" ∧ 10 ∉ tl (Txt.join " " (name :: ws)) ∧ Txt.split (Txt.join " " (name :: ws)) " " = name :: ws := by
  have q : ∀ z, z ≠ 32 → (∀ c, (sm c || dg c) = true → c ≠ z) → z ∉ tl (Txt.join " " (name :: ws)) := fun z z1 z2 h => by
    rcases line_chars hw h with a | a
    · exact z1 a
    · exact z2 z a rfl
  obtain ⟨r', e'⟩ := head_joinL (S := [32]) (c := c) (r := r) (ws.map tl)
  have e2 : tl (Txt.join " " (name :: ws)) = c :: r' := by rw [join_eq, tl_join, space, List.map_cons, e, e']
  obtain ⟨o1, o2⟩ := op_ok e2 (sm_ne hc).1 (q 58 (by decide) fun c h => (wd_ne h).2.1)
  exact ⟨o1, o2, q 10 (by decide) fun c h => (wd_ne h).2.2.1, split_join space (by decide +kernel) (by simp) fun p hp hm => (wd_ne ((hw p hp).2 32 hm)).2.2.2 rfl⟩

/-! ### labels -/
def GL (n : Nat) (s : Str) : Prop := ∃ c r, tl s = c :: r ∧ r.length ≤ n ∧ sm c = true ∧ ∀ x ∈ tl s, (sm x || dg x) = true
theorem GL.isL {s : Str} (h : GL 7 s) : isL s = true := let ⟨_, _, e, a, b, c⟩ := h; isL_mk e a b c
theorem GL.len {n : Nat} {s : Str} (h : GL n s) : s.length ≤ n + 1 := by
  obtain ⟨c, r, e, a, _⟩ := h
  rw [len_tl, e, List.length_cons]
  omega
theorem GL.mono {m n : Nat} {s : Str} (h : GL m s) (q : m ≤ n) : GL n s := let ⟨c, r, e, a, b, d⟩ := h; ⟨c, r, e, Nat.le_trans a q, b, d⟩
theorem GL.one {c : Nat} (h : sm c = true) : GL 0 ⟨#[c]⟩ := ⟨c, [], rfl, Nat.le_refl _, h, fun x hx => by
  have : x = c := by simpa using hx
  rw [this, h]; rfl⟩
theorem GL.add {n : Nat} {s : Str} {c : Nat} (h : GL n s) (hc : (sm c || dg c) = true) : GL (n + 1) (s ++ ⟨#[c]⟩) := by
  obtain ⟨c0, r, e, a, b, d⟩ := h
  refine ⟨c0, r ++ [c], by rw [tl_append, e]; rfl, by rw [List.length_append]; exact Nat.succ_le_succ a, b, fun x hx => ?_⟩
  rw [tl_append] at hx
  rcases List.mem_append.mp hx with q | q
  · exact d x q
  · have : x = c := by simpa using q
    rw [this]; exact hc
theorem letter_at {r : Int} (h0 : 0 ≤ r) (h1 : r < 26) : ∃ c, atI ("abcdefghijklmnopqrstuvwxyz" : Str).cps.toList r = some c ∧ sm c = true := by
  refine ⟨97 + r.toNat, at_inG h0 ?_, decide_eq_true (by omega)⟩
  rw [small_run, List.getElem?_map, List.getElem?_range (by omega)]
  rfl
theorem sign_at {r : Int} (h0 : 0 ≤ r) (h1 : r < 36) : ∃ c, atI (("abcdefghijklmnopqrstuvwxyz" : Str) ++ "0123456789").cps.toList r = some c ∧ (sm c || dg c) = true := by
  have e : (("abcdefghijklmnopqrstuvwxyz" : Str) ++ "0123456789").cps.toList = (List.range 26).map (97 + ·) ++ (List.range 10).map (48 + ·) := by decide +kernel
  by_cases q : r < 26
  · refine ⟨97 + r.toNat, at_inG h0 ?_, by unfold sm; rw [decide_eq_true (by omega)]; rfl⟩
    rw [e, List.getElem?_append_left (by simp; omega), List.getElem?_map, List.getElem?_range (by omega)]
    rfl
  · refine ⟨48 + (r.toNat - 26), at_inG h0 ?_, by unfold dg; rw [decide_eq_true (p := 48 ≤ 48 + (r.toNat - 26) ∧ 48 + (r.toNat - 26) ≤ 57) (by omega), Bool.or_true]⟩
    rw [e, List.getElem?_append_right (by simp; omega), List.length_map, List.length_range, List.getElem?_map, List.getElem?_range (by omega)]
    rfl
theorem tl_cutTo (s : Str) (n : Nat) : tl (cutS s none (some (n : Int))) = (tl s).take n := by
  show ((tl s).drop (HT.sIx s.length 0 none)).take (HT.sIx s.length s.length (some (n : Int)) - HT.sIx s.length 0 none) = _
  rw [HT.sIx_none, List.drop_zero, HT.sIx_nat, len_tl, Nat.sub_zero, ← List.take_eq_take_min]
theorem GL.cut {s : Str} (h : GL 7 s) {k : Nat} (hk : k < 100) : GL 7 (cutS s none (some 6) ++ (toString (k : Int) : Str)) := by
  obtain ⟨c0, r, e, a, b, d⟩ := h
  have e6 : tl (cutS s none (some 6)) = c0 :: r.take 5 := by
    have := tl_cutTo s 6
    rw [e] at this
    exact this
  have en : tl (toString (k : Int) : Str) = numL k := tl_toString (z := (k : Int)) (by omega)
  have ln : (numL k).length ≤ 2 := numL_len (by decide) hk
  refine ⟨c0, r.take 5 ++ numL k, by rw [tl_append, e6, en]; rfl, by rw [List.length_append, List.length_take]; omega, b, fun x hx => ?_⟩
  rw [tl_append, e6, en] at hx
  rcases List.mem_append.mp hx with q | q
  · refine d x ?_
    rw [e]
    rcases List.mem_cons.mp q with z | z
    · rw [z]; exact List.mem_cons_self ..
    · exact List.mem_cons_of_mem _ (List.mem_of_mem_take z)
  · rw [numL_dg q, Bool.or_true]
theorem cut_inj {l : Str} {j k : Nat} (h : l ++ (toString (j : Int) : Str) = l ++ (toString (k : Int) : Str)) : j = k := by
  have q := congrArg tl h
  rw [tl_append, tl_append, tl_toString (z := (j : Int)) (by omega), tl_toString (z := (k : Int)) (by omega)] at q
  exact numL_inj (List.append_cancel_left q)
theorem pigeon {α : Type} [DecidableEq α] : ∀ (xs us : List α), xs.Nodup → (∀ x ∈ xs, x ∈ us) → xs.length ≤ us.length
  | [], _, _, _ => Nat.zero_le _
  | x :: xs, us, hn, h => by
    have hn' := List.nodup_cons.mp hn
    have q := pigeon xs (us.erase x) hn'.2 fun y hy => (List.mem_erase_of_ne (fun e : y = x => hn'.1 (e ▸ hy))).mpr (h y (List.mem_cons_of_mem _ hy))
    have hx := h x (List.mem_cons_self ..)
    rw [List.length_erase_of_mem hx] at q
    have := List.length_pos_of_mem hx
    rw [List.length_cons]
    omega
theorem inV_str (l : Str) (us : List Str) : inV (.str l) (us.map V.str) = decide (l ∈ us) := by
  rw [Bool.eq_iff_iff, decide_eq_true_eq]
  unfold inV
  rw [List.any_map, List.any_eq_true]
  constructor
  · rintro ⟨x, hx, e⟩
    have : l = x ∨ x = l := by
      have e' : (x == l) = true ∨ (l == x) = true := by first | exact .inl e | exact .inr e
      rcases e' with q | q
      · exact .inr (by simpa using q)
      · exact .inl (by simpa using q)
    rcases this with rfl | rfl <;> exact hx
  · intro h
    exact ⟨l, h, by show (l == l) = true; simp⟩
/-- 60 words, at most 40 used -/
theorem some_free {l : Str} {us : List Str} (h : us.length ≤ 40) : ∃ k, k < 60 ∧ (l ++ (toString ((k : Nat) : Int) : Str)) ∉ us := by
  by_cases q : ∃ k, k < 60 ∧ (l ++ (toString ((k : Nat) : Int) : Str)) ∉ us
  · exact q
  · exfalso
    have a : ∀ x ∈ (List.range 60).map (fun k : Nat => l ++ (toString (k : Int) : Str)), x ∈ us := fun x hx => by
      obtain ⟨k, hk, rfl⟩ := List.mem_map.mp hx
      by_cases z : (l ++ (toString ((k : Nat) : Int) : Str)) ∈ us
      · exact z
      · exact absurd ⟨k, List.mem_range.mp hk, z⟩ q
    have n : ((List.range 60).map (fun k : Nat => l ++ (toString (k : Int) : Str))).Nodup := List.Pairwise.map _ (fun a b h e => h (cut_inj e)) List.nodup_range
    have := pigeon _ us n a
    rw [List.length_map, List.length_range] at this
    omega

/-! ### instructions -/
inductive It where
  | deed (d : Str) | jump (t : Int) | zero (r t : Int) | set (r w : Int) | two (n : Str) (r q : Int)
def It.name : It → Str
  | .deed _ => "deed" | .jump _ => "jump" | .zero _ _ => "zero" | .set _ _ => "set" | .two n _ _ => n
def It.vals : It → List V
  | .deed d => [.str d] | .jump t => [.int t] | .zero r t => [.int r, .int t] | .set r w => [.int r, .int w] | .two _ r q => [.int r, .int q]
def It.row (x : It) : List V := .str x.name :: x.vals
def It.tg : It → List Int
  | .jump t => [t] | .zero _ t => [t] | _ => []
def It.sh (place more : Int) : It → It
  | .jump t => .jump (if place ≤ t then t + more else t) | .zero r t => .zero r (if place ≤ t then t + more else t) | x => x
def DL : List V := [.str "halt", .str "until", .str "clock", .str "look", .str "claim", .str "free", .str "copy", .str "drop", .str "revoke", .str "map", .str "unmap", .str "send", .str "take", .str "trysend", .str "trytake", .str "call", .str "reply", .str "ring", .str "await", .str "tryawait", .str "ack", .str "give", .str "pull"]
def Two (m : Str) : Prop := m = "move" ∨ m = "add" ∨ m = "sub" ∨ m = "load" ∨ m = "store"
def It.Ok (n : Int) : It → Prop
  | .deed d => V.str d ∈ DL | .jump t => 0 ≤ t ∧ t < n | .zero r t => (0 ≤ r ∧ r < 8) ∧ 0 ≤ t ∧ t < n | .set r w => (0 ≤ r ∧ r < 8) ∧ 0 ≤ w ∧ w < 1048576
  | .two m r q => Two m ∧ (0 ≤ r ∧ r < 8) ∧ 0 ≤ q ∧ q < 8
theorem It.sh_name (p m : Int) (x : It) : (x.sh p m).name = x.name := by cases x <;> rfl
inductive F2 {α β : Type} (R : α → β → Prop) : List α → List β → Prop
  | nil : F2 R [] []
  | cons {x : α} {y : β} {xs : List α} {ys : List β} : R x y → F2 R xs ys → F2 R (x :: xs) (y :: ys)
namespace F2
variable {α β : Type} {R S : α → β → Prop}
theorem length : ∀ {xs : List α} {ys : List β}, F2 R xs ys → xs.length = ys.length
  | _, _, .nil => rfl
  | _, _, .cons _ t => by rw [List.length_cons, List.length_cons, t.length]
theorem mono (f : ∀ x y, R x y → S x y) : ∀ {xs : List α} {ys : List β}, F2 R xs ys → F2 S xs ys
  | _, _, .nil => .nil
  | _, _, .cons a t => .cons (f _ _ a) (t.mono f)
theorem append {us : List α} {vs : List β} (h : F2 R us vs) : ∀ {xs : List α} {ys : List β}, F2 R xs ys → F2 R (xs ++ us) (ys ++ vs)
  | _, _, .nil => h
  | _, _, .cons a t => .cons a (append h t)
theorem get : ∀ {xs : List α} {ys : List β} {n : Nat} {x : α}, F2 R xs ys → xs[n]? = some x → ∃ y, ys[n]? = some y ∧ R x y
  | _, _, _, _, .nil, e => by simp at e
  | _, _, 0, _, .cons a _, e => by simp at e; subst e; exact ⟨_, rfl, a⟩
  | _, _, n + 1, _, .cons _ t, e => t.get (n := n) (by simpa using e)
theorem getR : ∀ {xs : List α} {ys : List β} {n : Nat} {y : β}, F2 R xs ys → ys[n]? = some y → ∃ x, xs[n]? = some x ∧ R x y
  | _, _, _, _, .nil, e => by simp at e
  | _, _, 0, _, .cons a _, e => by simp at e; subst e; exact ⟨_, rfl, a⟩
  | _, _, n + 1, _, .cons _ t, e => t.getR (n := n) (by simpa using e)
theorem mem : ∀ {xs : List α} {ys : List β} {x : α}, F2 R xs ys → x ∈ xs → ∃ y ∈ ys, R x y
  | _, _, _, .nil, h => by cases h
  | _, _, x, .cons a t, h => by
    rcases List.mem_cons.mp h with rfl | h
    · exact ⟨_, List.mem_cons_self .., a⟩
    · obtain ⟨y, hy, r⟩ := t.mem h
      exact ⟨y, List.mem_cons_of_mem _ hy, r⟩
theorem rep {x : α} {y : β} (h : R x y) : ∀ n, F2 R (List.replicate n x) (List.replicate n y)
  | 0 => .nil
  | n + 1 => .cons h (rep h n)
theorem mapEq {γ : Type} {f : α → γ} {g : β → γ} (h : ∀ x y, R x y → f x = g y) : ∀ {xs : List α} {ys : List β}, F2 R xs ys → xs.map f = ys.map g
  | _, _, .nil => rfl
  | _, _, .cons a t => by rw [List.map_cons, List.map_cons, h _ _ a, t.mapEq h]
end F2

/-! ### instructions, judged -/
def names9 : List Str := ["set", "move", "add", "sub", "load", "store", "jump", "zero", "deed"]
def rolesF (n : Str) : List Str := if n = "set" then ["register", "word"] else if n = "jump" then ["target"] else if n = "zero" then ["register", "target"] else if n = "deed" then ["deed"] else ["register", "register"]
def boundF (role : Str) (n : Int) : Int := if role = "register" then 8 else if role = "word" then 1048576 else n
abbrev isI : V → Bool
  | .int _ => true | _ => false
def fitF (v : V) (r : Str) (n : Int) : Bool := if r = "deed" then (match v with | .str s => inV (.str s) DL | _ => false) else (match v with | .int i => decide (0 ≤ i ∧ i < boundF r n) | _ => false)
def fitsF : List V → List Str → Int → Bool
  | v :: vs, r :: rs, n => fitF v r n && fitsF vs rs n
  | [], [], _ => true
  | _, _, _ => false
def isIns : List V → Int → Bool
  | .str nm :: vs, n => decide (nm ∈ names9) && fitsF vs (rolesF nm) n
  | _, _ => false
theorem fitsF_len : ∀ {vs : List V} {rs : List Str} {n : Int}, fitsF vs rs n = true → vs.length = rs.length
  | [], [], _, _ => rfl
  | _ :: _, [], _, h => nomatch h
  | [], _ :: _, _, h => nomatch h
  | v :: vs, r :: rs, n, h => by
    rw [fitsF, Bool.and_eq_true] at h
    rw [List.length_cons, List.length_cons, fitsF_len h.2]
theorem fitsF_ne {vs : List V} {rs : List Str} {n : Int} (h : vs.length ≠ rs.length) : fitsF vs rs n = false := by
  cases e : fitsF vs rs n with
  | false => rfl
  | true => exact absurd (fitsF_len e) h
/-- by the places -/
theorem fitsF_iff {n : Int} : ∀ {vs : List V} {rs : List Str}, vs.length = rs.length → (fitsF vs rs n = true ↔ ∀ (i : Nat) v r, vs[i]? = some v → rs[i]? = some r → fitF v r n = true)
  | [], [], _ => ⟨fun _ i v r h => by simp at h, fun _ => rfl⟩
  | v :: vs, r :: rs, h => by
    have ih := fitsF_iff (n := n) (vs := vs) (rs := rs) (by simpa using h)
    rw [fitsF, Bool.and_eq_true, ih]
    constructor
    · rintro ⟨h1, h2⟩ i v' r' e1 e2
      cases i with
      | zero => simp at e1 e2; subst e1 e2; exact h1
      | succ i => exact h2 i v' r' (by simpa using e1) (by simpa using e2)
    · intro h
      exact ⟨h 0 v r rfl rfl, fun i v' r' e1 e2 => h (i + 1) v' r' (by simpa using e1) (by simpa using e2)⟩
  | [], _ :: _, h => by simp at h
  | _ :: _, [], h => by simp at h
theorem DL_in {d : Str} (h : V.str d ∈ DL) : inV (.str d) DL = true := List.any_eq_true.mpr ⟨_, h, by show (d == d) = true; simp⟩
theorem ok_isIns {n : Int} {it : It} (h : it.Ok n) : isIns it.row n = true := by
  cases it with
  | deed d =>
    show (decide (("deed" : Str) ∈ names9) && (fitF (.str d) "deed" n && true)) = true
    rw [show fitF (.str d) "deed" n = true from DL_in h]
    decide
  | jump t =>
    show (decide (("jump" : Str) ∈ names9) && (fitF (.int t) "target" n && true)) = true
    rw [show fitF (.int t) "target" n = true from decide_eq_true h]
    decide
  | zero r t =>
    show (decide (("zero" : Str) ∈ names9) && (fitF (.int r) "register" n && (fitF (.int t) "target" n && true))) = true
    rw [show fitF (.int r) "register" n = true from decide_eq_true h.1, show fitF (.int t) "target" n = true from decide_eq_true h.2]
    decide
  | set r w =>
    show (decide (("set" : Str) ∈ names9) && (fitF (.int r) "register" n && (fitF (.int w) "word" n && true))) = true
    rw [show fitF (.int r) "register" n = true from decide_eq_true h.1, show fitF (.int w) "word" n = true from decide_eq_true h.2]
    decide
  | two m r q =>
    obtain ⟨hm, h1, h2⟩ := h
    have e1 : fitF (.int r) "register" n = true := decide_eq_true h1
    have e2 : fitF (.int q) "register" n = true := decide_eq_true h2
    have key : fitsF [.int r, .int q] ["register", "register"] n = true := by
      rw [fitsF, fitsF, e1, e2]; rfl
    have go : ∀ m : Str, m ∈ names9 → rolesF m = ([("register" : Str), "register"] : List Str) → isIns (.str m :: [.int r, .int q]) n = true := fun m h1 h2 => by
      show (decide (m ∈ names9) && fitsF [.int r, .int q] (rolesF m) n) = true
      rw [h2, key, decide_eq_true h1]; rfl
    rcases hm with rfl | rfl | rfl | rfl | rfl
    · exact go "move" (by decide) (by decide)
    · exact go "add" (by decide) (by decide)
    · exact go "sub" (by decide) (by decide)
    · exact go "load" (by decide) (by decide)
    · exact go "store" (by decide) (by decide)
/-- the first item at fault -/
def faultF (rows : List (List V)) : Option Nat := if 4000 < rows.length then some 4000 else rows.findIdx? fun r => !isIns r rows.length
theorem fault_none {rows : List (List V)} (h : rows.length ≤ 4000) (a : ∀ r ∈ rows, isIns r rows.length = true) : faultF rows = none := by
  unfold faultF
  rw [if_neg (by omega)]
  rw [List.findIdx?_eq_none_iff]
  intro r hr
  rw [a r hr]; rfl
theorem fault_some {rows : List (List V)} {j : Nat} {row : List V} (h : rows.length ≤ 4000) (hj : rows[j]? = some row) (b : isIns row rows.length = false) (a : ∀ i r, i < j → rows[i]? = some r → isIns r rows.length = true) : faultF rows = some j := by
  obtain ⟨hl, e⟩ := List.getElem?_eq_some_iff.mp hj
  unfold faultF
  rw [if_neg (by omega)]
  rw [List.findIdx?_eq_some_iff_getElem]
  refine ⟨hl, by rw [e, b]; rfl, fun i hi => ?_⟩
  rw [a i _ hi (List.getElem?_eq_getElem (by omega))]; decide
/-! ### sizes -/
def vW : V → Nat
  | .str x => x.cps.size | .int i => if i == 0 then 0 else i.natAbs.log2 + 1 | _ => 0
def rowW : List V → Nat
  | [] => 0
  | v :: r => vW v + 1 + rowW r
inductive Sm : V → Prop
  | non : Sm .non
  | bl (b : Bool) : Sm (.bl b)
  | int {i : Int} : i.natAbs < 2 ^ 82 → Sm (.int i)
  | str {s : Str} : (s.cps.toList.all fun c => decide (c < 16 ^ 8)) = true → Sm (.str s)
theorem Sm.pl {v : V} (h : Sm v) : Pl v := by cases h <;> constructor
structure Rw (row : List V) : Prop where
  sm : ∀ v ∈ row, Sm v
  w : rowW row ≤ 139
  l : row.length ≤ 1000
theorem Rw.pl {row : List V} (h : Rw row) : ∀ v ∈ row, Pl v := fun v hv => (h.sm v hv).pl
theorem vW_int {i : Int} {k : Nat} (h : i.natAbs < 2 ^ k) : vW (.int i) ≤ k := by
  show (if i == 0 then 0 else i.natAbs.log2 + 1) ≤ k
  by_cases z : i = 0
  · rw [if_pos (by simp [z])]; exact Nat.zero_le _
  · rw [if_neg (by simp [z])]
    have := (Nat.log2_lt (by omega : i.natAbs ≠ 0)).mpr h
    omega
theorem rowW_app : ∀ xs ys : List V, rowW (xs ++ ys) = rowW xs + rowW ys
  | [], ys => by simp [rowW]
  | x :: xs, ys => by rw [List.cons_append, rowW, rowW, rowW_app xs ys]; omega
def bigB : Nat → Nat
  | 0 => 1
  | k + 1 => bigB k * 100000000
theorem bigB_pos : ∀ k, 1 ≤ bigB k
  | 0 => Nat.le_refl _
  | k + 1 => by have := bigB_pos k; rw [bigB]; omega
/-! ### odd names -/
def OddOk (z : Str) : Prop := z ∉ names9 ∧ inV (.str z) DL = false ∧ z.length ≤ 10 ∧ (z.cps.toList.all fun c => decide (c < 16 ^ 8)) = true
def allNames : List Str := names9 ++ ([("halt" : Str), "until", "clock", "look", "claim", "free", "copy", "drop", "revoke", "map", "unmap", "send", "take", "trysend", "trytake", "call", "reply", "ring", "await", "tryawait", "ack", "give", "pull"] : List Str)
theorem all_names {nm : Str} (h : nm ∈ names9 ∨ V.str nm ∈ DL) : nm ∈ allNames := by
  rcases h with h | h
  · exact List.mem_append_left _ h
  · refine List.mem_append_right _ ?_
    unfold DL at h
    simpa only [List.mem_cons, List.not_mem_nil, or_false, V.str.injEq] using h
def oddMenu (nm : Str) : List Str := ["", Txt.upper nm, cutS nm none (some (-1)), nm ++ "s", " " ++ nm, nm ++ " ", "nop", "end", nm ++ ":"]
def oddB (z : Str) : Bool := !decide (z ∈ names9) && (!inV (.str z) DL && (decide (z.length ≤ 10) && z.cps.toList.all fun c => decide (c < 16 ^ 8)))
theorem odd_ok {nm z : Str} (h : nm ∈ names9 ∨ V.str nm ∈ DL) (hz : z ∈ oddMenu nm) : OddOk z := by
  have q : (allNames.all fun x => (oddMenu x).all oddB) = true := by decide +kernel
  have r := List.all_eq_true.mp (List.all_eq_true.mp q nm (all_names h)) z hz
  unfold oddB at r
  simp only [Bool.and_eq_true, Bool.not_eq_true', decide_eq_true_eq, decide_eq_false_iff_not] at r
  exact ⟨r.1, r.2.1, r.2.2.1, r.2.2.2⟩

/-! ### the value of a word that is a number -/
def decF (l : List Nat) : Nat := l.foldl (fun n c => n * 10 + (c - 48)) 0
theorem decF_snoc (l : List Nat) (c : Nat) : decF (l ++ [c]) = decF l * 10 + (c - 48) := by unfold decF; rw [List.foldl_append]; rfl
/-- 1 to 7 digits, no 0 ahead of others -/
def numOk (s : Str) : Bool := decide (s ≠ "") && (decide (s.length ≤ 7) && (!(decide (1 < s.length) && decide ((tl s).head? = some 48)) && (tl s).all dg))
def numV (s : Str) : Int := if numOk s = true then (decF (tl s) : Int) else -1
theorem find_not {c : Nat} (h : dg c = false) : Txt.find "0123456789" ⟨#[c]⟩ = -1 := by
  unfold Txt.find
  rcases StrLaws.occ_head_from "0123456789" ⟨#[c]⟩ 0 1 (Nat.le_refl 1) with ⟨h0, _⟩ | ⟨i, r, _, _, hk, _⟩
  · rw [h0]
  · exfalso
    have hm := (StrLaws.subAt_one "0123456789" c i).mp hk
    have := List.mem_of_getElem? hm
    rw [← decide_eq_true_iff (p := c ∈ ("0123456789" : Str).cps.toList), dig_mem, h] at this
    cases this
theorem numV_neg {s : Str} (h : numOk s = false) : numV s = -1 := by unfold numV; rw [h]; rfl
theorem numV_pos {s : Str} (h : numOk s = true) : numV s = (decF (tl s) : Int) := if_pos h
theorem numV_range (s : Str) : numV s = -1 ∨ 0 ≤ numV s := by
  cases h : numOk s with
  | false => exact .inl (numV_neg h)
  | true => exact .inr (by rw [numV_pos h]; omega)
theorem numOk_len {s : Str} (h : 7 < s.length) : numOk s = false := by
  unfold numOk
  rw [decide_eq_false (p := s.length ≤ 7) (by omega)]
  simp
theorem numOk_zero {s : Str} (h : 1 < s.length) (h0 : (tl s).head? = some 48) : numOk s = false := by
  unfold numOk
  rw [decide_eq_true h, decide_eq_true h0]
  simp
theorem numOk_bad {s : Str} {c : Nat} (hc : c ∈ tl s) (h : dg c = false) : numOk s = false := by
  unfold numOk
  have : (tl s).all dg = false := by
    rw [Bool.eq_false_iff]
    intro z
    rw [List.all_eq_true] at z
    rw [z c hc] at h
    cases h
  rw [this]
  simp
theorem numOk_yes {s : Str} (h0 : s ≠ "") (h1 : s.length ≤ 7) (h2 : ¬ (1 < s.length ∧ (tl s).head? = some 48)) (h3 : ∀ c ∈ tl s, dg c = true) : numOk s = true := by
  unfold numOk
  have : (tl s).all dg = true := List.all_eq_true.mpr h3
  rw [decide_eq_true h0, decide_eq_true h1, this]
  by_cases q : 1 < s.length
  · rw [decide_eq_false (p := (tl s).head? = some 48) (fun z => h2 ⟨q, z⟩)]; simp
  · rw [decide_eq_false q]; simp
/-! ### lines -/
inductive Fm where
  | ign | lab (l : Str) | ins (n : Str) (vs : List V) | bad
/-- a part with the label's name in the place of a target -/
def partF (r w : Str) : Option V :=
  if r = "deed" then (if inV (.str w) DL = true then some (.str w) else none)
  else if r = "target" then (if isL w = true then some (.str w) else none)
  else if fitF (.int (numV w)) r 0 = true then some (.int (numV w)) else none
def partsF : List Str → List Str → Option (List V)
  | r :: rs, w :: ws => match partF r w, partsF rs ws with | some v, some vs => some (v :: vs) | _, _ => none
  | [], [] => some []
  | _, _ => none
def insF : List Str → Option (Str × List V)
  | n :: ws => if n ∈ names9 then (partsF (rolesF n) ws).map fun vs => (n, vs) else none
  | [] => none
def formI : Option (Str × List V) → Fm
  | some (n, vs) => .ins n vs | none => .bad
def formF (s : Str) : Fm := if ignF s = true then .ign else if labF s ≠ "" then .lab (labF s) else formI (insF (Txt.split s " "))
/-- the same with the labels' indexes -/
def partP (kvs : List (Key × V)) (r w : Str) : Option V :=
  if r = "deed" then (if inV (.str w) DL = true then some (.str w) else none)
  else if r = "target" then valV kvs (.inr w)
  else if fitF (.int (numV w)) r 0 = true then some (.int (numV w)) else none
def partsP (kvs : List (Key × V)) : List Str → List Str → Option (List V)
  | r :: rs, w :: ws => match partP kvs r w, partsP kvs rs ws with | some v, some vs => some (v :: vs) | _, _ => none
  | [], [] => some []
  | _, _ => none
def insP (kvs : List (Key × V)) : List Str → Option (Str × List V)
  | n :: ws => if n ∈ names9 then (partsP kvs (rolesF n) ws).map fun vs => (n, vs) else none
  | [] => none
theorem insF_cons (n : Str) (ws : List Str) : insF (n :: ws) = if n ∈ names9 then (partsF (rolesF n) ws).map fun vs => (n, vs) else none := rfl
theorem insP_cons (kvs : List (Key × V)) (n : Str) (ws : List Str) : insP kvs (n :: ws) = if n ∈ names9 then (partsP kvs (rolesF n) ws).map fun vs => (n, vs) else none := rfl
/-- the forms of instructions -/
inductive Wf : Str → List V → Prop
  | deed {d : Str} : inV (.str d) DL = true → Wf "deed" [.str d]
  | jump {l : Str} : isL l = true → Wf "jump" [.str l]
  | zero {r : Int} {l : Str} : isL l = true → Wf "zero" [.int r, .str l]
  | two {n : Str} {r q : Int} : n ∈ names9 → n ≠ "jump" → n ≠ "zero" → Wf n [.int r, .int q]
theorem partsF_len : ∀ {rs ws : List Str} {vs : List V}, partsF rs ws = some vs → ws.length = rs.length
  | [], [], _, _ => rfl
  | [], _ :: _, _, h => nomatch h
  | _ :: _, [], _, h => nomatch h
  | r :: rs, w :: ws, vs, h => by
    unfold partsF at h
    split at h
    · rename_i v us _ e
      rw [List.length_cons, List.length_cons, partsF_len e]
    · cases h
theorem partsP_len {kvs : List (Key × V)} : ∀ {rs ws : List Str} {vs : List V}, partsP kvs rs ws = some vs → ws.length = rs.length
  | [], [], _, _ => rfl
  | [], _ :: _, _, h => nomatch h
  | _ :: _, [], _, h => nomatch h
  | r :: rs, w :: ws, vs, h => by
    unfold partsP at h
    split at h
    · rename_i v us _ e
      rw [List.length_cons, List.length_cons, partsP_len e]
    · cases h
theorem partsP_take {kvs : List (Key × V)} : ∀ {rs ws : List Str} (i : Nat), rs.length = ws.length → ∀ {r w : Str}, rs[i]? = some r → ws[i]? = some w → partsP kvs (rs.take (i + 1)) (ws.take (i + 1)) = (partsP kvs (rs.take i) (ws.take i)).bind fun vs => (partP kvs r w).map fun v => vs ++ [v]
  | [], _, i, _, _, _, h, _ => by simp at h
  | _ :: _, [], i, _, _, _, _, h => by simp at h
  | r :: rs, w :: ws, 0, _, r', w', h1, h2 => by
    simp at h1 h2
    subst h1 h2
    simp only [List.take_zero, List.take_succ_cons, partsP]
    cases partP kvs r w <;> rfl
  | r :: rs, w :: ws, i + 1, hl, r', w', h1, h2 => by
    have ih := partsP_take (kvs := kvs) (rs := rs) (ws := ws) i (by simpa using hl) (by simpa using h1) (by simpa using h2)
    simp only [List.take_succ_cons, partsP]
    rw [ih]
    cases partP kvs r w <;> cases partsP kvs (rs.take i) (ws.take i) <;> cases partP kvs r' w' <;> rfl
theorem partsP_none {kvs : List (Key × V)} : ∀ {rs ws : List Str} (i : Nat) {r w : Str}, rs[i]? = some r → ws[i]? = some w → partP kvs r w = none → partsP kvs rs ws = none
  | [], _, i, _, _, h, _, _ => by simp at h
  | _ :: _, [], i, _, _, _, h, _ => by simp at h
  | r :: rs, w :: ws, 0, r', w', h1, h2, h3 => by
    simp at h1 h2
    subst h1 h2
    unfold partsP
    rw [h3]
  | r :: rs, w :: ws, i + 1, r', w', h1, h2, h3 => by
    have ih := partsP_none (kvs := kvs) (rs := rs) (ws := ws) i (by simpa using h1) (by simpa using h2) h3
    unfold partsP
    rw [ih]
    cases partP kvs r w <;> rfl
theorem roles_len (n : Str) : (rolesF n).length ≤ 2 := by
  unfold rolesF
  repeat' split
  all_goals decide
theorem names_jz {n : Str} (h : n ∈ names9) (h1 : n ≠ "deed") (h2 : n ≠ "jump") (h3 : n ≠ "zero") : n = "set" ∨ n = "move" ∨ n = "add" ∨ n = "sub" ∨ n = "load" ∨ n = "store" := by
  unfold names9 at h
  simp only [List.mem_cons, List.not_mem_nil, or_false] at h
  rcases h with h | h | h | h | h | h | h | h | h <;> simp_all
theorem rolesF_two {n : Str} (h : n ∈ names9) (h1 : n ≠ "deed") (h2 : n ≠ "jump") (h3 : n ≠ "zero") : ∃ r : Str, rolesF n = [("register" : Str), r] ∧ (r = "register" ∨ r = "word") ∧ (r = "word" ↔ n = "set") := by
  rcases names_jz h h1 h2 h3 with rfl | rfl | rfl | rfl | rfl | rfl
  · exact ⟨"word", by decide, .inr rfl, by decide⟩
  all_goals exact ⟨"register", by decide, .inl rfl, by decide⟩
theorem partF_num {r w : Str} (h : r = "register" ∨ r = "word") {v : V} (e : partF r w = some v) : v = .int (numV w) := by
  unfold partF at e
  rw [if_neg (by rcases h with rfl | rfl <;> decide), if_neg (by rcases h with rfl | rfl <;> decide)] at e
  split at e
  · exact (Option.some.inj e).symm
  · cases e
theorem insF_wf {ws : List Str} {n : Str} {vs : List V} (h : insF ws = some (n, vs)) : Wf n vs := by
  cases ws with
  | nil => cases h
  | cons m ws =>
    rw [insF_cons] at h
    split at h
    · rename_i hm
      cases e : partsF (rolesF m) ws with
      | none => rw [e] at h; cases h
      | some us =>
        rw [e] at h
        obtain ⟨rfl, rfl⟩ : m = n ∧ us = vs := by
          have := Option.some.inj h
          exact ⟨congrArg Prod.fst this, congrArg Prod.snd this⟩
        have hl := partsF_len e
        by_cases d : m = "deed"
        · subst d
          match ws, hl with
          | [w], _ =>
            have e2 : partsF ["deed"] [w] = some us := e
            unfold partsF at e2
            by_cases q : inV (.str w) DL = true
            · simp only [partF, if_pos rfl, if_pos q, partsF] at e2
              obtain rfl := Option.some.inj e2
              exact .deed q
            · simp only [partF, if_pos rfl, if_neg q] at e2
              cases e2
        by_cases j : m = "jump"
        · subst j
          match ws, hl with
          | [w], _ =>
            have e2 : partsF ["target"] [w] = some us := e
            unfold partsF at e2
            by_cases q : isL w = true
            · simp only [partF, if_neg (by decide : ¬ ("target" : Str) = "deed"), if_pos rfl, if_pos q, partsF] at e2
              obtain rfl := Option.some.inj e2
              exact .jump q
            · simp only [partF, if_neg (by decide : ¬ ("target" : Str) = "deed"), if_pos rfl, if_neg q] at e2
              cases e2
        by_cases z : m = "zero"
        · subst z
          match ws, hl with
          | [w, u], _ =>
            have e2 : partsF ["register", "target"] [w, u] = some us := e
            unfold partsF at e2
            split at e2
            · rename_i v vs' e3 e4
              obtain rfl := partF_num (.inl rfl) e3
              unfold partsF at e4
              by_cases q : isL u = true
              · simp only [partF, if_neg (by decide : ¬ ("target" : Str) = "deed"), if_pos rfl, if_pos q, partsF] at e4
                obtain rfl := Option.some.inj e4
                obtain rfl := Option.some.inj e2
                exact .zero q
              · simp only [partF, if_neg (by decide : ¬ ("target" : Str) = "deed"), if_pos rfl, if_neg q] at e4
                cases e4
            · cases e2
        obtain ⟨r, hr, hr2, _⟩ := rolesF_two hm d j z
        rw [hr] at e hl
        match ws, hl with
        | [w, u], _ =>
          unfold partsF at e
          split at e
          · rename_i v vs' e3 e4
            obtain rfl := partF_num (.inl rfl) e3
            unfold partsF at e4
            split at e4
            · rename_i v2 vs2 e5 e6
              obtain rfl := partF_num hr2 e5
              unfold partsF at e6
              obtain rfl := Option.some.inj e6
              obtain rfl := Option.some.inj e4
              obtain rfl := Option.some.inj e
              exact .two hm j z
            · cases e4
          · cases e
    · cases h
/-- the label that an instruction names -/
def tgt (n : Str) (vs : List V) : Option Str := if n = "jump" ∨ n = "zero" then (match vs.getLast? with | some (.str w) => some w | _ => none) else none
/-- an instruction with the label's index -/
def rowP (kvs : List (Key × V)) (n : Str) (vs : List V) : List V := match tgt n vs with | some w => .str n :: (vs.dropLast ++ [(valV kvs (.inr w)).getD .non]) | none => .str n :: vs
/-- what a dict of labels is -/
def LabK (kvs : List (Key × V)) : Prop := ∀ w v, valV kvs (.inr w) = some v → isL w = true ∧ ∃ i : Int, v = .int i
theorem part_eq {kvs : List (Key × V)} (L : LabK kvs) (r w : Str) : partP kvs r w = if r = "target" then (if isL w = true then valV kvs (.inr w) else none) else partF r w := by
  unfold partP partF
  by_cases d : r = "deed"
  · subst d; rfl
  · rw [if_neg d, if_neg d]
    by_cases t : r = "target"
    · rw [if_pos t, if_pos t]
      by_cases q : isL w = true
      · rw [if_pos q]
      · rw [if_neg q]
        cases e : valV kvs (.inr w) with
        | none => rfl
        | some v => exact absurd (L w v e).1 q
    · rw [if_neg t, if_neg t, if_neg t]
theorem parts_eq {kvs : List (Key × V)} (L : LabK kvs) : ∀ {rs : List Str} {ws : List Str}, (∀ r ∈ rs, r ≠ "target") → partsP kvs rs ws = partsF rs ws
  | [], [], _ => rfl
  | [], _ :: _, _ => rfl
  | _ :: _, [], _ => rfl
  | r :: rs, w :: ws, h => by
    unfold partsP partsF
    rw [parts_eq L fun r' hr => h r' (List.mem_cons_of_mem _ hr), part_eq L, if_neg (h r (List.mem_cons_self ..))]
/-- what the program reads, by the form -/
theorem insP_eq {kvs : List (Key × V)} (L : LabK kvs) (ws : List Str) : (insF ws = none → insP kvs ws = none) ∧ (∀ n vs, insF ws = some (n, vs) → insP kvs ws = (match tgt n vs with | some w => (valV kvs (.inr w)).map (fun v => (n, vs.dropLast ++ [v])) | none => some (n, vs))) := by
  cases ws with
  | nil => exact ⟨fun _ => rfl, fun n vs h => nomatch h⟩
  | cons m ws =>
    rw [insF_cons, insP_cons]
    by_cases hm : m ∈ names9
    · rw [if_pos hm, if_pos hm]
      by_cases j : m = "jump"
      · subst j
        show (Option.map _ (partsF ["target"] ws) = none → Option.map _ (partsP kvs ["target"] ws) = none) ∧ ∀ n vs, Option.map _ (partsF ["target"] ws) = some (n, vs) → Option.map _ (partsP kvs ["target"] ws) = _
        match ws with
        | [] => exact ⟨fun _ => rfl, fun n vs h => nomatch h⟩
        | _ :: _ :: _ =>
          refine ⟨fun _ => ?_, fun n vs h => ?_⟩
          · unfold partsP partsP; cases partP kvs _ _ <;> rfl
          · obtain ⟨us, e, _⟩ := Option.map_eq_some_iff.mp h
            have := partsF_len e
            simp at this
        | [w] =>
          unfold partsP partsF partsP partsF
          rw [part_eq L, if_pos rfl]
          have e : partF "target" w = if isL w = true then some (.str w) else none := by unfold partF; rw [if_neg (by decide), if_pos rfl]
          rw [e]
          by_cases q : isL w = true
          · rw [if_pos q, if_pos q]
            refine ⟨(fun h => nomatch h), fun n vs h => ?_⟩
            obtain ⟨rfl, rfl⟩ : ("jump" : Str) = n ∧ [V.str w] = vs := by
              have := Option.some.inj h
              exact ⟨congrArg Prod.fst this, congrArg Prod.snd this⟩
            show _ = (valV kvs (.inr w)).map _
            cases valV kvs (.inr w) <;> rfl
          · rw [if_neg q, if_neg q]
            exact ⟨fun _ => rfl, fun n vs h => nomatch h⟩
      by_cases z : m = "zero"
      · subst z
        show (Option.map _ (partsF ["register", "target"] ws) = none → Option.map _ (partsP kvs ["register", "target"] ws) = none) ∧ ∀ n vs, Option.map _ (partsF ["register", "target"] ws) = some (n, vs) → Option.map _ (partsP kvs ["register", "target"] ws) = _
        match ws with
        | [] => exact ⟨fun _ => rfl, fun n vs h => nomatch h⟩
        | [_] =>
          refine ⟨fun _ => ?_, fun n vs h => ?_⟩
          · unfold partsP partsP; cases partP kvs _ _ <;> rfl
          · obtain ⟨us, e, _⟩ := Option.map_eq_some_iff.mp h
            have := partsF_len e
            simp at this
        | _ :: _ :: _ :: _ =>
          refine ⟨fun _ => ?_, fun n vs h => ?_⟩
          · unfold partsP partsP partsP; cases partP kvs "register" _ <;> cases partP kvs "target" _ <;> rfl
          · obtain ⟨us, e, _⟩ := Option.map_eq_some_iff.mp h
            have := partsF_len e
            simp at this
        | [u, w] =>
          unfold partsP partsF partsP partsF partsP partsF
          rw [part_eq L, if_neg (by decide), part_eq L, if_pos rfl]
          have e : partF "target" w = if isL w = true then some (.str w) else none := by unfold partF; rw [if_neg (by decide), if_pos rfl]
          rw [e]
          cases hu : partF "register" u with
          | none => exact ⟨fun _ => rfl, fun n vs h => nomatch h⟩
          | some v0 =>
            by_cases q : isL w = true
            · rw [if_pos q, if_pos q]
              refine ⟨(fun h => nomatch h), fun n vs h => ?_⟩
              obtain ⟨rfl, rfl⟩ : ("zero" : Str) = n ∧ [v0, V.str w] = vs := by
                have := Option.some.inj h
                exact ⟨congrArg Prod.fst this, congrArg Prod.snd this⟩
              show _ = (valV kvs (.inr w)).map _
              cases valV kvs (.inr w) <;> rfl
            · rw [if_neg q, if_neg q]
              exact ⟨fun _ => rfl, fun n vs h => nomatch h⟩
      have ht : ∀ r ∈ rolesF m, r ≠ "target" := by
        by_cases d : m = "deed"
        · subst d
          intro r hr
          obtain rfl : r = "deed" := List.mem_singleton.mp hr
          decide
        · obtain ⟨r, hr, hr2, _⟩ := rolesF_two hm d j z
          rw [hr]
          intro r' h'
          simp only [List.mem_cons, List.not_mem_nil, or_false] at h'
          rcases h' with rfl | rfl
          · decide
          · rcases hr2 with rfl | rfl <;> decide
      rw [parts_eq L ht]
      refine ⟨fun h => h, fun n vs h => ?_⟩
      obtain ⟨us, _, e⟩ := Option.map_eq_some_iff.mp h
      obtain ⟨rfl, rfl⟩ : m = n ∧ us = vs := ⟨congrArg Prod.fst e, congrArg Prod.snd e⟩
      rw [h]
      have : tgt m us = none := by unfold tgt; rw [if_neg (by rintro (a | a); exact j a; exact z a)]
      rw [this]
    · rw [if_neg hm, if_neg hm]
      exact ⟨fun h => h, fun n vs h => nomatch h⟩
/-! ### labels -/
/-- the labels: of the program (each line that is none of a label counts) and of the law (only instructions count) -/
def setD (kvs : List (Key × V)) (l : Str) (v : V) : List (Key × V) := if (valV kvs (.inr l)).isSome = true then kvs else putK kvs (.inr l) v
def stepP (s : List (Key × V) × Nat) : Fm → List (Key × V) × Nat
  | .ign => s | .lab l => (setD s.1 l (.int s.2), s.2) | .ins _ _ => (s.1, s.2 + 1) | .bad => (s.1, s.2 + 1)
def stepL (s : List (Key × V) × Nat) : Fm → List (Key × V) × Nat
  | .ign => s | .lab l => (setD s.1 l (.int s.2), s.2) | .ins _ _ => (s.1, s.2 + 1) | .bad => s
def runP (fs : List Fm) : List (Key × V) × Nat := fs.foldl stepP ([], 0)
def runL (fs : List Fm) : List (Key × V) × Nat := fs.foldl stepL ([], 0)
theorem runP_snoc (fs : List Fm) (f : Fm) : runP (fs ++ [f]) = stepP (runP fs) f := by unfold runP; rw [List.foldl_append]; rfl
theorem runL_snoc (fs : List Fm) (f : Fm) : runL (fs ++ [f]) = stepL (runL fs) f := by unfold runL; rw [List.foldl_append]; rfl
theorem labs_same : ∀ (fs : List Fm) (s : List (Key × V) × Nat), (∀ f ∈ fs, f ≠ .bad) → fs.foldl stepP s = fs.foldl stepL s
  | [], _, _ => rfl
  | f :: fs, s, h => by
    have e : stepP s f = stepL s f := by
      cases f with
      | bad => exact absurd rfl (h .bad (List.mem_cons_self ..))
      | _ => rfl
    rw [List.foldl_cons, List.foldl_cons, e]
    exact labs_same fs _ fun g hg => h g (List.mem_cons_of_mem _ hg)
def labN (fs : List Fm) : List Str := fs.filterMap fun f => match f with | .lab l => some l | _ => none
theorem labN_snoc (fs : List Fm) (f : Fm) : labN (fs ++ [f]) = labN fs ++ labN [f] := by unfold labN; rw [List.filterMap_append]
theorem val_setD (kvs : List (Key × V)) (l : Str) (v : V) (w : Str) : valV (setD kvs l v) (.inr w) = if (valV kvs (.inr l)).isSome = true then valV kvs (.inr w) else if w = l then some v else valV kvs (.inr w) := by
  unfold setD
  split
  · rfl
  · rw [valV_put]
    by_cases e : w = l
    · rw [if_pos e, if_pos (by rw [e])]
    · rw [if_neg e, if_neg (fun z => e (by injection z))]
theorem setD_some (kvs : List (Key × V)) (l : Str) (v : V) (w : Str) : (valV (setD kvs l v) (.inr w)).isSome = (decide (w = l) || (valV kvs (.inr w)).isSome) := by
  rw [val_setD]
  split
  · rename_i h
    by_cases e : w = l
    · subst e; rw [h, Bool.or_true]
    · rw [decide_eq_false e, Bool.false_or]
  · by_cases e : w = l
    · rw [if_pos e, decide_eq_true e]; rfl
    · rw [if_neg e, decide_eq_false e, Bool.false_or]
theorem setD_lab {kvs : List (Key × V)} (L : LabK kvs) {l : Str} (h : isL l = true) (i : Int) : LabK (setD kvs l (.int i)) := by
  intro w v e
  rw [val_setD] at e
  split at e
  · exact L w v e
  · by_cases q : w = l
    · rw [if_pos q] at e
      subst q
      exact ⟨h, i, (Option.some.inj e).symm⟩
    · rw [if_neg q] at e
      exact L w v e
theorem setD_len (kvs : List (Key × V)) (l : Str) (v : V) : (setD kvs l v).length ≤ kvs.length + 1 := by
  unfold setD
  split
  · omega
  · unfold putK
    split
    · rw [List.length_map]; omega
    · rw [List.length_append]; exact Nat.le_refl _
/-- all labels of the forms are labels -/
def LabFs (fs : List Fm) : Prop := ∀ l, Fm.lab l ∈ fs → isL l = true
theorem run_ok : ∀ (fs : List Fm) (s : List (Key × V) × Nat), LabFs fs → LabK s.1 → (LabK (fs.foldl stepP s).1 ∧ LabK (fs.foldl stepL s).1)
  | [], s, _, h => ⟨h, h⟩
  | f :: fs, s, hf, h => by
    have hf' : LabFs fs := fun l hl => hf l (List.mem_cons_of_mem _ hl)
    have a : ∀ s : List (Key × V) × Nat, LabK s.1 → LabK (stepP s f).1 := fun s h => by
      cases f with
      | lab l => exact setD_lab h (hf l (List.mem_cons_self ..)) _
      | _ => exact h
    have b : ∀ s : List (Key × V) × Nat, LabK s.1 → LabK (stepL s f).1 := fun s h => by
      cases f with
      | lab l => exact setD_lab h (hf l (List.mem_cons_self ..)) _
      | _ => exact h
    exact ⟨(run_ok fs _ hf' (a s h)).1, (run_ok fs _ hf' (b s h)).2⟩
theorem run_mem (w : Str) : ∀ (fs : List Fm) (s : List (Key × V) × Nat), (valV (fs.foldl stepP s).1 (.inr w)).isSome = ((valV s.1 (.inr w)).isSome || decide (w ∈ labN fs)) ∧ (valV (fs.foldl stepL s).1 (.inr w)).isSome = ((valV s.1 (.inr w)).isSome || decide (w ∈ labN fs))
  | [], s => by simp [labN]
  | f :: fs, s => by
    have hP : (valV (stepP s f).1 (.inr w)).isSome = ((valV s.1 (.inr w)).isSome || decide (w ∈ labN [f])) := by
      cases f with
      | lab l =>
        show (valV (setD s.1 l _) (.inr w)).isSome = _
        rw [setD_some, Bool.or_comm]
        congr 1
        simp [labN]
      | _ => simp [stepP, labN]
    have hL : (valV (stepL s f).1 (.inr w)).isSome = ((valV s.1 (.inr w)).isSome || decide (w ∈ labN [f])) := by
      cases f with
      | lab l =>
        show (valV (setD s.1 l _) (.inr w)).isSome = _
        rw [setD_some, Bool.or_comm]
        congr 1
        simp [labN]
      | _ => simp [stepL, labN]
    have hm : decide (w ∈ labN (f :: fs)) = (decide (w ∈ labN [f]) || decide (w ∈ labN fs)) := by
      have : labN (f :: fs) = labN [f] ++ labN fs := by rw [show f :: fs = [f] ++ fs from rfl]; unfold labN; rw [List.filterMap_append]
      rw [this, ← Bool.decide_or, decide_eq_decide, List.mem_append]
    rw [List.foldl_cons, List.foldl_cons]
    refine ⟨?_, ?_⟩
    · rw [(run_mem w fs _).1, hP, hm, Bool.or_assoc]
    · rw [(run_mem w fs _).2, hL, hm, Bool.or_assoc]
theorem run_len : ∀ (fs : List Fm) (s : List (Key × V) × Nat), (fs.foldl stepP s).1.length ≤ s.1.length + fs.length ∧ (fs.foldl stepL s).1.length ≤ s.1.length + fs.length
  | [], s => ⟨Nat.le_refl _, Nat.le_refl _⟩
  | f :: fs, s => by
    have a : (stepP s f).1.length ≤ s.1.length + 1 := by
      cases f with
      | lab l => exact setD_len _ _ _
      | _ => exact Nat.le_succ _
    have b : (stepL s f).1.length ≤ s.1.length + 1 := by
      cases f with
      | lab l => exact setD_len _ _ _
      | _ => exact Nat.le_succ _
    have h1 := (run_len fs (stepP s f)).1
    have h2 := (run_len fs (stepL s f)).2
    rw [List.foldl_cons, List.foldl_cons, List.length_cons]
    omega
theorem nil_lab : LabK [] := fun w v e => nomatch e
/-! ### the first line at fault -/
def isCode : Fm → Bool
  | .ins _ _ => true | .bad => true | _ => false
def isIn : Fm → Bool
  | .ins _ _ => true | _ => false
def insN (fs : List Fm) : Nat := fs.countP isIn
theorem insN_snoc (fs : List Fm) (f : Fm) : insN (fs ++ [f]) = insN fs + (if isIn f = true then 1 else 0) := by unfold insN; rw [List.countP_append]; simp [List.countP_cons]
/-- whether the i-th line is at fault, the lines ahead of it being right -/
def badAt (fs : List Fm) (i : Nat) : Fm → Bool
  | .ign => false
  | .lab l => decide (l ∈ labN (fs.take i)) || !((fs.drop i).any isCode)
  | .bad => true
  | .ins n vs => (match tgt n vs with | some w => !decide (w ∈ labN fs) | none => false) || decide (insN (fs.take i) = 4000)
def badI (fs : List Fm) (i : Nat) : Bool := match fs[i]? with | some f => badAt fs i f | none => false
def First (fs : List Fm) (i : Nat) : Prop := (∀ j, j < i → badI fs j = false) ∧ badI fs i = true
def NoBad (fs : List Fm) : Prop := ∀ j, badI fs j = false
theorem First.uniq {fs : List Fm} {i j : Nat} (h : First fs i) (h' : First fs j) : i = j := by
  rcases Nat.lt_trichotomy i j with q | q | q
  · have := h'.1 i q; rw [h.2] at this; cases this
  · exact q
  · have := h.1 j q; rw [h'.2] at this; cases this
theorem First.not {fs : List Fm} {i : Nat} (h : First fs i) (h' : NoBad fs) : False := by
  have := h' i; rw [h.2] at this; cases this
theorem bad_at {fs : List Fm} {i : Nat} {f : Fm} (h : fs[i]? = some f) : badI fs i = badAt fs i f := by unfold badI; rw [h]
theorem noBad {fs : List Fm} (h : ∀ j, j < fs.length → badI fs j = false) : NoBad fs := fun j => by
  by_cases q : j < fs.length
  · exact h j q
  · unfold badI; rw [List.getElem?_eq_none (by omega)]
theorem NoBad.ne {fs : List Fm} (h : NoBad fs) : ∀ f ∈ fs, f ≠ .bad := fun f hf e => by
  obtain ⟨i, hi⟩ := List.getElem?_of_mem hf
  have := h i
  rw [bad_at hi, e] at this
  cases this
/-- the number of the last line that is an instruction or of no form -/
def LastIs (fs : List Fm) (z : Int) : Prop := 0 ≤ z ∧ (∀ (j : Nat) f, fs[j]? = some f → isCode f = true → (j : Int) + 1 ≤ z) ∧ (z = 0 ∨ ∃ (j : Nat) (f : Fm), z = (j : Int) + 1 ∧ fs[j]? = some f ∧ isCode f = true)
theorem LastIs.gt {fs : List Fm} {z : Int} (h : LastIs fs z) (i : Nat) : decide ((i : Int) + 1 > z) = !((fs.drop i).any isCode) := by
  obtain ⟨h0, h1, h2⟩ := h
  by_cases q : (fs.drop i).any isCode = true
  · rw [q]
    refine decide_eq_false ?_
    obtain ⟨f, hf, hc⟩ := List.any_eq_true.mp q
    obtain ⟨j, hj⟩ := List.getElem?_of_mem hf
    rw [List.getElem?_drop] at hj
    have := h1 _ f hj hc
    omega
  · rw [Bool.eq_false_iff.mpr q]
    refine decide_eq_true ?_
    rcases h2 with rfl | ⟨j, f, rfl, hj, hc⟩
    · omega
    · by_cases g : i ≤ j
      · refine absurd (List.any_eq_true.mpr ⟨f, ?_, hc⟩) q
        have : (fs.drop i)[j - i]? = some f := by rw [List.getElem?_drop, show i + (j - i) = j by omega]; exact hj
        exact List.mem_of_getElem? this
      · omega
theorem LastIs.nil : LastIs [] 0 := ⟨Int.le_refl _, fun j f h => by simp at h, .inl rfl⟩
theorem LastIs.snoc {fs : List Fm} {z : Int} (h : LastIs fs z) (f : Fm) : LastIs (fs ++ [f]) (if isCode f = true then (fs.length : Int) + 1 else z) := by
  obtain ⟨h0, h1, h2⟩ := h
  have old : ∀ (j : Nat) g, j < fs.length → (fs ++ [f])[j]? = some g → fs[j]? = some g := fun j g hj e => by rwa [List.getElem?_append_left hj] at e
  have new : ∀ (j : Nat) g, ¬ j < fs.length → (fs ++ [f])[j]? = some g → j = fs.length ∧ g = f := fun j g hj e => by
    have hl := (List.getElem?_eq_some_iff.mp e).1
    rw [List.length_append, List.length_singleton] at hl
    obtain rfl : j = fs.length := by omega
    rw [List.getElem?_concat_length] at e
    exact ⟨rfl, (Option.some.inj e).symm⟩
  by_cases c : isCode f = true
  · rw [if_pos c]
    refine ⟨by omega, fun j g e hg => ?_, .inr ⟨fs.length, f, rfl, List.getElem?_concat_length, c⟩⟩
    have hl := (List.getElem?_eq_some_iff.mp e).1
    rw [List.length_append, List.length_singleton] at hl
    omega
  · rw [if_neg c]
    refine ⟨h0, fun j g e hg => ?_, h2.imp id fun ⟨j, g, e1, e2, e3⟩ => ⟨j, g, e1, by rw [List.getElem?_append_left (List.getElem?_eq_some_iff.mp e2).1]; exact e2, e3⟩⟩
    by_cases q : j < fs.length
    · exact h1 j g (old j g q e) hg
    · exact absurd ((new j g q e).2 ▸ hg) c
/-- the rows -/
def rowOf (kvs : List (Key × V)) : Fm → Option (List V)
  | .ins n vs => some (rowP kvs n vs) | _ => none
def rowsOf (kvs : List (Key × V)) (fs : List Fm) : List (List V) := fs.filterMap (rowOf kvs)
theorem rowsOf_snoc (kvs : List (Key × V)) (fs : List Fm) (f : Fm) : rowsOf kvs (fs ++ [f]) = rowsOf kvs fs ++ rowsOf kvs [f] := by unfold rowsOf; rw [List.filterMap_append]
theorem rowsOf_len (kvs : List (Key × V)) : ∀ fs : List Fm, (rowsOf kvs fs).length = insN fs
  | [] => rfl
  | f :: fs => by
    have ih := rowsOf_len kvs fs
    unfold rowsOf insN at *
    cases f <;> simp [List.countP_cons, List.filterMap_cons, rowOf, isIn, ih]
theorem take_get {α : Type} {xs : List α} {i : Nat} {x : α} (h : xs[i]? = some x) : xs.take (i + 1) = xs.take i ++ [x] := by rw [List.take_add_one, h]; rfl
theorem labN_take {fs : List Fm} {i : Nat} {l : Str} (h : l ∈ labN (fs.take i)) : l ∈ labN fs := by
  unfold labN at *
  obtain ⟨f, hf, e⟩ := List.mem_filterMap.mp h
  exact List.mem_filterMap.mpr ⟨f, List.mem_of_mem_take hf, e⟩
/-- labels met -/
def metD (ls : List Str) : List (Key × V) := ls.foldl (fun kvs l => putK kvs (.inr l) (.bl true)) []
theorem metD_snoc (ls : List Str) (l : Str) : metD (ls ++ [l]) = putK (metD ls) (.inr l) (.bl true) := by unfold metD; rw [List.foldl_append]; rfl
theorem putK_len (kvs : List (Key × V)) (k : Key) (v : V) : (putK kvs k v).length ≤ kvs.length + 1 := by
  unfold putK
  split
  · rw [List.length_map]; omega
  · rw [List.length_append]; exact Nat.le_refl _
theorem met_mem (w : Str) : ∀ (ls : List Str) (kvs : List (Key × V)), (valV (ls.foldl (fun kvs l => putK kvs (.inr l) (.bl true)) kvs) (.inr w)).isSome = ((valV kvs (.inr w)).isSome || decide (w ∈ ls))
  | [], kvs => by simp
  | l :: ls, kvs => by
    rw [List.foldl_cons, met_mem w ls, valV_put]
    by_cases e : w = l
    · subst e
      simp
    · rw [if_neg (fun z => e (by injection z))]
      have : decide (w ∈ l :: ls) = decide (w ∈ ls) := by rw [decide_eq_decide, List.mem_cons]; simp [e]
      rw [this]
theorem metD_mem (w : Str) (ls : List Str) : (valV (metD ls) (.inr w)).isSome = decide (w ∈ ls) := by unfold metD; rw [met_mem]; simp [valV_nil]
theorem met_len : ∀ (ls : List Str) (kvs : List (Key × V)), (ls.foldl (fun kvs l => putK kvs (.inr l) (.bl true)) kvs).length ≤ kvs.length + ls.length
  | [], _ => Nat.le_refl _
  | l :: ls, kvs => by
    have h1 := putK_len kvs (.inr l) (.bl true)
    have h2 := met_len ls (putK kvs (.inr l) (.bl true))
    rw [List.foldl_cons, List.length_cons]
    omega
theorem labN_len (fs : List Fm) : (labN fs).length ≤ fs.length := List.length_filterMap_le _ _
/-! ### the form of a line -/
theorem ign_lab {s : Str} (h : ignF s = true) : labF s = "" := by
  unfold ignF at h
  rw [Bool.or_eq_true, hash, starts1, decide_eq_true_eq, decide_eq_true_eq] at h
  rcases h with h | h
  · exact (ign_ok (.inl ((nil_iff s).mp h))).2
  · cases e : tl s with
    | nil => rw [e] at h; cases h
    | cons c r =>
      rw [e] at h
      obtain rfl := Option.some.inj h
      exact (ign_ok (.inr ⟨r, e⟩)).2
theorem lab_isL {s : Str} (h : labF s ≠ "") : isL (labF s) = true := by
  unfold labF at *
  split at h
  · rename_i q
    rw [if_pos q]
    exact ((Bool.and_eq_true _ _).mp q).2
  · exact absurd rfl h
theorem form_ign {s : Str} (h : ignF s = true) : formF s = .ign := if_pos h
theorem form_lab {s : Str} (h : labF s ≠ "") : formF s = .lab (labF s) := by
  unfold formF
  rw [if_neg (fun z => h (ign_lab z)), if_pos h]
theorem form_ins {s : Str} (h0 : ignF s = false) (h : labF s = "") : formF s = formI (insF (Txt.split s " ")) := by
  unfold formF
  rw [if_neg (by rw [h0]; decide), if_neg (fun z => z h)]
theorem form_labs (ls : List Str) : LabFs (ls.map formF) := fun l h => by
  obtain ⟨s, _, e⟩ := List.mem_map.mp h
  unfold formF at e
  split at e
  · cases e
  · split at e
    · rename_i q
      injection e with e
      rw [← e]
      exact lab_isL q
    · cases hi : insF (Txt.split s " ") <;> rw [hi] at e <;> cases e
theorem form_wf {s n : Str} {vs : List V} (h : formF s = .ins n vs) : Wf n vs := by
  unfold formF at h
  split at h
  · cases h
  · split at h
    · cases h
    · cases hi : insF (Txt.split s " ") with
      | none => rw [hi] at h; cases h
      | some nv =>
        rw [hi] at h
        injection h with h1 h2
        subst h1 h2
        exact insF_wf hi
theorem split_ne (x y : Str) : Txt.split x y ≠ [] := by
  unfold Txt.split
  split
  · exact fun h => nomatch h
  · split
    · exact fun h => nomatch h
    · rw [StrLaws.partsBetween_eq]
      obtain ⟨p, q, e⟩ := StrLaws.partsFrom_ne x y.length 0 (Builtin.Str.occurrences x y 0 x.length (x.length + 1))
      rw [e]
      exact fun h => nomatch h
/-! ### sizes -/
/-- the characters of a text's lines, with the line feeds -/
def TX : List Str → Nat
  | [] => 0
  | s :: r => s.length + 1 + TX r
theorem TX_app : ∀ xs ys : List Str, TX (xs ++ ys) = TX xs + TX ys
  | [], ys => (Nat.zero_add _).symm
  | x :: xs, ys => by show x.length + 1 + TX (xs ++ ys) = x.length + 1 + TX xs + TX ys; rw [TX_app xs ys]; omega
theorem TX_len : ∀ xs : List Str, xs.length ≤ TX xs
  | [] => Nat.le_refl _
  | x :: xs => by have := TX_len xs; show xs.length + 1 ≤ x.length + 1 + TX xs; omega
theorem TX_mem {s : Str} : ∀ {xs : List Str}, s ∈ xs → s.length + 1 ≤ TX xs
  | x :: xs, h => by
    show _ ≤ x.length + 1 + TX xs
    rcases List.mem_cons.mp h with rfl | h
    · omega
    · have := TX_mem h; omega
theorem TX_take (n : Nat) : ∀ xs : List Str, TX (xs.take n) ≤ TX xs := fun xs => by
  have := TX_app (xs.take n) (xs.drop n)
  rw [List.take_append_drop] at this
  omega
theorem TX_drop (n : Nat) : ∀ xs : List Str, TX (xs.drop n) ≤ TX xs := fun xs => by
  have := TX_app (xs.take n) (xs.drop n)
  rw [List.take_append_drop] at this
  omega
theorem TX_cut (n : Nat) (xs : List Str) : TX (xs.take n) + TX (xs.drop n) = TX xs := by
  have := TX_app (xs.take n) (xs.drop n)
  rw [List.take_append_drop] at this
  omega
theorem TX_sum : ∀ xs : List Str, TX xs = (xs.map (·.length)).sum + xs.length
  | [] => rfl
  | x :: xs => by show x.length + 1 + TX xs = x.length + (xs.map (·.length)).sum + (xs.length + 1); rw [TX_sum xs]; omega
theorem TX_filter (p : Str → Bool) : ∀ xs : List Str, TX (xs.filter p) ≤ TX xs
  | [] => Nat.le_refl _
  | x :: xs => by
    have := TX_filter p xs
    rw [List.filter_cons]
    show _ ≤ x.length + 1 + TX xs
    split
    · show x.length + 1 + TX (xs.filter p) ≤ _; omega
    · omega
theorem TX_le {n : Nat} : ∀ {xs : List Str}, (∀ s ∈ xs, s.length ≤ n) → TX xs ≤ xs.length * (n + 1)
  | [], _ => Nat.zero_le _
  | x :: xs, h => by
    have h1 := h x (List.mem_cons_self ..)
    have h2 := TX_le (n := n) (xs := xs) fun s hs => h s (List.mem_cons_of_mem _ hs)
    show x.length + 1 + TX xs ≤ (xs.length + 1) * (n + 1)
    rw [Nat.add_mul]
    omega
theorem TX_rep (n : Nat) (s : Str) : TX (List.replicate n s) = n * (s.length + 1) := by
  induction n with
  | zero => simp [TX]
  | succ n ih => rw [List.replicate_succ]; show s.length + 1 + TX _ = _; rw [ih, Nat.add_mul]; omega
theorem joinL_size (S : List Nat) : ∀ ps : List (List Nat), ps ≠ [] → (joinL S ps).length + S.length = (ps.map List.length).sum + ps.length * S.length
  | [], h => absurd rfl h
  | [p], _ => by simp [joinL]
  | p :: q :: r, _ => by
    have ih := joinL_size S (q :: r) (by simp)
    have e : joinL S (p :: q :: r) = p ++ (S ++ joinL S (q :: r)) := by simp [joinL]
    rw [e, List.length_append, List.length_append, List.map_cons, List.sum_cons, List.length_cons, Nat.add_mul]
    omega
theorem join_size {ps : List Str} (h : ps ≠ []) : (Txt.join "\n" ps).length + 1 = TX ps := by
  have e : (Txt.join "\n" ps).length = (joinL [10] (ps.map tl)).length := by
    rw [len_tl, join_eq, tl_join, newl]
  have q := joinL_size [10] (ps.map tl) (by simpa using h)
  rw [e, TX_sum]
  simp only [List.length_map, List.length_singleton, Nat.mul_one, List.map_map] at q
  have m : (List.length ∘ tl : Str → Nat) = fun s => s.length := by
    funext s
    exact (len_tl s).symm
  rw [m] at q
  exact q
theorem join_le (ps : List Str) : (Txt.join "\n" ps).length ≤ TX ps := by
  by_cases h : ps = []
  · subst h; exact Nat.le_refl _
  · have := join_size h; omega
theorem split_size (x : Str) : TX (Txt.split x "\n") = x.length + 1 := by
  rw [← join_size (split_ne x "\n")]
  congr 1
  rw [join_eq]
  exact congrArg Str.length (StrLaws.join_split x "\n")
theorem le_sum {n : Nat} : ∀ {l : List Nat}, n ∈ l → n ≤ l.sum
  | x :: l, h => by
    rw [List.sum_cons]
    rcases List.mem_cons.mp h with rfl | h
    · omega
    · have := le_sum h; omega
theorem split_len (x : Str) : (Txt.split x " ").length ≤ x.length + 1 ∧ ∀ p ∈ Txt.split x " ", p.length ≤ x.length := by
  have e : joinL [32] ((Txt.split x " ").map tl) = tl x := by
    rw [← space, ← tl_join]
    exact congrArg tl (StrLaws.join_split x " ")
  have q := joinL_size [32] ((Txt.split x " ").map tl) (by simpa using split_ne x " ")
  rw [e] at q
  simp only [List.length_map, List.length_singleton, Nat.mul_one] at q
  have hx := len_tl x
  refine ⟨by omega, fun p hp => ?_⟩
  have : p.length ≤ (((Txt.split x " ").map tl).map List.length).sum := by
    rw [len_tl p]
    exact le_sum (List.mem_map.mpr ⟨tl p, List.mem_map.mpr ⟨p, hp, rfl⟩, rfl⟩)
  have h1 : 1 ≤ (Txt.split x " ").length := List.length_pos_iff.mpr (split_ne x " ")
  omega
/-! ### the law's own reading -/
def numB (s : Str) (b : Int) : Int := if numOk s = true ∧ (decF (tl s) : Int) < b then (decF (tl s) : Int) else -1
theorem numB_bad {s : Str} (h : numOk s = false) (b : Int) : numB s b = -1 := if_neg fun z => by rw [h] at z; cases z.1
theorem numB_eq (s : Str) {b : Int} (hb : 0 < b) : numB s b = if 0 ≤ numV s ∧ numV s < b then numV s else -1 := by
  cases h : numOk s with
  | false => rw [numB_bad h, numV_neg h, if_neg (by omega)]
  | true =>
    rw [numV_pos h]
    unfold numB
    by_cases q : (decF (tl s) : Int) < b
    · rw [if_pos ⟨h, q⟩, if_pos ⟨by omega, q⟩]
    · rw [if_neg (fun z => q z.2), if_neg (fun z => q z.2)]
def five : List V := [.str "move", .str "add", .str "sub", .str "load", .str "store"]
def lastL (n b : Str) : Int := if inV (.str n) five = true then numB b 8 else if n = "set" then numB b 1048576 else -1
def ins2 (n a : Str) : List V := if n = "deed" ∧ inV (.str a) DL = true then [.str n, .str a] else if n = "jump" ∧ isL a = true then [.str n, .str a] else []
def ins3 (n a b : Str) : List V := if numB a 8 < 0 then [] else if n = "zero" ∧ isL b = true then [.str n, .int (numB a 8), .str b] else if lastL n b < 0 then [] else [.str n, .int (numB a 8), .int (lastL n b)]
def insL : List Str → List V
  | [n, a] => ins2 n a
  | [n, a, b] => ins3 n a b
  | _ => []
theorem partsF_one (r w : Str) : partsF [r] [w] = (partF r w).map fun v => [v] := by
  show (match partF r w, some [] with | some v, some vs => some (v :: vs) | _, _ => none) = _
  cases partF r w <;> rfl
theorem partsF_pair (r q w u : Str) : partsF [r, q] [w, u] = (partF r w).bind fun v => (partF q u).map fun x => [v, x] := by
  show (match partF r w, partsF [q] [u] with | some v, some vs => some (v :: vs) | _, _ => none) = _
  rw [partsF_one]
  cases partF r w <;> cases partF q u <;> rfl
theorem partF_deed (w : Str) : partF "deed" w = if inV (.str w) DL = true then some (.str w) else none := if_pos rfl
theorem partF_target (w : Str) : partF "target" w = if isL w = true then some (.str w) else none := (if_neg (by decide)).trans (if_pos rfl)
theorem partF_reg {r : Str} (w : Str) (h : r = "register" ∨ r = "word") : partF r w = if fitF (.int (numV w)) r 0 = true then some (.int (numV w)) else none := by
  rcases h with rfl | rfl <;> exact (if_neg (by decide)).trans (if_neg (by decide))
def rowI : Option (Str × List V) → List V
  | some (n, vs) => .str n :: vs | none => []
theorem five_str (n : Str) : inV (.str n) five = decide (n ∈ (["move", "add", "sub", "load", "store"] : List Str)) := inV_str n ["move", "add", "sub", "load", "store"]
theorem fit_reg (z : Int) : fitF (.int z) "register" 0 = decide (0 ≤ z ∧ z < 8) := rfl
theorem fit_word (z : Int) : fitF (.int z) "word" 0 = decide (0 ≤ z ∧ z < 1048576) := rfl
theorem insL_eq (ws : List Str) : insL ws = rowI (insF ws) := by
  have none_of : ∀ (n : Str) (us : List Str), (n ∈ names9 → us.length ≠ (rolesF n).length) → insF (n :: us) = none := fun n us h => by
    rw [insF_cons]
    by_cases hn : n ∈ names9
    · rw [if_pos hn]
      cases e : partsF (rolesF n) us with
      | none => rfl
      | some vs => exact absurd (partsF_len e) (h hn)
    · rw [if_neg hn]
  match ws with
  | [] => rfl
  | [n] =>
    rw [none_of n [] fun h => by
      unfold rolesF
      repeat' split
      all_goals decide]
    rfl
  | [n, a] =>
    show ins2 n a = _
    unfold ins2
    by_cases d : n = "deed"
    · subst d
      show _ = rowI ((partsF ["deed"] [a]).map _)
      rw [partsF_one, partF_deed]
      by_cases q : inV (.str a) DL = true
      · rw [if_pos (show _ ∧ _ from ⟨rfl, q⟩), if_pos q]; rfl
      · rw [if_neg (fun z : _ ∧ _ => q z.2), if_neg (fun z : _ ∧ _ => absurd z.1 (by decide)), if_neg q]; rfl
    by_cases j : n = "jump"
    · subst j
      show _ = rowI ((partsF ["target"] [a]).map _)
      rw [partsF_one, partF_target, if_neg (fun z : _ ∧ _ => absurd z.1 (by decide))]
      by_cases q : isL a = true
      · rw [if_pos (show _ ∧ _ from ⟨rfl, q⟩), if_pos q]; rfl
      · rw [if_neg (fun z : _ ∧ _ => q z.2), if_neg q]; rfl
    rw [if_neg (fun z : _ ∧ _ => d z.1), if_neg (fun z : _ ∧ _ => j z.1), none_of n [a] fun hn => ?_]
    · rfl
    · by_cases z : n = "zero"
      · subst z; exact fun e => nomatch e
      · obtain ⟨r, hr, _⟩ := rolesF_two hn d j z
        rw [hr]; exact fun e => nomatch e
  | [n, a, b] =>
    show ins3 n a b = _
    unfold ins3
    have hA := numB_eq a (b := 8) (by decide)
    have gA : numB a 8 < 0 ↔ ¬ fitF (.int (numV a)) "register" 0 = true := by
      rw [hA, fit_reg, decide_eq_true_eq]
      by_cases q : 0 ≤ numV a ∧ numV a < 8
      · rw [if_pos q]; exact ⟨fun z => by omega, fun z => absurd q z⟩
      · rw [if_neg q]; exact ⟨fun _ => q, fun _ => by decide⟩
    have eA : ¬ numB a 8 < 0 → numB a 8 = numV a := fun z => by
      rw [hA] at z ⊢
      by_cases q : 0 ≤ numV a ∧ numV a < 8
      · rw [if_pos q]
      · rw [if_neg q] at z; exact absurd (by decide) z
    by_cases hn : n ∈ names9
    · by_cases d : n = "deed"
      · subst d
        rw [none_of "deed" [a, b] fun _ => by exact fun e => nomatch e]
        have : lastL "deed" b = -1 := by unfold lastL; rw [five_str]; rfl
        rw [this, if_neg (fun z : _ ∧ _ => absurd z.1 (by decide)), if_pos (show (-1 : Int) < 0 by decide)]
        split <;> rfl
      by_cases j : n = "jump"
      · subst j
        rw [none_of "jump" [a, b] fun _ => by exact fun e => nomatch e]
        have : lastL "jump" b = -1 := by unfold lastL; rw [five_str]; rfl
        rw [this, if_neg (fun z : _ ∧ _ => absurd z.1 (by decide)), if_pos (show (-1 : Int) < 0 by decide)]
        split <;> rfl
      by_cases z : n = "zero"
      · subst z
        have : lastL "zero" b = -1 := by unfold lastL; rw [five_str]; rfl
        rw [this]
        show _ = rowI ((partsF ["register", "target"] [a, b]).map _)
        rw [partsF_pair, partF_target, partF_reg a (.inl rfl)]
        by_cases q : numB a 8 < 0
        · rw [if_pos q, if_neg (gA.mp q)]; rfl
        · rw [if_neg q, if_pos (Classical.byContradiction fun e => q (gA.mpr e)), eA q]
          by_cases g : isL b = true
          · rw [if_pos (show _ ∧ _ from ⟨rfl, g⟩), if_pos g]; rfl
          · rw [if_neg (fun z : _ ∧ _ => g z.2), if_neg g, if_pos (show (-1 : Int) < 0 by decide)]; rfl
      obtain ⟨r, hr, hr2, hr3⟩ := rolesF_two hn d j z
      have hL : lastL n b = if fitF (.int (numV b)) r 0 = true then numV b else -1 := by
        unfold lastL
        rw [five_str]
        rcases names_jz hn d j z with rfl | rfl | rfl | rfl | rfl | rfl
        · obtain rfl := hr3.mpr rfl
          rw [if_neg (by decide), if_pos rfl, numB_eq b (by decide), fit_word]
          simp only [decide_eq_true_eq]
        all_goals
          obtain rfl : r = "register" := hr2.resolve_right fun z => absurd (hr3.mp z) (by decide)
          rw [if_pos (by decide), numB_eq b (by decide), fit_reg]
          simp only [decide_eq_true_eq]
      rw [if_neg (fun h : _ ∧ _ => z h.1), insF_cons, if_pos hn, hr, partsF_pair, partF_reg a (.inl rfl), partF_reg b hr2, hL]
      have fb0 : fitF (.int (numV b)) r 0 = true → 0 ≤ numV b := fun h => by
        rcases hr2 with rfl | rfl
        · exact (of_decide_eq_true h).1
        · exact (of_decide_eq_true h).1
      by_cases q : numB a 8 < 0
      · rw [if_pos q, if_neg (gA.mp q)]
        rfl
      · rw [if_neg q, if_pos (Classical.byContradiction fun e => q (gA.mpr e)), eA q]
        by_cases g : fitF (.int (numV b)) r 0 = true
        · have := fb0 g
          rw [if_pos g, if_pos g, if_neg (by omega)]; rfl
        · rw [if_neg g, if_neg g, if_pos (show (-1 : Int) < 0 by decide)]; rfl
    · rw [none_of n [a, b] fun h => absurd h hn]
      have h1 : n ≠ "zero" := fun z => hn (by rw [z]; decide)
      have h2 : n ≠ "set" := fun z => hn (by rw [z]; decide)
      have h3 : inV (.str n) five = false := by
        rw [five_str]
        refine decide_eq_false fun z => hn ?_
        simp only [List.mem_cons, List.not_mem_nil, or_false] at z
        rcases z with rfl | rfl | rfl | rfl | rfl <;> decide
      have : lastL n b = -1 := by unfold lastL; rw [h3, if_neg (by decide), if_neg h2]
      rw [this, if_neg (fun z : _ ∧ _ => h1 z.1), if_pos (show (-1 : Int) < 0 by decide)]
      split <;> rfl
  | n :: a :: b :: c :: r =>
    rw [none_of n (a :: b :: c :: r) fun _ z => by
      have := roles_len n
      rw [← z] at this
      simp at this]
    rfl
theorem ws_cases {ws : List Str} (ne : ws ≠ []) : (∃ n us, ws = n :: us ∧ us.length ≠ 1 ∧ us.length ≠ 2 ∧ insL ws = []) ∨ (∃ n a, ws = [n, a]) ∨ ∃ n a b, ws = [n, a, b] := by
  match ws, ne with
  | [n], _ => exact .inl ⟨n, [], rfl, by decide, by decide, rfl⟩
  | [n, a], _ => exact .inr (.inl ⟨n, a, rfl⟩)
  | [n, a, b], _ => exact .inr (.inr ⟨n, a, b, rfl⟩)
  | n :: a :: b :: c :: r, _ => exact .inl ⟨n, a :: b :: c :: r, rfl, by simp, by simp, rfl⟩
theorem wd_mem (c : Nat) : decide (c ∈ (("abcdefghijklmnopqrstuvwxyz" : Str) ++ "0123456789").cps.toList) = (sm c || dg c) := by
  have : (("abcdefghijklmnopqrstuvwxyz" : Str) ++ "0123456789").cps.toList = ("abcdefghijklmnopqrstuvwxyz" : Str).cps.toList ++ ("0123456789" : Str).cps.toList := tl_append _ _
  rw [this, ← small_mem, ← dig_mem, ← Bool.decide_or, decide_eq_decide, List.mem_append]
/-! ### lengths -/
theorem sl_app (a b : Str) : (a ++ b).length = a.length + b.length := by rw [len_tl, tl_append, List.length_append, ← len_tl, ← len_tl]
theorem sl_one (c : Nat) : (⟨#[c]⟩ : Str).length = 1 := rfl
theorem sl_num {z : Int} {n : Nat} (h0 : 0 ≤ z) (h1 : z < 10 ^ 7) : (toString z : Str).length ≤ 7 := by
  rw [len_tl, tl_toString h0]
  exact numL_len (by decide) (by omega)
theorem sl_num1 {z : Int} (h0 : 0 ≤ z) (h1 : z < 10) : (toString z : Str).length ≤ 1 := by
  rw [len_tl, tl_toString h0]
  exact numL_len (k := 1) (by decide) (by omega)
theorem log_of {z : Int} (h0 : 0 ≤ z) (h1 : z < 10 ^ 7) : z.natAbs.log2 < 1920 := by
  have : z.natAbs.log2 ≤ z.natAbs := Nat.log2_le_self _
  by_cases h : z.natAbs = 0
  · rw [h]; decide
  · have := (Nat.log2_lt h (k := 24)).mpr (by omega)
    omega
theorem cut_to_tl (s : Str) {n : Int} (h : 0 ≤ n) : tl (cutS s none (some n)) = (tl s).take n.toNat := by
  have := tl_cutTo s n.toNat
  rwa [show ((n.toNat : Nat) : Int) = n by omega] at this
theorem cut_from_len (s : Str) {n : Int} (h : 0 ≤ n) : (cutS s (some n) none).length ≤ s.length - n.toNat := by
  show Array.size _ ≤ _
  have e : (cutS s (some n) none).length = (tl (cutS s (some n) none)).length := len_tl _
  have q : tl (cutS s (some n) none) = ((tl s).drop (HT.sIx s.length 0 (some n))).take (HT.sIx s.length s.length none - HT.sIx s.length 0 (some n)) := rfl
  show (cutS s (some n) none).length ≤ _
  rw [e, q, List.length_take, List.length_drop, ← len_tl, HT.sIx_none]
  have a : HT.sIx s.length 0 (some n) = min n.toNat s.length := by
    have q := HT.sIx_nat s.length 0 n.toNat
    rwa [show ((n.toNat : Nat) : Int) = n by omega] at q
  rw [a]
  omega
theorem cut_to_len (s : Str) {n : Int} (h : 0 ≤ n) : (cutS s none (some n)).length ≤ n.toNat := by
  rw [len_tl, cut_to_tl s h, List.length_take]
  omega
def ASn (n : Nat) (xs : List V) : Prop := ∀ x ∈ xs, ∃ z : Str, x = .str z ∧ z.length ≤ n
theorem ASn.nil {n : Nat} : ASn n [] := fun _ h => nomatch h
theorem ASn.cons {n : Nat} {z : Str} {xs : List V} (h : z.length ≤ n) (t : ASn n xs) : ASn n (.str z :: xs) := fun x hx => (List.mem_cons.mp hx).elim (fun e => ⟨z, e, h⟩) (t x)
theorem ASn.app {n : Nat} {xs ys : List V} (h : ASn n xs) (h' : ASn n ys) : ASn n (xs ++ ys) := fun x hx => (List.mem_append.mp hx).elim (h x) (h' x)

/-! ### promises -/
def sp_is_integer : Sp := fun vs H Q _ => ∃ i, vs = [.int i] ∧ Q (.bl true) H
theorem cl_is_integer {i : Int} {H : Hp} {Q : VK} {E : XK} (k : Q (.bl true) H) : sp_is_integer ([.int i] ++ []) H Q E := ⟨i, rfl, k⟩
def sp_bound : Sp := fun vs H Q _ => ∃ r n, vs = [.str r, .int n] ∧ Q (.int (boundF r n)) H
theorem cl_bound {r : Str} {n : Int} {H : Hp} {Q : VK} {E : XK} (k : Q (.int (boundF r n)) H) : sp_bound ([.str r, .int n] ++ []) H Q E := ⟨r, n, rfl, k⟩
def sp_fits : Sp := fun vs H Q _ => ∃ i r n, vs = [.int i, .str r, .int n] ∧ r ≠ "deed" ∧ Q (.bl (fitF (.int i) r n)) H
theorem cl_fits {i : Int} {r : Str} {n : Int} {H : Hp} {Q : VK} {E : XK} (h : r ≠ "deed") (k : Q (.bl (fitF (.int i) r n)) H) : sp_fits ([.int i, .str r, .int n] ++ []) H Q E := ⟨i, r, n, rfl, h, k⟩
def sp_is_label : Sp := fun vs H Q _ => ∃ (W : Wd) (s : Str), vs = [.str s] ∧ s.length ≤ 1000000 ∧ W.iv H ∧ ∀ H', Ex W H H' → Q (.bl (isL s)) H'
theorem cl_is_label {W : Wd} {s : Str} {H : Hp} {Q : VK} {E : XK} (h : s.length ≤ 1000000) (i : W.iv H) (k : ∀ H', Ex W H H' → Q (.bl (isL s)) H') : sp_is_label ([.str s] ++ []) H Q E := ⟨W, s, rfl, h, i, k⟩
def sp_label_in : Sp := fun vs H Q _ => ∃ (W : Wd) (s : Str), vs = [.str s] ∧ s.length ≤ 1000000 ∧ W.iv H ∧ ∀ H', Ex W H H' → Q (.str (labF s)) H'
theorem cl_label_in {W : Wd} {s : Str} {H : Hp} {Q : VK} {E : XK} (h : s.length ≤ 1000000) (i : W.iv H) (k : ∀ H', Ex W H H' → Q (.str (labF s)) H') : sp_label_in ([.str s] ++ []) H Q E := ⟨W, s, rfl, h, i, k⟩
def sp_is_ignored : Sp := fun vs H Q _ => ∃ s, vs = [.str s] ∧ Q (.bl (ignF s)) H
theorem cl_is_ignored {s : Str} {H : Hp} {Q : VK} {E : XK} (k : Q (.bl (ignF s)) H) : sp_is_ignored ([.str s] ++ []) H Q E := ⟨s, rfl, k⟩
def sp_number_in : Sp := fun vs H Q _ => ∃ s : Str, vs = [.str s] ∧ s.length ≤ 1000000 ∧ Q (.int (numV s)) H
theorem cl_number_in {s : Str} {H : Hp} {Q : VK} {E : XK} (h : s.length ≤ 1000000) (k : Q (.int (numV s)) H) : sp_number_in ([.str s] ++ []) H Q E := ⟨s, rfl, h, k⟩
def sp_part_in : Sp := fun vs H Q _ => ∃ (W : Wd) (word role : Str) (d : Addr) (kvs : List (Key × V)), vs = [.str word, .str role, .ref d] ∧ word.length ≤ 1000000 ∧ At W H d (.dK kvs) ∧ Q ((partP kvs role word).getD .non) H
theorem cl_part_in {W : Wd} {word role : Str} {d : Addr} {kvs : List (Key × V)} {H : Hp} {Q : VK} {E : XK} (l : word.length ≤ 1000000) (h : At W H d (.dK kvs)) (k : Q ((partP kvs role word).getD .non) H) : sp_part_in ([.str word, .str role, .ref d] ++ []) H Q E := ⟨W, word, role, d, kvs, rfl, l, h, k⟩
def sp_instruction_in : Sp := fun vs H Q _ => ∃ (W : Wd) (s : Str) (d : Addr) (kvs : List (Key × V)), vs = [.str s, .ref d] ∧ s.length ≤ 100000 ∧ W.iv H ∧ At W H d (.dK kvs) ∧ LabK kvs ∧ (insP kvs (Txt.split s " ") = none → ∀ H', Ex W H H' → Q .non H') ∧
  (∀ n us, insP kvs (Txt.split s " ") = some (n, us) → ∀ t H', Ex W H H' → At W H' t (.tup (.str n :: us)) → Q (.ref t) H')
theorem cl_instruction_in {W : Wd} {s : Str} {d : Addr} {kvs : List (Key × V)} {H : Hp} {Q : VK} {E : XK} (hl : s.length ≤ 100000) (i : W.iv H) (h : At W H d (.dK kvs)) (L : LabK kvs) (k1 : insP kvs (Txt.split s " ") = none → ∀ H', Ex W H H' → Q .non H')
    (k2 : ∀ n us, insP kvs (Txt.split s " ") = some (n, us) → ∀ t H', Ex W H H' → At W H' t (.tup (.str n :: us)) → Q (.ref t) H') : sp_instruction_in ([.str s, .ref d] ++ []) H Q E := ⟨W, s, d, kvs, rfl, hl, i, h, L, k1, k2⟩
def Sz (ls : List Str) : Prop := (∀ s ∈ ls, s.length ≤ 100000) ∧ ls.length ≤ 100000
theorem Sz.get {ls : List Str} (h : Sz ls) {i : Nat} {s : Str} (e : ls[i]? = some s) : s.length ≤ 100000 := h.1 s (List.mem_of_getElem? e)
def sp_labels_given : Sp := fun vs H Q _ => ∃ (W : Wd) (p : Addr) (ls : List Str), vs = [.ref p] ∧ W.iv H ∧ At W H p (.lst (ls.map V.str)) ∧ Sz ls ∧ ∀ d H', Ex W H H' → At W H' d (.dK (runP (ls.map formF)).1) → Q (.ref d) H'
theorem cl_labels_given {W : Wd} {p : Addr} {ls : List Str} {H : Hp} {Q : VK} {E : XK} (i : W.iv H) (h : At W H p (.lst (ls.map V.str))) (g : Sz ls) (k : ∀ d H', Ex W H H' → At W H' d (.dK (runP (ls.map formF)).1) → Q (.ref d) H') : sp_labels_given ([.ref p] ++ []) H Q E := ⟨W, p, ls, rfl, i, h, g, k⟩
def sp_last_instruction : Sp := fun vs H Q _ => ∃ (W : Wd) (p : Addr) (ls : List Str), vs = [.ref p] ∧ W.iv H ∧ At W H p (.lst (ls.map V.str)) ∧ Sz ls ∧ ∀ (z : Int) H', Ex W H H' → LastIs (ls.map formF) z → Q (.int z) H'
theorem cl_last_instruction {W : Wd} {p : Addr} {ls : List Str} {H : Hp} {Q : VK} {E : XK} (i : W.iv H) (h : At W H p (.lst (ls.map V.str))) (g : Sz ls) (k : ∀ (z : Int) H', Ex W H H' → LastIs (ls.map formF) z → Q (.int z) H') : sp_last_instruction ([.ref p] ++ []) H Q E := ⟨W, p, ls, rfl, i, h, g, k⟩
abbrev Rows (W : Wd) (H : Hp) : List Addr → List (List V) → Prop := F2 fun r row => At W H r (.tup row)
theorem Rows.mono {W : Wd} {H H' : Hp} (e : Ex W H H') {rs : List Addr} {rows : List (List V)} (h : Rows W H rs rows) : Rows W H' rs rows := F2.mono (fun _ _ a => e.at_ a) h
abbrev fsF (z : Str) : List Fm := (Txt.split z "\n").map formF
def sp_assemble (C : Addr) : Sp := fun vs H Q E => ∃ (W : Wd) (z : Str), vs = [.str z] ∧ z.length ≤ 50000 ∧ W.iv H ∧ (∀ i, First (fsF z) i → ∀ d H', Ex W H H' → At W H' d (.xd [("line", .int ((i : Int) + 1))]) → E (.ref C) (some d) H') ∧
  (NoBad (fsF z) → ∀ t H' rs, Ex W H H' → At W H' t (.tup (rs.map V.ref)) → Rows W H' rs (rowsOf (runP (fsF z)).1 (fsF z)) → Q (.ref t) H')
theorem ls_get {ls : List Str} {i : Nat} {x : V} (h : (ls.map V.str)[i]? = some x) : ∃ s, ls[i]? = some s ∧ x = .str s := by
  rw [List.getElem?_map] at h
  cases hz : ls[i]? with
  | none => rw [hz] at h; cases h
  | some s => rw [hz] at h; exact ⟨s, rfl, (Option.some.inj h).symm⟩
theorem fs_get {ls : List Str} {i : Nat} {s : Str} (h : ls[i]? = some s) : (ls.map formF)[i]? = some (formF s) := by rw [List.getElem?_map, h]; rfl
theorem runP_len (fs : List Fm) : (runP fs).1.length ≤ fs.length := by have := (run_len fs ([], 0)).1; simpa [runP] using this
theorem runL_len (fs : List Fm) : (runL fs).1.length ≤ fs.length := by have := (run_len fs ([], 0)).2; simpa [runL] using this
theorem runP_lab (ls : List Str) : LabK (runP (ls.map formF)).1 := (run_ok _ ([], 0) (form_labs ls) nil_lab).1
theorem runL_lab (ls : List Str) : LabK (runL (ls.map formF)).1 := (run_ok _ ([], 0) (form_labs ls) nil_lab).2
theorem runP_mem (w : Str) (fs : List Fm) : (valV (runP fs).1 (.inr w)).isSome = decide (w ∈ labN fs) := by have := (run_mem w fs ([], 0)).1; simpa [runP, valV_nil] using this
theorem runL_mem (w : Str) (fs : List Fm) : (valV (runL fs).1 (.inr w)).isSome = decide (w ∈ labN fs) := by have := (run_mem w fs ([], 0)).2; simpa [runL, valV_nil] using this
theorem part_ne {kvs : List (Key × V)} (L : LabK kvs) {r w : Str} {v : V} (h : partP kvs r w = some v) : v ≠ .non := by
  unfold partP at h
  split at h
  · split at h
    · obtain rfl := Option.some.inj h; exact fun z => nomatch z
    · cases h
  · split at h
    · obtain ⟨_, i, rfl⟩ := L w v h; exact fun z => nomatch z
    · split at h
      · obtain rfl := Option.some.inj h; exact fun z => nomatch z
      · cases h
/-! ### the pool -/
structure PoolIs (H : Hp) (b c : Addr) (r k s t : Int) (cs : List Int) : Prop where
  hb : H b = some (.lst [.int r, .int k, .int s, .ref c, .int t])
  hc : H c = some (.lst (cs.map .int))
  bc : b ≠ c
  k0 : 0 ≤ k
def WB (b : Addr) : Wd where
  own H a := a = b ∨ ∃ r k s c t, H b = some (.lst [.int r, .int k, .int s, .ref c, .int t]) ∧ a = c
  iv H := ∃ c r k s t cs, PoolIs H b c r k s t cs
  trk := by
    rintro H a ⟨c, r, k, s, t, cs, B⟩ (rfl | ⟨r', k', s', c', t', e, rfl⟩)
    · exact ⟨_, B.hb⟩
    · rw [B.hb] at e
      injection e with e; injection e with e; injection e with _ e; injection e with _ e; injection e with _ e; injection e with e _; cases e
      exact ⟨_, B.hc⟩
  loc := by
    rintro H H' ⟨c, r, k, s, t, cs, B⟩ h
    have eb := h b (.inl rfl)
    have ec := h c (.inr ⟨r, k, s, c, t, B.hb, rfl⟩)
    refine ⟨⟨c, r, k, s, t, cs, eb.trans B.hb, ec.trans B.hc, B.bc, B.k0⟩, fun a ha => ?_⟩
    rcases ha with rfl | ⟨r', k', s', c', t', e, q⟩
    · exact .inl rfl
    · exact .inr ⟨r', k', s', c', t', eb ▸ e, q⟩
theorem ex_pool {H H2 : Hp} {b c : Addr} {r k s t r2 k2 s2 t2 : Int} {cs : List Int} (B : PoolIs H b c r k s t cs) (B2 : PoolIs H2 b c r2 k2 s2 t2 cs) (h : ∀ a, a ≠ b → H2 a = H a) : Ex (WB b) H H2 := by
  refine ⟨⟨_, _, _, _, _, _, B⟩, ⟨_, _, _, _, _, _, B2⟩, fun {a o} ha => ?_, fun {a o} ha => ?_⟩
  · have nb : a ≠ b := fun e => ha.2 (.inl e)
    have nc : a ≠ c := fun e => ha.2 (.inr ⟨r, k, s, c, t, B.hb, e⟩)
    refine ⟨(h a nb).trans ha.1, ?_⟩
    rintro (e | ⟨r', k', s', c', t', e, q⟩)
    · exact nb e
    · rw [B2.hb] at e
      injection e with e; injection e with e; injection e with _ e; injection e with _ e; injection e with _ e; injection e with e _; cases e
      exact nc q
  · by_cases nb : a = b
    · exact ⟨_, nb ▸ B2.hb⟩
    · exact ⟨_, (h a nb).trans ha⟩
/-! ### promises of the law's own -/
def sp_law_pool (K : PySem.W.Frag) : Sp := fun vs H Q _ => ∃ (a : Addr) (ns : List Int), vs = [.ref a] ∧ SqL K H a (ns.map V.int) ∧ ns.length ≤ 63 ∧ ∀ b H', (WB b).iv H' → Q (.ref b) H'
def sp_law_draw : Sp := fun vs H Q _ => ∃ (b : Addr) (many : Int), vs = [.ref b, .int many] ∧ 0 < many ∧ many < 1073741824 ∧ (WB b).iv H ∧ ∀ r H', Ex (WB b) H H' → 0 ≤ r → r < many → Q (.int r) H'
theorem cl_law_draw {b : Addr} {many : Int} {H : Hp} {Q : VK} {E : XK} (h1 : 0 < many) (h2 : many < 1073741824) (i : (WB b).iv H) (k : ∀ r H', Ex (WB b) H H' → 0 ≤ r → r < many → Q (.int r) H') : sp_law_draw ([.ref b, .int many] ++ []) H Q E := ⟨b, many, rfl, h1, h2, i, k⟩

/-! ### promises of the law's own -/
def sp_law_is_integer : Sp := fun vs H Q _ => ∃ i, vs = [.int i] ∧ Q (.bl true) H
theorem cl_law_is_integer {z : Int} {H : Hp} {Q : VK} {E : XK} (k : Q (.bl true) H) : sp_law_is_integer ([.int z] ++ []) H Q E := ⟨z, rfl, k⟩
def sp_law_deeds : Sp := fun vs H Q _ => ∃ W : Wd, vs = [] ∧ W.iv H ∧ ∀ p H', Ex W H H' → At W H' p (.lst DL) → Q (.ref p) H'
theorem cl_law_deeds {W : Wd} {H : Hp} {Q : VK} {E : XK} (i : W.iv H) (k : ∀ p H', Ex W H H' → At W H' p (.lst DL) → Q (.ref p) H') : sp_law_deeds ([] ++ []) H Q E := ⟨W, rfl, i, k⟩
def signs : Str := " !\"#$&'()*+,-./0123456789:;<=>?@ABCDEFGHIJKLMNOPQRSTUVWXYZ[\\]^_`" ++ "abcdefghijklmnopqrstuvwxyz{|}~\t"
def sp_law_signs : Sp := fun vs H Q _ => vs = [] ∧ Q (.str signs) H
theorem cl_law_signs {H : Hp} {Q : VK} {E : XK} (k : Q (.str signs) H) : sp_law_signs ([] ++ []) H Q E := ⟨rfl, k⟩
def AB (row : List V) : Prop := ∀ x ∈ row, (∃ z, x = .int z) ∨ ∃ s, x = .str s
def sp_law_same_row : Sp := fun vs H Q _ => ∃ (W : Wd) (t d : Addr) (row : List V), vs = [.ref t, .ref d] ∧ At W H t (.tup row) ∧ At W H d (.lst row) ∧ AB row ∧ row.length ≤ 1000 ∧ Q (.bl true) H
theorem cl_law_same_row {W : Wd} {t d : Addr} {row : List V} {H : Hp} {Q : VK} {E : XK} (h1 : At W H t (.tup row)) (h2 : At W H d (.lst row)) (h3 : AB row) (h4 : row.length ≤ 1000) (k : Q (.bl true) H) : sp_law_same_row ([.ref t, .ref d] ++ []) H Q E := ⟨W, t, d, row, rfl, h1, h2, h3, h4, k⟩
abbrev LRows (W : Wd) (H : Hp) : List Addr → List (List V) → Prop := F2 fun r row => At W H r (.lst row)
def sp_law_same_program : Sp := fun vs H Q _ => ∃ (W : Wd) (t d : Addr) (rs ds : List Addr) (rows : List (List V)), vs = [.ref t, .ref d] ∧ At W H t (.tup (rs.map V.ref)) ∧ Rows W H rs rows ∧ At W H d (.lst (ds.map V.ref)) ∧ LRows W H ds rows ∧ (∀ row ∈ rows, AB row ∧ row.length ≤ 1000) ∧ rows.length ≤ 40000 ∧ Q (.bl true) H
def GoodU (us : List Str) : Prop := ∀ l ∈ us, isL l = true
def sp_law_label : Sp := fun vs H Q _ => ∃ (b u : Addr) (us : List Str), vs = [.ref b, .ref u] ∧ (WB b).iv H ∧ At (WB b) H u (.lst (us.map V.str)) ∧ us.length ≤ 40 ∧ ∀ l H', Ex (WB b) H H' → isL l = true → l ∉ us → Q (.str l) H'
theorem cl_law_label {b u : Addr} {us : List Str} {H : Hp} {Q : VK} {E : XK} (i : (WB b).iv H) (h : At (WB b) H u (.lst (us.map V.str))) (hl : us.length ≤ 40) (k : ∀ l H', Ex (WB b) H H' → isL l = true → l ∉ us → Q (.str l) H') : sp_law_label ([.ref b, .ref u] ++ []) H Q E := ⟨b, u, us, rfl, i, h, hl, k⟩
/-! ### data, compared -/
def pd : V → PyData
  | .non => .none | .bl b => .bool b | .int i => .int i | .str s => .str s | _ => .none
theorem dp_pl {K : PySem.W.Frag} {H : Hp} {v : V} (h : Pl v) : Dp K H v (pd v) := by
  cases h with
  | non => exact .non
  | bl b => exact .bl b
  | int i => exact .int i
  | str s => exact .str s
theorem dp_row {K : PySem.W.Frag} {H : Hp} : ∀ {row : List V}, (∀ v ∈ row, Pl v) → DpAll K H row (row.map pd)
  | [], _ => .nil
  | v :: r, h => .cons (dp_pl (h v (List.mem_cons_self ..))) (dp_row fun u hu => h u (List.mem_cons_of_mem _ hu))
theorem can_all : ∀ {vs : List V}, (∀ v ∈ vs, PyData.canLay0 (pd v) = true) → PyData.canLayAll0 (vs.map pd) = true
  | [], _ => rfl
  | v :: vs, h => by
    rw [List.map_cons, PyData.canLayAll0, h v (List.mem_cons_self ..), can_all fun u hu => h u (List.mem_cons_of_mem _ hu)]
    rfl
theorem dep_all : ∀ vs : List V, PyData.depthAll (vs.map pd) = 0
  | [] => rfl
  | v :: vs => by
    rw [List.map_cons, PyData.depthAll, dep_all vs]
    cases v <;> rfl
theorem rd_eqNil {W : Wd} {K : PySem.W.Frag} {H : Hp} {Q : VK} {p q : Addr} {row : List V} (h : At W H p (.lst row)) (hq : At W H q (.lst [])) (pl : ∀ v ∈ row, Pl v) (ok : ∀ v ∈ row, PyData.canLay0 (pd v) = true) (k : Q (.bl (decide (row = []))) H) : rEqD K (.ref p) (.ref q) H Q := by
  refine ⟨.list (row.map pd), .list [], .lst h.sl (dp_row pl), .lst hq.sl .nil, ?_, by decide +kernel, ?_⟩
  · unfold SeqAt.shaped
    rw [PyData.canLay0, can_all ok, PyData.depth, dep_all]
    rfl
  · cases row with
    | nil => exact cast_bl k (by decide +kernel)
    | cons v vs =>
      refine cast_bl k ?_
      rw [decide_eq_false (fun z => nomatch z), List.map_cons]
      show false = PyData.eqv (.list _) (.list [])
      rw [PyData.eqv, SeqAt.eqvAll_other_length (by simp)]
theorem ok_of {s : Str} (h : ∀ c ∈ tl s, c < 0x110000) : PyData.canLay0 (.str s) = true := by
  rw [PyData.canLay0]
  show s.cps.all (fun c => decide (c < 0x110000)) = true
  rw [← Array.all_toList, List.all_eq_true]
  exact fun c hc => decide_eq_true (h c hc)
theorem names_lay {n : Str} (h : n ∈ names9) : PyData.canLay0 (.str n) = true := by
  have q : (names9.all fun s => PyData.canLay0 (.str s)) = true := by decide +kernel
  exact List.all_eq_true.mp q _ h
theorem wf_lay {n : Str} {vs : List V} (h : Wf n vs) : ∀ v ∈ (.str n :: vs : List V), Pl v ∧ PyData.canLay0 (pd v) = true := by
  intro v hv0
  have isL_lay : ∀ {l : Str}, isL l = true → PyData.canLay0 (.str l) = true := fun {l} hl => by
    obtain ⟨c, r, e, _, _, hh⟩ := isL_of hl
    refine ok_of fun x hx => ?_
    have := hh x hx
    unfold sm dg at this
    simp only [Bool.or_eq_true, decide_eq_true_eq] at this
    omega
  rcases List.mem_cons.mp hv0 with rfl | hv
  · refine ⟨.str _, ?_⟩
    cases h with
    | deed _ => exact names_lay (by decide)
    | jump _ => exact names_lay (by decide)
    | zero _ => exact names_lay (by decide)
    | two hn _ _ => exact names_lay hn
  · cases h with
    | deed hd =>
      rw [List.mem_singleton.mp hv]
      refine ⟨.str _, ?_⟩
      rw [show DL = (["halt", "until", "clock", "look", "claim", "free", "copy", "drop", "revoke", "map", "unmap", "send", "take", "trysend", "trytake", "call", "reply", "ring", "await", "tryawait", "ack", "give", "pull"] : List Str).map V.str from rfl, inV_str, decide_eq_true_eq] at hd
      have q : ((["halt", "until", "clock", "look", "claim", "free", "copy", "drop", "revoke", "map", "unmap", "send", "take", "trysend", "trytake", "call", "reply", "ring", "await", "tryawait", "ack", "give", "pull"] : List Str).all fun s => PyData.canLay0 (.str s)) = true := by decide +kernel
      exact List.all_eq_true.mp q _ hd
    | jump hl =>
      rw [List.mem_singleton.mp hv]
      exact ⟨.str _, isL_lay hl⟩
    | zero hl =>
      rcases List.mem_cons.mp hv with rfl | hv
      · exact ⟨.int _, rfl⟩
      · rw [List.mem_singleton.mp hv]; exact ⟨.str _, isL_lay hl⟩
    | two _ _ _ =>
      rcases List.mem_cons.mp hv with rfl | hv
      · exact ⟨.int _, rfl⟩
      · rw [List.mem_singleton.mp hv]; exact ⟨.int _, rfl⟩
/-! ### the law's reading -/
def sp_law_read_number : Sp := fun vs H Q _ => ∃ (s : Str) (b : Int), vs = [.str s, .int b] ∧ s.length ≤ 1000000 ∧ Q (.int (numB s b)) H
theorem cl_law_read_number {s : Str} {b : Int} {H : Hp} {Q : VK} {E : XK} (h : s.length ≤ 1000000) (k : Q (.int (numB s b)) H) : sp_law_read_number ([.str s, .int b] ++ []) H Q E := ⟨s, b, rfl, h, k⟩
def sp_law_is_label : Sp := fun vs H Q _ => ∃ s : Str, vs = [.str s] ∧ s.length ≤ 1000000 ∧ Q (.bl (isL s)) H
theorem cl_law_is_label {s : Str} {H : Hp} {Q : VK} {E : XK} (h : s.length ≤ 1000000) (k : Q (.bl (isL s)) H) : sp_law_is_label ([.str s] ++ []) H Q E := ⟨s, rfl, h, k⟩
def sp_law_read_instruction : Sp := fun vs H Q _ => ∃ (W : Wd) (p : Addr) (ws : List Str), vs = [.ref p] ∧ W.iv H ∧ At W H p (.lst (ws.map V.str)) ∧ ws ≠ [] ∧ (∀ w ∈ ws, w.length ≤ 1000000) ∧ ∀ r H', Ex W H H' → At W H' r (.lst (rowI (insF ws))) → Q (.ref r) H'
theorem cl_law_read_instruction {W : Wd} {p : Addr} {ws : List Str} {H : Hp} {Q : VK} {E : XK} (i : W.iv H) (h : At W H p (.lst (ws.map V.str))) (ne : ws ≠ []) (hl : ∀ w ∈ ws, w.length ≤ 1000000) (k : ∀ r H', Ex W H H' → At W H' r (.lst (rowI (insF ws))) → Q (.ref r) H') : sp_law_read_instruction ([.ref p] ++ []) H Q E := ⟨W, p, ws, rfl, i, h, ne, hl, k⟩
def FmAt (W : Wd) (H : Hp) (r : Addr) : Fm → Prop
  | .ign => At W H r (.lst [.int 0, .str ""])
  | .lab l => At W H r (.lst [.int 1, .str l])
  | .ins n vs => ∃ q, At W H r (.lst [.int 2, .ref q]) ∧ At W H q (.lst (.str n :: vs))
  | .bad => At W H r (.lst [.int 3, .str ""])
theorem FmAt.mono {W : Wd} {H H' : Hp} (e : Ex W H H') {r : Addr} : ∀ {f : Fm}, FmAt W H r f → FmAt W H' r f
  | .ign, h => e.at_ h
  | .lab _, h => e.at_ h
  | .ins _ _, ⟨q, a, b⟩ => ⟨q, e.at_ a, e.at_ b⟩
  | .bad, h => e.at_ h
abbrev FmRows (W : Wd) (H : Hp) : List Addr → List Fm → Prop := F2 (FmAt W H)
theorem FmRows.mono {W : Wd} {H H' : Hp} (e : Ex W H H') {rs : List Addr} {fs : List Fm} (h : FmRows W H rs fs) : FmRows W H' rs fs := F2.mono (fun _ _ a => FmAt.mono e a) h
def sp_law_form : Sp := fun vs H Q _ => ∃ (W : Wd) (s : Str), vs = [.str s] ∧ s.length ≤ 100000 ∧ W.iv H ∧ ∀ r H', Ex W H H' → FmAt W H' r (formF s) → Q (.ref r) H'
theorem cl_law_form {W : Wd} {s : Str} {H : Hp} {Q : VK} {E : XK} (h : s.length ≤ 100000) (i : W.iv H) (k : ∀ r H', Ex W H H' → FmAt W H' r (formF s) → Q (.ref r) H') : sp_law_form ([.str s] ++ []) H Q E := ⟨W, s, rfl, h, i, k⟩
def sp_law_forms : Sp := fun vs H Q _ => ∃ (W : Wd) (z : Str), vs = [.str z] ∧ z.length ≤ 50000 ∧ W.iv H ∧ ∀ p rs H', Ex W H H' → At W H' p (.lst (rs.map V.ref)) → FmRows W H' rs (fsF z) → Q (.ref p) H'
theorem cl_law_forms {W : Wd} {z : Str} {H : Hp} {Q : VK} {E : XK} (h : z.length ≤ 50000) (i : W.iv H) (k : ∀ p rs H', Ex W H H' → At W H' p (.lst (rs.map V.ref)) → FmRows W H' rs (fsF z) → Q (.ref p) H') : sp_law_forms ([.str z] ++ []) H Q E := ⟨W, z, rfl, h, i, k⟩
def sp_law_given : Sp := fun vs H Q _ => ∃ (W : Wd) (p : Addr) (rs : List Addr) (fs : List Fm), vs = [.ref p] ∧ W.iv H ∧ At W H p (.lst (rs.map V.ref)) ∧ FmRows W H rs fs ∧ fs.length ≤ 100000 ∧ ∀ d H', Ex W H H' → At W H' d (.dK (runL fs).1) → Q (.ref d) H'
theorem cl_law_given {W : Wd} {p : Addr} {rs : List Addr} {fs : List Fm} {H : Hp} {Q : VK} {E : XK} (i : W.iv H) (h : At W H p (.lst (rs.map V.ref))) (h2 : FmRows W H rs fs) (hl : fs.length ≤ 100000) (k : ∀ d H', Ex W H H' → At W H' d (.dK (runL fs).1) → Q (.ref d) H') : sp_law_given ([.ref p] ++ []) H Q E := ⟨W, p, rs, fs, rfl, i, h, h2, hl, k⟩
def sp_law_due : Sp := fun vs H Q _ => ∃ (W : Wd) (z : Str), vs = [.str z] ∧ z.length ≤ 50000 ∧ W.iv H ∧ (∀ i, First (fsF z) i → ∀ p H', Ex W H H' → At W H' p (.lst [.int 1, .int ((i : Int) + 1)]) → Q (.ref p) H') ∧
  (NoBad (fsF z) → ∀ p q rs H', Ex W H H' → At W H' p (.lst [.int 0, .ref q]) → At W H' q (.lst (rs.map V.ref)) → LRows W H' rs (rowsOf (runL (fsF z)).1 (fsF z)) → Q (.ref p) H')
theorem cl_law_due {W : Wd} {z : Str} {H : Hp} {Q : VK} {E : XK} (h : z.length ≤ 50000) (i : W.iv H) (k1 : ∀ i, First (fsF z) i → ∀ p H', Ex W H H' → At W H' p (.lst [.int 1, .int ((i : Int) + 1)]) → Q (.ref p) H')
    (k2 : NoBad (fsF z) → ∀ p q rs H', Ex W H H' → At W H' p (.lst [.int 0, .ref q]) → At W H' q (.lst (rs.map V.ref)) → LRows W H' rs (rowsOf (runL (fsF z)).1 (fsF z)) → Q (.ref p) H') : sp_law_due ([.str z] ++ []) H Q E := ⟨W, z, rfl, h, i, k1, k2⟩
def sp_law_holds : Sp := fun vs H Q _ => ∃ (W : Wd) (z : Str), vs = [.str z] ∧ z.length ≤ 39000 ∧ W.iv H ∧ ∀ H', Ex W H H' → Q (.bl true) H'
theorem cl_law_holds {W : Wd} {z : Str} {H : Hp} {Q : VK} {E : XK} (h : z.length ≤ 39000) (i : W.iv H) (k : ∀ H', Ex W H H' → Q (.bl true) H') : sp_law_holds ([.str z] ++ []) H Q E := ⟨W, z, rfl, h, i, k⟩
/-! ### what is drawn -/
def sp_law_number_word : Sp := fun vs H Q _ => ∃ (b : Addr) (n : Int), vs = [.ref b, .int n] ∧ 2 ≤ n ∧ n ≤ 1048576 ∧ (WB b).iv H ∧ ∀ z H', Ex (WB b) H H' → z.length ≤ 60 → Q (.str z) H'
theorem cl_law_number_word {b : Addr} {n : Int} {H : Hp} {Q : VK} {E : XK} (h1 : 2 ≤ n) (h2 : n ≤ 1048576) (i : (WB b).iv H) (k : ∀ z H', Ex (WB b) H H' → z.length ≤ 60 → Q (.str z) H') : sp_law_number_word ([.ref b, .int n] ++ []) H Q E := ⟨b, n, rfl, h1, h2, i, k⟩
/-- three labels -/
def N3 (W : Wd) (H : Hp) (p : Addr) (a b c : Str) : Prop := At W H p (.lst [.str a, .str b, .str c]) ∧ a.length ≤ 8 ∧ b.length ≤ 8 ∧ c.length ≤ 8
theorem N3.ex {W : Wd} {H H' : Hp} (e : Ex W H H') {p : Addr} {a b c : Str} (h : N3 W H p a b c) : N3 W H' p a b c := ⟨e.at_ h.1, h.2⟩
def sp_law_odd_label : Sp := fun vs H Q _ => ∃ (b p : Addr) (x y z : Str), vs = [.ref b, .ref p] ∧ (WB b).iv H ∧ N3 (WB b) H p x y z ∧ ∀ u H', Ex (WB b) H H' → u.length ≤ 9 → Q (.str u) H'
theorem cl_law_odd_label {b p : Addr} {x y z : Str} {H : Hp} {Q : VK} {E : XK} (i : (WB b).iv H) (h : N3 (WB b) H p x y z) (k : ∀ u H', Ex (WB b) H H' → u.length ≤ 9 → Q (.str u) H') : sp_law_odd_label ([.ref b, .ref p] ++ []) H Q E := ⟨b, p, x, y, z, rfl, i, h, k⟩
def sp_law_odd_line : Sp := fun vs H Q _ => ∃ (b p : Addr) (x y z : Str), vs = [.ref b, .ref p] ∧ (WB b).iv H ∧ N3 (WB b) H p x y z ∧ ∀ u H', Ex (WB b) H H' → u.length ≤ 180 → Q (.str u) H'
theorem cl_law_odd_line {b p : Addr} {x y z : Str} {H : Hp} {Q : VK} {E : XK} (i : (WB b).iv H) (h : N3 (WB b) H p x y z) (k : ∀ u H', Ex (WB b) H H' → u.length ≤ 180 → Q (.str u) H') : sp_law_odd_line ([.ref b, .ref p] ++ []) H Q E := ⟨b, p, x, y, z, rfl, i, h, k⟩
def sp_law_right_line : Sp := fun vs H Q _ => ∃ (b p : Addr) (x y z : Str), vs = [.ref b, .ref p] ∧ (WB b).iv H ∧ N3 (WB b) H p x y z ∧ ∀ u H', Ex (WB b) H H' → u.length ≤ 30 → Q (.str u) H'
theorem cl_law_right_line {b p : Addr} {x y z : Str} {H : Hp} {Q : VK} {E : XK} (i : (WB b).iv H) (h : N3 (WB b) H p x y z) (k : ∀ u H', Ex (WB b) H H' → u.length ≤ 30 → Q (.str u) H') : sp_law_right_line ([.ref b, .ref p] ++ []) H Q E := ⟨b, p, x, y, z, rfl, i, h, k⟩
def sp_law_lines : Sp := fun vs H Q _ => ∃ (b p : Addr) (x y z : Str), vs = [.ref b, .ref p] ∧ (WB b).iv H ∧ N3 (WB b) H p x y z ∧ ∀ q ls H', Ex (WB b) H H' → At (WB b) H' q (.lst (ls.map V.str)) → TX ls ≤ 36500 → Q (.ref q) H'
theorem cl_law_lines {b p : Addr} {x y z : Str} {H : Hp} {Q : VK} {E : XK} (i : (WB b).iv H) (h : N3 (WB b) H p x y z) (k : ∀ q ls H', Ex (WB b) H H' → At (WB b) H' q (.lst (ls.map V.str)) → TX ls ≤ 36500 → Q (.ref q) H') : sp_law_lines ([.ref b, .ref p] ++ []) H Q E := ⟨b, p, x, y, z, rfl, i, h, k⟩
def sp_law_sign_changed : Sp := fun vs H Q _ => ∃ (b : Addr) (u : Str), vs = [.ref b, .str u] ∧ (WB b).iv H ∧ u.length ≤ 100000 ∧ ∀ x H', Ex (WB b) H H' → x.length ≤ u.length + 1 → Q (.str x) H'
theorem cl_law_sign_changed {b : Addr} {u : Str} {H : Hp} {Q : VK} {E : XK} (i : (WB b).iv H) (h : u.length ≤ 100000) (k : ∀ x H', Ex (WB b) H H' → x.length ≤ u.length + 1 → Q (.str x) H') : sp_law_sign_changed ([.ref b, .str u] ++ []) H Q E := ⟨b, u, rfl, i, h, k⟩
def sp_law_changed : Sp := fun vs H Q _ => ∃ (b l p : Addr) (x y z : Str) (ls : List Str), vs = [.ref b, .ref l, .ref p] ∧ (WB b).iv H ∧ At (WB b) H l (.lst (ls.map V.str)) ∧ TX ls ≤ 38000 ∧ N3 (WB b) H p x y z ∧ ∀ q us H', Ex (WB b) H H' → At (WB b) H' q (.lst (us.map V.str)) → TX us ≤ TX ls + 200 → Q (.ref q) H'
theorem cl_law_changed {b l p : Addr} {x y z : Str} {ls : List Str} {H : Hp} {Q : VK} {E : XK} (i : (WB b).iv H) (h : At (WB b) H l (.lst (ls.map V.str))) (hl : TX ls ≤ 38000) (hn : N3 (WB b) H p x y z) (k : ∀ q us H', Ex (WB b) H H' → At (WB b) H' q (.lst (us.map V.str)) → TX us ≤ TX ls + 200 → Q (.ref q) H') :
    sp_law_changed ([.ref b, .ref l, .ref p] ++ []) H Q E := ⟨b, l, p, x, y, z, ls, rfl, i, h, hl, hn, k⟩
def spLaw (K : PySem.W.Frag) : Sp := fun vs H Q _ => ∃ (a : Addr) (ns : List Int), vs = [.ref a] ∧ SqL K H a (ns.map V.int) ∧ ns.length ≤ 63 ∧ ∀ H', Q (.bl true) H'
structure Tx (P : Program) (w : World) (K : PySem.W.Frag) (mg : Str → Option Value) where
  f_is_integer : Addr
  fd_is_integer : FuncData
  F_is_integer : Fun K "is_integer" "is_integer" s_is_integer f_is_integer fd_is_integer
  b_is_integer : Binds K fd_is_integer ["value"] []
  g_is_integer : mg "is_integer" = some (.ref f_is_integer)
  f_bound : Addr
  fd_bound : FuncData
  F_bound : Fun K "_bound" "_bound" s_bound f_bound fd_bound
  b_bound : Binds K fd_bound ["role", "length"] []
  g_bound : mg "_bound" = some (.ref f_bound)
  f_fits : Addr
  fd_fits : FuncData
  F_fits : Fun K "_fits" "_fits" s_fits f_fits fd_fits
  b_fits : Binds K fd_fits ["part", "role", "length"] []
  g_fits : mg "_fits" = some (.ref f_fits)
  f_is_label : Addr
  fd_is_label : FuncData
  F_is_label : Fun K "_is_label" "_is_label" s_is_label f_is_label fd_is_label
  b_is_label : Binds K fd_is_label ["word"] []
  g_is_label : mg "_is_label" = some (.ref f_is_label)
  f_label_in : Addr
  fd_label_in : FuncData
  F_label_in : Fun K "_label_in" "_label_in" s_label_in f_label_in fd_label_in
  b_label_in : Binds K fd_label_in ["line"] []
  g_label_in : mg "_label_in" = some (.ref f_label_in)
  f_is_ignored : Addr
  fd_is_ignored : FuncData
  F_is_ignored : Fun K "_is_ignored" "_is_ignored" s_is_ignored f_is_ignored fd_is_ignored
  b_is_ignored : Binds K fd_is_ignored ["line"] []
  g_is_ignored : mg "_is_ignored" = some (.ref f_is_ignored)
  f_number_in : Addr
  fd_number_in : FuncData
  F_number_in : Fun K "_number_in" "_number_in" s_number_in f_number_in fd_number_in
  b_number_in : Binds K fd_number_in ["word"] []
  g_number_in : mg "_number_in" = some (.ref f_number_in)
  f_part_in : Addr
  fd_part_in : FuncData
  F_part_in : Fun K "_part_in" "_part_in" s_part_in f_part_in fd_part_in
  b_part_in : Binds K fd_part_in ["word", "role", "labels"] []
  g_part_in : mg "_part_in" = some (.ref f_part_in)
  f_instruction_in : Addr
  fd_instruction_in : FuncData
  F_instruction_in : Fun K "_instruction_in" "_instruction_in" s_instruction_in f_instruction_in fd_instruction_in
  b_instruction_in : Binds K fd_instruction_in ["line", "labels"] []
  g_instruction_in : mg "_instruction_in" = some (.ref f_instruction_in)
  f_labels_given : Addr
  fd_labels_given : FuncData
  F_labels_given : Fun K "_labels_given" "_labels_given" s_labels_given f_labels_given fd_labels_given
  b_labels_given : Binds K fd_labels_given ["lines"] []
  g_labels_given : mg "_labels_given" = some (.ref f_labels_given)
  f_last_instruction : Addr
  fd_last_instruction : FuncData
  F_last_instruction : Fun K "_last_instruction" "_last_instruction" s_last_instruction f_last_instruction fd_last_instruction
  b_last_instruction : Binds K fd_last_instruction ["lines"] []
  g_last_instruction : mg "_last_instruction" = some (.ref f_last_instruction)
  f_assemble : Addr
  fd_assemble : FuncData
  F_assemble : Fun K "assemble" "assemble" s_assemble f_assemble fd_assemble
  b_assemble : Binds K fd_assemble ["text"] []
  g_assemble : mg "assemble" = some (.ref f_assemble)
  f_law_pool : Addr
  fd_law_pool : FuncData
  F_law_pool : Fun K "_law_pool" "_law_pool" s_law_pool f_law_pool fd_law_pool
  b_law_pool : Binds K fd_law_pool ["script"] []
  g_law_pool : mg "_law_pool" = some (.ref f_law_pool)
  f_law_draw : Addr
  fd_law_draw : FuncData
  F_law_draw : Fun K "_law_draw" "_law_draw" s_law_draw f_law_draw fd_law_draw
  b_law_draw : Binds K fd_law_draw ["pool", "many"] []
  g_law_draw : mg "_law_draw" = some (.ref f_law_draw)
  f_law_is_integer : Addr
  fd_law_is_integer : FuncData
  F_law_is_integer : Fun K "_law_is_integer" "_law_is_integer" s_law_is_integer f_law_is_integer fd_law_is_integer
  b_law_is_integer : Binds K fd_law_is_integer ["thing"] []
  g_law_is_integer : mg "_law_is_integer" = some (.ref f_law_is_integer)
  f_law_deeds : Addr
  fd_law_deeds : FuncData
  F_law_deeds : Fun K "_law_deeds" "_law_deeds" s_law_deeds f_law_deeds fd_law_deeds
  b_law_deeds : Binds K fd_law_deeds [] []
  g_law_deeds : mg "_law_deeds" = some (.ref f_law_deeds)
  f_law_signs : Addr
  fd_law_signs : FuncData
  F_law_signs : Fun K "_law_signs" "_law_signs" s_law_signs f_law_signs fd_law_signs
  b_law_signs : Binds K fd_law_signs [] []
  g_law_signs : mg "_law_signs" = some (.ref f_law_signs)
  f_law_same_row : Addr
  fd_law_same_row : FuncData
  F_law_same_row : Fun K "_law_same_row" "_law_same_row" s_law_same_row f_law_same_row fd_law_same_row
  b_law_same_row : Binds K fd_law_same_row ["told", "due"] []
  g_law_same_row : mg "_law_same_row" = some (.ref f_law_same_row)
  f_law_same_program : Addr
  fd_law_same_program : FuncData
  F_law_same_program : Fun K "_law_same_program" "_law_same_program" s_law_same_program f_law_same_program fd_law_same_program
  b_law_same_program : Binds K fd_law_same_program ["told", "due"] []
  g_law_same_program : mg "_law_same_program" = some (.ref f_law_same_program)
  f_law_label : Addr
  fd_law_label : FuncData
  F_law_label : Fun K "_law_label" "_law_label" s_law_label f_law_label fd_law_label
  b_law_label : Binds K fd_law_label ["pool", "used"] []
  g_law_label : mg "_law_label" = some (.ref f_law_label)
  f_law_read_number : Addr
  fd_law_read_number : FuncData
  F_law_read_number : Fun K "_law_read_number" "_law_read_number" s_law_read_number f_law_read_number fd_law_read_number
  b_law_read_number : Binds K fd_law_read_number ["word", "bound"] []
  g_law_read_number : mg "_law_read_number" = some (.ref f_law_read_number)
  f_law_is_label : Addr
  fd_law_is_label : FuncData
  F_law_is_label : Fun K "_law_is_label" "_law_is_label" s_law_is_label f_law_is_label fd_law_is_label
  b_law_is_label : Binds K fd_law_is_label ["word"] []
  g_law_is_label : mg "_law_is_label" = some (.ref f_law_is_label)
  f_law_read_instruction : Addr
  fd_law_read_instruction : FuncData
  F_law_read_instruction : Fun K "_law_read_instruction" "_law_read_instruction" s_law_read_instruction f_law_read_instruction fd_law_read_instruction
  b_law_read_instruction : Binds K fd_law_read_instruction ["words"] []
  g_law_read_instruction : mg "_law_read_instruction" = some (.ref f_law_read_instruction)
  f_law_form : Addr
  fd_law_form : FuncData
  F_law_form : Fun K "_law_form" "_law_form" s_law_form f_law_form fd_law_form
  b_law_form : Binds K fd_law_form ["line"] []
  g_law_form : mg "_law_form" = some (.ref f_law_form)
  f_law_forms : Addr
  fd_law_forms : FuncData
  F_law_forms : Fun K "_law_forms" "_law_forms" s_law_forms f_law_forms fd_law_forms
  b_law_forms : Binds K fd_law_forms ["text"] []
  g_law_forms : mg "_law_forms" = some (.ref f_law_forms)
  f_law_given : Addr
  fd_law_given : FuncData
  F_law_given : Fun K "_law_given" "_law_given" s_law_given f_law_given fd_law_given
  b_law_given : Binds K fd_law_given ["forms"] []
  g_law_given : mg "_law_given" = some (.ref f_law_given)
  f_law_due : Addr
  fd_law_due : FuncData
  F_law_due : Fun K "_law_due" "_law_due" s_law_due f_law_due fd_law_due
  b_law_due : Binds K fd_law_due ["text"] []
  g_law_due : mg "_law_due" = some (.ref f_law_due)
  f_law_holds : Addr
  fd_law_holds : FuncData
  F_law_holds : Fun K "_law_holds" "_law_holds" s_law_holds f_law_holds fd_law_holds
  b_law_holds : Binds K fd_law_holds ["text"] []
  g_law_holds : mg "_law_holds" = some (.ref f_law_holds)
  f_law_number_word : Addr
  fd_law_number_word : FuncData
  F_law_number_word : Fun K "_law_number_word" "_law_number_word" s_law_number_word f_law_number_word fd_law_number_word
  b_law_number_word : Binds K fd_law_number_word ["pool", "bound"] []
  g_law_number_word : mg "_law_number_word" = some (.ref f_law_number_word)
  f_law_odd_label : Addr
  fd_law_odd_label : FuncData
  F_law_odd_label : Fun K "_law_odd_label" "_law_odd_label" s_law_odd_label f_law_odd_label fd_law_odd_label
  b_law_odd_label : Binds K fd_law_odd_label ["pool", "names"] []
  g_law_odd_label : mg "_law_odd_label" = some (.ref f_law_odd_label)
  f_law_odd_line : Addr
  fd_law_odd_line : FuncData
  F_law_odd_line : Fun K "_law_odd_line" "_law_odd_line" s_law_odd_line f_law_odd_line fd_law_odd_line
  b_law_odd_line : Binds K fd_law_odd_line ["pool", "names"] []
  g_law_odd_line : mg "_law_odd_line" = some (.ref f_law_odd_line)
  f_law_right_line : Addr
  fd_law_right_line : FuncData
  F_law_right_line : Fun K "_law_right_line" "_law_right_line" s_law_right_line f_law_right_line fd_law_right_line
  b_law_right_line : Binds K fd_law_right_line ["pool", "names"] []
  g_law_right_line : mg "_law_right_line" = some (.ref f_law_right_line)
  f_law_lines : Addr
  fd_law_lines : FuncData
  F_law_lines : Fun K "_law_lines" "_law_lines" s_law_lines f_law_lines fd_law_lines
  b_law_lines : Binds K fd_law_lines ["pool", "names"] []
  g_law_lines : mg "_law_lines" = some (.ref f_law_lines)
  f_law_sign_changed : Addr
  fd_law_sign_changed : FuncData
  F_law_sign_changed : Fun K "_law_sign_changed" "_law_sign_changed" s_law_sign_changed f_law_sign_changed fd_law_sign_changed
  b_law_sign_changed : Binds K fd_law_sign_changed ["pool", "text"] []
  g_law_sign_changed : mg "_law_sign_changed" = some (.ref f_law_sign_changed)
  f_law_changed : Addr
  fd_law_changed : FuncData
  F_law_changed : Fun K "_law_changed" "_law_changed" s_law_changed f_law_changed fd_law_changed
  b_law_changed : Binds K fd_law_changed ["pool", "lines", "names"] []
  g_law_changed : mg "_law_changed" = some (.ref f_law_changed)
  a_DEEDS : Addr
  g_DEEDS : mg "DEEDS" = some (.ref a_DEEDS)
  q_DEEDS : ∀ H : Hp, SqT K H a_DEEDS [.str "halt", .str "until", .str "clock", .str "look", .str "claim", .str "free", .str "copy", .str "drop", .str "revoke", .str "map", .str "unmap", .str "send", .str "take", .str "trysend", .str "trytake", .str "call", .str "reply", .str "ring", .str "await", .str "tryawait", .str "ack", .str "give", .str "pull"]
  t_DIGITS : Tok
  g_DIGITS : mg "DIGITS" = some (.str "0123456789" t_DIGITS)
  t_LONGEST : Tok
  g_LONGEST : mg "LONGEST" = some (.int 4000 t_LONGEST)
  t_LONGEST_LABEL : Tok
  g_LONGEST_LABEL : mg "LONGEST_LABEL" = some (.int 8 t_LONGEST_LABEL)
  t_LONGEST_NUMBER : Tok
  g_LONGEST_NUMBER : mg "LONGEST_NUMBER" = some (.int 7 t_LONGEST_NUMBER)
  t_REGISTERS : Tok
  g_REGISTERS : mg "REGISTERS" = some (.int 8 t_REGISTERS)
  a_ROLES : Addr
  es_ROLES : Array DictEntry
  n_ROLES : Nat
  g_ROLES : mg "ROLES" = some (.ref a_ROLES)
  D_ROLES : KDict K w a_ROLES es_ROLES n_ROLES
  x_ROLES : ∀ z : Str, z ∉ (["set", "move", "add", "sub", "load", "store", "jump", "zero", "deed"] : List Str) → PySem.W.nsIn K a_ROLES z = some none
  r_ROLES_set : Addr
  i_ROLES_set : PySem.W.nsIn K a_ROLES "set" = some (some (.ref r_ROLES_set))
  q_ROLES_set : ∀ H : Hp, SqT K H r_ROLES_set [.str "register", .str "word"]
  r_ROLES_move : Addr
  i_ROLES_move : PySem.W.nsIn K a_ROLES "move" = some (some (.ref r_ROLES_move))
  q_ROLES_move : ∀ H : Hp, SqT K H r_ROLES_move [.str "register", .str "register"]
  r_ROLES_add : Addr
  i_ROLES_add : PySem.W.nsIn K a_ROLES "add" = some (some (.ref r_ROLES_add))
  q_ROLES_add : ∀ H : Hp, SqT K H r_ROLES_add [.str "register", .str "register"]
  r_ROLES_sub : Addr
  i_ROLES_sub : PySem.W.nsIn K a_ROLES "sub" = some (some (.ref r_ROLES_sub))
  q_ROLES_sub : ∀ H : Hp, SqT K H r_ROLES_sub [.str "register", .str "register"]
  r_ROLES_load : Addr
  i_ROLES_load : PySem.W.nsIn K a_ROLES "load" = some (some (.ref r_ROLES_load))
  q_ROLES_load : ∀ H : Hp, SqT K H r_ROLES_load [.str "register", .str "register"]
  r_ROLES_store : Addr
  i_ROLES_store : PySem.W.nsIn K a_ROLES "store" = some (some (.ref r_ROLES_store))
  q_ROLES_store : ∀ H : Hp, SqT K H r_ROLES_store [.str "register", .str "register"]
  r_ROLES_jump : Addr
  i_ROLES_jump : PySem.W.nsIn K a_ROLES "jump" = some (some (.ref r_ROLES_jump))
  q_ROLES_jump : ∀ H : Hp, SqT K H r_ROLES_jump [.str "target"]
  r_ROLES_zero : Addr
  i_ROLES_zero : PySem.W.nsIn K a_ROLES "zero" = some (some (.ref r_ROLES_zero))
  q_ROLES_zero : ∀ H : Hp, SqT K H r_ROLES_zero [.str "register", .str "target"]
  r_ROLES_deed : Addr
  i_ROLES_deed : PySem.W.nsIn K a_ROLES "deed" = some (some (.ref r_ROLES_deed))
  q_ROLES_deed : ∀ H : Hp, SqT K H r_ROLES_deed [.str "deed"]
  t_SMALL : Tok
  g_SMALL : mg "SMALL" = some (.str "abcdefghijklmnopqrstuvwxyz" t_SMALL)
  t_WORD : Tok
  g_WORD : mg "WORD" = some (.int 1048576 t_WORD)
  c_CapsteadError : Addr
  gc_CapsteadError : mg "CapsteadError" = some (.ref c_CapsteadError)
  c_InputError : Addr
  gc_InputError : mg "InputError" = some (.ref c_InputError)
  c_QuestionError : Addr
  gc_QuestionError : mg "QuestionError" = some (.ref c_QuestionError)
  c_BadNumber : Addr
  gc_BadNumber : mg "BadNumber" = some (.ref c_BadNumber)
  c_BadProgram : Addr
  gc_BadProgram : mg "BadProgram" = some (.ref c_BadProgram)
  c_BadLine : Addr
  gc_BadLine : mg "BadLine" = some (.ref c_BadLine)
  i_BadLine : Addr
  S_BadLine : PySem.SupX.SupTxt P K mg "BadLine" "line" c_BadLine i_BadLine
  I_BadLine : IsC K c_BadLine
  m_BadLine : PySem.W.exmOne K (.ref c_BadLine) (.ref c_BadLine) = some true
  k_BadLine_CapsteadError : PySem.W.kitOne K (.ref c_BadLine) (.ref c_CapsteadError) = some true
  k_BadLine_InputError : PySem.W.kitOne K (.ref c_BadLine) (.ref c_InputError) = some true
  k_BadLine_QuestionError : PySem.W.kitOne K (.ref c_BadLine) (.ref c_QuestionError) = some false
  k_BadLine_BadNumber : PySem.W.kitOne K (.ref c_BadLine) (.ref c_BadNumber) = some false
  k_BadLine_BadProgram : PySem.W.kitOne K (.ref c_BadLine) (.ref c_BadProgram) = some false
  k_BadLine_BadLine : PySem.W.kitOne K (.ref c_BadLine) (.ref c_BadLine) = some true
  k_BadLine_ValueError : PySem.W.kitOne K (.ref c_BadLine) (.type "ValueError") = some true
  n_ValueError : mg "ValueError" = none
  n_abs : mg "abs" = none
  n_all : mg "all" = none
  n_bool : mg "bool" = none
  n_enumerate : mg "enumerate" = none
  n_int : mg "int" = none
  n_isinstance : mg "isinstance" = none
  n_len : mg "len" = none
  n_list : mg "list" = none
  n_min : mg "min" = none
  n_range : mg "range" = none
  n_str : mg "str" = none
  n_tuple : mg "tuple" = none

/-! ### what the top has written -/
section
variable {P : Program} {w : World} {K : PySem.W.Frag} {mg : Str → Option Value}
theorem roles_in (T : Tx P w K mg) {n : Str} (h : n ∈ names9) : ∃ r, PySem.W.nsIn K T.a_ROLES n = some (some (.ref r)) ∧ ∀ H : Hp, SqT K H r ((rolesF n).map V.str) := by
  unfold names9 at h
  simp only [List.mem_cons, List.not_mem_nil, or_false] at h
  rcases h with rfl | rfl | rfl | rfl | rfl | rfl | rfl | rfl | rfl
  · exact ⟨_, T.i_ROLES_set, T.q_ROLES_set⟩
  · exact ⟨_, T.i_ROLES_move, T.q_ROLES_move⟩
  · exact ⟨_, T.i_ROLES_add, T.q_ROLES_add⟩
  · exact ⟨_, T.i_ROLES_sub, T.q_ROLES_sub⟩
  · exact ⟨_, T.i_ROLES_load, T.q_ROLES_load⟩
  · exact ⟨_, T.i_ROLES_store, T.q_ROLES_store⟩
  · exact ⟨_, T.i_ROLES_jump, T.q_ROLES_jump⟩
  · exact ⟨_, T.i_ROLES_zero, T.q_ROLES_zero⟩
  · exact ⟨_, T.i_ROLES_deed, T.q_ROLES_deed⟩
end
/-! the forward steps as a tactic (walk_at "..": the library's own syntax) -/
local macro_rules | `(tactic| walk_at "lw at") => `(tactic| first | assumption | (refine' Ex.at_ ?zze ?zzh; (case zze => assumption); (case zzh => walk_at "lw at")))
local macro_rules | `(tactic| walk_at "lw iv") => `(tactic| first | assumption | exact Ex.iv (by assumption))
local macro_rules | `(tactic| walk_at "lw ex") => `(tactic| first | assumption | exact Ex.refl (by walk_at "lw iv") | (refine' Ex.trans ?zza ?zzb; (case zzb => assumption); (case zza => walk_at "lw ex")))
local macro_rules | `(tactic| walk_at "lw ix") => `(tactic| first | rfl | exact at_0 | exact ix_0 (by simp; done))
local macro_rules | `(tactic| walk_at "lw side") => `(tactic| first | rfl | assumption | decide | omega | decide +kernel | (refine And.intro ?_ ?_ <;> decide +kernel) | exact ⟨by omega, by omega⟩ | exact Or.inr (by decide) | exact Or.inl (by decide) | exact Or.inl ⟨by omega, by omega⟩ | exact Nat.le_trans (cut_len _ _ _) (by first | omega | (simp only [List.length_cons, List.length_nil]; omega)) | (refine Nat.le_trans (Nat.add_le_add (cut_len _ _ _) (cut_len _ _ _)) ?_; decide) | (simp; done) | (simp only [List.length_cons, List.length_nil, List.length_append, List.length_map]; omega) | (simp only [List.length_cons, List.length_nil, List.length_append]; omega) | (simp; omega) | (simp at *; omega))
local macro_rules | `(tactic| walk_at "lw rd") => `(tactic| with_reducible first
  | refine rd_seq ?_ | refine rd_asg ?_ | refine rd_asgG ?_ | refine rd_drop ?_ | refine rd_ret ?_ | refine rd_retN ?_ | refine rd_ifS ?_ | refine rd_c ?_ | refine rd_op ?_ | refine rd_un ?_
  | (refine' rd_var ?zzr ?_; (case zzr => with_unfolding_all rfl)) | refine rd_I0 ?_ | (refine' rd_I ?zzr ?_; (case zzr => with_unfolding_all walk_at "lw side"))
  | refine rd_U ?_ | (refine' rd_eq ?zzr ?_; (case zzr => with_unfolding_all rfl)) | (refine' rd_ne ?zzr ?_; (case zzr => with_unfolding_all rfl)) | refine rd_isN ?_ | refine rd_notN ?_
  | refine rd_test ?_ | refine rd_B ?_ | refine rd_bl ?_ | refine rd_blV ?_ | refine rd_and ?_ | refine rd_or ?_ | refine rd_not ?_ | refine rd_andV ?_ | refine rd_orV ?_ | refine rd_notV ?_ | refine rd_ifE ?_
  | refine rd_nil ?_ | refine rd_cons ?_ | refine rd_call ?_ | refine rd_cb ?_ | refine rd_tupU ?_ | refine rd_lstU ?_
  | (refine' rd_new (by with_unfolding_all walk_at "lw iv") (by with_unfolding_all walk_at "lw side") ?_; intro _ _ _ _ _) | (refine' rd_new1 (by with_unfolding_all walk_at "lw iv") ?_; intro _ _ _ _ _)
  | (refine' rd_ixL ?zzh ?zzr ?_; (case zzh => with_unfolding_all walk_at "lw at"); (case zzr => with_unfolding_all walk_at "lw ix")) | (refine' rd_ixT ?zzh ?zzr ?_; (case zzh => with_unfolding_all walk_at "lw at"); (case zzr => with_unfolding_all walk_at "lw ix"))
  | (refine' rd_len ?zzh ?_; (case zzh => with_unfolding_all walk_at "lw at")) | (refine' rd_lenT ?zzh ?_; (case zzh => with_unfolding_all walk_at "lw at"))
  | refine rd_int ?_ | refine rd_intB ?_ | refine rd_abs ?_ | refine rd_max2 ?_ | refine rd_min2 ?_
  | (refine' rd_lens ?zzr ?_; (case zzr => with_unfolding_all walk_at "lw side")) | (refine' rd_adds ?zzr ?_; (case zzr => with_unfolding_all walk_at "lw side"))
  | refine rd_nopart ?_ | refine rd_part ?_ | refine rd_partI ?_ | refine rd_sl ?_
  | (refine' rd_slL (by with_unfolding_all walk_at "lw iv") ?zzh ?_; (case zzh => with_unfolding_all walk_at "lw at"); intro _ _ _ _ _)
  | (refine' rd_list (by with_unfolding_all walk_at "lw iv") ?zzh ?_; (case zzh => with_unfolding_all walk_at "lw at"); intro _ _ _ _ _)
  | (refine' rd_listT (by with_unfolding_all walk_at "lw iv") ?zzh ?_; (case zzh => with_unfolding_all walk_at "lw at"); intro _ _ _ _ _)
  | (refine' rd_tuple (by with_unfolding_all walk_at "lw iv") ?zzh ?_; (case zzh => with_unfolding_all walk_at "lw at"); intro _ _ _ _ _)
  | (refine' rd_cat (by with_unfolding_all walk_at "lw iv") ?zzh ?zzk ?zzr ?_; (case zzh => with_unfolding_all walk_at "lw at"); (case zzk => with_unfolding_all walk_at "lw at"); (case zzr => with_unfolding_all walk_at "lw side"); intro _ _ _ _ _)
  | refine rd_lc ?_ | refine rd_lcT ?_ | (refine' rd_any ?zzh ?_; (case zzh => with_unfolding_all walk_at "lw at")) | (refine' rd_sum ?zzh ?_; (case zzh => with_unfolding_all walk_at "lw at"))
  | (refine' rd_inK ?zzh ?zzf ?zzg ?_; (case zzh => with_unfolding_all walk_at "lw kt"); (case zzf => with_unfolding_all rfl); (case zzg => with_unfolding_all rfl))
  | (refine' rd_niK ?zzh ?zzf ?zzg ?_; (case zzh => with_unfolding_all walk_at "lw kt"); (case zzf => with_unfolding_all rfl); (case zzg => with_unfolding_all rfl))
  | (refine' rd_inT ?zzh ?zzf ?zzg ?_; (case zzh => with_unfolding_all walk_at "lw at"); (case zzf => with_unfolding_all rfl); (case zzg => with_unfolding_all rfl))
  | (refine' rd_niT ?zzh ?zzf ?zzg ?_; (case zzh => with_unfolding_all walk_at "lw at"); (case zzf => with_unfolding_all rfl); (case zzg => with_unfolding_all rfl))
  | (refine' rd_inL ?zzh ?zzf ?zzg ?_; (case zzh => with_unfolding_all walk_at "lw at"); (case zzf => with_unfolding_all rfl); (case zzg => with_unfolding_all rfl))
  | (refine' rd_niL ?zzh ?zzf ?zzg ?_; (case zzh => with_unfolding_all walk_at "lw at"); (case zzf => with_unfolding_all rfl); (case zzg => with_unfolding_all rfl))
  | (refine' rd_slTn (by with_unfolding_all walk_at "lw iv") ?zzh ?zzn ?_; (case zzh => with_unfolding_all walk_at "lw at"); (case zzn => with_unfolding_all (intro zzi; have zzq := zzi.1; simp [HT.sIx] at zzq)); intro _ _ _ _ _)
  | (refine' rd_gtup ?zzh ?zze ?_; (case zzh => with_unfolding_all walk_at "lw at"); (case zze => with_unfolding_all rfl)) | refine rd_gcons ?_ | refine rd_gnil ?_ | (refine' rd_gconsE ?zze ?_; (case zze => with_unfolding_all rfl)) | (refine' rd_gnilE ?zze ?_; (case zze => with_unfolding_all rfl)) | (refine' rd_isiY ?zzt ?zze ?_; (case zzt => with_unfolding_all walk_at "lw ty"); (case zze => with_unfolding_all decide +kernel)) | (refine' rd_isiN ?zzt ?zze ?_; (case zzt => with_unfolding_all walk_at "lw ty"); (case zze => with_unfolding_all decide +kernel)) | refine rd_gname ?_
  | refine rd_forL ?_ | refine rd_forR1 ?_ | refine rd_forR2 ?_ | (refine' rd_forR1a ?zza ?zzb ?_; (case zza => with_unfolding_all walk_at "lw side"); (case zzb => with_unfolding_all walk_at "lw side")) | (refine' rd_forLa ?zzh ?_; (case zzh => with_unfolding_all walk_at "lw at"))
  | (refine' rd_ixM ?zzh ?zzr ?zzs ?_; (case zzh => with_unfolding_all walk_at "lw at"); (case zzr => with_unfolding_all omega); (case zzs => with_unfolding_all walk_at "lw side"); intro _ _)
  | refine rd_gsub ?_ | (refine' rd_ixLr ?zzh ?zzr ?_; (case zzh => assumption); (case zzr => with_unfolding_all walk_at "lw ix")) | (refine' rd_setr ?zzh ?zzr ?_; (case zzh => assumption); (case zzr => with_unfolding_all walk_at "lw ix"); intro _ _ _) | (refine' rd_lenr ?zzh ?_; (case zzh => assumption))
  | (refine' rd_append ?zze ?zzf ?zzh ?zzr ?_; (case zzf => assumption); (case zze => with_unfolding_all walk_at "lw ex"); (case zzh => with_unfolding_all walk_at "lw at"); (case zzr => with_unfolding_all walk_at "lw side"); intro _ _ _ _)
  | refine rd_bm ?_ | (refine' rd_tyL ?zzh ?_; (case zzh => with_unfolding_all walk_at "lw at")) | refine rd_next ?_ | refine rd_brk ?_ | refine rd_cont ?_)
local macro_rules | `(tactic| walk_at "lw go") => `(tactic| repeat walk_at "lw rd")
local macro_rules | `(tactic| walk_at "lw ai") => `(tactic| with_reducible first | assumption | exact AI.one _ | exact AI.nil | exact AI.of _ | exact AI.cut (by walk_at "lw ai") | exact AI.app (by walk_at "lw ai") (by walk_at "lw ai"))
local macro_rules | `(tactic| walk_at "lw as") => `(tactic| with_reducible first | assumption | exact AS.nil | exact AS.of _ | (refine' AS.cons ?zzx; (case zzx => walk_at "lw as")) | (refine' AS.cut ?zzx; (case zzx => walk_at "lw as")) | (refine' AS.app ?zzx ?zzy; (case zzx => walk_at "lw as"); (case zzy => walk_at "lw as")))
local macro_rules | `(tactic| walk_at "lw ty") => `(tactic| first | exact .base (.int _) | exact .base (.str _) | exact .base (.bl _) | exact .base .non | exact .base (.lst (At.raw (by walk_at "lw at"))) | exact .base (.tup (At.raw (by walk_at "lw at"))))
local macro_rules | `(tactic| walk_at "lw kt") => `(tactic| fail)
local macro_rules | `(tactic| walk_at "lw if") => `(tactic| with_reducible first
  | refine iteNT ?_ | refine iteNF ?_ | refine iteT ?_ | refine iteF ?_
  | (refine' ifS_yes ?zzr ?_; (case zzr => with_unfolding_all first | assumption | decide +kernel)) | (refine' ifS_no ?zzr ?_; (case zzr => with_unfolding_all first | assumption | decide +kernel))
  | (refine' ifSn_no ?zzr ?_; (case zzr => with_unfolding_all first | assumption | decide +kernel)) | (refine' ifSn_yes ?zzr ?_; (case zzr => with_unfolding_all first | assumption | decide +kernel))
  | (refine' ifI_yes ?zzr ?_; (case zzr => with_unfolding_all omega)) | (refine' ifI_no ?zzr ?_; (case zzr => with_unfolding_all omega))
  | (refine' ifIn_no ?zzr ?_; (case zzr => with_unfolding_all omega)) | (refine' ifIn_yes ?zzr ?_; (case zzr => with_unfolding_all omega))
  | (refine' ifS ?_ ?_ <;> intro zze <;> try subst zze) | (refine' ifSn ?_ ?_ <;> intro zze <;> try subst zze) | (refine' ifI ?_ ?_ <;> intro zze <;> try subst zze) | (refine' ifIn ?_ ?_ <;> intro zze <;> try subst zze)
  | (refine' ifD_yes ?zzr ?_; (case zzr => with_unfolding_all omega)) | (refine' ifD_no ?zzr ?_; (case zzr => with_unfolding_all omega))
  | (refine' ifD ?_ ?_ <;> intro zze) | (refine' ifN ?_ ?_ <;> intro zze) | (refine' iteT ?_) | (refine' iteF ?_) | (refine' ifB ?_ ?_ <;> intro zze) | (refine' ifNB ?_ ?_ <;> intro zze))
local macro_rules | `(tactic| walk_at "lw all") => `(tactic| repeat' (first | walk_at "lw rd" | walk_at "lw if"))

local macro_rules | `(tactic| walk_at "lw rd") => `(tactic| with_reducible first
  | refine rd_chain ?_ | refine rd_yes ?_ | refine rd_forS ?_ | refine rd_srcS ?_ | refine rd_forT ?_ | refine rd_forE ?_ | refine rd_forET ?_ | refine rd_lcS ?_ | refine rd_lcR ?_
  | (refine' rd_srcT ?zzh ?_; (case zzh => with_unfolding_all walk_at "lw at"))
  | (refine' rd_srcE ?zzh ?zza ?zzb ?_; (case zzh => with_unfolding_all walk_at "lw at"); (case zza => with_unfolding_all decide); (case zzb => with_unfolding_all decide))
  | (refine' rd_srcR ?zza ?zzb ?_; (case zza => with_unfolding_all walk_at "lw side"); (case zzb => with_unfolding_all walk_at "lw side"))
  | (refine' rd_dnew (by with_unfolding_all walk_at "lw iv") ?_; intro _ _ _ _ _) | refine rd_dget1 ?_ | (refine' rd_isD ?zzh ?_; (case zzh => with_unfolding_all walk_at "lw at")) | (refine' rd_dgetS ?zzh ?_; (case zzh => with_unfolding_all walk_at "lw at"))
  | refine rd_din ?_ | refine rd_dnin ?_ | (refine' rd_dinS ?zzh ?_; (case zzh => with_unfolding_all walk_at "lw at")) | refine rd_dput ?_ | refine rd_dsetd ?_
  | (refine' rd_dputS ?zze ?zzf ?zzh ?zzr ?_; (case zzf => assumption); (case zze => with_unfolding_all walk_at "lw ex"); (case zzh => with_unfolding_all walk_at "lw at"); (case zzr => with_unfolding_all walk_at "lw side"); intro _ _ _ _)
  | refine rd_ends ?_ | refine rd_starts ?_ | refine rd_find ?_ | refine rd_tyS ?_ | refine rd_inSg ?_ | refine rd_ninSg ?_ | refine rd_strS ?_
  | (refine' rd_slS ?zzr ?_; (case zzr => with_unfolding_all walk_at "lw side")) | (refine' rd_ixS ?zzr ?zzs ?_; (case zzr => with_unfolding_all walk_at "lw side"); (case zzs => with_unfolding_all walk_at "lw ixs"))
  | (refine' rd_split (by with_unfolding_all walk_at "lw iv") ?zza ?zzr ?_; (case zza => with_unfolding_all decide +kernel); (case zzr => with_unfolding_all walk_at "lw side"); intro _ _ _ _ _)
  | (refine' rd_rep (by with_unfolding_all walk_at "lw iv") ?zzh ?zza ?zzb ?zzr ?_; (case zzh => with_unfolding_all walk_at "lw at"); (case zza => with_unfolding_all walk_at "lw side"); (case zzb => with_unfolding_all walk_at "lw side"); (case zzr => with_unfolding_all walk_at "lw side"); intro _ _ _ _ _))
local macro_rules | `(tactic| walk_at "lw ixs") => `(tactic| first | assumption | rfl)
local macro_rules | `(tactic| walk_at "lw if") => `(tactic| with_reducible first | (refine' ifB_yes ?zzr ?_; (case zzr => assumption)) | (refine' ifB_no ?zzr ?_; (case zzr => assumption)) | (refine' ifNB_yes ?zzr ?_; (case zzr => assumption)) | (refine' ifNB_no ?zzr ?_; (case zzr => assumption)) | fail)
local macro_rules | `(tactic| walk_at "lw ix") => `(tactic| assumption)
local macro_rules | `(tactic| walk_at "lw gi") => `(tactic| repeat (first | walk_at "lw rd" | with_reducible refine iteT ?_ | with_reducible refine iteF ?_ | with_reducible refine iteNT ?_ | with_reducible refine iteNF ?_))

local macro_rules | `(tactic| walk_at "lw rd") => `(tactic| with_reducible first
  | refine cl_is_integer ?_ | refine cl_bound ?_ | refine cl_is_ignored ?_ | (refine' cl_fits ?zza ?_; (case zza => with_unfolding_all first | assumption | decide +kernel))
  | (refine' cl_is_label ?zza ?zzi ?_; (case zza => with_unfolding_all walk_at "lw side"); (case zzi => with_unfolding_all walk_at "lw iv"); intro _ _)
  | (refine' cl_label_in ?zza ?zzi ?_; (case zza => with_unfolding_all walk_at "lw side"); (case zzi => with_unfolding_all walk_at "lw iv"); intro _ _)
  | (refine' cl_number_in ?zza ?_; (case zza => with_unfolding_all walk_at "lw side")))
local macro_rules | `(tactic| walk_at "lw kt") => `(tactic| exact Tx.q_DEEDS (by assumption) _)
local macro_rules | `(tactic| walk_at "lw rd") => `(tactic| with_reducible first
  | refine cl_law_is_integer ?_ | refine cl_law_signs ?_ | (refine' cl_law_deeds ?zzi ?_; (case zzi => with_unfolding_all walk_at "lw iv"); intro _ _ _ _)
  | (refine' cl_law_read_number ?zza ?_; (case zza => with_unfolding_all walk_at "lw side")) | (refine' cl_law_is_label ?zza ?_; (case zza => with_unfolding_all walk_at "lw side"))
  | (refine' cl_law_label ?zzi ?zzh ?zzo ?_; (case zzi => with_unfolding_all walk_at "lw iv"); (case zzh => with_unfolding_all walk_at "lw at"); (case zzo => with_unfolding_all walk_at "lw side"); intro _ _ _ _ _)
  | (refine' cl_law_draw ?zza ?zzb ?zzc ?_; (case zza => with_unfolding_all walk_at "lw side"); (case zzb => with_unfolding_all walk_at "lw side"); (case zzc => with_unfolding_all walk_at "lw iv"); intro _ _ _ _ _))
local macro_rules | `(tactic| walk_at "lw rd") => `(tactic| with_reducible first | refine rd_dget ?_ | (refine' rd_dninS ?zzh ?_; (case zzh => with_unfolding_all walk_at "lw at")) | fail)
local macro_rules | `(tactic| walk_at "lw sl") => `(tactic| first | assumption | decide | omega | (simp only [sl_app, sl_one]; omega))
local macro_rules | `(tactic| walk_at "lw an") => `(tactic| ((repeat' first | exact ASn.nil | refine ASn.app ?_ ?_ | refine ASn.cons ?_ ?_) <;> walk_at "lw sl"))
local macro_rules | `(tactic| walk_at "lw side") => `(tactic| first | with_reducible assumption | omega | (simp only [sl_app, sl_one]; omega) | fail)
local macro_rules | `(tactic| walk_at "lw rd") => `(tactic| with_reducible first
  | (refine' cl_law_number_word ?zza ?zzb ?zzi ?_; (case zza => with_unfolding_all walk_at "lw side"); (case zzb => with_unfolding_all walk_at "lw side"); (case zzi => with_unfolding_all walk_at "lw iv"); intro _ _ _ _)
  | (refine' cl_law_odd_label ?zzi ?zzn ?_; (case zzi => with_unfolding_all walk_at "lw iv"); (case zzn => with_unfolding_all walk_at "lw n3"); intro _ _ _ _)
  | (refine' cl_law_odd_line ?zzi ?zzn ?_; (case zzi => with_unfolding_all walk_at "lw iv"); (case zzn => with_unfolding_all walk_at "lw n3"); intro _ _ _ _)
  | (refine' cl_law_right_line ?zzi ?zzn ?_; (case zzi => with_unfolding_all walk_at "lw iv"); (case zzn => with_unfolding_all walk_at "lw n3"); intro _ _ _ _)
  | refine rd_bm0 ?_ | (refine' rd_upper ?zzr ?_; (case zzr => with_unfolding_all walk_at "lw side")))
local macro_rules | `(tactic| walk_at "lw n3") => `(tactic| first | assumption | (refine' N3.ex ?zze ?zzn; (case zze => assumption); (case zzn => walk_at "lw n3")))
section
variable {P : Program} {w : World} {K : PySem.W.Frag} {mg : Str → Option Value} {base : Heap}

theorem ok_is_integer (T : Tx P w K mg) : FnOk P w K mg base CX0 1 T.f_is_integer T.fd_is_integer ["value"] (sp_is_integer) := by
  refine T.F_is_integer.ok sc_is_integer (fun vs H Q E h => ?_) (fun cdv A outer s H vs Q E hr h => ?_)
  · obtain ⟨i, rfl, k⟩ := h
    rfl
  · obtain ⟨i, rfl, k⟩ := h
    refine ⟨_, (pss_one (ps_ret (pe_and (pe_callB (r := rIsi K) call_isi (by rfl) T.n_isinstance (by decide +kernel) (pa_cons (pv 0) (pa_cons (pe_bltn (v := .ty "int") rfl T.n_int (by decide +kernel) rfl) pa_nil))) (pe_one (pe_not (pe_callB (r := rIsi K) call_isi (by rfl) T.n_isinstance (by decide +kernel) (pa_cons (pv 0) (pa_cons (pe_bltn (v := .ty "bool") rfl T.n_bool (by decide +kernel) rfl) pa_nil)))))))), ?_⟩
    walk_at "lw all"
    exact k

theorem ok_bound (T : Tx P w K mg) : FnOk P w K mg base CX0 1 T.f_bound T.fd_bound ["role", "length"] (sp_bound) := by
  refine T.F_bound.ok sc_bound (fun vs H Q E h => ?_) (fun cdv A outer s H vs Q E hr h => ?_)
  · obtain ⟨r, n, rfl, k⟩ := h
    rfl
  · obtain ⟨r, n, rfl, k⟩ := h
    refine ⟨_, (pss_cons (ps_if (pt_cmpR op_eq (pv 0) pe_str (nomark _))
        (pss_one (ps_ret (pe_glob (v := .int 8) rfl T.g_REGISTERS ⟨_, rfl⟩)))
        pss_nil)
      (pss_cons (ps_if (pt_cmpR op_eq (pv 0) pe_str (nomark _))
        (pss_one (ps_ret (pe_glob (v := .int 1048576) rfl T.g_WORD ⟨_, rfl⟩)))
        pss_nil)
      (pss_one (ps_ret (pv 1))))), ?_⟩
    unfold boundF at k
    walk_at "lw all"
    · exact k
    · rename_i h
      rw [if_neg (by decide +kernel), if_pos rfl] at k
      exact k
    · rename_i h1 h2
      rw [if_neg h1, if_neg h2] at k
      exact k

theorem ok_fits (T : Tx P w K mg) : FnOk P w K mg base CX0 2 T.f_fits T.fd_fits ["part", "role", "length"] (sp_fits) := by
  refine T.F_fits.ok sc_fits (fun vs H Q E h => ?_) (fun cdv A outer s H vs Q E hr h => ?_)
  · obtain ⟨i, r, n, rfl, hd, k⟩ := h
    rfl
  · obtain ⟨i, r, n, rfl, hd, k⟩ := h
    refine ⟨_, (pss_cons (ps_if (pt_cmpR op_eq (pv 1) pe_str (nomark _))
        (pss_one (ps_ret (pe_and (pe_callB (r := rIsi K) call_isi (by rfl) T.n_isinstance (by decide +kernel) (pa_cons (pv 0) (pa_cons (pe_bltn (v := .ty "str") rfl T.n_str (by decide +kernel) rfl) pa_nil))) (pe_one (pe_cmpR (r := rIn K false) op_in_seq (pv 0) (pe_glob (v := .ref T.a_DEEDS) rfl T.g_DEEDS rfl) (by rfl))))))
        pss_nil)
      (pss_one (ps_ret (pe_and (pe_call (ok_is_integer T) hr (by rfl) T.g_is_integer T.F_is_integer.kp T.b_is_integer .nil pass0 (pa_cons (pv 0) pa_nil)) (pe_one (pe_chain op_le op_lt pe_int (pv 0) (pe_call (ok_bound T) hr (by rfl) T.g_bound T.F_bound.kp T.b_bound .nil pass0 (pa_cons (pv 1) (pa_cons (pv 2) pa_nil))))))))), ?_⟩
    unfold fitF at k
    rw [if_neg hd] at k
    walk_at "lw all"
    · refine cast_bl k ?_
      rw [decide_eq_decide]
      omega
    · exact cast_bl k (decide_eq_false (by omega))

theorem ok_is_label (T : Tx P w K mg) : FnOk P w K mg base CX0 1 T.f_is_label T.fd_is_label ["word"] (sp_is_label) := by
  refine T.F_is_label.ok sc_is_label (fun vs H Q E h => ?_) (fun cdv A outer s H vs Q E hr h => ?_)
  · obtain ⟨W, s, rfl, hs, iv, k⟩ := h
    rfl
  · obtain ⟨W, s, rfl, hs, iv, k⟩ := h
    refine ⟨_, (pss_cons (ps_if (PW.pt (pw_or (pt_cmpR op_eq (pv 0) pe_str (nomark _)) (pw_or (pt_cmpR op_gt (pe_callB c_lens (by rfl) T.n_len PySem.boot_len (pa_cons (pv 0) pa_nil)) (pe_glob (v := .int 8) rfl T.g_LONGEST_LABEL ⟨_, rfl⟩) (nomark _)) (pw_or1 (pt_cmpR o_ninSg (pe_ix ix_str (pv 0) pe_int (fun _ _ => rfl)) (pe_glob (v := .str "abcdefghijklmnopqrstuvwxyz") rfl T.g_SMALL ⟨_, rfl⟩) (by rfl))))))
        (pss_one (ps_ret pe_bl))
        pss_nil)
      (pss_one (ps_ret (pe_callB (r := rAll K) (cr_all rfl) (by rfl) T.n_all (by decide +kernel) (pa_cons (pe_lc (own := [("sign", 1)]) rfl sc_is_label.nd (pi_str (pv 0)) (blkOk_by (own := [("sign", 1)]) (N := N_is_label) (sc := (defScope s_is_label)) (by decide +kernel)) (fun _ _ _ _ _ => (pg_name (i := 1) sc_is_label.nd rfl (by first | exact Or.inl rfl | exact Or.inr rfl))) (fun _ _ _ _ _ => pts_nil) (fun _ _ _ _ _ => (pe_or (pe_cmpR o_inSg (pv 1) (pe_glob (v := .str "abcdefghijklmnopqrstuvwxyz") rfl T.g_SMALL ⟨_, rfl⟩) (by rfl)) (pe_one (pe_cmpR o_inSg (pv 1) (pe_glob (v := .str "0123456789") rfl T.g_DIGITS ⟨_, rfl⟩) (by rfl)))))) pa_nil))))), ?_⟩
    have el := len_tl s
    walk_at "lw all"
    · exact cast_bl (k _ (Ex.refl iv)) (by decide +kernel)
    · rename_i h1 h2
      refine cast_bl (k _ (Ex.refl iv)) ?_
      unfold isL
      cases e : tl s with
      | nil => rfl
      | cons c r =>
        rw [e] at el
        simp only [List.length_cons] at el
        show (decide _ && _) = false
        rw [decide_eq_false (by omega), Bool.false_and]
    · rename_i h1 h2
      cases e : tl s with
      | nil => exact absurd ((nil_iff s).mpr e) h1
      | cons c r =>
        have er : r.length ≤ 7 := by
          rw [e] at el
          simp only [List.length_cons] at el
          omega
        have eL : isL s = (sm c && (tl s).all fun c => sm c || dg c) := by
          unfold isL
          rw [e]
          show (decide _ && _) = _
          rw [decide_eq_true er, Bool.true_and]
        refine rd_ixS (c := c) (by omega) (by rw [show s.cps.toList = c :: r from e]; exact at_0) ?_
        walk_at "lw go"
        rw [small_mem]
        cases hc : sm c with
        | false =>
          rw [hc, Bool.false_and] at eL
          walk_at "lw all"
          exact cast_bl (k _ (Ex.refl iv)) eL
        | true =>
          rw [hc, Bool.true_and] at eL
          walk_at "lw all"
          refine lc_w (W := W) (X := fun i x => ∃ c, s.cps[i]? = some c ∧ x = .str ⟨#[c]⟩) walk_str (fun n ys _ => ys = ((tl s).take n).map fun c => V.bl (sm c || dg c)) iv (by show s.length ≤ _; omega) (fun _ _ => trivial) (fun _ _ _ _ _ h => h) (by simp) ?_ ?_
          · rintro n x D ys H' QV QN hn ⟨d, hd, rfl⟩ hD hDa e1 hy hl qv qn
            walk_at "lw go"
            walk_at "lw if"
            walk_at "lw go"
            have q := qv (.bl (sm d || dg d)) H' (Ex.refl e1.iv) (by
              rw [hy, List.take_add_one, show (tl s)[n]? = some d by simpa using hd, List.map_append]
              rfl)
            rw [small_mem]
            cases hs1 : sm d with
            | true =>
              rw [hs1] at q
              walk_at "lw all"
              exact q
            | false =>
              rw [hs1] at q
              walk_at "lw all"
              rw [dig_mem]
              exact q
          · rintro D H2 ys hD e2 hDl hy hl
            have hy2 : ys = ((tl s).map fun c => sm c || dg c).map V.bl := by
              rw [hy, List.take_of_length_le (by show _ ≤ s.length; omega), List.map_map]
              rfl
            subst hy2
            walk_at "lw go"
            refine rd_all (bs := (tl s).map fun c => sm c || dg c) hDl ?_
            refine cast_bl (k _ e2) ?_
            rw [eL, List.all_map]
            rfl

theorem ok_label_in (T : Tx P w K mg) : FnOk P w K mg base CX0 2 T.f_label_in T.fd_label_in ["line"] (sp_label_in) := by
  refine T.F_label_in.ok sc_label_in (fun vs H Q E h => ?_) (fun cdv A outer s H vs Q E hr h => ?_)
  · obtain ⟨W, s, rfl, hs, iv, k⟩ := h
    rfl
  · obtain ⟨W, s, rfl, hs, iv, k⟩ := h
    refine ⟨_, (pss_cons (ps_if (PW.pt (pw_and (pt_val (pe_bm PySem.F.plainAttrs_str PySem.F.slot_str_endswith PySem.F.type_str_endswith m_endswith (pv 0) (pa_cons pe_str pa_nil))) (pw_and1 (pt_val (pe_call (ok_is_label T) hr (by rfl) T.g_is_label T.F_is_label.kp T.b_is_label .nil pass0 (pa_cons (pe_slice sl_str (pv 0) po_none (po_some (pe_un un_neg pe_int))) pa_nil))))))
        (pss_one (ps_ret (pe_slice sl_str (pv 0) po_none (po_some (pe_un un_neg pe_int)))))
        pss_nil)
      (pss_one (ps_ret pe_str))), ?_⟩
    have hc : (cutS s none (some (-1))).length ≤ 1000000 := Nat.le_trans (cutS_length _ _ _) hs
    walk_at "lw all"
    · rename_i h1 H1 e1 h2
      exact cast_str (k _ e1) (by unfold labF; rw [h1, h2]; rfl)
    · rename_i h1 H1 e1 h2
      exact cast_str (k _ e1) (by unfold labF; rw [h2, Bool.and_false]; rfl)
    · rename_i h1
      exact cast_str (k _ (Ex.refl iv)) (by unfold labF; rw [h1, Bool.false_and]; rfl)

theorem ok_is_ignored (T : Tx P w K mg) : FnOk P w K mg base CX0 1 T.f_is_ignored T.fd_is_ignored ["line"] (sp_is_ignored) := by
  refine T.F_is_ignored.ok sc_is_ignored (fun vs H Q E h => ?_) (fun cdv A outer s H vs Q E hr h => ?_)
  · obtain ⟨s, rfl, k⟩ := h
    rfl
  · obtain ⟨s, rfl, k⟩ := h
    refine ⟨_, (pss_one (ps_ret (pe_or (pe_cmpR op_eq (pv 0) pe_str (nomark _)) (pe_one (pe_bm PySem.F.plainAttrs_str PySem.F.slot_str_startswith PySem.F.type_str_startswith m_startswith (pv 0) (pa_cons pe_str pa_nil)))))), ?_⟩
    unfold ignF at k
    walk_at "lw all"
    · exact cast_bl k (by decide +kernel)
    · rename_i h
      exact cast_bl k (by rw [decide_eq_false h, Bool.false_or])

theorem ok_number_in (T : Tx P w K mg) : FnOk P w K mg base CX0 1 T.f_number_in T.fd_number_in ["word"] (sp_number_in) := by
  refine T.F_number_in.ok sc_number_in (fun vs H Q E h => ?_) (fun cdv A outer s H vs Q E hr h => ?_)
  · obtain ⟨s, rfl, hl, k⟩ := h
    rfl
  · obtain ⟨s, rfl, hl, k⟩ := h
    refine ⟨_, (pss_cut (ps_if (PW.pt (pw_or (pt_cmpR op_eq (pv 0) pe_str (nomark _)) (pw_or1 (pt_cmpR op_gt (pe_callB c_lens (by rfl) T.n_len PySem.boot_len (pa_cons (pv 0) pa_nil)) (pe_glob (v := .int 7) rfl T.g_LONGEST_NUMBER ⟨_, rfl⟩) (nomark _)))))
        (pss_one (ps_ret (pe_un un_neg pe_int)))
        pss_nil)
      (pss_cut (ps_if (PW.pt (pw_and (pt_cmpR op_gt (pe_callB c_lens (by rfl) T.n_len PySem.boot_len (pa_cons (pv 0) pa_nil)) pe_int (nomark _)) (pw_and1 (pt_cmpR op_eq (pe_ix ix_str (pv 0) pe_int (fun _ _ => rfl)) pe_str (nomark _)))))
        (pss_one (ps_ret (pe_un un_neg pe_int)))
        pss_nil)
      (pss_cons (ps_set (i := 1) sc_number_in.nd rfl (by first | exact Or.inl rfl | exact Or.inr rfl) pe_int)
      (pss_cons (ps_for PassesOwn.never rfl (pi_str (pv 0)) (pg_name (i := 2) sc_number_in.nd rfl (by first | exact Or.inl rfl | exact Or.inr rfl))
        (pss_cons (ps_set (i := 3) sc_number_in.nd rfl (by first | exact Or.inl rfl | exact Or.inr rfl) (pe_bm PySem.F.plainAttrs_str PySem.F.slot_str_find PySem.F.type_str_find m_find (pe_glob (v := .str "0123456789") rfl T.g_DIGITS ⟨_, rfl⟩) (pa_cons (pv 2) pa_nil)))
        (pss_cons (ps_if (pt_cmpR op_lt (pv 3) pe_int (nomark _))
          (pss_one (ps_ret (pe_un un_neg pe_int)))
          pss_nil)
        (pss_one (ps_set (i := 1) sc_number_in.nd rfl (by first | exact Or.inl rfl | exact Or.inr rfl) (pe_op op_add (pe_op op_mul (pv 1) pe_int) (pv 3)))))))
      (pss_one (ps_ret (pv 1))))))), ?_⟩
    have el : s.length = (tl s).length := len_tl s
    by_cases h0 : s = ""
    · subst h0
      refine rd_cut (fun _ _ => False) ?_ (fun _ _ f => f.elim)
      walk_at "lw all"
      exact cast_int k (by decide +kernel)
    by_cases h7 : 7 < s.length
    · refine rd_cut (fun _ _ => False) ?_ (fun _ _ f => f.elim)
      walk_at "lw all"
      exact cast_int k (numV_neg (numOk_len h7))
    cases e : tl s with
    | nil => exact absurd ((nil_iff s).mpr e) h0
    | cons c r =>
      have a0 : atI s.cps.toList 0 = some c := by rw [show s.cps.toList = c :: r from e]; exact at_0
      have c0 : ((⟨#[c]⟩ : Str) = "0") ↔ c = 48 := ⟨fun z => by
        have z1 := congrArg tl z
        rw [show tl ("0" : Str) = [48] from rfl] at z1
        injection z1, fun z => by rw [z]; rfl⟩
      have hd : (tl s).head? = some c := by rw [e]; rfl
      have fin : ¬ (1 < s.length ∧ (tl s).head? = some 48) → (∀ x ∈ tl s, dg x = true) → numV s = (decF (tl s) : Int) := fun h2 h3 => numV_pos (numOk_yes h0 (by omega) h2 h3)
      refine rd_cut (fun σ' H' => σ' = [some (.str s), none, none, none] ∧ H = H') ?_ ?_
      · walk_at "lw all"
        exact ⟨rfl, rfl⟩
      rintro σ' H' ⟨rfl, rfl⟩
      refine rd_cut (fun σ' H' => σ' = [some (.str s), none, none, none] ∧ H = H' ∧ ¬ (1 < s.length ∧ (tl s).head? = some 48)) ?_ ?_
      · walk_at "lw go"
        refine ifD ?_ ?_ <;> intro h1
        · walk_at "lw go"
          refine ifS ?_ ?_ <;> intro h2
          · walk_at "lw go"
            exact cast_int k (numV_neg (numOk_zero (by omega) (by rw [hd, c0.mp h2])))
          · walk_at "lw go"
            exact ⟨rfl, rfl, fun z => h2 (c0.mpr (Option.some.inj (hd.symm.trans z.2)))⟩
        · walk_at "lw go"
          exact ⟨rfl, rfl, fun z => h1 (by omega)⟩
      rintro σ' H' ⟨rfl, rfl, hz⟩
      walk_at "lw go"
      refine for_s (fun i σ' H' => ∃ v2 v3, σ' = [some (.str s), some (.int (decF ((tl s).take i) : Nat)), v2, v3] ∧ H = H' ∧ ∀ x ∈ (tl s).take i, dg x = true) ⟨_, _, rfl, rfl, by simp⟩ ?_ ?_
      · rintro i c σ' H' hc ⟨v2, v3, rfl, rfl, hall⟩
        have hc' : (tl s)[i]? = some c := by simpa using hc
        walk_at "lw go"
        cases hd : dg c with
        | false =>
          rw [find_not hd]
          walk_at "lw all"
          exact cast_int k (numV_neg (numOk_bad (List.mem_of_getElem? hc') hd))
        | true =>
          have hd2 := of_decide_eq_true hd
          rw [find_dig hd]
          walk_at "lw all"
          refine ⟨some (.str ⟨#[c]⟩), some (.int ((c : Int) - 48)), ?_, rfl, fun x hx => ?_⟩
          · rw [List.take_add_one, hc', Option.toList_some, decF_snoc]
            have : ((decF ((tl s).take i) * 10 + (c - 48) : Nat) : Int) = (decF ((tl s).take i) : Int) * 10 + ((c : Int) - 48) := by omega
            rw [this]
            rfl
          · rw [List.take_add_one, hc', Option.toList_some] at hx
            rcases List.mem_append.mp hx with q | q
            · exact hall x q
            · rw [List.mem_singleton.mp q]; exact hd
      · rintro σ' H' ⟨v2, v3, rfl, rfl, hall⟩
        have tk : (tl s).take s.cps.size = tl s := List.take_of_length_le (by rw [← el]; exact Nat.le_refl _)
        walk_at "lw go"
        refine cast_int k ?_
        rw [tk] at hall ⊢
        exact fin hz hall

theorem ok_part_in (T : Tx P w K mg) : FnOk P w K mg base CX0 3 T.f_part_in T.fd_part_in ["word", "role", "labels"] (sp_part_in) := by
  refine T.F_part_in.ok sc_part_in (fun vs H Q E h => ?_) (fun cdv A outer s H vs Q E hr h => ?_)
  · obtain ⟨W, word, role, d, kvs, rfl, hl, hd, k⟩ := h
    rfl
  · obtain ⟨W, word, role, d, kvs, rfl, hl, hd, k⟩ := h
    refine ⟨_, (pss_cons (ps_if (pt_cmpR op_eq (pv 1) pe_str (nomark _))
        (pss_one (ps_ret (pe_ifExp (pt_cmpR (r := rIn K false) op_in_seq (pv 0) (pe_glob (v := .ref T.a_DEEDS) rfl T.g_DEEDS rfl) (by rfl)) (pv 0) pe_non)))
        pss_nil)
      (pss_cons (ps_if (pt_cmpR op_eq (pv 1) pe_str (nomark _))
        (pss_one (ps_ret (pe_dget1 (hu_of hr) (pv 2) (pv 0) ⟨rfl, rfl, rfl, rfl⟩)))
        pss_nil)
      (pss_cons (ps_set (i := 3) sc_part_in.nd rfl (by first | exact Or.inl rfl | exact Or.inr rfl) (pe_call (ok_number_in T) (hr.mono (by decide)) (by rfl) T.g_number_in T.F_number_in.kp T.b_number_in .nil pass0 (pa_cons (pv 0) pa_nil)))
      (pss_one (ps_ret (pe_ifExp (pt_val (pe_call (ok_fits T) hr (by rfl) T.g_fits T.F_fits.kp T.b_fits .nil pass0 (pa_cons (pv 3) (pa_cons (pv 1) (pa_cons pe_int pa_nil))))) (pv 3) pe_non)))))), ?_⟩
    have hDL : [V.str "halt", .str "until", .str "clock", .str "look", .str "claim", .str "free", .str "copy", .str "drop", .str "revoke", .str "map", .str "unmap", .str "send", .str "take", .str "trysend", .str "trytake", .str "call", .str "reply", .str "ring", .str "await", .str "tryawait", .str "ack", .str "give", .str "pull"] = DL := rfl
    unfold partP at k
    by_cases h1 : role = "deed"
    · rw [if_pos h1] at k
      subst h1
      walk_at "lw go"
      refine ifS_yes rfl ?_
      walk_at "lw go"
      rw [hDL]
      refine ifB ?_ ?_ <;> intro hb
      · rw [if_pos hb] at k
        walk_at "lw go"
        exact k
      · rw [if_neg (by rw [hb]; decide)] at k
        walk_at "lw go"
        exact k
    rw [if_neg h1] at k
    by_cases h2 : role = "target"
    · rw [if_pos h2] at k
      subst h2
      walk_at "lw all"
      exact k
    rw [if_neg h2] at k
    walk_at "lw go"
    refine ifS_no h1 ?_
    walk_at "lw go"
    refine ifS_no h2 ?_
    walk_at "lw go"
    refine ifB ?_ ?_ <;> intro hb
    · rw [if_pos hb] at k
      walk_at "lw go"
      exact k
    · rw [if_neg (by rw [hb]; decide)] at k
      walk_at "lw go"
      exact k

theorem ok_instruction_in (T : Tx P w K mg) : FnOk P w K mg base CX0 4 T.f_instruction_in T.fd_instruction_in ["line", "labels"] (sp_instruction_in) := by
  refine T.F_instruction_in.ok sc_instruction_in (fun vs H Q E h => ?_) (fun cdv A outer s H vs Q E hr h => ?_)
  · obtain ⟨W, s, d, kvs, rfl, hl, iv, hd, L, k1, k2⟩ := h
    rfl
  · obtain ⟨W, s, d, kvs, rfl, hl, iv, hd, L, k1, k2⟩ := h
    refine ⟨_, (pss_cons (ps_set (i := 2) sc_instruction_in.nd rfl (by first | exact Or.inl rfl | exact Or.inr rfl) (pe_bm PySem.F.plainAttrs_str PySem.F.slot_str_split PySem.F.type_str_split m_split (pv 0) (pa_cons pe_str pa_nil)))
      (pss_cons (ps_set (i := 3) sc_instruction_in.nd rfl (by first | exact Or.inl rfl | exact Or.inr rfl) (pe_ix (r := rIxL K) ix_list (pv 2) pe_int (fun _ _ => rfl)))
      (pss_cons (ps_if (pt_cmpR (r := rNinKd K T.a_ROLES) (o_ninKd T.D_ROLES) (pv 3) (pe_glob (v := .ref T.a_ROLES) rfl T.g_ROLES rfl) (by rfl))
        (pss_one (ps_ret pe_non))
        pss_nil)
      (pss_cons (ps_set (i := 4) sc_instruction_in.nd rfl (by first | exact Or.inl rfl | exact Or.inr rfl) (pe_ix (r := rIxKd K w) x_kd (pe_glob (v := .ref T.a_ROLES) rfl T.g_ROLES rfl) (pv 3) (fun _ _ => rfl)))
      (pss_cons (ps_if (pt_cmpR op_ne (pe_callB (r := Lw.rLen K) c_len (by rfl) T.n_len PySem.boot_len (pa_cons (pv 2) pa_nil)) (pe_op op_add (pe_callB (r := Lw.rLen K) c_len (by rfl) T.n_len PySem.boot_len (pa_cons (pv 4) pa_nil)) pe_int) (nomark _))
        (pss_one (ps_ret pe_non))
        pss_nil)
      (pss_cons (ps_set (i := 5) sc_instruction_in.nd rfl (by first | exact Or.inl rfl | exact Or.inr rfl) (pe_lst (pa_cons (pv 3) pa_nil)))
      (pss_cons (ps_for PassesOwn.never rfl (pi_enumT (by rfl) T.n_enumerate (pa_cons (pv 4) pa_nil)) (pg_tup (by rfl) (pgs_cons (pg_name (i := 6) sc_instruction_in.nd rfl (by first | exact Or.inl rfl | exact Or.inr rfl)) (pgs_cons (pg_name (i := 7) sc_instruction_in.nd rfl (by first | exact Or.inl rfl | exact Or.inr rfl)) pgs_nil)))
        (pss_cons (ps_set (i := 8) sc_instruction_in.nd rfl (by first | exact Or.inl rfl | exact Or.inr rfl) (pe_call (ok_part_in T) hr (by rfl) T.g_part_in T.F_part_in.kp T.b_part_in .nil pass0 (pa_cons (pe_ix (r := rIxL K) ix_list (pv 2) (pe_op op_add (pv 6) pe_int) (fun _ _ => rfl)) (pa_cons (pv 7) (pa_cons (pv 1) pa_nil)))))
        (pss_cons (ps_if (pt_cmpR o_isN (pv 8) pe_non (nomark _))
          (pss_one (ps_ret pe_non))
          pss_nil)
        (pss_one (ps_expr (pe_bm PySem.F.plainAttrs_list PySem.F.slot_list_append PySem.F.type_list_append mt_append (pv 5) (pa_cons (pv 8) pa_nil)))))))
      (pss_one (ps_ret (pe_callTy (r := Lw.rTupO K) c_tuple (by rfl) T.n_tuple (by decide +kernel) (pa_cons (pv 5) pa_nil))))))))))), ?_⟩
    obtain ⟨l1, l2⟩ := split_len s
    cases hs : Txt.split s " " with
    | nil => exact absurd hs (split_ne s " ")
    | cons n ws =>
      rw [hs] at l1 l2
      rw [hs, insP_cons] at k1 k2
      rw [List.length_cons] at l1
      walk_at "lw go"
      rename_i p H1 f1 e1 h1
      rw [hs, List.map_cons] at h1
      walk_at "lw go"
      by_cases hm : n ∈ names9
      · rw [if_pos hm] at k1 k2
        obtain ⟨ro, hi, hq⟩ := roles_in T hm
        have l3 := roles_len n
        refine rd_ninKd hi ?_
        walk_at "lw go"
        refine ifNB_no rfl ?_
        walk_at "lw go"
        refine rd_ixKd T.D_ROLES hi ?_
        walk_at "lw go"
        refine ⟨ro, (rolesF n).map V.str, rfl, .inr (hq _), ?_⟩
        walk_at "lw go"
        refine ifIn ?_ ?_ <;> intro hlen
        · walk_at "lw go"
          refine k1 ?_ _ e1
          cases ep : partsP kvs (rolesF n) ws with
          | none => rfl
          | some us =>
            have := partsP_len ep
            exact absurd (by simp [this]) hlen
        · have hlw : ws.length = (rolesF n).length := by simp at hlen; omega
          walk_at "lw go"
          rename_i I H2 f2 e2 h2
          refine rd_srcET (hq _) ?_
          refine for_et (W := W) (xs := (rolesF n).map V.str) hq (fun i σ' H' => ∃ v6 v7 v8 us, σ' = [some (.str s), some (.ref d), some (.ref p), some (.str n), some (.ref ro), some (.ref I), v6, v7, v8] ∧ Ex W H1 H' ∧ At W H' I (.lst (.str n :: us)) ∧ partsP kvs ((rolesF n).take i) (ws.take i) = some us ∧ us.length = i)
            ⟨_, _, _, [], rfl, e2, h2, rfl, rfl⟩ (fun i σ' H' ⟨_, _, _, _, _, e, _⟩ => e.iv) ?_ ?_
          · rintro i x T2 σ' H3 H' hx ⟨v6, v7, v8, us, rfl, e3, h3, hp, hu⟩ f4 e4 h4
            obtain ⟨role, hr1, rfl⟩ := ls_get hx
            have hi2 : i < (rolesF n).length := (List.getElem?_eq_some_iff.mp hr1).1
            have hw1 : ws[i]? = some ws[i] := List.getElem?_eq_getElem (by omega)
            have hw2 := l2 ws[i] (List.mem_cons_of_mem _ (List.getElem_mem _))
            generalize ws[i] = w1 at hw1 hw2
            have ea : atI (V.str n :: ws.map V.str) (0 + (i : Int) + 1) = some (.str w1) := at_in (by omega) (by rw [show (0 + (i : Int) + 1).toNat = i + 1 by omega, List.getElem?_cons_succ, List.getElem?_map, hw1]; rfl)
            walk_at "lw go"
            refine cl_part_in (W := W) (word := w1) (by omega) (by walk_at "lw at") ?_
            cases hpt : partP kvs role w1 with
            | none =>
              walk_at "lw go"
              refine ifD_yes rfl ?_
              walk_at "lw go"
              exact k1 (by rw [partsP_none i hr1 hw1 hpt]; rfl) _ (by walk_at "lw ex")
            | some v =>
              walk_at "lw go"
              refine ifD_no (part_ne L hpt) ?_
              have hl2 : (V.str n :: us).length < 1000000 := by rw [List.length_cons]; omega
              have h3' : At W H' I (.lst (.str n :: us)) := by walk_at "lw at"
              walk_at "lw go"
              rename_i H5 e5 g5 o5
              refine ⟨_, _, _, us ++ [v], rfl, e5, g5, ?_, by rw [List.length_append, hu]; rfl⟩
              rw [partsP_take i hlw.symm hr1 hw1, hp, hpt]
              rfl
          · rintro σ' H' ⟨v6, v7, v8, us, rfl, e3, h3, hp, hu⟩
            rw [List.length_map] at hp
            rw [List.take_length, List.take_of_length_le (by omega)] at hp
            walk_at "lw go"
            rename_i t H3 f3 e4 h4
            exact k2 n us (by rw [hp]; rfl) _ _ (by walk_at "lw ex") h4
      · rw [if_neg hm] at k1
        refine rd_ninKd (T.x_ROLES n hm) ?_
        walk_at "lw go"
        refine ifNB_yes rfl ?_
        walk_at "lw go"
        exact k1 rfl _ e1

theorem ok_labels_given (T : Tx P w K mg) : FnOk P w K mg base CX0 3 T.f_labels_given T.fd_labels_given ["lines"] (sp_labels_given) := by
  refine T.F_labels_given.ok sc_labels_given (fun vs H Q E h => ?_) (fun cdv A outer s H vs Q E hr h => ?_)
  · obtain ⟨W, p, ls, rfl, iv, hp, G, k⟩ := h
    rfl
  · obtain ⟨W, p, ls, rfl, iv, hp, G, k⟩ := h
    refine ⟨_, (pss_cons (ps_set (i := 1) sc_labels_given.nd rfl (by first | exact Or.inl rfl | exact Or.inr rfl) pe_dnewK)
      (pss_cons (ps_set (i := 2) sc_labels_given.nd rfl (by first | exact Or.inl rfl | exact Or.inr rfl) pe_int)
      (pss_cons (ps_for PassesOwn.never rfl (pi_list (pv 0)) (pg_name (i := 3) sc_labels_given.nd rfl (by first | exact Or.inl rfl | exact Or.inr rfl))
        (pss_cons (ps_set (i := 4) sc_labels_given.nd rfl (by first | exact Or.inl rfl | exact Or.inr rfl) (pe_call (ok_label_in T) hr (by rfl) T.g_label_in T.F_label_in.kp T.b_label_in .nil pass0 (pa_cons (pv 3) pa_nil)))
        (pss_one (ps_if (pt_cmpR op_ne (pv 4) pe_str (nomark _))
          (pss_one (ps_expr (pe_dsetd (pv 1) (pv 4) (pv 2) ⟨rfl, rfl, rfl, rfl⟩)))
          (pss_one (ps_if (pt_not (pt_val (pe_call (ok_is_ignored T) (hr.mono (by decide)) (by rfl) T.g_is_ignored T.F_is_ignored.kp T.b_is_ignored .nil pass0 (pa_cons (pv 3) pa_nil))))
            (pss_one (ps_set (i := 2) sc_labels_given.nd rfl (by first | exact Or.inl rfl | exact Or.inr rfl) (pe_op op_add (pv 2) pe_int)))
            pss_nil))))))
      (pss_one (ps_ret (pv 1)))))), ?_⟩
    walk_at "lw go"
    rename_i d H1 f1 e1 h1
    refine for_l (fun i σ' H' => ∃ v3 v4, σ' = [some (.ref p), some (.ref d), some (.int (runP ((ls.map formF).take i)).2), v3, v4] ∧ Ex W H H' ∧ At W H' d (.dK (runP ((ls.map formF).take i)).1)) ⟨_, _, rfl, e1, h1⟩ (fun i σ' H' _ ⟨_, _, _, e, _⟩ => e.at_ hp) ?_ ?_
    · rintro i x σ' H' hx ⟨v3, v4, rfl, e2, h2⟩
      obtain ⟨s, hs, rfl⟩ := ls_get hx
      have hsz := G.get hs
      have tk := take_get (fs_get hs)
      rw [tk, runP_snoc]
      have hlen : (runP ((ls.map formF).take i)).1.length < 1000000 := by
        have a := runP_len ((ls.map formF).take i)
        have b := G.2
        rw [List.length_take, List.length_map] at a
        omega
      walk_at "lw go"
      rename_i H3 e3
      by_cases hlab : labF s = ""
      · refine ifSn_no hlab ?_
        walk_at "lw go"
        refine ifNB ?_ ?_ <;> intro hig
        · walk_at "lw go"
          rw [form_ins hig hlab]
          refine ⟨some (.str s), some (.str (labF s)), ?_, by walk_at "lw ex", ?_⟩
          · cases insF (Txt.split s " ") <;> rfl
          · have : (stepP (runP ((ls.map formF).take i)) (formI (insF (Txt.split s " ")))).1 = (runP ((ls.map formF).take i)).1 := by cases insF (Txt.split s " ") <;> rfl
            rw [this]
            walk_at "lw at"
        · walk_at "lw go"
          rw [form_ign hig]
          exact ⟨_, _, rfl, by walk_at "lw ex", by show At W H3 d (.dK (runP _).1); walk_at "lw at"⟩
      · refine ifSn_yes hlab ?_
        walk_at "lw go"
        rw [form_lab hlab]
        refine rd_dsetS (W := W) (H0 := H) (by walk_at "lw ex") f1 (by walk_at "lw at") hlen (fun u hu => ?_) (fun hn H4 e4 h4 o4 => ?_)
        · refine ⟨_, _, rfl, by walk_at "lw ex", ?_⟩
          show At W H3 d (.dK (setD _ _ _))
          unfold setD
          rw [hu, if_pos (show (some u).isSome = true from rfl)]
          walk_at "lw at"
        · refine ⟨_, _, rfl, e4, ?_⟩
          show At W H4 d (.dK (setD _ _ _))
          unfold setD
          rw [hn, if_neg (by decide)]
          exact h4
    · rintro σ' H' ⟨v3, v4, rfl, e2, h2⟩
      rw [List.length_map, ← List.length_map (f := formF), List.take_length] at h2
      walk_at "lw go"
      exact k _ _ e2 h2

theorem ok_last_instruction (T : Tx P w K mg) : FnOk P w K mg base CX0 3 T.f_last_instruction T.fd_last_instruction ["lines"] (sp_last_instruction) := by
  refine T.F_last_instruction.ok sc_last_instruction (fun vs H Q E h => ?_) (fun cdv A outer s H vs Q E hr h => ?_)
  · obtain ⟨W, p, ls, rfl, iv, hp, G, k⟩ := h
    rfl
  · obtain ⟨W, p, ls, rfl, iv, hp, G, k⟩ := h
    refine ⟨_, (pss_cons (ps_set (i := 1) sc_last_instruction.nd rfl (by first | exact Or.inl rfl | exact Or.inr rfl) pe_int)
      (pss_cons (ps_for PassesOwn.never rfl (pi_enumS (by rfl) T.n_enumerate (pa_cons (pv 0) pa_nil) (pk_cons pe_int pk_nil)) (pg_tup (by rfl) (pgs_cons (pg_name (i := 2) sc_last_instruction.nd rfl (by first | exact Or.inl rfl | exact Or.inr rfl)) (pgs_cons (pg_name (i := 3) sc_last_instruction.nd rfl (by first | exact Or.inl rfl | exact Or.inr rfl)) pgs_nil)))
        (pss_one (ps_if (PW.pt (pw_and (pt_cmpR op_eq (pe_call (ok_label_in T) hr (by rfl) T.g_label_in T.F_label_in.kp T.b_label_in .nil pass0 (pa_cons (pv 3) pa_nil)) pe_str (nomark _)) (pw_and1 (pt_not (pt_val (pe_call (ok_is_ignored T) (hr.mono (by decide)) (by rfl) T.g_is_ignored T.F_is_ignored.kp T.b_is_ignored .nil pass0 (pa_cons (pv 3) pa_nil)))))))
          (pss_one (ps_set (i := 1) sc_last_instruction.nd rfl (by first | exact Or.inl rfl | exact Or.inr rfl) (pv 2)))
          pss_nil)))
      (pss_one (ps_ret (pv 1))))), ?_⟩
    walk_at "lw go"
    refine for_e (W := W) (fun i σ' H' => ∃ (z : Int) (v2 v3 : Option V), σ' = [some (.ref p), some (.int z), v2, v3] ∧ Ex W H H' ∧ LastIs ((ls.map formF).take i) z)
      ⟨_, _, _, rfl, Ex.refl iv, LastIs.nil⟩ (fun i σ' H' ⟨_, _, _, _, e, _⟩ => ⟨e.iv, e.at_ hp⟩) ?_ ?_
    · rintro i x T2 σ' H3 H' hx ⟨z, v2, v3, rfl, e3, h3⟩ f4 e4 h4
      obtain ⟨s, hs, rfl⟩ := ls_get hx
      have hsz := G.get hs
      have hi : i < ls.length := (List.getElem?_eq_some_iff.mp hs).1
      have tk := take_get (fs_get hs)
      have sn := h3.snoc (formF s)
      rw [← tk] at sn
      have hlen : ((ls.map formF).take i).length = i := by rw [List.length_take, List.length_map]; omega
      rw [hlen] at sn
      walk_at "lw go"
      by_cases hlab : labF s = ""
      · refine ifS_yes hlab ?_
        walk_at "lw go"
        refine ifNB ?_ ?_ <;> intro hig
        · walk_at "lw go"
          have c : isCode (formF s) = true := by
            rw [form_ins hig hlab]
            cases insF (Txt.split s " ") <;> rfl
          rw [if_pos c] at sn
          refine ⟨_, _, _, rfl, by walk_at "lw ex", ?_⟩
          rw [show (1 : Int) + (i : Int) = (i : Int) + 1 by omega]
          exact sn
        · walk_at "lw go"
          rw [form_ign hig, if_neg (by decide)] at sn
          exact ⟨_, _, _, rfl, by walk_at "lw ex", sn⟩
      · refine ifS_no hlab ?_
        walk_at "lw go"
        rw [form_lab hlab, if_neg (show ¬ isCode (Fm.lab (labF s)) = true from Bool.false_ne_true)] at sn
        exact ⟨_, _, _, rfl, by walk_at "lw ex", sn⟩
    · rintro σ' H' ⟨z, v2, v3, rfl, e2, h2⟩
      rw [List.length_map, ← List.length_map (f := formF), List.take_length] at h2
      walk_at "lw go"
      exact k _ _ e2 h2

theorem ok_assemble (T : Tx P w K mg) : FnOk P w K mg base (L2.CX P w) 5 T.f_assemble T.fd_assemble ["text"] (sp_assemble T.c_BadLine) := by
  refine T.F_assemble.okX sc_assemble (fun vs H Q E h => ?_) (fun cdv A outer s H vs Q E hr h => ?_)
  · obtain ⟨W, z, rfl, hz, iv, kE, k⟩ := h
    rfl
  · obtain ⟨W, z, rfl, hz, iv, kE, k⟩ := h
    refine ⟨_, (pss_cons (ps_set (i := 1) sc_assemble.nd rfl (by first | exact Or.inl rfl | exact Or.inr rfl) (pe_bm PySem.F.plainAttrs_str PySem.F.slot_str_split PySem.F.type_str_split m_split (pv 0) (pa_cons pe_str pa_nil)))
      (pss_cons (ps_set (i := 2) sc_assemble.nd rfl (by first | exact Or.inl rfl | exact Or.inr rfl) (pe_call (ok_labels_given T) (hr.mono (by decide)) (by rfl) T.g_labels_given T.F_labels_given.kp T.b_labels_given .nil pass0 (pa_cons (pv 1) pa_nil)))
      (pss_cons (ps_set (i := 3) sc_assemble.nd rfl (by first | exact Or.inl rfl | exact Or.inr rfl) (pe_call (ok_last_instruction T) (hr.mono (by decide)) (by rfl) T.g_last_instruction T.F_last_instruction.kp T.b_last_instruction .nil pass0 (pa_cons (pv 1) pa_nil)))
      (pss_cons (ps_set (i := 4) sc_assemble.nd rfl (by first | exact Or.inl rfl | exact Or.inr rfl) pe_dnewK)
      (pss_cons (ps_set (i := 5) sc_assemble.nd rfl (by first | exact Or.inl rfl | exact Or.inr rfl) (pe_lst pa_nil))
      (pss_cons (ps_for (passes_of rfl) rfl (pi_enumS (by rfl) T.n_enumerate (pa_cons (pv 1) pa_nil) (pk_cons pe_int pk_nil)) (pg_tup (by rfl) (pgs_cons (pg_name (i := 6) sc_assemble.nd rfl (by first | exact Or.inl rfl | exact Or.inr rfl)) (pgs_cons (pg_name (i := 7) sc_assemble.nd rfl (by first | exact Or.inl rfl | exact Or.inr rfl)) pgs_nil)))
        (pss_cons (ps_if (pt_val (pe_call (ok_is_ignored T) (hr.mono (by decide)) (by rfl) T.g_is_ignored T.F_is_ignored.kp T.b_is_ignored .nil pass0 (pa_cons (pv 7) pa_nil)))
          (pss_one ps_continue)
          pss_nil)
        (pss_cons (ps_set (i := 8) sc_assemble.nd rfl (by first | exact Or.inl rfl | exact Or.inr rfl) (pe_call (ok_label_in T) (hr.mono (by decide)) (by rfl) T.g_label_in T.F_label_in.kp T.b_label_in .nil pass0 (pa_cons (pv 7) pa_nil)))
        (pss_cons (ps_if (pt_cmpR op_ne (pv 8) pe_str (nomark _))
          (pss_cons (ps_if (PW.pt (pw_or (pt_cmp (pc_din (hu_of hr) (pv 8) (pv 4))) (pw_or1 (pt_cmpR op_gt (pv 6) (pv 3) (nomark _)))))
            (pss_one (ps_raiseS rfl T.S_BadLine hr (takes_of rfl rfl rfl rfl) (pa_cons (pv 6) pa_nil)))
            pss_nil)
          (pss_cons (ps_dput (hu_of hr) (pv 4) (pv 8) pe_bl rfl)
          (pss_one ps_continue)))
          pss_nil)
        (pss_cons (ps_set (i := 9) sc_assemble.nd rfl (by first | exact Or.inl rfl | exact Or.inr rfl) (pe_call (ok_instruction_in T) hr (by rfl) T.g_instruction_in T.F_instruction_in.kp T.b_instruction_in .nil pass0 (pa_cons (pv 7) (pa_cons (pv 2) pa_nil))))
        (pss_cons (ps_if (PW.pt (pw_or (pt_cmpR o_isN (pv 9) pe_non (nomark _)) (pw_or1 (pt_cmpR op_eq (pe_callB (r := Lw.rLen K) c_len (by rfl) T.n_len PySem.boot_len (pa_cons (pv 5) pa_nil)) (pe_glob (v := .int 4000) rfl T.g_LONGEST ⟨_, rfl⟩) (nomark _)))))
          (pss_one (ps_raiseS rfl T.S_BadLine hr (takes_of rfl rfl rfl rfl) (pa_cons (pv 6) pa_nil)))
          pss_nil)
        (pss_one (ps_expr (pe_bm PySem.F.plainAttrs_list PySem.F.slot_list_append PySem.F.type_list_append mt_append (pv 5) (pa_cons (pv 9) pa_nil))))))))))
      (pss_one (ps_ret (pe_callTy (r := Lw.rTupO K) c_tuple (by rfl) T.n_tuple (by decide +kernel) (pa_cons (pv 5) pa_nil)))))))))), ?_⟩
    have G : Sz (Txt.split z "\n") := by
      have q := split_size z
      exact ⟨fun s hs => by have := TX_mem hs; omega, by have := TX_len (Txt.split z "\n"); omega⟩
    have hfs : fsF z = (Txt.split z "\n").map formF := rfl
    generalize hls : Txt.split z "\n" = ls at G hfs
    generalize hfz : fsF z = fs at hfs kE k
    have lfs : fs.length = ls.length := by rw [hfs, List.length_map]
    have LP : LabK (runP fs).1 := by rw [hfs]; exact runP_lab ls
    have raise : ∀ (j : Nat) (H' : Hp) (y : Int), Ex W H H' → First fs j → y = (j : Int) + 1 → ∃ v', [V.int y] = [v'] ∧ ∀ d, H' d = none → E (.ref T.c_BadLine) (some d) (upd H' d (.xd [("line", v')])) := fun j H' y e f hy => by
      subst hy
      exact ⟨_, rfl, fun d hd => kE j f d _ (e.trans (Ex.new e.iv hd)) (At.new e.iv hd)⟩
    walk_at "lw go"
    rename_i p H1 f1 e1 h1
    rw [hls] at h1
    refine cl_labels_given e1.iv h1 G fun d H2 e2 h2 => ?_
    rw [← hfs] at h2
    walk_at "lw go"
    refine cl_last_instruction e2.iv (e2.at_ h1) G fun last H3 e3 h3 => ?_
    rw [← hfs] at h3
    walk_at "lw go"
    rename_i m H4 f4 e4 h4 g H5 f5 e5 h5
    have hd5 : At W H5 d (.dK (runP fs).1) := by walk_at "lw at"
    have hm5 : At W H5 m (.dK []) := by walk_at "lw at"
    have hp5 : At W H5 p (.lst (ls.map V.str)) := by walk_at "lw at"
    have hmg : m ≠ g := hm5.ne h5 (fun z => by cases z)
    refine for_e (W := W) (fun i σ' H' => ∃ (v6 v7 v8 v9 : Option V) (rs : List Addr), σ' = [some (.str z), some (.ref p), some (.ref d), some (.int last), some (.ref m), some (.ref g), v6, v7, v8, v9] ∧ Ex W H3 H' ∧
      At W H' m (.dK (metD (labN (fs.take i)))) ∧ At W H' g (.lst (rs.map V.ref)) ∧ Rows W H' rs (rowsOf (runP fs).1 (fs.take i)) ∧ ∀ j, j < i → badI fs j = false) ⟨_, _, _, _, [], rfl, e4.trans e5, hm5, h5, .nil, fun j hj => absurd hj (Nat.not_lt_zero _)⟩ (fun i σ' H' ⟨_, _, _, _, _, _, e, _⟩ => ⟨e.iv, e.at_ (by walk_at "lw at")⟩) ?_ ?_
    · rintro i x T2 σ' H6 H' hx ⟨v6, v7, v8, v9, rs, rfl, e6, h6, h7, h8, hgood⟩ f9 e9 h9
      obtain ⟨s, hs, rfl⟩ := ls_get hx
      have hsz := G.get hs
      have hf : fs[i]? = some (formF s) := by rw [hfs]; exact fs_get hs
      have hi : i < fs.length := (List.getElem?_eq_some_iff.mp hf).1
      have tk := take_get hf
      have bi := bad_at hf
      have step : badI fs i = false → ∀ j, j < i + 1 → badI fs j = false := fun b j hj => by
        by_cases q : j = i
        · rw [q]; exact b
        · exact hgood j (by omega)
      have hml : (metD (labN (fs.take i))).length < 1000000 := by
        have a := met_len (labN (fs.take i)) []
        have b := labN_len (fs.take i)
        have c := G.2
        rw [List.length_take] at b
        rw [List.length_nil] at a
        unfold metD
        omega
      have lr := h8.length
      rw [rowsOf_len] at lr
      walk_at "lw go"
      refine ifB ?_ ?_ <;> intro hig
      · walk_at "lw go"
        rw [form_ign hig] at tk bi
        have t1 : labN (fs.take (i + 1)) = labN (fs.take i) := by rw [tk, labN_snoc]; exact List.append_nil _
        have t2 : rowsOf (runP fs).1 (fs.take (i + 1)) = rowsOf (runP fs).1 (fs.take i) := by rw [tk, rowsOf_snoc]; exact List.append_nil _
        refine ⟨_, _, _, _, rs, rfl, by walk_at "lw ex", ?_, by walk_at "lw at", ?_, step bi⟩
        · rw [t1]; walk_at "lw at"
        · rw [t2]; exact h8.mono e9
      · walk_at "lw go"
        rename_i H7 e7
        by_cases hlab : labF s = ""
        · refine ifSn_no hlab ?_
          walk_at "lw go"
          have hform := form_ins hig hlab
          refine cl_instruction_in (W := W) (s := s) (by omega) e7.iv (by walk_at "lw at") LP (fun hn H8 e8 => ?_) (fun n us hn t H8 e8 h10 => ?_)
          · walk_at "lw go"
            refine ifD_yes rfl ?_
            refine iteT ?_
            refine rd_raiseS ?_
            walk_at "lw go"
            refine raise i _ _ (by walk_at "lw ex") ⟨hgood, ?_⟩ (by omega)
            rw [bi]
            cases hin : insF (Txt.split s " ") with
            | none => rw [hin] at hform; rw [hform]; rfl
            | some nv =>
              obtain ⟨n, vs⟩ := nv
              rw [hin] at hform
              rw [hform]
              have q := (insP_eq LP (Txt.split s " ")).2 n vs hin
              rw [hn] at q
              show ((match tgt n vs with | some w => !decide (w ∈ labN fs) | none => false) || _) = true
              cases ht : tgt n vs with
              | none => rw [ht] at q; cases q
              | some w =>
                rw [ht] at q
                have q : none = (valV (runP fs).1 (.inr w)).map (fun v => (n, vs.dropLast ++ [v])) := q
                have q2 : valV (runP fs).1 (.inr w) = none := by
                  cases e : valV (runP fs).1 (.inr w) with
                  | none => rfl
                  | some v => rw [e] at q; cases q
                have q3 := runP_mem w fs
                rw [q2] at q3
                show (!decide (w ∈ labN fs) || _) = true
                rw [← q3]
                rfl
          · -- an instruction
            obtain ⟨vs, hin, hrow, htg⟩ : ∃ vs, insF (Txt.split s " ") = some (n, vs) ∧ rowP (runP fs).1 n vs = .str n :: us ∧ (match tgt n vs with | some w => !decide (w ∈ labN fs) | none => false) = false := by
              cases hin : insF (Txt.split s " ") with
              | none => have := (insP_eq LP (Txt.split s " ")).1 hin; rw [hn] at this; cases this
              | some nv =>
                obtain ⟨n', vs⟩ := nv
                have q := (insP_eq LP (Txt.split s " ")).2 n' vs hin
                rw [hn] at q
                cases ht : tgt n' vs with
                | none =>
                  rw [ht] at q
                  obtain ⟨rfl, rfl⟩ : n = n' ∧ us = vs := by
                    have := Option.some.inj q
                    exact ⟨congrArg Prod.fst this, congrArg Prod.snd this⟩
                  exact ⟨us, rfl, by unfold rowP; rw [ht], by rw [ht]⟩
                | some w =>
                  rw [ht] at q
                  have q : some (n, us) = (valV (runP fs).1 (.inr w)).map (fun v => (n', vs.dropLast ++ [v])) := q
                  cases e : valV (runP fs).1 (.inr w) with
                  | none => rw [e] at q; cases q
                  | some v =>
                    rw [e] at q
                    obtain ⟨rfl, rfl⟩ : n = n' ∧ us = vs.dropLast ++ [v] := by
                      have := Option.some.inj q
                      exact ⟨congrArg Prod.fst this, congrArg Prod.snd this⟩
                    refine ⟨vs, rfl, by unfold rowP; rw [ht]; show _ :: (_ ++ [(valV (runP fs).1 (.inr w)).getD .non]) = _; rw [e]; rfl, ?_⟩
                    rw [ht]
                    have q3 := runP_mem w fs
                    rw [e] at q3
                    show (!decide (w ∈ labN fs)) = false
                    rw [← q3]
                    rfl
            rw [hin] at hform
            have hform : formF s = .ins n vs := hform
            rw [hform] at tk bi
            walk_at "lw go"
            refine ifD_no (fun z => nomatch z) ?_
            walk_at "lw go"
            have g8 : At W H8 g (.lst (rs.map V.ref)) := by walk_at "lw at"
            refine ifI ?_ ?_ <;> intro h4000
            · refine rd_raiseS ?_
              walk_at "lw go"
              refine raise i _ _ (by walk_at "lw ex") ⟨hgood, ?_⟩ (by omega)
              rw [bi]
              show (_ || decide (insN (fs.take i) = 4000)) = true
              rw [decide_eq_true (by rw [List.length_map] at h4000; omega), Bool.or_true]
            · have hnf : badI fs i = false := by
                rw [bi]
                show ((match tgt n vs with | some w => !decide (w ∈ labN fs) | none => false) || decide (insN (fs.take i) = 4000)) = false
                rw [htg, decide_eq_false (by rw [List.length_map] at h4000; omega)]
                rfl
              have hl9 : (rs.map V.ref).length < 1000000 := by
                have a : insN (fs.take i) ≤ (fs.take i).length := List.countP_le_length
                rw [List.length_take] at a
                have c := G.2
                rw [List.length_map]
                omega
              walk_at "lw go"
              refine rd_append (W := W) (H0 := H3) (by walk_at "lw ex") (e4.fresh f5) g8 hl9 fun H9 e11 g9 o9 => ?_
              have m8 : At W H8 m (.dK (metD (labN (fs.take i)))) := by walk_at "lw at"
              have t1 : labN (fs.take (i + 1)) = labN (fs.take i) := by rw [tk, labN_snoc]; exact List.append_nil _
              have t2 : rowsOf (runP fs).1 (fs.take (i + 1)) = rowsOf (runP fs).1 (fs.take i) ++ [.str n :: us] := by rw [tk, rowsOf_snoc, ← hrow]; rfl
              refine ⟨_, _, _, _, rs ++ [t], rfl, e11, ?_, by rw [List.map_append]; exact g9, ?_, step hnf⟩
              · rw [t1]; exact o9 m _ hmg m8
              · rw [t2]
                refine F2.append (show F2 (fun r row => At W H9 r (.tup row)) [t] [.str n :: us] from .cons (o9 t _ (h10.ne g8 fun z => by cases z) h10) .nil) ?_
                exact F2.mono (fun r row a => o9 r _ (a.ne g8 fun z => by cases z) a) (((h8.mono e9).mono e7).mono e8)
        · refine ifSn_yes hlab ?_
          walk_at "lw go"
          have hform := form_lab hlab
          rw [hform] at tk bi
          have t2 : rowsOf (runP fs).1 (fs.take (i + 1)) = rowsOf (runP fs).1 (fs.take i) := by rw [tk, rowsOf_snoc]; exact List.append_nil _
          have hgt := h3.gt i
          have bi2 : badI fs i = (decide (labF s ∈ labN (fs.take i)) || decide ((i : Int) + 1 > last)) := by rw [bi, hgt]; rfl
          rw [metD_mem]
          refine ifD ?_ ?_ <;> intro hmet
          · refine iteT ?_
            refine rd_raiseS ?_
            walk_at "lw go"
            refine raise i _ _ (by walk_at "lw ex") ⟨hgood, ?_⟩ (by omega)
            rw [bi2, decide_eq_true hmet, Bool.true_or]
          · walk_at "lw go"
            refine ifD ?_ ?_ <;> intro hla
            · refine rd_raiseS ?_
              walk_at "lw go"
              refine raise i _ _ (by walk_at "lw ex") ⟨hgood, ?_⟩ (by omega)
              rw [bi2, decide_eq_true (p := (i : Int) + 1 > last) (by omega), Bool.or_true]
            · have hnf : badI fs i = false := by rw [bi2, decide_eq_false hmet, decide_eq_false (by omega)]; rfl
              have m7 : At W H7 m (.dK (metD (labN (fs.take i)))) := by walk_at "lw at"
              walk_at "lw go"
              rename_i H8 e8 m8 o8
              have t1 : metD (labN (fs.take (i + 1))) = putK (metD (labN (fs.take i))) (.inr (labF s)) (.bl true) := by rw [tk, labN_snoc]; exact metD_snoc _ _
              rw [← t1] at m8
              refine ⟨_, _, _, _, rs, rfl, e8, m8, o8 _ _ hmg.symm (by walk_at "lw at"), ?_, step hnf⟩
              rw [t2]
              exact F2.mono (fun r row a => o8 r _ (a.ne m7 fun z => by cases z) a) ((h8.mono e9).mono e7)
    · rintro σ' H' ⟨v6, v7, v8, v9, rs, rfl, e6, h6, h7, h8, hgood⟩
      rw [List.length_map, ← lfs] at h8 hgood
      rw [List.take_length] at h8
      walk_at "lw go"
      rename_i t H7 f7 e7 h9
      exact k (noBad hgood) t H7 rs (by walk_at "lw ex") h9 (h8.mono e7)

theorem ok_law_pool (T : Tx P w K mg) : FnOk P w K mg base CX0 1 T.f_law_pool T.fd_law_pool ["script"] (sp_law_pool K) := by
  refine T.F_law_pool.ok sc_law_pool (fun vs H Q E h => ?_) (fun cdv A outer s H vs Q E hr h => ?_)
  · obtain ⟨a, ns, rfl, ha, hn, k⟩ := h
    rfl
  · obtain ⟨a, ns, rfl, ha, hn, k⟩ := h
    refine ⟨_, (pss_cons (ps_set (i := 1) sc_law_pool.nd rfl (by first | exact Or.inl rfl | exact Or.inr rfl) (pe_op op_powW (pe_op op_powW pe_int pe_int) pe_int))
      (pss_cons (ps_setLc (i := 2) (own := [("cell", 3)]) rfl sc_law_pool.nd rfl rfl (sw_true rfl rfl rfl (by decide +kernel)) (pi_list (pe_slice (r := rSlL K) sl_list (pv 0) po_none (po_some pe_int))) (blkOk_by (own := [("cell", 3)]) (N := N_law_pool) (sc := (defScope s_law_pool)) (by decide +kernel)) (fun _ _ _ _ _ => (pg_name (i := 3) sc_law_pool.nd rfl (by first | exact Or.inl rfl | exact Or.inr rfl))) (fun _ _ _ _ _ => pts_nil) (fun _ _ _ _ _ => (pe_op op_mod (pe_callTy c_int (by rfl) T.n_int (by decide +kernel) (pa_cons (pe_callB c_abs (by rfl) T.n_abs (by decide +kernel) (pa_cons (pv 3) pa_nil)) pa_nil)) (pv 1))))
      (pss_one (ps_ret (pe_lst (pa_cons pe_int (pa_cons pe_int (pa_cons pe_int (pa_cons (pv 2) (pa_cons pe_int pa_nil)))))))))), ?_⟩
    have iv : W0.iv H := trivial
    walk_at "lw all"
    refine rd_slLs (W := W0) iv ha ?_
    intro p H1 hp e1 h1
    have ai : AI (cutV (ns.map V.int) none (some 63)) := (AI.of ns).cut
    have al : (cutV (ns.map V.int) none (some 63)).length ≤ 63 := Nat.le_trans (cut_len _ _ _) (by rw [List.length_map]; exact hn)
    walk_at "lw all"
    refine rd_lc1 (W := W0) (fun _ y _ => ∃ z : Int, y = .int z) (by walk_at "lw iv") h1 (by omega) (fun _ _ _ _ _ r => r) (fun n x D acc H' QV hx hD hDa e q => ?_) (fun C H2 ys hD e2 h2 hA => ?_)
    · obtain ⟨z, rfl⟩ := ai.get hx
      walk_at "lw go"
      exact q _ _ (Ex.refl e.iv) ⟨_, rfl⟩
    obtain ⟨cs, rfl⟩ := (AI.of_all hA).ints
    walk_at "lw all"
    rename_i p5 H5 f5 e5 h5
    have hc5 : At W0 H5 C (.lst (cs.map V.int)) := by walk_at "lw at"
    exact k _ _ ⟨C, 0, 0, 4409, 0, cs, h5.1, hc5.1, (h2.ne_fresh f5).symm, by decide⟩

theorem ok_law_draw (T : Tx P w K mg) : FnOk P w K mg base CX0 1 T.f_law_draw T.fd_law_draw ["pool", "many"] (sp_law_draw) := by
  refine T.F_law_draw.ok sc_law_draw (fun vs H Q E h => ?_) (fun cdv A outer s H vs Q E hr h => ?_)
  · obtain ⟨b, many, rfl, m0, m1, ⟨c, r, kk, s0, t, cs, B⟩, k⟩ := h
    rfl
  · obtain ⟨b, many, rfl, m0, m1, ⟨c, r, kk, s0, t, cs, B⟩, k⟩ := h
    refine ⟨_, (pss_cut (ps_if (PW.pt (pw_and (pt_cmpR op_eq (pe_ix (r := rIxL K) ix_list (pv 0) pe_int (fun _ _ => rfl)) pe_int (nomark _)) (pw_and1 (pt_cmpR op_lt (pe_ix (r := rIxL K) ix_list (pv 0) pe_int (fun _ _ => rfl)) (pe_callB (r := Lw.rLen K) c_len (by rfl) T.n_len PySem.boot_len (pa_cons (pe_ix (r := rIxL K) ix_list (pv 0) pe_int (fun _ _ => rfl)) pa_nil)) (nomark _)))))
        (pss_cons (ps_set (i := 2) sc_law_draw.nd rfl (by first | exact Or.inl rfl | exact Or.inr rfl) (pe_ix (r := rIxL K) ix_list (pe_ix (r := rIxL K) ix_list (pv 0) pe_int (fun _ _ => rfl)) (pe_ix (r := rIxL K) ix_list (pv 0) pe_int (fun _ _ => rfl)) (fun _ _ => rfl)))
        (pss_cons (ps_asg (pe_op op_add (pe_ix (r := rIxL K) ix_list (pv 0) pe_int (fun _ _ => rfl)) pe_int) (pg_sub (pv 0) pe_int set_list))
        (pss_one (ps_if (pt_cmpR op_ge (pv 2) (pe_op op_powW pe_int pe_int) (nomark _))
          (pss_one (ps_asg (pv 2) (pg_sub (pv 0) pe_int set_list)))
          (pss_one (ps_asg (pe_op op_mod (pe_callTy c_int (by rfl) T.n_int (by decide +kernel) (pa_cons (pe_op op_add (pe_op op_add (pe_op op_mul (pe_ix (r := rIxL K) ix_list (pv 0) pe_int (fun _ _ => rfl)) pe_int) (pe_op op_mul (pv 2) pe_int)) pe_int) pa_nil)) pe_int) (pg_sub (pv 0) pe_int set_list)))))))
        pss_nil)
      (pss_cons (ps_if (pt_cmpR op_gt (pe_ix (r := rIxL K) ix_list (pv 0) pe_int (fun _ _ => rfl)) pe_int (nomark _))
        (pss_cons (ps_set (i := 3) sc_law_draw.nd rfl (by first | exact Or.inl rfl | exact Or.inr rfl) (pe_op op_mod (pe_callTy c_int (by rfl) T.n_int (by decide +kernel) (pa_cons (pe_ix (r := rIxL K) ix_list (pv 0) pe_int (fun _ _ => rfl)) pa_nil)) (pv 1)))
        (pss_cons (ps_asg (pe_op op_fdiv (pe_ix (r := rIxL K) ix_list (pv 0) pe_int (fun _ _ => rfl)) (pv 1)) (pg_sub (pv 0) pe_int set_list))
        (pss_one (ps_ret (pv 3)))))
        pss_nil)
      (pss_cons (ps_asg (pe_op op_add (pe_ix (r := rIxL K) ix_list (pv 0) pe_int (fun _ _ => rfl)) pe_int) (pg_sub (pv 0) pe_int set_list))
      (pss_cons (ps_asg (pe_op op_mod (pe_callTy c_int (by rfl) T.n_int (by decide +kernel) (pa_cons (pe_op op_add (pe_op op_add (pe_op op_mul (pe_ix (r := rIxL K) ix_list (pv 0) pe_int (fun _ _ => rfl)) pe_int) (pe_op op_mul (pe_ix (r := rIxL K) ix_list (pv 0) pe_int (fun _ _ => rfl)) pe_int)) pe_int) pa_nil)) pe_int) (pg_sub (pv 0) pe_int set_list))
      (pss_cons (ps_set (i := 4) sc_law_draw.nd rfl (by first | exact Or.inl rfl | exact Or.inr rfl) (pe_op op_mod (pe_callTy c_int (by rfl) T.n_int (by decide +kernel) (pa_cons (pe_op op_mul (pe_ix (r := rIxL K) ix_list (pv 0) pe_int (fun _ _ => rfl)) (pe_op op_add (pe_op op_fdiv (pe_ix (r := rIxL K) ix_list (pv 0) pe_int (fun _ _ => rfl)) pe_int) pe_int)) pa_nil)) pe_int))
      (pss_one (ps_ret (pe_op op_mod (pe_callTy c_int (by rfl) T.n_int (by decide +kernel) (pa_cons (pe_op op_fdiv (pv 4) pe_int) pa_nil)) (pv 1))))))))), ?_⟩
    obtain ⟨hb, hc, bc, k0⟩ := id B
    refine rd_cut (fun σ' H' => ∃ (r2 k2 s2 : Int) (v : Option V), σ' = [some (.ref b), some (.int many), v, none, none] ∧ PoolIs H' b c r2 k2 s2 t cs ∧ ∀ a, a ≠ b → H' a = H a) ?_ ?_
    · walk_at "lw all"
      · rename_i hlt
        rw [List.length_map] at hlt
        have hk : kk.toNat < cs.length := by omega
        refine rd_ixLr hc (at_in k0 (v := V.int (cs[kk.toNat])) (by rw [List.getElem?_map, List.getElem?_eq_getElem hk]; rfl)) ?_
        generalize cs[kk.toNat] = cell
        walk_at "lw all"
        · rename_i H2 g2 o2 hc2 H3 g3 o3
          exact ⟨_, _, _, _, rfl, ⟨g3, (o3 c bc.symm).trans ((o2 c bc.symm).trans hc), bc, by omega⟩, fun a ha => (o3 a ha).trans (o2 a ha)⟩
        · rename_i H2 g2 o2 hc2 H3 g3 o3
          exact ⟨_, _, _, _, rfl, ⟨g3, (o3 c bc.symm).trans ((o2 c bc.symm).trans hc), bc, by omega⟩, fun a ha => (o3 a ha).trans (o2 a ha)⟩
      · exact ⟨_, _, _, _, rfl, ⟨hb, hc, bc, k0⟩, fun a ha => rfl⟩
      · exact ⟨_, _, _, _, rfl, ⟨hb, hc, bc, k0⟩, fun a ha => rfl⟩
    rintro σ' H1 ⟨r2, k2, s2, v, rfl, B1, h1⟩
    obtain ⟨hb1, hc1, _, k1⟩ := id B1
    walk_at "lw all"
    · rename_i hpos H2 g2 o2
      have B3 : PoolIs H2 b c (r2 / many) k2 s2 t cs := ⟨g2, (o2 c bc.symm).trans hc1, bc, k1⟩
      exact k _ _ (ex_pool B B3 fun a ha => (o2 a ha).trans (h1 a ha)) (Int.emod_nonneg _ (by omega)) (Int.emod_lt_of_pos _ m0)
    · rename_i hpos H2 g2 o2 H3 g3 o3
      have B3 := PoolIs.mk g3 ((o3 c bc.symm).trans ((o2 c bc.symm).trans hc1)) bc k1
      exact k _ _ (ex_pool B B3 fun a ha => (o3 a ha).trans ((o2 a ha).trans (h1 a ha))) (Int.emod_nonneg _ (by omega)) (Int.emod_lt_of_pos _ m0)

theorem ok_law_is_integer (T : Tx P w K mg) : FnOk P w K mg base CX0 1 T.f_law_is_integer T.fd_law_is_integer ["thing"] (sp_law_is_integer) := by
  refine T.F_law_is_integer.ok sc_law_is_integer (fun vs H Q E h => ?_) (fun cdv A outer s H vs Q E hr h => ?_)
  · obtain ⟨i, rfl, k⟩ := h
    rfl
  · obtain ⟨i, rfl, k⟩ := h
    refine ⟨_, (pss_one (ps_ret (pe_and (pe_callB (r := rIsi K) call_isi (by rfl) T.n_isinstance (by decide +kernel) (pa_cons (pv 0) (pa_cons (pe_bltn (v := .ty "int") rfl T.n_int (by decide +kernel) rfl) pa_nil))) (pe_one (pe_not (pe_callB (r := rIsi K) call_isi (by rfl) T.n_isinstance (by decide +kernel) (pa_cons (pv 0) (pa_cons (pe_bltn (v := .ty "bool") rfl T.n_bool (by decide +kernel) rfl) pa_nil)))))))), ?_⟩
    walk_at "lw all"
    exact k
theorem okq_law_is_integer (T : Tx P w K mg) : FnQ P w K mg base CX0 1 T.f_law_is_integer T.fd_law_is_integer ["thing"] (sp_law_is_integer) := by
  refine Lw.Fun.okQ T.F_law_is_integer sc_law_is_integer (fun vs H Q E h => ?_) (fun cdv A outer s H vs Q E hr h => ?_)
  · obtain ⟨i, rfl, k⟩ := h
    rfl
  · obtain ⟨i, rfl, k⟩ := h
    refine ⟨_, (pss_one (ps_ret (pe_and (pe_callB (r := rIsi K) call_isi (by rfl) T.n_isinstance (by decide +kernel) (pa_cons (pv 0) (pa_cons (pe_bltn (v := .ty "int") rfl T.n_int (by decide +kernel) rfl) pa_nil))) (pe_one (pe_not (pe_callB (r := rIsi K) call_isi (by rfl) T.n_isinstance (by decide +kernel) (pa_cons (pv 0) (pa_cons (pe_bltn (v := .ty "bool") rfl T.n_bool (by decide +kernel) rfl) pa_nil)))))))), ?_⟩
    walk_at "lw all"
    exact k

theorem ok_law_deeds (T : Tx P w K mg) : FnOk P w K mg base CX0 1 T.f_law_deeds T.fd_law_deeds [] (sp_law_deeds) := by
  refine T.F_law_deeds.ok sc_law_deeds (fun vs H Q E h => ?_) (fun cdv A outer s H vs Q E hr h => ?_)
  · obtain ⟨W, rfl, iv, k⟩ := h
    rfl
  · obtain ⟨W, rfl, iv, k⟩ := h
    refine ⟨_, (pss_cons (ps_set (i := 0) sc_law_deeds.nd rfl (by first | exact Or.inl rfl | exact Or.inr rfl) (pe_lst (pa_cons pe_str (pa_cons pe_str (pa_cons pe_str (pa_cons pe_str (pa_cons pe_str (pa_cons pe_str (pa_cons pe_str (pa_cons pe_str (pa_cons pe_str (pa_cons pe_str (pa_cons pe_str pa_nil)))))))))))))
      (pss_cons (ps_set (i := 0) sc_law_deeds.nd rfl (by first | exact Or.inl rfl | exact Or.inr rfl) (pe_op op_cat (pv 0) (pe_lst (pa_cons pe_str (pa_cons pe_str (pa_cons pe_str (pa_cons pe_str (pa_cons pe_str (pa_cons pe_str (pa_cons pe_str (pa_cons pe_str (pa_cons pe_str pa_nil))))))))))))
      (pss_one (ps_ret (pe_op op_cat (pv 0) (pe_lst (pa_cons pe_str (pa_cons pe_str (pa_cons pe_str pa_nil))))))))), ?_⟩
    walk_at "lw all"
    exact k _ _ (by walk_at "lw ex") (by walk_at "lw at")

theorem ok_law_signs (T : Tx P w K mg) : FnOk P w K mg base CX0 1 T.f_law_signs T.fd_law_signs [] (sp_law_signs) := by
  refine T.F_law_signs.ok sc_law_signs (fun vs H Q E h => ?_) (fun cdv A outer s H vs Q E hr h => ?_)
  · obtain ⟨rfl, k⟩ := h
    rfl
  · obtain ⟨rfl, k⟩ := h
    refine ⟨_, (pss_cons (ps_set (i := 0) sc_law_signs.nd rfl (by first | exact Or.inl rfl | exact Or.inr rfl) pe_str)
      (pss_one (ps_ret (pe_op o_adds (pv 0) pe_str)))), ?_⟩
    walk_at "lw all"
    exact k

theorem ok_law_same_row (T : Tx P w K mg) : FnOk P w K mg base CX0 2 T.f_law_same_row T.fd_law_same_row ["told", "due"] (sp_law_same_row) := by
  refine T.F_law_same_row.ok sc_law_same_row (fun vs H Q E h => ?_) (fun cdv A outer s H vs Q E hr h => ?_)
  · obtain ⟨W, t, d, row, rfl, ht, hd, hab, hl, k⟩ := h
    rfl
  · obtain ⟨W, t, d, row, rfl, ht, hd, hab, hl, k⟩ := h
    refine ⟨_, (pss_cons (ps_if (PW.pt (pw_or (pt_not (pt_val (pe_callB (r := rIsi K) call_isi (by rfl) T.n_isinstance (by decide +kernel) (pa_cons (pv 0) (pa_cons (pe_bltn (v := .ty "tuple") rfl T.n_tuple (by decide +kernel) rfl) pa_nil))))) (pw_or1 (pt_cmpR op_ne (pe_callB (r := Lw.rLen K) c_len (by rfl) T.n_len PySem.boot_len (pa_cons (pv 0) pa_nil)) (pe_callB (r := Lw.rLen K) c_len (by rfl) T.n_len PySem.boot_len (pa_cons (pv 1) pa_nil)) (nomark _)))))
        (pss_one (ps_ret pe_bl))
        pss_nil)
      (pss_cons (ps_for PassesOwn.never rfl (pi_range1 rfl T.n_range (pa_cons (pe_callB (r := Lw.rLen K) c_len (by rfl) T.n_len PySem.boot_len (pa_cons (pv 1) pa_nil)) pa_nil)) (pg_name (i := 2) sc_law_same_row.nd rfl (by first | exact Or.inl rfl | exact Or.inr rfl))
        (pss_one (ps_if (pt_val (pe_callB (r := rIsi K) call_isi (by rfl) T.n_isinstance (by decide +kernel) (pa_cons (pe_ix (r := rIxL K) ix_list (pv 1) (pv 2) (fun _ _ => rfl)) (pa_cons (pe_bltn (v := .ty "str") rfl T.n_str (by decide +kernel) rfl) pa_nil))))
          (pss_one (ps_if (PW.pt (pw_or (pt_not (pt_val (pe_callB (r := rIsi K) call_isi (by rfl) T.n_isinstance (by decide +kernel) (pa_cons (pe_ix (r := rIxT K) ix_tup (pv 0) (pv 2) (fun _ _ => rfl)) (pa_cons (pe_bltn (v := .ty "str") rfl T.n_str (by decide +kernel) rfl) pa_nil))))) (pw_or1 (pt_cmpR op_ne (pe_ix (r := rIxT K) ix_tup (pv 0) (pv 2) (fun _ _ => rfl)) (pe_ix (r := rIxL K) ix_list (pv 1) (pv 2) (fun _ _ => rfl)) (nomark _)))))
            (pss_one (ps_ret pe_bl))
            pss_nil))
          (pss_one (ps_if (PW.pt (pw_or (pt_not (pt_val (pe_call (ok_law_is_integer T) hr (by rfl) T.g_law_is_integer T.F_law_is_integer.kp T.b_law_is_integer .nil pass0 (pa_cons (pe_ix (r := rIxT K) ix_tup (pv 0) (pv 2) (fun _ _ => rfl)) pa_nil)))) (pw_or1 (pt_cmpR op_ne (pe_ix (r := rIxT K) ix_tup (pv 0) (pv 2) (fun _ _ => rfl)) (pe_ix (r := rIxL K) ix_list (pv 1) (pv 2) (fun _ _ => rfl)) (nomark _)))))
            (pss_one (ps_ret pe_bl))
            pss_nil)))))
      (pss_one (ps_ret pe_bl)))), ?_⟩
    walk_at "lw all"
    refine for_r (fun i σ' H' => ∃ v2 : Option V, σ' = [some (.ref t), some (.ref d), v2] ∧ H = H') ⟨_, rfl, rfl⟩ ?_ ?_
    · rintro i σ' H' hi ⟨v2, rfl, rfl⟩
      have hi2 : i < row.length := by omega
      have e0 : atI row (0 + (i : Int)) = some row[i] := at_in (by omega) (by rw [show (0 + (i : Int)).toNat = i by omega]; exact List.getElem?_eq_getElem hi2)
      rcases hab row[i] (List.getElem_mem hi2) with ⟨z, ez⟩ | ⟨z, ez⟩
      · rw [ez] at e0
        walk_at "lw all"
        exact ⟨_, rfl, rfl⟩
      · rw [ez] at e0
        have ee : z = z := rfl
        walk_at "lw all"
        exact ⟨_, rfl, rfl⟩
    · rintro σ' H' ⟨v2, rfl, rfl⟩
      walk_at "lw all"
      exact k

theorem ok_law_same_program (T : Tx P w K mg) : FnOk P w K mg base CX0 3 T.f_law_same_program T.fd_law_same_program ["told", "due"] (sp_law_same_program) := by
  refine T.F_law_same_program.ok sc_law_same_program (fun vs H Q E h => ?_) (fun cdv A outer s H vs Q E hr h => ?_)
  · obtain ⟨W, t, d, rs, ds, rows, rfl, ht, hrs, hd, hL, hab, hl, k⟩ := h
    rfl
  · obtain ⟨W, t, d, rs, ds, rows, rfl, ht, hrs, hd, hL, hab, hl, k⟩ := h
    refine ⟨_, (pss_cons (ps_if (PW.pt (pw_or (pt_not (pt_val (pe_callB (r := rIsi K) call_isi (by rfl) T.n_isinstance (by decide +kernel) (pa_cons (pv 0) (pa_cons (pe_bltn (v := .ty "tuple") rfl T.n_tuple (by decide +kernel) rfl) pa_nil))))) (pw_or1 (pt_cmpR op_ne (pe_callB (r := Lw.rLen K) c_len (by rfl) T.n_len PySem.boot_len (pa_cons (pv 0) pa_nil)) (pe_callB (r := Lw.rLen K) c_len (by rfl) T.n_len PySem.boot_len (pa_cons (pv 1) pa_nil)) (nomark _)))))
        (pss_one (ps_ret pe_bl))
        pss_nil)
      (pss_cons (ps_for PassesOwn.never rfl (pi_range1 rfl T.n_range (pa_cons (pe_callB (r := Lw.rLen K) c_len (by rfl) T.n_len PySem.boot_len (pa_cons (pv 1) pa_nil)) pa_nil)) (pg_name (i := 2) sc_law_same_program.nd rfl (by first | exact Or.inl rfl | exact Or.inr rfl))
        (pss_one (ps_if (pt_not (pt_val (pe_call (ok_law_same_row T) hr (by rfl) T.g_law_same_row T.F_law_same_row.kp T.b_law_same_row .nil pass0 (pa_cons (pe_ix (r := rIxT K) ix_tup (pv 0) (pv 2) (fun _ _ => rfl)) (pa_cons (pe_ix (r := rIxL K) ix_list (pv 1) (pv 2) (fun _ _ => rfl)) pa_nil)))))
          (pss_one (ps_ret pe_bl))
          pss_nil)))
      (pss_one (ps_ret pe_bl)))), ?_⟩
    have l1 := hrs.length
    have l2 := hL.length
    have le : ((rs.map V.ref).length : Int) = ((ds.map V.ref).length : Int) := by rw [List.length_map, List.length_map]; omega
    walk_at "lw all"
    refine for_r (fun i σ' H' => ∃ v2 : Option V, σ' = [some (.ref t), some (.ref d), v2] ∧ H = H') ⟨_, rfl, rfl⟩ ?_ ?_
    · rintro i σ' H' hi ⟨v2, rfl, rfl⟩
      rw [List.length_map] at hi
      have hi2 : i < rows.length := by omega
      obtain ⟨a, ea, ha⟩ := hrs.getR (List.getElem?_eq_getElem hi2)
      obtain ⟨c, ec, hc⟩ := hL.getR (List.getElem?_eq_getElem hi2)
      have q := hab rows[i] (List.getElem_mem hi2)
      have e0 : atI (rs.map V.ref) (0 + (i : Int)) = some (.ref a) := at_in (by omega) (by rw [show (0 + (i : Int)).toNat = i by omega, List.getElem?_map, ea]; rfl)
      have e1 : atI (ds.map V.ref) (0 + (i : Int)) = some (.ref c) := at_in (by omega) (by rw [show (0 + (i : Int)).toNat = i by omega, List.getElem?_map, ec]; rfl)
      walk_at "lw go"
      refine cl_law_same_row ha hc q.1 q.2 ?_
      walk_at "lw all"
      exact ⟨_, rfl, rfl⟩
    · rintro σ' H' ⟨v2, rfl, rfl⟩
      walk_at "lw all"
      exact k

theorem flat_us : ∀ us : List Str, (us.map V.str).all flatV = true
  | [] => rfl
  | u :: us => by rw [List.map_cons, List.all_cons, flat_us us]; rfl
theorem all2_eq : ∀ {xs ys : List V}, All2 (fun x y => y = x) xs ys → ys = xs
  | _, _, .nil => rfl
  | _, _, .cons r t => by rw [r, all2_eq t]
theorem ok_law_label (T : Tx P w K mg) : FnOk P w K mg base CX0 2 T.f_law_label T.fd_law_label ["pool", "used"] (sp_law_label) := by
  refine T.F_law_label.ok sc_law_label (fun vs H Q E h => ?_) (fun cdv A outer s H vs Q E hr h => ?_)
  · obtain ⟨b, u, us, rfl, iv, hu, hl, k⟩ := h
    rfl
  · obtain ⟨b, u, us, rfl, iv, hu, hl, k⟩ := h
    refine ⟨_, (pss_cons (ps_set (i := 2) sc_law_label.nd rfl (by first | exact Or.inl rfl | exact Or.inr rfl) pe_str)
      (pss_cons (ps_set (i := 3) sc_law_label.nd rfl (by first | exact Or.inl rfl | exact Or.inr rfl) (pe_ix ix_str (pv 2) (pe_call (ok_law_draw T) hr (by rfl) T.g_law_draw T.F_law_draw.kp T.b_law_draw .nil pass0 (pa_cons (pv 0) (pa_cons pe_int pa_nil))) (fun _ _ => rfl)))
      (pss_cut (ps_for PassesOwn.never rfl (pi_range1 rfl T.n_range (pa_cons (pe_call (ok_law_draw T) hr (by rfl) T.g_law_draw T.F_law_draw.kp T.b_law_draw .nil pass0 (pa_cons (pv 0) (pa_cons pe_int pa_nil))) pa_nil)) (pg_name (i := 4) sc_law_label.nd rfl (by first | exact Or.inl rfl | exact Or.inr rfl))
        (pss_one (ps_set (i := 3) sc_law_label.nd rfl (by first | exact Or.inl rfl | exact Or.inr rfl) (pe_op o_adds (pv 3) (pe_ix ix_str (pe_op o_adds (pv 2) pe_str) (pe_call (ok_law_draw T) hr (by rfl) T.g_law_draw T.F_law_draw.kp T.b_law_draw .nil pass0 (pa_cons (pv 0) (pa_cons pe_int pa_nil))) (fun _ _ => rfl))))))
      (pss_cut (ps_if (pt_cmpR op_eq (pe_call (ok_law_draw T) hr (by rfl) T.g_law_draw T.F_law_draw.kp T.b_law_draw .nil pass0 (pa_cons (pv 0) (pa_cons pe_int pa_nil))) pe_int (nomark _))
        (pss_one (ps_set (i := 3) sc_law_label.nd rfl (by first | exact Or.inl rfl | exact Or.inr rfl) (pe_ix (r := rIxL K) ix_list (pe_lst (pa_cons pe_str (pa_cons pe_str (pa_cons pe_str (pa_cons pe_str (pa_cons pe_str (pa_cons pe_str (pa_cons pe_str (pa_cons pe_str (pa_cons pe_str (pa_cons pe_str pa_nil))))))))))) (pe_call (ok_law_draw T) hr (by rfl) T.g_law_draw T.F_law_draw.kp T.b_law_draw .nil pass0 (pa_cons (pv 0) (pa_cons pe_int pa_nil))) (fun _ _ => rfl))))
        pss_nil)
      (pss_cons (ps_if (pt_cmpR (r := rIn K false) op_in_seq (pv 3) (pv 1) (by rfl))
        (pss_cons (ps_setLc (i := 5) (own := [("k", 4)]) rfl sc_law_label.nd rfl rfl (sw_true rfl rfl rfl (by decide +kernel)) (pi_range1 rfl T.n_range (pa_cons pe_int pa_nil)) (blkOk_by (own := [("k", 4)]) (N := N_law_label) (sc := (defScope s_law_label)) (by decide +kernel)) (fun _ _ _ _ _ => (pg_name (i := 4) sc_law_label.nd rfl (by first | exact Or.inl rfl | exact Or.inr rfl))) (fun _ _ _ _ _ => pts_nil) (fun _ _ _ _ _ => (pe_op o_adds (pe_slice sl_str (pv 3) po_none (po_some pe_int)) (pe_callTy c_strB (by rfl) T.n_str (by decide +kernel) (pa_cons (pv 4) pa_nil)))))
        (pss_one (ps_set (i := 3) sc_law_label.nd rfl (by first | exact Or.inl rfl | exact Or.inr rfl) (pe_ix (r := rIxL K) ix_list (pe_lc (own := [("word", 6)]) rfl sc_law_label.nd (pi_list (pv 5)) (blkOk_by (own := [("word", 6)]) (N := N_law_label) (sc := (defScope s_law_label)) (by decide +kernel)) (fun _ _ _ _ _ => (pg_name (i := 6) sc_law_label.nd rfl (by first | exact Or.inl rfl | exact Or.inr rfl))) (fun _ _ _ _ _ => (pts_one (pt_cmpR (r := rIn K true) op_notIn_seq (pv 6) (pv 1) (by rfl)))) (fun _ _ _ _ _ => (pv 6))) pe_int (fun _ _ => rfl)))))
        pss_nil)
      (pss_one (ps_ret (pv 3)))))))), ?_⟩
    walk_at "lw go"
    rename_i r0 H1 e1 r00 r01
    obtain ⟨c, hc, hs⟩ := letter_at r00 r01
    walk_at "lw go"
    refine rd_cut (fun σ' H' => ∃ (l : Str) (v4 : Option V), σ' = [some (.ref b), some (.ref u), some (.str "abcdefghijklmnopqrstuvwxyz"), some (.str l), v4, none, none] ∧ Ex (WB b) H H' ∧ GL 7 l) ?_ ?_
    · walk_at "lw go"
      rename_i r1 H2 e2 r10 r11
      refine for_r (fun i σ' H' => ∃ (l : Str) (v4 : Option V), σ' = [some (.ref b), some (.ref u), some (.str "abcdefghijklmnopqrstuvwxyz"), some (.str l), v4, none, none] ∧ Ex (WB b) H H' ∧ GL i l) ⟨_, _, rfl, by walk_at "lw ex", GL.one hs⟩ ?_ ?_
      · rintro i σ' H' hi ⟨l, v4, rfl, e3, hg⟩
        have hll := hg.len
        walk_at "lw go"
        rename_i r2 H3 e4 r20 r21
        obtain ⟨c2, hc2, hs2⟩ := sign_at r20 r21
        have h1 : (⟨#[c2]⟩ : Str).length = 1 := rfl
        walk_at "lw go"
        exact ⟨_, _, rfl, by walk_at "lw ex", hg.add hs2⟩
      · rintro σ' H' ⟨l, v4, rfl, e3, hg⟩
        exact ⟨_, _, rfl, e3, hg.mono (by omega)⟩
    rintro σ' H1 ⟨l, v4, rfl, e1, hg⟩
    refine rd_cut (fun σ' H' => ∃ (l : Str) (v4 : Option V), σ' = [some (.ref b), some (.ref u), some (.str "abcdefghijklmnopqrstuvwxyz"), some (.str l), v4, none, none] ∧ Ex (WB b) H H' ∧ isL l = true) ?_ ?_
    · walk_at "lw go"
      rename_i r1 H2 e2 r10 r11
      refine ifI (fun e => ?_) (fun e => ?_)
      · walk_at "lw go"
        rename_i L H3 f3 e3 h3 r2 H4 e4 r20 r21 v hv
        simp only [List.mem_cons, List.not_mem_nil, or_false] at hv
        have e5 : Ex (WB b) H H4 := by walk_at "lw ex"
        rcases hv with rfl | rfl | rfl | rfl | rfl | rfl | rfl | rfl | rfl | rfl <;> exact ⟨_, _, rfl, e5, by decide +kernel⟩
      · walk_at "lw go"
        exact ⟨_, _, rfl, by walk_at "lw ex", hg.isL⟩
    rintro σ' H2 ⟨l2, v4, rfl, e2, hg2⟩
    have hg7 : GL 7 l2 := isL_of hg2
    have hl2 := hg7.len
    walk_at "lw go"
    refine rd_inL (W := WB b) (by walk_at "lw at") rfl (flat_us _) ?_
    rw [inV_str]
    walk_at "lw go"
    refine ifD (fun hin => ?_) (fun hin => ?_)
    · walk_at "lw go"
      refine lc_w (W := WB b) (X := fun i x => x = .int (0 + (i : Nat))) (n := 60) walk_range (fun n ys _ => ys = (List.range n).map fun k : Nat => V.str (cutS l2 none (some 6) ++ (toString (k : Int) : Str))) e2.iv (by decide) (fun _ _ => trivial) (fun _ _ _ _ _ h => h) rfl ?_ ?_
      · rintro n x D ys H' QV QN hn rfl hD hDa e3 hy _ qv qn
        have hc6 : (cutS l2 none (some 6)).length ≤ 8 := Nat.le_trans (cutS_length _ _ _) hl2
        have hnl : (toString (0 + (n : Int)) : Str).length ≤ 2 := by
          rw [len_tl, tl_toString (by omega)]
          exact numL_len (by decide) (by omega)
        walk_at "lw go"
        refine iteT ?_
        walk_at "lw go"
        refine rd_strI (Nat.lt_of_le_of_lt (Nat.log2_le_self _) (by omega)) ?_
        walk_at "lw go"
        refine qv _ _ (Ex.refl e3.iv) ?_
        rw [hy, List.range_succ, List.map_append, List.map_singleton, Int.zero_add]
      · rintro D H3 ys hD e3 hDl hy _
        subst hy
        walk_at "lw go"
        refine rd_lcF (W := WB b) (fun v => !inV v (us.map V.str)) (fun x y _ => y = x) e3.iv hDl (by simp) (fun _ _ _ _ _ r => r) (fun n x H' QB hx e q => ?_) (fun n x D2 acc H' QV hx hk hD2 hDa e q => ?_) (fun D2 H4 ys hD2 e4 h4 hA => ?_)
        · obtain ⟨j, _, rfl⟩ := List.mem_map.mp (List.mem_of_getElem? hx)
          walk_at "lw go"
          refine rd_niL (W := WB b) (by walk_at "lw at") rfl (flat_us _) ?_
          walk_at "lw go"
          exact q _ (Ex.refl e.iv)
        · walk_at "lw go"
          exact q _ _ (Ex.refl e.iv) rfl
        · have hys := all2_eq hA
          cases ys with
          | nil =>
            obtain ⟨j, hj, hnf⟩ := some_free (l := cutS l2 none (some 6)) hl
            have hm : V.str (cutS l2 none (some 6) ++ (toString ((j : Nat) : Int) : Str)) ∈ ([] : List V) := by
              rw [hys, List.mem_filter]
              refine ⟨List.mem_map.mpr ⟨j, List.mem_range.mpr hj, rfl⟩, ?_⟩
              rw [inV_str, decide_eq_false hnf]
              rfl
            cases hm
          | cons y0 r =>
            have hm : y0 ∈ y0 :: r := List.mem_cons_self ..
            rw [hys, List.mem_filter] at hm
            obtain ⟨⟨j, hj, rfl⟩, hnf⟩ := And.intro (List.mem_map.mp hm.1) hm.2
            rw [inV_str, Bool.not_eq_true', decide_eq_false_iff_not] at hnf
            walk_at "lw go"
            exact k _ _ (by walk_at "lw ex") (hg7.cut (Nat.lt_trans (List.mem_range.mp hj) (by decide))).isL hnf
    · walk_at "lw go"
      exact k _ _ (by walk_at "lw ex") hg2 hin

theorem ok_law_read_number (T : Tx P w K mg) : FnOk P w K mg base CX0 1 T.f_law_read_number T.fd_law_read_number ["word", "bound"] (sp_law_read_number) := by
  refine T.F_law_read_number.ok sc_law_read_number (fun vs H Q E h => ?_) (fun cdv A outer s H vs Q E hr h => ?_)
  · obtain ⟨s, b, rfl, hl, k⟩ := h
    rfl
  · obtain ⟨s, b, rfl, hl, k⟩ := h
    refine ⟨_, (pss_cut (ps_if (PW.pt (pw_or (pt_cmpR op_eq (pv 0) pe_str (nomark _)) (pw_or1 (pt_cmpR op_gt (pe_callB c_lens (by rfl) T.n_len PySem.boot_len (pa_cons (pv 0) pa_nil)) pe_int (nomark _)))))
        (pss_one (ps_ret (pe_un un_neg pe_int)))
        pss_nil)
      (pss_cut (ps_if (PW.pt (pw_and (pt_cmpR op_gt (pe_callB c_lens (by rfl) T.n_len PySem.boot_len (pa_cons (pv 0) pa_nil)) pe_int (nomark _)) (pw_and1 (pt_cmpR op_eq (pe_ix ix_str (pv 0) pe_int (fun _ _ => rfl)) pe_str (nomark _)))))
        (pss_one (ps_ret (pe_un un_neg pe_int)))
        pss_nil)
      (pss_cons (ps_for PassesOwn.never rfl (pi_str (pv 0)) (pg_name (i := 2) sc_law_read_number.nd rfl (by first | exact Or.inl rfl | exact Or.inr rfl))
        (pss_one (ps_if (pt_cmpR o_ninSg (pv 2) pe_str (by rfl))
          (pss_one (ps_ret (pe_un un_neg pe_int)))
          pss_nil)))
      (pss_cons (ps_set (i := 3) sc_law_read_number.nd rfl (by first | exact Or.inl rfl | exact Or.inr rfl) (pe_callTy c_intS (by rfl) T.n_int (by decide +kernel) (pa_cons (pv 0) pa_nil)))
      (pss_cons (ps_if (pt_cmpR op_lt (pv 3) (pv 1) (nomark _))
        (pss_one (ps_ret (pv 3)))
        pss_nil)
      (pss_one (ps_ret (pe_un un_neg pe_int)))))))), ?_⟩
    have el : s.length = (tl s).length := len_tl s
    by_cases h0 : s = ""
    · subst h0
      refine rd_cut (fun _ _ => False) ?_ (fun _ _ f => f.elim)
      walk_at "lw all"
      exact cast_int k (numB_bad (by decide +kernel) b)
    by_cases h7 : 7 < s.length
    · refine rd_cut (fun _ _ => False) ?_ (fun _ _ f => f.elim)
      walk_at "lw all"
      exact cast_int k (numB_bad (numOk_len h7) b)
    cases e : tl s with
    | nil => exact absurd ((nil_iff s).mpr e) h0
    | cons c r =>
      have a0 : atI s.cps.toList 0 = some c := by rw [show s.cps.toList = c :: r from e]; exact at_0
      have c0 : ((⟨#[c]⟩ : Str) = "0") ↔ c = 48 := ⟨fun z => by
        have z1 := congrArg tl z
        rw [show tl ("0" : Str) = [48] from rfl] at z1
        injection z1, fun z => by rw [z]; rfl⟩
      have hd : (tl s).head? = some c := by rw [e]; rfl
      refine rd_cut (fun σ' H' => σ' = [some (.str s), some (.int b), none, none] ∧ H = H') ?_ ?_
      · walk_at "lw all"
        exact ⟨rfl, rfl⟩
      rintro σ' H' ⟨rfl, rfl⟩
      refine rd_cut (fun σ' H' => σ' = [some (.str s), some (.int b), none, none] ∧ H = H' ∧ ¬ (1 < s.length ∧ (tl s).head? = some 48)) ?_ ?_
      · walk_at "lw go"
        refine ifD ?_ ?_ <;> intro h1
        · walk_at "lw go"
          refine ifS ?_ ?_ <;> intro h2
          · walk_at "lw go"
            exact cast_int k (numB_bad (numOk_zero (by omega) (by rw [hd, c0.mp h2])) b)
          · walk_at "lw go"
            exact ⟨rfl, rfl, fun z => h2 (c0.mpr (Option.some.inj (hd.symm.trans z.2)))⟩
        · walk_at "lw go"
          exact ⟨rfl, rfl, fun z => h1 (by omega)⟩
      rintro σ' H' ⟨rfl, rfl, hz⟩
      walk_at "lw go"
      refine for_s (fun i σ' H' => ∃ v2 v3, σ' = [some (.str s), some (.int b), v2, v3] ∧ H = H' ∧ ∀ x ∈ (tl s).take i, dg x = true) ⟨_, _, rfl, rfl, by simp⟩ ?_ ?_
      · rintro i c σ' H' hc ⟨v2, v3, rfl, rfl, hall⟩
        have hc' : (tl s)[i]? = some c := by simpa using hc
        walk_at "lw go"
        rw [dig_mem]
        refine ifNB ?_ ?_ <;> intro hd
        · walk_at "lw all"
          exact cast_int k (numB_bad (numOk_bad (List.mem_of_getElem? hc') hd) b)
        · walk_at "lw go"
          refine ⟨some (.str ⟨#[c]⟩), v3, rfl, rfl, fun x hx => ?_⟩
          rw [List.take_add_one, hc', Option.toList_some] at hx
          rcases List.mem_append.mp hx with q | q
          · exact hall x q
          · rw [List.mem_singleton.mp q]; exact hd
      · rintro σ' H' ⟨v2, v3, rfl, rfl, hall⟩
        have tk : (tl s).take s.cps.size = tl s := List.take_of_length_le (by rw [← el]; exact Nat.le_refl _)
        rw [tk] at hall
        have ok : numOk s = true := numOk_yes h0 (by omega) hz hall
        walk_at "lw go"
        refine rd_intS (fun c hc => of_decide_eq_true (hall c hc)) (by rw [show s.cps.toList = _ from e]; simp) (by omega) ?_
        walk_at "lw go"
        refine ifD ?_ ?_ <;> intro hb
        · walk_at "lw go"
          refine cast_int k ?_
          unfold numB
          rw [if_pos ⟨ok, hb⟩]
          rfl
        · walk_at "lw go"
          refine cast_int k ?_
          unfold numB
          rw [if_neg fun z => hb z.2]

theorem ok_law_is_label (T : Tx P w K mg) : FnOk P w K mg base CX0 1 T.f_law_is_label T.fd_law_is_label ["word"] (sp_law_is_label) := by
  refine T.F_law_is_label.ok sc_law_is_label (fun vs H Q E h => ?_) (fun cdv A outer s H vs Q E hr h => ?_)
  · obtain ⟨s, rfl, hs, k⟩ := h
    rfl
  · obtain ⟨s, rfl, hs, k⟩ := h
    refine ⟨_, (pss_cons (ps_set (i := 1) sc_law_is_label.nd rfl (by first | exact Or.inl rfl | exact Or.inr rfl) pe_str)
      (pss_cut (ps_if (PW.pt (pw_or (pt_cmpR op_eq (pv 0) pe_str (nomark _)) (pw_or (pt_cmpR op_gt (pe_callB c_lens (by rfl) T.n_len PySem.boot_len (pa_cons (pv 0) pa_nil)) pe_int (nomark _)) (pw_or1 (pt_cmpR o_ninSg (pe_ix ix_str (pv 0) pe_int (fun _ _ => rfl)) (pv 1) (by rfl))))))
        (pss_one (ps_ret pe_bl))
        pss_nil)
      (pss_cons (ps_for PassesOwn.never rfl (pi_str (pv 0)) (pg_name (i := 2) sc_law_is_label.nd rfl (by first | exact Or.inl rfl | exact Or.inr rfl))
        (pss_one (ps_if (pt_cmpR o_ninSg (pv 2) (pe_op o_adds (pv 1) pe_str) (by rfl))
          (pss_one (ps_ret pe_bl))
          pss_nil)))
      (pss_one (ps_ret pe_bl))))), ?_⟩
    have el := len_tl s
    refine rd_cut (fun σ' H' => σ' = [some (.str s), some (.str "abcdefghijklmnopqrstuvwxyz"), none] ∧ H = H' ∧ isL s = (tl s).all fun c => sm c || dg c) ?_ ?_
    · walk_at "lw all"
      · exact cast_bl k (by decide +kernel)
      · rename_i h1 h2
        refine cast_bl k ?_
        unfold isL
        cases e : tl s with
        | nil => rfl
        | cons c r =>
          rw [e] at el
          simp only [List.length_cons] at el
          show (decide _ && _) = false
          rw [decide_eq_false (by omega), Bool.false_and]
      · rename_i h1 h2
        cases e : tl s with
        | nil => exact absurd ((nil_iff s).mpr e) h1
        | cons c r =>
          have er : r.length ≤ 7 := by
            rw [e] at el
            simp only [List.length_cons] at el
            omega
          have eL : isL s = (sm c && (tl s).all fun c => sm c || dg c) := by
            unfold isL
            rw [e]
            show (decide _ && _) = _
            rw [decide_eq_true er, Bool.true_and]
          refine rd_ixS (c := c) (by omega) (by rw [show s.cps.toList = c :: r from e]; exact at_0) ?_
          walk_at "lw go"
          rw [small_mem]
          refine ifNB ?_ ?_ <;> intro hc
          · walk_at "lw all"
            exact cast_bl k (by rw [eL, hc, Bool.false_and])
          · walk_at "lw go"
            exact ⟨rfl, rfl, by rw [eL, hc, Bool.true_and, e]⟩
    rintro σ' H' ⟨rfl, rfl, eL⟩
    walk_at "lw go"
    refine for_s (fun i σ' H' => ∃ v2, σ' = [some (.str s), some (.str "abcdefghijklmnopqrstuvwxyz"), v2] ∧ H = H' ∧ ∀ x ∈ (tl s).take i, (sm x || dg x) = true) ⟨_, rfl, rfl, by simp⟩ ?_ ?_
    · rintro i c σ' H' hc ⟨v2, rfl, rfl, hall⟩
      have hc' : (tl s)[i]? = some c := by simpa using hc
      walk_at "lw go"
      rw [wd_mem]
      refine ifNB ?_ ?_ <;> intro hd
      · walk_at "lw all"
        refine cast_bl k ?_
        rw [eL, Bool.eq_false_iff]
        intro z
        rw [List.all_eq_true] at z
        have := z c (List.mem_of_getElem? hc')
        rw [hd] at this
        cases this
      · walk_at "lw go"
        refine ⟨some (.str ⟨#[c]⟩), rfl, rfl, fun x hx => ?_⟩
        rw [List.take_add_one, hc', Option.toList_some] at hx
        rcases List.mem_append.mp hx with q | q
        · exact hall x q
        · rw [List.mem_singleton.mp q]; exact hd
    · rintro σ' H' ⟨v2, rfl, rfl, hall⟩
      have tk : (tl s).take s.cps.size = tl s := List.take_of_length_le (by rw [← el]; exact Nat.le_refl _)
      rw [tk] at hall
      walk_at "lw go"
      refine cast_bl k ?_
      rw [eL]
      exact List.all_eq_true.mpr hall

theorem ok_law_read_instruction (T : Tx P w K mg) : FnOk P w K mg base CX0 2 T.f_law_read_instruction T.fd_law_read_instruction ["words"] (sp_law_read_instruction) := by
  refine T.F_law_read_instruction.ok sc_law_read_instruction (fun vs H Q E h => ?_) (fun cdv A outer s H vs Q E hr h => ?_)
  · obtain ⟨W, p, ws, rfl, iv, hp, ne, hl, k⟩ := h
    rfl
  · obtain ⟨W, p, ws, rfl, iv, hp, ne, hl, k⟩ := h
    refine ⟨_, (pss_cons (ps_set (i := 1) sc_law_read_instruction.nd rfl (by first | exact Or.inl rfl | exact Or.inr rfl) (pe_ix (r := rIxL K) ix_list (pv 0) pe_int (fun _ _ => rfl)))
      (pss_cons (ps_if (PW.pt (pw_and (pt_cmpR op_eq (pv 1) pe_str (nomark _)) (pw_and (pt_cmpR op_eq (pe_callB (r := Lw.rLen K) c_len (by rfl) T.n_len PySem.boot_len (pa_cons (pv 0) pa_nil)) pe_int (nomark _)) (pw_and1 (pt_cmpR (r := rIn K false) op_in_seq (pe_ix (r := rIxL K) ix_list (pv 0) pe_int (fun _ _ => rfl)) (pe_call0 (ok_law_deeds T) hr (by rfl) T.g_law_deeds T.F_law_deeds.kp T.b_law_deeds .nil pass0) (by rfl))))))
        (pss_one (ps_ret (pv 0)))
        pss_nil)
      (pss_cons (ps_if (PW.pt (pw_and (pt_cmpR op_eq (pv 1) pe_str (nomark _)) (pw_and (pt_cmpR op_eq (pe_callB (r := Lw.rLen K) c_len (by rfl) T.n_len PySem.boot_len (pa_cons (pv 0) pa_nil)) pe_int (nomark _)) (pw_and1 (pt_val (pe_call (ok_law_is_label T) hr (by rfl) T.g_law_is_label T.F_law_is_label.kp T.b_law_is_label .nil pass0 (pa_cons (pe_ix (r := rIxL K) ix_list (pv 0) pe_int (fun _ _ => rfl)) pa_nil)))))))
        (pss_one (ps_ret (pv 0)))
        pss_nil)
      (pss_cons (ps_if (pt_cmpR op_ne (pe_callB (r := Lw.rLen K) c_len (by rfl) T.n_len PySem.boot_len (pa_cons (pv 0) pa_nil)) pe_int (nomark _))
        (pss_one (ps_ret (pe_lst pa_nil)))
        pss_nil)
      (pss_cons (ps_set (i := 2) sc_law_read_instruction.nd rfl (by first | exact Or.inl rfl | exact Or.inr rfl) (pe_call (ok_law_read_number T) hr (by rfl) T.g_law_read_number T.F_law_read_number.kp T.b_law_read_number .nil pass0 (pa_cons (pe_ix (r := rIxL K) ix_list (pv 0) pe_int (fun _ _ => rfl)) (pa_cons pe_int pa_nil))))
      (pss_cons (ps_if (pt_cmpR op_lt (pv 2) pe_int (nomark _))
        (pss_one (ps_ret (pe_lst pa_nil)))
        pss_nil)
      (pss_cons (ps_if (PW.pt (pw_and (pt_cmpR op_eq (pv 1) pe_str (nomark _)) (pw_and1 (pt_val (pe_call (ok_law_is_label T) hr (by rfl) T.g_law_is_label T.F_law_is_label.kp T.b_law_is_label .nil pass0 (pa_cons (pe_ix (r := rIxL K) ix_list (pv 0) pe_int (fun _ _ => rfl)) pa_nil))))))
        (pss_one (ps_ret (pe_lst (pa_cons (pv 1) (pa_cons (pv 2) (pa_cons (pe_ix (r := rIxL K) ix_list (pv 0) pe_int (fun _ _ => rfl)) pa_nil))))))
        pss_nil)
      (pss_cons (ps_set (i := 3) sc_law_read_instruction.nd rfl (by first | exact Or.inl rfl | exact Or.inr rfl) (pe_un un_neg pe_int))
      (pss_cons (ps_if (pt_cmpR op_eq (pv 1) pe_str (nomark _))
        (pss_one (ps_set (i := 3) sc_law_read_instruction.nd rfl (by first | exact Or.inl rfl | exact Or.inr rfl) (pe_call (ok_law_read_number T) hr (by rfl) T.g_law_read_number T.F_law_read_number.kp T.b_law_read_number .nil pass0 (pa_cons (pe_ix (r := rIxL K) ix_list (pv 0) pe_int (fun _ _ => rfl)) (pa_cons pe_int pa_nil)))))
        pss_nil)
      (pss_cons (ps_if (pt_cmpR (r := rIn K false) op_in_seq (pv 1) (pe_lst (pa_cons pe_str (pa_cons pe_str (pa_cons pe_str (pa_cons pe_str (pa_cons pe_str pa_nil)))))) (by rfl))
        (pss_one (ps_set (i := 3) sc_law_read_instruction.nd rfl (by first | exact Or.inl rfl | exact Or.inr rfl) (pe_call (ok_law_read_number T) hr (by rfl) T.g_law_read_number T.F_law_read_number.kp T.b_law_read_number .nil pass0 (pa_cons (pe_ix (r := rIxL K) ix_list (pv 0) pe_int (fun _ _ => rfl)) (pa_cons pe_int pa_nil)))))
        pss_nil)
      (pss_cons (ps_if (pt_cmpR op_lt (pv 3) pe_int (nomark _))
        (pss_one (ps_ret (pe_lst pa_nil)))
        pss_nil)
      (pss_one (ps_ret (pe_lst (pa_cons (pv 1) (pa_cons (pv 2) (pa_cons (pv 3) pa_nil))))))))))))))))), ?_⟩
    rw [← insL_eq] at k
    have l0 := hl
    have hDL : [V.str "halt", .str "until", .str "clock", .str "look", .str "claim", .str "free", .str "copy", .str "drop", .str "revoke", .str "map", .str "unmap", .str "send", .str "take", .str "trysend", .str "trytake", .str "call", .str "reply", .str "ring", .str "await", .str "tryawait", .str "ack", .str "give", .str "pull"] = DL := rfl
    rcases ws_cases ne with ⟨n, us, rfl, n1, n2, hnil⟩ | ⟨n, a, rfl⟩ | ⟨n, a, b, rfl⟩
    · rw [hnil] at k
      have hp : At W H p (.lst (.str n :: us.map V.str)) := hp
      have l2 : ((V.str n :: us.map V.str).length : Int) ≠ 2 := fun z => n1 (by simp at z; omega)
      have l3 : ((V.str n :: us.map V.str).length : Int) ≠ 3 := fun z => n2 (by simp at z; omega)
      walk_at "lw gi"
      refine ifS ?_ ?_ <;> intro hd
      · walk_at "lw gi"
        refine ifI_no l2 ?_
        walk_at "lw gi"
        refine ifS_no (by rw [hd]; decide) ?_
        walk_at "lw gi"
        refine ifIn_yes l3 ?_
        walk_at "lw gi"
        exact k _ _ (by walk_at "lw ex") (by walk_at "lw at")
      · walk_at "lw gi"
        refine ifS ?_ ?_ <;> intro hj
        · walk_at "lw gi"
          refine ifI_no l2 ?_
          walk_at "lw gi"
          refine ifIn_yes l3 ?_
          walk_at "lw gi"
          exact k _ _ (by walk_at "lw ex") (by walk_at "lw at")
        · walk_at "lw gi"
          refine ifIn_yes l3 ?_
          walk_at "lw gi"
          exact k _ _ (by walk_at "lw ex") (by walk_at "lw at")
    · have hp : At W H p (.lst [.str n, .str a]) := hp
      have l3 : (([V.str n, V.str a] : List V).length : Int) ≠ 3 := fun z => by simp at z
      have k : ∀ r H', Ex W H H' → At W H' r (.lst (ins2 n a)) → Q (.ref r) H' := k
      have la := l0 a (by simp)
      have key : ∀ xs, ins2 n a = xs → ∀ r H', Ex W H H' → At W H' r (.lst xs) → Q (.ref r) H' := fun xs e r H' x y => k r H' x (by rw [e]; exact y)
      walk_at "lw gi"
      refine ifS ?_ ?_ <;> intro hd
      · walk_at "lw gi"
        refine ifI_yes rfl ?_
        walk_at "lw gi"
        walk_at "lw gi"
        refine ifB ?_ ?_ <;> intro hb
        · walk_at "lw gi"
          exact key [.str n, .str a] (by unfold ins2; rw [if_pos ⟨hd, hb⟩]) _ _ (by walk_at "lw ex") (by walk_at "lw at")
        · walk_at "lw gi"
          refine ifS_no (by rw [hd]; decide) ?_
          walk_at "lw gi"
          refine ifIn_yes l3 ?_
          walk_at "lw gi"
          exact key [] (by unfold ins2; rw [if_neg (fun z => by rw [hb] at z; exact absurd z.2 (by decide)), if_neg (fun z => absurd (hd.symm.trans z.1) (by decide))]) _ _ (by walk_at "lw ex") (by walk_at "lw at")
      · walk_at "lw gi"
        refine ifS ?_ ?_ <;> intro hj
        · walk_at "lw gi"
          refine ifI_yes rfl ?_
          walk_at "lw gi"
          refine ifB ?_ ?_ <;> intro hb
          · walk_at "lw gi"
            exact key [.str n, .str a] (by unfold ins2; rw [if_neg (fun z => hd z.1), if_pos ⟨hj, hb⟩]) _ _ (by walk_at "lw ex") (by walk_at "lw at")
          · walk_at "lw gi"
            refine ifIn_yes l3 ?_
            walk_at "lw gi"
            exact key [] (by unfold ins2; rw [if_neg (fun z => hd z.1), if_neg (fun z => by rw [hb] at z; exact absurd z.2 (by decide))]) _ _ (by walk_at "lw ex") (by walk_at "lw at")
        · walk_at "lw gi"
          refine ifIn_yes l3 ?_
          walk_at "lw gi"
          exact key [] (by unfold ins2; rw [if_neg (fun z => hd z.1), if_neg (fun z => hj z.1)]) _ _ (by walk_at "lw ex") (by walk_at "lw at")
    · have hp : At W H p (.lst [.str n, .str a, .str b]) := hp
      have l2 : (([V.str n, V.str a, V.str b] : List V).length : Int) ≠ 2 := fun z => by simp at z
      have k : ∀ r H', Ex W H H' → At W H' r (.lst (ins3 n a b)) → Q (.ref r) H' := k
      have la := l0 a (by simp)
      have lb := l0 b (by simp)
      have key : ∀ xs, ins3 n a b = xs → ∀ r H', Ex W H H' → At W H' r (.lst xs) → Q (.ref r) H' := fun xs e r H' x y => k r H' x (by rw [e]; exact y)
      refine rd_seq (rd_asg ?_)
      walk_at "lw gi"
      refine ifS ?_ ?_ <;> intro hd
      · walk_at "lw gi"
        refine ifI_no l2 ?_
        walk_at "lw gi"
        refine ifS_no (by rw [hd]; decide) ?_
        walk_at "lw gi"
        refine ifIn_no rfl ?_
        walk_at "lw gi"
        refine ifD ?_ ?_ <;> intro hn
        · walk_at "lw gi"
          exact key [] (by unfold ins3; rw [if_pos hn]) _ _ (by walk_at "lw ex") (by walk_at "lw at")
        · walk_at "lw gi"
          refine ifS_no (by rw [hd]; decide) ?_
          walk_at "lw gi"
          refine ifS_no (by rw [hd]; decide) ?_
          walk_at "lw gi"
          have h5 : inV (.str n) five = false := by rw [hd, five_str]; decide
          walk_at "lw gi"
          refine ifB_no h5 ?_
          walk_at "lw gi"
          have hL : lastL n b = -1 := by unfold lastL; rw [h5, if_neg (by decide), if_neg (by rw [hd]; decide)]
          refine ifD_yes (by decide) ?_
          walk_at "lw gi"
          exact key [] (by unfold ins3; rw [if_neg hn, if_neg (fun z => absurd (hd.symm.trans z.1) (by decide)), hL, if_pos (by decide)]) _ _ (by walk_at "lw ex") (by walk_at "lw at")
      · walk_at "lw gi"
        refine ifS ?_ ?_ <;> intro hj
        · walk_at "lw gi"
          refine ifI_no l2 ?_
          walk_at "lw gi"
          refine ifIn_no rfl ?_
          walk_at "lw gi"
          refine ifD ?_ ?_ <;> intro hn
          · walk_at "lw gi"
            exact key [] (by unfold ins3; rw [if_pos hn]) _ _ (by walk_at "lw ex") (by walk_at "lw at")
          · walk_at "lw gi"
            refine ifS_no (by rw [hj]; decide) ?_
            walk_at "lw gi"
            refine ifS_no (by rw [hj]; decide) ?_
            walk_at "lw gi"
            have h5 : inV (.str n) five = false := by rw [hj, five_str]; decide
            walk_at "lw gi"
            refine ifB_no h5 ?_
            walk_at "lw gi"
            have hL : lastL n b = -1 := by unfold lastL; rw [h5, if_neg (by decide), if_neg (by rw [hj]; decide)]
            refine ifD_yes (by decide) ?_
            walk_at "lw gi"
            exact key [] (by unfold ins3; rw [if_neg hn, if_neg (fun z => absurd (hj.symm.trans z.1) (by decide)), hL, if_pos (by decide)]) _ _ (by walk_at "lw ex") (by walk_at "lw at")
        · walk_at "lw gi"
          refine ifIn_no rfl ?_
          walk_at "lw gi"
          refine ifD ?_ ?_ <;> intro hn
          · walk_at "lw gi"
            exact key [] (by unfold ins3; rw [if_pos hn]) _ _ (by walk_at "lw ex") (by walk_at "lw at")
          · walk_at "lw gi"
            refine ifS ?_ ?_ <;> intro hz
            · walk_at "lw gi"
              refine ifB ?_ ?_ <;> intro hb
              · walk_at "lw gi"
                exact key [.str n, .int (numB a 8), .str b] (by unfold ins3; rw [if_neg hn, if_pos ⟨hz, hb⟩]) _ _ (by walk_at "lw ex") (by walk_at "lw at")
              · walk_at "lw gi"
                refine ifS_no (by rw [hz]; decide) ?_
                walk_at "lw gi"
                have h5 : inV (.str n) five = false := by rw [hz, five_str]; decide
                walk_at "lw gi"
                refine ifB_no h5 ?_
                walk_at "lw gi"
                have hL : lastL n b = -1 := by unfold lastL; rw [h5, if_neg (by decide), if_neg (by rw [hz]; decide)]
                refine ifD_yes (by decide) ?_
                walk_at "lw gi"
                exact key [] (by unfold ins3; rw [if_neg hn, if_neg (fun z => by rw [hb] at z; exact absurd z.2 (by decide)), hL, if_pos (by decide)]) _ _ (by walk_at "lw ex") (by walk_at "lw at")
            · have fin : ∀ z, lastL n b = z → ins3 n a b = if z < 0 then [] else [.str n, .int (numB a 8), .int z] := fun z e => by unfold ins3; rw [if_neg hn, if_neg (fun q => hz q.1), e]
              walk_at "lw gi"
              refine ifS ?_ ?_ <;> intro hs
              · walk_at "lw gi"
                have h5 : inV (.str n) five = false := by rw [hs, five_str]; decide
                have hL : lastL n b = numB b 1048576 := by unfold lastL; rw [h5, if_neg (by decide), if_pos hs]
                walk_at "lw gi"
                refine ifB_no h5 ?_
                walk_at "lw gi"
                refine ifD ?_ ?_ <;> intro h8
                · walk_at "lw gi"
                  exact key [] (by rw [fin _ hL, if_pos h8]) _ _ (by walk_at "lw ex") (by walk_at "lw at")
                · walk_at "lw gi"
                  exact key [.str n, .int (numB a 8), .int _] (by rw [fin _ hL, if_neg h8]) _ _ (by walk_at "lw ex") (by walk_at "lw at")
              · walk_at "lw gi"
                walk_at "lw gi"
                refine ifB ?_ ?_ <;> intro h5
                · have h5' : inV (.str n) five = true := h5
                  have hL : lastL n b = numB b 8 := by unfold lastL; rw [if_pos h5']
                  walk_at "lw gi"
                  refine ifD ?_ ?_ <;> intro h8
                  · walk_at "lw gi"
                    exact key [] (by rw [fin _ hL, if_pos h8]) _ _ (by walk_at "lw ex") (by walk_at "lw at")
                  · walk_at "lw gi"
                    exact key [.str n, .int (numB a 8), .int _] (by rw [fin _ hL, if_neg h8]) _ _ (by walk_at "lw ex") (by walk_at "lw at")
                · have hL : lastL n b = -1 := by
                    have h5' : inV (.str n) five = false := h5
                    unfold lastL; rw [h5', if_neg (by decide), if_neg hs]
                  walk_at "lw gi"
                  refine ifD_yes (by decide) ?_
                  walk_at "lw gi"
                  exact key [] (by rw [fin _ hL, if_pos (by decide)]) _ _ (by walk_at "lw ex") (by walk_at "lw at")

theorem ok_law_form (T : Tx P w K mg) : FnOk P w K mg base CX0 3 T.f_law_form T.fd_law_form ["line"] (sp_law_form) := by
  refine T.F_law_form.ok sc_law_form (fun vs H Q E h => ?_) (fun cdv A outer s H vs Q E hr h => ?_)
  · obtain ⟨W, s, rfl, hl, iv, k⟩ := h
    rfl
  · obtain ⟨W, s, rfl, hl, iv, k⟩ := h
    refine ⟨_, (pss_cut (ps_if (PW.pt (pw_or (pt_cmpR op_eq (pv 0) pe_str (nomark _)) (pw_or1 (pt_cmpR op_eq (pe_ix ix_str (pv 0) pe_int (fun _ _ => rfl)) pe_str (nomark _)))))
        (pss_one (ps_ret (pe_lst (pa_cons pe_int (pa_cons pe_str pa_nil)))))
        pss_nil)
      (pss_cut (ps_if (PW.pt (pw_and (pt_cmpR op_eq (pe_ix ix_str (pv 0) (pe_un un_neg pe_int) (fun _ _ => rfl)) pe_str (nomark _)) (pw_and1 (pt_val (pe_call (ok_law_is_label T) (hr.mono (by decide)) (by rfl) T.g_law_is_label T.F_law_is_label.kp T.b_law_is_label .nil pass0 (pa_cons (pe_slice sl_str (pv 0) po_none (po_some (pe_un un_neg pe_int))) pa_nil))))))
        (pss_one (ps_ret (pe_lst (pa_cons pe_int (pa_cons (pe_slice sl_str (pv 0) po_none (po_some (pe_un un_neg pe_int))) pa_nil)))))
        pss_nil)
      (pss_cons (ps_set (i := 1) sc_law_form.nd rfl (by first | exact Or.inl rfl | exact Or.inr rfl) (pe_call (ok_law_read_instruction T) hr (by rfl) T.g_law_read_instruction T.F_law_read_instruction.kp T.b_law_read_instruction .nil pass0 (pa_cons (pe_bm PySem.F.plainAttrs_str PySem.F.slot_str_split PySem.F.type_str_split m_split (pv 0) (pa_cons pe_str pa_nil)) pa_nil)))
      (pss_cons (ps_if (pt_cmpR (r := rEqD K) (op_eqD hr.units) (pv 1) (pe_lst pa_nil) (nomark _))
        (pss_one (ps_ret (pe_lst (pa_cons pe_int (pa_cons pe_str pa_nil)))))
        pss_nil)
      (pss_one (ps_ret (pe_lst (pa_cons pe_int (pa_cons (pv 1) pa_nil))))))))), ?_⟩
    obtain ⟨l1, l2⟩ := split_len s
    have lc : (cutS s none (some (-1))).length ≤ 1000000 := Nat.le_trans (cutS_length _ _ _) (by omega)
    cases e : tl s with
    | nil =>
      obtain rfl := (nil_iff s).mpr e
      have kI : ∀ r H', Ex W H H' → At W H' r (.lst [.int 0, .str ""]) → Q (.ref r) H' := fun r H' x y => k r H' x (by rw [form_ign (by decide +kernel)]; exact y)
      refine rd_cut (fun _ _ => False) ?_ (fun _ _ f => f.elim)
      walk_at "lw go"
      refine ifS_yes rfl ?_
      walk_at "lw gi"
      exact kI _ _ (by walk_at "lw ex") (by walk_at "lw at")
    | cons c r =>
      have h0 : s ≠ "" := fun z => by rw [(nil_iff s).mp z] at e; cases e
      have a0 : atI s.cps.toList 0 = some c := by rw [show s.cps.toList = c :: r from e]; exact at_0
      have lst : ∃ d, (tl s).getLast? = some d := ⟨_, List.getLast?_eq_some_getLast (by rw [e]; simp)⟩
      obtain ⟨d, hd⟩ := lst
      have a1 : atI s.cps.toList (-1) = some d := by
        have el : s.cps.toList = tl s := rfl
        have ep : 0 < (tl s).length := by rw [e]; simp
        rw [el]
        unfold atI ixN
        rw [if_neg (by decide), if_pos (by omega)]
        show (tl s)[((-1 : Int) + (tl s).length).toNat]? = some d
        rw [show ((-1 : Int) + (tl s).length).toNat = (tl s).length - 1 by omega, ← List.getLast?_eq_getElem?]
        exact hd
      have eh : ((⟨#[c]⟩ : Str) = "#") ↔ c = 35 := ⟨fun z => by
        have z1 := congrArg tl z
        rw [show tl ("#" : Str) = [35] from rfl] at z1
        injection z1, fun z => by rw [z]; exact hash.symm⟩
      have ec : ((⟨#[d]⟩ : Str) = ":") ↔ d = 58 := ⟨fun z => by
        have z1 := congrArg tl z
        rw [show tl (":" : Str) = [58] from rfl] at z1
        injection z1, fun z => by rw [z]; exact colon.symm⟩
      have gi : ignF s = decide (c = 35) := by
        unfold ignF
        rw [decide_eq_false h0, Bool.false_or, hash, starts1, e, decide_eq_decide]
        exact ⟨fun z => Option.some.inj z, fun z => by rw [z]; rfl⟩
      have gl : labF s = if (decide (d = 58) && isL (cutS s none (some (-1)))) = true then cutS s none (some (-1)) else "" := by
        have : Txt.endswith s ":" = decide (d = 58) := by
          rw [colon, ends1, hd, decide_eq_decide]
          exact ⟨fun z => Option.some.inj z, fun z => by rw [z]⟩
        unfold labF
        rw [this]
      have rest : labF s = "" → ignF s = false → ∀ p H1, Ex W H H1 → At W H1 p (.lst ((Txt.split s " ").map V.str)) → ∀ q H2, Ex W H1 H2 → At W H2 q (.lst (rowI (insF (Txt.split s " ")))) → (rowI (insF (Txt.split s " ")) = [] → ∀ r H3, Ex W H2 H3 → At W H3 r (.lst [.int 3, .str ""]) → Q (.ref r) H3) ∧ (rowI (insF (Txt.split s " ")) ≠ [] → ∀ r H3, Ex W H2 H3 → At W H3 r (.lst [.int 2, .ref q]) → Q (.ref r) H3) := fun hlab hig p H1 e1 h1 q H2 e2 h2 => by
        have hf := form_ins hig hlab
        cases hin : insF (Txt.split s " ") with
        | none =>
          rw [hin] at hf
          refine ⟨fun _ r H3 e3 h3 => k r H3 (by walk_at "lw ex") (by rw [hf]; exact h3), fun z => absurd rfl z⟩
        | some nv =>
          obtain ⟨n, vs⟩ := nv
          rw [hin] at hf h2
          refine ⟨(fun z => nomatch z), fun _ r H3 e3 h3 => k r H3 (by walk_at "lw ex") (by rw [hf]; exact ⟨q, h3, e3.at_ h2⟩)⟩
      have lay : ∀ v ∈ rowI (insF (Txt.split s " ")), Pl v ∧ PyData.canLay0 (pd v) = true := by
        cases hin : insF (Txt.split s " ") with
        | none => exact (fun v h => nomatch h)
        | some nv => exact wf_lay (insF_wf hin)
      refine rd_cut (fun σ' H' => σ' = [some (.str s), none] ∧ H = H' ∧ c ≠ 35) ?_ ?_
      · walk_at "lw go"
        refine ifS_no h0 ?_
        walk_at "lw go"
        refine ifS ?_ ?_ <;> intro h1
        · walk_at "lw go"
          have kI : ∀ r H', Ex W H H' → At W H' r (.lst [.int 0, .str ""]) → Q (.ref r) H' := fun r H' x y => k r H' x (by rw [form_ign (by rw [gi, decide_eq_true (eh.mp h1)])]; exact y)
          exact kI _ _ (by walk_at "lw ex") (by walk_at "lw at")
        · walk_at "lw go"
          exact ⟨rfl, rfl, fun z => h1 (eh.mpr z)⟩
      rintro σ' H' ⟨rfl, rfl, hc⟩
      have hig : ignF s = false := by rw [gi, decide_eq_false hc]
      refine rd_cut (fun σ' H' => σ' = [some (.str s), none] ∧ H = H' ∧ labF s = "") ?_ ?_
      · walk_at "lw go"
        refine ifS ?_ ?_ <;> intro h1
        · walk_at "lw go"
          refine ifB ?_ ?_ <;> intro h2
          · walk_at "lw go"
            have hlab : labF s = cutS s none (some (-1)) := by rw [gl, decide_eq_true (ec.mp h1), h2]; rfl
            have kL : ∀ r H', Ex W H H' → At W H' r (.lst [.int 1, .str (cutS s none (some (-1)))]) → Q (.ref r) H' := fun r H' x y => k r H' x (by rw [form_lab (by rw [hlab]; exact isL_ne h2), hlab]; exact y)
            exact kL _ _ (by walk_at "lw ex") (by walk_at "lw at")
          · walk_at "lw go"
            exact ⟨rfl, rfl, by rw [gl, h2, Bool.and_false]; rfl⟩
        · walk_at "lw go"
          exact ⟨rfl, rfl, by rw [gl, decide_eq_false (fun z => h1 (ec.mpr z)), Bool.false_and]; rfl⟩
      rintro σ' H' ⟨rfl, rfl, hlab⟩
      walk_at "lw go"
      rename_i p H1 f1 e1 h1
      refine cl_law_read_instruction e1.iv h1 (split_ne s " ") (fun w hw => by have := l2 w hw; omega) fun q H2 e2 h2 => ?_
      have R := rest hlab hig p H1 e1 h1 q H2 e2 h2
      walk_at "lw go"
      rename_i u H3 f3 e3 h3
      refine rd_eqNil (W := W) (e3.at_ h2) h3 (fun v hv => (lay v hv).1) (fun v hv => (lay v hv).2) ?_
      walk_at "lw go"
      refine ifD ?_ ?_ <;> intro hnil
      · walk_at "lw go"
        rename_i r' H4 f4 e4 h4
        exact R.1 hnil _ _ (e3.trans e4) h4
      · walk_at "lw go"
        rename_i r' H4 f4 e4 h4
        exact R.2 hnil _ _ (e3.trans e4) h4

theorem ok_law_forms (T : Tx P w K mg) : FnOk P w K mg base CX0 4 T.f_law_forms T.fd_law_forms ["text"] (sp_law_forms) := by
  refine T.F_law_forms.ok sc_law_forms (fun vs H Q E h => ?_) (fun cdv A outer s H vs Q E hr h => ?_)
  · obtain ⟨W, z, rfl, hz, iv, k⟩ := h
    rfl
  · obtain ⟨W, z, rfl, hz, iv, k⟩ := h
    refine ⟨_, (pss_cons (ps_set (i := 1) sc_law_forms.nd rfl (by first | exact Or.inl rfl | exact Or.inr rfl) pe_dnewK)
      (pss_cons (ps_set (i := 2) sc_law_forms.nd rfl (by first | exact Or.inl rfl | exact Or.inr rfl) (pe_lst pa_nil))
      (pss_cons (ps_for PassesOwn.never rfl (pi_list (pe_bm PySem.F.plainAttrs_str PySem.F.slot_str_split PySem.F.type_str_split m_split (pv 0) (pa_cons pe_str pa_nil))) (pg_name (i := 3) sc_law_forms.nd rfl (by first | exact Or.inl rfl | exact Or.inr rfl))
        (pss_cons (ps_if (pt_cmp (pc_dnotin (hu_of hr) (pv 3) (pv 1)))
          (pss_one (ps_dput (hu_of hr) (pv 1) (pv 3) (pe_call (ok_law_form T) hr (by rfl) T.g_law_form T.F_law_form.kp T.b_law_form .nil pass0 (pa_cons (pv 3) pa_nil)) rfl))
          pss_nil)
        (pss_one (ps_expr (pe_bm PySem.F.plainAttrs_list PySem.F.slot_list_append PySem.F.type_list_append mt_append (pv 2) (pa_cons (pe_dget (hu_of hr) (pv 1) (pv 3) (fun _ _ => rfl)) pa_nil))))))
      (pss_one (ps_ret (pv 2)))))), ?_⟩
    have q1 := split_size z
    have G : Sz (Txt.split z "\n") := ⟨fun s hs => by have := TX_mem hs; omega, by have := TX_len (Txt.split z "\n"); omega⟩
    walk_at "lw go"
    rename_i d H1 f1 e1 h1 p H2 f2 e2 h2 l H3 f3 e3 h3
    have hd3 : At W H3 d (.dK []) := by walk_at "lw at"
    have hp3 : At W H3 p (.lst []) := by walk_at "lw at"
    have f2' : H d = none := f1
    have f3' : H p = none := e1.fresh f2
    have hdp : d ≠ p := hd3.ne hp3 (fun z => by cases z)
    have e03 : Ex W H H3 := (e1.trans e2).trans e3
    have nlp : l ≠ p := fun z => by
      have q := (e3.at_ h2).1
      have f : H2 p = none := z ▸ f3
      rw [h2.1] at f; cases f
    have hlH : ∀ {H'}, Ex W H3 H' → At W H' l (.lst ((Txt.split z "\n").map V.str)) := fun e => e.at_ h3
    generalize hls : Txt.split z "\n" = ls at G h3 hlH
    have hfs : fsF z = ls.map formF := by unfold fsF; rw [hls]
    refine for_l (W := W) (xs := ls.map V.str) (fun i σ' H' => ∃ (v3 : Option V) (kvs : List (Key × V)) (rs : List Addr), σ' = [some (.str z), some (.ref d), some (.ref p), v3] ∧ Ex W H H' ∧ At W H' l (.lst (ls.map V.str)) ∧ At W H' d (.dK kvs) ∧ kvs.length ≤ i ∧ (∀ s v, valV kvs (.inr s) = some v → ∃ r, v = .ref r ∧ FmAt W H' r (formF s)) ∧
      At W H' p (.lst (rs.map V.ref)) ∧ FmRows W H' rs ((ls.map formF).take i)) ⟨_, [], [], rfl, e03, h3, hd3, Nat.le_refl _, (fun s v h => nomatch h), hp3, .nil⟩ (fun i σ' H' _ ⟨_, _, _, _, _, a, _⟩ => a) ?_ ?_
    · rintro i x σ' H' hx ⟨v3, kvs, rs, rfl, e4, h4, h5, h6, h7, h8, h9⟩
      obtain ⟨s, hs, rfl⟩ := ls_get hx
      have hsz := G.get hs
      have hi : i < ls.length := (List.getElem?_eq_some_iff.mp hs).1
      have hl2 := G.2
      have tk := take_get (fs_get hs)
      have lr := h9.length
      rw [List.length_take, List.length_map] at lr
      have hlen : (rs.map V.ref).length < 1000000 := by rw [List.length_map]; omega
      have fin : ∀ (H5 : Hp) (kvs2 : List (Key × V)) (r : Addr), At W H5 l (.lst (ls.map V.str)) → At W H5 d (.dK kvs2) → kvs2.length ≤ i + 1 → (∀ s v, valV kvs2 (.inr s) = some v → ∃ r, v = .ref r ∧ FmAt W H5 r (formF s)) → At W H5 p (.lst (rs.map V.ref)) → FmRows W H5 rs ((ls.map formF).take i) → FmAt W H5 r (formF s) →
          ∀ H6, Ex W H H6 → At W H6 p (.lst (rs.map V.ref ++ [.ref r])) → (∀ q o, q ≠ p → At W H5 q o → At W H6 q o) → ∃ (v3 : Option V) (kvs : List (Key × V)) (rs : List Addr), [some (V.str z), some (.ref d), some (.ref p), some (.str s)] = [some (.str z), some (.ref d), some (.ref p), v3] ∧ Ex W H H6 ∧ At W H6 l (.lst (ls.map V.str)) ∧ At W H6 d (.dK kvs) ∧ kvs.length ≤ i + 1 ∧ (∀ s v, valV kvs (.inr s) = some v → ∃ r, v = .ref r ∧ FmAt W H6 r (formF s)) ∧
            At W H6 p (.lst (rs.map V.ref)) ∧ FmRows W H6 rs ((ls.map formF).take (i + 1)) := fun H5 kvs2 r a1 a2 a3 a4 a5 a6 a7 H6 e6 g6 o6 => by
        have mv : ∀ {r f}, FmAt W H5 r f → FmAt W H6 r f := fun {r f} h => by
          have ne : ∀ {q : Addr} {xs : List V}, At W H5 q (.lst xs) → (∀ us : List Addr, xs ≠ us.map V.ref) → At W H6 q (.lst xs) := fun {q xs} hq hn => o6 q _ (hq.ne a5 fun z => hn rs (by injection z)) hq
          have n1 : ∀ (z : Int) (v : V) (us : List Addr), ([.int z, v] : List V) ≠ us.map V.ref := fun z v us e => by cases us <;> simp at e
          cases f with
          | ign => exact ne h (n1 _ _)
          | lab l => exact ne h (n1 _ _)
          | bad => exact ne h (n1 _ _)
          | ins n vs =>
            obtain ⟨q, x1, x2⟩ := h
            exact ⟨q, ne x1 (n1 _ _), ne x2 (fun us e => by cases us <;> simp at e)⟩
        refine ⟨_, kvs2, rs ++ [r], rfl, e6, o6 l _ nlp a1, o6 d _ hdp a2, a3, fun s v q => ?_, by rw [List.map_append]; exact g6, ?_⟩
        · obtain ⟨r, x1, x2⟩ := a4 s v q
          exact ⟨r, x1, mv x2⟩
        · rw [tk]
          exact F2.append (F2.cons (mv a7) .nil) (F2.mono (fun _ _ a => mv a) a6)
      walk_at "lw go"
      cases hk : valV kvs (.inr s) with
      | some v =>
        refine ifNB_no rfl ?_
        walk_at "lw gi"
        obtain ⟨r, rfl, hr1⟩ := h7 s v hk
        refine rd_dgetX h5 hk ?_
        walk_at "lw go"
        rename_i H6 e6 g6 o6
        exact fin H' kvs r h4 h5 (by omega) h7 h8 h9 hr1 H6 e6 g6 o6
      | none =>
        refine ifNB_yes rfl ?_
        walk_at "lw go"
        refine cl_law_form (by omega) e4.iv fun r H5 e5 h10 => ?_
        have hkl : kvs.length < 1000000 := by omega
        walk_at "lw go"
        rename_i H6 e6 g6 o6
        have mv : ∀ {r f}, FmAt W H5 r f → FmAt W H6 r f := fun {r f} h => by
          have ne : ∀ {q : Addr} {xs : List V}, At W H5 q (.lst xs) → At W H6 q (.lst xs) := fun {q xs} hq => o6 q _ (hq.ne (e5.at_ h5) fun z => by cases z) hq
          cases f with
          | ign => exact ne h
          | lab l => exact ne h
          | bad => exact ne h
          | ins n vs =>
            obtain ⟨q, x1, x2⟩ := h
            exact ⟨q, ne x1, ne x2⟩
        have hv : valV (putK kvs (.inr s) (.ref r)) (.inr s) = some (.ref r) := by rw [valV_put, if_pos rfl]
        have p6 : At W H6 p (.lst (rs.map V.ref)) := o6 p _ hdp.symm (e5.at_ h8)
        walk_at "lw go"
        refine rd_dgetX g6 hv ?_
        walk_at "lw go"
        rename_i H7 e7 g7 o7
        refine fin H6 (putK kvs (.inr s) (.ref r)) r (o6 l _ ((e5.at_ h4).ne (e5.at_ h5) fun z => by cases z) (e5.at_ h4)) g6 ?_ (fun s' v q => ?_) p6 (F2.mono (fun _ _ a => mv (FmAt.mono e5 a)) h9) (mv h10) H7 e7 g7 o7
        · have := putK_len kvs (.inr s) (.ref r); omega
        · rw [valV_put] at q
          by_cases z : s' = s
          · subst z
            rw [if_pos rfl] at q
            exact ⟨r, (Option.some.inj q).symm, mv h10⟩
          · rw [if_neg (fun y => z (by injection y))] at q
            obtain ⟨r', x1, x2⟩ := h7 s' v q
            exact ⟨r', x1, mv (FmAt.mono e5 x2)⟩
    · rintro σ' H' ⟨v3, kvs, rs, rfl, e4, h4, h5, h6, h7, h8, h9⟩
      rw [List.length_map, ← List.length_map (f := formF), List.take_length] at h9
      walk_at "lw go"
      exact k p rs H' e4 h8 (by rw [hfs]; exact h9)

theorem ok_law_given (T : Tx P w K mg) : FnOk P w K mg base CX0 1 T.f_law_given T.fd_law_given ["forms"] (sp_law_given) := by
  refine T.F_law_given.ok sc_law_given (fun vs H Q E h => ?_) (fun cdv A outer s H vs Q E hr h => ?_)
  · obtain ⟨W, p, rs, fs, rfl, iv, hp, hr', hl, k⟩ := h
    rfl
  · obtain ⟨W, p, rs, fs, rfl, iv, hp, hr', hl, k⟩ := h
    refine ⟨_, (pss_cons (ps_set (i := 1) sc_law_given.nd rfl (by first | exact Or.inl rfl | exact Or.inr rfl) pe_dnewK)
      (pss_cons (ps_set (i := 2) sc_law_given.nd rfl (by first | exact Or.inl rfl | exact Or.inr rfl) pe_int)
      (pss_cons (ps_for PassesOwn.never rfl (pi_list (pv 0)) (pg_name (i := 3) sc_law_given.nd rfl (by first | exact Or.inl rfl | exact Or.inr rfl))
        (pss_cons (ps_if (PW.pt (pw_and (pt_cmpR op_eq (pe_ix (r := rIxL K) ix_list (pv 3) pe_int (fun _ _ => rfl)) pe_int (nomark _)) (pw_and1 (pt_cmp (pc_dnotin (hu_of hr) (pe_ix (r := rIxL K) ix_list (pv 3) pe_int (fun _ _ => rfl)) (pv 1))))))
          (pss_one (ps_dput (hu_of hr) (pv 1) (pe_ix (r := rIxL K) ix_list (pv 3) pe_int (fun _ _ => rfl)) (pv 2) rfl))
          pss_nil)
        (pss_one (ps_if (pt_cmpR op_eq (pe_ix (r := rIxL K) ix_list (pv 3) pe_int (fun _ _ => rfl)) pe_int (nomark _))
          (pss_one (ps_set (i := 2) sc_law_given.nd rfl (by first | exact Or.inl rfl | exact Or.inr rfl) (pe_op op_add (pv 2) pe_int)))
          pss_nil))))
      (pss_one (ps_ret (pv 1)))))), ?_⟩
    have lr := hr'.length
    walk_at "lw go"
    rename_i d H1 f1 e1 h1
    refine for_l (W := W) (xs := rs.map V.ref) (fun i σ' H' => ∃ v3, σ' = [some (.ref p), some (.ref d), some (.int (runL (fs.take i)).2), v3] ∧ Ex W H H' ∧ At W H' d (.dK (runL (fs.take i)).1)) ⟨_, rfl, e1, h1⟩ (fun i σ' H' _ ⟨_, _, e, _⟩ => e.at_ hp) ?_ ?_
    · rintro i x σ' H' hx ⟨v3, rfl, e2, h2⟩
      obtain ⟨r, hr1, rfl⟩ : ∃ r, rs[i]? = some r ∧ x = .ref r := by
        rw [List.getElem?_map] at hx
        cases hz : rs[i]? with
        | none => rw [hz] at hx; cases hx
        | some r => rw [hz] at hx; exact ⟨r, rfl, (Option.some.inj hx).symm⟩
      obtain ⟨f, hf, hfm⟩ := hr'.get hr1
      have hfm2 := FmAt.mono e2 hfm
      have tk := take_get hf
      have hlen : (runL (fs.take i)).1.length < 1000000 := by
        have a := runL_len (fs.take i)
        rw [List.length_take] at a
        omega
      rw [tk, runL_snoc]
      cases f with
      | ign =>
        have h4 : At W H' r (.lst [.int 0, .str ""]) := hfm2
        walk_at "lw go"
        refine ifI_no (by decide) ?_
        walk_at "lw gi"
        refine ifI_no (by decide) ?_
        walk_at "lw gi"
        exact ⟨_, rfl, e2, h2⟩
      | bad =>
        have h4 : At W H' r (.lst [.int 3, .str ""]) := hfm2
        walk_at "lw go"
        refine ifI_no (by decide) ?_
        walk_at "lw gi"
        refine ifI_no (by decide) ?_
        walk_at "lw gi"
        exact ⟨_, rfl, e2, h2⟩
      | ins n vs =>
        obtain ⟨q, h4, h5⟩ := hfm2
        walk_at "lw go"
        refine ifI_no (by decide) ?_
        walk_at "lw gi"
        refine ifI_yes rfl ?_
        walk_at "lw gi"
        exact ⟨_, rfl, e2, h2⟩
      | lab l =>
        have h4 : At W H' r (.lst [.int 1, .str l]) := hfm2
        walk_at "lw go"
        refine ifI_yes rfl ?_
        walk_at "lw gi"
        refine ifNB ?_ ?_ <;> intro hin
        · walk_at "lw gi"
          rename_i H5 e5 g5 o5
          have h4' : At W H5 r (.lst [.int 1, .str l]) := o5 r _ (h4.ne h2 fun z => by cases z) h4
          walk_at "lw gi"
          refine ifI_no (by decide) ?_
          walk_at "lw gi"
          refine ⟨_, rfl, e5, ?_⟩
          show At W H5 d (.dK (setD _ _ _))
          unfold setD
          rw [if_neg (by rw [hin]; decide)]
          exact g5
        · walk_at "lw gi"
          refine ifI_no (by decide) ?_
          walk_at "lw gi"
          refine ⟨_, rfl, e2, ?_⟩
          show At W H' d (.dK (setD _ _ _))
          unfold setD
          rw [if_pos hin]
          exact h2
    · rintro σ' H' ⟨v3, rfl, e2, h2⟩
      rw [List.length_map, lr, List.take_length] at h2
      walk_at "lw go"
      exact k _ _ e2 h2

theorem ok_law_due (T : Tx P w K mg) : FnOk P w K mg base CX0 5 T.f_law_due T.fd_law_due ["text"] (sp_law_due) := by
  refine T.F_law_due.ok sc_law_due (fun vs H Q E h => ?_) (fun cdv A outer s H vs Q E hr h => ?_)
  · obtain ⟨W, z, rfl, hz, iv, k1, k2⟩ := h
    rfl
  · obtain ⟨W, z, rfl, hz, iv, k1, k2⟩ := h
    refine ⟨_, (pss_cons (ps_set (i := 1) sc_law_due.nd rfl (by first | exact Or.inl rfl | exact Or.inr rfl) (pe_call (ok_law_forms T) hr (by rfl) T.g_law_forms T.F_law_forms.kp T.b_law_forms .nil pass0 (pa_cons (pv 0) pa_nil)))
      (pss_cons (ps_set (i := 2) sc_law_due.nd rfl (by first | exact Or.inl rfl | exact Or.inr rfl) (pe_call (ok_law_given T) (hr.mono (by decide)) (by rfl) T.g_law_given T.F_law_given.kp T.b_law_given .nil pass0 (pa_cons (pv 1) pa_nil)))
      (pss_cons (ps_set (i := 3) sc_law_due.nd rfl (by first | exact Or.inl rfl | exact Or.inr rfl) pe_int)
      (pss_cons (ps_for PassesOwn.never rfl (pi_range1 rfl T.n_range (pa_cons (pe_callB (r := Lw.rLen K) c_len (by rfl) T.n_len PySem.boot_len (pa_cons (pv 1) pa_nil)) pa_nil)) (pg_name (i := 4) sc_law_due.nd rfl (by first | exact Or.inl rfl | exact Or.inr rfl))
        (pss_one (ps_if (pt_cmpR op_gt (pe_ix (r := rIxL K) ix_list (pe_ix (r := rIxL K) ix_list (pv 1) (pv 4) (fun _ _ => rfl)) pe_int (fun _ _ => rfl)) pe_int (nomark _))
          (pss_one (ps_set (i := 3) sc_law_due.nd rfl (by first | exact Or.inl rfl | exact Or.inr rfl) (pe_op op_add (pv 4) pe_int)))
          pss_nil)))
      (pss_cons (ps_set (i := 5) sc_law_due.nd rfl (by first | exact Or.inl rfl | exact Or.inr rfl) pe_dnewK)
      (pss_cons (ps_set (i := 6) sc_law_due.nd rfl (by first | exact Or.inl rfl | exact Or.inr rfl) (pe_lst pa_nil))
      (pss_cons (ps_for PassesOwn.never rfl (pi_range1 rfl T.n_range (pa_cons (pe_callB (r := Lw.rLen K) c_len (by rfl) T.n_len PySem.boot_len (pa_cons (pv 1) pa_nil)) pa_nil)) (pg_name (i := 4) sc_law_due.nd rfl (by first | exact Or.inl rfl | exact Or.inr rfl))
        (pss_cons (ps_set (i := 7) sc_law_due.nd rfl (by first | exact Or.inl rfl | exact Or.inr rfl) (pe_ix (r := rIxL K) ix_list (pv 1) (pv 4) (fun _ _ => rfl)))
        (pss_cons (ps_if (pt_cmpR op_eq (pe_ix (r := rIxL K) ix_list (pv 7) pe_int (fun _ _ => rfl)) pe_int (nomark _))
          (pss_one (ps_ret (pe_lst (pa_cons pe_int (pa_cons (pe_op op_add (pv 4) pe_int) pa_nil)))))
          pss_nil)
        (pss_cons (ps_if (pt_cmpR op_eq (pe_ix (r := rIxL K) ix_list (pv 7) pe_int (fun _ _ => rfl)) pe_int (nomark _))
          (pss_cons (ps_if (PW.pt (pw_or (pt_cmp (pc_din (hu_of hr) (pe_ix (r := rIxL K) ix_list (pv 7) pe_int (fun _ _ => rfl)) (pv 5))) (pw_or1 (pt_cmpR op_gt (pe_op op_add (pv 4) pe_int) (pv 3) (nomark _)))))
            (pss_one (ps_ret (pe_lst (pa_cons pe_int (pa_cons (pe_op op_add (pv 4) pe_int) pa_nil)))))
            pss_nil)
          (pss_one (ps_dput (hu_of hr) (pv 5) (pe_ix (r := rIxL K) ix_list (pv 7) pe_int (fun _ _ => rfl)) pe_bl rfl)))
          pss_nil)
        (pss_one (ps_if (pt_cmpR op_eq (pe_ix (r := rIxL K) ix_list (pv 7) pe_int (fun _ _ => rfl)) pe_int (nomark _))
          (pss_cons (ps_set (i := 8) sc_law_due.nd rfl (by first | exact Or.inl rfl | exact Or.inr rfl) (pe_callTy (r := Lw.rListO K) c_list (by rfl) T.n_list (by decide +kernel) (pa_cons (pe_ix (r := rIxL K) ix_list (pv 7) pe_int (fun _ _ => rfl)) pa_nil)))
          (pss_cons (ps_if (PW.pt (pw_or (pt_cmpR op_eq (pe_ix (r := rIxL K) ix_list (pv 8) pe_int (fun _ _ => rfl)) pe_str (nomark _)) (pw_or1 (pt_cmpR op_eq (pe_ix (r := rIxL K) ix_list (pv 8) pe_int (fun _ _ => rfl)) pe_str (nomark _)))))
            (pss_cons (ps_if (pt_cmp (pc_dnotin (hu_of hr) (pe_ix (r := rIxL K) ix_list (pv 8) (pe_un un_neg pe_int) (fun _ _ => rfl)) (pv 2)))
              (pss_one (ps_ret (pe_lst (pa_cons pe_int (pa_cons (pe_op op_add (pv 4) pe_int) pa_nil)))))
              pss_nil)
            (pss_one (ps_asg (pe_dget (hu_of hr) (pv 2) (pe_ix (r := rIxL K) ix_list (pv 8) (pe_un un_neg pe_int) (fun _ _ => rfl)) (fun _ _ => rfl)) (pg_sub (pv 8) (pe_un un_neg pe_int) set_list))))
            pss_nil)
          (pss_cons (ps_expr (pe_bm PySem.F.plainAttrs_list PySem.F.slot_list_append PySem.F.type_list_append mt_append (pv 6) (pa_cons (pv 8) pa_nil)))
          (pss_one (ps_if (pt_cmpR op_gt (pe_callB (r := Lw.rLen K) c_len (by rfl) T.n_len PySem.boot_len (pa_cons (pv 6) pa_nil)) pe_int (nomark _))
            (pss_one (ps_ret (pe_lst (pa_cons pe_int (pa_cons (pe_op op_add (pv 4) pe_int) pa_nil)))))
            pss_nil)))))
          pss_nil))))))
      (pss_one (ps_ret (pe_lst (pa_cons pe_int (pa_cons (pv 6) pa_nil)))))))))))), ?_⟩
    have hls : (fsF z).length ≤ 100000 := by
      have q1 := split_size z
      have := TX_len (Txt.split z "\n")
      rw [List.length_map]
      omega
    have hwf : ∀ n vs, Fm.ins n vs ∈ fsF z → Wf n vs := fun n vs h => by
      obtain ⟨s, _, e⟩ := List.mem_map.mp h
      exact form_wf e
    walk_at "lw go"
    refine cl_law_forms hz iv fun p rs H1 e1 h1 hr' => ?_
    have LK : LabK (runL (fsF z)).1 := runL_lab _
    generalize fsF z = fs at hls hwf k1 k2 hr' LK
    have lr := hr'.length
    walk_at "lw go"
    refine cl_law_given e1.iv h1 hr' hls fun d H2 e2 h2 => ?_
    have fm : ∀ {i : Nat} {f : Fm}, fs[i]? = some f → ∃ r, atI (rs.map V.ref) (0 + (i : Int)) = some (.ref r) ∧ FmAt W H1 r f := fun {i f} h => by
      obtain ⟨r, h3, h4⟩ := F2.getR hr' h
      exact ⟨r, at_in (by omega) (by rw [show (0 + (i : Int)).toNat = i by omega, List.getElem?_map, h3]; rfl), h4⟩
    walk_at "lw go"
    have lN : ((rs.map V.ref).length : Int).toNat = fs.length := by rw [List.length_map]; omega
    rw [lN]
    refine for_r (fun i σ' H' => ∃ (y : Int) (v4 v7 v8 : Option V), σ' = [some (.str z), some (.ref p), some (.ref d), some (.int y), v4, none, none, v7, v8] ∧ H' = H2 ∧ LastIs (fs.take i) y) ⟨_, _, _, _, rfl, rfl, LastIs.nil⟩ ?_ ?_
    · rintro i σ' H' hi ⟨y, v4, v7, v8, rfl, rfl, hL⟩
      have hf : fs[i]? = some fs[i] := List.getElem?_eq_getElem hi
      obtain ⟨r, ea, hfm⟩ := fm hf
      have hfm2 := FmAt.mono e2 hfm
      have hp2 : At W H' p (.lst (rs.map V.ref)) := e2.at_ h1
      have sn := hL.snoc fs[i]
      rw [← take_get hf, List.length_take, Nat.min_eq_left (Nat.le_of_lt hi)] at sn
      generalize fs[i] = f at hf hfm2 sn
      walk_at "lw go"
      cases f with
      | ign =>
        have h4 : At W H' r (.lst [.int 0, .str ""]) := hfm2
        walk_at "lw go"
        refine ifD_no (by decide) ?_
        walk_at "lw go"
        exact ⟨_, _, _, _, rfl, rfl, sn⟩
      | lab l =>
        have h4 : At W H' r (.lst [.int 1, .str l]) := hfm2
        walk_at "lw go"
        refine ifD_no (by decide) ?_
        walk_at "lw go"
        exact ⟨_, _, _, _, rfl, rfl, sn⟩
      | bad =>
        have h4 : At W H' r (.lst [.int 3, .str ""]) := hfm2
        walk_at "lw go"
        refine ifD_yes (by decide) ?_
        walk_at "lw go"
        exact ⟨_, _, _, _, rfl, rfl, by rw [Int.zero_add]; exact sn⟩
      | ins n vs =>
        obtain ⟨q, h4, h5⟩ := hfm2
        walk_at "lw go"
        refine ifD_yes (by decide) ?_
        walk_at "lw go"
        exact ⟨_, _, _, _, rfl, rfl, by rw [Int.zero_add]; exact sn⟩
    rintro σ' H' ⟨last, v4, v7, v8, rfl, rfl, hL⟩
    rw [List.take_length] at hL
    have hp2 : At W H' p (.lst (rs.map V.ref)) := e2.at_ h1
    walk_at "lw go"
    rename_i m H4 f4 e4 h4 g H5 f5 e5 h5
    have f5' := e4.fresh f5
    have m5 : At W H5 m (.dK []) := by walk_at "lw at"
    have p5 : At W H5 p (.lst (rs.map V.ref)) := by walk_at "lw at"
    have hmg : m ≠ g := m5.ne h5 (fun z => by cases z)
    rw [lN]
    refine for_r (fun i σ' H6 => ∃ (v4 v7 v8 : Option V) (qs : List Addr), σ' = [some (.str z), some (.ref p), some (.ref d), some (.int last), v4, some (.ref m), some (.ref g), v7, v8] ∧ Ex W H' H6 ∧
      At W H6 m (.dK (metD (labN (fs.take i)))) ∧ At W H6 g (.lst (qs.map V.ref)) ∧ LRows W H6 qs (rowsOf (runL fs).1 (fs.take i)) ∧ (∀ j, j < i → badI fs j = false) ∧ qs.length ≤ 4000) ⟨_, _, _, [], rfl, e4.trans e5, m5, h5, .nil, (fun j hj => absurd hj (Nat.not_lt_zero _)), Nat.zero_le _⟩ ?_ ?_
    · rintro i σ' H6 hi ⟨v4, v7, v8, qs, rfl, e6, h6, h7, h8, hgood, hq4⟩
      have hf : fs[i]? = some fs[i] := List.getElem?_eq_getElem hi
      obtain ⟨r, ea, hfm⟩ := fm hf
      have hfm2 := FmAt.mono e6 (FmAt.mono e2 hfm)
      have hp6 : At W H6 p (.lst (rs.map V.ref)) := e6.at_ hp2
      have tk := take_get hf
      have bi := bad_at hf
      have hmem := List.getElem_mem hi
      generalize fs[i] = f at hf hfm2 tk bi hmem
      have step : badI fs i = false → ∀ j, j < i + 1 → badI fs j = false := fun b j hj => by
        by_cases q : j = i
        · rw [q]; exact b
        · exact hgood j (by omega)
      have hml : (metD (labN (fs.take i))).length < 1000000 := by
        have a := met_len (labN (fs.take i)) []
        have b := labN_len (fs.take i)
        rw [List.length_take] at b
        rw [List.length_nil] at a
        unfold metD
        omega
      have lq := h8.length
      rw [rowsOf_len] at lq
      have lI2 : insN (fs.take i) ≤ i := by
        have a : insN (fs.take i) ≤ (fs.take i).length := List.countP_le_length
        rw [List.length_take] at a
        omega
      have hql : (qs.map V.ref).length < 1000000 := by rw [List.length_map]; omega
      have fault : badI fs i = true → ∀ (y : Int) r H7, y = (i : Int) + 1 → Ex W H H7 → At W H7 r (.lst [.int 1, .int y]) → Q (.ref r) H7 := fun b y r H7 hy e7 h7 => by
        subst hy
        exact k1 i ⟨hgood, b⟩ r H7 e7 h7
      walk_at "lw go"
      cases f with
      | ign =>
        have h4 : At W H6 r (.lst [.int 0, .str ""]) := hfm2
        have t1 : labN (fs.take (i + 1)) = labN (fs.take i) := by rw [tk, labN_snoc]; exact List.append_nil _
        have t2 : rowsOf (runL fs).1 (fs.take (i + 1)) = rowsOf (runL fs).1 (fs.take i) := by rw [tk, rowsOf_snoc]; exact List.append_nil _
        walk_at "lw go"
        refine ifI_no (by decide) ?_
        walk_at "lw go"
        refine ifI_no (by decide) ?_
        walk_at "lw go"
        refine ifI_no (by decide) ?_
        walk_at "lw go"
        exact ⟨_, _, _, qs, rfl, e6, by rw [t1]; exact h6, h7, by rw [t2]; exact h8, step bi, hq4⟩
      | bad =>
        have h4 : At W H6 r (.lst [.int 3, .str ""]) := hfm2
        walk_at "lw go"
        refine ifI_yes rfl ?_
        walk_at "lw go"
        exact fault bi (0 + (i : Int) + 1) _ _ (by omega) (by walk_at "lw ex") (by walk_at "lw at")
      | lab l =>
        have h4 : At W H6 r (.lst [.int 1, .str l]) := hfm2
        have t2 : rowsOf (runL fs).1 (fs.take (i + 1)) = rowsOf (runL fs).1 (fs.take i) := by rw [tk, rowsOf_snoc]; exact List.append_nil _
        have hgt := hL.gt i
        have bi2 : badI fs i = (decide (l ∈ labN (fs.take i)) || decide ((i : Int) + 1 > last)) := by rw [bi, hgt]; rfl
        walk_at "lw go"
        refine ifI_no (by decide) ?_
        walk_at "lw go"
        refine ifI_yes rfl ?_
        walk_at "lw go"
        rw [metD_mem]
        refine ifD ?_ ?_ <;> intro hmet
        · walk_at "lw gi"
          exact fault (by rw [bi2, decide_eq_true hmet, Bool.true_or]) (0 + (i : Int) + 1) _ _ (by omega) (by walk_at "lw ex") (by walk_at "lw at")
        · walk_at "lw gi"
          refine ifD ?_ ?_ <;> intro hla
          · walk_at "lw gi"
            exact fault (by rw [bi2, decide_eq_true (p := (i : Int) + 1 > last) (by omega), Bool.or_true]) (0 + (i : Int) + 1) _ _ (by omega) (by walk_at "lw ex") (by walk_at "lw at")
          · have hnf : badI fs i = false := by rw [bi2, decide_eq_false hmet, decide_eq_false (by omega)]; rfl
            walk_at "lw gi"
            rename_i H7 e7 m7 o7
            have t1 : metD (labN (fs.take (i + 1))) = putK (metD (labN (fs.take i))) (.inr l) (.bl true) := by rw [tk, labN_snoc]; exact metD_snoc _ _
            rw [← t1] at m7
            have h4' : At W H7 r (.lst [.int 1, .str l]) := o7 r _ (h4.ne h6 fun z => by cases z) h4
            walk_at "lw gi"
            refine ifI_no (by decide) ?_
            walk_at "lw gi"
            refine ⟨_, _, _, qs, rfl, e7, m7, o7 _ _ hmg.symm h7, ?_, step hnf, hq4⟩
            rw [t2]
            exact F2.mono (fun r row a => o7 r _ (a.ne h6 fun z => by cases z) a) h8
      | ins n vs =>
        obtain ⟨q, h4, h5'⟩ := hfm2
        have wf := hwf n vs hmem
        have t1 : labN (fs.take (i + 1)) = labN (fs.take i) := by rw [tk, labN_snoc]; exact List.append_nil _
        have t2 : rowsOf (runL fs).1 (fs.take (i + 1)) = rowsOf (runL fs).1 (fs.take i) ++ [rowP (runL fs).1 n vs] := by rw [tk, rowsOf_snoc]; rfl
        have d6 : At W H6 d (.dK (runL fs).1) := by walk_at "lw at"
        have fin : (match tgt n vs with | some w => !decide (w ∈ labN fs) | none => false) = false → ∀ u H7, Ex W H6 H7 → At W H7 u (.lst (rowP (runL fs).1 n vs)) → ∀ H8, Ex W H' H8 → At W H8 g (.lst (qs.map V.ref ++ [.ref u])) → (∀ q o, q ≠ g → At W H7 q o → At W H8 q o) →
            (insN (fs.take i) = 4000 → badI fs i = true) ∧ (insN (fs.take i) ≠ 4000 → ∀ v4 v7 v8, ∃ (v4' v7' v8' : Option V) (qs : List Addr), [some (V.str z), some (.ref p), some (.ref d), some (.int last), v4, some (.ref m), some (.ref g), v7, v8] = [some (.str z), some (.ref p), some (.ref d), some (.int last), v4', some (.ref m), some (.ref g), v7', v8'] ∧ Ex W H' H8 ∧
              At W H8 m (.dK (metD (labN (fs.take (i + 1))))) ∧ At W H8 g (.lst (qs.map V.ref)) ∧ LRows W H8 qs (rowsOf (runL fs).1 (fs.take (i + 1))) ∧ (∀ j, j < i + 1 → badI fs j = false) ∧ qs.length ≤ 4000) := fun ht u H7 e7 hu H8 e8 g8 o8 => by
          have b : badI fs i = decide (insN (fs.take i) = 4000) := by
            rw [bi]
            show ((match tgt n vs with | some w => !decide (w ∈ labN fs) | none => false) || decide (insN (fs.take i) = 4000)) = _
            rw [ht, Bool.false_or]
          refine ⟨fun c => by rw [b, decide_eq_true c], fun c v4 v7 v8 => ⟨v4, v7, v8, qs ++ [u], rfl, e8, ?_, by rw [List.map_append]; exact g8, ?_, step (by rw [b, decide_eq_false c]), by rw [List.length_append, List.length_singleton]; omega⟩⟩
          · rw [t1]; exact o8 m _ hmg (e7.at_ h6)
          · rw [t2]
            have rne : ∀ {q : Addr} {row : List V}, At W H7 q (.lst row) → (∀ us : List Addr, row ≠ us.map V.ref) → At W H8 q (.lst row) := fun {q row} a hn => o8 q _ (a.ne (e7.at_ h7) fun z => hn qs (by injection z)) a
            have rw1 : ∀ (n : Str) (vs : List V) (us : List Addr), rowP (runL fs).1 n vs ≠ us.map V.ref := fun n vs us e => by
              unfold rowP at e
              cases ht : tgt n vs with
              | none => rw [ht] at e; cases us <;> simp at e
              | some w => rw [ht] at e; cases us <;> simp at e
            refine F2.append (show F2 (fun r row => At W H8 r (.lst row)) [u] [rowP (runL fs).1 n vs] from .cons (rne hu (rw1 n vs)) .nil) ?_
            have all : ∀ row ∈ rowsOf (runL fs).1 (fs.take i), ∀ us : List Addr, row ≠ us.map V.ref := fun row hr us => by
              obtain ⟨f, _, e⟩ := List.mem_filterMap.mp hr
              cases f with
              | ins n' vs' => rw [← Option.some.inj e]; exact rw1 n' vs' us
              | _ => cases e
            have go : ∀ {xs : List Addr} {rows : List (List V)}, F2 (fun r row => At W H7 r (.lst row)) xs rows → (∀ row ∈ rows, ∀ us : List Addr, row ≠ us.map V.ref) → F2 (fun r row => At W H8 r (.lst row)) xs rows := fun {xs rows} h => by
              induction h with
              | nil => exact fun _ => .nil
              | cons a t ih => exact fun all => .cons (rne a (all _ (List.mem_cons_self ..))) (ih fun row hr => all row (List.mem_cons_of_mem _ hr))
            exact go (F2.mono (fun _ _ a => e7.at_ a) h8) all
        walk_at "lw go"
        refine ifI_no (by decide) ?_
        walk_at "lw go"
        refine ifI_no (by decide) ?_
        walk_at "lw go"
        refine ifI_yes rfl ?_
        walk_at "lw go"
        rename_i u H7 f7 e7 h9
        cases wf with
        | @deed dd hd =>
          have ht : (match tgt "deed" [V.str dd] with | some w => !decide (w ∈ labN fs) | none => false) = false := rfl
          refine ifS_no (by decide) ?_
          walk_at "lw gi"
          refine ifS_no (by decide) ?_
          have g7 : At W H7 g (.lst (qs.map V.ref)) := by walk_at "lw at"
          walk_at "lw gi"
          rename_i H9 e9 g9 o9
          have F := fin ht u H7 e7 h9 H9 e9 g9 o9
          have e09 : Ex W H H9 := (e1.trans e2).trans e9
          refine ifD ?_ ?_ <;> intro h4000
          · walk_at "lw gi"
            rename_i r9 H10 f10 e10 h10
            exact fault (F.1 (by rw [List.length_append, List.length_map, List.length_singleton] at h4000; omega)) (0 + (i : Int) + 1) _ _ (by omega) (e09.trans e10) h10
          · walk_at "lw gi"
            exact F.2 (by rw [List.length_append, List.length_map, List.length_singleton] at h4000; omega) _ _ _
        | @two _ r2 q2 hn hj hz =>
          have htg : tgt n [V.int r2, V.int q2] = none := by
            unfold tgt
            rw [if_neg (fun z => z.elim hj hz)]
          have ht : (match tgt n [V.int r2, V.int q2] with | some w => !decide (w ∈ labN fs) | none => false) = false := by rw [htg]
          have hrp : rowP (runL fs).1 n [V.int r2, V.int q2] = .str n :: [V.int r2, V.int q2] := by unfold rowP; rw [htg]
          refine ifS_no hj ?_
          walk_at "lw gi"
          refine ifS_no hz ?_
          have g7 : At W H7 g (.lst (qs.map V.ref)) := by walk_at "lw at"
          walk_at "lw gi"
          rename_i H9 e9 g9 o9
          have F := fin ht u H7 e7 (by rw [hrp]; exact h9) H9 e9 g9 o9
          have e09 : Ex W H H9 := (e1.trans e2).trans e9
          refine ifD ?_ ?_ <;> intro h4000
          · walk_at "lw gi"
            rename_i r9 H10 f10 e10 h10
            exact fault (F.1 (by rw [List.length_append, List.length_map, List.length_singleton] at h4000; omega)) (0 + (i : Int) + 1) _ _ (by omega) (e09.trans e10) h10
          · walk_at "lw gi"
            exact F.2 (by rw [List.length_append, List.length_map, List.length_singleton] at h4000; omega) _ _ _
        | @jump l hl =>
          refine ifS_yes rfl ?_
          walk_at "lw gi"
          have htg : tgt "jump" [V.str l] = some l := rfl
          have hval := runL_mem l fs
          walk_at "lw gi"
          refine ifNB ?_ ?_ <;> intro hin
          · rw [hin] at hval
            walk_at "lw gi"
            rename_i r9 H10 f10 e10 h10
            refine fault ?_ (0 + (i : Int) + 1) _ _ (by omega) (by walk_at "lw ex") h10
            rw [bi]
            show ((match tgt "jump" [V.str l] with | some w => !decide (w ∈ labN fs) | none => false) || _) = true
            rw [htg]
            show (!decide (l ∈ labN fs) || _) = true
            rw [← hval]
            rfl
          · rw [hin] at hval
            obtain ⟨v, hv⟩ := Option.isSome_iff_exists.mp hin
            walk_at "lw gi"
            refine rd_dgetX (by walk_at "lw at") hv ?_
            walk_at "lw gi"
            refine rd_set (W := W) (H0 := H6) e7 f7 h9 (m := 1) (by rfl) fun H8 e8 u8 o8 => ?_
            have hrp : rowP (runL fs).1 "jump" [V.str l] = [.str "jump", v] := by
              unfold rowP
              rw [htg]
              show _ :: (_ ++ [(valV (runL fs).1 (.inr l)).getD .non]) = _
              rw [hv]
              rfl
            have ht : (match tgt "jump" [V.str l] with | some w => !decide (w ∈ labN fs) | none => false) = false := by
              rw [htg]
              show (!decide (l ∈ labN fs)) = false
              rw [← hval]
              rfl
            have g7 : At W H8 g (.lst (qs.map V.ref)) := by walk_at "lw at"
            walk_at "lw gi"
            rename_i H9 e9 g9 o9
            have F := fin ht u H8 e8 (by rw [hrp]; exact u8) H9 e9 g9 o9
            have e09 : Ex W H H9 := (e1.trans e2).trans e9
            refine ifD ?_ ?_ <;> intro h4000
            · walk_at "lw gi"
              rename_i r9 H10 f10 e10 h10
              exact fault (F.1 (by rw [List.length_append, List.length_map, List.length_singleton] at h4000; omega)) (0 + (i : Int) + 1) _ _ (by omega) (e09.trans e10) h10
            · walk_at "lw gi"
              exact F.2 (by rw [List.length_append, List.length_map, List.length_singleton] at h4000; omega) _ _ _
        | @zero r l hl =>
          refine ifS_no (by decide) ?_
          walk_at "lw gi"
          refine ifS_yes rfl ?_
          walk_at "lw gi"
          have htg : tgt "zero" [V.int r, V.str l] = some l := rfl
          have hval := runL_mem l fs
          walk_at "lw gi"
          refine ifNB ?_ ?_ <;> intro hin
          · rw [hin] at hval
            walk_at "lw gi"
            rename_i r9 H10 f10 e10 h10
            refine fault ?_ (0 + (i : Int) + 1) _ _ (by omega) (by walk_at "lw ex") h10
            rw [bi]
            show ((match tgt "zero" [V.int r, V.str l] with | some w => !decide (w ∈ labN fs) | none => false) || _) = true
            rw [htg]
            show (!decide (l ∈ labN fs) || _) = true
            rw [← hval]
            rfl
          · rw [hin] at hval
            obtain ⟨v, hv⟩ := Option.isSome_iff_exists.mp hin
            walk_at "lw gi"
            refine rd_dgetX (by walk_at "lw at") hv ?_
            walk_at "lw gi"
            refine rd_set (W := W) (H0 := H6) e7 f7 h9 (m := 2) (by rfl) fun H8 e8 u8 o8 => ?_
            have hrp : rowP (runL fs).1 "zero" [V.int r, V.str l] = [.str "zero", .int r, v] := by
              unfold rowP
              rw [htg]
              show _ :: (_ ++ [(valV (runL fs).1 (.inr l)).getD .non]) = _
              rw [hv]
              rfl
            have ht : (match tgt "zero" [V.int r, V.str l] with | some w => !decide (w ∈ labN fs) | none => false) = false := by
              rw [htg]
              show (!decide (l ∈ labN fs)) = false
              rw [← hval]
              rfl
            have g7 : At W H8 g (.lst (qs.map V.ref)) := by walk_at "lw at"
            walk_at "lw gi"
            rename_i H9 e9 g9 o9
            have F := fin ht u H8 e8 (by rw [hrp]; exact u8) H9 e9 g9 o9
            have e09 : Ex W H H9 := (e1.trans e2).trans e9
            refine ifD ?_ ?_ <;> intro h4000
            · walk_at "lw gi"
              rename_i r9 H10 f10 e10 h10
              exact fault (F.1 (by rw [List.length_append, List.length_map, List.length_singleton] at h4000; omega)) (0 + (i : Int) + 1) _ _ (by omega) (e09.trans e10) h10
            · walk_at "lw gi"
              exact F.2 (by rw [List.length_append, List.length_map, List.length_singleton] at h4000; omega) _ _ _
    · rintro σ' H6 ⟨v4, v7, v8, qs, rfl, e6, h6, h7, h8, hgood, hq4⟩
      rw [List.take_length] at h8
      walk_at "lw go"
      rename_i u H7 f7 e7 h9
      exact k2 (noBad hgood) u g qs H7 (by walk_at "lw ex") h9 (e7.at_ h7) (F2.mono (fun _ _ a => e7.at_ a) h8)

theorem row_ab {kvs : List (Key × V)} (L : LabK kvs) {n : Str} {vs : List V} (w : Wf n vs) (h : ∀ l, tgt n vs = some l → (valV kvs (.inr l)).isSome = true) : AB (rowP kvs n vs) ∧ (rowP kvs n vs).length ≤ 1000 := by
  have ab2 : ∀ x y : V, ((∃ z, x = .int z) ∨ ∃ s, x = .str s) → ((∃ z, y = .int z) ∨ ∃ s, y = .str s) → AB [x, y] := fun x y hx hy v hv => by
    rcases List.mem_cons.mp hv with rfl | hv
    · exact hx
    · rw [List.mem_singleton.mp hv]; exact hy
  have ab3 : ∀ x y u : V, ((∃ z, x = .int z) ∨ ∃ s, x = .str s) → ((∃ z, y = .int z) ∨ ∃ s, y = .str s) → ((∃ z, u = .int z) ∨ ∃ s, u = .str s) → AB [x, y, u] := fun x y u hx hy hu v hv => by
    rcases List.mem_cons.mp hv with rfl | hv
    · exact hx
    · exact ab2 y u hy hu v hv
  have val : ∀ l, tgt n vs = some l → (∃ z, (valV kvs (.inr l)).getD .non = .int z) ∨ ∃ s, (valV kvs (.inr l)).getD .non = .str s := fun l e => by
    obtain ⟨v, hv⟩ := Option.isSome_iff_exists.mp (h l e)
    obtain ⟨_, i, rfl⟩ := L l v hv
    exact .inl ⟨i, by rw [hv]; rfl⟩
  cases w with
  | deed _ => exact ⟨ab2 _ _ (.inr ⟨_, rfl⟩) (.inr ⟨_, rfl⟩), by show 2 ≤ 1000; decide⟩
  | @jump l _ => exact ⟨ab2 _ _ (.inr ⟨_, rfl⟩) (val l rfl), by show 2 ≤ 1000; decide⟩
  | @zero r l _ => exact ⟨ab3 _ _ _ (.inr ⟨_, rfl⟩) (.inl ⟨_, rfl⟩) (val l rfl), by show 3 ≤ 1000; decide⟩
  | @two _ r q hn hj hz =>
    have htg : tgt n [V.int r, V.int q] = none := by
      unfold tgt
      rw [if_neg (fun z => z.elim hj hz)]
    have hrp : rowP kvs n [V.int r, V.int q] = .str n :: [V.int r, V.int q] := by unfold rowP; rw [htg]
    rw [hrp]
    exact ⟨ab3 _ _ _ (.inr ⟨_, rfl⟩) (.inl ⟨_, rfl⟩) (.inl ⟨_, rfl⟩), by show 3 ≤ 1000; decide⟩
theorem rows_ab (ls : List Str) (nb : NoBad (ls.map formF)) : ∀ row ∈ rowsOf (runL (ls.map formF)).1 (ls.map formF), AB row ∧ row.length ≤ 1000 := fun row hr => by
  obtain ⟨f, hf, e⟩ := List.mem_filterMap.mp hr
  cases f with
  | ins n vs =>
    rw [← Option.some.inj e]
    have wf : Wf n vs := by
      obtain ⟨s, _, e⟩ := List.mem_map.mp hf
      exact form_wf e
    refine row_ab (runL_lab ls) wf fun l hl => ?_
    rw [runL_mem]
    obtain ⟨i, hi⟩ := List.getElem?_of_mem hf
    have b := nb i
    rw [bad_at hi] at b
    have b2 : ((match tgt n vs with | some w => !decide (w ∈ labN (ls.map formF)) | none => false) || decide (insN ((ls.map formF).take i) = 4000)) = false := b
    rw [hl] at b2
    have b3 := (Bool.or_eq_false_iff.mp b2).1
    simpa using b3
  | _ => cases e
theorem ok_law_holds (T : Tx P w K mg) : FnOk P w K mg base CX0 6 T.f_law_holds T.fd_law_holds ["text"] (sp_law_holds) := by
  refine T.F_law_holds.ok sc_law_holds (fun vs H Q E h => ?_) (fun cdv A outer s H vs Q E hr h => ?_)
  · obtain ⟨W, z, rfl, hz0, iv, k⟩ := h
    rfl
  · obtain ⟨W, z, rfl, hz0, iv, k⟩ := h
    refine ⟨_, (pss_cons (ps_set (i := 1) sc_law_holds.nd rfl (by first | exact Or.inl rfl | exact Or.inr rfl) (pe_call (ok_law_due T) hr (by rfl) T.g_law_due T.F_law_due.kp T.b_law_due .nil pass0 (pa_cons (pv 0) pa_nil)))
      (pss_cons (ps_try_as (i := 3) rfl rfl sc_law_holds.nd rfl rfl ⟨rfl, by decide, Or.inl T.gc_BadLine⟩ takes0 (fun W pn xe tk po =>
        (pss_one (ps_set (i := 2) sc_law_holds.nd rfl (by first | exact Or.inl rfl | exact Or.inr rfl) (pe_callS (ok_assemble T) hr (by rfl) T.g_assemble T.F_assemble.kp T.b_assemble (fun σ => passAt tk σ) (pa_cons (pv 0) pa_nil)))))
        (fun a oe cls d pn hz hf =>
        (pss_cons (ps_set (i := 4) sc_law_holds.nd rfl (by first | exact Or.inl rfl | exact Or.inr rfl) (pe_and (pe_callB (r := rIsX K cls d a) (c_isX hz hf) (by rfl) T.n_isinstance (by decide +kernel) (pa_cons (pv 3) (pa_cons (pe_glob (v := .ref T.c_InputError) rfl T.gc_InputError rfl) pa_nil))) (pe_and (pe_callB (r := rIsX K cls d a) (c_isX hz hf) (by rfl) T.n_isinstance (by decide +kernel) (pa_cons (pv 3) (pa_cons (pe_glob (v := .ref T.c_CapsteadError) rfl T.gc_CapsteadError rfl) pa_nil))) (pe_one (pe_callB (r := rIsX K cls d a) (c_isX hz hf) (by rfl) T.n_isinstance (by decide +kernel) (pa_cons (pv 3) (pa_cons (pe_bltn (v := .ty "ValueError") rfl T.n_ValueError (by decide +kernel) rfl) pa_nil)))))))
        (pss_cons (ps_set (i := 5) sc_law_holds.nd rfl (by first | exact Or.inl rfl | exact Or.inr rfl) (pe_and (pe_not (pe_callB (r := rIsX K cls d a) (c_isX hz hf) (by rfl) T.n_isinstance (by decide +kernel) (pa_cons (pv 3) (pa_cons (pe_glob (v := .ref T.c_QuestionError) rfl T.gc_QuestionError rfl) pa_nil)))) (pe_one (pe_not (pe_callB (r := rIsX K cls d a) (c_isX hz hf) (by rfl) T.n_isinstance (by decide +kernel) (pa_cons (pv 3) (pa_cons (pe_glob (v := .ref T.c_BadNumber) rfl T.gc_BadNumber rfl) pa_nil)))))))
        (pss_cons (ps_set (i := 5) sc_law_holds.nd rfl (by first | exact Or.inl rfl | exact Or.inr rfl) (pe_and (pv 5) (pe_one (pe_not (pe_callB (r := rIsX K cls d a) (c_isX hz hf) (by rfl) T.n_isinstance (by decide +kernel) (pa_cons (pv 3) (pa_cons (pe_glob (v := .ref T.c_BadProgram) rfl T.gc_BadProgram rfl) pa_nil)))))))
        (pss_one (ps_ret (pe_and (pe_cmpR op_eq (pe_ix (r := rIxL K) ix_list (pv 1) pe_int (fun _ _ => rfl)) pe_int (nomark _)) (pe_and (pv 4) (pe_and (pv 5) (pe_and (pe_callQ (okq_law_is_integer T) (RoomQ.mark (RoomQ.of (hr.mono (by decide)))) (by rfl) T.g_law_is_integer T.F_law_is_integer.kp T.b_law_is_integer .nil pass0 (pa_cons (pe_xf (xfC_of T.S_BadLine) T.S_BadLine.noN hz hf (pv 3)) pa_nil)) (pe_one (pe_cmpR op_eq (pe_xf (xfC_of T.S_BadLine) T.S_BadLine.noN hz hf (pv 3)) (pe_ix (r := rIxL K) ix_list (pv 1) pe_int (fun _ _ => rfl)) (nomark _))))))))))))))
      (pss_one (ps_ret (pe_and (pe_cmpR op_eq (pe_ix (r := rIxL K) ix_list (pv 1) pe_int (fun _ _ => rfl)) pe_int (nomark _)) (pe_one (pe_call (ok_law_same_program T) (hr.mono (by decide)) (by rfl) T.g_law_same_program T.F_law_same_program.kp T.b_law_same_program .nil pass0 (pa_cons (pv 2) (pa_cons (pe_ix (r := rIxL K) ix_list (pv 1) pe_int (fun _ _ => rfl)) pa_nil))))))))), ?_⟩
    have hz : z.length ≤ 50000 := by omega
    walk_at "lw go"
    refine cl_law_due hz iv (fun i fi p H1 e1 h1 => ?_) (fun nb p q ds H1 e1 h1 h2 h3 => ?_)
    · walk_at "lw go"
      refine rd_callS ?_
      walk_at "lw go"
      refine ⟨W, z, rfl, hz, e1.iv, fun i' fi' d H2 e2 h4 => ?_, fun nb => (fi.not nb).elim⟩
      obtain rfl := fi.uniq fi'
      refine ⟨true, T.m_BadLine, fun _ ea hea => ?_, fun z => nomatch z⟩
      walk_at "lw all"
      refine rd_isX (W := W) h4 rfl rfl T.I_BadLine (fun _ r => r) T.k_BadLine_InputError ?_
      walk_at "lw all"
      refine rd_isX (W := W) h4 rfl rfl T.I_BadLine (fun _ r => r) T.k_BadLine_CapsteadError ?_
      walk_at "lw all"
      refine rd_isX (W := W) h4 rfl rfl T.I_BadLine (fun _ r => r) T.k_BadLine_ValueError ?_
      walk_at "lw all"
      refine rd_isX (W := W) h4 rfl rfl T.I_BadLine (fun _ r => r) T.k_BadLine_QuestionError ?_
      walk_at "lw all"
      refine rd_isX (W := W) h4 rfl rfl T.I_BadLine (fun _ r => r) T.k_BadLine_BadNumber ?_
      walk_at "lw all"
      refine rd_isX (W := W) h4 rfl rfl T.I_BadLine (fun _ r => r) T.k_BadLine_BadProgram ?_
      walk_at "lw all"
      refine rd_xf (W := W) rfl h4 rfl rfl ?_
      walk_at "lw all"
      refine rd_xf (W := W) rfl h4 rfl rfl ?_
      walk_at "lw all"
      exact cast_bl (k _ (e1.trans e2)) (decide_eq_true rfl).symm
    · walk_at "lw go"
      refine rd_callS ?_
      walk_at "lw go"
      refine ⟨W, z, rfl, hz, e1.iv, fun i' fi' d H2 e2 h4 => (fi'.not nb).elim, fun _ t H2 rs e2 h4 h5 => ?_⟩
      walk_at "lw all"
      have same : (runP (fsF z)).1 = (runL (fsF z)).1 := congrArg Prod.fst (labs_same (fsF z) ([], 0) nb.ne)
      rw [same] at h5
      refine ⟨W, t, q, rs, ds, rowsOf (runL (fsF z)).1 (fsF z), rfl, h4, h5, by walk_at "lw at", F2.mono (fun _ _ a => e2.at_ a) h3, rows_ab (Txt.split z "\n") nb, ?_, ?_⟩
      · rw [rowsOf_len]
        have a : insN (fsF z) ≤ (fsF z).length := List.countP_le_length
        have q1 := split_size z
        have := TX_len (Txt.split z "\n")
        rw [List.length_map] at a
        omega
      · exact k _ (e1.trans e2)

theorem ok_law_number_word (T : Tx P w K mg) : FnOk P w K mg base CX0 2 T.f_law_number_word T.fd_law_number_word ["pool", "bound"] (sp_law_number_word) := by
  refine T.F_law_number_word.ok sc_law_number_word (fun vs H Q E h => ?_) (fun cdv A outer s H vs Q E hr h => ?_)
  · obtain ⟨b, n, rfl, n1, n2, iv, k⟩ := h
    rfl
  · obtain ⟨b, n, rfl, n1, n2, iv, k⟩ := h
    refine ⟨_, (pss_cut (ps_set (i := 2) sc_law_number_word.nd rfl (by first | exact Or.inl rfl | exact Or.inr rfl) (pe_ix (r := rIxL K) ix_list (pe_lst (pa_cons (pe_call (ok_law_draw T) hr (by rfl) T.g_law_draw T.F_law_draw.kp T.b_law_draw .nil pass0 (pa_cons (pv 0) (pa_cons (pv 1) pa_nil))) (pa_cons (pe_op op_sub (pv 1) pe_int) (pa_cons (pe_call (ok_law_draw T) hr (by rfl) T.g_law_draw T.F_law_draw.kp T.b_law_draw .nil pass0 (pa_cons (pv 0) (pa_cons pe_int pa_nil))) pa_nil)))) (pe_call (ok_law_draw T) hr (by rfl) T.g_law_draw T.F_law_draw.kp T.b_law_draw .nil pass0 (pa_cons (pv 0) (pa_cons pe_int pa_nil))) (fun _ _ => rfl)))
      (pss_cut (ps_set (i := 3) sc_law_number_word.nd rfl (by first | exact Or.inl rfl | exact Or.inr rfl) (pe_callTy c_strB (by rfl) T.n_str (by decide +kernel) (pa_cons (pe_callB (c_min2 rfl) (by rfl) T.n_min (by decide +kernel) (pa_cons (pe_callTy c_int (by rfl) T.n_int (by decide +kernel) (pa_cons (pv 2) pa_nil)) (pa_cons (pe_callTy c_int (by rfl) T.n_int (by decide +kernel) (pa_cons (pe_op op_sub (pv 1) pe_int) pa_nil)) pa_nil))) pa_nil)))
      (pss_cons (ps_if (pt_cmpR op_gt (pe_call (ok_law_draw T) hr (by rfl) T.g_law_draw T.F_law_draw.kp T.b_law_draw .nil pass0 (pa_cons (pv 0) (pa_cons pe_int pa_nil))) pe_int (nomark _))
        (pss_one (ps_ret (pv 3)))
        pss_nil)
      (pss_cons (ps_set (i := 4) sc_law_number_word.nd rfl (by first | exact Or.inl rfl | exact Or.inr rfl) (pe_lst (pa_cons (pe_callTy c_strB (by rfl) T.n_str (by decide +kernel) (pa_cons (pv 1) pa_nil)) (pa_cons (pe_callTy c_strB (by rfl) T.n_str (by decide +kernel) (pa_cons (pe_op op_add (pe_op op_add (pv 1) pe_int) (pe_call (ok_law_draw T) hr (by rfl) T.g_law_draw T.F_law_draw.kp T.b_law_draw .nil pass0 (pa_cons (pv 0) (pa_cons pe_int pa_nil)))) pa_nil)) (pa_cons (pe_op o_adds pe_str (pv 3)) (pa_cons pe_str (pa_cons pe_str (pa_cons pe_str (pa_cons (pe_op o_adds pe_str (pv 3)) pa_nil)))))))))
      (pss_cons (ps_set (i := 4) sc_law_number_word.nd rfl (by first | exact Or.inl rfl | exact Or.inr rfl) (pe_op op_cat (pv 4) (pe_lst (pa_cons pe_str (pa_cons (pe_op o_adds (pv 3) pe_str) (pa_cons (pe_op o_adds pe_str (pv 3)) (pa_cons (pe_op op_repS pe_str pe_int) (pa_cons pe_str (pa_cons (pe_op o_adds (pv 3) pe_str) (pa_cons pe_str (pa_cons pe_str pa_nil)))))))))))
      (pss_cons (ps_set (i := 4) sc_law_number_word.nd rfl (by first | exact Or.inl rfl | exact Or.inr rfl) (pe_op op_cat (pv 4) (pe_lst (pa_cons (pe_op o_adds (pv 3) pe_str) pa_nil))))
      (pss_one (ps_ret (pe_ix (r := rIxL K) ix_list (pv 4) (pe_call (ok_law_draw T) hr (by rfl) T.g_law_draw T.F_law_draw.kp T.b_law_draw .nil pass0 (pa_cons (pv 0) (pa_cons pe_int pa_nil))) (fun _ _ => rfl)))))))))), ?_⟩
    refine rd_cut (fun σ' H' => ∃ z : Int, σ' = [some (.ref b), some (.int n), some (.int z), none, none] ∧ Ex (WB b) H H' ∧ 0 ≤ z ∧ z ≤ 1048576) ?_ ?_
    · walk_at "lw go"
      rename_i r1 H1 e1 a0 a1 r2 H2 e2 b0 b1 p H3 f3 e3 h3 r3 H4 e4 c0 c1 v hv
      have e5 : Ex (WB b) H H4 := by walk_at "lw ex"
      simp only [List.mem_cons, List.not_mem_nil, or_false] at hv
      rcases hv with rfl | rfl | rfl
      · exact ⟨_, rfl, e5, by omega, by omega⟩
      · exact ⟨_, rfl, e5, by omega, by omega⟩
      · exact ⟨_, rfl, e5, by omega, by omega⟩
    rintro σ' H1 ⟨z, rfl, e1, z0, z1⟩
    refine rd_cut (fun σ' H' => ∃ u : Str, σ' = [some (.ref b), some (.int n), some (.int z), some (.str u), none] ∧ Ex (WB b) H H' ∧ u.length ≤ 7) ?_ ?_
    · walk_at "lw go"
      generalize hy : (if n - 1 < z then n - 1 else z) = y
      have y0 : 0 ≤ y := by rw [← hy]; split <;> omega
      have y1 : y < 10 ^ 7 := by rw [← hy]; split <;> omega
      refine rd_strI (log_of y0 y1) ?_
      walk_at "lw go"
      exact ⟨_, rfl, e1, sl_num (n := 0) y0 y1⟩
    rintro σ' H1 ⟨u, rfl, e1, hu⟩
    have q1 : ("0" : Str).length = 1 := by decide
    have q2 : ("+" : Str).length = 1 := by decide
    have q3 : ("0000000" : Str).length = 7 := by decide
    have q4 : (".0" : Str).length = 2 := by decide
    have q5 : ("\t" : Str).length = 1 := by decide
    have q6 : (repS "1" 30).length = 30 := by decide +kernel
    walk_at "lw go"
    rename_i r1 H2 e2 a0 a1
    refine ifD ?_ ?_ <;> intro hr1
    · walk_at "lw go"
      exact k _ _ (by walk_at "lw ex") (by omega)
    · walk_at "lw go"
      refine rd_strI (log_of (by omega) (by omega)) ?_
      walk_at "lw go"
      rename_i r2 H3 e3 b0 b1
      refine rd_strI (log_of (by omega) (by omega)) ?_
      have w1 := sl_num (n := 0) (show 0 ≤ n by omega) (show n < 10 ^ 7 by omega)
      have w2 := sl_num (n := 0) (show 0 ≤ n + 1 + r2 by omega) (show n + 1 + r2 < 10 ^ 7 by omega)
      walk_at "lw go"
      refine rd_repS (by decide) (by decide) (by decide) ?_
      rw [show ((30 : Int)).toNat = 30 from rfl]
      walk_at "lw go"
      rename_i v hv
      obtain ⟨x, rfl, hx⟩ : ∃ x : Str, v = .str x ∧ x.length ≤ 60 := by
        refine (show ASn 60 _ from ?_) v hv
        walk_at "lw an"
      exact k _ _ (by walk_at "lw ex") hx

theorem ok_law_odd_label (T : Tx P w K mg) : FnOk P w K mg base CX0 2 T.f_law_odd_label T.fd_law_odd_label ["pool", "names"] (sp_law_odd_label) := by
  refine T.F_law_odd_label.ok sc_law_odd_label (fun vs H Q E h => ?_) (fun cdv A outer s H vs Q E hr h => ?_)
  · obtain ⟨b, p, x, y, z, rfl, iv, hn, k⟩ := h
    rfl
  · obtain ⟨b, p, x, y, z, rfl, iv, hn, k⟩ := h
    refine ⟨_, (pss_cons (ps_set (i := 2) sc_law_odd_label.nd rfl (by first | exact Or.inl rfl | exact Or.inr rfl) (pe_lst (pa_cons pe_str (pa_cons pe_str (pa_cons pe_str (pa_cons pe_str (pa_cons pe_str (pa_cons pe_str (pa_cons pe_str (pa_cons pe_str (pa_cons pe_str (pa_cons pe_str (pa_cons pe_str (pa_cons pe_str (pa_cons pe_str (pa_cons pe_str pa_nil))))))))))))))))
      (pss_cons (ps_set (i := 2) sc_law_odd_label.nd rfl (by first | exact Or.inl rfl | exact Or.inr rfl) (pe_op op_cat (pe_op op_cat (pv 2) (pe_lst (pa_cons pe_str (pa_cons pe_str (pa_cons pe_str pa_nil))))) (pv 1)))
      (pss_one (ps_ret (pe_ix (r := rIxL K) ix_list (pv 2) (pe_call (ok_law_draw T) hr (by rfl) T.g_law_draw T.F_law_draw.kp T.b_law_draw .nil pass0 (pa_cons (pv 0) (pa_cons (pe_callB (r := Lw.rLen K) c_len (by rfl) T.n_len PySem.boot_len (pa_cons (pv 2) pa_nil)) pa_nil))) (fun _ _ => rfl)))))), ?_⟩
    obtain ⟨hp, hx, hy, hz⟩ := hn
    walk_at "lw go"
    rename_i v hv
    obtain ⟨u, rfl, hu⟩ : ∃ u : Str, v = .str u ∧ u.length ≤ 9 := by
      refine (show ASn 9 _ from ?_) v hv
      walk_at "lw an"
    exact k _ _ (by walk_at "lw ex") hu

theorem DL_str {v : V} (h : v ∈ DL) : ∃ d : Str, v = .str d ∧ d.length ≤ 8 ∧ (Txt.upper d).length ≤ 8 := by
  have q : (DL.all fun v => match v with | .str d => decide (d.length ≤ 8 ∧ (Txt.upper d).length ≤ 8) | _ => false) = true := by decide +kernel
  have := List.all_eq_true.mp q v h
  cases v with
  | str d => exact ⟨d, rfl, of_decide_eq_true this⟩
  | _ => cases this
theorem ok_law_odd_line (T : Tx P w K mg) : FnOk P w K mg base CX0 3 T.f_law_odd_line T.fd_law_odd_line ["pool", "names"] (sp_law_odd_line) := by
  refine T.F_law_odd_line.ok sc_law_odd_line (fun vs H Q E h => ?_) (fun cdv A outer s H vs Q E hr h => ?_)
  · obtain ⟨b, p, x, y, z, rfl, iv, hn, k⟩ := h
    rfl
  · obtain ⟨b, p, x, y, z, rfl, iv, hn, k⟩ := h
    refine ⟨_, (pss_cons (ps_set (i := 2) sc_law_odd_line.nd rfl (by first | exact Or.inl rfl | exact Or.inr rfl) (pe_call (ok_law_draw T) (hr.mono (by decide)) (by rfl) T.g_law_draw T.F_law_draw.kp T.b_law_draw .nil pass0 (pa_cons (pv 0) (pa_cons pe_int pa_nil))))
      (pss_cons (ps_if (pt_cmpR op_eq (pv 2) pe_int (nomark _))
        (pss_one (ps_ret (pe_op o_adds (pe_call (ok_law_odd_label T) hr (by rfl) T.g_law_odd_label T.F_law_odd_label.kp T.b_law_odd_label .nil pass0 (pa_cons (pv 0) (pa_cons (pv 1) pa_nil))) pe_str)))
        pss_nil)
      (pss_cons (ps_if (pt_cmpR op_eq (pv 2) pe_int (nomark _))
        (pss_one (ps_ret (pe_op o_adds (pe_ix (r := rIxL K) ix_list (pe_lst (pa_cons pe_str (pa_cons pe_str (pa_cons pe_str (pa_cons pe_str pa_nil))))) (pe_call (ok_law_draw T) (hr.mono (by decide)) (by rfl) T.g_law_draw T.F_law_draw.kp T.b_law_draw .nil pass0 (pa_cons (pv 0) (pa_cons pe_int pa_nil))) (fun _ _ => rfl)) (pe_call (ok_law_odd_label T) hr (by rfl) T.g_law_odd_label T.F_law_odd_label.kp T.b_law_odd_label .nil pass0 (pa_cons (pv 0) (pa_cons (pv 1) pa_nil))))))
        pss_nil)
      (pss_cons (ps_if (pt_cmpR op_eq (pv 2) pe_int (nomark _))
        (pss_cons (ps_set (i := 3) sc_law_odd_line.nd rfl (by first | exact Or.inl rfl | exact Or.inr rfl) (pe_ix (r := rIxL K) ix_list (pe_call0 (ok_law_deeds T) (hr.mono (by decide)) (by rfl) T.g_law_deeds T.F_law_deeds.kp T.b_law_deeds .nil pass0) (pe_call (ok_law_draw T) (hr.mono (by decide)) (by rfl) T.g_law_draw T.F_law_draw.kp T.b_law_draw .nil pass0 (pa_cons (pv 0) (pa_cons pe_int pa_nil))) (fun _ _ => rfl)))
        (pss_cons (ps_set (i := 4) sc_law_odd_line.nd rfl (by first | exact Or.inl rfl | exact Or.inr rfl) (pe_lst (pa_cons (pe_op o_adds pe_str (pv 3)) (pa_cons (pv 3) (pa_cons (pe_op o_adds pe_str (pe_bm0 PySem.F.plainAttrs_str PySem.F.slot_str_upper PySem.F.type_str_upper m_upper (pv 3))) (pa_cons (pe_op o_adds pe_str (pe_slice sl_str (pv 3) po_none (po_some (pe_un un_neg pe_int)))) (pa_cons pe_str (pa_cons pe_str pa_nil))))))))
        (pss_cons (ps_set (i := 4) sc_law_odd_line.nd rfl (by first | exact Or.inl rfl | exact Or.inr rfl) (pe_op op_cat (pv 4) (pe_lst (pa_cons pe_str (pa_cons (pe_op o_adds pe_str (pv 3)) (pa_cons (pe_op o_adds (pe_op o_adds pe_str (pv 3)) pe_str) (pa_cons (pe_op o_adds pe_str (pv 3)) pa_nil)))))))
        (pss_one (ps_ret (pe_ix (r := rIxL K) ix_list (pv 4) (pe_call (ok_law_draw T) (hr.mono (by decide)) (by rfl) T.g_law_draw T.F_law_draw.kp T.b_law_draw .nil pass0 (pa_cons (pv 0) (pa_cons pe_int pa_nil))) (fun _ _ => rfl)))))))
        pss_nil)
      (pss_cut (ps_if (pt_cmpR op_eq (pv 2) pe_int (nomark _))
        (pss_cons (ps_set (i := 4) sc_law_odd_line.nd rfl (by first | exact Or.inl rfl | exact Or.inr rfl) (pe_lst (pa_cons pe_str (pa_cons pe_str (pa_cons pe_str (pa_cons pe_str (pa_cons pe_str (pa_cons pe_str (pa_cons pe_str (pa_cons pe_str (pa_cons pe_str (pa_cons pe_str (pa_cons pe_str (pa_cons pe_str (pa_cons pe_str pa_nil)))))))))))))))
        (pss_cons (ps_set (i := 4) sc_law_odd_line.nd rfl (by first | exact Or.inl rfl | exact Or.inr rfl) (pe_op op_cat (pv 4) (pe_lst (pa_cons pe_str (pa_cons pe_str (pa_cons pe_str (pa_cons pe_str (pa_cons pe_str (pa_cons pe_str (pa_cons pe_str pa_nil))))))))))
        (pss_one (ps_ret (pe_ix (r := rIxL K) ix_list (pv 4) (pe_call (ok_law_draw T) (hr.mono (by decide)) (by rfl) T.g_law_draw T.F_law_draw.kp T.b_law_draw .nil pass0 (pa_cons (pv 0) (pa_cons pe_int pa_nil))) (fun _ _ => rfl))))))
        pss_nil)
      (pss_cons (ps_set (i := 5) sc_law_odd_line.nd rfl (by first | exact Or.inl rfl | exact Or.inr rfl) (pe_ix (r := rIxL K) ix_list (pe_lst (pa_cons pe_str (pa_cons pe_str (pa_cons pe_str (pa_cons pe_str (pa_cons pe_str (pa_cons pe_str (pa_cons pe_str (pa_cons pe_str pa_nil))))))))) (pe_call (ok_law_draw T) (hr.mono (by decide)) (by rfl) T.g_law_draw T.F_law_draw.kp T.b_law_draw .nil pass0 (pa_cons (pv 0) (pa_cons pe_int pa_nil))) (fun _ _ => rfl)))
      (pss_cut (ps_set (i := 6) sc_law_odd_line.nd rfl (by first | exact Or.inl rfl | exact Or.inr rfl) (pe_ix (r := rIxL K) ix_list (pe_lst (pa_cons pe_int (pa_cons pe_int pa_nil))) (pe_callTy c_int (by rfl) T.n_int (by decide +kernel) (pa_cons (pe_cmpR op_eq (pv 5) pe_str (nomark _)) pa_nil)) (fun _ _ => rfl)))
      (pss_one (ps_ret (pe_op o_adds (pe_op o_adds (pe_op o_adds (pe_op o_adds (pv 5) pe_str) (pe_call (ok_law_number_word T) hr (by rfl) T.g_law_number_word T.F_law_number_word.kp T.b_law_number_word .nil pass0 (pa_cons (pv 0) (pa_cons pe_int pa_nil)))) pe_str) (pe_call (ok_law_number_word T) hr (by rfl) T.g_law_number_word T.F_law_number_word.kp T.b_law_number_word .nil pass0 (pa_cons (pv 0) (pa_cons (pv 6) pa_nil))))))))))))), ?_⟩
    have q1 : (":" : Str).length = 1 := by decide
    have q2 : ("deed " : Str).length = 5 := by decide
    have q3 : ("Deed " : Str).length = 5 := by decide
    have q4 : (" 1" : Str).length = 2 := by decide
    have q5 : ("deed\t" : Str).length = 5 := by decide
    have q6 : (" " : Str).length = 1 := by decide
    walk_at "lw go"
    rename_i r0 H1 e1 a0 a1
    refine ifI ?_ ?_ <;> intro w0
    · walk_at "lw go"
      exact k _ _ (by walk_at "lw ex") (by rw [sl_app]; omega)
    walk_at "lw go"
    refine ifI ?_ ?_ <;> intro w1
    · walk_at "lw go"
      rename_i P H2 f2 e2 h2 r1 H3 e3 b0 b1 v hv u H4 e4 hu
      obtain ⟨y, rfl, hy⟩ : ∃ y : Str, v = .str y ∧ y.length ≤ 7 := by
        refine (show ASn 7 _ from ?_) v hv
        walk_at "lw an"
      walk_at "lw go"
      exact k _ _ (by walk_at "lw ex") (by rw [sl_app]; omega)
    walk_at "lw go"
    refine ifI ?_ ?_ <;> intro w2
    · walk_at "lw go"
      rename_i P H2 e2 h2 r1 H3 e3 b0 b1 v hv
      obtain ⟨d, rfl, hd1, hd2⟩ := DL_str hv
      have hd3 : (cutS d none (some (-1))).length ≤ 8 := Nat.le_trans (cutS_length _ _ _) hd1
      walk_at "lw go"
      rename_i v2 hv2
      obtain ⟨u, rfl, hu⟩ : ∃ u : Str, v2 = .str u ∧ u.length ≤ 20 := by
        refine (show ASn 20 _ from ?_) v2 hv2
        walk_at "lw an"
      exact k _ _ (by walk_at "lw ex") (by omega)
    walk_at "lw go"
    refine rd_cut (fun σ' H' => σ' = [some (.ref b), some (.ref p), some (.int r0), none, none, none, none] ∧ H' = H1) ?_ ?_
    · walk_at "lw go"
      refine ifI ?_ ?_ <;> intro w3
      · walk_at "lw go"
        rename_i v2 hv2
        obtain ⟨u, rfl, hu⟩ : ∃ u : Str, v2 = .str u ∧ u.length ≤ 20 := by
          refine (show ASn 20 _ from ?_) v2 hv2
          walk_at "lw an"
        exact k _ _ (by walk_at "lw ex") (by omega)
      · walk_at "lw go"
        exact ⟨rfl, rfl⟩
    rintro σ' H' ⟨rfl, rfl⟩
    walk_at "lw go"
    rename_i P H2 f2 e2 h2 r1 H3 e3 b0 b1 v hv
    obtain ⟨y, rfl, hy⟩ : ∃ y : Str, v = .str y ∧ y.length ≤ 5 := by
      refine (show ASn 5 _ from ?_) v hv
      walk_at "lw an"
    have e03 : Ex (WB b) H' H3 := by walk_at "lw ex"
    clear e2 e3
    refine rd_cut (fun σ' H'' => ∃ n : Int, σ' = [some (.ref b), some (.ref p), some (.int r0), none, none, some (.str y), some (.int n)] ∧ Ex (WB b) H' H'' ∧ 2 ≤ n ∧ n ≤ 1048576) ?_ ?_
    · walk_at "lw go"
      rename_i P2 H4 f4 e4 h4 v hv
      simp only [List.mem_cons, List.not_mem_nil, or_false] at hv
      rcases hv with rfl | rfl
      · exact ⟨_, rfl, by walk_at "lw ex", by decide, by decide⟩
      · exact ⟨_, rfl, by walk_at "lw ex", by decide, by decide⟩
    rintro σ' H4 ⟨n, rfl, e4, n1, n2⟩
    walk_at "lw go"
    exact k _ _ (by walk_at "lw ex") (by simp only [sl_app]; omega)

theorem DL_st8 {v : V} (h : v ∈ DL) : ∃ d : Str, v = .str d ∧ d.length ≤ 8 := let ⟨d, e, l, _⟩ := DL_str h; ⟨d, e, l⟩
theorem ok_law_right_line (T : Tx P w K mg) : FnOk P w K mg base CX0 2 T.f_law_right_line T.fd_law_right_line ["pool", "names"] (sp_law_right_line) := by
  refine T.F_law_right_line.ok sc_law_right_line (fun vs H Q E h => ?_) (fun cdv A outer s H vs Q E hr h => ?_)
  · obtain ⟨b, p, x, y, z, rfl, iv, hn, k⟩ := h
    rfl
  · obtain ⟨b, p, x, y, z, rfl, iv, hn, k⟩ := h
    refine ⟨_, (pss_cons (ps_set (i := 2) sc_law_right_line.nd rfl (by first | exact Or.inl rfl | exact Or.inr rfl) (pe_lst (pa_cons pe_str (pa_cons pe_str (pa_cons pe_str (pa_cons pe_str (pa_cons pe_str (pa_cons pe_str (pa_cons pe_str (pa_cons pe_str (pa_cons pe_str (pa_cons pe_str pa_nil))))))))))))
      (pss_cut (ps_set (i := 3) sc_law_right_line.nd rfl (by first | exact Or.inl rfl | exact Or.inr rfl) (pe_ix (r := rIxL K) ix_list (pv 2) (pe_call (ok_law_draw T) hr (by rfl) T.g_law_draw T.F_law_draw.kp T.b_law_draw .nil pass0 (pa_cons (pv 0) (pa_cons pe_int pa_nil))) (fun _ _ => rfl)))
      (pss_cons (ps_if (pt_cmpR op_eq (pv 3) pe_str (nomark _))
        (pss_one (ps_ret (pe_op o_adds pe_str (pe_ix (r := rIxL K) ix_list (pe_call0 (ok_law_deeds T) hr (by rfl) T.g_law_deeds T.F_law_deeds.kp T.b_law_deeds .nil pass0) (pe_call (ok_law_draw T) hr (by rfl) T.g_law_draw T.F_law_draw.kp T.b_law_draw .nil pass0 (pa_cons (pv 0) (pa_cons pe_int pa_nil))) (fun _ _ => rfl)))))
        pss_nil)
      (pss_cons (ps_if (pt_cmpR op_eq (pv 3) pe_str (nomark _))
        (pss_one (ps_ret (pe_op o_adds pe_str (pe_ix (r := rIxL K) ix_list (pv 1) (pe_call (ok_law_draw T) hr (by rfl) T.g_law_draw T.F_law_draw.kp T.b_law_draw .nil pass0 (pa_cons (pv 0) (pa_cons pe_int pa_nil))) (fun _ _ => rfl)))))
        pss_nil)
      (pss_cons (ps_set (i := 4) sc_law_right_line.nd rfl (by first | exact Or.inl rfl | exact Or.inr rfl) (pe_callTy c_strB (by rfl) T.n_str (by decide +kernel) (pa_cons (pe_call (ok_law_draw T) hr (by rfl) T.g_law_draw T.F_law_draw.kp T.b_law_draw .nil pass0 (pa_cons (pv 0) (pa_cons pe_int pa_nil))) pa_nil)))
      (pss_cons (ps_if (pt_cmpR op_eq (pv 3) pe_str (nomark _))
        (pss_one (ps_ret (pe_op o_adds (pe_op o_adds (pe_op o_adds pe_str (pv 4)) pe_str) (pe_ix (r := rIxL K) ix_list (pv 1) (pe_call (ok_law_draw T) hr (by rfl) T.g_law_draw T.F_law_draw.kp T.b_law_draw .nil pass0 (pa_cons (pv 0) (pa_cons pe_int pa_nil))) (fun _ _ => rfl)))))
        pss_nil)
      (pss_cons (ps_if (pt_cmpR op_eq (pv 3) pe_str (nomark _))
        (pss_one (ps_ret (pe_op o_adds (pe_op o_adds (pe_op o_adds pe_str (pv 4)) pe_str) (pe_callTy c_strB (by rfl) T.n_str (by decide +kernel) (pa_cons (pe_call (ok_law_draw T) hr (by rfl) T.g_law_draw T.F_law_draw.kp T.b_law_draw .nil pass0 (pa_cons (pv 0) (pa_cons pe_int pa_nil))) pa_nil)))))
        pss_nil)
      (pss_one (ps_ret (pe_op o_adds (pe_op o_adds (pe_op o_adds (pe_op o_adds (pv 3) pe_str) (pv 4)) pe_str) (pe_callTy c_strB (by rfl) T.n_str (by decide +kernel) (pa_cons (pe_call (ok_law_draw T) hr (by rfl) T.g_law_draw T.F_law_draw.kp T.b_law_draw .nil pass0 (pa_cons (pv 0) (pa_cons pe_int pa_nil))) pa_nil)))))))))))), ?_⟩
    have q1 : ("deed " : Str).length = 5 := by decide
    have q2 : ("jump " : Str).length = 5 := by decide
    have q3 : ("zero " : Str).length = 5 := by decide
    have q4 : ("set " : Str).length = 4 := by decide
    have q5 : (" " : Str).length = 1 := by decide
    walk_at "lw go"
    refine rd_cut (fun σ' H' => ∃ (u : Str) (v2 : Option V), σ' = [some (.ref b), some (.ref p), v2, some (.str u), none] ∧ Ex (WB b) H H' ∧ u.length ≤ 5) ?_ ?_
    · walk_at "lw go"
      rename_i v hv
      obtain ⟨y, rfl, hy⟩ : ∃ y : Str, v = .str y ∧ y.length ≤ 5 := by
        refine (show ASn 5 _ from ?_) v hv
        walk_at "lw an"
      exact ⟨_, _, rfl, by walk_at "lw ex", hy⟩
    rintro σ' H1 ⟨u, v2, rfl, e1, hu⟩
    have hn1 := N3.ex e1 hn
    obtain ⟨hp, hx, hy, hz⟩ := id hn1
    walk_at "lw go"
    refine ifS ?_ ?_ <;> intro w0
    · walk_at "lw go"
      rename_i v hv
      obtain ⟨d, rfl, hd1⟩ := DL_st8 hv
      walk_at "lw go"
      exact k _ _ (by walk_at "lw ex") (by rw [sl_app]; omega)
    walk_at "lw go"
    refine ifS ?_ ?_ <;> intro w1
    · walk_at "lw go"
      rename_i v hv
      obtain ⟨d, rfl, hd1⟩ : ∃ d : Str, v = .str d ∧ d.length ≤ 8 := by
        refine (show ASn 8 _ from ?_) v hv
        walk_at "lw an"
      walk_at "lw go"
      exact k _ _ (by walk_at "lw ex") (by rw [sl_app]; omega)
    walk_at "lw go"
    rename_i r1 H2 e2 b0 b1
    refine rd_strI (log_of (by omega) (by omega)) ?_
    have w2 := sl_num1 (show 0 ≤ r1 by omega) (show r1 < 10 by omega)
    walk_at "lw go"
    refine ifS ?_ ?_ <;> intro w3
    · walk_at "lw go"
      rename_i v hv
      obtain ⟨d, rfl, hd1⟩ : ∃ d : Str, v = .str d ∧ d.length ≤ 8 := by
        refine (show ASn 8 _ from ?_) v hv
        walk_at "lw an"
      walk_at "lw go"
      exact k _ _ (by walk_at "lw ex") (by simp only [sl_app]; omega)
    walk_at "lw go"
    refine ifS ?_ ?_ <;> intro w4
    · walk_at "lw go"
      rename_i r2 H3 e3 c0 c1
      refine rd_strI (log_of (by omega) (by omega)) ?_
      have w5 := sl_num (n := 0) (show 0 ≤ r2 by omega) (show r2 < 10 ^ 7 by omega)
      walk_at "lw go"
      exact k _ _ (by walk_at "lw ex") (by simp only [sl_app]; omega)
    walk_at "lw go"
    rename_i r2 H3 e3 c0 c1
    refine rd_strI (log_of (by omega) (by omega)) ?_
    have w5 := sl_num1 (show 0 ≤ r2 by omega) (show r2 < 10 by omega)
    walk_at "lw go"
    exact k _ _ (by walk_at "lw ex") (by simp only [sl_app]; omega)

theorem ok_law_lines (T : Tx P w K mg) : FnOk P w K mg base CX0 3 T.f_law_lines T.fd_law_lines ["pool", "names"] (sp_law_lines) := by
  refine T.F_law_lines.ok sc_law_lines (fun vs H Q E h => ?_) (fun cdv A outer s H vs Q E hr h => ?_)
  · obtain ⟨b, p, x, y, z, rfl, iv, hn, k⟩ := h
    rfl
  · obtain ⟨b, p, x, y, z, rfl, iv, hn, k⟩ := h
    refine ⟨_, (pss_cut (ps_setLc (i := 2) (own := [("k", 5)]) rfl sc_law_lines.nd rfl rfl (sw_true rfl rfl rfl (by decide +kernel)) (pi_range1 rfl T.n_range (pa_cons (pe_op op_add pe_int (pe_call (ok_law_draw T) (hr.mono (by decide)) (by rfl) T.g_law_draw T.F_law_draw.kp T.b_law_draw .nil pass0 (pa_cons (pv 0) (pa_cons pe_int pa_nil)))) pa_nil)) (blkOk_by (own := [("k", 5)]) (N := N_law_lines) (sc := (defScope s_law_lines)) (by decide +kernel)) (fun _ _ _ _ _ => (pg_name (i := 5) sc_law_lines.nd rfl (by first | exact Or.inl rfl | exact Or.inr rfl))) (fun _ _ _ _ _ => pts_nil) (fun _ _ _ _ _ => (pe_call (ok_law_right_line T) hr (by rfl) T.g_law_right_line T.F_law_right_line.kp T.b_law_right_line .nil pass0 (pa_cons (pv 0) (pa_cons (pv 1) pa_nil)))))
      (pss_cons (ps_set (i := 3) sc_law_lines.nd rfl (by first | exact Or.inl rfl | exact Or.inr rfl) pe_int)
      (pss_cut (ps_if (pt_cmpR op_eq (pe_call (ok_law_draw T) (hr.mono (by decide)) (by rfl) T.g_law_draw T.F_law_draw.kp T.b_law_draw .nil pass0 (pa_cons (pv 0) (pa_cons pe_int pa_nil))) pe_int (nomark _))
        (pss_one (ps_set (i := 3) sc_law_lines.nd rfl (by first | exact Or.inl rfl | exact Or.inr rfl) (pe_op op_sub (pe_op op_add pe_int (pe_call (ok_law_draw T) (hr.mono (by decide)) (by rfl) T.g_law_draw T.F_law_draw.kp T.b_law_draw .nil pass0 (pa_cons (pv 0) (pa_cons pe_int pa_nil)))) (pe_callB (r := Lw.rLen K) c_len (by rfl) T.n_len PySem.boot_len (pa_cons (pv 2) pa_nil)))))
        pss_nil)
      (pss_cut (ps_for PassesOwn.never rfl (pi_list (pv 1)) (pg_name (i := 4) sc_law_lines.nd rfl (by first | exact Or.inl rfl | exact Or.inr rfl))
        (pss_one (ps_expr (pe_bm PySem.F.plainAttrs_list PySem.F.slot_list_insert PySem.F.type_list_insert m_insert (pv 2) (pa_cons (pe_call (ok_law_draw T) (hr.mono (by decide)) (by rfl) T.g_law_draw T.F_law_draw.kp T.b_law_draw .nil pass0 (pa_cons (pv 0) (pa_cons (pe_callB (r := Lw.rLen K) c_len (by rfl) T.n_len PySem.boot_len (pa_cons (pv 2) pa_nil)) pa_nil))) (pa_cons (pe_op o_adds (pv 4) pe_str) pa_nil))))))
      (pss_cut (ps_for PassesOwn.never rfl (pi_range1 rfl T.n_range (pa_cons (pe_call (ok_law_draw T) (hr.mono (by decide)) (by rfl) T.g_law_draw T.F_law_draw.kp T.b_law_draw .nil pass0 (pa_cons (pv 0) (pa_cons pe_int pa_nil))) pa_nil)) (pg_name (i := 5) sc_law_lines.nd rfl (by first | exact Or.inl rfl | exact Or.inr rfl))
        (pss_one (ps_expr (pe_bm PySem.F.plainAttrs_list PySem.F.slot_list_insert PySem.F.type_list_insert m_insert (pv 2) (pa_cons (pe_call (ok_law_draw T) (hr.mono (by decide)) (by rfl) T.g_law_draw T.F_law_draw.kp T.b_law_draw .nil pass0 (pa_cons (pv 0) (pa_cons (pe_op op_add (pe_callB (r := Lw.rLen K) c_len (by rfl) T.n_len PySem.boot_len (pa_cons (pv 2) pa_nil)) pe_int) pa_nil))) (pa_cons (pe_ix (r := rIxL K) ix_list (pe_lst (pa_cons pe_str (pa_cons pe_str (pa_cons pe_str (pa_cons pe_str pa_nil))))) (pe_call (ok_law_draw T) (hr.mono (by decide)) (by rfl) T.g_law_draw T.F_law_draw.kp T.b_law_draw .nil pass0 (pa_cons (pv 0) (pa_cons pe_int pa_nil))) (fun _ _ => rfl)) pa_nil))))))
      (pss_cons (ps_set (i := 6) sc_law_lines.nd rfl (by first | exact Or.inl rfl | exact Or.inr rfl) (pe_call (ok_law_draw T) (hr.mono (by decide)) (by rfl) T.g_law_draw T.F_law_draw.kp T.b_law_draw .nil pass0 (pa_cons (pv 0) (pa_cons (pe_op op_add (pe_callB (r := Lw.rLen K) c_len (by rfl) T.n_len PySem.boot_len (pa_cons (pv 2) pa_nil)) pe_int) pa_nil))))
      (pss_one (ps_ret (pe_op op_cat (pe_op op_cat (pe_slice (r := rSlL K) sl_list (pv 2) po_none (po_some (pv 6))) (pe_op op_rep (pe_lst (pa_cons pe_str pa_nil)) (pv 3))) (pe_slice (r := rSlL K) sl_list (pv 2) (po_some (pv 6)) po_none)))))))))), ?_⟩
    have ST : ∀ (H' : Hp) (i m : Nat) (ls : List Str) (L : Addr), True := fun _ _ _ _ _ => trivial
    refine rd_cut (fun σ' H' => ∃ (L : Addr) (ls : List Str), σ' = [some (.ref b), some (.ref p), some (.ref L), none, none, none, none] ∧ Ex (WB b) H H' ∧ H L = none ∧ At (WB b) H' L (.lst (ls.map V.str)) ∧ TX ls ≤ 279 ∧ 1 ≤ ls.length ∧ ls.length ≤ 9) ?_ ?_
    · walk_at "lw go"
      rename_i r H1 e1 r0 r1
      refine lc_w (W := WB b) (X := fun i x => x = .int (0 + (i : Nat))) (n := (1 + r).toNat) walk_range (fun n ys _ => ∃ ls : List Str, ys = ls.map V.str ∧ ls.length = n ∧ ∀ s ∈ ls, s.length ≤ 30) e1.iv (by omega) (fun _ _ => trivial) (fun _ _ _ _ _ h => h) ⟨[], rfl, rfl, fun _ h => nomatch h⟩ ?_ ?_
      · rintro n x D ys H' QV QN hn' rfl hD hDa e2 ⟨ls, rfl, hl1, hl2⟩ _ qv qn
        have hn2 := N3.ex (e1.trans e2) hn
        walk_at "lw gi"
        rename_i u H3 e3 hu
        refine qv _ _ e3 ⟨ls ++ [u], by rw [List.map_append]; rfl, by rw [List.length_append, hl1]; rfl, fun s hs => ?_⟩
        rcases List.mem_append.mp hs with q | q
        · exact hl2 s q
        · rw [List.mem_singleton.mp q]; exact hu
      · rintro D H2 ys hD e2 hDl ⟨ls, rfl, hl1, hl2⟩ _
        have := TX_le hl2
        have : ls.length * 31 ≤ 9 * 31 := Nat.mul_le_mul_right _ (by omega)
        exact ⟨D, ls, rfl, by walk_at "lw ex", e1.fresh hD, hDl, by omega, by omega, by omega⟩
    rintro σ' H1 ⟨L, ls, rfl, e1, fL, hL, t1, l1, l2⟩
    walk_at "lw go"
    refine rd_cut (fun σ' H' => ∃ m : Int, σ' = [some (.ref b), some (.ref p), some (.ref L), some (.int m), none, none, none] ∧ Ex (WB b) H H' ∧ At (WB b) H' L (.lst (ls.map V.str)) ∧ 0 ≤ m ∧ m ≤ 4001) ?_ ?_
    · walk_at "lw go"
      refine ifI ?_ ?_ <;> intro w0
      · walk_at "lw go"
        exact ⟨_, rfl, by walk_at "lw ex", by walk_at "lw at", by rw [List.length_map]; omega, by rw [List.length_map]; omega⟩
      · walk_at "lw go"
        exact ⟨_, rfl, by walk_at "lw ex", by walk_at "lw at", by decide, by decide⟩
    rintro σ' H2 ⟨m, rfl, e2, h2, m0, m1⟩
    have ins : ∀ (us : List Str) (i : Int) (u : Str), 0 ≤ i → (us.map V.str).take i.toNat ++ [V.str u] ++ (us.map V.str).drop i.toNat = (us.take i.toNat ++ [u] ++ us.drop i.toNat).map V.str := fun us i u h => by
      rw [List.map_append, List.map_append, List.map_take, List.map_drop]
      rfl
    have tx : ∀ (us : List Str) (i : Nat) (u : Str), TX (us.take i ++ [u] ++ us.drop i) = TX us + u.length + 1 := fun us i u => by
      rw [TX_app, TX_app]
      have := TX_cut i us
      show TX (us.take i) + (u.length + 1 + 0) + TX (us.drop i) = _
      omega
    have ll : ∀ (us : List Str) (i : Nat) (u : Str), (us.take i ++ [u] ++ us.drop i).length = us.length + 1 := fun us i u => by
      rw [List.length_append, List.length_append, List.length_take, List.length_drop, List.length_singleton]
      omega
    refine rd_cut (fun σ' H' => ∃ (us : List Str) (v4 : Option V), σ' = [some (.ref b), some (.ref p), some (.ref L), some (.int m), v4, none, none] ∧ Ex (WB b) H H' ∧ At (WB b) H' L (.lst (us.map V.str)) ∧ TX us ≤ 309 ∧ 1 ≤ us.length ∧ us.length ≤ 12) ?_ ?_
    · have hn2 := N3.ex e2 hn
      obtain ⟨hp2, hx, hy, hz⟩ := id hn2
      have q1 : (":" : Str).length = 1 := by decide
      walk_at "lw go"
      refine for_l (W := WB b) (xs := [.str x, .str y, .str z]) (fun i σ' H' => ∃ (us : List Str) (v4 : Option V), σ' = [some (.ref b), some (.ref p), some (.ref L), some (.int m), v4, none, none] ∧ Ex (WB b) H H' ∧ At (WB b) H' L (.lst (us.map V.str)) ∧ TX us ≤ 279 + 10 * i ∧ 1 ≤ us.length ∧ us.length ≤ 9 + i) ⟨ls, _, rfl, e2, h2, t1, l1, l2⟩ (fun i σ' H' _ ⟨_, _, _, e, _⟩ => e.at_ hn.1) ?_ ?_
      · rintro i v σ' H' hv ⟨us, v4, rfl, e3, h3, t3, l3, l4⟩
        obtain ⟨w, rfl, hw⟩ : ∃ w : Str, v = .str w ∧ w.length ≤ 8 := by
          refine (show ASn 8 _ from ?_) v (List.mem_of_getElem? hv)
          walk_at "lw an"
        have hi : i < 3 := (List.getElem?_eq_some_iff.mp hv).1
        have lus : (us.map V.str).length = us.length := List.length_map ..
        walk_at "lw go"
        rename_i r H4 e4 r0 r1
        have hlw := sl_app w ":"
        refine rd_ins (W := WB b) (H0 := H) (e3.trans e4) fL (e4.at_ h3) (by rw [lus]; omega) r0 (by rw [lus] at r1; omega) fun H5 e5 g5 o5 => ?_
        rw [ins us r _ r0] at g5
        refine ⟨_, _, rfl, e5, g5, ?_, ?_, ?_⟩
        · rw [tx, hlw]; omega
        · rw [ll]; omega
        · rw [ll]; omega
      · rintro σ' H' ⟨us, v4, rfl, e3, h3, t3, l3, l4⟩
        exact ⟨us, v4, rfl, e3, h3, t3, l3, l4⟩
    rintro σ' H3 ⟨us, v4, rfl, e3, h3, t3, l3, l4⟩
    refine rd_cut (fun σ' H' => ∃ (us : List Str) (v4 v5 : Option V), σ' = [some (.ref b), some (.ref p), some (.ref L), some (.int m), v4, v5, none] ∧ Ex (WB b) H H' ∧ At (WB b) H' L (.lst (us.map V.str)) ∧ TX us ≤ 333 ∧ us.length ≤ 16) ?_ ?_
    · walk_at "lw go"
      rename_i r H4 e4 r0 r1
      refine for_r (fun i σ' H' => ∃ (us : List Str) (v4 v5 : Option V), σ' = [some (.ref b), some (.ref p), some (.ref L), some (.int m), v4, v5, none] ∧ Ex (WB b) H H' ∧ At (WB b) H' L (.lst (us.map V.str)) ∧ TX us ≤ 309 + 8 * i ∧ us.length ≤ 12 + i) ⟨us, _, _, rfl, by walk_at "lw ex", by walk_at "lw at", t3, l4⟩ ?_ ?_
      · rintro i σ' H5 hi ⟨us, v4, v5, rfl, e5, h5, t5, l5⟩
        have hi3 : i < 3 := by omega
        have lus : (us.map V.str).length = us.length := List.length_map ..
        walk_at "lw go"
        rename_i s H6 e6 s0 s1 P H7 f7 e7 h7 r2 H8 e8 c0 c1 v hv
        obtain ⟨w, rfl, hw⟩ : ∃ w : Str, v = .str w ∧ w.length ≤ 7 := by
          refine (show ASn 7 _ from ?_) v hv
          walk_at "lw an"
        refine rd_ins (W := WB b) (H0 := H) (by walk_at "lw ex") fL (by walk_at "lw at") (by rw [lus]; omega) s0 (by rw [lus] at s1; omega) fun H9 e9 g9 o9 => ?_
        rw [ins us s _ s0] at g9
        refine ⟨_, _, _, rfl, e9, g9, ?_, ?_⟩
        · rw [tx]; omega
        · rw [ll]; omega
      · rintro σ' H' ⟨us, v4, v5, rfl, e5, h5, t5, l5⟩
        exact ⟨us, v4, v5, rfl, e5, h5, by omega, by omega⟩
    rintro σ' H4 ⟨us, v4, v5, rfl, e4, h4, t4, l5⟩
    have lus : (us.map V.str).length = us.length := List.length_map ..
    have q8 : ("set 3 17" : Str).length = 8 := by decide
    walk_at "lw go"
    rename_i r H5 e5 r0 r1 P H6 f6 e6 h6 S H7 f7 e7 h7 R H8 f8 e8 h8
    rw [cut_to _ _ r0, ← List.map_take] at h6
    have hrep : (List.replicate m.toNat [V.str "set 3 17"]).flatten = (List.replicate m.toNat ("set 3 17" : Str)).map V.str := by
      rw [List.map_replicate]
      induction m.toNat with
      | zero => rfl
      | succ n ih => rw [List.replicate_succ, List.replicate_succ, List.flatten_cons, ih]; rfl
    rw [hrep] at h8
    have t6 := TX_take r.toNat us
    have t7 := TX_cut r.toNat us
    have t8 := TX_rep m.toNat ("set 3 17" : Str)
    rw [q8] at t8
    have l6 := TX_len (us.take r.toNat)
    have l7 := TX_len (us.drop r.toNat)
    refine rd_cat (W := WB b) e8.iv (by walk_at "lw at") h8 (by rw [List.length_map, List.length_map, List.length_replicate]; omega) fun C H9 f9 e9 h9 => ?_
    rw [← List.map_append] at h9
    walk_at "lw go"
    rename_i T H10 f10 e10 h10
    rw [cut_from _ _ r0, ← List.map_drop] at h10
    refine rd_cat (W := WB b) e10.iv (by walk_at "lw at") h10 (by rw [List.length_map, List.length_map, List.length_append, List.length_replicate]; omega) fun C2 H11 f11 e11 h11 => ?_
    rw [← List.map_append] at h11
    refine k _ _ _ (by walk_at "lw ex") h11 ?_
    rw [TX_app, TX_app, t8]
    omega

theorem ok_law_sign_changed (T : Tx P w K mg) : FnOk P w K mg base CX0 2 T.f_law_sign_changed T.fd_law_sign_changed ["pool", "text"] (sp_law_sign_changed) := by
  refine T.F_law_sign_changed.ok sc_law_sign_changed (fun vs H Q E h => ?_) (fun cdv A outer s H vs Q E hr h => ?_)
  · obtain ⟨b, u, rfl, iv, hu, k⟩ := h
    rfl
  · obtain ⟨b, u, rfl, iv, hu, k⟩ := h
    refine ⟨_, (pss_cons (ps_set (i := 2) sc_law_sign_changed.nd rfl (by first | exact Or.inl rfl | exact Or.inr rfl) (pe_op o_adds (pe_op o_adds (pe_call0 (ok_law_signs T) hr (by rfl) T.g_law_signs T.F_law_signs.kp T.b_law_signs .nil pass0) pe_str) (pe_op op_repS pe_str pe_int)))
      (pss_cons (ps_set (i := 3) sc_law_sign_changed.nd rfl (by first | exact Or.inl rfl | exact Or.inr rfl) (pe_ix ix_str (pv 2) (pe_call (ok_law_draw T) hr (by rfl) T.g_law_draw T.F_law_draw.kp T.b_law_draw .nil pass0 (pa_cons (pv 0) (pa_cons pe_int pa_nil))) (fun _ _ => rfl)))
      (pss_cons (ps_set (i := 4) sc_law_sign_changed.nd rfl (by first | exact Or.inl rfl | exact Or.inr rfl) (pe_call (ok_law_draw T) hr (by rfl) T.g_law_draw T.F_law_draw.kp T.b_law_draw .nil pass0 (pa_cons (pv 0) (pa_cons (pe_op op_add (pe_callB c_lens (by rfl) T.n_len PySem.boot_len (pa_cons (pv 1) pa_nil)) pe_int) pa_nil))))
      (pss_cons (ps_set (i := 5) sc_law_sign_changed.nd rfl (by first | exact Or.inl rfl | exact Or.inr rfl) (pe_call (ok_law_draw T) hr (by rfl) T.g_law_draw T.F_law_draw.kp T.b_law_draw .nil pass0 (pa_cons (pv 0) (pa_cons pe_int pa_nil))))
      (pss_cons (ps_if (pt_cmpR op_eq (pv 5) pe_int (nomark _))
        (pss_one (ps_ret (pe_op o_adds (pe_op o_adds (pe_slice sl_str (pv 1) po_none (po_some (pv 4))) (pv 3)) (pe_slice sl_str (pv 1) (po_some (pv 4)) po_none))))
        pss_nil)
      (pss_cons (ps_if (pt_cmpR op_eq (pv 5) pe_int (nomark _))
        (pss_one (ps_ret (pe_op o_adds (pe_op o_adds (pe_slice sl_str (pv 1) po_none (po_some (pv 4))) (pv 3)) (pe_slice sl_str (pv 1) (po_some (pe_op op_add (pv 4) pe_int)) po_none))))
        pss_nil)
      (pss_one (ps_ret (pe_op o_adds (pe_slice sl_str (pv 1) po_none (po_some (pv 4))) (pe_slice sl_str (pv 1) (po_some (pe_op op_add (pv 4) pe_int)) po_none)))))))))), ?_⟩
    walk_at "lw go"
    refine rd_repS (by decide) (by decide) (by decide) ?_
    rw [show ((8 : Int)).toNat = 8 from rfl]
    have lS : (signs ++ "\n" ++ repS " 0:#\n" 8).length = 136 := by decide +kernel
    have lS1 : (signs ++ "\n").length + (repS " 0:#\n" 8).length ≤ 1000000 := by decide +kernel
    generalize signs ++ "\n" = S1 at lS lS1
    generalize repS " 0:#\n" 8 = S2 at lS lS1
    walk_at "lw go"
    generalize S1 ++ S2 = S at lS
    rename_i r H1 e1 r0 r1
    obtain ⟨c, hc⟩ : ∃ c, atI S.cps.toList r = some c := by
      have l : r.toNat < S.cps.toList.length := by
        have : S.cps.toList.length = S.length := Array.length_toList
        omega
      exact ⟨_, at_inG r0 (List.getElem?_eq_getElem l)⟩
    have h1 : (⟨#[c]⟩ : Str).length = 1 := rfl
    walk_at "lw go"
    rename_i r2 H2 e2 b0 b1 r3 H3 e3 c0 c1
    have k1 := cut_to_len u b0
    have k2 := cut_from_len u b0
    have k3 := cut_from_len u (show 0 ≤ r2 + 1 by omega)
    refine ifI ?_ ?_ <;> intro w0
    · walk_at "lw go"
      exact k _ _ (by walk_at "lw ex") (by simp only [sl_app]; omega)
    walk_at "lw go"
    refine ifI ?_ ?_ <;> intro w1
    · walk_at "lw go"
      exact k _ _ (by walk_at "lw ex") (by simp only [sl_app]; omega)
    walk_at "lw go"
    exact k _ _ (by walk_at "lw ex") (by simp only [sl_app]; omega)

theorem ok_law_changed (T : Tx P w K mg) : FnOk P w K mg base CX0 4 T.f_law_changed T.fd_law_changed ["pool", "lines", "names"] (sp_law_changed) := by
  refine T.F_law_changed.ok sc_law_changed (fun vs H Q E h => ?_) (fun cdv A outer s H vs Q E hr h => ?_)
  · obtain ⟨b, l, p, x, y, z, ls, rfl, iv, hl, hs, hn, k⟩ := h
    rfl
  · obtain ⟨b, l, p, x, y, z, ls, rfl, iv, hl, hs, hn, k⟩ := h
    refine ⟨_, (pss_cons (ps_set (i := 3) sc_law_changed.nd rfl (by first | exact Or.inl rfl | exact Or.inr rfl) (pe_call (ok_law_draw T) (hr.mono (by decide)) (by rfl) T.g_law_draw T.F_law_draw.kp T.b_law_draw .nil pass0 (pa_cons (pv 0) (pa_cons pe_int pa_nil))))
      (pss_cons (ps_set (i := 4) sc_law_changed.nd rfl (by first | exact Or.inl rfl | exact Or.inr rfl) (pe_ix (r := rIxL K) ix_list (pv 2) (pe_call (ok_law_draw T) (hr.mono (by decide)) (by rfl) T.g_law_draw T.F_law_draw.kp T.b_law_draw .nil pass0 (pa_cons (pv 0) (pa_cons pe_int pa_nil))) (fun _ _ => rfl)))
      (pss_cons (ps_set (i := 5) sc_law_changed.nd rfl (by first | exact Or.inl rfl | exact Or.inr rfl) (pe_call (ok_law_draw T) (hr.mono (by decide)) (by rfl) T.g_law_draw T.F_law_draw.kp T.b_law_draw .nil pass0 (pa_cons (pv 0) (pa_cons (pe_op op_add (pe_callB (r := Lw.rLen K) c_len (by rfl) T.n_len PySem.boot_len (pa_cons (pv 1) pa_nil)) pe_int) pa_nil))))
      (pss_cons (ps_if (pt_cmpR op_eq (pv 3) pe_int (nomark _))
        (pss_one (ps_ret (pe_op op_cat (pe_op op_cat (pe_slice (r := rSlL K) sl_list (pv 1) po_none (po_some (pv 5))) (pe_lst (pa_cons (pe_op o_adds (pv 4) pe_str) pa_nil))) (pe_slice (r := rSlL K) sl_list (pv 1) (po_some (pv 5)) po_none))))
        pss_nil)
      (pss_cons (ps_if (pt_cmpR op_eq (pv 3) pe_int (nomark _))
        (pss_one (ps_ret (pe_lc (own := [("line", 7)]) rfl sc_law_changed.nd (pi_list (pv 1)) (blkOk_by (own := [("line", 7)]) (N := N_law_changed) (sc := (defScope s_law_changed)) (by decide +kernel)) (fun _ _ _ _ _ => (pg_name (i := 7) sc_law_changed.nd rfl (by first | exact Or.inl rfl | exact Or.inr rfl))) (fun _ _ _ _ _ => (pts_one (pt_cmpR op_ne (pv 7) (pe_op o_adds (pv 4) pe_str) (nomark _)))) (fun _ _ _ _ _ => (pv 7)))))
        pss_nil)
      (pss_cons (ps_if (pt_cmpR op_eq (pv 3) pe_int (nomark _))
        (pss_cons (ps_set (i := 6) sc_law_changed.nd rfl (by first | exact Or.inl rfl | exact Or.inr rfl) (pe_lst (pa_cons (pe_lst (pa_cons (pe_op o_adds (pv 4) pe_str) pa_nil)) (pa_cons (pe_lst (pa_cons (pe_op o_adds (pe_op op_repS pe_str pe_int) pe_str) pa_nil)) (pa_cons (pe_lst (pa_cons pe_str (pa_cons pe_str (pa_cons pe_str pa_nil)))) (pa_cons (pe_lst (pa_cons pe_str (pa_cons pe_str pa_nil))) (pa_cons (pe_lst (pa_cons pe_str (pa_cons pe_str (pa_cons pe_str pa_nil)))) pa_nil)))))))
        (pss_cons (ps_set (i := 6) sc_law_changed.nd rfl (by first | exact Or.inl rfl | exact Or.inr rfl) (pe_op op_cat (pv 6) (pe_lst (pa_cons (pe_lst (pa_cons pe_str (pa_cons pe_str pa_nil))) pa_nil))))
        (pss_one (ps_ret (pe_op op_cat (pv 1) (pe_ix (r := rIxL K) ix_list (pv 6) (pe_call (ok_law_draw T) (hr.mono (by decide)) (by rfl) T.g_law_draw T.F_law_draw.kp T.b_law_draw .nil pass0 (pa_cons (pv 0) (pa_cons pe_int pa_nil))) (fun _ _ => rfl)))))))
        pss_nil)
      (pss_cons (ps_if (pt_cmpR op_eq (pv 3) pe_int (nomark _))
        (pss_one (ps_ret (pe_op op_cat (pe_slice (r := rSlL K) sl_list (pv 1) po_none (po_some (pv 5))) (pe_slice (r := rSlL K) sl_list (pv 1) (po_some (pe_op op_add (pv 5) pe_int)) po_none))))
        pss_nil)
      (pss_cons (ps_if (pt_cmpR op_eq (pv 3) pe_int (nomark _))
        (pss_one (ps_ret (pe_op op_cat (pe_op op_cat (pe_slice (r := rSlL K) sl_list (pv 1) po_none (po_some (pv 5))) (pe_lst (pa_cons (pe_call (ok_law_odd_line T) hr (by rfl) T.g_law_odd_line T.F_law_odd_line.kp T.b_law_odd_line .nil pass0 (pa_cons (pv 0) (pa_cons (pv 2) pa_nil))) pa_nil))) (pe_slice (r := rSlL K) sl_list (pv 1) (po_some (pv 5)) po_none))))
        pss_nil)
      (pss_cons (ps_if (pt_cmpR op_lt (pv 3) pe_int (nomark _))
        (pss_one (ps_ret (pe_op op_cat (pe_op op_cat (pe_slice (r := rSlL K) sl_list (pv 1) po_none (po_some (pv 5))) (pe_lst (pa_cons (pe_call (ok_law_odd_line T) hr (by rfl) T.g_law_odd_line T.F_law_odd_line.kp T.b_law_odd_line .nil pass0 (pa_cons (pv 0) (pa_cons (pv 2) pa_nil))) pa_nil))) (pe_slice (r := rSlL K) sl_list (pv 1) (po_some (pe_op op_add (pv 5) pe_int)) po_none))))
        pss_nil)
      (pss_one (ps_ret (pe_bm PySem.F.plainAttrs_str PySem.F.slot_str_split PySem.F.type_str_split m_split (pe_call (ok_law_sign_changed T) (hr.mono (by decide)) (by rfl) T.g_law_sign_changed T.F_law_sign_changed.kp T.b_law_sign_changed .nil pass0 (pa_cons (pv 0) (pa_cons (pe_bm PySem.F.plainAttrs_str PySem.F.slot_str_join PySem.F.type_str_join (r := rJoinS K) m_join pe_str (pa_cons (pv 1) pa_nil)) pa_nil))) (pa_cons pe_str pa_nil))))))))))))), ?_⟩
    obtain ⟨hp, hx, hy, hz⟩ := id hn
    have lus : (ls.map V.str).length = ls.length := List.length_map ..
    have lts := TX_len ls
    have q1 : (":" : Str).length = 1 := by decide
    walk_at "lw go"
    rename_i r0 H1 e1 a0 a1 r1 H2 e2 b0 b1 v hv r2 H3 e3 c0 c1
    obtain ⟨w, rfl, hw⟩ : ∃ w : Str, v = .str w ∧ w.length ≤ 8 := by
      refine (show ASn 8 _ from ?_) v hv
      walk_at "lw an"
    have hlw := sl_app w ":"
    have cutT : cutV (ls.map V.str) none (some r2) = (ls.take r2.toNat).map V.str := by rw [cut_to _ _ c0, ← List.map_take]
    have cutF : cutV (ls.map V.str) (some r2) none = (ls.drop r2.toNat).map V.str := by rw [cut_from _ _ c0, ← List.map_drop]
    have cutG : cutV (ls.map V.str) (some (r2 + 1)) none = (ls.drop (r2 + 1).toNat).map V.str := by rw [cut_from _ _ (by omega), ← List.map_drop]
    have t6 := TX_take r2.toNat ls
    have t7 := TX_cut r2.toNat ls
    have t8 := TX_drop r2.toNat ls
    have t9 : TX (ls.drop (r2 + 1).toNat) ≤ TX (ls.drop r2.toNat) := by
      rw [show (r2 + 1).toNat = r2.toNat + 1 by omega, ← List.drop_drop]
      exact TX_drop 1 _
    have l6 := TX_len (ls.take r2.toNat)
    have l7 := TX_len (ls.drop r2.toNat)
    have l8 := TX_len (ls.drop (r2 + 1).toNat)
    have lm : ∀ us : List Str, (us.map V.str).length = us.length := fun us => List.length_map ..
    have e03 : Ex (WB b) H H3 := by walk_at "lw ex"
    have hl3 : At (WB b) H3 l (.lst (ls.map V.str)) := by walk_at "lw at"
    have hn3 : N3 (WB b) H3 p x y z := N3.ex e03 hn
    clear e1 e2 e3 hl hp hn
    -- take, one line, drop
    have mid : ∀ (u : Str) (H5 H7 : Hp) (P S : Addr) (tl : List Str), Ex (WB b) H H5 → Ex (WB b) H5 H7 → True := fun _ _ _ _ _ _ _ _ => trivial
    refine ifI ?_ ?_ <;> intro w0
    · walk_at "lw go"
      rename_i P H5 f5 e5 h5 S H6 f6 e6 h6
      rw [cutT] at h5
      refine rd_cat (W := WB b) e6.iv (by walk_at "lw at") h6 (by rw [lm]; simp only [List.length_cons, List.length_nil]; omega) fun C H7 f7 e7 h7 => ?_
      walk_at "lw go"
      rename_i T H8 f8 e8 h8
      rw [cutF] at h8
      refine rd_cat (W := WB b) e8.iv (by walk_at "lw at") h8 (by rw [List.length_append, lm, lm]; simp only [List.length_cons, List.length_nil]; omega) fun C2 H9 f9 e9 h9 => ?_
      refine k C2 (ls.take r2.toNat ++ [w ++ ":"] ++ ls.drop r2.toNat) H9 (by walk_at "lw ex") (by rw [List.map_append, List.map_append]; exact h9) ?_
      rw [TX_app, TX_app]
      show _ + ((w ++ ":").length + 1 + 0) + _ ≤ _
      omega
    walk_at "lw go"
    refine ifI ?_ ?_ <;> intro w1
    · walk_at "lw go"
      refine rd_lcF (W := WB b) (fun v => !decide (v = V.str (w ++ ":"))) (fun x y _ => y = x) e03.iv hl3 (by rw [lus]; omega) (fun _ _ _ _ _ r => r) (fun n x H' QB hx e q => ?_) (fun n x D2 acc H' QV hx hk hD2 hDa e q => ?_) (fun D2 H4 ys hD2 e4 h4 hA => ?_)
      · obtain ⟨s, hs, rfl⟩ := ls_get hx
        walk_at "lw go"
        exact q _ (Ex.refl e.iv)
      · walk_at "lw go"
        exact q _ _ (Ex.refl e.iv) rfl
      · have hys := all2_eq hA
        subst hys
        walk_at "lw go"
        have fm : ∀ us : List Str, (us.map V.str).filter (fun v => !decide (v = V.str (w ++ ":"))) = (us.filter fun s => !decide (V.str s = V.str (w ++ ":"))).map V.str := fun us => by rw [List.filter_map]; rfl
        rw [fm] at h4
        refine k _ _ _ (by walk_at "lw ex") h4 ?_
        have := TX_filter (fun s => !decide (V.str s = V.str (w ++ ":"))) ls
        omega
    walk_at "lw go"
    refine ifI ?_ ?_ <;> intro w2
    · walk_at "lw go"
      rename_i P1 H4 f4 e4 h4
      refine rd_repS (by decide) (by decide) (by decide) ?_
      rw [show ((8 : Int)).toNat = 8 from rfl]
      have q8 : (repS "q" 8).length = 8 := by decide +kernel
      generalize repS "q" 8 = Q8 at q8
      have hq8 := sl_app Q8 ":"
      walk_at "lw go"
      rename_i P2 H5 f5 e5 h5 P3 H6 f6 e6 h6 P4 H7 f7 e7 h7 P5 H8 f8 e8 h8 E H9 f9 e9 h9 P6 H10 f10 e10 h10 F H11 f11 e11 h11 G H12 f12 e12 h12 r H13 e13 d0 d1 v hv
      have w1' : At (WB b) H13 P1 (.lst [.str (w ++ ":")]) := by walk_at "lw at"
      have w2' : At (WB b) H13 P2 (.lst [.str (Q8 ++ ":")]) := by walk_at "lw at"
      have w3' : At (WB b) H13 P3 (.lst [.str "q7:", .str "#", .str "r7:"]) := by walk_at "lw at"
      have w4' : At (WB b) H13 P4 (.lst [.str "q7:", .str ""]) := by walk_at "lw at"
      have w5' : At (WB b) H13 P5 (.lst [.str "q7:", .str "r7:", .str "r7:"]) := by walk_at "lw at"
      have w6' : At (WB b) H13 P6 (.lst [.str "q7:", .str "jump q7"]) := by walk_at "lw at"
      have hl13 : At (WB b) H13 l (.lst (ls.map V.str)) := by walk_at "lw at"
      have e313 : Ex (WB b) H H13 := by walk_at "lw ex"
      have fin : ∀ (q : Addr) (us : List Str), At (WB b) H13 q (.lst (us.map V.str)) → TX us ≤ 100 → rCat (.ref l) (.ref q) H13 Q := fun q us hq tu => by
        have := TX_len us
        refine rd_cat (W := WB b) e13.iv hl13 hq (by rw [lm, lm]; omega) fun C H14 f14 e14 h14 => ?_
        exact k C (ls ++ us) H14 (e313.trans e14) (by rw [List.map_append]; exact h14) (by rw [TX_app]; omega)
      clear h4 h5 h6 h7 h8 h9 h10 h11 h12 e4 e5 e6 e7 e8 e9 e10 e11 e12
      simp only [List.mem_append, List.mem_cons, List.not_mem_nil, or_false] at hv
      rcases hv with (rfl | rfl | rfl | rfl | rfl) | rfl
      · exact fin P1 [w ++ ":"] w1' (by show (w ++ ":").length + 1 + 0 ≤ 100; omega)
      · exact fin P2 [Q8 ++ ":"] w2' (by show (Q8 ++ ":").length + 1 + 0 ≤ 100; omega)
      · exact fin P3 ["q7:", "#", "r7:"] w3' (by decide)
      · exact fin P4 ["q7:", ""] w4' (by decide)
      · exact fin P5 ["q7:", "r7:", "r7:"] w5' (by decide)
      · exact fin P6 ["q7:", "jump q7"] w6' (by decide)
    walk_at "lw go"
    refine ifI ?_ ?_ <;> intro w3
    · walk_at "lw go"
      rename_i P H5 f5 e5 h5 T H8 f8 e8 h8
      rw [cutT] at h5
      rw [cutG] at h8
      refine rd_cat (W := WB b) e8.iv (by walk_at "lw at") h8 (by rw [lm, lm]; omega) fun C2 H9 f9 e9 h9 => ?_
      refine k C2 (ls.take r2.toNat ++ ls.drop (r2 + 1).toNat) H9 (by walk_at "lw ex") (by rw [List.map_append]; exact h9) ?_
      rw [TX_app]
      omega
    walk_at "lw go"
    refine ifI ?_ ?_ <;> intro w4
    · walk_at "lw go"
      rename_i P H5 f5 e5 h5 u H6 e6 hu S H7 f7 e7 h7
      rw [cutT] at h5
      refine rd_cat (W := WB b) e7.iv (by walk_at "lw at") h7 (by rw [lm]; simp only [List.length_cons, List.length_nil]; omega) fun C H8 f8 e8 h8 => ?_
      walk_at "lw go"
      rename_i T H9 f9 e9 h9
      rw [cutF] at h9
      refine rd_cat (W := WB b) e9.iv (by walk_at "lw at") h9 (by rw [List.length_append, lm, lm]; simp only [List.length_cons, List.length_nil]; omega) fun C2 H10 f10 e10 h10 => ?_
      refine k C2 (ls.take r2.toNat ++ [u] ++ ls.drop r2.toNat) H10 (by walk_at "lw ex") (by rw [List.map_append, List.map_append]; exact h10) ?_
      rw [TX_app, TX_app]
      show _ + (u.length + 1 + 0) + _ ≤ _
      omega
    walk_at "lw go"
    refine ifD ?_ ?_ <;> intro w5
    · walk_at "lw go"
      rename_i P H5 f5 e5 h5 u H6 e6 hu S H7 f7 e7 h7
      rw [cutT] at h5
      refine rd_cat (W := WB b) e7.iv (by walk_at "lw at") h7 (by rw [lm]; simp only [List.length_cons, List.length_nil]; omega) fun C H8 f8 e8 h8 => ?_
      walk_at "lw go"
      rename_i T H9 f9 e9 h9
      rw [cutG] at h9
      refine rd_cat (W := WB b) e9.iv (by walk_at "lw at") h9 (by rw [List.length_append, lm, lm]; simp only [List.length_cons, List.length_nil]; omega) fun C2 H10 f10 e10 h10 => ?_
      refine k C2 (ls.take r2.toNat ++ [u] ++ ls.drop (r2 + 1).toNat) H10 (by walk_at "lw ex") (by rw [List.map_append, List.map_append]; exact h10) ?_
      rw [TX_app, TX_app]
      show _ + (u.length + 1 + 0) + _ ≤ _
      omega
    walk_at "lw go"
    have hj : (ls.map (·.length)).sum + ls.length * ("\n" : Str).length ≤ 16777216 := by
      have := TX_sum ls
      have q1 : ("\n" : Str).length = 1 := by decide
      rw [q1]
      omega
    have jl := join_le ls
    refine rd_join (ys := ls) hl3 hj ?_
    walk_at "lw go"
    refine cl_law_sign_changed e03.iv (by omega) fun u H4 e4 hu => ?_
    walk_at "lw go"
    rename_i S H5 f5 e5 h5
    exact k S (Txt.split u "\n") H5 ((e03.trans e4).trans e5) h5 (by have := split_size u; omega)

theorem ok_law_at (T : Tx P w K mg) {f : Addr} {fd : FuncData} (F : Fun K "law" "law" s_law f fd) : FnOk P w K mg base CX0 7 f fd ["script"] (spLaw K) := by
  refine F.ok sc_law (fun vs H Q E h => ?_) (fun cdv A outer s H vs Q E hr h => ?_)
  · obtain ⟨a, ns, rfl, ha, hn, k⟩ := h
    rfl
  · obtain ⟨a, ns, rfl, ha, hn, k⟩ := h
    refine ⟨_, (pss_cons (ps_set (i := 1) sc_law.nd rfl (by first | exact Or.inl rfl | exact Or.inr rfl) (pe_call (ok_law_pool T) (hr.mono (by decide)) (by rfl) T.g_law_pool T.F_law_pool.kp T.b_law_pool .nil pass0 (pa_cons (pv 0) pa_nil)))
      (pss_cons (ps_set (i := 2) sc_law.nd rfl (by first | exact Or.inl rfl | exact Or.inr rfl) (pe_lst pa_nil))
      (pss_cons (ps_for PassesOwn.never rfl (pi_range1 rfl T.n_range (pa_cons pe_int pa_nil)) (pg_name (i := 3) sc_law.nd rfl (by first | exact Or.inl rfl | exact Or.inr rfl))
        (pss_one (ps_expr (pe_bm PySem.F.plainAttrs_list PySem.F.slot_list_append PySem.F.type_list_append mt_append (pv 2) (pa_cons (pe_call (ok_law_label T) (hr.mono (by decide)) (by rfl) T.g_law_label T.F_law_label.kp T.b_law_label .nil pass0 (pa_cons (pv 1) (pa_cons (pv 2) pa_nil))) pa_nil)))))
      (pss_cons (ps_set (i := 4) sc_law.nd rfl (by first | exact Or.inl rfl | exact Or.inr rfl) (pe_call (ok_law_lines T) (hr.mono (by decide)) (by rfl) T.g_law_lines T.F_law_lines.kp T.b_law_lines .nil pass0 (pa_cons (pv 1) (pa_cons (pv 2) pa_nil))))
      (pss_cons (ps_if (pt_not (pt_val (pe_call (ok_law_holds T) hr (by rfl) T.g_law_holds T.F_law_holds.kp T.b_law_holds .nil pass0 (pa_cons (pe_bm PySem.F.plainAttrs_str PySem.F.slot_str_join PySem.F.type_str_join (r := rJoinS K) m_join pe_str (pa_cons (pv 4) pa_nil)) pa_nil))))
        (pss_one (ps_ret pe_bl))
        pss_nil)
      (pss_cons (ps_for PassesOwn.never rfl (pi_range1 rfl T.n_range (pa_cons (pe_op op_add pe_int (pe_call (ok_law_draw T) (hr.mono (by decide)) (by rfl) T.g_law_draw T.F_law_draw.kp T.b_law_draw .nil pass0 (pa_cons (pv 1) (pa_cons pe_int pa_nil)))) pa_nil)) (pg_name (i := 3) sc_law.nd rfl (by first | exact Or.inl rfl | exact Or.inr rfl))
        (pss_one (ps_set (i := 4) sc_law.nd rfl (by first | exact Or.inl rfl | exact Or.inr rfl) (pe_call (ok_law_changed T) (hr.mono (by decide)) (by rfl) T.g_law_changed T.F_law_changed.kp T.b_law_changed .nil pass0 (pa_cons (pv 1) (pa_cons (pv 4) (pa_cons (pv 2) pa_nil)))))))
      (pss_one (ps_ret (pe_call (ok_law_holds T) hr (by rfl) T.g_law_holds T.F_law_holds.kp T.b_law_holds .nil pass0 (pa_cons (pe_bm PySem.F.plainAttrs_str PySem.F.slot_str_join PySem.F.type_str_join (r := rJoinS K) m_join pe_str (pa_cons (pv 4) pa_nil)) pa_nil)))))))))), ?_⟩
    refine rd_seq (rd_asg (rd_call (rd_cons ?_)))
    walk_at "lw go"
    refine ⟨a, ns, rfl, ha, hn, fun b H1 iv => ?_⟩
    walk_at "lw go"
    rename_i N H2 f2 e2 h2
    refine for_r (n := 3) (fun i σ' H' => ∃ (us : List Str) (v3 : Option V), σ' = [some (.ref a), some (.ref b), some (.ref N), v3, none] ∧ Ex (WB b) H1 H' ∧ At (WB b) H' N (.lst (us.map V.str)) ∧ us.length = i ∧ ∀ s ∈ us, s.length ≤ 8) ⟨[], _, rfl, e2, h2, rfl, fun _ h => nomatch h⟩ ?_ ?_
    · rintro i σ' H' hi ⟨us, v3, rfl, e3, h3, l3, l4⟩
      have lus : (us.map V.str).length = us.length := List.length_map ..
      have hN : H1 N = none := f2
      have hlen : (us.map V.str).length < 1000000 := by omega
      walk_at "lw go"
      rename_i u H4 e4 hu1 hu2 H5 e5 g5 o5
      have hu := GL.len (isL_of hu1)
      refine ⟨us ++ [u], _, rfl, e5, by rw [List.map_append]; exact g5, by rw [List.length_append, l3]; rfl, fun s hs => ?_⟩
      rcases List.mem_append.mp hs with q | q
      · exact l4 s q
      · rw [List.mem_singleton.mp q]; exact hu
    rintro σ' H3 ⟨us, v3, rfl, e3, h3, l3, l4⟩
    obtain ⟨x, y, z, rfl⟩ : ∃ x y z, us = [x, y, z] := by
      match us, l3 with
      | [x, y, z], _ => exact ⟨x, y, z, rfl⟩
    have hn3 : N3 (WB b) H3 N x y z := ⟨h3, l4 x (by simp), l4 y (by simp), l4 z (by simp)⟩
    clear h3
    walk_at "lw go"
    refine cl_law_lines e3.iv hn3 fun L ls H4 e4 h4 t4 => ?_
    walk_at "lw go"
    have hj : ∀ us : List Str, TX us ≤ 38000 → (us.map (·.length)).sum + us.length * ("\n" : Str).length ≤ 16777216 := fun us h => by
      have := TX_sum us
      have q1 : ("\n" : Str).length = 1 := by decide
      rw [q1]
      omega
    refine rd_join (ys := ls) h4 (hj ls (by omega)) ?_
    walk_at "lw go"
    refine cl_law_holds (W := WB b) (by have := join_le ls; omega) e4.iv fun H5 e5 => ?_
    walk_at "lw gi"
    rename_i r H6 e6 r0 r1
    have lN : (1 + r).toNat ≤ 2 := by omega
    refine for_r (n := (1 + r).toNat) (fun i σ' H' => ∃ (v3 : Option V) (L : Addr) (ls : List Str), σ' = [some (.ref a), some (.ref b), some (.ref N), v3, some (.ref L)] ∧ Ex (WB b) H3 H' ∧ At (WB b) H' L (.lst (ls.map V.str)) ∧ TX ls ≤ 36500 + 200 * i) ⟨_, L, ls, rfl, by walk_at "lw ex", by walk_at "lw at", t4⟩ ?_ ?_
    · rintro i σ' H' hi ⟨v3, L, ls, rfl, e7, h7, t7⟩
      walk_at "lw go"
      refine cl_law_changed e7.iv h7 (by omega) (N3.ex e7 hn3) fun L2 us H8 e8 h8 t8 => ?_
      walk_at "lw go"
      exact ⟨_, L2, us, rfl, by walk_at "lw ex", h8, by omega⟩
    rintro σ' H7 ⟨v3, L, ls, rfl, e7, h7, t7⟩
    walk_at "lw go"
    refine rd_join (ys := ls) h7 (hj ls (by omega)) ?_
    walk_at "lw go"
    refine cl_law_holds (W := WB b) (by have := join_le ls; omega) e7.iv fun H8 e8 => ?_
    exact k _

end

theorem all_mk {l : PySem.W.OpenLaw} {w : World} {K : PySem.W.Frag} {h : Heap} {mg : Str → Option Value} {fa : Addr} (X : K.In h) (G : h.Ns mainGlobals mg) (hfa : mg "law" = some (.ref fa))
    {f0 : Addr} {od0 an0 : Option Addr} {sl0 : Array (Option Value)} {oc0 kV0 dc0 pm0 cd0 ct0 : Value}
    {f1 : Addr} {od1 an1 : Option Addr} {sl1 : Array (Option Value)} {oc1 kV1 dc1 pm1 cd1 ct1 : Value}
    {f2 : Addr} {od2 an2 : Option Addr} {sl2 : Array (Option Value)} {oc2 kV2 dc2 pm2 cd2 ct2 : Value}
    {f3 : Addr} {od3 an3 : Option Addr} {sl3 : Array (Option Value)} {oc3 kV3 dc3 pm3 cd3 ct3 : Value}
    {f4 : Addr} {od4 an4 : Option Addr} {sl4 : Array (Option Value)} {oc4 kV4 dc4 pm4 cd4 ct4 : Value}
    {f5 : Addr} {od5 an5 : Option Addr} {sl5 : Array (Option Value)} {oc5 kV5 dc5 pm5 cd5 ct5 : Value}
    {f6 : Addr} {od6 an6 : Option Addr} {sl6 : Array (Option Value)} {oc6 kV6 dc6 pm6 cd6 ct6 : Value}
    {f7 : Addr} {od7 an7 : Option Addr} {sl7 : Array (Option Value)} {oc7 kV7 dc7 pm7 cd7 ct7 : Value}
    {f8 : Addr} {od8 an8 : Option Addr} {sl8 : Array (Option Value)} {oc8 kV8 dc8 pm8 cd8 ct8 : Value}
    {f9 : Addr} {od9 an9 : Option Addr} {sl9 : Array (Option Value)} {oc9 kV9 dc9 pm9 cd9 ct9 : Value}
    {f10 : Addr} {od10 an10 : Option Addr} {sl10 : Array (Option Value)} {oc10 kV10 dc10 pm10 cd10 ct10 : Value}
    {f11 : Addr} {od11 an11 : Option Addr} {sl11 : Array (Option Value)} {oc11 kV11 dc11 pm11 cd11 ct11 : Value}
    {f12 : Addr} {od12 an12 : Option Addr} {sl12 : Array (Option Value)} {oc12 kV12 dc12 pm12 cd12 ct12 : Value}
    {f13 : Addr} {od13 an13 : Option Addr} {sl13 : Array (Option Value)} {oc13 kV13 dc13 pm13 cd13 ct13 : Value}
    {f14 : Addr} {od14 an14 : Option Addr} {sl14 : Array (Option Value)} {oc14 kV14 dc14 pm14 cd14 ct14 : Value}
    {f15 : Addr} {od15 an15 : Option Addr} {sl15 : Array (Option Value)} {oc15 kV15 dc15 pm15 cd15 ct15 : Value}
    {f16 : Addr} {od16 an16 : Option Addr} {sl16 : Array (Option Value)} {oc16 kV16 dc16 pm16 cd16 ct16 : Value}
    {f17 : Addr} {od17 an17 : Option Addr} {sl17 : Array (Option Value)} {oc17 kV17 dc17 pm17 cd17 ct17 : Value}
    {f18 : Addr} {od18 an18 : Option Addr} {sl18 : Array (Option Value)} {oc18 kV18 dc18 pm18 cd18 ct18 : Value}
    {f19 : Addr} {od19 an19 : Option Addr} {sl19 : Array (Option Value)} {oc19 kV19 dc19 pm19 cd19 ct19 : Value}
    {f20 : Addr} {od20 an20 : Option Addr} {sl20 : Array (Option Value)} {oc20 kV20 dc20 pm20 cd20 ct20 : Value}
    {f21 : Addr} {od21 an21 : Option Addr} {sl21 : Array (Option Value)} {oc21 kV21 dc21 pm21 cd21 ct21 : Value}
    {f22 : Addr} {od22 an22 : Option Addr} {sl22 : Array (Option Value)} {oc22 kV22 dc22 pm22 cd22 ct22 : Value}
    {f23 : Addr} {od23 an23 : Option Addr} {sl23 : Array (Option Value)} {oc23 kV23 dc23 pm23 cd23 ct23 : Value}
    {f24 : Addr} {od24 an24 : Option Addr} {sl24 : Array (Option Value)} {oc24 kV24 dc24 pm24 cd24 ct24 : Value}
    {f25 : Addr} {od25 an25 : Option Addr} {sl25 : Array (Option Value)} {oc25 kV25 dc25 pm25 cd25 ct25 : Value}
    {f26 : Addr} {od26 an26 : Option Addr} {sl26 : Array (Option Value)} {oc26 kV26 dc26 pm26 cd26 ct26 : Value}
    {f27 : Addr} {od27 an27 : Option Addr} {sl27 : Array (Option Value)} {oc27 kV27 dc27 pm27 cd27 ct27 : Value}
    {f28 : Addr} {od28 an28 : Option Addr} {sl28 : Array (Option Value)} {oc28 kV28 dc28 pm28 cd28 ct28 : Value}
    {f29 : Addr} {od29 an29 : Option Addr} {sl29 : Array (Option Value)} {oc29 kV29 dc29 pm29 cd29 ct29 : Value}
    {f30 : Addr} {od30 an30 : Option Addr} {sl30 : Array (Option Value)} {oc30 kV30 dc30 pm30 cd30 ct30 : Value}
    {f31 : Addr} {od31 an31 : Option Addr} {sl31 : Array (Option Value)} {oc31 kV31 dc31 pm31 cd31 ct31 : Value}
    {f32 : Addr} {od32 an32 : Option Addr} {sl32 : Array (Option Value)} {oc32 kV32 dc32 pm32 cd32 ct32 : Value}
    {f33 : Addr} {od33 an33 : Option Addr} {sl33 : Array (Option Value)} {oc33 kV33 dc33 pm33 cd33 ct33 : Value}
    {f34 : Addr} {od34 an34 : Option Addr} {sl34 : Array (Option Value)} {oc34 kV34 dc34 pm34 cd34 ct34 : Value}
    {f35 : Addr} {od35 an35 : Option Addr} {sl35 : Array (Option Value)} {oc35 kV35 dc35 pm35 cd35 ct35 : Value}
    {aK_DEEDS : Addr} {its_DEEDS : Array Value} {n_DEEDS : Nat} {dd_DEEDS : Option Addr} {sl_DEEDS : Array (Option Value)}
    {tk_DIGITS : Tok}
    {tk_LONGEST : Tok}
    {tk_LONGEST_LABEL : Tok}
    {tk_LONGEST_NUMBER : Tok}
    {tk_REGISTERS : Tok}
    {aK_ROLES : Addr} {es_ROLES : Array DictEntry} {n_ROLES : Nat}
    {r_ROLES_set : Addr} {its_ROLES_set : Array Value} {n_ROLES_set : Nat} {dd_ROLES_set : Option Addr} {sl_ROLES_set : Array (Option Value)}
    {r_ROLES_move : Addr} {its_ROLES_move : Array Value} {n_ROLES_move : Nat} {dd_ROLES_move : Option Addr} {sl_ROLES_move : Array (Option Value)}
    {r_ROLES_add : Addr} {its_ROLES_add : Array Value} {n_ROLES_add : Nat} {dd_ROLES_add : Option Addr} {sl_ROLES_add : Array (Option Value)}
    {r_ROLES_sub : Addr} {its_ROLES_sub : Array Value} {n_ROLES_sub : Nat} {dd_ROLES_sub : Option Addr} {sl_ROLES_sub : Array (Option Value)}
    {r_ROLES_load : Addr} {its_ROLES_load : Array Value} {n_ROLES_load : Nat} {dd_ROLES_load : Option Addr} {sl_ROLES_load : Array (Option Value)}
    {r_ROLES_store : Addr} {its_ROLES_store : Array Value} {n_ROLES_store : Nat} {dd_ROLES_store : Option Addr} {sl_ROLES_store : Array (Option Value)}
    {r_ROLES_jump : Addr} {its_ROLES_jump : Array Value} {n_ROLES_jump : Nat} {dd_ROLES_jump : Option Addr} {sl_ROLES_jump : Array (Option Value)}
    {r_ROLES_zero : Addr} {its_ROLES_zero : Array Value} {n_ROLES_zero : Nat} {dd_ROLES_zero : Option Addr} {sl_ROLES_zero : Array (Option Value)}
    {r_ROLES_deed : Addr} {its_ROLES_deed : Array Value} {n_ROLES_deed : Nat} {dd_ROLES_deed : Option Addr} {sl_ROLES_deed : Array (Option Value)}
    {tk_SMALL : Tok}
    {tk_WORD : Tok}
    {cc_CapsteadError : Addr}
    {cc_InputError : Addr}
    {cc_QuestionError : Addr}
    {cc_BadNumber : Addr}
    {cc_BadProgram : Addr}
    {cc_BadLine : Addr}
    {ci_BadLine N_BadLine da_BadLine cl_BadLine : Addr} {nm_BadLine q_BadLine qu_BadLine m_BadLine fi_BadLine : Str} {bs_BadLine bm_BadLine sub_BadLine : List Value} {sn_BadLine : List Str} {ab_BadLine : Bool} {col_BadLine : Option Bool} {dd_BadLine od_BadLine an_BadLine cld_BadLine cdd_BadLine : Option Addr} {k0_BadLine k1_BadLine k2_BadLine k3_BadLine k5_BadLine : Option Value} {oc_BadLine doc_BadLine pm_BadLine ct_BadLine clv_BadLine ccl_BadLine : Value} {osl_BadLine csl_BadLine ccs_BadLine : Array (Option Value)} {vs_BadLine : Array Value} {nn_BadLine : Nat} {tf_BadLine : Tok} {p1_BadLine p2_BadLine a0_BadLine a1_BadLine a2_BadLine a3_BadLine a4_BadLine a5_BadLine q1_BadLine q2_BadLine q3_BadLine q4_BadLine : Pos}
    (a0 : PySem.W.nsIn K mainGlobals "is_integer" = some (some (.ref f0))) (l0 : K.lookup f0 = some ⟨oc0, od0, .func (PySem.W.fnOf "is_integer" "is_integer" (defArgs s_is_integer) (defBody s_is_integer) (defScope s_is_integer) .none kV0 dc0 pm0 an0 cd0 ct0), sl0⟩) (c0 : PySem.W.codeIn K cd0 "is_integer" = true) (k0 : PySem.W.keepIn K (.ref f0) = true)
    (a1 : PySem.W.nsIn K mainGlobals "_bound" = some (some (.ref f1))) (l1 : K.lookup f1 = some ⟨oc1, od1, .func (PySem.W.fnOf "_bound" "_bound" (defArgs s_bound) (defBody s_bound) (defScope s_bound) .none kV1 dc1 pm1 an1 cd1 ct1), sl1⟩) (c1 : PySem.W.codeIn K cd1 "_bound" = true) (k1 : PySem.W.keepIn K (.ref f1) = true)
    (a2 : PySem.W.nsIn K mainGlobals "_fits" = some (some (.ref f2))) (l2 : K.lookup f2 = some ⟨oc2, od2, .func (PySem.W.fnOf "_fits" "_fits" (defArgs s_fits) (defBody s_fits) (defScope s_fits) .none kV2 dc2 pm2 an2 cd2 ct2), sl2⟩) (c2 : PySem.W.codeIn K cd2 "_fits" = true) (k2 : PySem.W.keepIn K (.ref f2) = true)
    (a3 : PySem.W.nsIn K mainGlobals "_is_label" = some (some (.ref f3))) (l3 : K.lookup f3 = some ⟨oc3, od3, .func (PySem.W.fnOf "_is_label" "_is_label" (defArgs s_is_label) (defBody s_is_label) (defScope s_is_label) .none kV3 dc3 pm3 an3 cd3 ct3), sl3⟩) (c3 : PySem.W.codeIn K cd3 "_is_label" = true) (k3 : PySem.W.keepIn K (.ref f3) = true)
    (a4 : PySem.W.nsIn K mainGlobals "_label_in" = some (some (.ref f4))) (l4 : K.lookup f4 = some ⟨oc4, od4, .func (PySem.W.fnOf "_label_in" "_label_in" (defArgs s_label_in) (defBody s_label_in) (defScope s_label_in) .none kV4 dc4 pm4 an4 cd4 ct4), sl4⟩) (c4 : PySem.W.codeIn K cd4 "_label_in" = true) (k4 : PySem.W.keepIn K (.ref f4) = true)
    (a5 : PySem.W.nsIn K mainGlobals "_is_ignored" = some (some (.ref f5))) (l5 : K.lookup f5 = some ⟨oc5, od5, .func (PySem.W.fnOf "_is_ignored" "_is_ignored" (defArgs s_is_ignored) (defBody s_is_ignored) (defScope s_is_ignored) .none kV5 dc5 pm5 an5 cd5 ct5), sl5⟩) (c5 : PySem.W.codeIn K cd5 "_is_ignored" = true) (k5 : PySem.W.keepIn K (.ref f5) = true)
    (a6 : PySem.W.nsIn K mainGlobals "_number_in" = some (some (.ref f6))) (l6 : K.lookup f6 = some ⟨oc6, od6, .func (PySem.W.fnOf "_number_in" "_number_in" (defArgs s_number_in) (defBody s_number_in) (defScope s_number_in) .none kV6 dc6 pm6 an6 cd6 ct6), sl6⟩) (c6 : PySem.W.codeIn K cd6 "_number_in" = true) (k6 : PySem.W.keepIn K (.ref f6) = true)
    (a7 : PySem.W.nsIn K mainGlobals "_part_in" = some (some (.ref f7))) (l7 : K.lookup f7 = some ⟨oc7, od7, .func (PySem.W.fnOf "_part_in" "_part_in" (defArgs s_part_in) (defBody s_part_in) (defScope s_part_in) .none kV7 dc7 pm7 an7 cd7 ct7), sl7⟩) (c7 : PySem.W.codeIn K cd7 "_part_in" = true) (k7 : PySem.W.keepIn K (.ref f7) = true)
    (a8 : PySem.W.nsIn K mainGlobals "_instruction_in" = some (some (.ref f8))) (l8 : K.lookup f8 = some ⟨oc8, od8, .func (PySem.W.fnOf "_instruction_in" "_instruction_in" (defArgs s_instruction_in) (defBody s_instruction_in) (defScope s_instruction_in) .none kV8 dc8 pm8 an8 cd8 ct8), sl8⟩) (c8 : PySem.W.codeIn K cd8 "_instruction_in" = true) (k8 : PySem.W.keepIn K (.ref f8) = true)
    (a9 : PySem.W.nsIn K mainGlobals "_labels_given" = some (some (.ref f9))) (l9 : K.lookup f9 = some ⟨oc9, od9, .func (PySem.W.fnOf "_labels_given" "_labels_given" (defArgs s_labels_given) (defBody s_labels_given) (defScope s_labels_given) .none kV9 dc9 pm9 an9 cd9 ct9), sl9⟩) (c9 : PySem.W.codeIn K cd9 "_labels_given" = true) (k9 : PySem.W.keepIn K (.ref f9) = true)
    (a10 : PySem.W.nsIn K mainGlobals "_last_instruction" = some (some (.ref f10))) (l10 : K.lookup f10 = some ⟨oc10, od10, .func (PySem.W.fnOf "_last_instruction" "_last_instruction" (defArgs s_last_instruction) (defBody s_last_instruction) (defScope s_last_instruction) .none kV10 dc10 pm10 an10 cd10 ct10), sl10⟩) (c10 : PySem.W.codeIn K cd10 "_last_instruction" = true) (k10 : PySem.W.keepIn K (.ref f10) = true)
    (a11 : PySem.W.nsIn K mainGlobals "assemble" = some (some (.ref f11))) (l11 : K.lookup f11 = some ⟨oc11, od11, .func (PySem.W.fnOf "assemble" "assemble" (defArgs s_assemble) (defBody s_assemble) (defScope s_assemble) .none kV11 dc11 pm11 an11 cd11 ct11), sl11⟩) (c11 : PySem.W.codeIn K cd11 "assemble" = true) (k11 : PySem.W.keepIn K (.ref f11) = true)
    (a12 : PySem.W.nsIn K mainGlobals "_law_pool" = some (some (.ref f12))) (l12 : K.lookup f12 = some ⟨oc12, od12, .func (PySem.W.fnOf "_law_pool" "_law_pool" (defArgs s_law_pool) (defBody s_law_pool) (defScope s_law_pool) .none kV12 dc12 pm12 an12 cd12 ct12), sl12⟩) (c12 : PySem.W.codeIn K cd12 "_law_pool" = true) (k12 : PySem.W.keepIn K (.ref f12) = true)
    (a13 : PySem.W.nsIn K mainGlobals "_law_draw" = some (some (.ref f13))) (l13 : K.lookup f13 = some ⟨oc13, od13, .func (PySem.W.fnOf "_law_draw" "_law_draw" (defArgs s_law_draw) (defBody s_law_draw) (defScope s_law_draw) .none kV13 dc13 pm13 an13 cd13 ct13), sl13⟩) (c13 : PySem.W.codeIn K cd13 "_law_draw" = true) (k13 : PySem.W.keepIn K (.ref f13) = true)
    (a14 : PySem.W.nsIn K mainGlobals "_law_is_integer" = some (some (.ref f14))) (l14 : K.lookup f14 = some ⟨oc14, od14, .func (PySem.W.fnOf "_law_is_integer" "_law_is_integer" (defArgs s_law_is_integer) (defBody s_law_is_integer) (defScope s_law_is_integer) .none kV14 dc14 pm14 an14 cd14 ct14), sl14⟩) (c14 : PySem.W.codeIn K cd14 "_law_is_integer" = true) (k14 : PySem.W.keepIn K (.ref f14) = true)
    (a15 : PySem.W.nsIn K mainGlobals "_law_deeds" = some (some (.ref f15))) (l15 : K.lookup f15 = some ⟨oc15, od15, .func (PySem.W.fnOf "_law_deeds" "_law_deeds" (defArgs s_law_deeds) (defBody s_law_deeds) (defScope s_law_deeds) .none kV15 dc15 pm15 an15 cd15 ct15), sl15⟩) (c15 : PySem.W.codeIn K cd15 "_law_deeds" = true) (k15 : PySem.W.keepIn K (.ref f15) = true)
    (a16 : PySem.W.nsIn K mainGlobals "_law_signs" = some (some (.ref f16))) (l16 : K.lookup f16 = some ⟨oc16, od16, .func (PySem.W.fnOf "_law_signs" "_law_signs" (defArgs s_law_signs) (defBody s_law_signs) (defScope s_law_signs) .none kV16 dc16 pm16 an16 cd16 ct16), sl16⟩) (c16 : PySem.W.codeIn K cd16 "_law_signs" = true) (k16 : PySem.W.keepIn K (.ref f16) = true)
    (a17 : PySem.W.nsIn K mainGlobals "_law_same_row" = some (some (.ref f17))) (l17 : K.lookup f17 = some ⟨oc17, od17, .func (PySem.W.fnOf "_law_same_row" "_law_same_row" (defArgs s_law_same_row) (defBody s_law_same_row) (defScope s_law_same_row) .none kV17 dc17 pm17 an17 cd17 ct17), sl17⟩) (c17 : PySem.W.codeIn K cd17 "_law_same_row" = true) (k17 : PySem.W.keepIn K (.ref f17) = true)
    (a18 : PySem.W.nsIn K mainGlobals "_law_same_program" = some (some (.ref f18))) (l18 : K.lookup f18 = some ⟨oc18, od18, .func (PySem.W.fnOf "_law_same_program" "_law_same_program" (defArgs s_law_same_program) (defBody s_law_same_program) (defScope s_law_same_program) .none kV18 dc18 pm18 an18 cd18 ct18), sl18⟩) (c18 : PySem.W.codeIn K cd18 "_law_same_program" = true) (k18 : PySem.W.keepIn K (.ref f18) = true)
    (a19 : PySem.W.nsIn K mainGlobals "_law_label" = some (some (.ref f19))) (l19 : K.lookup f19 = some ⟨oc19, od19, .func (PySem.W.fnOf "_law_label" "_law_label" (defArgs s_law_label) (defBody s_law_label) (defScope s_law_label) .none kV19 dc19 pm19 an19 cd19 ct19), sl19⟩) (c19 : PySem.W.codeIn K cd19 "_law_label" = true) (k19 : PySem.W.keepIn K (.ref f19) = true)
    (a20 : PySem.W.nsIn K mainGlobals "_law_read_number" = some (some (.ref f20))) (l20 : K.lookup f20 = some ⟨oc20, od20, .func (PySem.W.fnOf "_law_read_number" "_law_read_number" (defArgs s_law_read_number) (defBody s_law_read_number) (defScope s_law_read_number) .none kV20 dc20 pm20 an20 cd20 ct20), sl20⟩) (c20 : PySem.W.codeIn K cd20 "_law_read_number" = true) (k20 : PySem.W.keepIn K (.ref f20) = true)
    (a21 : PySem.W.nsIn K mainGlobals "_law_is_label" = some (some (.ref f21))) (l21 : K.lookup f21 = some ⟨oc21, od21, .func (PySem.W.fnOf "_law_is_label" "_law_is_label" (defArgs s_law_is_label) (defBody s_law_is_label) (defScope s_law_is_label) .none kV21 dc21 pm21 an21 cd21 ct21), sl21⟩) (c21 : PySem.W.codeIn K cd21 "_law_is_label" = true) (k21 : PySem.W.keepIn K (.ref f21) = true)
    (a22 : PySem.W.nsIn K mainGlobals "_law_read_instruction" = some (some (.ref f22))) (l22 : K.lookup f22 = some ⟨oc22, od22, .func (PySem.W.fnOf "_law_read_instruction" "_law_read_instruction" (defArgs s_law_read_instruction) (defBody s_law_read_instruction) (defScope s_law_read_instruction) .none kV22 dc22 pm22 an22 cd22 ct22), sl22⟩) (c22 : PySem.W.codeIn K cd22 "_law_read_instruction" = true) (k22 : PySem.W.keepIn K (.ref f22) = true)
    (a23 : PySem.W.nsIn K mainGlobals "_law_form" = some (some (.ref f23))) (l23 : K.lookup f23 = some ⟨oc23, od23, .func (PySem.W.fnOf "_law_form" "_law_form" (defArgs s_law_form) (defBody s_law_form) (defScope s_law_form) .none kV23 dc23 pm23 an23 cd23 ct23), sl23⟩) (c23 : PySem.W.codeIn K cd23 "_law_form" = true) (k23 : PySem.W.keepIn K (.ref f23) = true)
    (a24 : PySem.W.nsIn K mainGlobals "_law_forms" = some (some (.ref f24))) (l24 : K.lookup f24 = some ⟨oc24, od24, .func (PySem.W.fnOf "_law_forms" "_law_forms" (defArgs s_law_forms) (defBody s_law_forms) (defScope s_law_forms) .none kV24 dc24 pm24 an24 cd24 ct24), sl24⟩) (c24 : PySem.W.codeIn K cd24 "_law_forms" = true) (k24 : PySem.W.keepIn K (.ref f24) = true)
    (a25 : PySem.W.nsIn K mainGlobals "_law_given" = some (some (.ref f25))) (l25 : K.lookup f25 = some ⟨oc25, od25, .func (PySem.W.fnOf "_law_given" "_law_given" (defArgs s_law_given) (defBody s_law_given) (defScope s_law_given) .none kV25 dc25 pm25 an25 cd25 ct25), sl25⟩) (c25 : PySem.W.codeIn K cd25 "_law_given" = true) (k25 : PySem.W.keepIn K (.ref f25) = true)
    (a26 : PySem.W.nsIn K mainGlobals "_law_due" = some (some (.ref f26))) (l26 : K.lookup f26 = some ⟨oc26, od26, .func (PySem.W.fnOf "_law_due" "_law_due" (defArgs s_law_due) (defBody s_law_due) (defScope s_law_due) .none kV26 dc26 pm26 an26 cd26 ct26), sl26⟩) (c26 : PySem.W.codeIn K cd26 "_law_due" = true) (k26 : PySem.W.keepIn K (.ref f26) = true)
    (a27 : PySem.W.nsIn K mainGlobals "_law_holds" = some (some (.ref f27))) (l27 : K.lookup f27 = some ⟨oc27, od27, .func (PySem.W.fnOf "_law_holds" "_law_holds" (defArgs s_law_holds) (defBody s_law_holds) (defScope s_law_holds) .none kV27 dc27 pm27 an27 cd27 ct27), sl27⟩) (c27 : PySem.W.codeIn K cd27 "_law_holds" = true) (k27 : PySem.W.keepIn K (.ref f27) = true)
    (a28 : PySem.W.nsIn K mainGlobals "_law_number_word" = some (some (.ref f28))) (l28 : K.lookup f28 = some ⟨oc28, od28, .func (PySem.W.fnOf "_law_number_word" "_law_number_word" (defArgs s_law_number_word) (defBody s_law_number_word) (defScope s_law_number_word) .none kV28 dc28 pm28 an28 cd28 ct28), sl28⟩) (c28 : PySem.W.codeIn K cd28 "_law_number_word" = true) (k28 : PySem.W.keepIn K (.ref f28) = true)
    (a29 : PySem.W.nsIn K mainGlobals "_law_odd_label" = some (some (.ref f29))) (l29 : K.lookup f29 = some ⟨oc29, od29, .func (PySem.W.fnOf "_law_odd_label" "_law_odd_label" (defArgs s_law_odd_label) (defBody s_law_odd_label) (defScope s_law_odd_label) .none kV29 dc29 pm29 an29 cd29 ct29), sl29⟩) (c29 : PySem.W.codeIn K cd29 "_law_odd_label" = true) (k29 : PySem.W.keepIn K (.ref f29) = true)
    (a30 : PySem.W.nsIn K mainGlobals "_law_odd_line" = some (some (.ref f30))) (l30 : K.lookup f30 = some ⟨oc30, od30, .func (PySem.W.fnOf "_law_odd_line" "_law_odd_line" (defArgs s_law_odd_line) (defBody s_law_odd_line) (defScope s_law_odd_line) .none kV30 dc30 pm30 an30 cd30 ct30), sl30⟩) (c30 : PySem.W.codeIn K cd30 "_law_odd_line" = true) (k30 : PySem.W.keepIn K (.ref f30) = true)
    (a31 : PySem.W.nsIn K mainGlobals "_law_right_line" = some (some (.ref f31))) (l31 : K.lookup f31 = some ⟨oc31, od31, .func (PySem.W.fnOf "_law_right_line" "_law_right_line" (defArgs s_law_right_line) (defBody s_law_right_line) (defScope s_law_right_line) .none kV31 dc31 pm31 an31 cd31 ct31), sl31⟩) (c31 : PySem.W.codeIn K cd31 "_law_right_line" = true) (k31 : PySem.W.keepIn K (.ref f31) = true)
    (a32 : PySem.W.nsIn K mainGlobals "_law_lines" = some (some (.ref f32))) (l32 : K.lookup f32 = some ⟨oc32, od32, .func (PySem.W.fnOf "_law_lines" "_law_lines" (defArgs s_law_lines) (defBody s_law_lines) (defScope s_law_lines) .none kV32 dc32 pm32 an32 cd32 ct32), sl32⟩) (c32 : PySem.W.codeIn K cd32 "_law_lines" = true) (k32 : PySem.W.keepIn K (.ref f32) = true)
    (a33 : PySem.W.nsIn K mainGlobals "_law_sign_changed" = some (some (.ref f33))) (l33 : K.lookup f33 = some ⟨oc33, od33, .func (PySem.W.fnOf "_law_sign_changed" "_law_sign_changed" (defArgs s_law_sign_changed) (defBody s_law_sign_changed) (defScope s_law_sign_changed) .none kV33 dc33 pm33 an33 cd33 ct33), sl33⟩) (c33 : PySem.W.codeIn K cd33 "_law_sign_changed" = true) (k33 : PySem.W.keepIn K (.ref f33) = true)
    (a34 : PySem.W.nsIn K mainGlobals "_law_changed" = some (some (.ref f34))) (l34 : K.lookup f34 = some ⟨oc34, od34, .func (PySem.W.fnOf "_law_changed" "_law_changed" (defArgs s_law_changed) (defBody s_law_changed) (defScope s_law_changed) .none kV34 dc34 pm34 an34 cd34 ct34), sl34⟩) (c34 : PySem.W.codeIn K cd34 "_law_changed" = true) (k34 : PySem.W.keepIn K (.ref f34) = true)
    (a35 : PySem.W.nsIn K mainGlobals "law" = some (some (.ref f35))) (l35 : K.lookup f35 = some ⟨oc35, od35, .func (PySem.W.fnOf "law" "law" (defArgs s_law) (defBody s_law) (defScope s_law) .none kV35 dc35 pm35 an35 cd35 ct35), sl35⟩) (c35 : PySem.W.codeIn K cd35 "law" = true) (k35 : PySem.W.keepIn K (.ref f35) = true)
    (ka_DEEDS : PySem.W.nsIn K mainGlobals "DEEDS" = some (some (.ref aK_DEEDS))) (kl_DEEDS : K.lookup aK_DEEDS = some ⟨.type "tuple", dd_DEEDS, .seq its_DEEDS n_DEEDS, sl_DEEDS⟩) (kv_DEEDS : its_DEEDS.toList.map absV = ([.str "halt", .str "until", .str "clock", .str "look", .str "claim", .str "free", .str "copy", .str "drop", .str "revoke", .str "map", .str "unmap", .str "send", .str "take", .str "trysend", .str "trytake", .str "call", .str "reply", .str "ring", .str "await", .str "tryawait", .str "ack", .str "give", .str "pull"] : List V).map some)
    (ka_DIGITS : PySem.W.nsIn K mainGlobals "DIGITS" = some (some (.str "0123456789" tk_DIGITS)))
    (ka_LONGEST : PySem.W.nsIn K mainGlobals "LONGEST" = some (some (.int 4000 tk_LONGEST)))
    (ka_LONGEST_LABEL : PySem.W.nsIn K mainGlobals "LONGEST_LABEL" = some (some (.int 8 tk_LONGEST_LABEL)))
    (ka_LONGEST_NUMBER : PySem.W.nsIn K mainGlobals "LONGEST_NUMBER" = some (some (.int 7 tk_LONGEST_NUMBER)))
    (ka_REGISTERS : PySem.W.nsIn K mainGlobals "REGISTERS" = some (some (.int 8 tk_REGISTERS)))
    (ka_ROLES : PySem.W.nsIn K mainGlobals "ROLES" = some (some (.ref aK_ROLES))) (kl_ROLES : K.lookup aK_ROLES = some ⟨.type "dict", none, .dict es_ROLES n_ROLES, #[]⟩) (kk_ROLES : PySem.W.KeysLit w.params es_ROLES.toList) (kz_ROLES : (aK_ROLES == sysModules) = false) (kq_ROLES : es_ROLES.toList.map Lw.keyS = (["set", "move", "add", "sub", "load", "store", "jump", "zero", "deed"] : List Str).map some)
    (di_ROLES_set : PySem.W.nsIn K aK_ROLES "set" = some (some (.ref r_ROLES_set))) (kl_ROLES_set : K.lookup r_ROLES_set = some ⟨.type "tuple", dd_ROLES_set, .seq its_ROLES_set n_ROLES_set, sl_ROLES_set⟩) (kv_ROLES_set : its_ROLES_set.toList.map absV = ([.str "register", .str "word"] : List V).map some)
    (di_ROLES_move : PySem.W.nsIn K aK_ROLES "move" = some (some (.ref r_ROLES_move))) (kl_ROLES_move : K.lookup r_ROLES_move = some ⟨.type "tuple", dd_ROLES_move, .seq its_ROLES_move n_ROLES_move, sl_ROLES_move⟩) (kv_ROLES_move : its_ROLES_move.toList.map absV = ([.str "register", .str "register"] : List V).map some)
    (di_ROLES_add : PySem.W.nsIn K aK_ROLES "add" = some (some (.ref r_ROLES_add))) (kl_ROLES_add : K.lookup r_ROLES_add = some ⟨.type "tuple", dd_ROLES_add, .seq its_ROLES_add n_ROLES_add, sl_ROLES_add⟩) (kv_ROLES_add : its_ROLES_add.toList.map absV = ([.str "register", .str "register"] : List V).map some)
    (di_ROLES_sub : PySem.W.nsIn K aK_ROLES "sub" = some (some (.ref r_ROLES_sub))) (kl_ROLES_sub : K.lookup r_ROLES_sub = some ⟨.type "tuple", dd_ROLES_sub, .seq its_ROLES_sub n_ROLES_sub, sl_ROLES_sub⟩) (kv_ROLES_sub : its_ROLES_sub.toList.map absV = ([.str "register", .str "register"] : List V).map some)
    (di_ROLES_load : PySem.W.nsIn K aK_ROLES "load" = some (some (.ref r_ROLES_load))) (kl_ROLES_load : K.lookup r_ROLES_load = some ⟨.type "tuple", dd_ROLES_load, .seq its_ROLES_load n_ROLES_load, sl_ROLES_load⟩) (kv_ROLES_load : its_ROLES_load.toList.map absV = ([.str "register", .str "register"] : List V).map some)
    (di_ROLES_store : PySem.W.nsIn K aK_ROLES "store" = some (some (.ref r_ROLES_store))) (kl_ROLES_store : K.lookup r_ROLES_store = some ⟨.type "tuple", dd_ROLES_store, .seq its_ROLES_store n_ROLES_store, sl_ROLES_store⟩) (kv_ROLES_store : its_ROLES_store.toList.map absV = ([.str "register", .str "register"] : List V).map some)
    (di_ROLES_jump : PySem.W.nsIn K aK_ROLES "jump" = some (some (.ref r_ROLES_jump))) (kl_ROLES_jump : K.lookup r_ROLES_jump = some ⟨.type "tuple", dd_ROLES_jump, .seq its_ROLES_jump n_ROLES_jump, sl_ROLES_jump⟩) (kv_ROLES_jump : its_ROLES_jump.toList.map absV = ([.str "target"] : List V).map some)
    (di_ROLES_zero : PySem.W.nsIn K aK_ROLES "zero" = some (some (.ref r_ROLES_zero))) (kl_ROLES_zero : K.lookup r_ROLES_zero = some ⟨.type "tuple", dd_ROLES_zero, .seq its_ROLES_zero n_ROLES_zero, sl_ROLES_zero⟩) (kv_ROLES_zero : its_ROLES_zero.toList.map absV = ([.str "register", .str "target"] : List V).map some)
    (di_ROLES_deed : PySem.W.nsIn K aK_ROLES "deed" = some (some (.ref r_ROLES_deed))) (kl_ROLES_deed : K.lookup r_ROLES_deed = some ⟨.type "tuple", dd_ROLES_deed, .seq its_ROLES_deed n_ROLES_deed, sl_ROLES_deed⟩) (kv_ROLES_deed : its_ROLES_deed.toList.map absV = ([.str "deed"] : List V).map some)
    (ka_SMALL : PySem.W.nsIn K mainGlobals "SMALL" = some (some (.str "abcdefghijklmnopqrstuvwxyz" tk_SMALL)))
    (ka_WORD : PySem.W.nsIn K mainGlobals "WORD" = some (some (.int 1048576 tk_WORD)))
    (ka_CapsteadError : PySem.W.nsIn K mainGlobals "CapsteadError" = some (some (.ref cc_CapsteadError)))
    (ka_InputError : PySem.W.nsIn K mainGlobals "InputError" = some (some (.ref cc_InputError)))
    (ka_QuestionError : PySem.W.nsIn K mainGlobals "QuestionError" = some (some (.ref cc_QuestionError)))
    (ka_BadNumber : PySem.W.nsIn K mainGlobals "BadNumber" = some (some (.ref cc_BadNumber)))
    (ka_BadProgram : PySem.W.nsIn K mainGlobals "BadProgram" = some (some (.ref cc_BadProgram)))
    (ka_BadLine : PySem.W.nsIn K mainGlobals "BadLine" = some (some (.ref cc_BadLine)))
    (exL_BadLine : K.lookup cc_BadLine = some (excClassObj nm_BadLine q_BadLine cc_BadLine N_BadLine bs_BadLine bm_BadLine true sn_BadLine sub_BadLine ab_BadLine col_BadLine dd_BadLine k0_BadLine k1_BadLine k2_BadLine k3_BadLine k5_BadLine "ValueError.__new__"))
    (exV_BadLine : PySem.HandSPX.refsVE bm_BadLine = true)
    (esa_BadLine : PySem.W.findIn K (.ref cc_BadLine) "__setattr__" = some (some (.builtin "object.__setattr__")))
    (ega_BadLine : PySem.W.findIn K (.ref cc_BadLine) "__getattribute__" = some (some (.builtin "BaseException.__getattribute__")))
    (egg_BadLine : PySem.W.findIn K (.ref cc_BadLine) "__getattr__" = some none)
    (enb_BadLine : PySem.W.findIn K (.ref cc_BadLine) "line" = some none)
    (efc_BadLine : PySem.W.findIn K (.ref cc_BadLine) "__class__" = some (some (.builtin "object.__class__")))
    (eiC_BadLine : PySem.W.findIn K (.ref cc_BadLine) "__init__" = some (some (.ref ci_BadLine)))
    (etC_BadLine : PySem.W.typeIn K (.ref ci_BadLine) = some (.type "function"))
    (ekC_BadLine : PySem.W.keepIn K (.ref cc_BadLine) = true)
    (eeC_BadLine : PySem.W.subIn K (.ref cc_BadLine) (.type "BaseException") = some true)
    (eyC_BadLine : PySem.W.typeIn K (.ref cc_BadLine) = some (.type "type"))
    (ehC_BadLine : PySem.W.hasDictIn K cc_BadLine = true)
    (ejC_BadLine : PySem.W.isClsIn K cc_BadLine = true)
    (esC_BadLine : PySem.W.subIn K (.ref cc_BadLine) (.ref cc_BadLine) = some true)
    (evC_BadLine : PySem.W.subIn K (.ref cc_BadLine) (.type "ValueError") = some true)
    (eoC_BadLine : PySem.W.mroIn K cc_BadLine (.type "object") = some true)
    (emC_BadLine : PySem.W.mroIn K cc_BadLine (.ref cc_BadLine) = some true)
    (eal_BadLine : PySem.W.ks_superIn K cc_BadLine cc_BadLine "__init__" = some (some (.builtin "ValueError.__init__")))
    (el1_BadLine : K.lookup ci_BadLine = some ⟨oc_BadLine, od_BadLine, .func (PySem.W.ksFn "__init__" qu_BadLine (PySem.SupX.iA "line" p1_BadLine p2_BadLine) [PySem.SupX.iSup m_BadLine nn_BadLine a0_BadLine a1_BadLine a2_BadLine a3_BadLine a4_BadLine a5_BadLine, PySem.SupX.iSt "line" q1_BadLine q2_BadLine q3_BadLine q4_BadLine] (PySem.SupX.iS "line") .none .none doc_BadLine pm_BadLine an_BadLine (.ref da_BadLine) ct_BadLine cl_BadLine), osl_BadLine⟩)
    (ec1_BadLine : PySem.W.codeIn K (.ref da_BadLine) qu_BadLine = true)
    (ece_BadLine : K.lookup cl_BadLine = some ⟨clv_BadLine, cld_BadLine, .cell (some (.ref cc_BadLine)), csl_BadLine⟩)
    (ecd_BadLine : K.lookup da_BadLine = some ⟨ccl_BadLine, cdd_BadLine, .fields vs_BadLine, ccs_BadLine⟩)
    (evs_BadLine : vs_BadLine[2]? = some (.str fi_BadLine tf_BadLine))
    (efi_BadLine : ((l.prog.main.file : Str) == fi_BadLine) = true)
    (epl_BadLine : (a2_BadLine.endLine == a4_BadLine.line) = true)
    (ek_CapsteadError_BadLine : PySem.W.kitOne K (.ref cc_BadLine) (.ref cc_CapsteadError) = some true)
    (ek_InputError_BadLine : PySem.W.kitOne K (.ref cc_BadLine) (.ref cc_InputError) = some true)
    (ek_QuestionError_BadLine : PySem.W.kitOne K (.ref cc_BadLine) (.ref cc_QuestionError) = some false)
    (ek_BadNumber_BadLine : PySem.W.kitOne K (.ref cc_BadLine) (.ref cc_BadNumber) = some false)
    (ek_BadProgram_BadLine : PySem.W.kitOne K (.ref cc_BadLine) (.ref cc_BadProgram) = some false)
    (ek_BadLine_BadLine : PySem.W.kitOne K (.ref cc_BadLine) (.ref cc_BadLine) = some true)
    (ek_VE_BadLine : PySem.W.kitOne K (.ref cc_BadLine) (.type "ValueError") = some true)
    (e_op : PySem.W.nsIn K cStatics "thirdparty.any" = some none) (e_su : PySem.W.nsIn K mainGlobals "super" = some none) (e_top : (l.prog.main.scope.names.lookup (PySem.Str.ofString "super")).isSome = false) (e_sp : PySem.W.specialIn K (.builtin "object.__class__") "__get__" = some (some (.builtin "getset_descriptor.__get__"))) (e_tk : PySem.W.takesIn K (.builtin "object.__class__") = some true)
    (z_ValueError : PySem.W.nsIn K mainGlobals "ValueError" = some none)
    (z_abs : PySem.W.nsIn K mainGlobals "abs" = some none)
    (z_all : PySem.W.nsIn K mainGlobals "all" = some none)
    (z_bool : PySem.W.nsIn K mainGlobals "bool" = some none)
    (z_enumerate : PySem.W.nsIn K mainGlobals "enumerate" = some none)
    (z_int : PySem.W.nsIn K mainGlobals "int" = some none)
    (z_isinstance : PySem.W.nsIn K mainGlobals "isinstance" = some none)
    (z_len : PySem.W.nsIn K mainGlobals "len" = some none)
    (z_list : PySem.W.nsIn K mainGlobals "list" = some none)
    (z_min : PySem.W.nsIn K mainGlobals "min" = some none)
    (z_range : PySem.W.nsIn K mainGlobals "range" = some none)
    (z_str : PySem.W.nsIn K mainGlobals "str" = some none)
    (z_tuple : PySem.W.nsIn K mainGlobals "tuple" = some none) :
    ∃ fd : FuncData, (∀ (s : Shared) (v : Value), BindsTo s fd ⟨[v], []⟩ [("script", v)]) ∧ ∀ base : Heap, K.In base → base.Ns mainGlobals mg → FnOk l.prog w K mg base CX0 7 fa fd ["script"] (spLaw K) := by
  have e := hfa.symm.trans (PySem.W.mg_of X G a35)
  cases e
  have F0 := fun_mk (st := s_is_integer) l0 c0 k0
  have F1 := fun_mk (st := s_bound) l1 c1 k1
  have F2 := fun_mk (st := s_fits) l2 c2 k2
  have F3 := fun_mk (st := s_is_label) l3 c3 k3
  have F4 := fun_mk (st := s_label_in) l4 c4 k4
  have F5 := fun_mk (st := s_is_ignored) l5 c5 k5
  have F6 := fun_mk (st := s_number_in) l6 c6 k6
  have F7 := fun_mk (st := s_part_in) l7 c7 k7
  have F8 := fun_mk (st := s_instruction_in) l8 c8 k8
  have F9 := fun_mk (st := s_labels_given) l9 c9 k9
  have F10 := fun_mk (st := s_last_instruction) l10 c10 k10
  have F11 := fun_mk (st := s_assemble) l11 c11 k11
  have F12 := fun_mk (st := s_law_pool) l12 c12 k12
  have F13 := fun_mk (st := s_law_draw) l13 c13 k13
  have F14 := fun_mk (st := s_law_is_integer) l14 c14 k14
  have F15 := fun_mk (st := s_law_deeds) l15 c15 k15
  have F16 := fun_mk (st := s_law_signs) l16 c16 k16
  have F17 := fun_mk (st := s_law_same_row) l17 c17 k17
  have F18 := fun_mk (st := s_law_same_program) l18 c18 k18
  have F19 := fun_mk (st := s_law_label) l19 c19 k19
  have F20 := fun_mk (st := s_law_read_number) l20 c20 k20
  have F21 := fun_mk (st := s_law_is_label) l21 c21 k21
  have F22 := fun_mk (st := s_law_read_instruction) l22 c22 k22
  have F23 := fun_mk (st := s_law_form) l23 c23 k23
  have F24 := fun_mk (st := s_law_forms) l24 c24 k24
  have F25 := fun_mk (st := s_law_given) l25 c25 k25
  have F26 := fun_mk (st := s_law_due) l26 c26 k26
  have F27 := fun_mk (st := s_law_holds) l27 c27 k27
  have F28 := fun_mk (st := s_law_number_word) l28 c28 k28
  have F29 := fun_mk (st := s_law_odd_label) l29 c29 k29
  have F30 := fun_mk (st := s_law_odd_line) l30 c30 k30
  have F31 := fun_mk (st := s_law_right_line) l31 c31 k31
  have F32 := fun_mk (st := s_law_lines) l32 c32 k32
  have F33 := fun_mk (st := s_law_sign_changed) l33 c33 k33
  have F34 := fun_mk (st := s_law_changed) l34 c34 k34
  have F35 := fun_mk (st := s_law) l35 c35 k35
  have T : Tx l.prog w K mg := {
    f_is_integer := f0, fd_is_integer := _, F_is_integer := F0, b_is_integer := F0.binds (ps := ["value"]) fun _ _ _ _ _ _ us hl => match us, hl with | [_], _ => rfl, g_is_integer := PySem.W.mg_of X G a0,
    f_bound := f1, fd_bound := _, F_bound := F1, b_bound := F1.binds (ps := ["role", "length"]) fun _ _ _ _ _ _ us hl => match us, hl with | [_, _], _ => rfl, g_bound := PySem.W.mg_of X G a1,
    f_fits := f2, fd_fits := _, F_fits := F2, b_fits := F2.binds (ps := ["part", "role", "length"]) fun _ _ _ _ _ _ us hl => match us, hl with | [_, _, _], _ => rfl, g_fits := PySem.W.mg_of X G a2,
    f_is_label := f3, fd_is_label := _, F_is_label := F3, b_is_label := F3.binds (ps := ["word"]) fun _ _ _ _ _ _ us hl => match us, hl with | [_], _ => rfl, g_is_label := PySem.W.mg_of X G a3,
    f_label_in := f4, fd_label_in := _, F_label_in := F4, b_label_in := F4.binds (ps := ["line"]) fun _ _ _ _ _ _ us hl => match us, hl with | [_], _ => rfl, g_label_in := PySem.W.mg_of X G a4,
    f_is_ignored := f5, fd_is_ignored := _, F_is_ignored := F5, b_is_ignored := F5.binds (ps := ["line"]) fun _ _ _ _ _ _ us hl => match us, hl with | [_], _ => rfl, g_is_ignored := PySem.W.mg_of X G a5,
    f_number_in := f6, fd_number_in := _, F_number_in := F6, b_number_in := F6.binds (ps := ["word"]) fun _ _ _ _ _ _ us hl => match us, hl with | [_], _ => rfl, g_number_in := PySem.W.mg_of X G a6,
    f_part_in := f7, fd_part_in := _, F_part_in := F7, b_part_in := F7.binds (ps := ["word", "role", "labels"]) fun _ _ _ _ _ _ us hl => match us, hl with | [_, _, _], _ => rfl, g_part_in := PySem.W.mg_of X G a7,
    f_instruction_in := f8, fd_instruction_in := _, F_instruction_in := F8, b_instruction_in := F8.binds (ps := ["line", "labels"]) fun _ _ _ _ _ _ us hl => match us, hl with | [_, _], _ => rfl, g_instruction_in := PySem.W.mg_of X G a8,
    f_labels_given := f9, fd_labels_given := _, F_labels_given := F9, b_labels_given := F9.binds (ps := ["lines"]) fun _ _ _ _ _ _ us hl => match us, hl with | [_], _ => rfl, g_labels_given := PySem.W.mg_of X G a9,
    f_last_instruction := f10, fd_last_instruction := _, F_last_instruction := F10, b_last_instruction := F10.binds (ps := ["lines"]) fun _ _ _ _ _ _ us hl => match us, hl with | [_], _ => rfl, g_last_instruction := PySem.W.mg_of X G a10,
    f_assemble := f11, fd_assemble := _, F_assemble := F11, b_assemble := F11.binds (ps := ["text"]) fun _ _ _ _ _ _ us hl => match us, hl with | [_], _ => rfl, g_assemble := PySem.W.mg_of X G a11,
    f_law_pool := f12, fd_law_pool := _, F_law_pool := F12, b_law_pool := F12.binds (ps := ["script"]) fun _ _ _ _ _ _ us hl => match us, hl with | [_], _ => rfl, g_law_pool := PySem.W.mg_of X G a12,
    f_law_draw := f13, fd_law_draw := _, F_law_draw := F13, b_law_draw := F13.binds (ps := ["pool", "many"]) fun _ _ _ _ _ _ us hl => match us, hl with | [_, _], _ => rfl, g_law_draw := PySem.W.mg_of X G a13,
    f_law_is_integer := f14, fd_law_is_integer := _, F_law_is_integer := F14, b_law_is_integer := F14.binds (ps := ["thing"]) fun _ _ _ _ _ _ us hl => match us, hl with | [_], _ => rfl, g_law_is_integer := PySem.W.mg_of X G a14,
    f_law_deeds := f15, fd_law_deeds := _, F_law_deeds := F15, b_law_deeds := F15.binds (ps := []) fun _ _ _ _ _ _ us hl => match us, hl with | [], _ => rfl, g_law_deeds := PySem.W.mg_of X G a15,
    f_law_signs := f16, fd_law_signs := _, F_law_signs := F16, b_law_signs := F16.binds (ps := []) fun _ _ _ _ _ _ us hl => match us, hl with | [], _ => rfl, g_law_signs := PySem.W.mg_of X G a16,
    f_law_same_row := f17, fd_law_same_row := _, F_law_same_row := F17, b_law_same_row := F17.binds (ps := ["told", "due"]) fun _ _ _ _ _ _ us hl => match us, hl with | [_, _], _ => rfl, g_law_same_row := PySem.W.mg_of X G a17,
    f_law_same_program := f18, fd_law_same_program := _, F_law_same_program := F18, b_law_same_program := F18.binds (ps := ["told", "due"]) fun _ _ _ _ _ _ us hl => match us, hl with | [_, _], _ => rfl, g_law_same_program := PySem.W.mg_of X G a18,
    f_law_label := f19, fd_law_label := _, F_law_label := F19, b_law_label := F19.binds (ps := ["pool", "used"]) fun _ _ _ _ _ _ us hl => match us, hl with | [_, _], _ => rfl, g_law_label := PySem.W.mg_of X G a19,
    f_law_read_number := f20, fd_law_read_number := _, F_law_read_number := F20, b_law_read_number := F20.binds (ps := ["word", "bound"]) fun _ _ _ _ _ _ us hl => match us, hl with | [_, _], _ => rfl, g_law_read_number := PySem.W.mg_of X G a20,
    f_law_is_label := f21, fd_law_is_label := _, F_law_is_label := F21, b_law_is_label := F21.binds (ps := ["word"]) fun _ _ _ _ _ _ us hl => match us, hl with | [_], _ => rfl, g_law_is_label := PySem.W.mg_of X G a21,
    f_law_read_instruction := f22, fd_law_read_instruction := _, F_law_read_instruction := F22, b_law_read_instruction := F22.binds (ps := ["words"]) fun _ _ _ _ _ _ us hl => match us, hl with | [_], _ => rfl, g_law_read_instruction := PySem.W.mg_of X G a22,
    f_law_form := f23, fd_law_form := _, F_law_form := F23, b_law_form := F23.binds (ps := ["line"]) fun _ _ _ _ _ _ us hl => match us, hl with | [_], _ => rfl, g_law_form := PySem.W.mg_of X G a23,
    f_law_forms := f24, fd_law_forms := _, F_law_forms := F24, b_law_forms := F24.binds (ps := ["text"]) fun _ _ _ _ _ _ us hl => match us, hl with | [_], _ => rfl, g_law_forms := PySem.W.mg_of X G a24,
    f_law_given := f25, fd_law_given := _, F_law_given := F25, b_law_given := F25.binds (ps := ["forms"]) fun _ _ _ _ _ _ us hl => match us, hl with | [_], _ => rfl, g_law_given := PySem.W.mg_of X G a25,
    f_law_due := f26, fd_law_due := _, F_law_due := F26, b_law_due := F26.binds (ps := ["text"]) fun _ _ _ _ _ _ us hl => match us, hl with | [_], _ => rfl, g_law_due := PySem.W.mg_of X G a26,
    f_law_holds := f27, fd_law_holds := _, F_law_holds := F27, b_law_holds := F27.binds (ps := ["text"]) fun _ _ _ _ _ _ us hl => match us, hl with | [_], _ => rfl, g_law_holds := PySem.W.mg_of X G a27,
    f_law_number_word := f28, fd_law_number_word := _, F_law_number_word := F28, b_law_number_word := F28.binds (ps := ["pool", "bound"]) fun _ _ _ _ _ _ us hl => match us, hl with | [_, _], _ => rfl, g_law_number_word := PySem.W.mg_of X G a28,
    f_law_odd_label := f29, fd_law_odd_label := _, F_law_odd_label := F29, b_law_odd_label := F29.binds (ps := ["pool", "names"]) fun _ _ _ _ _ _ us hl => match us, hl with | [_, _], _ => rfl, g_law_odd_label := PySem.W.mg_of X G a29,
    f_law_odd_line := f30, fd_law_odd_line := _, F_law_odd_line := F30, b_law_odd_line := F30.binds (ps := ["pool", "names"]) fun _ _ _ _ _ _ us hl => match us, hl with | [_, _], _ => rfl, g_law_odd_line := PySem.W.mg_of X G a30,
    f_law_right_line := f31, fd_law_right_line := _, F_law_right_line := F31, b_law_right_line := F31.binds (ps := ["pool", "names"]) fun _ _ _ _ _ _ us hl => match us, hl with | [_, _], _ => rfl, g_law_right_line := PySem.W.mg_of X G a31,
    f_law_lines := f32, fd_law_lines := _, F_law_lines := F32, b_law_lines := F32.binds (ps := ["pool", "names"]) fun _ _ _ _ _ _ us hl => match us, hl with | [_, _], _ => rfl, g_law_lines := PySem.W.mg_of X G a32,
    f_law_sign_changed := f33, fd_law_sign_changed := _, F_law_sign_changed := F33, b_law_sign_changed := F33.binds (ps := ["pool", "text"]) fun _ _ _ _ _ _ us hl => match us, hl with | [_, _], _ => rfl, g_law_sign_changed := PySem.W.mg_of X G a33,
    f_law_changed := f34, fd_law_changed := _, F_law_changed := F34, b_law_changed := F34.binds (ps := ["pool", "lines", "names"]) fun _ _ _ _ _ _ us hl => match us, hl with | [_, _, _], _ => rfl, g_law_changed := PySem.W.mg_of X G a34,
    a_DEEDS := aK_DEEDS, g_DEEDS := PySem.W.mg_of X G ka_DEEDS, q_DEEDS := fun H => sqt_k kl_DEEDS kv_DEEDS (by decide) H,
    t_DIGITS := tk_DIGITS, g_DIGITS := PySem.W.mg_of X G ka_DIGITS,
    t_LONGEST := tk_LONGEST, g_LONGEST := PySem.W.mg_of X G ka_LONGEST,
    t_LONGEST_LABEL := tk_LONGEST_LABEL, g_LONGEST_LABEL := PySem.W.mg_of X G ka_LONGEST_LABEL,
    t_LONGEST_NUMBER := tk_LONGEST_NUMBER, g_LONGEST_NUMBER := PySem.W.mg_of X G ka_LONGEST_NUMBER,
    t_REGISTERS := tk_REGISTERS, g_REGISTERS := PySem.W.mg_of X G ka_REGISTERS,
    a_ROLES := aK_ROLES, es_ROLES := es_ROLES, n_ROLES := n_ROLES, g_ROLES := PySem.W.mg_of X G ka_ROLES, D_ROLES := ⟨kl_ROLES, kk_ROLES, kz_ROLES⟩, x_ROLES := fun z hz => Lw.ns_miss kl_ROLES kq_ROLES hz, r_ROLES_set := r_ROLES_set, i_ROLES_set := di_ROLES_set, q_ROLES_set := fun H => sqt_k kl_ROLES_set kv_ROLES_set (by decide) H, r_ROLES_move := r_ROLES_move, i_ROLES_move := di_ROLES_move, q_ROLES_move := fun H => sqt_k kl_ROLES_move kv_ROLES_move (by decide) H, r_ROLES_add := r_ROLES_add, i_ROLES_add := di_ROLES_add, q_ROLES_add := fun H => sqt_k kl_ROLES_add kv_ROLES_add (by decide) H, r_ROLES_sub := r_ROLES_sub, i_ROLES_sub := di_ROLES_sub, q_ROLES_sub := fun H => sqt_k kl_ROLES_sub kv_ROLES_sub (by decide) H, r_ROLES_load := r_ROLES_load, i_ROLES_load := di_ROLES_load, q_ROLES_load := fun H => sqt_k kl_ROLES_load kv_ROLES_load (by decide) H, r_ROLES_store := r_ROLES_store, i_ROLES_store := di_ROLES_store, q_ROLES_store := fun H => sqt_k kl_ROLES_store kv_ROLES_store (by decide) H, r_ROLES_jump := r_ROLES_jump, i_ROLES_jump := di_ROLES_jump, q_ROLES_jump := fun H => sqt_k kl_ROLES_jump kv_ROLES_jump (by decide) H, r_ROLES_zero := r_ROLES_zero, i_ROLES_zero := di_ROLES_zero, q_ROLES_zero := fun H => sqt_k kl_ROLES_zero kv_ROLES_zero (by decide) H, r_ROLES_deed := r_ROLES_deed, i_ROLES_deed := di_ROLES_deed, q_ROLES_deed := fun H => sqt_k kl_ROLES_deed kv_ROLES_deed (by decide) H,
    t_SMALL := tk_SMALL, g_SMALL := PySem.W.mg_of X G ka_SMALL,
    t_WORD := tk_WORD, g_WORD := PySem.W.mg_of X G ka_WORD,
    c_CapsteadError := cc_CapsteadError, gc_CapsteadError := PySem.W.mg_of X G ka_CapsteadError,
    c_InputError := cc_InputError, gc_InputError := PySem.W.mg_of X G ka_InputError,
    c_QuestionError := cc_QuestionError, gc_QuestionError := PySem.W.mg_of X G ka_QuestionError,
    c_BadNumber := cc_BadNumber, gc_BadNumber := PySem.W.mg_of X G ka_BadNumber,
    c_BadProgram := cc_BadProgram, gc_BadProgram := PySem.W.mg_of X G ka_BadProgram,
    c_BadLine := cc_BadLine, gc_BadLine := PySem.W.mg_of X G ka_BadLine,
    i_BadLine := ci_BadLine, S_BadLine := ⟨PySem.W.mg_of X G ka_BadLine, ⟨by decide, by decide, by decide, by decide, by decide⟩, ⟨nm_BadLine, q_BadLine, N_BadLine, bs_BadLine, bm_BadLine, sn_BadLine, sub_BadLine, ab_BadLine, col_BadLine, dd_BadLine, k0_BadLine, k1_BadLine, k2_BadLine, k3_BadLine, k5_BadLine, exL_BadLine, exV_BadLine⟩, esa_BadLine, ega_BadLine, egg_BadLine, enb_BadLine, eiC_BadLine, etC_BadLine, ekC_BadLine, eeC_BadLine, eyC_BadLine, ehC_BadLine, e_op, eal_BadLine, evC_BadLine, emC_BadLine, e_su, e_top, ⟨_, _, _, _, _, _, _, _, _, _, _, _, _, _, _, _, _, _, _, _, _, _, _, _, el1_BadLine, ec1_BadLine, epl_BadLine, fun s u v => .of_eq rfl, ⟨_, _, _, ece_BadLine⟩, ⟨_, _, _, _, _, _, ecd_BadLine, evs_BadLine, efi_BadLine⟩⟩⟩,
    I_BadLine := ⟨ejC_BadLine, ega_BadLine, egg_BadLine, eeC_BadLine, efc_BadLine, e_sp, e_tk, eoC_BadLine⟩, m_BadLine := Lw.exm_own eeC_BadLine ejC_BadLine eyC_BadLine esC_BadLine,
    k_BadLine_CapsteadError := ek_CapsteadError_BadLine,
    k_BadLine_InputError := ek_InputError_BadLine,
    k_BadLine_QuestionError := ek_QuestionError_BadLine,
    k_BadLine_BadNumber := ek_BadNumber_BadLine,
    k_BadLine_BadProgram := ek_BadProgram_BadLine,
    k_BadLine_BadLine := ek_BadLine_BadLine,
    k_BadLine_ValueError := ek_VE_BadLine,
    n_ValueError := PySem.W.mg_none_of X G z_ValueError,
    n_abs := PySem.W.mg_none_of X G z_abs,
    n_all := PySem.W.mg_none_of X G z_all,
    n_bool := PySem.W.mg_none_of X G z_bool,
    n_enumerate := PySem.W.mg_none_of X G z_enumerate,
    n_int := PySem.W.mg_none_of X G z_int,
    n_isinstance := PySem.W.mg_none_of X G z_isinstance,
    n_len := PySem.W.mg_none_of X G z_len,
    n_list := PySem.W.mg_none_of X G z_list,
    n_min := PySem.W.mg_none_of X G z_min,
    n_range := PySem.W.mg_none_of X G z_range,
    n_str := PySem.W.mg_none_of X G z_str,
    n_tuple := PySem.W.mg_none_of X G z_tuple }
  exact ⟨PySem.W.fnOf "law" "law" (defArgs s_law) (defBody s_law) (defScope s_law) .none kV35 dc35 pm35 an35 cd35 ct35, fun s v => .of_eq rfl, fun base _ _ => ok_law_at T F35⟩
end K03

open PySem PySem.W PyProof.Rows in
set_option maxRecDepth 100000 in
set_option maxHeartbeats 0 in
theorem PySem.Challenge.cw_capstead_k03_assemble_first_fault_holds : PySem.Challenge.rw_capstead_k03_assemble_first_fault.Holds := by
  w_on; o_law; k_head; (case hw => w_witness2)
  k_fill
  refine L2.walk_ofK (l := PySem.Challenge.rw_capstead_k03_assemble_first_fault) (n := 63) (k := 7) (x := "script") (CX := L2.CX0) (sp := K03.spLaw) rfl (by decide) rfl ⟨rfl, by decide, by decide⟩ (fun w h Y => PySem.W.kIn_of Y) ?F (fun _ _ a ns hl _ hS => ⟨a, ns, rfl, hS, hl, fun _ => rfl⟩) fun _ _ _ _ z => z
  case F =>
    intro w mg fa h KX G hmg
    refine' K03.all_mk KX G hmg ?a0 ?l0 ?c0 ?k0 ?a1 ?l1 ?c1 ?k1 ?a2 ?l2 ?c2 ?k2 ?a3 ?l3 ?c3 ?k3 ?a4 ?l4 ?c4 ?k4 ?a5 ?l5 ?c5 ?k5 ?a6 ?l6 ?c6 ?k6 ?a7 ?l7 ?c7 ?k7 ?a8 ?l8 ?c8 ?k8 ?a9 ?l9 ?c9 ?k9 ?a10 ?l10 ?c10 ?k10 ?a11 ?l11 ?c11 ?k11 ?a12 ?l12 ?c12 ?k12 ?a13 ?l13 ?c13 ?k13 ?a14 ?l14 ?c14 ?k14 ?a15 ?l15 ?c15 ?k15 ?a16 ?l16 ?c16 ?k16 ?a17 ?l17 ?c17 ?k17 ?a18 ?l18 ?c18 ?k18 ?a19 ?l19 ?c19 ?k19 ?a20 ?l20 ?c20 ?k20 ?a21 ?l21 ?c21 ?k21 ?a22 ?l22 ?c22 ?k22 ?a23 ?l23 ?c23 ?k23 ?a24 ?l24 ?c24 ?k24 ?a25 ?l25 ?c25 ?k25 ?a26 ?l26 ?c26 ?k26 ?a27 ?l27 ?c27 ?k27 ?a28 ?l28 ?c28 ?k28 ?a29 ?l29 ?c29 ?k29 ?a30 ?l30 ?c30 ?k30 ?a31 ?l31 ?c31 ?k31 ?a32 ?l32 ?c32 ?k32 ?a33 ?l33 ?c33 ?k33 ?a34 ?l34 ?c34 ?k34 ?a35 ?l35 ?c35 ?k35 ?ka_DEEDS ?kl_DEEDS ?kv_DEEDS ?ka_DIGITS ?ka_LONGEST ?ka_LONGEST_LABEL ?ka_LONGEST_NUMBER ?ka_REGISTERS ?ka_ROLES ?kl_ROLES ?kk_ROLES ?kz_ROLES ?kq_ROLES ?di_ROLES_set ?kl_ROLES_set ?kv_ROLES_set ?di_ROLES_move ?kl_ROLES_move ?kv_ROLES_move ?di_ROLES_add ?kl_ROLES_add ?kv_ROLES_add ?di_ROLES_sub ?kl_ROLES_sub ?kv_ROLES_sub ?di_ROLES_load ?kl_ROLES_load ?kv_ROLES_load ?di_ROLES_store ?kl_ROLES_store ?kv_ROLES_store ?di_ROLES_jump ?kl_ROLES_jump ?kv_ROLES_jump ?di_ROLES_zero ?kl_ROLES_zero ?kv_ROLES_zero ?di_ROLES_deed ?kl_ROLES_deed ?kv_ROLES_deed ?ka_SMALL ?ka_WORD ?ka_CapsteadError ?ka_InputError ?ka_QuestionError ?ka_BadNumber ?ka_BadProgram ?ka_BadLine ?exL_BadLine ?exV_BadLine ?esa_BadLine ?ega_BadLine ?egg_BadLine ?enb_BadLine ?efc_BadLine ?eiC_BadLine ?etC_BadLine ?ekC_BadLine ?eeC_BadLine ?eyC_BadLine ?ehC_BadLine ?ejC_BadLine ?esC_BadLine ?evC_BadLine ?eoC_BadLine ?emC_BadLine ?eal_BadLine ?el1_BadLine ?ec1_BadLine ?ece_BadLine ?ecd_BadLine ?evs_BadLine ?efi_BadLine ?epl_BadLine ?ek_CapsteadError_BadLine ?ek_InputError_BadLine ?ek_QuestionError_BadLine ?ek_BadNumber_BadLine ?ek_BadProgram_BadLine ?ek_BadLine_BadLine ?ek_VE_BadLine ?e_op ?e_su ?e_top ?e_sp ?e_tk ?z_ValueError ?z_abs ?z_all ?z_bool ?z_enumerate ?z_int ?z_isinstance ?z_len ?z_list ?z_min ?z_range ?z_str ?z_tuple
    (case a0 => k_is)
    (case l0 => k_is)
    (case c0 => k_is)
    (case k0 => k_is)
    (case a1 => k_is)
    (case l1 => k_is)
    (case c1 => k_is)
    (case k1 => k_is)
    (case a2 => k_is)
    (case l2 => k_is)
    (case c2 => k_is)
    (case k2 => k_is)
    (case a3 => k_is)
    (case l3 => k_is)
    (case c3 => k_is)
    (case k3 => k_is)
    (case a4 => k_is)
    (case l4 => k_is)
    (case c4 => k_is)
    (case k4 => k_is)
    (case a5 => k_is)
    (case l5 => k_is)
    (case c5 => k_is)
    (case k5 => k_is)
    (case a6 => k_is)
    (case l6 => k_is)
    (case c6 => k_is)
    (case k6 => k_is)
    (case a7 => k_is)
    (case l7 => k_is)
    (case c7 => k_is)
    (case k7 => k_is)
    (case a8 => k_is)
    (case l8 => k_is)
    (case c8 => k_is)
    (case k8 => k_is)
    (case a9 => k_is)
    (case l9 => k_is)
    (case c9 => k_is)
    (case k9 => k_is)
    (case a10 => k_is)
    (case l10 => k_is)
    (case c10 => k_is)
    (case k10 => k_is)
    (case a11 => k_is)
    (case l11 => k_is)
    (case c11 => k_is)
    (case k11 => k_is)
    (case a12 => k_is)
    (case l12 => k_is)
    (case c12 => k_is)
    (case k12 => k_is)
    (case a13 => k_is)
    (case l13 => k_is)
    (case c13 => k_is)
    (case k13 => k_is)
    (case a14 => k_is)
    (case l14 => k_is)
    (case c14 => k_is)
    (case k14 => k_is)
    (case a15 => k_is)
    (case l15 => k_is)
    (case c15 => k_is)
    (case k15 => k_is)
    (case a16 => k_is)
    (case l16 => k_is)
    (case c16 => k_is)
    (case k16 => k_is)
    (case a17 => k_is)
    (case l17 => k_is)
    (case c17 => k_is)
    (case k17 => k_is)
    (case a18 => k_is)
    (case l18 => k_is)
    (case c18 => k_is)
    (case k18 => k_is)
    (case a19 => k_is)
    (case l19 => k_is)
    (case c19 => k_is)
    (case k19 => k_is)
    (case a20 => k_is)
    (case l20 => k_is)
    (case c20 => k_is)
    (case k20 => k_is)
    (case a21 => k_is)
    (case l21 => k_is)
    (case c21 => k_is)
    (case k21 => k_is)
    (case a22 => k_is)
    (case l22 => k_is)
    (case c22 => k_is)
    (case k22 => k_is)
    (case a23 => k_is)
    (case l23 => k_is)
    (case c23 => k_is)
    (case k23 => k_is)
    (case a24 => k_is)
    (case l24 => k_is)
    (case c24 => k_is)
    (case k24 => k_is)
    (case a25 => k_is)
    (case l25 => k_is)
    (case c25 => k_is)
    (case k25 => k_is)
    (case a26 => k_is)
    (case l26 => k_is)
    (case c26 => k_is)
    (case k26 => k_is)
    (case a27 => k_is)
    (case l27 => k_is)
    (case c27 => k_is)
    (case k27 => k_is)
    (case a28 => k_is)
    (case l28 => k_is)
    (case c28 => k_is)
    (case k28 => k_is)
    (case a29 => k_is)
    (case l29 => k_is)
    (case c29 => k_is)
    (case k29 => k_is)
    (case a30 => k_is)
    (case l30 => k_is)
    (case c30 => k_is)
    (case k30 => k_is)
    (case a31 => k_is)
    (case l31 => k_is)
    (case c31 => k_is)
    (case k31 => k_is)
    (case a32 => k_is)
    (case l32 => k_is)
    (case c32 => k_is)
    (case k32 => k_is)
    (case a33 => k_is)
    (case l33 => k_is)
    (case c33 => k_is)
    (case k33 => k_is)
    (case a34 => k_is)
    (case l34 => k_is)
    (case c34 => k_is)
    (case k34 => k_is)
    (case a35 => k_is)
    (case l35 => k_is)
    (case c35 => k_is)
    (case k35 => k_is)
    (case ka_DEEDS => k_is)
    (case kl_DEEDS => k_is)
    (case kv_DEEDS => decide +kernel)
    (case ka_DIGITS => k_is)
    (case ka_LONGEST => k_is)
    (case ka_LONGEST_LABEL => k_is)
    (case ka_LONGEST_NUMBER => k_is)
    (case ka_REGISTERS => k_is)
    (case ka_ROLES => k_is)
    (case kl_ROLES => k_is)
    (case kk_ROLES => exact ⟨⟨_, _, rfl, rfl⟩, ⟨⟨_, _, rfl, rfl⟩, ⟨⟨_, _, rfl, rfl⟩, ⟨⟨_, _, rfl, rfl⟩, ⟨⟨_, _, rfl, rfl⟩, ⟨⟨_, _, rfl, rfl⟩, ⟨⟨_, _, rfl, rfl⟩, ⟨⟨_, _, rfl, rfl⟩, ⟨⟨_, _, rfl, rfl⟩, trivial⟩⟩⟩⟩⟩⟩⟩⟩⟩)
    (case kz_ROLES => decide +kernel)
    (case kq_ROLES => rfl)
    (case di_ROLES_set => k_is)
    (case kl_ROLES_set => k_is)
    (case kv_ROLES_set => decide +kernel)
    (case di_ROLES_move => k_is)
    (case kl_ROLES_move => k_is)
    (case kv_ROLES_move => decide +kernel)
    (case di_ROLES_add => k_is)
    (case kl_ROLES_add => k_is)
    (case kv_ROLES_add => decide +kernel)
    (case di_ROLES_sub => k_is)
    (case kl_ROLES_sub => k_is)
    (case kv_ROLES_sub => decide +kernel)
    (case di_ROLES_load => k_is)
    (case kl_ROLES_load => k_is)
    (case kv_ROLES_load => decide +kernel)
    (case di_ROLES_store => k_is)
    (case kl_ROLES_store => k_is)
    (case kv_ROLES_store => decide +kernel)
    (case di_ROLES_jump => k_is)
    (case kl_ROLES_jump => k_is)
    (case kv_ROLES_jump => decide +kernel)
    (case di_ROLES_zero => k_is)
    (case kl_ROLES_zero => k_is)
    (case kv_ROLES_zero => decide +kernel)
    (case di_ROLES_deed => k_is)
    (case kl_ROLES_deed => k_is)
    (case kv_ROLES_deed => decide +kernel)
    (case ka_SMALL => k_is)
    (case ka_WORD => k_is)
    (case ka_CapsteadError => k_is)
    (case ka_InputError => k_is)
    (case ka_QuestionError => k_is)
    (case ka_BadNumber => k_is)
    (case ka_BadProgram => k_is)
    (case ka_BadLine => k_is)
    (case exL_BadLine => k_is)
    (case exV_BadLine => decide +kernel)
    (case esa_BadLine => k_is)
    (case ega_BadLine => k_is)
    (case egg_BadLine => k_is)
    (case enb_BadLine => k_is)
    (case efc_BadLine => k_is)
    (case eiC_BadLine => k_is)
    (case etC_BadLine => k_is)
    (case ekC_BadLine => k_is)
    (case eeC_BadLine => k_is)
    (case eyC_BadLine => k_is)
    (case ehC_BadLine => k_is)
    (case ejC_BadLine => k_is)
    (case esC_BadLine => kernel_rfl)
    (case evC_BadLine => k_is)
    (case eoC_BadLine => k_is)
    (case emC_BadLine => k_is)
    (case eal_BadLine => kernel_rfl)
    (case el1_BadLine => k_is)
    (case ec1_BadLine => k_is)
    (case ece_BadLine => k_is)
    (case ecd_BadLine => k_is)
    (case evs_BadLine => rfl)
    (case efi_BadLine => decide +kernel)
    (case epl_BadLine => rfl)
    (case ek_CapsteadError_BadLine => kernel_rfl)
    (case ek_InputError_BadLine => kernel_rfl)
    (case ek_QuestionError_BadLine => kernel_rfl)
    (case ek_BadNumber_BadLine => kernel_rfl)
    (case ek_BadProgram_BadLine => kernel_rfl)
    (case ek_BadLine_BadLine => kernel_rfl)
    (case ek_VE_BadLine => kernel_rfl)
    (case e_op => k_is)
    (case e_su => k_is)
    (case e_top => decide +kernel)
    (case e_sp => k_is)
    (case e_tk => k_is)
    (case z_ValueError => k_is)
    (case z_abs => k_is)
    (case z_all => k_is)
    (case z_bool => k_is)
    (case z_enumerate => k_is)
    (case z_int => k_is)
    (case z_isinstance => k_is)
    (case z_len => k_is)
    (case z_list => k_is)
    (case z_min => k_is)
    (case z_range => k_is)
    (case z_str => k_is)
    (case z_tuple => k_is)

