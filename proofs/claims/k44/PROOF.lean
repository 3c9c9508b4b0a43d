import PyProof.Rows.All
import Wide.All
import OpenK.AllK
import Wide.FinOn
import HandS.ForMost
import HandS.IsInst
import HandS.Walk
import HandS.More
import HandS.SetKeys
import HandS.RaiseMore
import HandS.SortKw
import HandS.Exc
import KE.GoesEnumKw
import HandS.ExcOwn
import HandS.TryOnly
import HandS.WordsExc
import HandS.ExcInit
import HandS.ExcIs
import HandS.ExcSuper
import KE.KExcSuper
import KE.KSuper
import KE.KExcIs
import HandS.ExcField
import HandS.FStr
import HandS.HotCalls
import HandS.Iter
import PyProof.StrOps2
import HandS.NoneIn
import HandS.MakeKwOnly
import HandS.SortInts
import HandS.RaiseFrom
import HandS.Style
import HandS.Deep
import HandS.SlotsOwn
import HandS.Comp
import HandS.Wide
import HandS.Conv
import HandS.TupAny
import PySem.Challenge.RW_capstead_k44_whole_closed_and_gap
set_option Elab.async false
set_option linter.all false
set_option maxRecDepth 100000
set_option maxHeartbeats 4000000
/-! Lw: forward reading over the hand layer. A world W: the objects that a law's drawing pool owns, and what holds of them; everything else stands (Ex). -/
namespace Lw
open PySem L2

/-- what is owned (its content may change in calls), what holds of it -/
structure Wd where
  own : Hp → Addr → Prop
  iv : Hp → Prop
  trk : ∀ {H : Hp} {a : Addr}, iv H → own H a → ∃ o, H a = some o
  loc : ∀ {H H' : Hp}, iv H → (∀ a, own H a → H' a = H a) → iv H' ∧ ∀ a, own H' a → own H a

/-- nothing is owned -/
def W0 : Wd := ⟨fun _ _ => False, fun _ => True, fun _ h => h.elim, fun _ _ => ⟨trivial, fun _ h => h⟩⟩

def At (W : Wd) (H : Hp) (a : Addr) (o : HO) : Prop := H a = some o ∧ ¬ W.own H a
structure Ex (W : Wd) (H H' : Hp) : Prop where
  i0 : W.iv H
  iv : W.iv H'
  at_ : ∀ {a : Addr} {o : HO}, At W H a o → At W H' a o
  tr : ∀ {a : Addr} {o : HO}, H a = some o → ∃ o', H' a = some o'

section
variable {W : Wd} {H H1 H2 H' : Hp} {a p l : Addr} {o u : HO} {xs : List V} {K : PySem.W.Frag}
theorem Ex.refl (i : W.iv H) : Ex W H H := ⟨i, i, fun h => h, fun h => ⟨_, h⟩⟩
theorem Ex.trans (a : Ex W H H1) (b : Ex W H1 H2) : Ex W H H2 := ⟨a.i0, b.iv, fun h => b.at_ (a.at_ h), fun h => let ⟨_, q⟩ := a.tr h; b.tr q⟩
theorem Ex.fresh (e : Ex W H H') (i : H' p = none) : H p = none := by
  cases q : H p with
  | none => rfl
  | some u =>
    obtain ⟨_, z⟩ := e.tr q
    rw [i] at z; cases z
theorem own_ne (i : W.iv H) (h : H p = none) : ¬ W.own H p := fun q => by
  obtain ⟨o, e⟩ := W.trk i q
  rw [h] at e; cases e
/-- what is not owned changes -/
theorem loc_upd (i : W.iv H) (h : ¬ W.own H p) : W.iv (upd H p o) ∧ ∀ a, W.own (upd H p o) a → W.own H a :=
  W.loc i fun a ha => upd_ne fun e => h (e ▸ ha)
theorem Ex.new (i : W.iv H) (h : H p = none) : Ex W H (upd H p o) := by
  have l := loc_upd (o := o) i (own_ne i h)
  refine ⟨i, l.1, fun {b u} hb => ⟨?_, fun q => hb.2 (l.2 _ q)⟩, fun {b u} hb => ⟨u, ?_⟩⟩
  · rw [upd_ne (ne_of_none hb.1 h)]; exact hb.1
  · rw [upd_ne (ne_of_none hb h)]; exact hb
theorem At.new (i : W.iv H) (h : H p = none) : At W (upd H p o) p o := ⟨upd_same, fun q => own_ne i h ((loc_upd i (own_ne i h)).2 _ q)⟩
/-- a local object (unknown at H) changes -/
theorem Ex.mut (e : Ex W H H1) (h : H p = none) (ha : At W H1 p u) : Ex W H (upd H1 p o) := by
  have l := loc_upd (o := o) e.iv ha.2
  refine ⟨e.i0, l.1, fun {b v} hb => ⟨?_, fun q => (e.at_ hb).2 (l.2 _ q)⟩, fun {b v} hb => ?_⟩
  · rw [upd_ne (ne_of_none hb.1 h)]; exact (e.at_ hb).1
  · rw [upd_ne (ne_of_none hb h)]; exact e.tr hb
theorem At.mut (e : W.iv H1) (ha : At W H1 p u) : At W (upd H1 p o) p o := ⟨upd_same, fun q => ha.2 ((loc_upd e ha.2).2 _ q)⟩
theorem At.other {v : HO} (e : W.iv H1) (ha : At W H1 p u) (hb : At W H1 a o) (ne : a ≠ p) : At W (upd H1 p v) a o := ⟨by rw [upd_ne ne]; exact hb.1, fun q => hb.2 ((loc_upd e ha.2).2 _ q)⟩
theorem At.sl (h : At W H a (.lst xs)) : SqL K H a xs := SqL.of h.1
theorem At.raw (h : At W H a o) : H a = some o := h.1
theorem At.st (h : At W H a (.tup xs)) : SqT K H a xs := SqT.of h.1
theorem At.ne_fresh (h : At W H a o) (f : H p = none) : a ≠ p := ne_of_none h.1 f
theorem At.ne (h : At W H a o) (h' : At W H p u) (d : o ≠ u) : a ≠ p := ne_of h.1 h'.1 d
theorem At.uniq (h : At W H a o) (h' : At W H a u) : o = u := Option.some.inj (h.1.symm.trans h'.1)

/-! ### new objects, behind a reading -/
theorem new_of {Q : VK} (i : W.iv H) (k : ∀ p H2, H p = none → Ex W H H2 → At W H2 p o → Q (.ref p) H2) : ∀ p, H p = none → Q (.ref p) (upd H p o) :=
  fun p hp => k p _ hp (Ex.new i hp) (At.new i hp)
theorem lst_of {Q : VK} {n : Nat} (i : W.iv H) (hn : n ≤ 1000000) (k : ∀ p H2, H p = none → Ex W H H2 → At W H2 p o → Q (.ref p) H2) : n ≤ sizeLine ∧ ∀ p, H p = none → Q (.ref p) (upd H p o) :=
  ⟨Nat.le_trans hn (by decide), new_of i k⟩
theorem sz_le {n : Nat} (h : n ≤ 1000000) : n ≤ sizeLine := Nat.le_trans h (by decide)
theorem sz_lt {n : Nat} (h : n < 1000000) : n < sizeLine := Nat.lt_of_lt_of_le h (by decide)

/-! ### tests -/
theorem ifD {c A B : Prop} [Decidable c] (h1 : c → A) (h2 : ¬ c → B) : if decide c = true then A else B := by
  by_cases h : c
  · rw [decide_eq_true h, if_pos rfl]; exact h1 h
  · rw [decide_eq_false h, if_neg Bool.false_ne_true]; exact h2 h
theorem ifN {c A B : Prop} [Decidable c] (h1 : ¬ c → A) (h2 : c → B) : if (!decide c) = true then A else B := by
  by_cases h : c
  · rw [decide_eq_true h]; exact iteF (h2 h)
  · rw [decide_eq_false h]; exact iteT (h1 h)
theorem ifB {b : Bool} {A B : Prop} (h1 : b = true → A) (h2 : b = false → B) : if b = true then A else B := by
  cases b with
  | true => exact iteT (h1 rfl)
  | false => exact iteF (h2 rfl)
theorem ifNB {b : Bool} {A B : Prop} (h1 : b = false → A) (h2 : b = true → B) : if (!b) = true then A else B := by
  cases b with
  | true => exact iteF (h2 rfl)
  | false => exact iteT (h1 rfl)
theorem dVI {i j : Int} : decide (V.int i = V.int j) = decide (i = j) := by rw [dec_int, Bool.beq_eq_decide_eq]
theorem dVS {i j : Str} : decide (V.str i = V.str j) = decide (i = j) := by rw [dec_str, Bool.beq_eq_decide_eq]
theorem dVB {i j : Bool} : decide (V.bl i = V.bl j) = decide (i = j) := by rw [dec_bl, Bool.beq_eq_decide_eq]
theorem ifI {i j : Int} {A B : Prop} (h1 : i = j → A) (h2 : i ≠ j → B) : if decide (V.int i = V.int j) = true then A else B := by rw [dVI]; exact ifD h1 h2
theorem ifIn {i j : Int} {A B : Prop} (h1 : i ≠ j → A) (h2 : i = j → B) : if (!decide (V.int i = V.int j)) = true then A else B := by rw [dVI]; exact ifN h1 h2
theorem ifS {i j : Str} {A B : Prop} (h1 : i = j → A) (h2 : i ≠ j → B) : if decide (V.str i = V.str j) = true then A else B := by rw [dVS]; exact ifD h1 h2
theorem ifSn {i j : Str} {A B : Prop} (h1 : i ≠ j → A) (h2 : i = j → B) : if (!decide (V.str i = V.str j)) = true then A else B := by rw [dVS]; exact ifN h1 h2

/-! ### a list comprehension over a list: each item's value, by a word that only grows -/
/-- of each item of xs there is one of ys -/
inductive All2 (R : V → V → Prop) : List V → List V → Prop
  | nil : All2 R [] []
  | cons {x y : V} {xs ys : List V} : R x y → All2 R xs ys → All2 R (x :: xs) (y :: ys)
theorem All2.length {R : V → V → Prop} : ∀ {xs ys : List V}, All2 R xs ys → ys.length = xs.length
  | _, _, .nil => rfl
  | _, _, .cons _ t => by rw [List.length_cons, List.length_cons, t.length]
theorem All2.mono {R S : V → V → Prop} (f : ∀ x y, R x y → S x y) : ∀ {xs ys : List V}, All2 R xs ys → All2 S xs ys
  | _, _, .nil => .nil
  | _, _, .cons r t => .cons (f _ _ r) (t.mono f)
theorem All2.snoc {R : V → V → Prop} {x y : V} : ∀ {xs ys : List V}, All2 R xs ys → R x y → All2 R (xs ++ [x]) (ys ++ [y])
  | _, _, .nil, r => .cons r .nil
  | _, _, .cons q t, r => .cons q (t.snoc r)
end

/-! ### written tuples -/
theorem rel_abs : ∀ {u : Value} {x : V}, absV u = some x → RelV x u
  | .none, x, h => by cases h; rfl
  | .bool b, x, h => by cases h; rfl
  | .int i t, x, h => by cases h; exact ⟨t, rfl⟩
  | .str y t, x, h => by cases h; exact ⟨t, rfl⟩
  | .bytes b t, x, h => by cases h; exact ⟨t, rfl⟩
  | .float b t, x, h => by cases h; exact ⟨t, rfl⟩
  | .ref a, x, h => by cases h; rfl
  | .type n, x, h => by cases h; rfl
theorem vals_abs : ∀ {its : List Value} {xs : List V}, its.map absV = xs.map some → Vals xs its
  | [], [], _ => .nil
  | u :: us, x :: xs, h => by
    rw [List.map_cons, List.map_cons] at h
    injection h with h1 h2
    exact .cons (rel_abs h1) (vals_abs h2)
theorem sqt_k {K : PySem.W.Frag} {a : Addr} {its : Array Value} {n : Nat} {dd : Option Addr} {sl : Array (Option Value)} {xs : List V} (l : K.lookup a = some ⟨.type "tuple", dd, .seq its n, sl⟩) (h : its.toList.map absV = xs.map some) (hz : xs.length ≤ 1000) (H : Hp) : SqT K H a xs := by
  refine .inr ⟨_, its, n, l, rfl, rfl, ?_, vals_abs h⟩
  have e := (vals_abs h).length
  have el : its.toList.length = its.size := by simp
  exact Nat.le_trans (by omega) (by decide : 1000 ≤ sizeLine)

/-! ### the rules of built-ins under names -/
section
variable {X : Cx}
def rLen (K : PySem.W.Frag) : List V → Hp → VK → Prop := fun xs H Q => ∃ p ys, xs = [.ref p] ∧ (SqL K H p ys ∨ SqT K H p ys) ∧ Q (.int ys.length) H
theorem c_len : CallR X (.builtin "len") (rLen X.K) := call_len_seq
def rLenStr : List V → Hp → VK → Prop := fun xs H Q => ∃ z, xs = [.str z] ∧ z.length ≤ sizeLine ∧ Q (.int z.length) H
theorem c_lens : CallR X (.builtin "len") rLenStr := call_len_str
def rInt : List V → Hp → VK → Prop := fun xs H Q => (∃ i, xs = [.int i] ∧ Q (.int i) H) ∨ ∃ k, xs = [.bl k] ∧ Q (.int (if k then 1 else 0)) H
theorem c_int : CallR X (.type "int") rInt := call_int1
def rAbs : List V → Hp → VK → Prop := fun xs H Q => ∃ i, xs = [.int i] ∧ Q (.int (if i < 0 then -i else i)) H
theorem c_abs : CallR X (.builtin "abs") rAbs := call_abs
def rMax2 : List V → Hp → VK → Prop := fun xs H Q => ∃ i j, xs = [.int i, .int j] ∧ Q (.int (if j > i then j else i)) H
theorem c_max2 (hc : X.calm = true) : CallR X (.builtin "max") rMax2 := call_max2 hc
def rMin2 : List V → Hp → VK → Prop := fun xs H Q => ∃ i j, xs = [.int i, .int j] ∧ Q (.int (if j < i then j else i)) H
theorem c_min2 (hc : X.calm = true) : CallR X (.builtin "min") rMin2 := call_min2 hc
def rStrI : List V → Hp → VK → Prop := fun xs H Q => ∃ i, xs = [.int i] ∧ i.natAbs.log2 < 1920 ∧ Q (.str (toString i)) H
theorem c_strI : CallR X (.type "str") rStrI := call_str_int
def rListO (K : PySem.W.Frag) : List V → Hp → VK → Prop := fun xs H Q => ∃ p ys, xs = [.ref p] ∧ (SqL K H p ys ∨ SqT K H p ys) ∧ ∀ l, H l = none → Q (.ref l) (upd H l (.lst ys))
theorem c_list : CallR X (.type "list") (rListO X.K) := call_list_of
def rTupO (K : PySem.W.Frag) : List V → Hp → VK → Prop := fun xs H Q => ∃ p ys, xs = [.ref p] ∧ ((SqL K H p ys ∧ ∀ l, H l = none → Q (.ref l) (upd H l (.tup ys))) ∨ (SqT K H p ys ∧ Q (.ref p) H))
theorem c_tuple : CallR X (.type "tuple") (rTupO X.K) := call_tuple_of
def rAddS2 : R2 := fun x y H Q => ∃ i j, x = .str i ∧ y = .str j ∧ i.length + j.length ≤ sizeLine ∧ Q (.str (i ++ j)) H
theorem o_adds : OpR X (binaryOp .Add) rAddS2 := op_add_str
def rIsN2 : R2 := fun x y H Q => y = .non ∧ Q (.bl (decide (x = .non))) H
theorem o_isN : OpR X (compareOp .Is) rIsN2 := op_isN
def rNotN2 : R2 := fun x y H Q => y = .non ∧ Q (.bl (!decide (x = .non))) H
theorem o_notN : OpR X (compareOp .IsNot) rNotN2 := op_notN
/-- ** of any size -/
def CPowW (i j : Int) : Prop := 0 ≤ j ∧ (Builtin.Int.intBits i : Int) * j ≤ 2 ^ 27
theorem op_powW : OpR X (binaryOp .Pow) (rI CPowW fun i j => .int (i ^ j.toNat)) := opI fun _ _ _ _ _ _ _ hc q => PyProof.Rows.pow_int hc.1 hc.2 q
end

theorem at_0 {α : Type} {x : α} {r : List α} : atI (x :: r) 0 = some x := by
  unfold atI ixN
  rw [if_pos (by decide), if_pos (by simp)]
  rfl
theorem at_in {xs : List V} {i : Int} {v : V} (h : 0 ≤ i) (e : xs[i.toNat]? = some v) : atI xs i = some v := by
  have q := atI_nat (j := i.toNat) e
  rw [show ((i.toNat : Nat) : Int) = i by omega] at q
  exact q
theorem ix_0 {n : Nat} (h : 0 < n) : ixN n 0 = some 0 := by
  unfold ixN
  rw [if_pos (by omega), if_pos (by omega)]
  rfl
theorem ix_in {n : Nat} {i : Int} (h : 0 ≤ i) (h2 : i < n) : ixN n i = some i.toNat := by
  unfold ixN
  rw [if_pos h, if_pos h2]

/-! ### tests whose answer is known -/
theorem ifS_no {i j : Str} {A B : Prop} (ne : i ≠ j) (h : B) : if decide (V.str i = V.str j) = true then A else B := ifS (fun e => absurd e ne) fun _ => h
theorem ifS_yes {i j : Str} {A B : Prop} (e : i = j) (h : A) : if decide (V.str i = V.str j) = true then A else B := ifS (fun _ => h) fun ne => absurd e ne
theorem ifSn_no {i j : Str} {A B : Prop} (e : i = j) (h : B) : if (!decide (V.str i = V.str j)) = true then A else B := ifSn (fun ne => absurd e ne) fun _ => h
theorem ifSn_yes {i j : Str} {A B : Prop} (ne : i ≠ j) (h : A) : if (!decide (V.str i = V.str j)) = true then A else B := ifSn (fun _ => h) fun e => absurd e ne
theorem ifI_no {i j : Int} {A B : Prop} (ne : i ≠ j) (h : B) : if decide (V.int i = V.int j) = true then A else B := ifI (fun e => absurd e ne) fun _ => h
theorem ifI_yes {i j : Int} {A B : Prop} (e : i = j) (h : A) : if decide (V.int i = V.int j) = true then A else B := ifI (fun _ => h) fun ne => absurd e ne
theorem ifIn_no {i j : Int} {A B : Prop} (e : i = j) (h : B) : if (!decide (V.int i = V.int j)) = true then A else B := ifIn (fun ne => absurd e ne) fun _ => h
theorem ifIn_yes {i j : Int} {A B : Prop} (ne : i ≠ j) (h : A) : if (!decide (V.int i = V.int j)) = true then A else B := ifIn (fun _ => h) fun e => absurd e ne
theorem iteNT {A B : Prop} (h : B) : if (!true) = true then A else B := iteF h
theorem iteNF {A B : Prop} (h : A) : if (!false) = true then A else B := iteT h
theorem ifD_no {c A B : Prop} [Decidable c] (n : ¬ c) (h : B) : if decide c = true then A else B := ifD (fun e => absurd e n) fun _ => h
theorem ifD_yes {c A B : Prop} [Decidable c] (y : c) (h : A) : if decide c = true then A else B := ifD (fun _ => h) fun n => absurd y n

/-! ### slices -/
theorem cut_to (xs : List V) (n : Int) (h : 0 ≤ n) : cutV xs none (some n) = xs.take n.toNat := by
  unfold cutV
  have e : HT.sIx xs.length xs.length (some n) = min n.toNat xs.length := by
    have q := HT.sIx_nat xs.length xs.length n.toNat
    rwa [show ((n.toNat : Nat) : Int) = n by omega] at q
  rw [HT.sIx_none, List.drop_zero, e, Nat.sub_zero, ← List.take_eq_take_min]
theorem cut_from (xs : List V) (n : Int) (h : 0 ≤ n) : cutV xs (some n) none = xs.drop n.toNat := by
  unfold cutV
  have e0 : HT.sIx xs.length 0 (some n) = min n.toNat xs.length := by
    have q := HT.sIx_nat xs.length 0 n.toNat
    rwa [show ((n.toNat : Nat) : Int) = n by omega] at q
  rw [e0, HT.sIx_none]
  have e : xs.drop (min n.toNat xs.length) = xs.drop n.toNat := by
    by_cases q : n.toNat ≤ xs.length
    · rw [Nat.min_eq_left q]
    · rw [Nat.min_eq_right (by omega), List.drop_of_length_le (Nat.le_refl _), List.drop_of_length_le (by omega)]
  rw [e, List.take_of_length_le]
  rw [List.length_drop]
  omega

/-- all are ints -/
def AI (xs : List V) : Prop := ∀ x ∈ xs, ∃ z : Int, x = .int z
theorem AI.get {xs : List V} {n : Nat} {x : V} (h : AI xs) (e : xs[n]? = some x) : ∃ z : Int, x = .int z := h x (List.mem_of_getElem? e)
theorem AI.cut {xs : List V} {lo hi : Option Int} (h : AI xs) : AI (cutV xs lo hi) := fun x hx => h x (List.mem_of_mem_drop (List.mem_of_mem_take hx))
theorem AI.app {xs ys : List V} (h : AI xs) (h' : AI ys) : AI (xs ++ ys) := fun x hx => (List.mem_append.mp hx).elim (h x) (h' x)
theorem AI.nil : AI [] := fun _ h => nomatch h
theorem AI.one (z : Int) : AI [.int z] := fun x h => ⟨z, by simpa using h⟩
theorem AI.ints : ∀ {xs : List V}, AI xs → ∃ ns : List Int, xs = ns.map V.int
  | [], _ => ⟨[], rfl⟩
  | x :: xs, h => by
    obtain ⟨z, rfl⟩ := h x List.mem_cons_self
    obtain ⟨ns, rfl⟩ := AI.ints (xs := xs) fun y hy => h y (List.mem_cons_of_mem _ hy)
    exact ⟨z :: ns, rfl⟩
theorem AI.of (ns : List Int) : AI (ns.map V.int) := fun x hx => by
  obtain ⟨z, _, e⟩ := List.mem_map.mp hx
  exact ⟨z, e.symm⟩
theorem AI.of_all : ∀ {xs ys : List V}, All2 (fun _ y => ∃ z : Int, y = .int z) xs ys → AI ys
  | _, _, .nil => AI.nil
  | _, _, .cons r t => fun y hy => (List.mem_cons.mp hy).elim (fun e => e ▸ r) (AI.of_all t y)
/-- all are texts -/
def AS (xs : List V) : Prop := ∀ x ∈ xs, ∃ z : Str, x = .str z
theorem AS.get {xs : List V} {n : Nat} {x : V} (h : AS xs) (e : xs[n]? = some x) : ∃ z : Str, x = .str z := h x (List.mem_of_getElem? e)
theorem AS.cut {xs : List V} {lo hi : Option Int} (h : AS xs) : AS (cutV xs lo hi) := fun x hx => h x (List.mem_of_mem_drop (List.mem_of_mem_take hx))
theorem AS.app {xs ys : List V} (h : AS xs) (h' : AS ys) : AS (xs ++ ys) := fun x hx => (List.mem_append.mp hx).elim (h x) (h' x)
theorem AS.of (ns : List Str) : AS (ns.map V.str) := fun x hx => by
  obtain ⟨z, _, e⟩ := List.mem_map.mp hx
  exact ⟨z, e.symm⟩
theorem AS.nil : AS [] := fun _ h => nomatch h
theorem AS.cons {z : Str} {xs : List V} (h : AS xs) : AS (.str z :: xs) := fun x hx => (List.mem_cons.mp hx).elim (fun e => ⟨z, e⟩) (h x)
theorem cut_len (xs : List V) (lo hi : Option Int) : (cutV xs lo hi).length ≤ xs.length := cutV_length xs lo hi
theorem cast_int {Q : VK} {H : Hp} {a b : Int} (h : Q (.int a) H) (e : a = b) : Q (.int b) H := e ▸ h

/-! ### forward steps -/
section
variable {W : Wd} {K : PySem.W.Frag} {H H1 : Hp} {σ : L2.St} {D : Ends} {Q : VK} {v x y : V} {i j : Int} {n : Nat} {s z : Str} {b c : Bool} {p a : Addr} {xs ys vs : List V}
variable {ta tb te : TE} {t u : TS} {c1 c2 : TT} {tr : TA} {r : R2} {QB : Bool → Hp → Prop} {QA : List V → Hp → Prop} {QO : Option Int → Hp → Prop}
theorem rd_seq (h : t { D with nx := u D } σ H) : tSeq t u D σ H := h
theorem rd_next (h : D.nx σ H) : tNext D σ H := h
theorem rd_asg {m : Nat} (h : te σ H fun x H1 => D.nx (σ.set m (some x)) H1) : tAsg te (gName m) D σ H := h
theorem rd_asgG {g : TG} (h : te σ H fun x H1 => g x σ H1 D.nx) : tAsg te g D σ H := h
theorem rd_drop (h : te σ H fun _ H1 => D.nx σ H1) : tDrop te D σ H := h
theorem rd_ret (h : te σ H D.rt) : tRet te D σ H := h
theorem rd_retN (h : D.rt .non H) : tRetN D σ H := h
theorem rd_brk (h : D.bk σ H) : tBreak D σ H := h
theorem rd_cont (h : D.ct σ H) : tCont D σ H := h
theorem rd_ifS (h : c1 σ H fun b H1 => if b = true then t D σ H1 else u D σ H1) : tIfS c1 t u D σ H := h
theorem rd_var {m : Nat} (e : σ[m]? = some (some v)) (h : Q v H) : tVar m σ H Q := ⟨v, e, h⟩
theorem rd_c (h : Q v H) : tC v σ H Q := h
theorem rd_op (h : ta σ H fun x H1 => tb σ H1 fun y H2 => r x y H2 Q) : tOp r ta tb σ H Q := h
theorem rd_un {r : V → Hp → VK → Prop} (h : ta σ H fun x H1 => r x H1 Q) : tUn r ta σ H Q := h
theorem rd_I0 {g : Int → Int → V} (h : Q (g i j) H) : rI0 g (.int i) (.int j) H Q := ⟨_, _, rfl, rfl, h⟩
theorem rd_I {C : Int → Int → Prop} {g : Int → Int → V} (k : C i j) (h : Q (g i j) H) : rI C g (.int i) (.int j) H Q := ⟨_, _, rfl, rfl, k, h⟩
theorem rd_U {g : Int → V} (h : Q (g i) H) : rU g (.int i) H Q := ⟨_, rfl, h⟩
theorem rd_eq (k : scal x y = true) (h : Q (.bl (decide (x = y))) H) : rEq x y H Q := ⟨k, h⟩
theorem rd_ne (k : scal x y = true) (h : Q (.bl (!decide (x = y))) H) : rNe x y H Q := ⟨k, h⟩
theorem rd_isN (h : Q (.bl (decide (x = .non))) H) : rIsN2 x .non H Q := ⟨rfl, h⟩
theorem rd_notN (h : Q (.bl (!decide (x = .non))) H) : rNotN2 x .non H Q := ⟨rfl, h⟩
theorem rd_test (h : te σ H fun x H1 => ∃ k, x = .bl k ∧ QB k H1) : tTest te σ H QB := h
theorem rd_B (h : te σ H fun x H1 => ∃ k, x = .bl k ∧ QB k H1) : tB te σ H QB := h
theorem rd_bl {P : Bool → Prop} (h : P b) : ∃ k, V.bl b = V.bl k ∧ P k := ⟨b, rfl, h⟩
theorem rd_and (h : c1 σ H fun c H1 => if c = true then c2 σ H1 QB else QB false H1) : tAnd c1 c2 σ H QB := h
theorem rd_or (h : c1 σ H fun c H1 => if c = true then QB true H1 else c2 σ H1 QB) : tOr c1 c2 σ H QB := h
theorem rd_not (h : c1 σ H fun c H1 => QB (!c) H1) : tNot c1 σ H QB := h
theorem rd_andV (h : ta σ H fun x H1 => ∃ k, x = .bl k ∧ if k = true then tb σ H1 Q else Q (.bl false) H1) : tAndV ta tb σ H Q := h
theorem rd_orV (h : ta σ H fun x H1 => ∃ k, x = .bl k ∧ if k = true then Q (.bl true) H1 else tb σ H1 Q) : tOrV ta tb σ H Q := h
theorem rd_notV (h : ta σ H fun x H1 => ∃ k, x = .bl k ∧ Q (.bl (!k)) H1) : tNotV ta σ H Q := h
theorem rd_blV {P : Bool → Prop} (h : P b) : ∃ k, V.bl b = .bl k ∧ P k := ⟨b, rfl, h⟩
theorem rd_ifE (h : c1 σ H fun c H1 => if c = true then ta σ H1 Q else tb σ H1 Q) : tIf c1 ta tb σ H Q := h
theorem rd_nil (h : QA [] H) : tNil σ H QA := h
theorem rd_cons (h : te σ H fun x H1 => tr σ H1 fun xs H2 => QA (x :: xs) H2) : tCons te tr σ H QA := h
theorem rd_call {sp : Sp} {E : XK} (h : tr σ H fun vs H1 => sp (vs ++ []) H1 Q E) : tCall sp [] E tr σ H Q := h
theorem rd_app0 {P : List V → Prop} (h : P vs) : P (vs ++ []) := by rw [List.append_nil]; exact h
theorem rd_cb {r : List V → Hp → VK → Prop} (h : tr σ H fun vs H1 => r vs H1 Q) : tCB r tr σ H Q := h
/-- a new tuple, a new list -/
def NewO (Q : VK) (o : HO) (n : Nat) (H1 : Hp) : Prop := n ≤ sizeLine ∧ ∀ p, H1 p = none → Q (.ref p) (upd H1 p o)
theorem rd_tupU (h : tr σ H fun xs H1 => NewO Q (.tup xs) xs.length H1) : tTup tr σ H Q := h
theorem rd_lstU (h : tr σ H fun xs H1 => NewO Q (.lst xs) xs.length H1) : tLst tr σ H Q := h
theorem rd_new {o : HO} (i : W.iv H) (hn : n ≤ 1000000) (k : ∀ p H2, H p = none → Ex W H H2 → At W H2 p o → Q (.ref p) H2) : NewO Q o n H := lst_of i hn k
theorem rd_new1 {o : HO} (i : W.iv H) (k : ∀ p H2, H p = none → Ex W H H2 → At W H2 p o → Q (.ref p) H2) : ∀ p, H p = none → Q (.ref p) (upd H p o) := new_of i k
theorem rd_ixL (h : At W H p (.lst xs)) (e : atI xs i = some v) (k : Q v H) : rIxL K (.ref p) (.int i) H Q := ⟨p, xs, i, v, rfl, rfl, h.sl, e, k⟩
theorem rd_ixT (h : At W H p (.tup xs)) (e : atI xs i = some v) (k : Q v H) : rIxT K (.ref p) (.int i) H Q := ⟨p, xs, i, v, rfl, rfl, h.st, e, k⟩
theorem rd_slLr {lo hi : Option Int} (h : H a = some (.lst xs)) (k : ∀ p H2, H p = none → H2 p = some (.lst (cutV xs lo hi)) → (∀ q, q ≠ p → H2 q = H q) → Q (.ref p) H2) : rSlL K (.ref a) lo hi H Q := ⟨a, xs, rfl, SqL.of h, fun p hp => k p _ hp upd_same fun _ ne => upd_ne ne⟩
theorem rd_ixM (h : At W H p (.lst xs)) (h0 : 0 ≤ i) (h1 : i < (xs.length : Int)) (k : ∀ v, v ∈ xs → Q v H) : rIxL K (.ref p) (.int i) H Q := by
  have e : xs[i.toNat]? = some (xs[i.toNat]'(by omega)) := List.getElem?_eq_getElem (by omega)
  exact ⟨p, xs, i, _, rfl, rfl, h.sl, at_in h0 e, k _ (List.getElem_mem _)⟩
theorem rd_ixLr (h : H p = some (.lst xs)) (e : atI xs i = some v) (k : Q v H) : rIxL K (.ref p) (.int i) H Q := ⟨p, xs, i, v, rfl, rfl, SqL.of h, e, k⟩
theorem rd_gsub {to ti : TE} {ts : TSet} {QS : L2.St → Hp → Prop} (h : to σ H fun o H1 => ti σ H1 fun i H2 => ts o i v H2 fun H3 => QS σ H3) : gSub to ti ts v σ H QS := h
theorem rd_setr {m : Nat} {QH : Hp → Prop} (h : H p = some (.lst xs)) (e : ixN xs.length i = some m) (k : ∀ H2, H2 p = some (.lst (xs.set m v)) → (∀ q, q ≠ p → H2 q = H q) → QH H2) : rSetL (.ref p) (.int i) v H QH :=
  ⟨p, xs, i, m, rfl, rfl, h, e, k _ upd_same fun _ ne => upd_ne ne⟩
/-- a store to a list of our own (unknown at H0) -/
theorem rd_set {m : Nat} {QH : Hp → Prop} {H0 : Hp} (e0 : Ex W H0 H) (h0 : H0 p = none) (h : At W H p (.lst xs)) (e : ixN xs.length i = some m) (k : ∀ H2, Ex W H0 H2 → At W H2 p (.lst (xs.set m v)) → (∀ q o, q ≠ p → At W H q o → At W H2 q o) → QH H2) : rSetL (.ref p) (.int i) v H QH :=
  ⟨p, xs, i, m, rfl, rfl, h.1, e, k _ (e0.mut h0 h) (.mut e0.iv h) fun _ _ ne q => .other e0.iv h q ne⟩
theorem rd_len (h : At W H p (.lst xs)) (k : Q (.int xs.length) H) : rLen K [.ref p] H Q := ⟨p, xs, rfl, .inl h.sl, k⟩
theorem rd_lenT (h : At W H p (.tup xs)) (k : Q (.int xs.length) H) : rLen K [.ref p] H Q := ⟨p, xs, rfl, .inr h.st, k⟩
theorem rd_lenr (h : H p = some (.lst xs)) (k : Q (.int xs.length) H) : rLen K [.ref p] H Q := ⟨p, xs, rfl, .inl (SqL.of h), k⟩
theorem rd_int (k : Q (.int i) H) : rInt [.int i] H Q := .inl ⟨_, rfl, k⟩
theorem rd_intB (k : Q (.int (if b then 1 else 0)) H) : rInt [.bl b] H Q := .inr ⟨_, rfl, k⟩
theorem rd_abs (k : Q (.int (if i < 0 then -i else i)) H) : rAbs [.int i] H Q := ⟨_, rfl, k⟩
theorem rd_max2 (k : Q (.int (if j > i then j else i)) H) : rMax2 [.int i, .int j] H Q := ⟨_, _, rfl, k⟩
theorem rd_min2 (k : Q (.int (if j < i then j else i)) H) : rMin2 [.int i, .int j] H Q := ⟨_, _, rfl, k⟩
theorem rd_lens (h : s.length ≤ 1000000) (k : Q (.int s.length) H) : rLenStr [.str s] H Q := ⟨_, rfl, sz_le h, k⟩
theorem rd_adds (h : s.length + z.length ≤ 1000000) (k : Q (.str (s ++ z)) H) : rAddS2 (.str s) (.str z) H Q := ⟨_, _, rfl, rfl, sz_le h, k⟩
theorem rd_nopart (k : QO none H) : tNoPart σ H QO := k
theorem rd_part (h : te σ H fun x H1 => ∃ i, x = .int i ∧ QO (some i) H1) : tPart te σ H QO := h
theorem rd_partI {P : Int → Prop} (k : P i) : ∃ i', V.int i = V.int i' ∧ P i' := ⟨_, rfl, k⟩
theorem rd_sl {r : V → Option Int → Option Int → Hp → VK → Prop} {tl th : TO} (h : te σ H fun x H1 => tl σ H1 fun l H2 => th σ H2 fun u H3 => r x l u H3 Q) : tSl r te tl th σ H Q := h
theorem rd_slL {lo hi : Option Int} (i : W.iv H) (h : At W H a (.lst xs)) (k : ∀ p H2, H p = none → Ex W H H2 → At W H2 p (.lst (cutV xs lo hi)) → Q (.ref p) H2) : rSlL K (.ref a) lo hi H Q := ⟨a, xs, rfl, h.sl, rd_new1 i k⟩
theorem rd_slT {lo hi : Option Int} (i : W.iv H) (h : At W H a (.tup xs)) (k0 : cutV xs lo hi = xs → Q (.ref a) H) (k : ∀ p H2, H p = none → Ex W H H2 → At W H2 p (.tup (cutV xs lo hi)) → Q (.ref p) H2) : rSlT K (.ref a) lo hi H Q → rSlT K (.ref a) lo hi H Q := id
theorem rd_list (i : W.iv H) (h : At W H p (.lst xs)) (k : ∀ l H2, H l = none → Ex W H H2 → At W H2 l (.lst xs) → Q (.ref l) H2) : rListO K [.ref p] H Q := ⟨p, xs, rfl, .inl h.sl, rd_new1 i k⟩
theorem rd_listT (i : W.iv H) (h : At W H p (.tup xs)) (k : ∀ l H2, H l = none → Ex W H H2 → At W H2 l (.lst xs) → Q (.ref l) H2) : rListO K [.ref p] H Q := ⟨p, xs, rfl, .inr h.st, rd_new1 i k⟩
theorem rd_tuple (i : W.iv H) (h : At W H p (.lst xs)) (k : ∀ l H2, H l = none → Ex W H H2 → At W H2 l (.tup xs) → Q (.ref l) H2) : rTupO K [.ref p] H Q := ⟨p, xs, rfl, .inl ⟨h.sl, rd_new1 i k⟩⟩
theorem rd_cat (i : W.iv H) (h1 : At W H p (.lst xs)) (h2 : At W H a (.lst ys)) (hz : xs.length + ys.length ≤ 1000000) (k : ∀ l H2, H l = none → Ex W H H2 → At W H2 l (.lst (xs ++ ys)) → Q (.ref l) H2) : rCat (.ref p) (.ref a) H Q :=
  ⟨p, a, xs, ys, rfl, rfl, h1.1, h2.1, sz_le hz, rd_new1 i k⟩
theorem rd_bm {T : String} {r : V → List V → Hp → VK → Prop} (h : ta σ H fun x H1 => tyV K T x H1 ∧ tr σ H1 fun xs H2 => r x xs H2 Q) : tBM K T r ta tr σ H Q := h
theorem rd_tyL {P : Prop} (h : At W H p (.lst xs)) (k : P) : tyV K "list" (.ref p) H ∧ P := ⟨.inl ⟨rfl, xs, h.sl⟩, k⟩
/-- a statement, then the rest, with a word between them -/
def tCut (t u : TS) : TS := fun D σ H => ∃ Mid : L2.St → Hp → Prop, t { D with nx := Mid } σ H ∧ ∀ σ' H', Mid σ' H' → u D σ' H'
theorem pss_cut {X : Cx} {st : Stmt} {rest : List Stmt} {t u : TS} (h1 : PS X st t) (h2 : PSs X rest u) : PSs X (st :: rest) (tCut t u) := by
  refine ⟨fun pins s σ H D I h => ?_⟩
  obtain ⟨Mid, hm, hu⟩ := h
  refine PySem.wpAny_execs_cons (thn (h1.run pins s σ H { D with nx := Mid } I hm) fun f s1 q => ?_)
  cases f with
  | next =>
    obtain ⟨σ', H', I', q⟩ := q
    exact h2.run pins s1 σ' H' D I' (hu σ' H' q)
  | ret v => exact q
  | brk => exact q
  | cont => exact q
theorem rd_cut (M : L2.St → Hp → Prop) (h : t { D with nx := M } σ H) (k : ∀ σ' H', M σ' H' → u D σ' H') : tCut t u D σ H := ⟨M, h, k⟩
/-- a list comprehension over a list: what its source gives, then its items -/
def LcG (K : PySem.W.Frag) (a : Addr) (g : TG) (tt : TT) (te : TE) (ws : List Nat) (σ : L2.St) (H1 : Hp) (Q : VK) : Prop := ∀ D, H1 D = none → ∃ W : Nat → Nat → Hp → Prop, (∃ m, W 0 m (upd H1 D (.lst []))) ∧ ∀ i m H, W i m H →
  ((Itl K a).stop i H ∧ Q (.ref D) H) ∨ ((Itl K a).go i H ∧ ∃ Nx : Hp → Prop, (∀ H', Nx H' → ∃ m', m' < m ∧ W (i + 1) m' H') ∧ ∀ x H', (Itl K a).yld i H x H' → g x (wipe σ ws) H' fun σ2 H2 => wipe σ2 ws = wipe σ ws ∧ tt σ2 H2 fun b H3 =>
    if b = true then te σ2 H3 fun y H4 => ∃ acc, H4 D = some (.lst acc) ∧ acc.length < sizeLine ∧ Nx (upd H4 D (.lst (acc ++ [y]))) else Nx H3)
theorem rd_lc {tl : TE} {g : TG} {tt : TT} {ws : List Nat} (h : tl σ H fun x H1 => ∃ a, x = .ref a ∧ (∃ xs, SqL K H1 a xs) ∧ LcG K a g tt te ws σ H1 Q) : tLc (iList K tl) g tt te ws σ H Q := h
/-- the heap without the list at D -/
def hide (D : Addr) (H : Hp) : Hp := fun a => if a = D then none else H a
theorem hide_ne {D q : Addr} {H : Hp} (h : q ≠ D) : hide D H q = H q := if_neg h
theorem hide_upd {D : Addr} {H : Hp} {o : HO} : hide D (upd H D o) = hide D H := by
  funext q
  unfold hide upd
  split <;> rfl
theorem hide_loc {D : Addr} {H : Hp} (i : W.iv H) (n : ¬ W.own H D) : W.iv (hide D H) ∧ ∀ a, W.own (hide D H) a → W.own H a := W.loc i fun _ ha => hide_ne fun e => n (e ▸ ha)
theorem At.hide {D q : Addr} {H : Hp} {o u : HO} (h : At W H q o) (ne : q ≠ D) (i : W.iv H) (hD : At W H D u) : At W (hide D H) q o := ⟨(hide_ne ne).trans h.1, fun z => h.2 ((hide_loc i hD.2).2 _ z)⟩
theorem Ex.unhide {D : Addr} {H : Hp} {u : HO} (i : W.iv H) (hD : At W H D u) : Ex W (Lw.hide D H) H := by
  have l := hide_loc i hD.2
  refine ⟨l.1, i, fun {a o} h => ?_, fun {a o} h => ?_⟩
  · have ne : a ≠ D := fun e => by
      have q := h.1
      rw [e] at q
      unfold Lw.hide at q
      rw [if_pos rfl] at q; cases q
    refine ⟨(hide_ne ne).symm.trans h.1, fun z => h.2 ?_⟩
    -- owned in H: owned without D
    have l2 := W.loc (H := Lw.hide D H) (H' := H) l.1 fun b hb => (hide_ne (fun e : b = D => hD.2 (e ▸ l.2 b hb))).symm
    exact l2.2 a z
  · have ne : a ≠ D := fun e => by
      rw [e] at h
      unfold Lw.hide at h
      rw [if_pos rfl] at h; cases h
    exact ⟨o, (hide_ne ne).symm.trans h⟩
theorem hide_ex {D : Addr} {H H' : Hp} {u : HO} (e : Ex W H H') (hD : At W H D u) : Ex W (Lw.hide D H) (Lw.hide D H') := by
  have l := hide_loc e.i0 hD.2
  have l' := hide_loc e.iv (e.at_ hD).2
  refine ⟨l.1, l'.1, fun {a o} h => ?_, fun {a o} h => ?_⟩
  · have h1 := (Ex.unhide e.i0 hD).at_ h
    have ne : a ≠ D := fun q => by
      have z := h.1
      rw [q] at z
      unfold Lw.hide at z
      rw [if_pos rfl] at z; cases z
    exact (e.at_ h1).hide ne e.iv (e.at_ hD)
  · have ne : a ≠ D := fun q => by
      rw [q] at h
      unfold Lw.hide at h
      rw [if_pos rfl] at h; cases h
    obtain ⟨o', q⟩ := e.tr ((hide_ne ne).symm.trans h)
    exact ⟨o', (hide_ne ne).trans q⟩
/-- a tuple, a list made since -/
theorem At.hideT {D q : Addr} {H0 H : Hp} {vs acc : List V} (h : At W H q (.tup vs)) (e : Ex W H0 H) (hD : At W H0 D (.lst acc)) : At W (Lw.hide D H) q (.tup vs) := h.hide (h.ne (e.at_ hD) (fun z => by cases z)) e.iv (e.at_ hD)
theorem At.hideN {D q : Addr} {H0 H1 H : Hp} {o : HO} {acc : List V} (h : At W H q o) (e : Ex W H0 H) (hD : At W H0 D (.lst acc)) (e1 : Ex W H0 H1) (f : H1 q = none) : At W (Lw.hide D H) q o :=
  h.hide (fun z => by have r := (e1.at_ hD).1; rw [← z, f] at r; cases r) e.iv (e.at_ hD)
/-- the items: keep says which are taken, R what is made of one (without the new list, at D) -/
theorem rd_lcF {tt : TT} {m : Nat} (keep : V → Bool) (R : V → V → Hp → Prop) (i : W.iv H) (ha : At W H a (.lst xs)) (hz : xs.length ≤ 50000) (hm : ∀ x y H H', Ex W H H' → R x y H → R x y H')
    (ht : ∀ (n : Nat) x H' (QB : Bool → Hp → Prop), xs[n]? = some x → Ex W H H' → (∀ H3, Ex W H' H3 → QB (keep x) H3) → tt ((wipe σ [m]).set m (some x)) H' QB)
    (he : ∀ (n : Nat) x D acc H' (QV : VK), xs[n]? = some x → keep x = true → H D = none → At W H' D (.lst acc) → Ex W H H' → (∀ y H4, Ex W H' H4 → R x y (Lw.hide D H4) → QV y H4) → te ((wipe σ [m]).set m (some x)) H' QV)
    (k : ∀ D H2 ys, H D = none → Ex W H H2 → At W H2 D (.lst ys) → All2 (fun x y => R x y H2) (xs.filter keep) ys → Q (.ref D) H2) :
    ∃ a', V.ref a = V.ref a' ∧ (∃ xs, SqL K H a' xs) ∧ LcG K a' (gName m) tt te [m] σ H Q := by
  refine ⟨a, rfl, ⟨xs, ha.sl⟩, fun D hD => ?_⟩
  refine lc_list (xs := xs) (fun n H' => ∃ ys, Ex W H H' ∧ At W H' D (.lst ys) ∧ All2 (fun x y => R x y (Lw.hide D H')) ((xs.take n).filter keep) ys ∧ ys.length ≤ n) ⟨[], Ex.new i hD, At.new i hD, .nil, Nat.le_refl _⟩ (fun n H' _ ⟨_, e, _⟩ => (e.at_ ha).sl) (fun n x H' hx ⟨ys, e, hd, h2, hl⟩ => ?_) (fun H' ⟨ys, e, hd, h2, hl⟩ => ?_)
  · have hn : n < xs.length := (List.getElem?_eq_some_iff.mp hx).1
    have tk : xs.take (n + 1) = xs.take n ++ [x] := by rw [List.take_add_one, hx]; rfl
    refine ⟨by show wipe _ _ = _; simp [wipe, List.set_set], ?_⟩
    refine ht n x H' _ hx e fun H3 e3 => ?_
    refine ifB (fun hk => ?_) (fun hk => ?_)
    · refine he n x D ys H3 _ hx hk hD (e3.at_ hd) (e.trans e3) fun y H4 e4 r => ⟨ys, (e4.at_ (e3.at_ hd)).1, sz_lt (by omega), ys ++ [y], ((e.trans e3).trans e4).mut hD (e4.at_ (e3.at_ hd)), At.mut e4.iv (e4.at_ (e3.at_ hd)), ?_, by rw [List.length_append, List.length_singleton]; omega⟩
      rw [tk, List.filter_append, List.filter_cons, if_pos hk, hide_upd]
      exact All2.snoc (All2.mono (fun x' y' r' => hm x' y' _ _ (hide_ex (e3.trans e4) hd) r') h2) r
    · refine ⟨ys, e.trans e3, e3.at_ hd, ?_, by omega⟩
      rw [tk, List.filter_append, List.filter_cons, if_neg (by rw [hk]; decide)]
      show All2 _ (_ ++ []) _
      rw [List.append_nil]
      exact All2.mono (fun x' y' r' => hm x' y' _ _ (hide_ex e3 hd) r') h2
  · rw [List.take_length] at h2
    exact k D H' ys hD e hd (All2.mono (fun x' y' r' => hm x' y' _ _ (Ex.unhide e.iv hd) r') h2)
/-- no test -/
theorem rd_lc1 {m : Nat} (R : V → V → Hp → Prop) (i : W.iv H) (ha : At W H a (.lst xs)) (hz : xs.length ≤ 50000) (hm : ∀ x y H H', Ex W H H' → R x y H → R x y H')
    (he : ∀ (n : Nat) x D acc H' (QV : VK), xs[n]? = some x → H D = none → At W H' D (.lst acc) → Ex W H H' → (∀ y H4, Ex W H' H4 → R x y (Lw.hide D H4) → QV y H4) → te ((wipe σ [m]).set m (some x)) H' QV)
    (k : ∀ D H2 ys, H D = none → Ex W H H2 → At W H2 D (.lst ys) → All2 (fun x y => R x y H2) xs ys → Q (.ref D) H2) :
    ∃ a', V.ref a = V.ref a' ∧ (∃ xs, SqL K H a' xs) ∧ LcG K a' (gName m) tYes te [m] σ H Q :=
  rd_lcF (fun _ => true) R i ha hz hm (fun n x H' QB _ e q => q H' (Ex.refl e.iv)) (fun n x D acc H' QV h1 _ h2 h3 h4 h5 => he n x D acc H' QV h1 h2 h3 h4 h5) fun D H2 ys h1 h2 h3 h4 => k D H2 ys h1 h2 h3 (by
    have z : xs.filter (fun _ => true) = xs := by simp
    rwa [z] at h4)
/-- a list comprehension over a list: what its source gives, then its items -/
def LcGT (K : PySem.W.Frag) (a : Addr) (g : TG) (tt : TT) (te : TE) (ws : List Nat) (σ : L2.St) (H1 : Hp) (Q : VK) : Prop := ∀ D, H1 D = none → ∃ W : Nat → Nat → Hp → Prop, (∃ m, W 0 m (upd H1 D (.lst []))) ∧ ∀ i m H, W i m H →
  ((Itt K a).stop i H ∧ Q (.ref D) H) ∨ ((Itt K a).go i H ∧ ∃ Nx : Hp → Prop, (∀ H', Nx H' → ∃ m', m' < m ∧ W (i + 1) m' H') ∧ ∀ x H', (Itt K a).yld i H x H' → g x (wipe σ ws) H' fun σ2 H2 => wipe σ2 ws = wipe σ ws ∧ tt σ2 H2 fun b H3 =>
    if b = true then te σ2 H3 fun y H4 => ∃ acc, H4 D = some (.lst acc) ∧ acc.length < sizeLine ∧ Nx (upd H4 D (.lst (acc ++ [y]))) else Nx H3)
theorem rd_lcT {tl : TE} {g : TG} {tt : TT} {ws : List Nat} (h : tl σ H fun x H1 => ∃ a, x = .ref a ∧ (∃ xs, SqT K H1 a xs) ∧ LcGT K a g tt te ws σ H1 Q) : tLc (iTup K tl) g tt te ws σ H Q := h
/-- the items: keep says which are taken, R what is made of one (without the new list, at D) -/
theorem rd_lcTF {tt : TT} {m : Nat} (keep : V → Bool) (R : V → V → Hp → Prop) (i : W.iv H) (ha : At W H a (.tup xs)) (hz : xs.length ≤ 50000) (hm : ∀ x y H H', Ex W H H' → R x y H → R x y H')
    (ht : ∀ (n : Nat) x H' (QB : Bool → Hp → Prop), xs[n]? = some x → Ex W H H' → (∀ H3, Ex W H' H3 → QB (keep x) H3) → tt ((wipe σ [m]).set m (some x)) H' QB)
    (he : ∀ (n : Nat) x D acc H' (QV : VK), xs[n]? = some x → keep x = true → H D = none → At W H' D (.lst acc) → Ex W H H' → (∀ y H4, Ex W H' H4 → R x y (Lw.hide D H4) → QV y H4) → te ((wipe σ [m]).set m (some x)) H' QV)
    (k : ∀ D H2 ys, H D = none → Ex W H H2 → At W H2 D (.lst ys) → All2 (fun x y => R x y H2) (xs.filter keep) ys → Q (.ref D) H2) :
    ∃ a', V.ref a = V.ref a' ∧ (∃ xs, SqT K H a' xs) ∧ LcGT K a' (gName m) tt te [m] σ H Q := by
  refine ⟨a, rfl, ⟨xs, ha.st⟩, fun D hD => ?_⟩
  refine lc_tup (xs := xs) (fun n H' => ∃ ys, Ex W H H' ∧ At W H' D (.lst ys) ∧ All2 (fun x y => R x y (Lw.hide D H')) ((xs.take n).filter keep) ys ∧ ys.length ≤ n) ⟨[], Ex.new i hD, At.new i hD, .nil, Nat.le_refl _⟩ (fun n H' _ ⟨_, e, _⟩ => (e.at_ ha).st) (fun n x H' hx ⟨ys, e, hd, h2, hl⟩ => ?_) (fun H' ⟨ys, e, hd, h2, hl⟩ => ?_)
  · have hn : n < xs.length := (List.getElem?_eq_some_iff.mp hx).1
    have tk : xs.take (n + 1) = xs.take n ++ [x] := by rw [List.take_add_one, hx]; rfl
    refine ⟨by show wipe _ _ = _; simp [wipe, List.set_set], ?_⟩
    refine ht n x H' _ hx e fun H3 e3 => ?_
    refine ifB (fun hk => ?_) (fun hk => ?_)
    · refine he n x D ys H3 _ hx hk hD (e3.at_ hd) (e.trans e3) fun y H4 e4 r => ⟨ys, (e4.at_ (e3.at_ hd)).1, sz_lt (by omega), ys ++ [y], ((e.trans e3).trans e4).mut hD (e4.at_ (e3.at_ hd)), At.mut e4.iv (e4.at_ (e3.at_ hd)), ?_, by rw [List.length_append, List.length_singleton]; omega⟩
      rw [tk, List.filter_append, List.filter_cons, if_pos hk, hide_upd]
      exact All2.snoc (All2.mono (fun x' y' r' => hm x' y' _ _ (hide_ex (e3.trans e4) hd) r') h2) r
    · refine ⟨ys, e.trans e3, e3.at_ hd, ?_, by omega⟩
      rw [tk, List.filter_append, List.filter_cons, if_neg (by rw [hk]; decide)]
      show All2 _ (_ ++ []) _
      rw [List.append_nil]
      exact All2.mono (fun x' y' r' => hm x' y' _ _ (hide_ex e3 hd) r') h2
  · rw [List.take_length] at h2
    exact k D H' ys hD e hd (All2.mono (fun x' y' r' => hm x' y' _ _ (Ex.unhide e.iv hd) r') h2)
/-- no test -/
theorem rd_lcT1 {m : Nat} (R : V → V → Hp → Prop) (i : W.iv H) (ha : At W H a (.tup xs)) (hz : xs.length ≤ 50000) (hm : ∀ x y H H', Ex W H H' → R x y H → R x y H')
    (he : ∀ (n : Nat) x D acc H' (QV : VK), xs[n]? = some x → H D = none → At W H' D (.lst acc) → Ex W H H' → (∀ y H4, Ex W H' H4 → R x y (Lw.hide D H4) → QV y H4) → te ((wipe σ [m]).set m (some x)) H' QV)
    (k : ∀ D H2 ys, H D = none → Ex W H H2 → At W H2 D (.lst ys) → All2 (fun x y => R x y H2) xs ys → Q (.ref D) H2) :
    ∃ a', V.ref a = V.ref a' ∧ (∃ xs, SqT K H a' xs) ∧ LcGT K a' (gName m) tYes te [m] σ H Q :=
  rd_lcTF (fun _ => true) R i ha hz hm (fun n x H' QB _ e q => q H' (Ex.refl e.iv)) (fun n x D acc H' QV h1 _ h2 h3 h4 h5 => he n x D acc H' QV h1 h2 h3 h4 h5) fun D H2 ys h1 h2 h3 h4 => k D H2 ys h1 h2 h3 (by
    have z : xs.filter (fun _ => true) = xs := by simp
    rwa [z] at h4)
theorem rd_any {bs : List Bool} (h : At W H a (.lst (bs.map V.bl))) (k : Q (.bl (bs.any id)) H) : rAny K [.ref a] H Q := ⟨a, bs, rfl, h.sl, k⟩
theorem rd_all {bs : List Bool} (h : At W H a (.lst (bs.map V.bl))) (k : Q (.bl (bs.all id)) H) : rAll K [.ref a] H Q := ⟨a, bs, rfl, h.sl, k⟩
theorem rd_sum {ns : List Int} (h : At W H a (.lst (ns.map V.int))) (k : Q (.int ns.sum) H) : rSum K [.ref a] H Q := ⟨a, ns, rfl, h.sl, k⟩
theorem rd_inK (h : SqT K H p xs) (f : flatV x = true) (g : xs.all flatV = true) (k : Q (.bl (inV x xs)) H) : rIn K false x (.ref p) H Q := ⟨p, xs, rfl, .inr h, f, g, k⟩
theorem rd_niK (h : SqT K H p xs) (f : flatV x = true) (g : xs.all flatV = true) (k : Q (.bl (!inV x xs)) H) : rIn K true x (.ref p) H Q := ⟨p, xs, rfl, .inr h, f, g, k⟩
theorem rd_inT (h : At W H p (.tup xs)) (f : flatV x = true) (g : xs.all flatV = true) (k : Q (.bl (inV x xs)) H) : rIn K false x (.ref p) H Q := ⟨p, xs, rfl, .inr h.st, f, g, k⟩
theorem rd_niT (h : At W H p (.tup xs)) (f : flatV x = true) (g : xs.all flatV = true) (k : Q (.bl (!inV x xs)) H) : rIn K true x (.ref p) H Q := ⟨p, xs, rfl, .inr h.st, f, g, k⟩
theorem rd_inL (h : At W H p (.lst xs)) (f : flatV x = true) (g : xs.all flatV = true) (k : Q (.bl (inV x xs)) H) : rIn K false x (.ref p) H Q := ⟨p, xs, rfl, .inl h.sl, f, g, k⟩
theorem rd_niL (h : At W H p (.lst xs)) (f : flatV x = true) (g : xs.all flatV = true) (k : Q (.bl (!inV x xs)) H) : rIn K true x (.ref p) H Q := ⟨p, xs, rfl, .inl h.sl, f, g, k⟩
theorem rd_slTn {lo hi : Option Int} (i : W.iv H) (h : At W H a (.tup xs)) (n : ¬ (HT.sIx xs.length 0 lo = 0 ∧ HT.sIx xs.length xs.length hi = xs.length)) (k : ∀ p H2, H p = none → Ex W H H2 → At W H2 p (.tup (cutV xs lo hi)) → Q (.ref p) H2) : rSlT K (.ref a) lo hi H Q := ⟨a, xs, rfl, h.st, n, rd_new1 i k⟩
theorem rd_gtup {QS : L2.St → Hp → Prop} {ts : TGs} (h : At W H a (.tup xs)) (e : xs.length = n) (k : ts xs σ H QS) : gTup K n ts (.ref a) σ H QS := ⟨a, xs, rfl, h.st, e, k⟩
theorem rd_gconsE {QS : L2.St → Hp → Prop} {g : TG} {ts : TGs} (e : vs = v :: xs) (k : g v σ H fun σ' H' => ts xs σ' H' QS) : gCons g ts vs σ H QS := ⟨v, xs, e, k⟩
theorem rd_gnilE {QS : L2.St → Hp → Prop} (e : vs = []) (k : QS σ H) : gNil vs σ H QS := ⟨e, k⟩
theorem rd_isi {nm mm : String} (ty : TyX K H x (.type nm)) (h : kitB nm mm = some b) (k : Q (.bl b) H) : rIsi K [x, .ty mm] H Q := ⟨x, .ty mm, .type nm, .type mm, b, rfl, .ty _, ty, kit_ty h, k⟩
theorem rd_isiY {nm mm : String} (ty : TyX K H x (.type nm)) (h : kitB nm mm = some true) (k : Q (.bl true) H) : rIsi K [x, .ty mm] H Q := rd_isi ty h k
theorem rd_isiN {nm mm : String} (ty : TyX K H x (.type nm)) (h : kitB nm mm = some false) (k : Q (.bl false) H) : rIsi K [x, .ty mm] H Q := rd_isi ty h k
theorem rd_slLs {lo hi : Option Int} (i : W.iv H) (h : SqL K H a xs) (k : ∀ p H2, H p = none → Ex W H H2 → At W H2 p (.lst (cutV xs lo hi)) → Q (.ref p) H2) : rSlL K (.ref a) lo hi H Q := ⟨a, xs, rfl, h, rd_new1 i k⟩
theorem rd_gcons {QS : L2.St → Hp → Prop} {g : TG} {ts : TGs} (k : g v σ H fun σ' H' => ts xs σ' H' QS) : gCons g ts (v :: xs) σ H QS := ⟨v, xs, rfl, k⟩
theorem rd_gnil {QS : L2.St → Hp → Prop} (k : QS σ H) : gNil [] σ H QS := ⟨rfl, k⟩
theorem rd_gname {QS : L2.St → Hp → Prop} {m : Nat} (k : QS (σ.set m (some v)) H) : gName m v σ H QS := k
/-- a for over a list, a tuple, a range: its source, then for_list .. -/
def FoG (K : PySem.W.Frag) (a : Addr) (g : TG) (tb : TS) (D : Ends) (σ : L2.St) (H : Hp) : Prop := ∃ W : Nat → Nat → L2.St → Hp → Prop, (∃ m, W 0 m σ H) ∧ ∀ i m σ H, W i m σ H →
  ((Itl K a).stop i H ∧ D.nx σ H) ∨ ((Itl K a).go i H ∧ ∃ N : L2.St → Hp → Prop, (∀ σ' H', N σ' H' → ∃ m', m' < m ∧ W (i + 1) m' σ' H') ∧ ∀ x H', (Itl K a).yld i H x H' → g x σ H' fun σ2 H2 => tb { D with nx := N, ct := N, bk := D.nx } σ2 H2)
def FoR (lo : Int) (n : Nat) (g : TG) (tb : TS) (D : Ends) (σ : L2.St) (H : Hp) : Prop := ∃ W : Nat → Nat → L2.St → Hp → Prop, (∃ m, W 0 m σ H) ∧ ∀ i m σ H, W i m σ H →
  ((Itr lo n).stop i H ∧ D.nx σ H) ∨ ((Itr lo n).go i H ∧ ∃ N : L2.St → Hp → Prop, (∀ σ' H', N σ' H' → ∃ m', m' < m ∧ W (i + 1) m' σ' H') ∧ ∀ x H', (Itr lo n).yld i H x H' → g x σ H' fun σ2 H2 => tb { D with nx := N, ct := N, bk := D.nx } σ2 H2)
theorem rd_forL {tl : TE} {g : TG} {tb : TS} (h : tl σ H fun x H1 => ∃ a, x = .ref a ∧ (∃ xs, SqL K H1 a xs) ∧ FoG K a g tb D σ H1) : tFor (iList K tl) g tb D σ H := h
theorem rd_forR1 {g : TG} {tb : TS} (h : tr σ H fun vs H1 => ∃ j : Int, vs = [.int j] ∧ -(2 ^ 62) ≤ j ∧ j < 2 ^ 62 ∧ FoR 0 j.toNat g tb D σ H1) : tFor (iRng1 tr) g tb D σ H := h
theorem rd_forR2 {g : TG} {tb : TS} (h : tr σ H fun vs H1 => ∃ i j : Int, vs = [.int i, .int j] ∧ (-(2 ^ 62) ≤ i ∧ i < 2 ^ 62 ∧ -(2 ^ 62) ≤ j ∧ j < 2 ^ 62) ∧ FoR i (j - i).toNat g tb D σ H1) : tFor (iRng2 tr) g tb D σ H := h
theorem rd_forR1a {g : TG} {tb : TS} (h1 : -(2 ^ 62) ≤ j) (h2 : j < 2 ^ 62) (h : FoR 0 j.toNat g tb D σ H) : ∃ j' : Int, [V.int j] = [V.int j'] ∧ -(2 ^ 62) ≤ j' ∧ j' < 2 ^ 62 ∧ FoR 0 j'.toNat g tb D σ H := ⟨j, rfl, h1, h2, h⟩
theorem rd_forR2a {g : TG} {tb : TS} (h1 : -(2 ^ 62) ≤ i) (h2 : i < 2 ^ 62) (h3 : -(2 ^ 62) ≤ j) (h4 : j < 2 ^ 62) (h : FoR i (j - i).toNat g tb D σ H) : ∃ i' j' : Int, [V.int i, V.int j] = [V.int i', V.int j'] ∧ (-(2 ^ 62) ≤ i' ∧ i' < 2 ^ 62 ∧ -(2 ^ 62) ≤ j' ∧ j' < 2 ^ 62) ∧ FoR i' (j' - i').toNat g tb D σ H := ⟨i, j, rfl, ⟨h1, h2, h3, h4⟩, h⟩
theorem rd_forLa {g : TG} {tb : TS} (h : At W H a (.lst xs)) (k : FoG K a g tb D σ H) : ∃ a', V.ref a = V.ref a' ∧ (∃ xs, SqL K H a' xs) ∧ FoG K a' g tb D σ H := ⟨a, rfl, ⟨xs, h.sl⟩, k⟩
/-- over range: Pv by the turn -/
theorem for_r {lo : Int} {m n : Nat} {tb : TS} (Pv : Nat → L2.St → Hp → Prop) (h0 : Pv 0 σ H) (hs : ∀ (i : Nat) σ H, i < n → Pv i σ H → tb { D with nx := Pv (i + 1), ct := Pv (i + 1), bk := D.nx } (σ.set m (some (.int (lo + i)))) H) (hd : ∀ σ H, Pv n σ H → D.nx σ H) : FoR lo n (gName m) tb D σ H :=
  for_range Pv h0 hs hd
theorem for_l {g : TG} {tb : TS} (Pv : Nat → L2.St → Hp → Prop) (h0 : Pv 0 σ H) (hl : ∀ i σ H, i ≤ xs.length → Pv i σ H → At W H a (.lst xs)) (hs : ∀ i x σ H, xs[i]? = some x → Pv i σ H → g x σ H fun σ2 H2 => tb { D with nx := Pv (i + 1), ct := Pv (i + 1), bk := D.nx } σ2 H2) (hd : ∀ σ H, Pv xs.length σ H → D.nx σ H) : FoG K a g tb D σ H :=
  for_list Pv h0 (fun i σ H h p => (hl i σ H h p).sl) hs hd
/-- an append to a list of our own (unknown at H0) -/
theorem rd_append {H0 : Hp} (e : Ex W H0 H) (h0 : H0 p = none) (h : At W H p (.lst xs)) (hz : xs.length < 1000000)
    (k : ∀ H2, Ex W H0 H2 → At W H2 p (.lst (xs ++ [y])) → (∀ q o, q ≠ p → At W H q o → At W H2 q o) → Q .non H2) : rAppend (.ref p) [y] H Q :=
  ⟨p, xs, y, rfl, rfl, h.1, sz_lt hz, k _ (e.mut h0 h) (.mut e.iv h) fun _ _ ne q => .other e.iv h q ne⟩
end
end Lw

/-! Lw2: loops and comprehensions over anything that is walked, enumerate with a start, dicts, texts. -/
namespace Lw
open PySem L2 PySem.Spec PyProof.Rows

/-! ### enumerate(xs, start=k), enumerate of a tuple -/
/-- a type of the language called with named arguments -/
theorem callWith_tyK {M : Model} {A : Around} {E : Value → Shared → Prop} {s : Shared} {env : Env} {pos : Pos} {T : String} {e : Expr} {rest : List Expr} {kws : List Keyword} {Q : Value → Shared → Prop}
    (h : wpAny M A (spliced (backTo pos (starEach (e :: rest) env))) (fun vs s₁ => wpAny M A (evalAll ((backToKw pos (keywordEach kws env)).map (·.2)))
      (fun zs s₂ => wpAny M A (call (.type T) vs (((backToKw pos (keywordEach kws env)).filterMap (·.1)).zip zs)) Q E s₂) E s₁) E s)
    (he : backTo pos (starEach (e :: rest) env) = (false, eval e env) :: backTo pos (starEach rest env)) (hp : (backTo pos (starEach (e :: rest) env)).any (·.1) = false)
    (ha : (backToKw pos (keywordEach kws env)).all (·.1.isSome) = true) (hk : (backToKw pos (keywordEach kws env)).any (·.1.isNone) = false) :
    wpAny M A (callWith pos (.type T) [] (backTo pos (starEach (e :: rest) env)) (backToKw pos (keywordEach kws env))) Q E s := by
  have h1 : wpAny M A (evalArgs (.type T) true (backTo pos (starEach (e :: rest) env)) (backToKw pos (keywordEach kws env))) (fun a s₁ => wpAny M A (call (.type T) ([] ++ a.pos) a.kw) Q E s₁) E s := by
    rw [he] at h ⊢
    exact evalArgs_kwB ha h
  unfold callWith
  refine wpAny_bind (wpAny_holding (wpAny_mono h1 (fun a s₁ q => wpAny_bind (wpAny_standAt ?_)) fun _ _ x => x))
  simp only [hp, hk, Bool.or_false]
  exact wpAny_bind (wpAny_pure (wpAny_bind (wpAny_mono q (fun r s₂ hr => wpAny_bind (wpAny_holding (wpAny_point (wpAny_pure hr)))) fun _ _ x => x)))
def IteL (K : PySem.W.Frag) (c : Int) (a : Addr) : It :=
  ⟨fun i H => ∃ xs x, SqL K H a xs ∧ xs[i]? = some x, fun i H v H' => ∃ T x, v = .ref T ∧ H T = none ∧ H' = upd H T (.tup [.int (c + (i : Nat)), x]) ∧ ∀ xs, SqL K H a xs → xs[i]? = some x, fun i H => ∃ xs, SqL K H a xs ∧ xs.length ≤ i⟩
def IteT (K : PySem.W.Frag) (c : Int) (a : Addr) : It :=
  ⟨fun i H => ∃ xs x, SqT K H a xs ∧ xs[i]? = some x, fun i H v H' => ∃ T x, v = .ref T ∧ H T = none ∧ H' = upd H T (.tup [.int (c + (i : Nat)), x]) ∧ ∀ xs, SqT K H a xs → xs[i]? = some x, fun i H => ∃ xs, SqT K H a xs ∧ xs.length ≤ i⟩
/-- one turn of it, told by what its source draws -/
theorem enum_turn {elts : List Expr} {kk : Nat} {tpos : Pos} {X : Cx} {pins : List (Addr × Obj)} {s : Shared} {σ : L2.St} {H : Hp} {E : Value → Shared → Prop} {e it src : Addr} {n i : Nat} {c : Int} {x : V} {u old : Value} {P : Nat → Value → Prop} {S : Nat → Heap → Prop} {tn' : Heap → Prop} {y : V → Hp → Prop}
    (I : Inv X pins σ H s) (D : Draws X.prog X.w X.A.in1 it [it, src] n P S) (hf : ∀ b ∈ [e, it], FpOk X pins H b) (he : IsEnum s.heap e it (c + ((i : Nat) : Int)) old) (hst : S i s.heap) (hi : i < n) (hne : e ≠ it) (hns : e ≠ src)
    (hP : ∀ v, P i v → v = u) (ru : RelV x u) (hs : ∀ h, S (i + 1) h → ∃ o, h.get? it = some o) (hk : ∀ h h', S (i + 1) h → (∀ b o, b ≠ e → h.get? b = some o → h'.get? b = some o) → S (i + 1) h')
    (ht : ∀ h, (∃ old, IsEnum h e it (c + ((i + 1 : Nat) : Int)) old) → S (i + 1) h → tn' h) (hy : ∀ T, H T = none → y (.ref T) (upd H T (.tup [.int (c + (i : Nat)), x]))) :
    wpAny (model X.prog X.w) X.A (pyNext (.ref e)) (fun r s1 => ∃ v, r = some v ∧
      wpAny (model X.prog X.w) X.A (letOwnedTupleGo (.Tuple elts kk tpos) (.ref e) v) (fun _ s2 => ∃ x' H', Inv X pins σ H' s2 ∧ RelV x' v ∧ y x' H' ∧ tn' s2.heap ∧ ∀ b ∈ [e, it], H' b = none) E s1) E s := by
  have hel : e < s.heap.objs.size := Heap.lt_size he
  have hil : it < s.heap.objs.size := by obtain ⟨_, q⟩ := D.live _ _ hst; exact Heap.lt_size q
  refine wpAny_pyNext_enum_itemC D he hst hi hne (by simp [hne, hns]) fun v h' tk hv ho hs' hT hsz hb => ?_
  cases hP v hv
  refine ⟨_, rfl, wpAny_letOwnedTupleGo_enum (s := { s with heap := h', toks := tk + 1 }) ho fun h2 he2 sb => ?_⟩
  have hT2 : h2.get? s.heap.objs.size = some { cls := .type "tuple", data := .seq #[.int (c + (i : Nat)) tk, u] } := (sb.2 _ (Nat.ne_of_gt hel)).trans hT
  have new : ObjOk X.prog X.w (upd H s.heap.objs.size (.tup [.int (c + (i : Nat)), x])) h2 s.heap.objs.size (.tup [.int (c + (i : Nat)), x]) :=
    ⟨by show 2 ≤ sizeLine; decide, [.int (c + (i : Nat)) tk, u], .cons ⟨_, rfl⟩ (.cons ru .nil), ⟨_, hT2, rfl, _, rfl⟩⟩
  have I2 : Inv X pins σ (upd H s.heap.objs.size (.tup [.int (c + (i : Nat)), x])) { s with heap := h2, toks := tk + 1 } :=
    I.turnedNew (ch := [e, it]) (fun b ob hc q => (sb.2 b (fun z => hc (by simp [z]))).trans (hb b ob (fun z => hc (by simp [z])) (fun z => hc (by simp [z])) q)) hf (Nat.le_refl _) new
  refine ⟨.ref s.heap.objs.size, _, I2, rfl, hy _ (I.hok.fresh (Nat.le_refl _)), ht _ ⟨u, ?_⟩ (hk _ _ hs' fun b o ne q => (sb.2 b ne).trans q), fun b hm => ?_⟩
  · have e1 : c + ((i + 1 : Nat) : Int) = c + (i : Int) + 1 := by omega
    rw [e1]; exact he2
  · have hlt : b < s.heap.objs.size := by
      rcases List.mem_cons.mp hm with z | z
      · rw [z]; exact hel
      · rw [List.mem_singleton.mp z]; exact hil
    rw [upd_ne (Nat.ne_of_lt hlt)]
    exact (hf b hm).1
theorem isEnum_ne_seq {h : Heap} {e it a : Addr} {c : Int} {old : Value} {ob : Obj} {t : String} (he : IsEnum h e it c old) (hl : h.get? a = some ob) (hc : ob.cls = .type t) (ht : t ≠ "enumerate") : e ≠ a := fun z => by
  rw [← z, show h.get? e = _ from he] at hl
  cases hl
  exact ht (by injection hc with q; exact q.symm)
theorem turn_enumL {P : Program} {w : World} {K : PySem.W.Frag} {elts : List Expr} {kk : Nat} {tpos : Pos} (c : Int) (a e it : Addr) :
    Turn P w K (.Tuple elts kk tpos) (IteL K c a) [e, it] e (fun i h => (∃ old, IsEnum h e it (c + ((i : Nat) : Int)) old) ∧ h.IsListIter it a i ∧ e ≠ it) where
  mem := by simp
  obj := fun i h st b hb => by
    obtain ⟨⟨old, he⟩, ⟨o, ho, _, hd⟩, _⟩ := st
    rcases List.mem_cons.mp hb with z | z
    · rw [z]; exact ⟨_, he, fun v q => nomatch q⟩
    · rw [List.mem_singleton.mp z]; exact ⟨o, ho, fun v q => by rw [hd] at q; cases q⟩
  keep := fun i h h' st k => let ⟨⟨old, he⟩, hi, hne⟩ := st; ⟨⟨old, k e (by simp) _ he⟩, hi.at fun o q => k it (by simp) o q, hne⟩
  item := by
    intro X hP hw hK hc i pins s σ H E I hf st hg
    subst hP hw hK
    obtain ⟨⟨old, he⟩, hit, hne⟩ := st
    obtain ⟨xs, x, hq, hx⟩ := hg
    obtain ⟨its, rv, p, hz⟩ := I.list hq
    obtain ⟨u, hu, ru⟩ := rv.get hx
    obtain ⟨ol, hol, hcl, _⟩ := p.isList
    obtain ⟨oi, hoi, hci, _⟩ := id hit
    have hai : a ≠ it := fun z => by
      rw [z, hoi] at hol
      cases hol
      rw [hci] at hcl
      injection hcl with q; exact absurd q (by decide)
    have hi : i < its.toArray.size := by simpa using (List.getElem?_eq_some_iff.mp hu).1
    refine enum_turn (y := (IteL X.K c a).yld i H) (tn' := fun h => (∃ old, IsEnum h e it (c + ((i + 1 : Nat) : Int)) old) ∧ h.IsListIter it a (i + 1) ∧ e ≠ it) I (Draws.list (show X.A.in1.handled = none from I.ok.hd hc) it a hai its.toArray) hf he ⟨hit, p.isList⟩ hi hne (isEnum_ne_seq he hol hcl (by decide)) (u := u) (fun v hv => ?_) ru (fun h q => ?_) (fun h h' q k => ?_) (fun h q r => ⟨q, r.1, hne⟩) fun T hT => ⟨T, x, rfl, hT, rfl, fun ys hy => by rw [I.list_inj hy hq]; exact hx⟩
    · have hv' : its[i]? = some v := by simpa using hv
      rw [hu] at hv'; exact (Option.some.inj hv').symm
    · obtain ⟨o, ho, _⟩ := q.1; exact ⟨o, ho⟩
    · exact ⟨q.1.at fun o z => k _ o (Ne.symm hne) z, q.2.at fun o z => k _ o (isEnum_ne_seq he hol hcl (by decide)).symm z⟩
  done := by
    intro X hP hw hK hc i pins s σ H E I hf st hg
    subst hP hw hK
    obtain ⟨⟨old, he⟩, hit, hne⟩ := st
    obtain ⟨xs, hq, hx⟩ := hg
    obtain ⟨its, rv, p, hz⟩ := I.list hq
    obtain ⟨f0, f1, f2, f3, f4, f5⟩ := hf it (by simp)
    have hl := rv.length
    have hT : s.TypeIs (.ref e) "enumerate" := ⟨_, he, rfl⟩
    unfold pyNext
    refine wpAny_bind (wpAny_attempt (wpAny_callSpecial?_slot (name := Str.ofString "__next__") hT F.slot_enumerate_next
      (wpAny_call_entry F.slot_enumerate_next hT F.entry_enumerate_next ?_ (F.args_enumerate_next_1 _))))
    show wpAny _ _ (field (.ref e) 2 >>= _) _ _ _
    refine wpAny_bind (wpAny_field he rfl (x := .ref it) rfl ?_)
    refine wpAny_bind (wpAny_nextOf_list_end (I.ok.hd hc) hit p.isList (by simp; omega) fun h' x eb hx' => ?_)
    obtain ⟨o, ho, hcs⟩ := hx'
    refine wpAny_bind (wpAny_isInstance (T := "StopIteration") (b := true) ⟨o, ho, hcs⟩ isSubtype_stop ?_)
    exact wpAny_pure ⟨rfl, I.turned (t' := s.toks) (fun b o hb q => eb b o hb q) f0 f1 f3 f4 f5⟩
  self := fun A i s Q E st h => let ⟨⟨_, he⟩, _⟩ := st; wpAny_pyIter_enum he h
theorem turn_enumT {P : Program} {w : World} {K : PySem.W.Frag} {elts : List Expr} {kk : Nat} {tpos : Pos} (c : Int) (a e it : Addr) :
    Turn P w K (.Tuple elts kk tpos) (IteT K c a) [e, it] e (fun i h => (∃ old, IsEnum h e it (c + ((i : Nat) : Int)) old) ∧ h.IsTupleIter it a i ∧ e ≠ it) where
  mem := by simp
  obj := fun i h st b hb => by
    obtain ⟨⟨old, he⟩, ⟨o, ho, _, hd⟩, _⟩ := st
    rcases List.mem_cons.mp hb with z | z
    · rw [z]; exact ⟨_, he, fun v q => nomatch q⟩
    · rw [List.mem_singleton.mp z]; exact ⟨o, ho, fun v q => by rw [hd] at q; cases q⟩
  keep := fun i h h' st k => let ⟨⟨old, he⟩, hi, hne⟩ := st; ⟨⟨old, k e (by simp) _ he⟩, hi.at fun o q => k it (by simp) o q, hne⟩
  item := by
    intro X hP hw hK hc i pins s σ H E I hf st hg
    subst hP hw hK
    obtain ⟨⟨old, he⟩, hit, hne⟩ := st
    obtain ⟨xs, x, hq, hx⟩ := hg
    obtain ⟨its, rv, p, hz⟩ := I.tuple hq
    obtain ⟨u, hu, ru⟩ := rv.get hx
    have p' : s.heap.IsTuple a its.toArray := p
    obtain ⟨ol, hol, hcl, _⟩ := id p'
    obtain ⟨oi, hoi, hci, _⟩ := id hit
    have hai : a ≠ it := fun z => by
      rw [z, hoi] at hol
      cases hol
      rw [hci] at hcl
      injection hcl with q; exact absurd q (by decide)
    have hi : i < its.toArray.size := by simpa using (List.getElem?_eq_some_iff.mp hu).1
    refine enum_turn (y := (IteT X.K c a).yld i H) (tn' := fun h => (∃ old, IsEnum h e it (c + ((i + 1 : Nat) : Int)) old) ∧ h.IsTupleIter it a (i + 1) ∧ e ≠ it) I (Draws.tuple (show X.A.in1.handled = none from I.ok.hd hc) it a hai its.toArray) hf he ⟨hit, p'⟩ hi hne (isEnum_ne_seq he hol hcl (by decide)) (u := u) (fun v hv => ?_) ru (fun h q => ?_) (fun h h' q k => ?_) (fun h q r => ⟨q, r.1, hne⟩) fun T hT => ⟨T, x, rfl, hT, rfl, fun ys hy => by rw [I.tuple_inj hy hq]; exact hx⟩
    · have hv' : its[i]? = some v := by simpa using hv
      rw [hu] at hv'; exact (Option.some.inj hv').symm
    · obtain ⟨o, ho, _⟩ := q.1; exact ⟨o, ho⟩
    · exact ⟨q.1.at fun o z => k _ o (Ne.symm hne) z, q.2.at fun o z => k _ o (isEnum_ne_seq he hol hcl (by decide)).symm z⟩
  done := by
    intro X hP hw hK hc i pins s σ H E I hf st hg
    subst hP hw hK
    obtain ⟨⟨old, he⟩, hit, hne⟩ := st
    obtain ⟨xs, hq, hx⟩ := hg
    obtain ⟨its, rv, p, hz⟩ := I.tuple hq
    have p' : s.heap.IsTuple a its.toArray := p
    obtain ⟨f0, f1, f2, f3, f4, f5⟩ := hf it (by simp)
    have hl := rv.length
    have hT : s.TypeIs (.ref e) "enumerate" := ⟨_, he, rfl⟩
    unfold pyNext
    refine wpAny_bind (wpAny_attempt (wpAny_callSpecial?_slot (name := Str.ofString "__next__") hT F.slot_enumerate_next
      (wpAny_call_entry F.slot_enumerate_next hT F.entry_enumerate_next ?_ (F.args_enumerate_next_1 _))))
    show wpAny _ _ (field (.ref e) 2 >>= _) _ _ _
    refine wpAny_bind (wpAny_field he rfl (x := .ref it) rfl ?_)
    refine wpAny_bind (wpAny_nextOf_tuple_end (I.ok.hd hc) hit p' (by simp; omega) fun h' x eb hx' => ?_)
    obtain ⟨o, ho, hcs⟩ := hx'
    refine wpAny_bind (wpAny_isInstance (T := "StopIteration") (b := true) ⟨o, ho, hcs⟩ isSubtype_stop ?_)
    exact wpAny_pure ⟨rfl, I.turned (t' := s.toks) (fun b o hb q => eb b o hb q) f0 f1 f3 f4 f5⟩
  self := fun A i s Q E st h => let ⟨⟨_, he⟩, _⟩ := st; wpAny_pyIter_enum he h
/-- its two new cells are nobody's -/
theorem fp_two {X : Cx} {pins : List (Addr × Obj)} {σ : L2.St} {H : Hp} {s : Shared} (I : Inv X pins σ H s) : ∀ b ∈ [s.heap.objs.size + 1, s.heap.objs.size], FpOk X pins H b := fun b hb => by
  have hle : s.heap.objs.size ≤ b := by
    rcases List.mem_cons.mp hb with z | z
    · rw [z]; exact Nat.le_add_right _ _
    · rw [List.mem_singleton.mp z]; exact Nat.le_refl _
  exact I.fpOk hle (I.hok.fresh hle)
/-- enumerate(list, start=k) -/
def iEnumS (K : PySem.W.Frag) (ta tk : TA) : TI := fun σ H R => ta σ H fun vs H1 => tk σ H1 fun zs H2 => ∃ a xs c, vs = [.ref a] ∧ zs = [.int c] ∧ -(2 ^ 63) ≤ c ∧ c < 2 ^ 63 ∧ SqL K H2 a xs ∧ R (IteL K c a) H2
theorem pi_enumS {X : Cx} {e : Expr} {ta tk : TA} {kws : List Keyword} {p pos tpos : Pos} {elts : List Expr} {kk : Nat} (hg : Gl X "enumerate") (hm : X.mg "enumerate" = none) (ha : PA X [e] ta) (hk : PK X kws tk)
    (he : backTo pos (starEach [e] X.env) = (false, eval e X.env) :: backTo pos (starEach [] X.env) := by rfl) (hp : (backTo pos (starEach [e] X.env)).any (·.1) = false := by rfl)
    (hal : (backToKw pos (keywordEach kws X.env)).all (·.1.isSome) = true := by rfl) (hn : (backToKw pos (keywordEach kws X.env)).any (·.1.isNone) = false := by rfl) (hks : (backToKw pos (keywordEach kws X.env)).filterMap (·.1) = [Str.ofString "start"] := by rfl) :
    PI X (.Tuple elts kk tpos) (.Call (.Name "enumerate" p) [e] kws pos) (iEnumS X.K ta tk) := by
  refine ⟨fun pins s σ H R I h => ?_⟩
  refine wpAny_Call_Name_kw (ld_blt I hg hm boot_enumerate ?_)
  refine callWith_tyK (thn (ha.run pos pins s σ H _ I h) fun us s1 ⟨vs, H1, I1, r1, q1⟩ => thn (hk.run pos pins s1 σ H1 _ I1 q1) fun ws s2 ⟨zs, H2, I2, r2, q2⟩ => ?_) he hp hal hn
  rw [hks]
  obtain ⟨a, xs, c, ex, ez, c0, c1, hq, q⟩ := q2
  subst ex ez
  cases r1 with
  | cons r rr =>
    cases rr
    cases r
    cases r2 with
    | cons r' rr' =>
      cases rr'
      obtain ⟨t, rfl⟩ := r'
      obtain ⟨its, rv, p', hz⟩ := I2.list hq
      refine enum_begins_start (begins_list a its.toArray) p'.isList c0 c1 fun h' he' hit hsz hkeep => wpAny_pyIter_enum he' ?_
      have I3 : Inv X pins σ H2 { s2 with heap := h' } := I2.kept (t' := s2.toks) hkeep
      refine ⟨s2.heap.objs.size + 1, [s2.heap.objs.size + 1, s2.heap.objs.size], _, _, H2, rfl, I3, turn_enumL c a (s2.heap.objs.size + 1) s2.heap.objs.size, ⟨⟨.none, ?_⟩, ⟨_, hit, rfl, rfl⟩, Nat.succ_ne_self _⟩, fp_two I2, q⟩
      show IsEnum h' _ _ (c + ((0 : Nat) : Int)) _
      rw [show c + ((0 : Nat) : Int) = c by omega]
      exact he'
/-- enumerate(v), whatever v's iterator is -/
theorem enum_new1 {v : Value} {o : Obj} {G : Heap → Prop} (B : Begins v o G) : Meets (Builtin.«enumerate.__new__» ⟨[.type "enumerate", v], []⟩) (fun _ R s => G s.heap ∧ R (.ok (.ret (.ref (s.heap.push o).objs.size)))
    { s with heap := (s.heap.push o).push { cls := .type "enumerate", data := .fields #[.none, .bool false, .ref s.heap.objs.size, rawInt 0, .none, .none] } }) := by
  refine .of_wp fun prog w A R s hh => ?_
  obtain ⟨hp, g, d, tk, os⟩ := s
  obtain ⟨hG, hR⟩ := hh
  have hsub := sub_enumerate
  have it1 : ∀ {A' : Around} {E Q : Value → Shared → Prop}, Q (.ref hp.objs.size) ⟨hp.push o, g, d, tk, os⟩ → wpAny (model prog w) A' (pyIter v) Q E ⟨hp, g, d, tk, os⟩ := fun q => B.iter prog w _ _ ⟨hp, g, d, tk, os⟩ _ hG q
  wp_walk using it1
  refine wpAny_stack_any fun st => wpAny_pure ?_
  split
  · rename_i c _ _ _ _ _
    cases (c == Value.type "enumerate") <;> (wp_walk using it1; exact ⟨_, rfl, hR⟩)
  · wp_walk using it1
    exact ⟨_, rfl, hR⟩
theorem enum_begins1 {prog : Program} {w : World} {A : Around} {E : Value → Shared → Prop} {s : Shared} {v : Value} {o : Obj} {G : Heap → Prop} {Q : Value → Shared → Prop} (B : Begins v o G) (hG : G s.heap)
    (k : ∀ h', IsEnum h' (s.heap.objs.size + 1) s.heap.objs.size 0 .none → h'.get? s.heap.objs.size = some o → h'.objs.size = s.heap.objs.size + 2 → (∀ b o, s.heap.get? b = some o → h'.get? b = some o) → Q (.ref (s.heap.objs.size + 1)) { s with heap := h' }) :
    wpAny (model prog w) A (call (.type "enumerate") [v]) Q E s := by
  refine callType_new F.called_enumerate (by decide) (F.typeCall_enumerate_1 _) (F.newCall_enumerate_1 _) (fun obj => F.args_object_init_2 obj _) F.entry_enumerate_new (enum_new1 B) ⟨hG, ?_⟩
  have e1 : (s.heap.push o).objs.size = s.heap.objs.size + 1 := Heap.size_push ..
  show _ ∧ _
  rw [e1]
  have e2 := Heap.get?_push_size (s.heap.push o) (o := { cls := .type "enumerate", data := .fields #[.none, .bool false, .ref s.heap.objs.size, rawInt 0, .none, .none] }) rfl
  rw [e1] at e2
  exact ⟨⟨_, e2, rfl⟩, k _ e2 (Heap.get?_push_of_some _ (Heap.get?_push_size _ B.free)) (by rw [Heap.size_push, e1]) fun b o q => Heap.get?_push_of_some _ (Heap.get?_push_of_some _ q)⟩
/-- enumerate(tuple) -/
def iEnumT (K : PySem.W.Frag) (ta : TA) : TI := fun σ H R => ta σ H fun vs H1 => ∃ a xs, vs = [.ref a] ∧ SqT K H1 a xs ∧ R (IteT K 0 a) H1
theorem pi_enumT {X : Cx} {e : Expr} {ta : TA} {p pos tpos : Pos} {elts : List Expr} {kk : Nat} (hg : Gl X "enumerate") (hm : X.mg "enumerate" = none) (ha : PA X [e] ta) (hs : starEach [e] X.env = [(false, eval e X.env)] := by rfl) :
    PI X (.Tuple elts kk tpos) (.Call (.Name "enumerate" p) [e] [] pos) (iEnumT X.K ta) := by
  refine ⟨fun pins s σ H R I h => ?_⟩
  refine Call_ (ld_blt I hg hm boot_enumerate (PyProof.Rows.callWith_type1 (thn (ha.run pos pins s σ H _ I h) fun us s1 ⟨vs, H1, I1, r1, q1⟩ => ?_) hs rfl))
  obtain ⟨a, xs, ex, hq, q⟩ := q1
  subst ex
  cases r1 with
  | cons r rr =>
    cases rr
    cases r
    obtain ⟨its, rv, p', hz⟩ := I1.tuple hq
    refine enum_begins1 (begins_tuple a its.toArray) (show s1.heap.IsTuple a its.toArray from p') fun h' he' hit hsz hkeep => wpAny_pyIter_enum he' ?_
    have I3 : Inv X pins σ H1 { s1 with heap := h' } := I1.kept (t' := s1.toks) hkeep
    exact ⟨s1.heap.objs.size + 1, [s1.heap.objs.size + 1, s1.heap.objs.size], _, _, H1, rfl, I3, turn_enumT 0 a (s1.heap.objs.size + 1) s1.heap.objs.size, ⟨⟨.none, he'⟩, ⟨_, hit, rfl, rfl⟩, Nat.succ_ne_self _⟩, fp_two I1, q⟩

section
variable {W : Wd} {K : PySem.W.Frag} {H H1 : Hp} {σ : L2.St} {D : Ends} {Q : VK} {v x y : V} {i j c : Int} {n m : Nat} {s z : Str} {b : Bool} {p a : Addr} {xs ys vs : List V}
variable {ta tb te : TE} {t u : TS} {tr tk : TA} {g : TG} {tS : TS}
/-! ### loops over anything that is walked -/
def FoW (J : It) (g : TG) (tb : TS) (D : Ends) (σ : L2.St) (H : Hp) : Prop := ∃ W : Nat → Nat → L2.St → Hp → Prop, (∃ m, W 0 m σ H) ∧ ∀ i m σ H, W i m σ H →
  (J.stop i H ∧ D.nx σ H) ∨ (J.go i H ∧ ∃ N : L2.St → Hp → Prop, (∀ σ' H', N σ' H' → ∃ m', m' < m ∧ W (i + 1) m' σ' H') ∧ ∀ x H', J.yld i H x H' → g x σ H' fun σ2 H2 => tb { D with nx := N, ct := N, bk := D.nx } σ2 H2)
theorem rd_forS (h : te σ H fun v H1 => ∃ x, v = .str x ∧ FoW (Its x) g tS D σ H1) : tFor (iStr te) g tS D σ H := h
theorem rd_srcS {P : Str → Prop} (k : P s) : ∃ x, V.str s = .str x ∧ P x := ⟨s, rfl, k⟩
theorem rd_forT (h : te σ H fun x H1 => ∃ a, x = .ref a ∧ (∃ xs, SqT K H1 a xs) ∧ FoW (Itt K a) g tS D σ H1) : tFor (iTup K te) g tS D σ H := h
theorem rd_srcT {P : Addr → Prop} (h : At W H a (.tup xs)) (k : P a) : ∃ a', V.ref a = .ref a' ∧ (∃ xs, SqT K H a' xs) ∧ P a' := ⟨a, rfl, ⟨xs, h.st⟩, k⟩
theorem rd_forE (h : tr σ H fun vs H1 => tk σ H1 fun zs H2 => ∃ a xs c, vs = [.ref a] ∧ zs = [.int c] ∧ -(2 ^ 63) ≤ c ∧ c < 2 ^ 63 ∧ SqL K H2 a xs ∧ FoW (IteL K c a) g tS D σ H2) : tFor (iEnumS K tr tk) g tS D σ H := h
theorem rd_srcE {P : Addr → Int → Prop} (h : At W H a (.lst xs)) (c0 : -(2 ^ 63) ≤ c) (c1 : c < 2 ^ 63) (k : P a c) : ∃ a' xs c', [V.ref a] = [.ref a'] ∧ [V.int c] = [.int c'] ∧ -(2 ^ 63) ≤ c' ∧ c' < 2 ^ 63 ∧ SqL K H a' xs ∧ P a' c' := ⟨a, xs, c, rfl, rfl, c0, c1, h.sl, k⟩
theorem rd_forET (h : tr σ H fun vs H1 => ∃ a xs, vs = [.ref a] ∧ SqT K H1 a xs ∧ FoW (IteT K 0 a) g tS D σ H1) : tFor (iEnumT K tr) g tS D σ H := h
theorem rd_srcET {P : Addr → Prop} (h : SqT K H a xs) (k : P a) : ∃ a' xs, [V.ref a] = [.ref a'] ∧ SqT K H a' xs ∧ P a' := ⟨a, xs, rfl, h, k⟩
theorem for_s (Pv : Nat → L2.St → Hp → Prop) (h0 : Pv 0 σ H) (hs : ∀ i c σ H, s.cps[i]? = some c → Pv i σ H → g (.str ⟨#[c]⟩) σ H fun σ2 H2 => tS { D with nx := Pv (i + 1), ct := Pv (i + 1), bk := D.nx } σ2 H2) (hd : ∀ σ H, Pv s.cps.size σ H → D.nx σ H) : FoW (Its s) g tS D σ H :=
  for_it walk_str Pv h0 (fun _ _ _ _ _ => trivial) (fun i x σ H H' hi p y => by
    obtain ⟨rfl, c, hc, rfl⟩ := y
    exact hs i c σ _ hc p) hd
theorem walk_enumL : Walk (IteL K c a) xs.length (fun H => SqL K H a xs) (YPair (fun i => some (.int (c + (i : Nat)))) (fun i => xs[i]?)) := by
  refine ⟨fun i _ hi q => ⟨xs, xs[i], q, by simp [hi]⟩, fun _ q => ⟨xs, q, Nat.le_refl _⟩, fun i H v H' _ q y => ?_⟩
  obtain ⟨T, x, h1, h2, h3, h4⟩ := y
  exact ⟨T, _, x, h1, h2, h3, rfl, h4 xs q⟩
theorem walk_enumT : Walk (IteT K c a) xs.length (fun H => SqT K H a xs) (YPair (fun i => some (.int (c + (i : Nat)))) (fun i => xs[i]?)) := by
  refine ⟨fun i _ hi q => ⟨xs, xs[i], q, by simp [hi]⟩, fun _ q => ⟨xs, q, Nat.le_refl _⟩, fun i H v H' _ q y => ?_⟩
  obtain ⟨T, x, h1, h2, h3, h4⟩ := y
  exact ⟨T, _, x, h1, h2, h3, rfl, h4 xs q⟩
theorem for_e (Pv : Nat → L2.St → Hp → Prop) (h0 : Pv 0 σ H) (hv : ∀ i σ H, Pv i σ H → W.iv H ∧ At W H a (.lst xs))
    (hs : ∀ i x T σ H H', xs[i]? = some x → Pv i σ H → H T = none → Ex W H H' → At W H' T (.tup [.int (c + (i : Nat)), x]) → g (.ref T) σ H' fun σ2 H2 => tS { D with nx := Pv (i + 1), ct := Pv (i + 1), bk := D.nx } σ2 H2)
    (hd : ∀ σ H, Pv xs.length σ H → D.nx σ H) : FoW (IteL K c a) g tS D σ H :=
  for_it (walk_enumL (xs := xs)) Pv h0 (fun i σ H _ p => (hv i σ H p).2.sl) (fun i x σ H H' hi p y => by
    obtain ⟨T, x1, x2, rfl, hT, rfl, e1, e2⟩ := y
    cases e1
    exact hs i x2 T σ H _ e2 p hT (Ex.new (hv i σ H p).1 hT) (At.new (hv i σ H p).1 hT)) hd
theorem for_et (hq : ∀ H, SqT K H a xs) (Pv : Nat → L2.St → Hp → Prop) (h0 : Pv 0 σ H) (hv : ∀ i σ H, Pv i σ H → W.iv H)
    (hs : ∀ i x T σ H H', xs[i]? = some x → Pv i σ H → H T = none → Ex W H H' → At W H' T (.tup [.int (c + (i : Nat)), x]) → g (.ref T) σ H' fun σ2 H2 => tS { D with nx := Pv (i + 1), ct := Pv (i + 1), bk := D.nx } σ2 H2)
    (hd : ∀ σ H, Pv xs.length σ H → D.nx σ H) : FoW (IteT K c a) g tS D σ H :=
  for_it (walk_enumT (xs := xs)) Pv h0 (fun i σ H _ p => hq H) (fun i x σ H H' hi p y => by
    obtain ⟨T, x1, x2, rfl, hT, rfl, e1, e2⟩ := y
    cases e1
    exact hs i x2 T σ H _ e2 p hT (Ex.new (hv i σ H p) hT) (At.new (hv i σ H p) hT)) hd
/-! ### comprehensions over anything that is walked: S is what holds of the items made (without the new list) -/
def LcW (J : It) (g : TG) (tt : TT) (te : TE) (ws : List Nat) (σ : L2.St) (H1 : Hp) (Q : VK) : Prop := ∀ D, H1 D = none → ∃ W : Nat → Nat → Hp → Prop, (∃ m, W 0 m (upd H1 D (.lst []))) ∧ ∀ i m H, W i m H →
  (J.stop i H ∧ Q (.ref D) H) ∨ (J.go i H ∧ ∃ Nx : Hp → Prop, (∀ H', Nx H' → ∃ m', m' < m ∧ W (i + 1) m' H') ∧ ∀ x H', J.yld i H x H' → g x (wipe σ ws) H' fun σ2 H2 => wipe σ2 ws = wipe σ ws ∧ tt σ2 H2 fun b H3 =>
    if b = true then te σ2 H3 fun y H4 => ∃ acc, H4 D = some (.lst acc) ∧ acc.length < sizeLine ∧ Nx (upd H4 D (.lst (acc ++ [y]))) else Nx H3)
theorem rd_lcS {tt : TT} {ws : List Nat} (h : ta σ H fun v H1 => ∃ x, v = .str x ∧ LcW (Its x) g tt te ws σ H1 Q) : tLc (iStr ta) g tt te ws σ H Q := h
theorem rd_lcR {tt : TT} {ws : List Nat} (h : tr σ H fun vs H1 => ∃ j : Int, vs = [.int j] ∧ -(2 ^ 62) ≤ j ∧ j < 2 ^ 62 ∧ LcW (Itr 0 j.toNat) g tt te ws σ H1 Q) : tLc (iRng1 tr) g tt te ws σ H Q := h
theorem rd_srcR {P : Int → Prop} (h1 : -(2 ^ 62) ≤ j) (h2 : j < 2 ^ 62) (k : P j) : ∃ j' : Int, [V.int j] = [V.int j'] ∧ -(2 ^ 62) ≤ j' ∧ j' < 2 ^ 62 ∧ P j' := ⟨j, rfl, h1, h2, k⟩
theorem rd_lcL {tt : TT} {ws : List Nat} (h : ta σ H fun x H1 => ∃ a, x = .ref a ∧ (∃ xs, SqL K H1 a xs) ∧ LcW (Itl K a) g tt te ws σ H1 Q) : tLc (iList K ta) g tt te ws σ H Q := h
theorem rd_srcL {P : Addr → Prop} (h : At W H a (.lst xs)) (k : P a) : ∃ a', V.ref a = .ref a' ∧ (∃ xs, SqL K H a' xs) ∧ P a' := ⟨a, rfl, ⟨xs, h.sl⟩, k⟩
theorem hide_none {D : Addr} (h : H D = none) : Lw.hide D H = H := by
  funext q
  unfold Lw.hide
  split
  · rename_i e; rw [e, h]
  · rfl
theorem lc_w {J : It} {G : Hp → Prop} {X : Nat → V → Prop} {tt : TT} (w : Walk J n G fun i H x H' => H' = H ∧ X i x) (S : Nat → List V → Hp → Prop) (i : W.iv H) (hn : n ≤ 50000) (hG : ∀ H', Ex W H H' → G H')
    (hm : ∀ k ys H1 H2, Ex W H1 H2 → S k ys H1 → S k ys H2) (h0 : S 0 [] H)
    (hs : ∀ k x D ys H' (QV : VK) (QN : Hp → Prop), k < n → X k x → H D = none → At W H' D (.lst ys) → Ex W H H' → S k ys (Lw.hide D H') → ys.length ≤ k →
      (∀ y H4, Ex W H' H4 → S (k + 1) (ys ++ [y]) (Lw.hide D H4) → QV y H4) → (∀ H3, Ex W H' H3 → S (k + 1) ys (Lw.hide D H3) → QN H3) →
      tt ((wipe σ [m]).set m (some x)) H' fun b H3 => if b = true then te ((wipe σ [m]).set m (some x)) H3 QV else QN H3)
    (k : ∀ D H2 ys, H D = none → Ex W H H2 → At W H2 D (.lst ys) → S n ys H2 → ys.length ≤ n → Q (.ref D) H2) : LcW J (gName m) tt te [m] σ H Q := by
  intro D hD
  refine lc_it w (fun k H' => ∃ ys, Ex W H H' ∧ At W H' D (.lst ys) ∧ S k ys (Lw.hide D H') ∧ ys.length ≤ k) ⟨[], Ex.new i hD, At.new i hD, ?_, Nat.le_refl _⟩ (fun k H' _ ⟨_, e, _⟩ => hG H' e) (fun k x H1 H' hk ⟨ys, e, hd, hS, hl⟩ hx => ?_) fun H' ⟨ys, e, hd, hS, hl⟩ => ?_
  · rw [hide_upd, hide_none hD]; exact h0
  · obtain ⟨rfl, hx⟩ := hx
    refine ⟨by show wipe _ _ = _; simp [wipe, List.set_set], ?_⟩
    refine hs k x D ys _ _ _ hk hx hD hd e hS hl (fun y H4 e4 q => ⟨ys, (e4.at_ hd).1, sz_lt (by omega), ys ++ [y], (e.trans e4).mut hD (e4.at_ hd), At.mut e4.iv (e4.at_ hd), ?_, by rw [List.length_append, List.length_singleton]; omega⟩) fun H3 e3 q => ⟨ys, e.trans e3, e3.at_ hd, q, by omega⟩
    rw [hide_upd]; exact q
  · exact k D H' ys hD e hd (hm _ _ _ _ (Ex.unhide e.iv hd) hS) hl
theorem rd_yes {QB : Bool → Hp → Prop} (h : QB true H) : tYes σ H QB := h
/-! ### dicts with ints or texts as keys -/
theorem rd_dnew (i : W.iv H) (k : ∀ p H2, H p = none → Ex W H H2 → At W H2 p (.dK []) → Q (.ref p) H2) : tDNewK σ H Q := new_of i k
def DGetG (Q : VK) (a : Addr) (y : V) (H : Hp) : Prop := ∃ o, DGet H a y o ∧ Q (o.getD .non) H
def DInG (Q : VK) (neg : Bool) (x y : V) (H : Hp) : Prop := ∃ a o, x = .ref a ∧ DGet H a y o ∧ Q (.bl (if neg then !o.isSome else o.isSome)) H
def DSetG (Q : VK) (a : Addr) (y z : V) (H : Hp) : Prop := ∃ (kvs : List (Key × V)) (k : Key), H a = some (.dK kvs) ∧ y = kV k ∧ kvs.length < sizeLine ∧ (∀ v, valV kvs k = some v → Q v H) ∧ (valV kvs k = none → Q z (upd H a (.dK (putK kvs k z))))
theorem rd_dget1 (h : ta σ H fun x H1 => ∃ a, x = .ref a ∧ IsD H1 a ∧ te σ H1 fun y H2 => DGetG Q a y H2) : tDGet1 ta te σ H Q := h
theorem rd_isD {kvs : List (Key × V)} {P : Addr → Prop} (h : At W H a (.dK kvs)) (k : P a) : ∃ a', V.ref a = .ref a' ∧ IsD H a' ∧ P a' := ⟨a, rfl, .inl ⟨kvs, .inl h.1⟩, k⟩
theorem rd_dgetS {kvs : List (Key × V)} (h : At W H a (.dK kvs)) (k : Q ((valV kvs (.inr z)).getD .non) H) : DGetG Q a (.str z) H := ⟨_, DGet.k (k := .inr z) h.1, k⟩
theorem rd_din (h : ta σ H fun y H1 => te σ H1 fun x H2 => DInG Q false x y H2) : tDIn ta te σ H Q := h
theorem rd_dnin (h : ta σ H fun y H1 => te σ H1 fun x H2 => DInG Q true x y H2) : tDNotIn ta te σ H Q := h
theorem rd_dinS {kvs : List (Key × V)} (h : At W H a (.dK kvs)) (k : Q (.bl (valV kvs (.inr z)).isSome) H) : DInG Q false (.ref a) (.str z) H := ⟨a, _, rfl, DGet.k (k := .inr z) h.1, k⟩
theorem rd_dput {tv : TE} (h : tv σ H fun v H1 => ta σ H1 fun x H2 => te σ H2 fun y H3 => ∃ a H4, x = .ref a ∧ DPut H3 a y v H4 ∧ D.nx σ H4) : sDPut ta te tv D σ H := h
theorem rd_dputS {kvs : List (Key × V)} {H0 : Hp} {P : Hp → Prop} (e : Ex W H0 H) (h0 : H0 a = none) (h : At W H a (.dK kvs)) (hl : kvs.length < 1000000) (k : ∀ H2, Ex W H0 H2 → At W H2 a (.dK (putK kvs (.inr z) v)) → (∀ q o, q ≠ a → At W H q o → At W H2 q o) → P H2) :
    ∃ a' H4, V.ref a = .ref a' ∧ DPut H a' (.str z) v H4 ∧ P H4 := ⟨a, _, rfl, DPut.k (k := .inr z) h.1 (sz_lt hl), k _ (e.mut h0 h) (.mut e.iv h) fun _ _ ne q => .other e.iv h q ne⟩
theorem rd_dsetd {tx : TE} (h : ta σ H fun x H1 => ∃ a, x = .ref a ∧ IsD H1 a ∧ te σ H1 fun y H2 => tx σ H2 fun z H3 => DSetG Q a y z H3) : tDSetd ta te tx σ H Q := h
theorem rd_dsetN {kvs : List (Key × V)} {H0 : Hp} (e : Ex W H0 H) (h0 : H0 a = none) (h : At W H a (.dK kvs)) (hl : kvs.length < 1000000) (hn : valV kvs (.inr z) = none) (k : ∀ H2, Ex W H0 H2 → At W H2 a (.dK (putK kvs (.inr z) v)) → (∀ q o, q ≠ a → At W H q o → At W H2 q o) → Q v H2) :
    DSetG Q a (.str z) v H := ⟨kvs, .inr z, h.1, rfl, sz_lt hl, fun v q => (by rw [hn] at q; cases q), fun _ => k _ (e.mut h0 h) (.mut e.iv h) fun _ _ ne q => .other e.iv h q ne⟩
/-! ### texts -/
section
variable {X : Cx}
def rEndsS : V → List V → Hp → VK → Prop := fun x xs H Q => ∃ a b, x = .str a ∧ xs = [.str b] ∧ Q (.bl (Txt.endswith a b)) H
theorem m_endswith : MtR X "str.endswith" rEndsS := mt_endswith
def rStartsS : V → List V → Hp → VK → Prop := fun x xs H Q => ∃ a b, x = .str a ∧ xs = [.str b] ∧ Q (.bl (Txt.startswith a b)) H
theorem m_startswith : MtR X "str.startswith" rStartsS := mt_startswith
def rFindS : V → List V → Hp → VK → Prop := fun x xs H Q => ∃ a b, x = .str a ∧ xs = [.str b] ∧ Q (.int (Txt.find a b)) H
theorem m_find : MtR X "str.find" rFindS := mt_find
def rSplitS : V → List V → Hp → VK → Prop := fun x xs H Q => ∃ a b, x = .str a ∧ xs = [.str b] ∧ (b.length == 0) = false ∧ a.length + 2 ≤ sizeLine ∧ rNewStrs (Txt.split a b) H Q
theorem m_split : MtR X "str.split" rSplitS := mt_split
def rInSg : R2 := fun x y H Q => ∃ (c : Nat) (z : Str), x = .str ⟨#[c]⟩ ∧ y = .str z ∧ Q (.bl (decide (c ∈ z.cps.toList))) H
theorem o_inSg : OpR X (compareOp .In) rInSg := op_in_sign
def rNinSg : R2 := fun x y H Q => ∃ (c : Nat) (z : Str), x = .str ⟨#[c]⟩ ∧ y = .str z ∧ Q (.bl (!decide (c ∈ z.cps.toList))) H
theorem o_ninSg : OpR X (compareOp .NotIn) rNinSg := op_notIn_sign
def rStrB : List V → Hp → VK → Prop := fun xs H Q => (∃ i, xs = [.int i] ∧ i.natAbs.log2 < 1920 ∧ Q (.str (toString i)) H) ∨ ∃ a, xs = [.str a] ∧ Q (.str a) H
theorem c_strB : CallR X (.type "str") rStrB := by
  intro pins s σ H xs us Q I rs h
  rcases h with ⟨i, e, h1, q⟩ | ⟨a, e, q⟩
  · exact call_str_int pins s σ H xs us Q I rs ⟨i, e, h1, q⟩
  · exact SkE.call_str_str pins s σ H xs us Q I rs ⟨a, e, q⟩
end
theorem rd_ends (k : Q (.bl (Txt.endswith s z)) H) : rEndsS (.str s) [.str z] H Q := ⟨_, _, rfl, rfl, k⟩
theorem rd_starts (k : Q (.bl (Txt.startswith s z)) H) : rStartsS (.str s) [.str z] H Q := ⟨_, _, rfl, rfl, k⟩
theorem rd_find (k : Q (.int (Txt.find s z)) H) : rFindS (.str s) [.str z] H Q := ⟨_, _, rfl, rfl, k⟩
theorem rd_split (i : W.iv H) (hz : (z.length == 0) = false) (h : s.length ≤ 1000000) (k : ∀ p H2, H p = none → Ex W H H2 → At W H2 p (.lst ((Txt.split s z).map V.str)) → Q (.ref p) H2) : rSplitS (.str s) [.str z] H Q :=
  ⟨_, _, rfl, rfl, hz, Nat.le_trans (Nat.add_le_add_right h 2) (by decide), new_of i k⟩
theorem rd_tyS {P : Prop} (k : P) : tyV K "str" (.str s) H ∧ P := ⟨rfl, k⟩
theorem rd_slS {lo hi : Option Int} (h : z.length ≤ 1000000) (k : Q (.str (cutS z lo hi)) H) : rSlS (.str z) lo hi H Q := ⟨z, rfl, sz_le h, k⟩
theorem rd_ixS {c : Nat} (h : z.length ≤ 1000000) (e : atI z.cps.toList i = some c) (k : Q (.str ⟨#[c]⟩) H) : rIxS (.str z) (.int i) H Q := ⟨z, i, c, rfl, rfl, sz_le h, e, k⟩
theorem rd_inSg {c : Nat} (k : Q (.bl (decide (c ∈ z.cps.toList))) H) : rInSg (.str ⟨#[c]⟩) (.str z) H Q := ⟨c, z, rfl, rfl, k⟩
theorem rd_ninSg {c : Nat} (k : Q (.bl (!decide (c ∈ z.cps.toList))) H) : rNinSg (.str ⟨#[c]⟩) (.str z) H Q := ⟨c, z, rfl, rfl, k⟩
theorem rd_strI (h : i.natAbs.log2 < 1920) (k : Q (.str (toString i)) H) : rStrB [.int i] H Q := .inl ⟨i, rfl, h, k⟩
theorem rd_strS (k : Q (.str s) H) : rStrB [.str s] H Q := .inr ⟨s, rfl, k⟩
theorem rd_rep (i : W.iv H) (h : At W H p (.lst xs)) (h0 : -(2 ^ 63) ≤ j) (h1 : j < 2 ^ 63) (hz : xs.length * j.toNat ≤ 1000000) (k : ∀ l H2, H l = none → Ex W H H2 → At W H2 l (.lst (List.replicate j.toNat xs).flatten) → Q (.ref l) H2) : rRep (.ref p) (.int j) H Q :=
  ⟨p, j, xs, rfl, rfl, h.1, h0, h1, sz_le hz, new_of i k⟩
end
def rJoinS (K : PySem.W.Frag) : V → List V → Hp → VK → Prop := fun x xs H Q => ∃ a p, ∃ ys : List Str, x = .str a ∧ xs = [.ref p] ∧ (SqL K H p (ys.map V.str) ∨ SqT K H p (ys.map V.str)) ∧
    (ys.map (·.length)).sum + ys.length * a.length ≤ 16777216 ∧ Q (.str (Txt.join a ys)) H
theorem m_join {X : Cx} : MtR X "str.join" (rJoinS X.K) := mt_join
theorem rd_join {W : Wd} {K : PySem.W.Frag} {H : Hp} {Q : VK} {s : Str} {p : Addr} {ys : List Str} (h : At W H p (.lst (ys.map V.str))) (hz : (ys.map (·.length)).sum + ys.length * s.length ≤ 16777216) (k : Q (.str (Txt.join s ys)) H) : rJoinS K (.str s) [.ref p] H Q :=
  ⟨s, p, ys, rfl, rfl, .inl h.sl, hz, k⟩
/-! ### a written dict with texts as keys -/
def rInKd (K : PySem.W.Frag) (d : Addr) : R2 := fun x y H Q => ∃ (z : Str) (r : Option Value), x = .str z ∧ y = .ref d ∧ PySem.W.nsIn K d z = some r ∧ Q (.bl r.isSome) H
def rNinKd (K : PySem.W.Frag) (d : Addr) : R2 := fun x y H Q => ∃ (z : Str) (r : Option Value), x = .str z ∧ y = .ref d ∧ PySem.W.nsIn K d z = some r ∧ Q (.bl (!r.isSome)) H
def rIxKd (K : PySem.W.Frag) (w : World) : R2 := fun x y H Q => ∃ p z v, x = .ref p ∧ y = .str z ∧ KDct K w p z v ∧ Q v H
section
variable {X : Cx} {d p : Addr} {es : Array DictEntry} {n : Nat} {K : PySem.W.Frag} {w : World} {H : Hp} {Q : VK} {z : Str} {r : Option Value} {v : V}
theorem o_inKd (D : KDict X.K X.w d es n) : OpR X (compareOp .In) (rInKd X.K d) := op_in_kd D
theorem o_ninKd (D : KDict X.K X.w d es n) : OpR X (compareOp .NotIn) (rNinKd X.K d) := op_notIn_kd D
theorem x_kd : IxR X (rIxKd X.K X.w) := ix_kdict
theorem rd_ninKd (h : PySem.W.nsIn K d z = some r) (k : Q (.bl (!r.isSome)) H) : rNinKd K d (.str z) (.ref d) H Q := ⟨z, r, rfl, rfl, h, k⟩
theorem rd_inKd (h : PySem.W.nsIn K d z = some r) (k : Q (.bl r.isSome) H) : rInKd K d (.str z) (.ref d) H Q := ⟨z, r, rfl, rfl, h, k⟩
theorem rd_ixKd (D : KDict K w d es n) {a : Addr} (h : PySem.W.nsIn K d z = some (some (.ref a))) (k : Q (.ref a) H) : rIxKd K w (.ref d) (.str z) H Q := ⟨d, z, .ref a, rfl, rfl, ⟨es, n, _, D.at_, D.lit, h, rfl⟩, k⟩
end
section
variable {H : Hp} {σ : L2.St} {Q : VK} {s : Str} {b c : Bool} {v x : V} {r r' : R2} {ta tb tc : TE}
theorem rd_chain (h : ta σ H fun x H1 => tb σ H1 fun y H2 => r x y H2 fun z H3 => ∃ k, z = .bl k ∧ (if k = true then tc σ H3 fun w' H4 => r' y w' H4 Q else Q (.bl false) H3)) : tChain r r' ta tb tc σ H Q := h
theorem at_inG {α : Type} {xs : List α} {i : Int} {v : α} (h : 0 ≤ i) (e : xs[i.toNat]? = some v) : atI xs i = some v := by
  have hl := (List.getElem?_eq_some_iff.mp e).1
  unfold atI ixN
  rw [if_pos h, if_pos (by omega)]
  exact e
theorem ifB_yes {A B : Prop} (e : b = true) (h : A) : if b = true then A else B := by rw [if_pos e]; exact h
theorem ifB_no {A B : Prop} (e : b = false) (h : B) : if b = true then A else B := by rw [if_neg (by rw [e]; decide)]; exact h
theorem ifNB_yes {A B : Prop} (e : b = false) (h : A) : if (!b) = true then A else B := by rw [e]; exact h
theorem ifNB_no {A B : Prop} (e : b = true) (h : B) : if (!b) = true then A else B := by rw [e]; exact h
theorem cast_bl (h : Q (.bl b) H) (e : b = c) : Q (.bl c) H := e ▸ h
theorem cast_str {z : Str} (h : Q (.str s) H) (e : s = z) : Q (.str z) H := e ▸ h
theorem cast_v (h : Q v H) (e : v = x) : Q x H := e ▸ h
end
end Lw

/-! Lx: the program's own exceptions: class X(..) over ValueError whose __init__ says super().__init__('..') and keeps its argument in a field. -/
namespace PySem
namespace SupX
open PySem.W PySem.Calls PyProof.Rows PySem.HandSPX
def iA (f : Str) (p1 p2 : Pos) : Arguments := { posonlyargs := [], args := [{ arg := "self", annotation := none, pos := p1 }, { arg := f, annotation := none, pos := p2 }], vararg := none, kwonlyargs := [], kw_defaults := [], kwarg := none, defaults := [] }
def iSup (m : Str) (n : Nat) (p0 p1 p2 p3 p4 p5 : Pos) : Stmt := .Expr (.Call (.Attribute (.Call (.Name "super" p0) [] [] p1) "__init__" p2) [.Constant (.str m) n p3] [] p4) p5
def iSt (f : Str) (q1 q2 q3 q4 : Pos) : Stmt := .Assign [.Attribute (.Name "self" q1) f q2] (.Name f q3) q4
def iS (f : Str) : Scope := { kind := .function, names := [(PySem.Str.ofString "self", .local), (f, .local), (PySem.Str.ofString "__class__", .free), (PySem.Str.ofString "super", .globalImplicit)], isGenerator := false, isCoroutine := false, more := [] }
/-- the field's name is none of the four -/
structure NmOk (f : Str) : Prop where
  a : (PySem.Str.ofString "self" == f) = false
  a' : (f == PySem.Str.ofString "self") = false
  b : (PySem.Str.ofString "super" == f) = false
  c : (PySem.Str.ofString "__class__" == f) = false
  d : (f == PySem.Str.ofString "__debug__") = false
/-- what the written part says of the class x, at C, and of its __init__, at fI -/
structure SupTxt (P : Program) (K : Frag) (mg : Str → Option Value) (x : Str) (f : Str) (C fI : Addr) : Prop where
  gC : mg x = some (.ref C)
  nm : NmOk f
  cls : ∃ nm q N bs bm sn sub ab col dd k0 k1 k2 k3 k5, K.lookup C = some (excClassObj nm q C N bs bm true sn sub ab col dd k0 k1 k2 k3 k5 "ValueError.__new__") ∧ refsVE bm = true
  sa : findIn K (.ref C) "__setattr__" = some (some (.builtin "object.__setattr__"))
  ga : findIn K (.ref C) "__getattribute__" = some (some (.builtin "BaseException.__getattribute__"))
  gg : findIn K (.ref C) "__getattr__" = some none
  noN : findIn K (.ref C) f = some none
  iC : findIn K (.ref C) "__init__" = some (some (.ref fI))
  tC : typeIn K (.ref fI) = some (.type "function")
  kC : keepIn K (.ref C) = true
  exC : subIn K (.ref C) (.type "BaseException") = some true
  tyC : typeIn K (.ref C) = some (.type "type")
  hdC : hasDictIn K C = true
  op : nsIn K cStatics "thirdparty.any" = some none
  along : ks_superIn K C C "__init__" = some (some (.builtin "ValueError.__init__"))
  hB : subIn K (.ref C) (.type "ValueError") = some true
  ms : mroIn K C (.ref C) = some true
  su : nsIn K mainGlobals "super" = some none
  top : (P.main.scope.names.lookup (PySem.Str.ofString "super")).isSome = false
  fn : ∃ (oc : Value) (od : Option Addr) (doc pm : Value) (an : Option Addr) (cda : Addr) (ct : Value) (osl : Array (Option Value)) (qual m : Str) (n : Nat) (p1 p2 a0 a1 a2 a3 a4 a5 q1 q2 q3 q4 : Pos) (cc : Addr),
    K.lookup fI = some ⟨oc, od, .func (ksFn "__init__" qual (iA f p1 p2) [iSup m n a0 a1 a2 a3 a4 a5, iSt f q1 q2 q3 q4] (iS f) .none .none doc pm an (.ref cda) ct cc), osl⟩ ∧ codeIn K (.ref cda) qual = true ∧
    (a2.endLine == a4.line) = true ∧ (∀ (s : Shared) (u v : Value), BindsTo s (ksFn "__init__" qual (iA f p1 p2) [iSup m n a0 a1 a2 a3 a4 a5, iSt f q1 q2 q3 q4] (iS f) .none .none doc pm an (.ref cda) ct cc) ⟨[u, v], []⟩ [("self", u), (f, v)]) ∧
    (∃ cl cld csl, K.lookup cc = some ⟨cl, cld, .cell (some (.ref C)), csl⟩) ∧ ∃ ccl cdd vs ccs file tf, K.lookup cda = some ⟨ccl, cdd, .fields vs, ccs⟩ ∧ vs[2]? = some (.str file tf) ∧ ((P.main.file : Str) == file) = true
/-- what __init__ leaves of a fresh exception at x -/
structure InitEnd (h h' : Heap) (x C dx t1 : Addr) (f : Str) (v : Value) : Prop where
  keep : ∀ b o, b ≠ x → h.get? b = some o → h'.get? b = some o
  obj : h'.get? x = some { cls := .ref C, dict := some dx, data := .fields #[.ref t1, .none, .none, .none, .bool false, .none] }
  dbig : h.objs.size ≤ dx
  dne : dx ≠ x
  ns : h'.Ns1 dx (fun y => if y = f then some v else none)
/-- a made one -/
structure OwnMade (h h' : Heap) (e C d : Addr) (f : Str) (v : Value) : Prop where
  keep : ∀ b o, h.get? b = some o → h'.get? b = some o
  new : h.objs.size ≤ e
  obj : ∃ oe vs, h'.get? e = some oe ∧ oe.cls = .ref C ∧ oe.dict = some d ∧ oe.data = .fields vs ∧ vs[1]? = some .none
  dbig : h.objs.size ≤ d
  dne : d ≠ e
  ns : h'.Ns1 d (fun y => if y = f then some v else none)
section
variable {prog : Program} {w : World} {A : Around} {E : Value → Shared → Prop} {h : Heap} {g : Array GenState} {d : Drawn} {t : Nat} {os : OsState}
variable {nm q : Str} {C N : Addr} {bs bm : List Value} {hdct : Bool} {sn : List Str} {sub : List Value} {ab : Bool} {col : Option Bool} {dd : Option Addr} {k0 k1 k2 k3 k5 : Option Value}
/-- the bound ValueError.__init__ called -/
theorem call_mw {u e t0 : Addr} {rest : List Value} {Q : Value → Shared → Prop}
    (hC : h.get? C = some (excClassObj nm q C N bs bm hdct sn sub ab col dd k0 k1 k2 k3 k5 "ValueError.__new__")) (he : h.get? e = some (excO C t0)) (hu : h.get? u = some (kxs_mw "ValueError.__init__" e)) (hrest : rest.length ≤ sizeLine)
    (hq : ∀ h' t1, (∀ b o, b ≠ e → h.get? b = some o → h'.get? b = some o) → h'.get? e = some (excO C t1) → Q .none ⟨h', g, d, t, os⟩) :
    wpAny (model prog w) A (call (.ref u) rest) Q E ⟨h, g, d, t, os⟩ := by
  refine wpAny_call (codeAny_of_tree ?_)
  show wpAny _ A.in1 (callAny (.ref u) ⟨rest, []⟩) _ _ _
  simp only [callAny]
  refine wpAny_bind (wpAny_load hu ?_)
  simp only [kxs_mw, show (Value.type "method-wrapper" == Value.type "method" || Value.type "method-wrapper" == Value.type "builtin_function_or_method" || Value.type "method-wrapper" == Value.type "method-wrapper") = true by decide, if_true]
  refine W.KFB.if_so (by decide) ?_
  refine wpAny_bind (ESX.check_bound F.excBase_ValueError hC he rfl ?_)
  refine wpAny_bind (wpAny_pure (wpAny_pure ?_))
  refine ⟨Code.quiet_builtin _ (by decide +kernel), codeAny_builtin F.excBase_ValueError.initEntry ?_⟩
  rw [Around.under_plainId F.excBase_ValueError.init.plain _]
  wp_walk
  refine hq _ h.objs.size (fun b o hb ho => ?_) ?_
  · rw [Heap.get?_update_other _ _ (Ne.symm hb)]
    exact Heap.get?_push_of_some _ ho
  · rw [Heap.get?_update_self _ (Heap.get?_push_of_some _ he) rfl]
    rfl
end
section
variable {prog : Program} {w : World} {A : Around} {E : Value → Shared → Prop} {R : Result → Shared → Prop} {s : Shared} {K : Frag} {mg mb : Str → Option Value} {x f : Str} {C fI : Addr}
theorem kind_of {f : Str} {e a : Addr} {q : Str} {cd : Value} {cc : Addr} (N : NmOk f) : (ksEnv q (iS f) e a cd cc).kindOf "super" = some .globalImplicit ∧ (ksEnv q (iS f) e a cd cc).kindOf "__class__" = some .free ∧ (ksEnv q (iS f) e a cd cc).kindOf "self" = some .local ∧ (ksEnv q (iS f) e a cd cc).kindOf f = some .local := by
  have e1 : ∀ y : Str, (ksEnv q (iS f) e a cd cc).kindOf y = (iS f).names.lookup y := fun _ => rfl
  have c1 : (PySem.Str.ofString "super" == PySem.Str.ofString "self") = false := by decide
  have c2 : (PySem.Str.ofString "super" == PySem.Str.ofString "__class__") = false := by decide
  have c3 : (PySem.Str.ofString "__class__" == PySem.Str.ofString "self") = false := by decide
  refine ⟨?_, ?_, ?_, ?_⟩ <;> rw [e1] <;> unfold iS <;> simp only [List.lookup, N.a, N.a', N.b, N.c, c1, c2, c3, beq_self_eq_true]
theorem bs_self {f : Str} (N : NmOk f) {u v : Value} : (([(PySem.Str.ofString "self", u), (f, v)] : List (Str × Value)).reverse.lookup (PySem.Str.ofString "self") = some u) := by
  simp [List.lookup, N.a]
theorem bs_f {f : Str} (N : NmOk f) {u v : Value} : (([(PySem.Str.ofString "self", u), (f, v)] : List (Str × Value)).reverse.lookup f = some v) := by
  simp [List.lookup, N.a]
theorem he_of {o : Expr} {name m : Str} {n : Nat} {apos p3 pos : Pos} {env : Env} (hpl : (apos.endLine == pos.line) = true) : eval (.Call (.Attribute o name apos) [.Constant (.str m) n p3] [] pos) env = (do
      let ov ← attributeBase o name env (eval o env)
      standAt apos.atName
      let (f, first) ← holding [ov] (getMethod ov name (do return (← importBound o env).getD true))
      callWith pos f first (backTo pos (starEach [.Constant (.str m) n p3] env)) []) := by
  have e : methodCallPos true o env apos pos = pure pos := by unfold methodCallPos; rw [hpl]; rfl
  show (attributeBase o name env (eval o env) >>= fun ov => standAt apos.atName >>= fun _ => holding [ov] (getMethod ov name (do return (← importBound o env).getD true)) >>= fun fx => methodCallPos true o env apos pos >>= fun cp => callWith cp fx.1 fx.2 (backTo pos (starEach [.Constant (.str m) n p3] env)) []) = _
  rw [e]
  rfl
theorem sup_init (T : SupTxt prog K mg x f C fI) {e t0 : Addr} {v : Value} (X : K.In s.heap) (hlim : s.heap.NoLimit) (G : s.heap.Ns mainGlobals mg) (hms : mg "super" = none) (B : s.heap.Ns builtinsNs mb) (hmb : mb "super" = some (.type "super"))
    (hx : s.heap.get? e = some (excO C t0)) (hnx : K.lookup e = none) (hroom : A.depth < recursionLimit)
    (hq : ∀ h' tk dx t1, InitEnd s.heap h' e C dx t1 f v → R (.ok (.ret .none)) { s with heap := h', toks := tk }) :
    codeAny (model prog w) A (.call (.ref fI) ⟨[.ref e, v], []⟩) R s := by
  obtain ⟨oc, od, doc, pm, an, cda, ct, osl, qual, m, n, p1, p2, a0, a1, a2, a3, a4, a5, q1, q2, q3, q4, cc, ho, hcd, hpl, hbd, ⟨cl, cld, csl, hcell⟩, ccl, cdd, vs, ccs, file, tf, hcode, hvs, hfile⟩ := T.fn
  obtain ⟨nm, q, N, bs, bm, sn, sub, ab, col, dd, k0, k1, k2, k3, k5, hC, hbm⟩ := T.cls
  have hcl : clsIn K C = some { name := nm, bases := bs, mro := .ref C :: bm, ns := N, qualname := q, hasDict := true, slotNames := sn, subclasses := sub, abstract := ab, collection := col, hasDel := false } := by unfold clsIn; rw [hC] <;> rfl
  have kd := fun (L : Addr) => kind_of (q := qual) (e := L) (a := fI) (cd := .ref cda) (cc := cc) T.nm
  refine ks_codeAny_call_defAt (fd := ksFn "__init__" qual (iA f p1 p2) [iSup m n a0 a1 a2 a3 a4 a5, iSt f q1 q2 q3 q4] (iS f) .none .none doc pm an (.ref cda) ct cc) (body := [iSup m n a0 a1 a2 a3 a4 a5, iSt f q1 q2 q3 q4])
    (binds := [(PySem.Str.ofString "self", .ref e), (f, v)]) hroom (X _ _ ho) rfl hlim (codeRec_of X hcd) rfl (hbd _ _ _) ?cell ?loc (fun h₁ hns hk => ?_) rfl rfl rfl
  case cell => 
    intro y hy
    simp only [ksFn, fnX, iS, List.mem_cons, List.not_mem_nil, or_false] at hy
    rcases hy with rfl | rfl | rfl | rfl <;> intro z <;> cases z
  case loc =>
    intro y hy
    simp only [List.mem_cons, List.not_mem_nil, or_false] at hy
    rcases hy with rfl | rfl
    · exact (kd 0).2.2.1
    · exact (kd 0).2.2.2
  have kd := kd s.heap.objs.size
  obtain ⟨hp, g, d, tk, os⟩ := s
  dsimp only at hns hk hx X G B hlim hq ⊢
  have X₁ : K.In h₁ := X.keeps hk
  have hx₁ := hk _ _ hx
  show _root_.PySem.wpAt (model prog w) _ (.func _ (ksEnv qual (iS f) hp.objs.size fI (.ref cda) cc)) (execs [iSup m n a0 a1 a2 a3 a4 a5, iSt f q1 q2 q3 q4] (ksEnv qual (iS f) hp.objs.size fI (.ref cda) cc)) _ _ _
  refine ks_wpAt_execs_cons (ks_wpAt_Expr_any (ks_wpAt_MethodCall ?_ (he_of hpl)))
  refine ks_wpAt_super_base (env := ksEnv qual (iS f) hp.objs.size fI (.ref cda) cc) kd.1 kd.2.1 (by decide) rfl (X₁ _ _ ho) rfl rfl rfl (X₁ _ _ hcode) rfl hvs hfile T.top ?_
  refine ks_loadName_global rfl kd.1 (loadGlobal_builtin (env := ksEnv qual (iS f) hp.objs.size fI (.ref cda) cc) (G.keeps hk) hms (B.keeps hk) hmb ⟨rfl, ?_⟩)
  refine wpAny_loadName_free rfl kd.2.1 rfl ⟨_, X₁ _ _ hcell, rfl⟩ ?_
  refine wpAny_loadName_local rfl kd.2.2.1 hns (bs_self T.nm) ?_
  have hCo := X₁ _ _ hC
  refine ks_wpAny_isType_cls hCo rfl ⟨rfl, ?_⟩
  refine ks_wpAny_call_super hCo rfl hx₁ rfl (fun c z => by cases z) (looks_mroIn X₁ T.ms) (fun h₂ hso hk₂ => ?_)
  have X₂ : K.In h₂ := X₁.keeps hk₂
  have hx₂ := hk₂ _ _ hx₁
  have eC : e ≠ C := fun z => by
    rw [z] at hnx
    rw [hnx] at hC
    cases hC
  have I₂ : InstAt h₂ e (excO C t0) C none := ⟨hx₂, rfl, rfl, trivial⟩
  have al := T.along
  unfold ks_superIn at al
  rw [hcl] at al
  refine kxs_getMethod kxs_ValueError (x := e) (D := C) (C := C) hso (looks_opaque X₂ T.op) (l₀ := .ref C :: bm) ?mro rfl X₂ al (I₂.type.andThen (looks_subIn X₂ T.hB)) eC (by decide) ?_
  case mro => exact fun A Q E s k q => wpAny_bind ((looks_clsIn X₂ hcl) A _ E s k (wpAny_pure q))
  have hu : (h₂.push (kxs_mw "ValueError.__init__" e)).get? h₂.objs.size = some (kxs_mw "ValueError.__init__" e) := Heap.get?_push_at rfl rfl
  have hk₃ : ∀ b o, h₂.get? b = some o → (h₂.push (kxs_mw "ValueError.__init__" e)).get? b = some o := fun b o z => Heap.get?_push_of_some _ z
  refine kxs_callWith (i := "ValueError.__init__") (x := e) (by rfl) (evalArgs_plain ?_)
  refine Calls.spliced_cons (Calls.Constant_str (k := n) (pos := a3) (Calls.spliced_nil ⟨hu, ?_⟩))
  refine call_mw (hk₃ _ _ (hk₂ _ _ hCo)) (hk₃ _ _ hx₂) hu (by show 1 ≤ sizeLine; rw [sizeLine_eq]; decide) (fun h₄ t1 hk₄ hx₄ => ?_)
  have keep : ∀ b o, b ≠ e → hp.get? b = some o → h₄.get? b = some o := fun b o nb z => hk₄ b o nb (hk₃ _ _ (hk₂ _ _ (hk _ _ z)))
  have X₄ : K.In h₄ := fun b o z => keep b o (fun q => by rw [q, hnx] at z; cases z) (X b o z)
  have neL : hp.objs.size ≠ e := Nat.ne_of_gt (Heap.lt_size hx)
  have hns₄ : h₄.Ns hp.objs.size (fun y => ([(PySem.Str.ofString "self", Value.ref e), (f, v)] : List (Str × Value)).reverse.lookup y) := by
    obtain ⟨oL, es, ep, hL, r⟩ := hns
    exact ⟨oL, es, ep, hk₄ _ _ neL (hk₃ _ _ (hk₂ _ _ hL)), r⟩
  refine ks_wpAt_execs_cons (wpAt_of_wpAny ?_)
  refine plainObj_wpAny_Assign_Attribute (wpAny_Name (wpAny_loadName_local rfl kd.2.2.2 hns₄ (bs_f T.nm) (wpAny_Name (wpAny_loadName_local rfl kd.2.2.1 hns₄ (bs_self T.nm) ?_) (by decide))) T.nm.d) (by rfl)
  refine set_plain X₄ (ox := excO C t1) (od := none) ⟨hx₄, rfl, rfl, trivial⟩ T.sa ?_
  refine exc_osa X₄ hx₄ hcl (show refsVE (.ref C :: bm) = true from hbm) rfl T.noN (fun h₅ tk₅ dx k₅ dn dne hx₅ hn₅ => ?_)
  have lt4 : hp.objs.size < h₄.objs.size := hns₄.lt
  refine wpAt_of_wpAny (wpAny_execs_nil (hq h₅ tk₅ dx t1 ⟨fun b o hb z => k₅ b o hb (keep b o hb z), hx₅, Nat.le_of_lt (Nat.lt_of_lt_of_le lt4 dn), dne, hn₅⟩))
theorem sup_made (T : SupTxt prog K mg x f C fI) {v : Value} (X : K.In s.heap) (hlim : s.heap.NoLimit) (G : s.heap.Ns mainGlobals mg) (hms : mg "super" = none) (B : s.heap.Ns builtinsNs mb) (hmb : mb "super" = some (.type "super")) (hroom : A.depth + 1 < recursionLimit)
    (hq : ∀ h' tk e d, OwnMade s.heap h' e C d f v → R (.ok (.ret (.ref e))) { s with heap := h', toks := tk }) :
    codeAny (model prog w) A (.call (.ref C) ⟨[v], []⟩) R s := by
  obtain ⟨nm, q, N, bs, bm, sn, sub, ab, col, dd, k0, k1, k2, k3, k5, hC, hbm⟩ := T.cls
  obtain ⟨hp, g, dr, tk, os⟩ := s
  have k : ∀ b o, hp.get? b = some o → ((hp.push (kdv_tup [v])).push (excO C hp.objs.size)).get? b = some o := fun b o e => Heap.get?_push_of_some _ (Heap.get?_push_of_some _ e)
  have hget : ((hp.push (kdv_tup [v])).push (excO C hp.objs.size)).get? (hp.objs.size + 1) = some (excO C hp.objs.size) := by heap_get
  have hnx : K.lookup (hp.objs.size + 1) = none := by
    cases e : K.lookup (hp.objs.size + 1) with
    | none => rfl
    | some o =>
      have z : hp.get? (hp.objs.size + 1) = some o := X _ _ e
      exact absurd (Nat.lt_of_succ_lt (Heap.lt_size z)) (Nat.lt_irrefl _)
  refine call_own F.excBase_ValueError (fun X => refsVE_contains X bm hbm) (X _ _ hC) (looks_findIn X T.iC) (fun self => bind_fn X self T.tC) (by show 1 ≤ sizeLine; rw [sizeLine_eq]; decide) ?_
  refine sup_init (s := ⟨(hp.push (kdv_tup [v])).push (excO C hp.objs.size), g, dr, tk, os⟩) T (X.keeps k) (hlim.keeps k) (G.keeps k) hms (B.keeps k) hmb hget hnx ?_ fun h' tk' dx t1 ⟨k', hx, dn, dne, hns⟩ => ?_
  · show A.depth + 1 < recursionLimit
    exact hroom
  · have old : ∀ b o, hp.get? b = some o → h'.get? b = some o := fun b o e => k' b o (Nat.ne_of_lt (Nat.lt_succ_of_lt (Heap.lt_size e))) (k b o e)
    have z : hp.objs.size + 1 + 1 ≤ dx := by
      first
        | (simpa only [Heap.size_push] using dn)
        | exact dn
        | (have q := dn; rw [Heap.size_push, Heap.size_push] at q; exact q)
    exact ⟨rfl, hq h' tk' (hp.objs.size + 1) dx ⟨old, Nat.le_succ _, ⟨_, _, hx, rfl, rfl, rfl, rfl⟩, Nat.le_trans (Nat.le_trans (Nat.le_succ _) (Nat.le_succ _)) z, dne, hns⟩⟩
end
end SupX
end PySem
namespace Lw
open PySem L2 PySem.Spec PyProof.Rows
section
variable {X : Cx} {C fI : Addr} {x f : Str}
theorem relO_f {f : Str} {v : V} {v' : Value} (r : RelV v v') (g : Str) : RelO (List.lookup g [(f, v)]) (if g = f then some v' else none) := by
  by_cases hw : g = f
  · subst hw
    rw [if_pos rfl]
    have q : List.lookup g [(g, v)] = some v := by simp [List.lookup]
    rw [q]
    exact r
  · rw [if_neg hw]
    have qw : (g == f) = false := by simpa using hw
    have q2 : List.lookup g [(f, v)] = none := by simp [List.lookup, qw]
    rw [q2]
    trivial
/-- x(e) -/
def tMkS (C : Addr) (f : Str) (ta : TA) : L2.St → Hp → XK → Prop := fun σ H Q => ta σ H fun vs H1 => ∃ v, vs = [v] ∧ ∀ d, H1 d = none → Q (.ref C) (some d) (upd H1 d (.xd [(f, v)]))
theorem pmk_sup {a : Expr} {ta : TA} {p pos : Pos} {k : Nat} (T : PySem.SupX.SupTxt X.prog X.K X.mg x f C fI) (hr : Room k X.A) (ha : PA X [a] ta) (hg : Gl X x := by rfl) (hdb : (x == ("__debug__" : Str)) = false := by decide)
    (he : starEach (a :: []) X.env = (false, eval a X.env) :: starEach [] X.env := by rfl) (hpl : (backTo pos (starEach [] X.env)).any (·.1) = false := by rfl) :
    PMk X (.Call (.Name x p) [a] [] pos) (tMkS C f ta) := by
  intro pins s σ H Q I h
  refine wpAny_Call_Name_kw (ld_glob I hg T.gC ?_ hdb)
  refine PySem.W.callWith_K (h₀ := X.base) I.ok.mod.kin T.kC (thn (ha.run pos pins s σ H _ I h) fun us s1 hh => ?_) he hpl
  obtain ⟨vs, H1, I1, r1, v, ev, q1⟩ := hh
  subst ev
  refine ⟨I1.kIn, ?_⟩
  cases r1 with
  | cons rv rn =>
    rename_i v' us'
    cases rn
    show wpAny _ _ (call (.ref C) [v']) _ _ _
    have hlim := I1.nolimit
    obtain ⟨mb, hb1, hb2⟩ := I1.mod.blt
    have hms : X.mg "super" = none := PySem.W.mg_none_of I1.ok.mod.kin I1.mod.glob T.su
    have hG := I1.mod.glob.keeps I1.bk
    have hB := hb1.keeps I1.bk
    have hmb : mb "super" = some (.type "super") := (hb2 "super" (by decide)).trans (by first | boot_by_name | rfl | kernel_rfl)
    obtain ⟨hp, g, dr, tk, os⟩ := s1
    refine wpAny_call (PySem.SupX.sup_made T I1.kIn hlim hG hms hB hmb (by have := hr.dp; omega) fun h' tk' e d M => ?_)
    show MkP X pins σ Q (.ref e) ⟨h', g, dr, tk', os⟩
    obtain ⟨oe, fv, hoe, hc, hd, hdat, h1⟩ := M.obj
    have hns := M.ns
    obtain ⟨G', g1, g2⟩ := restrict h' fun b => decide (b ≠ e)
    have gk : ∀ b, b ≠ e → G'.get? b = h'.get? b := fun b hb => g1 b (decide_eq_true hb)
    have ge : G'.get? e = none := g2 e (by simp)
    have old : ∀ b o, hp.get? b = some o → G'.get? b = some o := fun b o q => (gk b (Nat.ne_of_lt (Nat.lt_of_lt_of_le (Heap.lt_size q) M.new))).trans (M.keep b o q)
    have ob : ObjOk X.prog X.w (upd H1 d (.xd [(f, v)])) G' d (.xd [(f, v)]) :=
      ⟨_, hns.at (fun o q => (gk d M.dne).trans q), fun g => relO_f rv g⟩
    have J : Inv X pins σ (upd H1 d (.xd [(f, v)])) ⟨G', g, dr, tk', os⟩ := I1.laid (t' := tk') old M.dbig ob
    refine ⟨e, oe, fv, ⟨G', g, dr, tk', os⟩, _, .ref C, some d, rfl, J, fun b o q => ?_, ge, hoe, ⟨hc, hd⟩, hdat, h1, ?_, rfl, I1.bare, raises_own T.exC T.tyC, q1 d (I1.hok.fresh M.dbig)⟩
    · by_cases hb : b = e
      · have q' : G'.get? b = some o := q
        rw [hb, ge] at q'; cases q'
      · exact (gk b hb).symm.trans q
    · rw [upd_ne (Ne.symm M.dne)]
      exact I1.hok.fresh M.new
/-- raise x(e) -/
def tRaiseS (C : Addr) (f : Str) (W : WX) (ta : TA) : TS := fun _ σ H => tMkS C f ta σ H fun cls d H' => W cls d σ H'
theorem ps_raiseS {a : Expr} {ta : TA} {W : WX} {p pos pos2 : Pos} {k : Nat} (hc : X.calm = true) (T : PySem.SupX.SupTxt X.prog X.K X.mg x f C fI) (hr : Room k X.A) (tk : Takes X W) (ha : PA X [a] ta) (hg : Gl X x := by rfl) (hdb : (x == ("__debug__" : Str)) = false := by decide)
    (he : starEach (a :: []) X.env = (false, eval a X.env) :: starEach [] X.env := by rfl) (hpl : (backTo pos (starEach [] X.env)).any (·.1) = false := by rfl) :
    PS X (.Raise (some (.Call (.Name x p) [a] [] pos)) none pos2) (tRaiseS C f W ta) := ps_raise hc tk (pmk_sup T hr ha hg hdb he hpl)
end
end Lw

/-! Lg: defs that are called where no repr runs (so that they may ask repr of lists); repr of data; isinstance and fields of a caught error; enumerate and walks of a list or a tuple. -/
namespace Lw
open PySem L2 PySem.Spec PyProof.Rows
/-- a def's promise, kept wherever no repr is under way -/
structure FnG (P : Program) (w : World) (K : PySem.W.Frag) (mg : Str → Option Value) (base : Heap) (CX : CXT) (k : Nat) (f : Addr) (fd : FuncData) (ps : List Str) (sp : Sp) : Prop where
  len : ∀ vs H Q E, sp vs H Q E → vs.length = ps.length
  run : ∀ {A : Around} {outer : List Env} {s : Shared} {H : Hp} {args : Args} {us : List Value} {vs : List V} {Q : VK} {E : XK}, Room k A → A.guards = some [] → Env0 P w K mg base A outer s H → BindsTo s fd args (ps.zip us) → Vals vs us → sp vs H Q E →
    codeAny (model P w) A (.call (.ref f) args) (CR CX outer P w H s Q E) s
section
variable {P : Program} {w : World} {K : PySem.W.Frag} {mg : Str → Option Value} {base : Heap} {CX : CXT} {k : Nat} {f : Addr} {fd : FuncData} {ps N : List Str} {sp : Sp}
theorem FnG.of (F : FnOk P w K mg base CX k f fd ps sp) : FnG P w K mg base CX k f fd ps sp := ⟨F.len, fun hr _ e b r h => F.run _ _ _ _ _ _ _ _ _ hr e b r h⟩
/-- by its body -/
theorem fnG_body {name qual : Str} {params : Arguments} {body : List Stmt} {scope : Scope} {dV kV doc pm cdv ct oc : Value} {an od : Option Addr} {osl : Array (Option Value)}
    (lk : K.lookup f = some ⟨oc, od, .func (PySem.W.fnOf name qual params body scope dV kV doc pm an cdv ct), osl⟩) (hcd : PySem.W.codeIn K cdv qual = true) (S : FnScope N ps scope) (len : ∀ vs H Q E, sp vs H Q E → vs.length = ps.length)
    (hb : ∀ (A : Around) (outer : List Env) (s : Shared) (H : Hp) (vs : List V) (Q : VK) (E : XK), Room k (A.deeper (envOfC qual scope s.heap.objs.size f cdv)) → A.guards = some [] → sp vs H Q E →
      ∃ t, PSs (cxOf CX P w K mg base N qual scope f cdv A outer s H E) body t ∧ t { nx := fun _ H' => Q .non H', rt := Q } (start N vs) H) :
    FnG P w K mg base CX (k + 1) f (PySem.W.fnOf name qual params body scope dV kV doc pm an cdv ct) ps sp := by
  constructor
  · exact len
  intro A outer s H args us vs Q E hr hG e0 bnd rel h
  have inBase : ∀ b o, base.get? b = some o → s.heap.get? b = some o := fun b o e => (e0.bs b o e).1
  have KX : K.In s.heap := e0.mod.kin.keeps inBase
  have kinds : ∀ y ∈ ps.zip us, scope.names.lookup y.1 = some .local ∨ (scope.names.lookup y.1 = some .cell ∧ ((cellsFrom (s.heap.objs.size + 1) scope.names []).lookup y.1).isSome = true) := by
    rintro ⟨n, v⟩ hy
    have hn := (List.of_mem_zip hy).1
    exact (S.par n hn).imp id fun q => ⟨q, PySem.W.cellsFrom_some _ _ _ (.inl q)⟩
  refine codeAny_call_function hr.depth (KX _ _ lk) rfl S.co S.gen rfl (PySem.W.codeRec_of KX hcd) (bnd _ _ _ _ (wpAny_newFunctionEnv_cells S.kind kinds ?_))
  rintro env rfl s1 x
  obtain ⟨t, ht, hq⟩ := hb A outer s H vs Q E (hr.deeper _) hG h
  have I := inv_start (CX := CX) (E := E) S hr.hd e0 (len _ _ _ _ h) rel x
  refine ⟨(e0.mod.nolimit.keeps inBase).keeps x.toInCall.keep, codeAny_func (wpAny_mono (ht.run [] s1 (start N vs) H _ I hq) ?_ fun _ _ z => z)⟩
  intro fl s' hs
  cases fl with
  | next => obtain ⟨_, H', J, q⟩ := hs; exact ⟨.non, H', J.os, J.bare, J.base, J.hok, rfl, q⟩
  | ret u => obtain ⟨v, _, H', J, rv, q⟩ := hs; exact ⟨v, H', J.os, J.bare, J.base, J.hok, rv, q⟩
  | brk => obtain ⟨_, _, _, q⟩ := hs; cases q
  | cont => obtain ⟨_, _, _, q⟩ := hs; cases q
theorem Fun.okG {x qual : Str} {st : Stmt} (F : Fun K x qual st f fd) (S : FnScope N ps (defScope st)) (len : ∀ vs H Q E, sp vs H Q E → vs.length = ps.length)
    (hb : ∀ (cdv : Value) (A : Around) (outer : List Env) (s : Shared) (H : Hp) (vs : List V) (Q : VK) (E : XK), Room k (A.deeper (envOfC qual (defScope st) s.heap.objs.size f cdv)) → A.guards = some [] → sp vs H Q E →
      ∃ t, PSs (cxOf CX0 P w K mg base N qual (defScope st) f cdv A outer s H E).nox (defBody st) t ∧ t { nx := fun _ H' => Q .non H', rt := Q } (start N vs) H) : FnG P w K mg base CX0 (k + 1) f fd ps sp := by
  obtain ⟨_, _, _, _, _, _, cdv, _, _, rfl, lk, hcd⟩ := F.ex
  refine fnG_body lk hcd S len fun A outer s H vs Q E hr hG h => ?_
  obtain ⟨t, ht, q⟩ := hb cdv A outer s H vs Q E hr hG h
  exact ⟨t, ht.nox, q⟩
end
section
variable {X : Cx} {CX : CXT} {k : Nat} {f : Addr} {fd : FuncData} {ps : List Str} {sp : Sp} {E : XK} {x : Str} {p pos : Pos} {e : Expr} {es : List Expr} {t : TA} {ds : List Value} {dvs : List V}
theorem callee_G {pins : List (Addr × Obj)} {σ : L2.St} {H : Hp} {s : Shared} {Q : VK} {us : List Value} {vs : List V} (F : FnG X.prog X.w X.K X.mg X.base CX k f fd ps sp) (hr : Room k X.A) (hG : X.A.guards = some []) (hb : Binds X.K fd ps ds) (hd : Vals dvs ds) (hx : Passes CX X E)
    (I : Inv X pins σ H s) (r : Vals vs us) (h : sp (vs ++ dvs) H Q E) : wpAny (model X.prog X.w) X.A (call (.ref f) us) (EP X pins σ Q) X.xe s := by
  have both : Vals (vs ++ dvs) (us ++ ds) := r.append hd
  have n : (us ++ ds).length = ps.length := both.length.symm.trans (F.len _ _ _ _ h)
  refine wpAny_call (codeAny_mono (F.run hr hG I.env0 (hb s us I.kIn n) both h) ?_)
  rintro (er | fl) s' q
  · exact hx pins σ H s er s' I q
  · cases fl with
    | ret u => exact I.after q
    | next => cases q
    | brk => cases q
    | cont => cases q
theorem pe_callG (F : FnG X.prog X.w X.K X.mg X.base CX k f fd ps sp) (hG : X.A.guards = some []) (hr : Room k X.A) (hg : Gl X x) (hm : X.mg x = some (.ref f)) (hk : PySem.W.keepIn X.K (.ref f) = true) (hb : Binds X.K fd ps ds) (hd : Vals dvs ds) (hx : Passes CX X E)
    (ha : PA X (e :: es) t) (hdb : (x == ("__debug__" : Str)) = false := by decide) (he : starEach (e :: es) X.env = (false, eval e X.env) :: starEach es X.env := by rfl) (hpl : (backTo pos (starEach es X.env)).any (·.1) = false := by rfl) :
    PE X (.Call (.Name x p) (e :: es) [] pos) (tCall sp dvs E t) where
  run pins s σ H Q I h := by
    refine wpAny_Call_Name_kw (ld_glob I hg hm (PySem.W.callWith_K (h₀ := X.base) I.ok.mod.kin hk ?_ he hpl) hdb)
    refine thn (ha.run pos pins s σ H _ I h) ?_
    rintro us s1 ⟨vs, H1, I1, r, q⟩
    exact ⟨I1.kIn, callee_G F hr hG hb hd hx I1 r q⟩
/-- repr of data -/
def rReprD (K : PySem.W.Frag) : List V → Hp → VK → Prop := fun xs H Q => ∃ a d, xs = [.ref a] ∧ Dp K H (.ref a) d ∧ d.showable = true ∧ d.hasDict = false ∧ d.depth ≤ 50 ∧ d.shown.length ≤ sizeLine ∧ Q (.str d.shown) H
theorem c_repr (hG : X.A.guards = some []) (hu : X.A.units + 64 < cLine) : CallR X (.builtin "repr") (rReprD X.K) := by
  intro pins s σ H xs us Q I r h
  obtain ⟨a, d, rfl, hd, hs, hn, hdp, hl, q⟩ := h
  cases r with
  | cons rx rr =>
    cases rr
    obtain ⟨as, r1⟩ := Dp.reads I d _ _ hd rx
    cases rx
    refine repr_of_reads' r1 hs (PyData.noDict_hsm hn) hG (by omega) (fun _ _ z => z) (fun h' u tk hk => ?_) hl
    exact ⟨.str d.shown, H, I.kept (t' := tk) hk, ⟨_, rfl⟩, q⟩
end
/-! ### the head of a law whose def is kept by FnG -/
section
variable {P : Program} {w : World} {K : PySem.W.Frag} {mg mb : Str → Option Value} {k : Nat} {fa a : Addr} {fd : FuncData} {x : Str} {sp : Sp} {s₁ : Shared} {vs : List Value} {ns : List Int}
theorem head_G (KX : K.In s₁.heap) (hG : s₁.heap.Ns mainGlobals mg) (hB : s₁.heap.Ns builtinsNs mb) (hbt : ∀ x : Str, x ≠ "__name__" → mb x = bootBuiltins x) (hlim : s₁.heap.NoLimit) (hgen : s₁.gens = #[])
    (ha : s₁.heap.get? a = some { cls := .type "list", data := .seq vs.toArray }) (hi : IntsAre vs ns) (hl : ns.length ≤ sizeLine) (hr : Room k callerA)
    (F : ∀ base : Heap, K.In base → base.Ns mainGlobals mg → FnG P w K mg base CX0 k fa fd [x] sp) (hbind : ∀ (s : Shared) (u : Value), BindsTo s fd ⟨[u], []⟩ [(x, u)])
    (hsp : ∀ H : Hp, Only H → SqL K H a (ns.map V.int) → sp [.ref a] H (fun v _ => v = .bl true) fun _ _ _ => False) :
    codeAny (model P w) callerA (.call (.ref fa) ⟨[.ref a], []⟩) (fun r s' => r = .ok (.ret (.bool true)) ∧ OldK s₁.heap s'.heap ∧ s'.os = s₁.os ∧ AllBare s'.gens) s₁ := by
  have rv : Vals (ns.map V.int) vs := vals_ints hi
  obtain ⟨H, hH, hS⟩ : ∃ H : Hp, (∀ b u, H b = some u → b = a ∧ K.lookup a = none ∧ u = .frz { cls := .type "list", data := .seq vs.toArray } (.lst (ns.map V.int))) ∧ SqL K H a (ns.map V.int) := by
    cases q : K.lookup a with
    | none =>
      refine ⟨fun b => if b = a then some (.frz { cls := .type "list", data := .seq vs.toArray } (.lst (ns.map V.int))) else none, fun b u z => ?_, .inl (.inr ⟨_, if_pos rfl⟩)⟩
      by_cases e : b = a
      · have z := (if_pos e).symm.trans z
        exact ⟨e, rfl, (Option.some.inj z).symm⟩
      · cases (if_neg e).symm.trans z
    | some o =>
      have e := (KX a o q).symm.trans ha
      cases e
      exact ⟨fun _ => none, fun b u z => (by cases z), .inr ⟨_, vs.toArray, _, q, rfl, rfl, rfl, by rw [List.size_toArray, hi.length]; exact hl, by simpa using rv⟩⟩
  have off : ∀ {b o}, s₁.heap.get? b = some o → b ≠ a → H b = none := fun {b o} _ ne => by
    cases q : H b with
    | none => rfl
    | some u => exact absurd (hH b u q).1 ne
  have ns_at : ∀ {b : Addr} {m : Str → Option Value}, s₁.heap.Ns b m → (hidT s₁.heap H).Ns b m := by
    rintro b m ⟨o, es, ep, e, d, r⟩
    refine ⟨o, es, ep, hidT_get e (off e fun z => ?_), d, r⟩
    rw [z, ha] at e
    cases e
    cases (show Data.seq vs.toArray _ = Data.dict es ep from d)
  have kin : K.In (hidT s₁.heap H) := fun b o e => hidT_get (KX b o e) (by
    cases q : H b with
    | none => rfl
    | some u =>
      obtain ⟨rfl, n, _⟩ := hH b u q
      rw [n] at e; cases e)
  have okH : HOk P w H s₁.heap := fun b u z => by
    obtain ⟨rfl, _, rfl⟩ := hH b u z
    exact ⟨ha, by rw [List.length_map]; exact hl, vs, _, rv, ha⟩
  have only : Only H := fun b => by
    cases q : H b with
    | none => exact .inl rfl
    | some u => exact .inr ⟨_, _, congrArg some (hH b u q).2.2⟩
  have hM : Mod K mg (hidT s₁.heap H) := ⟨kin, ns_at hG, ⟨mb, ns_at hB, hbt⟩, let ⟨mc, n1, n2⟩ := hlim; ⟨mc, ns_at n1, n2⟩⟩
  have e0 : Env0 P w K mg (hidT s₁.heap H) callerA [] s₁ H := ⟨rfl, hM, fun _ _ e => of_hidT e, Nat.le_of_eq (hidT_size _ _), trivial, fun _ z => absurd z List.not_mem_nil, okH, .of_eq hgen⟩
  refine codeAny_mono ((F _ kin (ns_at hG)).run (us := [.ref a]) (vs := [.ref a]) hr rfl e0 (hbind s₁ (.ref a)) (.cons rfl .nil) (hsp H only hS)) ?_
  rintro (er | fl) s' h
  · exact False.elim h
  · cases fl with
    | next => cases h
    | brk => cases h
    | cont => cases h
    | ret u =>
      obtain ⟨v, H', os, bare, un, ok', r', (rfl : v = .bl true)⟩ := h
      obtain rfl : u = Value.bool true := r'
      refine ⟨rfl, OldK.of_keep fun b o e => ?_, os, bare⟩
      cases q : H b with
      | none => exact un.keep b o e q (fun z => absurd z List.not_mem_nil) (by simp)
      | some u =>
        obtain ⟨rfl, _, rfl⟩ := hH b u q
        have e1 := (okH _ _ q).1
        have e2 := (ok' _ _ (un.frzs _ _ _ q)).1
        exact e2.trans (e1.symm.trans e)
end
theorem walk_G {l : PySem.W.OpenLaw} {n k : Nat} {q : Program} {loose : List Str} {XP : (Str → Option Value) → Heap → Prop} {YP : World → Heap → Prop} {d : DefRec} {K : Params → PySem.W.Frag} {sp : PySem.W.Frag → Sp} {x : Str}
    (hn : l.most = some n) (hn2 : n ≤ sizeLine) (hdf : d.params.defaults = []) (hr : Room k callerA) (hY : ∀ (w : World) (h : Heap), YP w h → (K w.params).In h)
    (F : ∀ (w : World) (mg : Str → Option Value) (fa : Addr) (h : Heap), (K w.params).In h → h.Ns mainGlobals mg → mg d.name = some (.ref fa) →
      ∃ fd : FuncData, (∀ (s : Shared) (u : Value), BindsTo s fd ⟨[u], []⟩ [(x, u)]) ∧ ∀ base : Heap, (K w.params).In base → base.Ns mainGlobals mg → FnG l.prog w (K w.params) mg base CX0 k fa fd [x] (sp (K w.params)))
    (hsp : ∀ (K : PySem.W.Frag) (H : Hp) (a : Addr) (ns : List Int), ns.length ≤ n → Only H → SqL K H a (ns.map V.int) → sp K [.ref a] H (fun v _ => v = .bl true) fun _ _ _ => False) :
    PySem.W.WalkO q loose XP YP l.row.toRowW d [] (fun f vs => PySem.call f vs) := by
  refine Att.attach_call hn hdf fun w s₀ s₁ mg mb fa o pm cd doc a vs ns G Y ho hd hcd hmg hobj hints hlen hg => ?_
  have KX := hY w _ Y
  obtain ⟨fd, bnd, hF⟩ := F w mg fa _ KX G.T.g hmg
  exact head_G KX G.T.g G.T.b G.T.builtins G.T.nolimit hg hobj hints (Nat.le_trans hlen hn2) hr hF bnd fun H o1 o2 => hsp _ H a ns hlen o1 o2
/-! ### a caught error -/
/-- what the written part says of a caught error's class, for isinstance -/
structure IsC (K : PySem.W.Frag) (C : Addr) : Prop where
  cl : (PySem.W.clsIn K C).isSome = true
  ga : PySem.W.findIn K (.ref C) "__getattribute__" = some (some (.builtin "BaseException.__getattribute__"))
  gg : PySem.W.findIn K (.ref C) "__getattr__" = some none
  ex : PySem.W.subIn K (.ref C) (.type "BaseException") = some true
  fc : PySem.W.findIn K (.ref C) "__class__" = some (some (.builtin "object.__class__"))
  sp : PySem.W.specialIn K (.builtin "object.__class__") "__get__" = some (some (.builtin "getset_descriptor.__get__"))
  tk : PySem.W.takesIn K (.builtin "object.__class__") = some true
  ob : PySem.W.mroIn K C (.type "object") = some true
/-- isinstance(e, c), e the error that the suite holds at a -/
def rIsX (K : PySem.W.Frag) (cls : Value) (d : Option Addr) (a : Addr) : List V → Hp → VK → Prop := fun xs H Q => ∃ (C dd : Addr) (fs : List (Str × V)) (c : V) (cv : Value) (b : Bool), cls = .ref C ∧ d = some dd ∧ H dd = some (.xd fs) ∧ IsC K C ∧ xs = [.ref a, c] ∧ (∀ u, RelV c u → u = cv) ∧
  PySem.W.kitOne K (.ref C) cv = some b ∧ Q (.bl b) H
theorem c_isX {X : Cx} {a : Addr} {cls : Value} {d : Option Addr} {oe : Obj} {pn : List (Addr × Obj)} (hz : Zc cls d oe) (hf : ∃ vs, oe.data = .fields vs) : CallR (X.suite a ((a, oe) :: pn)) (.builtin "isinstance") (rIsX X.K cls d a) := by
  intro pins s σ H xs us Q I r h
  obtain ⟨C, dd, fs, c, cv, b, rfl, rfl, hd, T, rfl, hcv, e, q⟩ := h
  cases r with
  | cons rx rr =>
    cases rr with
    | cons rt rr =>
      cases rr
      cases rx
      cases hcv _ rt
      have at_ := (I.pin (a, oe) (List.mem_append_left _ List.mem_cons_self)).1
      obtain ⟨vs, hv⟩ := hf
      have hx : ObjOk X.prog X.w H s.heap dd (.xd fs) := I.hok dd _ hd
      obtain ⟨mA, hns, _⟩ := hx
      obtain ⟨od, ho, _⟩ := lookIn_ns hns
      have J : PySem.W.InstAt s.heap a oe C (some od) := ⟨at_, hz.1, by unfold PySem.W.notCls; rw [hv] <;> rfl, by rw [hz.2]; exact ho⟩
      exact PySem.W.kia_one (PySem.W.kitx_exc T.cl T.ga T.gg T.ex T.fc T.sp T.tk T.ob) I.kIn J e (fun z => nomatch z) fun tk => ⟨.bl b, H, I.kept (t' := tk) fun _ _ z => z, rfl, q⟩
theorem xfC_of {P : Program} {K : PySem.W.Frag} {mg : Str → Option Value} {x f : Str} {C fI : Addr} (T : PySem.SupX.SupTxt P K mg x f C fI) : XfC K C := ⟨T.ga, T.gg, T.exC, T.hdC⟩
/-! ### the end's facts -/
def keyS (e : DictEntry) : Option Str := match e.key with
  | .str z _ => some z
  | _ => none
theorem ns_miss {K : PySem.W.Frag} {a : Addr} {es : Array DictEntry} {n : Nat} {dd : Option Addr} {sl : Array (Option Value)} {ks : List Str} {z : Str} (l : K.lookup a = some ⟨.type "dict", dd, .dict es n, sl⟩) (h : es.toList.map keyS = ks.map some) (hz : z ∉ ks) : PySem.W.nsIn K a z = some none := by
  have key : ∀ (xs : List DictEntry) (ks : List Str), xs.map keyS = ks.map some → z ∉ ks → xs.find? (·.key.isStr z) = none ∧ xs.any (·.refKey) = false := by
    intro xs
    induction xs with
    | nil => intro _ _ _; exact ⟨rfl, rfl⟩
    | cons x xs ih =>
      intro ks h hz
      cases ks with
      | nil => cases h
      | cons k ks =>
        rw [List.map_cons, List.map_cons] at h
        injection h with h1 h2
        obtain ⟨i1, i2⟩ := ih ks h2 fun q => hz (List.mem_cons_of_mem _ q)
        obtain ⟨kh, ke, kv⟩ := x
        unfold keyS at h1
        cases ke with
        | str y t =>
          have e : y = k := by injection h1
          subst e
          have ne : (y == z) = false := by
            refine Bool.eq_false_iff.mpr fun q => hz ?_
            rw [← beq_iff_eq.mp q]
            exact List.mem_cons_self
          refine ⟨?_, ?_⟩
          · rw [List.find?_cons]
            have : (Value.str y t).isStr z = false := ne
            simp only [this]
            exact i1
          · rw [List.any_cons, i2]; rfl
        | _ => cases h1
  obtain ⟨h1, h2⟩ := key _ _ h hz
  unfold PySem.W.nsIn
  rw [l]
  simp only [h1, h2]
  rfl
theorem exm_own {K : PySem.W.Frag} {C : Addr} (h1 : PySem.W.subIn K (.ref C) (.type "BaseException") = some true) (h2 : PySem.W.isClsIn K C = true) (h3 : PySem.W.typeIn K (.ref C) = some (.type "type")) (h4 : PySem.W.subIn K (.ref C) (.ref C) = some true) : PySem.W.exmOne K (.ref C) (.ref C) = some true := by
  have h2' : (PySem.W.clsIn K C).isSome = true := h2
  show (if (PySem.W.subIn K (.ref C) (.type "BaseException") == some true) = true then (if ((PySem.W.clsIn K C).isSome && PySem.W.typeIn K (.ref C) == some (.type "type")) = true then PySem.W.subIn K (.ref C) (.ref C) else none) else none) = some true
  rw [h1, h2', h3]
  exact h4
/-! ### either of two roads, chosen by the state -/
theorem pi_or {X : Cx} {tg it : Expr} {t u : TI} (h1 : PI X tg it t) (h2 : PI X tg it u) : PI X tg it (fun σ H R => t σ H R ∨ u σ H R) :=
  ⟨fun pins s σ H R I h => h.elim (h1.run pins s σ H R I) (h2.run pins s σ H R I)⟩
end Lw

/-! Lq: forward steps over what is a list or a tuple. -/
namespace Lw
open PySem L2 PySem.Spec PyProof.Rows
/-- a list or a tuple -/
def SqA (W : Wd) (H : Hp) (a : Addr) (xs : List V) : Prop := At W H a (.lst xs) ∨ At W H a (.tup xs)
/-- a plain value -/
inductive Pl : V → Prop
  | non : Pl .non
  | bl (b : Bool) : Pl (.bl b)
  | int (i : Int) : Pl (.int i)
  | str (s : Str) : Pl (.str s)
theorem Pl.flat {v : V} (h : Pl v) : flatV v = true := by cases h <;> rfl
section
variable {W : Wd} {K : PySem.W.Frag} {H H1 : Hp} {σ : L2.St} {D : Ends} {Q : VK} {v x y : V} {i j c : Int} {n m : Nat} {s z : Str} {b : Bool} {p a : Addr} {xs ys vs : List V}
variable {ta tb te : TE} {t u : TS} {tr tk ta' : TA} {g : TG} {tS : TS} {tt : TT}
theorem SqA.ex (e : Ex W H H1) (h : SqA W H a xs) : SqA W H1 a xs := h.imp e.at_ e.at_
theorem SqA.ofL (h : At W H a (.lst xs)) : SqA W H a xs := .inl h
theorem SqA.ofT (h : At W H a (.tup xs)) : SqA W H a xs := .inr h
theorem SqA.raw (h : SqA W H a xs) : SqL K H a xs ∨ SqT K H a xs := h.imp At.sl At.st
theorem rd_ixQ (h : SqA W H p xs) (e : atI xs i = some v) (k : Q v H) : rIx K (.ref p) (.int i) H Q := by
  rcases h with h | h
  · exact .inl ⟨p, xs, i, v, rfl, rfl, h.sl, e, k⟩
  · exact .inr (.inl ⟨p, xs, i, v, rfl, rfl, h.st, e, k⟩)
theorem rd_lenQ (h : SqA W H p xs) (k : Q (.int xs.length) H) : rLen K [.ref p] H Q := ⟨p, xs, rfl, h.raw, k⟩
theorem rd_lenK (h : SqT K H p xs) (k : Q (.int xs.length) H) : rLen K [.ref p] H Q := ⟨p, xs, rfl, .inr h, k⟩
theorem rd_tupQ (i : W.iv H) (h : SqA W H p xs) (k : ∀ t H2, Ex W H H2 → At W H2 t (.tup xs) → Q (.ref t) H2) : rTupO K [.ref p] H Q := by
  rcases h with h | h
  · exact ⟨p, xs, rfl, .inl ⟨h.sl, new_of i fun q H2 _ e a => k q H2 e a⟩⟩
  · exact ⟨p, xs, rfl, .inr ⟨h.st, k p H (Ex.refl i) h⟩⟩
theorem SqA.ty (h : SqA W H a xs) : TyX K H (.ref a) (.type "list") ∨ TyX K H (.ref a) (.type "tuple") := h.imp (fun h => .base (.lst h.raw)) fun h => .base (.tup h.raw)
/-- isinstance(x, (list, tuple)) -/
theorem rd_isRow {tp : Addr} (h : SqA W H a xs) (ht : H tp = some (.tup [.ty "list", .ty "tuple"])) (k : Q (.bl true) H) : rIsiT K [.ref a, .ref tp] H Q := by
  have cs : Paired ClsV [V.ty "list", V.ty "tuple"] [Value.type "list", Value.type "tuple"] := .cons (.ty _) (.cons (.ty _) .nil)
  rcases h.ty (K := K) with q | q
  · exact ⟨_, tp, _, _, _, true, rfl, ht, cs, q, by kernel_rfl, k⟩
  · exact ⟨_, tp, _, _, _, true, rfl, ht, cs, q, by kernel_rfl, k⟩
/-- for i, x in enumerate(xs), xs a name -/
theorem for_eq (hv : σ[m]? = some (some (.ref a))) (h : SqA W H a xs) (Pv : Nat → L2.St → Hp → Prop) (h0 : Pv 0 σ H) (hg : ∀ i σ' H', Pv i σ' H' → Ex W H H')
    (hs : ∀ i x T σ' H1 H', xs[i]? = some x → Pv i σ' H1 → H1 T = none → Ex W H1 H' → At W H' T (.tup [.int ((i : Nat) : Int), x]) → g (.ref T) σ' H' fun σ2 H2 => tS { D with nx := Pv (i + 1), ct := Pv (i + 1), bk := D.nx } σ2 H2)
    (hd : ∀ σ' H', Pv xs.length σ' H' → D.nx σ' H') : tFor (fun σ H R => iEnum K (tCons (tVar m) tNil) σ H R ∨ iEnumT K (tCons (tVar m) tNil) σ H R) g tS D σ H := by
  rcases h with h | h
  · refine .inl ⟨.ref a, hv, a, xs, rfl, h.sl, ?_⟩
    refine for_it (walk_enum (xs := xs)) Pv h0 (fun i σ H _ p => ((hg i σ H p).at_ h).sl) (fun i x σ H H' hi p y => ?_) hd
    obtain ⟨T, x1, x2, rfl, hT, rfl, e1, e2⟩ := y
    cases e1
    exact hs i x2 T σ H _ e2 p hT (Ex.new (hg i σ H p).iv hT) (At.new (hg i σ H p).iv hT)
  · refine .inr ⟨.ref a, hv, a, xs, rfl, h.st, ?_⟩
    refine for_it (walk_enumT (xs := xs)) Pv h0 (fun i σ H _ p => ((hg i σ H p).at_ h).st) (fun i x σ H H' hi p y => ?_) hd
    obtain ⟨T, x1, x2, rfl, hT, rfl, e1, e2⟩ := y
    cases e1
    have z := hs i x2 T σ H (upd H T (.tup [.int ((i : Nat) : Int), x2])) e2 p hT (Ex.new (hg i σ H p).iv hT) (At.new (hg i σ H p).iv hT)
    rwa [show (0 + ((i : Nat) : Int)) = (i : Int) from Int.zero_add _]
/-- [e for x in xs], xs a name: S is what holds of the items made (without the new list) -/
theorem lc_q (hv : σ[n]? = some (some (.ref a))) (h : SqA W H a xs) (i : W.iv H) (hn : xs.length ≤ 50000) (S : Nat → List V → Hp → Prop) (hm : ∀ k ys H1 H2, Ex W H1 H2 → S k ys H1 → S k ys H2) (h0 : S 0 [] H)
    (hs : ∀ k x D ys H' (QV : VK) (QN : Hp → Prop), k < xs.length → xs[k]? = some x → H D = none → At W H' D (.lst ys) → Ex W H H' → S k ys (Lw.hide D H') → ys.length ≤ k →
      (∀ y H4, Ex W H' H4 → S (k + 1) (ys ++ [y]) (Lw.hide D H4) → QV y H4) → (∀ H3, Ex W H' H3 → S (k + 1) ys (Lw.hide D H3) → QN H3) →
      tt ((wipe σ [m]).set m (some x)) H' fun b H3 => if b = true then te ((wipe σ [m]).set m (some x)) H3 QV else QN H3)
    (k : ∀ D H2 ys, H D = none → Ex W H H2 → At W H2 D (.lst ys) → S xs.length ys H2 → ys.length ≤ xs.length → Q (.ref D) H2) :
    tLc (fun σ H R => iList K (tVar n) σ H R ∨ iTup K (tVar n) σ H R) (gName m) tt te [m] σ H Q := by
  rcases h with h | h
  · exact .inl ⟨.ref a, hv, a, rfl, ⟨xs, h.sl⟩, lc_w (X := fun i x => xs[i]? = some x) walk_list S i hn (fun H' e => (e.at_ h).sl) hm h0 hs k⟩
  · exact .inr ⟨.ref a, hv, a, rfl, ⟨xs, h.st⟩, lc_w (X := fun i x => xs[i]? = some x) walk_tup S i hn (fun H' e => (e.at_ h).st) hm h0 hs k⟩
def rUpperS : V → List V → Hp → VK → Prop := fun x xs H Q => ∃ a, x = .str a ∧ xs = [] ∧ a.length ≤ 5592405 ∧ Q (.str (Txt.upper a)) H
theorem m_upper {X : Cx} : MtR X "str.upper" rUpperS := mt_upper
theorem rd_upper (h : s.length ≤ 1000000) (k : Q (.str (Txt.upper s)) H) : rUpperS (.str s) [] H Q := ⟨s, rfl, rfl, Nat.le_trans h (by decide), k⟩
theorem rd_bm0 {T : String} {r : V → List V → Hp → VK → Prop} (h : ta σ H fun x H1 => tyV K T x H1 ∧ r x [] H1 Q) : tBM0 K T r ta σ H Q := h
/-! ### raising -/
theorem rd_raiseS {C : Addr} {f : Str} {Wx : WX} (h : ta' σ H fun vs H1 => ∃ v, vs = [v] ∧ ∀ d, H1 d = none → Wx (.ref C) (some d) σ (upd H1 d (.xd [(f, v)]))) : tRaiseS C f Wx ta' D σ H := h
/-- the error's dict is new -/
theorem rd_newX {C : Addr} {f : Str} {Wx : WX} (i : W.iv H) (k : ∀ d H2, Ex W H H2 → At W H2 d (.xd [(f, v)]) → Wx (.ref C) (some d) σ H2) : ∃ v', [v] = [v'] ∧ ∀ d, H d = none → Wx (.ref C) (some d) σ (upd H d (.xd [(f, v')])) :=
  ⟨v, rfl, fun d hd => k d _ (Ex.new i hd) (At.new i hd)⟩
theorem rd_callS {sp : Sp} {E : L2.St → XK} (h : tr σ H fun vs H1 => sp vs H1 Q (E σ)) : tCallS sp E tr σ H Q := h
theorem rd_isX {cls : Value} {d : Option Addr} {C dd : Addr} {fs : List (Str × V)} {cv : Value} (h : At W H dd (.xd fs)) (e1 : cls = .ref C) (e2 : d = some dd) (T : IsC K C) (hc : ∀ u, RelV x u → u = cv) (e : PySem.W.kitOne K (.ref C) cv = some b) (k : Q (.bl b) H) : rIsX K cls d a [.ref a, x] H Q :=
  ⟨C, dd, fs, x, cv, b, e1, e2, h.1, T, rfl, hc, e, k⟩
theorem rd_xf {cls : Value} {d : Option Addr} {C dd : Addr} {f : Str} (hv : σ[m]? = some (some (.ref a))) (h : At W H dd (.xd [(f, v)])) (e1 : cls = .ref C) (e2 : d = some dd) (k : Q v H) : tXf a cls d C f (tVar m) σ H Q :=
  ⟨_, hv, rfl, e1, dd, _, v, e2, h.1, by simp [List.lookup], k⟩
end
end Lw

/-! Lh: f-strings, dicts by ints, walks of tuples that stand in the heap. -/
namespace Lw
open PySem L2 PySem.Spec PyProof.Rows
section
variable {W : Wd} {K : PySem.W.Frag} {H H1 : Hp} {σ : L2.St} {D : Ends} {Q : VK} {v x y : V} {i j c : Int} {n m : Nat} {s z : Str} {b : Bool} {p a : Addr} {xs ys vs : List V}
variable {ta tb te : TE} {t u : TS} {tr tk : TA} {g : TG} {tS : TS}
def FmtG (Q : VK) (x : V) (H : Hp) : Prop := (∃ y : Str, x = .str y ∧ y.length ≤ sizeLine ∧ Q (.str y) H) ∨ ∃ i : Int, x = .int i ∧ i.natAbs.log2 < 1920 ∧ Q (.str (toString i)) H
theorem rd_fmt (h : te σ H fun x H1 => FmtG Q x H1) : tFmt te σ H Q := h
theorem rd_fmtS (h : s.length ≤ 1000000) (k : Q (.str s) H) : FmtG Q (.str s) H := .inl ⟨s, rfl, sz_le h, k⟩
theorem rd_fmtI (h : i.natAbs.log2 < 1920) (k : Q (.str (toString i)) H) : FmtG Q (.int i) H := .inr ⟨i, rfl, h, k⟩
def JsG (ts : List TE) (acc : Str) (σ : L2.St) (QS : Str → Hp → Prop) (x : V) (H : Hp) : Prop := ∃ y : Str, x = .str y ∧ (acc ++ y).length ≤ sizeLine ∧ tJs ts (acc ++ y) σ H QS
theorem rd_js {ts : List TE} {acc : Str} {QS : Str → Hp → Prop} (h : te σ H fun x H1 => JsG ts acc σ QS x H1) : tJs (te :: ts) acc σ H QS := h
theorem rd_jsS {ts : List TE} {acc : Str} {QS : Str → Hp → Prop} (h : (acc ++ s).length ≤ 1000000) (k : tJs ts (acc ++ s) σ H QS) : JsG ts acc σ QS (.str s) H := ⟨s, rfl, sz_le h, k⟩
theorem rd_js0 {acc : Str} {QS : Str → Hp → Prop} (k : QS acc H) : tJs [] acc σ H QS := k
theorem rd_dinI {kvs : List (Key × V)} (h : At W H a (.dK kvs)) (k : Q (.bl (valV kvs (.inl i)).isSome) H) : DInG Q false (.ref a) (.int i) H := ⟨a, _, rfl, DGet.k (k := .inl i) h.1, k⟩
theorem rd_dputI {kvs : List (Key × V)} {H0 : Hp} {P : Hp → Prop} (e : Ex W H0 H) (h0 : H0 a = none) (h : At W H a (.dK kvs)) (hl : kvs.length < 1000000) (k : ∀ H2, Ex W H0 H2 → At W H2 a (.dK (putK kvs (.inl i) v)) → (∀ q o, q ≠ a → At W H q o → At W H2 q o) → P H2) :
    ∃ a' H4, V.ref a = .ref a' ∧ DPut H a' (.int i) v H4 ∧ P H4 := ⟨a, _, rfl, DPut.k (k := .inl i) h.1 (sz_lt hl), k _ (e.mut h0 h) (.mut e.iv h) fun _ _ ne q => .other e.iv h q ne⟩
/-- over a tuple of the heap -/
theorem for_t (Pv : Nat → L2.St → Hp → Prop) (h0 : Pv 0 σ H) (hl : ∀ i σ H, Pv i σ H → At W H a (.tup xs)) (hs : ∀ i x σ H, xs[i]? = some x → Pv i σ H → g x σ H fun σ2 H2 => tS { D with nx := Pv (i + 1), ct := Pv (i + 1), bk := D.nx } σ2 H2) (hd : ∀ σ H, Pv xs.length σ H → D.nx σ H) : FoW (Itt K a) g tS D σ H :=
  for_it (walk_tup (xs := xs)) Pv h0 (fun i σ H _ p => (hl i σ H p).st) (fun i x σ H H' hi p y => by
    obtain ⟨rfl, e⟩ := y
    exact hs i x σ _ e p) hd
theorem rd_srcET2 {P : Addr → Prop} (h : At W H a (.tup xs)) (k : P a) : ∃ a' xs, [V.ref a] = [.ref a'] ∧ SqT K H a' xs ∧ P a' := ⟨a, xs, rfl, h.st, k⟩
/-- enumerate of a tuple of the heap -/
theorem for_etA (Pv : Nat → L2.St → Hp → Prop) (h0 : Pv 0 σ H) (hv : ∀ i σ H, Pv i σ H → W.iv H ∧ At W H a (.tup xs))
    (hs : ∀ i x T σ H H', xs[i]? = some x → Pv i σ H → H T = none → Ex W H H' → At W H' T (.tup [.int (c + (i : Nat)), x]) → g (.ref T) σ H' fun σ2 H2 => tS { D with nx := Pv (i + 1), ct := Pv (i + 1), bk := D.nx } σ2 H2)
    (hd : ∀ σ H, Pv xs.length σ H → D.nx σ H) : FoW (IteT K c a) g tS D σ H :=
  for_it (walk_enumT (xs := xs)) Pv h0 (fun i σ H _ p => (hv i σ H p).2.st) (fun i x σ H H' hi p y => by
    obtain ⟨T, x1, x2, rfl, hT, rfl, e1, e2⟩ := y
    cases e1
    exact hs i x2 T σ H _ e2 p hT (Ex.new (hv i σ H p).1 hT) (At.new (hv i σ H p).1 hT)) hd
end
end Lw

/-! Lr: quiet defs: they raise nothing and are called where an exception is handled, too (in an except suite). -/
namespace Lw
open PySem L2 PySem.Spec PyProof.Rows
/-- nothing but room is asked of what is around -/
structure RoomQ (k : Nat) (A : Around) : Prop where
  dp : A.depth + 3 * k + 5 < recursionLimit
  un : A.units + 16 * k + 200 < cLine
theorem RoomQ.of {k : Nat} {A : Around} (r : Room k A) : RoomQ k A := ⟨r.dp, r.un⟩
theorem RoomQ.mark {k : Nat} {A : Around} {v : Option Value} (r : RoomQ k A) : RoomQ k (A.mark v) := ⟨r.dp, r.un⟩
theorem RoomQ.mono {j k : Nat} {A : Around} (r : RoomQ k A) (h : j ≤ k) : RoomQ j A := ⟨by have := r.dp; omega, by have := r.un; omega⟩
theorem RoomQ.deeper {k : Nat} {A : Around} (r : RoomQ (k + 1) A) (env : Env) : RoomQ k (A.deeper env) :=
  ⟨by have := r.dp; show A.depth + 1 + 3 * k + 5 < _; omega, by have := r.un; show A.units + 3 + 16 * k + 200 < _; omega⟩
structure FnQ (P : Program) (w : World) (K : PySem.W.Frag) (mg : Str → Option Value) (base : Heap) (CX : CXT) (k : Nat) (f : Addr) (fd : FuncData) (ps : List Str) (sp : Sp) : Prop where
  len : ∀ vs H Q E, sp vs H Q E → vs.length = ps.length
  run : ∀ {A : Around} {outer : List Env} {s : Shared} {H : Hp} {args : Args} {us : List Value} {vs : List V} {Q : VK} {E : XK}, RoomQ k A → Env0 P w K mg base A outer s H → BindsTo s fd args (ps.zip us) → Vals vs us → sp vs H Q E →
    codeAny (model P w) A (.call (.ref f) args) (CR CX outer P w H s Q E) s
/-- the context of such a def's body -/
abbrev cxQ (CX : CXT) (P : Program) (w : World) (K : PySem.W.Frag) (mg : Str → Option Value) (base : Heap) (N : List Str) (qual : Str) (scope : Scope) (f : Addr) (cd : Value) (A : Around) (outer : List Env) (s : Shared) (H : Hp) (E : XK) : Cx :=
  { cxOf CX P w K mg base N qual scope f cd A outer s H E with calm := false }
section
variable {P : Program} {w : World} {K : PySem.W.Frag} {mg : Str → Option Value} {base : Heap} {CX : CXT} {k : Nat} {f : Addr} {fd : FuncData} {ps N : List Str} {sp : Sp}
theorem Env0.unmark {A : Around} {outer : List Env} {s : Shared} {H : Hp} (e : Env0 P w K mg base A outer s H) : Env0 P w K mg base { A with handled := none } outer s H := ⟨e.frames, e.mod, e.bs, e.bsz, e.funs, e.frf, e.hok, e.bare⟩
theorem inv_startQ {qual : Str} {scope : Scope} {cd : Value} {A : Around} {outer : List Env} {s s1 : Shared} {H : Hp} {E : XK} {us : List Value} {vs : List V} (S : FnScope N ps scope) (e0 : Env0 P w K mg base A outer s H) (hl : vs.length = ps.length) (r : Vals vs us)
    (x : InCallC s s.heap.objs.size (bindL (envOfC qual scope s.heap.objs.size f cd).kindOf (ps.zip us) fun _ => none) (cellsFrom (s.heap.objs.size + 1) scope.names []) (bindC (envOfC qual scope s.heap.objs.size f cd).kindOf (ps.zip us) fun _ => none) s1) :
    Inv (cxQ CX P w K mg base N qual scope f cd A outer s H E) [] (start N vs) H s1 := by
  have I := inv_start (CX := CX) (E := E) (A := { A with handled := none }) S rfl (Env0.unmark e0) hl r x
  have o := I.ok
  have ok : (cxQ CX P w K mg base N qual scope f cd A outer s H E).Ok := ⟨o.mod, o.kind, o.glob, o.blt, o.above, o.inj, o.has, o.cab, fun z => Bool.noConfusion (show false = true from z), Around.frames_deeper e0.frames, o.stk, o.exf, o.bs, o.bsz, o.noex, o.exfs, o.funs, o.frf⟩
  exact ⟨ok, I.os, I.bare, I.base, I.loc, I.cell, I.free, I.freeC, I.pin, I.hok, I.len⟩
/-- by its body -/
theorem fnQ_body {name qual : Str} {params : Arguments} {body : List Stmt} {scope : Scope} {dV kV doc pm cdv ct oc : Value} {an od : Option Addr} {osl : Array (Option Value)}
    (lk : K.lookup f = some ⟨oc, od, .func (PySem.W.fnOf name qual params body scope dV kV doc pm an cdv ct), osl⟩) (hcd : PySem.W.codeIn K cdv qual = true) (S : FnScope N ps scope) (len : ∀ vs H Q E, sp vs H Q E → vs.length = ps.length)
    (hb : ∀ (A : Around) (outer : List Env) (s : Shared) (H : Hp) (vs : List V) (Q : VK) (E : XK), RoomQ k (A.deeper (envOfC qual scope s.heap.objs.size f cdv)) → sp vs H Q E →
      ∃ t, PSs (cxQ CX P w K mg base N qual scope f cdv A outer s H E) body t ∧ t { nx := fun _ H' => Q .non H', rt := Q } (start N vs) H) :
    FnQ P w K mg base CX (k + 1) f (PySem.W.fnOf name qual params body scope dV kV doc pm an cdv ct) ps sp := by
  constructor
  · exact len
  intro A outer s H args us vs Q E hr e0 bnd rel h
  have inBase : ∀ b o, base.get? b = some o → s.heap.get? b = some o := fun b o e => (e0.bs b o e).1
  have KX : K.In s.heap := e0.mod.kin.keeps inBase
  have kinds : ∀ y ∈ ps.zip us, scope.names.lookup y.1 = some .local ∨ (scope.names.lookup y.1 = some .cell ∧ ((cellsFrom (s.heap.objs.size + 1) scope.names []).lookup y.1).isSome = true) := by
    rintro ⟨n, v⟩ hy
    have hn := (List.of_mem_zip hy).1
    exact (S.par n hn).imp id fun q => ⟨q, PySem.W.cellsFrom_some _ _ _ (.inl q)⟩
  refine codeAny_call_function (by have := hr.dp; omega) (KX _ _ lk) rfl S.co S.gen rfl (PySem.W.codeRec_of KX hcd) (bnd _ _ _ _ (wpAny_newFunctionEnv_cells S.kind kinds ?_))
  rintro env rfl s1 x
  obtain ⟨t, ht, hq⟩ := hb A outer s H vs Q E (hr.deeper _) h
  have I := inv_startQ (CX := CX) (E := E) S e0 (len _ _ _ _ h) rel x
  refine ⟨(e0.mod.nolimit.keeps inBase).keeps x.toInCall.keep, codeAny_func (wpAny_mono (ht.run [] s1 (start N vs) H _ I hq) ?_ fun _ _ z => z)⟩
  intro fl s' hs
  cases fl with
  | next => obtain ⟨_, H', J, q⟩ := hs; exact ⟨.non, H', J.os, J.bare, J.base, J.hok, rfl, q⟩
  | ret u => obtain ⟨v, _, H', J, rv, q⟩ := hs; exact ⟨v, H', J.os, J.bare, J.base, J.hok, rv, q⟩
  | brk => obtain ⟨_, _, _, q⟩ := hs; cases q
  | cont => obtain ⟨_, _, _, q⟩ := hs; cases q
theorem Fun.okQ {x qual : Str} {st : Stmt} (F : Fun K x qual st f fd) (S : FnScope N ps (defScope st)) (len : ∀ vs H Q E, sp vs H Q E → vs.length = ps.length)
    (hb : ∀ (cdv : Value) (A : Around) (outer : List Env) (s : Shared) (H : Hp) (vs : List V) (Q : VK) (E : XK), RoomQ k (A.deeper (envOfC qual (defScope st) s.heap.objs.size f cdv)) → sp vs H Q E →
      ∃ t, PSs (cxQ CX0 P w K mg base N qual (defScope st) f cdv A outer s H E).nox (defBody st) t ∧ t { nx := fun _ H' => Q .non H', rt := Q } (start N vs) H) : FnQ P w K mg base CX0 (k + 1) f fd ps sp := by
  obtain ⟨_, _, _, _, _, _, cdv, _, _, rfl, lk, hcd⟩ := F.ex
  refine fnQ_body lk hcd S len fun A outer s H vs Q E hr h => ?_
  obtain ⟨t, ht, q⟩ := hb cdv A outer s H vs Q E hr h
  exact ⟨t, ht.nox, q⟩
end
section
variable {X : Cx} {CX : CXT} {k : Nat} {f : Addr} {fd : FuncData} {ps : List Str} {sp : Sp} {E : XK} {x : Str} {p pos : Pos} {e : Expr} {es : List Expr} {t : TA} {ds : List Value} {dvs : List V}
theorem callee_Q {pins : List (Addr × Obj)} {σ : L2.St} {H : Hp} {s : Shared} {Q : VK} {us : List Value} {vs : List V} (F : FnQ X.prog X.w X.K X.mg X.base CX k f fd ps sp) (hr : RoomQ k X.A) (hb : Binds X.K fd ps ds) (hd : Vals dvs ds) (hx : Passes CX X E)
    (I : Inv X pins σ H s) (r : Vals vs us) (h : sp (vs ++ dvs) H Q E) : wpAny (model X.prog X.w) X.A (call (.ref f) us) (EP X pins σ Q) X.xe s := by
  have both : Vals (vs ++ dvs) (us ++ ds) := r.append hd
  have n : (us ++ ds).length = ps.length := both.length.symm.trans (F.len _ _ _ _ h)
  refine wpAny_call (codeAny_mono (F.run hr I.env0 (hb s us I.kIn n) both h) ?_)
  rintro (er | fl) s' q
  · exact hx pins σ H s er s' I q
  · cases fl with
    | ret u => exact I.after q
    | next => cases q
    | brk => cases q
    | cont => cases q
/-- a call of such a def, also in an except suite -/
theorem pe_callQ (F : FnQ X.prog X.w X.K X.mg X.base CX k f fd ps sp) (hr : RoomQ k X.A) (hg : Gl X x) (hm : X.mg x = some (.ref f)) (hk : PySem.W.keepIn X.K (.ref f) = true) (hb : Binds X.K fd ps ds) (hd : Vals dvs ds) (hx : Passes CX X E)
    (ha : PA X (e :: es) t) (hdb : (x == ("__debug__" : Str)) = false := by decide) (he : starEach (e :: es) X.env = (false, eval e X.env) :: starEach es X.env := by rfl) (hpl : (backTo pos (starEach es X.env)).any (·.1) = false := by rfl) :
    PE X (.Call (.Name x p) (e :: es) [] pos) (tCall sp dvs E t) where
  run pins s σ H Q I h := by
    refine wpAny_Call_Name_kw (ld_glob I hg hm (PySem.W.callWith_K (h₀ := X.base) I.ok.mod.kin hk ?_ he hpl) hdb)
    refine thn (ha.run pos pins s σ H _ I h) ?_
    rintro us s1 ⟨vs, H1, I1, r, q⟩
    exact ⟨I1.kIn, callee_Q F hr hb hd hx I1 r q⟩
end
/-! ### range with a step -/
section
variable {σ : L2.St} {H : Hp} {D : Ends} {lo c : Int} {n m : Nat} {g : TG} {tS : TS} {ta : TA}
theorem rd_forR3 (h : ta σ H fun vs H1 => ∃ (i j c : Int) (n : Nat), vs = [.int i, .int j, .int c] ∧ RgC i j c n ∧ FoW (Itc i c n) g tS D σ H1) : tFor (iRng3 ta) g tS D σ H := h
theorem rd_down {P : Int → Int → Nat → Prop} {i : Int} (h0 : 0 ≤ i + 1) (h1 : i < 1000000) (k : P i (-1) (i + 1).toNat) : ∃ (i' j' c : Int) (n : Nat), [V.int i, V.int (-1), V.int (-1)] = [.int i', .int j', .int c] ∧ RgC i' j' c n ∧ P i' c n :=
  ⟨i, -1, -1, (i + 1).toNat, rfl, by have q := RgC.neg (i := i) (j := -1) (by omega) (by omega) (by decide) (by decide); rwa [show i - -1 = i + 1 by omega] at q, k⟩
theorem for_rC (Pv : Nat → L2.St → Hp → Prop) (h0 : Pv 0 σ H) (hs : ∀ (i : Nat) σ H, i < n → Pv i σ H → tS { D with nx := Pv (i + 1), ct := Pv (i + 1), bk := D.nx } (σ.set m (some (.int (lo + i * c)))) H) (hd : ∀ σ H, Pv n σ H → D.nx σ H) : FoW (Itc lo c n) (gName m) tS D σ H := by
  refine ⟨fun i k σ H => i ≤ n ∧ k = n - i ∧ Pv i σ H, ⟨_, Nat.zero_le _, rfl, h0⟩, ?_⟩
  rintro i k σ H ⟨hi, rfl, p⟩
  by_cases e : i < n
  · refine .inr ⟨e, Pv (i + 1), fun σ' H' q => ⟨n - (i + 1), by omega, by omega, rfl, q⟩, ?_⟩
    rintro x H' ⟨rfl, rfl⟩
    exact hs i σ _ e p
  · have e2 : i = n := by omega
    subst e2
    exact .inl ⟨Nat.le_refl _, hd _ _ p⟩
end
end Lw

/-! Lt: a text times an int, list.insert, d[text], int(text). -/
namespace Lw
open PySem L2 PySem.Spec PyProof.Rows
def repS (z : Str) (n : Nat) : Str := ⟨(List.replicate n z.cps).foldl (· ++ ·) #[]⟩
theorem rep_list : ∀ (l : List (Array Nat)) (a : Array Nat), (l.foldl (· ++ ·) a).toList = a.toList ++ (l.map Array.toList).flatten
  | [], a => by simp
  | b :: l, a => by
    rw [List.foldl_cons, rep_list l, Array.toList_append, List.map_cons, List.flatten_cons, List.append_assoc]
theorem repS_tl (z : Str) (n : Nat) : (repS z n).cps.toList = (List.replicate n z.cps.toList).flatten := by
  unfold repS
  show (List.foldl _ _ _ : Array Nat).toList = _
  rw [rep_list, List.map_replicate]
  rfl
theorem repS_len (z : Str) (n : Nat) : (repS z n).length = n * z.length := by
  have : (repS z n).length = (repS z n).cps.toList.length := Array.length_toList.symm
  rw [this, repS_tl, List.length_flatten, List.map_replicate, List.sum_replicate_nat]
  rfl
/-- a text times an int from 2 on -/
def rRepS : R2 := fun x y H Q => ∃ (z : Str) (k : Int), x = .str z ∧ y = .int k ∧ 2 ≤ k ∧ z.length ≠ 0 ∧ z.length * k.toNat ≤ 1000000 ∧ Q (.str (repS z k.toNat)) H
theorem op_repS {X : Cx} : OpR X (binaryOp .Mult) rRepS := by
  intro pins s σ H x y v u Q I rx ry h
  obtain ⟨z, k, rfl, rfl, hk, hz, hl, q⟩ := h
  obtain ⟨t, rfl⟩ := rx
  obtain ⟨t', rfl⟩ := ry
  have hk2 : k ≤ 1000000 := by
    have : k.toNat ≤ z.length * k.toNat := Nat.le_mul_of_pos_left _ (by omega)
    omega
  have hz2 : z.length ≤ 1000000 := by
    have : z.length ≤ z.length * k.toNat := Nat.le_mul_of_pos_right _ (by omega)
    omega
  have e1 : ¬ k < 1 := by omega
  have e2 : (k == 1 || z.length == 0) = false := by
    rw [Bool.or_eq_false_iff]
    exact ⟨beq_eq_false_iff_ne.mpr (by omega), beq_eq_false_iff_ne.mpr hz⟩
  have e3 : Builtin.Str.tooLong (z.length * k.toNat) = false := by
    unfold Builtin.Str.tooLong
    exact decide_eq_false (by have : (1000000 : Nat) ≤ sizeLine := by decide
                              omega)
  refine PySem.P.mul_str ?_ (fun _ _ => ?_) (fun _ _ => e3) ?_
  · rw [decide_eq_false (by omega), decide_eq_false (by omega)]; rfl
  · have e5 : (z.length : Int) * k ≤ 2 ^ 63 - 1 := by
      have : (z.length : Int) * k = ((z.length * k.toNat : Nat) : Int) := by rw [Int.natCast_mul, Int.toNat_of_nonneg (by omega)]
      rw [this]
      omega
    exact Int.not_lt.mpr (Int.le_ediv_of_mul_le (by omega) e5)
  · rw [if_neg e1, if_neg (by rw [e2]; decide)]
    refine ⟨?_, .str (repS z k.toNat), H, I.tok _, ⟨_, rfl⟩, q⟩
    show (repS z k.toNat).length ≤ sizeLine
    rw [repS_len, Nat.mul_comm]
    exact Nat.le_trans hl (by decide)
section
variable {W : Wd} {K : PySem.W.Frag} {H H1 : Hp} {σ : L2.St} {D : Ends} {Q : VK} {v x y : V} {i j c : Int} {n m : Nat} {s z : Str} {b : Bool} {p a : Addr} {xs ys vs : List V}
variable {ta tb te : TE} {t u : TS} {tr tk : TA} {g : TG} {tS : TS}
theorem rd_repS (h : 2 ≤ i) (hz : s.length ≠ 0) (hl : s.length * i.toNat ≤ 1000000) (k : Q (.str (repS s i.toNat)) H) : rRepS (.str s) (.int i) H Q := ⟨s, i, rfl, rfl, h, hz, hl, k⟩
/-- xs.insert(i, y), xs a list of our own -/
def rIns : V → List V → Hp → VK → Prop := fun x vs H Q => ∃ (l : Addr) (xs : List V) (i : Int) (y : V), x = .ref l ∧ vs = [.int i, y] ∧ H l = some (.lst xs) ∧ xs.length < sizeLine ∧ 0 ≤ i ∧ i < 2 ^ 63 ∧ Q .non (upd H l (.lst (xs.take i.toNat ++ [y] ++ xs.drop i.toNat)))
theorem m_insert {X : Cx} : MtR X "list.insert" rIns := mt_insert
theorem rd_ins {H0 : Hp} (e : Ex W H0 H) (h0 : H0 a = none) (h : At W H a (.lst xs)) (hl : xs.length < 1000000) (i0 : 0 ≤ i) (i1 : i ≤ 1000000) (k : ∀ H2, Ex W H0 H2 → At W H2 a (.lst (xs.take i.toNat ++ [v] ++ xs.drop i.toNat)) → (∀ q o, q ≠ a → At W H q o → At W H2 q o) → Q .non H2) : rIns (.ref a) [.int i, v] H Q :=
  ⟨a, xs, i, v, rfl, rfl, h.1, sz_lt hl, i0, by omega, k _ (e.mut h0 h) (.mut e.iv h) fun _ _ ne q => .other e.iv h q ne⟩
theorem rd_dsetS {kvs : List (Key × V)} {H0 : Hp} (e : Ex W H0 H) (h0 : H0 a = none) (h : At W H a (.dK kvs)) (hl : kvs.length < 1000000) (k1 : ∀ u, valV kvs (.inr s) = some u → Q u H) (k2 : valV kvs (.inr s) = none → ∀ H2, Ex W H0 H2 → At W H2 a (.dK (putK kvs (.inr s) v)) → (∀ q o, q ≠ a → At W H q o → At W H2 q o) → Q v H2) :
    DSetG Q a (.str s) v H := ⟨kvs, .inr s, h.1, rfl, sz_lt hl, k1, fun n => k2 n _ (e.mut h0 h) (.mut e.iv h) fun _ _ ne q => .other e.iv h q ne⟩
theorem rd_dninS {kvs : List (Key × V)} (h : At W H a (.dK kvs)) (k : Q (.bl (!(valV kvs (.inr s)).isSome)) H) : DInG Q true (.ref a) (.str s) H := ⟨a, _, rfl, DGet.k (k := .inr s) h.1, k⟩
/-- d[k] -/
def DIxG (Q : VK) (x : V) (y : V) (H : Hp) : Prop := ∃ a v, x = .ref a ∧ DGet H a y (some v) ∧ Q v H
theorem rd_dget (h : ta σ H fun x H1 => te σ H1 fun y H2 => DIxG Q x y H2) : tDGet ta te σ H Q := h
theorem rd_dgetX {kvs : List (Key × V)} (h : At W H a (.dK kvs)) (e : valV kvs (.inr s) = some v) (k : Q v H) : DIxG Q (.ref a) (.str s) H := ⟨a, v, rfl, by rw [← e]; exact DGet.k (k := .inr s) h.1, k⟩
theorem rd_dgetXi {kvs : List (Key × V)} (h : At W H a (.dK kvs)) (e : valV kvs (.inl i) = some v) (k : Q v H) : DIxG Q (.ref a) (.int i) H := ⟨a, v, rfl, by rw [← e]; exact DGet.k (k := .inl i) h.1, k⟩
/-- int(text) of digits -/
def rIntS : List V → Hp → VK → Prop := fun xs H Q => ∃ a n, xs = [.str a] ∧ PySem.intText? a = some n ∧ a.length ≤ 640 ∧ Q (.int n) H
theorem c_intS {X : Cx} : CallR X (.type "int") rIntS := call_int_str
theorem rd_intS (h : ∀ c ∈ s.cps.toList, 48 ≤ c ∧ c ≤ 57) (h1 : s.cps.toList ≠ []) (h2 : s.length ≤ 640) (k : Q (.int ((s.cps.toList.foldl (fun (acc : Nat) c => acc * 10 + (c - 48)) 0 : Nat) : Int)) H) : rIntS [.str s] H Q :=
  ⟨s, _, rfl, PySem.intText_digits h h1 (Nat.le_trans h2 (by decide)), h2, k⟩
end
end Lw

/-! Ld: data: what a value stands for, as a tree of None, bools, ints, texts, lists and tuples. -/
namespace Lw
open PySem L2 PySem.Spec PyProof.Rows
inductive F2 {α β : Type} (R : α → β → Prop) : List α → List β → Prop
  | nil : F2 R [] []
  | cons {x : α} {y : β} {xs : List α} {ys : List β} : R x y → F2 R xs ys → F2 R (x :: xs) (y :: ys)
namespace F2
variable {α β : Type} {R S : α → β → Prop}
theorem length : ∀ {xs : List α} {ys : List β}, F2 R xs ys → xs.length = ys.length
  | _, _, .nil => rfl
  | _, _, .cons _ t => by rw [List.length_cons, List.length_cons, t.length]
theorem mono (f : ∀ x y, R x y → S x y) : ∀ {xs : List α} {ys : List β}, F2 R xs ys → F2 S xs ys
  | _, _, .nil => .nil
  | _, _, .cons a t => .cons (f _ _ a) (t.mono f)
theorem monoM : ∀ {xs : List α} {ys : List β}, (∀ x y, y ∈ ys → R x y → S x y) → F2 R xs ys → F2 S xs ys
  | _, _, _, .nil => .nil
  | _, _, f, .cons a t => .cons (f _ _ (List.mem_cons_self ..) a) (t.monoM fun x y h => f x y (List.mem_cons_of_mem _ h))
theorem append {us : List α} {vs : List β} (h : F2 R us vs) : ∀ {xs : List α} {ys : List β}, F2 R xs ys → F2 R (xs ++ us) (ys ++ vs)
  | _, _, .nil => h
  | _, _, .cons a t => .cons a (append h t)
theorem snoc {xs : List α} {ys : List β} {x : α} {y : β} (t : F2 R xs ys) (h : R x y) : F2 R (xs ++ [x]) (ys ++ [y]) := append (.cons h .nil) t
theorem get : ∀ {xs : List α} {ys : List β} {n : Nat} {x : α}, F2 R xs ys → xs[n]? = some x → ∃ y, ys[n]? = some y ∧ R x y
  | _, _, _, _, .nil, e => by simp at e
  | _, _, 0, _, .cons a _, e => by simp at e; subst e; exact ⟨_, rfl, a⟩
  | _, _, n + 1, _, .cons _ t, e => t.get (n := n) (by simpa using e)
theorem getR : ∀ {xs : List α} {ys : List β} {n : Nat} {y : β}, F2 R xs ys → ys[n]? = some y → ∃ x, xs[n]? = some x ∧ R x y
  | _, _, _, _, .nil, e => by simp at e
  | _, _, 0, _, .cons a _, e => by simp at e; subst e; exact ⟨_, rfl, a⟩
  | _, _, n + 1, _, .cons _ t, e => t.getR (n := n) (by simpa using e)
theorem mem : ∀ {xs : List α} {ys : List β} {x : α}, F2 R xs ys → x ∈ xs → ∃ y ∈ ys, R x y
  | _, _, _, .nil, h => by cases h
  | _, _, x, .cons a t, h => by
    rcases List.mem_cons.mp h with rfl | h
    · exact ⟨_, List.mem_cons_self .., a⟩
    · obtain ⟨y, hy, r⟩ := t.mem h
      exact ⟨y, List.mem_cons_of_mem _ hy, r⟩
theorem rep {x : α} {y : β} (h : R x y) : ∀ n, F2 R (List.replicate n x) (List.replicate n y)
  | 0 => .nil
  | n + 1 => .cons h (rep h n)
theorem take : ∀ {xs : List α} {ys : List β} (n : Nat), F2 R xs ys → F2 R (xs.take n) (ys.take n)
  | _, _, 0, _ => by rw [List.take_zero, List.take_zero]; exact .nil
  | _, _, n + 1, .nil => by rw [List.take_nil, List.take_nil]; exact .nil
  | _, _, n + 1, .cons a t => .cons a (take n t)
theorem drop : ∀ {xs : List α} {ys : List β} (n : Nat), F2 R xs ys → F2 R (xs.drop n) (ys.drop n)
  | _, _, 0, t => by rw [List.drop_zero, List.drop_zero]; exact t
  | _, _, n + 1, .nil => by rw [List.drop_nil, List.drop_nil]; exact .nil
  | _, _, n + 1, .cons a t => by rw [List.drop_succ_cons, List.drop_succ_cons]; exact drop n t
theorem set {x : α} {y : β} (h : R x y) : ∀ {xs : List α} {ys : List β} (n : Nat), F2 R xs ys → F2 R (xs.set n x) (ys.set n y)
  | _, _, _, .nil => .nil
  | _, _, 0, .cons a t => .cons h t
  | _, _, n + 1, .cons a t => .cons a (set h n t)
theorem rev : ∀ {xs : List α} {ys : List β}, F2 R xs ys → F2 R xs.reverse ys.reverse
  | _, _, .nil => .nil
  | _, _, .cons a t => by rw [List.reverse_cons, List.reverse_cons]; exact (rev t).snoc a
theorem map1 {γ : Type} {f : γ → α} : ∀ {xs : List γ} {ys : List β}, F2 (fun x y => R (f x) y) xs ys → F2 R (xs.map f) ys
  | _, _, .nil => .nil
  | _, _, .cons a t => .cons a (map1 t)
theorem map2 {γ : Type} {f : γ → β} : ∀ {xs : List α} {ys : List γ}, F2 (fun x y => R x (f y)) xs ys → F2 R xs (ys.map f)
  | _, _, .nil => .nil
  | _, _, .cons a t => .cons a (map2 t)
end F2
/-- a tuple of the written part -/
structure KTup (K : PySem.W.Frag) (a : Addr) (xs : List V) : Prop where
  sq : ∀ H : Hp, SqT K H a xs
  cl : ∃ o, K.lookup a = some o ∧ o.cls = .type "tuple"
/-- a tuple; a list or a tuple -/
def TuA (K : PySem.W.Frag) (W : Wd) (H : Hp) (a : Addr) (xs : List V) : Prop := At W H a (.tup xs) ∨ KTup K a xs
def SqB (K : PySem.W.Frag) (W : Wd) (H : Hp) (a : Addr) (xs : List V) : Prop := At W H a (.lst xs) ∨ TuA K W H a xs
mutual
inductive DW (K : PySem.W.Frag) (W : Wd) (H : Hp) : V → PyData → Prop
  | non : DW K W H .non .none
  | bl (b : Bool) : DW K W H (.bl b) (.bool b)
  | int (i : Int) : DW K W H (.int i) (.int i)
  | str (s : Str) : DW K W H (.str s) (.str s)
  | lst {a : Addr} {xs : List V} {ds : List PyData} : At W H a (.lst xs) → DWs K W H xs ds → DW K W H (.ref a) (.list ds)
  | tup {a : Addr} {xs : List V} {ds : List PyData} : TuA K W H a xs → DWs K W H xs ds → DW K W H (.ref a) (.tuple ds)
inductive DWs (K : PySem.W.Frag) (W : Wd) (H : Hp) : List V → List PyData → Prop
  | nil : DWs K W H [] []
  | cons {v : V} {vs : List V} {d : PyData} {ds : List PyData} : DW K W H v d → DWs K W H vs ds → DWs K W H (v :: vs) (d :: ds)
end
section
variable {K : PySem.W.Frag} {W : Wd} {H H1 H2 : Hp} {a : Addr} {xs : List V} {v : V} {d : PyData} {ds : List PyData}
theorem TuA.ex (e : Ex W H H1) (h : TuA K W H a xs) : TuA K W H1 a xs := h.imp e.at_ id
theorem SqB.ex (e : Ex W H H1) (h : SqB K W H a xs) : SqB K W H1 a xs := h.imp e.at_ (TuA.ex e)
theorem TuA.sq (h : TuA K W H a xs) : SqT K H a xs := h.elim At.st fun k => k.sq H
theorem SqB.raw (h : SqB K W H a xs) : SqL K H a xs ∨ SqT K H a xs := h.imp At.sl TuA.sq
theorem TuA.ty (h : TuA K W H a xs) : TyX K H (.ref a) (.type "tuple") := by
  rcases h with h | h
  · exact .base (.tup h.raw)
  · obtain ⟨o, e, c⟩ := h.cl
    exact .kTuple e c
mutual
theorem DW.ex (e : Ex W H H1) : ∀ {v : V} {d : PyData}, DW K W H v d → DW K W H1 v d
  | _, _, .non => .non
  | _, _, .bl b => .bl b
  | _, _, .int i => .int i
  | _, _, .str s => .str s
  | _, _, .lst h t => .lst (e.at_ h) (DWs.ex e t)
  | _, _, .tup h t => .tup (h.ex e) (DWs.ex e t)
theorem DWs.ex (e : Ex W H H1) : ∀ {vs : List V} {ds : List PyData}, DWs K W H vs ds → DWs K W H1 vs ds
  | _, _, .nil => .nil
  | _, _, .cons a t => .cons (DW.ex e a) (DWs.ex e t)
end
/-! no list within -/
mutual
def noL : PyData → Bool
  | .list _ => false
  | .tuple ds => noLs ds
  | _ => true
def noLs : List PyData → Bool
  | [] => true
  | d :: ds => noL d && noLs ds
end
mutual
theorem DW.keepT (k : ∀ q us, At W H q (.tup us) → At W H1 q (.tup us)) : ∀ {v : V} {d : PyData}, noL d = true → DW K W H v d → DW K W H1 v d
  | _, _, _, .non => .non
  | _, _, _, .bl b => .bl b
  | _, _, _, .int i => .int i
  | _, _, _, .str s => .str s
  | _, _, n, .lst h t => by rw [noL] at n; cases n
  | _, _, n, .tup h t => .tup (h.imp (k _ _) id) (DWs.keepT k (by rw [noL] at n; exact n) t)
theorem DWs.keepT (k : ∀ q us, At W H q (.tup us) → At W H1 q (.tup us)) : ∀ {vs : List V} {ds : List PyData}, noLs ds = true → DWs K W H vs ds → DWs K W H1 vs ds
  | _, _, _, .nil => .nil
  | _, _, n, .cons a t => by
    rw [noLs, Bool.and_eq_true] at n
    exact .cons (DW.keepT k n.1 a) (DWs.keepT k n.2 t)
end
mutual
theorem DW.dp : ∀ {v : V} {d : PyData}, DW K W H v d → Dp K H v d
  | _, _, .non => .non
  | _, _, .bl b => .bl b
  | _, _, .int i => .int i
  | _, _, .str s => .str s
  | _, _, .lst h t => .lst h.sl (DWs.dp t)
  | _, _, .tup h t => .tup h.sq (DWs.dp t)
theorem DWs.dp : ∀ {vs : List V} {ds : List PyData}, DWs K W H vs ds → DpAll K H vs ds
  | _, _, .nil => .nil
  | _, _, .cons a t => .cons (DW.dp a) (DWs.dp t)
end
theorem DWs.f2 : ∀ {vs : List V} {ds : List PyData}, DWs K W H vs ds → F2 (DW K W H) vs ds
  | _, _, .nil => .nil
  | _, _, .cons a t => .cons a t.f2
theorem DWs.of : ∀ {vs : List V} {ds : List PyData}, F2 (DW K W H) vs ds → DWs K W H vs ds
  | _, _, .nil => .nil
  | _, _, .cons a t => .cons a (DWs.of t)
theorem DWs.length {vs : List V} (h : DWs K W H vs ds) : vs.length = ds.length := h.f2.length
theorem DWs.get {vs : List V} {n : Nat} {x : V} (h : DWs K W H vs ds) (e : vs[n]? = some x) : ∃ d, ds[n]? = some d ∧ DW K W H x d := h.f2.get e
theorem DWs.getR {vs : List V} {n : Nat} {x : PyData} (h : DWs K W H vs ds) (e : ds[n]? = some x) : ∃ v, vs[n]? = some v ∧ DW K W H v x := h.f2.getR e
theorem DWs.snoc {vs : List V} (h : DWs K W H vs ds) (x : DW K W H v d) : DWs K W H (vs ++ [v]) (ds ++ [d]) := .of (h.f2.snoc x)
theorem DWs.take {vs : List V} (n : Nat) (h : DWs K W H vs ds) : DWs K W H (vs.take n) (ds.take n) := .of (h.f2.take n)
theorem DWs.drop {vs : List V} (n : Nat) (h : DWs K W H vs ds) : DWs K W H (vs.drop n) (ds.drop n) := .of (h.f2.drop n)
theorem DWs.app {vs us : List V} {es : List PyData} (h : DWs K W H vs ds) (h2 : DWs K W H us es) : DWs K W H (vs ++ us) (ds ++ es) := .of (F2.append h2.f2 h.f2)
theorem DWs.ints : ∀ ns : List Int, DWs K W H (ns.map V.int) (ns.map PyData.int)
  | [] => .nil
  | n :: ns => .cons (.int n) (DWs.ints ns)
theorem DWs.strs : ∀ ns : List Str, DWs K W H (ns.map V.str) (ns.map PyData.str)
  | [] => .nil
  | n :: ns => .cons (.str n) (DWs.strs ns)
/-! ### what the kinds are -/
def isRow : PyData → Bool
  | .list _ => true | .tuple _ => true | _ => false
def items : PyData → List PyData
  | .list ds => ds | .tuple ds => ds | _ => []
def isI : PyData → Bool
  | .int _ => true | _ => false
def isB : PyData → Bool
  | .bool _ => true | _ => false
def isIB : PyData → Bool
  | .int _ => true | .bool _ => true | _ => false
def isS : PyData → Bool
  | .str _ => true | _ => false
def isT : PyData → Bool
  | .tuple _ => true | _ => false
def isLs : PyData → Bool
  | .list _ => true | _ => false
def tyD : PyData → String
  | .none => "NoneType" | .bool _ => "bool" | .int _ => "int" | .str _ => "str" | .list _ => "list" | .tuple _ => "tuple" | .dict _ => "dict"
theorem DW.ty (h : DW K W H v d) : TyX K H v (.type (tyD d)) := by
  cases h with
  | non => exact .base .non
  | bl b => exact .base (.bl b)
  | int i => exact .base (.int i)
  | str s => exact .base (.str s)
  | lst h _ => exact .base (.lst h.raw)
  | tup h _ => exact h.ty
theorem DW.row (h : DW K W H v d) (r : isRow d = true) : ∃ a xs, v = .ref a ∧ SqB K W H a xs ∧ DWs K W H xs (items d) := by
  cases h with
  | lst h t => exact ⟨_, _, rfl, .inl h, t⟩
  | tup h t => exact ⟨_, _, rfl, .inr h, t⟩
  | _ => cases r
theorem DW.tupE (h : DW K W H v (.tuple ds)) : ∃ a xs, v = .ref a ∧ TuA K W H a xs ∧ DWs K W H xs ds := by
  cases h with
  | tup h t => exact ⟨_, _, rfl, h, t⟩
theorem DW.lstE (h : DW K W H v (.list ds)) : ∃ a xs, v = .ref a ∧ At W H a (.lst xs) ∧ DWs K W H xs ds := by
  cases h with
  | lst h t => exact ⟨_, _, rfl, h, t⟩
theorem DW.intE {i : Int} (h : DW K W H v (.int i)) : v = .int i := by cases h; rfl
theorem DW.strE {s : Str} (h : DW K W H v (.str s)) : v = .str s := by cases h; rfl
theorem DW.nonE (h : DW K W H v .none) : v = .non := by cases h; rfl
theorem DW.bl_E {b : Bool} (h : DW K W H v (.bool b)) : v = .bl b := by cases h; rfl
theorem DW.isN (h : DW K W H v d) : decide (v = .non) = (match d with | .none => true | _ => false) := by
  cases h with
  | non => exact decide_eq_true rfl
  | _ => exact decide_eq_false (fun z => nomatch z)
theorem DW.noDict (h : DW K W H v d) : ∀ kvs, d ≠ .dict kvs := fun kvs z => by
  subst z
  cases h
theorem DW.kit (h : DW K W H v d) : kitB (tyD d) "int" = some (isIB d) ∧ kitB (tyD d) "bool" = some (isB d) ∧ kitB (tyD d) "str" = some (isS d) ∧ kitB (tyD d) "tuple" = some (isT d) ∧ kitB (tyD d) "list" = some (isLs d) := by
  cases h with
  | non => exact ⟨(by decide +kernel : kitB "NoneType" "int" = some false), (by decide +kernel : kitB "NoneType" "bool" = some false), (by decide +kernel : kitB "NoneType" "str" = some false), (by decide +kernel : kitB "NoneType" "tuple" = some false), (by decide +kernel : kitB "NoneType" "list" = some false)⟩
  | bl b => exact ⟨(by decide +kernel : kitB "bool" "int" = some true), (by decide +kernel : kitB "bool" "bool" = some true), (by decide +kernel : kitB "bool" "str" = some false), (by decide +kernel : kitB "bool" "tuple" = some false), (by decide +kernel : kitB "bool" "list" = some false)⟩
  | int i => exact ⟨(by decide +kernel : kitB "int" "int" = some true), (by decide +kernel : kitB "int" "bool" = some false), (by decide +kernel : kitB "int" "str" = some false), (by decide +kernel : kitB "int" "tuple" = some false), (by decide +kernel : kitB "int" "list" = some false)⟩
  | str s => exact ⟨(by decide +kernel : kitB "str" "int" = some false), (by decide +kernel : kitB "str" "bool" = some false), (by decide +kernel : kitB "str" "str" = some true), (by decide +kernel : kitB "str" "tuple" = some false), (by decide +kernel : kitB "str" "list" = some false)⟩
  | lst h _ => exact ⟨(by decide +kernel : kitB "list" "int" = some false), (by decide +kernel : kitB "list" "bool" = some false), (by decide +kernel : kitB "list" "str" = some false), (by decide +kernel : kitB "list" "tuple" = some false), (by decide +kernel : kitB "list" "list" = some true)⟩
  | tup h _ => exact ⟨(by decide +kernel : kitB "tuple" "int" = some false), (by decide +kernel : kitB "tuple" "bool" = some false), (by decide +kernel : kitB "tuple" "str" = some false), (by decide +kernel : kitB "tuple" "tuple" = some true), (by decide +kernel : kitB "tuple" "list" = some false)⟩
end
/-! ### steps -/
section
variable {K : PySem.W.Frag} {W : Wd} {H H1 H2 : Hp} {a p : Addr} {xs ys vs : List V} {v x y : V} {d e : PyData} {ds : List PyData} {Q : VK} {σ : L2.St} {D : Ends} {i : Int} {b : Bool} {n m : Nat} {f : Str} {C dx : Addr} {fs : List (Str × V)}
variable {ta tb te : TE} {tr : TA} {t : TS} {g : TG} {tt : TT} {tS : TS} {tgs : TGs}
theorem rd_isInt (h : DW K W H v d) (k : Q (.bl (isIB d)) H) : rIsi K [v, .ty "int"] H Q := rd_isi h.ty h.kit.1 k
theorem rd_isBool (h : DW K W H v d) (k : Q (.bl (isB d)) H) : rIsi K [v, .ty "bool"] H Q := rd_isi h.ty h.kit.2.1 k
theorem rd_isStr (h : DW K W H v d) (k : Q (.bl (isS d)) H) : rIsi K [v, .ty "str"] H Q := rd_isi h.ty h.kit.2.2.1 k
theorem rd_isTup (h : DW K W H v d) (k : Q (.bl (isT d)) H) : rIsi K [v, .ty "tuple"] H Q := rd_isi h.ty h.kit.2.2.2.1 k
theorem rd_isLst (h : DW K W H v d) (k : Q (.bl (isLs d)) H) : rIsi K [v, .ty "list"] H Q := rd_isi h.ty h.kit.2.2.2.2 k
/-- isinstance(x, (list, tuple)) -/
theorem rd_isRowD {tp : Addr} (h : DW K W H v d) (ht : H tp = some (.tup [.ty "list", .ty "tuple"])) (k : Q (.bl (isRow d)) H) : rIsiT K [v, .ref tp] H Q := by
  have cs : Paired ClsV [V.ty "list", V.ty "tuple"] [Value.type "list", Value.type "tuple"] := .cons (.ty _) (.cons (.ty _) .nil)
  refine ⟨_, tp, _, _, _, isRow d, rfl, ht, cs, h.ty, ?_, k⟩
  cases h with
  | non => kernel_rfl
  | bl b => kernel_rfl
  | int i => kernel_rfl
  | str s => kernel_rfl
  | lst h _ => kernel_rfl
  | tup h _ => kernel_rfl
theorem rd_ixB (h : SqB K W H p xs) (e : atI xs i = some v) (k : Q v H) : rIx K (.ref p) (.int i) H Q := by
  rcases h.raw with h | h
  · exact .inl ⟨p, xs, i, v, rfl, rfl, h, e, k⟩
  · exact .inr (.inl ⟨p, xs, i, v, rfl, rfl, h, e, k⟩)
theorem rd_ixTB (h : TuA K W H p xs) (e : atI xs i = some v) (k : Q v H) : rIxT K (.ref p) (.int i) H Q := ⟨p, xs, i, v, rfl, rfl, h.sq, e, k⟩
theorem rd_lenB (h : SqB K W H p xs) (k : Q (.int xs.length) H) : rLen K [.ref p] H Q := ⟨p, xs, rfl, h.raw, k⟩
theorem rd_tupB (i : W.iv H) (h : SqB K W H p xs) (k : ∀ t H2, Ex W H H2 → TuA K W H2 t xs → Q (.ref t) H2) : rTupO K [.ref p] H Q := by
  rcases h with h | h
  · exact ⟨p, xs, rfl, .inl ⟨h.sl, new_of i fun q H2 _ e a => k q H2 e (.inl a)⟩⟩
  · exact ⟨p, xs, rfl, .inr ⟨h.sq, k p H (Ex.refl i) h⟩⟩
theorem rd_listB (i : W.iv H) (h : SqB K W H p xs) (k : ∀ l H2, H l = none → Ex W H H2 → At W H2 l (.lst xs) → Q (.ref l) H2) : rListO K [.ref p] H Q := ⟨p, xs, rfl, h.raw, rd_new1 i k⟩
theorem rd_inB (h : SqB K W H p xs) (f : flatV x = true) (g : xs.all flatV = true) (k : Q (.bl (inV x xs)) H) : rIn K false x (.ref p) H Q := ⟨p, xs, rfl, h.raw, f, g, k⟩
theorem rd_niB (h : SqB K W H p xs) (f : flatV x = true) (g : xs.all flatV = true) (k : Q (.bl (!inV x xs)) H) : rIn K true x (.ref p) H Q := ⟨p, xs, rfl, h.raw, f, g, k⟩
theorem rd_eqD2 (h : DW K W H x d) (h2 : DW K W H y e) (s1 : SeqAt.shaped d = true) (s2 : SeqAt.shaped e = true) (k : Q (.bl (PyData.eqv d e)) H) : rEqD K x y H Q := ⟨d, e, h.dp, h2.dp, s1, s2, k⟩
theorem rd_neD2 (h : DW K W H x d) (h2 : DW K W H y e) (s1 : SeqAt.shaped d = true) (s2 : SeqAt.shaped e = true) (k : Q (.bl (!PyData.eqv d e)) H) : rNeD K x y H Q := ⟨d, e, h.dp, h2.dp, s1, s2, k⟩
/-- for i, x in enumerate(xs), xs a name -/
theorem for_eB (hv : σ[m]? = some (some (.ref a))) (h : SqB K W H a xs) (Pv : Nat → L2.St → Hp → Prop) (h0 : Pv 0 σ H) (hg : ∀ i σ' H', Pv i σ' H' → Ex W H H')
    (hs : ∀ i x T σ' H1 H', xs[i]? = some x → Pv i σ' H1 → H1 T = none → Ex W H1 H' → At W H' T (.tup [.int ((i : Nat) : Int), x]) → g (.ref T) σ' H' fun σ2 H2 => tS { D with nx := Pv (i + 1), ct := Pv (i + 1), bk := D.nx } σ2 H2)
    (hd : ∀ σ' H', Pv xs.length σ' H' → D.nx σ' H') : tFor (fun σ H R => iEnum K (tCons (tVar m) tNil) σ H R ∨ iEnumT K (tCons (tVar m) tNil) σ H R) g tS D σ H := by
  rcases h with h | h
  · refine .inl ⟨.ref a, hv, a, xs, rfl, h.sl, ?_⟩
    refine for_it (walk_enum (xs := xs)) Pv h0 (fun i σ H _ p => ((hg i σ H p).at_ h).sl) (fun i x σ H H' hi p y => ?_) hd
    obtain ⟨T, x1, x2, rfl, hT, rfl, e1, e2⟩ := y
    cases e1
    exact hs i x2 T σ H _ e2 p hT (Ex.new (hg i σ H p).iv hT) (At.new (hg i σ H p).iv hT)
  · refine .inr ⟨.ref a, hv, a, xs, rfl, h.sq, ?_⟩
    refine for_it (walk_enumT (xs := xs)) Pv h0 (fun i σ H _ p => (h.ex (hg i σ H p)).sq) (fun i x σ H H' hi p y => ?_) hd
    obtain ⟨T, x1, x2, rfl, hT, rfl, e1, e2⟩ := y
    cases e1
    have z := hs i x2 T σ H (upd H T (.tup [.int ((i : Nat) : Int), x2])) e2 p hT (Ex.new (hg i σ H p).iv hT) (At.new (hg i σ H p).iv hT)
    rwa [show (0 + ((i : Nat) : Int)) = (i : Int) from Int.zero_add _]
/-- for x in xs, xs a name -/
theorem for_B (hv : σ[m]? = some (some (.ref a))) (h : SqB K W H a xs) (Pv : Nat → L2.St → Hp → Prop) (h0 : Pv 0 σ H) (hg : ∀ i σ' H', Pv i σ' H' → Ex W H H')
    (hs : ∀ i x σ' H', xs[i]? = some x → Pv i σ' H' → g x σ' H' fun σ2 H2 => tS { D with nx := Pv (i + 1), ct := Pv (i + 1), bk := D.nx } σ2 H2)
    (hd : ∀ σ' H', Pv xs.length σ' H' → D.nx σ' H') : tFor (fun σ H R => iList K (tVar m) σ H R ∨ iTup K (tVar m) σ H R) g tS D σ H := by
  rcases h with h | h
  · refine .inl ⟨.ref a, hv, a, rfl, ⟨xs, h.sl⟩, ?_⟩
    exact for_it (walk_list (xs := xs)) Pv h0 (fun i σ H _ p => ((hg i σ H p).at_ h).sl) (fun i x σ H H' hi p y => by obtain ⟨rfl, e⟩ := y; exact hs i x σ _ e p) hd
  · refine .inr ⟨.ref a, hv, a, rfl, ⟨xs, h.sq⟩, ?_⟩
    exact for_it (walk_tup (xs := xs)) Pv h0 (fun i σ H _ p => (h.ex (hg i σ H p)).sq) (fun i x σ H H' hi p y => by obtain ⟨rfl, e⟩ := y; exact hs i x σ _ e p) hd
/-- [e for x in xs], xs a name: S is what holds of the items made (without the new list) -/
theorem lc_B (hv : σ[n]? = some (some (.ref a))) (h : SqB K W H a xs) (i : W.iv H) (hn : xs.length ≤ 50000) (S : Nat → List V → Hp → Prop) (hm : ∀ k ys H1 H2, Ex W H1 H2 → S k ys H1 → S k ys H2) (h0 : S 0 [] H)
    (hs : ∀ k x D ys H' (QV : VK) (QN : Hp → Prop), k < xs.length → xs[k]? = some x → H D = none → At W H' D (.lst ys) → Ex W H H' → S k ys (Lw.hide D H') → ys.length ≤ k →
      (∀ y H4, Ex W H' H4 → S (k + 1) (ys ++ [y]) (Lw.hide D H4) → QV y H4) → (∀ H3, Ex W H' H3 → S (k + 1) ys (Lw.hide D H3) → QN H3) →
      tt ((wipe σ [m]).set m (some x)) H' fun b H3 => if b = true then te ((wipe σ [m]).set m (some x)) H3 QV else QN H3)
    (k : ∀ D H2 ys, H D = none → Ex W H H2 → At W H2 D (.lst ys) → S xs.length ys H2 → ys.length ≤ xs.length → Q (.ref D) H2) :
    tLc (fun σ H R => iList K (tVar n) σ H R ∨ iTup K (tVar n) σ H R) (gName m) tt te [m] σ H Q := by
  rcases h with h | h
  · exact .inl ⟨.ref a, hv, a, rfl, ⟨xs, h.sl⟩, lc_w (X := fun i x => xs[i]? = some x) walk_list S i hn (fun H' e => (e.at_ h).sl) hm h0 hs k⟩
  · exact .inr ⟨.ref a, hv, a, rfl, ⟨xs, h.sq⟩, lc_w (X := fun i x => xs[i]? = some x) walk_tup S i hn (fun H' e => (h.ex e).sq) hm h0 hs k⟩
/-- what stands in the hidden heap -/
theorem DW.hide {Da : Addr} {acc : List V} (h : DW K W H v d) (hn : noL d = true) (i : W.iv H) (hD : At W H Da (.lst acc)) : DW K W (Lw.hide Da H) v d :=
  h.keepT (fun q us a => a.hide (a.ne hD fun z => by cases z) i hD) hn
/-- attributes -/
theorem rd_fld (h : ta σ H fun x H1 => ∃ a C dx fs v, x = .ref a ∧ H1 a = some (.ins C dx fs) ∧ Cls K C ∧ NoAttr K C f ∧ fs.lookup f = some v ∧ Q v H1) : tFld K ta f σ H Q := h
theorem rd_fldA (h : At W H a (.ins C dx fs)) (c : Cls K C) (na : NoAttr K C f) (e : fs.lookup f = some v) (k : Q v H) : ∃ a' C dx fs v, V.ref a = .ref a' ∧ H a' = some (.ins C dx fs) ∧ Cls K C ∧ NoAttr K C f ∧ fs.lookup f = some v ∧ Q v H := ⟨a, C, dx, fs, v, rfl, h.1, c, na, e, k⟩
/-- unpacking a list or a tuple -/
theorem pg_or {X : Cx} {tg : Expr} {t u : TG} (h1 : PG X tg t) (h2 : PG X tg u) : PG X tg (fun v σ H Q => t v σ H Q ∨ u v σ H Q) :=
  ⟨fun pins s σ H v w Q I r h => h.elim (h1.run pins s σ H v w Q I r) (h2.run pins s σ H v w Q I r)⟩
theorem rd_gB {QS : L2.St → Hp → Prop} (h : SqB K W H a xs) (e : xs.length = n) (k : tgs xs σ H QS) : gTup K n tgs (.ref a) σ H QS ∨ gUnl K n tgs (.ref a) σ H QS := by
  rcases h.raw with h | h
  · exact .inr ⟨a, xs, rfl, h, e, k⟩
  · exact .inl ⟨a, xs, rfl, h, e, k⟩
/-- sorted(xs) of ints -/
theorem rd_sorted {ns : List Int} (i : W.iv H) (h : At W H a (.lst (ns.map V.int))) (k : ∀ (ns' : List Int) l H2, ns'.Perm ns → ns'.Pairwise (· ≤ ·) → H l = none → Ex W H H2 → At W H2 l (.lst (ns'.map V.int)) → Q (.ref l) H2) : rSortedI K [.ref a] H Q :=
  ⟨a, ns, rfl, h.sl, fun ns' p hp hs hn => k ns' p _ hp hs hn (Ex.new i hn) (At.new i hn)⟩
/-- what is never reached -/
theorem pe_never {X : Cx} {e : Expr} : PE X e (fun _ _ _ => False) := ⟨fun _ _ _ _ _ _ h => h.elim⟩
end
end Lw

/-! Ly: the program's own exceptions with two fields. -/
namespace PySem
namespace SupY
open PySem.W PySem.Calls PyProof.Rows PySem.HandSPX
def iA (f k : Str) (p1 p2 p3 : Pos) : Arguments := { posonlyargs := [], args := [{ arg := "self", annotation := none, pos := p1 }, { arg := f, annotation := none, pos := p2 }, { arg := k, annotation := none, pos := p3 }], vararg := none, kwonlyargs := [], kw_defaults := [], kwarg := none, defaults := [] }
def iSup (m : Str) (n : Nat) (p0 p1 p2 p3 p4 p5 : Pos) : Stmt := .Expr (.Call (.Attribute (.Call (.Name "super" p0) [] [] p1) "__init__" p2) [.Constant (.str m) n p3] [] p4) p5
def iSt (f : Str) (q1 q2 q3 q4 : Pos) : Stmt := .Assign [.Attribute (.Name "self" q1) f q2] (.Name f q3) q4
def iS (f k : Str) : Scope := { kind := .function, names := [(PySem.Str.ofString "self", .local), (f, .local), (k, .local), (PySem.Str.ofString "__class__", .free), (PySem.Str.ofString "super", .globalImplicit)], isGenerator := false, isCoroutine := false, more := [] }
/-- the field's name is none of the four -/
structure NmOk (f : Str) : Prop where
  a : (PySem.Str.ofString "self" == f) = false
  a' : (f == PySem.Str.ofString "self") = false
  b : (PySem.Str.ofString "super" == f) = false
  c : (PySem.Str.ofString "__class__" == f) = false
  d : (f == PySem.Str.ofString "__debug__") = false
/-- two unlike fields -/
structure Nm2 (f k : Str) : Prop where
  nf : NmOk f
  nk : NmOk k
  fk : (f == k) = false
  kf : (k == f) = false
  ne : k ≠ f
/-- what the written part says of the class x, at C, and of its __init__, at fI -/
structure SupTxt2 (P : Program) (K : Frag) (mg : Str → Option Value) (x : Str) (f k : Str) (C fI : Addr) : Prop where
  gC : mg x = some (.ref C)
  nm : Nm2 f k
  cls : ∃ nm q N bs bm sn sub ab col dd k0 k1 k2 k3 k5, K.lookup C = some (excClassObj nm q C N bs bm true sn sub ab col dd k0 k1 k2 k3 k5 "ValueError.__new__") ∧ refsVE bm = true
  sa : findIn K (.ref C) "__setattr__" = some (some (.builtin "object.__setattr__"))
  ga : findIn K (.ref C) "__getattribute__" = some (some (.builtin "BaseException.__getattribute__"))
  gg : findIn K (.ref C) "__getattr__" = some none
  noN : findIn K (.ref C) f = some none
  noK : findIn K (.ref C) k = some none
  iC : findIn K (.ref C) "__init__" = some (some (.ref fI))
  tC : typeIn K (.ref fI) = some (.type "function")
  kC : keepIn K (.ref C) = true
  exC : subIn K (.ref C) (.type "BaseException") = some true
  tyC : typeIn K (.ref C) = some (.type "type")
  hdC : hasDictIn K C = true
  op : nsIn K cStatics "thirdparty.any" = some none
  along : ks_superIn K C C "__init__" = some (some (.builtin "ValueError.__init__"))
  hB : subIn K (.ref C) (.type "ValueError") = some true
  ms : mroIn K C (.ref C) = some true
  su : nsIn K mainGlobals "super" = some none
  top : (P.main.scope.names.lookup (PySem.Str.ofString "super")).isSome = false
  fn : ∃ (oc : Value) (od : Option Addr) (doc pm : Value) (an : Option Addr) (cda : Addr) (ct : Value) (osl : Array (Option Value)) (qual m : Str) (n : Nat) (p1 p2 p3 a0 a1 a2 a3 a4 a5 q1 q2 q3 q4 r1 r2 r3 r4 : Pos) (cc : Addr),
    K.lookup fI = some ⟨oc, od, .func (ksFn "__init__" qual (iA f k p1 p2 p3) [iSup m n a0 a1 a2 a3 a4 a5, iSt f q1 q2 q3 q4, iSt k r1 r2 r3 r4] (iS f k) .none .none doc pm an (.ref cda) ct cc), osl⟩ ∧ codeIn K (.ref cda) qual = true ∧
    (a2.endLine == a4.line) = true ∧ (∀ (s : Shared) (u v v2 : Value), BindsTo s (ksFn "__init__" qual (iA f k p1 p2 p3) [iSup m n a0 a1 a2 a3 a4 a5, iSt f q1 q2 q3 q4, iSt k r1 r2 r3 r4] (iS f k) .none .none doc pm an (.ref cda) ct cc) ⟨[u, v, v2], []⟩ [("self", u), (f, v), (k, v2)]) ∧
    (∃ cl cld csl, K.lookup cc = some ⟨cl, cld, .cell (some (.ref C)), csl⟩) ∧ ∃ ccl cdd vs ccs file tf, K.lookup cda = some ⟨ccl, cdd, .fields vs, ccs⟩ ∧ vs[2]? = some (.str file tf) ∧ ((P.main.file : Str) == file) = true
/-- what __init__ leaves of a fresh exception at x -/
structure InitEnd (h h' : Heap) (x C dx t1 : Addr) (f k : Str) (v v2 : Value) : Prop where
  keep : ∀ b o, b ≠ x → h.get? b = some o → h'.get? b = some o
  obj : h'.get? x = some { cls := .ref C, dict := some dx, data := .fields #[.ref t1, .none, .none, .none, .bool false, .none] }
  dbig : h.objs.size ≤ dx
  dne : dx ≠ x
  ns : h'.Ns1 dx (fun y => if y = k then some v2 else if y = f then some v else none)
/-- a made one -/
structure OwnMade (h h' : Heap) (e C d : Addr) (f k : Str) (v v2 : Value) : Prop where
  keep : ∀ b o, h.get? b = some o → h'.get? b = some o
  new : h.objs.size ≤ e
  obj : ∃ oe vs, h'.get? e = some oe ∧ oe.cls = .ref C ∧ oe.dict = some d ∧ oe.data = .fields vs ∧ vs[1]? = some .none
  dbig : h.objs.size ≤ d
  dne : d ≠ e
  ns : h'.Ns1 d (fun y => if y = k then some v2 else if y = f then some v else none)
section
variable {prog : Program} {w : World} {A : Around} {E : Value → Shared → Prop} {h : Heap} {g : Array GenState} {d : Drawn} {t : Nat} {os : OsState}
variable {nm q : Str} {C N : Addr} {bs bm : List Value} {hdct : Bool} {sn : List Str} {sub : List Value} {ab : Bool} {col : Option Bool} {dd : Option Addr} {k0 k1 k2 k3 k5 : Option Value}
/-- the bound ValueError.__init__ called -/
theorem call_mw {u e t0 : Addr} {rest : List Value} {Q : Value → Shared → Prop}
    (hC : h.get? C = some (excClassObj nm q C N bs bm hdct sn sub ab col dd k0 k1 k2 k3 k5 "ValueError.__new__")) (he : h.get? e = some (excO C t0)) (hu : h.get? u = some (kxs_mw "ValueError.__init__" e)) (hrest : rest.length ≤ sizeLine)
    (hq : ∀ h' t1, (∀ b o, b ≠ e → h.get? b = some o → h'.get? b = some o) → h'.get? e = some (excO C t1) → Q .none ⟨h', g, d, t, os⟩) :
    wpAny (model prog w) A (call (.ref u) rest) Q E ⟨h, g, d, t, os⟩ := by
  refine wpAny_call (codeAny_of_tree ?_)
  show wpAny _ A.in1 (callAny (.ref u) ⟨rest, []⟩) _ _ _
  simp only [callAny]
  refine wpAny_bind (wpAny_load hu ?_)
  simp only [kxs_mw, show (Value.type "method-wrapper" == Value.type "method" || Value.type "method-wrapper" == Value.type "builtin_function_or_method" || Value.type "method-wrapper" == Value.type "method-wrapper") = true by decide, if_true]
  refine W.KFB.if_so (by decide) ?_
  refine wpAny_bind (ESX.check_bound F.excBase_ValueError hC he rfl ?_)
  refine wpAny_bind (wpAny_pure (wpAny_pure ?_))
  refine ⟨Code.quiet_builtin _ (by decide +kernel), codeAny_builtin F.excBase_ValueError.initEntry ?_⟩
  rw [Around.under_plainId F.excBase_ValueError.init.plain _]
  wp_walk
  refine hq _ h.objs.size (fun b o hb ho => ?_) ?_
  · rw [Heap.get?_update_other _ _ (Ne.symm hb)]
    exact Heap.get?_push_of_some _ ho
  · rw [Heap.get?_update_self _ (Heap.get?_push_of_some _ he) rfl]
    rfl
end
section
variable {prog : Program} {w : World} {A : Around} {E : Value → Shared → Prop} {R : Result → Shared → Prop} {s : Shared} {K : Frag} {mg mb : Str → Option Value} {x f k : Str} {C fI : Addr}
theorem kind_of {f k : Str} {e a : Addr} {q : Str} {cd : Value} {cc : Addr} (N : Nm2 f k) : (ksEnv q (iS f k) e a cd cc).kindOf "super" = some .globalImplicit ∧ (ksEnv q (iS f k) e a cd cc).kindOf "__class__" = some .free ∧ (ksEnv q (iS f k) e a cd cc).kindOf "self" = some .local ∧ (ksEnv q (iS f k) e a cd cc).kindOf f = some .local ∧ (ksEnv q (iS f k) e a cd cc).kindOf k = some .local := by
  have e1 : ∀ y : Str, (ksEnv q (iS f k) e a cd cc).kindOf y = (iS f k).names.lookup y := fun _ => rfl
  have c1 : (PySem.Str.ofString "super" == PySem.Str.ofString "self") = false := by decide
  have c2 : (PySem.Str.ofString "super" == PySem.Str.ofString "__class__") = false := by decide
  have c3 : (PySem.Str.ofString "__class__" == PySem.Str.ofString "self") = false := by decide
  refine ⟨?_, ?_, ?_, ?_, ?_⟩ <;> rw [e1] <;> unfold iS <;> simp only [List.lookup, N.nf.a, N.nf.a', N.nf.b, N.nf.c, N.nk.a, N.nk.a', N.nk.b, N.nk.c, N.kf, c1, c2, c3, beq_self_eq_true]
theorem bs_self {f k : Str} (N : Nm2 f k) {u v v2 : Value} : (([(PySem.Str.ofString "self", u), (f, v), (k, v2)] : List (Str × Value)).reverse.lookup (PySem.Str.ofString "self") = some u) := by
  simp [List.lookup, N.nf.a, N.nk.a]
theorem bs_f {f k : Str} (N : Nm2 f k) {u v v2 : Value} : (([(PySem.Str.ofString "self", u), (f, v), (k, v2)] : List (Str × Value)).reverse.lookup f = some v) := by
  simp [List.lookup, N.fk]
theorem bs_k {f k : Str} (N : Nm2 f k) {u v v2 : Value} : (([(PySem.Str.ofString "self", u), (f, v), (k, v2)] : List (Str × Value)).reverse.lookup k = some v2) := by
  simp [List.lookup]
theorem he_of {o : Expr} {name m : Str} {n : Nat} {apos p3 pos : Pos} {env : Env} (hpl : (apos.endLine == pos.line) = true) : eval (.Call (.Attribute o name apos) [.Constant (.str m) n p3] [] pos) env = (do
      let ov ← attributeBase o name env (eval o env)
      standAt apos.atName
      let (f, first) ← holding [ov] (getMethod ov name (do return (← importBound o env).getD true))
      callWith pos f first (backTo pos (starEach [.Constant (.str m) n p3] env)) []) := by
  have e : methodCallPos true o env apos pos = pure pos := by unfold methodCallPos; rw [hpl]; rfl
  show (attributeBase o name env (eval o env) >>= fun ov => standAt apos.atName >>= fun _ => holding [ov] (getMethod ov name (do return (← importBound o env).getD true)) >>= fun fx => methodCallPos true o env apos pos >>= fun cp => callWith cp fx.1 fx.2 (backTo pos (starEach [.Constant (.str m) n p3] env)) []) = _
  rw [e]
  rfl
theorem sup_init (T : SupTxt2 prog K mg x f k C fI) {e t0 : Addr} {v v2 : Value} (X : K.In s.heap) (hlim : s.heap.NoLimit) (G : s.heap.Ns mainGlobals mg) (hms : mg "super" = none) (B : s.heap.Ns builtinsNs mb) (hmb : mb "super" = some (.type "super"))
    (hx : s.heap.get? e = some (excO C t0)) (hnx : K.lookup e = none) (hroom : A.depth < recursionLimit)
    (hq : ∀ h' tk dx t1, InitEnd s.heap h' e C dx t1 f k v v2 → R (.ok (.ret .none)) { s with heap := h', toks := tk }) :
    codeAny (model prog w) A (.call (.ref fI) ⟨[.ref e, v, v2], []⟩) R s := by
  obtain ⟨oc, od, doc, pm, an, cda, ct, osl, qual, m, n, p1, p2, p3, a0, a1, a2, a3, a4, a5, q1, q2, q3, q4, r1, r2, r3, r4, cc, ho, hcd, hpl, hbd, ⟨cl, cld, csl, hcell⟩, ccl, cdd, vs, ccs, file, tf, hcode, hvs, hfile⟩ := T.fn
  obtain ⟨nm, q, N, bs, bm, sn, sub, ab, col, dd, k0, k1, k2, k3, k5, hC, hbm⟩ := T.cls
  have hcl : clsIn K C = some { name := nm, bases := bs, mro := .ref C :: bm, ns := N, qualname := q, hasDict := true, slotNames := sn, subclasses := sub, abstract := ab, collection := col, hasDel := false } := by unfold clsIn; rw [hC] <;> rfl
  have kd := fun (L : Addr) => kind_of (q := qual) (e := L) (a := fI) (cd := .ref cda) (cc := cc) T.nm
  refine ks_codeAny_call_defAt (fd := ksFn "__init__" qual (iA f k p1 p2 p3) [iSup m n a0 a1 a2 a3 a4 a5, iSt f q1 q2 q3 q4, iSt k r1 r2 r3 r4] (iS f k) .none .none doc pm an (.ref cda) ct cc) (body := [iSup m n a0 a1 a2 a3 a4 a5, iSt f q1 q2 q3 q4, iSt k r1 r2 r3 r4])
    (binds := [(PySem.Str.ofString "self", .ref e), (f, v), (k, v2)]) hroom (X _ _ ho) rfl hlim (codeRec_of X hcd) rfl (hbd _ _ _ _) ?cell ?loc (fun h₁ hns hk => ?_) rfl rfl rfl
  case cell => 
    intro y hy
    simp only [ksFn, fnX, iS, List.mem_cons, List.not_mem_nil, or_false] at hy
    rcases hy with rfl | rfl | rfl | rfl | rfl <;> intro z <;> cases z
  case loc =>
    intro y hy
    simp only [List.mem_cons, List.not_mem_nil, or_false] at hy
    rcases hy with rfl | rfl | rfl
    · exact (kd 0).2.2.1
    · exact (kd 0).2.2.2.1
    · exact (kd 0).2.2.2.2
  have kd := kd s.heap.objs.size
  obtain ⟨hp, g, d, tk, os⟩ := s
  dsimp only at hns hk hx X G B hlim hq ⊢
  have X₁ : K.In h₁ := X.keeps hk
  have hx₁ := hk _ _ hx
  show _root_.PySem.wpAt (model prog w) _ (.func _ (ksEnv qual (iS f k) hp.objs.size fI (.ref cda) cc)) (execs [iSup m n a0 a1 a2 a3 a4 a5, iSt f q1 q2 q3 q4, iSt k r1 r2 r3 r4] (ksEnv qual (iS f k) hp.objs.size fI (.ref cda) cc)) _ _ _
  refine ks_wpAt_execs_cons (ks_wpAt_Expr_any (ks_wpAt_MethodCall ?_ (he_of hpl)))
  refine ks_wpAt_super_base (env := ksEnv qual (iS f k) hp.objs.size fI (.ref cda) cc) kd.1 kd.2.1 (by decide) rfl (X₁ _ _ ho) rfl rfl rfl (X₁ _ _ hcode) rfl hvs hfile T.top ?_
  refine ks_loadName_global rfl kd.1 (loadGlobal_builtin (env := ksEnv qual (iS f k) hp.objs.size fI (.ref cda) cc) (G.keeps hk) hms (B.keeps hk) hmb ⟨rfl, ?_⟩)
  refine wpAny_loadName_free rfl kd.2.1 rfl ⟨_, X₁ _ _ hcell, rfl⟩ ?_
  refine wpAny_loadName_local rfl kd.2.2.1 hns (bs_self T.nm) ?_
  have hCo := X₁ _ _ hC
  refine ks_wpAny_isType_cls hCo rfl ⟨rfl, ?_⟩
  refine ks_wpAny_call_super hCo rfl hx₁ rfl (fun c z => by cases z) (looks_mroIn X₁ T.ms) (fun h₂ hso hk₂ => ?_)
  have X₂ : K.In h₂ := X₁.keeps hk₂
  have hx₂ := hk₂ _ _ hx₁
  have eC : e ≠ C := fun z => by
    rw [z] at hnx
    rw [hnx] at hC
    cases hC
  have I₂ : InstAt h₂ e (excO C t0) C none := ⟨hx₂, rfl, rfl, trivial⟩
  have al := T.along
  unfold ks_superIn at al
  rw [hcl] at al
  refine kxs_getMethod kxs_ValueError (x := e) (D := C) (C := C) hso (looks_opaque X₂ T.op) (l₀ := .ref C :: bm) ?mro rfl X₂ al (I₂.type.andThen (looks_subIn X₂ T.hB)) eC (by decide) ?_
  case mro => exact fun A Q E s k q => wpAny_bind ((looks_clsIn X₂ hcl) A _ E s k (wpAny_pure q))
  have hu : (h₂.push (kxs_mw "ValueError.__init__" e)).get? h₂.objs.size = some (kxs_mw "ValueError.__init__" e) := Heap.get?_push_at rfl rfl
  have hk₃ : ∀ b o, h₂.get? b = some o → (h₂.push (kxs_mw "ValueError.__init__" e)).get? b = some o := fun b o z => Heap.get?_push_of_some _ z
  refine kxs_callWith (i := "ValueError.__init__") (x := e) (by rfl) (evalArgs_plain ?_)
  refine Calls.spliced_cons (Calls.Constant_str (k := n) (pos := a3) (Calls.spliced_nil ⟨hu, ?_⟩))
  refine call_mw (hk₃ _ _ (hk₂ _ _ hCo)) (hk₃ _ _ hx₂) hu (by show 1 ≤ sizeLine; rw [sizeLine_eq]; decide) (fun h₄ t1 hk₄ hx₄ => ?_)
  have keep : ∀ b o, b ≠ e → hp.get? b = some o → h₄.get? b = some o := fun b o nb z => hk₄ b o nb (hk₃ _ _ (hk₂ _ _ (hk _ _ z)))
  have X₄ : K.In h₄ := fun b o z => keep b o (fun q => by rw [q, hnx] at z; cases z) (X b o z)
  have neL : hp.objs.size ≠ e := Nat.ne_of_gt (Heap.lt_size hx)
  have hns₄ : h₄.Ns hp.objs.size (fun y => ([(PySem.Str.ofString "self", Value.ref e), (f, v), (k, v2)] : List (Str × Value)).reverse.lookup y) := by
    obtain ⟨oL, es, ep, hL, r⟩ := hns
    exact ⟨oL, es, ep, hk₄ _ _ neL (hk₃ _ _ (hk₂ _ _ hL)), r⟩
  refine ks_wpAt_execs_cons (wpAt_of_wpAny ?_)
  refine plainObj_wpAny_Assign_Attribute (wpAny_Name (wpAny_loadName_local rfl kd.2.2.2.1 hns₄ (bs_f T.nm) (wpAny_Name (wpAny_loadName_local rfl kd.2.2.1 hns₄ (bs_self T.nm) ?_) (by decide))) T.nm.nf.d) (by rfl)
  refine set_plain X₄ (ox := excO C t1) (od := none) ⟨hx₄, rfl, rfl, trivial⟩ T.sa ?_
  refine exc_osa X₄ hx₄ hcl (show refsVE (.ref C :: bm) = true from hbm) rfl T.noN (fun h₅ tk₅ dx k₅ dn dne hx₅ hn₅ => ?_)
  have lt4 : hp.objs.size < h₄.objs.size := hns₄.lt
  have X₅ : K.In h₅ := fun b o z => k₅ b o (fun q => by rw [q, hnx] at z; cases z) (X₄ b o z)
  have neD : hp.objs.size ≠ dx := fun z => by rw [z] at lt4; exact absurd (Nat.lt_of_lt_of_le lt4 dn) (Nat.lt_irrefl _)
  have hns₅ : h₅.Ns hp.objs.size (fun y => ([(PySem.Str.ofString "self", Value.ref e), (f, v), (k, v2)] : List (Str × Value)).reverse.lookup y) := by
    obtain ⟨oL, es, ep, hL, r⟩ := hns₄
    exact ⟨oL, es, ep, k₅ _ _ neL hL, r⟩
  refine ks_wpAt_execs_cons (wpAt_of_wpAny ?_)
  refine plainObj_wpAny_Assign_Attribute (wpAny_Name (wpAny_loadName_local rfl kd.2.2.2.2 hns₅ (bs_k T.nm) (wpAny_Name (wpAny_loadName_local rfl kd.2.2.1 hns₅ (bs_self T.nm) ?_) (by decide))) T.nm.nk.d) (by rfl)
  obtain ⟨oD, _, _, hoD, _⟩ := id hn₅
  refine set_plain X₅ (ox := { cls := .ref C, dict := some dx, data := .fields #[.ref t1, .none, .none, .none, .bool false, .none] }) (od := some oD) ⟨hx₅, rfl, rfl, hoD⟩ T.sa ?_
  refine PySem.OEX.osa_old (nl := [f]) X₅ hx₅ hn₅ ?wi (by show 1 ≤ 1000; decide) hcl (show refsVE (.ref C :: bm) = true from hbm) rfl T.noK (fun h₆ tk₆ k₆ hn₆ => ?_)
  case wi =>
    intro y hy
    have hy : (if y = f then some v else none) ≠ none := hy
    by_cases q : y = f
    · exact List.mem_singleton.mpr q
    · rw [if_neg q] at hy; exact absurd rfl hy
  refine wpAt_of_wpAny (wpAny_execs_nil (hq h₆ tk₆ dx t1 ⟨fun b o hb z => k₆ b o (fun q => by
    have lt5 : b < hp.objs.size := Heap.lt_size z
    rw [q] at lt5
    exact absurd (Nat.lt_of_lt_of_le (Nat.lt_trans lt5 lt4) dn) (Nat.lt_irrefl _)) (k₅ b o hb (keep b o hb z)), k₆ _ _ (Ne.symm dne) hx₅, Nat.le_of_lt (Nat.lt_of_lt_of_le lt4 dn), dne, hn₆⟩))
theorem sup_made (T : SupTxt2 prog K mg x f k C fI) {v v2 : Value} (X : K.In s.heap) (hlim : s.heap.NoLimit) (G : s.heap.Ns mainGlobals mg) (hms : mg "super" = none) (B : s.heap.Ns builtinsNs mb) (hmb : mb "super" = some (.type "super")) (hroom : A.depth + 1 < recursionLimit)
    (hq : ∀ h' tk e d, OwnMade s.heap h' e C d f k v v2 → R (.ok (.ret (.ref e))) { s with heap := h', toks := tk }) :
    codeAny (model prog w) A (.call (.ref C) ⟨[v, v2], []⟩) R s := by
  obtain ⟨nm, q, N, bs, bm, sn, sub, ab, col, dd, k0, k1, k2, k3, k5, hC, hbm⟩ := T.cls
  obtain ⟨hp, g, dr, tk, os⟩ := s
  have k : ∀ b o, hp.get? b = some o → ((hp.push (kdv_tup [v, v2])).push (excO C hp.objs.size)).get? b = some o := fun b o e => Heap.get?_push_of_some _ (Heap.get?_push_of_some _ e)
  have hget : ((hp.push (kdv_tup [v, v2])).push (excO C hp.objs.size)).get? (hp.objs.size + 1) = some (excO C hp.objs.size) := by heap_get
  have hnx : K.lookup (hp.objs.size + 1) = none := by
    cases e : K.lookup (hp.objs.size + 1) with
    | none => rfl
    | some o =>
      have z : hp.get? (hp.objs.size + 1) = some o := X _ _ e
      exact absurd (Nat.lt_of_succ_lt (Heap.lt_size z)) (Nat.lt_irrefl _)
  refine call_own F.excBase_ValueError (fun X => refsVE_contains X bm hbm) (X _ _ hC) (looks_findIn X T.iC) (fun self => bind_fn X self T.tC) (by show 2 ≤ sizeLine; rw [sizeLine_eq]; decide) ?_
  refine sup_init (s := ⟨(hp.push (kdv_tup [v, v2])).push (excO C hp.objs.size), g, dr, tk, os⟩) T (X.keeps k) (hlim.keeps k) (G.keeps k) hms (B.keeps k) hmb hget hnx ?_ fun h' tk' dx t1 ⟨k', hx, dn, dne, hns⟩ => ?_
  · show A.depth + 1 < recursionLimit
    exact hroom
  · have old : ∀ b o, hp.get? b = some o → h'.get? b = some o := fun b o e => k' b o (Nat.ne_of_lt (Nat.lt_succ_of_lt (Heap.lt_size e))) (k b o e)
    have z : hp.objs.size + 1 + 1 ≤ dx := by
      first
        | (simpa only [Heap.size_push] using dn)
        | exact dn
        | (have q := dn; rw [Heap.size_push, Heap.size_push] at q; exact q)
    exact ⟨rfl, hq h' tk' (hp.objs.size + 1) dx ⟨old, Nat.le_succ _, ⟨_, _, hx, rfl, rfl, rfl, rfl⟩, Nat.le_trans (Nat.le_trans (Nat.le_succ _) (Nat.le_succ _)) z, dne, hns⟩⟩
end
end SupY
end PySem
namespace Lw
open PySem L2 PySem.Spec PyProof.Rows
section
variable {X : Cx} {C fI : Addr} {x f k : Str}
theorem relO_fk {f k : Str} {v v2 : V} {v' v2' : Value} (ne : k ≠ f) (r : RelV v v') (r2 : RelV v2 v2') (g : Str) : RelO (List.lookup g [(f, v), (k, v2)]) (if g = k then some v2' else if g = f then some v' else none) := by
  by_cases hk : g = k
  · subst hk
    rw [if_pos rfl]
    have q : List.lookup g [(f, v), (g, v2)] = some v2 := by
      have : (g == f) = false := by simpa using ne
      simp [List.lookup, this]
    rw [q]
    exact r2
  · rw [if_neg hk]
    by_cases hw : g = f
    · subst hw
      rw [if_pos rfl]
      have q : List.lookup g [(g, v), (k, v2)] = some v := by simp [List.lookup]
      rw [q]
      exact r
    · rw [if_neg hw]
      have qw : (g == f) = false := by simpa using hw
      have qk : (g == k) = false := by simpa using hk
      have q2 : List.lookup g [(f, v), (k, v2)] = none := by simp [List.lookup, qw, qk]
      rw [q2]
      trivial
/-- x(e, e2) -/
def tMkS2 (C : Addr) (f k : Str) (ta : TA) : L2.St → Hp → XK → Prop := fun σ H Q => ta σ H fun vs H1 => ∃ v v2, vs = [v, v2] ∧ ∀ d, H1 d = none → Q (.ref C) (some d) (upd H1 d (.xd [(f, v), (k, v2)]))
theorem pmk_sup2 {a a2 : Expr} {ta : TA} {p pos : Pos} {j : Nat} (T : PySem.SupY.SupTxt2 X.prog X.K X.mg x f k C fI) (hr : Room j X.A) (ha : PA X [a, a2] ta) (hg : Gl X x := by rfl) (hdb : (x == ("__debug__" : Str)) = false := by decide)
    (he : starEach (a :: [a2]) X.env = (false, eval a X.env) :: starEach [a2] X.env := by rfl) (hpl : (backTo pos (starEach [a2] X.env)).any (·.1) = false := by rfl) :
    PMk X (.Call (.Name x p) [a, a2] [] pos) (tMkS2 C f k ta) := by
  intro pins s σ H Q I h
  refine wpAny_Call_Name_kw (ld_glob I hg T.gC ?_ hdb)
  refine PySem.W.callWith_K (h₀ := X.base) I.ok.mod.kin T.kC (thn (ha.run pos pins s σ H _ I h) fun us s1 hh => ?_) he hpl
  obtain ⟨vs, H1, I1, r1, v, v2, ev, q1⟩ := hh
  subst ev
  refine ⟨I1.kIn, ?_⟩
  obtain ⟨v', v2', rfl, rv, rv2⟩ := r1.two
  show wpAny _ _ (call (.ref C) [v', v2']) _ _ _
  have hlim := I1.nolimit
  obtain ⟨mb, hb1, hb2⟩ := I1.mod.blt
  have hms : X.mg "super" = none := PySem.W.mg_none_of I1.ok.mod.kin I1.mod.glob T.su
  have hG := I1.mod.glob.keeps I1.bk
  have hB := hb1.keeps I1.bk
  have hmb : mb "super" = some (.type "super") := (hb2 "super" (by decide)).trans (by first | boot_by_name | rfl | kernel_rfl)
  obtain ⟨hp, g, dr, tk, os⟩ := s1
  refine wpAny_call (PySem.SupY.sup_made T I1.kIn hlim hG hms hB hmb (by have := hr.dp; omega) fun h' tk' e d M => ?_)
  show MkP X pins σ Q (.ref e) ⟨h', g, dr, tk', os⟩
  obtain ⟨oe, fv, hoe, hc, hd, hdat, h1⟩ := M.obj
  have hns := M.ns
  obtain ⟨G', g1, g2⟩ := restrict h' fun b => decide (b ≠ e)
  have gk : ∀ b, b ≠ e → G'.get? b = h'.get? b := fun b hb => g1 b (decide_eq_true hb)
  have ge : G'.get? e = none := g2 e (by simp)
  have old : ∀ b o, hp.get? b = some o → G'.get? b = some o := fun b o q => (gk b (Nat.ne_of_lt (Nat.lt_of_lt_of_le (Heap.lt_size q) M.new))).trans (M.keep b o q)
  have ob : ObjOk X.prog X.w (upd H1 d (.xd [(f, v), (k, v2)])) G' d (.xd [(f, v), (k, v2)]) :=
    ⟨_, hns.at (fun o q => (gk d M.dne).trans q), fun g => relO_fk T.nm.ne rv rv2 g⟩
  have J : Inv X pins σ (upd H1 d (.xd [(f, v), (k, v2)])) ⟨G', g, dr, tk', os⟩ := I1.laid (t' := tk') old M.dbig ob
  refine ⟨e, oe, fv, ⟨G', g, dr, tk', os⟩, _, .ref C, some d, rfl, J, fun b o q => ?_, ge, hoe, ⟨hc, hd⟩, hdat, h1, ?_, rfl, I1.bare, raises_own T.exC T.tyC, q1 d (I1.hok.fresh M.dbig)⟩
  · by_cases hb : b = e
    · have q' : G'.get? b = some o := q
      rw [hb, ge] at q'; cases q'
    · exact (gk b hb).symm.trans q
  · rw [upd_ne (Ne.symm M.dne)]
    exact I1.hok.fresh M.new
/-- raise x(e, e2) -/
def tRaiseS2 (C : Addr) (f k : Str) (W : WX) (ta : TA) : TS := fun _ σ H => tMkS2 C f k ta σ H fun cls d H' => W cls d σ H'
theorem ps_raiseS2 {a a2 : Expr} {ta : TA} {W : WX} {p pos pos2 : Pos} {j : Nat} (hc : X.calm = true) (T : PySem.SupY.SupTxt2 X.prog X.K X.mg x f k C fI) (hr : Room j X.A) (tk : Takes X W) (ha : PA X [a, a2] ta) (hg : Gl X x := by rfl) (hdb : (x == ("__debug__" : Str)) = false := by decide)
    (he : starEach (a :: [a2]) X.env = (false, eval a X.env) :: starEach [a2] X.env := by rfl) (hpl : (backTo pos (starEach [a2] X.env)).any (·.1) = false := by rfl) :
    PS X (.Raise (some (.Call (.Name x p) [a, a2] [] pos)) none pos2) (tRaiseS2 C f k W ta) := ps_raise hc tk (pmk_sup2 T hr ha hg hdb he hpl)
end
end Lw

/-! Lk: own classes: made with keywords, fields stored and read. -/
namespace Lw
open PySem L2 PySem.Spec PyProof.Rows
/-- C(.., k = v, ..), what is raised being wished for at the caller's slots -/
def tMakeKS (C : Addr) (n m : Nat) (sp : Sp) (gV : List V → List V → List V) (E : L2.St → XK) (t tk : TA) : TE := fun σ H Q => t σ H fun vs H1 => tk σ H1 fun zs H2 => vs.length = n ∧ zs.length = m ∧ ∀ x dx, H2 x = none → H2 dx = none → dx ≠ x →
  sp (gV (.ref x :: vs) zs) (upd (upd H2 dx (.own x)) x (.ins C dx [])) (fun v H3 => v = .non ∧ Q (.ref x) H3) (E σ)
section
variable {X : Cx} {CX : CXT} {k n : Nat} {f C : Addr} {fd : FuncData} {ps ks : List Str} {sp : Sp} {E : L2.St → XK} {x : Str} {p pos : Pos} {e : Expr} {es : List Expr} {kws : List Keyword} {t tk : TA} {g : List Value → List Value → List Value} {gV : List V → List V → List V}
theorem run_makeKS {pins : List (Addr × Obj)} {σ : L2.St} {H : Hp} {s : Shared} {Q : VK} {us ws : List Value} {vs zs : List V} (M : Mk X.K C f) (F : FnOk X.prog X.w X.K X.mg X.base CX k f fd ps sp) (hr : Room (k + 1) X.A) (hb : KBn X.K fd ps (n + 1) ks g gV) (hx : PassesAt CX X σ (E σ))
    (I : Inv X pins σ H s) (r : Vals vs us) (rz : Vals zs ws) (l1 : vs.length = n) (l2 : zs.length = ks.length)
    (h : ∀ x dx, H x = none → H dx = none → dx ≠ x → sp (gV (.ref x :: vs) zs) (upd (upd H dx (.own x)) x (.ins C dx [])) (fun v H2 => v = .non ∧ Q (.ref x) H2) (E σ)) :
    wpAny (model X.prog X.w) X.A (call (.ref C) us (ks.zip ws)) (EP X pins σ Q) X.xe s := by
  have hq := h (s.heap.objs.size + 1) s.heap.objs.size (I.hok.fresh (Nat.le_succ _)) (I.hok.fresh (Nat.le_refl _)) (Nat.ne_of_lt (Nat.lt_succ_self _))
  have I2 := Inv.made (C := C) I
  have r1 : Vals (V.ref (s.heap.objs.size + 1) :: vs) (Value.ref (s.heap.objs.size + 1) :: us) := .cons rfl r
  have r2 := hb.rel r1 rz
  have n1 : (Value.ref (s.heap.objs.size + 1) :: us).length = n + 1 := by
    rw [List.length_cons, ← r.length, l1]
  refine wpAny_call (make_map (f := f) I.kIn M.makes M.init (beq_iff_eq.mp M.fn) (codeAny_mono (F.run _ X.stack _ _ ⟨Value.ref (s.heap.objs.size + 1) :: us, ks.zip ws⟩ (g (Value.ref (s.heap.objs.size + 1) :: us) ws) _ _ (E σ) (hr.make C us (ks.zip ws))
    (I2.env0.make C us (ks.zip ws)) (hb.to _ (Value.ref (s.heap.objs.size + 1) :: us) ws I2.kIn n1 (rz.length.symm.trans l2)) r2 hq) fun r s' hq' => ?_))
  cases r with
  | error e => exact hx pins _ _ e s' I2 hq'
  | ok fl =>
    cases fl with
    | ret u =>
      obtain ⟨v, H', I3, rv, ev, q3⟩ := I2.after hq'
      subst ev
      exact ⟨rv, ⟨V.ref (s.heap.objs.size + 1), H', I3, rfl, q3⟩⟩
    | next => exact False.elim hq'
    | brk => exact False.elim hq'
    | cont => exact False.elim hq'
theorem pe_makeKS (M : Mk X.K C f) (F : FnOk X.prog X.w X.K X.mg X.base CX k f fd ps sp) (hr : Room (k + 1) X.A) (hg : Gl X x) (hm : X.mg x = some (.ref C)) (hb : KBn X.K fd ps (n + 1) ks g gV) (hx : ∀ σ, PassesAt CX X σ (E σ)) (ha : PA X (e :: es) t) (hkw : PK X kws tk)
    (hall : (backToKw pos (keywordEach kws X.env)).all (·.1.isSome) = true := by rfl) (hks : (backToKw pos (keywordEach kws X.env)).filterMap (·.1) = ks := by rfl) (hdb : (x == ("__debug__" : Str)) = false := by decide)
    (he : starEach (e :: es) X.env = (false, eval e X.env) :: starEach es X.env := by rfl) (hpl : ((backTo pos (starEach (e :: es) X.env)).any (·.1) || (backToKw pos (keywordEach kws X.env)).any (·.1.isNone)) = false := by rfl) :
    PE X (.Call (.Name x p) (e :: es) kws pos) (tMakeKS C n ks.length sp gV E t tk) := by
  refine ⟨fun pins s σ H Q I h => ?_⟩
  refine wpAny_Call_Name_kw (ld_glob I hg hm ?_ hdb)
  refine PySem.W.callWith_KW (h₀ := X.base) I.ok.mod.kin M.kp hall (thn (ha.run pos pins s σ H _ I h) fun us s1 ⟨vs, H1, I1, r, q⟩ => ?_) hpl he
  refine thn (hkw.run pos pins s1 σ H1 _ I1 q) fun ws s2 ⟨zs, H2, I2, rz, l1, l2, q2⟩ => ⟨I2.kIn, ?_⟩
  rw [hks]
  exact run_makeKS M F hr hb (hx σ) I2 r rz l1 l2 q2
end
section
variable {K : PySem.W.Frag} {W : Wd} {H H0 H1 H2 : Hp} {a p : Addr} {xs ys vs zs : List V} {v x y : V} {d e : PyData} {ds : List PyData} {Q : VK} {σ : L2.St} {D : Ends} {i : Int} {b : Bool} {n m : Nat} {f : Str} {C dx : Addr} {fs : List (Str × V)}
variable {ta tb te tv : TE} {tr tk : TA} {t : TS} {sp : Sp} {gV : List V → List V → List V} {E : L2.St → XK}
mutual
theorem DW.keep (kl : ∀ q us, At W H q (.lst us) → At W H1 q (.lst us)) (kt : ∀ q us, At W H q (.tup us) → At W H1 q (.tup us)) : ∀ {v : V} {d : PyData}, DW K W H v d → DW K W H1 v d
  | _, _, .non => .non
  | _, _, .bl b => .bl b
  | _, _, .int i => .int i
  | _, _, .str s => .str s
  | _, _, .lst h t => .lst (kl _ _ h) (DWs.keep kl kt t)
  | _, _, .tup h t => .tup (h.imp (kt _ _) id) (DWs.keep kl kt t)
theorem DWs.keep (kl : ∀ q us, At W H q (.lst us) → At W H1 q (.lst us)) (kt : ∀ q us, At W H q (.tup us) → At W H1 q (.tup us)) : ∀ {vs : List V} {ds : List PyData}, DWs K W H vs ds → DWs K W H1 vs ds
  | _, _, .nil => .nil
  | _, _, .cons a t => .cons (DW.keep kl kt a) (DWs.keep kl kt t)
end
theorem rd_mkS (h : tr σ H fun vs H1 => tk σ H1 fun zs H2 => vs.length = n ∧ zs.length = m ∧ ∀ x dx, H2 x = none → H2 dx = none → dx ≠ x → sp (gV (.ref x :: vs) zs) (upd (upd H2 dx (.own x)) x (.ins C dx [])) (fun v H3 => v = .non ∧ Q (.ref x) H3) (E σ)) : tMakeKS C n m sp gV E tr tk σ H Q := h
/-- a new instance: what its __init__ finds -/
theorem rd_mkN {sp' : V → Hp → Prop} (i : W.iv H) (k : ∀ x dx H3, H x = none → Ex W H H3 → At W H3 x (.ins C dx []) → sp' (.ref x) H3) : ∀ x dx, H x = none → H dx = none → dx ≠ x → sp' (.ref x) (upd (upd H dx (.own x)) x (.ins C dx [])) := fun x dx hx hd ne => by
  have e1 : Ex W H (upd H dx (.own x)) := Ex.new i hd
  have n1 : (upd H dx (.own x)) x = none := by rw [upd_ne (Ne.symm ne)]; exact hx
  exact k x dx _ hx (e1.trans (Ex.new e1.iv n1)) (At.new e1.iv n1)
theorem rd_sfld (h : tv σ H fun y H1 => ta σ H1 fun x H2 => ∃ a C dx fs, x = .ref a ∧ H2 a = some (.ins C dx fs) ∧ Cls K C ∧ NoAttr K C f ∧ fs.length < 1000 ∧ D.nx σ (upd H2 a (.ins C dx (putF f y fs)))) : sFld K ta tv f D σ H := h
/-- o.f = v, o an instance of our own -/
theorem rd_sfldA {P : Hp → Prop} (ex : Ex W H0 H) (h0 : H0 a = none) (h : At W H a (.ins C dx fs)) (c : Cls K C) (na : NoAttr K C f) (hl : fs.length < 1000)
    (k : ∀ H2, Ex W H0 H2 → At W H2 a (.ins C dx (putF f y fs)) → (∀ {v : V} {d : PyData}, DW K W H v d → DW K W H2 v d) → (∀ q o, q ≠ a → At W H q o → At W H2 q o) → P H2) :
    ∃ a' C dx fs, V.ref a = .ref a' ∧ H a' = some (.ins C dx fs) ∧ Cls K C ∧ NoAttr K C f ∧ fs.length < 1000 ∧ P (upd H a' (.ins C dx (putF f y fs))) :=
  ⟨a, C, dx, fs, rfl, h.1, c, na, hl, k _ (ex.mut h0 h) (.mut ex.iv h) (fun {v d} w => w.keep (fun q us hq => .other ex.iv h hq (hq.ne h fun z => by cases z)) (fun q us hq => .other ex.iv h hq (hq.ne h fun z => by cases z))) fun _ _ ne q => .other ex.iv h q ne⟩
/-- raise x(e, e2) -/
theorem rd_raiseS2 {C : Addr} {f k : Str} {Wx : WX} (h : tr σ H fun vs H1 => ∃ v v2, vs = [v, v2] ∧ ∀ d, H1 d = none → Wx (.ref C) (some d) σ (upd H1 d (.xd [(f, v), (k, v2)]))) : tRaiseS2 C f k Wx tr D σ H := h
theorem rd_newX2 {C : Addr} {f k : Str} {Wx : WX} (i : W.iv H) (q : ∀ d H2, Ex W H H2 → At W H2 d (.xd [(f, v), (k, x)]) → Wx (.ref C) (some d) σ H2) : ∃ v' x', [v, x] = [v', x'] ∧ ∀ d, H d = none → Wx (.ref C) (some d) σ (upd H d (.xd [(f, v'), (k, x')])) :=
  ⟨v, x, rfl, fun d hd => q d _ (Ex.new i hd) (At.new i hd)⟩
end
/-- a method of a builtin, the frozen part by its name (in a try: its reading must not name what the suite brings) -/
theorem pe_bmK {X : Cx} {K : PySem.W.Frag} {e : Expr} {T : String} {r : V → List V → Hp → VK → Prop} {to : TE} {t : TA} (h : X.K = K) (p : PE X e (tBM X.K T r to t)) : PE X e (tBM K T r to t) := h ▸ p
section
variable {K : PySem.W.Frag} {W : Wd} {H H0 : Hp} {a : Addr} {xs : List V} {σ : L2.St} {D : Ends} {m : Nat} {g : TG} {tS : TS}
/-- for i, x in enumerate(xs), xs a name: what is walked stood before (at H0), while the loop changes things made since -/
theorem for_eB0 (e0 : Ex W H0 H) (hv : σ[m]? = some (some (.ref a))) (h : SqB K W H0 a xs) (Pv : Nat → L2.St → Hp → Prop) (h0 : Pv 0 σ H) (hg : ∀ i σ' H', Pv i σ' H' → Ex W H0 H')
    (hs : ∀ i x T σ' H1 H', xs[i]? = some x → Pv i σ' H1 → H1 T = none → Ex W H1 H' → At W H' T (.tup [.int ((i : Nat) : Int), x]) → g (.ref T) σ' H' fun σ2 H2 => tS { D with nx := Pv (i + 1), ct := Pv (i + 1), bk := D.nx } σ2 H2)
    (hd : ∀ σ' H', Pv xs.length σ' H' → D.nx σ' H') : tFor (fun σ H R => iEnum K (tCons (tVar m) tNil) σ H R ∨ iEnumT K (tCons (tVar m) tNil) σ H R) g tS D σ H := by
  rcases h with h | h
  · refine .inl ⟨.ref a, hv, a, xs, rfl, (e0.at_ h).sl, ?_⟩
    refine for_it (walk_enum (xs := xs)) Pv h0 (fun i σ H _ p => ((hg i σ H p).at_ h).sl) (fun i x σ H H' hi p y => ?_) hd
    obtain ⟨T, x1, x2, rfl, hT, rfl, e1, e2⟩ := y
    cases e1
    exact hs i x2 T σ H _ e2 p hT (Ex.new (hg i σ H p).iv hT) (At.new (hg i σ H p).iv hT)
  · refine .inr ⟨.ref a, hv, a, xs, rfl, (h.ex e0).sq, ?_⟩
    refine for_it (walk_enumT (xs := xs)) Pv h0 (fun i σ H _ p => (h.ex (hg i σ H p)).sq) (fun i x σ H H' hi p y => ?_) hd
    obtain ⟨T, x1, x2, rfl, hT, rfl, e1, e2⟩ := y
    cases e1
    have z := hs i x2 T σ H (upd H T (.tup [.int ((i : Nat) : Int), x2])) e2 p hT (Ex.new (hg i σ H p).iv hT) (At.new (hg i σ H p).iv hT)
    rwa [show (0 + ((i : Nat) : Int)) = (i : Int) from Int.zero_add _]
end
theorem kwd_cons {K : PySem.W.Frag} {D : Addr} {p : Str × V} {kws : List (Str × V)} (h : ∃ u, PySem.W.nsIn K D p.1 = some (some u) ∧ RelV p.2 u) (t : ∀ q ∈ kws, ∃ u, PySem.W.nsIn K D q.1 = some (some u) ∧ RelV q.2 u) : ∀ q ∈ p :: kws, ∃ u, PySem.W.nsIn K D q.1 = some (some u) ∧ RelV q.2 u := fun q hq => by
  rcases List.mem_cons.mp hq with rfl | hq
  · exact h
  · exact t q hq
end Lw

/-! Lz: lists turned round, fields of caught errors with two fields, dict displays. -/
namespace Lw
open PySem L2 PySem.Spec PyProof.Rows
theorem xfC_of2 {P : Program} {K : PySem.W.Frag} {mg : Str → Option Value} {x f k : Str} {C fI : Addr} (T : PySem.SupY.SupTxt2 P K mg x f k C fI) : XfC K C := ⟨T.ga, T.gg, T.exC, T.hdC⟩
theorem flat_strs : ∀ us : List Str, (us.map V.str).all flatV = true
  | [] => rfl
  | _ :: us => flat_strs us
theorem sapp_len (a b : Str) : (a ++ b).length = a.length + b.length := Array.size_append ..
section
variable {W : Wd} {K : PySem.W.Frag} {H H0 H1 H2 : Hp} {a p : Addr} {xs ys vs : List V} {v x y : V} {Q : VK} {σ : L2.St} {i : Int} {b : Bool} {n m : Nat} {te : TE}
theorem rd_xfs {cls : Value} {d : Option Addr} {C dd : Addr} {f : Str} {fs : List (Str × V)} (hv : σ[m]? = some (some (.ref a))) (h : At W H dd (.xd fs)) (e1 : cls = .ref C) (e2 : d = some dd) (l : fs.lookup f = some v) (k : Q v H) : tXf a cls d C f (tVar m) σ H Q :=
  ⟨_, hv, rfl, e1, dd, fs, v, e2, h.1, l, k⟩
def RevG (K : PySem.W.Frag) (Q : VK) (x : V) (H1 : Hp) : Prop := ∃ a xs, x = .ref a ∧ SqL K H1 a xs ∧ ∀ p, H1 p = none → Q (.ref p) (upd H1 p (.lst xs.reverse))
theorem rd_revL (h : te σ H (RevG K Q)) : tRevL K te σ H Q := h
theorem rd_revA (i : W.iv H) (h : At W H a (.lst xs)) (k : ∀ p H2, H p = none → Ex W H H2 → At W H2 p (.lst xs.reverse) → Q (.ref p) H2) : RevG K Q (.ref a) H :=
  ⟨a, xs, rfl, h.sl, rd_new1 i k⟩
/-- {k: v, ..}, the dict being new -/
def DispG (Q : VK) (p : Addr) (ps : List (V × V)) (H2 : Hp) : Prop := H2 p = some (.dK []) ∧ ∃ kvs : List (Key × V), ps = kvs.map (fun kv => (kV kv.1, kv.2)) ∧ kvs.length ≤ 15 ∧ Q (.ref p) (upd H2 p (.dK (mergeK [] kvs)))
theorem rd_disp {trs : List (TE × TE)} (i : W.iv H) (k : ∀ p H1, H p = none → Ex W H H1 → At W H1 p (.dK []) → tPairs trs σ H1 (DispG Q p)) : tDisp trs σ H Q :=
  fun p hp => k p _ hp (Ex.new i hp) (At.new i hp)
theorem rd_pp {tk tv : TE} {r : List (TE × TE)} {QP : List (V × V) → Hp → Prop} (h : tk σ H fun x H1 => tv σ H1 fun y H2 => tPairs r σ H2 fun ps H3 => QP ((x, y) :: ps) H3) : tPairs ((tk, tv) :: r) σ H QP := h
theorem rd_pn {QP : List (V × V) → Hp → Prop} (h : QP [] H) : tPairs [] σ H QP := h
theorem rd_dput_new {kvs : List (Key × V)} {ps : List (V × V)} (e0 : Ex W H0 H) (h0 : H0 p = none) (h : At W H p (.dK [])) (e : ps = kvs.map (fun kv => (kV kv.1, kv.2))) (l : kvs.length ≤ 15)
    (k : ∀ H2, Ex W H0 H2 → At W H2 p (.dK (mergeK [] kvs)) → Q (.ref p) H2) : DispG Q p ps H :=
  ⟨h.1, kvs, e, l, k _ (e0.mut h0 h) (.mut e0.iv h)⟩
end
end Lw

/-! Lo: own classes: operators, ==, in, len by their own defs; defs with positional defaults that are always given; x in a tuple of data. -/
namespace Lw
open PySem L2 PySem.Spec PyProof.Rows
/-! ### a def whose positional defaults are never used -/
structure FunV (K : PySem.W.Frag) (nd : Nat) (x qual : Str) (params : Arguments) (body : List Stmt) (scope : Scope) (f : Addr) (fd : FuncData) : Prop where
  ex : ∃ (oc : Value) (od : Option Addr) (dV kV doc pm : Value) (an : Option Addr) (cdv ct : Value) (osl : Array (Option Value)),
    fd = PySem.W.fnOf x qual params body scope dV kV doc pm an cdv ct ∧ K.lookup f = some ⟨oc, od, .func fd, osl⟩ ∧ PySem.W.codeIn K cdv qual = true ∧
    ∃ (t : Addr) (o : Obj) (its : Array Value) (m : Nat), dV = .ref t ∧ K.lookup t = some o ∧ o.data = .seq its m ∧ its.toList.length = nd
  kp : PySem.W.keepIn K (.ref f) = true
section
variable {P : Program} {w : World} {K : PySem.W.Frag} {mg : Str → Option Value} {base : Heap} {nd : Nat} {x qual : Str} {params : Arguments} {body : List Stmt} {scope : Scope} {f : Addr} {fd : FuncData}
theorem FunV.ok {N ps : List Str} {k : Nat} {sp : Sp} (F : FunV K nd x qual params body scope f fd) (S : FnScope N ps scope) (len : ∀ vs H Q E, sp vs H Q E → vs.length = ps.length)
    (hbody : ∀ (cdv : Value) (A : Around) (outer : List Env) (s : Shared) (H : Hp) (vs : List V) (Q : VK) (E : XK), Room k (A.deeper (envOfC qual scope s.heap.objs.size f cdv)) → sp vs H Q E →
      ∃ t, PSs (cxOf CX0 P w K mg base N qual scope f cdv A outer s H E).nox body t ∧ t { nx := fun _ H' => Q .non H', rt := Q } (start N vs) H) : FnOk P w K mg base CX0 (k + 1) f fd ps sp := by
  obtain ⟨oc, od, dV, kV, doc, pm, an, cdv, ct, osl, rfl, lk, hcd, _⟩ := F.ex
  refine fn_of lk hcd S len fun A outer s H vs Q E hr hsp => ?_
  obtain ⟨t, h, q⟩ := hbody cdv A outer s H vs Q E hr hsp
  exact ⟨t, h.nox, q⟩
theorem FunV.okX {CX : CXT} {N ps : List Str} {k : Nat} {sp : Sp} (F : FunV K nd x qual params body scope f fd) (S : FnScope N ps scope) (len : ∀ vs H Q E, sp vs H Q E → vs.length = ps.length)
    (hbody : ∀ (cdv : Value) (A : Around) (outer : List Env) (s : Shared) (H : Hp) (vs : List V) (Q : VK) (E : XK), Room k (A.deeper (envOfC qual scope s.heap.objs.size f cdv)) → sp vs H Q E →
      ∃ t, PSs (cxOf CX P w K mg base N qual scope f cdv A outer s H E) body t ∧ t { nx := fun _ H' => Q .non H', rt := Q } (start N vs) H) : FnOk P w K mg base CX (k + 1) f fd ps sp := by
  obtain ⟨oc, od, dV, kV, doc, pm, an, cdv, ct, osl, rfl, lk, hcd, _⟩ := F.ex
  exact fn_of lk hcd S len fun A outer s H vs Q E hr hsp => hbody cdv A outer s H vs Q E hr hsp
theorem FunV.binds {ps : List Str} (F : FunV K nd x qual params body scope f fd)
    (h : ∀ (t : Addr) (kV doc pm : Value) (an : Option Addr) (cdv ct : Value) (us its : List Value), us.length = ps.length → its.length = nd → ∃ k, bindArgs (PySem.W.fnOf x qual params body scope (.ref t) kV doc pm an cdv ct) ⟨us, []⟩ = seqItems? (.ref t) >>= k ∧ k (some its.toArray) = pure (ps.zip us)) : Binds K fd ps [] := by
  obtain ⟨oc, od, dV, kV, doc, pm, an, cdv, ct, osl, rfl, lk, hcd, t, o, its, m, rfl, lT, oT, hn⟩ := F.ex
  intro s us X hl
  rw [List.append_nil] at hl ⊢
  refine BindsTo.of_looks fun M => ?_
  obtain ⟨k, e1, e2⟩ := h t kV doc pm an cdv ct us its.toList hl hn
  rw [e1]
  exact looks_items X lT oT (.of_pure e2)
end
/-! ### own operators -/
section
variable {X : Cx} {CX : CXT} {k : Nat} {C g : Addr} {fd : FuncData} {ps : List Str} {sp : Sp} {E : XK}
theorem ins_look {pins : List (Addr × Obj)} {σ : L2.St} {H : Hp} {s : Shared} {a dx : Addr} {fs : List (Str × V)} (I : Inv X pins σ H s) (h : H a = some (.ins C dx fs)) : ∃ ox od, PySem.W.InstAt s.heap a ox C (some od) := by
  obtain ⟨mA, O, _⟩ := ins_get I.hok h
  obtain ⟨od, J, _⟩ := O.look
  exact ⟨_, od, J⟩
/-- x op y, both instances of the class at C -/
def rOwnB (C : Addr) (sp : Sp) (E : XK) : R2 := fun x y H Q => ∃ a dx fs b dy gs, x = .ref a ∧ y = .ref b ∧ H a = some (.ins C dx fs) ∧ H b = some (.ins C dy gs) ∧ sp [x, y] H Q E
theorem op_ownB {op : Operator} (M : Meth X.K C (PySem.dunder op.info.2) g) (sf : PySem.W.selfFirst X.K C = true) (F : FnOk X.prog X.w X.K X.mg X.base CX k g fd ps sp) (hb : Binds X.K fd ps []) (hr : Room k X.A) (hx : Passes CX X E) : OpR X (binaryOp op) (rOwnB C sp E) := by
  intro pins s σ H x y v u Q I rx ry h
  obtain ⟨a, dx, fs, b, dy, gs, rfl, rfl, ha, hb', q⟩ := h
  cases (show v = Value.ref a from rx)
  cases (show u = Value.ref b from ry)
  obtain ⟨_, _, J⟩ := ins_look I ha
  obtain ⟨_, _, J'⟩ := ins_look I hb'
  obtain ⟨m, hF⟩ := I.fr
  refine PySem.W.binop_K hF I.ok.mod.kin J J'.type sf M.at_ M.fn ?_
  refine wpAny_mono (run_fn (us := [.ref a, .ref b]) (vs := [.ref a, .ref b]) (dvs := []) (ds := []) F hr hb .nil hx I (.cons rfl (.cons rfl .nil)) q) (fun w s' z => ?_) fun _ _ x => x
  obtain ⟨z', H', I', rz, qz⟩ := z
  exact SlX.cmpback rz ⟨z', H', I', rz, qz⟩
theorem op_ownEq (M : Meth X.K C (cmpInfo .Eq).2.1 g) (F : FnOk X.prog X.w X.K X.mg X.base CX k g fd ps sp) (hb : Binds X.K fd ps []) (hr : Room k X.A) (hx : Passes CX X E) : OpR X (compareOp .Eq) (rOwnB C sp E) := by
  intro pins s σ H x y v u Q I rx ry h
  obtain ⟨a, dx, fs, b, dy, gs, rfl, rfl, ha, hb', q⟩ := h
  cases (show v = Value.ref a from rx)
  cases (show u = Value.ref b from ry)
  obtain ⟨_, _, J⟩ := ins_look I ha
  obtain ⟨_, _, J'⟩ := ins_look I hb'
  obtain ⟨m, hF⟩ := I.fr
  show wpAny _ _ (richCompare .Eq (.ref a) (.ref b)) _ _ _
  have hn : PySem.W.notFirst X.K C (.ref C) = true := by
    unfold PySem.W.notFirst
    rw [show ((Value.ref C == .ref C) = true) from beq_self_eq_true _]; rfl
  refine PySem.W.cmp_K (op := .Eq) (tb := .ref C) hr.units0 hF I.ok.mod.kin J J'.type hn M.at_ M.fn ?_
  refine wpAny_mono (run_fn (us := [.ref a, .ref b]) (vs := [.ref a, .ref b]) (dvs := []) (ds := []) F hr hb .nil hx I (.cons rfl (.cons rfl .nil)) q) (fun w s' z => ?_) fun _ _ x => x
  obtain ⟨z', H', I', rz, qz⟩ := z
  exact SlX.cmpback rz ⟨z', H', I', rz, qz⟩
/-- x in y, x not in y: y an instance whose own def answers True or False -/
def rOwnIn (neg : Bool) (C : Addr) (sp : Sp) (E : XK) : R2 := fun x y H Q => ∃ a dx fs, y = .ref a ∧ H a = some (.ins C dx fs) ∧ sp [y, x] H (fun z H' => ∃ b : Bool, z = .bl b ∧ Q (.bl (if neg then !b else b)) H') E
theorem op_ownIn (M : Meth X.K C "__contains__" g) (F : FnOk X.prog X.w X.K X.mg X.base CX k g fd ps sp) (hb : Binds X.K fd ps []) (hr : Room k X.A) (hx : Passes CX X E) : OpR X (compareOp .In) (rOwnIn false C sp E) := by
  intro pins s σ H x y v u Q I rx ry h
  obtain ⟨a, dx, fs, rfl, ha, q⟩ := h
  cases (show u = Value.ref a from ry)
  obtain ⟨_, _, J⟩ := ins_look I ha
  obtain ⟨m, hF⟩ := I.fr
  refine PySem.W.in_K hF I.ok.mod.kin J M.at_ M.fn ?_
  refine wpAny_mono (run_fn (us := [.ref a, v]) (vs := [.ref a, x]) (dvs := []) (ds := []) F hr hb .nil hx I (.cons rfl (.cons rx .nil)) q) (fun w s' z => ?_) fun _ _ x => x
  obtain ⟨z', H', I', rz, b, rfl, qz⟩ := z
  cases (show w = Value.bool b from rz)
  exact wpAny_truthy_bool ⟨.bl b, H', I', rfl, qz⟩
theorem op_ownNotIn (M : Meth X.K C "__contains__" g) (F : FnOk X.prog X.w X.K X.mg X.base CX k g fd ps sp) (hb : Binds X.K fd ps []) (hr : Room k X.A) (hx : Passes CX X E) : OpR X (compareOp .NotIn) (rOwnIn true C sp E) := by
  intro pins s σ H x y v u Q I rx ry h
  obtain ⟨a, dx, fs, rfl, ha, q⟩ := h
  cases (show u = Value.ref a from ry)
  obtain ⟨_, _, J⟩ := ins_look I ha
  obtain ⟨m, hF⟩ := I.fr
  refine PySem.W.notIn_K hF I.ok.mod.kin J M.at_ M.fn ?_
  refine wpAny_mono (run_fn (us := [.ref a, v]) (vs := [.ref a, x]) (dvs := []) (ds := []) F hr hb .nil hx I (.cons rfl (.cons rx .nil)) q) (fun w s' z => ?_) fun _ _ x => x
  obtain ⟨z', H', I', rz, b, rfl, qz⟩ := z
  cases (show w = Value.bool b from rz)
  exact wpAny_truthy_bool ⟨.bl (!b), H', I', rfl, qz⟩
/-- len(x) by an own __len__ -/
def rOwnLen (C : Addr) (sp : Sp) (E : XK) : List V → Hp → VK → Prop := fun xs H Q => ∃ a dx fs, xs = [.ref a] ∧ H a = some (.ins C dx fs) ∧ sp [.ref a] H (fun z H' => ∃ n : Int, z = .int n ∧ (0 ≤ n ∧ n < 2 ^ 63) ∧ Q (.int n) H') E
theorem call_ownLen (M : Meth X.K C "__len__" g) (F : FnOk X.prog X.w X.K X.mg X.base CX k g fd ps sp) (hb : Binds X.K fd ps []) (hr : Room (k + 1) X.A) (hx : Passes CX X E) : CallR X (.builtin "len") (rOwnLen C sp E) := by
  intro pins s σ H xs us Q I r h
  obtain ⟨a, dx, fs, rfl, ha, q⟩ := h
  obtain ⟨u, rfl, ru⟩ := r.one
  cases (show u = Value.ref a from ru)
  obtain ⟨_, _, J⟩ := ins_look I ha
  obtain ⟨m, hF⟩ := I.fr
  refine PySem.W.len_K hF I.ok.mod.kin J M.at_ M.fn ?_
  have hl : ([Value.ref a] ++ ([] : List Value)).length = ps.length := (F.len _ _ _ _ q).symm ▸ rfl
  refine wpAny_call (codeAny_mono (F.run X.A.in1 X.stack s H ⟨[.ref a], []⟩ [.ref a] [.ref a] _ E hr.in1 I.env0.in1 (by have := hb s [.ref a] I.kIn hl; rwa [List.append_nil] at this) (.cons rfl .nil) q) fun r s' hq => ?_)
  cases r with
  | error e => exact hx pins σ H s e s' I hq
  | ok fl =>
    cases fl with
    | ret u =>
      obtain ⟨v, H', I', rv, n, rfl, hn, qz⟩ := I.after hq
      obtain ⟨t, e⟩ := (show ∃ t, u = Value.int n t from rv)
      subst e
      exact ⟨hn, .int n, H', I'.tok _, ⟨_, rfl⟩, qz⟩
    | next => exact False.elim hq
    | brk => exact False.elim hq
    | cont => exact False.elim hq
end
theorem hu65 {A : Around} {k : Nat} (hr : Room k A) : A.units + 65 < cLine := by have := hr.un; omega
/-- a field, the frozen part by its name (in a comprehension's block) -/
theorem pe_fldK {X : Cx} {K : PySem.W.Frag} {e : Expr} {ta : TE} {f : Str} {pos : Pos} (h : X.K = K) (p : PE X (.Attribute e f pos) (tFld X.K ta f)) : PE X (.Attribute e f pos) (tFld K ta f) := h ▸ p
theorem pi_listK {X : Cx} {K : PySem.W.Frag} {tg e : Expr} {ta : TE} (h : X.K = K) (p : PI X tg e (iList X.K ta)) : PI X tg e (iList K ta) := h ▸ p
theorem pi_tupK {X : Cx} {K : PySem.W.Frag} {tg e : Expr} {ta : TE} (h : X.K = K) (p : PI X tg e (iTup X.K ta)) : PI X tg e (iTup K ta) := h ▸ p
theorem pg_tupK {X : Cx} {K : PySem.W.Frag} {tg : Expr} {n : Nat} {ts : TGs} (h : X.K = K) (p : PG X tg (gTup X.K n ts)) : PG X tg (gTup K n ts) := h ▸ p
/-! ### x in a tuple, a list of data -/
section
variable {X : Cx}
def rInTD (neg : Bool) (K : PySem.W.Frag) : R2 := fun x y H Q => ∃ d ds, Dp K H x d ∧ Dp K H y (.tuple ds) ∧ SeqAt.shaped d = true ∧ SeqAt.shaped (.tuple ds) = true ∧ Q (.bl (if neg then !(ds.any fun z => PyData.eqv z d) else ds.any fun z => PyData.eqv z d)) H
theorem op_inTD (hu : X.A.units + 65 < cLine) : OpR X (compareOp .In) (rInTD false X.K) := by
  intro pins s σ H x y v u Q I rx ry h
  obtain ⟨d, ds, hd, he, sd, se, q⟩ := h
  obtain ⟨as, r1⟩ := Dp.reads I d x v hd rx
  obtain ⟨bs, r2⟩ := Dp.reads I (.tuple ds) y u he ry
  exact SeqAt.in_tuple_reads r2 r1 (SeqAt.canLay_of_shaped se) (SeqAt.canLay_of_shaped sd) (room_in_shaped sd hu) ⟨.bl _, H, I, rfl, q⟩
theorem op_notInTD (hu : X.A.units + 65 < cLine) : OpR X (compareOp .NotIn) (rInTD true X.K) := by
  intro pins s σ H x y v u Q I rx ry h
  obtain ⟨d, ds, hd, he, sd, se, q⟩ := h
  obtain ⟨as, r1⟩ := Dp.reads I d x v hd rx
  obtain ⟨bs, r2⟩ := Dp.reads I (.tuple ds) y u he ry
  exact SeqAt.notIn_tuple_reads r2 r1 (SeqAt.canLay_of_shaped se) (SeqAt.canLay_of_shaped sd) (room_in_shaped sd hu) ⟨.bl _, H, I, rfl, q⟩
end
section
variable {W : Wd} {K : PySem.W.Frag} {H : Hp} {Q : VK} {v x y : V} {d : PyData} {ds : List PyData} {ta : TE} {tr : TA} {σ : L2.St} {C : Addr} {sp : Sp} {E : XK}
theorem rd_inTD (h1 : DW K W H x d) (h2 : DW K W H y (.tuple ds)) (s1 : SeqAt.shaped d = true) (s2 : SeqAt.shaped (.tuple ds) = true) (k : Q (.bl (ds.any fun z => PyData.eqv z d)) H) : rInTD false K x y H Q := ⟨d, ds, h1.dp, h2.dp, s1, s2, k⟩
theorem rd_ninTD (h1 : DW K W H x d) (h2 : DW K W H y (.tuple ds)) (s1 : SeqAt.shaped d = true) (s2 : SeqAt.shaped (.tuple ds) = true) (k : Q (.bl (!(ds.any fun z => PyData.eqv z d))) H) : rInTD true K x y H Q := ⟨d, ds, h1.dp, h2.dp, s1, s2, k⟩
theorem rd_inLD (h1 : DW K W H x d) (h2 : DW K W H y (.list ds)) (s1 : SeqAt.shaped d = true) (s2 : SeqAt.shaped (.list ds) = true) (k : Q (.bl (ds.any fun z => PyData.eqv z d)) H) : rInD K x y H Q := ⟨d, ds, h1.dp, h2.dp, s1, s2, k⟩
theorem rd_ninLD (h1 : DW K W H x d) (h2 : DW K W H y (.list ds)) (s1 : SeqAt.shaped d = true) (s2 : SeqAt.shaped (.list ds) = true) (k : Q (.bl (!(ds.any fun z => PyData.eqv z d))) H) : rNotInD K x y H Q := ⟨d, ds, h1.dp, h2.dp, s1, s2, k⟩
/-- o.m(..), C(..) -/
theorem rd_meth {m : Str} (h : ta σ H fun x H1 => ∃ a dx fs, x = .ref a ∧ H1 a = some (.ins C dx fs) ∧ fs.lookup m = none ∧ tr σ H1 fun vs H2 => sp (x :: (vs ++ [])) H2 Q E) : tMeth C m sp [] E ta tr σ H Q := h
def MethG (C : Addr) (m : Str) (sp : Sp) (E : XK) (tr : TA) (σ : L2.St) (Q : VK) (x : V) (H1 : Hp) : Prop := ∃ a dx fs, x = .ref a ∧ H1 a = some (.ins C dx fs) ∧ fs.lookup m = none ∧ tr σ H1 fun vs H2 => sp (x :: (vs ++ [])) H2 Q E
theorem rd_methG {m : Str} (h : ta σ H (MethG C m sp E tr σ Q)) : tMeth C m sp [] E ta tr σ H Q := h
def MakeG (C : Addr) (sp : Sp) (E : XK) (Q : VK) (vs : List V) (H1 : Hp) : Prop := ∀ x dx, H1 x = none → H1 dx = none → dx ≠ x → sp (.ref x :: (vs ++ [])) (upd (upd H1 dx (.own x)) x (.ins C dx [])) (fun v H2 => v = .non ∧ Q (.ref x) H2) E
theorem rd_make (h : tr σ H (MakeG C sp E Q)) : tMake C sp [] E tr σ H Q := h
end
/-! ### dicts by tuples; tuple(a tuple) -/
section
variable {W : Wd} {K : PySem.W.Frag} {H H0 : Hp} {Q : VK} {σ : L2.St} {a b p : Addr} {xs : List V} {v : V} {kvs : List (List Key × V)} {k : List Key}
theorem rd_dnT (i : W.iv H) (k : ∀ p H2, H p = none → Ex W H H2 → At W H2 p (.dT []) → Q (.ref p) H2) : tDNewT σ H Q := new_of i k
theorem rd_diT (h : At W H a (.dT kvs)) (hb : At W H b (.tup xs)) (e : xs = k.map kV) (q : Q (.bl (valV kvs k).isSome) H) : DInG Q false (.ref a) (.ref b) H := ⟨a, _, rfl, DGet.t (k := k) h.1 (by rw [← e]; exact hb.1), q⟩
theorem rd_dniT (h : At W H a (.dT kvs)) (hb : At W H b (.tup xs)) (e : xs = k.map kV) (q : Q (.bl (!(valV kvs k).isSome)) H) : DInG Q true (.ref a) (.ref b) H := ⟨a, _, rfl, DGet.t (k := k) h.1 (by rw [← e]; exact hb.1), q⟩
theorem rd_dpT {P : Hp → Prop} (e0 : Ex W H0 H) (h0 : H0 a = none) (h : At W H a (.dT kvs)) (hb : At W H b (.tup xs)) (e : xs = k.map kV) (hl : kvs.length < 1000000)
    (q : ∀ H2, Ex W H0 H2 → At W H2 a (.dT (putK kvs k v)) → (∀ q o, q ≠ a → At W H q o → At W H2 q o) → P H2) : ∃ a' H4, V.ref a = .ref a' ∧ DPut H a' (.ref b) v H4 ∧ P H4 :=
  ⟨a, _, rfl, DPut.t (k := k) h.1 (by rw [← e]; exact hb.1) (sz_lt hl), q _ (e0.mut h0 h) (.mut e0.iv h) fun _ _ ne q => .other e0.iv h q ne⟩
/-- t + u -/
theorem rd_catA {ys : List V} (i : W.iv H) (h1 : At W H a (.tup xs)) (h2 : At W H b (.tup ys)) (hz : xs.length + ys.length ≤ 1000000) (k : ∀ p H2, Ex W H H2 → At W H2 p (.tup (xs ++ ys)) → Q (.ref p) H2) : rCatA K (.ref a) (.ref b) H Q := by
  refine ⟨a, b, xs, ys, rfl, rfl, h1.st, h2.st, sz_le hz, fun e => ?_, fun _ e => ?_, fun _ _ => new_of i fun p H2 _ e' h => k p H2 e' h⟩
  · subst e
    exact k b H (Ex.refl i) h2
  · subst e
    exact k a H (Ex.refl i) (by rw [List.append_nil]; exact h1)
theorem rd_tupT (h : At W H p (.tup xs)) (k : Q (.ref p) H) : rTupO K [.ref p] H Q := ⟨p, xs, rfl, .inr ⟨h.st, k⟩⟩
end
/-! ### xs.pop(i), xs a list of our own -/
theorem rd_pop {W : Wd} {H H0 : Hp} {p : Addr} {xs : List V} {i : Int} {Q : VK} (e : Ex W H0 H) (h0 : H0 p = none) (h : At W H p (.lst xs)) (i0 : 0 ≤ i) (i1 : i < (xs.length : Int)) (hz : xs.length ≤ 1000000)
    (k : ∀ y H2, xs[i.toNat]? = some y → Ex W H0 H2 → At W H2 p (.lst (xs.eraseIdx i.toNat)) → (∀ q o, q ≠ p → At W H q o → At W H2 q o) → Q y H2) : rPopAt (.ref p) [.int i] H Q := by
  have hi : i.toNat < xs.length := by omega
  refine ⟨p, xs, i, i.toNat, xs[i.toNat], rfl, rfl, h.1, by omega, by omega, seqIndex_at i0 i1, List.getElem?_eq_getElem hi, k _ _ (List.getElem?_eq_getElem hi) (e.mut h0 h) (.mut e.iv h) fun _ _ ne q => .other e.iv h q ne⟩
/-! ### a for over a tuple that stands -/
theorem for_tS {K : PySem.W.Frag} {a : Addr} {xs : List V} {g : TG} {tS : TS} {D : Ends} {σ : L2.St} {H : Hp} (Pv : Nat → L2.St → Hp → Prop) (h0 : Pv 0 σ H) (hl : ∀ i σ H, Pv i σ H → SqT K H a xs) (hs : ∀ i x σ H, xs[i]? = some x → Pv i σ H → g x σ H fun σ2 H2 => tS { D with nx := Pv (i + 1), ct := Pv (i + 1), bk := D.nx } σ2 H2) (hd : ∀ σ H, Pv xs.length σ H → D.nx σ H) : FoW (Itt K a) g tS D σ H :=
  for_it (walk_tup (xs := xs)) Pv h0 (fun i σ H _ p => hl i σ H p) (fun i x σ H H' hi p y => by
    obtain ⟨rfl, e⟩ := y
    exact hs i x σ _ e p) hd
/-! ### fields -/
def FldG (K : PySem.W.Frag) (Q : VK) (f : Str) (x : V) (H1 : Hp) : Prop := ∃ a C dx fs v, x = .ref a ∧ H1 a = some (.ins C dx fs) ∧ Cls K C ∧ NoAttr K C f ∧ fs.lookup f = some v ∧ Q v H1
theorem rd_fldG {K : PySem.W.Frag} {ta : TE} {f : Str} {σ : L2.St} {H : Hp} {Q : VK} (h : ta σ H (FldG K Q f)) : tFld K ta f σ H Q := h
theorem lc_wT {K : PySem.W.Frag} {a : Addr} {g : TG} {tt : TT} {te : TE} {ws : List Nat} {σ : L2.St} {H : Hp} {Q : VK} (h : LcW (Itt K a) g tt te ws σ H Q) : LcGT K a g tt te ws σ H Q := h
theorem lc_wL {K : PySem.W.Frag} {a : Addr} {g : TG} {tt : TT} {te : TE} {ws : List Nat} {σ : L2.St} {H : Hp} {Q : VK} (h : LcW (Itl K a) g tt te ws σ H Q) : LcG K a g tt te ws σ H Q := h
/-! ### list(range(n)) -/
section
variable {W : Wd} {H : Hp} {Q : VK} {ta : TE} {σ : L2.St} {n : Nat}
def LRgG (Q : VK) (x : V) (H1 : Hp) : Prop := ∃ n, x = .int n ∧ RgOk 0 n ∧ ∀ q, H1 q = none → Q (.ref q) (upd H1 q (.lst (rgV 0 n)))
theorem rd_lstRg (h : ta σ H (LRgG Q)) : tLstRg (tRg1 ta) σ H Q := h
theorem rd_lrg (i : W.iv H) (hn : n ≤ 1000) (k : ∀ p H2, H p = none → Ex W H H2 → At W H2 p (.lst ((List.range n).map fun i : Nat => V.int i)) → Q (.ref p) H2) : LRgG Q (.int n) H := by
  refine ⟨n, rfl, RgOk.of_le (by omega) (by omega) (by omega) (by omega), ?_⟩
  have e : rgV 0 n = (List.range n).map fun i : Nat => V.int i := by
    unfold rgV
    rw [show ((n : Int) - 0).toNat = n by omega]
    exact List.map_congr_left fun i _ => by rw [Int.zero_add]
  rw [e]
  exact rd_new1 i k
end
/-! ### comprehensions with two fors -/
section
variable {W : Wd} {K : PySem.W.Frag} {H H0 H4 : Hp} {Q : VK} {σ σ2 : L2.St} {tr : TA} {ta : TE} {g g1 : TG} {tt tt1 : TT} {te : TE} {wi1 : TI} {vs vs1 : List Nat} {D : Addr} {Nx : Hp → Prop}
def LcI (J1 : It) (g1 : TG) (tt1 : TT) (te : TE) (vs1 : List Nat) (σ2 : L2.St) (D : Addr) (Nx : Hp → Prop) (H4 : Hp) : Prop := ∃ W1 : Nat → Nat → Hp → Prop, (∃ m, W1 0 m H4) ∧ ∀ j k H, W1 j k H →
  (J1.stop j H ∧ Nx H) ∨ (J1.go j H ∧ ∃ Nx1 : Hp → Prop, (∀ H', Nx1 H' → ∃ k', k' < k ∧ W1 (j + 1) k' H') ∧ ∀ x H', J1.yld j H x H' → g1 x (wipe σ2 vs1) H' fun σ3 H5 => wipe σ3 vs1 = wipe σ2 vs1 ∧ tt1 σ3 H5 fun b H6 =>
    if b = true then te σ3 H6 fun y H7 => ∃ acc, H7 D = some (.lst acc) ∧ acc.length < sizeLine ∧ Nx1 (upd H7 D (.lst (acc ++ [y]))) else Nx1 H6)
def LcW2 (J : It) (g : TG) (tt : TT) (wi1 : TI) (g1 : TG) (tt1 : TT) (te : TE) (vs vs1 : List Nat) (σ : L2.St) (H1 : Hp) (Q : VK) : Prop := ∀ D, H1 D = none → ∃ W : Nat → Nat → Hp → Prop, (∃ m, W 0 m (upd H1 D (.lst []))) ∧ ∀ i m H, W i m H →
  (J.stop i H ∧ Q (.ref D) H) ∨ (J.go i H ∧ ∃ Nx : Hp → Prop, (∀ H', Nx H' → ∃ m', m' < m ∧ W (i + 1) m' H') ∧ ∀ x H', J.yld i H x H' → g x (wipe σ vs) H' fun σ2 H2 => wipe σ2 vs = wipe σ vs ∧ tt σ2 H2 fun b H3 =>
    if b = true then wi1 σ2 H3 (fun J1 H4 => LcI J1 g1 tt1 te vs1 σ2 D Nx H4) else Nx H3)
theorem rd_lc2R (h : tr σ H fun vz H1 => ∃ j : Int, vz = [.int j] ∧ -(2 ^ 62) ≤ j ∧ j < 2 ^ 62 ∧ LcW2 (Itr 0 j.toNat) g tt wi1 g1 tt1 te vs vs1 σ H1 Q) : tLc2 (iRng1 tr) g tt wi1 g1 tt1 te vs vs1 σ H Q := h
theorem rd_lc2T (h : ta σ H fun x H1 => ∃ a, x = .ref a ∧ (∃ xs, SqT K H1 a xs) ∧ LcW2 (Itt K a) g tt wi1 g1 tt1 te vs vs1 σ H1 Q) : tLc2 (iTup K ta) g tt wi1 g1 tt1 te vs vs1 σ H Q := h
theorem rd_lc2L (h : ta σ H fun x H1 => ∃ a, x = .ref a ∧ (∃ xs, SqL K H1 a xs) ∧ LcW2 (Itl K a) g tt wi1 g1 tt1 te vs vs1 σ H1 Q) : tLc2 (iList K ta) g tt wi1 g1 tt1 te vs vs1 σ H Q := h
theorem rd_iR {R : It → Hp → Prop} (h : tr σ H fun vz H1 => ∃ j : Int, vz = [.int j] ∧ -(2 ^ 62) ≤ j ∧ j < 2 ^ 62 ∧ R (Itr 0 j.toNat) H1) : iRng1 tr σ H R := h
theorem rd_iT {R : It → Hp → Prop} (h : ta σ H fun x H1 => ∃ a, x = .ref a ∧ (∃ xs, SqT K H1 a xs) ∧ R (Itt K a) H1) : iTup K ta σ H R := h
theorem rd_iL {R : It → Hp → Prop} (h : ta σ H fun x H1 => ∃ a, x = .ref a ∧ (∃ xs, SqL K H1 a xs) ∧ R (Itl K a) H1) : iList K ta σ H R := h
theorem li_w {J1 : It} {n1 : Nat} {G1 : Hp → Prop} {X1 : Nat → V → Prop} {ys : List V} (w : Walk J1 n1 G1 fun i H x H' => H' = H ∧ X1 i x) (S : Nat → List V → Hp → Prop) (e : Ex W H0 H4) (hD0 : H0 D = none) (hD : At W H4 D (.lst ys)) (hn : ys.length + n1 ≤ 500000) (h0 : S 0 ys (Lw.hide D H4)) (hG : ∀ H', Ex W H0 H' → G1 H')
    (hs : ∀ j x ys' H' (QV : VK) (QN : Hp → Prop), j < n1 → X1 j x → At W H' D (.lst ys') → Ex W H0 H' → S j ys' (Lw.hide D H') → ys'.length ≤ ys.length + j →
      (∀ y H5, Ex W H' H5 → S (j + 1) (ys' ++ [y]) (Lw.hide D H5) → QV y H5) → (∀ H5, Ex W H' H5 → S (j + 1) ys' (Lw.hide D H5) → QN H5) →
      g1 x (wipe σ2 vs1) H' fun σ3 H5 => wipe σ3 vs1 = wipe σ2 vs1 ∧ tt1 σ3 H5 fun b H6 => if b = true then te σ3 H6 QV else QN H6)
    (k : ∀ H' ys', Ex W H0 H' → At W H' D (.lst ys') → S n1 ys' (Lw.hide D H') → ys'.length ≤ ys.length + n1 → Nx H') : LcI J1 g1 tt1 te vs1 σ2 D Nx H4 := by
  refine ⟨fun i m H => m = n1 - i ∧ i ≤ n1 ∧ ∃ ys', Ex W H0 H ∧ At W H D (.lst ys') ∧ S i ys' (Lw.hide D H) ∧ ys'.length ≤ ys.length + i, ⟨n1, by simp, Nat.zero_le _, ys, e, hD, h0, Nat.le_refl _⟩, ?_⟩
  rintro i m H ⟨rfl, hi, ys', e', hd, hS, hl⟩
  have q := hG H e'
  by_cases hlt : i < n1
  · refine .inr ⟨w.goes i H hlt q, fun H => i + 1 ≤ n1 ∧ ∃ ys', Ex W H0 H ∧ At W H D (.lst ys') ∧ S (i + 1) ys' (Lw.hide D H) ∧ ys'.length ≤ ys.length + (i + 1), fun H' p' => ⟨n1 - (i + 1), by omega, rfl, p'.1, p'.2⟩, fun x H' y => ?_⟩
    obtain ⟨rfl, hx⟩ := w.yields i H x H' hlt q y
    exact hs i x ys' _ _ _ hlt hx hd e' hS hl (fun y H5 e5 s5 => ⟨ys', (e5.at_ hd).1, Nat.lt_of_le_of_lt (show ys'.length ≤ 500000 by omega) (by decide), hlt, ys' ++ [y], (e'.trans e5).mut hD0 (e5.at_ hd), At.mut e5.iv (e5.at_ hd), by rw [hide_upd]; exact s5, by rw [List.length_append, List.length_singleton]; omega⟩)
      fun H5 e5 s5 => ⟨hlt, ys', e'.trans e5, e5.at_ hd, s5, by omega⟩
  · have e2 : i = n1 := by omega
    subst e2
    exact .inl ⟨w.stops H q, k H ys' e' hd hS hl⟩
theorem lc2_w {J : It} {n M : Nat} {G : Hp → Prop} {X : Nat → V → Prop} (w : Walk J n G fun i H x H' => H' = H ∧ X i x) (S : Nat → List V → Hp → Prop) (i : W.iv H) (hn : n * M ≤ 50000) (hG : ∀ H', Ex W H H' → G H')
    (hm : ∀ k ys H1 H2, Ex W H1 H2 → S k ys H1 → S k ys H2) (h0 : S 0 [] H)
    (hs : ∀ k x D ys H' (Nx : Hp → Prop), k < n → X k x → H D = none → At W H' D (.lst ys) → Ex W H H' → S k ys (Lw.hide D H') → ys.length ≤ k * M →
      (∀ H3 ys', Ex W H H3 → At W H3 D (.lst ys') → S (k + 1) ys' (Lw.hide D H3) → ys'.length ≤ ys.length + M → Nx H3) →
      g x (wipe σ vs) H' fun σ2 H2 => wipe σ2 vs = wipe σ vs ∧ tt σ2 H2 fun b H3 => if b = true then wi1 σ2 H3 (fun J1 H4 => LcI J1 g1 tt1 te vs1 σ2 D Nx H4) else Nx H3)
    (k : ∀ D H2 ys, H D = none → Ex W H H2 → At W H2 D (.lst ys) → S n ys H2 → ys.length ≤ n * M → Q (.ref D) H2) : LcW2 J g tt wi1 g1 tt1 te vs vs1 σ H Q := by
  intro D hD
  refine ⟨fun i m H' => m = n - i ∧ i ≤ n ∧ ∃ ys', Ex W H H' ∧ At W H' D (.lst ys') ∧ S i ys' (Lw.hide D H') ∧ ys'.length ≤ i * M, ⟨n, by simp, Nat.zero_le _, [], Ex.new i hD, At.new i hD, by rw [hide_upd, hide_none hD]; exact h0, Nat.zero_le _⟩, ?_⟩
  rintro i m H' ⟨rfl, hi, ys', e', hd, hS, hl⟩
  have q := hG H' e'
  by_cases hlt : i < n
  · refine .inr ⟨w.goes i H' hlt q, fun H3 => i + 1 ≤ n ∧ ∃ ys', Ex W H H3 ∧ At W H3 D (.lst ys') ∧ S (i + 1) ys' (Lw.hide D H3) ∧ ys'.length ≤ (i + 1) * M, fun H3 p' => ⟨n - (i + 1), by omega, rfl, p'.1, p'.2⟩, fun x H3 y => ?_⟩
    obtain ⟨rfl, hx⟩ := w.yields i H' x H3 hlt q y
    exact hs i x D ys' _ _ hlt hx hD hd e' hS hl fun H3 ys2 e3 h3 s3 l3 => ⟨hlt, ys2, e3, h3, s3, by rw [Nat.succ_mul]; omega⟩
  · have e2 : i = n := by omega
    subst e2
    exact .inl ⟨w.stops H' q, k D H' ys' hD e' hd (hm _ _ _ _ (Ex.unhide e'.iv hd) hS) hl⟩
end
end Lw

namespace K44
open PySem L2 Lw TL

def top (i : Nat) : Stmt := PySem.Challenge.pw_capstead_k44_whole_closed_and_gap.main.body.getD i (.Pass ⟨0, 0, 0, 0⟩)

abbrev s_is_integer : Stmt := top 7
abbrev N_is_integer : List Str := ["value"]
theorem sc_is_integer : FnScope N_is_integer ["value"] (defScope s_is_integer) := ⟨rfl, rfl, rfl, by decide +kernel, rfl, by decide +kernel, by decide +kernel⟩
abbrev s_is_row : Stmt := top 9
abbrev N_is_row : List Str := ["value"]
theorem sc_is_row : FnScope N_is_row ["value"] (defScope s_is_row) := ⟨rfl, rfl, rfl, by decide +kernel, rfl, by decide +kernel, by decide +kernel⟩
abbrev s_is_two : Stmt := top 12
abbrev N_is_two : List Str := ["value"]
theorem sc_is_two : FnScope N_is_two ["value"] (defScope s_is_two) := ⟨rfl, rfl, rfl, by decide +kernel, rfl, by decide +kernel, by decide +kernel⟩
abbrev s_is_pair : Stmt := top 13
abbrev N_is_pair : List Str := ["value", "size"]
theorem sc_is_pair : FnScope N_is_pair ["value", "size"] (defScope s_is_pair) := ⟨rfl, rfl, rfl, by decide +kernel, rfl, by decide +kernel, by decide +kernel⟩
abbrev s_check_sizes : Stmt := top 14
abbrev N_check_sizes : List Str := ["relation", "other"]
theorem sc_check_sizes : FnScope N_check_sizes ["relation", "other"] (defScope s_check_sizes) := ⟨rfl, rfl, rfl, by decide +kernel, rfl, by decide +kernel, by decide +kernel⟩
abbrev s_Reach__init : Stmt := inClass (top 15) 0
abbrev N_Reach__init : List Str := ["self", "size", "pairs", "known", "at", "pair", "x", "y"]
theorem sc_Reach__init : FnScope N_Reach__init ["self", "size", "pairs"] (defScope s_Reach__init) := ⟨rfl, rfl, rfl, by decide +kernel, rfl, by decide +kernel, by decide +kernel⟩
abbrev s_Reach__contains : Stmt := inClass (top 15) 2
abbrev N_Reach__contains : List Str := ["self", "pair"]
theorem sc_Reach__contains : FnScope N_Reach__contains ["self", "pair"] (defScope s_Reach__contains) := ⟨rfl, rfl, rfl, by decide +kernel, rfl, by decide +kernel, by decide +kernel⟩
abbrev s_Reach__len : Stmt := inClass (top 15) 3
abbrev N_Reach__len : List Str := ["self"]
theorem sc_Reach__len : FnScope N_Reach__len ["self"] (defScope s_Reach__len) := ⟨rfl, rfl, rfl, by decide +kernel, rfl, by decide +kernel, by decide +kernel⟩
abbrev s_Reach__eq : Stmt := inClass (top 15) 5
abbrev N_Reach__eq : List Str := ["self", "other"]
theorem sc_Reach__eq : FnScope N_Reach__eq ["self", "other"] (defScope s_Reach__eq) := ⟨rfl, rfl, rfl, by decide +kernel, rfl, by decide +kernel, by decide +kernel⟩
abbrev s_Reach__or : Stmt := inClass (top 15) 6
abbrev N_Reach__or : List Str := ["self", "other"]
theorem sc_Reach__or : FnScope N_Reach__or ["self", "other"] (defScope s_Reach__or) := ⟨rfl, rfl, rfl, by decide +kernel, rfl, by decide +kernel, by decide +kernel⟩
abbrev s_Reach__and : Stmt := inClass (top 15) 7
abbrev N_Reach__and : List Str := ["self", "other", "pair"]
theorem sc_Reach__and : FnScope N_Reach__and ["self", "other"] (defScope s_Reach__and) := ⟨rfl, rfl, rfl, by decide +kernel, rfl, by decide +kernel, by decide +kernel⟩
abbrev s_Reach__mul : Stmt := inClass (top 15) 9
abbrev N_Reach__mul : List Str := ["self", "other", "x", "middle", "y", "z"]
theorem sc_Reach__mul : FnScope N_Reach__mul ["self", "other"] (defScope s_Reach__mul) := ⟨rfl, rfl, rfl, by decide +kernel, rfl, by decide +kernel, by decide +kernel⟩
abbrev s_Reach_pairs : Stmt := inClass (top 15) 10
abbrev N_Reach_pairs : List Str := ["self"]
theorem sc_Reach_pairs : FnScope N_Reach_pairs ["self"] (defScope s_Reach_pairs) := ⟨rfl, rfl, rfl, by decide +kernel, rfl, by decide +kernel, by decide +kernel⟩
abbrev s_Reach_closed : Stmt := inClass (top 15) 12
abbrev N_Reach_closed : List Str := ["self", "numbers", "linked", "y", "x", "z", "found", "start", "goal"]
theorem sc_Reach_closed : FnScope N_Reach_closed ["self"] (defScope s_Reach_closed) := ⟨rfl, rfl, rfl, by decide +kernel, rfl, by decide +kernel, by decide +kernel⟩
abbrev s_Reach_gap : Stmt := inClass (top 15) 13
abbrev N_Reach_gap : List Str := ["self", "x", "y", "middle", "z"]
theorem sc_Reach_gap : FnScope N_Reach_gap ["self"] (defScope s_Reach_gap) := ⟨rfl, rfl, rfl, by decide +kernel, rfl, by decide +kernel, by decide +kernel⟩
abbrev s_law_pen : Stmt := top 17
abbrev N_law_pen : List Str := ["script", "most", "cells", "cell"]
theorem sc_law_pen : FnScope N_law_pen ["script"] (defScope s_law_pen) := ⟨rfl, rfl, rfl, by decide +kernel, rfl, by decide +kernel, by decide +kernel⟩
abbrev s_law_draw : Stmt := top 18
abbrev N_law_draw : List Str := ["pen", "bound", "cell", "digit", "mixed"]
theorem sc_law_draw : FnScope N_law_draw ["pen", "bound"] (defScope s_law_draw) := ⟨rfl, rfl, rfl, by decide +kernel, rfl, by decide +kernel, by decide +kernel⟩
abbrev s_law_whole : Stmt := top 19
abbrev N_law_whole : List Str := ["number"]
theorem sc_law_whole : FnScope N_law_whole ["number"] (defScope s_law_whole) := ⟨rfl, rfl, rfl, by decide +kernel, rfl, by decide +kernel, by decide +kernel⟩
abbrev s_law_every : Stmt := top 20
abbrev N_law_every : List Str := ["many", "told", "x", "y"]
theorem sc_law_every : FnScope N_law_every ["many"] (defScope s_law_every) := ⟨rfl, rfl, rfl, by decide +kernel, rfl, by decide +kernel, by decide +kernel⟩
abbrev s_law_order : Stmt := top 21
abbrev N_law_order : List Str := ["pen", "many", "left", "order", "k"]
theorem sc_law_order : FnScope N_law_order ["pen", "many"] (defScope s_law_order) := ⟨rfl, rfl, rfl, by decide +kernel, rfl, by decide +kernel, by decide +kernel⟩
abbrev s_law_ring : Stmt := top 22
abbrev N_law_ring : List Str := ["order", "told", "k", "x", "y"]
theorem sc_law_ring : FnScope N_law_ring ["order"] (defScope s_law_ring) := ⟨rfl, rfl, rfl, by decide +kernel, rfl, by decide +kernel, by decide +kernel⟩
abbrev s_law_drawn : Stmt := top 23
abbrev N_law_drawn : List Str := ["pen", "many", "count", "told", "k", "x", "y"]
theorem sc_law_drawn : FnScope N_law_drawn ["pen", "many", "count"] (defScope s_law_drawn) := ⟨rfl, rfl, rfl, by decide +kernel, rfl, by decide +kernel, by decide +kernel⟩
abbrev s_law_shape : Stmt := top 24
abbrev N_law_shape : List Str := ["pen", "many", "order", "shape", "told", "k", "half", "pair"]
theorem sc_law_shape : FnScope N_law_shape ["pen", "many", "order"] (defScope s_law_shape) := ⟨rfl, rfl, rfl, by decide +kernel, rfl, by decide +kernel, by decide +kernel⟩
abbrev s_law_pairs : Stmt := top 25
abbrev N_law_pairs : List Str := ["pen", "many", "told", "pair"]
theorem sc_law_pairs : FnScope N_law_pairs ["pen", "many"] (defScope s_law_pairs) := ⟨rfl, rfl, rfl, by decide +kernel, rfl, by decide +kernel, by decide +kernel⟩
abbrev s_law_table : Stmt := top 26
abbrev N_law_table : List Str := ["rows", "table", "pair"]
theorem sc_law_table : FnScope N_law_table ["rows"] (defScope s_law_table) := ⟨rfl, rfl, rfl, by decide +kernel, rfl, by decide +kernel, by decide +kernel⟩
abbrev s_law_closed : Stmt := top 27
abbrev N_law_closed : List Str := ["many", "rows", "table", "told", "x", "met", "place", "z"]
theorem sc_law_closed : FnScope N_law_closed ["many", "rows"] (defScope s_law_closed) := ⟨rfl, rfl, rfl, by decide +kernel, rfl, by decide +kernel, by decide +kernel⟩
abbrev s_law_gap : Stmt := top 28
abbrev N_law_gap : List Str := ["many", "table", "x", "y", "z"]
theorem sc_law_gap : FnScope N_law_gap ["many", "table"] (defScope s_law_gap) := ⟨rfl, rfl, rfl, by decide +kernel, rfl, by decide +kernel, by decide +kernel⟩
abbrev s_law_times : Stmt := top 29
abbrev N_law_times : List Str := ["many", "rows", "others", "table", "other_table", "told", "pair", "between", "y"]
theorem sc_law_times : FnScope N_law_times ["many", "rows", "others"] (defScope s_law_times) := ⟨rfl, rfl, rfl, by decide +kernel, rfl, by decide +kernel, by decide +kernel⟩
abbrev s_law_right_gap : Stmt := top 30
abbrev N_law_right_gap : List Str := ["actual", "due", "number"]
theorem sc_law_right_gap : FnScope N_law_right_gap ["actual", "due"] (defScope s_law_right_gap) := ⟨rfl, rfl, rfl, by decide +kernel, rfl, by decide +kernel, by decide +kernel⟩
abbrev s_law_is : Stmt := top 31
abbrev N_law_is : List Str := ["relation", "many", "due", "told", "k", "pair"]
theorem sc_law_is : FnScope N_law_is ["relation", "many", "due"] (defScope s_law_is) := ⟨rfl, rfl, rfl, by decide +kernel, rfl, by decide +kernel, by decide +kernel⟩
abbrev s_law_closes : Stmt := top 32
abbrev N_law_closes : List Str := ["relation", "many", "rows", "due", "lack", "wide"]
theorem sc_law_closes : FnScope N_law_closes ["relation", "many", "rows"] (defScope s_law_closes) := ⟨rfl, rfl, rfl, by decide +kernel, rfl, by decide +kernel, by decide +kernel⟩
abbrev s_law_fills : Stmt := top 33
abbrev N_law_fills : List Str := ["relation", "many", "rows", "table", "turn", "lack"]
theorem sc_law_fills : FnScope N_law_fills ["relation", "many", "rows"] (defScope s_law_fills) := ⟨rfl, rfl, rfl, by decide +kernel, rfl, by decide +kernel, by decide +kernel⟩
abbrev s_law : Stmt := top 34
abbrev N_law : List Str := ["script", "pen", "many", "first", "second", "one", "other", "both", "pair"]
theorem sc_law : FnScope N_law ["script"] (defScope s_law) := ⟨rfl, rfl, rfl, by decide +kernel, rfl, by decide +kernel, by decide +kernel⟩

/-! ### relations, plainly -/
abbrev Rel := Nat → Nat → Bool
/-- the pairs in ascending order -/
def prs (n : Nat) (r : Rel) : List (Nat × Nat) := (List.range n).flatMap fun x => ((List.range n).filter (r x)).map fun y => (x, y)
theorem mem_prs {n : Nat} {r : Rel} {x y : Nat} : (x, y) ∈ prs n r ↔ x < n ∧ y < n ∧ r x y = true := by
  unfold prs
  rw [List.mem_flatMap]
  constructor
  · rintro ⟨a, ha, hb⟩
    obtain ⟨b, hb1, hb2⟩ := List.mem_map.mp hb
    cases hb2
    obtain ⟨h1, h2⟩ := List.mem_filter.mp hb1
    exact ⟨List.mem_range.mp ha, List.mem_range.mp h1, h2⟩
  · rintro ⟨h1, h2, h3⟩
    exact ⟨x, List.mem_range.mpr h1, List.mem_map.mpr ⟨y, List.mem_filter.mpr ⟨List.mem_range.mpr h2, h3⟩, rfl⟩⟩
theorem prs_congr {n : Nat} {r s : Rel} (h : ∀ x y, x < n → y < n → r x y = s x y) : prs n r = prs n s := by
  have : ∀ l : List Nat, (∀ x ∈ l, x < n) → (l.flatMap fun x => ((List.range n).filter (r x)).map fun y => (x, y)) = (l.flatMap fun x => ((List.range n).filter (s x)).map fun y => (x, y)) := by
    intro l
    induction l with
    | nil => intro _; rfl
    | cons a l ih =>
      intro hl
      rw [List.flatMap_cons, List.flatMap_cons, ih fun x hx => hl x (List.mem_cons_of_mem _ hx)]
      congr 2
      exact List.filter_congr fun y hy => h a y (hl a (List.mem_cons_self ..)) (List.mem_range.mp hy)
  exact this _ fun x hx => List.mem_range.mp hx
theorem prs_len (n : Nat) (r : Rel) : (prs n r).length ≤ n * n := by
  have : ∀ l : List Nat, (l.flatMap fun x => ((List.range n).filter (r x)).map fun y => (x, y)).length ≤ l.length * n := by
    intro l
    induction l with
    | nil => exact Nat.zero_le _
    | cons a l ih =>
      rw [List.flatMap_cons, List.length_append, List.length_map, List.length_cons, Nat.succ_mul]
      have := List.length_filter_le (r a) (List.range n)
      rw [List.length_range] at this
      omega
  have h := this (List.range n)
  rwa [List.length_range] at h
/-! the closure -/
def Pa (r : Rel) : Nat → Rel
  | 0 => r
  | k + 1 => fun x z => Pa r k x z || (Pa r k x k && Pa r k k z)
theorem P_mono {r : Rel} {k m : Nat} {x z : Nat} (h : k ≤ m) (p : Pa r k x z = true) : Pa r m x z = true := by
  induction h with
  | refl => exact p
  | step _ ih => show (_ || _) = true; rw [ih]; rfl
theorem P_succ {r : Rel} {k x z : Nat} (h : Pa r (k + 1) x z = true) : Pa r k x z = true ∨ (Pa r k x k = true ∧ Pa r k k z = true) := by
  have h : (Pa r k x z || (Pa r k x k && Pa r k k z)) = true := h
  rw [Bool.or_eq_true, Bool.and_eq_true] at h
  exact h
theorem P_thru {r : Rel} {k x z : Nat} (h1 : Pa r k x k = true) (h2 : Pa r k k z = true) : Pa r (k + 1) x z = true := by
  show (_ || (_ && _)) = true
  rw [h1, h2, Bool.and_true, Bool.or_true]
theorem P_tr {r : Rel} : ∀ {k w x z : Nat}, w < k → Pa r k x w = true → Pa r k w z = true → Pa r k x z = true
  | 0, w, x, z, h, _, _ => by omega
  | k + 1, w, x, z, h, h1, h2 => by
    by_cases e : w = k
    · subst e
      have a : Pa r w x w = true := (P_succ h1).elim id fun q => q.1
      have b : Pa r w w z = true := (P_succ h2).elim id fun q => q.2
      exact P_thru a b
    · have hw : w < k := by omega
      rcases P_succ h1 with a | ⟨a1, a2⟩
      · rcases P_succ h2 with b | ⟨b1, b2⟩
        · exact P_mono (Nat.le_succ k) (P_tr hw a b)
        · exact P_thru (P_tr hw a b1) b2
      · rcases P_succ h2 with b | ⟨b1, b2⟩
        · exact P_thru a1 (P_tr hw a2 b)
        · exact P_thru a1 b2
/-- the least transitive one -/
theorem P_least {n : Nat} {r : Rel} {Q : Nat → Nat → Prop} (h : ∀ x y, x < n → y < n → r x y = true → Q x y) (t : ∀ x y z, y < n → Q x y → Q y z → Q x z) : ∀ {k x z : Nat}, k ≤ n → x < n → z < n → Pa r k x z = true → Q x z
  | 0, x, z, _, hx, hz, p => h x z hx hz p
  | k + 1, x, z, hk, hx, hz, p => by
    rcases P_succ p with a | ⟨a, b⟩
    · exact P_least h t (by omega) hx hz a
    · exact t x k z (by omega) (P_least h t (by omega) hx (by omega) a) (P_least h t (by omega) (by omega) hz b)
def clo (n : Nat) (r : Rel) : Rel := fun x z => decide (x ≠ z) && Pa r n x z
theorem clo_iff {n : Nat} {r : Rel} {x z : Nat} : clo n r x z = true ↔ x ≠ z ∧ Pa r n x z = true := by unfold clo; rw [Bool.and_eq_true, decide_eq_true_iff]
def Irr (n : Nat) (r : Rel) : Prop := ∀ x y, x < n → y < n → r x y = true → x ≠ y
theorem clo_irr (n : Nat) (r : Rel) : Irr n (clo n r) := fun x y _ _ h => (clo_iff.mp h).1
theorem clo_of {n : Nat} {r : Rel} (i : Irr n r) {x y : Nat} (hx : x < n) (hy : y < n) (h : r x y = true) : clo n r x y = true := clo_iff.mpr ⟨i x y hx hy h, P_mono (Nat.zero_le _) h⟩
theorem clo_tr {n : Nat} {r : Rel} {x y z : Nat} (hy : y < n) (ne : x ≠ z) (h1 : clo n r x y = true) (h2 : clo n r y z = true) : clo n r x z = true := clo_iff.mpr ⟨ne, P_tr hy (clo_iff.mp h1).2 (clo_iff.mp h2).2⟩
/-- no gap -/
def NoGap (n : Nat) (r : Rel) : Prop := ∀ x y z, x < n → y < n → z < n → r x y = true → r y z = true → x ≠ z → r x z = true
/-- within any relation without a gap -/
theorem clo_min {n : Nat} {r s : Rel} (h : ∀ x y, x < n → y < n → r x y = true → s x y = true) (g : NoGap n s) {x z : Nat} (hx : x < n) (hz : z < n) (p : clo n r x z = true) : s x z = true := by
  obtain ⟨ne, q⟩ := clo_iff.mp p
  have := P_least (n := n) (r := r) (Q := fun a b => a < n → b < n → a = b ∨ s a b = true) (fun a b ha hb e _ _ => .inr (h a b ha hb e))
    (fun a b c hb q1 q2 ha hc => by
      rcases q1 ha hb with rfl | e1
      · exact q2 ha hc
      · rcases q2 hb hc with rfl | e2
        · exact .inr e1
        · by_cases e : a = c
          · exact .inl e
          · exact .inr (g a b c ha hb hc e1 e2 e)) (Nat.le_refl n) hx hz q
  exact (this hx hz).resolve_left ne
theorem clo_gap (n : Nat) (r : Rel) : NoGap n (clo n r) := fun x y z _ hy _ h1 h2 ne => clo_tr hy ne h1 h2
theorem clo_eq {n : Nat} {r s : Rel} (h1 : ∀ x y, x < n → y < n → r x y = true → clo n s x y = true) (h2 : ∀ x y, x < n → y < n → s x y = true → clo n r x y = true) {x y : Nat} (hx : x < n) (hy : y < n) : clo n r x y = clo n s x y := by
  rw [Bool.eq_iff_iff]
  exact ⟨clo_min h1 (clo_gap n s) hx hy, clo_min h2 (clo_gap n r) hx hy⟩
theorem clo_of_gap {n : Nat} {r : Rel} (i : Irr n r) (g : NoGap n r) {x y : Nat} (hx : x < n) (hy : y < n) : clo n r x y = r x y := by
  rw [Bool.eq_iff_iff]
  exact ⟨clo_min (fun _ _ _ _ h => h) g hx hy, clo_of i hx hy⟩
theorem clo_clo {n : Nat} {r : Rel} {x y : Nat} (hx : x < n) (hy : y < n) : clo n (clo n r) x y = clo n r x y := clo_of_gap (clo_irr n r) (clo_gap n r) hx hy
/-! the least gap -/
abbrev Tri := Nat × Nat × Nat
/-- as the law walks -/
def gapL (n : Nat) (r : Rel) : Option Tri := (List.range n).findSome? fun x => (List.range n).findSome? fun y => if r x y = true then (List.range n).findSome? (fun z => if z ≠ x ∧ r y z = true ∧ r x z = false then some (x, y, z) else none) else none
/-- as the program walks -/
def gapP (n : Nat) (r : Rel) : Option Tri := (prs n r).findSome? fun p => (prs n r).findSome? fun q => if q.1 = p.2 ∧ p.1 ≠ q.2 ∧ r p.1 q.2 = false then some (p.1, p.2, q.2) else none
theorem fs_append {α β : Type} (g : α → Option β) : ∀ l m : List α, (l ++ m).findSome? g = (l.findSome? g).or (m.findSome? g) := fun l m => by
  induction l with
  | nil => rfl
  | cons a l ih =>
    rw [List.cons_append, List.findSome?_cons, List.findSome?_cons]
    cases g a with
    | none => exact ih
    | some b => rfl
theorem fs_flat {α β γ : Type} (f : α → List β) (g : β → Option γ) : ∀ l : List α, (l.flatMap f).findSome? g = l.findSome? fun x => (f x).findSome? g
  | [] => rfl
  | a :: l => by
    rw [List.flatMap_cons, fs_append, fs_flat f g l, List.findSome?_cons]
    cases (f a).findSome? g <;> rfl
theorem fs_map {α β γ : Type} (f : α → β) (g : β → Option γ) : ∀ l : List α, (l.map f).findSome? g = l.findSome? fun x => g (f x)
  | [] => rfl
  | a :: l => by rw [List.map_cons, List.findSome?_cons, List.findSome?_cons, fs_map f g l]
theorem fs_filter {α β : Type} (p : α → Bool) (g : α → Option β) : ∀ l : List α, (l.filter p).findSome? g = l.findSome? fun x => if p x = true then g x else none
  | [] => rfl
  | a :: l => by
    rw [List.findSome?_cons]
    by_cases h : p a = true
    · rw [List.filter_cons_of_pos h, List.findSome?_cons, fs_filter p g l, if_pos h]
    · rw [List.filter_cons_of_neg h, fs_filter p g l, if_neg h]
theorem fs_prs {β : Type} (n : Nat) (r : Rel) (g : Nat × Nat → Option β) : (prs n r).findSome? g = (List.range n).findSome? fun x => (List.range n).findSome? fun y => if r x y = true then g (x, y) else none := by
  unfold prs
  rw [fs_flat]
  congr 1
  funext x
  rw [fs_map, fs_filter]
theorem fs_congr {α β : Type} {g h : α → Option β} : ∀ {l : List α}, (∀ x ∈ l, g x = h x) → l.findSome? g = l.findSome? h
  | [], _ => rfl
  | a :: l, e => by rw [List.findSome?_cons, List.findSome?_cons, e a (List.mem_cons_self ..), fs_congr fun x hx => e x (List.mem_cons_of_mem _ hx)]
theorem fs_none {α β : Type} {g : α → Option β} : ∀ {l : List α}, (∀ x ∈ l, g x = none) → l.findSome? g = none
  | [], _ => rfl
  | a :: l, e => by rw [List.findSome?_cons, e a (List.mem_cons_self ..), fs_none fun x hx => e x (List.mem_cons_of_mem _ hx)]
theorem fs_one {α β : Type} [DecidableEq α] {g : α → Option β} {a : α} : ∀ {l : List α}, a ∈ l → (∀ x ∈ l, x ≠ a → g x = none) → l.findSome? g = g a
  | [], h, _ => nomatch h
  | b :: l, h, e => by
    rw [List.findSome?_cons]
    by_cases q : b = a
    · subst q
      cases hg : g b with
      | some v => rfl
      | none =>
        refine fs_none fun x hx => ?_
        by_cases q : x = b
        · rw [q, hg]
        · exact e x (List.mem_cons_of_mem _ hx) q
    · rw [e b (List.mem_cons_self ..) q]
      exact fs_one ((List.mem_cons.mp h).resolve_left fun z => q z.symm) fun x hx => e x (List.mem_cons_of_mem _ hx)
theorem gap_eq (n : Nat) (r : Rel) : gapP n r = gapL n r := by
  unfold gapP gapL
  rw [fs_prs]
  refine fs_congr fun x hx => fs_congr fun y hy => ?_
  by_cases h : r x y = true
  · rw [if_pos h, if_pos h, fs_prs]
    rw [fs_one (a := y) hy fun m hm ne => fs_none fun z hz => by
      by_cases q : r m z = true
      · rw [if_pos q, if_neg fun c => ne c.1]
      · rw [if_neg q]]
    refine fs_congr fun z hz => ?_
    by_cases q : r y z = true
    · rw [if_pos q]
      by_cases c : x ≠ z ∧ r x z = false
      · rw [if_pos ⟨rfl, c⟩, if_pos ⟨c.1.symm, q, c.2⟩]
      · rw [if_neg fun z => c z.2, if_neg fun z => c ⟨z.1.symm, z.2.2⟩]
    · rw [if_neg q, if_neg fun c => q c.2.1]
  · rw [if_neg h, if_neg h]
theorem fs_some {α β : Type} {g : α → Option β} {b : β} : ∀ {l : List α}, l.findSome? g = some b → ∃ x ∈ l, g x = some b
  | [], h => nomatch h
  | a :: l, h => by
    rw [List.findSome?_cons] at h
    cases e : g a with
    | some v => rw [e] at h; cases h; exact ⟨a, List.mem_cons_self .., e⟩
    | none =>
      rw [e] at h
      obtain ⟨x, hx, q⟩ := fs_some h
      exact ⟨x, List.mem_cons_of_mem _ hx, q⟩
theorem fs_none' {α β : Type} {g : α → Option β} : ∀ {l : List α}, l.findSome? g = none → ∀ x ∈ l, g x = none
  | [], _, _, h => nomatch h
  | a :: l, h, x, hx => by
    rw [List.findSome?_cons] at h
    cases e : g a with
    | some v => rw [e] at h; cases h
    | none =>
      rw [e] at h
      rcases List.mem_cons.mp hx with rfl | hx
      · exact e
      · exact fs_none' h x hx
theorem gap_some {n : Nat} {r : Rel} {x y z : Nat} (h : gapL n r = some (x, y, z)) : x < n ∧ y < n ∧ z < n ∧ z ≠ x ∧ r x y = true ∧ r y z = true ∧ r x z = false := by
  obtain ⟨a, ha, h1⟩ := fs_some h
  obtain ⟨b, hb, h2⟩ := fs_some h1
  by_cases q : r a b = true
  · rw [if_pos q] at h2
    obtain ⟨c, hc, h3⟩ := fs_some h2
    by_cases w : c ≠ a ∧ r b c = true ∧ r a c = false
    · rw [if_pos w] at h3
      cases h3
      exact ⟨List.mem_range.mp ha, List.mem_range.mp hb, List.mem_range.mp hc, w.1, q, w.2⟩
    · rw [if_neg w] at h3; cases h3
  · rw [if_neg q] at h2; cases h2
theorem gap_none {n : Nat} {r : Rel} : gapL n r = none ↔ NoGap n r := by
  constructor
  · intro h x y z hx hy hz h1 h2 ne
    have a := fs_none' h x (List.mem_range.mpr hx)
    have b := fs_none' a y (List.mem_range.mpr hy)
    rw [if_pos h1] at b
    have c := fs_none' b z (List.mem_range.mpr hz)
    by_cases q : r x z = true
    · exact q
    · rw [if_pos ⟨ne.symm, h2, Bool.eq_false_iff.mpr q⟩] at c; cases c
  · intro g
    refine fs_none fun x hx => fs_none fun y hy => ?_
    by_cases h : r x y = true
    · rw [if_pos h]
      refine fs_none fun z hz => if_neg fun c => ?_
      have := g x y z (List.mem_range.mp hx) (List.mem_range.mp hy) (List.mem_range.mp hz) h c.2.1 c.1.symm
      rw [c.2.2] at this; cases this
    · rw [if_neg h]
/-- through one number in between -/
def timesR (n : Nat) (r s : Rel) : Rel := fun x z => decide (x ≠ z) && (List.range n).any fun y => r x y && s y z
def orR (r s : Rel) : Rel := fun x y => r x y || s x y
def andR (r s : Rel) : Rel := fun x y => r x y && s x y
def addR (r : Rel) (a b : Nat) : Rel := fun x y => r x y || decide (x = a ∧ y = b)
/-- by a list -/
def ofL (l : List (Nat × Nat)) : Rel := fun x y => decide ((x, y) ∈ l)
theorem ofL_prs {n : Nat} {r : Rel} {x y : Nat} (hx : x < n) (hy : y < n) : ofL (prs n r) x y = r x y := by
  unfold ofL
  rw [Bool.eq_iff_iff, decide_eq_true_iff, mem_prs]
  exact ⟨fun h => h.2.2, fun h => ⟨hx, hy, h⟩⟩
theorem irr_congr {n : Nat} {r s : Rel} (h : ∀ x y, x < n → y < n → r x y = s x y) (i : Irr n r) : Irr n s := fun x y hx hy e => i x y hx hy (by rw [h x y hx hy]; exact e)
theorem gap_and {n : Nat} {r s : Rel} (g : NoGap n r) (h : NoGap n s) : NoGap n (andR r s) := fun x y z hx hy hz h1 h2 ne => by
  unfold andR at *
  rw [Bool.and_eq_true] at *
  exact ⟨g x y z hx hy hz h1.1 h2.1 ne, h x y z hx hy hz h1.2 h2.2 ne⟩
/-- pairs as data -/
def pairN (p : Nat × Nat) : PyData := .tuple [.int p.1, .int p.2]
def triN : Option Tri → PyData
  | none => .none
  | some (x, y, z) => .tuple [.int x, .int y, .int z]
theorem prs_len_add {n : Nat} {r : Rel} {a b : Nat} (ha : a < n) (hb : b < n) (h : r a b = false) : (prs n r).length < (prs n (addR r a b)).length := by
  have sub : ∀ l : List Nat, ((l.filter (r a)).length ≤ (l.filter (addR r a b a)).length) ∧ (b ∈ l → (l.filter (r a)).length < (l.filter (addR r a b a)).length) := by
    intro l
    induction l with
    | nil => exact ⟨Nat.le_refl _, fun h => nomatch h⟩
    | cons c l ih =>
      have e : addR r a b a c = (r a c || decide (c = b)) := by unfold addR; congr 1; simp
      by_cases q : c = b
      · subst q
        rw [List.filter_cons_of_neg (by rw [h]; decide), List.filter_cons_of_pos (by rw [e, h]; simp), List.length_cons]
        exact ⟨by have := ih.1; omega, fun _ => by have := ih.1; omega⟩
      · by_cases w : r a c = true
        · rw [List.filter_cons_of_pos w, List.filter_cons_of_pos (by rw [e, w]; rfl), List.length_cons, List.length_cons]
          exact ⟨by have := ih.1; omega, fun hb => by have := ih.2 ((List.mem_cons.mp hb).resolve_left fun z => q z.symm); omega⟩
        · rw [List.filter_cons_of_neg w, List.filter_cons_of_neg (by rw [e, Bool.eq_false_iff.mpr w]; simp [q])]
          exact ⟨ih.1, fun hb => ih.2 ((List.mem_cons.mp hb).resolve_left fun z => q z.symm)⟩
  have oth : ∀ x, x ≠ a → addR r a b x = r x := fun x hx => by funext y; unfold addR; simp [hx]
  have go : ∀ l : List Nat, (l.flatMap fun x => ((List.range n).filter (r x)).map fun y => (x, y)).length ≤ (l.flatMap fun x => ((List.range n).filter (addR r a b x)).map fun y => (x, y)).length ∧
      (a ∈ l → (l.flatMap fun x => ((List.range n).filter (r x)).map fun y => (x, y)).length < (l.flatMap fun x => ((List.range n).filter (addR r a b x)).map fun y => (x, y)).length) := by
    intro l
    induction l with
    | nil => exact ⟨Nat.le_refl _, fun h => nomatch h⟩
    | cons c l ih =>
      rw [List.flatMap_cons, List.flatMap_cons, List.length_append, List.length_append, List.length_map, List.length_map]
      by_cases q : c = a
      · subst q
        have s := (sub (List.range n)).2 (List.mem_range.mpr hb)
        exact ⟨by have := ih.1; omega, fun _ => by have := ih.1; omega⟩
      · rw [oth c q]
        exact ⟨by have := ih.1; omega, fun hb => by have := ih.2 ((List.mem_cons.mp hb).resolve_left fun z => q z.symm); omega⟩
  exact (go (List.range n)).2 (List.mem_range.mpr ha)
/-! rows of pairs, one after another -/
def rowTo (r : Rel) (x j : Nat) : List (Nat × Nat) := ((List.range j).filter (r x)).map fun y => (x, y)
def prsTo (n : Nat) (r : Rel) (i : Nat) : List (Nat × Nat) := (List.range i).flatMap fun x => rowTo r x n
theorem prsTo_n (n : Nat) (r : Rel) : prsTo n r n = prs n r := rfl
theorem prsTo_0 (n : Nat) (r : Rel) : prsTo n r 0 = [] := rfl
theorem prsTo_succ (n : Nat) (r : Rel) (i : Nat) : prsTo n r (i + 1) = prsTo n r i ++ rowTo r i n := by
  unfold prsTo
  rw [List.range_succ, List.flatMap_append, List.flatMap_cons, List.flatMap_nil, List.append_nil]
theorem rowTo_0 (r : Rel) (x : Nat) : rowTo r x 0 = [] := rfl
theorem rowTo_T {r : Rel} {x j : Nat} (h : r x j = true) : rowTo r x (j + 1) = rowTo r x j ++ [(x, j)] := by
  unfold rowTo
  have e : [j].filter (r x) = [j] := List.filter_cons_of_pos h
  rw [List.range_succ, List.filter_append, e, List.map_append]; rfl
theorem rowTo_F {r : Rel} {x j : Nat} (h : r x j = false) : rowTo r x (j + 1) = rowTo r x j := by
  unfold rowTo
  have e : [j].filter (r x) = [] := List.filter_cons_of_neg (by rw [h]; decide)
  rw [List.range_succ, List.filter_append, e, List.append_nil]
theorem rowTo_len (r : Rel) (x j : Nat) : (rowTo r x j).length ≤ j := by
  unfold rowTo
  rw [List.length_map]
  exact Nat.le_trans (List.length_filter_le ..) (by rw [List.length_range]; exact Nat.le_refl _)
theorem prsTo_len (n : Nat) (r : Rel) : ∀ i, (prsTo n r i).length ≤ i * n
  | 0 => Nat.zero_le _
  | i + 1 => by
    rw [prsTo_succ, List.length_append, Nat.succ_mul]
    have := prsTo_len n r i
    have := rowTo_len r i n
    omega
theorem fs_at {α β : Type} {g : α → Option β} {b : β} : ∀ {l : List α} {i : Nat} {x : α}, l[i]? = some x → (∀ y ∈ l.take i, g y = none) → g x = some b → l.findSome? g = some b
  | [], _, _, h, _, _ => by simp at h
  | a :: l, 0, x, h, _, e => by
    rw [List.getElem?_cons_zero] at h
    cases h
    rw [List.findSome?_cons, e]
  | a :: l, i + 1, x, h, n, e => by
    rw [List.getElem?_cons_succ] at h
    rw [List.findSome?_cons, n a (by rw [List.take_succ_cons]; exact List.mem_cons_self ..)]
    exact fs_at h (fun y hy => n y (by rw [List.take_succ_cons]; exact List.mem_cons_of_mem _ hy)) e
/-! the program's closure -/
structure War (n : Nat) (r : Rel) (y x z : Nat) (M : Rel) : Prop where
  low : ∀ a b, a < n → b < n → Pa r y a b = true → M a b = true
  high : ∀ a b, a < n → b < n → M a b = true → Pa r n a b = true
  done : ∀ a b, a < n → b < n → (a < x ∨ (a = x ∧ b < z)) → Pa r (y + 1) a b = true → M a b = true
theorem War.start {n : Nat} {r M : Rel} (h : ∀ a b, a < n → b < n → M a b = r a b) : War n r 0 0 0 M := ⟨fun a b ha hb p => by rw [h a b ha hb]; exact p, fun a b ha hb m => P_mono (Nat.zero_le n) (by rw [h a b ha hb] at m; exact m), fun a b _ _ q => by omega⟩
theorem War.step {n : Nat} {r M : Rel} {y x z : Nat} (w : War n r y x z M) (hy : y < n) (hx : x < n) (hz : z < n) : War n r y x (z + 1) (if M x y = true ∧ M y z = true then (fun a b => M a b || decide (a = x ∧ b = z)) else M) := by
  by_cases c : M x y = true ∧ M y z = true
  · rw [if_pos c]
    refine ⟨fun a b ha hb p => by show (_ || _) = true; rw [w.low a b ha hb p]; rfl, fun a b ha hb m => ?_, fun a b ha hb q p => ?_⟩
    · have m : (M a b || decide (a = x ∧ b = z)) = true := m
      rw [Bool.or_eq_true, decide_eq_true_iff] at m
      rcases m with m | ⟨rfl, rfl⟩
      · exact w.high a b ha hb m
      · exact P_tr hy (w.high _ _ ha hy c.1) (w.high _ _ hy hb c.2)
    · show (M a b || decide (a = x ∧ b = z)) = true
      rw [Bool.or_eq_true, decide_eq_true_iff]
      by_cases e : a = x ∧ b = z
      · exact .inr e
      · exact .inl (w.done a b ha hb (by omega) p)
  · rw [if_neg c]
    refine ⟨w.low, w.high, fun a b ha hb q p => ?_⟩
    by_cases e : a = x ∧ b = z
    · obtain ⟨rfl, rfl⟩ := e
      rcases P_succ p with p | ⟨p1, p2⟩
      · exact w.low _ _ ha hb p
      · exact absurd ⟨w.low _ _ ha hy p1, w.low _ _ hy hb p2⟩ c
    · exact w.done a b ha hb (by omega) p
theorem War.row {n : Nat} {r M : Rel} {y x : Nat} (w : War n r y x n M) : War n r y (x + 1) 0 M := ⟨w.low, w.high, fun a b ha hb q p => w.done a b ha hb (by omega) p⟩
theorem War.stage {n : Nat} {r M : Rel} {y : Nat} (w : War n r y n 0 M) : War n r (y + 1) 0 0 M := ⟨fun a b ha hb p => w.done a b ha hb (.inl ha) p, w.high, fun a b _ _ q => by omega⟩
theorem War.fin {n : Nat} {r M : Rel} (w : War n r n 0 0 M) {a b : Nat} (ha : a < n) (hb : b < n) : M a b = Pa r n a b := by
  rw [Bool.eq_iff_iff]
  exact ⟨w.high a b ha hb, w.low a b ha hb⟩

/-! ### pairs and relations as objects -/
abbrev I2 := Int × Int
def nI (p : Nat × Nat) : I2 := (p.1, p.2)
/-- a tuple of two ints in the heap -/
def PrA (W : Wd) (H : Hp) (v : V) (p : I2) : Prop := ∃ b, v = .ref b ∧ At W H b (.tup [.int p.1, .int p.2])
theorem PrA.ex {W : Wd} {H H' : Hp} (e : Ex W H H') {v : V} {p : I2} (h : PrA W H v p) : PrA W H' v p := let ⟨b, h1, h2⟩ := h; ⟨b, h1, e.at_ h2⟩
abbrev PrAs (W : Wd) (H : Hp) (xs : List V) (l : List I2) : Prop := F2 (PrA W H) xs l
theorem PrAs.ex {W : Wd} {H H' : Hp} (e : Ex W H H') {xs : List V} {l : List I2} (h : PrAs W H xs l) : PrAs W H' xs l := h.mono fun _ _ => PrA.ex e
theorem PrAs.hide {W : Wd} {H : Hp} {D : Addr} {acc : List V} {xs : List V} {l : List I2} (h : PrAs W H xs l) (i : W.iv H) (hD : At W H D (.lst acc)) : PrAs W (Lw.hide D H) xs l := h.mono fun _ _ ⟨b, h1, h2⟩ => ⟨b, h1, h2.hide (h2.ne hD fun z => by cases z) i hD⟩
theorem PrA.hide {W : Wd} {H : Hp} {D : Addr} {acc : List V} {v : V} {p : I2} (h : PrA W H v p) (i : W.iv H) (hD : At W H D (.lst acc)) : PrA W (Lw.hide D H) v p := let ⟨b, h1, h2⟩ := h; ⟨b, h1, h2.hide (h2.ne hD fun z => by cases z) i hD⟩
def pairI (p : I2) : PyData := .tuple [.int p.1, .int p.2]
theorem PrA.dw {K : PySem.W.Frag} {W : Wd} {H : Hp} {v : V} {p : I2} (h : PrA W H v p) : DW K W H v (pairI p) := by
  obtain ⟨b, rfl, h⟩ := h
  exact .tup (.inl h) (.cons (.int _) (.cons (.int _) .nil))
theorem PrAs.dw {K : PySem.W.Frag} {W : Wd} {H : Hp} : ∀ {xs : List V} {l : List I2}, PrAs W H xs l → DWs K W H xs (l.map pairI)
  | _, _, .nil => .nil
  | _, _, .cons a t => .cons (PrA.dw a) (PrAs.dw t)
theorem eqv_int (a b : Int) : PyData.eqv (.int a) (.int b) = decide (a = b) := by
  simp only [PyData.eqv]
  exact Bool.beq_eq_decide_eq a b
theorem eqv_pair (p q : I2) : PyData.eqv (pairI p) (pairI q) = decide (p = q) := by
  obtain ⟨a, b⟩ := p
  obtain ⟨c, d⟩ := q
  unfold pairI
  rw [PyData.eqv, PyData.eqvAll, PyData.eqvAll, PyData.eqvAll, eqv_int, eqv_int, Bool.and_true, Bool.eq_iff_iff, Bool.and_eq_true, decide_eq_true_iff, decide_eq_true_iff, decide_eq_true_iff]
  exact ⟨fun h => by have h1 : a = c := h.1; have h2 : b = d := h.2; rw [h1, h2], fun h => by cases h; exact ⟨rfl, rfl⟩⟩
theorem eqv_pairs : ∀ l m : List I2, PyData.eqvAll (l.map pairI) (m.map pairI) = decide (l = m)
  | [], [] => rfl
  | [], _ :: _ => rfl
  | _ :: _, [] => rfl
  | p :: l, q :: m => by
    rw [List.map_cons, List.map_cons, PyData.eqvAll, eqv_pair, eqv_pairs l m, Bool.eq_iff_iff, Bool.and_eq_true, decide_eq_true_iff, decide_eq_true_iff, decide_eq_true_iff]
    exact ⟨fun h => by rw [h.1, h.2], fun h => by cases h; exact ⟨rfl, rfl⟩⟩
theorem eqv_lst (l m : List I2) : PyData.eqv (.list (l.map pairI)) (.list (m.map pairI)) = decide (l = m) := by rw [PyData.eqv]; exact eqv_pairs l m
theorem eqv_tpl (l m : List I2) : PyData.eqv (.tuple (l.map pairI)) (.tuple (m.map pairI)) = decide (l = m) := by rw [PyData.eqv]; exact eqv_pairs l m
theorem any_pairs (p : I2) : ∀ l : List I2, ((l.map pairI).any fun z => PyData.eqv z (pairI p)) = decide (p ∈ l)
  | [] => by simp
  | q :: l => by
    rw [List.map_cons, List.any_cons, any_pairs p l, eqv_pair, Bool.eq_iff_iff, Bool.or_eq_true, decide_eq_true_iff, decide_eq_true_iff, decide_eq_true_iff, List.mem_cons]
    exact ⟨fun h => h.imp Eq.symm id, fun h => h.imp Eq.symm id⟩
theorem can_pairI (p : I2) : PyData.canLay0 (pairI p) = true ∧ PyData.depth (pairI p) ≤ 2 := ⟨rfl, by show max 0 (max 0 0) + 1 ≤ 2; decide⟩
theorem can_alls : ∀ {ds : List PyData}, (∀ d ∈ ds, PyData.canLay0 d = true ∧ PyData.depth d ≤ 2) → PyData.canLayAll0 ds = true ∧ PyData.depthAll ds ≤ 2
  | [], _ => ⟨by rw [PyData.canLayAll0], by rw [PyData.depthAll]; omega⟩
  | d :: ds, h => by
    obtain ⟨a, b⟩ := h d (List.mem_cons_self ..)
    obtain ⟨c, e⟩ := can_alls fun x m => h x (List.mem_cons_of_mem _ m)
    rw [PyData.canLayAll0, PyData.depthAll, a, c]
    exact ⟨rfl, by omega⟩
theorem shp_pair (p : I2) : SeqAt.shaped (pairI p) = true := by
  unfold SeqAt.shaped
  rw [(can_pairI p).1, decide_eq_true (by have := (can_pairI p).2; omega)]; rfl
theorem shp_lst (l : List I2) : SeqAt.shaped (.list (l.map pairI)) = true := by
  obtain ⟨a, b⟩ := can_alls (ds := l.map pairI) fun d hd => by obtain ⟨p, _, rfl⟩ := List.mem_map.mp hd; exact can_pairI p
  unfold SeqAt.shaped
  rw [show PyData.canLay0 (.list (l.map pairI)) = true by rw [PyData.canLay0]; exact a, PyData.depth, decide_eq_true (by omega)]; rfl
theorem shp_tpl (l : List I2) : SeqAt.shaped (.tuple (l.map pairI)) = true := by
  obtain ⟨a, b⟩ := can_alls (ds := l.map pairI) fun d hd => by obtain ⟨p, _, rfl⟩ := List.mem_map.mp hd; exact can_pairI p
  unfold SeqAt.shaped
  rw [show PyData.canLay0 (.tuple (l.map pairI)) = true by rw [PyData.canLay0]; exact a, PyData.depth, decide_eq_true (by omega)]; rfl
/-- the pairs of a relation, as ints -/
def prI (n : Nat) (r : Rel) : List I2 := (prs n r).map nI
theorem nI_inj {p q : Nat × Nat} (h : nI p = nI q) : p = q := by
  obtain ⟨a, b⟩ := p
  obtain ⟨c, d⟩ := q
  unfold nI at h
  simp only [Prod.mk.injEq] at h ⊢
  omega
theorem mem_prI {n : Nat} {r : Rel} {x y : Nat} : ((x : Int), (y : Int)) ∈ prI n r ↔ x < n ∧ y < n ∧ r x y = true := by
  unfold prI
  rw [List.mem_map]
  constructor
  · rintro ⟨p, hp, e⟩
    have := nI_inj (p := p) (q := (x, y)) e
    subst this
    exact mem_prs.mp hp
  · intro h
    exact ⟨(x, y), mem_prs.mpr h, rfl⟩
theorem prI_nat {n : Nat} {r : Rel} {p : I2} (h : p ∈ prI n r) : ∃ x y : Nat, p = ((x : Int), (y : Int)) ∧ x < n ∧ y < n ∧ r x y = true := by
  obtain ⟨q, hq, rfl⟩ := List.mem_map.mp h
  exact ⟨q.1, q.2, rfl, mem_prs.mp hq⟩
theorem prI_len (n : Nat) (r : Rel) : (prI n r).length ≤ n * n := by unfold prI; rw [List.length_map]; exact prs_len n r
theorem map_inj {l m : List (Nat × Nat)} : l.map nI = m.map nI ↔ l = m := by
  constructor
  · intro h
    induction l generalizing m with
    | nil => cases m with
      | nil => rfl
      | cons _ _ => cases h
    | cons a l ih => cases m with
      | nil => cases h
      | cons b m =>
        rw [List.map_cons, List.map_cons] at h
        injection h with h1 h2
        rw [nI_inj h1, ih h2]
  · intro h; rw [h]
structure ReachAt (K : PySem.W.Frag) (C : Addr) (W : Wd) (H : Hp) (p : Addr) (n : Nat) (r : Rel) : Prop where
  ex : ∃ (dx a : Addr) (xs : List V), At W H p (.ins C dx [("size", .int n), ("arrows", .ref a)]) ∧ At W H a (.tup xs) ∧ PrAs W H xs (prI n r)
  n8 : n ≤ 8
  irr : Irr n r
theorem ReachAt.mono {K : PySem.W.Frag} {C : Addr} {W : Wd} {H H' : Hp} {p : Addr} {n : Nat} {r : Rel} (e : Ex W H H') (h : ReachAt K C W H p n r) : ReachAt K C W H' p n r := by
  obtain ⟨dx, a, xs, h1, h2, h3⟩ := h.ex
  exact ⟨⟨dx, a, xs, e.at_ h1, e.at_ h2, h3.ex e⟩, h.n8, h.irr⟩
theorem ReachAt.congr {K : PySem.W.Frag} {C : Addr} {W : Wd} {H : Hp} {p : Addr} {n : Nat} {r s : Rel} (h : ReachAt K C W H p n r) (e : ∀ x y, x < n → y < n → r x y = s x y) : ReachAt K C W H p n s := by
  obtain ⟨dx, a, xs, h1, h2, h3⟩ := h.ex
  exact ⟨⟨dx, a, xs, h1, h2, by unfold prI at h3 ⊢; rw [← prs_congr e]; exact h3⟩, h.n8, irr_congr e h.irr⟩
theorem ReachAt.keep {K : PySem.W.Frag} {C : Addr} {W : Wd} {H H1 : Hp} {p : Addr} {n : Nat} {r : Rel} (h : ReachAt K C W H p n r) (k : ∀ q o, (∀ kvs : List (List Key × V), o ≠ .dT kvs) → At W H q o → At W H1 q o) : ReachAt K C W H1 p n r := by
  obtain ⟨dx, a, xs, h1, h2, h3⟩ := h.ex
  exact ⟨⟨dx, a, xs, k _ _ (fun _ z => by cases z) h1, k _ _ (fun _ z => by cases z) h2, h3.mono fun _ _ ⟨b, w1, w2⟩ => ⟨b, w1, k _ _ (fun _ z => by cases z) w2⟩⟩, h.n8, h.irr⟩
/-- pairs that a relation may be made of -/
def GoodL (n : Nat) (l : List I2) : Prop := ∀ p ∈ l, ∃ x y : Nat, p = ((x : Int), (y : Int)) ∧ x < n ∧ y < n ∧ x ≠ y
def ofI (l : List I2) : Rel := fun x y => decide (((x : Int), (y : Int)) ∈ l)
theorem good_prI {n : Nat} {r : Rel} (i : Irr n r) : GoodL n (prI n r) := fun p hp => by
  obtain ⟨x, y, e, hx, hy, hr⟩ := prI_nat hp
  exact ⟨x, y, e, hx, hy, i x y hx hy hr⟩
theorem ofI_prI {n : Nat} {r : Rel} {x y : Nat} (hx : x < n) (hy : y < n) : ofI (prI n r) x y = r x y := by
  unfold ofI
  rw [Bool.eq_iff_iff, decide_eq_true_iff, mem_prI]
  exact ⟨fun h => h.2.2, fun h => ⟨hx, hy, h⟩⟩
theorem irr_ofI {n : Nat} {l : List I2} (g : GoodL n l) : Irr n (ofI l) := fun x y _ _ h => by
  obtain ⟨a, b, e, _, _, ne⟩ := g _ (of_decide_eq_true h)
  simp only [Prod.mk.injEq] at e
  omega
/-- a list or a tuple of pairs -/
def PrSeq (W : Wd) (H : Hp) (v : V) (l : List I2) : Prop := ∃ a xs, v = .ref a ∧ (At W H a (.lst xs) ∨ At W H a (.tup xs)) ∧ PrAs W H xs l
theorem PrSeq.ex {W : Wd} {H H' : Hp} {v : V} {l : List I2} (e : Ex W H H') (h : PrSeq W H v l) : PrSeq W H' v l := let ⟨a, xs, h1, h2, h3⟩ := h; ⟨a, xs, h1, h2.imp e.at_ e.at_, h3.ex e⟩
theorem PrSeq.dw {K : PySem.W.Frag} {W : Wd} {H : Hp} {v : V} {l : List I2} (h : PrSeq W H v l) : DW K W H v (.list (l.map pairI)) ∨ DW K W H v (.tuple (l.map pairI)) := by
  obtain ⟨a, xs, rfl, h, h3⟩ := h
  exact h.imp (fun h => .lst h h3.dw) fun h => .tup (.inl h) h3.dw
/-- a list of pairs -/
def RowsAt (W : Wd) (H : Hp) (a : Addr) (l : List I2) : Prop := ∃ xs, At W H a (.lst xs) ∧ PrAs W H xs l
theorem RowsAt.mono {W : Wd} {H H' : Hp} {a : Addr} {l : List I2} (e : Ex W H H') (h : RowsAt W H a l) : RowsAt W H' a l := let ⟨xs, h1, h2⟩ := h; ⟨xs, e.at_ h1, h2.ex e⟩
/-! ### promises of Reach's defs -/
def sp_is_integer (K : PySem.W.Frag) : Sp := fun vs H Q _ => ∃ (W : Wd) (v : V) (d : PyData), vs = [v] ∧ DW K W H v d ∧ Q (.bl (isI d)) H
theorem cl_is_integer {K : PySem.W.Frag} {W : Wd} {v : V} {d : PyData} {H : Hp} {Q : VK} {E : XK} (h : DW K W H v d) (k : Q (.bl (isI d)) H) : sp_is_integer K ([v] ++ []) H Q E := ⟨W, v, d, rfl, h, k⟩
theorem isI_F {d : PyData} (h : isIB d = true) : isI d = !isB d := by cases d <;> first | rfl | cases h
theorem isI_F2 {d : PyData} (h : isIB d = false) : isI d = false := by cases d <;> first | rfl | cases h
theorem cl_isint {K : PySem.W.Frag} {i : Int} {H : Hp} {Q : VK} {E : XK} (k : Q (.bl true) H) : sp_is_integer K ([.int i] ++ []) H Q E := ⟨W0, _, _, rfl, .int i, k⟩
def sp_is_row (K : PySem.W.Frag) : Sp := fun vs H Q _ => ∃ (W : Wd) (v : V) (d : PyData), vs = [v] ∧ W.iv H ∧ DW K W H v d ∧ ∀ H', Ex W H H' → Q (.bl (isRow d)) H'
theorem cl_is_row {K : PySem.W.Frag} {W : Wd} {v : V} {d : PyData} {H : Hp} {Q : VK} {E : XK} (i : W.iv H) (h : DW K W H v d) (k : ∀ H', Ex W H H' → Q (.bl (isRow d)) H') : sp_is_row K ([v] ++ []) H Q E := ⟨W, v, d, rfl, i, h, k⟩
def sp_is_two (K : PySem.W.Frag) : Sp := fun vs H Q _ => ∃ (W : Wd) (v : V) (p : I2), vs = [v] ∧ PrA W H v p ∧ Q (.bl true) H
def sp_is_pair (K : PySem.W.Frag) : Sp := fun vs H Q _ => ∃ (W : Wd) (v : V) (p : I2) (n : Nat), vs = [v, .int n] ∧ W.iv H ∧ PrA W H v p ∧ (∃ x y : Nat, p = ((x : Int), (y : Int)) ∧ x < n ∧ y < n ∧ x ≠ y) ∧ ∀ H', Ex W H H' → Q (.bl true) H'
def sp_check_sizes (K : PySem.W.Frag) (C : Addr) : Sp := fun vs H Q _ => ∃ (W : Wd) (p q : Addr) (n : Nat) (r s : Rel), vs = [.ref p, .ref q] ∧ ReachAt K C W H p n r ∧ ReachAt K C W H q n s ∧ Q .non H
def sp_Reach__init (K : PySem.W.Frag) (C : Addr) : Sp := fun vs H Q _ => ∃ (W : Wd) (H0 : Hp) (x dx : Addr) (n : Nat) (v : V) (l : List I2), vs = [.ref x, .int n, v] ∧ Ex W H0 H ∧ H0 x = none ∧ At W H x (.ins C dx []) ∧ n ≤ 8 ∧ PrSeq W H0 v l ∧ GoodL n l ∧ l.length ≤ 10000 ∧ ∀ H', Ex W H0 H' → ReachAt K C W H' x n (ofI l) → Q .non H'
def sp_Reach__contains (K : PySem.W.Frag) (C : Addr) : Sp := fun vs H Q _ => ∃ (W : Wd) (p : Addr) (v : V) (n : Nat) (r : Rel) (q : I2), vs = [.ref p, v] ∧ ReachAt K C W H p n r ∧ PrA W H v q ∧ Q (.bl (decide (q ∈ prI n r))) H
def sp_Reach__len (K : PySem.W.Frag) (C : Addr) : Sp := fun vs H Q _ => ∃ (W : Wd) (p : Addr) (n : Nat) (r : Rel), vs = [.ref p] ∧ ReachAt K C W H p n r ∧ Q (.int (prI n r).length) H
def sp_Reach__eq (K : PySem.W.Frag) (C : Addr) : Sp := fun vs H Q _ => ∃ (W : Wd) (p q : Addr) (n : Nat) (r s : Rel), vs = [.ref p, .ref q] ∧ ReachAt K C W H p n r ∧ ReachAt K C W H q n s ∧ Q (.bl (decide (prI n r = prI n s))) H
def spBin (K : PySem.W.Frag) (C : Addr) (op : Nat → Rel → Rel → Rel) : Sp := fun vs H Q _ => ∃ (W : Wd) (p q : Addr) (n : Nat) (r s : Rel), vs = [.ref p, .ref q] ∧ W.iv H ∧ ReachAt K C W H p n r ∧ ReachAt K C W H q n s ∧ ∀ t H', Ex W H H' → ReachAt K C W H' t n (op n r s) → Q (.ref t) H'
def sp_Reach__or (K : PySem.W.Frag) (C : Addr) : Sp := spBin K C fun _ => orR
def sp_Reach__and (K : PySem.W.Frag) (C : Addr) : Sp := spBin K C fun _ => andR
def sp_Reach__mul (K : PySem.W.Frag) (C : Addr) : Sp := spBin K C timesR
def sp_Reach_pairs (K : PySem.W.Frag) (C : Addr) : Sp := fun vs H Q _ => ∃ (W : Wd) (p : Addr) (n : Nat) (r : Rel), vs = [.ref p] ∧ ReachAt K C W H p n r ∧ ∀ a xs, At W H a (.tup xs) → PrAs W H xs (prI n r) → Q (.ref a) H
def sp_Reach_closed (K : PySem.W.Frag) (C : Addr) : Sp := fun vs H Q _ => ∃ (W : Wd) (p : Addr) (n : Nat) (r : Rel), vs = [.ref p] ∧ W.iv H ∧ ReachAt K C W H p n r ∧ ∀ t H', Ex W H H' → ReachAt K C W H' t n (clo n r) → Q (.ref t) H'
def sp_Reach_gap (K : PySem.W.Frag) (C : Addr) : Sp := fun vs H Q _ => ∃ (W : Wd) (p : Addr) (n : Nat) (r : Rel), vs = [.ref p] ∧ W.iv H ∧ ReachAt K C W H p n r ∧ ∀ v H', Ex W H H' → DW K W H' v (triN (gapL n r)) → Q v H'
theorem new_insR {W : Wd} {H : Hp} {C x dx : Addr} (i : W.iv H) (hx : H x = none) (hd : H dx = none) (ne : dx ≠ x) : Ex W H (upd (upd H dx (.own x)) x (.ins C dx [])) ∧ At W (upd (upd H dx (.own x)) x (.ins C dx [])) x (.ins C dx []) := by
  have e1 : Ex W H (upd H dx (.own x)) := Ex.new i hd
  have n1 : (upd H dx (.own x)) x = none := by rw [upd_ne (Ne.symm ne)]; exact hx
  exact ⟨e1.trans (Ex.new e1.iv n1), At.new e1.iv n1⟩
/-- Reach(n, v) -/
theorem mk_reach {K : PySem.W.Frag} {C : Addr} {W : Wd} {H : Hp} {n : Nat} {v : V} {l : List I2} {Q : VK} {E : XK} (i : W.iv H) (h8 : n ≤ 8) (h : PrSeq W H v l) (g : GoodL n l) (hl : l.length ≤ 10000) (k : ∀ x H', Ex W H H' → ReachAt K C W H' x n (ofI l) → Q (.ref x) H') :
    MakeG C (sp_Reach__init K C) E Q [.int n, v] H := fun x dx hx hd ne => by
  obtain ⟨e, a⟩ := new_insR (C := C) i hx hd ne
  exact ⟨W, H, x, dx, n, v, l, rfl, e, hx, a, h8, h, g, hl, fun H' e' r => ⟨rfl, k x H' e' r⟩⟩
/-! ### what the operators make -/
theorem good_app {n : Nat} {l m : List I2} (h : GoodL n l) (h2 : GoodL n m) : GoodL n (l ++ m) := fun p hp => (List.mem_append.mp hp).elim (h p) (h2 p)
theorem good_sub {n : Nat} {l m : List I2} (h : GoodL n l) (s : ∀ p ∈ m, p ∈ l) : GoodL n m := fun p hp => h p (s p hp)
theorem ofI_or {n : Nat} {r s : Rel} {x y : Nat} (hx : x < n) (hy : y < n) : ofI (prI n r ++ prI n s) x y = orR r s x y := by
  unfold ofI orR
  rw [Bool.eq_iff_iff, decide_eq_true_iff, List.mem_append, mem_prI, mem_prI, Bool.or_eq_true]
  exact ⟨fun h => h.imp (fun q => q.2.2) fun q => q.2.2, fun h => h.imp (fun q => ⟨hx, hy, q⟩) fun q => ⟨hx, hy, q⟩⟩
theorem ofI_and {n : Nat} {r s : Rel} {x y : Nat} (hx : x < n) (hy : y < n) : ofI ((prI n r).filter fun p => decide (p ∈ prI n s)) x y = andR r s x y := by
  unfold ofI andR
  rw [Bool.eq_iff_iff, decide_eq_true_iff, List.mem_filter, decide_eq_true_iff, mem_prI, mem_prI, Bool.and_eq_true]
  exact ⟨fun h => ⟨h.1.2.2, h.2.2.2⟩, fun h => ⟨⟨hx, hy, h.1⟩, hx, hy, h.2⟩⟩
def mulF (n : Nat) (s : Rel) (p : I2) : List I2 := ((prI n s).filter fun q => decide (q.1 = p.2) && decide (p.1 ≠ q.2)).map fun q => (p.1, q.2)
theorem mem_mul {n : Nat} {r s : Rel} {t : I2} : t ∈ (prI n r).flatMap (mulF n s) ↔ ∃ x y z : Nat, t = ((x : Int), (z : Int)) ∧ x < n ∧ y < n ∧ z < n ∧ r x y = true ∧ s y z = true ∧ x ≠ z := by
  rw [List.mem_flatMap]
  constructor
  · rintro ⟨p, hp, ht⟩
    obtain ⟨q, hq, rfl⟩ := List.mem_map.mp ht
    obtain ⟨hq1, hq2⟩ := List.mem_filter.mp hq
    obtain ⟨x, y, rfl, hx, hy, hr⟩ := prI_nat hp
    obtain ⟨y', z, rfl, hy', hz, hs⟩ := prI_nat hq1
    rw [Bool.and_eq_true, decide_eq_true_iff, decide_eq_true_iff] at hq2
    obtain rfl : y' = y := Int.ofNat.inj hq2.1
    exact ⟨x, y', z, rfl, hx, hy, hz, hr, hs, fun e => hq2.2 (by rw [e])⟩
  · rintro ⟨x, y, z, rfl, hx, hy, hz, hr, hs, ne⟩
    refine ⟨((x : Int), (y : Int)), mem_prI.mpr ⟨hx, hy, hr⟩, List.mem_map.mpr ⟨((y : Int), (z : Int)), List.mem_filter.mpr ⟨mem_prI.mpr ⟨hy, hz, hs⟩, ?_⟩, rfl⟩⟩
    rw [Bool.and_eq_true, decide_eq_true_iff, decide_eq_true_iff]
    exact ⟨rfl, fun e => ne (Int.ofNat.inj e)⟩
theorem good_mul {n : Nat} {r s : Rel} : GoodL n ((prI n r).flatMap (mulF n s)) := fun t ht => by
  obtain ⟨x, y, z, e, hx, _, hz, _, _, ne⟩ := mem_mul.mp ht
  exact ⟨x, z, e, hx, hz, ne⟩
theorem ofI_mul {n : Nat} {r s : Rel} {x y : Nat} (hx : x < n) (hy : y < n) : ofI ((prI n r).flatMap (mulF n s)) x y = timesR n r s x y := by
  unfold ofI timesR
  rw [Bool.eq_iff_iff, decide_eq_true_iff, mem_mul, Bool.and_eq_true, decide_eq_true_iff, List.any_eq_true]
  constructor
  · rintro ⟨a, b, c, e, ha, hb, hc, h1, h2, ne⟩
    simp only [Prod.mk.injEq] at e
    obtain rfl : x = a := by omega
    obtain rfl : y = c := by omega
    exact ⟨ne, b, List.mem_range.mpr hb, by rw [h1, h2]; rfl⟩
  · rintro ⟨ne, b, hb, h⟩
    rw [Bool.and_eq_true] at h
    exact ⟨x, b, y, rfl, hx, List.mem_range.mp hb, hy, h.1, h.2, ne⟩
theorem n64 {n : Nat} (h : n ≤ 8) (r : Rel) : (prI n r).length ≤ 64 := Nat.le_trans (prI_len n r) (Nat.mul_le_mul h h)
theorem flat_len {α β : Type} (f : α → List β) (m : Nat) : ∀ l : List α, (∀ x ∈ l, (f x).length ≤ m) → (l.flatMap f).length ≤ l.length * m
  | [], _ => Nat.zero_le _
  | a :: l, h => by
    have h1 := h a (List.mem_cons_self ..)
    have h2 := flat_len f m l fun x hx => h x (List.mem_cons_of_mem _ hx)
    rw [List.flatMap_cons, List.length_append, List.length_cons, Nat.succ_mul]; omega
theorem mul_len {n : Nat} (h : n ≤ 8) (r s : Rel) : ((prI n r).flatMap (mulF n s)).length ≤ 4096 := by
  refine Nat.le_trans (flat_len _ 64 _ fun x _ => ?_) (Nat.mul_le_mul (n64 h r) (Nat.le_refl 64))
  unfold mulF
  rw [List.length_map]
  exact Nat.le_trans (List.length_filter_le ..) (n64 h s)
theorem PrAs.keepT {W : Wd} {H H1 : Hp} (k : ∀ q us, At W H q (.tup us) → At W H1 q (.tup us)) {xs : List V} {l : List I2} (h : PrAs W H xs l) : PrAs W H1 xs l := h.mono fun _ _ ⟨b, h1, h2⟩ => ⟨b, h1, k _ _ h2⟩
/-- a list of lists of bools of our own (unknown at H0) -/
structure Grid (W : Wd) (H0 H : Hp) (L : Addr) (ls : List Addr) (n : Nat) (M : Rel) : Prop where
  l : At W H L (.lst (ls.map V.ref))
  len : ls.length = n
  rows : ∀ (i : Nat) (a : Addr), ls[i]? = some a → At W H a (.lst ((List.range n).map fun j => V.bl (M i j))) ∧ H0 a = none
  nd : ∀ (i j : Nat) (a : Addr), ls[i]? = some a → ls[j]? = some a → i = j
theorem Grid.mono {W : Wd} {H0 H H' : Hp} {L : Addr} {ls : List Addr} {n : Nat} {M : Rel} (g : Grid W H0 H L ls n M) (e : Ex W H H') : Grid W H0 H' L ls n M := ⟨e.at_ g.l, g.len, fun i a h => ⟨e.at_ (g.rows i a h).1, (g.rows i a h).2⟩, g.nd⟩
theorem Grid.at_ {W : Wd} {H0 H : Hp} {L : Addr} {ls : List Addr} {n : Nat} {M : Rel} (g : Grid W H0 H L ls n M) {i : Nat} (hi : i < n) : ∃ a, ls[i]? = some a ∧ atI (ls.map V.ref) (i : Int) = some (.ref a) ∧ At W H a (.lst ((List.range n).map fun j => V.bl (M i j))) ∧ H0 a = none := by
  have h : i < ls.length := by rw [g.len]; exact hi
  have e := List.getElem?_eq_getElem h
  refine ⟨ls[i], e, at_in (by omega) (by rw [Int.toNat_natCast, List.getElem?_map, e]; rfl), g.rows i _ e⟩
theorem row_at {n : Nat} {M : Rel} {i j : Nat} (hj : j < n) : atI ((List.range n).map fun j => V.bl (M i j)) (j : Int) = some (.bl (M i j)) := at_in (by omega) (by rw [Int.toNat_natCast, List.getElem?_map, List.getElem?_range hj]; rfl)
theorem Grid.set {W : Wd} {H0 H H2 : Hp} {L a : Addr} {ls : List Addr} {n : Nat} {M : Rel} (g : Grid W H0 H L ls n M) {x z : Nat} (hx : ls[x]? = some a) (hz : z < n) (h2 : At W H2 a (.lst (((List.range n).map fun j => V.bl (M x j)).set z (.bl true)))) (o : ∀ q u, q ≠ a → At W H q u → At W H2 q u) :
    Grid W H0 H2 L ls n (fun i j => M i j || decide (i = x ∧ j = z)) := by
  have ra := (g.rows x a hx).1
  have hxl := (List.getElem?_eq_some_iff.mp hx).1
  have nL : L ≠ a := g.l.ne ra fun e => by
    injection e with e
    have e0 := congrArg (fun l : List V => l[0]?) e
    have hl : 0 < ls.length := by omega
    have hn : 0 < n := by omega
    simp only [List.getElem?_map, List.getElem?_eq_getElem hl, List.getElem?_range hn] at e0
    cases e0
  refine ⟨o _ _ nL g.l, g.len, fun i b hb => ⟨?_, (g.rows i b hb).2⟩, g.nd⟩
  by_cases e : i = x
  · subst e
    rw [hx] at hb
    cases hb
    have el : ((List.range n).map fun j => V.bl (M i j)).set z (.bl true) = (List.range n).map fun j => V.bl (M i j || decide (i = i ∧ j = z)) := by
      apply List.ext_getElem?
      intro k
      by_cases hk : k < n
      · by_cases ek : z = k
        · subst ek
          rw [List.getElem?_set_self (by rw [List.length_map, List.length_range]; exact hk), List.getElem?_map, List.getElem?_range hk]
          simp
        · rw [List.getElem?_set_ne ek, List.getElem?_map, List.getElem?_map, List.getElem?_range hk]
          simp [Ne.symm ek]
      · rw [List.getElem?_eq_none (by rw [List.length_set, List.length_map, List.length_range]; omega), List.getElem?_eq_none (by rw [List.length_map, List.length_range]; omega)]
    rw [← el]
    exact h2
  · have nb : b ≠ a := fun q => e (g.nd i x a (q ▸ hb) hx)
    have el : ((List.range n).map fun j => V.bl (M i j || decide (i = x ∧ j = z))) = (List.range n).map fun j => V.bl (M i j) := List.map_congr_left fun j _ => by simp [e]
    rw [el]
    exact o _ _ nb (g.rows i b hb).1
theorem Grid.congr {W : Wd} {H0 H : Hp} {L : Addr} {ls : List Addr} {n : Nat} {M N : Rel} (g : Grid W H0 H L ls n M) (h : M = N) : Grid W H0 H L ls n N := h ▸ g
/-! ### the operators and methods, asked -/
section
variable {K : PySem.W.Frag} {C : Addr} {W : Wd} {H : Hp} {p q : Addr} {n : Nat} {r s : Rel} {Q : VK} {E : XK} {σ : L2.St} {op : Nat → Rel → Rel → Rel} {v : V} {u : I2}
theorem own_bin (iv : W.iv H) (hp : ReachAt K C W H p n r) (hq : ReachAt K C W H q n s) (k : ∀ t H', Ex W H H' → ReachAt K C W H' t n (op n r s) → Q (.ref t) H') : rOwnB C (spBin K C op) E (.ref p) (.ref q) H Q := by
  obtain ⟨dx, a, xs, h1, _, _⟩ := hp.ex
  obtain ⟨dy, b, ys, h2, _, _⟩ := hq.ex
  exact ⟨p, _, _, q, _, _, rfl, rfl, h1.1, h2.1, W, p, q, n, r, s, rfl, iv, hp, hq, k⟩
theorem own_eq (hp : ReachAt K C W H p n r) (hq : ReachAt K C W H q n s) (k : Q (.bl (decide (prI n r = prI n s))) H) : rOwnB C (sp_Reach__eq K C) E (.ref p) (.ref q) H Q := by
  obtain ⟨dx, a, xs, h1, _, _⟩ := hp.ex
  obtain ⟨dy, b, ys, h2, _, _⟩ := hq.ex
  exact ⟨p, _, _, q, _, _, rfl, rfl, h1.1, h2.1, W, p, q, n, r, s, rfl, hp, hq, k⟩
theorem own_in (hp : ReachAt K C W H p n r) (hv : PrA W H v u) (k : Q (.bl (decide (u ∈ prI n r))) H) : rOwnIn false C (sp_Reach__contains K C) E v (.ref p) H Q := by
  obtain ⟨dx, a, xs, h1, _, _⟩ := hp.ex
  exact ⟨p, _, _, rfl, h1.1, W, p, v, n, r, u, rfl, hp, hv, _, rfl, k⟩
theorem own_nin (hp : ReachAt K C W H p n r) (hv : PrA W H v u) (k : Q (.bl (!decide (u ∈ prI n r))) H) : rOwnIn true C (sp_Reach__contains K C) E v (.ref p) H Q := by
  obtain ⟨dx, a, xs, h1, _, _⟩ := hp.ex
  exact ⟨p, _, _, rfl, h1.1, W, p, v, n, r, u, rfl, hp, hv, _, rfl, k⟩
theorem own_len (hp : ReachAt K C W H p n r) (k : Q (.int (prI n r).length) H) : rOwnLen C (sp_Reach__len K C) E [.ref p] H Q := by
  obtain ⟨dx, a, xs, h1, _, _⟩ := hp.ex
  have := n64 hp.n8 r
  exact ⟨p, _, _, rfl, h1.1, W, p, n, r, rfl, hp, _, rfl, ⟨by omega, by omega⟩, k⟩
theorem go_pairs (hp : ReachAt K C W H p n r) (k : ∀ a xs, At W H a (.tup xs) → PrAs W H xs (prI n r) → Q (.ref a) H) : MethG C "pairs" (sp_Reach_pairs K C) E tNil σ Q (.ref p) H := by
  obtain ⟨dx, a, xs, h1, _, _⟩ := hp.ex
  exact ⟨p, _, _, rfl, h1.1, rfl, W, p, n, r, rfl, hp, k⟩
theorem go_closed (iv : W.iv H) (hp : ReachAt K C W H p n r) (k : ∀ t H', Ex W H H' → ReachAt K C W H' t n (clo n r) → Q (.ref t) H') : MethG C "closed" (sp_Reach_closed K C) E tNil σ Q (.ref p) H := by
  obtain ⟨dx, a, xs, h1, _, _⟩ := hp.ex
  exact ⟨p, _, _, rfl, h1.1, rfl, W, p, n, r, rfl, iv, hp, k⟩
theorem go_gap (iv : W.iv H) (hp : ReachAt K C W H p n r) (k : ∀ v H', Ex W H H' → DW K W H' v (triN (gapL n r)) → Q v H') : MethG C "gap" (sp_Reach_gap K C) E tNil σ Q (.ref p) H := by
  obtain ⟨dx, a, xs, h1, _, _⟩ := hp.ex
  exact ⟨p, _, _, rfl, h1.1, rfl, W, p, n, r, rfl, iv, hp, k⟩
end

/-! ### the pen (for k44) -/
structure PenIs (H : Hp) (p c : Addr) (ns : List Int) (a g s d : Int) : Prop where
  hp : H p = some (.lst [.ref c, .int a, .int g, .int s, .int d])
  hc : H c = some (.lst (ns.map V.int))
  a0 : 0 ≤ a
def WP (p : Addr) (c : Addr) : Wd where
  own _ q := q = p ∨ q = c
  iv H := ∃ ns a g s d, PenIs H p c ns a g s d
  trk := by
    rintro H q ⟨ns, a, g, s, d, B⟩ (rfl | rfl)
    · exact ⟨_, B.hp⟩
    · exact ⟨_, B.hc⟩
  loc := by
    rintro H H' ⟨ns, a, g, s, d, B⟩ h
    exact ⟨⟨ns, a, g, s, d, (h p (.inl rfl)).trans B.hp, (h c (.inr rfl)).trans B.hc, B.a0⟩, fun q hq => hq⟩
theorem ex_pen {H H2 : Hp} {p c : Addr} {ns : List Int} {a g s d a2 g2 s2 d2 : Int} (B : PenIs H p c ns a g s d) (B2 : PenIs H2 p c ns a2 g2 s2 d2) (h : ∀ q, q ≠ p → H2 q = H q) : Ex (WP p c) H H2 := by
  refine ⟨⟨_, _, _, _, _, B⟩, ⟨_, _, _, _, _, B2⟩, fun {q o} ha => ?_, fun {q o} ha => ?_⟩
  · have nb : q ≠ p := fun e => ha.2 (.inl e)
    exact ⟨(h q nb).trans ha.1, ha.2⟩
  · by_cases nb : q = p
    · exact ⟨_, nb ▸ B2.hp⟩
    · exact ⟨_, (h q nb).trans ha⟩
theorem sql_exP {K : PySem.W.Frag} {H H1 : Hp} {a : Addr} {xs : List V} (e : Ex W0 H H1) (h : SqL K H a xs) : SqL K H1 a xs := by
  rcases h with (h | ⟨o, h⟩) | h
  · exact .inl (.inl (e.at_ (W := W0) ⟨h, fun z => z⟩).1)
  · exact .inl (.inr ⟨o, (e.at_ (W := W0) ⟨h, fun z => z⟩).1⟩)
  · exact .inr h
def sp_law_pen (K : PySem.W.Frag) : Sp := fun vs H Q _ => ∃ (a : Addr) (ns : List Int), vs = [.ref a] ∧ SqL K H a (ns.map V.int) ∧ ns.length ≤ 63 ∧ ∀ p c H', (WP p c).iv H' → Q (.ref p) H'
def sp_law_draw : Sp := fun vs H Q _ => ∃ (p c : Addr) (many : Int), vs = [.ref p, .int many] ∧ 0 < many ∧ many < 1073741824 ∧ (WP p c).iv H ∧ ∀ r H', Ex (WP p c) H H' → 0 ≤ r → r < many → Q (.int r) H'
theorem cl_law_draw {p c : Addr} {many : Int} {H : Hp} {Q : VK} {E : XK} (i : (WP p c).iv H) (h1 : 0 < many) (h2 : many < 1073741824) (k : ∀ r H', Ex (WP p c) H H' → 0 ≤ r → r < many → Q (.int r) H') : sp_law_draw ([.ref p, .int many] ++ []) H Q E := ⟨p, c, many, rfl, h1, h2, i, k⟩
/-! ### the law's own reckoning -/
theorem filter_prs (n : Nat) (r : Rel) (f : Nat × Nat → Bool) : (prs n r).filter f = prs n (fun x y => r x y && f (x, y)) := by
  unfold prs
  have : ∀ l : List Nat, (l.flatMap fun x => ((List.range n).filter (r x)).map fun y => (x, y)).filter f = l.flatMap fun x => ((List.range n).filter fun y => r x y && f (x, y)).map fun y => (x, y) := by
    intro l
    induction l with
    | nil => rfl
    | cons a l ih =>
      rw [List.flatMap_cons, List.flatMap_cons, List.filter_append, ih, List.filter_map, List.filter_filter]
      congr 2
      exact List.filter_congr fun y _ => Bool.and_comm ..
  exact this _
theorem filter_prI (n : Nat) (r : Rel) (f : I2 → Bool) : (prI n r).filter f = prI n (fun x y => r x y && f ((x : Int), (y : Int))) := by
  unfold prI
  rw [List.filter_map, filter_prs]; rfl
theorem inV_intP (l : Int) (us : List Int) : inV (.int l) (us.map V.int) = decide (l ∈ us) := by
  rw [Bool.eq_iff_iff, decide_eq_true_eq]
  unfold inV
  rw [List.any_map, List.any_eq_true]
  constructor
  · rintro ⟨x, hx, e⟩
    have : l = x ∨ x = l := by
      have e' : (x == l) = true ∨ (l == x) = true := by first | exact .inl e | exact .inr e
      rcases e' with q | q
      · exact .inr (by simpa using q)
      · exact .inl (by simpa using q)
    rcases this with rfl | rfl <;> exact hx
  · intro h
    exact ⟨l, h, by show (l == l) = true; simp⟩
theorem flat_intP : ∀ us : List Int, (us.map V.int).all flatV = true
  | [] => rfl
  | _ :: us => flat_intP us
/-- what the walk has met -/
structure Met (n : Nat) (r : Rel) (x i k : Nat) (ms : List Nat) : Prop where
  nd : ms.Nodup
  lt : ∀ m ∈ ms, m < n
  x0 : x ∈ ms
  ok : ∀ m ∈ ms, m = x ∨ Pa r n x m = true
  done : ∀ (j m z : Nat), ms[j]? = some m → z < n → (j < i ∨ (j = i ∧ z < k)) → r m z = true → z ∈ ms
theorem Met.start {n : Nat} {r : Rel} {x : Nat} (hx : x < n) : Met n r x 0 0 [x] := ⟨by simp, fun m h => by rw [List.mem_singleton.mp h]; exact hx, List.mem_singleton.mpr rfl, fun m h => .inl (List.mem_singleton.mp h), fun j m z _ _ h => by omega⟩
theorem Met.skip {n : Nat} {r : Rel} {x i k m : Nat} {ms : List Nat} (M : Met n r x i k ms) (hm : ms[i]? = some m) (h : r m k = true → k ∈ ms) : Met n r x i (k + 1) ms := ⟨M.nd, M.lt, M.x0, M.ok, fun j m' z hj hz q hr => by
  by_cases e : j = i ∧ z = k
  · obtain ⟨rfl, rfl⟩ := e
    rw [hm] at hj
    cases hj
    exact h hr
  · exact M.done j m' z hj hz (by omega) hr⟩
theorem Met.add {n : Nat} {r : Rel} {x i k m : Nat} {ms : List Nat} (M : Met n r x i k ms) (hm : ms[i]? = some m) (hk : k < n) (hr : r m k = true) (hx : x < n) (nk : k ∉ ms) : Met n r x i (k + 1) (ms ++ [k]) := by
  have hmn := M.lt m (List.mem_of_getElem? hm)
  have il : i < ms.length := (List.getElem?_eq_some_iff.mp hm).1
  refine ⟨List.nodup_append.mpr ⟨M.nd, by simp, fun a ha b hb e => nk (by rw [List.mem_singleton.mp hb] at e; exact e ▸ ha)⟩, fun a ha => (List.mem_append.mp ha).elim (M.lt a) fun h => by rw [List.mem_singleton.mp h]; exact hk, List.mem_append_left _ M.x0, fun a ha => ?_, fun j m' z hj hz q hr' => ?_⟩
  · rcases List.mem_append.mp ha with ha | ha
    · exact M.ok a ha
    · rw [List.mem_singleton.mp ha]
      have p0 : Pa r n m k = true := P_mono (Nat.zero_le n) hr
      rcases M.ok m (List.mem_of_getElem? hm) with e | e
      · rw [← e]; exact .inr p0
      · exact .inr (P_tr hmn e p0)
  · have jl : j < ms.length := by omega
    rw [List.getElem?_append_left jl] at hj
    by_cases e : j = i ∧ z = k
    · rw [e.2]; exact List.mem_append_right _ (List.mem_singleton.mpr rfl)
    · exact List.mem_append_left _ (M.done j m' z hj hz (by omega) hr')
theorem Met.row {n : Nat} {r : Rel} {x i : Nat} {ms : List Nat} (M : Met n r x i n ms) : Met n r x (i + 1) 0 ms := ⟨M.nd, M.lt, M.x0, M.ok, fun j m z hj hz q hr => M.done j m z hj hz (by omega) hr⟩
theorem nodup_len : ∀ {n : Nat} {ms : List Nat}, ms.Nodup → (∀ m ∈ ms, m < n) → ms.length ≤ n
  | 0, [], _, _ => Nat.le_refl _
  | 0, m :: _, _, h => absurd (h m (List.mem_cons_self ..)) (Nat.not_lt_zero _)
  | n + 1, ms, nd, h => by
    have ih := nodup_len (n := n) (ms := ms.erase n) (nd.erase n) fun m hm => by
      have q := (nd.mem_erase_iff).mp hm
      have := h m q.2
      omega
    rw [List.length_erase] at ih
    split at ih <;> omega
theorem Met.fin {n : Nat} {r : Rel} {x i : Nat} {ms : List Nat} (M : Met n r x i 0 ms) (hx : x < n) (h : ms.length ≤ i) {z : Nat} (hz : z < n) : z ∈ ms ↔ z = x ∨ Pa r n x z = true := by
  constructor
  · exact M.ok z
  · rintro (rfl | p)
    · exact M.x0
    · have := P_least (n := n) (r := r) (Q := fun a b => b < n → a ∈ ms → b ∈ ms) (fun a b ha hb e _ hm => by
        obtain ⟨j, hj⟩ := List.getElem?_of_mem hm
        exact M.done j a b hj hb (.inl (Nat.lt_of_lt_of_le (List.getElem?_eq_some_iff.mp hj).1 h)) e) (fun a b c hb q1 q2 hc hm => q2 hc (q1 hb hm)) (Nat.le_refl n) hx hz p
      exact this hz M.x0
theorem erase_map {α β : Type} (f : α → β) : ∀ (l : List α) (k : Nat), (l.map f).eraseIdx k = (l.eraseIdx k).map f
  | [], _ => rfl
  | _ :: _, 0 => rfl
  | a :: l, k + 1 => by
    rw [List.map_cons, List.eraseIdx_cons_succ, List.eraseIdx_cons_succ, List.map_cons, erase_map f l k]

def sp_law_whole (K : PySem.W.Frag) : Sp := fun vs H Q _ => ∃ (W : Wd) (v : V) (d : PyData), vs = [v] ∧ DW K W H v d ∧ Q (.bl (isI d)) H
theorem cl_whole {K : PySem.W.Frag} {i : Int} {H : Hp} {Q : VK} {E : XK} (k : Q (.bl true) H) : sp_law_whole K ([.int i] ++ []) H Q E := ⟨W0, _, _, rfl, .int i, k⟩
def neR : Rel := fun x y => decide (x ≠ y)
theorem neR_irr (n : Nat) : Irr n neR := fun x y _ _ h => of_decide_eq_true h
def sp_law_every : Sp := fun vs H Q _ => ∃ (W : Wd) (n : Nat), vs = [.int n] ∧ n ≤ 8 ∧ W.iv H ∧ ∀ a H', H a = none → Ex W H H' → RowsAt W H' a (prI n neR) → Q (.ref a) H'
def sp_law_order : Sp := fun vs H Q _ => ∃ (p c : Addr) (n : Nat), vs = [.ref p, .int n] ∧ n ≤ 8 ∧ (WP p c).iv H ∧ ∀ a H' (os : List Int), Ex (WP p c) H H' → At (WP p c) H' a (.lst (os.map V.int)) → os.length = n → Q (.ref a) H'
def sp_law_ring : Sp := fun vs H Q _ => ∃ (W : Wd) (a : Addr) (os : List Int), vs = [.ref a] ∧ W.iv H ∧ At W H a (.lst (os.map V.int)) ∧ os.length ≤ 8 ∧ ∀ t H' (l : List I2), Ex W H H' → RowsAt W H' t l → l.length ≤ 8 → Q (.ref t) H'
def sp_law_drawn : Sp := fun vs H Q _ => ∃ (p c : Addr) (n : Nat) (m : Int), vs = [.ref p, .int n, .int m] ∧ n ≤ 8 ∧ 0 ≤ m ∧ m ≤ 24 ∧ (WP p c).iv H ∧ ∀ t H' (l : List I2), Ex (WP p c) H H' → RowsAt (WP p c) H' t l → l.length ≤ 24 → Q (.ref t) H'
def sp_law_shape : Sp := fun vs H Q _ => ∃ (p c a : Addr) (n : Nat) (os : List Int), vs = [.ref p, .int n, .ref a] ∧ n ≤ 8 ∧ (WP p c).iv H ∧ At (WP p c) H a (.lst (os.map V.int)) ∧ os.length = n ∧ ∀ t H' (l : List I2), Ex (WP p c) H H' → RowsAt (WP p c) H' t l → l.length ≤ 64 → Q (.ref t) H'
def sp_law_pairs : Sp := fun vs H Q _ => ∃ (p c : Addr) (n : Nat), vs = [.ref p, .int n] ∧ n ≤ 8 ∧ (WP p c).iv H ∧ ∀ a H' r, Ex (WP p c) H H' → Irr n r → RowsAt (WP p c) H' a (prI n r) → Q (.ref a) H'
structure TabAt (W : Wd) (H : Hp) (t : Addr) (n : Nat) (r : Rel) : Prop where
  ex : ∃ kvs : List (List Key × V), At W H t (.dT kvs) ∧ kvs.length ≤ 1000 ∧ ∀ x y : Nat, x < n → y < n → (valV kvs [.inl x, .inl y]).isSome = r x y
theorem TabAt.mono {W : Wd} {H H' : Hp} {t : Addr} {n : Nat} {r : Rel} (e : Ex W H H') (h : TabAt W H t n r) : TabAt W H' t n r := let ⟨kvs, a, b⟩ := h.ex; ⟨kvs, e.at_ a, b⟩
def sp_law_table : Sp := fun vs H Q _ => ∃ (W : Wd) (a : Addr) (n : Nat) (r : Rel), vs = [.ref a] ∧ n ≤ 8 ∧ W.iv H ∧ RowsAt W H a (prI n r) ∧ ∀ t H' kvs, H t = none → Ex W H H' → At W H' t (.dT kvs) → kvs.length ≤ 64 → (∀ x y : Nat, x < n → y < n → (valV kvs [.inl x, .inl y]).isSome = r x y) → Q (.ref t) H'
def sp_law_closed : Sp := fun vs H Q _ => ∃ (W : Wd) (a : Addr) (n : Nat) (r : Rel), vs = [.int n, .ref a] ∧ n ≤ 8 ∧ W.iv H ∧ RowsAt W H a (prI n r) ∧ ∀ t H', Ex W H H' → RowsAt W H' t (prI n (clo n r)) → Q (.ref t) H'
def sp_law_gap (K : PySem.W.Frag) : Sp := fun vs H Q _ => ∃ (W : Wd) (t : Addr) (n : Nat) (r : Rel), vs = [.int n, .ref t] ∧ n ≤ 8 ∧ W.iv H ∧ TabAt W H t n r ∧ ∀ v H', Ex W H H' → DW K W H' v (triN (gapL n r)) → Q v H'
def sp_law_times : Sp := fun vs H Q _ => ∃ (W : Wd) (a b : Addr) (n : Nat) (r s : Rel), vs = [.int n, .ref a, .ref b] ∧ n ≤ 8 ∧ W.iv H ∧ RowsAt W H a (prI n r) ∧ RowsAt W H b (prI n s) ∧ ∀ t H', Ex W H H' → RowsAt W H' t (prI n (timesR n r s)) → Q (.ref t) H'
def sp_law_right_gap (K : PySem.W.Frag) : Sp := fun vs H Q _ => ∃ (W : Wd) (v u : V) (o : Option Tri), vs = [v, u] ∧ W.iv H ∧ DW K W H v (triN o) ∧ DW K W H u (triN o) ∧ ∀ H', Ex W H H' → Q (.bl true) H'
def sp_law_is (K : PySem.W.Frag) (C : Addr) : Sp := fun vs H Q _ => ∃ (W : Wd) (p a : Addr) (n : Nat) (r : Rel), vs = [.ref p, .int n, .ref a] ∧ W.iv H ∧ ReachAt K C W H p n r ∧ RowsAt W H a (prI n r) ∧ ∀ H', Ex W H H' → Q (.bl true) H'
def sp_law_closes (K : PySem.W.Frag) (C : Addr) : Sp := fun vs H Q _ => ∃ (W : Wd) (p a : Addr) (n : Nat) (r : Rel), vs = [.ref p, .int n, .ref a] ∧ W.iv H ∧ ReachAt K C W H p n r ∧ RowsAt W H a (prI n r) ∧ ∀ H', Ex W H H' → Q (.bl true) H'
def sp_law_fills (K : PySem.W.Frag) (C : Addr) : Sp := fun vs H Q _ => ∃ (W : Wd) (p a : Addr) (n : Nat) (r : Rel), vs = [.ref p, .int n, .ref a] ∧ W.iv H ∧ ReachAt K C W H p n r ∧ RowsAt W H a (prI n r) ∧ ∀ H', Ex W H H' → Q (.bl true) H'
def spLaw (K : PySem.W.Frag) : Sp := fun vs H Q _ => ∃ (a : Addr) (ns : List Int), vs = [.ref a] ∧ SqL K H a (ns.map V.int) ∧ ns.length ≤ 63 ∧ ∀ H', Q (.bl true) H'
theorem memI (z : Nat) (ms : List Nat) : decide ((z : Int) ∈ ms.map fun m : Nat => (m : Int)) = decide (z ∈ ms) := by
  rw [Bool.eq_iff_iff, decide_eq_true_iff, decide_eq_true_iff, List.mem_map]
  exact ⟨fun ⟨m, h, e⟩ => by rwa [← Int.ofNat.inj e], fun h => ⟨z, h, rfl⟩⟩
def thruI (n : Nat) (r s : Rel) : I2 → Bool := fun p => (List.range n).any fun y => r p.1.toNat y && s y p.2.toNat
theorem RowsAt.dw {K : PySem.W.Frag} {W : Wd} {H : Hp} {a : Addr} {l : List I2} (h : RowsAt W H a l) : DW K W H (.ref a) (.list (l.map pairI)) := let ⟨_, h1, h2⟩ := h; .lst h1 h2.dw
def orF (n : Nat) (r s : Rel) : I2 → Bool := fun p => decide (p ∈ prI n r) || decide (p ∈ prI n s)
theorem or_rel {n : Nat} {r s : Rel} (i : Irr n r) (j : Irr n s) : prI n (fun x y => neR x y && orF n r s ((x : Int), (y : Int))) = prI n (orR r s) := congrArg (List.map nI) (prs_congr fun x y hx hy => by
  have a : decide (((x : Int), (y : Int)) ∈ prI n r) = r x y := ofI_prI hx hy
  have b : decide (((x : Int), (y : Int)) ∈ prI n s) = s x y := ofI_prI hx hy
  unfold orF orR neR
  rw [a, b]
  cases h1 : r x y with
  | true => rw [decide_eq_true (i x y hx hy h1)]; rfl
  | false => cases h2 : s x y with
    | true => rw [decide_eq_true (j x y hx hy h2)]; rfl
    | false => exact Bool.and_false _)
theorem clo_or {n : Nat} {r s : Rel} (i : Irr n r) (j : Irr n s) {x y : Nat} (hx : x < n) (hy : y < n) : clo n (orR (clo n r) (clo n s)) x y = clo n (orR r s) x y := by
  have io : Irr n (orR r s) := fun x y hx hy h => ((Bool.or_eq_true _ _).mp h).elim (i x y hx hy) (j x y hx hy)
  have ic : Irr n (orR (clo n r) (clo n s)) := fun x y hx hy h => ((Bool.or_eq_true _ _).mp h).elim (clo_irr n r x y hx hy) (clo_irr n s x y hx hy)
  refine clo_eq (fun x y hx hy h => ((Bool.or_eq_true _ _).mp h).elim (clo_min (fun x y hx hy h => clo_of io hx hy ((Bool.or_eq_true _ _).mpr (.inl h))) (clo_gap n _) hx hy) (clo_min (fun x y hx hy h => clo_of io hx hy ((Bool.or_eq_true _ _).mpr (.inr h))) (clo_gap n _) hx hy)) (fun x y hx hy h => clo_of ic hx hy ((Bool.or_eq_true _ _).mpr (((Bool.or_eq_true _ _).mp h).imp (clo_of i hx hy) (clo_of j hx hy)))) hx hy
theorem tri_items {K : PySem.W.Frag} {W : Wd} {H : Hp} {xs : List V} {x y z : Nat} (w : DWs K W H xs [.int x, .int y, .int z]) : xs = [.int x, .int y, .int z] := by
  have lx := w.length
  match xs, lx with
  | [p, q, s2], _ =>
    cases w with
    | cons d1 w => cases w with
      | cons d2 w => cases w with
        | cons d3 w => rw [d1.intE, d2.intE, d3.intE]
structure Tx (K : PySem.W.Frag) (mg : Str → Option Value) where
  f_is_integer : Addr
  fd_is_integer : FuncData
  F_is_integer : Fun K "is_integer" "is_integer" s_is_integer f_is_integer fd_is_integer
  b_is_integer : Binds K fd_is_integer ["value"] []
  g_is_integer : mg "is_integer" = some (.ref f_is_integer)
  f_is_row : Addr
  fd_is_row : FuncData
  F_is_row : Fun K "is_row" "is_row" s_is_row f_is_row fd_is_row
  b_is_row : Binds K fd_is_row ["value"] []
  g_is_row : mg "is_row" = some (.ref f_is_row)
  f_is_two : Addr
  fd_is_two : FuncData
  F_is_two : Fun K "_is_two" "_is_two" s_is_two f_is_two fd_is_two
  b_is_two : Binds K fd_is_two ["value"] []
  g_is_two : mg "_is_two" = some (.ref f_is_two)
  f_is_pair : Addr
  fd_is_pair : FuncData
  F_is_pair : Fun K "_is_pair" "_is_pair" s_is_pair f_is_pair fd_is_pair
  b_is_pair : Binds K fd_is_pair ["value", "size"] []
  g_is_pair : mg "_is_pair" = some (.ref f_is_pair)
  f_check_sizes : Addr
  fd_check_sizes : FuncData
  F_check_sizes : Fun K "_check_sizes" "_check_sizes" s_check_sizes f_check_sizes fd_check_sizes
  b_check_sizes : Binds K fd_check_sizes ["relation", "other"] []
  g_check_sizes : mg "_check_sizes" = some (.ref f_check_sizes)
  f_Reach__init : Addr
  fd_Reach__init : FuncData
  F_Reach__init : FunV K 1 "__init__" "Reach.__init__" (defArgs s_Reach__init) (defBody s_Reach__init) (defScope s_Reach__init) f_Reach__init fd_Reach__init
  b_Reach__init : Binds K fd_Reach__init ["self", "size", "pairs"] []
  f_Reach__contains : Addr
  fd_Reach__contains : FuncData
  F_Reach__contains : Fun K "__contains__" "Reach.__contains__" s_Reach__contains f_Reach__contains fd_Reach__contains
  b_Reach__contains : Binds K fd_Reach__contains ["self", "pair"] []
  f_Reach__len : Addr
  fd_Reach__len : FuncData
  F_Reach__len : Fun K "__len__" "Reach.__len__" s_Reach__len f_Reach__len fd_Reach__len
  b_Reach__len : Binds K fd_Reach__len ["self"] []
  f_Reach__eq : Addr
  fd_Reach__eq : FuncData
  F_Reach__eq : Fun K "__eq__" "Reach.__eq__" s_Reach__eq f_Reach__eq fd_Reach__eq
  b_Reach__eq : Binds K fd_Reach__eq ["self", "other"] []
  f_Reach__or : Addr
  fd_Reach__or : FuncData
  F_Reach__or : Fun K "__or__" "Reach.__or__" s_Reach__or f_Reach__or fd_Reach__or
  b_Reach__or : Binds K fd_Reach__or ["self", "other"] []
  f_Reach__and : Addr
  fd_Reach__and : FuncData
  F_Reach__and : Fun K "__and__" "Reach.__and__" s_Reach__and f_Reach__and fd_Reach__and
  b_Reach__and : Binds K fd_Reach__and ["self", "other"] []
  f_Reach__mul : Addr
  fd_Reach__mul : FuncData
  F_Reach__mul : Fun K "__mul__" "Reach.__mul__" s_Reach__mul f_Reach__mul fd_Reach__mul
  b_Reach__mul : Binds K fd_Reach__mul ["self", "other"] []
  f_Reach_pairs : Addr
  fd_Reach_pairs : FuncData
  F_Reach_pairs : Fun K "pairs" "Reach.pairs" s_Reach_pairs f_Reach_pairs fd_Reach_pairs
  b_Reach_pairs : Binds K fd_Reach_pairs ["self"] []
  f_Reach_closed : Addr
  fd_Reach_closed : FuncData
  F_Reach_closed : Fun K "closed" "Reach.closed" s_Reach_closed f_Reach_closed fd_Reach_closed
  b_Reach_closed : Binds K fd_Reach_closed ["self"] []
  f_Reach_gap : Addr
  fd_Reach_gap : FuncData
  F_Reach_gap : Fun K "gap" "Reach.gap" s_Reach_gap f_Reach_gap fd_Reach_gap
  b_Reach_gap : Binds K fd_Reach_gap ["self"] []
  f_law_pen : Addr
  fd_law_pen : FuncData
  F_law_pen : Fun K "_law_pen" "_law_pen" s_law_pen f_law_pen fd_law_pen
  b_law_pen : Binds K fd_law_pen ["script"] []
  g_law_pen : mg "_law_pen" = some (.ref f_law_pen)
  f_law_draw : Addr
  fd_law_draw : FuncData
  F_law_draw : Fun K "_law_draw" "_law_draw" s_law_draw f_law_draw fd_law_draw
  b_law_draw : Binds K fd_law_draw ["pen", "bound"] []
  g_law_draw : mg "_law_draw" = some (.ref f_law_draw)
  f_law_whole : Addr
  fd_law_whole : FuncData
  F_law_whole : Fun K "_law_whole" "_law_whole" s_law_whole f_law_whole fd_law_whole
  b_law_whole : Binds K fd_law_whole ["number"] []
  g_law_whole : mg "_law_whole" = some (.ref f_law_whole)
  f_law_every : Addr
  fd_law_every : FuncData
  F_law_every : Fun K "_law_every" "_law_every" s_law_every f_law_every fd_law_every
  b_law_every : Binds K fd_law_every ["many"] []
  g_law_every : mg "_law_every" = some (.ref f_law_every)
  f_law_order : Addr
  fd_law_order : FuncData
  F_law_order : Fun K "_law_order" "_law_order" s_law_order f_law_order fd_law_order
  b_law_order : Binds K fd_law_order ["pen", "many"] []
  g_law_order : mg "_law_order" = some (.ref f_law_order)
  f_law_ring : Addr
  fd_law_ring : FuncData
  F_law_ring : Fun K "_law_ring" "_law_ring" s_law_ring f_law_ring fd_law_ring
  b_law_ring : Binds K fd_law_ring ["order"] []
  g_law_ring : mg "_law_ring" = some (.ref f_law_ring)
  f_law_drawn : Addr
  fd_law_drawn : FuncData
  F_law_drawn : Fun K "_law_drawn" "_law_drawn" s_law_drawn f_law_drawn fd_law_drawn
  b_law_drawn : Binds K fd_law_drawn ["pen", "many", "count"] []
  g_law_drawn : mg "_law_drawn" = some (.ref f_law_drawn)
  f_law_shape : Addr
  fd_law_shape : FuncData
  F_law_shape : Fun K "_law_shape" "_law_shape" s_law_shape f_law_shape fd_law_shape
  b_law_shape : Binds K fd_law_shape ["pen", "many", "order"] []
  g_law_shape : mg "_law_shape" = some (.ref f_law_shape)
  f_law_pairs : Addr
  fd_law_pairs : FuncData
  F_law_pairs : Fun K "_law_pairs" "_law_pairs" s_law_pairs f_law_pairs fd_law_pairs
  b_law_pairs : Binds K fd_law_pairs ["pen", "many"] []
  g_law_pairs : mg "_law_pairs" = some (.ref f_law_pairs)
  f_law_table : Addr
  fd_law_table : FuncData
  F_law_table : Fun K "_law_table" "_law_table" s_law_table f_law_table fd_law_table
  b_law_table : Binds K fd_law_table ["rows"] []
  g_law_table : mg "_law_table" = some (.ref f_law_table)
  f_law_closed : Addr
  fd_law_closed : FuncData
  F_law_closed : Fun K "_law_closed" "_law_closed" s_law_closed f_law_closed fd_law_closed
  b_law_closed : Binds K fd_law_closed ["many", "rows"] []
  g_law_closed : mg "_law_closed" = some (.ref f_law_closed)
  f_law_gap : Addr
  fd_law_gap : FuncData
  F_law_gap : Fun K "_law_gap" "_law_gap" s_law_gap f_law_gap fd_law_gap
  b_law_gap : Binds K fd_law_gap ["many", "table"] []
  g_law_gap : mg "_law_gap" = some (.ref f_law_gap)
  f_law_times : Addr
  fd_law_times : FuncData
  F_law_times : Fun K "_law_times" "_law_times" s_law_times f_law_times fd_law_times
  b_law_times : Binds K fd_law_times ["many", "rows", "others"] []
  g_law_times : mg "_law_times" = some (.ref f_law_times)
  f_law_right_gap : Addr
  fd_law_right_gap : FuncData
  F_law_right_gap : Fun K "_law_right_gap" "_law_right_gap" s_law_right_gap f_law_right_gap fd_law_right_gap
  b_law_right_gap : Binds K fd_law_right_gap ["actual", "due"] []
  g_law_right_gap : mg "_law_right_gap" = some (.ref f_law_right_gap)
  f_law_is : Addr
  fd_law_is : FuncData
  F_law_is : Fun K "_law_is" "_law_is" s_law_is f_law_is fd_law_is
  b_law_is : Binds K fd_law_is ["relation", "many", "due"] []
  g_law_is : mg "_law_is" = some (.ref f_law_is)
  f_law_closes : Addr
  fd_law_closes : FuncData
  F_law_closes : Fun K "_law_closes" "_law_closes" s_law_closes f_law_closes fd_law_closes
  b_law_closes : Binds K fd_law_closes ["relation", "many", "rows"] []
  g_law_closes : mg "_law_closes" = some (.ref f_law_closes)
  f_law_fills : Addr
  fd_law_fills : FuncData
  F_law_fills : Fun K "_law_fills" "_law_fills" s_law_fills f_law_fills fd_law_fills
  b_law_fills : Binds K fd_law_fills ["relation", "many", "rows"] []
  g_law_fills : mg "_law_fills" = some (.ref f_law_fills)
  t_MOST_NUMBERS : Tok
  g_MOST_NUMBERS : mg "MOST_NUMBERS" = some (.int 8 t_MOST_NUMBERS)
  c_Reach : Addr
  gc_Reach : mg "Reach" = some (.ref c_Reach)
  cl_Reach : Cls K c_Reach
  sf_Reach : PySem.W.selfFirst K c_Reach = true
  ca_Reach : PySem.W.findIn K (.ref c_Reach) "__class__" = some (some (.builtin "object.__class__"))
  cn_Reach : PySem.W.specialIn K (.builtin "object.__class__") "__get__" = some (some (.builtin "getset_descriptor.__get__"))
  ct_Reach : PySem.W.takesIn K (.builtin "object.__class__") = some true
  cm_Reach : PySem.W.mroIn K c_Reach (.type "object") = some true
  ks_Reach : PySem.W.kitOne K (.ref c_Reach) (.ref c_Reach) = some true
  na_Reach_size : NoAttr K c_Reach "size"
  na_Reach_arrows : NoAttr K c_Reach "arrows"
  mk_Reach : Mk K c_Reach f_Reach__init
  me_Reach___contains__ : Meth K c_Reach "__contains__" f_Reach__contains
  nm_Reach___contains__ : True
  me_Reach___len__ : Meth K c_Reach "__len__" f_Reach__len
  nm_Reach___len__ : True
  me_Reach___eq__ : Meth K c_Reach "__eq__" f_Reach__eq
  nm_Reach___eq__ : True
  me_Reach___or__ : Meth K c_Reach "__or__" f_Reach__or
  nm_Reach___or__ : True
  me_Reach___and__ : Meth K c_Reach "__and__" f_Reach__and
  nm_Reach___and__ : True
  me_Reach___mul__ : Meth K c_Reach "__mul__" f_Reach__mul
  nm_Reach___mul__ : True
  me_Reach_pairs : Meth K c_Reach "pairs" f_Reach_pairs
  nm_Reach_pairs : True
  me_Reach_closed : Meth K c_Reach "closed" f_Reach_closed
  nm_Reach_closed : True
  me_Reach_gap : Meth K c_Reach "gap" f_Reach_gap
  nm_Reach_gap : True
  n_abs : mg "abs" = none
  n_bool : mg "bool" = none
  n_enumerate : mg "enumerate" = none
  n_int : mg "int" = none
  n_isinstance : mg "isinstance" = none
  n_len : mg "len" = none
  n_list : mg "list" = none
  n_range : mg "range" = none
  n_tuple : mg "tuple" = none



section
variable {P : Program} {w : World} {K : PySem.W.Frag} {mg : Str → Option Value}
theorem fld_size {T : Tx K mg} {K' : PySem.W.Frag} {W : Wd} {H : Hp} {a dx : Addr} {v u : V} {Q : VK} (e : K' = K) (h : At W H a (.ins T.c_Reach dx [("size", v), ("arrows", u)])) (k : Q v H) : FldG K' Q "size" (.ref a) H := e ▸ ⟨a, _, _, _, v, rfl, h.1, T.cl_Reach, T.na_Reach_size, rfl, k⟩
theorem fld_arrows {T : Tx K mg} {K' : PySem.W.Frag} {W : Wd} {H : Hp} {a dx : Addr} {v u : V} {Q : VK} (e : K' = K) (h : At W H a (.ins T.c_Reach dx [("size", v), ("arrows", u)])) (k : Q u H) : FldG K' Q "arrows" (.ref a) H := e ▸ ⟨a, _, _, _, u, rfl, h.1, T.cl_Reach, T.na_Reach_arrows, rfl, k⟩
theorem isi_reach {T : Tx K mg} {W : Wd} {H : Hp} {a dx : Addr} {fs : List (Str × V)} {Q : VK} (h : At W H a (.ins T.c_Reach dx fs)) (k : Q (.bl true) H) : rIsi K [.ref a, .ref T.c_Reach] H Q := ⟨_, _, _, _, true, rfl, .own _, .base (.ins h.1 T.cl_Reach T.ca_Reach T.cn_Reach T.ct_Reach T.cm_Reach), T.ks_Reach, k⟩
end

/-! the forward steps as a tactic (walk_at "..": the library's own syntax) -/
local macro_rules | `(tactic| walk_at "lw at") => `(tactic| first | assumption | (refine' Ex.at_ ?zze ?zzh; (case zze => assumption); (case zzh => walk_at "lw at")))
local macro_rules | `(tactic| walk_at "lw iv") => `(tactic| first | assumption | exact Ex.iv (by assumption))
local macro_rules | `(tactic| walk_at "lw ex") => `(tactic| first | assumption | exact Ex.refl (by walk_at "lw iv") | (refine' Ex.trans ?zza ?zzb; (case zzb => assumption); (case zza => walk_at "lw ex")))
local macro_rules | `(tactic| walk_at "lw ix") => `(tactic| first | rfl | exact at_0 | exact ix_0 (by simp; done))
local macro_rules | `(tactic| walk_at "lw side") => `(tactic| first | rfl | assumption | decide | omega | decide +kernel | (refine And.intro ?_ ?_ <;> decide +kernel) | exact ⟨by omega, by omega⟩ | exact Or.inr (by decide) | exact Or.inl (by decide) | exact Or.inl ⟨by omega, by omega⟩ | exact Nat.le_trans (cut_len _ _ _) (by first | omega | (simp only [List.length_cons, List.length_nil]; omega)) | (refine Nat.le_trans (Nat.add_le_add (cut_len _ _ _) (cut_len _ _ _)) ?_; decide) | (simp; done) | (simp only [List.length_cons, List.length_nil, List.length_append, List.length_map]; omega) | (simp only [List.length_cons, List.length_nil, List.length_append]; omega) | (simp; omega) | (simp at *; omega))
local macro_rules | `(tactic| walk_at "lw rd") => `(tactic| with_reducible first
  | refine rd_seq ?_ | refine rd_asg ?_ | refine rd_asgG ?_ | refine rd_drop ?_ | refine rd_ret ?_ | refine rd_retN ?_ | refine rd_ifS ?_ | refine rd_c ?_ | refine rd_op ?_ | refine rd_un ?_
  | (refine' rd_var ?zzr ?_; (case zzr => with_unfolding_all rfl)) | refine rd_I0 ?_ | (refine' rd_I ?zzr ?_; (case zzr => with_unfolding_all walk_at "lw side"))
  | refine rd_U ?_ | (refine' rd_eq ?zzr ?_; (case zzr => with_unfolding_all rfl)) | (refine' rd_ne ?zzr ?_; (case zzr => with_unfolding_all rfl)) | refine rd_isN ?_ | refine rd_notN ?_
  | refine rd_test ?_ | refine rd_B ?_ | refine rd_bl ?_ | refine rd_blV ?_ | refine rd_and ?_ | refine rd_or ?_ | refine rd_not ?_ | refine rd_andV ?_ | refine rd_orV ?_ | refine rd_notV ?_ | refine rd_ifE ?_
  | refine rd_nil ?_ | refine rd_cons ?_ | refine rd_call ?_ | refine rd_cb ?_ | refine rd_tupU ?_ | refine rd_lstU ?_
  | (refine' rd_new (by with_unfolding_all walk_at "lw iv") (by with_unfolding_all walk_at "lw side") ?_; intro _ _ _ _ _) | (refine' rd_new1 (by with_unfolding_all walk_at "lw iv") ?_; intro _ _ _ _ _)
  | (refine' rd_ixL ?zzh ?zzr ?_; (case zzh => with_unfolding_all walk_at "lw at"); (case zzr => with_unfolding_all walk_at "lw ix")) | (refine' rd_ixT ?zzh ?zzr ?_; (case zzh => with_unfolding_all walk_at "lw at"); (case zzr => with_unfolding_all walk_at "lw ix"))
  | (refine' rd_len ?zzh ?_; (case zzh => with_unfolding_all walk_at "lw at")) | (refine' rd_lenT ?zzh ?_; (case zzh => with_unfolding_all walk_at "lw at"))
  | refine rd_int ?_ | refine rd_intB ?_ | refine rd_abs ?_ | refine rd_max2 ?_ | refine rd_min2 ?_
  | (refine' rd_lens ?zzr ?_; (case zzr => with_unfolding_all walk_at "lw side")) | (refine' rd_adds ?zzr ?_; (case zzr => with_unfolding_all walk_at "lw side"))
  | refine rd_nopart ?_ | refine rd_part ?_ | refine rd_partI ?_ | refine rd_sl ?_
  | (refine' rd_slL (by with_unfolding_all walk_at "lw iv") ?zzh ?_; (case zzh => with_unfolding_all walk_at "lw at"); intro _ _ _ _ _)
  | (refine' rd_list (by with_unfolding_all walk_at "lw iv") ?zzh ?_; (case zzh => with_unfolding_all walk_at "lw at"); intro _ _ _ _ _)
  | (refine' rd_listT (by with_unfolding_all walk_at "lw iv") ?zzh ?_; (case zzh => with_unfolding_all walk_at "lw at"); intro _ _ _ _ _)
  | (refine' rd_tuple (by with_unfolding_all walk_at "lw iv") ?zzh ?_; (case zzh => with_unfolding_all walk_at "lw at"); intro _ _ _ _ _)
  | (refine' rd_cat (by with_unfolding_all walk_at "lw iv") ?zzh ?zzk ?zzr ?_; (case zzh => with_unfolding_all walk_at "lw at"); (case zzk => with_unfolding_all walk_at "lw at"); (case zzr => with_unfolding_all walk_at "lw side"); intro _ _ _ _ _)
  | refine rd_lc ?_ | refine rd_lcT ?_ | (refine' rd_any ?zzh ?_; (case zzh => with_unfolding_all walk_at "lw at")) | (refine' rd_sum ?zzh ?_; (case zzh => with_unfolding_all walk_at "lw at"))
  | (refine' rd_inK ?zzh ?zzf ?zzg ?_; (case zzh => with_unfolding_all walk_at "lw kt"); (case zzf => with_unfolding_all rfl); (case zzg => with_unfolding_all rfl))
  | (refine' rd_niK ?zzh ?zzf ?zzg ?_; (case zzh => with_unfolding_all walk_at "lw kt"); (case zzf => with_unfolding_all rfl); (case zzg => with_unfolding_all rfl))
  | (refine' rd_inT ?zzh ?zzf ?zzg ?_; (case zzh => with_unfolding_all walk_at "lw at"); (case zzf => with_unfolding_all rfl); (case zzg => with_unfolding_all rfl))
  | (refine' rd_niT ?zzh ?zzf ?zzg ?_; (case zzh => with_unfolding_all walk_at "lw at"); (case zzf => with_unfolding_all rfl); (case zzg => with_unfolding_all rfl))
  | (refine' rd_inL ?zzh ?zzf ?zzg ?_; (case zzh => with_unfolding_all walk_at "lw at"); (case zzf => with_unfolding_all rfl); (case zzg => with_unfolding_all rfl))
  | (refine' rd_niL ?zzh ?zzf ?zzg ?_; (case zzh => with_unfolding_all walk_at "lw at"); (case zzf => with_unfolding_all rfl); (case zzg => with_unfolding_all rfl))
  | (refine' rd_slTn (by with_unfolding_all walk_at "lw iv") ?zzh ?zzn ?_; (case zzh => with_unfolding_all walk_at "lw at"); (case zzn => with_unfolding_all (intro zzi; have zzq := zzi.1; simp [HT.sIx] at zzq)); intro _ _ _ _ _)
  | (refine' rd_gtup ?zzh ?zze ?_; (case zzh => with_unfolding_all walk_at "lw at"); (case zze => with_unfolding_all rfl)) | refine rd_gcons ?_ | refine rd_gnil ?_ | (refine' rd_gconsE ?zze ?_; (case zze => with_unfolding_all rfl)) | (refine' rd_gnilE ?zze ?_; (case zze => with_unfolding_all rfl)) | (refine' rd_isiY ?zzt ?zze ?_; (case zzt => with_unfolding_all walk_at "lw ty"); (case zze => with_unfolding_all decide +kernel)) | (refine' rd_isiN ?zzt ?zze ?_; (case zzt => with_unfolding_all walk_at "lw ty"); (case zze => with_unfolding_all decide +kernel)) | refine rd_gname ?_
  | refine rd_forL ?_ | refine rd_forR1 ?_ | refine rd_forR2 ?_ | (refine' rd_forR1a ?zza ?zzb ?_; (case zza => with_unfolding_all walk_at "lw side"); (case zzb => with_unfolding_all walk_at "lw side")) | (refine' rd_forLa ?zzh ?_; (case zzh => with_unfolding_all walk_at "lw at"))
  | (refine' rd_ixM ?zzh ?zzr ?zzs ?_; (case zzh => with_unfolding_all walk_at "lw at"); (case zzr => with_unfolding_all omega); (case zzs => with_unfolding_all walk_at "lw side"); intro _ _)
  | refine rd_gsub ?_ | (refine' rd_ixLr ?zzh ?zzr ?_; (case zzh => assumption); (case zzr => with_unfolding_all walk_at "lw ix")) | (refine' rd_setr ?zzh ?zzr ?_; (case zzh => assumption); (case zzr => with_unfolding_all walk_at "lw ix"); intro _ _ _) | (refine' rd_lenr ?zzh ?_; (case zzh => assumption))
  | (refine' rd_append ?zze ?zzf ?zzh ?zzr ?_; (case zzf => assumption); (case zze => with_unfolding_all walk_at "lw ex"); (case zzh => with_unfolding_all walk_at "lw at"); (case zzr => with_unfolding_all walk_at "lw side"); intro _ _ _ _)
  | refine rd_bm ?_ | (refine' rd_tyL ?zzh ?_; (case zzh => with_unfolding_all walk_at "lw at")) | refine rd_next ?_ | refine rd_brk ?_ | refine rd_cont ?_)
local macro_rules | `(tactic| walk_at "lw go") => `(tactic| repeat walk_at "lw rd")
local macro_rules | `(tactic| walk_at "lw ai") => `(tactic| with_reducible first | assumption | exact AI.one _ | exact AI.nil | exact AI.of _ | exact AI.cut (by walk_at "lw ai") | exact AI.app (by walk_at "lw ai") (by walk_at "lw ai"))
local macro_rules | `(tactic| walk_at "lw as") => `(tactic| with_reducible first | assumption | exact AS.nil | exact AS.of _ | (refine' AS.cons ?zzx; (case zzx => walk_at "lw as")) | (refine' AS.cut ?zzx; (case zzx => walk_at "lw as")) | (refine' AS.app ?zzx ?zzy; (case zzx => walk_at "lw as"); (case zzy => walk_at "lw as")))
local macro_rules | `(tactic| walk_at "lw ty") => `(tactic| first | exact .base (.int _) | exact .base (.str _) | exact .base (.bl _) | exact .base .non | exact .base (.lst (At.raw (by walk_at "lw at"))) | exact .base (.tup (At.raw (by walk_at "lw at"))))
local macro_rules | `(tactic| walk_at "lw kt") => `(tactic| fail)
local macro_rules | `(tactic| walk_at "lw if") => `(tactic| with_reducible first
  | refine iteNT ?_ | refine iteNF ?_ | refine iteT ?_ | refine iteF ?_
  | (refine' ifS_yes ?zzr ?_; (case zzr => with_unfolding_all first | assumption | decide +kernel)) | (refine' ifS_no ?zzr ?_; (case zzr => with_unfolding_all first | assumption | decide +kernel))
  | (refine' ifSn_no ?zzr ?_; (case zzr => with_unfolding_all first | assumption | decide +kernel)) | (refine' ifSn_yes ?zzr ?_; (case zzr => with_unfolding_all first | assumption | decide +kernel))
  | (refine' ifI_yes ?zzr ?_; (case zzr => with_unfolding_all omega)) | (refine' ifI_no ?zzr ?_; (case zzr => with_unfolding_all omega))
  | (refine' ifIn_no ?zzr ?_; (case zzr => with_unfolding_all omega)) | (refine' ifIn_yes ?zzr ?_; (case zzr => with_unfolding_all omega))
  | (refine' ifS ?_ ?_ <;> intro zze <;> try subst zze) | (refine' ifSn ?_ ?_ <;> intro zze <;> try subst zze) | (refine' ifI ?_ ?_ <;> intro zze <;> try subst zze) | (refine' ifIn ?_ ?_ <;> intro zze <;> try subst zze)
  | (refine' ifD_yes ?zzr ?_; (case zzr => with_unfolding_all omega)) | (refine' ifD_no ?zzr ?_; (case zzr => with_unfolding_all omega))
  | (refine' ifD ?_ ?_ <;> intro zze) | (refine' ifN ?_ ?_ <;> intro zze) | (refine' iteT ?_) | (refine' iteF ?_) | (refine' ifB ?_ ?_ <;> intro zze) | (refine' ifNB ?_ ?_ <;> intro zze))
local macro_rules | `(tactic| walk_at "lw all") => `(tactic| repeat' (first | walk_at "lw rd" | walk_at "lw if"))

local macro_rules | `(tactic| walk_at "lw rd") => `(tactic| with_reducible first
  | refine rd_chain ?_ | refine rd_yes ?_ | refine rd_forS ?_ | refine rd_srcS ?_ | refine rd_forT ?_ | refine rd_forE ?_ | refine rd_forET ?_ | refine rd_lcS ?_ | refine rd_lcR ?_
  | (refine' rd_srcT ?zzh ?_; (case zzh => with_unfolding_all walk_at "lw at"))
  | (refine' rd_srcE ?zzh ?zza ?zzb ?_; (case zzh => with_unfolding_all walk_at "lw at"); (case zza => with_unfolding_all decide); (case zzb => with_unfolding_all decide))
  | (refine' rd_srcR ?zza ?zzb ?_; (case zza => with_unfolding_all walk_at "lw side"); (case zzb => with_unfolding_all walk_at "lw side"))
  | (refine' rd_dnew (by with_unfolding_all walk_at "lw iv") ?_; intro _ _ _ _ _) | refine rd_dget1 ?_ | (refine' rd_isD ?zzh ?_; (case zzh => with_unfolding_all walk_at "lw at")) | (refine' rd_dgetS ?zzh ?_; (case zzh => with_unfolding_all walk_at "lw at"))
  | refine rd_din ?_ | refine rd_dnin ?_ | (refine' rd_dinS ?zzh ?_; (case zzh => with_unfolding_all walk_at "lw at")) | refine rd_dput ?_ | refine rd_dsetd ?_
  | (refine' rd_dputS ?zze ?zzf ?zzh ?zzr ?_; (case zzf => assumption); (case zze => with_unfolding_all walk_at "lw ex"); (case zzh => with_unfolding_all walk_at "lw at"); (case zzr => with_unfolding_all walk_at "lw side"); intro _ _ _ _)
  | refine rd_ends ?_ | refine rd_starts ?_ | refine rd_find ?_ | refine rd_tyS ?_ | refine rd_inSg ?_ | refine rd_ninSg ?_ | refine rd_strS ?_
  | (refine' rd_slS ?zzr ?_; (case zzr => with_unfolding_all walk_at "lw side")) | (refine' rd_ixS ?zzr ?zzs ?_; (case zzr => with_unfolding_all walk_at "lw side"); (case zzs => with_unfolding_all walk_at "lw ixs"))
  | (refine' rd_split (by with_unfolding_all walk_at "lw iv") ?zza ?zzr ?_; (case zza => with_unfolding_all decide +kernel); (case zzr => with_unfolding_all walk_at "lw side"); intro _ _ _ _ _)
  | (refine' rd_rep (by with_unfolding_all walk_at "lw iv") ?zzh ?zza ?zzb ?zzr ?_; (case zzh => with_unfolding_all walk_at "lw at"); (case zza => with_unfolding_all walk_at "lw side"); (case zzb => with_unfolding_all walk_at "lw side"); (case zzr => with_unfolding_all walk_at "lw side"); intro _ _ _ _ _))
local macro_rules | `(tactic| walk_at "lw ixs") => `(tactic| first | assumption | rfl)
local macro_rules | `(tactic| walk_at "lw if") => `(tactic| with_reducible first | (refine' ifB_yes ?zzr ?_; (case zzr => assumption)) | (refine' ifB_no ?zzr ?_; (case zzr => assumption)) | (refine' ifNB_yes ?zzr ?_; (case zzr => assumption)) | (refine' ifNB_no ?zzr ?_; (case zzr => assumption)) | fail)
local macro_rules | `(tactic| walk_at "lw ix") => `(tactic| assumption)
local macro_rules | `(tactic| walk_at "lw gi") => `(tactic| repeat (first | walk_at "lw rd" | with_reducible refine iteT ?_ | with_reducible refine iteF ?_ | with_reducible refine iteNT ?_ | with_reducible refine iteNF ?_))


local macro_rules | `(tactic| walk_at "lw dw") => `(tactic| first | assumption | exact DW.int _ | exact DW.str _ | exact DW.bl _ | exact DW.non | fail)
local macro_rules | `(tactic| walk_at "lw pa") => `(tactic| first | assumption | (refine' PrA.ex ?zze ?zzh; (case zze => assumption); (case zzh => walk_at "lw pa")) | fail)
local macro_rules | `(tactic| walk_at "lw ix") => `(tactic| first | exact at_l1' | exact at_l2' | fail)
local macro_rules | `(tactic| walk_at "lw rd") => `(tactic| with_reducible first
  | refine cl_isint ?_ | (refine' cl_is_row ?zzi ?zzh ?_; (case zzi => with_unfolding_all walk_at "lw iv"); (case zzh => with_unfolding_all walk_at "lw dw"); intro _ _)
  | refine rd_methG ?_ | refine rd_make ?_ | refine rd_iR ?_ | refine rd_iT ?_ | refine rd_iL ?_ | refine rd_lc2R ?_ | refine rd_lc2T ?_ | refine rd_lc2L ?_ | refine rd_fldG ?_
  | (refine' fld_size ?zze ?zzh ?_; (case zze => with_unfolding_all rfl); (case zzh => with_unfolding_all walk_at "lw at")) | (refine' fld_arrows ?zze ?zzh ?_; (case zze => with_unfolding_all rfl); (case zzh => with_unfolding_all walk_at "lw at")) | (refine' isi_reach ?zzh ?_; (case zzh => with_unfolding_all walk_at "lw at"))
  | (refine' rd_isTup ?zzh ?_; (case zzh => with_unfolding_all walk_at "lw dw")) | (refine' rd_isInt ?zzh ?_; (case zzh => with_unfolding_all walk_at "lw dw")) | (refine' rd_isBool ?zzh ?_; (case zzh => with_unfolding_all walk_at "lw dw"))
  | (refine' rd_tupT ?zzh ?_; (case zzh => with_unfolding_all walk_at "lw at")))

local macro_rules | `(tactic| walk_at "lw rd") => `(tactic| with_reducible first
  | refine cl_whole ?_ | (refine' cl_law_draw ?zzc ?zza ?zzb ?_; (case zzc => first | assumption | exact Ex.iv (by assumption)); (case zza => with_unfolding_all omega); (case zzb => with_unfolding_all omega); intro _ _ _ _ _))
section
variable {P : Program} {w : World} {K : PySem.W.Frag} {mg : Str → Option Value} {base : Heap}

theorem ok_is_integer (T : Tx K mg) : FnOk P w K mg base CX0 1 T.f_is_integer T.fd_is_integer ["value"] (sp_is_integer K) := by
  refine T.F_is_integer.ok sc_is_integer (fun vs H Q E h => ?_) (fun cdv A outer s H vs Q E hr h => ?_)
  · obtain ⟨W, v, d, rfl, h, k⟩ := h
    rfl
  · obtain ⟨W, v, d, rfl, h, k⟩ := h
    refine ⟨_, (pss_one (ps_ret (pe_and (pe_callB (r := rIsi K) call_isi (by rfl) T.n_isinstance (by decide +kernel) (pa_cons (pv 0) (pa_cons (pe_bltn (v := .ty "int") rfl T.n_int (by decide +kernel) rfl) pa_nil))) (pe_one (pe_not (pe_callB (r := rIsi K) call_isi (by rfl) T.n_isinstance (by decide +kernel) (pa_cons (pv 0) (pa_cons (pe_bltn (v := .ty "bool") rfl T.n_bool (by decide +kernel) rfl) pa_nil)))))))), ?_⟩
    walk_at "lw go"
    refine ifB ?_ ?_ <;> intro h1
    · walk_at "lw go"
      exact cast_bl k (isI_F h1)
    · walk_at "lw go"
      exact cast_bl k (isI_F2 h1)

theorem ok_is_row (T : Tx K mg) : FnOk P w K mg base CX0 1 T.f_is_row T.fd_is_row ["value"] (sp_is_row K) := by
  refine T.F_is_row.ok sc_is_row (fun vs H Q E h => ?_) (fun cdv A outer s H vs Q E hr h => ?_)
  · obtain ⟨W, v, d, rfl, iv, h, k⟩ := h
    rfl
  · obtain ⟨W, v, d, rfl, iv, h, k⟩ := h
    refine ⟨_, (pss_one (ps_ret (pe_callB (r := rIsiT K) call_isiT (by rfl) T.n_isinstance (by decide +kernel) (pa_cons (pv 0) (pa_cons (pe_tup (pa_cons (pe_bltn (v := .ty "list") rfl T.n_list (by decide +kernel) rfl) (pa_cons (pe_bltn (v := .ty "tuple") rfl T.n_tuple (by decide +kernel) rfl) pa_nil))) pa_nil))))), ?_⟩
    walk_at "lw go"
    rename_i p H1 f1 e1 h1
    refine rd_isRowD (h.ex e1) h1.raw ?_
    exact k _ e1

theorem ok_is_two (T : Tx K mg) : FnOk P w K mg base CX0 2 T.f_is_two T.fd_is_two ["value"] (sp_is_two K) := by
  refine T.F_is_two.ok sc_is_two (fun vs H Q E h => ?_) (fun cdv A outer s H vs Q E hr h => ?_)
  · obtain ⟨W, v, p, rfl, hp, k⟩ := h
    rfl
  · obtain ⟨W, v, p, rfl, hp, k⟩ := h
    refine ⟨_, (pss_one (ps_ret (pe_and (pe_callB (r := rIsi K) call_isi (by rfl) T.n_isinstance (by decide +kernel) (pa_cons (pv 0) (pa_cons (pe_bltn (v := .ty "tuple") rfl T.n_tuple (by decide +kernel) rfl) pa_nil))) (pe_and (pe_cmpR op_eq (pe_callB (r := Lw.rLen K) c_len (by rfl) T.n_len PySem.boot_len (pa_cons (pv 0) pa_nil)) pe_int (nomark _)) (pe_and (pe_call (ok_is_integer T) hr (by rfl) T.g_is_integer T.F_is_integer.kp T.b_is_integer .nil pass0 (pa_cons (pe_ix (r := rIxT K) ix_tup (pv 0) pe_int (fun _ _ => rfl)) pa_nil)) (pe_one (pe_call (ok_is_integer T) hr (by rfl) T.g_is_integer T.F_is_integer.kp T.b_is_integer .nil pass0 (pa_cons (pe_ix (r := rIxT K) ix_tup (pv 0) pe_int (fun _ _ => rfl)) pa_nil)))))))), ?_⟩
    have hd : DW K W H v (pairI p) := hp.dw
    obtain ⟨b, rfl, h⟩ := hp
    walk_at "lw gi"
    refine ifB_yes rfl ?_
    walk_at "lw gi"
    refine ifI_yes rfl ?_
    walk_at "lw gi"
    exact k

theorem ok_is_pair (T : Tx K mg) : FnOk P w K mg base CX0 3 T.f_is_pair T.fd_is_pair ["value", "size"] (sp_is_pair K) := by
  refine T.F_is_pair.ok sc_is_pair (fun vs H Q E h => ?_) (fun cdv A outer s H vs Q E hr h => ?_)
  · obtain ⟨W, v, p, n, rfl, iv, hp, ⟨x, y, rfl, hx, hy, ne⟩, k⟩ := h
    rfl
  · obtain ⟨W, v, p, n, rfl, iv, hp, ⟨x, y, rfl, hx, hy, ne⟩, k⟩ := h
    refine ⟨_, (pss_cons (ps_if (PW.pt (pw_or (pt_not (pt_val (pe_call (ok_is_row T) (hr.mono (by decide)) (by rfl) T.g_is_row T.F_is_row.kp T.b_is_row .nil pass0 (pa_cons (pv 0) pa_nil)))) (pw_or1 (pt_not (pt_val (pe_call (ok_is_two T) hr (by rfl) T.g_is_two T.F_is_two.kp T.b_is_two .nil pass0 (pa_cons (pe_callTy (r := Lw.rTupO K) c_tuple (by rfl) T.n_tuple (by decide +kernel) (pa_cons (pv 0) pa_nil)) pa_nil)))))))
        (pss_one (ps_ret pe_bl))
        pss_nil)
      (pss_one (ps_ret (pe_and (pe_chain op_le op_lt pe_int (pe_ix (r := rIxT K) ix_tup (pv 0) pe_int (fun _ _ => rfl)) (pv 1)) (pe_and (pe_chain op_le op_lt pe_int (pe_ix (r := rIxT K) ix_tup (pv 0) pe_int (fun _ _ => rfl)) (pv 1)) (pe_one (pe_cmpR op_ne (pe_ix (r := rIxT K) ix_tup (pv 0) pe_int (fun _ _ => rfl)) (pe_ix (r := rIxT K) ix_tup (pv 0) pe_int (fun _ _ => rfl)) (nomark _)))))))), ?_⟩
    have hp0 := hp
    have hd : DW K W H v (pairI (x, y)) := hp.dw
    obtain ⟨b, rfl, h⟩ := hp
    walk_at "lw gi"
    rename_i H1 e1
    refine ifNB_no rfl ?_
    walk_at "lw gi"
    refine ⟨W, _, _, rfl, hp0.ex e1, ?_⟩
    walk_at "lw all"
    refine cast_bl (k _ e1) ?_
    rw [dVI, decide_eq_false (by omega)]; rfl

theorem ok_check_sizes (T : Tx K mg) : FnOk P w K mg base CX0 1 T.f_check_sizes T.fd_check_sizes ["relation", "other"] (sp_check_sizes K T.c_Reach) := by
  refine T.F_check_sizes.ok sc_check_sizes (fun vs H Q E h => ?_) (fun cdv A outer s H vs Q E hr h => ?_)
  · obtain ⟨W, p, q, n, r, s', rfl, h1, h2, k⟩ := h
    rfl
  · obtain ⟨W, p, q, n, r, s', rfl, h1, h2, k⟩ := h
    refine ⟨_, (pss_one (ps_if (pt_cmpR op_ne (pe_fld (pv 1) rfl) (pe_fld (pv 0) rfl) (nomark _))
        (pss_one ps_never)
        pss_nil)), ?_⟩
    obtain ⟨dx, a, xs, a1, _, _⟩ := h1.ex
    obtain ⟨dy, b, ys, b1, _, _⟩ := h2.ex
    walk_at "lw gi"
    refine ifIn_no rfl ?_
    walk_at "lw gi"
    exact k

theorem ok_Reach__init (T : Tx K mg) : FnOk P w K mg base CX0 4 T.f_Reach__init T.fd_Reach__init ["self", "size", "pairs"] (sp_Reach__init K T.c_Reach) := by
  refine Lw.FunV.ok T.F_Reach__init sc_Reach__init (fun vs H Q E h => ?_) (fun cdv A outer s H vs Q E hr h => ?_)
  · obtain ⟨W, H0, x, dx, n, v, l, rfl, e0, h0, hx, n8, hv, hg, hl, k⟩ := h
    rfl
  · obtain ⟨W, H0, x, dx, n, v, l, rfl, e0, h0, hx, n8, hv, hg, hl, k⟩ := h
    refine ⟨_, (pss_cons (ps_if (PW.pt (pw_or (pt_not (pt_val (pe_call (ok_is_integer T) (hr.mono (by decide)) (by rfl) T.g_is_integer T.F_is_integer.kp T.b_is_integer .nil pass0 (pa_cons (pv 1) pa_nil)))) (pw_or1 (pt_not (pt_chain op_le op_le pe_int (pv 1) (pe_glob (v := .int 8) rfl T.g_MOST_NUMBERS ⟨_, rfl⟩))))))
        (pss_one ps_never)
        pss_nil)
      (pss_cons (ps_if (pt_not (pt_val (pe_call (ok_is_row T) (hr.mono (by decide)) (by rfl) T.g_is_row T.F_is_row.kp T.b_is_row .nil pass0 (pa_cons (pv 2) pa_nil))))
        (pss_one ps_never)
        pss_nil)
      (pss_cons (ps_set (i := 3) sc_Reach__init.nd rfl (by first | exact Or.inl rfl | exact Or.inr rfl) pe_dnewT)
      (pss_cons (ps_for PassesOwn.never rfl (pi_or (pi_enum (by rfl) T.n_enumerate (pa_cons (pv 2) pa_nil)) (pi_enumT (by rfl) T.n_enumerate (pa_cons (pv 2) pa_nil))) (pg_tup (by rfl) (pgs_cons (pg_name (i := 4) sc_Reach__init.nd rfl (by first | exact Or.inl rfl | exact Or.inr rfl)) (pgs_cons (pg_name (i := 5) sc_Reach__init.nd rfl (by first | exact Or.inl rfl | exact Or.inr rfl)) pgs_nil)))
        (pss_cons (ps_if (pt_not (pt_val (pe_call (ok_is_pair T) hr (by rfl) T.g_is_pair T.F_is_pair.kp T.b_is_pair .nil pass0 (pa_cons (pv 5) (pa_cons (pv 1) pa_nil)))))
          (pss_one ps_never)
          pss_nil)
        (pss_one (ps_dput (hu_of hr) (pv 3) (pe_tup (pa_cons (pe_ix (r := rIxT K) ix_tup (pv 5) pe_int (fun _ _ => rfl)) (pa_cons (pe_ix (r := rIxT K) ix_tup (pv 5) pe_int (fun _ _ => rfl)) pa_nil))) pe_bl rfl))))
      (pss_cons (ps_fld (pv 0) (pv 1) rfl)
      (pss_one (ps_fld (pv 0) (pe_callTy (r := Lw.rTupO K) c_tuple (by rfl) T.n_tuple (by decide +kernel) (pa_cons (pe_lc2 (own := [("x", 6), ("y", 7)]) (vs1 := [7]) rfl sc_Reach__init.nd (pi_range1 rfl T.n_range (pa_cons (pv 1) pa_nil)) (blkOk_by (own := [("x", 6), ("y", 7)]) (N := N_Reach__init) (sc := (defScope s_Reach__init)) (by decide +kernel)) (by decide) (fun _ _ _ _ _ => (pg_name (i := 6) sc_Reach__init.nd rfl (by first | exact Or.inl rfl | exact Or.inr rfl))) (fun _ _ _ _ _ => pts_nil) (fun _ _ _ _ _ => (pi_range1 rfl T.n_range (pa_cons (pv 1) pa_nil))) (fun _ _ _ _ _ => (pg_name (i := 7) sc_Reach__init.nd rfl (by first | exact Or.inl rfl | exact Or.inr rfl))) (fun _ _ _ _ _ => (pts_one (pt_cmp (pc_din (hu_of hr) (pe_tup (pa_cons (pv 6) (pa_cons (pv 7) pa_nil))) (pv 3))))) (fun _ _ _ _ _ => (pe_tup (pa_cons (pv 6) (pa_cons (pv 7) pa_nil))))) pa_nil)) rfl))))))), ?_⟩
    have iv0 := e0.iv
    walk_at "lw gi"
    refine ifD_yes (by omega) ?_
    walk_at "lw gi"
    refine ifNB_no (decide_eq_true (by omega)) ?_
    walk_at "lw gi"
    obtain ⟨pa, ps, rfl, hps, hpr⟩ := hv
    have hvw : DW K W H0 (.ref pa) (.list (l.map pairI)) ∨ DW K W H0 (.ref pa) (.tuple (l.map pairI)) := PrSeq.dw ⟨pa, ps, rfl, hps, hpr⟩
    have row : ∃ d, DW K W H (.ref pa) d ∧ isRow d = true := by
      rcases hvw with z | z
      · exact ⟨_, z.ex e0, rfl⟩
      · exact ⟨_, z.ex e0, rfl⟩
    obtain ⟨dd, rw1, rw2⟩ := row
    refine ⟨W, _, dd, rfl, iv0, rw1, fun H1 e1 => ?_⟩
    rw [rw2]
    walk_at "lw gi"
    refine rd_dnT e1.iv fun kd H2 f2 e2 h2 => ?_
    walk_at "lw gi"
    have e02 := (e0.trans e1).trans e2
    have x2 := e2.at_ (e1.at_ hx)
    have hps' : SqB K W H0 pa ps := hps.imp id .inl
    have fk : H0 kd = none := Ex.fresh (e0.trans e1) f2
    refine for_eB0 (W := W) (H0 := H0) (a := pa) (xs := ps) e02 rfl hps' (fun i σ' H' => ∃ v4 v5 kvs, σ' = [some (.ref x), some (.int n), some (.ref pa), some (.ref kd), v4, v5, none, none] ∧ Ex W H0 H' ∧ At W H' x (.ins T.c_Reach dx []) ∧ At W H' kd (.dT kvs) ∧ kvs.length ≤ i ∧ (∀ p q : Int, (valV kvs [.inl p, .inl q]).isSome = decide ((p, q) ∈ l.take i)))
      ⟨_, _, [], rfl, e02, x2, h2, Nat.le_refl _, fun _ _ => rfl⟩ (fun i σ' H' ⟨_, _, _, _, e, _⟩ => e) ?_ ?_
    · rintro i y T2 σ' H3 H' hy ⟨v4, v5, kvs, rfl, e3, x3, k3, l3, i3⟩ f4 e4 h4
      obtain ⟨pr, hr, hp⟩ := hpr.get hy
      have hp4 := (hp.ex e3).ex e4
      have gd := hg pr (List.mem_of_getElem? hr)
      have k4 := e4.at_ k3
      have x4 := e4.at_ x3
      walk_at "lw gi"
      refine ⟨W, y, pr, n, rfl, e4.iv, hp4, gd, fun H5 e5 => ?_⟩
      obtain ⟨b', rfl, hb'⟩ := hp4.ex e5
      have k5 := e5.at_ k4
      walk_at "lw gi"
      rename_i t6 H6 f6 e6 h6
      have e36 := (e4.trans e5).trans e6
      have hlen := hpr.length
      have hi2 := (List.getElem?_eq_some_iff.mp hy).1
      have ne : x ≠ kd := x2.ne h2 fun z => by cases z
      refine rd_dpT (W := W) (k := [.inl pr.1, .inl pr.2]) (e3.trans e36) fk (e6.at_ k5) h6 rfl (by omega) fun H7 e7 h7 o7 => ?_
      refine ⟨_, _, _, rfl, e7, o7 _ _ ne (e6.at_ (e5.at_ x4)), h7, Nat.le_trans (length_putK _ _ _) (by omega), fun p q => ?_⟩
      rw [valV_put, List.take_add_one, hr]
      by_cases c : (p, q) = pr
      · subst c
        rw [if_pos rfl]
        exact (decide_eq_true (List.mem_append_right _ (List.mem_singleton.mpr rfl))).symm
      · rw [if_neg (fun z => c (by injection z with z1 z2; injection z2 with z2 _; injection z1 with z1; injection z2 with z2; rw [z1, z2])), i3, Bool.eq_iff_iff, decide_eq_true_iff, decide_eq_true_iff, List.mem_append]
        exact ⟨.inl, fun z => z.elim id fun z => absurd (List.mem_singleton.mp z) c⟩
    rintro σ' H3 ⟨v4, v5, kvs, rfl, e3, x3, k3, l3, i3⟩
    rw [hpr.length, List.take_length] at i3
    have ne : x ≠ kd := x2.ne h2 fun z => by cases z
    have tn : ((n : Nat) : Int).toNat = n := Int.toNat_natCast n
    have hir := irr_ofI hg
    walk_at "lw gi"
    with_reducible refine rd_sfld ?_
    walk_at "lw gi"
    refine rd_sfldA e3 h0 x3 T.cl_Reach T.na_Reach_size (by decide) fun H4 e4 x4 _ o4 => ?_
    have k4 := o4 kd _ (Ne.symm ne) k3
    have iv4 := e4.iv
    walk_at "lw gi"
    with_reducible refine rd_sfld ?_
    walk_at "lw gi"
    rw [tn]
    refine lc2_w (W := W) (X := fun i x => x = .int (0 + (i : Nat))) (n := n) (M := n) walk_range (fun i zs Hh => PrAs W Hh zs ((prsTo n (ofI l) i).map nI)) iv4 (Nat.le_trans (Nat.mul_le_mul n8 n8) (by decide)) (fun _ _ => trivial) (fun _ _ _ _ e q => q.ex e) .nil ?_ ?_
    · rintro i y D zs H' Nx hi rfl hD hDa e5 q' hlz kn
      have k5 := e5.at_ k4
      walk_at "lw gi"
      refine ⟨rfl, ?_⟩
      walk_at "lw gi"
      rw [tn]
      refine li_w (W := W) (H0 := H4) (X1 := fun i x => x = .int (0 + (i : Nat))) (n1 := n) walk_range (fun j zs' Hh => PrAs W Hh zs' ((prsTo n (ofI l) i ++ rowTo (ofI l) i j).map nI)) e5 hD hDa (by have : i * n ≤ 8 * 8 := Nat.mul_le_mul (by omega) n8; omega) (by rw [rowTo_0, List.append_nil]; exact q') (fun _ _ => trivial) ?_ ?_
      · rintro j y2 zs' H6 QV QN hj rfl hDa6 e6 q6 _ qv qn
        have k6 := e6.at_ k4
        walk_at "lw gi"
        refine ⟨rfl, ?_⟩
        walk_at "lw gi"
        rename_i t7 H7 f7 e7 h7
        have k7 := e7.at_ k6
        refine rd_diT (k := [.inl (i : Int), .inl (j : Int)]) k7 h7 (by rw [Int.zero_add, Int.zero_add]; rfl) ?_
        rw [i3]
        walk_at "lw gi"
        refine ifD ?_ ?_ <;> intro hin
        · walk_at "lw gi"
          rename_i t8 H8 f8 e8 h8
          rw [Int.zero_add, Int.zero_add] at h8
          have e78 := e7.trans e8
          refine qv _ _ e78 ?_
          rw [rowTo_T (decide_eq_true hin), ← List.append_assoc, List.map_append]
          exact F2.snoc (q6.ex (hide_ex e78 hDa6)) (PrA.hide ⟨t8, rfl, h8⟩ e8.iv (e78.at_ hDa6))
        · refine qn _ e7 ?_
          rw [rowTo_F (decide_eq_false hin)]
          exact q6.ex (hide_ex e7 hDa6)
      · rintro H6 zs' e6 h6 q6 l6
        refine kn H6 zs' e6 h6 ?_ l6
        rw [prsTo_succ]
        exact q6
    rintro D H5 zs hD e5 h5 q' lz
    walk_at "lw gi"
    rename_i t6 H6 f6 e6 h6
    have x6 := e6.at_ (e5.at_ x4)
    have ne6 : t6 ≠ x := h6.ne x6 fun z => by cases z
    refine rd_sfldA (e4.trans (e5.trans e6)) h0 x6 T.cl_Reach T.na_Reach_arrows (by show (1 : Nat) < 1000; decide) fun H7 e7 x7 _ o7 => ?_
    walk_at "lw gi"
    refine k H7 e7 ⟨⟨dx, t6, zs, x7, o7 _ _ ne6 h6, ?_⟩, n8, hir⟩
    exact (q'.ex e6).keepT fun q us hq => o7 _ _ (hq.ne x6 fun z => by cases z) hq

theorem ok_Reach__contains (T : Tx K mg) : FnOk P w K mg base CX0 3 T.f_Reach__contains T.fd_Reach__contains ["self", "pair"] (sp_Reach__contains K T.c_Reach) := by
  refine T.F_Reach__contains.ok sc_Reach__contains (fun vs H Q E h => ?_) (fun cdv A outer s H vs Q E hr h => ?_)
  · obtain ⟨W, p, v, n, r, q, rfl, h, hq, k⟩ := h
    rfl
  · obtain ⟨W, p, v, n, r, q, rfl, h, hq, k⟩ := h
    refine ⟨_, (pss_one (ps_ret (pe_and (pe_call (ok_is_two T) hr (by rfl) T.g_is_two T.F_is_two.kp T.b_is_two .nil pass0 (pa_cons (pv 1) pa_nil)) (pe_one (pe_cmpR (r := rInTD false K) (op_inTD (hu65 hr)) (pv 1) (pe_fld (pv 0) rfl) (by rfl)))))), ?_⟩
    obtain ⟨dx, a, xs, a1, a2, a3⟩ := h.ex
    walk_at "lw gi"
    refine ⟨W, v, q, rfl, hq, ?_⟩
    walk_at "lw gi"
    refine rd_inTD (W := W) hq.dw (.tup (.inl a2) a3.dw) (shp_pair _) (shp_tpl _) ?_
    rw [any_pairs]
    exact k

theorem ok_Reach__len (T : Tx K mg) : FnOk P w K mg base CX0 1 T.f_Reach__len T.fd_Reach__len ["self"] (sp_Reach__len K T.c_Reach) := by
  refine T.F_Reach__len.ok sc_Reach__len (fun vs H Q E h => ?_) (fun cdv A outer s H vs Q E hr h => ?_)
  · obtain ⟨W, p, n, r, rfl, h, k⟩ := h
    rfl
  · obtain ⟨W, p, n, r, rfl, h, k⟩ := h
    refine ⟨_, (pss_one (ps_ret (pe_callB (r := Lw.rLen K) c_len (by rfl) T.n_len PySem.boot_len (pa_cons (pe_fld (pv 0) rfl) pa_nil)))), ?_⟩
    obtain ⟨dx, a, xs, a1, a2, a3⟩ := h.ex
    walk_at "lw gi"
    rw [a3.length]
    exact k

theorem ok_Reach__eq (T : Tx K mg) : FnOk P w K mg base CX0 1 T.f_Reach__eq T.fd_Reach__eq ["self", "other"] (sp_Reach__eq K T.c_Reach) := by
  refine T.F_Reach__eq.ok sc_Reach__eq (fun vs H Q E h => ?_) (fun cdv A outer s H vs Q E hr h => ?_)
  · obtain ⟨W, p, q, n, r, s', rfl, h1, h2, k⟩ := h
    rfl
  · obtain ⟨W, p, q, n, r, s', rfl, h1, h2, k⟩ := h
    refine ⟨_, (pss_one (ps_ret (pe_and (pe_callB (r := rIsi K) call_isi (by rfl) T.n_isinstance (by decide +kernel) (pa_cons (pv 1) (pa_cons (pe_glob (v := .ref T.c_Reach) rfl T.gc_Reach rfl) pa_nil))) (pe_and (pe_cmpR op_eq (pe_fld (pv 0) rfl) (pe_fld (pv 1) rfl) (nomark _)) (pe_one (pe_cmpR (r := rEqD K) (op_eqD hr.units) (pe_fld (pv 0) rfl) (pe_fld (pv 1) rfl) (nomark _))))))), ?_⟩
    obtain ⟨dx, a, xs, a1, a2, a3⟩ := h1.ex
    obtain ⟨dy, b, ys, b1, b2, b3⟩ := h2.ex
    walk_at "lw gi"
    refine ifI_yes rfl ?_
    walk_at "lw gi"
    refine rd_eqD2 (W := W) (.tup (.inl a2) a3.dw) (.tup (.inl b2) b3.dw) (shp_tpl _) (shp_tpl _) ?_
    rw [eqv_tpl]
    exact k

theorem ok_Reach__or (T : Tx K mg) : FnOk P w K mg base CX0 6 T.f_Reach__or T.fd_Reach__or ["self", "other"] (sp_Reach__or K T.c_Reach) := by
  refine T.F_Reach__or.ok sc_Reach__or (fun vs H Q E h => ?_) (fun cdv A outer s H vs Q E hr h => ?_)
  · obtain ⟨W, p, q, n, r, s', rfl, iv, h1, h2, k⟩ := h
    rfl
  · obtain ⟨W, p, q, n, r, s', rfl, iv, h1, h2, k⟩ := h
    refine ⟨_, (pss_cons (ps_if (pt_not (pt_val (pe_callB (r := rIsi K) call_isi (by rfl) T.n_isinstance (by decide +kernel) (pa_cons (pv 1) (pa_cons (pe_glob (v := .ref T.c_Reach) rfl T.gc_Reach rfl) pa_nil)))))
        (pss_one ps_never)
        pss_nil)
      (pss_cons (ps_expr (pe_call (ok_check_sizes T) (hr.mono (by decide)) (by rfl) T.g_check_sizes T.F_check_sizes.kp T.b_check_sizes .nil pass0 (pa_cons (pv 0) (pa_cons (pv 1) pa_nil))))
      (pss_one (ps_ret (pe_make T.mk_Reach (ok_Reach__init T) hr (by rfl) T.gc_Reach T.b_Reach__init .nil pass0 (pa_cons (pe_fld (pv 0) rfl) (pa_cons (pe_op (r := rCatA K) op_catA (pe_fld (pv 0) rfl) (pe_fld (pv 1) rfl)) pa_nil))))))), ?_⟩
    obtain ⟨dx, a, xs, a1, a2, a3⟩ := h1.ex
    obtain ⟨dy, b, ys, b1, b2, b3⟩ := h2.ex
    walk_at "lw gi"
    refine ⟨W, p, q, n, r, s', rfl, h1, h2, ?_⟩
    walk_at "lw gi"
    have n1 := n64 h1.n8 r
    have n2 := n64 h1.n8 s'
    have l1 := a3.length
    have l2 := b3.length
    refine rd_catA iv a2 b2 (by omega) fun t H1 e1 t1 => ?_
    walk_at "lw gi"
    exact mk_reach e1.iv h1.n8 ⟨t, _, rfl, .inr t1, F2.append (b3.ex e1) (a3.ex e1)⟩ (good_app (good_prI h1.irr) (good_prI h2.irr)) (by rw [List.length_append]; omega) fun x H' e z => k x H' (e1.trans e) (z.congr fun _ _ hx hy => ofI_or hx hy)

theorem ok_Reach__and (T : Tx K mg) : FnOk P w K mg base CX0 6 T.f_Reach__and T.fd_Reach__and ["self", "other"] (sp_Reach__and K T.c_Reach) := by
  refine T.F_Reach__and.ok sc_Reach__and (fun vs H Q E h => ?_) (fun cdv A outer s H vs Q E hr h => ?_)
  · obtain ⟨W, p, q, n, r, s', rfl, iv, h1, h2, k⟩ := h
    rfl
  · obtain ⟨W, p, q, n, r, s', rfl, iv, h1, h2, k⟩ := h
    refine ⟨_, (pss_cons (ps_if (pt_not (pt_val (pe_callB (r := rIsi K) call_isi (by rfl) T.n_isinstance (by decide +kernel) (pa_cons (pv 1) (pa_cons (pe_glob (v := .ref T.c_Reach) rfl T.gc_Reach rfl) pa_nil)))))
        (pss_one ps_never)
        pss_nil)
      (pss_cons (ps_expr (pe_call (ok_check_sizes T) (hr.mono (by decide)) (by rfl) T.g_check_sizes T.F_check_sizes.kp T.b_check_sizes .nil pass0 (pa_cons (pv 0) (pa_cons (pv 1) pa_nil))))
      (pss_one (ps_ret (pe_make T.mk_Reach (ok_Reach__init T) hr (by rfl) T.gc_Reach T.b_Reach__init .nil pass0 (pa_cons (pe_fld (pv 0) rfl) (pa_cons (pe_lc (own := [("pair", 2)]) rfl sc_Reach__and.nd (pi_tup (pe_fld (pv 0) rfl)) (blkOk_by (own := [("pair", 2)]) (N := N_Reach__and) (sc := (defScope s_Reach__and)) (by decide +kernel)) (fun _ _ _ _ _ => (pg_name (i := 2) sc_Reach__and.nd rfl (by first | exact Or.inl rfl | exact Or.inr rfl))) (fun _ _ _ _ _ => (pts_one (pt_cmpR (r := rInTD false K) (op_inTD (hu65 hr)) (pv 2) (pe_fldK (K := K) rfl (pe_fld (pv 1) rfl)) (by rfl)))) (fun _ _ _ _ _ => (pv 2))) pa_nil))))))), ?_⟩
    obtain ⟨dx, a, xs, a1, a2, a3⟩ := h1.ex
    obtain ⟨dy, b, ys, b1, b2, b3⟩ := h2.ex
    walk_at "lw gi"
    refine ⟨W, p, q, n, r, s', rfl, h1, h2, ?_⟩
    walk_at "lw gi"
    have n1 := n64 h1.n8 r
    have l1 := a3.length
    refine lc_wT (lc_w (W := W) (X := fun i x => xs[i]? = some x) (n := xs.length) walk_tup (fun i zs Hh => PrAs W Hh zs (((prI n r).take i).filter fun p => decide (p ∈ prI n s'))) iv (by omega) (fun H' e => (e.at_ a2).st) (fun _ _ _ _ e q => q.ex e) .nil ?_ ?_)
    · rintro i x D zs H' QV QN hn hx hD hDa e3 q' _ qv qn
      obtain ⟨pr, hpr, hp⟩ := a3.get hx
      have hp' := hp.ex e3
      have b1' := e3.at_ b1
      walk_at "lw gi"
      refine rd_inTD (W := W) hp'.dw (.tup (.inl (e3.at_ b2)) (b3.ex e3).dw) (shp_pair _) (shp_tpl _) ?_
      rw [any_pairs]
      walk_at "lw gi"
      refine ifD ?_ ?_ <;> intro hin
      · walk_at "lw gi"
        refine qv _ _ (Ex.refl e3.iv) ?_
        rw [List.take_add_one, hpr, List.filter_append]
        have fl : List.filter (fun p => decide (p ∈ prI n s')) [pr] = [pr] := List.filter_cons_of_pos (decide_eq_true hin)
        show PrAs W _ _ (_ ++ List.filter _ [pr])
        rw [fl]
        exact F2.snoc q' (hp'.hide e3.iv hDa)
      · refine qn _ (Ex.refl e3.iv) ?_
        rw [List.take_add_one, hpr, List.filter_append]
        have fl : List.filter (fun p => decide (p ∈ prI n s')) [pr] = [] := List.filter_cons_of_neg (by rw [decide_eq_false hin]; decide)
        show PrAs W _ _ (_ ++ List.filter _ [pr])
        rw [fl, List.append_nil]
        exact q'
    rintro D H5 zs hD e5 h5 q' lz
    rw [l1, List.take_length] at q'
    walk_at "lw gi"
    exact mk_reach e5.iv h1.n8 ⟨D, zs, rfl, .inl h5, q'⟩ (good_sub (good_prI h1.irr) fun p hp => (List.mem_filter.mp hp).1) (Nat.le_trans (List.length_filter_le ..) (by omega)) fun x H' e z => k x H' (e5.trans e) (z.congr fun _ _ hx hy => ofI_and hx hy)

theorem ok_Reach__mul (T : Tx K mg) : FnOk P w K mg base CX0 6 T.f_Reach__mul T.fd_Reach__mul ["self", "other"] (sp_Reach__mul K T.c_Reach) := by
  refine T.F_Reach__mul.ok sc_Reach__mul (fun vs H Q E h => ?_) (fun cdv A outer s H vs Q E hr h => ?_)
  · obtain ⟨W, p, q, n, r, s', rfl, iv, h1, h2, k⟩ := h
    rfl
  · obtain ⟨W, p, q, n, r, s', rfl, iv, h1, h2, k⟩ := h
    refine ⟨_, (pss_cons (ps_if (pt_not (pt_val (pe_callB (r := rIsi K) call_isi (by rfl) T.n_isinstance (by decide +kernel) (pa_cons (pv 1) (pa_cons (pe_glob (v := .ref T.c_Reach) rfl T.gc_Reach rfl) pa_nil)))))
        (pss_one ps_never)
        pss_nil)
      (pss_cons (ps_expr (pe_call (ok_check_sizes T) (hr.mono (by decide)) (by rfl) T.g_check_sizes T.F_check_sizes.kp T.b_check_sizes .nil pass0 (pa_cons (pv 0) (pa_cons (pv 1) pa_nil))))
      (pss_one (ps_ret (pe_make T.mk_Reach (ok_Reach__init T) hr (by rfl) T.gc_Reach T.b_Reach__init .nil pass0 (pa_cons (pe_fld (pv 0) rfl) (pa_cons (pe_lc2 (own := [("x", 2), ("middle", 3), ("y", 4), ("z", 5)]) (vs1 := [4, 5]) rfl sc_Reach__mul.nd (pi_tup (pe_fld (pv 0) rfl)) (blkOk_by (own := [("x", 2), ("middle", 3), ("y", 4), ("z", 5)]) (N := N_Reach__mul) (sc := (defScope s_Reach__mul)) (by decide +kernel)) (by decide) (fun _ _ _ _ _ => (pg_tupK (K := K) (n := 2) rfl (pg_tup (by rfl) (pgs_cons (pg_name (i := 2) sc_Reach__mul.nd rfl (by first | exact Or.inl rfl | exact Or.inr rfl)) (pgs_cons (pg_name (i := 3) sc_Reach__mul.nd rfl (by first | exact Or.inl rfl | exact Or.inr rfl)) pgs_nil))))) (fun _ _ _ _ _ => pts_nil) (fun _ _ _ _ _ => (pi_tupK (K := K) rfl (pi_tup (pe_fldK (K := K) rfl (pe_fld (pv 1) rfl))))) (fun _ _ _ _ _ => (pg_tupK (K := K) (n := 2) rfl (pg_tup (by rfl) (pgs_cons (pg_name (i := 4) sc_Reach__mul.nd rfl (by first | exact Or.inl rfl | exact Or.inr rfl)) (pgs_cons (pg_name (i := 5) sc_Reach__mul.nd rfl (by first | exact Or.inl rfl | exact Or.inr rfl)) pgs_nil))))) (fun _ _ _ _ _ => (pts_one (PW.pt (pw_and (pt_cmpR op_eq (pv 4) (pv 3) (nomark _)) (pw_and1 (pt_cmpR op_ne (pv 2) (pv 5) (nomark _))))))) (fun _ _ _ _ _ => (pe_tup (pa_cons (pv 2) (pa_cons (pv 5) pa_nil))))) pa_nil))))))), ?_⟩
    obtain ⟨dx, a, xs, a1, a2, a3⟩ := h1.ex
    obtain ⟨dy, b, ys, b1, b2, b3⟩ := h2.ex
    walk_at "lw gi"
    refine ⟨W, p, q, n, r, s', rfl, h1, h2, ?_⟩
    walk_at "lw gi"
    have n1 := n64 h1.n8 r
    have n2 := n64 h1.n8 s'
    have l1 := a3.length
    have l2 := b3.length
    refine lc2_w (W := W) (X := fun i x => xs[i]? = some x) (n := xs.length) (M := ys.length) walk_tup (fun i zs Hh => PrAs W Hh zs (((prI n r).take i).flatMap (mulF n s'))) iv (Nat.le_trans (Nat.mul_le_mul (show xs.length ≤ 64 by omega) (show ys.length ≤ 64 by omega)) (by decide)) (fun H' e => (e.at_ a2).st) (fun _ _ _ _ e q => q.ex e) .nil ?_ ?_
    · rintro i x D zs H' Nx hi hx hD hDa e3 q' hl kn
      obtain ⟨pr, hpr, hp⟩ := a3.get hx
      obtain ⟨b', rfl, hb'⟩ := hp.ex e3
      have b1' := e3.at_ b1
      have b2' := e3.at_ b2
      walk_at "lw gi"
      refine ⟨rfl, ?_⟩
      walk_at "lw gi"
      refine li_w (W := W) (H0 := H) (X1 := fun j x => ys[j]? = some x) (n1 := ys.length) walk_tup (fun j zs' Hh => PrAs W Hh zs' (((prI n r).take i).flatMap (mulF n s') ++ ((((prI n s').take j).filter fun q => decide (q.1 = pr.2) && decide (pr.1 ≠ q.2)).map fun q => (pr.1, q.2)))) e3 hD hDa (by have : i * ys.length ≤ 64 * 64 := Nat.mul_le_mul (by omega) (by omega); omega) (by rw [List.take_zero, List.filter_nil, List.map_nil, List.append_nil]; exact q') (fun H' e => (e.at_ b2).st) ?_ ?_
      · rintro j x zs' H4 QV QN hj hx2 hDa4 e4 q4 _ qv qn
        obtain ⟨qr, hqr, hq⟩ := b3.get hx2
        obtain ⟨c', rfl, hc'⟩ := hq.ex e4
        walk_at "lw gi"
        refine ⟨rfl, ?_⟩
        walk_at "lw gi"
        have stay : (decide (qr.1 = pr.2) && decide (pr.1 ≠ qr.2)) = false → PrAs W (Lw.hide D H4) zs' (((prI n r).take i).flatMap (mulF n s') ++ ((((prI n s').take (j + 1)).filter fun q => decide (q.1 = pr.2) && decide (pr.1 ≠ q.2)).map fun q => (pr.1, q.2))) := fun c => by
          have fl : List.filter (fun q : I2 => decide (q.1 = pr.2) && decide (pr.1 ≠ q.2)) [qr] = [] := List.filter_cons_of_neg (by rw [c]; decide)
          rw [List.take_add_one, hqr, List.filter_append]
          show PrAs W _ _ (_ ++ List.map _ (_ ++ List.filter _ [qr]))
          rw [fl, List.append_nil]
          exact q4
        refine ifI ?_ ?_ <;> intro c1
        · walk_at "lw gi"
          refine ifIn ?_ ?_ <;> intro c2
          · walk_at "lw gi"
            rename_i t5 H5 f5 e5 h5
            refine qv _ _ e5 ?_
            have fl : List.filter (fun q : I2 => decide (q.1 = pr.2) && decide (pr.1 ≠ q.2)) [qr] = [qr] := List.filter_cons_of_pos (by rw [decide_eq_true c1, decide_eq_true c2]; rfl)
            rw [List.take_add_one, hqr, List.filter_append]
            show PrAs W _ _ (_ ++ List.map _ (_ ++ List.filter _ [qr]))
            rw [fl, List.map_append, ← List.append_assoc]
            exact F2.snoc (q4.ex (hide_ex e5 hDa4)) (PrA.hide ⟨t5, rfl, h5⟩ e5.iv (e5.at_ hDa4))
          · exact qn _ (Ex.refl e4.iv) (stay (by rw [decide_eq_false (p := pr.1 ≠ qr.2) (fun z => z c2), Bool.and_false]))
        · refine qn _ (Ex.refl e4.iv) (stay (by rw [decide_eq_false c1, Bool.false_and]))
      · rintro H4 zs' e4 h4 q4 l4
        refine kn H4 zs' e4 h4 ?_ l4
        rw [l2, List.take_length] at q4
        rw [List.take_add_one, hpr, List.flatMap_append]
        show PrAs W _ _ (_ ++ (mulF n s' pr ++ []))
        rw [List.append_nil]
        exact q4
    rintro D H5 zs hD e5 h5 q' lz
    rw [l1, List.take_length] at q'
    walk_at "lw gi"
    exact mk_reach e5.iv h1.n8 ⟨D, zs, rfl, .inl h5, q'⟩ good_mul (Nat.le_trans (mul_len h1.n8 r s') (by decide)) fun x H' e z => k x H' (e5.trans e) (z.congr fun _ _ hx hy => ofI_mul hx hy)

theorem ok_Reach_pairs (T : Tx K mg) : FnOk P w K mg base CX0 1 T.f_Reach_pairs T.fd_Reach_pairs ["self"] (sp_Reach_pairs K T.c_Reach) := by
  refine T.F_Reach_pairs.ok sc_Reach_pairs (fun vs H Q E h => ?_) (fun cdv A outer s H vs Q E hr h => ?_)
  · obtain ⟨W, p, n, r, rfl, h, k⟩ := h
    rfl
  · obtain ⟨W, p, n, r, rfl, h, k⟩ := h
    refine ⟨_, (pss_one (ps_ret (pe_fld (pv 0) rfl))), ?_⟩
    obtain ⟨dx, a, xs, a1, a2, a3⟩ := h.ex
    walk_at "lw gi"
    exact k a xs a2 a3

theorem ok_Reach_closed (T : Tx K mg) : FnOk P w K mg base CX0 6 T.f_Reach_closed T.fd_Reach_closed ["self"] (sp_Reach_closed K T.c_Reach) := by
  refine T.F_Reach_closed.ok sc_Reach_closed (fun vs H Q E h => ?_) (fun cdv A outer s H vs Q E hr h => ?_)
  · obtain ⟨W, p, n, r, rfl, iv, h, k⟩ := h
    rfl
  · obtain ⟨W, p, n, r, rfl, iv, h, k⟩ := h
    refine ⟨_, (pss_cons (ps_set (i := 1) sc_Reach_closed.nd rfl (by first | exact Or.inl rfl | exact Or.inr rfl) (pe_listRg rfl (by rfl) T.n_list (prg_1 (by rfl) T.n_range (pe_fld (pv 0) rfl))))
      (pss_cons (ps_setLc (i := 2) (own := [("start", 7)]) rfl sc_Reach_closed.nd rfl rfl (sw_true rfl rfl rfl (by decide +kernel)) (pi_list (pv 1)) (blkOk_by (own := [("start", 7)]) (N := N_Reach_closed) (sc := (defScope s_Reach_closed)) (by decide +kernel)) (fun _ _ _ _ _ => (pg_name (i := 7) sc_Reach_closed.nd rfl (by first | exact Or.inl rfl | exact Or.inr rfl))) (fun _ _ _ _ _ => pts_nil) (fun _ _ _ _ _ => (pe_lc (own := [("goal", 8)]) rfl sc_Reach_closed.nd (pi_listK (K := K) rfl (pi_list (pv 1))) (blkOk_by (own := [("goal", 8)]) (by kernel_rfl)) (fun _ _ _ _ _ => (pg_name (i := 8) sc_Reach_closed.nd rfl (by first | exact Or.inl rfl | exact Or.inr rfl))) (fun _ _ _ _ _ => pts_nil) (fun _ _ _ _ _ => (pe_cmpR (r := rInTD false K) (op_inTD (hu65 hr)) (pe_tup (pa_cons (pv 7) (pa_cons (pv 8) pa_nil))) (pe_fldK (K := K) rfl (pe_fld (pv 0) rfl)) (by rfl))))))
      (pss_cons (ps_for PassesOwn.never rfl (pi_list (pv 1)) (pg_name (i := 3) sc_Reach_closed.nd rfl (by first | exact Or.inl rfl | exact Or.inr rfl))
        (pss_one (ps_for PassesOwn.never rfl (pi_list (pv 1)) (pg_name (i := 4) sc_Reach_closed.nd rfl (by first | exact Or.inl rfl | exact Or.inr rfl))
          (pss_one (ps_for PassesOwn.never rfl (pi_list (pv 1)) (pg_name (i := 5) sc_Reach_closed.nd rfl (by first | exact Or.inl rfl | exact Or.inr rfl))
            (pss_one (ps_if (PW.pt (pw_and (pt_val (pe_ix (r := rIxL K) ix_list (pe_ix (r := rIxL K) ix_list (pv 2) (pv 4) (fun _ _ => rfl)) (pv 3) (fun _ _ => rfl))) (pw_and1 (pt_val (pe_ix (r := rIxL K) ix_list (pe_ix (r := rIxL K) ix_list (pv 2) (pv 3) (fun _ _ => rfl)) (pv 5) (fun _ _ => rfl))))))
              (pss_one (ps_asg pe_bl (pg_sub (pe_ix (r := rIxL K) ix_list (pv 2) (pv 4) (fun _ _ => rfl)) (pv 5) set_list)))
              pss_nil)))))))
      (pss_cons (ps_set (i := 6) sc_Reach_closed.nd rfl (by first | exact Or.inl rfl | exact Or.inr rfl) (pe_lst pa_nil))
      (pss_cons (ps_for PassesOwn.never rfl (pi_list (pv 1)) (pg_name (i := 4) sc_Reach_closed.nd rfl (by first | exact Or.inl rfl | exact Or.inr rfl))
        (pss_one (ps_for PassesOwn.never rfl (pi_list (pv 1)) (pg_name (i := 5) sc_Reach_closed.nd rfl (by first | exact Or.inl rfl | exact Or.inr rfl))
          (pss_one (ps_if (PW.pt (pw_and (pt_cmpR op_ne (pv 4) (pv 5) (nomark _)) (pw_and1 (pt_val (pe_ix (r := rIxL K) ix_list (pe_ix (r := rIxL K) ix_list (pv 2) (pv 4) (fun _ _ => rfl)) (pv 5) (fun _ _ => rfl))))))
            (pss_one (ps_expr (pe_bm PySem.F.plainAttrs_list PySem.F.slot_list_append PySem.F.type_list_append mt_append (pv 6) (pa_cons (pe_tup (pa_cons (pv 4) (pa_cons (pv 5) pa_nil))) pa_nil))))
            pss_nil)))))
      (pss_one (ps_ret (pe_make T.mk_Reach (ok_Reach__init T) hr (by rfl) T.gc_Reach T.b_Reach__init .nil pass0 (pa_cons (pe_fld (pv 0) rfl) (pa_cons (pv 6) pa_nil)))))))))), ?_⟩
    obtain ⟨dx, a, xs, a1, a2, a3⟩ := h.ex
    have n8 := h.n8
    refine rd_seq (rd_asg (rd_lstRg ?_))
    walk_at "lw gi"
    refine rd_lrg iv (by omega) fun q H1 f1 e1 h1 => ?_
    walk_at "lw gi"
    refine ⟨q, rfl, ⟨_, h1.sl⟩, lc_wL ?_⟩
    have b1 := (by assumption : Ex W H H1).at_ a1
    have e1 := (by assumption : Ex W H H1)
    have nl : ((List.range n).map fun i : Nat => V.int i).length = n := by rw [List.length_map, List.length_range]
    have num : ∀ {i : Nat} {x : V}, ((List.range n).map fun i : Nat => V.int i)[i]? = some x → i < n ∧ x = .int (i : Nat) := fun {i x} h => by
      have hi := (List.getElem?_eq_some_iff.mp h).1
      rw [nl] at hi
      rw [List.getElem?_map, List.getElem?_range hi] at h
      exact ⟨hi, (Option.some.inj h).symm⟩
    refine lc_w (W := W) (X := fun i x => ((List.range n).map fun i : Nat => V.int i)[i]? = some x) (n := ((List.range n).map fun i : Nat => V.int i).length) walk_list (fun i ys Hh => ∃ ls : List Addr, ys = ls.map V.ref ∧ ls.length = i ∧ (∀ (j : Nat) (a : Addr), ls[j]? = some a → At W Hh a (.lst ((List.range n).map fun b => V.bl (r j b))) ∧ H1 a = none) ∧ ∀ (j j' : Nat) (a : Addr), ls[j]? = some a → ls[j']? = some a → j = j') e1.iv (by omega) (fun H' e => (e.at_ h1).sl) (fun _ _ _ _ e ⟨ls, q1, q2, q3, q4⟩ => ⟨ls, q1, q2, fun j a h => ⟨e.at_ (q3 j a h).1, (q3 j a h).2⟩, q4⟩) ⟨[], rfl, rfl, fun _ _ h => by simp at h, fun _ _ _ h => by simp at h⟩ ?_ ?_
    · rintro i x D ys H' QV QN hn hx hD hDa e3 ⟨ls, rfl, q2, q3, q4⟩ _ qv qn
      obtain ⟨hi, rfl⟩ := num hx
      have h3 := e3.at_ h1
      have b3 := e3.at_ b1
      have c2 := e3.at_ (e1.at_ a2)
      have c3 := (a3.ex e1).ex e3
      walk_at "lw gi"
      refine ⟨q, rfl, ⟨_, h3.sl⟩, lc_wL ?_⟩
      refine lc_w (W := W) (X := fun i x => ((List.range n).map fun i : Nat => V.int i)[i]? = some x) (n := ((List.range n).map fun i : Nat => V.int i).length) walk_list (fun j ys Hh => ys = (List.range j).map fun b => V.bl (r i b)) e3.iv (by omega) (fun H' e => (e.at_ h3).sl) (fun _ _ _ _ _ q => q) rfl ?_ ?_
      · rintro j x D2 ys H4 QV2 QN2 hn2 hx2 hD2 hDa2 e4 rfl _ qv2 qn2
        obtain ⟨hj, rfl⟩ := num hx2
        have b4 := e4.at_ b3
        walk_at "lw gi"
        rename_i t5 H5 f5 e5 h5
        have b5 := e5.at_ b4
        walk_at "lw gi"
        refine rd_inTD (W := W) (PrA.dw (p := (((i : Nat) : Int), ((j : Nat) : Int))) ⟨t5, rfl, h5⟩) (.tup (.inl (e5.at_ (e4.at_ c2))) ((c3.ex e4).ex e5).dw) (shp_pair _) (shp_tpl _) ?_
        rw [any_pairs]
        have dq : decide ((((i : Nat) : Int), ((j : Nat) : Int)) ∈ prI n r) = r i j := by
          rw [Bool.eq_iff_iff, decide_eq_true_iff, mem_prI]
          exact ⟨fun z => z.2.2, fun z => ⟨hi, hj, z⟩⟩
        refine qv2 _ _ e5 ?_
        rw [List.range_succ, List.map_append, dq]
        rfl
      · rintro D2 H4 ys2 hD2 e4 h4 rfl _
        rw [nl] at h4
        have nD : D2 ≠ D := fun z => by rw [z] at hD2; rw [hDa.1] at hD2; cases hD2
        refine qv _ _ e4 ⟨ls ++ [D2], by rw [List.map_append]; rfl, by rw [List.length_append, q2]; rfl, fun j b hb => ?_, fun j j' b hb hb' => ?_⟩
        · by_cases c : j < i
          · rw [List.getElem?_append_left (by omega)] at hb
            obtain ⟨z1, z2⟩ := q3 j b hb
            exact ⟨(hide_ex e4 hDa).at_ z1, z2⟩
          · rw [List.getElem?_append_right (by omega), q2] at hb
            have cj : j - i = 0 := by
              by_cases w : j - i = 0
              · exact w
              · rw [List.getElem?_eq_none (by simp; omega)] at hb; cases hb
            rw [cj] at hb
            cases hb
            obtain rfl : j = i := by omega
            exact ⟨h4.hide nD e4.iv (e4.at_ hDa), Ex.fresh e3 hD2⟩
        · have fresh : ∀ (m : Nat), ls[m]? = some D2 → False := fun m hm => by
            have z := (Ex.unhide e3.iv hDa).at_ (q3 m D2 hm).1
            rw [z.1] at hD2; cases hD2
          have last : ∀ (m : Nat) (b : Addr), (ls ++ [D2])[m]? = some b → ¬ m < i → m = i ∧ b = D2 := fun m b hm c => by
            rw [List.getElem?_append_right (by omega), q2] at hm
            have cj : m - i = 0 := by
              by_cases w : m - i = 0
              · exact w
              · rw [List.getElem?_eq_none (by simp; omega)] at hm; cases hm
            rw [cj] at hm
            cases hm
            exact ⟨by omega, rfl⟩
          by_cases c : j < i
          · have hb1 := hb
            rw [List.getElem?_append_left (by omega)] at hb1
            by_cases c' : j' < i
            · rw [List.getElem?_append_left (by omega)] at hb'
              exact q4 j j' b hb1 hb'
            · obtain ⟨_, rfl⟩ := last j' b hb' c'
              exact absurd hb1 (fresh j)
          · obtain ⟨ej, rfl⟩ := last j b hb c
            by_cases c' : j' < i
            · rw [List.getElem?_append_left (by omega)] at hb'
              exact absurd hb' (fresh j')
            · obtain ⟨ej', _⟩ := last j' _ hb' c'
              rw [ej, ej']
    rintro L H2 ys fL e2 h2 ⟨ls, rfl, q2, q3, q4⟩ _
    rw [nl] at q2
    have g0 : Grid W H1 H2 L ls n r := ⟨h2, q2, q3, q4⟩
    have w0 : War n r 0 0 0 r := War.start fun _ _ _ _ => rfl
    have hn2 := e2.at_ h1
    walk_at "lw gi"
    refine for_l (W := W) (a := q) (xs := (List.range n).map fun i : Nat => V.int i) (fun y σ' H' => ∃ v3 v4 v5 M, σ' = [some (.ref p), some (.ref q), some (.ref L), v3, v4, v5, none, none, none] ∧ Ex W H1 H' ∧ Grid W H1 H' L ls n M ∧ War n r y 0 0 M) ⟨_, _, _, r, rfl, e2, g0, w0⟩ (fun y σ' H' _ ⟨_, _, _, _, _, e, _, _⟩ => e.at_ h1) ?_ ?_
    · rintro y vy σ' H3 hvy ⟨v3, v4, v5, M, rfl, e3, g3, w3⟩
      obtain ⟨hy, rfl⟩ := num hvy
      have hn3 := e3.at_ h1
      walk_at "lw gi"
      refine for_l (W := W) (a := q) (xs := (List.range n).map fun i : Nat => V.int i) (fun x σ' H' => ∃ v4 v5 M, σ' = [some (.ref p), some (.ref q), some (.ref L), some (.int (y : Nat)), v4, v5, none, none, none] ∧ Ex W H1 H' ∧ Grid W H1 H' L ls n M ∧ War n r y x 0 M) ⟨_, _, M, rfl, e3, g3, w3⟩ (fun y σ' H' _ ⟨_, _, _, _, e, _, _⟩ => e.at_ h1) ?_ ?_
      · rintro x vx σ' H4 hvx ⟨v4, v5, M, rfl, e4, g4, w4⟩
        obtain ⟨hx, rfl⟩ := num hvx
        have hn4 := e4.at_ h1
        walk_at "lw gi"
        refine for_l (W := W) (a := q) (xs := (List.range n).map fun i : Nat => V.int i) (fun z σ' H' => ∃ v5 M, σ' = [some (.ref p), some (.ref q), some (.ref L), some (.int (y : Nat)), some (.int (x : Nat)), v5, none, none, none] ∧ Ex W H1 H' ∧ Grid W H1 H' L ls n M ∧ War n r y x z M) ⟨_, M, rfl, e4, g4, w4⟩ (fun y σ' H' _ ⟨_, _, _, e, _, _⟩ => e.at_ h1) ?_ ?_
        · rintro z vz σ' H5 hvz ⟨v5, M, rfl, e5, g5, w5⟩
          obtain ⟨hz, rfl⟩ := num hvz
          have w6 := w5.step hy hx hz
          obtain ⟨ax, lx, axi, rx, fx⟩ := g5.at_ hx
          have nl2 : ((List.range n).map fun j => V.bl (M x j)).length = n := by rw [List.length_map, List.length_range]
          obtain ⟨ay, ly, ayi, ry, fy⟩ := g5.at_ hy
          have gl := g5.l
          have rxy := row_at (n := n) (M := M) (i := x) hy
          have ryz := row_at (n := n) (M := M) (i := y) hz
          walk_at "lw gi"
          have keep : ¬(M x y = true ∧ M y z = true) → ∃ v5 M, [some (V.ref p), some (.ref q), some (.ref L), some (.int (y : Nat)), some (.int (x : Nat)), some (.int (z : Nat)), none, none, none] = [some (V.ref p), some (.ref q), some (.ref L), some (.int (y : Nat)), some (.int (x : Nat)), v5, none, none, none] ∧ Ex W H1 H5 ∧ Grid W H1 H5 L ls n M ∧ War n r y x (z + 1) M := fun c => ⟨_, M, rfl, e5, g5, by rw [if_neg c] at w6; exact w6⟩
          refine ifB ?_ ?_ <;> intro c1
          · walk_at "lw gi"
            refine ifB ?_ ?_ <;> intro c2
            · walk_at "lw gi"
              rw [if_pos ⟨c1, c2⟩] at w6
              refine rd_set (W := W) e5 fx rx (ix_in (by omega) (by rw [nl2]; omega)) fun H6 e6 h6 o6 => ?_
              rw [Int.toNat_natCast] at h6
              exact ⟨_, _, rfl, e6, g5.set lx hz h6 o6, w6⟩
            · exact keep fun w => by rw [w.2] at c2; cases c2
          · exact keep fun w => by rw [w.1] at c1; cases c1
        · rintro σ' H5 ⟨v5, M, rfl, e5, g5, w5⟩
          rw [nl] at w5
          exact ⟨_, _, M, rfl, e5, g5, w5.row⟩
      · rintro σ' H4 ⟨v4, v5, M, rfl, e4, g4, w4⟩
        rw [nl] at w4
        exact ⟨_, _, _, M, rfl, e4, g4, w4.stage⟩
    rintro σ' H3 ⟨v3, v4, v5, M, rfl, e3, g3, w3⟩
    rw [nl] at w3
    have hM : ∀ {a b : Nat}, a < n → b < n → M a b = Pa r n a b := fun ha hb => w3.fin ha hb
    clear w3
    have iv3 := e3.iv
    have hn3 := e3.at_ h1
    walk_at "lw gi"
    rename_i F H4 f4 e4 h4
    have g4 := g3.mono e4
    have hn4 := e4.at_ hn3
    have e14 := e3.trans e4
    have fF : H1 F = none := Ex.fresh e3 f4
    have nLF : L ≠ F := g3.l.ne_fresh f4
    have nRF : ∀ (i : Nat) (a : Addr), ls[i]? = some a → a ≠ F := fun i a h => (g3.rows i a h).1.ne_fresh f4
    refine for_l (W := W) (a := q) (xs := (List.range n).map fun i : Nat => V.int i) (fun x σ' H' => ∃ v4 v5 zs, σ' = [some (.ref p), some (.ref q), some (.ref L), v3, v4, v5, some (.ref F), none, none] ∧ Ex W H1 H' ∧ Grid W H1 H' L ls n M ∧ At W H' F (.lst zs) ∧ PrAs W H' zs ((prsTo n (clo n r) x).map nI)) ⟨_, _, [], rfl, e14, g4, h4, .nil⟩ (fun y σ' H' _ ⟨_, _, _, _, e, _, _⟩ => e.at_ h1) ?_ ?_
    · rintro x vx σ' H5 hvx ⟨v4, v5, zs, rfl, e5, g5, h5, q5⟩
      obtain ⟨hx, rfl⟩ := num hvx
      have hn5 := e5.at_ h1
      walk_at "lw gi"
      refine for_l (W := W) (a := q) (xs := (List.range n).map fun i : Nat => V.int i) (fun z σ' H' => ∃ v5 zs, σ' = [some (.ref p), some (.ref q), some (.ref L), v3, some (.int (x : Nat)), v5, some (.ref F), none, none] ∧ Ex W H1 H' ∧ Grid W H1 H' L ls n M ∧ At W H' F (.lst zs) ∧ PrAs W H' zs ((prsTo n (clo n r) x ++ rowTo (clo n r) x z).map nI)) ⟨_, zs, rfl, e5, g5, h5, by rw [rowTo_0, List.append_nil]; exact q5⟩ (fun y σ' H' _ ⟨_, _, _, e, _, _⟩ => e.at_ h1) ?_ ?_
      · rintro z vz σ' H6 hvz ⟨v5, zs, rfl, e6, g6, h6, q6⟩
        obtain ⟨hz, rfl⟩ := num hvz
        obtain ⟨ax, lx, axi, rx, fx⟩ := g6.at_ hx
        have gl := g6.l
        have rxz := row_at (n := n) (M := M) (i := x) hz
        have zl : zs.length ≤ 128 := by
          have z1 := q6.length
          have z2 := prsTo_len n (clo n r) x
          have z3 := rowTo_len (clo n r) x z
          have z4 : x * n ≤ 8 * 8 := Nat.mul_le_mul (by omega) n8
          rw [List.length_map, List.length_append] at z1
          omega
        have iv6 := e6.iv
        have stay : clo n r x z = false → ∃ v5' zs, [some (V.ref p), some (.ref q), some (.ref L), v3, some (.int (x : Nat)), some (.int (z : Nat)), some (.ref F), none, none] = [some (V.ref p), some (.ref q), some (.ref L), v3, some (.int (x : Nat)), v5', some (.ref F), none, none] ∧ Ex W H1 H6 ∧ Grid W H1 H6 L ls n M ∧ At W H6 F (.lst zs) ∧ PrAs W H6 zs ((prsTo n (clo n r) x ++ rowTo (clo n r) x (z + 1)).map nI) := fun c => ⟨_, zs, rfl, e6, g6, h6, by rw [rowTo_F c]; exact q6⟩
        walk_at "lw gi"
        refine ifIn ?_ ?_ <;> intro c1
        · walk_at "lw gi"
          refine ifB ?_ ?_ <;> intro c2
          · have cz : clo n r x z = true := clo_iff.mpr ⟨fun e => c1 (by rw [e]), by rw [← hM hx hz]; exact c2⟩
            walk_at "lw gi"
            rename_i t7 H7 f7 e7 h7 H8 e8 h8 o8
            have kt : ∀ q us, At W H7 q (.tup us) → At W H8 q (.tup us) := fun q us hq => o8 _ _ (hq.ne (e7.at_ h6) fun z => by cases z) hq
            have g7 := g6.mono e7
            have g8 : Grid W H1 H8 L ls n M := ⟨o8 _ _ nLF g7.l, g7.len, fun i a hi => ⟨o8 _ _ (nRF i a hi) (g7.rows i a hi).1, (g7.rows i a hi).2⟩, g7.nd⟩
            refine ⟨_, _, rfl, e8, g8, h8, ?_⟩
            rw [rowTo_T cz, ← List.append_assoc, List.map_append]
            exact F2.snoc ((q6.ex e7).keepT kt) ⟨t7, rfl, kt _ _ h7⟩
          · exact stay (by
              rw [Bool.eq_false_iff]
              intro z
              rw [hM hx hz, (clo_iff.mp z).2] at c2
              cases c2)
        · exact stay (by
            rw [Bool.eq_false_iff]
            intro z
            exact (clo_iff.mp z).1 (by omega))
      · rintro σ' H6 ⟨v5, zs, rfl, e6, g6, h6, q6⟩
        rw [nl] at q6
        exact ⟨_, _, zs, rfl, e6, g6, h6, by rw [prsTo_succ]; exact q6⟩
    rintro σ' H5 ⟨v4, v5, zs, rfl, e5, g5, h5, q5⟩
    rw [nl, prsTo_n] at q5
    have b5 := e5.at_ b1
    walk_at "lw gi"
    exact mk_reach e5.iv n8 ⟨F, zs, rfl, .inl h5, q5⟩ (good_prI (clo_irr n r)) (Nat.le_trans (n64 n8 (clo n r)) (by decide)) fun x H' e z => k x H' ((e1.trans e5).trans e) (z.congr fun _ _ hx hy => ofI_prI hx hy)

theorem ok_Reach_gap (T : Tx K mg) : FnOk P w K mg base CX0 1 T.f_Reach_gap T.fd_Reach_gap ["self"] (sp_Reach_gap K T.c_Reach) := by
  refine T.F_Reach_gap.ok sc_Reach_gap (fun vs H Q E h => ?_) (fun cdv A outer s H vs Q E hr h => ?_)
  · obtain ⟨W, p, n, r, rfl, iv, h, k⟩ := h
    rfl
  · obtain ⟨W, p, n, r, rfl, iv, h, k⟩ := h
    refine ⟨_, (pss_cons (ps_for PassesOwn.never rfl (pi_tup (pe_fld (pv 0) rfl)) (pg_tup (by rfl) (pgs_cons (pg_name (i := 1) sc_Reach_gap.nd rfl (by first | exact Or.inl rfl | exact Or.inr rfl)) (pgs_cons (pg_name (i := 2) sc_Reach_gap.nd rfl (by first | exact Or.inl rfl | exact Or.inr rfl)) pgs_nil)))
        (pss_one (ps_for PassesOwn.never rfl (pi_tup (pe_fld (pv 0) rfl)) (pg_tup (by rfl) (pgs_cons (pg_name (i := 3) sc_Reach_gap.nd rfl (by first | exact Or.inl rfl | exact Or.inr rfl)) (pgs_cons (pg_name (i := 4) sc_Reach_gap.nd rfl (by first | exact Or.inl rfl | exact Or.inr rfl)) pgs_nil)))
          (pss_one (ps_if (PW.pt (pw_and (pt_cmpR op_eq (pv 3) (pv 2) (nomark _)) (pw_and (pt_cmpR op_ne (pv 1) (pv 4) (nomark _)) (pw_and1 (pt_cmpR (r := rInTD true K) (op_notInTD (hu65 hr)) (pe_tup (pa_cons (pv 1) (pa_cons (pv 4) pa_nil))) (pe_fld (pv 0) rfl) (by rfl))))))
            (pss_one (ps_ret (pe_tup (pa_cons (pv 1) (pa_cons (pv 2) (pa_cons (pv 4) pa_nil))))))
            pss_nil)))))
      (pss_one (ps_ret pe_non))), ?_⟩
    obtain ⟨dx, a, xs, a1, a2, a3⟩ := h.ex
    walk_at "lw gi"
    have l1 := a3.length
    refine for_t (W := W) (xs := xs) (fun i σ' H' => ∃ v1 v2 v3 v4, σ' = [some (.ref p), v1, v2, v3, v4] ∧ Ex W H H' ∧ ∀ t ∈ (prs n r).take i, ((prs n r).findSome? fun q => if q.1 = t.2 ∧ t.1 ≠ q.2 ∧ r t.1 q.2 = false then some (t.1, t.2, q.2) else none) = none) ⟨_, _, _, _, rfl, Ex.refl iv, fun _ h => nomatch h⟩ (fun i σ' H' ⟨_, _, _, _, _, e, _⟩ => e.at_ a2) ?_ ?_
    · rintro i x σ' H1 hx ⟨v1, v2, v3, v4, rfl, e1, no⟩
      obtain ⟨pr, hpr, hp⟩ := a3.get hx
      obtain ⟨b', rfl, hb'⟩ := hp.ex e1
      have c1 := e1.at_ a1
      have c2 := e1.at_ a2
      obtain ⟨X, Y, rfl, hX, hY, hr⟩ := prI_nat (List.mem_of_getElem? hpr)
      have hpn : (prs n r)[i]? = some (X, Y) := by
        unfold prI at hpr
        rw [List.getElem?_map] at hpr
        cases z : (prs n r)[i]? with
        | none => rw [z] at hpr; cases hpr
        | some w =>
          rw [z] at hpr
          rw [nI_inj (q := (X, Y)) (Option.some.inj hpr)]
      walk_at "lw gi"
      have nn : (prs n r).length = xs.length := by rw [l1]; unfold prI; rw [List.length_map]
      refine for_t (W := W) (xs := xs) (fun j σ' H' => ∃ v3 v4, σ' = [some (.ref p), some (.int (X : Nat)), some (.int (Y : Nat)), v3, v4] ∧ Ex W H H' ∧ ∀ t ∈ (prs n r).take j, (if t.1 = Y ∧ X ≠ t.2 ∧ r X t.2 = false then some (X, Y, t.2) else none : Option Tri) = none) ⟨_, _, rfl, e1, fun _ h => nomatch h⟩ (fun i σ' H' ⟨_, _, _, e, _⟩ => e.at_ a2) ?_ ?_
      · rintro j x2 σ' H2 hx2 ⟨v3, v4, rfl, e2, no2⟩
        obtain ⟨pq, hpq, hq⟩ := a3.get hx2
        obtain ⟨b2, rfl, hb2⟩ := hq.ex e2
        have d1 := e2.at_ a1
        obtain ⟨Mi, Z, rfl, hMi, hZ, hr2⟩ := prI_nat (List.mem_of_getElem? hpq)
        have hpn2 : (prs n r)[j]? = some (Mi, Z) := by
          unfold prI at hpq
          rw [List.getElem?_map] at hpq
          cases z : (prs n r)[j]? with
          | none => rw [z] at hpq; cases hpq
          | some w =>
            rw [z] at hpq
            rw [nI_inj (q := (Mi, Z)) (Option.some.inj hpq)]
        have iv2 := e2.iv
        have stay : ¬(Mi = Y ∧ X ≠ Z ∧ r X Z = false) → ∀ t ∈ (prs n r).take (j + 1), (if t.1 = Y ∧ X ≠ t.2 ∧ r X t.2 = false then some (X, Y, t.2) else none : Option Tri) = none := fun c t ht => by
          rw [List.take_add_one, hpn2] at ht
          rcases List.mem_append.mp ht with ht | ht
          · exact no2 t ht
          · rw [List.mem_singleton.mp ht]
            exact if_neg c
        walk_at "lw gi"
        refine ifI ?_ ?_ <;> intro c1
        · walk_at "lw gi"
          refine ifIn ?_ ?_ <;> intro c2
          · walk_at "lw gi"
            rename_i t3 H3 f3 e3 h3
            refine rd_ninTD (W := W) (PrA.dw (p := (((X : Nat) : Int), ((Z : Nat) : Int))) ⟨t3, rfl, h3⟩) (.tup (.inl (e3.at_ (e2.at_ a2))) ((a3.ex e2).ex e3).dw) (shp_pair _) (shp_tpl _) ?_
            rw [any_pairs]
            walk_at "lw gi"
            refine ifN ?_ ?_ <;> intro c3
            · walk_at "lw gi"
              rename_i t4 H4 f4 e4 h4
              refine k _ _ ((e2.trans e3).trans e4) ?_
              have cz : Mi = Y ∧ X ≠ Z ∧ r X Z = false := ⟨by omega, by omega, Bool.eq_false_iff.mpr fun z => c3 (mem_prI.mpr ⟨hX, hZ, z⟩)⟩
              have g : gapP n r = some (X, Y, Z) := fs_at hpn no (fs_at hpn2 no2 (if_pos cz))
              rw [← gap_eq, g]
              exact .tup (.inl h4) (.cons (.int _) (.cons (.int _) (.cons (.int _) .nil)))
            · exact ⟨_, _, rfl, e2.trans e3, stay fun z => by rw [(mem_prI.mp c3).2.2] at z; exact absurd z.2.2 (by decide)⟩
          · exact ⟨_, _, rfl, e2, stay fun z => z.2.1 (by omega)⟩
        · exact ⟨_, _, rfl, e2, stay fun z => c1 (by rw [z.1])⟩
      · rintro σ' H2 ⟨v3, v4, rfl, e2, no2⟩
        rw [← nn, List.take_length] at no2
        refine ⟨_, _, _, _, rfl, e2, fun t ht => ?_⟩
        rw [List.take_add_one, hpn] at ht
        rcases List.mem_append.mp ht with ht | ht
        · exact no t ht
        · rw [List.mem_singleton.mp ht]
          exact fs_none no2
    · rintro σ' H1 ⟨v1, v2, v3, v4, rfl, e1, no⟩
      have nn : (prs n r).length = xs.length := by rw [l1]; unfold prI; rw [List.length_map]
      rw [← nn, List.take_length] at no
      walk_at "lw gi"
      refine k _ _ e1 ?_
      rw [← gap_eq]
      rw [show gapP n r = none from fs_none no]
      exact .non

theorem ok_law_pen (T : Tx K mg) : FnOk P w K mg base CX0 1 T.f_law_pen T.fd_law_pen ["script"] (sp_law_pen K) := by
  refine T.F_law_pen.ok sc_law_pen (fun vs H Q E h => ?_) (fun cdv A outer s H vs Q E hr h => ?_)
  · obtain ⟨a, ns, rfl, ha, hn, k⟩ := h
    rfl
  · obtain ⟨a, ns, rfl, ha, hn, k⟩ := h
    refine ⟨_, (pss_cons (ps_set (i := 1) sc_law_pen.nd rfl (by first | exact Or.inl rfl | exact Or.inr rfl) (pe_op op_mulW (pe_op op_mulW (pe_op op_mulW (pe_op op_mulW (pe_op op_powW pe_int pe_int) (pe_op op_powW pe_int pe_int)) (pe_op op_powW pe_int pe_int)) (pe_op op_powW pe_int pe_int)) (pe_op op_powW pe_int pe_int)))
      (pss_cons (ps_setLc (i := 2) (own := [("cell", 3)]) rfl sc_law_pen.nd rfl rfl (sw_true rfl rfl rfl (by decide +kernel)) (pi_list (pe_slice (r := rSlL K) sl_list (pv 0) po_none (po_some pe_int))) (blkOk_by (own := [("cell", 3)]) (N := N_law_pen) (sc := (defScope s_law_pen)) (by decide +kernel)) (fun _ _ _ _ _ => (pg_name (i := 3) sc_law_pen.nd rfl (by first | exact Or.inl rfl | exact Or.inr rfl))) (fun _ _ _ _ _ => pts_nil) (fun _ _ _ _ _ => (pe_op op_mod (pe_callB c_abs (by rfl) T.n_abs (by decide +kernel) (pa_cons (pe_callTy c_int (by rfl) T.n_int (by decide +kernel) (pa_cons (pv 3) pa_nil)) pa_nil)) (pv 1))))
      (pss_one (ps_ret (pe_lst (pa_cons (pv 2) (pa_cons pe_int (pa_cons pe_int (pa_cons (pe_op op_add pe_int (pe_op op_mul pe_int (pe_callB (r := Lw.rLen K) c_len (by rfl) T.n_len PySem.boot_len (pa_cons (pv 2) pa_nil)))) (pa_cons pe_int pa_nil)))))))))), ?_⟩
    have iv : W0.iv H := trivial
    walk_at "lw go"
    refine rd_I (by unfold CMulW; decide +kernel) ?_
    walk_at "lw go"
    refine rd_I (by unfold CMulW; decide +kernel) ?_
    walk_at "lw go"
    refine rd_I (by unfold CMulW; decide +kernel) ?_
    walk_at "lw go"
    refine rd_I (by unfold CMulW; decide +kernel) ?_
    walk_at "lw go"
    refine rd_slLs (W := W0) iv ha ?_
    intro p1 H1 hp1 e1 h1
    have ai : AI (cutV (ns.map V.int) none (some 63)) := (AI.of ns).cut
    have al : (cutV (ns.map V.int) none (some 63)).length ≤ 63 := Nat.le_trans (cut_len _ _ _) (by rw [List.length_map]; exact hn)
    have iv1 := e1.iv
    walk_at "lw go"
    refine rd_lc1 (W := W0) (fun _ y _ => ∃ z : Int, y = .int z) iv1 h1 (by omega) (fun _ _ _ _ _ r => r) (fun n x D acc H' QV hx hD hDa e q => ?_) (fun C H2 ys hD e2 h2 hA => ?_)
    · obtain ⟨z, rfl⟩ := ai.get hx
      walk_at "lw go"
      exact q _ _ (Ex.refl e.iv) ⟨_, rfl⟩
    have hys := hA.length
    obtain ⟨cs, rfl⟩ := (AI.of_all hA).ints
    have iv2 := e2.iv
    walk_at "lw go"
    rename_i p5 H5 f5 e5 h5
    exact k _ _ _ ⟨cs, 0, 0, _, 0, h5.1, (e5.at_ h2).1, by decide⟩

theorem ok_law_draw (T : Tx K mg) : FnOk P w K mg base CX0 1 T.f_law_draw T.fd_law_draw ["pen", "bound"] (sp_law_draw) := by
  refine T.F_law_draw.ok sc_law_draw (fun vs H Q E h => ?_) (fun cdv A outer s H vs Q E hr h => ?_)
  · obtain ⟨p, c, many, rfl, m0, m1, ⟨ns, a, g, s0, n, B⟩, k⟩ := h
    rfl
  · obtain ⟨p, c, many, rfl, m0, m1, ⟨ns, a, g, s0, n, B⟩, k⟩ := h
    refine ⟨_, (pss_cons (ps_asg (pe_op op_add (pe_ix (r := rIxL K) ix_list (pv 0) pe_int (fun _ _ => rfl)) pe_int) (pg_sub (pv 0) pe_int set_list))
      (pss_cut (ps_if (PW.pt (pw_and (pt_cmpR op_eq (pe_ix (r := rIxL K) ix_list (pv 0) pe_int (fun _ _ => rfl)) pe_int (nomark _)) (pw_and1 (pt_cmpR op_lt (pe_ix (r := rIxL K) ix_list (pv 0) pe_int (fun _ _ => rfl)) (pe_callB (r := Lw.rLen K) c_len (by rfl) T.n_len PySem.boot_len (pa_cons (pe_ix (r := rIxL K) ix_list (pv 0) pe_int (fun _ _ => rfl)) pa_nil)) (nomark _)))))
        (pss_cons (ps_set (i := 2) sc_law_draw.nd rfl (by first | exact Or.inl rfl | exact Or.inr rfl) (pe_ix (r := rIxL K) ix_list (pe_ix (r := rIxL K) ix_list (pv 0) pe_int (fun _ _ => rfl)) (pe_ix (r := rIxL K) ix_list (pv 0) pe_int (fun _ _ => rfl)) (fun _ _ => rfl)))
        (pss_cons (ps_asg (pe_op op_add (pe_ix (r := rIxL K) ix_list (pv 0) pe_int (fun _ _ => rfl)) pe_int) (pg_sub (pv 0) pe_int set_list))
        (pss_cons (ps_asg (pe_op op_mod (pe_callTy c_int (by rfl) T.n_int (by decide +kernel) (pa_cons (pe_op op_add (pe_op op_add (pe_op op_mul (pe_ix (r := rIxL K) ix_list (pv 0) pe_int (fun _ _ => rfl)) pe_int) (pe_op op_mul (pv 2) pe_int)) pe_int) pa_nil)) pe_int) (pg_sub (pv 0) pe_int set_list))
        (pss_one (ps_if (pt_cmpR op_ge (pv 2) (pe_op op_powW pe_int pe_int) (nomark _))
          (pss_one (ps_asg (pv 2) (pg_sub (pv 0) pe_int set_list)))
          pss_nil)))))
        pss_nil)
      (pss_cons (ps_if (pt_cmpR op_gt (pe_ix (r := rIxL K) ix_list (pv 0) pe_int (fun _ _ => rfl)) pe_int (nomark _))
        (pss_cons (ps_set (i := 3) sc_law_draw.nd rfl (by first | exact Or.inl rfl | exact Or.inr rfl) (pe_op op_mod (pe_callTy c_int (by rfl) T.n_int (by decide +kernel) (pa_cons (pe_ix (r := rIxL K) ix_list (pv 0) pe_int (fun _ _ => rfl)) pa_nil)) (pv 1)))
        (pss_cons (ps_asg (pe_op op_fdiv (pe_ix (r := rIxL K) ix_list (pv 0) pe_int (fun _ _ => rfl)) (pv 1)) (pg_sub (pv 0) pe_int set_list))
        (pss_one (ps_ret (pv 3)))))
        pss_nil)
      (pss_cons (ps_asg (pe_op op_mod (pe_callTy c_int (by rfl) T.n_int (by decide +kernel) (pa_cons (pe_op op_add (pe_op op_add (pe_op op_mul (pe_ix (r := rIxL K) ix_list (pv 0) pe_int (fun _ _ => rfl)) pe_int) (pe_op op_mul (pe_ix (r := rIxL K) ix_list (pv 0) pe_int (fun _ _ => rfl)) pe_int)) pe_int) pa_nil)) pe_int) (pg_sub (pv 0) pe_int set_list))
      (pss_cons (ps_set (i := 4) sc_law_draw.nd rfl (by first | exact Or.inl rfl | exact Or.inr rfl) (pe_op op_mod (pe_callTy c_int (by rfl) T.n_int (by decide +kernel) (pa_cons (pe_op op_mul (pe_ix (r := rIxL K) ix_list (pv 0) pe_int (fun _ _ => rfl)) pe_int) pa_nil)) pe_int))
      (pss_one (ps_ret (pe_op op_mod (pe_callTy c_int (by rfl) T.n_int (by decide +kernel) (pa_cons (pe_op op_fdiv (pv 4) pe_int) pa_nil)) (pv 1))))))))), ?_⟩
    obtain ⟨hp, hc, a0⟩ := id B
    have ne : c ≠ p := fun e => by rw [e, hp] at hc; injection hc with hc; injection hc with hc; cases ns with
      | nil => cases hc
      | cons _ _ => cases hc
    walk_at "lw go"
    rename_i H1 g1 o1
    have c1 : H1 c = some (.lst (ns.map V.int)) := (o1 c ne).trans hc
    refine rd_cut (fun σ' H' => ∃ (a2 g2 s2 : Int) (v : Option V), σ' = [some (.ref p), some (.int many), v, none, none] ∧ PenIs H' p c ns a2 g2 s2 (n + 1) ∧ ∀ q, q ≠ p → H' q = H q) ?_ ?_
    · walk_at "lw go"
      refine ifI ?_ ?_ <;> intro g0
      · walk_at "lw go"
        refine ifD ?_ ?_ <;> intro hlt
        · walk_at "lw go"
          rw [List.length_map] at hlt
          have hz : atI (ns.map V.int) a = some (V.int (ns[a.toNat]'(by omega))) := at_in a0 (by rw [List.getElem?_map, List.getElem?_eq_getElem (by omega)]; rfl)
          refine rd_ixLr c1 hz ?_
          walk_at "lw go"
          rename_i H2 g2 o2 H3 g3 o3
          refine ifD ?_ ?_ <;> intro hbig
          · walk_at "lw go"
            rename_i H4 g4 o4
            exact ⟨_, _, _, _, rfl, ⟨g4, by rw [o4 c ne, o3 c ne, o2 c ne]; exact c1, by omega⟩, fun q hq => (o4 q hq).trans ((o3 q hq).trans ((o2 q hq).trans (o1 q hq)))⟩
          · exact ⟨_, _, _, _, rfl, ⟨g3, by rw [o3 c ne, o2 c ne]; exact c1, by omega⟩, fun q hq => (o3 q hq).trans ((o2 q hq).trans (o1 q hq))⟩
        · exact ⟨_, _, _, _, rfl, ⟨g1, c1, a0⟩, o1⟩
      · exact ⟨_, _, _, _, rfl, ⟨g1, c1, a0⟩, o1⟩
    rintro σ' H2 ⟨a2, g2, s2, v, rfl, B1, h1⟩
    obtain ⟨hp1, hc1, a20⟩ := id B1
    clear g1 o1 c1
    walk_at "lw go"
    refine ifD ?_ ?_ <;> intro hpos
    · walk_at "lw go"
      rename_i H3 g3 o3
      exact k _ _ (ex_pen B ⟨g3, by rw [o3 c ne]; exact hc1, a20⟩ fun q hq => (o3 q hq).trans (h1 q hq)) (Int.emod_nonneg _ (by omega)) (Int.emod_lt_of_pos _ m0)
    · walk_at "lw go"
      rename_i H3 g3 o3
      exact k _ _ (ex_pen B ⟨g3, by rw [o3 c ne]; exact hc1, a20⟩ fun q hq => (o3 q hq).trans (h1 q hq)) (Int.emod_nonneg _ (by omega)) (Int.emod_lt_of_pos _ m0)

theorem ok_law_whole (T : Tx K mg) : FnOk P w K mg base CX0 1 T.f_law_whole T.fd_law_whole ["number"] (sp_law_whole K) := by
  refine T.F_law_whole.ok sc_law_whole (fun vs H Q E h => ?_) (fun cdv A outer s H vs Q E hr h => ?_)
  · obtain ⟨W, v, d, rfl, h, k⟩ := h
    rfl
  · obtain ⟨W, v, d, rfl, h, k⟩ := h
    refine ⟨_, (pss_one (ps_ret (pe_and (pe_callB (r := rIsi K) call_isi (by rfl) T.n_isinstance (by decide +kernel) (pa_cons (pv 0) (pa_cons (pe_bltn (v := .ty "int") rfl T.n_int (by decide +kernel) rfl) pa_nil))) (pe_one (pe_not (pe_callB (r := rIsi K) call_isi (by rfl) T.n_isinstance (by decide +kernel) (pa_cons (pv 0) (pa_cons (pe_bltn (v := .ty "bool") rfl T.n_bool (by decide +kernel) rfl) pa_nil)))))))), ?_⟩
    walk_at "lw go"
    refine ifB ?_ ?_ <;> intro h1
    · walk_at "lw go"
      exact cast_bl k (isI_F h1)
    · walk_at "lw go"
      exact cast_bl k (isI_F2 h1)

theorem ok_law_every (T : Tx K mg) : FnOk P w K mg base CX0 1 T.f_law_every T.fd_law_every ["many"] (sp_law_every) := by
  refine T.F_law_every.ok sc_law_every (fun vs H Q E h => ?_) (fun cdv A outer s H vs Q E hr h => ?_)
  · obtain ⟨W, n, rfl, n8, iv, k⟩ := h
    rfl
  · obtain ⟨W, n, rfl, n8, iv, k⟩ := h
    refine ⟨_, (pss_cons (ps_set (i := 1) sc_law_every.nd rfl (by first | exact Or.inl rfl | exact Or.inr rfl) (pe_lst pa_nil))
      (pss_cons (ps_for PassesOwn.never rfl (pi_range1 rfl T.n_range (pa_cons (pv 0) pa_nil)) (pg_name (i := 2) sc_law_every.nd rfl (by first | exact Or.inl rfl | exact Or.inr rfl))
        (pss_one (ps_for PassesOwn.never rfl (pi_range1 rfl T.n_range (pa_cons (pv 0) pa_nil)) (pg_name (i := 3) sc_law_every.nd rfl (by first | exact Or.inl rfl | exact Or.inr rfl))
          (pss_one (ps_if (pt_cmpR op_ne (pv 2) (pv 3) (nomark _))
            (pss_one (ps_expr (pe_bm PySem.F.plainAttrs_list PySem.F.slot_list_append PySem.F.type_list_append mt_append (pv 1) (pa_cons (pe_tup (pa_cons (pv 2) (pa_cons (pv 3) pa_nil))) pa_nil))))
            pss_nil)))))
      (pss_one (ps_ret (pv 1))))), ?_⟩
    have tn : ((n : Nat) : Int).toNat = n := Int.toNat_natCast n
    walk_at "lw go"
    rename_i t H1 f1 e1 h1
    rw [tn]
    refine for_r (fun x σ' H' => ∃ v2 v3 zs, σ' = [some (.int n), some (.ref t), v2, v3] ∧ Ex W H H' ∧ At W H' t (.lst zs) ∧ PrAs W H' zs ((prsTo n neR x).map nI)) ⟨_, _, [], rfl, e1, h1, .nil⟩ ?_ ?_
    · rintro x σ' H2 hx ⟨v2, v3, zs, rfl, e2, h2, q2⟩
      walk_at "lw go"
      rw [tn]
      refine for_r (fun y σ' H' => ∃ v3 zs, σ' = [some (.int n), some (.ref t), some (.int (0 + (x : Nat))), v3] ∧ Ex W H H' ∧ At W H' t (.lst zs) ∧ PrAs W H' zs ((prsTo n neR x ++ rowTo neR x y).map nI)) ⟨_, zs, rfl, e2, h2, by rw [rowTo_0, List.append_nil]; exact q2⟩ ?_ ?_
      · rintro y σ' H3 hy ⟨v3, zs, rfl, e3, h3, q3⟩
        have zl : zs.length ≤ 128 := by
          have z1 := q3.length
          have z2 := prsTo_len n neR x
          have z3 := rowTo_len neR x y
          have z4 : x * n ≤ 8 * 8 := Nat.mul_le_mul (by omega) n8
          rw [List.length_map, List.length_append] at z1
          omega
        have iv3 := e3.iv
        walk_at "lw go"
        refine ifIn ?_ ?_ <;> intro c1
        · walk_at "lw go"
          rename_i t7 H7 f7 e7 h7 H8 e8 h8 o8
          rw [Int.zero_add, Int.zero_add] at h7
          have kt : ∀ q us, At W H7 q (.tup us) → At W H8 q (.tup us) := fun q us hq => o8 _ _ (hq.ne (e7.at_ h3) fun z => by cases z) hq
          refine ⟨_, _, rfl, e8, h8, ?_⟩
          rw [rowTo_T (decide_eq_true (by omega)), ← List.append_assoc, List.map_append]
          exact F2.snoc ((q3.ex e7).keepT kt) ⟨t7, rfl, kt _ _ h7⟩
        · exact ⟨_, zs, rfl, e3, h3, by rw [rowTo_F (decide_eq_false (by omega))]; exact q3⟩
      · rintro σ' H3 ⟨v3, zs, rfl, e3, h3, q3⟩
        exact ⟨_, _, zs, rfl, e3, h3, by rw [prsTo_succ]; exact q3⟩
    rintro σ' H2 ⟨v2, v3, zs, rfl, e2, h2, q2⟩
    walk_at "lw go"
    exact k t H2 f1 e2 ⟨zs, h2, q2⟩

theorem ok_law_order (T : Tx K mg) : FnOk P w K mg base CX0 2 T.f_law_order T.fd_law_order ["pen", "many"] (sp_law_order) := by
  refine T.F_law_order.ok sc_law_order (fun vs H Q E h => ?_) (fun cdv A outer s H vs Q E hr h => ?_)
  · obtain ⟨p, c, n, rfl, n8, iv, k⟩ := h
    rfl
  · obtain ⟨p, c, n, rfl, n8, iv, k⟩ := h
    refine ⟨_, (pss_cons (ps_setLc (i := 2) (own := [("k", 4)]) rfl sc_law_order.nd rfl rfl (sw_true rfl rfl rfl (by decide +kernel)) (pi_range1 rfl T.n_range (pa_cons (pv 1) pa_nil)) (blkOk_by (own := [("k", 4)]) (N := N_law_order) (sc := (defScope s_law_order)) (by decide +kernel)) (fun _ _ _ _ _ => (pg_name (i := 4) sc_law_order.nd rfl (by first | exact Or.inl rfl | exact Or.inr rfl))) (fun _ _ _ _ _ => pts_nil) (fun _ _ _ _ _ => (pv 4)))
      (pss_cons (ps_set (i := 3) sc_law_order.nd rfl (by first | exact Or.inl rfl | exact Or.inr rfl) (pe_lst pa_nil))
      (pss_cons (ps_for PassesOwn.never rfl (pi_range1 rfl T.n_range (pa_cons (pv 1) pa_nil)) (pg_name (i := 4) sc_law_order.nd rfl (by first | exact Or.inl rfl | exact Or.inr rfl))
        (pss_one (ps_expr (pe_bm PySem.F.plainAttrs_list PySem.F.slot_list_append PySem.F.type_list_append mt_append (pv 3) (pa_cons (pe_bm PySem.F.plainAttrs_list PySem.F.slot_list_pop PySem.F.type_list_pop mt_popAt (pv 2) (pa_cons (pe_call (ok_law_draw T) hr (by rfl) T.g_law_draw T.F_law_draw.kp T.b_law_draw .nil pass0 (pa_cons (pv 0) (pa_cons (pe_callB (r := Lw.rLen K) c_len (by rfl) T.n_len PySem.boot_len (pa_cons (pv 2) pa_nil)) pa_nil))) pa_nil)) pa_nil)))))
      (pss_one (ps_ret (pv 3)))))), ?_⟩
    have tn : ((n : Nat) : Int).toNat = n := Int.toNat_natCast n
    walk_at "lw go"
    rw [tn]
    refine lc_w (W := WP p c) (X := fun i x => x = .int (0 + (i : Nat))) (n := n) walk_range (fun i ys Hh => ∃ ls : List Int, ys = ls.map V.int ∧ ls.length = i) iv (by omega) (fun _ _ => trivial) (fun _ _ _ _ _ q => q) ⟨[], rfl, rfl⟩ ?_ ?_
    · rintro i x D ys H' QV QN hn' rfl hD hDa e3 ⟨ls, rfl, hl⟩ _ qv qn
      walk_at "lw gi"
      exact qv _ _ (Ex.refl e3.iv) ⟨ls ++ [(0 + (i : Nat) : Int)], by rw [List.map_append]; rfl, by rw [List.length_append, hl]; rfl⟩
    rintro L H1 ys fL e1 h1 ⟨ls, rfl, hl⟩ _
    have iv1 := e1.iv
    walk_at "lw go"
    rename_i O H2 f2 e2 h2
    have fO : H O = none := Ex.fresh e1 f2
    have nLO : L ≠ O := h1.ne_fresh f2
    have h12 := e2.at_ h1
    have e12 := e1.trans e2
    clear f2
    rw [tn]
    refine for_r (fun i σ' H' => ∃ (ls os : List Int) (v4 : Option V), σ' = [some (.ref p), some (.int n), some (.ref L), some (.ref O), v4] ∧ Ex (WP p c) H H' ∧ At (WP p c) H' L (.lst (ls.map V.int)) ∧ ls.length + i = n ∧ At (WP p c) H' O (.lst (os.map V.int)) ∧ os.length = i) ⟨ls, [], _, rfl, e12, h12, by omega, h2, rfl⟩ ?_ ?_
    · rintro i σ' H3 hi ⟨ls, os, v4, rfl, e3, hL, ll, hO, lo⟩
      have iv3 := e3.iv
      have lm : ((ls.map V.int).length : Int) = n - i := by rw [List.length_map]; omega
      walk_at "lw go"
      rename_i r H4 e4 l4 u4
      refine rd_pop (W := WP p c) (e3.trans e4) fL (e4.at_ hL) l4 (by omega) (by omega) fun y H5 hy e5 h5 o5 => ?_
      obtain ⟨z, rfl⟩ := (AI.of ls).get hy
      have hO5 := o5 _ _ (Ne.symm nLO) (e4.at_ hO)
      have lom : (os.map V.int).length ≤ 8 := by rw [List.length_map]; omega
      walk_at "lw go"
      rename_i H6 e6 h6 o6
      refine ⟨ls.eraseIdx r.toNat, os ++ [z], _, rfl, e6, ?_, ?_, by rw [List.map_append]; exact h6, by rw [List.length_append, lo]; rfl⟩
      · have := o6 _ _ nLO h5
        rwa [erase_map] at this
      · rw [List.length_eraseIdx, if_pos (by omega)]; omega
    rintro σ' H3 ⟨ls, os, v4, rfl, e3, hL, ll, hO, lo⟩
    walk_at "lw go"
    exact k O H3 os e3 hO lo

theorem ok_law_ring (T : Tx K mg) : FnOk P w K mg base CX0 1 T.f_law_ring T.fd_law_ring ["order"] (sp_law_ring) := by
  refine T.F_law_ring.ok sc_law_ring (fun vs H Q E h => ?_) (fun cdv A outer s H vs Q E hr h => ?_)
  · obtain ⟨W, a, os, rfl, iv, h, ol, k⟩ := h
    rfl
  · obtain ⟨W, a, os, rfl, iv, h, ol, k⟩ := h
    refine ⟨_, (pss_cons (ps_set (i := 1) sc_law_ring.nd rfl (by first | exact Or.inl rfl | exact Or.inr rfl) (pe_lst pa_nil))
      (pss_cons (ps_for PassesOwn.never rfl (pi_range1 rfl T.n_range (pa_cons (pe_callB (r := Lw.rLen K) c_len (by rfl) T.n_len PySem.boot_len (pa_cons (pv 0) pa_nil)) pa_nil)) (pg_name (i := 2) sc_law_ring.nd rfl (by first | exact Or.inl rfl | exact Or.inr rfl))
        (pss_cons (ps_set (i := 3) sc_law_ring.nd rfl (by first | exact Or.inl rfl | exact Or.inr rfl) (pe_ix (r := rIxL K) ix_list (pv 0) (pv 2) (fun _ _ => rfl)))
        (pss_cons (ps_set (i := 4) sc_law_ring.nd rfl (by first | exact Or.inl rfl | exact Or.inr rfl) (pe_ix (r := rIxL K) ix_list (pv 0) (pe_op op_mod (pe_callTy c_int (by rfl) T.n_int (by decide +kernel) (pa_cons (pe_op op_add (pv 2) pe_int) pa_nil)) (pe_callB (r := Lw.rLen K) c_len (by rfl) T.n_len PySem.boot_len (pa_cons (pv 0) pa_nil))) (fun _ _ => rfl)))
        (pss_one (ps_if (pt_cmpR op_ne (pv 3) (pv 4) (nomark _))
          (pss_one (ps_expr (pe_bm PySem.F.plainAttrs_list PySem.F.slot_list_append PySem.F.type_list_append mt_append (pv 1) (pa_cons (pe_tup (pa_cons (pv 3) (pa_cons (pv 4) pa_nil))) pa_nil))))
          pss_nil)))))
      (pss_one (ps_ret (pv 1))))), ?_⟩
    walk_at "lw go"
    rename_i T1 H1 f1 e1 h1
    have tl : ((os.map V.int).length : Int).toNat = os.length := by rw [List.length_map, Int.toNat_natCast]
    have lm : (os.map V.int).length = os.length := List.length_map ..
    rw [tl]
    refine for_r (fun i σ' H' => ∃ v2 v3 v4 zs l, σ' = [some (.ref a), some (.ref T1), v2, v3, v4] ∧ Ex W H H' ∧ At W H' T1 (.lst zs) ∧ PrAs W H' zs l ∧ l.length ≤ i) ⟨_, _, _, [], [], rfl, e1, h1, .nil, Nat.le_refl _⟩ ?_ ?_
    · rintro i σ' H2 hi ⟨v2, v3, v4, zs, l, rfl, e2, h2, q2, l2⟩
      have ha2 := e2.at_ h
      have iv2 := e2.iv
      have zl := q2.length
      have at1 : ∀ j : Int, 0 ≤ j → j < os.length → ∃ z : Int, atI (os.map V.int) j = some (.int z) := fun j j0 j1 => ⟨os[j.toNat]'(by omega), at_in j0 (by rw [List.getElem?_map, List.getElem?_eq_getElem (by omega)]; rfl)⟩
      obtain ⟨z1, ax⟩ := at1 (0 + (i : Nat)) (by omega) (by omega)
      obtain ⟨z2, ay⟩ := at1 ((0 + (i : Nat) + 1) % ((os.map V.int).length : Int)) (Int.emod_nonneg _ (by omega)) (by rw [lm]; exact Int.emod_lt_of_pos _ (by omega))
      walk_at "lw go"
      refine ifIn ?_ ?_ <;> intro c1
      · walk_at "lw go"
        rename_i t7 H7 f7 e7 h7 H8 e8 h8 o8
        have kt : ∀ q us, At W H7 q (.tup us) → At W H8 q (.tup us) := fun q us hq => o8 _ _ (hq.ne (e7.at_ h2) fun z => by cases z) hq
        exact ⟨_, _, _, _, l ++ [(z1, z2)], rfl, e8, h8, F2.snoc ((q2.ex e7).keepT kt) ⟨t7, rfl, kt _ _ h7⟩, by rw [List.length_append, List.length_singleton]; omega⟩
      · exact ⟨_, _, _, zs, l, rfl, e2, h2, q2, by omega⟩
    rintro σ' H2 ⟨v2, v3, v4, zs, l, rfl, e2, h2, q2, l2⟩
    walk_at "lw go"
    exact k T1 H2 l e2 ⟨zs, h2, q2⟩ (by omega)

theorem ok_law_drawn (T : Tx K mg) : FnOk P w K mg base CX0 2 T.f_law_drawn T.fd_law_drawn ["pen", "many", "count"] (sp_law_drawn) := by
  refine T.F_law_drawn.ok sc_law_drawn (fun vs H Q E h => ?_) (fun cdv A outer s H vs Q E hr h => ?_)
  · obtain ⟨p, c, n, m, rfl, n8, m0, m24, iv, k⟩ := h
    rfl
  · obtain ⟨p, c, n, m, rfl, n8, m0, m24, iv, k⟩ := h
    refine ⟨_, (pss_cons (ps_set (i := 3) sc_law_drawn.nd rfl (by first | exact Or.inl rfl | exact Or.inr rfl) (pe_lst pa_nil))
      (pss_cons (ps_if (pt_cmpR op_lt (pv 1) pe_int (nomark _))
        (pss_one (ps_ret (pv 3)))
        pss_nil)
      (pss_cons (ps_for PassesOwn.never rfl (pi_range1 rfl T.n_range (pa_cons (pv 2) pa_nil)) (pg_name (i := 4) sc_law_drawn.nd rfl (by first | exact Or.inl rfl | exact Or.inr rfl))
        (pss_cons (ps_set (i := 5) sc_law_drawn.nd rfl (by first | exact Or.inl rfl | exact Or.inr rfl) (pe_call (ok_law_draw T) hr (by rfl) T.g_law_draw T.F_law_draw.kp T.b_law_draw .nil pass0 (pa_cons (pv 0) (pa_cons (pv 1) pa_nil))))
        (pss_cons (ps_set (i := 6) sc_law_drawn.nd rfl (by first | exact Or.inl rfl | exact Or.inr rfl) (pe_op op_mod (pe_callTy c_int (by rfl) T.n_int (by decide +kernel) (pa_cons (pe_op op_add (pe_op op_add (pv 5) pe_int) (pe_call (ok_law_draw T) hr (by rfl) T.g_law_draw T.F_law_draw.kp T.b_law_draw .nil pass0 (pa_cons (pv 0) (pa_cons (pe_op op_sub (pv 1) pe_int) pa_nil)))) pa_nil)) (pv 1)))
        (pss_one (ps_expr (pe_bm PySem.F.plainAttrs_list PySem.F.slot_list_append PySem.F.type_list_append mt_append (pv 3) (pa_cons (pe_tup (pa_cons (pv 5) (pa_cons (pv 6) pa_nil))) pa_nil)))))))
      (pss_one (ps_ret (pv 3)))))), ?_⟩
    walk_at "lw go"
    rename_i T1 H1 f1 e1 h1
    refine ifD ?_ ?_ <;> intro hn
    · walk_at "lw go"
      exact k T1 H1 [] e1 ⟨[], h1, .nil⟩ (Nat.zero_le _)
    walk_at "lw go"
    refine for_r (fun i σ' H' => ∃ v4 v5 v6 zs l, σ' = [some (.ref p), some (.int n), some (.int m), some (.ref T1), v4, v5, v6] ∧ Ex (WP p c) H H' ∧ At (WP p c) H' T1 (.lst zs) ∧ PrAs (WP p c) H' zs l ∧ l.length ≤ i) ⟨_, _, _, [], [], rfl, e1, h1, .nil, Nat.le_refl _⟩ ?_ ?_
    · rintro i σ' H2 hi ⟨v4, v5, v6, zs, l, rfl, e2, h2, q2, l2⟩
      have iv2 := e2.iv
      have zl := q2.length
      walk_at "lw go"
      rename_i r3 H3 e3 l3 u3 r4 H4 e4 l4 u4 t7 H7 f7 e7 h7 H8 e8 h8 o8
      have e27 := (e3.trans e4).trans e7
      have kt : ∀ q us, At (WP p c) H7 q (.tup us) → At (WP p c) H8 q (.tup us) := fun q us hq => o8 _ _ (hq.ne (e27.at_ h2) fun z => by cases z) hq
      exact ⟨_, _, _, _, l ++ [(r3, (r3 + 1 + r4) % n)], rfl, e8, h8, F2.snoc ((q2.ex e27).keepT kt) ⟨t7, rfl, kt _ _ h7⟩, by rw [List.length_append, List.length_singleton]; omega⟩
    rintro σ' H2 ⟨v4, v5, v6, zs, l, rfl, e2, h2, q2, l2⟩
    walk_at "lw go"
    exact k T1 H2 l e2 ⟨zs, h2, q2⟩ (by omega)

theorem ok_law_shape (T : Tx K mg) : FnOk P w K mg base CX0 3 T.f_law_shape T.fd_law_shape ["pen", "many", "order"] (sp_law_shape) := by
  refine T.F_law_shape.ok sc_law_shape (fun vs H Q E h => ?_) (fun cdv A outer s H vs Q E hr h => ?_)
  · obtain ⟨p, c, a, n, os, rfl, n8, iv, h, ol, k⟩ := h
    rfl
  · obtain ⟨p, c, a, n, os, rfl, n8, iv, h, ol, k⟩ := h
    refine ⟨_, (pss_cons (ps_set (i := 3) sc_law_shape.nd rfl (by first | exact Or.inl rfl | exact Or.inr rfl) (pe_call (ok_law_draw T) (hr.mono (by decide)) (by rfl) T.g_law_draw T.F_law_draw.kp T.b_law_draw .nil pass0 (pa_cons (pv 0) (pa_cons pe_int pa_nil))))
      (pss_cons (ps_if (PW.pt (pw_or (pt_cmpR op_eq (pv 3) pe_int (nomark _)) (pw_or1 (pt_cmpR op_lt (pv 1) pe_int (nomark _)))))
        (pss_one (ps_ret (pe_lst pa_nil)))
        pss_nil)
      (pss_cons (ps_if (PW.pt (pw_or (pt_cmpR op_eq (pv 3) pe_int (nomark _)) (pw_or1 (pt_cmpR op_eq (pv 3) pe_int (nomark _)))))
        (pss_one (ps_ret (pe_slice (r := rSlL K) sl_list (pe_call (ok_law_ring T) (hr.mono (by decide)) (by rfl) T.g_law_ring T.F_law_ring.kp T.b_law_ring .nil pass0 (pa_cons (pv 2) pa_nil)) po_none (po_some (pe_op op_add (pe_op op_sub (pv 1) (pv 3)) pe_int)))))
        pss_nil)
      (pss_cons (ps_if (pt_cmpR op_eq (pv 3) pe_int (nomark _))
        (pss_cons (ps_set (i := 4) sc_law_shape.nd rfl (by first | exact Or.inl rfl | exact Or.inr rfl) (pe_lst pa_nil))
        (pss_cons (ps_for PassesOwn.never rfl (pi_range2 rfl T.n_range (pa_cons pe_int (pa_cons (pv 1) pa_nil))) (pg_name (i := 5) sc_law_shape.nd rfl (by first | exact Or.inl rfl | exact Or.inr rfl))
          (pss_one (ps_if (pt_cmpR op_eq (pe_call (ok_law_draw T) (hr.mono (by decide)) (by rfl) T.g_law_draw T.F_law_draw.kp T.b_law_draw .nil pass0 (pa_cons (pv 0) (pa_cons pe_int pa_nil))) pe_int (nomark _))
            (pss_one (ps_expr (pe_bm PySem.F.plainAttrs_list PySem.F.slot_list_append PySem.F.type_list_append mt_append (pv 4) (pa_cons (pe_tup (pa_cons (pe_ix (r := rIxL K) ix_list (pv 2) pe_int (fun _ _ => rfl)) (pa_cons (pe_ix (r := rIxL K) ix_list (pv 2) (pv 5) (fun _ _ => rfl)) pa_nil))) pa_nil))))
            (pss_one (ps_expr (pe_bm PySem.F.plainAttrs_list PySem.F.slot_list_append PySem.F.type_list_append mt_append (pv 4) (pa_cons (pe_tup (pa_cons (pe_ix (r := rIxL K) ix_list (pv 2) (pv 5) (fun _ _ => rfl)) (pa_cons (pe_ix (r := rIxL K) ix_list (pv 2) pe_int (fun _ _ => rfl)) pa_nil))) pa_nil)))))))
        (pss_one (ps_ret (pv 4)))))
        pss_nil)
      (pss_cons (ps_set (i := 6) sc_law_shape.nd rfl (by first | exact Or.inl rfl | exact Or.inr rfl) (pe_op op_fdiv (pv 1) pe_int))
      (pss_cons (ps_if (pt_cmpR op_eq (pv 3) pe_int (nomark _))
        (pss_one (ps_ret (pe_op op_cat (pe_op op_cat (pe_call (ok_law_ring T) (hr.mono (by decide)) (by rfl) T.g_law_ring T.F_law_ring.kp T.b_law_ring .nil pass0 (pa_cons (pe_slice (r := rSlL K) sl_list (pv 2) po_none (po_some (pv 6))) pa_nil)) (pe_call (ok_law_ring T) (hr.mono (by decide)) (by rfl) T.g_law_ring T.F_law_ring.kp T.b_law_ring .nil pass0 (pa_cons (pe_slice (r := rSlL K) sl_list (pv 2) (po_some (pv 6)) po_none) pa_nil))) (pe_lst (pa_cons (pe_tup (pa_cons (pe_ix (r := rIxL K) ix_list (pv 2) pe_int (fun _ _ => rfl)) (pa_cons (pe_ix (r := rIxL K) ix_list (pv 2) (pv 6) (fun _ _ => rfl)) pa_nil))) pa_nil)))))
        pss_nil)
      (pss_cons (ps_if (pt_cmpR op_eq (pv 3) pe_int (nomark _))
        (pss_one (ps_ret (pe_lc (own := [("pair", 7)]) rfl sc_law_shape.nd (pi_list (pe_call (ok_law_every T) (hr.mono (by decide)) (by rfl) T.g_law_every T.F_law_every.kp T.b_law_every .nil pass0 (pa_cons (pv 1) pa_nil))) (blkOk_by (own := [("pair", 7)]) (N := N_law_shape) (sc := (defScope s_law_shape)) (by decide +kernel)) (fun _ _ _ _ _ => (pg_name (i := 7) sc_law_shape.nd rfl (by first | exact Or.inl rfl | exact Or.inr rfl))) (fun _ _ _ _ _ => (pts_one (pt_cmpR (r := rNeD K) (op_neD hr.units) (pv 7) (pe_tup (pa_cons (pe_ix (r := rIxL K) ix_list (pv 2) pe_int (fun _ _ => rfl)) (pa_cons (pe_ix (r := rIxL K) ix_list (pv 2) pe_int (fun _ _ => rfl)) pa_nil))) (nomark _)))) (fun _ _ _ _ _ => (pv 7)))))
        pss_nil)
      (pss_one (ps_ret (pe_call (ok_law_drawn T) hr (by rfl) T.g_law_drawn T.F_law_drawn.kp T.b_law_drawn .nil pass0 (pa_cons (pv 0) (pa_cons (pv 1) (pa_cons (pe_ix (r := rIxL K) ix_list (pe_lst (pa_cons pe_int (pa_cons (pv 1) (pa_cons (pe_op op_mul pe_int (pv 1)) (pa_cons (pe_op op_mul pe_int (pv 1)) pa_nil))))) (pe_call (ok_law_draw T) (hr.mono (by decide)) (by rfl) T.g_law_draw T.F_law_draw.kp T.b_law_draw .nil pass0 (pa_cons (pv 0) (pa_cons pe_int pa_nil))) (fun _ _ => rfl)) pa_nil))))))))))))), ?_⟩
    walk_at "lw go"
    rename_i sh H1 e1 l1 u1
    have h1 := e1.at_ h
    have iv1 := e1.iv
    have lm : (os.map V.int).length = n := by rw [List.length_map]; exact ol
    have fin0 : ∀ H2 t, Ex (WP p c) H1 H2 → At (WP p c) H2 t (.lst []) → Q (.ref t) H2 := fun H2 t e2 h2 => k t H2 [] (e1.trans e2) ⟨[], h2, .nil⟩ (Nat.zero_le _)
    refine ifI ?_ ?_ <;> intro s0
    · walk_at "lw gi"
      rename_i t H2 f2 e2 h2
      exact fin0 H2 t e2 h2
    walk_at "lw gi"
    refine ifD ?_ ?_ <;> intro hn
    · walk_at "lw gi"
      rename_i t H2 f2 e2 h2
      exact fin0 H2 t e2 h2
    have at0 : ∃ z : Int, atI (os.map V.int) 0 = some (.int z) := by
      cases os with
      | nil => simp at ol; omega
      | cons z zs => exact ⟨z, at_0⟩
    obtain ⟨z0, a0⟩ := at0
    have atj : ∀ j : Int, 0 ≤ j → j < n → ∃ z : Int, atI (os.map V.int) j = some (.int z) := fun j j0 j1 => ⟨os[j.toNat]'(by omega), at_in j0 (by rw [List.getElem?_map, List.getElem?_eq_getElem (by omega)]; rfl)⟩
    walk_at "lw gi"
    refine ifI ?_ ?_ <;> intro s1
    · walk_at "lw gi"
      refine ⟨WP p c, a, os, rfl, iv1, h1, by omega, fun t H2 l e2 r2 l2 => ?_⟩
      obtain ⟨xs, tx, tq⟩ := r2
      have iv2 := e2.iv
      walk_at "lw gi"
      rename_i q H3 f3 e3 h3
      exact k q H3 _ ((e1.trans e2).trans e3) ⟨_, h3, by rw [cut_to _ _ (by omega)]; exact F2.take _ (tq.ex e3)⟩ (by rw [List.length_take]; omega)
    walk_at "lw gi"
    refine ifI ?_ ?_ <;> intro s2
    · walk_at "lw gi"
      refine ⟨WP p c, a, os, rfl, iv1, h1, by omega, fun t H2 l e2 r2 l2 => ?_⟩
      obtain ⟨xs, tx, tq⟩ := r2
      have iv2 := e2.iv
      walk_at "lw gi"
      rename_i q H3 f3 e3 h3
      exact k q H3 _ ((e1.trans e2).trans e3) ⟨_, h3, by rw [cut_to _ _ (by omega)]; exact F2.take _ (tq.ex e3)⟩ (by rw [List.length_take]; omega)
    walk_at "lw gi"
    refine ifI ?_ ?_ <;> intro s3
    · walk_at "lw gi"
      rename_i T1 H2 f2 e2 h2
      refine rd_forR2a (by decide) (by decide) (by omega) (by omega) ?_
      refine for_r (fun i σ' H' => ∃ v5 zs l, σ' = [some (.ref p), some (.int n), some (.ref a), some (.int sh), some (.ref T1), v5, none, none] ∧ Ex (WP p c) H1 H' ∧ At (WP p c) H' T1 (.lst zs) ∧ PrAs (WP p c) H' zs l ∧ l.length ≤ i) ⟨_, [], [], rfl, e2, h2, .nil, Nat.le_refl _⟩ ?_ ?_
      · rintro i σ' H3 hi ⟨v5, zs, l, rfl, e3, h3, q3, l3⟩
        have iv3 := e3.iv
        have h13 := e3.at_ h1
        have zl := q3.length
        obtain ⟨z1, ax⟩ := atj (1 + (i : Nat)) (by omega) (by omega)
        walk_at "lw gi"
        refine ifI ?_ ?_ <;> intro d1
        · walk_at "lw gi"
          rename_i r4 H4 e4 l4 u4 t7 H7 f7 e7 h7 H8 e8 h8 o8
          have e47 := e4.trans e7
          have kt : ∀ q us, At (WP p c) H7 q (.tup us) → At (WP p c) H8 q (.tup us) := fun q us hq => o8 _ _ (hq.ne (e47.at_ h3) fun z => by cases z) hq
          exact ⟨_, _, l ++ [(z0, z1)], rfl, e8, h8, F2.snoc ((q3.ex e47).keepT kt) ⟨t7, rfl, kt _ _ h7⟩, by rw [List.length_append, List.length_singleton]; omega⟩
        · walk_at "lw gi"
          rename_i r4 H4 e4 l4 u4 t7 H7 f7 e7 h7 H8 e8 h8 o8
          have e47 := e4.trans e7
          have kt : ∀ q us, At (WP p c) H7 q (.tup us) → At (WP p c) H8 q (.tup us) := fun q us hq => o8 _ _ (hq.ne (e47.at_ h3) fun z => by cases z) hq
          exact ⟨_, _, l ++ [(z1, z0)], rfl, e8, h8, F2.snoc ((q3.ex e47).keepT kt) ⟨t7, rfl, kt _ _ h7⟩, by rw [List.length_append, List.length_singleton]; omega⟩
      rintro σ' H3 ⟨v5, zs, l, rfl, e3, h3, q3, l3⟩
      walk_at "lw gi"
      exact k T1 H3 l (e1.trans e3) ⟨zs, h3, q3⟩ (by omega)
    walk_at "lw gi"
    refine ifI ?_ ?_ <;> intro s4
    · walk_at "lw gi"
      rename_i s2' H2 f2 e2 h2
      have hh : 0 ≤ (n : Int) / 2 ∧ (n : Int) / 2 < n := by omega
      rw [cut_to _ _ hh.1, ← List.map_take] at h2
      refine ⟨WP p c, _, os.take ((n : Int) / 2).toNat, rfl, e2.iv, h2, by rw [List.length_take]; omega, fun t3 H3 l3 e3 r3 n3 => ?_⟩
      have iv3 := e3.iv
      have h13 := e3.at_ (e2.at_ h1)
      walk_at "lw gi"
      rename_i s4' H4 f4 e4 h4
      rw [cut_from _ _ hh.1, ← List.map_drop] at h4
      refine ⟨WP p c, _, os.drop ((n : Int) / 2).toNat, rfl, e4.iv, h4, by rw [List.length_drop]; omega, fun t5 H5 l5 e5 r5 n5 => ?_⟩
      have e35 := e4.trans e5
      obtain ⟨xs3, tx3, tq3⟩ := r3.mono e35
      obtain ⟨xs5, tx5, tq5⟩ := r5
      have iv5 := e5.iv
      have lx3 := tq3.length
      have lx5 := tq5.length
      have h15 := e35.at_ h13
      obtain ⟨z2, ah⟩ := atj ((n : Int) / 2) hh.1 hh.2
      walk_at "lw gi"
      rename_i w6 H6 f6 e6 h6 t7 H7 f7 e7 h7 u8 H8 f8 e8 h8 w9 H9 f9 e9 h9
      have e59 := ((e6.trans e7).trans e8).trans e9
      exact k w9 H9 ((l3 ++ l5) ++ [(z0, z2)]) ((((e1.trans e2).trans e3).trans e35).trans e59) ⟨_, h9, F2.snoc (F2.append (tq5.ex e59) (tq3.ex e59)) ⟨t7, rfl, (e8.trans e9).at_ h7⟩⟩ (by rw [List.length_append, List.length_append, List.length_singleton]; omega)
    walk_at "lw gi"
    refine ifI ?_ ?_ <;> intro s5
    · walk_at "lw gi"
      refine ⟨WP p c, n, rfl, n8, iv1, fun E H2 fE e2 r2 => ?_⟩
      obtain ⟨es, hE, qE⟩ := r2
      have lE := qE.length
      have nE := n64 n8 neR
      have iv2 := e2.iv
      have h12 := e2.at_ h1
      obtain ⟨z1, a1'⟩ := atj 1 (by decide) (by omega)
      walk_at "lw gi"
      refine ⟨E, rfl, ⟨_, hE.sl⟩, lc_wL ?_⟩
      refine lc_w (W := WP p c) (X := fun i x => es[i]? = some x) (n := es.length) walk_list (fun i ys Hh => PrAs (WP p c) Hh ys (((prI n neR).take i).filter fun z => !decide (z = (z0, z1)))) iv2 (by omega) (fun H' e => (e.at_ hE).sl) (fun _ _ _ _ e q => q.ex e) .nil ?_ ?_
      · rintro i x D zs H' QV QN hn' hx hD hDa e8 q8 _ qv qn
        obtain ⟨pr, hpr, hp⟩ := qE.get hx
        have hp' := hp.ex e8
        have h18 := e8.at_ h12
        walk_at "lw gi"
        rename_i t9 H9 f9 e9 h9
        refine rd_neD2 (W := WP p c) (hp'.ex e9).dw (PrA.dw (p := (z0, z1)) ⟨t9, rfl, h9⟩) (shp_pair _) (shp_pair _) ?_
        rw [eqv_pair]
        walk_at "lw gi"
        refine ifN ?_ ?_ <;> intro hin
        · walk_at "lw gi"
          refine qv _ _ e9 ?_
          have fl : List.filter (fun z : I2 => !decide (z = (z0, z1))) [pr] = [pr] := List.filter_cons_of_pos (by rw [decide_eq_false hin]; rfl)
          rw [List.take_add_one, hpr, List.filter_append]
          show PrAs _ _ _ (_ ++ List.filter _ [pr])
          rw [fl]
          exact F2.snoc (q8.ex (hide_ex e9 hDa)) ((hp'.ex e9).hide e9.iv (e9.at_ hDa))
        · refine qn _ e9 ?_
          have fl : List.filter (fun z : I2 => !decide (z = (z0, z1))) [pr] = [] := List.filter_cons_of_neg (by rw [decide_eq_true hin]; decide)
          rw [List.take_add_one, hpr, List.filter_append]
          show PrAs _ _ _ (_ ++ List.filter _ [pr])
          rw [fl, List.append_nil]
          exact q8.ex (hide_ex e9 hDa)
      rintro D H8 zs hD e8 h8 q8 lz
      walk_at "lw gi"
      exact k D H8 _ ((e1.trans e2).trans e8) ⟨zs, h8, q8⟩ (Nat.le_trans (List.length_filter_le ..) (by rw [List.length_take]; omega))
    walk_at "lw gi"
    rename_i u2 H2 f2 e2 h2 r3 H3 e3 l3 u3 v hv
    obtain ⟨m, rfl, m0, m24⟩ : ∃ m : Int, v = .int m ∧ 0 ≤ m ∧ m ≤ 24 := by
      simp only [List.mem_cons, List.not_mem_nil, or_false] at hv
      rcases hv with rfl | rfl | rfl | rfl
      · exact ⟨_, rfl, by decide, by decide⟩
      · exact ⟨_, rfl, by omega, by omega⟩
      · exact ⟨_, rfl, by omega, by omega⟩
      · exact ⟨_, rfl, by omega, by omega⟩
    exact ⟨p, c, n, m, rfl, n8, m0, m24, e3.iv, fun t H4 l e4 r4 n4 => k t H4 l (((e1.trans e2).trans e3).trans e4) r4 (by omega)⟩

theorem ok_law_pairs (T : Tx K mg) : FnOk P w K mg base CX0 4 T.f_law_pairs T.fd_law_pairs ["pen", "many"] (sp_law_pairs) := by
  refine T.F_law_pairs.ok sc_law_pairs (fun vs H Q E h => ?_) (fun cdv A outer s H vs Q E hr h => ?_)
  · obtain ⟨p, c, n, rfl, n8, iv, k⟩ := h
    rfl
  · obtain ⟨p, c, n, rfl, n8, iv, k⟩ := h
    refine ⟨_, (pss_cons (ps_set (i := 2) sc_law_pairs.nd rfl (by first | exact Or.inl rfl | exact Or.inr rfl) (pe_call (ok_law_shape T) hr (by rfl) T.g_law_shape T.F_law_shape.kp T.b_law_shape .nil pass0 (pa_cons (pv 0) (pa_cons (pv 1) (pa_cons (pe_call (ok_law_order T) (hr.mono (by decide)) (by rfl) T.g_law_order T.F_law_order.kp T.b_law_order .nil pass0 (pa_cons (pv 0) (pa_cons (pv 1) pa_nil))) pa_nil)))))
      (pss_cons (ps_set (i := 2) sc_law_pairs.nd rfl (by first | exact Or.inl rfl | exact Or.inr rfl) (pe_op op_cat (pv 2) (pe_call (ok_law_drawn T) (hr.mono (by decide)) (by rfl) T.g_law_drawn T.F_law_drawn.kp T.b_law_drawn .nil pass0 (pa_cons (pv 0) (pa_cons (pv 1) (pa_cons (pe_ix (r := rIxL K) ix_list (pe_lst (pa_cons pe_int (pa_cons pe_int (pa_cons pe_int (pa_cons pe_int pa_nil))))) (pe_call (ok_law_draw T) (hr.mono (by decide)) (by rfl) T.g_law_draw T.F_law_draw.kp T.b_law_draw .nil pass0 (pa_cons (pv 0) (pa_cons pe_int pa_nil))) (fun _ _ => rfl)) pa_nil))))))
      (pss_one (ps_ret (pe_lc (own := [("pair", 3)]) rfl sc_law_pairs.nd (pi_list (pe_call (ok_law_every T) (hr.mono (by decide)) (by rfl) T.g_law_every T.F_law_every.kp T.b_law_every .nil pass0 (pa_cons (pv 1) pa_nil))) (blkOk_by (own := [("pair", 3)]) (N := N_law_pairs) (sc := (defScope s_law_pairs)) (by decide +kernel)) (fun _ _ _ _ _ => (pg_name (i := 3) sc_law_pairs.nd rfl (by first | exact Or.inl rfl | exact Or.inr rfl))) (fun _ _ _ _ _ => (pts_one (pt_cmpR (r := rInD K) (op_inD (hu65 hr)) (pv 3) (pv 2) (by rfl)))) (fun _ _ _ _ _ => (pv 3))))))), ?_⟩
    walk_at "lw go"
    refine ⟨p, c, n, rfl, n8, iv, fun a H1 os e1 h1 ol => ?_⟩
    walk_at "lw go"
    refine ⟨p, c, a, n, os, rfl, n8, e1.iv, h1, ol, fun t H2 l e2 r2 l2 => ?_⟩
    have iv2 := e2.iv
    walk_at "lw go"
    rename_i q3 H3 f3 e3 h3 r4 H4 e4 l4 u4 v hv
    obtain ⟨m, rfl, m0, m24⟩ : ∃ m : Int, v = .int m ∧ 0 ≤ m ∧ m ≤ 24 := by
      simp only [List.mem_cons, List.not_mem_nil, or_false] at hv
      rcases hv with rfl | rfl | rfl | rfl
      · exact ⟨_, rfl, by decide, by decide⟩
      · exact ⟨_, rfl, by decide, by decide⟩
      · exact ⟨_, rfl, by decide, by decide⟩
      · exact ⟨_, rfl, by decide, by decide⟩
    refine ⟨p, c, n, m, rfl, n8, m0, m24, e4.iv, fun u H5 l' e5 r5 l5 => ?_⟩
    have e25 := (e3.trans e4).trans e5
    obtain ⟨xs, tx, tq⟩ := r2.mono e25
    obtain ⟨ys, ux, uq⟩ := r5
    have iv5 := e5.iv
    have lx := tq.length
    have ly := uq.length
    walk_at "lw go"
    rename_i w H6 f6 e6 h6
    have e26 := e25.trans e6
    have q6 : PrAs (WP p c) H6 (xs ++ ys) (l ++ l') := F2.append (uq.ex e6) (tq.ex e6)
    refine ⟨WP p c, n, rfl, n8, e6.iv, fun E H7 fE e7 r7 => ?_⟩
    obtain ⟨es, hE, qE⟩ := r7
    have h67 := e7.at_ h6
    have q7 := q6.ex e7
    have lE := qE.length
    have nE := n64 n8 neR
    have iv7 := e7.iv
    walk_at "lw go"
    refine ⟨E, rfl, ⟨_, hE.sl⟩, lc_wL ?_⟩
    refine lc_w (W := WP p c) (X := fun i x => es[i]? = some x) (n := es.length) walk_list (fun i ys Hh => PrAs (WP p c) Hh ys (((prI n neR).take i).filter fun z => decide (z ∈ l ++ l'))) iv7 (by omega) (fun H' e => (e.at_ hE).sl) (fun _ _ _ _ e q => q.ex e) .nil ?_ ?_
    · rintro i x D zs H' QV QN hn hx hD hDa e8 q8 _ qv qn
      obtain ⟨pr, hpr, hp⟩ := qE.get hx
      have hp' := hp.ex e8
      walk_at "lw go"
      refine rd_inLD (W := WP p c) hp'.dw (.lst (e8.at_ h67) (q7.ex e8).dw) (shp_pair _) (shp_lst _) ?_
      rw [any_pairs]
      walk_at "lw go"
      refine ifD ?_ ?_ <;> intro hin
      · walk_at "lw go"
        refine qv _ _ (Ex.refl e8.iv) ?_
        have fl : List.filter (fun z => decide (z ∈ l ++ l')) [pr] = [pr] := List.filter_cons_of_pos (decide_eq_true hin)
        rw [List.take_add_one, hpr, List.filter_append]
        show PrAs _ _ _ (_ ++ List.filter _ [pr])
        rw [fl]
        exact F2.snoc q8 (hp'.hide e8.iv hDa)
      · refine qn _ (Ex.refl e8.iv) ?_
        have fl : List.filter (fun z => decide (z ∈ l ++ l')) [pr] = [] := List.filter_cons_of_neg (by rw [decide_eq_false hin]; decide)
        rw [List.take_add_one, hpr, List.filter_append]
        show PrAs _ _ _ (_ ++ List.filter _ [pr])
        rw [fl, List.append_nil]
        exact q8
    rintro D H8 zs hD e8 h8 q8 lz
    rw [lE, List.take_length, filter_prI] at q8
    walk_at "lw go"
    exact k D H8 _ (((e1.trans e2).trans (e26.trans e7)).trans e8) (fun x y hx hy z => neR_irr n x y hx hy ((Bool.and_eq_true _ _).mp z).1) ⟨zs, h8, q8⟩

theorem ok_law_table (T : Tx K mg) : FnOk P w K mg base CX0 1 T.f_law_table T.fd_law_table ["rows"] (sp_law_table) := by
  refine T.F_law_table.ok sc_law_table (fun vs H Q E h => ?_) (fun cdv A outer s H vs Q E hr h => ?_)
  · obtain ⟨W, a, n, r, rfl, n8, iv, hrw, k⟩ := h
    rfl
  · obtain ⟨W, a, n, r, rfl, n8, iv, hrw, k⟩ := h
    refine ⟨_, (pss_cons (ps_set (i := 1) sc_law_table.nd rfl (by first | exact Or.inl rfl | exact Or.inr rfl) pe_dnewT)
      (pss_cons (ps_for PassesOwn.never rfl (pi_list (pv 0)) (pg_name (i := 2) sc_law_table.nd rfl (by first | exact Or.inl rfl | exact Or.inr rfl))
        (pss_one (ps_dput (hu_of hr) (pv 1) (pv 2) pe_bl rfl)))
      (pss_one (ps_ret (pv 1))))), ?_⟩
    obtain ⟨xs, h, q⟩ := hrw
    walk_at "lw go"
    refine rd_dnT iv fun t H1 f1 e1 h1 => ?_
    have l8 := n64 n8 r
    have xl := q.length
    have ha1 := e1.at_ h
    walk_at "lw go"
    refine for_l (W := W) (a := a) (xs := xs) (fun i σ' H' => ∃ v2 kvs, σ' = [some (.ref a), some (.ref t), v2] ∧ Ex W H H' ∧ At W H' t (.dT kvs) ∧ kvs.length ≤ i ∧ ∀ x y : Int, (valV kvs [.inl x, .inl y]).isSome = decide ((x, y) ∈ (prI n r).take i)) ⟨_, [], rfl, e1, h1, Nat.le_refl _, fun _ _ => rfl⟩ (fun i σ' H' _ ⟨_, _, _, e, _⟩ => e.at_ h) ?_ ?_
    · rintro i x σ' H2 hx ⟨v2, kvs, rfl, e2, h2, l2, i2⟩
      obtain ⟨pr, hpr, hp⟩ := q.get hx
      obtain ⟨b, rfl, hb⟩ := hp.ex e2
      have hi2 := (List.getElem?_eq_some_iff.mp hx).1
      walk_at "lw go"
      refine rd_dpT (W := W) (k := [.inl pr.1, .inl pr.2]) e2 f1 h2 hb rfl (by omega) fun H7 e7 h7 o7 => ?_
      refine ⟨_, _, rfl, e7, h7, Nat.le_trans (length_putK _ _ _) (by omega), fun x y => ?_⟩
      rw [valV_put, List.take_add_one, hpr]
      by_cases c : (x, y) = pr
      · subst c
        rw [if_pos rfl]
        exact (decide_eq_true (List.mem_append_right _ (List.mem_singleton.mpr rfl))).symm
      · rw [if_neg (fun z => c (by injection z with z1 z2; injection z2 with z2 _; injection z1 with z1; injection z2 with z2; rw [z1, z2])), i2, Bool.eq_iff_iff, decide_eq_true_iff, decide_eq_true_iff, List.mem_append]
        exact ⟨.inl, fun z => z.elim id fun z => absurd (List.mem_singleton.mp z) c⟩
    rintro σ' H2 ⟨v2, kvs, rfl, e2, h2, l2, i2⟩
    rw [xl, List.take_length] at i2
    walk_at "lw go"
    exact k t H2 kvs f1 e2 h2 (by omega) fun x y hx hy => by rw [i2]; exact ofI_prI hx hy

theorem ok_law_closed (T : Tx K mg) : FnOk P w K mg base CX0 2 T.f_law_closed T.fd_law_closed ["many", "rows"] (sp_law_closed) := by
  refine T.F_law_closed.ok sc_law_closed (fun vs H Q E h => ?_) (fun cdv A outer s H vs Q E hr h => ?_)
  · obtain ⟨W, a, n, r, rfl, n8, iv, hrw, k⟩ := h
    rfl
  · obtain ⟨W, a, n, r, rfl, n8, iv, hrw, k⟩ := h
    refine ⟨_, (pss_cons (ps_set (i := 2) sc_law_closed.nd rfl (by first | exact Or.inl rfl | exact Or.inr rfl) (pe_call (ok_law_table T) hr (by rfl) T.g_law_table T.F_law_table.kp T.b_law_table .nil pass0 (pa_cons (pv 1) pa_nil)))
      (pss_cons (ps_set (i := 3) sc_law_closed.nd rfl (by first | exact Or.inl rfl | exact Or.inr rfl) (pe_lst pa_nil))
      (pss_cons (ps_for PassesOwn.never rfl (pi_range1 rfl T.n_range (pa_cons (pv 0) pa_nil)) (pg_name (i := 4) sc_law_closed.nd rfl (by first | exact Or.inl rfl | exact Or.inr rfl))
        (pss_cons (ps_set (i := 5) sc_law_closed.nd rfl (by first | exact Or.inl rfl | exact Or.inr rfl) (pe_lst (pa_cons (pv 4) pa_nil)))
        (pss_cut (ps_for PassesOwn.never rfl (pi_range1 rfl T.n_range (pa_cons (pv 0) pa_nil)) (pg_name (i := 6) sc_law_closed.nd rfl (by first | exact Or.inl rfl | exact Or.inr rfl))
          (pss_cons (ps_if (pt_cmpR op_ge (pv 6) (pe_callB (r := Lw.rLen K) c_len (by rfl) T.n_len PySem.boot_len (pa_cons (pv 5) pa_nil)) (nomark _))
            (pss_one ps_break)
            pss_nil)
          (pss_one (ps_for PassesOwn.never rfl (pi_range1 rfl T.n_range (pa_cons (pv 0) pa_nil)) (pg_name (i := 7) sc_law_closed.nd rfl (by first | exact Or.inl rfl | exact Or.inr rfl))
            (pss_one (ps_if (PW.pt (pw_and (pt_cmp (pc_din (hu_of hr) (pe_tup (pa_cons (pe_ix (r := rIxL K) ix_list (pv 5) (pv 6) (fun _ _ => rfl)) (pa_cons (pv 7) pa_nil))) (pv 2))) (pw_and1 (pt_cmpR (r := rIn K true) op_notIn_seq (pv 7) (pv 5) (by rfl)))))
              (pss_one (ps_expr (pe_bm PySem.F.plainAttrs_list PySem.F.slot_list_append PySem.F.type_list_append mt_append (pv 5) (pa_cons (pv 7) pa_nil))))
              pss_nil))))))
        (pss_one (ps_set (i := 3) sc_law_closed.nd rfl (by first | exact Or.inl rfl | exact Or.inr rfl) (pe_op op_cat (pv 3) (pe_lc (own := [("z", 7)]) rfl sc_law_closed.nd (pi_range1 rfl T.n_range (pa_cons (pv 0) pa_nil)) (blkOk_by (own := [("z", 7)]) (N := N_law_closed) (sc := (defScope s_law_closed)) (by decide +kernel)) (fun _ _ _ _ _ => (pg_name (i := 7) sc_law_closed.nd rfl (by first | exact Or.inl rfl | exact Or.inr rfl))) (fun _ _ _ _ _ => (pts_one (PW.pt (pw_and (pt_cmpR op_ne (pv 7) (pv 4) (nomark _)) (pw_and1 (pt_cmpR (r := rIn K false) op_in_seq (pv 7) (pv 5) (by rfl))))))) (fun _ _ _ _ _ => (pe_tup (pa_cons (pv 4) (pa_cons (pv 7) pa_nil)))))))))))
      (pss_one (ps_ret (pv 3)))))), ?_⟩
    have tn : ((n : Nat) : Int).toNat = n := Int.toNat_natCast n
    walk_at "lw go"
    refine ⟨W, a, n, r, rfl, n8, iv, hrw, fun t H1 kvs f1 e1 h1 l1 i1 => ?_⟩
    have iv1 := e1.iv
    walk_at "lw go"
    rename_i T0 H2 f2 e2 h2
    have e02 := e1.trans e2
    have t2 := e2.at_ h1
    have key : ∀ {H3 : Hp} {q : Addr} {x y : Nat}, x < n → y < n → Ex W H2 H3 → ∀ {Q2 : VK}, At W H3 q (.tup [.int (x : Nat), .int (y : Nat)]) → Q2 (.bl (r x y)) H3 → DInG Q2 false (.ref t) (.ref q) H3 := fun {H3 q x y} hx hy e {Q2} hq z => by
      rw [← i1 x y hx hy] at z
      exact rd_diT (k := [.inl (x : Int), .inl (y : Int)]) (e.at_ t2) hq rfl z
    rw [tn]
    refine for_r (fun x σ' H' => ∃ T1 zs v4 v5 v6 v7, σ' = [some (.int n), some (.ref a), some (.ref t), some (.ref T1), v4, v5, v6, v7] ∧ Ex W H2 H' ∧ At W H' T1 (.lst zs) ∧ PrAs W H' zs ((prsTo n (clo n r) x).map nI)) ⟨T0, [], _, _, _, _, rfl, Ex.refl e2.iv, h2, .nil⟩ ?_ ?_
    · rintro x σ' H3 hx ⟨T1, zs, v4, v5, v6, v7, rfl, e3, h3, q3⟩
      have iv3 := e3.iv
      walk_at "lw go"
      rename_i M H4 f4 e4 h4
      have fM : H3 M = none := f4
      refine rd_cut (fun σ' H' => ∃ (ms : List Nat) (v6 v7 : Option V), σ' = [some (.int n), some (.ref a), some (.ref t), some (.ref T1), some (.int (0 + (x : Nat))), some (.ref M), v6, v7] ∧ Ex W H3 H' ∧ At W H' M (.lst (ms.map fun m : Nat => V.int m)) ∧ ∀ z : Nat, z < n → (z ∈ ms ↔ z = x ∨ Pa r n x z = true)) ?_ ?_
      · walk_at "lw go"
        rw [tn]
        refine for_r (fun i σ' H' => ∃ (ms : List Nat) (v6 v7 : Option V), σ' = [some (.int n), some (.ref a), some (.ref t), some (.ref T1), some (.int (0 + (x : Nat))), some (.ref M), v6, v7] ∧ Ex W H3 H' ∧ At W H' M (.lst (ms.map fun m : Nat => V.int m)) ∧ Met n r x i 0 ms) ⟨[x], _, _, rfl, e4, by rw [Int.zero_add] at h4; exact h4, Met.start hx⟩ ?_ ?_
        · rintro i σ' H5 hi ⟨ms, v6, v7, rfl, e5, h5, M5⟩
          have iv5 := e5.iv
          walk_at "lw go"
          rw [List.length_map]
          refine ifD ?_ ?_ <;> intro c1
          · walk_at "lw go"
            exact ⟨ms, _, _, rfl, e5, h5, fun z hz => M5.fin hx (by omega) hz⟩
          obtain ⟨m, hm⟩ : ∃ m, ms[i]? = some m := ⟨ms[i]'(by omega), List.getElem?_eq_getElem (by omega)⟩
          have hmn := M5.lt m (List.mem_of_getElem? hm)
          walk_at "lw go"
          rw [tn]
          refine for_r (fun k σ' H' => ∃ (ms : List Nat) (v7 : Option V), σ' = [some (.int n), some (.ref a), some (.ref t), some (.ref T1), some (.int (0 + (x : Nat))), some (.ref M), some (.int (0 + (i : Nat))), v7] ∧ Ex W H3 H' ∧ At W H' M (.lst (ms.map fun m : Nat => V.int m)) ∧ Met n r x i k ms ∧ ms[i]? = some m) ⟨ms, _, rfl, e5, h5, M5, hm⟩ ?_ ?_
          · rintro z σ' H6 hz ⟨ms, v7, rfl, e6, h6, M6, hm6⟩
            have iv6 := e6.iv
            have am : atI (ms.map fun m : Nat => V.int m) (0 + (i : Nat)) = some (.int (m : Nat)) := at_in (by omega) (by rw [show (0 + ((i : Nat) : Int)).toNat = i by omega, List.getElem?_map, hm6]; rfl)
            have ml : ms.length ≤ 8 := Nat.le_trans (nodup_len M6.nd M6.lt) n8
            walk_at "lw go"
            rename_i t7 H7 f7 e7 h7
            have e37 := e6.trans e7
            have e27 := e3.trans e37
            rw [Int.zero_add] at h7
            refine key hmn hz e27 h7 ?_
            walk_at "lw go"
            refine ifB ?_ ?_ <;> intro c2
            · have c2 : r m z = true := c2
              have h67 := e7.at_ h6
              walk_at "lw go"
              refine rd_niL (W := W) (xs := (ms.map fun m : Nat => (m : Int)).map V.int) (by rw [List.map_map]; exact h67) rfl (flat_intP _) ?_
              rw [inV_intP, Int.zero_add, show decide ((z : Int) ∈ ms.map fun m : Nat => (m : Int)) = decide (z ∈ ms) from memI z ms]
              walk_at "lw go"
              refine ifN ?_ ?_ <;> intro hin
              · walk_at "lw go"
                rename_i H8 e8 h8 o8
                refine ⟨ms ++ [z], _, rfl, e8, by rw [List.map_append]; exact h8, M6.add hm6 hz c2 hx hin, ?_⟩
                rw [List.getElem?_append_left (List.getElem?_eq_some_iff.mp hm6).1]; exact hm6
              · exact ⟨ms, _, rfl, e37, h67, M6.skip hm6 (fun _ => hin), hm6⟩
            · exact ⟨ms, _, rfl, e37, e7.at_ h6, M6.skip hm6 (fun w => by have c2 : r m z = false := c2; rw [w] at c2; cases c2), hm6⟩
          · rintro σ' H6 ⟨ms, v7, rfl, e6, h6, M6, hm6⟩
            exact ⟨ms, _, _, rfl, e6, h6, M6.row⟩
        · rintro σ' H5 ⟨ms, v6, v7, rfl, e5, h5, M5⟩
          exact ⟨ms, _, _, rfl, e5, h5, fun z hz => M5.fin hx (nodup_len M5.nd M5.lt) hz⟩
      rintro σ' H5 ⟨ms, v6', v7', rfl, e5, h5, hms⟩
      have iv5 := e5.iv
      have h35 := e5.at_ h3
      have zl : zs.length ≤ 128 := by
        have z1 := q3.length
        have z2 := prsTo_len n (clo n r) x
        have z4 : x * n ≤ 8 * 8 := Nat.mul_le_mul (by omega) n8
        rw [List.length_map] at z1
        omega
      walk_at "lw go"
      rw [tn]
      refine lc_w (W := W) (X := fun i x => x = .int (0 + (i : Nat))) (n := n) walk_range (fun i ys Hh => PrAs W Hh ys ((rowTo (clo n r) x i).map nI)) iv5 (by omega) (fun _ _ => trivial) (fun _ _ _ _ e q => q.ex e) .nil ?_ ?_
      · rintro z xx D ys H' QV QN hz rfl hD hDa e6 q6 l6 qv qn
        have h56 := e6.at_ h5
        have iv6 := e6.iv
        walk_at "lw gi"
        refine ifIn ?_ ?_ <;> intro c1
        · walk_at "lw gi"
          refine rd_inL (W := W) (xs := (ms.map fun m : Nat => (m : Int)).map V.int) (by rw [List.map_map]; exact h56) rfl (flat_intP _) ?_
          rw [inV_intP, Int.zero_add, show decide ((z : Int) ∈ ms.map fun m : Nat => (m : Int)) = decide (z ∈ ms) from memI z ms]
          walk_at "lw gi"
          refine ifD ?_ ?_ <;> intro hin
          · walk_at "lw gi"
            rename_i t9 H9 f9 e9 h9
            rw [Int.zero_add] at h9
            refine qv _ _ e9 ?_
            rw [rowTo_T (clo_iff.mpr ⟨by omega, ((hms z hz).mp hin).resolve_left (by omega)⟩), List.map_append]
            exact F2.snoc (q6.ex (hide_ex e9 hDa)) (PrA.hide (p := nI (x, z)) ⟨t9, rfl, h9⟩ e9.iv (e9.at_ hDa))
          · refine qn _ (Ex.refl e6.iv) ?_
            rw [rowTo_F (by
              cases c : clo n r x z with
              | false => rfl
              | true => exact absurd ((hms z hz).mpr (.inr (clo_iff.mp c).2)) hin)]
            exact q6
        · refine qn _ (Ex.refl e6.iv) ?_
          rw [rowTo_F (by
            cases c : clo n r x z with
            | false => rfl
            | true => exact absurd (by omega) (clo_iff.mp c).1)]
          exact q6
      rintro D H6 ys hD e6 h6 q6 l6
      have iv6 := e6.iv
      have h36 := e6.at_ h35
      walk_at "lw go"
      rename_i U7 H7 f7 e7 h7
      exact ⟨U7, _, _, _, _, _, rfl, e3.trans ((e5.trans e6).trans e7), h7, by rw [prsTo_succ, List.map_append]; exact F2.append (q6.ex e7) (q3.ex ((e5.trans e6).trans e7))⟩
    rintro σ' H3 ⟨T1, zs, v4, v5, v6, v7, rfl, e3, h3, q3⟩
    walk_at "lw go"
    exact k T1 H3 (e02.trans e3) ⟨zs, h3, q3⟩

theorem ok_law_gap (T : Tx K mg) : FnOk P w K mg base CX0 1 T.f_law_gap T.fd_law_gap ["many", "table"] (sp_law_gap K) := by
  refine T.F_law_gap.ok sc_law_gap (fun vs H Q E h => ?_) (fun cdv A outer s H vs Q E hr h => ?_)
  · obtain ⟨W, t, n, r, rfl, n8, iv, ht, k⟩ := h
    rfl
  · obtain ⟨W, t, n, r, rfl, n8, iv, ht, k⟩ := h
    refine ⟨_, (pss_cons (ps_for PassesOwn.never rfl (pi_range1 rfl T.n_range (pa_cons (pv 0) pa_nil)) (pg_name (i := 2) sc_law_gap.nd rfl (by first | exact Or.inl rfl | exact Or.inr rfl))
        (pss_one (ps_for PassesOwn.never rfl (pi_range1 rfl T.n_range (pa_cons (pv 0) pa_nil)) (pg_name (i := 3) sc_law_gap.nd rfl (by first | exact Or.inl rfl | exact Or.inr rfl))
          (pss_one (ps_if (pt_cmp (pc_din (hu_of hr) (pe_tup (pa_cons (pv 2) (pa_cons (pv 3) pa_nil))) (pv 1)))
            (pss_one (ps_for PassesOwn.never rfl (pi_range1 rfl T.n_range (pa_cons (pv 0) pa_nil)) (pg_name (i := 4) sc_law_gap.nd rfl (by first | exact Or.inl rfl | exact Or.inr rfl))
              (pss_one (ps_if (PW.pt (pw_and (pt_cmpR op_ne (pv 4) (pv 2) (nomark _)) (pw_and (pt_cmp (pc_din (hu_of hr) (pe_tup (pa_cons (pv 3) (pa_cons (pv 4) pa_nil))) (pv 1))) (pw_and1 (pt_cmp (pc_dnotin (hu_of hr) (pe_tup (pa_cons (pv 2) (pa_cons (pv 4) pa_nil))) (pv 1)))))))
                (pss_one (ps_ret (pe_tup (pa_cons (pv 2) (pa_cons (pv 3) (pa_cons (pv 4) pa_nil))))))
                pss_nil))))
            pss_nil)))))
      (pss_one (ps_ret pe_non))), ?_⟩
    obtain ⟨kvs, h, hl, hi⟩ := ht.ex
    have tn : ((n : Nat) : Int).toNat = n := Int.toNat_natCast n
    walk_at "lw go"
    rw [tn]
    have key : ∀ {H2 : Hp} {q : Addr} {x y : Nat}, x < n → y < n → Ex W H H2 → ∀ {neg : Bool} {Q2 : VK}, At W H2 q (.tup [.int (x : Nat), .int (y : Nat)]) → Q2 (.bl (if neg then !(r x y) else r x y)) H2 → DInG Q2 neg (.ref t) (.ref q) H2 := fun {H2 q x y} hx hy e {neg Q2} hq z => by
      rw [← hi x y hx hy] at z
      cases neg with
      | false => exact rd_diT (k := [.inl (x : Int), .inl (y : Int)]) (e.at_ h) hq rfl z
      | true => exact rd_dniT (k := [.inl (x : Int), .inl (y : Int)]) (e.at_ h) hq rfl z
    refine for_r (fun x σ' H' => ∃ v2 v3 v4, σ' = [some (.int n), some (.ref t), v2, v3, v4] ∧ Ex W H H' ∧ ∀ x' ∈ (List.range n).take x, ((List.range n).findSome? fun y => if r x' y = true then (List.range n).findSome? (fun z => if z ≠ x' ∧ r y z = true ∧ r x' z = false then some (x', y, z) else none) else none) = (none : Option Tri)) ⟨_, _, _, rfl, Ex.refl iv, fun _ h => nomatch h⟩ ?_ ?_
    · rintro x σ' H1 hx ⟨v2, v3, v4, rfl, e1, no1⟩
      walk_at "lw go"
      rw [tn]
      refine for_r (fun y σ' H' => ∃ v3 v4, σ' = [some (.int n), some (.ref t), some (.int (0 + (x : Nat))), v3, v4] ∧ Ex W H H' ∧ ∀ y' ∈ (List.range n).take y, (if r x y' = true then (List.range n).findSome? (fun z => if z ≠ x ∧ r y' z = true ∧ r x z = false then some (x, y', z) else none) else none) = (none : Option Tri)) ⟨_, _, rfl, e1, fun _ h => nomatch h⟩ ?_ ?_
      · rintro y σ' H2 hy ⟨v3, v4, rfl, e2, no2⟩
        have iv2 := e2.iv
        walk_at "lw go"
        rename_i t3 H3 f3 e3 h3
        have e03 := e2.trans e3
        rw [Int.zero_add, Int.zero_add] at h3
        refine key hx hy e03 h3 ?_
        walk_at "lw go"
        have nexty : ∀ (c : (if r x y = true then (List.range n).findSome? (fun z => if z ≠ x ∧ r y z = true ∧ r x z = false then some (x, y, z) else none) else none) = (none : Option Tri)), ∀ y' ∈ (List.range n).take (y + 1), (if r x y' = true then (List.range n).findSome? (fun z => if z ≠ x ∧ r y' z = true ∧ r x z = false then some (x, y', z) else none) else none) = (none : Option Tri) := fun c y' hy' => by
          rw [List.take_add_one, List.getElem?_range hy] at hy'
          rcases List.mem_append.mp hy' with q | q
          · exact no2 y' q
          · rw [List.mem_singleton.mp q]; exact c
        refine ifB ?_ ?_ <;> intro hr1
        · have hr1 : r x y = true := hr1
          walk_at "lw go"
          rw [tn]
          refine for_r (fun z σ' H' => ∃ v4, σ' = [some (.int n), some (.ref t), some (.int (0 + (x : Nat))), some (.int (0 + (y : Nat))), v4] ∧ Ex W H H' ∧ ∀ z' ∈ (List.range n).take z, (if z' ≠ x ∧ r y z' = true ∧ r x z' = false then some (x, y, z') else none) = (none : Option Tri)) ⟨_, rfl, e03, fun _ h => nomatch h⟩ ?_ ?_
          · rintro z σ' H4 hz ⟨v4, rfl, e4, no4⟩
            have iv4 := e4.iv
            have stay : ¬(z ≠ x ∧ r y z = true ∧ r x z = false) → ∀ z' ∈ (List.range n).take (z + 1), (if z' ≠ x ∧ r y z' = true ∧ r x z' = false then some (x, y, z') else none) = (none : Option Tri) := fun c z' hz' => by
              rw [List.take_add_one, List.getElem?_range hz] at hz'
              rcases List.mem_append.mp hz' with q | q
              · exact no4 z' q
              · rw [List.mem_singleton.mp q]; exact if_neg c
            walk_at "lw go"
            refine ifIn ?_ ?_ <;> intro c1
            · walk_at "lw go"
              rename_i t5 H5 f5 e5 h5
              have e05 := e4.trans e5
              rw [Int.zero_add, Int.zero_add] at h5
              refine key hy hz e05 h5 ?_
              walk_at "lw go"
              refine ifB ?_ ?_ <;> intro c2
              · walk_at "lw go"
                rename_i t6 H6 f6 e6 h6
                have e06 := e05.trans e6
                rw [Int.zero_add, Int.zero_add] at h6
                refine key hx hz e06 h6 ?_
                walk_at "lw go"
                refine ifB ?_ ?_ <;> intro c3
                · walk_at "lw go"
                  rename_i t7 H7 f7 e7 h7
                  rw [Int.zero_add, Int.zero_add, Int.zero_add] at h7
                  refine k _ _ (e06.trans e7) ?_
                  have cz : z ≠ x ∧ r y z = true ∧ r x z = false := ⟨by omega, c2, by have c3 : (!r x z) = true := c3; revert c3; cases r x z <;> simp⟩
                  have g : gapL n r = some (x, y, z) := fs_at (List.getElem?_range hx) no1 (fs_at (List.getElem?_range hy) no2 (by rw [if_pos hr1]; exact fs_at (List.getElem?_range hz) no4 (if_pos cz)))
                  rw [g]
                  exact .tup (.inl h7) (.cons (.int _) (.cons (.int _) (.cons (.int _) .nil)))
                · exact ⟨_, rfl, e06, stay fun w => by have c3 : (!r x z) = false := c3; rw [w.2.2] at c3; cases c3⟩
              · exact ⟨_, rfl, e05, stay fun w => by have c2 : r y z = false := c2; rw [w.2.1] at c2; cases c2⟩
            · exact ⟨_, rfl, e4, stay fun w => w.1 (by omega)⟩
          · rintro σ' H4 ⟨v4, rfl, e4, no4⟩
            refine ⟨_, _, rfl, e4, nexty ?_⟩
            rw [if_pos hr1]
            exact fs_none fun z hz => no4 z (by rw [List.take_of_length_le (by rw [List.length_range]; exact Nat.le_refl _)]; exact hz)
        · exact ⟨_, _, rfl, e03, nexty (by rw [show r x y = false from hr1]; rfl)⟩
      · rintro σ' H2 ⟨v3, v4, rfl, e2, no2⟩
        refine ⟨_, _, _, rfl, e2, fun x' hx' => ?_⟩
        rw [List.take_add_one, List.getElem?_range hx] at hx'
        rcases List.mem_append.mp hx' with q | q
        · exact no1 x' q
        · rw [List.mem_singleton.mp q]
          exact fs_none fun y hy => no2 y (by rw [List.take_of_length_le (by rw [List.length_range]; exact Nat.le_refl _)]; exact hy)
    rintro σ' H1 ⟨v2, v3, v4, rfl, e1, no1⟩
    walk_at "lw go"
    refine k _ _ e1 ?_
    rw [show gapL n r = none from fs_none fun x hx => no1 x (by rw [List.take_of_length_le (by rw [List.length_range]; exact Nat.le_refl _)]; exact hx)]
    exact .non

theorem ok_law_times (T : Tx K mg) : FnOk P w K mg base CX0 2 T.f_law_times T.fd_law_times ["many", "rows", "others"] (sp_law_times) := by
  refine T.F_law_times.ok sc_law_times (fun vs H Q E h => ?_) (fun cdv A outer s H vs Q E hr h => ?_)
  · obtain ⟨W, a, b, n, r, s', rfl, n8, iv, h1, h2, k⟩ := h
    rfl
  · obtain ⟨W, a, b, n, r, s', rfl, n8, iv, h1, h2, k⟩ := h
    refine ⟨_, (pss_cons (ps_set (i := 3) sc_law_times.nd rfl (by first | exact Or.inl rfl | exact Or.inr rfl) (pe_call (ok_law_table T) hr (by rfl) T.g_law_table T.F_law_table.kp T.b_law_table .nil pass0 (pa_cons (pv 1) pa_nil)))
      (pss_cons (ps_set (i := 4) sc_law_times.nd rfl (by first | exact Or.inl rfl | exact Or.inr rfl) (pe_call (ok_law_table T) hr (by rfl) T.g_law_table T.F_law_table.kp T.b_law_table .nil pass0 (pa_cons (pv 2) pa_nil)))
      (pss_cons (ps_set (i := 5) sc_law_times.nd rfl (by first | exact Or.inl rfl | exact Or.inr rfl) (pe_lst pa_nil))
      (pss_cons (ps_for PassesOwn.never rfl (pi_list (pe_call (ok_law_every T) hr (by rfl) T.g_law_every T.F_law_every.kp T.b_law_every .nil pass0 (pa_cons (pv 0) pa_nil))) (pg_name (i := 6) sc_law_times.nd rfl (by first | exact Or.inl rfl | exact Or.inr rfl))
        (pss_cons (ps_setLc (i := 7) (own := [("y", 8)]) rfl sc_law_times.nd rfl rfl (sw_true rfl rfl rfl (by decide +kernel)) (pi_range1 rfl T.n_range (pa_cons (pv 0) pa_nil)) (blkOk_by (own := [("y", 8)]) (N := N_law_times) (sc := (defScope s_law_times)) (by decide +kernel)) (fun _ _ _ _ _ => (pg_name (i := 8) sc_law_times.nd rfl (by first | exact Or.inl rfl | exact Or.inr rfl))) (fun _ _ _ _ _ => (pts_one (PW.pt (pw_and (pt_cmp (pc_din (hu_of hr) (pe_tup (pa_cons (pe_ix (r := rIxT K) ix_tup (pv 6) pe_int (fun _ _ => rfl)) (pa_cons (pv 8) pa_nil))) (pv 3))) (pw_and1 (pt_cmp (pc_din (hu_of hr) (pe_tup (pa_cons (pv 8) (pa_cons (pe_ix (r := rIxT K) ix_tup (pv 6) pe_int (fun _ _ => rfl)) pa_nil))) (pv 4)))))))) (fun _ _ _ _ _ => (pv 8)))
        (pss_one (ps_if (pt_cmpR op_gt (pe_callB (r := Lw.rLen K) c_len (by rfl) T.n_len PySem.boot_len (pa_cons (pv 7) pa_nil)) pe_int (nomark _))
          (pss_one (ps_expr (pe_bm PySem.F.plainAttrs_list PySem.F.slot_list_append PySem.F.type_list_append mt_append (pv 5) (pa_cons (pv 6) pa_nil))))
          pss_nil))))
      (pss_one (ps_ret (pv 5))))))), ?_⟩
    walk_at "lw go"
    refine ⟨W, a, n, r, rfl, n8, iv, h1, fun t H1 kvs f1 e1 d1 l1 i1 => ?_⟩
    walk_at "lw go"
    refine ⟨W, b, n, s', rfl, n8, e1.iv, h2.mono e1, fun u H2 kws f2 e2 d2 l2 i2 => ?_⟩
    have iv2 := e2.iv
    walk_at "lw go"
    rename_i u3 H3 f3 e3 h3
    refine ⟨W, n, rfl, n8, e3.iv, fun EL H4 fE e4 r4 => ?_⟩
    obtain ⟨es, hE, qE⟩ := r4
    have lE := qE.length
    have nE := n64 n8 neR
    have iv4 := e4.iv
    have tn : ((n : Nat) : Int).toNat = n := Int.toNat_natCast n
    have h34 := e4.at_ h3
    have nEL : EL ≠ u3 := Ne.symm (h3.ne_fresh fE)
    have key1 : ∀ {H' : Hp} {q : Addr} {x y : Nat} {Q2 : VK}, x < n → y < n → Ex W H2 H' → At W H' q (.tup [.int (x : Nat), .int (y : Nat)]) → Q2 (.bl (r x y)) H' → DInG Q2 false (.ref t) (.ref q) H' := fun {H' q x y Q2} hx hy e hq z => by
      rw [← i1 x y hx hy] at z
      exact rd_diT (k := [.inl (x : Int), .inl (y : Int)]) (e.at_ (e2.at_ d1)) hq rfl z
    have key2 : ∀ {H' : Hp} {q : Addr} {x y : Nat} {Q2 : VK}, x < n → y < n → Ex W H2 H' → At W H' q (.tup [.int (x : Nat), .int (y : Nat)]) → Q2 (.bl (s' x y)) H' → DInG Q2 false (.ref u) (.ref q) H' := fun {H' q x y Q2} hx hy e hq z => by
      rw [← i2 x y hx hy] at z
      exact rd_diT (k := [.inl (x : Int), .inl (y : Int)]) (e.at_ d2) hq rfl z
    refine ⟨EL, rfl, ⟨_, hE.sl⟩, ?_⟩
    refine for_l (W := W) (a := EL) (xs := es) (fun i σ' H' => ∃ v6 v7 v8 zs, σ' = [some (.int n), some (.ref a), some (.ref b), some (.ref t), some (.ref u), some (.ref u3), v6, v7, v8] ∧ Ex W H2 H' ∧ At W H' EL (.lst es) ∧ PrAs W H' es (prI n neR) ∧ At W H' u3 (.lst zs) ∧ PrAs W H' zs (((prI n neR).take i).filter (thruI n r s'))) ⟨_, _, _, [], rfl, e3.trans e4, hE, qE, h34, .nil⟩ (fun i σ' H' _ ⟨_, _, _, _, _, _, h, _⟩ => h) ?_ ?_
    · rintro i v σ' H5 hv ⟨v6, v7, v8, zs, rfl, e5, hE5, qE5, h5, q5⟩
      obtain ⟨pr, hpr, hp⟩ := qE5.get hv
      obtain ⟨x, z, rfl, hx, hz, hn⟩ := prI_nat (List.mem_of_getElem? hpr)
      obtain ⟨pb, rfl, hb⟩ := id hp
      have iv5 := e5.iv
      have zl : zs.length ≤ 64 := by
        have z1 := q5.length
        have z2 := List.length_filter_le (thruI n r s') ((prI n neR).take i)
        rw [List.length_take] at z2
        omega
      walk_at "lw gi"
      rw [tn]
      refine lc_w (W := W) (X := fun i x => x = .int (0 + (i : Nat))) (n := n) walk_range (fun i ys Hh => (0 < ys.length ↔ ∃ y, y < i ∧ r x y = true ∧ s' y z = true)) iv5 (by omega) (fun _ _ => trivial) (fun _ _ _ _ e q => q) ⟨fun h => absurd h (by decide), fun ⟨_, h, _⟩ => absurd h (by omega)⟩ ?_ ?_
      · rintro y yy D ys H' QV QN hy rfl hD hDa e6 q6 l6 qv qn
        have hb6 := e6.at_ hb
        have iv6 := e6.iv
        have e26 := e5.trans e6
        walk_at "lw gi"
        rename_i t7 H7 f7 e7 h7
        rw [Int.zero_add] at h7
        have hb7 := e7.at_ hb6
        refine key1 hx hy (e26.trans e7) h7 ?_
        walk_at "lw gi"
        refine ifB ?_ ?_ <;> intro c1
        · walk_at "lw gi"
          rename_i t8 H8 f8 e8 h8
          rw [Int.zero_add] at h8
          refine key2 hy hz ((e26.trans e7).trans e8) h8 ?_
          walk_at "lw gi"
          refine ifB ?_ ?_ <;> intro c2
          · walk_at "lw gi"
            refine qv _ _ (e7.trans e8) ⟨fun _ => ⟨y, by omega, c1, c2⟩, fun _ => ?_⟩
            rw [List.length_append, List.length_singleton]; omega
          · refine qn _ (e7.trans e8) ⟨fun h => ?_, fun ⟨y', h, h1, h2⟩ => ?_⟩
            · obtain ⟨y', h, q⟩ := q6.mp h; exact ⟨y', by omega, q⟩
            · by_cases e : y' = y
              · subst e; rw [h2] at c2; cases c2
              · exact q6.mpr ⟨y', by omega, h1, h2⟩
        · refine qn _ e7 ⟨fun h => ?_, fun ⟨y', h, h1, h2⟩ => ?_⟩
          · obtain ⟨y', h, q⟩ := q6.mp h; exact ⟨y', by omega, q⟩
          · by_cases e : y' = y
            · subst e; rw [h1] at c1; cases c1
            · exact q6.mpr ⟨y', by omega, h1, h2⟩
      rintro D H6 ys hD e6 h6 q6 l6
      have iv6 := e6.iv
      have e26 := e5.trans e6
      have h56 := e6.at_ h5
      have yl : ys.length ≤ 8 := by omega
      have tk : (prI n neR).take (i + 1) = (prI n neR).take i ++ [((x : Int), (z : Int))] := by rw [List.take_add_one, hpr]; rfl
      have th : thruI n r s' ((x : Int), (z : Int)) = true ↔ 0 < ys.length := by
        rw [q6]
        show ((List.range n).any fun y => r x y && s' y z) = true ↔ _
        rw [List.any_eq_true]
        exact ⟨fun ⟨y, h1, h2⟩ => ⟨y, List.mem_range.mp h1, (Bool.and_eq_true _ _).mp h2⟩, fun ⟨y, h1, h2⟩ => ⟨y, List.mem_range.mpr h1, (Bool.and_eq_true _ _).mpr h2⟩⟩
      walk_at "lw gi"
      refine ifD ?_ ?_ <;> intro c3
      · walk_at "lw gi"
        rename_i H8 e8 h8 o8
        have kt : ∀ q us, At W H6 q (.tup us) → At W H8 q (.tup us) := fun q us hq => o8 _ _ (hq.ne h56 fun z => by cases z) hq
        refine ⟨_, _, _, _, rfl, e8, o8 _ _ nEL (e6.at_ hE5), (qE5.ex e6).keepT kt, h8, ?_⟩
        rw [tk, List.filter_append, show [((x : Int), (z : Int))].filter (thruI n r s') = [((x : Int), (z : Int))] from List.filter_cons_of_pos (th.mpr (by omega))]
        exact F2.snoc ((q5.ex e6).keepT kt) ⟨pb, rfl, kt _ _ (e6.at_ hb)⟩
      · refine ⟨_, _, _, zs, rfl, e26, e6.at_ hE5, qE5.ex e6, h56, ?_⟩
        rw [tk, List.filter_append, show [((x : Int), (z : Int))].filter (thruI n r s') = [] from List.filter_cons_of_neg (fun h => c3 (by have := th.mp h; omega)), List.append_nil]
        exact q5.ex e6
    rintro σ' H5 ⟨v6, v7, v8, zs, rfl, e5, hE5, qE5, h5, q5⟩
    rw [lE, List.take_length, filter_prI] at q5
    walk_at "lw gi"
    refine k u3 H5 ((e1.trans e2).trans e5) ⟨zs, h5, ?_⟩
    exact q5

theorem ok_law_right_gap (T : Tx K mg) : FnOk P w K mg base CX0 2 T.f_law_right_gap T.fd_law_right_gap ["actual", "due"] (sp_law_right_gap K) := by
  refine T.F_law_right_gap.ok sc_law_right_gap (fun vs H Q E h => ?_) (fun cdv A outer s H vs Q E hr h => ?_)
  · obtain ⟨W, v, u, o, rfl, iv, h1, h2, k⟩ := h
    rfl
  · obtain ⟨W, v, u, o, rfl, iv, h1, h2, k⟩ := h
    refine ⟨_, (pss_cons (ps_if (pt_cmpR o_isN (pv 1) pe_non (nomark _))
        (pss_one (ps_ret (pe_cmpR o_isN (pv 0) pe_non (nomark _))))
        pss_nil)
      (pss_cons (ps_if (PW.pt (pw_or (pt_not (pt_val (pe_callB (r := rIsi K) call_isi (by rfl) T.n_isinstance (by decide +kernel) (pa_cons (pv 0) (pa_cons (pe_bltn (v := .ty "tuple") rfl T.n_tuple (by decide +kernel) rfl) pa_nil))))) (pw_or1 (pt_cmpR op_ne (pe_callB (r := Lw.rLen K) c_len (by rfl) T.n_len PySem.boot_len (pa_cons (pv 0) pa_nil)) pe_int (nomark _)))))
        (pss_one (ps_ret pe_bl))
        pss_nil)
      (pss_cons (ps_for PassesOwn.never rfl (pi_tup (pv 0)) (pg_name (i := 2) sc_law_right_gap.nd rfl (by first | exact Or.inl rfl | exact Or.inr rfl))
        (pss_one (ps_if (pt_not (pt_val (pe_call (ok_law_whole T) hr (by rfl) T.g_law_whole T.F_law_whole.kp T.b_law_whole .nil pass0 (pa_cons (pv 2) pa_nil))))
          (pss_one (ps_ret pe_bl))
          pss_nil)))
      (pss_one (ps_ret (pe_cmpR (r := rEqD K) (op_eqD hr.units) (pv 0) (pv 1) (nomark _))))))), ?_⟩
    cases o with
    | none =>
      obtain rfl := h1.nonE
      obtain rfl := h2.nonE
      walk_at "lw go"
      refine ifD_yes rfl ?_
      walk_at "lw gi"
      exact cast_bl (k _ (Ex.refl iv)) (decide_eq_true rfl).symm
    | some t =>
      obtain ⟨x, y, z⟩ := t
      obtain ⟨a1, xs, rfl, t1, w1⟩ := id h1.tupE
      obtain ⟨a2, ys, rfl, t2, w2⟩ := id h2.tupE
      walk_at "lw go"
      refine ifD_no (fun z => nomatch z) ?_
      walk_at "lw gi"
      refine ifNB_no rfl ?_
      walk_at "lw gi"
      have hx : xs = [.int x, .int y, .int z] := by
        have lx := w1.length
        match xs, lx with
        | [p, q, s2], _ =>
          cases w1 with
          | cons d1 w1 => cases w1 with
            | cons d2 w1 => cases w1 with
              | cons d3 w1 => rw [d1.intE, d2.intE, d3.intE]
      subst hx
      refine rd_lenB (.inr t1) ?_
      walk_at "lw gi"
      refine ifIn_no rfl ?_
      walk_at "lw gi"
      refine ⟨a1, rfl, ⟨_, t1.sq⟩, ?_⟩
      refine for_tS (xs := [.int x, .int y, .int z]) (fun i σ' H' => ∃ v2, σ' = [some (.ref a1), some (.ref a2), v2] ∧ H' = H) ⟨_, rfl, rfl⟩ (fun i σ' H' ⟨_, _, e⟩ => e ▸ t1.sq) ?_ ?_
      · rintro i v σ' H' hv ⟨v2, rfl, rfl⟩
        obtain ⟨j, rfl⟩ : ∃ j : Int, v = .int j := by
          have := List.mem_of_getElem? hv
          simp only [List.mem_cons, List.not_mem_nil, or_false] at this
          rcases this with rfl | rfl | rfl <;> exact ⟨_, rfl⟩
        walk_at "lw gi"
        exact ⟨_, rfl, rfl⟩
      rintro σ' H' ⟨v2, rfl, rfl⟩
      have cl : PyData.canLay0 (triN (some (x, y, z))) = true := rfl
      have sh : SeqAt.shaped (triN (some (x, y, z))) = true := by
        unfold SeqAt.shaped
        rw [cl, decide_eq_true (by show max 0 (max 0 (max 0 0)) + 1 ≤ 64; decide)]; rfl
      walk_at "lw gi"
      refine rd_eqD2 h1 h2 sh sh ?_
      rw [SeqAt.eqv_refl _ cl]
      exact k _ (Ex.refl iv)

theorem ok_law_is (T : Tx K mg) : FnOk P w K mg base CX0 4 T.f_law_is T.fd_law_is ["relation", "many", "due"] (sp_law_is K T.c_Reach) := by
  refine T.F_law_is.ok sc_law_is (fun vs H Q E h => ?_) (fun cdv A outer s H vs Q E hr h => ?_)
  · obtain ⟨W, p, a, n, r, rfl, iv, hp, hrw, k⟩ := h
    rfl
  · obtain ⟨W, p, a, n, r, rfl, iv, hp, hrw, k⟩ := h
    refine ⟨_, (pss_cons (ps_if (pt_not (pt_val (pe_callB (r := rIsi K) call_isi (by rfl) T.n_isinstance (by decide +kernel) (pa_cons (pv 0) (pa_cons (pe_glob (v := .ref T.c_Reach) rfl T.gc_Reach rfl) pa_nil)))))
        (pss_one (ps_ret pe_bl))
        pss_nil)
      (pss_cons (ps_if (PW.pt (pw_or (pt_not (pt_val (pe_call (ok_law_whole T) (hr.mono (by decide)) (by rfl) T.g_law_whole T.F_law_whole.kp T.b_law_whole .nil pass0 (pa_cons (pe_fld (pv 0) rfl) pa_nil)))) (pw_or1 (pt_cmpR op_ne (pe_fld (pv 0) rfl) (pv 1) (nomark _)))))
        (pss_one (ps_ret pe_bl))
        pss_nil)
      (pss_cons (ps_set (i := 3) sc_law_is.nd rfl (by first | exact Or.inl rfl | exact Or.inr rfl) (pe_meth0 (pv 0) T.cl_Reach T.me_Reach_pairs (ok_Reach_pairs T) (hr.mono (by decide)) T.b_Reach_pairs .nil pass0))
      (pss_cons (ps_if (PW.pt (pw_or (pt_not (pt_val (pe_callB (r := rIsi K) call_isi (by rfl) T.n_isinstance (by decide +kernel) (pa_cons (pv 3) (pa_cons (pe_bltn (v := .ty "tuple") rfl T.n_tuple (by decide +kernel) rfl) pa_nil))))) (pw_or (pt_cmpR op_ne (pe_callB (r := Lw.rLen K) c_len (by rfl) T.n_len PySem.boot_len (pa_cons (pv 3) pa_nil)) (pe_callB (r := Lw.rLen K) c_len (by rfl) T.n_len PySem.boot_len (pa_cons (pv 2) pa_nil)) (nomark _)) (pw_or1 (pt_cmpR op_ne (pe_callB (call_ownLen T.me_Reach___len__ (ok_Reach__len T) T.b_Reach__len (hr.mono (by decide)) pass0) (by rfl) T.n_len PySem.boot_len (pa_cons (pv 0) pa_nil)) (pe_callB (r := Lw.rLen K) c_len (by rfl) T.n_len PySem.boot_len (pa_cons (pv 2) pa_nil)) (nomark _))))))
        (pss_one (ps_ret pe_bl))
        pss_nil)
      (pss_cons (ps_for PassesOwn.never rfl (pi_range1 rfl T.n_range (pa_cons (pe_callB (r := Lw.rLen K) c_len (by rfl) T.n_len PySem.boot_len (pa_cons (pv 2) pa_nil)) pa_nil)) (pg_name (i := 4) sc_law_is.nd rfl (by first | exact Or.inl rfl | exact Or.inr rfl))
        (pss_cons (ps_set (i := 5) sc_law_is.nd rfl (by first | exact Or.inl rfl | exact Or.inr rfl) (pe_ix (r := rIxT K) ix_tup (pv 3) (pv 4) (fun _ _ => rfl)))
        (pss_cons (ps_if (PW.pt (pw_or (pt_not (pt_val (pe_callB (r := rIsi K) call_isi (by rfl) T.n_isinstance (by decide +kernel) (pa_cons (pv 5) (pa_cons (pe_bltn (v := .ty "tuple") rfl T.n_tuple (by decide +kernel) rfl) pa_nil))))) (pw_or1 (pt_cmpR op_ne (pe_callB (r := Lw.rLen K) c_len (by rfl) T.n_len PySem.boot_len (pa_cons (pv 5) pa_nil)) pe_int (nomark _)))))
          (pss_one (ps_ret pe_bl))
          pss_nil)
        (pss_cons (ps_if (PW.pt (pw_or (pt_not (pt_val (pe_call (ok_law_whole T) (hr.mono (by decide)) (by rfl) T.g_law_whole T.F_law_whole.kp T.b_law_whole .nil pass0 (pa_cons (pe_ix (r := rIxT K) ix_tup (pv 5) pe_int (fun _ _ => rfl)) pa_nil)))) (pw_or (pt_not (pt_val (pe_call (ok_law_whole T) (hr.mono (by decide)) (by rfl) T.g_law_whole T.F_law_whole.kp T.b_law_whole .nil pass0 (pa_cons (pe_ix (r := rIxT K) ix_tup (pv 5) pe_int (fun _ _ => rfl)) pa_nil)))) (pw_or1 (pt_cmpR (r := rNeD K) (op_neD hr.units) (pv 5) (pe_ix (r := rIxL K) ix_list (pv 2) (pv 4) (fun _ _ => rfl)) (nomark _))))))
          (pss_one (ps_ret pe_bl))
          pss_nil)
        (pss_one (ps_if (pt_cmpR (op_ownNotIn T.me_Reach___contains__ (ok_Reach__contains T) T.b_Reach__contains hr pass0) (pe_ix (r := rIxL K) ix_list (pv 2) (pv 4) (fun _ _ => rfl)) (pv 0) (by rfl))
          (pss_one (ps_ret pe_bl))
          pss_nil))))))
      (pss_one (ps_ret pe_bl))))))), ?_⟩
    obtain ⟨xs, h, q⟩ := id hrw
    obtain ⟨dx, b, ys, a1, a2, a3⟩ := hp.ex
    walk_at "lw go"
    have l64 := n64 hp.n8 r
    have xl := q.length
    have yl := a3.length
    refine iteNT ?_
    walk_at "lw gi"
    refine ifIn_no rfl ?_
    walk_at "lw gi"
    refine go_pairs hp fun b2 zs hb2 hz2 => ?_
    have zl := hz2.length
    walk_at "lw gi"
    refine ifIn_no (by rw [zl, xl]) ?_
    walk_at "lw gi"
    refine own_len hp ?_
    walk_at "lw gi"
    refine ifIn_no (by rw [xl]) ?_
    walk_at "lw gi"
    rw [Int.toNat_natCast]
    refine for_r (fun i σ' H' => ∃ v4 v5, σ' = [some (.ref p), some (.int n), some (.ref a), some (.ref b2), v4, v5] ∧ H' = H) ⟨_, _, rfl, rfl⟩ ?_ ?_
    · rintro i σ' H' hi ⟨v4, v5, rfl, rfl⟩
      have hx1 : xs[i]? = some xs[i] := List.getElem?_eq_getElem hi
      have hz1 : zs[i]? = some (zs[i]'(by omega)) := List.getElem?_eq_getElem (by omega)
      generalize xs[i] = x1 at hx1
      generalize zs[i]'(by omega) = z1 at hz1
      obtain ⟨pr, hpr, px⟩ := q.get hx1
      obtain ⟨pr', hpr', pz⟩ := hz2.get hz1
      rw [hpr] at hpr'
      cases hpr'
      have ax : atI xs (0 + (i : Nat)) = some x1 := at_in (by omega) (by rw [show (0 + ((i : Nat) : Int)).toNat = i by omega]; exact hx1)
      obtain ⟨zb, rfl, hzb⟩ := id pz
      have az : atI zs (0 + (i : Nat)) = some (.ref zb) := at_in (by omega) (by rw [show (0 + ((i : Nat) : Int)).toNat = i by omega]; exact hz1)
      walk_at "lw gi"
      refine ifIn_no rfl ?_
      walk_at "lw gi"
      refine rd_neD2 (W := W) (PrA.dw pz) (PrA.dw px) (shp_pair _) (shp_pair _) ?_
      rw [eqv_pair]
      walk_at "lw gi"
      refine ifN (fun h => absurd rfl h) fun _ => ?_
      walk_at "lw gi"
      refine own_nin hp px ?_
      walk_at "lw gi"
      refine ifN (fun h => absurd (List.mem_of_getElem? hpr) h) fun _ => ?_
      exact ⟨_, _, rfl, rfl⟩
    rintro σ' H' ⟨v4, v5, rfl, rfl⟩
    walk_at "lw gi"
    exact k _ (Ex.refl iv)

theorem ok_law_closes (T : Tx K mg) : FnOk P w K mg base CX0 7 T.f_law_closes T.fd_law_closes ["relation", "many", "rows"] (sp_law_closes K T.c_Reach) := by
  refine T.F_law_closes.ok sc_law_closes (fun vs H Q E h => ?_) (fun cdv A outer s H vs Q E hr h => ?_)
  · obtain ⟨W, p, a, n, r, rfl, iv, hp, hrw, k⟩ := h
    rfl
  · obtain ⟨W, p, a, n, r, rfl, iv, hp, hrw, k⟩ := h
    refine ⟨_, (pss_cons (ps_set (i := 3) sc_law_closes.nd rfl (by first | exact Or.inl rfl | exact Or.inr rfl) (pe_call (ok_law_closed T) (hr.mono (by decide)) (by rfl) T.g_law_closed T.F_law_closed.kp T.b_law_closed .nil pass0 (pa_cons (pv 1) (pa_cons (pv 2) pa_nil))))
      (pss_cons (ps_set (i := 4) sc_law_closes.nd rfl (by first | exact Or.inl rfl | exact Or.inr rfl) (pe_call (ok_law_gap T) (hr.mono (by decide)) (by rfl) T.g_law_gap T.F_law_gap.kp T.b_law_gap .nil pass0 (pa_cons (pv 1) (pa_cons (pe_call (ok_law_table T) (hr.mono (by decide)) (by rfl) T.g_law_table T.F_law_table.kp T.b_law_table .nil pass0 (pa_cons (pv 2) pa_nil)) pa_nil))))
      (pss_cons (ps_if (pt_not (pt_val (pe_call (ok_law_right_gap T) (hr.mono (by decide)) (by rfl) T.g_law_right_gap T.F_law_right_gap.kp T.b_law_right_gap .nil pass0 (pa_cons (pe_meth0 (pv 0) T.cl_Reach T.me_Reach_gap (ok_Reach_gap T) (hr.mono (by decide)) T.b_Reach_gap .nil pass0) (pa_cons (pv 4) pa_nil)))))
        (pss_one (ps_ret pe_bl))
        pss_nil)
      (pss_cons (ps_set (i := 5) sc_law_closes.nd rfl (by first | exact Or.inl rfl | exact Or.inr rfl) (pe_meth0 (pv 0) T.cl_Reach T.me_Reach_closed (ok_Reach_closed T) hr T.b_Reach_closed .nil pass0))
      (pss_cons (ps_if (PW.pt (pw_or (pt_not (pt_val (pe_call (ok_law_is T) (hr.mono (by decide)) (by rfl) T.g_law_is T.F_law_is.kp T.b_law_is .nil pass0 (pa_cons (pv 5) (pa_cons (pv 1) (pa_cons (pv 3) pa_nil)))))) (pw_or1 (pt_cmpR o_notN (pe_meth0 (pv 5) T.cl_Reach T.me_Reach_gap (ok_Reach_gap T) (hr.mono (by decide)) T.b_Reach_gap .nil pass0) pe_non (nomark _)))))
        (pss_one (ps_ret pe_bl))
        pss_nil)
      (pss_cons (ps_if (PW.pt (pw_or (pt_not (pt_val (pe_call (ok_law_is T) (hr.mono (by decide)) (by rfl) T.g_law_is T.F_law_is.kp T.b_law_is .nil pass0 (pa_cons (pe_meth0 (pv 5) T.cl_Reach T.me_Reach_closed (ok_Reach_closed T) hr T.b_Reach_closed .nil pass0) (pa_cons (pv 1) (pa_cons (pv 3) pa_nil)))))) (pw_or1 (pt_cmpR op_ne (pe_cmpR (op_ownEq T.me_Reach___eq__ (ok_Reach__eq T) T.b_Reach__eq (hr.mono (by decide)) pass0) (pv 0) (pv 5) (nomark _)) (pe_cmpR (r := rEqD K) (op_eqD hr.units) (pv 2) (pv 3) (nomark _)) (nomark _)))))
        (pss_one (ps_ret pe_bl))
        pss_nil)
      (pss_cons (ps_if (PW.pt (pw_or (pt_not (pt_val (pe_call (ok_law_is T) (hr.mono (by decide)) (by rfl) T.g_law_is T.F_law_is.kp T.b_law_is .nil pass0 (pa_cons (pv 0) (pa_cons (pv 1) (pa_cons (pv 2) pa_nil)))))) (pw_or1 (pt_not (pt_val (pe_call (ok_law_right_gap T) (hr.mono (by decide)) (by rfl) T.g_law_right_gap T.F_law_right_gap.kp T.b_law_right_gap .nil pass0 (pa_cons (pe_meth0 (pv 0) T.cl_Reach T.me_Reach_gap (ok_Reach_gap T) (hr.mono (by decide)) T.b_Reach_gap .nil pass0) (pa_cons (pv 4) pa_nil))))))))
        (pss_one (ps_ret pe_bl))
        pss_nil)
      (pss_cons (ps_if (pt_not (pt_val (pe_call (ok_law_is T) (hr.mono (by decide)) (by rfl) T.g_law_is T.F_law_is.kp T.b_law_is .nil pass0 (pa_cons (pe_op (op_ownB T.me_Reach___mul__ T.sf_Reach (ok_Reach__mul T) T.b_Reach__mul hr pass0) (pv 0) (pv 5)) (pa_cons (pv 1) (pa_cons (pe_call (ok_law_times T) (hr.mono (by decide)) (by rfl) T.g_law_times T.F_law_times.kp T.b_law_times .nil pass0 (pa_cons (pv 1) (pa_cons (pv 2) (pa_cons (pv 3) pa_nil)))) pa_nil))))))
        (pss_one (ps_ret pe_bl))
        pss_nil)
      (pss_one (ps_ret (pe_call (ok_law_is T) (hr.mono (by decide)) (by rfl) T.g_law_is T.F_law_is.kp T.b_law_is .nil pass0 (pa_cons (pe_op (op_ownB T.me_Reach___mul__ T.sf_Reach (ok_Reach__mul T) T.b_Reach__mul hr pass0) (pv 0) (pv 0)) (pa_cons (pv 1) (pa_cons (pe_call (ok_law_times T) (hr.mono (by decide)) (by rfl) T.g_law_times T.F_law_times.kp T.b_law_times .nil pass0 (pa_cons (pv 1) (pa_cons (pv 2) (pa_cons (pv 2) pa_nil)))) pa_nil)))))))))))))), ?_⟩
    have n8 := hp.n8
    walk_at "lw go"
    refine ⟨W, a, n, r, rfl, n8, iv, hrw, fun dd H1 e1 r1 => ?_⟩
    walk_at "lw gi"
    refine ⟨W, a, n, r, rfl, n8, e1.iv, hrw.mono e1, fun t H2 kvs f2 e2 t2 l2 i2 => ?_⟩
    have e12 := e1.trans e2
    walk_at "lw gi"
    refine ⟨W, t, n, r, rfl, n8, e2.iv, ⟨kvs, t2, by omega, i2⟩, fun lk H3 e3 d3 => ?_⟩
    have e13 := e12.trans e3
    walk_at "lw gi"
    refine go_gap e3.iv (hp.mono e13) fun gv H4 e4 d4 => ?_
    have e14 := e13.trans e4
    walk_at "lw gi"
    refine ⟨W, gv, lk, gapL n r, rfl, e4.iv, d4, d3.ex e4, fun H5 e5 => ?_⟩
    have e15 := e14.trans e5
    walk_at "lw gi"
    refine go_closed e5.iv (hp.mono e15) fun wd H6 e6 w6 => ?_
    have e16 := e15.trans e6
    have e26 := ((e2.trans e3).trans e4).trans (e5.trans e6)
    walk_at "lw gi"
    refine ⟨W, wd, dd, n, clo n r, rfl, e6.iv, w6, r1.mono e26, fun H7 e7 => ?_⟩
    have e17 := e16.trans e7
    walk_at "lw gi"
    refine go_gap e7.iv (w6.mono e7) fun gv2 H8 e8 d8 => ?_
    rw [gap_none.mpr (clo_gap n r)] at d8
    obtain rfl := d8.nonE
    have e18 := e17.trans e8
    have e68 := e7.trans e8
    walk_at "lw gi"
    rw [decide_eq_true (rfl : V.non = V.non)]
    refine iteNT ?_
    walk_at "lw gi"
    refine go_closed e8.iv (w6.mono e68) fun ww H9 e9 w9 => ?_
    walk_at "lw gi"
    have r9 := ((r1.mono e26).mono e68).mono e9
    refine ⟨W, ww, dd, n, clo n r, rfl, e9.iv, w9.congr fun x y hx hy => clo_clo hx hy, r9, fun H10 e10 => ?_⟩
    have e110 := (e18.trans e9).trans e10
    have e610 := (e68.trans e9).trans e10
    have hp10 := hp.mono e110
    have hr10 := hrw.mono e110
    have hd10 := r9.mono e10
    have hw10 := w6.mono e610
    walk_at "lw gi"
    refine own_eq hp10 hw10 ?_
    walk_at "lw gi"
    refine rd_eqD2 (W := W) hr10.dw hd10.dw (shp_lst _) (shp_lst _) ?_
    rw [eqv_lst]
    walk_at "lw gi"
    rw [decide_eq_true (rfl : V.bl (decide (prI n r = prI n (clo n r))) = V.bl (decide (prI n r = prI n (clo n r))))]
    refine iteNT ?_
    walk_at "lw gi"
    refine ⟨W, p, a, n, r, rfl, e10.iv, hp10, hr10, fun H11 e11 => ?_⟩
    walk_at "lw gi"
    refine go_gap e11.iv (hp10.mono e11) fun gv3 H12 e12' d12 => ?_
    walk_at "lw gi"
    refine ⟨W, gv3, lk, gapL n r, rfl, e12'.iv, d12, ((((((((d3.ex e4).ex e5).ex e6).ex e68).ex e9).ex e10).ex e11).ex e12'), fun H13 e13' => ?_⟩
    have e1013 := (e11.trans e12').trans e13'
    have hp13 := hp10.mono e1013
    have hr13 := hr10.mono e1013
    walk_at "lw gi"
    refine own_bin e13'.iv hp13 (hw10.mono e1013) fun m1 H14 e14' rm => ?_
    walk_at "lw gi"
    refine ⟨W, a, dd, n, r, clo n r, rfl, n8, e14'.iv, hr13.mono e14', (hd10.mono e1013).mono e14', fun t2 H15 e15' rt => ?_⟩
    walk_at "lw gi"
    refine ⟨W, m1, t2, n, timesR n r (clo n r), rfl, e15'.iv, rm.mono e15', rt, fun H16 e16' => ?_⟩
    have e1316 := (e14'.trans e15').trans e16'
    have hp16 := hp13.mono e1316
    walk_at "lw gi"
    refine own_bin e16'.iv hp16 hp16 fun m3 H17 e17' rm3 => ?_
    walk_at "lw gi"
    refine ⟨W, a, a, n, r, r, rfl, n8, e17'.iv, (hr13.mono e1316).mono e17', (hr13.mono e1316).mono e17', fun t4 H18 e18' rt4 => ?_⟩
    walk_at "lw gi"
    exact ⟨W, m3, t4, n, timesR n r r, rfl, e18'.iv, rm3.mono e18', rt4, fun H19 e19' => k H19 (e110.trans (e1013.trans (e1316.trans ((e17'.trans e18').trans e19'))))⟩

theorem ok_law_fills (T : Tx K mg) : FnOk P w K mg base CX0 7 T.f_law_fills T.fd_law_fills ["relation", "many", "rows"] (sp_law_fills K T.c_Reach) := by
  refine T.F_law_fills.ok sc_law_fills (fun vs H Q E h => ?_) (fun cdv A outer s H vs Q E hr h => ?_)
  · obtain ⟨W, p, a, n, r, rfl, iv, hp, hrw, k⟩ := h
    rfl
  · obtain ⟨W, p, a, n, r, rfl, iv, hp, hrw, k⟩ := h
    refine ⟨_, (pss_cons (ps_set (i := 3) sc_law_fills.nd rfl (by first | exact Or.inl rfl | exact Or.inr rfl) (pe_call (ok_law_table T) (hr.mono (by decide)) (by rfl) T.g_law_table T.F_law_table.kp T.b_law_table .nil pass0 (pa_cons (pv 2) pa_nil)))
      (pss_cut (ps_for PassesOwn.never rfl (pi_range1 rfl T.n_range (pa_cons (pe_op op_add (pe_op op_mul (pv 1) (pv 1)) pe_int) pa_nil)) (pg_name (i := 4) sc_law_fills.nd rfl (by first | exact Or.inl rfl | exact Or.inr rfl))
        (pss_cons (ps_set (i := 5) sc_law_fills.nd rfl (by first | exact Or.inl rfl | exact Or.inr rfl) (pe_call (ok_law_gap T) (hr.mono (by decide)) (by rfl) T.g_law_gap T.F_law_gap.kp T.b_law_gap .nil pass0 (pa_cons (pv 1) (pa_cons (pv 3) pa_nil))))
        (pss_cons (ps_if (pt_not (pt_val (pe_call (ok_law_right_gap T) (hr.mono (by decide)) (by rfl) T.g_law_right_gap T.F_law_right_gap.kp T.b_law_right_gap .nil pass0 (pa_cons (pe_meth0 (pv 0) T.cl_Reach T.me_Reach_gap (ok_Reach_gap T) (hr.mono (by decide)) T.b_Reach_gap .nil pass0) (pa_cons (pv 5) pa_nil)))))
          (pss_one (ps_ret pe_bl))
          pss_nil)
        (pss_cons (ps_if (pt_cmpR o_isN (pv 5) pe_non (nomark _))
          (pss_one ps_break)
          pss_nil)
        (pss_cons (ps_dput (hu_of hr) (pv 3) (pe_tup (pa_cons (pe_ix (r := rIxT K) ix_tup (pv 5) pe_int (fun _ _ => rfl)) (pa_cons (pe_ix (r := rIxT K) ix_tup (pv 5) pe_int (fun _ _ => rfl)) pa_nil))) pe_bl rfl)
        (pss_one (ps_set (i := 0) sc_law_fills.nd rfl (by first | exact Or.inl rfl | exact Or.inr rfl) (pe_op (op_ownB T.me_Reach___or__ T.sf_Reach (ok_Reach__or T) T.b_Reach__or hr pass0) (pv 0) (pe_make T.mk_Reach (ok_Reach__init T) (hr.mono (by decide)) (by rfl) T.gc_Reach T.b_Reach__init .nil pass0 (pa_cons (pv 1) (pa_cons (pe_lst (pa_cons (pe_tup (pa_cons (pe_ix (r := rIxT K) ix_tup (pv 5) pe_int (fun _ _ => rfl)) (pa_cons (pe_ix (r := rIxT K) ix_tup (pv 5) pe_int (fun _ _ => rfl)) pa_nil))) pa_nil)) pa_nil)))))))))))
      (pss_one (ps_ret (pe_call (ok_law_is T) (hr.mono (by decide)) (by rfl) T.g_law_is T.F_law_is.kp T.b_law_is .nil pass0 (pa_cons (pv 0) (pa_cons (pv 1) (pa_cons (pe_call (ok_law_closed T) (hr.mono (by decide)) (by rfl) T.g_law_closed T.F_law_closed.kp T.b_law_closed .nil pass0 (pa_cons (pv 1) (pa_cons (pv 2) pa_nil))) pa_nil)))))))), ?_⟩
    have n8 := hp.n8
    walk_at "lw go"
    refine ⟨W, a, n, r, rfl, n8, iv, hrw, fun t H1 kvs f1 e1 h1 l1 i1 => ?_⟩
    have nb : -(2 ^ 64) < (n : Int) ∧ (n : Int) < 2 ^ 64 := ⟨by omega, by omega⟩
    walk_at "lw gi"
    refine rd_cut (fun σ' H' => ∃ (p' : Addr) (r' : Rel) (v4 v5 : Option V), σ' = [some (.ref p'), some (.int n), some (.ref a), some (.ref t), v4, v5] ∧ Ex W H H' ∧ ReachAt K T.c_Reach W H' p' n r' ∧ ∀ x y, x < n → y < n → r' x y = clo n r x y) ?_ ?_
    · walk_at "lw gi"
      have nn : (n : Int) * n ≤ 64 := by exact_mod_cast Nat.mul_le_mul n8 n8
      have n0 : 0 ≤ (n : Int) * n := Int.mul_nonneg (by omega) (by omega)
      have tt : ((n : Int) * n + 1).toNat = n * n + 1 := by
        have := Int.natCast_mul n n
        omega
      refine rd_forR1a (by omega) (by omega) ?_
      rw [tt]
      clear tt nn n0
      refine for_r (fun i σ' H' => ∃ (p' : Addr) (r' : Rel) (kvs : List (List Key × V)) (v4 v5 : Option V), σ' = [some (.ref p'), some (.int n), some (.ref a), some (.ref t), v4, v5] ∧ Ex W H H' ∧ At W H' t (.dT kvs) ∧ kvs.length ≤ 64 + i ∧ (∀ x y : Nat, x < n → y < n → (valV kvs [.inl x, .inl y]).isSome = r' x y) ∧ ReachAt K T.c_Reach W H' p' n r' ∧ (∀ x y, x < n → y < n → r x y = true → r' x y = true) ∧ (∀ x y, x < n → y < n → r' x y = true → clo n r x y = true) ∧ i ≤ (prI n r').length) ⟨p, r, kvs, _, _, rfl, e1, h1, by omega, i1, hp.mono e1, fun _ _ _ _ h => h, fun x y hx hy h => clo_of hp.irr hx hy h, Nat.zero_le _⟩ ?_ ?_
      · rintro i σ' H2 hi ⟨p', r', kvs, v4, v5, rfl, e2, h2, l2, i2, hp2, lo2, hi2, c2⟩
        have i65 : i ≤ 64 := by
          have := Nat.mul_le_mul n8 n8
          omega
        have iv2 := e2.iv
        walk_at "lw gi"
        refine ⟨W, t, n, r', rfl, n8, iv2, ⟨kvs, h2, by omega, i2⟩, fun lk H3 e3 d3 => ?_⟩
        walk_at "lw gi"
        refine go_gap e3.iv (hp2.mono e3) fun gv H4 e4 d4 => ?_
        walk_at "lw gi"
        refine ⟨W, gv, lk, gapL n r', rfl, e4.iv, d4, d3.ex e4, fun H5 e5 => ?_⟩
        have e25 := (e3.trans e4).trans e5
        have d5 := (d3.ex e4).ex e5
        walk_at "lw gi"
        cases hg : gapL n r' with
        | none =>
          rw [hg] at d5
          obtain rfl := d5.nonE
          refine ifD_yes rfl ?_
          walk_at "lw gi"
          exact ⟨p', r', _, _, rfl, e2.trans e25, hp2.mono e25, fun x y hx hy => by
            rw [Bool.eq_iff_iff]
            exact ⟨hi2 x y hx hy, clo_min lo2 (gap_none.mp hg) hx hy⟩⟩
        | some tr =>
          obtain ⟨x, y, z⟩ := tr
          rw [hg] at d5
          obtain ⟨lb, ys, rfl, lt, lw⟩ := id d5.tupE
          obtain rfl := tri_items lw
          obtain ⟨gx, gy, gz, gzx, g1, g2, g3⟩ := gap_some hg
          refine ifD_no (fun z => nomatch z) ?_
          have iv5 := e5.iv
          walk_at "lw gi"
          refine rd_ixTB lt at_0 ?_
          walk_at "lw gi"
          refine rd_ixTB lt (at_in (by decide) rfl) ?_
          walk_at "lw gi"
          rename_i t7 H7 f7 e7 h7
          have e27 := e25.trans e7
          have ht7 := e27.at_ h2
          refine rd_dpT (W := W) (k := [.inl (x : Int), .inl (z : Int)]) (e2.trans e27) f1 ht7 h7 rfl (by omega) fun H8 e8 h8 o8 => ?_
          have hp8 : ReachAt K T.c_Reach W H8 p' n r' := (hp2.mono e27).keep fun q o no hq => o8 _ _ (hq.ne ht7 (no _)) hq
          have lt8 : TuA K W H8 lb [.int x, .int y, .int z] := lt.imp (fun h => o8 _ _ ((e7.at_ h).ne ht7 fun z => by cases z) (e7.at_ h)) id
          have iv8 := e8.iv
          walk_at "lw gi"
          refine rd_ixTB lt8 at_0 ?_
          walk_at "lw gi"
          refine rd_ixTB lt8 (at_in (by decide) rfl) ?_
          walk_at "lw gi"
          rename_i t9 H9 f9 e9 h9 t10 H10 f10 e10 h10
          refine mk_reach (l := [((x : Int), (z : Int))]) e10.iv n8 ⟨t10, _, rfl, .inl h10, .cons ⟨t9, rfl, e10.at_ h9⟩ .nil⟩ (fun p hp => by rw [List.mem_singleton.mp hp]; exact ⟨x, z, rfl, gx, gz, gzx.symm⟩) (by rw [List.length_singleton]; decide) fun o H11 e11 R11 => ?_
          have e811 := (e9.trans e10).trans e11
          have eqr : ∀ a b, orR r' (ofI [((x : Int), (z : Int))]) a b = addR r' x z a b := fun a b => by
            show (r' a b || decide _) = (r' a b || decide _)
            congr 1
            rw [Bool.eq_iff_iff, decide_eq_true_iff, decide_eq_true_iff, List.mem_singleton]
            simp only [Prod.mk.injEq]
            omega
          walk_at "lw gi"
          refine own_bin e11.iv (hp8.mono e811) R11 fun m H12 e12 R12 => ?_
          have e812 := e811.trans e12
          walk_at "lw gi"
          refine ⟨m, orR r' (ofI [((x : Int), (z : Int))]), _, _, _, rfl, e8.trans e812, e812.at_ h8, Nat.le_trans (length_putK _ _ _) (by omega), fun a b ha hb => ?_, R12, fun a b ha hb h => (Bool.or_eq_true _ _).mpr (.inl (lo2 a b ha hb h)), fun a b ha hb h => ?_, ?_⟩
          · rw [valV_put, eqr]
            unfold addR
            by_cases c : a = x ∧ b = z
            · obtain ⟨rfl, rfl⟩ := c
              rw [if_pos rfl, decide_eq_true ⟨rfl, rfl⟩, Bool.or_true]; rfl
            · rw [if_neg (fun w => c (by injection w with w1 w2; injection w2 with w2 _; injection w1 with w1; injection w2 with w2; omega)), i2 a b ha hb, decide_eq_false c, Bool.or_false]
          · rw [eqr] at h
            unfold addR at h
            rw [Bool.or_eq_true, decide_eq_true_iff] at h
            rcases h with h | ⟨rfl, rfl⟩
            · exact hi2 a b ha hb h
            · exact clo_tr gy gzx.symm (hi2 _ _ gx gy g1) (hi2 _ _ gy gz g2)
          · have c2' : i ≤ ((prs n r').map nI).length := c2
            have pl := prs_len_add gx gz g3
            show i + 1 ≤ ((prs n _).map nI).length
            rw [List.length_map] at c2'
            rw [List.length_map, prs_congr fun a b _ _ => eqr a b]
            omega
      · rintro σ' H2 ⟨p', r', kvs, v4, v5, rfl, e2, h2, l2, i2, hp2, lo2, hi2, c2⟩
        have := prI_len n r'
        omega
    rintro σ' H2 ⟨p', r', v4, v5, rfl, e2, hp2, eq2⟩
    have hr2 := hrw.mono e2
    walk_at "lw gi"
    refine ⟨W, a, n, r, rfl, n8, e2.iv, hr2, fun u H3 e3 r3 => ?_⟩
    walk_at "lw gi"
    exact ⟨W, p', u, n, clo n r, rfl, e3.iv, (hp2.mono e3).congr eq2, r3, fun H4 e4 => k H4 ((e2.trans e3).trans e4)⟩

theorem ok_law_at (T : Tx K mg) {f : Addr} {fd : FuncData} (F : Fun K "law" "law" s_law f fd) : FnOk P w K mg base CX0 8 f fd ["script"] (spLaw K) := by
  refine F.ok sc_law (fun vs H Q E h => ?_) (fun cdv A outer s H vs Q E hr h => ?_)
  · obtain ⟨a, ns, rfl, ha, hn, k⟩ := h
    rfl
  · obtain ⟨a, ns, rfl, ha, hn, k⟩ := h
    refine ⟨_, (pss_cons (ps_set (i := 1) sc_law.nd rfl (by first | exact Or.inl rfl | exact Or.inr rfl) (pe_call (ok_law_pen T) (hr.mono (by decide)) (by rfl) T.g_law_pen T.F_law_pen.kp T.b_law_pen .nil pass0 (pa_cons (pv 0) pa_nil)))
      (pss_cons (ps_set (i := 2) sc_law.nd rfl (by first | exact Or.inl rfl | exact Or.inr rfl) (pe_ix (r := rIxL K) ix_list (pe_lst (pa_cons pe_int (pa_cons pe_int (pa_cons pe_int (pa_cons pe_int (pa_cons pe_int (pa_cons pe_int (pa_cons pe_int (pa_cons pe_int (pa_cons pe_int (pa_cons pe_int pa_nil))))))))))) (pe_call (ok_law_draw T) (hr.mono (by decide)) (by rfl) T.g_law_draw T.F_law_draw.kp T.b_law_draw .nil pass0 (pa_cons (pv 1) (pa_cons pe_int pa_nil))) (fun _ _ => rfl)))
      (pss_cons (ps_set (i := 3) sc_law.nd rfl (by first | exact Or.inl rfl | exact Or.inr rfl) (pe_call (ok_law_pairs T) (hr.mono (by decide)) (by rfl) T.g_law_pairs T.F_law_pairs.kp T.b_law_pairs .nil pass0 (pa_cons (pv 1) (pa_cons (pv 2) pa_nil))))
      (pss_cons (ps_set (i := 4) sc_law.nd rfl (by first | exact Or.inl rfl | exact Or.inr rfl) (pe_call (ok_law_pairs T) (hr.mono (by decide)) (by rfl) T.g_law_pairs T.F_law_pairs.kp T.b_law_pairs .nil pass0 (pa_cons (pv 1) (pa_cons (pv 2) pa_nil))))
      (pss_cons (ps_set (i := 5) sc_law.nd rfl (by first | exact Or.inl rfl | exact Or.inr rfl) (pe_make T.mk_Reach (ok_Reach__init T) (hr.mono (by decide)) (by rfl) T.gc_Reach T.b_Reach__init .nil pass0 (pa_cons (pv 2) (pa_cons (pe_callTy (r := Lw.rListO K) c_list (by rfl) T.n_list (by decide +kernel) (pa_cons (pv 3) pa_nil)) pa_nil))))
      (pss_cons (ps_set (i := 6) sc_law.nd rfl (by first | exact Or.inl rfl | exact Or.inr rfl) (pe_make T.mk_Reach (ok_Reach__init T) (hr.mono (by decide)) (by rfl) T.gc_Reach T.b_Reach__init .nil pass0 (pa_cons (pv 2) (pa_cons (pe_callTy (r := Lw.rListO K) c_list (by rfl) T.n_list (by decide +kernel) (pa_cons (pv 4) pa_nil)) pa_nil))))
      (pss_cons (ps_if (PW.pt (pw_or (pt_not (pt_val (pe_call (ok_law_closes T) hr (by rfl) T.g_law_closes T.F_law_closes.kp T.b_law_closes .nil pass0 (pa_cons (pv 5) (pa_cons (pv 2) (pa_cons (pv 3) pa_nil)))))) (pw_or1 (pt_not (pt_val (pe_call (ok_law_closes T) hr (by rfl) T.g_law_closes T.F_law_closes.kp T.b_law_closes .nil pass0 (pa_cons (pv 6) (pa_cons (pv 2) (pa_cons (pv 4) pa_nil)))))))))
        (pss_one (ps_ret pe_bl))
        pss_nil)
      (pss_cons (ps_if (pt_not (pt_val (pe_call (ok_law_is T) (hr.mono (by decide)) (by rfl) T.g_law_is T.F_law_is.kp T.b_law_is .nil pass0 (pa_cons (pe_op (op_ownB T.me_Reach___mul__ T.sf_Reach (ok_Reach__mul T) T.b_Reach__mul (hr.mono (by decide)) pass0) (pv 5) (pv 6)) (pa_cons (pv 2) (pa_cons (pe_call (ok_law_times T) (hr.mono (by decide)) (by rfl) T.g_law_times T.F_law_times.kp T.b_law_times .nil pass0 (pa_cons (pv 2) (pa_cons (pv 3) (pa_cons (pv 4) pa_nil)))) pa_nil))))))
        (pss_one (ps_ret pe_bl))
        pss_nil)
      (pss_cons (ps_if (pt_not (pt_val (pe_call (ok_law_is T) (hr.mono (by decide)) (by rfl) T.g_law_is T.F_law_is.kp T.b_law_is .nil pass0 (pa_cons (pe_op (op_ownB T.me_Reach___mul__ T.sf_Reach (ok_Reach__mul T) T.b_Reach__mul (hr.mono (by decide)) pass0) (pv 6) (pv 5)) (pa_cons (pv 2) (pa_cons (pe_call (ok_law_times T) (hr.mono (by decide)) (by rfl) T.g_law_times T.F_law_times.kp T.b_law_times .nil pass0 (pa_cons (pv 2) (pa_cons (pv 4) (pa_cons (pv 3) pa_nil)))) pa_nil))))))
        (pss_one (ps_ret pe_bl))
        pss_nil)
      (pss_cons (ps_set (i := 7) sc_law.nd rfl (by first | exact Or.inl rfl | exact Or.inr rfl) (pe_call (ok_law_closed T) (hr.mono (by decide)) (by rfl) T.g_law_closed T.F_law_closed.kp T.b_law_closed .nil pass0 (pa_cons (pv 2) (pa_cons (pe_lc (own := [("pair", 8)]) rfl sc_law.nd (pi_list (pe_call (ok_law_every T) (hr.mono (by decide)) (by rfl) T.g_law_every T.F_law_every.kp T.b_law_every .nil pass0 (pa_cons (pv 2) pa_nil))) (blkOk_by (own := [("pair", 8)]) (N := N_law) (sc := (defScope s_law)) (by decide +kernel)) (fun _ _ _ _ _ => (pg_name (i := 8) sc_law.nd rfl (by first | exact Or.inl rfl | exact Or.inr rfl))) (fun _ _ _ _ _ => (pts_one (PW.pt (pw_or (pt_cmpR (r := rInD K) (op_inD (hu65 hr)) (pv 8) (pv 3) (by rfl)) (pw_or1 (pt_cmpR (r := rInD K) (op_inD (hu65 hr)) (pv 8) (pv 4) (by rfl))))))) (fun _ _ _ _ _ => (pv 8))) pa_nil))))
      (pss_cons (ps_if (pt_not (pt_val (pe_call (ok_law_is T) (hr.mono (by decide)) (by rfl) T.g_law_is T.F_law_is.kp T.b_law_is .nil pass0 (pa_cons (pe_meth0 (pe_op (op_ownB T.me_Reach___or__ T.sf_Reach (ok_Reach__or T) T.b_Reach__or (hr.mono (by decide)) pass0) (pv 5) (pv 6)) T.cl_Reach T.me_Reach_closed (ok_Reach_closed T) (hr.mono (by decide)) T.b_Reach_closed .nil pass0) (pa_cons (pv 2) (pa_cons (pv 7) pa_nil))))))
        (pss_one (ps_ret pe_bl))
        pss_nil)
      (pss_cons (ps_if (pt_not (pt_val (pe_call (ok_law_is T) (hr.mono (by decide)) (by rfl) T.g_law_is T.F_law_is.kp T.b_law_is .nil pass0 (pa_cons (pe_meth0 (pe_op (op_ownB T.me_Reach___or__ T.sf_Reach (ok_Reach__or T) T.b_Reach__or (hr.mono (by decide)) pass0) (pe_meth0 (pv 5) T.cl_Reach T.me_Reach_closed (ok_Reach_closed T) (hr.mono (by decide)) T.b_Reach_closed .nil pass0) (pe_meth0 (pv 6) T.cl_Reach T.me_Reach_closed (ok_Reach_closed T) (hr.mono (by decide)) T.b_Reach_closed .nil pass0)) T.cl_Reach T.me_Reach_closed (ok_Reach_closed T) (hr.mono (by decide)) T.b_Reach_closed .nil pass0) (pa_cons (pv 2) (pa_cons (pv 7) pa_nil))))))
        (pss_one (ps_ret pe_bl))
        pss_nil)
      (pss_cons (ps_if (pt_cmpR o_notN (pe_meth0 (pe_op (op_ownB T.me_Reach___and__ T.sf_Reach (ok_Reach__and T) T.b_Reach__and (hr.mono (by decide)) pass0) (pe_meth0 (pv 5) T.cl_Reach T.me_Reach_closed (ok_Reach_closed T) (hr.mono (by decide)) T.b_Reach_closed .nil pass0) (pe_meth0 (pv 6) T.cl_Reach T.me_Reach_closed (ok_Reach_closed T) (hr.mono (by decide)) T.b_Reach_closed .nil pass0)) T.cl_Reach T.me_Reach_gap (ok_Reach_gap T) (hr.mono (by decide)) T.b_Reach_gap .nil pass0) pe_non (nomark _))
        (pss_one (ps_ret pe_bl))
        pss_nil)
      (pss_cons (ps_if (pt_not (pt_val (pe_call (ok_law_fills T) hr (by rfl) T.g_law_fills T.F_law_fills.kp T.b_law_fills .nil pass0 (pa_cons (pv 5) (pa_cons (pv 2) (pa_cons (pv 3) pa_nil))))))
        (pss_one (ps_ret pe_bl))
        pss_nil)
      (pss_one (ps_ret (pe_and (pe_call (ok_law_is T) (hr.mono (by decide)) (by rfl) T.g_law_is T.F_law_is.kp T.b_law_is .nil pass0 (pa_cons (pv 5) (pa_cons (pv 2) (pa_cons (pv 3) pa_nil)))) (pe_one (pe_call (ok_law_is T) (hr.mono (by decide)) (by rfl) T.g_law_is T.F_law_is.kp T.b_law_is .nil pass0 (pa_cons (pv 6) (pa_cons (pv 2) (pa_cons (pv 4) pa_nil)))))))))))))))))))))), ?_⟩
    walk_at "lw go"
    refine ⟨a, ns, rfl, ha, hn, fun p c H1 iv => ?_⟩
    walk_at "lw go"
    rename_i m1 H2 f2 e2 h2 r3 H3 e3 l3 u3 v hv
    obtain ⟨n, rfl, n8⟩ : ∃ n : Nat, v = .int n ∧ n ≤ 8 := by
      simp only [List.mem_cons, List.not_mem_nil, or_false] at hv
      rcases hv with rfl | rfl | rfl | rfl | rfl | rfl | rfl | rfl | rfl | rfl
      · exact ⟨4, rfl, by decide⟩
      · exact ⟨3, rfl, by decide⟩
      · exact ⟨5, rfl, by decide⟩
      · exact ⟨2, rfl, by decide⟩
      · exact ⟨6, rfl, by decide⟩
      · exact ⟨8, rfl, by decide⟩
      · exact ⟨7, rfl, by decide⟩
      · exact ⟨1, rfl, by decide⟩
      · exact ⟨0, rfl, by decide⟩
      · exact ⟨5, rfl, by decide⟩
    clear f2 e2 h2
    refine ⟨p, c, n, rfl, n8, e3.iv, fun a4 H4 r1 e4 irr1 rw1 => ?_⟩
    walk_at "lw go"
    refine ⟨p, c, n, rfl, n8, e4.iv, fun a5 H5 r2 e5 irr2 rw2 => ?_⟩
    have iv5 := e5.iv
    have rw15 := rw1.mono e5
    obtain ⟨xs1, t1, q1⟩ := id rw15
    obtain ⟨xs2, t2, q2⟩ := id rw2
    walk_at "lw gi"
    rename_i l6 H6 f6 e6 h6
    refine mk_reach e6.iv n8 ⟨l6, xs1, rfl, .inl h6, q1.ex e6⟩ (good_prI irr1) (Nat.le_trans (n64 n8 r1) (by decide)) fun o1 H7 e7 R1 => ?_
    have R1 := R1.congr fun _ _ hx hy => ofI_prI hx hy
    have e57 := e6.trans e7
    have w1 := rw15.mono e57
    have w2 := rw2.mono e57
    have t27 := e57.at_ t2
    have iv7 := e7.iv
    walk_at "lw gi"
    rename_i l8 H8 f8 e8 h8
    refine mk_reach e8.iv n8 ⟨l8, xs2, rfl, .inl h8, (q2.ex e57).ex e8⟩ (good_prI irr2) (Nat.le_trans (n64 n8 r2) (by decide)) fun o2 H9 e9 R2 => ?_
    have R2 := R2.congr fun _ _ hx hy => ofI_prI hx hy
    have e79 := e8.trans e9
    have R1 := R1.mono e79
    have w1 := w1.mono e79
    have w2 := w2.mono e79
    walk_at "lw gi"
    refine ⟨WP p c, o1, a4, n, r1, rfl, e9.iv, R1, w1, fun H10 e10 => ?_⟩
    have R1 := R1.mono e10
    have R2 := R2.mono e10
    have w1 := w1.mono e10
    have w2 := w2.mono e10
    walk_at "lw gi"
    refine ⟨WP p c, o2, a5, n, r2, rfl, e10.iv, R2, w2, fun H11 e11 => ?_⟩
    have R1 := R1.mono e11
    have R2 := R2.mono e11
    have w1 := w1.mono e11
    have w2 := w2.mono e11
    walk_at "lw gi"
    refine own_bin e11.iv R1 R2 fun m1 H12 e12 M1 => ?_
    have R1 := R1.mono e12
    have R2 := R2.mono e12
    have w1 := w1.mono e12
    have w2 := w2.mono e12
    walk_at "lw gi"
    refine ⟨WP p c, a4, a5, n, r1, r2, rfl, n8, e12.iv, w1, w2, fun t1 H13 e13 T1 => ?_⟩
    have R1 := R1.mono e13
    have R2 := R2.mono e13
    have w1 := w1.mono e13
    have w2 := w2.mono e13
    have M1 := M1.mono e13
    walk_at "lw gi"
    refine ⟨WP p c, m1, t1, n, timesR n r1 r2, rfl, e13.iv, M1, T1, fun H14 e14 => ?_⟩
    have R1 := R1.mono e14
    have R2 := R2.mono e14
    have w1 := w1.mono e14
    have w2 := w2.mono e14
    walk_at "lw gi"
    refine own_bin e14.iv R2 R1 fun m2 H15 e15 M2 => ?_
    have R1 := R1.mono e15
    have R2 := R2.mono e15
    have w1 := w1.mono e15
    have w2 := w2.mono e15
    walk_at "lw gi"
    refine ⟨WP p c, a5, a4, n, r2, r1, rfl, n8, e15.iv, w2, w1, fun t2 H16 e16 T2 => ?_⟩
    have R1 := R1.mono e16
    have R2 := R2.mono e16
    have w1 := w1.mono e16
    have w2 := w2.mono e16
    have M2 := M2.mono e16
    walk_at "lw gi"
    refine ⟨WP p c, m2, t2, n, timesR n r2 r1, rfl, e16.iv, M2, T2, fun H17 e17 => ?_⟩
    have R1 := R1.mono e17
    have R2 := R2.mono e17
    have w1 := w1.mono e17
    have w2 := w2.mono e17
    walk_at "lw gi"
    refine ⟨WP p c, n, rfl, n8, e17.iv, fun EL H18 fE e18 r18 => ?_⟩
    have R1 := R1.mono e18
    have R2 := R2.mono e18
    have w1 := w1.mono e18
    have w2 := w2.mono e18
    obtain ⟨es, hE, qE⟩ := r18
    have lE := qE.length
    have nE := n64 n8 neR
    have iv18 := e18.iv
    walk_at "lw gi"
    refine ⟨EL, rfl, ⟨_, hE.sl⟩, lc_wL ?_⟩
    refine lc_w (W := WP p c) (X := fun i x => es[i]? = some x) (n := es.length) walk_list (fun i ys Hh => PrAs (WP p c) Hh ys (((prI n neR).take i).filter (orF n r1 r2))) iv18 (by omega) (fun H' e => (e.at_ hE).sl) (fun _ _ _ _ e q => q.ex e) .nil ?_ ?_
    · rintro i x D zs H' QV QN hn hx hD hDa e8 q8 _ qv qn
      obtain ⟨pr, hpr, hp⟩ := qE.get hx
      have hp' := hp.ex e8
      have yes : orF n r1 r2 pr = true → PrAs (WP p c) (Lw.hide D H') (zs ++ [x]) (((prI n neR).take (i + 1)).filter (orF n r1 r2)) := fun hin => by
        have fl : List.filter (orF n r1 r2) [pr] = [pr] := List.filter_cons_of_pos hin
        rw [List.take_add_one, hpr, List.filter_append]
        show PrAs _ _ _ (_ ++ List.filter _ [pr])
        rw [fl]
        exact F2.snoc q8 (hp'.hide e8.iv hDa)
      walk_at "lw gi"
      refine rd_inLD (W := WP p c) hp'.dw (w1.mono e8).dw (shp_pair _) (shp_lst _) ?_
      rw [any_pairs]
      walk_at "lw gi"
      refine ifD ?_ ?_ <;> intro hin
      · walk_at "lw gi"
        exact qv _ _ (Ex.refl e8.iv) (yes (by unfold orF; rw [decide_eq_true hin, Bool.true_or]))
      · walk_at "lw gi"
        refine rd_inLD (W := WP p c) hp'.dw (w2.mono e8).dw (shp_pair _) (shp_lst _) ?_
        rw [any_pairs]
        walk_at "lw gi"
        refine ifD ?_ ?_ <;> intro hin2
        · walk_at "lw gi"
          exact qv _ _ (Ex.refl e8.iv) (yes (by unfold orF; rw [decide_eq_true hin2, Bool.or_true]))
        · refine qn _ (Ex.refl e8.iv) ?_
          have fl : List.filter (orF n r1 r2) [pr] = [] := List.filter_cons_of_neg (by unfold orF; rw [decide_eq_false hin, decide_eq_false hin2]; decide)
          rw [List.take_add_one, hpr, List.filter_append]
          show PrAs _ _ _ (_ ++ List.filter _ [pr])
          rw [fl, List.append_nil]
          exact q8
    rintro D H19 zs hD e19 h19 q19 lz
    rw [lE, List.take_length, filter_prI, or_rel irr1 irr2] at q19
    have R1 := R1.mono e19
    have R2 := R2.mono e19
    have w1 := w1.mono e19
    have w2 := w2.mono e19
    walk_at "lw gi"
    refine ⟨WP p c, D, n, orR r1 r2, rfl, n8, e19.iv, ⟨zs, h19, q19⟩, fun bo H20 e20 B => ?_⟩
    have R1 := R1.mono e20
    have R2 := R2.mono e20
    have w1 := w1.mono e20
    have w2 := w2.mono e20
    walk_at "lw gi"
    refine own_bin e20.iv R1 R2 fun m3 H21 e21 M3 => ?_
    have R1 := R1.mono e21
    have R2 := R2.mono e21
    have w1 := w1.mono e21
    have w2 := w2.mono e21
    have B := B.mono e21
    walk_at "lw gi"
    refine go_closed e21.iv M3 fun m4 H22 e22 M4 => ?_
    have R1 := R1.mono e22
    have R2 := R2.mono e22
    have w1 := w1.mono e22
    have w2 := w2.mono e22
    have B := B.mono e22
    walk_at "lw gi"
    refine ⟨WP p c, m4, bo, n, clo n (orR r1 r2), rfl, e22.iv, M4, B, fun H23 e23 => ?_⟩
    have R1 := R1.mono e23
    have R2 := R2.mono e23
    have w1 := w1.mono e23
    have w2 := w2.mono e23
    have B := B.mono e23
    walk_at "lw gi"
    refine go_closed e23.iv R1 fun m5 H24 e24 M5 => ?_
    have R1 := R1.mono e24
    have R2 := R2.mono e24
    have w1 := w1.mono e24
    have w2 := w2.mono e24
    have B := B.mono e24
    walk_at "lw gi"
    refine go_closed e24.iv R2 fun m6 H25 e25 M6 => ?_
    have R1 := R1.mono e25
    have R2 := R2.mono e25
    have w1 := w1.mono e25
    have w2 := w2.mono e25
    have B := B.mono e25
    have M5 := M5.mono e25
    walk_at "lw gi"
    refine own_bin e25.iv M5 M6 fun m7 H26 e26 M7 => ?_
    have R1 := R1.mono e26
    have R2 := R2.mono e26
    have w1 := w1.mono e26
    have w2 := w2.mono e26
    have B := B.mono e26
    walk_at "lw gi"
    refine go_closed e26.iv M7 fun m8 H27 e27 M8 => ?_
    have R1 := R1.mono e27
    have R2 := R2.mono e27
    have w1 := w1.mono e27
    have w2 := w2.mono e27
    have B := B.mono e27
    walk_at "lw gi"
    refine ⟨WP p c, m8, bo, n, clo n (orR r1 r2), rfl, e27.iv, M8.congr fun x y hx hy => clo_or irr1 irr2 hx hy, B, fun H28 e28 => ?_⟩
    have R1 := R1.mono e28
    have R2 := R2.mono e28
    have w1 := w1.mono e28
    have w2 := w2.mono e28
    have B := B.mono e28
    walk_at "lw gi"
    refine go_closed e28.iv R1 fun m9 H29 e29 M9 => ?_
    have R1 := R1.mono e29
    have R2 := R2.mono e29
    have w1 := w1.mono e29
    have w2 := w2.mono e29
    walk_at "lw gi"
    refine go_closed e29.iv R2 fun m10 H30 e30 M10 => ?_
    have R1 := R1.mono e30
    have R2 := R2.mono e30
    have w1 := w1.mono e30
    have w2 := w2.mono e30
    have M9 := M9.mono e30
    walk_at "lw gi"
    refine own_bin e30.iv M9 M10 fun m11 H31 e31 M11 => ?_
    have R1 := R1.mono e31
    have R2 := R2.mono e31
    have w1 := w1.mono e31
    have w2 := w2.mono e31
    walk_at "lw gi"
    refine go_gap e31.iv M11 fun gv H32 e32 d32 => ?_
    have R1 := R1.mono e32
    have R2 := R2.mono e32
    have w1 := w1.mono e32
    have w2 := w2.mono e32
    rw [gap_none.mpr (gap_and (clo_gap n r1) (clo_gap n r2))] at d32
    obtain rfl := d32.nonE
    walk_at "lw gi"
    rw [decide_eq_true (rfl : V.non = V.non)]
    refine iteNT ?_
    walk_at "lw gi"
    refine ⟨WP p c, o1, a4, n, r1, rfl, e32.iv, R1, w1, fun H33 e33 => ?_⟩
    have R1 := R1.mono e33
    have R2 := R2.mono e33
    have w1 := w1.mono e33
    have w2 := w2.mono e33
    walk_at "lw gi"
    refine ⟨WP p c, o1, a4, n, r1, rfl, e33.iv, R1, w1, fun H34 e34 => ?_⟩
    have R1 := R1.mono e34
    have R2 := R2.mono e34
    have w1 := w1.mono e34
    have w2 := w2.mono e34
    walk_at "lw gi"
    exact ⟨WP p c, o2, a5, n, r2, rfl, e34.iv, R2, w2, fun H35 e35 => k H35⟩

end

theorem all_mk {l : PySem.W.OpenLaw} {w : World} {K : PySem.W.Frag} {h : Heap} {mg : Str → Option Value} {fa : Addr} (X : K.In h) (G : h.Ns mainGlobals mg) (hfa : mg "law" = some (.ref fa))
    {cc_Reach : Addr}
    {f0 : Addr} {od0 an0 : Option Addr} {sl0 : Array (Option Value)} {oc0 kV0 dc0 pm0 cd0 ct0 : Value}
    {f1 : Addr} {od1 an1 : Option Addr} {sl1 : Array (Option Value)} {oc1 kV1 dc1 pm1 cd1 ct1 : Value}
    {f2 : Addr} {od2 an2 : Option Addr} {sl2 : Array (Option Value)} {oc2 kV2 dc2 pm2 cd2 ct2 : Value}
    {f3 : Addr} {od3 an3 : Option Addr} {sl3 : Array (Option Value)} {oc3 kV3 dc3 pm3 cd3 ct3 : Value}
    {f4 : Addr} {od4 an4 : Option Addr} {sl4 : Array (Option Value)} {oc4 kV4 dc4 pm4 cd4 ct4 : Value}
    {f5 : Addr} {od5 an5 : Option Addr} {sl5 : Array (Option Value)} {oc5 kV5 dc5 pm5 cd5 ct5 : Value} {dT5 : Addr} {dO5 : Value} {dE5 : Option Addr} {dI5 : Array Value} {dM5 : Nat} {dL5 : Array (Option Value)}
    {f6 : Addr} {od6 an6 : Option Addr} {sl6 : Array (Option Value)} {oc6 kV6 dc6 pm6 cd6 ct6 : Value}
    {f7 : Addr} {od7 an7 : Option Addr} {sl7 : Array (Option Value)} {oc7 kV7 dc7 pm7 cd7 ct7 : Value}
    {f8 : Addr} {od8 an8 : Option Addr} {sl8 : Array (Option Value)} {oc8 kV8 dc8 pm8 cd8 ct8 : Value}
    {f9 : Addr} {od9 an9 : Option Addr} {sl9 : Array (Option Value)} {oc9 kV9 dc9 pm9 cd9 ct9 : Value}
    {f10 : Addr} {od10 an10 : Option Addr} {sl10 : Array (Option Value)} {oc10 kV10 dc10 pm10 cd10 ct10 : Value}
    {f11 : Addr} {od11 an11 : Option Addr} {sl11 : Array (Option Value)} {oc11 kV11 dc11 pm11 cd11 ct11 : Value}
    {f12 : Addr} {od12 an12 : Option Addr} {sl12 : Array (Option Value)} {oc12 kV12 dc12 pm12 cd12 ct12 : Value}
    {f13 : Addr} {od13 an13 : Option Addr} {sl13 : Array (Option Value)} {oc13 kV13 dc13 pm13 cd13 ct13 : Value}
    {f14 : Addr} {od14 an14 : Option Addr} {sl14 : Array (Option Value)} {oc14 kV14 dc14 pm14 cd14 ct14 : Value}
    {f15 : Addr} {od15 an15 : Option Addr} {sl15 : Array (Option Value)} {oc15 kV15 dc15 pm15 cd15 ct15 : Value}
    {f16 : Addr} {od16 an16 : Option Addr} {sl16 : Array (Option Value)} {oc16 kV16 dc16 pm16 cd16 ct16 : Value}
    {f17 : Addr} {od17 an17 : Option Addr} {sl17 : Array (Option Value)} {oc17 kV17 dc17 pm17 cd17 ct17 : Value}
    {f18 : Addr} {od18 an18 : Option Addr} {sl18 : Array (Option Value)} {oc18 kV18 dc18 pm18 cd18 ct18 : Value}
    {f19 : Addr} {od19 an19 : Option Addr} {sl19 : Array (Option Value)} {oc19 kV19 dc19 pm19 cd19 ct19 : Value}
    {f20 : Addr} {od20 an20 : Option Addr} {sl20 : Array (Option Value)} {oc20 kV20 dc20 pm20 cd20 ct20 : Value}
    {f21 : Addr} {od21 an21 : Option Addr} {sl21 : Array (Option Value)} {oc21 kV21 dc21 pm21 cd21 ct21 : Value}
    {f22 : Addr} {od22 an22 : Option Addr} {sl22 : Array (Option Value)} {oc22 kV22 dc22 pm22 cd22 ct22 : Value}
    {f23 : Addr} {od23 an23 : Option Addr} {sl23 : Array (Option Value)} {oc23 kV23 dc23 pm23 cd23 ct23 : Value}
    {f24 : Addr} {od24 an24 : Option Addr} {sl24 : Array (Option Value)} {oc24 kV24 dc24 pm24 cd24 ct24 : Value}
    {f25 : Addr} {od25 an25 : Option Addr} {sl25 : Array (Option Value)} {oc25 kV25 dc25 pm25 cd25 ct25 : Value}
    {f26 : Addr} {od26 an26 : Option Addr} {sl26 : Array (Option Value)} {oc26 kV26 dc26 pm26 cd26 ct26 : Value}
    {f27 : Addr} {od27 an27 : Option Addr} {sl27 : Array (Option Value)} {oc27 kV27 dc27 pm27 cd27 ct27 : Value}
    {f28 : Addr} {od28 an28 : Option Addr} {sl28 : Array (Option Value)} {oc28 kV28 dc28 pm28 cd28 ct28 : Value}
    {f29 : Addr} {od29 an29 : Option Addr} {sl29 : Array (Option Value)} {oc29 kV29 dc29 pm29 cd29 ct29 : Value}
    {f30 : Addr} {od30 an30 : Option Addr} {sl30 : Array (Option Value)} {oc30 kV30 dc30 pm30 cd30 ct30 : Value}
    {f31 : Addr} {od31 an31 : Option Addr} {sl31 : Array (Option Value)} {oc31 kV31 dc31 pm31 cd31 ct31 : Value}
    {f32 : Addr} {od32 an32 : Option Addr} {sl32 : Array (Option Value)} {oc32 kV32 dc32 pm32 cd32 ct32 : Value}
    {tk_MOST_NUMBERS : Tok}
    (ka_Reach : PySem.W.nsIn K mainGlobals "Reach" = some (some (.ref cc_Reach))) (pg_Reach : PySem.W.plainGet K cc_Reach Str.empty = true) (hd_Reach : PySem.W.hasDictIn K cc_Reach = true) (po_Reach : PySem.W.plainOver K cc_Reach = true) (sa_Reach : PySem.W.findIn K (.ref cc_Reach) "__setattr__" = some (some (.builtin "object.__setattr__"))) (mi_Reach : PySem.W.makesIn K cc_Reach = true) (kq_Reach : PySem.W.keepIn K (.ref cc_Reach) = true) (nf_size_Reach : PySem.W.findIn K (.ref cc_Reach) "size" = some none) (nf_arrows_Reach : PySem.W.findIn K (.ref cc_Reach) "arrows" = some none) (sf_Reach : PySem.W.selfFirst K cc_Reach = true) (ca_Reach : PySem.W.findIn K (.ref cc_Reach) "__class__" = some (some (.builtin "object.__class__"))) (cn_Reach : PySem.W.specialIn K (.builtin "object.__class__") "__get__" = some (some (.builtin "getset_descriptor.__get__"))) (ct_Reach : PySem.W.takesIn K (.builtin "object.__class__") = some true) (cm_Reach : PySem.W.mroIn K cc_Reach (.type "object") = some true) (ks_Reach : PySem.W.kitOne K (.ref cc_Reach) (.ref cc_Reach) = some true)
    (a0 : PySem.W.nsIn K mainGlobals "is_integer" = some (some (.ref f0))) (l0 : K.lookup f0 = some ⟨oc0, od0, .func (PySem.W.fnOf "is_integer" "is_integer" (defArgs s_is_integer) (defBody s_is_integer) (defScope s_is_integer) .none kV0 dc0 pm0 an0 cd0 ct0), sl0⟩) (c0 : PySem.W.codeIn K cd0 "is_integer" = true) (k0 : PySem.W.keepIn K (.ref f0) = true)
    (a1 : PySem.W.nsIn K mainGlobals "is_row" = some (some (.ref f1))) (l1 : K.lookup f1 = some ⟨oc1, od1, .func (PySem.W.fnOf "is_row" "is_row" (defArgs s_is_row) (defBody s_is_row) (defScope s_is_row) .none kV1 dc1 pm1 an1 cd1 ct1), sl1⟩) (c1 : PySem.W.codeIn K cd1 "is_row" = true) (k1 : PySem.W.keepIn K (.ref f1) = true)
    (a2 : PySem.W.nsIn K mainGlobals "_is_two" = some (some (.ref f2))) (l2 : K.lookup f2 = some ⟨oc2, od2, .func (PySem.W.fnOf "_is_two" "_is_two" (defArgs s_is_two) (defBody s_is_two) (defScope s_is_two) .none kV2 dc2 pm2 an2 cd2 ct2), sl2⟩) (c2 : PySem.W.codeIn K cd2 "_is_two" = true) (k2 : PySem.W.keepIn K (.ref f2) = true)
    (a3 : PySem.W.nsIn K mainGlobals "_is_pair" = some (some (.ref f3))) (l3 : K.lookup f3 = some ⟨oc3, od3, .func (PySem.W.fnOf "_is_pair" "_is_pair" (defArgs s_is_pair) (defBody s_is_pair) (defScope s_is_pair) .none kV3 dc3 pm3 an3 cd3 ct3), sl3⟩) (c3 : PySem.W.codeIn K cd3 "_is_pair" = true) (k3 : PySem.W.keepIn K (.ref f3) = true)
    (a4 : PySem.W.nsIn K mainGlobals "_check_sizes" = some (some (.ref f4))) (l4 : K.lookup f4 = some ⟨oc4, od4, .func (PySem.W.fnOf "_check_sizes" "_check_sizes" (defArgs s_check_sizes) (defBody s_check_sizes) (defScope s_check_sizes) .none kV4 dc4 pm4 an4 cd4 ct4), sl4⟩) (c4 : PySem.W.codeIn K cd4 "_check_sizes" = true) (k4 : PySem.W.keepIn K (.ref f4) = true)
    (a5 : PySem.W.findIn K (.ref cc_Reach) "__init__" = some (some (.ref f5))) (l5 : K.lookup f5 = some ⟨oc5, od5, .func (PySem.W.fnOf "__init__" "Reach.__init__" (defArgs s_Reach__init) (defBody s_Reach__init) (defScope s_Reach__init) (.ref dT5) kV5 dc5 pm5 an5 cd5 ct5), sl5⟩) (c5 : PySem.W.codeIn K cd5 "Reach.__init__" = true) (k5 : PySem.W.keepIn K (.ref f5) = true)
    (u5 : K.lookup dT5 = some ⟨dO5, dE5, .seq dI5 dM5, dL5⟩) (y5 : dI5.toList.length = 1)
    (i5 : PySem.W.isFn K (.ref f5) = true)
    (a6 : PySem.W.findIn K (.ref cc_Reach) "__contains__" = some (some (.ref f6))) (l6 : K.lookup f6 = some ⟨oc6, od6, .func (PySem.W.fnOf "__contains__" "Reach.__contains__" (defArgs s_Reach__contains) (defBody s_Reach__contains) (defScope s_Reach__contains) .none kV6 dc6 pm6 an6 cd6 ct6), sl6⟩) (c6 : PySem.W.codeIn K cd6 "Reach.__contains__" = true) (k6 : PySem.W.keepIn K (.ref f6) = true)
    (i6 : PySem.W.isFn K (.ref f6) = true)
    (a7 : PySem.W.findIn K (.ref cc_Reach) "__len__" = some (some (.ref f7))) (l7 : K.lookup f7 = some ⟨oc7, od7, .func (PySem.W.fnOf "__len__" "Reach.__len__" (defArgs s_Reach__len) (defBody s_Reach__len) (defScope s_Reach__len) .none kV7 dc7 pm7 an7 cd7 ct7), sl7⟩) (c7 : PySem.W.codeIn K cd7 "Reach.__len__" = true) (k7 : PySem.W.keepIn K (.ref f7) = true)
    (i7 : PySem.W.isFn K (.ref f7) = true)
    (a8 : PySem.W.findIn K (.ref cc_Reach) "__eq__" = some (some (.ref f8))) (l8 : K.lookup f8 = some ⟨oc8, od8, .func (PySem.W.fnOf "__eq__" "Reach.__eq__" (defArgs s_Reach__eq) (defBody s_Reach__eq) (defScope s_Reach__eq) .none kV8 dc8 pm8 an8 cd8 ct8), sl8⟩) (c8 : PySem.W.codeIn K cd8 "Reach.__eq__" = true) (k8 : PySem.W.keepIn K (.ref f8) = true)
    (i8 : PySem.W.isFn K (.ref f8) = true)
    (a9 : PySem.W.findIn K (.ref cc_Reach) "__or__" = some (some (.ref f9))) (l9 : K.lookup f9 = some ⟨oc9, od9, .func (PySem.W.fnOf "__or__" "Reach.__or__" (defArgs s_Reach__or) (defBody s_Reach__or) (defScope s_Reach__or) .none kV9 dc9 pm9 an9 cd9 ct9), sl9⟩) (c9 : PySem.W.codeIn K cd9 "Reach.__or__" = true) (k9 : PySem.W.keepIn K (.ref f9) = true)
    (i9 : PySem.W.isFn K (.ref f9) = true)
    (a10 : PySem.W.findIn K (.ref cc_Reach) "__and__" = some (some (.ref f10))) (l10 : K.lookup f10 = some ⟨oc10, od10, .func (PySem.W.fnOf "__and__" "Reach.__and__" (defArgs s_Reach__and) (defBody s_Reach__and) (defScope s_Reach__and) .none kV10 dc10 pm10 an10 cd10 ct10), sl10⟩) (c10 : PySem.W.codeIn K cd10 "Reach.__and__" = true) (k10 : PySem.W.keepIn K (.ref f10) = true)
    (i10 : PySem.W.isFn K (.ref f10) = true)
    (a11 : PySem.W.findIn K (.ref cc_Reach) "__mul__" = some (some (.ref f11))) (l11 : K.lookup f11 = some ⟨oc11, od11, .func (PySem.W.fnOf "__mul__" "Reach.__mul__" (defArgs s_Reach__mul) (defBody s_Reach__mul) (defScope s_Reach__mul) .none kV11 dc11 pm11 an11 cd11 ct11), sl11⟩) (c11 : PySem.W.codeIn K cd11 "Reach.__mul__" = true) (k11 : PySem.W.keepIn K (.ref f11) = true)
    (i11 : PySem.W.isFn K (.ref f11) = true)
    (a12 : PySem.W.findIn K (.ref cc_Reach) "pairs" = some (some (.ref f12))) (l12 : K.lookup f12 = some ⟨oc12, od12, .func (PySem.W.fnOf "pairs" "Reach.pairs" (defArgs s_Reach_pairs) (defBody s_Reach_pairs) (defScope s_Reach_pairs) .none kV12 dc12 pm12 an12 cd12 ct12), sl12⟩) (c12 : PySem.W.codeIn K cd12 "Reach.pairs" = true) (k12 : PySem.W.keepIn K (.ref f12) = true)
    (i12 : PySem.W.isFn K (.ref f12) = true)
    (a13 : PySem.W.findIn K (.ref cc_Reach) "closed" = some (some (.ref f13))) (l13 : K.lookup f13 = some ⟨oc13, od13, .func (PySem.W.fnOf "closed" "Reach.closed" (defArgs s_Reach_closed) (defBody s_Reach_closed) (defScope s_Reach_closed) .none kV13 dc13 pm13 an13 cd13 ct13), sl13⟩) (c13 : PySem.W.codeIn K cd13 "Reach.closed" = true) (k13 : PySem.W.keepIn K (.ref f13) = true)
    (i13 : PySem.W.isFn K (.ref f13) = true)
    (a14 : PySem.W.findIn K (.ref cc_Reach) "gap" = some (some (.ref f14))) (l14 : K.lookup f14 = some ⟨oc14, od14, .func (PySem.W.fnOf "gap" "Reach.gap" (defArgs s_Reach_gap) (defBody s_Reach_gap) (defScope s_Reach_gap) .none kV14 dc14 pm14 an14 cd14 ct14), sl14⟩) (c14 : PySem.W.codeIn K cd14 "Reach.gap" = true) (k14 : PySem.W.keepIn K (.ref f14) = true)
    (i14 : PySem.W.isFn K (.ref f14) = true)
    (a15 : PySem.W.nsIn K mainGlobals "_law_pen" = some (some (.ref f15))) (l15 : K.lookup f15 = some ⟨oc15, od15, .func (PySem.W.fnOf "_law_pen" "_law_pen" (defArgs s_law_pen) (defBody s_law_pen) (defScope s_law_pen) .none kV15 dc15 pm15 an15 cd15 ct15), sl15⟩) (c15 : PySem.W.codeIn K cd15 "_law_pen" = true) (k15 : PySem.W.keepIn K (.ref f15) = true)
    (a16 : PySem.W.nsIn K mainGlobals "_law_draw" = some (some (.ref f16))) (l16 : K.lookup f16 = some ⟨oc16, od16, .func (PySem.W.fnOf "_law_draw" "_law_draw" (defArgs s_law_draw) (defBody s_law_draw) (defScope s_law_draw) .none kV16 dc16 pm16 an16 cd16 ct16), sl16⟩) (c16 : PySem.W.codeIn K cd16 "_law_draw" = true) (k16 : PySem.W.keepIn K (.ref f16) = true)
    (a17 : PySem.W.nsIn K mainGlobals "_law_whole" = some (some (.ref f17))) (l17 : K.lookup f17 = some ⟨oc17, od17, .func (PySem.W.fnOf "_law_whole" "_law_whole" (defArgs s_law_whole) (defBody s_law_whole) (defScope s_law_whole) .none kV17 dc17 pm17 an17 cd17 ct17), sl17⟩) (c17 : PySem.W.codeIn K cd17 "_law_whole" = true) (k17 : PySem.W.keepIn K (.ref f17) = true)
    (a18 : PySem.W.nsIn K mainGlobals "_law_every" = some (some (.ref f18))) (l18 : K.lookup f18 = some ⟨oc18, od18, .func (PySem.W.fnOf "_law_every" "_law_every" (defArgs s_law_every) (defBody s_law_every) (defScope s_law_every) .none kV18 dc18 pm18 an18 cd18 ct18), sl18⟩) (c18 : PySem.W.codeIn K cd18 "_law_every" = true) (k18 : PySem.W.keepIn K (.ref f18) = true)
    (a19 : PySem.W.nsIn K mainGlobals "_law_order" = some (some (.ref f19))) (l19 : K.lookup f19 = some ⟨oc19, od19, .func (PySem.W.fnOf "_law_order" "_law_order" (defArgs s_law_order) (defBody s_law_order) (defScope s_law_order) .none kV19 dc19 pm19 an19 cd19 ct19), sl19⟩) (c19 : PySem.W.codeIn K cd19 "_law_order" = true) (k19 : PySem.W.keepIn K (.ref f19) = true)
    (a20 : PySem.W.nsIn K mainGlobals "_law_ring" = some (some (.ref f20))) (l20 : K.lookup f20 = some ⟨oc20, od20, .func (PySem.W.fnOf "_law_ring" "_law_ring" (defArgs s_law_ring) (defBody s_law_ring) (defScope s_law_ring) .none kV20 dc20 pm20 an20 cd20 ct20), sl20⟩) (c20 : PySem.W.codeIn K cd20 "_law_ring" = true) (k20 : PySem.W.keepIn K (.ref f20) = true)
    (a21 : PySem.W.nsIn K mainGlobals "_law_drawn" = some (some (.ref f21))) (l21 : K.lookup f21 = some ⟨oc21, od21, .func (PySem.W.fnOf "_law_drawn" "_law_drawn" (defArgs s_law_drawn) (defBody s_law_drawn) (defScope s_law_drawn) .none kV21 dc21 pm21 an21 cd21 ct21), sl21⟩) (c21 : PySem.W.codeIn K cd21 "_law_drawn" = true) (k21 : PySem.W.keepIn K (.ref f21) = true)
    (a22 : PySem.W.nsIn K mainGlobals "_law_shape" = some (some (.ref f22))) (l22 : K.lookup f22 = some ⟨oc22, od22, .func (PySem.W.fnOf "_law_shape" "_law_shape" (defArgs s_law_shape) (defBody s_law_shape) (defScope s_law_shape) .none kV22 dc22 pm22 an22 cd22 ct22), sl22⟩) (c22 : PySem.W.codeIn K cd22 "_law_shape" = true) (k22 : PySem.W.keepIn K (.ref f22) = true)
    (a23 : PySem.W.nsIn K mainGlobals "_law_pairs" = some (some (.ref f23))) (l23 : K.lookup f23 = some ⟨oc23, od23, .func (PySem.W.fnOf "_law_pairs" "_law_pairs" (defArgs s_law_pairs) (defBody s_law_pairs) (defScope s_law_pairs) .none kV23 dc23 pm23 an23 cd23 ct23), sl23⟩) (c23 : PySem.W.codeIn K cd23 "_law_pairs" = true) (k23 : PySem.W.keepIn K (.ref f23) = true)
    (a24 : PySem.W.nsIn K mainGlobals "_law_table" = some (some (.ref f24))) (l24 : K.lookup f24 = some ⟨oc24, od24, .func (PySem.W.fnOf "_law_table" "_law_table" (defArgs s_law_table) (defBody s_law_table) (defScope s_law_table) .none kV24 dc24 pm24 an24 cd24 ct24), sl24⟩) (c24 : PySem.W.codeIn K cd24 "_law_table" = true) (k24 : PySem.W.keepIn K (.ref f24) = true)
    (a25 : PySem.W.nsIn K mainGlobals "_law_closed" = some (some (.ref f25))) (l25 : K.lookup f25 = some ⟨oc25, od25, .func (PySem.W.fnOf "_law_closed" "_law_closed" (defArgs s_law_closed) (defBody s_law_closed) (defScope s_law_closed) .none kV25 dc25 pm25 an25 cd25 ct25), sl25⟩) (c25 : PySem.W.codeIn K cd25 "_law_closed" = true) (k25 : PySem.W.keepIn K (.ref f25) = true)
    (a26 : PySem.W.nsIn K mainGlobals "_law_gap" = some (some (.ref f26))) (l26 : K.lookup f26 = some ⟨oc26, od26, .func (PySem.W.fnOf "_law_gap" "_law_gap" (defArgs s_law_gap) (defBody s_law_gap) (defScope s_law_gap) .none kV26 dc26 pm26 an26 cd26 ct26), sl26⟩) (c26 : PySem.W.codeIn K cd26 "_law_gap" = true) (k26 : PySem.W.keepIn K (.ref f26) = true)
    (a27 : PySem.W.nsIn K mainGlobals "_law_times" = some (some (.ref f27))) (l27 : K.lookup f27 = some ⟨oc27, od27, .func (PySem.W.fnOf "_law_times" "_law_times" (defArgs s_law_times) (defBody s_law_times) (defScope s_law_times) .none kV27 dc27 pm27 an27 cd27 ct27), sl27⟩) (c27 : PySem.W.codeIn K cd27 "_law_times" = true) (k27 : PySem.W.keepIn K (.ref f27) = true)
    (a28 : PySem.W.nsIn K mainGlobals "_law_right_gap" = some (some (.ref f28))) (l28 : K.lookup f28 = some ⟨oc28, od28, .func (PySem.W.fnOf "_law_right_gap" "_law_right_gap" (defArgs s_law_right_gap) (defBody s_law_right_gap) (defScope s_law_right_gap) .none kV28 dc28 pm28 an28 cd28 ct28), sl28⟩) (c28 : PySem.W.codeIn K cd28 "_law_right_gap" = true) (k28 : PySem.W.keepIn K (.ref f28) = true)
    (a29 : PySem.W.nsIn K mainGlobals "_law_is" = some (some (.ref f29))) (l29 : K.lookup f29 = some ⟨oc29, od29, .func (PySem.W.fnOf "_law_is" "_law_is" (defArgs s_law_is) (defBody s_law_is) (defScope s_law_is) .none kV29 dc29 pm29 an29 cd29 ct29), sl29⟩) (c29 : PySem.W.codeIn K cd29 "_law_is" = true) (k29 : PySem.W.keepIn K (.ref f29) = true)
    (a30 : PySem.W.nsIn K mainGlobals "_law_closes" = some (some (.ref f30))) (l30 : K.lookup f30 = some ⟨oc30, od30, .func (PySem.W.fnOf "_law_closes" "_law_closes" (defArgs s_law_closes) (defBody s_law_closes) (defScope s_law_closes) .none kV30 dc30 pm30 an30 cd30 ct30), sl30⟩) (c30 : PySem.W.codeIn K cd30 "_law_closes" = true) (k30 : PySem.W.keepIn K (.ref f30) = true)
    (a31 : PySem.W.nsIn K mainGlobals "_law_fills" = some (some (.ref f31))) (l31 : K.lookup f31 = some ⟨oc31, od31, .func (PySem.W.fnOf "_law_fills" "_law_fills" (defArgs s_law_fills) (defBody s_law_fills) (defScope s_law_fills) .none kV31 dc31 pm31 an31 cd31 ct31), sl31⟩) (c31 : PySem.W.codeIn K cd31 "_law_fills" = true) (k31 : PySem.W.keepIn K (.ref f31) = true)
    (a32 : PySem.W.nsIn K mainGlobals "law" = some (some (.ref f32))) (l32 : K.lookup f32 = some ⟨oc32, od32, .func (PySem.W.fnOf "law" "law" (defArgs s_law) (defBody s_law) (defScope s_law) .none kV32 dc32 pm32 an32 cd32 ct32), sl32⟩) (c32 : PySem.W.codeIn K cd32 "law" = true) (k32 : PySem.W.keepIn K (.ref f32) = true)
    (ka_MOST_NUMBERS : PySem.W.nsIn K mainGlobals "MOST_NUMBERS" = some (some (.int 8 tk_MOST_NUMBERS)))
    (z_abs : PySem.W.nsIn K mainGlobals "abs" = some none)
    (z_bool : PySem.W.nsIn K mainGlobals "bool" = some none)
    (z_enumerate : PySem.W.nsIn K mainGlobals "enumerate" = some none)
    (z_int : PySem.W.nsIn K mainGlobals "int" = some none)
    (z_isinstance : PySem.W.nsIn K mainGlobals "isinstance" = some none)
    (z_len : PySem.W.nsIn K mainGlobals "len" = some none)
    (z_list : PySem.W.nsIn K mainGlobals "list" = some none)
    (z_range : PySem.W.nsIn K mainGlobals "range" = some none)
    (z_tuple : PySem.W.nsIn K mainGlobals "tuple" = some none) :
    ∃ fd : FuncData, (∀ (s : Shared) (v : Value), BindsTo s fd ⟨[v], []⟩ [("script", v)]) ∧ ∀ base : Heap, K.In base → base.Ns mainGlobals mg → FnOk l.prog w K mg base CX0 8 fa fd ["script"] (spLaw K) := by
  have e := hfa.symm.trans (PySem.W.mg_of X G a32)
  cases e
  have F0 := fun_mk (st := s_is_integer) l0 c0 k0
  have F1 := fun_mk (st := s_is_row) l1 c1 k1
  have F2 := fun_mk (st := s_is_two) l2 c2 k2
  have F3 := fun_mk (st := s_is_pair) l3 c3 k3
  have F4 := fun_mk (st := s_check_sizes) l4 c4 k4
  have F5 : FunV K 1 "__init__" "Reach.__init__" (defArgs s_Reach__init) (defBody s_Reach__init) (defScope s_Reach__init) f5 _ := ⟨⟨_, _, _, _, _, _, _, _, _, _, rfl, l5, c5, _, _, _, _, rfl, u5, rfl, y5⟩, k5⟩
  have F6 := fun_mk (st := s_Reach__contains) l6 c6 k6
  have F7 := fun_mk (st := s_Reach__len) l7 c7 k7
  have F8 := fun_mk (st := s_Reach__eq) l8 c8 k8
  have F9 := fun_mk (st := s_Reach__or) l9 c9 k9
  have F10 := fun_mk (st := s_Reach__and) l10 c10 k10
  have F11 := fun_mk (st := s_Reach__mul) l11 c11 k11
  have F12 := fun_mk (st := s_Reach_pairs) l12 c12 k12
  have F13 := fun_mk (st := s_Reach_closed) l13 c13 k13
  have F14 := fun_mk (st := s_Reach_gap) l14 c14 k14
  have F15 := fun_mk (st := s_law_pen) l15 c15 k15
  have F16 := fun_mk (st := s_law_draw) l16 c16 k16
  have F17 := fun_mk (st := s_law_whole) l17 c17 k17
  have F18 := fun_mk (st := s_law_every) l18 c18 k18
  have F19 := fun_mk (st := s_law_order) l19 c19 k19
  have F20 := fun_mk (st := s_law_ring) l20 c20 k20
  have F21 := fun_mk (st := s_law_drawn) l21 c21 k21
  have F22 := fun_mk (st := s_law_shape) l22 c22 k22
  have F23 := fun_mk (st := s_law_pairs) l23 c23 k23
  have F24 := fun_mk (st := s_law_table) l24 c24 k24
  have F25 := fun_mk (st := s_law_closed) l25 c25 k25
  have F26 := fun_mk (st := s_law_gap) l26 c26 k26
  have F27 := fun_mk (st := s_law_times) l27 c27 k27
  have F28 := fun_mk (st := s_law_right_gap) l28 c28 k28
  have F29 := fun_mk (st := s_law_is) l29 c29 k29
  have F30 := fun_mk (st := s_law_closes) l30 c30 k30
  have F31 := fun_mk (st := s_law_fills) l31 c31 k31
  have F32 := fun_mk (st := s_law) l32 c32 k32
  have T : Tx K mg := {
    sf_Reach := sf_Reach, ca_Reach := ca_Reach, cn_Reach := cn_Reach, ct_Reach := ct_Reach, cm_Reach := cm_Reach, ks_Reach := ks_Reach,
    c_Reach := cc_Reach, gc_Reach := PySem.W.mg_of X G ka_Reach, cl_Reach := ⟨pg_Reach, hd_Reach, po_Reach, sa_Reach⟩, na_Reach_size := nf_size_Reach, na_Reach_arrows := nf_arrows_Reach,
    f_is_integer := f0, fd_is_integer := _, F_is_integer := F0, b_is_integer := F0.binds (ps := ["value"]) fun _ _ _ _ _ _ us hl => match us, hl with | [_], _ => rfl, g_is_integer := PySem.W.mg_of X G a0,
    f_is_row := f1, fd_is_row := _, F_is_row := F1, b_is_row := F1.binds (ps := ["value"]) fun _ _ _ _ _ _ us hl => match us, hl with | [_], _ => rfl, g_is_row := PySem.W.mg_of X G a1,
    f_is_two := f2, fd_is_two := _, F_is_two := F2, b_is_two := F2.binds (ps := ["value"]) fun _ _ _ _ _ _ us hl => match us, hl with | [_], _ => rfl, g_is_two := PySem.W.mg_of X G a2,
    f_is_pair := f3, fd_is_pair := _, F_is_pair := F3, b_is_pair := F3.binds (ps := ["value", "size"]) fun _ _ _ _ _ _ us hl => match us, hl with | [_, _], _ => rfl, g_is_pair := PySem.W.mg_of X G a3,
    f_check_sizes := f4, fd_check_sizes := _, F_check_sizes := F4, b_check_sizes := F4.binds (ps := ["relation", "other"]) fun _ _ _ _ _ _ us hl => match us, hl with | [_, _], _ => rfl, g_check_sizes := PySem.W.mg_of X G a4,
    f_Reach__init := f5, fd_Reach__init := _, F_Reach__init := F5, b_Reach__init := F5.binds (ps := ["self", "size", "pairs"]) fun _ _ _ _ _ _ _ us its hl hi => match us, its, hl, hi with | [_, _, _], [_], _, _ => ⟨_, rfl, rfl⟩,
    mk_Reach := ⟨mi_Reach, a5, i5, kq_Reach⟩,
    f_Reach__contains := f6, fd_Reach__contains := _, F_Reach__contains := F6, b_Reach__contains := F6.binds (ps := ["self", "pair"]) fun _ _ _ _ _ _ us hl => match us, hl with | [_, _], _ => rfl,
    me_Reach___contains__ := ⟨a6, i6, k6⟩, nm_Reach___contains__ := trivial,
    f_Reach__len := f7, fd_Reach__len := _, F_Reach__len := F7, b_Reach__len := F7.binds (ps := ["self"]) fun _ _ _ _ _ _ us hl => match us, hl with | [_], _ => rfl,
    me_Reach___len__ := ⟨a7, i7, k7⟩, nm_Reach___len__ := trivial,
    f_Reach__eq := f8, fd_Reach__eq := _, F_Reach__eq := F8, b_Reach__eq := F8.binds (ps := ["self", "other"]) fun _ _ _ _ _ _ us hl => match us, hl with | [_, _], _ => rfl,
    me_Reach___eq__ := ⟨a8, i8, k8⟩, nm_Reach___eq__ := trivial,
    f_Reach__or := f9, fd_Reach__or := _, F_Reach__or := F9, b_Reach__or := F9.binds (ps := ["self", "other"]) fun _ _ _ _ _ _ us hl => match us, hl with | [_, _], _ => rfl,
    me_Reach___or__ := ⟨a9, i9, k9⟩, nm_Reach___or__ := trivial,
    f_Reach__and := f10, fd_Reach__and := _, F_Reach__and := F10, b_Reach__and := F10.binds (ps := ["self", "other"]) fun _ _ _ _ _ _ us hl => match us, hl with | [_, _], _ => rfl,
    me_Reach___and__ := ⟨a10, i10, k10⟩, nm_Reach___and__ := trivial,
    f_Reach__mul := f11, fd_Reach__mul := _, F_Reach__mul := F11, b_Reach__mul := F11.binds (ps := ["self", "other"]) fun _ _ _ _ _ _ us hl => match us, hl with | [_, _], _ => rfl,
    me_Reach___mul__ := ⟨a11, i11, k11⟩, nm_Reach___mul__ := trivial,
    f_Reach_pairs := f12, fd_Reach_pairs := _, F_Reach_pairs := F12, b_Reach_pairs := F12.binds (ps := ["self"]) fun _ _ _ _ _ _ us hl => match us, hl with | [_], _ => rfl,
    me_Reach_pairs := ⟨a12, i12, k12⟩, nm_Reach_pairs := trivial,
    f_Reach_closed := f13, fd_Reach_closed := _, F_Reach_closed := F13, b_Reach_closed := F13.binds (ps := ["self"]) fun _ _ _ _ _ _ us hl => match us, hl with | [_], _ => rfl,
    me_Reach_closed := ⟨a13, i13, k13⟩, nm_Reach_closed := trivial,
    f_Reach_gap := f14, fd_Reach_gap := _, F_Reach_gap := F14, b_Reach_gap := F14.binds (ps := ["self"]) fun _ _ _ _ _ _ us hl => match us, hl with | [_], _ => rfl,
    me_Reach_gap := ⟨a14, i14, k14⟩, nm_Reach_gap := trivial,
    f_law_pen := f15, fd_law_pen := _, F_law_pen := F15, b_law_pen := F15.binds (ps := ["script"]) fun _ _ _ _ _ _ us hl => match us, hl with | [_], _ => rfl, g_law_pen := PySem.W.mg_of X G a15,
    f_law_draw := f16, fd_law_draw := _, F_law_draw := F16, b_law_draw := F16.binds (ps := ["pen", "bound"]) fun _ _ _ _ _ _ us hl => match us, hl with | [_, _], _ => rfl, g_law_draw := PySem.W.mg_of X G a16,
    f_law_whole := f17, fd_law_whole := _, F_law_whole := F17, b_law_whole := F17.binds (ps := ["number"]) fun _ _ _ _ _ _ us hl => match us, hl with | [_], _ => rfl, g_law_whole := PySem.W.mg_of X G a17,
    f_law_every := f18, fd_law_every := _, F_law_every := F18, b_law_every := F18.binds (ps := ["many"]) fun _ _ _ _ _ _ us hl => match us, hl with | [_], _ => rfl, g_law_every := PySem.W.mg_of X G a18,
    f_law_order := f19, fd_law_order := _, F_law_order := F19, b_law_order := F19.binds (ps := ["pen", "many"]) fun _ _ _ _ _ _ us hl => match us, hl with | [_, _], _ => rfl, g_law_order := PySem.W.mg_of X G a19,
    f_law_ring := f20, fd_law_ring := _, F_law_ring := F20, b_law_ring := F20.binds (ps := ["order"]) fun _ _ _ _ _ _ us hl => match us, hl with | [_], _ => rfl, g_law_ring := PySem.W.mg_of X G a20,
    f_law_drawn := f21, fd_law_drawn := _, F_law_drawn := F21, b_law_drawn := F21.binds (ps := ["pen", "many", "count"]) fun _ _ _ _ _ _ us hl => match us, hl with | [_, _, _], _ => rfl, g_law_drawn := PySem.W.mg_of X G a21,
    f_law_shape := f22, fd_law_shape := _, F_law_shape := F22, b_law_shape := F22.binds (ps := ["pen", "many", "order"]) fun _ _ _ _ _ _ us hl => match us, hl with | [_, _, _], _ => rfl, g_law_shape := PySem.W.mg_of X G a22,
    f_law_pairs := f23, fd_law_pairs := _, F_law_pairs := F23, b_law_pairs := F23.binds (ps := ["pen", "many"]) fun _ _ _ _ _ _ us hl => match us, hl with | [_, _], _ => rfl, g_law_pairs := PySem.W.mg_of X G a23,
    f_law_table := f24, fd_law_table := _, F_law_table := F24, b_law_table := F24.binds (ps := ["rows"]) fun _ _ _ _ _ _ us hl => match us, hl with | [_], _ => rfl, g_law_table := PySem.W.mg_of X G a24,
    f_law_closed := f25, fd_law_closed := _, F_law_closed := F25, b_law_closed := F25.binds (ps := ["many", "rows"]) fun _ _ _ _ _ _ us hl => match us, hl with | [_, _], _ => rfl, g_law_closed := PySem.W.mg_of X G a25,
    f_law_gap := f26, fd_law_gap := _, F_law_gap := F26, b_law_gap := F26.binds (ps := ["many", "table"]) fun _ _ _ _ _ _ us hl => match us, hl with | [_, _], _ => rfl, g_law_gap := PySem.W.mg_of X G a26,
    f_law_times := f27, fd_law_times := _, F_law_times := F27, b_law_times := F27.binds (ps := ["many", "rows", "others"]) fun _ _ _ _ _ _ us hl => match us, hl with | [_, _, _], _ => rfl, g_law_times := PySem.W.mg_of X G a27,
    f_law_right_gap := f28, fd_law_right_gap := _, F_law_right_gap := F28, b_law_right_gap := F28.binds (ps := ["actual", "due"]) fun _ _ _ _ _ _ us hl => match us, hl with | [_, _], _ => rfl, g_law_right_gap := PySem.W.mg_of X G a28,
    f_law_is := f29, fd_law_is := _, F_law_is := F29, b_law_is := F29.binds (ps := ["relation", "many", "due"]) fun _ _ _ _ _ _ us hl => match us, hl with | [_, _, _], _ => rfl, g_law_is := PySem.W.mg_of X G a29,
    f_law_closes := f30, fd_law_closes := _, F_law_closes := F30, b_law_closes := F30.binds (ps := ["relation", "many", "rows"]) fun _ _ _ _ _ _ us hl => match us, hl with | [_, _, _], _ => rfl, g_law_closes := PySem.W.mg_of X G a30,
    f_law_fills := f31, fd_law_fills := _, F_law_fills := F31, b_law_fills := F31.binds (ps := ["relation", "many", "rows"]) fun _ _ _ _ _ _ us hl => match us, hl with | [_, _, _], _ => rfl, g_law_fills := PySem.W.mg_of X G a31,
    t_MOST_NUMBERS := tk_MOST_NUMBERS, g_MOST_NUMBERS := PySem.W.mg_of X G ka_MOST_NUMBERS,
    n_abs := PySem.W.mg_none_of X G z_abs,
    n_bool := PySem.W.mg_none_of X G z_bool,
    n_enumerate := PySem.W.mg_none_of X G z_enumerate,
    n_int := PySem.W.mg_none_of X G z_int,
    n_isinstance := PySem.W.mg_none_of X G z_isinstance,
    n_len := PySem.W.mg_none_of X G z_len,
    n_list := PySem.W.mg_none_of X G z_list,
    n_range := PySem.W.mg_none_of X G z_range,
    n_tuple := PySem.W.mg_none_of X G z_tuple }
  exact ⟨PySem.W.fnOf "law" "law" (defArgs s_law) (defBody s_law) (defScope s_law) .none kV32 dc32 pm32 an32 cd32 ct32, fun s v => .of_eq rfl, fun base _ _ => ok_law_at T F32⟩
end K44

open PySem PySem.W PyProof.Rows in
set_option maxRecDepth 100000 in
set_option maxHeartbeats 0 in
theorem PySem.Challenge.cw_capstead_k44_whole_closed_and_gap_holds : PySem.Challenge.rw_capstead_k44_whole_closed_and_gap.Holds := by
  w_on; o_law; k_head; (case hw => w_witness2)
  k_fill
  refine L2.walk_ofK (l := PySem.Challenge.rw_capstead_k44_whole_closed_and_gap) (n := 63) (k := 8) (x := "script") (CX := L2.CX0) (sp := K44.spLaw) rfl (by decide) rfl ⟨rfl, by decide, by decide⟩ (fun w h Y => PySem.W.kIn_of Y) ?F (fun _ _ a ns hl _ hS => ⟨a, ns, rfl, hS, hl, fun _ => rfl⟩) fun _ _ _ _ z => z
  case F =>
    intro w mg fa h KX G hmg
    refine' K44.all_mk KX G hmg ?ka_Reach ?pg_Reach ?hd_Reach ?po_Reach ?sa_Reach ?mi_Reach ?kq_Reach ?nf_size_Reach ?nf_arrows_Reach ?sf_Reach ?ca_Reach ?cn_Reach ?ct_Reach ?cm_Reach ?ks_Reach ?a0 ?l0 ?c0 ?k0 ?a1 ?l1 ?c1 ?k1 ?a2 ?l2 ?c2 ?k2 ?a3 ?l3 ?c3 ?k3 ?a4 ?l4 ?c4 ?k4 ?a5 ?l5 ?c5 ?k5 ?u5 ?y5 ?i5 ?a6 ?l6 ?c6 ?k6 ?i6 ?a7 ?l7 ?c7 ?k7 ?i7 ?a8 ?l8 ?c8 ?k8 ?i8 ?a9 ?l9 ?c9 ?k9 ?i9 ?a10 ?l10 ?c10 ?k10 ?i10 ?a11 ?l11 ?c11 ?k11 ?i11 ?a12 ?l12 ?c12 ?k12 ?i12 ?a13 ?l13 ?c13 ?k13 ?i13 ?a14 ?l14 ?c14 ?k14 ?i14 ?a15 ?l15 ?c15 ?k15 ?a16 ?l16 ?c16 ?k16 ?a17 ?l17 ?c17 ?k17 ?a18 ?l18 ?c18 ?k18 ?a19 ?l19 ?c19 ?k19 ?a20 ?l20 ?c20 ?k20 ?a21 ?l21 ?c21 ?k21 ?a22 ?l22 ?c22 ?k22 ?a23 ?l23 ?c23 ?k23 ?a24 ?l24 ?c24 ?k24 ?a25 ?l25 ?c25 ?k25 ?a26 ?l26 ?c26 ?k26 ?a27 ?l27 ?c27 ?k27 ?a28 ?l28 ?c28 ?k28 ?a29 ?l29 ?c29 ?k29 ?a30 ?l30 ?c30 ?k30 ?a31 ?l31 ?c31 ?k31 ?a32 ?l32 ?c32 ?k32 ?ka_MOST_NUMBERS ?z_abs ?z_bool ?z_enumerate ?z_int ?z_isinstance ?z_len ?z_list ?z_range ?z_tuple
    (case ka_Reach => k_is)
    (case pg_Reach => k_is)
    (case hd_Reach => k_is)
    (case po_Reach => k_is)
    (case sa_Reach => k_is)
    (case mi_Reach => k_is)
    (case kq_Reach => k_is)
    (case nf_size_Reach => k_is)
    (case nf_arrows_Reach => k_is)
    (case sf_Reach => k_is)
    (case ca_Reach => k_is)
    (case cn_Reach => k_is)
    (case ct_Reach => k_is)
    (case cm_Reach => k_is)
    (case ks_Reach => kernel_rfl)
    (case a0 => k_is)
    (case l0 => k_is)
    (case c0 => k_is)
    (case k0 => k_is)
    (case a1 => k_is)
    (case l1 => k_is)
    (case c1 => k_is)
    (case k1 => k_is)
    (case a2 => k_is)
    (case l2 => k_is)
    (case c2 => k_is)
    (case k2 => k_is)
    (case a3 => k_is)
    (case l3 => k_is)
    (case c3 => k_is)
    (case k3 => k_is)
    (case a4 => k_is)
    (case l4 => k_is)
    (case c4 => k_is)
    (case k4 => k_is)
    (case a5 => k_is)
    (case l5 => k_is)
    (case c5 => k_is)
    (case k5 => k_is)
    (case u5 => k_is)
    (case y5 => decide +kernel)
    (case i5 => k_is)
    (case a6 => k_is)
    (case l6 => k_is)
    (case c6 => k_is)
    (case k6 => k_is)
    (case i6 => k_is)
    (case a7 => k_is)
    (case l7 => k_is)
    (case c7 => k_is)
    (case k7 => k_is)
    (case i7 => k_is)
    (case a8 => k_is)
    (case l8 => k_is)
    (case c8 => k_is)
    (case k8 => k_is)
    (case i8 => k_is)
    (case a9 => k_is)
    (case l9 => k_is)
    (case c9 => k_is)
    (case k9 => k_is)
    (case i9 => k_is)
    (case a10 => k_is)
    (case l10 => k_is)
    (case c10 => k_is)
    (case k10 => k_is)
    (case i10 => k_is)
    (case a11 => k_is)
    (case l11 => k_is)
    (case c11 => k_is)
    (case k11 => k_is)
    (case i11 => k_is)
    (case a12 => k_is)
    (case l12 => k_is)
    (case c12 => k_is)
    (case k12 => k_is)
    (case i12 => k_is)
    (case a13 => k_is)
    (case l13 => k_is)
    (case c13 => k_is)
    (case k13 => k_is)
    (case i13 => k_is)
    (case a14 => k_is)
    (case l14 => k_is)
    (case c14 => k_is)
    (case k14 => k_is)
    (case i14 => k_is)
    (case a15 => k_is)
    (case l15 => k_is)
    (case c15 => k_is)
    (case k15 => k_is)
    (case a16 => k_is)
    (case l16 => k_is)
    (case c16 => k_is)
    (case k16 => k_is)
    (case a17 => k_is)
    (case l17 => k_is)
    (case c17 => k_is)
    (case k17 => k_is)
    (case a18 => k_is)
    (case l18 => k_is)
    (case c18 => k_is)
    (case k18 => k_is)
    (case a19 => k_is)
    (case l19 => k_is)
    (case c19 => k_is)
    (case k19 => k_is)
    (case a20 => k_is)
    (case l20 => k_is)
    (case c20 => k_is)
    (case k20 => k_is)
    (case a21 => k_is)
    (case l21 => k_is)
    (case c21 => k_is)
    (case k21 => k_is)
    (case a22 => k_is)
    (case l22 => k_is)
    (case c22 => k_is)
    (case k22 => k_is)
    (case a23 => k_is)
    (case l23 => k_is)
    (case c23 => k_is)
    (case k23 => k_is)
    (case a24 => k_is)
    (case l24 => k_is)
    (case c24 => k_is)
    (case k24 => k_is)
    (case a25 => k_is)
    (case l25 => k_is)
    (case c25 => k_is)
    (case k25 => k_is)
    (case a26 => k_is)
    (case l26 => k_is)
    (case c26 => k_is)
    (case k26 => k_is)
    (case a27 => k_is)
    (case l27 => k_is)
    (case c27 => k_is)
    (case k27 => k_is)
    (case a28 => k_is)
    (case l28 => k_is)
    (case c28 => k_is)
    (case k28 => k_is)
    (case a29 => k_is)
    (case l29 => k_is)
    (case c29 => k_is)
    (case k29 => k_is)
    (case a30 => k_is)
    (case l30 => k_is)
    (case c30 => k_is)
    (case k30 => k_is)
    (case a31 => k_is)
    (case l31 => k_is)
    (case c31 => k_is)
    (case k31 => k_is)
    (case a32 => k_is)
    (case l32 => k_is)
    (case c32 => k_is)
    (case k32 => k_is)
    (case ka_MOST_NUMBERS => k_is)
    (case z_abs => k_is)
    (case z_bool => k_is)
    (case z_enumerate => k_is)
    (case z_int => k_is)
    (case z_isinstance => k_is)
    (case z_len => k_is)
    (case z_list => k_is)
    (case z_range => k_is)
    (case z_tuple => k_is)

