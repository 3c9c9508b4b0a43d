import PyProof.Rows.All
import Wide.All
import OpenK.AllK
import Wide.FinOn
import HandS.ForMost
import HandS.IsInst
import PySem.Challenge.RW_capstead_k49_work_of_records
set_option Elab.async false
set_option linter.all false
set_option maxRecDepth 100000
set_option maxHeartbeats 4000000
/-! Lw: forward reading over the hand layer. A world W: the objects that a law's drawing pool owns, and what holds of them; everything else stands (Ex). -/
namespace Lw
open PySem L2

/-- what is owned (its content may change in calls), what holds of it -/
structure Wd where
  own : Hp → Addr → Prop
  iv : Hp → Prop
  trk : ∀ {H : Hp} {a : Addr}, iv H → own H a → ∃ o, H a = some o
  loc : ∀ {H H' : Hp}, iv H → (∀ a, own H a → H' a = H a) → iv H' ∧ ∀ a, own H' a → own H a

/-- nothing is owned -/
def W0 : Wd := ⟨fun _ _ => False, fun _ => True, fun _ h => h.elim, fun _ _ => ⟨trivial, fun _ h => h⟩⟩

def At (W : Wd) (H : Hp) (a : Addr) (o : HO) : Prop := H a = some o ∧ ¬ W.own H a
structure Ex (W : Wd) (H H' : Hp) : Prop where
  i0 : W.iv H
  iv : W.iv H'
  at_ : ∀ {a : Addr} {o : HO}, At W H a o → At W H' a o
  tr : ∀ {a : Addr} {o : HO}, H a = some o → ∃ o', H' a = some o'

section
variable {W : Wd} {H H1 H2 H' : Hp} {a p l : Addr} {o u : HO} {xs : List V} {K : PySem.W.Frag}
theorem Ex.refl (i : W.iv H) : Ex W H H := ⟨i, i, fun h => h, fun h => ⟨_, h⟩⟩
theorem Ex.trans (a : Ex W H H1) (b : Ex W H1 H2) : Ex W H H2 := ⟨a.i0, b.iv, fun h => b.at_ (a.at_ h), fun h => let ⟨_, q⟩ := a.tr h; b.tr q⟩
theorem Ex.fresh (e : Ex W H H') (i : H' p = none) : H p = none := by
  cases q : H p with
  | none => rfl
  | some u =>
    obtain ⟨_, z⟩ := e.tr q
    rw [i] at z; cases z
theorem own_ne (i : W.iv H) (h : H p = none) : ¬ W.own H p := fun q => by
  obtain ⟨o, e⟩ := W.trk i q
  rw [h] at e; cases e
/-- what is not owned changes -/
theorem loc_upd (i : W.iv H) (h : ¬ W.own H p) : W.iv (upd H p o) ∧ ∀ a, W.own (upd H p o) a → W.own H a :=
  W.loc i fun a ha => upd_ne fun e => h (e ▸ ha)
theorem Ex.new (i : W.iv H) (h : H p = none) : Ex W H (upd H p o) := by
  have l := loc_upd (o := o) i (own_ne i h)
  refine ⟨i, l.1, fun {b u} hb => ⟨?_, fun q => hb.2 (l.2 _ q)⟩, fun {b u} hb => ⟨u, ?_⟩⟩
  · rw [upd_ne (ne_of_none hb.1 h)]; exact hb.1
  · rw [upd_ne (ne_of_none hb h)]; exact hb
theorem At.new (i : W.iv H) (h : H p = none) : At W (upd H p o) p o := ⟨upd_same, fun q => own_ne i h ((loc_upd i (own_ne i h)).2 _ q)⟩
/-- a local object (unknown at H) changes -/
theorem Ex.mut (e : Ex W H H1) (h : H p = none) (ha : At W H1 p u) : Ex W H (upd H1 p o) := by
  have l := loc_upd (o := o) e.iv ha.2
  refine ⟨e.i0, l.1, fun {b v} hb => ⟨?_, fun q => (e.at_ hb).2 (l.2 _ q)⟩, fun {b v} hb => ?_⟩
  · rw [upd_ne (ne_of_none hb.1 h)]; exact (e.at_ hb).1
  · rw [upd_ne (ne_of_none hb h)]; exact e.tr hb
theorem At.mut (e : W.iv H1) (ha : At W H1 p u) : At W (upd H1 p o) p o := ⟨upd_same, fun q => ha.2 ((loc_upd e ha.2).2 _ q)⟩
theorem At.other {v : HO} (e : W.iv H1) (ha : At W H1 p u) (hb : At W H1 a o) (ne : a ≠ p) : At W (upd H1 p v) a o := ⟨by rw [upd_ne ne]; exact hb.1, fun q => hb.2 ((loc_upd e ha.2).2 _ q)⟩
theorem At.sl (h : At W H a (.lst xs)) : SqL K H a xs := SqL.of h.1
theorem At.raw (h : At W H a o) : H a = some o := h.1
theorem At.st (h : At W H a (.tup xs)) : SqT K H a xs := SqT.of h.1
theorem At.ne_fresh (h : At W H a o) (f : H p = none) : a ≠ p := ne_of_none h.1 f
theorem At.ne (h : At W H a o) (h' : At W H p u) (d : o ≠ u) : a ≠ p := ne_of h.1 h'.1 d
theorem At.uniq (h : At W H a o) (h' : At W H a u) : o = u := Option.some.inj (h.1.symm.trans h'.1)

/-! ### new objects, behind a reading -/
theorem new_of {Q : VK} (i : W.iv H) (k : ∀ p H2, H p = none → Ex W H H2 → At W H2 p o → Q (.ref p) H2) : ∀ p, H p = none → Q (.ref p) (upd H p o) :=
  fun p hp => k p _ hp (Ex.new i hp) (At.new i hp)
theorem lst_of {Q : VK} {n : Nat} (i : W.iv H) (hn : n ≤ 100000) (k : ∀ p H2, H p = none → Ex W H H2 → At W H2 p o → Q (.ref p) H2) : n ≤ sizeLine ∧ ∀ p, H p = none → Q (.ref p) (upd H p o) :=
  ⟨Nat.le_trans hn (by decide), new_of i k⟩
theorem sz_le {n : Nat} (h : n ≤ 100000) : n ≤ sizeLine := Nat.le_trans h (by decide)
theorem sz_lt {n : Nat} (h : n < 100000) : n < sizeLine := Nat.lt_of_lt_of_le h (by decide)

/-! ### tests -/
theorem ifD {c A B : Prop} [Decidable c] (h1 : c → A) (h2 : ¬ c → B) : if decide c = true then A else B := by
  by_cases h : c
  · rw [decide_eq_true h, if_pos rfl]; exact h1 h
  · rw [decide_eq_false h, if_neg Bool.false_ne_true]; exact h2 h
theorem ifN {c A B : Prop} [Decidable c] (h1 : ¬ c → A) (h2 : c → B) : if (!decide c) = true then A else B := by
  by_cases h : c
  · rw [decide_eq_true h]; exact iteF (h2 h)
  · rw [decide_eq_false h]; exact iteT (h1 h)
theorem ifB {b : Bool} {A B : Prop} (h1 : b = true → A) (h2 : b = false → B) : if b = true then A else B := by
  cases b with
  | true => exact iteT (h1 rfl)
  | false => exact iteF (h2 rfl)
theorem ifNB {b : Bool} {A B : Prop} (h1 : b = false → A) (h2 : b = true → B) : if (!b) = true then A else B := by
  cases b with
  | true => exact iteF (h2 rfl)
  | false => exact iteT (h1 rfl)
theorem dVI {i j : Int} : decide (V.int i = V.int j) = decide (i = j) := by rw [dec_int, Bool.beq_eq_decide_eq]
theorem dVS {i j : Str} : decide (V.str i = V.str j) = decide (i = j) := by rw [dec_str, Bool.beq_eq_decide_eq]
theorem dVB {i j : Bool} : decide (V.bl i = V.bl j) = decide (i = j) := by rw [dec_bl, Bool.beq_eq_decide_eq]
theorem ifI {i j : Int} {A B : Prop} (h1 : i = j → A) (h2 : i ≠ j → B) : if decide (V.int i = V.int j) = true then A else B := by rw [dVI]; exact ifD h1 h2
theorem ifIn {i j : Int} {A B : Prop} (h1 : i ≠ j → A) (h2 : i = j → B) : if (!decide (V.int i = V.int j)) = true then A else B := by rw [dVI]; exact ifN h1 h2
theorem ifS {i j : Str} {A B : Prop} (h1 : i = j → A) (h2 : i ≠ j → B) : if decide (V.str i = V.str j) = true then A else B := by rw [dVS]; exact ifD h1 h2
theorem ifSn {i j : Str} {A B : Prop} (h1 : i ≠ j → A) (h2 : i = j → B) : if (!decide (V.str i = V.str j)) = true then A else B := by rw [dVS]; exact ifN h1 h2

/-! ### a list comprehension over a list: each item's value, by a word that only grows -/
/-- of each item of xs there is one of ys -/
inductive All2 (R : V → V → Prop) : List V → List V → Prop
  | nil : All2 R [] []
  | cons {x y : V} {xs ys : List V} : R x y → All2 R xs ys → All2 R (x :: xs) (y :: ys)
theorem All2.length {R : V → V → Prop} : ∀ {xs ys : List V}, All2 R xs ys → ys.length = xs.length
  | _, _, .nil => rfl
  | _, _, .cons _ t => by rw [List.length_cons, List.length_cons, t.length]
theorem All2.mono {R S : V → V → Prop} (f : ∀ x y, R x y → S x y) : ∀ {xs ys : List V}, All2 R xs ys → All2 S xs ys
  | _, _, .nil => .nil
  | _, _, .cons r t => .cons (f _ _ r) (t.mono f)
theorem All2.snoc {R : V → V → Prop} {x y : V} : ∀ {xs ys : List V}, All2 R xs ys → R x y → All2 R (xs ++ [x]) (ys ++ [y])
  | _, _, .nil, r => .cons r .nil
  | _, _, .cons q t, r => .cons q (t.snoc r)
end

/-! ### written tuples -/
theorem rel_abs : ∀ {u : Value} {x : V}, absV u = some x → RelV x u
  | .none, x, h => by cases h; rfl
  | .bool b, x, h => by cases h; rfl
  | .int i t, x, h => by cases h; exact ⟨t, rfl⟩
  | .str y t, x, h => by cases h; exact ⟨t, rfl⟩
  | .bytes b t, x, h => by cases h; exact ⟨t, rfl⟩
  | .float b t, x, h => by cases h; exact ⟨t, rfl⟩
  | .ref a, x, h => by cases h; rfl
  | .type n, x, h => by cases h; rfl
theorem vals_abs : ∀ {its : List Value} {xs : List V}, its.map absV = xs.map some → Vals xs its
  | [], [], _ => .nil
  | u :: us, x :: xs, h => by
    rw [List.map_cons, List.map_cons] at h
    injection h with h1 h2
    exact .cons (rel_abs h1) (vals_abs h2)
theorem sqt_k {K : PySem.W.Frag} {a : Addr} {its : Array Value} {n : Nat} {dd : Option Addr} {sl : Array (Option Value)} {xs : List V} (l : K.lookup a = some ⟨.type "tuple", dd, .seq its n, sl⟩) (h : its.toList.map absV = xs.map some) (hz : xs.length ≤ 1000) (H : Hp) : SqT K H a xs := by
  refine .inr ⟨_, its, n, l, rfl, rfl, ?_, vals_abs h⟩
  have e := (vals_abs h).length
  have el : its.toList.length = its.size := by simp
  exact Nat.le_trans (by omega) (by decide : 1000 ≤ sizeLine)

/-! ### the rules of built-ins under names -/
section
variable {X : Cx}
def rLen (K : PySem.W.Frag) : List V → Hp → VK → Prop := fun xs H Q => ∃ p ys, xs = [.ref p] ∧ (SqL K H p ys ∨ SqT K H p ys) ∧ Q (.int ys.length) H
theorem c_len : CallR X (.builtin "len") (rLen X.K) := call_len_seq
def rLenStr : List V → Hp → VK → Prop := fun xs H Q => ∃ z, xs = [.str z] ∧ z.length ≤ sizeLine ∧ Q (.int z.length) H
theorem c_lens : CallR X (.builtin "len") rLenStr := call_len_str
def rInt : List V → Hp → VK → Prop := fun xs H Q => (∃ i, xs = [.int i] ∧ Q (.int i) H) ∨ ∃ k, xs = [.bl k] ∧ Q (.int (if k then 1 else 0)) H
theorem c_int : CallR X (.type "int") rInt := call_int1
def rAbs : List V → Hp → VK → Prop := fun xs H Q => ∃ i, xs = [.int i] ∧ Q (.int (if i < 0 then -i else i)) H
theorem c_abs : CallR X (.builtin "abs") rAbs := call_abs
def rMax2 : List V → Hp → VK → Prop := fun xs H Q => ∃ i j, xs = [.int i, .int j] ∧ Q (.int (if j > i then j else i)) H
theorem c_max2 (hc : X.calm = true) : CallR X (.builtin "max") rMax2 := call_max2 hc
def rMin2 : List V → Hp → VK → Prop := fun xs H Q => ∃ i j, xs = [.int i, .int j] ∧ Q (.int (if j < i then j else i)) H
theorem c_min2 (hc : X.calm = true) : CallR X (.builtin "min") rMin2 := call_min2 hc
def rStrI : List V → Hp → VK → Prop := fun xs H Q => ∃ i, xs = [.int i] ∧ i.natAbs.log2 < 1920 ∧ Q (.str (toString i)) H
theorem c_strI : CallR X (.type "str") rStrI := call_str_int
def rListO (K : PySem.W.Frag) : List V → Hp → VK → Prop := fun xs H Q => ∃ p ys, xs = [.ref p] ∧ (SqL K H p ys ∨ SqT K H p ys) ∧ ∀ l, H l = none → Q (.ref l) (upd H l (.lst ys))
theorem c_list : CallR X (.type "list") (rListO X.K) := call_list_of
def rTupO (K : PySem.W.Frag) : List V → Hp → VK → Prop := fun xs H Q => ∃ p ys, xs = [.ref p] ∧ ((SqL K H p ys ∧ ∀ l, H l = none → Q (.ref l) (upd H l (.tup ys))) ∨ (SqT K H p ys ∧ Q (.ref p) H))
theorem c_tuple : CallR X (.type "tuple") (rTupO X.K) := call_tuple_of
def rAddS2 : R2 := fun x y H Q => ∃ i j, x = .str i ∧ y = .str j ∧ i.length + j.length ≤ sizeLine ∧ Q (.str (i ++ j)) H
theorem o_adds : OpR X (binaryOp .Add) rAddS2 := op_add_str
def rIsN2 : R2 := fun x y H Q => y = .non ∧ Q (.bl (decide (x = .non))) H
theorem o_isN : OpR X (compareOp .Is) rIsN2 := op_isN
def rNotN2 : R2 := fun x y H Q => y = .non ∧ Q (.bl (!decide (x = .non))) H
theorem o_notN : OpR X (compareOp .IsNot) rNotN2 := op_notN
/-- ** of any size -/
def CPowW (i j : Int) : Prop := 0 ≤ j ∧ (Builtin.Int.intBits i : Int) * j ≤ 2 ^ 27
theorem op_powW : OpR X (binaryOp .Pow) (rI CPowW fun i j => .int (i ^ j.toNat)) := opI fun _ _ _ _ _ _ _ hc q => PyProof.Rows.pow_int hc.1 hc.2 q
end

theorem at_0 {x : V} {r : List V} : atI (x :: r) 0 = some x := atI_nat (j := 0) rfl
theorem at_in {xs : List V} {i : Int} {v : V} (h : 0 ≤ i) (e : xs[i.toNat]? = some v) : atI xs i = some v := by
  have q := atI_nat (j := i.toNat) e
  rw [show ((i.toNat : Nat) : Int) = i by omega] at q
  exact q
theorem ix_0 {n : Nat} (h : 0 < n) : ixN n 0 = some 0 := by
  unfold ixN
  rw [if_pos (by omega), if_pos (by omega)]
  rfl
theorem ix_in {n : Nat} {i : Int} (h : 0 ≤ i) (h2 : i < n) : ixN n i = some i.toNat := by
  unfold ixN
  rw [if_pos h, if_pos h2]

/-! ### tests whose answer is known -/
theorem ifS_no {i j : Str} {A B : Prop} (ne : i ≠ j) (h : B) : if decide (V.str i = V.str j) = true then A else B := ifS (fun e => absurd e ne) fun _ => h
theorem ifS_yes {i j : Str} {A B : Prop} (e : i = j) (h : A) : if decide (V.str i = V.str j) = true then A else B := ifS (fun _ => h) fun ne => absurd e ne
theorem ifSn_no {i j : Str} {A B : Prop} (e : i = j) (h : B) : if (!decide (V.str i = V.str j)) = true then A else B := ifSn (fun ne => absurd e ne) fun _ => h
theorem ifSn_yes {i j : Str} {A B : Prop} (ne : i ≠ j) (h : A) : if (!decide (V.str i = V.str j)) = true then A else B := ifSn (fun _ => h) fun e => absurd e ne
theorem ifI_no {i j : Int} {A B : Prop} (ne : i ≠ j) (h : B) : if decide (V.int i = V.int j) = true then A else B := ifI (fun e => absurd e ne) fun _ => h
theorem ifI_yes {i j : Int} {A B : Prop} (e : i = j) (h : A) : if decide (V.int i = V.int j) = true then A else B := ifI (fun _ => h) fun ne => absurd e ne
theorem ifIn_no {i j : Int} {A B : Prop} (e : i = j) (h : B) : if (!decide (V.int i = V.int j)) = true then A else B := ifIn (fun ne => absurd e ne) fun _ => h
theorem ifIn_yes {i j : Int} {A B : Prop} (ne : i ≠ j) (h : A) : if (!decide (V.int i = V.int j)) = true then A else B := ifIn (fun _ => h) fun e => absurd e ne
theorem iteNT {A B : Prop} (h : B) : if (!true) = true then A else B := iteF h
theorem iteNF {A B : Prop} (h : A) : if (!false) = true then A else B := iteT h
theorem ifD_no {c A B : Prop} [Decidable c] (n : ¬ c) (h : B) : if decide c = true then A else B := ifD (fun e => absurd e n) fun _ => h
theorem ifD_yes {c A B : Prop} [Decidable c] (y : c) (h : A) : if decide c = true then A else B := ifD (fun _ => h) fun n => absurd y n

/-! ### slices -/
theorem cut_to (xs : List V) (n : Int) (h : 0 ≤ n) : cutV xs none (some n) = xs.take n.toNat := by
  unfold cutV
  have e : HT.sIx xs.length xs.length (some n) = min n.toNat xs.length := by
    have q := HT.sIx_nat xs.length xs.length n.toNat
    rwa [show ((n.toNat : Nat) : Int) = n by omega] at q
  rw [HT.sIx_none, List.drop_zero, e, Nat.sub_zero, ← List.take_eq_take_min]
theorem cut_from (xs : List V) (n : Int) (h : 0 ≤ n) : cutV xs (some n) none = xs.drop n.toNat := by
  unfold cutV
  have e0 : HT.sIx xs.length 0 (some n) = min n.toNat xs.length := by
    have q := HT.sIx_nat xs.length 0 n.toNat
    rwa [show ((n.toNat : Nat) : Int) = n by omega] at q
  rw [e0, HT.sIx_none]
  have e : xs.drop (min n.toNat xs.length) = xs.drop n.toNat := by
    by_cases q : n.toNat ≤ xs.length
    · rw [Nat.min_eq_left q]
    · rw [Nat.min_eq_right (by omega), List.drop_of_length_le (Nat.le_refl _), List.drop_of_length_le (by omega)]
  rw [e, List.take_of_length_le]
  rw [List.length_drop]
  omega

/-- all are ints -/
def AI (xs : List V) : Prop := ∀ x ∈ xs, ∃ z : Int, x = .int z
theorem AI.get {xs : List V} {n : Nat} {x : V} (h : AI xs) (e : xs[n]? = some x) : ∃ z : Int, x = .int z := h x (List.mem_of_getElem? e)
theorem AI.cut {xs : List V} {lo hi : Option Int} (h : AI xs) : AI (cutV xs lo hi) := fun x hx => h x (List.mem_of_mem_drop (List.mem_of_mem_take hx))
theorem AI.app {xs ys : List V} (h : AI xs) (h' : AI ys) : AI (xs ++ ys) := fun x hx => (List.mem_append.mp hx).elim (h x) (h' x)
theorem AI.nil : AI [] := fun _ h => nomatch h
theorem AI.one (z : Int) : AI [.int z] := fun x h => ⟨z, by simpa using h⟩
theorem AI.ints : ∀ {xs : List V}, AI xs → ∃ ns : List Int, xs = ns.map V.int
  | [], _ => ⟨[], rfl⟩
  | x :: xs, h => by
    obtain ⟨z, rfl⟩ := h x List.mem_cons_self
    obtain ⟨ns, rfl⟩ := AI.ints (xs := xs) fun y hy => h y (List.mem_cons_of_mem _ hy)
    exact ⟨z :: ns, rfl⟩
theorem AI.of (ns : List Int) : AI (ns.map V.int) := fun x hx => by
  obtain ⟨z, _, e⟩ := List.mem_map.mp hx
  exact ⟨z, e.symm⟩
theorem AI.of_all : ∀ {xs ys : List V}, All2 (fun _ y => ∃ z : Int, y = .int z) xs ys → AI ys
  | _, _, .nil => AI.nil
  | _, _, .cons r t => fun y hy => (List.mem_cons.mp hy).elim (fun e => e ▸ r) (AI.of_all t y)
/-- all are texts -/
def AS (xs : List V) : Prop := ∀ x ∈ xs, ∃ z : Str, x = .str z
theorem AS.get {xs : List V} {n : Nat} {x : V} (h : AS xs) (e : xs[n]? = some x) : ∃ z : Str, x = .str z := h x (List.mem_of_getElem? e)
theorem AS.cut {xs : List V} {lo hi : Option Int} (h : AS xs) : AS (cutV xs lo hi) := fun x hx => h x (List.mem_of_mem_drop (List.mem_of_mem_take hx))
theorem AS.app {xs ys : List V} (h : AS xs) (h' : AS ys) : AS (xs ++ ys) := fun x hx => (List.mem_append.mp hx).elim (h x) (h' x)
theorem AS.of (ns : List Str) : AS (ns.map V.str) := fun x hx => by
  obtain ⟨z, _, e⟩ := List.mem_map.mp hx
  exact ⟨z, e.symm⟩
theorem AS.nil : AS [] := fun _ h => nomatch h
theorem AS.cons {z : Str} {xs : List V} (h : AS xs) : AS (.str z :: xs) := fun x hx => (List.mem_cons.mp hx).elim (fun e => ⟨z, e⟩) (h x)
theorem cut_len (xs : List V) (lo hi : Option Int) : (cutV xs lo hi).length ≤ xs.length := cutV_length xs lo hi
theorem cast_int {Q : VK} {H : Hp} {a b : Int} (h : Q (.int a) H) (e : a = b) : Q (.int b) H := e ▸ h

/-! ### forward steps -/
section
variable {W : Wd} {K : PySem.W.Frag} {H H1 : Hp} {σ : L2.St} {D : Ends} {Q : VK} {v x y : V} {i j : Int} {n : Nat} {s z : Str} {b c : Bool} {p a : Addr} {xs ys vs : List V}
variable {ta tb te : TE} {t u : TS} {c1 c2 : TT} {tr : TA} {r : R2} {QB : Bool → Hp → Prop} {QA : List V → Hp → Prop} {QO : Option Int → Hp → Prop}
theorem rd_seq (h : t { D with nx := u D } σ H) : tSeq t u D σ H := h
theorem rd_next (h : D.nx σ H) : tNext D σ H := h
theorem rd_asg {m : Nat} (h : te σ H fun x H1 => D.nx (σ.set m (some x)) H1) : tAsg te (gName m) D σ H := h
theorem rd_asgG {g : TG} (h : te σ H fun x H1 => g x σ H1 D.nx) : tAsg te g D σ H := h
theorem rd_drop (h : te σ H fun _ H1 => D.nx σ H1) : tDrop te D σ H := h
theorem rd_ret (h : te σ H D.rt) : tRet te D σ H := h
theorem rd_retN (h : D.rt .non H) : tRetN D σ H := h
theorem rd_brk (h : D.bk σ H) : tBreak D σ H := h
theorem rd_cont (h : D.ct σ H) : tCont D σ H := h
theorem rd_ifS (h : c1 σ H fun b H1 => if b = true then t D σ H1 else u D σ H1) : tIfS c1 t u D σ H := h
theorem rd_var {m : Nat} (e : σ[m]? = some (some v)) (h : Q v H) : tVar m σ H Q := ⟨v, e, h⟩
theorem rd_c (h : Q v H) : tC v σ H Q := h
theorem rd_op (h : ta σ H fun x H1 => tb σ H1 fun y H2 => r x y H2 Q) : tOp r ta tb σ H Q := h
theorem rd_un {r : V → Hp → VK → Prop} (h : ta σ H fun x H1 => r x H1 Q) : tUn r ta σ H Q := h
theorem rd_I0 {g : Int → Int → V} (h : Q (g i j) H) : rI0 g (.int i) (.int j) H Q := ⟨_, _, rfl, rfl, h⟩
theorem rd_I {C : Int → Int → Prop} {g : Int → Int → V} (k : C i j) (h : Q (g i j) H) : rI C g (.int i) (.int j) H Q := ⟨_, _, rfl, rfl, k, h⟩
theorem rd_U {g : Int → V} (h : Q (g i) H) : rU g (.int i) H Q := ⟨_, rfl, h⟩
theorem rd_eq (k : scal x y = true) (h : Q (.bl (decide (x = y))) H) : rEq x y H Q := ⟨k, h⟩
theorem rd_ne (k : scal x y = true) (h : Q (.bl (!decide (x = y))) H) : rNe x y H Q := ⟨k, h⟩
theorem rd_isN (h : Q (.bl (decide (x = .non))) H) : rIsN2 x .non H Q := ⟨rfl, h⟩
theorem rd_notN (h : Q (.bl (!decide (x = .non))) H) : rNotN2 x .non H Q := ⟨rfl, h⟩
theorem rd_test (h : te σ H fun x H1 => ∃ k, x = .bl k ∧ QB k H1) : tTest te σ H QB := h
theorem rd_B (h : te σ H fun x H1 => ∃ k, x = .bl k ∧ QB k H1) : tB te σ H QB := h
theorem rd_bl {P : Bool → Prop} (h : P b) : ∃ k, V.bl b = V.bl k ∧ P k := ⟨b, rfl, h⟩
theorem rd_and (h : c1 σ H fun c H1 => if c = true then c2 σ H1 QB else QB false H1) : tAnd c1 c2 σ H QB := h
theorem rd_or (h : c1 σ H fun c H1 => if c = true then QB true H1 else c2 σ H1 QB) : tOr c1 c2 σ H QB := h
theorem rd_not (h : c1 σ H fun c H1 => QB (!c) H1) : tNot c1 σ H QB := h
theorem rd_andV (h : ta σ H fun x H1 => ∃ k, x = .bl k ∧ if k = true then tb σ H1 Q else Q (.bl false) H1) : tAndV ta tb σ H Q := h
theorem rd_orV (h : ta σ H fun x H1 => ∃ k, x = .bl k ∧ if k = true then Q (.bl true) H1 else tb σ H1 Q) : tOrV ta tb σ H Q := h
theorem rd_notV (h : ta σ H fun x H1 => ∃ k, x = .bl k ∧ Q (.bl (!k)) H1) : tNotV ta σ H Q := h
theorem rd_blV {P : Bool → Prop} (h : P b) : ∃ k, V.bl b = .bl k ∧ P k := ⟨b, rfl, h⟩
theorem rd_ifE (h : c1 σ H fun c H1 => if c = true then ta σ H1 Q else tb σ H1 Q) : tIf c1 ta tb σ H Q := h
theorem rd_nil (h : QA [] H) : tNil σ H QA := h
theorem rd_cons (h : te σ H fun x H1 => tr σ H1 fun xs H2 => QA (x :: xs) H2) : tCons te tr σ H QA := h
theorem rd_call {sp : Sp} {E : XK} (h : tr σ H fun vs H1 => sp (vs ++ []) H1 Q E) : tCall sp [] E tr σ H Q := h
theorem rd_app0 {P : List V → Prop} (h : P vs) : P (vs ++ []) := by rw [List.append_nil]; exact h
theorem rd_cb {r : List V → Hp → VK → Prop} (h : tr σ H fun vs H1 => r vs H1 Q) : tCB r tr σ H Q := h
/-- a new tuple, a new list -/
def NewO (Q : VK) (o : HO) (n : Nat) (H1 : Hp) : Prop := n ≤ sizeLine ∧ ∀ p, H1 p = none → Q (.ref p) (upd H1 p o)
theorem rd_tupU (h : tr σ H fun xs H1 => NewO Q (.tup xs) xs.length H1) : tTup tr σ H Q := h
theorem rd_lstU (h : tr σ H fun xs H1 => NewO Q (.lst xs) xs.length H1) : tLst tr σ H Q := h
theorem rd_new {o : HO} (i : W.iv H) (hn : n ≤ 100000) (k : ∀ p H2, H p = none → Ex W H H2 → At W H2 p o → Q (.ref p) H2) : NewO Q o n H := lst_of i hn k
theorem rd_new1 {o : HO} (i : W.iv H) (k : ∀ p H2, H p = none → Ex W H H2 → At W H2 p o → Q (.ref p) H2) : ∀ p, H p = none → Q (.ref p) (upd H p o) := new_of i k
theorem rd_ixL (h : At W H p (.lst xs)) (e : atI xs i = some v) (k : Q v H) : rIxL K (.ref p) (.int i) H Q := ⟨p, xs, i, v, rfl, rfl, h.sl, e, k⟩
theorem rd_ixT (h : At W H p (.tup xs)) (e : atI xs i = some v) (k : Q v H) : rIxT K (.ref p) (.int i) H Q := ⟨p, xs, i, v, rfl, rfl, h.st, e, k⟩
theorem rd_slLr {lo hi : Option Int} (h : H a = some (.lst xs)) (k : ∀ p H2, H p = none → H2 p = some (.lst (cutV xs lo hi)) → (∀ q, q ≠ p → H2 q = H q) → Q (.ref p) H2) : rSlL K (.ref a) lo hi H Q := ⟨a, xs, rfl, SqL.of h, fun p hp => k p _ hp upd_same fun _ ne => upd_ne ne⟩
theorem rd_ixM (h : At W H p (.lst xs)) (h0 : 0 ≤ i) (h1 : i < (xs.length : Int)) (k : ∀ v, v ∈ xs → Q v H) : rIxL K (.ref p) (.int i) H Q := by
  have e : xs[i.toNat]? = some (xs[i.toNat]'(by omega)) := List.getElem?_eq_getElem (by omega)
  exact ⟨p, xs, i, _, rfl, rfl, h.sl, at_in h0 e, k _ (List.getElem_mem _)⟩
theorem rd_ixLr (h : H p = some (.lst xs)) (e : atI xs i = some v) (k : Q v H) : rIxL K (.ref p) (.int i) H Q := ⟨p, xs, i, v, rfl, rfl, SqL.of h, e, k⟩
theorem rd_gsub {to ti : TE} {ts : TSet} {QS : L2.St → Hp → Prop} (h : to σ H fun o H1 => ti σ H1 fun i H2 => ts o i v H2 fun H3 => QS σ H3) : gSub to ti ts v σ H QS := h
theorem rd_setr {m : Nat} {QH : Hp → Prop} (h : H p = some (.lst xs)) (e : ixN xs.length i = some m) (k : ∀ H2, H2 p = some (.lst (xs.set m v)) → (∀ q, q ≠ p → H2 q = H q) → QH H2) : rSetL (.ref p) (.int i) v H QH :=
  ⟨p, xs, i, m, rfl, rfl, h, e, k _ upd_same fun _ ne => upd_ne ne⟩
/-- a store to a list of our own (unknown at H0) -/
theorem rd_set {m : Nat} {QH : Hp → Prop} {H0 : Hp} (e0 : Ex W H0 H) (h0 : H0 p = none) (h : At W H p (.lst xs)) (e : ixN xs.length i = some m) (k : ∀ H2, Ex W H0 H2 → At W H2 p (.lst (xs.set m v)) → (∀ q o, q ≠ p → At W H q o → At W H2 q o) → QH H2) : rSetL (.ref p) (.int i) v H QH :=
  ⟨p, xs, i, m, rfl, rfl, h.1, e, k _ (e0.mut h0 h) (.mut e0.iv h) fun _ _ ne q => .other e0.iv h q ne⟩
theorem rd_len (h : At W H p (.lst xs)) (k : Q (.int xs.length) H) : rLen K [.ref p] H Q := ⟨p, xs, rfl, .inl h.sl, k⟩
theorem rd_lenT (h : At W H p (.tup xs)) (k : Q (.int xs.length) H) : rLen K [.ref p] H Q := ⟨p, xs, rfl, .inr h.st, k⟩
theorem rd_lenr (h : H p = some (.lst xs)) (k : Q (.int xs.length) H) : rLen K [.ref p] H Q := ⟨p, xs, rfl, .inl (SqL.of h), k⟩
theorem rd_int (k : Q (.int i) H) : rInt [.int i] H Q := .inl ⟨_, rfl, k⟩
theorem rd_intB (k : Q (.int (if b then 1 else 0)) H) : rInt [.bl b] H Q := .inr ⟨_, rfl, k⟩
theorem rd_abs (k : Q (.int (if i < 0 then -i else i)) H) : rAbs [.int i] H Q := ⟨_, rfl, k⟩
theorem rd_max2 (k : Q (.int (if j > i then j else i)) H) : rMax2 [.int i, .int j] H Q := ⟨_, _, rfl, k⟩
theorem rd_min2 (k : Q (.int (if j < i then j else i)) H) : rMin2 [.int i, .int j] H Q := ⟨_, _, rfl, k⟩
theorem rd_lens (h : s.length ≤ 100000) (k : Q (.int s.length) H) : rLenStr [.str s] H Q := ⟨_, rfl, sz_le h, k⟩
theorem rd_adds (h : s.length + z.length ≤ 100000) (k : Q (.str (s ++ z)) H) : rAddS2 (.str s) (.str z) H Q := ⟨_, _, rfl, rfl, sz_le h, k⟩
theorem rd_nopart (k : QO none H) : tNoPart σ H QO := k
theorem rd_part (h : te σ H fun x H1 => ∃ i, x = .int i ∧ QO (some i) H1) : tPart te σ H QO := h
theorem rd_partI {P : Int → Prop} (k : P i) : ∃ i', V.int i = V.int i' ∧ P i' := ⟨_, rfl, k⟩
theorem rd_sl {r : V → Option Int → Option Int → Hp → VK → Prop} {tl th : TO} (h : te σ H fun x H1 => tl σ H1 fun l H2 => th σ H2 fun u H3 => r x l u H3 Q) : tSl r te tl th σ H Q := h
theorem rd_slL {lo hi : Option Int} (i : W.iv H) (h : At W H a (.lst xs)) (k : ∀ p H2, H p = none → Ex W H H2 → At W H2 p (.lst (cutV xs lo hi)) → Q (.ref p) H2) : rSlL K (.ref a) lo hi H Q := ⟨a, xs, rfl, h.sl, rd_new1 i k⟩
theorem rd_slT {lo hi : Option Int} (i : W.iv H) (h : At W H a (.tup xs)) (k0 : cutV xs lo hi = xs → Q (.ref a) H) (k : ∀ p H2, H p = none → Ex W H H2 → At W H2 p (.tup (cutV xs lo hi)) → Q (.ref p) H2) : rSlT K (.ref a) lo hi H Q → rSlT K (.ref a) lo hi H Q := id
theorem rd_list (i : W.iv H) (h : At W H p (.lst xs)) (k : ∀ l H2, H l = none → Ex W H H2 → At W H2 l (.lst xs) → Q (.ref l) H2) : rListO K [.ref p] H Q := ⟨p, xs, rfl, .inl h.sl, rd_new1 i k⟩
theorem rd_listT (i : W.iv H) (h : At W H p (.tup xs)) (k : ∀ l H2, H l = none → Ex W H H2 → At W H2 l (.lst xs) → Q (.ref l) H2) : rListO K [.ref p] H Q := ⟨p, xs, rfl, .inr h.st, rd_new1 i k⟩
theorem rd_tuple (i : W.iv H) (h : At W H p (.lst xs)) (k : ∀ l H2, H l = none → Ex W H H2 → At W H2 l (.tup xs) → Q (.ref l) H2) : rTupO K [.ref p] H Q := ⟨p, xs, rfl, .inl ⟨h.sl, rd_new1 i k⟩⟩
theorem rd_cat (i : W.iv H) (h1 : At W H p (.lst xs)) (h2 : At W H a (.lst ys)) (hz : xs.length + ys.length ≤ 100000) (k : ∀ l H2, H l = none → Ex W H H2 → At W H2 l (.lst (xs ++ ys)) → Q (.ref l) H2) : rCat (.ref p) (.ref a) H Q :=
  ⟨p, a, xs, ys, rfl, rfl, h1.1, h2.1, sz_le hz, rd_new1 i k⟩
theorem rd_bm {T : String} {r : V → List V → Hp → VK → Prop} (h : ta σ H fun x H1 => tyV K T x H1 ∧ tr σ H1 fun xs H2 => r x xs H2 Q) : tBM K T r ta tr σ H Q := h
theorem rd_tyL {P : Prop} (h : At W H p (.lst xs)) (k : P) : tyV K "list" (.ref p) H ∧ P := ⟨.inl ⟨rfl, xs, h.sl⟩, k⟩
/-- a statement, then the rest, with a word between them -/
def tCut (t u : TS) : TS := fun D σ H => ∃ Mid : L2.St → Hp → Prop, t { D with nx := Mid } σ H ∧ ∀ σ' H', Mid σ' H' → u D σ' H'
theorem pss_cut {X : Cx} {st : Stmt} {rest : List Stmt} {t u : TS} (h1 : PS X st t) (h2 : PSs X rest u) : PSs X (st :: rest) (tCut t u) := by
  refine ⟨fun pins s σ H D I h => ?_⟩
  obtain ⟨Mid, hm, hu⟩ := h
  refine PySem.wpAny_execs_cons (thn (h1.run pins s σ H { D with nx := Mid } I hm) fun f s1 q => ?_)
  cases f with
  | next =>
    obtain ⟨σ', H', I', q⟩ := q
    exact h2.run pins s1 σ' H' D I' (hu σ' H' q)
  | ret v => exact q
  | brk => exact q
  | cont => exact q
theorem rd_cut (M : L2.St → Hp → Prop) (h : t { D with nx := M } σ H) (k : ∀ σ' H', M σ' H' → u D σ' H') : tCut t u D σ H := ⟨M, h, k⟩
/-- a list comprehension over a list: what its source gives, then its items -/
def LcG (K : PySem.W.Frag) (a : Addr) (g : TG) (tt : TT) (te : TE) (ws : List Nat) (σ : L2.St) (H1 : Hp) (Q : VK) : Prop := ∀ D, H1 D = none → ∃ W : Nat → Nat → Hp → Prop, (∃ m, W 0 m (upd H1 D (.lst []))) ∧ ∀ i m H, W i m H →
  ((Itl K a).stop i H ∧ Q (.ref D) H) ∨ ((Itl K a).go i H ∧ ∃ Nx : Hp → Prop, (∀ H', Nx H' → ∃ m', m' < m ∧ W (i + 1) m' H') ∧ ∀ x H', (Itl K a).yld i H x H' → g x (wipe σ ws) H' fun σ2 H2 => wipe σ2 ws = wipe σ ws ∧ tt σ2 H2 fun b H3 =>
    if b = true then te σ2 H3 fun y H4 => ∃ acc, H4 D = some (.lst acc) ∧ acc.length < sizeLine ∧ Nx (upd H4 D (.lst (acc ++ [y]))) else Nx H3)
theorem rd_lc {tl : TE} {g : TG} {tt : TT} {ws : List Nat} (h : tl σ H fun x H1 => ∃ a, x = .ref a ∧ (∃ xs, SqL K H1 a xs) ∧ LcG K a g tt te ws σ H1 Q) : tLc (iList K tl) g tt te ws σ H Q := h
/-- the heap without the list at D -/
def hide (D : Addr) (H : Hp) : Hp := fun a => if a = D then none else H a
theorem hide_ne {D q : Addr} {H : Hp} (h : q ≠ D) : hide D H q = H q := if_neg h
theorem hide_upd {D : Addr} {H : Hp} {o : HO} : hide D (upd H D o) = hide D H := by
  funext q
  unfold hide upd
  split <;> rfl
theorem hide_loc {D : Addr} {H : Hp} (i : W.iv H) (n : ¬ W.own H D) : W.iv (hide D H) ∧ ∀ a, W.own (hide D H) a → W.own H a := W.loc i fun _ ha => hide_ne fun e => n (e ▸ ha)
theorem At.hide {D q : Addr} {H : Hp} {o u : HO} (h : At W H q o) (ne : q ≠ D) (i : W.iv H) (hD : At W H D u) : At W (hide D H) q o := ⟨(hide_ne ne).trans h.1, fun z => h.2 ((hide_loc i hD.2).2 _ z)⟩
theorem Ex.unhide {D : Addr} {H : Hp} {u : HO} (i : W.iv H) (hD : At W H D u) : Ex W (Lw.hide D H) H := by
  have l := hide_loc i hD.2
  refine ⟨l.1, i, fun {a o} h => ?_, fun {a o} h => ?_⟩
  · have ne : a ≠ D := fun e => by
      have q := h.1
      rw [e] at q
      unfold Lw.hide at q
      rw [if_pos rfl] at q; cases q
    refine ⟨(hide_ne ne).symm.trans h.1, fun z => h.2 ?_⟩
    -- owned in H: owned without D
    have l2 := W.loc (H := Lw.hide D H) (H' := H) l.1 fun b hb => (hide_ne (fun e : b = D => hD.2 (e ▸ l.2 b hb))).symm
    exact l2.2 a z
  · have ne : a ≠ D := fun e => by
      rw [e] at h
      unfold Lw.hide at h
      rw [if_pos rfl] at h; cases h
    exact ⟨o, (hide_ne ne).symm.trans h⟩
theorem hide_ex {D : Addr} {H H' : Hp} {u : HO} (e : Ex W H H') (hD : At W H D u) : Ex W (Lw.hide D H) (Lw.hide D H') := by
  have l := hide_loc e.i0 hD.2
  have l' := hide_loc e.iv (e.at_ hD).2
  refine ⟨l.1, l'.1, fun {a o} h => ?_, fun {a o} h => ?_⟩
  · have h1 := (Ex.unhide e.i0 hD).at_ h
    have ne : a ≠ D := fun q => by
      have z := h.1
      rw [q] at z
      unfold Lw.hide at z
      rw [if_pos rfl] at z; cases z
    exact (e.at_ h1).hide ne e.iv (e.at_ hD)
  · have ne : a ≠ D := fun q => by
      rw [q] at h
      unfold Lw.hide at h
      rw [if_pos rfl] at h; cases h
    obtain ⟨o', q⟩ := e.tr ((hide_ne ne).symm.trans h)
    exact ⟨o', (hide_ne ne).trans q⟩
/-- a tuple, a list made since -/
theorem At.hideT {D q : Addr} {H0 H : Hp} {vs acc : List V} (h : At W H q (.tup vs)) (e : Ex W H0 H) (hD : At W H0 D (.lst acc)) : At W (Lw.hide D H) q (.tup vs) := h.hide (h.ne (e.at_ hD) (fun z => by cases z)) e.iv (e.at_ hD)
theorem At.hideN {D q : Addr} {H0 H1 H : Hp} {o : HO} {acc : List V} (h : At W H q o) (e : Ex W H0 H) (hD : At W H0 D (.lst acc)) (e1 : Ex W H0 H1) (f : H1 q = none) : At W (Lw.hide D H) q o :=
  h.hide (fun z => by have r := (e1.at_ hD).1; rw [← z, f] at r; cases r) e.iv (e.at_ hD)
/-- the items: keep says which are taken, R what is made of one (without the new list, at D) -/
theorem rd_lcF {tt : TT} {m : Nat} (keep : V → Bool) (R : V → V → Hp → Prop) (i : W.iv H) (ha : At W H a (.lst xs)) (hz : xs.length ≤ 50000) (hm : ∀ x y H H', Ex W H H' → R x y H → R x y H')
    (ht : ∀ (n : Nat) x H' (QB : Bool → Hp → Prop), xs[n]? = some x → Ex W H H' → (∀ H3, Ex W H' H3 → QB (keep x) H3) → tt ((wipe σ [m]).set m (some x)) H' QB)
    (he : ∀ (n : Nat) x D acc H' (QV : VK), xs[n]? = some x → keep x = true → H D = none → At W H' D (.lst acc) → Ex W H H' → (∀ y H4, Ex W H' H4 → R x y (Lw.hide D H4) → QV y H4) → te ((wipe σ [m]).set m (some x)) H' QV)
    (k : ∀ D H2 ys, H D = none → Ex W H H2 → At W H2 D (.lst ys) → All2 (fun x y => R x y H2) (xs.filter keep) ys → Q (.ref D) H2) :
    ∃ a', V.ref a = V.ref a' ∧ (∃ xs, SqL K H a' xs) ∧ LcG K a' (gName m) tt te [m] σ H Q := by
  refine ⟨a, rfl, ⟨xs, ha.sl⟩, fun D hD => ?_⟩
  refine lc_list (xs := xs) (fun n H' => ∃ ys, Ex W H H' ∧ At W H' D (.lst ys) ∧ All2 (fun x y => R x y (Lw.hide D H')) ((xs.take n).filter keep) ys ∧ ys.length ≤ n) ⟨[], Ex.new i hD, At.new i hD, .nil, Nat.le_refl _⟩ (fun n H' _ ⟨_, e, _⟩ => (e.at_ ha).sl) (fun n x H' hx ⟨ys, e, hd, h2, hl⟩ => ?_) (fun H' ⟨ys, e, hd, h2, hl⟩ => ?_)
  · have hn : n < xs.length := (List.getElem?_eq_some_iff.mp hx).1
    have tk : xs.take (n + 1) = xs.take n ++ [x] := by rw [List.take_add_one, hx]; rfl
    refine ⟨by show wipe _ _ = _; simp [wipe, List.set_set], ?_⟩
    refine ht n x H' _ hx e fun H3 e3 => ?_
    refine ifB (fun hk => ?_) (fun hk => ?_)
    · refine he n x D ys H3 _ hx hk hD (e3.at_ hd) (e.trans e3) fun y H4 e4 r => ⟨ys, (e4.at_ (e3.at_ hd)).1, sz_lt (by omega), ys ++ [y], ((e.trans e3).trans e4).mut hD (e4.at_ (e3.at_ hd)), At.mut e4.iv (e4.at_ (e3.at_ hd)), ?_, by rw [List.length_append, List.length_singleton]; omega⟩
      rw [tk, List.filter_append, List.filter_cons, if_pos hk, hide_upd]
      exact All2.snoc (All2.mono (fun x' y' r' => hm x' y' _ _ (hide_ex (e3.trans e4) hd) r') h2) r
    · refine ⟨ys, e.trans e3, e3.at_ hd, ?_, by omega⟩
      rw [tk, List.filter_append, List.filter_cons, if_neg (by rw [hk]; decide)]
      show All2 _ (_ ++ []) _
      rw [List.append_nil]
      exact All2.mono (fun x' y' r' => hm x' y' _ _ (hide_ex e3 hd) r') h2
  · rw [List.take_length] at h2
    exact k D H' ys hD e hd (All2.mono (fun x' y' r' => hm x' y' _ _ (Ex.unhide e.iv hd) r') h2)
/-- no test -/
theorem rd_lc1 {m : Nat} (R : V → V → Hp → Prop) (i : W.iv H) (ha : At W H a (.lst xs)) (hz : xs.length ≤ 50000) (hm : ∀ x y H H', Ex W H H' → R x y H → R x y H')
    (he : ∀ (n : Nat) x D acc H' (QV : VK), xs[n]? = some x → H D = none → At W H' D (.lst acc) → Ex W H H' → (∀ y H4, Ex W H' H4 → R x y (Lw.hide D H4) → QV y H4) → te ((wipe σ [m]).set m (some x)) H' QV)
    (k : ∀ D H2 ys, H D = none → Ex W H H2 → At W H2 D (.lst ys) → All2 (fun x y => R x y H2) xs ys → Q (.ref D) H2) :
    ∃ a', V.ref a = V.ref a' ∧ (∃ xs, SqL K H a' xs) ∧ LcG K a' (gName m) tYes te [m] σ H Q :=
  rd_lcF (fun _ => true) R i ha hz hm (fun n x H' QB _ e q => q H' (Ex.refl e.iv)) (fun n x D acc H' QV h1 _ h2 h3 h4 h5 => he n x D acc H' QV h1 h2 h3 h4 h5) fun D H2 ys h1 h2 h3 h4 => k D H2 ys h1 h2 h3 (by
    have z : xs.filter (fun _ => true) = xs := by simp
    rwa [z] at h4)
/-- a list comprehension over a list: what its source gives, then its items -/
def LcGT (K : PySem.W.Frag) (a : Addr) (g : TG) (tt : TT) (te : TE) (ws : List Nat) (σ : L2.St) (H1 : Hp) (Q : VK) : Prop := ∀ D, H1 D = none → ∃ W : Nat → Nat → Hp → Prop, (∃ m, W 0 m (upd H1 D (.lst []))) ∧ ∀ i m H, W i m H →
  ((Itt K a).stop i H ∧ Q (.ref D) H) ∨ ((Itt K a).go i H ∧ ∃ Nx : Hp → Prop, (∀ H', Nx H' → ∃ m', m' < m ∧ W (i + 1) m' H') ∧ ∀ x H', (Itt K a).yld i H x H' → g x (wipe σ ws) H' fun σ2 H2 => wipe σ2 ws = wipe σ ws ∧ tt σ2 H2 fun b H3 =>
    if b = true then te σ2 H3 fun y H4 => ∃ acc, H4 D = some (.lst acc) ∧ acc.length < sizeLine ∧ Nx (upd H4 D (.lst (acc ++ [y]))) else Nx H3)
theorem rd_lcT {tl : TE} {g : TG} {tt : TT} {ws : List Nat} (h : tl σ H fun x H1 => ∃ a, x = .ref a ∧ (∃ xs, SqT K H1 a xs) ∧ LcGT K a g tt te ws σ H1 Q) : tLc (iTup K tl) g tt te ws σ H Q := h
/-- the items: keep says which are taken, R what is made of one (without the new list, at D) -/
theorem rd_lcTF {tt : TT} {m : Nat} (keep : V → Bool) (R : V → V → Hp → Prop) (i : W.iv H) (ha : At W H a (.tup xs)) (hz : xs.length ≤ 50000) (hm : ∀ x y H H', Ex W H H' → R x y H → R x y H')
    (ht : ∀ (n : Nat) x H' (QB : Bool → Hp → Prop), xs[n]? = some x → Ex W H H' → (∀ H3, Ex W H' H3 → QB (keep x) H3) → tt ((wipe σ [m]).set m (some x)) H' QB)
    (he : ∀ (n : Nat) x D acc H' (QV : VK), xs[n]? = some x → keep x = true → H D = none → At W H' D (.lst acc) → Ex W H H' → (∀ y H4, Ex W H' H4 → R x y (Lw.hide D H4) → QV y H4) → te ((wipe σ [m]).set m (some x)) H' QV)
    (k : ∀ D H2 ys, H D = none → Ex W H H2 → At W H2 D (.lst ys) → All2 (fun x y => R x y H2) (xs.filter keep) ys → Q (.ref D) H2) :
    ∃ a', V.ref a = V.ref a' ∧ (∃ xs, SqT K H a' xs) ∧ LcGT K a' (gName m) tt te [m] σ H Q := by
  refine ⟨a, rfl, ⟨xs, ha.st⟩, fun D hD => ?_⟩
  refine lc_tup (xs := xs) (fun n H' => ∃ ys, Ex W H H' ∧ At W H' D (.lst ys) ∧ All2 (fun x y => R x y (Lw.hide D H')) ((xs.take n).filter keep) ys ∧ ys.length ≤ n) ⟨[], Ex.new i hD, At.new i hD, .nil, Nat.le_refl _⟩ (fun n H' _ ⟨_, e, _⟩ => (e.at_ ha).st) (fun n x H' hx ⟨ys, e, hd, h2, hl⟩ => ?_) (fun H' ⟨ys, e, hd, h2, hl⟩ => ?_)
  · have hn : n < xs.length := (List.getElem?_eq_some_iff.mp hx).1
    have tk : xs.take (n + 1) = xs.take n ++ [x] := by rw [List.take_add_one, hx]; rfl
    refine ⟨by show wipe _ _ = _; simp [wipe, List.set_set], ?_⟩
    refine ht n x H' _ hx e fun H3 e3 => ?_
    refine ifB (fun hk => ?_) (fun hk => ?_)
    · refine he n x D ys H3 _ hx hk hD (e3.at_ hd) (e.trans e3) fun y H4 e4 r => ⟨ys, (e4.at_ (e3.at_ hd)).1, sz_lt (by omega), ys ++ [y], ((e.trans e3).trans e4).mut hD (e4.at_ (e3.at_ hd)), At.mut e4.iv (e4.at_ (e3.at_ hd)), ?_, by rw [List.length_append, List.length_singleton]; omega⟩
      rw [tk, List.filter_append, List.filter_cons, if_pos hk, hide_upd]
      exact All2.snoc (All2.mono (fun x' y' r' => hm x' y' _ _ (hide_ex (e3.trans e4) hd) r') h2) r
    · refine ⟨ys, e.trans e3, e3.at_ hd, ?_, by omega⟩
      rw [tk, List.filter_append, List.filter_cons, if_neg (by rw [hk]; decide)]
      show All2 _ (_ ++ []) _
      rw [List.append_nil]
      exact All2.mono (fun x' y' r' => hm x' y' _ _ (hide_ex e3 hd) r') h2
  · rw [List.take_length] at h2
    exact k D H' ys hD e hd (All2.mono (fun x' y' r' => hm x' y' _ _ (Ex.unhide e.iv hd) r') h2)
/-- no test -/
theorem rd_lcT1 {m : Nat} (R : V → V → Hp → Prop) (i : W.iv H) (ha : At W H a (.tup xs)) (hz : xs.length ≤ 50000) (hm : ∀ x y H H', Ex W H H' → R x y H → R x y H')
    (he : ∀ (n : Nat) x D acc H' (QV : VK), xs[n]? = some x → H D = none → At W H' D (.lst acc) → Ex W H H' → (∀ y H4, Ex W H' H4 → R x y (Lw.hide D H4) → QV y H4) → te ((wipe σ [m]).set m (some x)) H' QV)
    (k : ∀ D H2 ys, H D = none → Ex W H H2 → At W H2 D (.lst ys) → All2 (fun x y => R x y H2) xs ys → Q (.ref D) H2) :
    ∃ a', V.ref a = V.ref a' ∧ (∃ xs, SqT K H a' xs) ∧ LcGT K a' (gName m) tYes te [m] σ H Q :=
  rd_lcTF (fun _ => true) R i ha hz hm (fun n x H' QB _ e q => q H' (Ex.refl e.iv)) (fun n x D acc H' QV h1 _ h2 h3 h4 h5 => he n x D acc H' QV h1 h2 h3 h4 h5) fun D H2 ys h1 h2 h3 h4 => k D H2 ys h1 h2 h3 (by
    have z : xs.filter (fun _ => true) = xs := by simp
    rwa [z] at h4)
theorem rd_any {bs : List Bool} (h : At W H a (.lst (bs.map V.bl))) (k : Q (.bl (bs.any id)) H) : rAny K [.ref a] H Q := ⟨a, bs, rfl, h.sl, k⟩
theorem rd_all {bs : List Bool} (h : At W H a (.lst (bs.map V.bl))) (k : Q (.bl (bs.all id)) H) : rAll K [.ref a] H Q := ⟨a, bs, rfl, h.sl, k⟩
theorem rd_sum {ns : List Int} (h : At W H a (.lst (ns.map V.int))) (k : Q (.int ns.sum) H) : rSum K [.ref a] H Q := ⟨a, ns, rfl, h.sl, k⟩
theorem rd_inK (h : SqT K H p xs) (f : flatV x = true) (g : xs.all flatV = true) (k : Q (.bl (inV x xs)) H) : rIn K false x (.ref p) H Q := ⟨p, xs, rfl, .inr h, f, g, k⟩
theorem rd_niK (h : SqT K H p xs) (f : flatV x = true) (g : xs.all flatV = true) (k : Q (.bl (!inV x xs)) H) : rIn K true x (.ref p) H Q := ⟨p, xs, rfl, .inr h, f, g, k⟩
theorem rd_inT (h : At W H p (.tup xs)) (f : flatV x = true) (g : xs.all flatV = true) (k : Q (.bl (inV x xs)) H) : rIn K false x (.ref p) H Q := ⟨p, xs, rfl, .inr h.st, f, g, k⟩
theorem rd_niT (h : At W H p (.tup xs)) (f : flatV x = true) (g : xs.all flatV = true) (k : Q (.bl (!inV x xs)) H) : rIn K true x (.ref p) H Q := ⟨p, xs, rfl, .inr h.st, f, g, k⟩
theorem rd_inL (h : At W H p (.lst xs)) (f : flatV x = true) (g : xs.all flatV = true) (k : Q (.bl (inV x xs)) H) : rIn K false x (.ref p) H Q := ⟨p, xs, rfl, .inl h.sl, f, g, k⟩
theorem rd_niL (h : At W H p (.lst xs)) (f : flatV x = true) (g : xs.all flatV = true) (k : Q (.bl (!inV x xs)) H) : rIn K true x (.ref p) H Q := ⟨p, xs, rfl, .inl h.sl, f, g, k⟩
theorem rd_slTn {lo hi : Option Int} (i : W.iv H) (h : At W H a (.tup xs)) (n : ¬ (HT.sIx xs.length 0 lo = 0 ∧ HT.sIx xs.length xs.length hi = xs.length)) (k : ∀ p H2, H p = none → Ex W H H2 → At W H2 p (.tup (cutV xs lo hi)) → Q (.ref p) H2) : rSlT K (.ref a) lo hi H Q := ⟨a, xs, rfl, h.st, n, rd_new1 i k⟩
theorem rd_gtup {QS : L2.St → Hp → Prop} {ts : TGs} (h : At W H a (.tup xs)) (e : xs.length = n) (k : ts xs σ H QS) : gTup K n ts (.ref a) σ H QS := ⟨a, xs, rfl, h.st, e, k⟩
theorem rd_gconsE {QS : L2.St → Hp → Prop} {g : TG} {ts : TGs} (e : vs = v :: xs) (k : g v σ H fun σ' H' => ts xs σ' H' QS) : gCons g ts vs σ H QS := ⟨v, xs, e, k⟩
theorem rd_gnilE {QS : L2.St → Hp → Prop} (e : vs = []) (k : QS σ H) : gNil vs σ H QS := ⟨e, k⟩
theorem rd_isi {nm mm : String} (ty : TyX K H x (.type nm)) (h : kitB nm mm = some b) (k : Q (.bl b) H) : rIsi K [x, .ty mm] H Q := ⟨x, .ty mm, .type nm, .type mm, b, rfl, .ty _, ty, kit_ty h, k⟩
theorem rd_isiY {nm mm : String} (ty : TyX K H x (.type nm)) (h : kitB nm mm = some true) (k : Q (.bl true) H) : rIsi K [x, .ty mm] H Q := rd_isi ty h k
theorem rd_isiN {nm mm : String} (ty : TyX K H x (.type nm)) (h : kitB nm mm = some false) (k : Q (.bl false) H) : rIsi K [x, .ty mm] H Q := rd_isi ty h k
theorem rd_slLs {lo hi : Option Int} (i : W.iv H) (h : SqL K H a xs) (k : ∀ p H2, H p = none → Ex W H H2 → At W H2 p (.lst (cutV xs lo hi)) → Q (.ref p) H2) : rSlL K (.ref a) lo hi H Q := ⟨a, xs, rfl, h, rd_new1 i k⟩
theorem rd_gcons {QS : L2.St → Hp → Prop} {g : TG} {ts : TGs} (k : g v σ H fun σ' H' => ts xs σ' H' QS) : gCons g ts (v :: xs) σ H QS := ⟨v, xs, rfl, k⟩
theorem rd_gnil {QS : L2.St → Hp → Prop} (k : QS σ H) : gNil [] σ H QS := ⟨rfl, k⟩
theorem rd_gname {QS : L2.St → Hp → Prop} {m : Nat} (k : QS (σ.set m (some v)) H) : gName m v σ H QS := k
/-- a for over a list, a tuple, a range: its source, then for_list .. -/
def FoG (K : PySem.W.Frag) (a : Addr) (g : TG) (tb : TS) (D : Ends) (σ : L2.St) (H : Hp) : Prop := ∃ W : Nat → Nat → L2.St → Hp → Prop, (∃ m, W 0 m σ H) ∧ ∀ i m σ H, W i m σ H →
  ((Itl K a).stop i H ∧ D.nx σ H) ∨ ((Itl K a).go i H ∧ ∃ N : L2.St → Hp → Prop, (∀ σ' H', N σ' H' → ∃ m', m' < m ∧ W (i + 1) m' σ' H') ∧ ∀ x H', (Itl K a).yld i H x H' → g x σ H' fun σ2 H2 => tb { D with nx := N, ct := N, bk := D.nx } σ2 H2)
def FoR (lo : Int) (n : Nat) (g : TG) (tb : TS) (D : Ends) (σ : L2.St) (H : Hp) : Prop := ∃ W : Nat → Nat → L2.St → Hp → Prop, (∃ m, W 0 m σ H) ∧ ∀ i m σ H, W i m σ H →
  ((Itr lo n).stop i H ∧ D.nx σ H) ∨ ((Itr lo n).go i H ∧ ∃ N : L2.St → Hp → Prop, (∀ σ' H', N σ' H' → ∃ m', m' < m ∧ W (i + 1) m' σ' H') ∧ ∀ x H', (Itr lo n).yld i H x H' → g x σ H' fun σ2 H2 => tb { D with nx := N, ct := N, bk := D.nx } σ2 H2)
theorem rd_forL {tl : TE} {g : TG} {tb : TS} (h : tl σ H fun x H1 => ∃ a, x = .ref a ∧ (∃ xs, SqL K H1 a xs) ∧ FoG K a g tb D σ H1) : tFor (iList K tl) g tb D σ H := h
theorem rd_forR1 {g : TG} {tb : TS} (h : tr σ H fun vs H1 => ∃ j : Int, vs = [.int j] ∧ -(2 ^ 62) ≤ j ∧ j < 2 ^ 62 ∧ FoR 0 j.toNat g tb D σ H1) : tFor (iRng1 tr) g tb D σ H := h
theorem rd_forR2 {g : TG} {tb : TS} (h : tr σ H fun vs H1 => ∃ i j : Int, vs = [.int i, .int j] ∧ (-(2 ^ 62) ≤ i ∧ i < 2 ^ 62 ∧ -(2 ^ 62) ≤ j ∧ j < 2 ^ 62) ∧ FoR i (j - i).toNat g tb D σ H1) : tFor (iRng2 tr) g tb D σ H := h
theorem rd_forR1a {g : TG} {tb : TS} (h1 : -(2 ^ 62) ≤ j) (h2 : j < 2 ^ 62) (h : FoR 0 j.toNat g tb D σ H) : ∃ j' : Int, [V.int j] = [V.int j'] ∧ -(2 ^ 62) ≤ j' ∧ j' < 2 ^ 62 ∧ FoR 0 j'.toNat g tb D σ H := ⟨j, rfl, h1, h2, h⟩
theorem rd_forR2a {g : TG} {tb : TS} (h1 : -(2 ^ 62) ≤ i) (h2 : i < 2 ^ 62) (h3 : -(2 ^ 62) ≤ j) (h4 : j < 2 ^ 62) (h : FoR i (j - i).toNat g tb D σ H) : ∃ i' j' : Int, [V.int i, V.int j] = [V.int i', V.int j'] ∧ (-(2 ^ 62) ≤ i' ∧ i' < 2 ^ 62 ∧ -(2 ^ 62) ≤ j' ∧ j' < 2 ^ 62) ∧ FoR i' (j' - i').toNat g tb D σ H := ⟨i, j, rfl, ⟨h1, h2, h3, h4⟩, h⟩
theorem rd_forLa {g : TG} {tb : TS} (h : At W H a (.lst xs)) (k : FoG K a g tb D σ H) : ∃ a', V.ref a = V.ref a' ∧ (∃ xs, SqL K H a' xs) ∧ FoG K a' g tb D σ H := ⟨a, rfl, ⟨xs, h.sl⟩, k⟩
/-- over range: Pv by the turn -/
theorem for_r {lo : Int} {m n : Nat} {tb : TS} (Pv : Nat → L2.St → Hp → Prop) (h0 : Pv 0 σ H) (hs : ∀ (i : Nat) σ H, i < n → Pv i σ H → tb { D with nx := Pv (i + 1), ct := Pv (i + 1), bk := D.nx } (σ.set m (some (.int (lo + i)))) H) (hd : ∀ σ H, Pv n σ H → D.nx σ H) : FoR lo n (gName m) tb D σ H :=
  for_range Pv h0 hs hd
theorem for_l {g : TG} {tb : TS} (Pv : Nat → L2.St → Hp → Prop) (h0 : Pv 0 σ H) (hl : ∀ i σ H, i ≤ xs.length → Pv i σ H → At W H a (.lst xs)) (hs : ∀ i x σ H, xs[i]? = some x → Pv i σ H → g x σ H fun σ2 H2 => tb { D with nx := Pv (i + 1), ct := Pv (i + 1), bk := D.nx } σ2 H2) (hd : ∀ σ H, Pv xs.length σ H → D.nx σ H) : FoG K a g tb D σ H :=
  for_list Pv h0 (fun i σ H h p => (hl i σ H h p).sl) hs hd
/-- an append to a list of our own (unknown at H0) -/
theorem rd_append {H0 : Hp} (e : Ex W H0 H) (h0 : H0 p = none) (h : At W H p (.lst xs)) (hz : xs.length < 100000)
    (k : ∀ H2, Ex W H0 H2 → At W H2 p (.lst (xs ++ [y])) → (∀ q o, q ≠ p → At W H q o → At W H2 q o) → Q .non H2) : rAppend (.ref p) [y] H Q :=
  ⟨p, xs, y, rfl, rfl, h.1, sz_lt hz, k _ (e.mut h0 h) (.mut e.iv h) fun _ _ ne q => .other e.iv h q ne⟩
end
end Lw

namespace K49
open PySem L2 Lw
def top (i : Nat) : Stmt := PySem.Challenge.pw_capstead_k49_work_of_records.main.body.getD i (.Pass ⟨0, 0, 0, 0⟩)
abbrev s_law_draw : Stmt := top 8
abbrev N_law_draw : List Str := ["box", "many", "rest", "turn", "seed", "number"]
theorem sc_law_draw : FnScope N_law_draw ["box", "many"] (defScope s_law_draw) := ⟨rfl, rfl, rfl, by decide +kernel, rfl, by decide +kernel, by decide +kernel⟩
abbrev s_has_passed_on : Stmt := top 4
abbrev N_has_passed_on : List Str := ["name", "answer", "effects", "effect"]
theorem sc_has_passed_on : FnScope N_has_passed_on ["name", "answer", "effects"] (defScope s_has_passed_on) := ⟨rfl, rfl, rfl, by decide +kernel, rfl, by decide +kernel, by decide +kernel⟩
abbrev s_work : Stmt := top 5
abbrev N_work : List Str := ["record", "name", "answer", "effects", "amount"]
theorem sc_work : FnScope N_work ["record"] (defScope s_work) := ⟨rfl, rfl, rfl, by decide +kernel, rfl, by decide +kernel, by decide +kernel⟩
abbrev s_law_is_integer : Stmt := top 18
abbrev N_law_is_integer : List Str := ["told"]
theorem sc_law_is_integer : FnScope N_law_is_integer ["told"] (defScope s_law_is_integer) := ⟨rfl, rfl, rfl, by decide +kernel, rfl, by decide +kernel, by decide +kernel⟩
abbrev s_law_box : Stmt := top 7
abbrev N_law_box : List Str := ["script", "cells", "great", "seeds", "cell"]
theorem sc_law_box : FnScope N_law_box ["script"] (defScope s_law_box) := ⟨rfl, rfl, rfl, by decide +kernel, rfl, by decide +kernel, by decide +kernel⟩
abbrev s_law_chosen : Stmt := top 9
abbrev N_law_chosen : List Str := ["box", "most", "many", "gap", "chosen", "number", "turn"]
theorem sc_law_chosen : FnScope N_law_chosen ["box", "most"] (defScope s_law_chosen) := ⟨rfl, rfl, rfl, by decide +kernel, rfl, by decide +kernel, by decide +kernel⟩
abbrev s_law_gone : Stmt := top 10
abbrev N_law_gone : List Str := ["box", "name", "cells", "effects", "cell", "process"]
theorem sc_law_gone : FnScope N_law_gone ["box", "name"] (defScope s_law_gone) := ⟨rfl, rfl, rfl, by decide +kernel, rfl, by decide +kernel, by decide +kernel⟩
abbrev s_law_dropped : Stmt := top 11
abbrev N_law_dropped : List Str := ["box", "process", "effects", "window", "other"]
theorem sc_law_dropped : FnScope N_law_dropped ["box", "process"] (defScope s_law_dropped) := ⟨rfl, rfl, rfl, by decide +kernel, rfl, by decide +kernel, by decide +kernel⟩
abbrev s_law_made : Stmt := top 12
abbrev N_law_made : List Str := ["box", "process"]
theorem sc_law_made : FnScope N_law_made ["box", "process"] (defScope s_law_made) := ⟨rfl, rfl, rfl, by decide +kernel, rfl, by decide +kernel, by decide +kernel⟩
abbrev s_law_woken : Stmt := top 13
abbrev N_law_woken : List Str := ["box"]
theorem sc_law_woken : FnScope N_law_woken ["box"] (defScope s_law_woken) := ⟨rfl, rfl, rfl, by decide +kernel, rfl, by decide +kernel, by decide +kernel⟩
abbrev s_law_carried : Stmt := top 14
abbrev N_law_carried : List Str := ["box", "way"]
theorem sc_law_carried : FnScope N_law_carried ["box", "way"] (defScope s_law_carried) := ⟨rfl, rfl, rfl, by decide +kernel, rfl, by decide +kernel, by decide +kernel⟩
abbrev s_law_message : Stmt := top 15
abbrev N_law_message : List Str := ["box", "name", "way"]
theorem sc_law_message : FnScope N_law_message ["box", "name", "way"] (defScope s_law_message) := ⟨rfl, rfl, rfl, by decide +kernel, rfl, by decide +kernel, by decide +kernel⟩
abbrev s_law_deed : Stmt := top 16
abbrev N_law_deed : List Str := ["box", "name", "process", "way", "other"]
theorem sc_law_deed : FnScope N_law_deed ["box", "name", "process"] (defScope s_law_deed) := ⟨rfl, rfl, rfl, by decide +kernel, rfl, by decide +kernel, by decide +kernel⟩
abbrev s_law_other : Stmt := top 17
abbrev N_law_other : List Str := ["box", "sort", "effects", "other"]
theorem sc_law_other : FnScope N_law_other ["box", "sort"] (defScope s_law_other) := ⟨rfl, rfl, rfl, by decide +kernel, rfl, by decide +kernel, by decide +kernel⟩
abbrev s_law : Stmt := top 19
abbrev N_law : List Str := ["script", "box", "names", "start", "name", "process", "answer", "effects", "more", "told", "sort"]
theorem sc_law : FnScope N_law ["script"] (defScope s_law) := ⟨rfl, rfl, rfl, by decide +kernel, rfl, by decide +kernel, by decide +kernel⟩

/-! ### the box -/
structure BoxIs (H : Hp) (b g s : Addr) (gs ss : List Int) (m t : Int) : Prop where
  hb : H b = some (.lst [.ref g, .ref s, .int m, .int t])
  hg : H g = some (.lst (gs.map .int))
  hs : H s = some (.lst (ss.map .int))
  bg : b ≠ g
  bs : b ≠ s
  gs_ : g ≠ s
  ne : 0 < ss.length
def WB (b : Addr) : Wd where
  own H a := a = b ∨ ∃ g s m t, H b = some (.lst [.ref g, .ref s, .int m, .int t]) ∧ (a = g ∨ a = s)
  iv H := ∃ g s gs ss m t, BoxIs H b g s gs ss m t
  trk := by
    rintro H a ⟨g, s, gs, ss, m, t, B⟩ (rfl | ⟨g', s', m', t', e, h⟩)
    · exact ⟨_, B.hb⟩
    · rw [B.hb] at e
      injection e with e; injection e with e; injection e with e1 e; injection e with e2 e; cases e1; cases e2
      rcases h with rfl | rfl
      · exact ⟨_, B.hg⟩
      · exact ⟨_, B.hs⟩
  loc := by
    rintro H H' ⟨g, s, gs, ss, m, t, B⟩ h
    have eb := h b (.inl rfl)
    have eg := h g (.inr ⟨g, s, m, t, B.hb, .inl rfl⟩)
    have es := h s (.inr ⟨g, s, m, t, B.hb, .inr rfl⟩)
    refine ⟨⟨g, s, gs, ss, m, t, eb.trans B.hb, eg.trans B.hg, es.trans B.hs, B.bg, B.bs, B.gs_, B.ne⟩, fun a ha => ?_⟩
    rcases ha with rfl | ⟨g', s', m', t', e, q⟩
    · exact .inl rfl
    · exact .inr ⟨g', s', m', t', eb ▸ e, q⟩
theorem cut1 (x : V) (r : List V) : cutV (x :: r) (some 1) none = r := by
  rw [cut_from _ _ (by decide)]
  rfl
theorem ex_box {b g s g2 : Addr} {gs ss gs2 : List Int} {m t t2 : Int} {H H2 : Hp} (B : BoxIs H b g s gs ss m t) (B2 : BoxIs H2 b g2 s gs2 ss m t2) (hg : g2 = g ∨ H g2 = none)
    (h : ∀ a o, a ≠ b → a ≠ g → H a = some o → H2 a = some o) (h0 : ∃ o, H2 g = some o) : Ex (WB b) H H2 := by
  refine ⟨⟨_, _, _, _, _, _, B⟩, ⟨_, _, _, _, _, _, B2⟩, fun {a o} ha => ?_, fun {a o} ha => ?_⟩
  · have nb : a ≠ b := fun e => ha.2 (.inl e)
    have ng : a ≠ g := fun e => ha.2 (.inr ⟨g, s, _, _, B.hb, .inl e⟩)
    have ns : a ≠ s := fun e => ha.2 (.inr ⟨g, s, _, _, B.hb, .inr e⟩)
    refine ⟨h a o nb ng ha.1, ?_⟩
    rintro (e | ⟨g', s', m', t', e, q⟩)
    · exact nb e
    · rw [B2.hb] at e
      injection e with e; injection e with e; injection e with e1 e; injection e with e2 e; cases e1; cases e2
      rcases q with q | q
      · rcases hg with z | z
        · exact ng (q.trans z)
        · rw [← q, ha.1] at z; cases z
      · exact ns q
  · by_cases nb : a = b
    · exact ⟨_, nb ▸ B2.hb⟩
    · by_cases ng : a = g
      · rw [ng]; exact h0
      · exact ⟨_, h a o nb ng ha⟩
/-! ### effects -/
def Eff (W : Wd) (H : Hp) (h : Str) (y : V) : Prop := ∃ t vs, y = .ref t ∧ At W H t (.tup (.str h :: vs))
inductive Effs (W : Wd) (H : Hp) : List Str → List V → Prop
  | nil : Effs W H [] []
  | cons {h : Str} {y : V} {hs : List Str} {ys : List V} : Eff W H h y → Effs W H hs ys → Effs W H (h :: hs) (y :: ys)
theorem Eff.mono {W : Wd} {H H' : Hp} (e : Ex W H H') {h : Str} {y : V} : Eff W H h y → Eff W H' h y
  | ⟨t, vs, a, b⟩ => ⟨t, vs, a, e.at_ b⟩
theorem Effs.mono {W : Wd} {H H' : Hp} (e : Ex W H H') : ∀ {hs : List Str} {ys : List V}, Effs W H hs ys → Effs W H' hs ys
  | _, _, .nil => .nil
  | _, _, .cons a b => .cons (a.mono e) (b.mono e)
theorem Effs.length {W : Wd} {H : Hp} : ∀ {hs : List Str} {ys : List V}, Effs W H hs ys → hs.length = ys.length
  | _, _, .nil => rfl
  | _, _, .cons _ b => by rw [List.length_cons, List.length_cons, b.length]
theorem Effs.append {W : Wd} {H : Hp} {hs' : List Str} {ys' : List V} (c : Effs W H hs' ys') : ∀ {hs : List Str} {ys : List V}, Effs W H hs ys → Effs W H (hs ++ hs') (ys ++ ys')
  | _, _, .nil => c
  | _, _, .cons a b => .cons a (Effs.append c b)
theorem Effs.take {W : Wd} {H : Hp} : ∀ (n : Nat) {hs : List Str} {ys : List V}, Effs W H hs ys → Effs W H (hs.take n) (ys.take n)
  | 0, _, _, _ => .nil
  | _ + 1, _, _, .nil => .nil
  | n + 1, _, _, .cons a b => .cons a (b.take n)
theorem Effs.of_all {W : Wd} {H : Hp} (h : Str) : ∀ {xs ys : List V}, All2 (fun _ y => Eff W H h y) xs ys → Effs W H (List.replicate xs.length h) ys
  | _, _, .nil => .nil
  | _, _, .cons a b => .cons a (Effs.of_all h b)
def PL : List V := [.str "send", .str "take", .str "trysend", .str "trytake", .str "reply"]
def passed (name : Str) (ans : V) (hs : List Str) : Bool := if name = "call" then hs.any (fun h => decide (h = "woken")) else (inV (.str name) PL && decide (ans = .int 0))
def more (name : Str) (ans : V) (hs : List Str) : Int := (if name = "claim" ∧ ans = .int 0 then 8 else 0) + (if passed name ans hs = true then 3 else 0)
def AnsOk (ans : V) : Prop := ans = .non ∨ ∃ i, ans = .int i
theorem AnsOk.scal {ans : V} (h : AnsOk ans) : scal ans (.int 0) = true := by
  rcases h with rfl | ⟨i, rfl⟩ <;> rfl
theorem Effs.get {W : Wd} {H : Hp} : ∀ {hs : List Str} {ys : List V} {n : Nat} {x : V}, Effs W H hs ys → ys[n]? = some x → ∃ h, Eff W H h x
  | _, _, _, _, .nil, e => by simp at e
  | _, _, 0, _, .cons a _, e => by simp at e; subst e; exact ⟨_, a⟩
  | _, _, n + 1, _, .cons _ b, e => Effs.get (n := n) b (by simpa using e)
theorem effs_bools {W : Wd} {H : Hp} {f : Str → Bool} : ∀ {hs : List Str} {es ys : List V}, Effs W H hs es → All2 (fun x y => ∀ h, Eff W H h x → y = .bl (f h)) es ys → ys = (hs.map f).map V.bl
  | _, _, _, .nil, .nil => rfl
  | _, _, _, .cons a b, .cons r t => by
    rw [r _ a, effs_bools b t]
    rfl
theorem Eff.one {W : Wd} {H : Hp} {h h' : Str} {y : V} : Eff W H h y → Eff W H h' y → h = h'
  | ⟨t, vs, a, b⟩, ⟨t', vs', a', b'⟩ => by
    rw [a] at a'
    injection a' with z
    subst z
    have q := b.uniq b'
    injection q with q
    injection q with q _
    injection q
/-! ### promises -/
def sp_law_draw : Sp := fun vs H Q _ => ∃ (b : Addr) (many : Int), vs = [.ref b, .int many] ∧ 0 < many ∧ many < 1073741824 ∧ (WB b).iv H ∧ ∀ r H', Ex (WB b) H H' → 0 ≤ r → r < many → Q (.int r) H'
theorem cl_law_draw {b : Addr} {many : Int} {H : Hp} {Q : VK} {E : XK} (h1 : 0 < many) (h2 : many < 1073741824) (i : (WB b).iv H) (k : ∀ r H', Ex (WB b) H H' → 0 ≤ r → r < many → Q (.int r) H') : sp_law_draw ([.ref b, .int many] ++ []) H Q E := ⟨b, many, rfl, h1, h2, i, k⟩
def sp_has_passed_on : Sp := fun vs H Q _ => ∃ (W : Wd) (name : Str) (ans : V) (e : Addr) (es : List V) (hs : List Str), vs = [.str name, ans, .ref e] ∧ W.iv H ∧ At W H e (.tup es) ∧ AnsOk ans ∧ Effs W H hs es ∧ es.length ≤ 50000 ∧ ∀ H', Ex W H H' → Q (.bl (passed name ans hs)) H'
theorem cl_has_passed_on {W : Wd} {name : Str} {ans : V} {e : Addr} {es : List V} {hs : List Str} {H : Hp} {Q : VK} {E : XK} (i : W.iv H) (h1 : At W H e (.tup es)) (h2 : AnsOk ans) (h3 : Effs W H hs es) (h4 : es.length ≤ 50000) (k : ∀ H', Ex W H H' → Q (.bl (passed name ans hs)) H') :
    sp_has_passed_on ([.str name, ans, .ref e] ++ []) H Q E := ⟨W, name, ans, e, es, hs, rfl, i, h1, h2, h3, h4, k⟩
def sp_work : Sp := fun vs H Q _ => ∃ (W : Wd) (r : Addr), vs = [.ref r] ∧ W.iv H ∧
  ((∃ (p : V) (name : Str) (ans : V) (e : Addr) (es : List V) (hs : List Str), At W H r (.tup [.str "deed", p, .str name, ans, .ref e]) ∧ At W H e (.tup es) ∧ AnsOk ans ∧ Effs W H hs es ∧ es.length ≤ 50000 ∧ ∀ H', Ex W H H' → Q (.int (1 + (es.length : Int) + more name ans hs)) H') ∨
   (∃ (tag : Str) (rest : List V), At W H r (.tup (.str tag :: rest)) ∧ tag ≠ "deed" ∧ ∀ H', Ex W H H' → Q (.int 0) H'))
abbrev EL (b : Addr) (H : Hp) (Q : VK) (C : List Str → Prop) : Prop := ∀ p H' hs ys, Ex (WB b) H H' → At (WB b) H' p (.lst ys) → Effs (WB b) H' hs ys → ys.length ≤ 4000 → C hs → Q (.ref p) H'
abbrev TL (b : Addr) (name : Str) (H : Hp) (Q : VK) : Prop := ∀ t H' ans l m hs ys, Ex (WB b) H H' → At (WB b) H' t (.tup [ans, .ref l, .int m]) → At (WB b) H' l (.lst ys) → Effs (WB b) H' hs ys → ys.length ≤ 4000 → AnsOk ans → m = more name ans hs → Q (.ref t) H'
def sp_law_is_integer : Sp := fun vs H Q _ => ∃ i, vs = [.int i] ∧ Q (.bl true) H
def sp_law_box (K : PySem.W.Frag) : Sp := fun vs H Q _ => ∃ (a : Addr) (ns : List Int), vs = [.ref a] ∧ SqL K H a (ns.map V.int) ∧ ns.length ≤ 63 ∧ ∀ b H', (WB b).iv H' → Q (.ref b) H'
def sp_law_chosen : Sp := fun vs H Q _ => ∃ (b : Addr) (most : Int), vs = [.ref b, .int most] ∧ 0 ≤ most ∧ most ≤ 1000 ∧ (WB b).iv H ∧ ∀ p H' xs, Ex (WB b) H H' → At (WB b) H' p (.lst xs) → AI xs → xs.length ≤ 1004 → Q (.ref p) H'
theorem cl_law_chosen {b : Addr} {most : Int} {H : Hp} {Q : VK} {E : XK} (h1 : 0 ≤ most) (h2 : most ≤ 1000) (i : (WB b).iv H) (k : ∀ p H' xs, Ex (WB b) H H' → At (WB b) H' p (.lst xs) → AI xs → xs.length ≤ 1004 → Q (.ref p) H') :
    sp_law_chosen ([.ref b, .int most] ++ []) H Q E := ⟨b, most, rfl, h1, h2, i, k⟩
def sp_law_gone : Sp := fun vs H Q _ => ∃ (b : Addr) (name : Str), vs = [.ref b, .str name] ∧ (WB b).iv H ∧ EL b H Q fun _ => True
def sp_law_dropped : Sp := fun vs H Q _ => ∃ (b : Addr) (z : Int), vs = [.ref b, .int z] ∧ (WB b).iv H ∧ EL b H Q fun _ => True
def sp_law_made : Sp := fun vs H Q _ => ∃ (b : Addr) (z : Int), vs = [.ref b, .int z] ∧ (WB b).iv H ∧ EL b H Q fun hs => hs = [("made" : Str)]
def sp_law_woken : Sp := fun vs H Q _ => ∃ (b : Addr), vs = [.ref b] ∧ (WB b).iv H ∧ EL b H Q fun hs => hs = [("woken" : Str)]
def sp_law_carried : Sp := fun vs H Q _ => ∃ (b : Addr) (z : Int), vs = [.ref b, .int z] ∧ (WB b).iv H ∧ EL b H Q fun _ => True
def SIX : List V := [.str "send", .str "take", .str "trysend", .str "trytake", .str "call", .str "reply"]
def sp_law_message : Sp := fun vs H Q _ => ∃ (b : Addr) (name : Str) (z : Int), vs = [.ref b, .str name, .int z] ∧ (WB b).iv H ∧ inV (.str name) SIX = true ∧ TL b name H Q
def sp_law_deed : Sp := fun vs H Q _ => ∃ (b : Addr) (name : Str) (z : Int), vs = [.ref b, .str name, .int z] ∧ (WB b).iv H ∧ TL b name H Q
def sp_law_other : Sp := fun vs H Q _ => ∃ (b : Addr) (z : Int), vs = [.ref b, .int z] ∧ (WB b).iv H ∧ ∀ t H' tag rest, Ex (WB b) H H' → At (WB b) H' t (.tup (.str tag :: rest)) → tag ≠ "deed" → Q (.ref t) H'
def spLaw (K : PySem.W.Frag) : Sp := fun vs H Q _ => ∃ (a : Addr) (ns : List Int), vs = [.ref a] ∧ SqL K H a (ns.map V.int) ∧ ns.length ≤ 63 ∧ ∀ H', Q (.bl true) H'
section
variable {b : Addr} {name : Str} {z : Int} {H : Hp} {Q : VK} {E : XK}
theorem cl_law_gone (i : (WB b).iv H) (k : EL b H Q fun _ => True) : sp_law_gone ([.ref b, .str name] ++ []) H Q E := ⟨b, name, rfl, i, k⟩
theorem cl_law_dropped (i : (WB b).iv H) (k : EL b H Q fun _ => True) : sp_law_dropped ([.ref b, .int z] ++ []) H Q E := ⟨b, z, rfl, i, k⟩
theorem cl_law_made (i : (WB b).iv H) (k : EL b H Q fun hs => hs = [("made" : Str)]) : sp_law_made ([.ref b, .int z] ++ []) H Q E := ⟨b, z, rfl, i, k⟩
theorem cl_law_woken (i : (WB b).iv H) (k : EL b H Q fun hs => hs = [("woken" : Str)]) : sp_law_woken ([.ref b] ++ []) H Q E := ⟨b, rfl, i, k⟩
theorem cl_law_carried (i : (WB b).iv H) (k : EL b H Q fun _ => True) : sp_law_carried ([.ref b, .int z] ++ []) H Q E := ⟨b, z, rfl, i, k⟩
theorem cl_law_message (i : (WB b).iv H) (h : inV (.str name) SIX = true) (k : TL b name H Q) : sp_law_message ([.ref b, .str name, .int z] ++ []) H Q E := ⟨b, name, z, rfl, i, h, k⟩
theorem cl_law_deed (i : (WB b).iv H) (k : TL b name H Q) : sp_law_deed ([.ref b, .str name, .int z] ++ []) H Q E := ⟨b, name, z, rfl, i, k⟩
theorem cl_law_other (i : (WB b).iv H) (k : ∀ t H' tag rest, Ex (WB b) H H' → At (WB b) H' t (.tup (.str tag :: rest)) → tag ≠ "deed" → Q (.ref t) H') : sp_law_other ([.ref b, .int z] ++ []) H Q E := ⟨b, z, rfl, i, k⟩
theorem cl_work_deed {W : Wd} {r e : Addr} {p ans : V} {es : List V} {hs : List Str} (i : W.iv H) (h1 : At W H r (.tup [.str "deed", p, .str name, ans, .ref e])) (h2 : At W H e (.tup es)) (h3 : AnsOk ans) (h4 : Effs W H hs es) (h5 : es.length ≤ 50000) (k : ∀ H', Ex W H H' → Q (.int (1 + (es.length : Int) + more name ans hs)) H') :
    sp_work ([.ref r] ++ []) H Q E := ⟨W, r, rfl, i, .inl ⟨p, name, ans, e, es, hs, h1, h2, h3, h4, h5, k⟩⟩
theorem cl_work_other {W : Wd} {r : Addr} {tag : Str} {rest : List V} (i : W.iv H) (h1 : At W H r (.tup (.str tag :: rest))) (h2 : tag ≠ "deed") (k : ∀ H', Ex W H H' → Q (.int 0) H') : sp_work ([.ref r] ++ []) H Q E := ⟨W, r, rfl, i, .inr ⟨tag, rest, h1, h2, k⟩⟩
theorem cl_law_is_integer (k : Q (.bl true) H) : sp_law_is_integer ([.int z] ++ []) H Q E := ⟨z, rfl, k⟩
end
/-! ### the amounts -/
theorem more_claim (hs : List Str) : more "claim" (.int 0) hs = 8 := by
  have p : passed "claim" (.int 0) hs = false := by
    unfold passed
    rw [if_neg (by decide +kernel), show inV (.str "claim") PL = false by decide +kernel, Bool.false_and]
  unfold more
  rw [if_pos ⟨rfl, rfl⟩, p]
  rfl
theorem more_one {name : Str} {ans : V} {hs : List Str} (h : ans ≠ .int 0) (hc : name = "call" → hs = []) : more name ans hs = 0 := by
  have p : passed name ans hs = false := by
    unfold passed
    split
    · rename_i e
      rw [hc e]; rfl
    · rw [decide_eq_false h, Bool.and_false]
  unfold more
  rw [if_neg (fun q => h q.2), p]
  rfl
theorem more_pl {name : Str} (hs : List Str) (h : inV (.str name) PL = true) (nc : name ≠ "call") (nm : name ≠ "claim") : more name (.int 0) hs = 3 := by
  have p : passed name (.int 0) hs = true := by
    unfold passed
    rw [if_neg nc, h]; rfl
  unfold more
  rw [if_neg (fun q => nm q.1), p]
  rfl
theorem more_no {name : Str} {ans : V} (hs : List Str) (h : inV (.str name) SIX = false) (nm : name ≠ "claim") : more name ans hs = 0 := by
  have six : ∀ x : Str, .str x ∈ SIX → name ≠ x := fun x hx e => by
    subst e
    have q : inV (.str name) SIX = true := List.any_eq_true.mpr ⟨_, hx, by show (name == name) = true; simp⟩
    rw [h] at q; cases q
  have pl : inV (.str name) PL = false := by
    cases q : inV (.str name) PL with
    | false => rfl
    | true =>
      obtain ⟨y, hy, e⟩ := List.any_eq_true.mp q
      unfold PL at hy
      simp only [List.mem_cons, List.not_mem_nil, or_false] at hy
      rcases hy with rfl | rfl | rfl | rfl | rfl <;> exact absurd (by simpa [eqV] using e : _ = name).symm (six _ (by unfold SIX; simp))
  have p : passed name ans hs = false := by
    unfold passed
    rw [if_neg (six "call" (by unfold SIX; simp)), pl, Bool.false_and]
  unfold more
  rw [if_neg (fun q => nm q.1), p]
  rfl
theorem more_call : more "call" .non ["woken"] = 3 := by decide +kernel
theorem six_cases {name : Str} (h : inV (.str name) SIX = true) : name = "send" ∨ name = "take" ∨ name = "trysend" ∨ name = "trytake" ∨ name = "call" ∨ name = "reply" := by
  obtain ⟨y, hy, e⟩ := List.any_eq_true.mp h
  unfold SIX at hy
  simp only [List.mem_cons, List.not_mem_nil, or_false] at hy
  rcases hy with rfl | rfl | rfl | rfl | rfl | rfl <;> (have q := (by simpa [eqV] using e : _ = name).symm; simp [q])
theorem Effs.cut {W : Wd} {H : Hp} {hs : List Str} {ys : List V} {n : Int} (e : Effs W H hs ys) (h : 0 ≤ n) : Effs W H (hs.take n.toNat) (cutV ys none (some n)) := by
  rw [cut_to _ _ h]
  exact e.take _
theorem Effs.len1 {W : Wd} {H : Hp} {h : Str} {ys : List V} (e : Effs W H [h] ys) : ys.length = 1 := e.length.symm
theorem AnsOk.int (i : Int) : AnsOk (.int i) := .inr ⟨i, rfl⟩
theorem AnsOk.non : AnsOk .non := .inl rfl
structure Tx (K : PySem.W.Frag) (mg : Str → Option Value) where
  f_has_passed_on : Addr
  fd_has_passed_on : FuncData
  F_has_passed_on : Fun K "has_passed_on" "has_passed_on" s_has_passed_on f_has_passed_on fd_has_passed_on
  b_has_passed_on : Binds K fd_has_passed_on ["name", "answer", "effects"] []
  g_has_passed_on : mg "has_passed_on" = some (.ref f_has_passed_on)
  f_work : Addr
  fd_work : FuncData
  F_work : Fun K "work" "work" s_work f_work fd_work
  b_work : Binds K fd_work ["record"] []
  g_work : mg "work" = some (.ref f_work)
  f_law_box : Addr
  fd_law_box : FuncData
  F_law_box : Fun K "_law_box" "_law_box" s_law_box f_law_box fd_law_box
  b_law_box : Binds K fd_law_box ["script"] []
  g_law_box : mg "_law_box" = some (.ref f_law_box)
  f_law_draw : Addr
  fd_law_draw : FuncData
  F_law_draw : Fun K "_law_draw" "_law_draw" s_law_draw f_law_draw fd_law_draw
  b_law_draw : Binds K fd_law_draw ["box", "many"] []
  g_law_draw : mg "_law_draw" = some (.ref f_law_draw)
  f_law_chosen : Addr
  fd_law_chosen : FuncData
  F_law_chosen : Fun K "_law_chosen" "_law_chosen" s_law_chosen f_law_chosen fd_law_chosen
  b_law_chosen : Binds K fd_law_chosen ["box", "most"] []
  g_law_chosen : mg "_law_chosen" = some (.ref f_law_chosen)
  f_law_gone : Addr
  fd_law_gone : FuncData
  F_law_gone : Fun K "_law_gone" "_law_gone" s_law_gone f_law_gone fd_law_gone
  b_law_gone : Binds K fd_law_gone ["box", "name"] []
  g_law_gone : mg "_law_gone" = some (.ref f_law_gone)
  f_law_dropped : Addr
  fd_law_dropped : FuncData
  F_law_dropped : Fun K "_law_dropped" "_law_dropped" s_law_dropped f_law_dropped fd_law_dropped
  b_law_dropped : Binds K fd_law_dropped ["box", "process"] []
  g_law_dropped : mg "_law_dropped" = some (.ref f_law_dropped)
  f_law_made : Addr
  fd_law_made : FuncData
  F_law_made : Fun K "_law_made" "_law_made" s_law_made f_law_made fd_law_made
  b_law_made : Binds K fd_law_made ["box", "process"] []
  g_law_made : mg "_law_made" = some (.ref f_law_made)
  f_law_woken : Addr
  fd_law_woken : FuncData
  F_law_woken : Fun K "_law_woken" "_law_woken" s_law_woken f_law_woken fd_law_woken
  b_law_woken : Binds K fd_law_woken ["box"] []
  g_law_woken : mg "_law_woken" = some (.ref f_law_woken)
  f_law_carried : Addr
  fd_law_carried : FuncData
  F_law_carried : Fun K "_law_carried" "_law_carried" s_law_carried f_law_carried fd_law_carried
  b_law_carried : Binds K fd_law_carried ["box", "way"] []
  g_law_carried : mg "_law_carried" = some (.ref f_law_carried)
  f_law_message : Addr
  fd_law_message : FuncData
  F_law_message : Fun K "_law_message" "_law_message" s_law_message f_law_message fd_law_message
  b_law_message : Binds K fd_law_message ["box", "name", "way"] []
  g_law_message : mg "_law_message" = some (.ref f_law_message)
  f_law_deed : Addr
  fd_law_deed : FuncData
  F_law_deed : Fun K "_law_deed" "_law_deed" s_law_deed f_law_deed fd_law_deed
  b_law_deed : Binds K fd_law_deed ["box", "name", "process"] []
  g_law_deed : mg "_law_deed" = some (.ref f_law_deed)
  f_law_other : Addr
  fd_law_other : FuncData
  F_law_other : Fun K "_law_other" "_law_other" s_law_other f_law_other fd_law_other
  b_law_other : Binds K fd_law_other ["box", "sort"] []
  g_law_other : mg "_law_other" = some (.ref f_law_other)
  f_law_is_integer : Addr
  fd_law_is_integer : FuncData
  F_law_is_integer : Fun K "_law_is_integer" "_law_is_integer" s_law_is_integer f_law_is_integer fd_law_is_integer
  b_law_is_integer : Binds K fd_law_is_integer ["told"] []
  g_law_is_integer : mg "_law_is_integer" = some (.ref f_law_is_integer)
  a_PASSING : Addr
  g_PASSING : mg "PASSING" = some (.ref a_PASSING)
  q_PASSING : ∀ H : Hp, SqT K H a_PASSING [.str "send", .str "take", .str "trysend", .str "trytake", .str "reply"]
  t_WORDS_OF_A_MESSAGE : Tok
  g_WORDS_OF_A_MESSAGE : mg "WORDS_OF_A_MESSAGE" = some (.int 3 t_WORDS_OF_A_MESSAGE)
  t_WORDS_OF_A_PAGE : Tok
  g_WORDS_OF_A_PAGE : mg "WORDS_OF_A_PAGE" = some (.int 8 t_WORDS_OF_A_PAGE)
  n_any : mg "any" = none
  n_bool : mg "bool" = none
  n_int : mg "int" = none
  n_isinstance : mg "isinstance" = none
  n_len : mg "len" = none
  n_range : mg "range" = none
  n_sum : mg "sum" = none
  n_tuple : mg "tuple" = none

/-! the forward steps as a tactic (walk_at "..": the library's own syntax) -/
local macro_rules | `(tactic| walk_at "lw at") => `(tactic| first | assumption | (refine' Ex.at_ ?zze ?zzh; (case zze => assumption); (case zzh => walk_at "lw at")))
local macro_rules | `(tactic| walk_at "lw iv") => `(tactic| first | assumption | exact Ex.iv (by assumption))
local macro_rules | `(tactic| walk_at "lw ex") => `(tactic| first | assumption | exact Ex.refl (by walk_at "lw iv") | (refine' Ex.trans ?zza ?zzb; (case zzb => assumption); (case zza => walk_at "lw ex")))
local macro_rules | `(tactic| walk_at "lw ix") => `(tactic| first | rfl | exact at_0 | exact ix_0 (by simp; done))
local macro_rules | `(tactic| walk_at "lw side") => `(tactic| first | rfl | assumption | decide | omega | decide +kernel | (refine And.intro ?_ ?_ <;> decide +kernel) | exact ⟨by omega, by omega⟩ | exact Or.inr (by decide) | exact Or.inl (by decide) | exact Or.inl ⟨by omega, by omega⟩ | exact Nat.le_trans (cut_len _ _ _) (by first | omega | (simp only [List.length_cons, List.length_nil]; omega)) | (refine Nat.le_trans (Nat.add_le_add (cut_len _ _ _) (cut_len _ _ _)) ?_; decide) | (simp; done) | (simp only [List.length_cons, List.length_nil, List.length_append, List.length_map]; omega) | (simp only [List.length_cons, List.length_nil, List.length_append]; omega) | (simp; omega) | (simp at *; omega))
local macro_rules | `(tactic| walk_at "lw rd") => `(tactic| with_reducible first
  | refine rd_seq ?_ | refine rd_asg ?_ | refine rd_asgG ?_ | refine rd_drop ?_ | refine rd_ret ?_ | refine rd_retN ?_ | refine rd_ifS ?_ | refine rd_c ?_ | refine rd_op ?_ | refine rd_un ?_
  | (refine' rd_var ?zzr ?_; (case zzr => with_unfolding_all rfl)) | refine rd_I0 ?_ | (refine' rd_I ?zzr ?_; (case zzr => with_unfolding_all walk_at "lw side"))
  | refine rd_U ?_ | (refine' rd_eq ?zzr ?_; (case zzr => with_unfolding_all rfl)) | (refine' rd_ne ?zzr ?_; (case zzr => with_unfolding_all rfl)) | refine rd_isN ?_ | refine rd_notN ?_
  | refine rd_test ?_ | refine rd_B ?_ | refine rd_bl ?_ | refine rd_blV ?_ | refine rd_and ?_ | refine rd_or ?_ | refine rd_not ?_ | refine rd_andV ?_ | refine rd_orV ?_ | refine rd_notV ?_ | refine rd_ifE ?_
  | refine rd_nil ?_ | refine rd_cons ?_ | refine rd_call ?_ | refine rd_cb ?_ | refine rd_tupU ?_ | refine rd_lstU ?_
  | (refine' rd_new (by with_unfolding_all walk_at "lw iv") (by with_unfolding_all walk_at "lw side") ?_; intro _ _ _ _ _) | (refine' rd_new1 (by with_unfolding_all walk_at "lw iv") ?_; intro _ _ _ _ _)
  | (refine' rd_ixL ?zzh ?zzr ?_; (case zzh => with_unfolding_all walk_at "lw at"); (case zzr => with_unfolding_all walk_at "lw ix")) | (refine' rd_ixT ?zzh ?zzr ?_; (case zzh => with_unfolding_all walk_at "lw at"); (case zzr => with_unfolding_all walk_at "lw ix"))
  | (refine' rd_len ?zzh ?_; (case zzh => with_unfolding_all walk_at "lw at")) | (refine' rd_lenT ?zzh ?_; (case zzh => with_unfolding_all walk_at "lw at"))
  | refine rd_int ?_ | refine rd_intB ?_ | refine rd_abs ?_ | refine rd_max2 ?_ | refine rd_min2 ?_
  | (refine' rd_lens ?zzr ?_; (case zzr => with_unfolding_all walk_at "lw side")) | (refine' rd_adds ?zzr ?_; (case zzr => with_unfolding_all walk_at "lw side"))
  | refine rd_nopart ?_ | refine rd_part ?_ | refine rd_partI ?_ | refine rd_sl ?_
  | (refine' rd_slL (by with_unfolding_all walk_at "lw iv") ?zzh ?_; (case zzh => with_unfolding_all walk_at "lw at"); intro _ _ _ _ _)
  | (refine' rd_list (by with_unfolding_all walk_at "lw iv") ?zzh ?_; (case zzh => with_unfolding_all walk_at "lw at"); intro _ _ _ _ _)
  | (refine' rd_listT (by with_unfolding_all walk_at "lw iv") ?zzh ?_; (case zzh => with_unfolding_all walk_at "lw at"); intro _ _ _ _ _)
  | (refine' rd_tuple (by with_unfolding_all walk_at "lw iv") ?zzh ?_; (case zzh => with_unfolding_all walk_at "lw at"); intro _ _ _ _ _)
  | (refine' rd_cat (by with_unfolding_all walk_at "lw iv") ?zzh ?zzk ?zzr ?_; (case zzh => with_unfolding_all walk_at "lw at"); (case zzk => with_unfolding_all walk_at "lw at"); (case zzr => with_unfolding_all walk_at "lw side"); intro _ _ _ _ _)
  | refine rd_lc ?_ | refine rd_lcT ?_ | (refine' rd_any ?zzh ?_; (case zzh => with_unfolding_all walk_at "lw at")) | (refine' rd_sum ?zzh ?_; (case zzh => with_unfolding_all walk_at "lw at"))
  | (refine' rd_inK ?zzh ?zzf ?zzg ?_; (case zzh => with_unfolding_all walk_at "lw kt"); (case zzf => with_unfolding_all rfl); (case zzg => with_unfolding_all rfl))
  | (refine' rd_niK ?zzh ?zzf ?zzg ?_; (case zzh => with_unfolding_all walk_at "lw kt"); (case zzf => with_unfolding_all rfl); (case zzg => with_unfolding_all rfl))
  | (refine' rd_inT ?zzh ?zzf ?zzg ?_; (case zzh => with_unfolding_all walk_at "lw at"); (case zzf => with_unfolding_all rfl); (case zzg => with_unfolding_all rfl))
  | (refine' rd_niT ?zzh ?zzf ?zzg ?_; (case zzh => with_unfolding_all walk_at "lw at"); (case zzf => with_unfolding_all rfl); (case zzg => with_unfolding_all rfl))
  | (refine' rd_inL ?zzh ?zzf ?zzg ?_; (case zzh => with_unfolding_all walk_at "lw at"); (case zzf => with_unfolding_all rfl); (case zzg => with_unfolding_all rfl))
  | (refine' rd_niL ?zzh ?zzf ?zzg ?_; (case zzh => with_unfolding_all walk_at "lw at"); (case zzf => with_unfolding_all rfl); (case zzg => with_unfolding_all rfl))
  | (refine' rd_slTn (by with_unfolding_all walk_at "lw iv") ?zzh ?zzn ?_; (case zzh => with_unfolding_all walk_at "lw at"); (case zzn => with_unfolding_all (intro zzi; have zzq := zzi.1; simp [HT.sIx] at zzq)); intro _ _ _ _ _)
  | (refine' rd_gtup ?zzh ?zze ?_; (case zzh => with_unfolding_all walk_at "lw at"); (case zze => with_unfolding_all rfl)) | refine rd_gcons ?_ | refine rd_gnil ?_ | (refine' rd_gconsE ?zze ?_; (case zze => with_unfolding_all rfl)) | (refine' rd_gnilE ?zze ?_; (case zze => with_unfolding_all rfl)) | (refine' rd_isiY ?zzt ?zze ?_; (case zzt => with_unfolding_all walk_at "lw ty"); (case zze => with_unfolding_all decide +kernel)) | (refine' rd_isiN ?zzt ?zze ?_; (case zzt => with_unfolding_all walk_at "lw ty"); (case zze => with_unfolding_all decide +kernel)) | refine rd_gname ?_
  | refine rd_forL ?_ | refine rd_forR1 ?_ | refine rd_forR2 ?_ | (refine' rd_forR1a ?zza ?zzb ?_; (case zza => with_unfolding_all walk_at "lw side"); (case zzb => with_unfolding_all walk_at "lw side")) | (refine' rd_forLa ?zzh ?_; (case zzh => with_unfolding_all walk_at "lw at"))
  | (refine' rd_ixM ?zzh ?zzr ?zzs ?_; (case zzh => with_unfolding_all walk_at "lw at"); (case zzr => with_unfolding_all omega); (case zzs => with_unfolding_all walk_at "lw side"); intro _ _)
  | refine rd_gsub ?_ | (refine' rd_ixLr ?zzh ?zzr ?_; (case zzh => assumption); (case zzr => with_unfolding_all walk_at "lw ix")) | (refine' rd_setr ?zzh ?zzr ?_; (case zzh => assumption); (case zzr => with_unfolding_all walk_at "lw ix"); intro _ _ _) | (refine' rd_lenr ?zzh ?_; (case zzh => assumption))
  | (refine' rd_append ?zze ?zzf ?zzh ?zzr ?_; (case zzf => assumption); (case zze => with_unfolding_all walk_at "lw ex"); (case zzh => with_unfolding_all walk_at "lw at"); (case zzr => with_unfolding_all walk_at "lw side"); intro _ _ _ _)
  | refine rd_bm ?_ | (refine' rd_tyL ?zzh ?_; (case zzh => with_unfolding_all walk_at "lw at")) | refine rd_next ?_ | refine rd_brk ?_ | refine rd_cont ?_)
local macro_rules | `(tactic| walk_at "lw go") => `(tactic| repeat walk_at "lw rd")
local macro_rules | `(tactic| walk_at "lw ai") => `(tactic| with_reducible first | assumption | exact AI.one _ | exact AI.nil | exact AI.of _ | exact AI.cut (by walk_at "lw ai") | exact AI.app (by walk_at "lw ai") (by walk_at "lw ai"))
local macro_rules | `(tactic| walk_at "lw as") => `(tactic| with_reducible first | assumption | exact AS.nil | exact AS.of _ | (refine' AS.cons ?zzx; (case zzx => walk_at "lw as")) | (refine' AS.cut ?zzx; (case zzx => walk_at "lw as")) | (refine' AS.app ?zzx ?zzy; (case zzx => walk_at "lw as"); (case zzy => walk_at "lw as")))
local macro_rules | `(tactic| walk_at "lw ty") => `(tactic| first | exact .base (.int _) | exact .base (.str _) | exact .base (.bl _) | exact .base .non | exact .base (.lst (At.raw (by walk_at "lw at"))) | exact .base (.tup (At.raw (by walk_at "lw at"))))
local macro_rules | `(tactic| walk_at "lw kt") => `(tactic| fail)
local macro_rules | `(tactic| walk_at "lw if") => `(tactic| with_reducible first
  | refine iteNT ?_ | refine iteNF ?_ | refine iteT ?_ | refine iteF ?_
  | (refine' ifS_yes ?zzr ?_; (case zzr => with_unfolding_all first | assumption | decide +kernel)) | (refine' ifS_no ?zzr ?_; (case zzr => with_unfolding_all first | assumption | decide +kernel))
  | (refine' ifSn_no ?zzr ?_; (case zzr => with_unfolding_all first | assumption | decide +kernel)) | (refine' ifSn_yes ?zzr ?_; (case zzr => with_unfolding_all first | assumption | decide +kernel))
  | (refine' ifI_yes ?zzr ?_; (case zzr => with_unfolding_all omega)) | (refine' ifI_no ?zzr ?_; (case zzr => with_unfolding_all omega))
  | (refine' ifIn_no ?zzr ?_; (case zzr => with_unfolding_all omega)) | (refine' ifIn_yes ?zzr ?_; (case zzr => with_unfolding_all omega))
  | (refine' ifS ?_ ?_ <;> intro zze <;> try subst zze) | (refine' ifSn ?_ ?_ <;> intro zze <;> try subst zze) | (refine' ifI ?_ ?_ <;> intro zze <;> try subst zze) | (refine' ifIn ?_ ?_ <;> intro zze <;> try subst zze)
  | (refine' ifD_yes ?zzr ?_; (case zzr => with_unfolding_all omega)) | (refine' ifD_no ?zzr ?_; (case zzr => with_unfolding_all omega))
  | (refine' ifD ?_ ?_ <;> intro zze) | (refine' ifN ?_ ?_ <;> intro zze) | (refine' iteT ?_) | (refine' iteF ?_) | (refine' ifB ?_ ?_ <;> intro zze) | (refine' ifNB ?_ ?_ <;> intro zze))
local macro_rules | `(tactic| walk_at "lw all") => `(tactic| repeat' (first | walk_at "lw rd" | walk_at "lw if"))

local macro_rules | `(tactic| walk_at "lw effs") => `(tactic| first | assumption | exact Effs.nil | (refine' Effs.mono ?zze ?zzh; (case zze => assumption); (case zzh => walk_at "lw effs")))
local macro_rules | `(tactic| walk_at "lw rd") => `(tactic| (with_reducible refine' rd_eq (AnsOk.scal ?zzr) ?_; (case zzr => with_unfolding_all assumption)))
local macro_rules | `(tactic| walk_at "lw rd") => `(tactic| (with_reducible refine' cl_has_passed_on ?zza ?zzb ?zzc ?zzd ?zze ?_; (case zza => with_unfolding_all walk_at "lw iv"); (case zzb => with_unfolding_all walk_at "lw at"); (case zzc => with_unfolding_all assumption); (case zzd => with_unfolding_all walk_at "lw effs"); (case zze => with_unfolding_all assumption); intro _ _))
local macro_rules | `(tactic| walk_at "lw rd") => `(tactic| with_reducible first
  | (refine' cl_law_chosen ?zza ?zzb ?zzc ?_; (case zza => with_unfolding_all walk_at "lw side"); (case zzb => with_unfolding_all walk_at "lw side"); (case zzc => with_unfolding_all walk_at "lw iv"); intro _ _ _ _ _ _ _)
  | (refine' cl_law_gone ?zzc ?_; (case zzc => with_unfolding_all walk_at "lw iv"); intro _ _ _ _ _ _ _ _ zzz) | (refine' cl_law_dropped ?zzc ?_; (case zzc => with_unfolding_all walk_at "lw iv"); intro _ _ _ _ _ _ _ _ zzz)
  | (refine' cl_law_made ?zzc ?_; (case zzc => with_unfolding_all walk_at "lw iv"); intro _ _ _ _ _ _ _ _ zzz; subst zzz) | (refine' cl_law_woken ?zzc ?_; (case zzc => with_unfolding_all walk_at "lw iv"); intro _ _ _ _ _ _ _ _ zzz; subst zzz)
  | (refine' cl_law_carried ?zzc ?_; (case zzc => with_unfolding_all walk_at "lw iv"); intro _ _ _ _ _ _ _ _ zzz)
  | (refine' cl_law_message ?zzc ?zzd ?_; (case zzc => with_unfolding_all walk_at "lw iv"); (case zzd => with_unfolding_all assumption); intro _ _ _ _ _ _ _ _ _ _ _ _ _ _)
  | (refine' cl_law_deed ?zzc ?_; (case zzc => with_unfolding_all walk_at "lw iv"); intro _ _ _ _ _ _ _ _ _ _ _ _ _ _)
  | (refine' cl_work_deed ?zzc ?zzd ?zze ?zzf ?zzg ?zzh ?_; (case zzc => with_unfolding_all walk_at "lw iv"); (case zzd => with_unfolding_all walk_at "lw at"); (case zze => with_unfolding_all walk_at "lw at"); (case zzf => with_unfolding_all assumption); (case zzg => with_unfolding_all walk_at "lw effs"); (case zzh => with_unfolding_all omega); intro _ _)
  | (refine' cl_work_other ?zzc ?zzd ?zze ?_; (case zzc => with_unfolding_all walk_at "lw iv"); (case zzd => with_unfolding_all walk_at "lw at"); (case zze => with_unfolding_all assumption); intro _ _)
  | (refine' cl_law_other ?zzc ?_; (case zzc => with_unfolding_all walk_at "lw iv"); intro _ _ _ _ _ _ _) | refine cl_law_is_integer ?_)
local macro_rules | `(tactic| walk_at "lw rd") => `(tactic| (with_reducible refine' cl_law_draw ?zza ?zzb ?zzc ?_; (case zza => with_unfolding_all walk_at "lw side"); (case zzb => with_unfolding_all walk_at "lw side"); (case zzc => with_unfolding_all walk_at "lw iv"); intro _ _ _ _ _))
local macro_rules | `(tactic| walk_at "lw kt") => `(tactic| exact Tx.q_PASSING (by assumption) _)
local macro_rules | `(tactic| walk_at "lw ans") => `(tactic| first | assumption | exact AnsOk.int _ | exact AnsOk.non)
local macro_rules | `(tactic| walk_at "lw more") => `(tactic| first | assumption | exact (more_claim _).symm | exact (more_pl _ (by decide +kernel) (by decide +kernel) (by decide +kernel)).symm | exact more_call.symm | exact (more_one (by decide) (fun _ => rfl)).symm | exact (more_no _ (by first | assumption | decide +kernel) (by first | assumption | decide +kernel)).symm)
local macro_rules | `(tactic| walk_at "lw tl") => `(tactic| (refine' (by assumption : TL _ _ _ _) _ _ _ _ _ _ _ ?zza ?zzb ?zzc ?zzd ?zze ?zzf ?zzg; (case zza => walk_at "lw ex"); (case zzb => walk_at "lw at"); (case zzc => walk_at "lw at"); (case zzd => walk_at "lw effs1"); (case zze => (first | assumption | exact Nat.le_trans (cut_len _ _ _) (by assumption) | (simp; done) | (simp; omega))); (case zzf => walk_at "lw ans"); (case zzg => walk_at "lw more")))
local macro_rules | `(tactic| walk_at "lw effs1") => `(tactic| first | walk_at "lw effs" | (refine' Effs.cut ?zzx ?zzy; (case zzx => walk_at "lw effs"); (case zzy => omega)) | (refine' Effs.cons ⟨_, _, rfl, ?zzx⟩ Effs.nil; (case zzx => walk_at "lw at")))
section
variable {P : Program} {w : World} {K : PySem.W.Frag} {mg : Str → Option Value} {base : Heap}

theorem ok_law_draw (T : Tx K mg) : FnOk P w K mg base CX0 1 T.f_law_draw T.fd_law_draw ["box", "many"] sp_law_draw := by
  refine T.F_law_draw.ok sc_law_draw (fun vs H Q E h => ?_) (fun cdv A outer s H vs Q E hr h => ?_)
  · obtain ⟨b, many, rfl, m0, m1, ⟨g, s, gs, ss, m, t, B⟩, k⟩ := h
    rfl
  · obtain ⟨b, many, rfl, m0, m1, ⟨g, s, gs, ss, m, t, B⟩, k⟩ := h
    refine ⟨_, (pss_cons (ps_if (pt_cmpR op_gt (pe_callB (r := rLen K) c_len (by rfl) T.n_len PySem.boot_len (pa_cons (pe_ix (r := rIxL K) ix_list (pv 0) pe_int (fun _ _ => rfl)) pa_nil)) pe_int (nomark _))
        (pss_cons (ps_set (i := 2) sc_law_draw.nd rfl (by first | exact Or.inl rfl | exact Or.inr rfl) (pe_ix (r := rIxL K) ix_list (pe_ix (r := rIxL K) ix_list (pv 0) pe_int (fun _ _ => rfl)) pe_int (fun _ _ => rfl)))
        (pss_cons (ps_asg (pe_op op_fdiv (pv 2) (pv 1)) (pg_sub (pe_ix (r := rIxL K) ix_list (pv 0) pe_int (fun _ _ => rfl)) pe_int set_list))
        (pss_cons (ps_if (pt_cmpR op_lt (pv 2) (pv 1) (nomark _))
          (pss_one (ps_asg (pe_slice (r := rSlL K) sl_list (pe_ix (r := rIxL K) ix_list (pv 0) pe_int (fun _ _ => rfl)) (po_some pe_int) po_none) (pg_sub (pv 0) pe_int set_list)))
          pss_nil)
        (pss_one (ps_ret (pe_op op_mod (pe_callTy c_int (by rfl) T.n_int (by decide +kernel) (pa_cons (pv 2) pa_nil)) (pv 1)))))))
        pss_nil)
      (pss_cons (ps_asg (pe_op op_add (pe_ix (r := rIxL K) ix_list (pv 0) pe_int (fun _ _ => rfl)) pe_int) (pg_sub (pv 0) pe_int set_list))
      (pss_cons (ps_set (i := 3) sc_law_draw.nd rfl (by first | exact Or.inl rfl | exact Or.inr rfl) (pe_ix (r := rIxL K) ix_list (pv 0) pe_int (fun _ _ => rfl)))
      (pss_cons (ps_set (i := 4) sc_law_draw.nd rfl (by first | exact Or.inl rfl | exact Or.inr rfl) (pe_ix (r := rIxL K) ix_list (pe_ix (r := rIxL K) ix_list (pv 0) pe_int (fun _ _ => rfl)) (pe_op op_mod (pe_callTy c_int (by rfl) T.n_int (by decide +kernel) (pa_cons (pv 3) pa_nil)) (pe_callB (r := rLen K) c_len (by rfl) T.n_len PySem.boot_len (pa_cons (pe_ix (r := rIxL K) ix_list (pv 0) pe_int (fun _ _ => rfl)) pa_nil))) (fun _ _ => rfl)))
      (pss_cons (ps_set (i := 5) sc_law_draw.nd rfl (by first | exact Or.inl rfl | exact Or.inr rfl) (pe_op op_mod (pe_callTy c_int (by rfl) T.n_int (by decide +kernel) (pa_cons (pe_op op_add (pe_op op_add (pe_op op_add (pe_op op_mul (pv 4) pe_int) (pe_op op_mul (pe_ix (r := rIxL K) ix_list (pv 0) pe_int (fun _ _ => rfl)) pe_int)) (pe_op op_mul (pv 3) pe_int)) pe_int) pa_nil)) pe_int))
      (pss_cons (ps_set (i := 5) sc_law_draw.nd rfl (by first | exact Or.inl rfl | exact Or.inr rfl) (pe_op op_mod (pe_callTy c_int (by rfl) T.n_int (by decide +kernel) (pa_cons (pe_op op_add (pe_op op_add (pe_op op_mul (pv 5) (pv 5)) (pe_op op_mul (pv 3) pe_int)) (pe_ix (r := rIxL K) ix_list (pv 0) pe_int (fun _ _ => rfl))) pa_nil)) pe_int))
      (pss_cons (ps_set (i := 5) sc_law_draw.nd rfl (by first | exact Or.inl rfl | exact Or.inr rfl) (pe_op op_mod (pe_callTy c_int (by rfl) T.n_int (by decide +kernel) (pa_cons (pe_op op_mul (pv 5) pe_int) pa_nil)) pe_int))
      (pss_one (ps_ret (pe_op op_mod (pe_callTy c_int (by rfl) T.n_int (by decide +kernel) (pa_cons (pe_op op_fdiv (pv 5) pe_int) pa_nil)) (pv 1))))))))))), ?_⟩
    obtain ⟨hb, hg, hs, bg, bs, gs', ne⟩ := id B
    walk_at "lw go"
    refine ifD (fun h => ?_) (fun h => ?_)
    · cases gs with
      | nil => simp at h
      | cons x r =>
        walk_at "lw go"
        rename_i H1 h1 h2
        have hb1 := (h2 b bg).trans hb
        have hs1 := (h2 s gs'.symm).trans hs
        refine ifD (fun c => ?_) (fun c => ?_)
        · walk_at "lw go"
          refine rd_slLr (xs := (((x / many) :: r).map V.int)) h1 fun p H2 hp hp2 h3 => ?_
          have np : p ≠ g := fun e => by rw [e, h1] at hp; cases hp
          have nb : p ≠ b := fun e => by rw [e, hb1] at hp; cases hp
          have ns : p ≠ s := fun e => by rw [e, hs1] at hp; cases hp
          have hb2 := (h3 b nb.symm).trans hb1
          have hs2 := (h3 s ns.symm).trans hs1
          have hg2 := (h3 g np.symm).trans h1
          walk_at "lw go"
          rename_i H3 h4 h5
          have B3 : BoxIs H3 b p s r ss m t := ⟨h4, by
            rw [h5 p nb, hp2]
            exact congrArg (fun z => some (HO.lst z)) (cut1 _ _), (h5 s bs.symm).trans hs2, nb.symm, bs, ns, ne⟩
          have hp0 : H p = none := by rw [h2 p np] at hp; exact hp
          refine k _ _ (ex_box B B3 (.inr hp0) (fun a o e1 e2 e3 => ?_) ⟨_, (h5 g bg.symm).trans hg2⟩) (Int.emod_nonneg _ (by omega)) (Int.emod_lt_of_pos _ m0)
          have e4 : a ≠ p := fun e => by rw [e, hp0] at e3; cases e3
          rw [h5 a e1, h3 a e4, h2 a e2]; exact e3
        · walk_at "lw go"
          have B3 : BoxIs H1 b g s (x / many :: r) ss m t := ⟨hb1, h1, hs1, bg, bs, gs', ne⟩
          exact k _ _ (ex_box B B3 (.inl rfl) (fun a o e1 e2 e3 => (h2 a e2).trans e3) ⟨_, h1⟩) (Int.emod_nonneg _ (by omega)) (Int.emod_lt_of_pos _ m0)
    · walk_at "lw go"
      rename_i H1 h1 h2
      have hs1 := (h2 s bs.symm).trans hs
      have hg1 := (h2 g bg.symm).trans hg
      walk_at "lw go"
      have hl : ((ss.map V.int).length : Int) = (ss.length : Int) := by rw [List.length_map]
      have z0 : 0 ≤ (t + 1) % ((ss.map V.int).length : Int) := Int.emod_nonneg _ (by rw [hl]; omega)
      have z1 : (t + 1) % ((ss.map V.int).length : Int) < ((ss.map V.int).length : Int) := Int.emod_lt_of_pos _ (by rw [hl]; omega)
      have z2 : ((t + 1) % ((ss.map V.int).length : Int)).toNat < ss.length := by omega
      refine rd_ixLr hs1 (at_in z0 (v := V.int (ss[((t + 1) % ((ss.map V.int).length : Int)).toNat])) (by rw [List.getElem?_map, List.getElem?_eq_getElem z2]; rfl)) ?_
      generalize ss[((t + 1) % ((ss.map V.int).length : Int)).toNat] = sd
      walk_at "lw go"
      have B3 : BoxIs H1 b g s gs ss m (t + 1) := ⟨h1, hg1, hs1, bg, bs, gs', ne⟩
      exact k _ _ (ex_box B B3 (.inl rfl) (fun a o e1 _ e3 => (h2 a e1).trans e3) ⟨_, hg1⟩) (Int.emod_nonneg _ (by omega)) (Int.emod_lt_of_pos _ m0)

theorem ok_has_passed_on (T : Tx K mg) : FnOk P w K mg base CX0 1 T.f_has_passed_on T.fd_has_passed_on ["name", "answer", "effects"] sp_has_passed_on := by
  refine T.F_has_passed_on.ok sc_has_passed_on (fun vs H Q E h => ?_) (fun cdv A outer s H vs Q E hr h => ?_)
  · obtain ⟨W, name, ans, e, es, hs, rfl, iv, he, ha, hE, hz, k⟩ := h
    rfl
  · obtain ⟨W, name, ans, e, es, hs, rfl, iv, he, ha, hE, hz, k⟩ := h
    refine ⟨_, (pss_cons (ps_if (pt_cmpR op_eq (pv 0) pe_str (nomark _))
        (pss_one (ps_ret (pe_callB (r := rAny K) (cr_any rfl) (by rfl) T.n_any (by decide +kernel) (pa_cons (pe_lc (own := [("effect", 3)]) rfl sc_has_passed_on.nd (pi_tup (pv 2)) (blkOk_by (own := [("effect", 3)]) (N := N_has_passed_on) (sc := (defScope s_has_passed_on)) (by decide +kernel)) (fun _ _ _ _ _ => (pg_name (i := 3) sc_has_passed_on.nd rfl (by first | exact Or.inl rfl | exact Or.inr rfl))) (fun _ _ _ _ _ => pts_nil) (fun _ _ _ _ _ => (pe_cmpR op_eq (pe_ix (r := rIxT K) ix_tup (pv 3) pe_int (fun _ _ => rfl)) pe_str (nomark _)))) pa_nil))))
        pss_nil)
      (pss_one (ps_ret (pe_and (pe_cmpR (r := rIn K false) op_in_seq (pv 0) (pe_glob (v := .ref T.a_PASSING) rfl T.g_PASSING rfl) (by rfl)) (pe_one (pe_cmpR op_eq (pv 1) pe_int (nomark _))))))), ?_⟩
    walk_at "lw all"
    · refine rd_lcT1 (W := W) (fun x y _ => ∀ h, Eff W H h x → y = .bl (decide (h = "woken"))) iv he hz (fun _ _ _ _ _ r => r) (fun n x D acc H' QV hx hD hDa e1 q => ?_) (fun D H2 ys hD e2 hDl h2 => ?_)
      · obtain ⟨h, t, vs, rfl, ht⟩ := hE.get hx
        walk_at "lw all"
        refine q _ _ (Ex.refl e1.iv) fun h' he' => ?_
        rw [dVS, Eff.one he' ⟨t, vs, rfl, ht⟩]
      · have z := effs_bools (f := fun h => decide (h = "woken")) hE h2
        subst z
        walk_at "lw all"
        have ep : passed "call" ans hs = (hs.map fun h : Str => decide (h = "woken")).any id := by
          unfold passed
          rw [if_pos rfl, List.any_map]
          rfl
        rw [← ep]
        exact k _ e2
    · rename_i nc hin
      have ep : passed name ans hs = decide (ans = .int 0) := by
        unfold passed PL
        rw [if_neg nc, hin, Bool.true_and]
      show Q _ _
      rw [← ep]
      exact k _ (Ex.refl iv)
    · rename_i nc hin
      have ep : passed name ans hs = false := by
        unfold passed PL
        rw [if_neg nc, hin, Bool.false_and]
      show Q _ _
      rw [← ep]
      exact k _ (Ex.refl iv)

theorem ok_work (T : Tx K mg) : FnOk P w K mg base CX0 2 T.f_work T.fd_work ["record"] sp_work := by
  refine T.F_work.ok sc_work (fun vs H Q E h => ?_) (fun cdv A outer s H vs Q E hr h => ?_)
  · obtain ⟨W, r, rfl, iv, h⟩ := h
    rfl
  · obtain ⟨W, r, rfl, iv, h⟩ := h
    refine ⟨_, (pss_cons (ps_if (pt_cmpR op_ne (pe_ix (r := rIxT K) ix_tup (pv 0) pe_int (fun _ _ => rfl)) pe_str (nomark _))
        (pss_one (ps_ret pe_int))
        pss_nil)
      (pss_cons (ps_asg (pe_slice (r := rSlT K) sl_tup (pv 0) (po_some pe_int) po_none) (pg_tup (by rfl) (pgs_cons (pg_name (i := 1) sc_work.nd rfl (by first | exact Or.inl rfl | exact Or.inr rfl)) (pgs_cons (pg_name (i := 2) sc_work.nd rfl (by first | exact Or.inl rfl | exact Or.inr rfl)) (pgs_cons (pg_name (i := 3) sc_work.nd rfl (by first | exact Or.inl rfl | exact Or.inr rfl)) pgs_nil)))))
      (pss_cons (ps_set (i := 4) sc_work.nd rfl (by first | exact Or.inl rfl | exact Or.inr rfl) (pe_op op_add pe_int (pe_callB (r := rLen K) c_len (by rfl) T.n_len PySem.boot_len (pa_cons (pv 3) pa_nil))))
      (pss_cons (ps_if (PW.pt (pw_and (pt_cmpR op_eq (pv 1) pe_str (nomark _)) (pw_and1 (pt_cmpR op_eq (pv 2) pe_int (nomark _)))))
        (pss_one (ps_set (i := 4) sc_work.nd rfl (by first | exact Or.inl rfl | exact Or.inr rfl) (pe_op op_add (pv 4) (pe_glob (v := .int 8) rfl T.g_WORDS_OF_A_PAGE ⟨_, rfl⟩))))
        pss_nil)
      (pss_cons (ps_if (pt_val (pe_call (ok_has_passed_on T) hr (by rfl) T.g_has_passed_on T.F_has_passed_on.kp T.b_has_passed_on .nil pass0 (pa_cons (pv 1) (pa_cons (pv 2) (pa_cons (pv 3) pa_nil)))))
        (pss_one (ps_set (i := 4) sc_work.nd rfl (by first | exact Or.inl rfl | exact Or.inr rfl) (pe_op op_add (pv 4) (pe_glob (v := .int 3) rfl T.g_WORDS_OF_A_MESSAGE ⟨_, rfl⟩))))
        pss_nil)
      (pss_one (ps_ret (pv 4)))))))), ?_⟩
    rcases h with ⟨p, name, ans, e, es, hs, hr', he, ha, hE, hz, k⟩ | ⟨tag, rest, hr', nt, k⟩
    · walk_at "lw all"
      all_goals (refine cast_int (k _ (by walk_at "lw ex")) ?_; unfold more; simp_all; try omega)
    · walk_at "lw all"
      all_goals exact k _ (by walk_at "lw ex")

theorem ok_law_is_integer (T : Tx K mg) : FnOk P w K mg base CX0 1 T.f_law_is_integer T.fd_law_is_integer ["told"] sp_law_is_integer := by
  refine T.F_law_is_integer.ok sc_law_is_integer (fun vs H Q E h => ?_) (fun cdv A outer s H vs Q E hr h => ?_)
  · obtain ⟨i, rfl, k⟩ := h
    rfl
  · obtain ⟨i, rfl, k⟩ := h
    refine ⟨_, (pss_one (ps_ret (pe_and (pe_callB (r := rIsi K) call_isi (by rfl) T.n_isinstance (by decide +kernel) (pa_cons (pv 0) (pa_cons (pe_bltn (v := .ty "int") rfl T.n_int (by decide +kernel) rfl) pa_nil))) (pe_one (pe_not (pe_callB (r := rIsi K) call_isi (by rfl) T.n_isinstance (by decide +kernel) (pa_cons (pv 0) (pa_cons (pe_bltn (v := .ty "bool") rfl T.n_bool (by decide +kernel) rfl) pa_nil)))))))), ?_⟩
    walk_at "lw all"
    exact k

theorem ok_law_box (T : Tx K mg) : FnOk P w K mg base CX0 1 T.f_law_box T.fd_law_box ["script"] (sp_law_box K) := by
  refine T.F_law_box.ok sc_law_box (fun vs H Q E h => ?_) (fun cdv A outer s H vs Q E hr h => ?_)
  · obtain ⟨a, ns, rfl, ha, hn, k⟩ := h
    rfl
  · obtain ⟨a, ns, rfl, ha, hn, k⟩ := h
    refine ⟨_, (pss_cons (ps_setLc (i := 1) (own := [("cell", 4)]) rfl sc_law_box.nd rfl rfl (sw_true rfl rfl rfl (by decide +kernel)) (pi_list (pe_slice (r := rSlL K) sl_list (pv 0) po_none (po_some pe_int))) (blkOk_by (own := [("cell", 4)]) (N := N_law_box) (sc := (defScope s_law_box)) (by decide +kernel)) (fun _ _ _ _ _ => (pg_name (i := 4) sc_law_box.nd rfl (by first | exact Or.inl rfl | exact Or.inr rfl))) (fun _ _ _ _ _ => pts_nil) (fun _ _ _ _ _ => (pe_op op_mod (pe_callTy c_int (by rfl) T.n_int (by decide +kernel) (pa_cons (pv 4) pa_nil)) (pe_op op_powW (pe_op op_powW pe_int pe_int) pe_int))))
      (pss_cons (ps_setLc (i := 2) (own := [("cell", 4)]) rfl sc_law_box.nd rfl rfl (sw_true rfl rfl rfl (by decide +kernel)) (pi_list (pv 1)) (blkOk_by (own := [("cell", 4)]) (N := N_law_box) (sc := (defScope s_law_box)) (by decide +kernel)) (fun _ _ _ _ _ => (pg_name (i := 4) sc_law_box.nd rfl (by first | exact Or.inl rfl | exact Or.inr rfl))) (fun _ _ _ _ _ => (pts_one (pt_cmpR op_ge (pv 4) (pe_op op_powW pe_int pe_int) (nomark _)))) (fun _ _ _ _ _ => (pv 4)))
      (pss_cons (ps_set (i := 3) sc_law_box.nd rfl (by first | exact Or.inl rfl | exact Or.inr rfl) (pe_op op_cat (pe_lc (own := [("cell", 4)]) rfl sc_law_box.nd (pi_list (pv 1)) (blkOk_by (own := [("cell", 4)]) (N := N_law_box) (sc := (defScope s_law_box)) (by decide +kernel)) (fun _ _ _ _ _ => (pg_name (i := 4) sc_law_box.nd rfl (by first | exact Or.inl rfl | exact Or.inr rfl))) (fun _ _ _ _ _ => pts_nil) (fun _ _ _ _ _ => (pe_op op_mod (pe_callTy c_int (by rfl) T.n_int (by decide +kernel) (pa_cons (pv 4) pa_nil)) pe_int))) (pe_lst (pa_cons (pe_callB (r := rLen K) c_len (by rfl) T.n_len PySem.boot_len (pa_cons (pv 1) pa_nil)) pa_nil))))
      (pss_one (ps_ret (pe_lst (pa_cons (pv 2) (pa_cons (pv 3) (pa_cons (pe_op op_mod (pe_callTy c_int (by rfl) T.n_int (by decide +kernel) (pa_cons (pe_callB (r := rSum K) (cr_sum rfl) (by rfl) T.n_sum (by decide +kernel) (pa_cons (pv 3) pa_nil)) pa_nil)) pe_int) (pa_cons pe_int pa_nil)))))))))), ?_⟩
    have iv : W0.iv H := trivial
    walk_at "lw all"
    refine rd_slLs (W := W0) iv ha ?_
    intro p H1 hp e1 h1
    have ai : AI (cutV (ns.map V.int) none (some 63)) := (AI.of ns).cut
    have al : (cutV (ns.map V.int) none (some 63)).length ≤ 63 := Nat.le_trans (cut_len _ _ _) (by rw [List.length_map]; exact hn)
    walk_at "lw all"
    refine rd_lc1 (W := W0) (fun _ y _ => ∃ z : Int, y = .int z) (by walk_at "lw iv") h1 (by omega) (fun _ _ _ _ _ r => r) (fun n x D acc H' QV hx hD hDa e q => ?_) (fun C H2 ys hD e2 h2 hA => ?_)
    · obtain ⟨z, rfl⟩ := ai.get hx
      walk_at "lw all"
      exact q _ _ (Ex.refl e.iv) ⟨_, rfl⟩
    have ay := AI.of_all hA
    have ly := hA.length
    walk_at "lw all"
    refine rd_lcF (W := W0) (fun v => match v with | .int z => decide ((10 : Int) ^ Int.toNat 18 ≤ z) | _ => false) (fun _ y _ => ∃ z : Int, y = .int z) (by walk_at "lw iv") h2 (by omega) (fun _ _ _ _ _ r => r) (fun n x H' QB hx e q => ?_) (fun n x D acc H' QV hx hk hD hDa e q => ?_) (fun G H3 gs hG e3 h3 hB => ?_)
    · obtain ⟨z, rfl⟩ := ay.get hx
      walk_at "lw go"
      exact q _ (Ex.refl e.iv)
    · obtain ⟨z, rfl⟩ := ay.get hx
      walk_at "lw go"
      exact q _ _ (Ex.refl e.iv) ⟨_, rfl⟩
    obtain ⟨gs, rfl⟩ := (AI.of_all hB).ints
    walk_at "lw all"
    refine rd_lc1 (W := W0) (fun _ y _ => ∃ z : Int, y = .int z) (by walk_at "lw iv") (by walk_at "lw at") (by omega) (fun _ _ _ _ _ r => r) (fun n x D acc H' QV hx hD hDa e q => ?_) (fun S H4 ss hS e4 h4 hC => ?_)
    · obtain ⟨z, rfl⟩ := ay.get hx
      walk_at "lw go"
      exact q _ _ (Ex.refl e.iv) ⟨_, rfl⟩
    obtain ⟨ss, rfl⟩ := (AI.of_all hC).ints
    have l4 := hC.length
    walk_at "lw all"
    rename_i p5 H5 f5 e5 h5 p6 H6 f6 e6 h6
    have es : ss.map V.int ++ [V.int (ys.length : Int)] = (ss ++ [(ys.length : Int)]).map V.int := by rw [List.map_append]; rfl
    rw [es] at h6
    refine rd_sum h6 ?_
    walk_at "lw all"
    rename_i p7 H7 f7 e7 h7
    have hg7 : At W0 H7 G (.lst (gs.map V.int)) := by walk_at "lw at"
    have hs7 : At W0 H7 p6 (.lst ((ss ++ [(ys.length : Int)]).map V.int)) := by walk_at "lw at"
    have hg5 : At W0 H5 G (.lst (gs.map V.int)) := by walk_at "lw at"
    have hg6 : At W0 H6 G (.lst (gs.map V.int)) := by walk_at "lw at"
    exact k _ _ ⟨G, p6, gs, _, _, 0, ⟨h7.1, hg7.1, hs7.1, (hg6.ne_fresh f7).symm, (h6.ne_fresh f7).symm, hg5.ne_fresh f6, by rw [List.length_append]; exact Nat.succ_pos _⟩⟩

theorem ok_law_chosen (T : Tx K mg) : FnOk P w K mg base CX0 2 T.f_law_chosen T.fd_law_chosen ["box", "most"] sp_law_chosen := by
  refine T.F_law_chosen.ok sc_law_chosen (fun vs H Q E h => ?_) (fun cdv A outer s H vs Q E hr h => ?_)
  · obtain ⟨b, most, rfl, h1, h2, iv, k⟩ := h
    rfl
  · obtain ⟨b, most, rfl, h1, h2, iv, k⟩ := h
    refine ⟨_, (pss_cons (ps_set (i := 2) sc_law_chosen.nd rfl (by first | exact Or.inl rfl | exact Or.inr rfl) (pe_call (ok_law_draw T) hr (by rfl) T.g_law_draw T.F_law_draw.kp T.b_law_draw .nil pass0 (pa_cons (pv 0) (pa_cons pe_int pa_nil))))
      (pss_cons (ps_if (pt_cmpR op_eq (pe_call (ok_law_draw T) hr (by rfl) T.g_law_draw T.F_law_draw.kp T.b_law_draw .nil pass0 (pa_cons (pv 0) (pa_cons pe_int pa_nil))) pe_int (nomark _))
        (pss_one (ps_set (i := 2) sc_law_chosen.nd rfl (by first | exact Or.inl rfl | exact Or.inr rfl) (pe_call (ok_law_draw T) hr (by rfl) T.g_law_draw T.F_law_draw.kp T.b_law_draw .nil pass0 (pa_cons (pv 0) (pa_cons (pe_op op_add (pv 1) pe_int) pa_nil)))))
        pss_nil)
      (pss_cons (ps_set (i := 3) sc_law_chosen.nd rfl (by first | exact Or.inl rfl | exact Or.inr rfl) (pe_op op_add pe_int (pe_call (ok_law_draw T) hr (by rfl) T.g_law_draw T.F_law_draw.kp T.b_law_draw .nil pass0 (pa_cons (pv 0) (pa_cons pe_int pa_nil)))))
      (pss_cons (ps_set (i := 4) sc_law_chosen.nd rfl (by first | exact Or.inl rfl | exact Or.inr rfl) (pe_lst pa_nil))
      (pss_cons (ps_set (i := 5) sc_law_chosen.nd rfl (by first | exact Or.inl rfl | exact Or.inr rfl) (pe_call (ok_law_draw T) hr (by rfl) T.g_law_draw T.F_law_draw.kp T.b_law_draw .nil pass0 (pa_cons (pv 0) (pa_cons pe_int pa_nil))))
      (pss_cons (ps_for PassesOwn.never rfl (pi_range1 rfl T.n_range (pa_cons (pv 2) pa_nil)) (pg_name (i := 6) sc_law_chosen.nd rfl (by first | exact Or.inl rfl | exact Or.inr rfl))
        (pss_cons (ps_if (pt_cmpR op_lt (pv 5) (pv 1) (nomark _))
          (pss_one (ps_expr (pe_bm PySem.F.plainAttrs_list PySem.F.slot_list_append PySem.F.type_list_append mt_append (pv 4) (pa_cons (pv 5) pa_nil))))
          pss_nil)
        (pss_one (ps_set (i := 5) sc_law_chosen.nd rfl (by first | exact Or.inl rfl | exact Or.inr rfl) (pe_op op_add (pe_op op_add (pv 5) pe_int) (pe_call (ok_law_draw T) hr (by rfl) T.g_law_draw T.F_law_draw.kp T.b_law_draw .nil pass0 (pa_cons (pv 0) (pa_cons (pv 3) pa_nil))))))))
      (pss_one (ps_ret (pv 4))))))))), ?_⟩
    walk_at "lw all"
    all_goals
      rename_i g Hg eg g0 g1 c Hc fc ec hc num0 Hn en n0 n1
      refine for_r (fun i σ' H' => ∃ (mm num : Int) (xs : List V) (v : Option V), σ' = [some (.ref b), some (.int most), some (.int mm), some (.int (1 + g)), some (.ref c), some (.int num), v] ∧ Ex (WB b) Hg H' ∧ At (WB b) H' c (.lst xs) ∧ AI xs ∧ xs.length ≤ i)
        ⟨_, _, _, _, rfl, ec.trans en, en.at_ hc, AI.nil, Nat.le_refl _⟩ ?_ ?_
      · rintro i σ' H' hi ⟨mm, num, xs, v, rfl, e1, hc1, ai, hl⟩
        have hi2 : xs.length < 100000 := by omega
        walk_at "lw all"
        · exact ⟨_, _, _, _, rfl, by walk_at "lw ex", by walk_at "lw at", ai.app (AI.one _), by rw [List.length_append]; exact Nat.succ_le_succ hl⟩
        · exact ⟨_, _, _, _, rfl, by walk_at "lw ex", by walk_at "lw at", ai, by omega⟩
      · rintro σ' H' ⟨mm, num, xs, v, rfl, e1, hc1, ai, hl⟩
        walk_at "lw all"
        exact k _ _ _ (by walk_at "lw ex") hc1 ai (by omega)

theorem ok_law_gone (T : Tx K mg) : FnOk P w K mg base CX0 3 T.f_law_gone T.fd_law_gone ["box", "name"] sp_law_gone := by
  refine T.F_law_gone.ok sc_law_gone (fun vs H Q E h => ?_) (fun cdv A outer s H vs Q E hr h => ?_)
  · obtain ⟨b, name, rfl, iv, k⟩ := h
    rfl
  · obtain ⟨b, name, rfl, iv, k⟩ := h
    refine ⟨_, (pss_cons (ps_set (i := 2) sc_law_gone.nd rfl (by first | exact Or.inl rfl | exact Or.inr rfl) (pe_slice (r := rSlL K) sl_list (pe_call (ok_law_chosen T) hr (by rfl) T.g_law_chosen T.F_law_chosen.kp T.b_law_chosen .nil pass0 (pa_cons (pv 0) (pa_cons pe_int pa_nil))) po_none (po_some (pe_op op_add pe_int (pe_callTy c_int (by rfl) T.n_int (by decide +kernel) (pa_cons (pe_cmpR op_eq (pv 1) pe_str (nomark _)) pa_nil))))))
      (pss_cut (ps_if (PW.pt (pw_and (pt_cmpR op_eq (pe_callB (r := rLen K) c_len (by rfl) T.n_len PySem.boot_len (pa_cons (pv 2) pa_nil)) pe_int (nomark _)) (pw_and1 (pt_cmpR op_eq (pv 1) pe_str (nomark _)))))
        (pss_one (ps_set (i := 2) sc_law_gone.nd rfl (by first | exact Or.inl rfl | exact Or.inr rfl) (pe_lst (pa_cons (pe_call (ok_law_draw T) (hr.mono (by decide)) (by rfl) T.g_law_draw T.F_law_draw.kp T.b_law_draw .nil pass0 (pa_cons (pv 0) (pa_cons pe_int pa_nil))) pa_nil))))
        pss_nil)
      (pss_cons (ps_if (pt_cmpR op_eq (pe_callB (r := rLen K) c_len (by rfl) T.n_len PySem.boot_len (pa_cons (pv 2) pa_nil)) pe_int (nomark _))
        (pss_one (ps_ret (pe_lst pa_nil)))
        pss_nil)
      (pss_cons (ps_setLc (i := 3) (own := [("cell", 4)]) rfl sc_law_gone.nd rfl rfl (sw_true rfl rfl rfl (by decide +kernel)) (pi_list (pv 2)) (blkOk_by (own := [("cell", 4)]) (N := N_law_gone) (sc := (defScope s_law_gone)) (by decide +kernel)) (fun _ _ _ _ _ => (pg_name (i := 4) sc_law_gone.nd rfl (by first | exact Or.inl rfl | exact Or.inr rfl))) (fun _ _ _ _ _ => pts_nil) (fun _ _ _ _ _ => (pe_tup (pa_cons pe_str (pa_cons (pe_op op_fdiv (pv 4) pe_int) (pa_cons (pe_op op_mod (pe_callTy c_int (by rfl) T.n_int (by decide +kernel) (pa_cons (pv 4) pa_nil)) pe_int) pa_nil))))))
      (pss_cons (ps_if (PW.pt (pw_or (pt_cmpR op_eq (pv 1) pe_str (nomark _)) (pw_or1 (pt_cmpR op_eq (pe_call (ok_law_draw T) (hr.mono (by decide)) (by rfl) T.g_law_draw T.F_law_draw.kp T.b_law_draw .nil pass0 (pa_cons (pv 0) (pa_cons pe_int pa_nil))) pe_int (nomark _)))))
        (pss_one (ps_ret (pe_op op_cat (pv 3) (pe_lc (own := [("cell", 4)]) rfl sc_law_gone.nd (pi_list (pe_call (ok_law_chosen T) hr (by rfl) T.g_law_chosen T.F_law_chosen.kp T.b_law_chosen .nil pass0 (pa_cons (pv 0) (pa_cons pe_int pa_nil)))) (blkOk_by (own := [("cell", 4)]) (N := N_law_gone) (sc := (defScope s_law_gone)) (by decide +kernel)) (fun _ _ _ _ _ => (pg_name (i := 4) sc_law_gone.nd rfl (by first | exact Or.inl rfl | exact Or.inr rfl))) (fun _ _ _ _ _ => pts_nil) (fun _ _ _ _ _ => (pe_tup (pa_cons pe_str (pa_cons (pe_op op_fdiv (pv 4) pe_int) (pa_cons (pe_op op_mod (pe_callTy c_int (by rfl) T.n_int (by decide +kernel) (pa_cons (pv 4) pa_nil)) pe_int) pa_nil)))))))))
        pss_nil)
      (pss_one (ps_ret (pe_op op_cat (pv 3) (pe_lc (own := [("process", 5)]) rfl sc_law_gone.nd (pi_list (pe_slice (r := rSlL K) sl_list (pe_call (ok_law_chosen T) hr (by rfl) T.g_law_chosen T.F_law_chosen.kp T.b_law_chosen .nil pass0 (pa_cons (pv 0) (pa_cons pe_int pa_nil))) po_none (po_some pe_int))) (blkOk_by (own := [("process", 5)]) (N := N_law_gone) (sc := (defScope s_law_gone)) (by decide +kernel)) (fun _ _ _ _ _ => (pg_name (i := 5) sc_law_gone.nd rfl (by first | exact Or.inl rfl | exact Or.inr rfl))) (fun _ _ _ _ _ => pts_nil) (fun _ _ _ _ _ => (pe_tup (pa_cons pe_str (pa_cons (pv 5) pa_nil))))))))))))), ?_⟩
    walk_at "lw all"
    rename_i p0 H0 xs0 e0 h0 a0 l0 p1 H1 f1 e1 h1
    refine rd_cut (fun σ' H' => ∃ (c : Addr) (xs : List V), σ' = [some (.ref b), some (.str name), some (.ref c), none, none, none] ∧ Ex (WB b) H H' ∧ At (WB b) H' c (.lst xs) ∧ AI xs ∧ xs.length ≤ 1004) ?_ ?_
    · walk_at "lw all"
      all_goals refine ⟨_, _, rfl, by walk_at "lw ex", by walk_at "lw at", by walk_at "lw ai", by walk_at "lw side"⟩
    rintro σ' H' ⟨c, xs, rfl, e2, h2, ai, hl⟩
    walk_at "lw all"
    · exact k _ _ [] [] (by walk_at "lw ex") (by walk_at "lw at") .nil (by decide) trivial
    refine rd_lc1 (W := WB b) (fun _ y H => Eff (WB b) H "removed" y) (by walk_at "lw iv") h2 (by omega) (fun _ _ _ _ e r => r.mono e) (fun n x D acc H' QV hx hD hDa e q => ?_) (fun D H3 ys hD e3 h3 hA => ?_)
    · obtain ⟨z, rfl⟩ := ai.get hx
      walk_at "lw all"
      exact q _ _ (by walk_at "lw ex") ⟨_, _, rfl, At.hideT (by walk_at "lw at") (by walk_at "lw ex") hDa⟩
    have r3 := Effs.of_all _ hA
    have l3 := hA.length
    walk_at "lw all"
    · rename_i p5 H5 xs5 e5 h5 a5 l5
      refine rd_lc1 (W := WB b) (fun _ y H => Eff (WB b) H "closed" y) (by walk_at "lw iv") (by walk_at "lw at") (by walk_at "lw side") (fun _ _ _ _ e r => r.mono e) (fun n x D' acc H' QV hx hD hDa e q => ?_) (fun D' H4 zs hD4 e4 h4 hB => ?_)
      · obtain ⟨z, rfl⟩ := AI.get (by walk_at "lw ai") hx
        walk_at "lw all"
        exact q _ _ (by walk_at "lw ex") ⟨_, _, rfl, At.hideT (by walk_at "lw at") (by walk_at "lw ex") hDa⟩
      have r4 := Effs.of_all _ hB
      have l4 := hB.length
      walk_at "lw all"
      exact k _ _ _ _ (by walk_at "lw ex") (by walk_at "lw at") (Effs.append (by walk_at "lw effs") (by walk_at "lw effs")) (by rw [List.length_append]; omega) trivial
    · rename_i p5 H5 xs5 e5 h5 a5 l5
      refine rd_lc1 (W := WB b) (fun _ y H => Eff (WB b) H "closed" y) (by walk_at "lw iv") (by walk_at "lw at") (by walk_at "lw side") (fun _ _ _ _ e r => r.mono e) (fun n x D' acc H' QV hx hD hDa e q => ?_) (fun D' H4 zs hD4 e4 h4 hB => ?_)
      · obtain ⟨z, rfl⟩ := AI.get (by walk_at "lw ai") hx
        walk_at "lw all"
        exact q _ _ (by walk_at "lw ex") ⟨_, _, rfl, At.hideT (by walk_at "lw at") (by walk_at "lw ex") hDa⟩
      have r4 := Effs.of_all _ hB
      have l4 := hB.length
      walk_at "lw all"
      exact k _ _ _ _ (by walk_at "lw ex") (by walk_at "lw at") (Effs.append (by walk_at "lw effs") (by walk_at "lw effs")) (by rw [List.length_append]; omega) trivial
    · rename_i p5 H5 xs5 e5 h5 a5 l5 p6 H6 f6 e6 h6
      refine rd_lc1 (W := WB b) (fun _ y H => Eff (WB b) H "let go" y) (by walk_at "lw iv") (by walk_at "lw at") (by walk_at "lw side") (fun _ _ _ _ e r => r.mono e) (fun n x D' acc H' QV hx hD hDa e q => ?_) (fun D' H4 zs hD4 e4 h4 hB => ?_)
      · obtain ⟨z, rfl⟩ := AI.get (by walk_at "lw ai") hx
        walk_at "lw all"
        exact q _ _ (by walk_at "lw ex") ⟨_, _, rfl, At.hideT (by walk_at "lw at") (by walk_at "lw ex") hDa⟩
      have r4 := Effs.of_all _ hB
      have l4 := hB.length
      have l6 := cut_len xs5 none (some 5)
      walk_at "lw all"
      exact k _ _ _ _ (by walk_at "lw ex") (by walk_at "lw at") (Effs.append (by walk_at "lw effs") (by walk_at "lw effs")) (by rw [List.length_append]; omega) trivial

theorem ok_law_dropped (T : Tx K mg) : FnOk P w K mg base CX0 3 T.f_law_dropped T.fd_law_dropped ["box", "process"] sp_law_dropped := by
  refine T.F_law_dropped.ok sc_law_dropped (fun vs H Q E h => ?_) (fun cdv A outer s H vs Q E hr h => ?_)
  · obtain ⟨b, z, rfl, iv, k⟩ := h
    rfl
  · obtain ⟨b, z, rfl, iv, k⟩ := h
    refine ⟨_, (pss_cons (ps_set (i := 2) sc_law_dropped.nd rfl (by first | exact Or.inl rfl | exact Or.inr rfl) (pe_lst (pa_cons (pe_tup (pa_cons pe_str (pa_cons (pv 1) (pa_cons (pe_call (ok_law_draw T) (hr.mono (by decide)) (by rfl) T.g_law_draw T.F_law_draw.kp T.b_law_draw .nil pass0 (pa_cons (pv 0) (pa_cons pe_int pa_nil))) pa_nil)))) pa_nil)))
      (pss_cons (ps_if (pt_cmpR op_eq (pe_call (ok_law_draw T) (hr.mono (by decide)) (by rfl) T.g_law_draw T.F_law_draw.kp T.b_law_draw .nil pass0 (pa_cons (pv 0) (pa_cons pe_int pa_nil))) pe_int (nomark _))
        (pss_one (ps_ret (pe_op op_cat (pv 2) (pe_lc (own := [("window", 3)]) rfl sc_law_dropped.nd (pi_list (pe_call (ok_law_chosen T) hr (by rfl) T.g_law_chosen T.F_law_chosen.kp T.b_law_chosen .nil pass0 (pa_cons (pv 0) (pa_cons pe_int pa_nil)))) (blkOk_by (own := [("window", 3)]) (N := N_law_dropped) (sc := (defScope s_law_dropped)) (by decide +kernel)) (fun _ _ _ _ _ => (pg_name (i := 3) sc_law_dropped.nd rfl (by first | exact Or.inl rfl | exact Or.inr rfl))) (fun _ _ _ _ _ => pts_nil) (fun _ _ _ _ _ => (pe_tup (pa_cons pe_str (pa_cons (pv 1) (pa_cons (pv 3) pa_nil)))))))))
        pss_nil)
      (pss_one (ps_ret (pe_op op_cat (pv 2) (pe_lc (own := [("other", 4)]) rfl sc_law_dropped.nd (pi_list (pe_slice (r := rSlL K) sl_list (pe_lst (pa_cons (pe_call (ok_law_draw T) (hr.mono (by decide)) (by rfl) T.g_law_draw T.F_law_draw.kp T.b_law_draw .nil pass0 (pa_cons (pv 0) (pa_cons pe_int pa_nil))) pa_nil)) po_none (po_some (pe_call (ok_law_draw T) (hr.mono (by decide)) (by rfl) T.g_law_draw T.F_law_draw.kp T.b_law_draw .nil pass0 (pa_cons (pv 0) (pa_cons pe_int pa_nil)))))) (blkOk_by (own := [("other", 4)]) (N := N_law_dropped) (sc := (defScope s_law_dropped)) (by decide +kernel)) (fun _ _ _ _ _ => (pg_name (i := 4) sc_law_dropped.nd rfl (by first | exact Or.inl rfl | exact Or.inr rfl))) (fun _ _ _ _ _ => pts_nil) (fun _ _ _ _ _ => (pe_tup (pa_cons pe_str (pa_cons (pv 4) pa_nil)))))))))), ?_⟩
    walk_at "lw all"
    · rename_i p5 H5 xs5 e5 h5 a5 l5
      refine rd_lc1 (W := WB b) (fun _ y H => Eff (WB b) H "closed" y) (by walk_at "lw iv") (by walk_at "lw at") (by walk_at "lw side") (fun _ _ _ _ e r => r.mono e) (fun n x D' acc H' QV hx hD hDa e q => ?_) (fun D' H4 zs hD4 e4 h4 hB => ?_)
      · obtain ⟨z, rfl⟩ := AI.get (by walk_at "lw ai") hx
        walk_at "lw all"
        exact q _ _ (by walk_at "lw ex") ⟨_, _, rfl, At.hideT (by walk_at "lw at") (by walk_at "lw ex") hDa⟩
      have r4 := Effs.of_all _ hB
      have l4 := hB.length
      walk_at "lw all"
      exact k _ _ _ _ (by walk_at "lw ex") (by walk_at "lw at") (Effs.append (by walk_at "lw effs") (.cons ⟨_, _, rfl, by walk_at "lw at"⟩ .nil)) (by simp only [List.length_append, List.length_cons, List.length_nil]; omega) trivial
    · rename_i p5 H5 f5 e5 h5 r5 H7 e7 g7 g8 p6 H6 f6 e6 h6
      refine rd_lc1 (W := WB b) (fun _ y H => Eff (WB b) H "let go" y) (by walk_at "lw iv") (by walk_at "lw at") (by walk_at "lw side") (fun _ _ _ _ e r => r.mono e) (fun n x D' acc H' QV hx hD hDa e q => ?_) (fun D' H4 zs hD4 e4 h4 hB => ?_)
      · obtain ⟨z, rfl⟩ := AI.get (by walk_at "lw ai") hx
        walk_at "lw all"
        exact q _ _ (by walk_at "lw ex") ⟨_, _, rfl, At.hideT (by walk_at "lw at") (by walk_at "lw ex") hDa⟩
      have r4 := Effs.of_all _ hB
      have l4 := hB.length
      have l6 := Nat.le_trans (Nat.le_of_eq l4) (cut_len _ _ _)
      walk_at "lw all"
      exact k _ _ _ _ (by walk_at "lw ex") (by walk_at "lw at") (Effs.append (by walk_at "lw effs") (.cons ⟨_, _, rfl, by walk_at "lw at"⟩ .nil)) (by simp only [List.length_append, List.length_cons, List.length_nil] at *; omega) trivial

theorem ok_law_made (T : Tx K mg) : FnOk P w K mg base CX0 2 T.f_law_made T.fd_law_made ["box", "process"] sp_law_made := by
  refine T.F_law_made.ok sc_law_made (fun vs H Q E h => ?_) (fun cdv A outer s H vs Q E hr h => ?_)
  · obtain ⟨b, z, rfl, iv, k⟩ := h
    rfl
  · obtain ⟨b, z, rfl, iv, k⟩ := h
    refine ⟨_, (pss_one (ps_ret (pe_lst (pa_cons (pe_tup (pa_cons pe_str (pa_cons (pv 1) (pa_cons (pe_call (ok_law_draw T) hr (by rfl) T.g_law_draw T.F_law_draw.kp T.b_law_draw .nil pass0 (pa_cons (pv 0) (pa_cons pe_int pa_nil))) pa_nil)))) pa_nil)))), ?_⟩
    walk_at "lw all"
    exact k _ _ _ _ (by walk_at "lw ex") (by walk_at "lw at") (.cons ⟨_, _, rfl, by walk_at "lw at"⟩ .nil) (by simp) rfl

theorem ok_law_woken (T : Tx K mg) : FnOk P w K mg base CX0 2 T.f_law_woken T.fd_law_woken ["box"] sp_law_woken := by
  refine T.F_law_woken.ok sc_law_woken (fun vs H Q E h => ?_) (fun cdv A outer s H vs Q E hr h => ?_)
  · obtain ⟨b, rfl, iv, k⟩ := h
    rfl
  · obtain ⟨b, rfl, iv, k⟩ := h
    refine ⟨_, (pss_one (ps_ret (pe_lst (pa_cons (pe_tup (pa_cons pe_str (pa_cons (pe_call (ok_law_draw T) hr (by rfl) T.g_law_draw T.F_law_draw.kp T.b_law_draw .nil pass0 (pa_cons (pv 0) (pa_cons pe_int pa_nil))) pa_nil))) pa_nil)))), ?_⟩
    walk_at "lw all"
    exact k _ _ _ _ (by walk_at "lw ex") (by walk_at "lw at") (.cons ⟨_, _, rfl, by walk_at "lw at"⟩ .nil) (by simp) rfl

theorem ok_law_carried (T : Tx K mg) : FnOk P w K mg base CX0 3 T.f_law_carried T.fd_law_carried ["box", "way"] sp_law_carried := by
  refine T.F_law_carried.ok sc_law_carried (fun vs H Q E h => ?_) (fun cdv A outer s H vs Q E hr h => ?_)
  · obtain ⟨b, z, rfl, iv, k⟩ := h
    rfl
  · obtain ⟨b, z, rfl, iv, k⟩ := h
    refine ⟨_, (pss_cons (ps_if (pt_cmpR op_eq (pv 1) pe_int (nomark _))
        (pss_one (ps_ret (pe_op op_cat (pe_call (ok_law_made T) hr (by rfl) T.g_law_made T.F_law_made.kp T.b_law_made .nil pass0 (pa_cons (pv 0) (pa_cons (pe_call (ok_law_draw T) (hr.mono (by decide)) (by rfl) T.g_law_draw T.F_law_draw.kp T.b_law_draw .nil pass0 (pa_cons (pv 0) (pa_cons pe_int pa_nil))) pa_nil))) (pe_call (ok_law_woken T) hr (by rfl) T.g_law_woken T.F_law_woken.kp T.b_law_woken .nil pass0 (pa_cons (pv 0) pa_nil)))))
        pss_nil)
      (pss_one (ps_ret (pe_call (ok_law_woken T) hr (by rfl) T.g_law_woken T.F_law_woken.kp T.b_law_woken .nil pass0 (pa_cons (pv 0) pa_nil))))), ?_⟩
    walk_at "lw all"
    · rename_i p1 H1 ys1 e1 h1 l1 r1 p2 H2 ys2 e2 h2 l2 r2 p3 H3 f3 e3 h3
      have q1 := r1.len1
      have q2 := r2.len1
      exact k _ _ _ _ (by walk_at "lw ex") (by walk_at "lw at") (Effs.append (by walk_at "lw effs") (by walk_at "lw effs")) (by rw [List.length_append]; omega) trivial
    · exact k _ _ _ _ (by walk_at "lw ex") (by walk_at "lw at") (by walk_at "lw effs") (by assumption) trivial

theorem ok_law_message (T : Tx K mg) : FnOk P w K mg base CX0 4 T.f_law_message T.fd_law_message ["box", "name", "way"] sp_law_message := by
  refine T.F_law_message.ok sc_law_message (fun vs H Q E h => ?_) (fun cdv A outer s H vs Q E hr h => ?_)
  · obtain ⟨b, name, z, rfl, iv, hin, k⟩ := h
    rfl
  · obtain ⟨b, name, z, rfl, iv, hin, k⟩ := h
    refine ⟨_, (pss_cons (ps_if (pt_cmpR op_eq (pv 1) pe_str (nomark _))
        (pss_one (ps_ret (pe_tup (pa_cons pe_int (pa_cons (pe_call (ok_law_woken T) (hr.mono (by decide)) (by rfl) T.g_law_woken T.F_law_woken.kp T.b_law_woken .nil pass0 (pa_cons (pv 0) pa_nil)) (pa_cons pe_int pa_nil))))))
        pss_nil)
      (pss_cons (ps_if (pt_cmpR op_eq (pv 1) pe_str (nomark _))
        (pss_cons (ps_if (pt_cmpR op_eq (pv 2) pe_int (nomark _))
          (pss_one (ps_ret (pe_tup (pa_cons pe_non (pa_cons (pe_lst pa_nil) (pa_cons pe_int pa_nil))))))
          pss_nil)
        (pss_one (ps_ret (pe_tup (pa_cons pe_non (pa_cons (pe_call (ok_law_woken T) (hr.mono (by decide)) (by rfl) T.g_law_woken T.F_law_woken.kp T.b_law_woken .nil pass0 (pa_cons (pv 0) pa_nil)) (pa_cons pe_int pa_nil)))))))
        pss_nil)
      (pss_cons (ps_if (PW.pt (pw_and (pt_cmpR op_eq (pv 2) pe_int (nomark _)) (pw_and1 (PW.pt (pw_or (pt_cmpR op_eq (pv 1) pe_str (nomark _)) (pw_or1 (pt_cmpR op_eq (pv 1) pe_str (nomark _))))))))
        (pss_one (ps_ret (pe_tup (pa_cons pe_non (pa_cons (pe_lst pa_nil) (pa_cons pe_int pa_nil))))))
        pss_nil)
      (pss_cons (ps_if (PW.pt (pw_or (PW.pt (pw_and (pt_cmpR op_eq (pv 2) pe_int (nomark _)) (pw_and1 (pt_cmpR op_eq (pv 1) pe_str (nomark _))))) (pw_or1 (pt_cmpR op_eq (pv 2) pe_int (nomark _)))))
        (pss_one (ps_if (PW.pt (pw_or (pt_cmpR op_eq (pv 1) pe_str (nomark _)) (pw_or1 (pt_cmpR op_eq (pv 1) pe_str (nomark _)))))
          (pss_one (ps_ret (pe_tup (pa_cons pe_int (pa_cons (pe_lst pa_nil) (pa_cons pe_int pa_nil))))))
          pss_nil))
        pss_nil)
      (pss_one (ps_ret (pe_tup (pa_cons pe_int (pa_cons (pe_call (ok_law_carried T) hr (by rfl) T.g_law_carried T.F_law_carried.kp T.b_law_carried .nil pass0 (pa_cons (pv 0) (pa_cons (pv 2) pa_nil))) (pa_cons pe_int pa_nil)))))))))), ?_⟩
    rcases six_cases hin with rfl | rfl | rfl | rfl | rfl | rfl
    all_goals walk_at "lw all"
    all_goals walk_at "lw tl"

theorem ok_law_deed (T : Tx K mg) : FnOk P w K mg base CX0 5 T.f_law_deed T.fd_law_deed ["box", "name", "process"] sp_law_deed := by
  refine T.F_law_deed.ok sc_law_deed (fun vs H Q E h => ?_) (fun cdv A outer s H vs Q E hr h => ?_)
  · obtain ⟨b, name, z, rfl, iv, k⟩ := h
    rfl
  · obtain ⟨b, name, z, rfl, iv, k⟩ := h
    refine ⟨_, (pss_cons (ps_set (i := 3) sc_law_deed.nd rfl (by first | exact Or.inl rfl | exact Or.inr rfl) (pe_call (ok_law_draw T) (hr.mono (by decide)) (by rfl) T.g_law_draw T.F_law_draw.kp T.b_law_draw .nil pass0 (pa_cons (pv 0) (pa_cons pe_int pa_nil))))
      (pss_cons (ps_if (PW.pt (pw_or (pt_cmpR op_eq (pv 1) pe_str (nomark _)) (pw_or1 (pt_cmpR op_eq (pv 1) pe_str (nomark _)))))
        (pss_one (ps_ret (pe_tup (pa_cons pe_int (pa_cons (pe_lst pa_nil) (pa_cons pe_int pa_nil))))))
        pss_nil)
      (pss_cons (ps_if (pt_cmpR op_eq (pv 1) pe_str (nomark _))
        (pss_one (ps_ret (pe_tup (pa_cons pe_int (pa_cons (pe_lc (own := [("other", 4)]) rfl sc_law_deed.nd (pi_list (pe_slice (r := rSlL K) sl_list (pe_lst (pa_cons (pe_call (ok_law_draw T) (hr.mono (by decide)) (by rfl) T.g_law_draw T.F_law_draw.kp T.b_law_draw .nil pass0 (pa_cons (pv 0) (pa_cons pe_int pa_nil))) pa_nil)) po_none (po_some (pe_op op_fdiv (pv 3) pe_int)))) (blkOk_by (own := [("other", 4)]) (N := N_law_deed) (sc := (defScope s_law_deed)) (by decide +kernel)) (fun _ _ _ _ _ => (pg_name (i := 4) sc_law_deed.nd rfl (by first | exact Or.inl rfl | exact Or.inr rfl))) (fun _ _ _ _ _ => pts_nil) (fun _ _ _ _ _ => (pe_tup (pa_cons pe_str (pa_cons (pv 4) pa_nil))))) (pa_cons pe_int pa_nil))))))
        pss_nil)
      (pss_cons (ps_if (pt_cmpR op_eq (pv 3) pe_int (nomark _))
        (pss_one (ps_ret (pe_tup (pa_cons pe_int (pa_cons (pe_lst pa_nil) (pa_cons pe_int pa_nil))))))
        pss_nil)
      (pss_cons (ps_if (pt_cmpR (r := rIn K false) op_in_seq (pv 1) (pe_tup (pa_cons pe_str (pa_cons pe_str (pa_cons pe_str (pa_cons pe_str (pa_cons pe_str (pa_cons pe_str pa_nil))))))) (by rfl))
        (pss_one (ps_ret (pe_call (ok_law_message T) hr (by rfl) T.g_law_message T.F_law_message.kp T.b_law_message .nil pass0 (pa_cons (pv 0) (pa_cons (pv 1) (pa_cons (pv 3) pa_nil))))))
        pss_nil)
      (pss_cons (ps_if (pt_cmpR op_eq (pv 1) pe_str (nomark _))
        (pss_one (ps_ret (pe_tup (pa_cons pe_int (pa_cons (pe_call (ok_law_made T) (hr.mono (by decide)) (by rfl) T.g_law_made T.F_law_made.kp T.b_law_made .nil pass0 (pa_cons (pv 0) (pa_cons (pv 2) pa_nil))) (pa_cons pe_int pa_nil))))))
        pss_nil)
      (pss_cons (ps_if (PW.pt (pw_or (pt_cmpR op_eq (pv 1) pe_str (nomark _)) (pw_or1 (pt_cmpR op_eq (pv 1) pe_str (nomark _)))))
        (pss_one (ps_ret (pe_tup (pa_cons pe_int (pa_cons (pe_call (ok_law_made T) (hr.mono (by decide)) (by rfl) T.g_law_made T.F_law_made.kp T.b_law_made .nil pass0 (pa_cons (pv 0) (pa_cons (pv 2) pa_nil))) (pa_cons pe_int pa_nil))))))
        pss_nil)
      (pss_cons (ps_if (pt_cmpR op_eq (pv 1) pe_str (nomark _))
        (pss_one (ps_ret (pe_tup (pa_cons pe_int (pa_cons (pe_slice (r := rSlL K) sl_list (pe_call (ok_law_made T) (hr.mono (by decide)) (by rfl) T.g_law_made T.F_law_made.kp T.b_law_made .nil pass0 (pa_cons (pv 0) (pa_cons (pe_call (ok_law_draw T) (hr.mono (by decide)) (by rfl) T.g_law_draw T.F_law_draw.kp T.b_law_draw .nil pass0 (pa_cons (pv 0) (pa_cons pe_int pa_nil))) pa_nil))) po_none (po_some (pe_op op_fdiv (pv 3) pe_int))) (pa_cons pe_int pa_nil))))))
        pss_nil)
      (pss_cons (ps_if (pt_cmpR op_eq (pv 1) pe_str (nomark _))
        (pss_one (ps_ret (pe_tup (pa_cons pe_int (pa_cons (pe_call (ok_law_dropped T) (hr.mono (by decide)) (by rfl) T.g_law_dropped T.F_law_dropped.kp T.b_law_dropped .nil pass0 (pa_cons (pv 0) (pa_cons (pv 2) pa_nil))) (pa_cons pe_int pa_nil))))))
        pss_nil)
      (pss_cons (ps_if (PW.pt (pw_or (pt_cmpR op_eq (pv 1) pe_str (nomark _)) (pw_or1 (pt_cmpR op_eq (pv 1) pe_str (nomark _)))))
        (pss_one (ps_ret (pe_tup (pa_cons pe_int (pa_cons (pe_call (ok_law_gone T) (hr.mono (by decide)) (by rfl) T.g_law_gone T.F_law_gone.kp T.b_law_gone .nil pass0 (pa_cons (pv 0) (pa_cons (pv 1) pa_nil))) (pa_cons pe_int pa_nil))))))
        pss_nil)
      (pss_cons (ps_if (pt_cmpR op_eq (pv 1) pe_str (nomark _))
        (pss_one (ps_ret (pe_tup (pa_cons pe_int (pa_cons (pe_lst (pa_cons (pe_tup (pa_cons pe_str (pa_cons (pv 2) (pa_cons (pe_call (ok_law_draw T) (hr.mono (by decide)) (by rfl) T.g_law_draw T.F_law_draw.kp T.b_law_draw .nil pass0 (pa_cons (pv 0) (pa_cons pe_int pa_nil))) pa_nil)))) pa_nil)) (pa_cons pe_int pa_nil))))))
        pss_nil)
      (pss_cons (ps_if (pt_cmpR op_eq (pv 1) pe_str (nomark _))
        (pss_one (ps_ret (pe_tup (pa_cons pe_int (pa_cons (pe_lst (pa_cons (pe_tup (pa_cons pe_str (pa_cons (pv 2) (pa_cons (pe_call (ok_law_draw T) (hr.mono (by decide)) (by rfl) T.g_law_draw T.F_law_draw.kp T.b_law_draw .nil pass0 (pa_cons (pv 0) (pa_cons pe_int pa_nil))) pa_nil)))) pa_nil)) (pa_cons pe_int pa_nil))))))
        pss_nil)
      (pss_cons (ps_if (pt_cmpR op_eq (pv 1) pe_str (nomark _))
        (pss_one (ps_ret (pe_tup (pa_cons pe_int (pa_cons (pe_slice (r := rSlL K) sl_list (pe_call (ok_law_woken T) (hr.mono (by decide)) (by rfl) T.g_law_woken T.F_law_woken.kp T.b_law_woken .nil pass0 (pa_cons (pv 0) pa_nil)) po_none (po_some (pe_op op_fdiv (pv 3) pe_int))) (pa_cons pe_int pa_nil))))))
        pss_nil)
      (pss_cons (ps_if (PW.pt (pw_and (pt_cmpR op_eq (pv 1) pe_str (nomark _)) (pw_and1 (pt_cmpR op_eq (pv 3) pe_int (nomark _)))))
        (pss_one (ps_ret (pe_tup (pa_cons pe_non (pa_cons (pe_lst pa_nil) (pa_cons pe_int pa_nil))))))
        pss_nil)
      (pss_one (ps_ret (pe_tup (pa_cons pe_int (pa_cons (pe_lst pa_nil) (pa_cons pe_int pa_nil)))))))))))))))))))), ?_⟩
    walk_at "lw all"
    all_goals try walk_at "lw tl"
    · refine rd_lc1 (W := WB b) (fun _ y H => Eff (WB b) H "let go" y) (by walk_at "lw iv") (by walk_at "lw at") (by walk_at "lw side") (fun _ _ _ _ e r => r.mono e) (fun n x D' acc H' QV hx hD hDa e q => ?_) (fun D' H4 zs hD4 e4 h4 hB => ?_)
      · obtain ⟨z, rfl⟩ := AI.get (by walk_at "lw ai") hx
        walk_at "lw all"
        exact q _ _ (by walk_at "lw ex") ⟨_, _, rfl, At.hideT (by walk_at "lw at") (by walk_at "lw ex") hDa⟩
      have r4 := Effs.of_all _ hB
      have l4 := Nat.le_trans (Nat.le_of_eq hB.length) (cut_len _ _ _)
      simp only [List.length_cons, List.length_nil] at l4
      have l5 : zs.length ≤ 4000 := by omega
      walk_at "lw all"
      walk_at "lw tl"

theorem ok_law_other (T : Tx K mg) : FnOk P w K mg base CX0 3 T.f_law_other T.fd_law_other ["box", "sort"] sp_law_other := by
  refine T.F_law_other.ok sc_law_other (fun vs H Q E h => ?_) (fun cdv A outer s H vs Q E hr h => ?_)
  · obtain ⟨b, z, rfl, iv, k⟩ := h
    rfl
  · obtain ⟨b, z, rfl, iv, k⟩ := h
    refine ⟨_, (pss_cons (ps_if (pt_cmpR op_eq (pv 1) pe_int (nomark _))
        (pss_one (ps_ret (pe_tup (pa_cons pe_str (pa_cons (pe_call (ok_law_draw T) (hr.mono (by decide)) (by rfl) T.g_law_draw T.F_law_draw.kp T.b_law_draw .nil pass0 (pa_cons (pv 0) (pa_cons pe_int pa_nil))) (pa_cons (pe_call (ok_law_draw T) (hr.mono (by decide)) (by rfl) T.g_law_draw T.F_law_draw.kp T.b_law_draw .nil pass0 (pa_cons (pv 0) (pa_cons pe_int pa_nil))) (pa_cons (pe_callTy (r := rTupO K) c_tuple (by rfl) T.n_tuple (by decide +kernel) (pa_cons (pe_call (ok_law_chosen T) hr (by rfl) T.g_law_chosen T.F_law_chosen.kp T.b_law_chosen .nil pass0 (pa_cons (pv 0) (pa_cons pe_int pa_nil))) pa_nil)) pa_nil)))))))
        pss_nil)
      (pss_cons (ps_if (pt_cmpR op_eq (pv 1) pe_int (nomark _))
        (pss_one (ps_ret (pe_tup (pa_cons pe_str (pa_cons (pe_op op_add pe_int (pe_call (ok_law_draw T) (hr.mono (by decide)) (by rfl) T.g_law_draw T.F_law_draw.kp T.b_law_draw .nil pass0 (pa_cons (pv 0) (pa_cons pe_int pa_nil)))) pa_nil)))))
        pss_nil)
      (pss_cons (ps_if (pt_cmpR op_eq (pv 1) pe_int (nomark _))
        (pss_one (ps_ret (pe_tup (pa_cons pe_str (pa_cons (pe_call (ok_law_draw T) (hr.mono (by decide)) (by rfl) T.g_law_draw T.F_law_draw.kp T.b_law_draw .nil pass0 (pa_cons (pv 0) (pa_cons pe_int pa_nil))) (pa_cons (pe_call (ok_law_draw T) (hr.mono (by decide)) (by rfl) T.g_law_draw T.F_law_draw.kp T.b_law_draw .nil pass0 (pa_cons (pv 0) (pa_cons pe_int pa_nil))) pa_nil))))))
        pss_nil)
      (pss_cons (ps_set (i := 2) sc_law_other.nd rfl (by first | exact Or.inl rfl | exact Or.inr rfl) (pe_callTy (r := rTupO K) c_tuple (by rfl) T.n_tuple (by decide +kernel) (pa_cons (pe_lc (own := [("other", 3)]) rfl sc_law_other.nd (pi_list (pe_slice (r := rSlL K) sl_list (pe_lst (pa_cons (pe_call (ok_law_draw T) (hr.mono (by decide)) (by rfl) T.g_law_draw T.F_law_draw.kp T.b_law_draw .nil pass0 (pa_cons (pv 0) (pa_cons pe_int pa_nil))) pa_nil)) po_none (po_some (pe_call (ok_law_draw T) (hr.mono (by decide)) (by rfl) T.g_law_draw T.F_law_draw.kp T.b_law_draw .nil pass0 (pa_cons (pv 0) (pa_cons pe_int pa_nil)))))) (blkOk_by (own := [("other", 3)]) (N := N_law_other) (sc := (defScope s_law_other)) (by decide +kernel)) (fun _ _ _ _ _ => (pg_name (i := 3) sc_law_other.nd rfl (by first | exact Or.inl rfl | exact Or.inr rfl))) (fun _ _ _ _ _ => pts_nil) (fun _ _ _ _ _ => (pe_tup (pa_cons pe_str (pa_cons (pv 3) pa_nil))))) pa_nil)))
      (pss_one (ps_ret (pe_tup (pa_cons pe_str (pa_cons (pe_call (ok_law_draw T) (hr.mono (by decide)) (by rfl) T.g_law_draw T.F_law_draw.kp T.b_law_draw .nil pass0 (pa_cons (pv 0) (pa_cons pe_int pa_nil))) (pa_cons (pe_ix (r := rIxL K) ix_list (pe_lst (pa_cons pe_str (pa_cons pe_str pa_nil))) (pe_call (ok_law_draw T) (hr.mono (by decide)) (by rfl) T.g_law_draw T.F_law_draw.kp T.b_law_draw .nil pass0 (pa_cons (pv 0) (pa_cons pe_int pa_nil))) (fun _ _ => rfl)) (pa_cons (pv 2) pa_nil))))))))))), ?_⟩
    walk_at "lw all"
    all_goals try exact k _ _ _ _ (by walk_at "lw ex") (by walk_at "lw at") (by decide +kernel)
    refine rd_lc1 (W := WB b) (fun _ y H => Eff (WB b) H "let go" y) (by walk_at "lw iv") (by walk_at "lw at") (by walk_at "lw side") (fun _ _ _ _ e r => r.mono e) (fun n x D' acc H' QV hx hD hDa e q => ?_) (fun D' H4 zs hD4 e4 h4 hB => ?_)
    · obtain ⟨z, rfl⟩ := AI.get (by walk_at "lw ai") hx
      walk_at "lw all"
      exact q _ _ (by walk_at "lw ex") ⟨_, _, rfl, At.hideT (by walk_at "lw at") (by walk_at "lw ex") hDa⟩
    walk_at "lw all"
    exact k _ _ _ _ (by walk_at "lw ex") (by walk_at "lw at") (by decide +kernel)

theorem ok_law_at (T : Tx K mg) {f : Addr} {fd : FuncData} (F : Fun K "law" "law" s_law f fd) : FnOk P w K mg base CX0 6 f fd ["script"] (spLaw K) := by
  refine F.ok sc_law (fun vs H Q E h => ?_) (fun cdv A outer s H vs Q E hr h => ?_)
  · obtain ⟨a, ns, rfl, ha, hn, k⟩ := h
    rfl
  · obtain ⟨a, ns, rfl, ha, hn, k⟩ := h
    refine ⟨_, (pss_cons (ps_set (i := 1) sc_law.nd rfl (by first | exact Or.inl rfl | exact Or.inr rfl) (pe_call (ok_law_box T) (hr.mono (by decide)) (by rfl) T.g_law_box T.F_law_box.kp T.b_law_box .nil pass0 (pa_cons (pv 0) pa_nil)))
      (pss_cons (ps_set (i := 2) sc_law.nd rfl (by first | exact Or.inl rfl | exact Or.inr rfl) (pe_lst (pa_cons pe_str (pa_cons pe_str (pa_cons pe_str (pa_cons pe_str (pa_cons pe_str (pa_cons pe_str (pa_cons pe_str (pa_cons pe_str (pa_cons pe_str (pa_cons pe_str (pa_cons pe_str pa_nil)))))))))))))
      (pss_cons (ps_set (i := 2) sc_law.nd rfl (by first | exact Or.inl rfl | exact Or.inr rfl) (pe_op op_cat (pv 2) (pe_lst (pa_cons pe_str (pa_cons pe_str (pa_cons pe_str (pa_cons pe_str (pa_cons pe_str (pa_cons pe_str (pa_cons pe_str (pa_cons pe_str (pa_cons pe_str pa_nil))))))))))))
      (pss_cons (ps_set (i := 2) sc_law.nd rfl (by first | exact Or.inl rfl | exact Or.inr rfl) (pe_op op_cat (pv 2) (pe_lst (pa_cons pe_str (pa_cons pe_str (pa_cons pe_str pa_nil))))))
      (pss_cons (ps_set (i := 3) sc_law.nd rfl (by first | exact Or.inl rfl | exact Or.inr rfl) (pe_call (ok_law_draw T) (hr.mono (by decide)) (by rfl) T.g_law_draw T.F_law_draw.kp T.b_law_draw .nil pass0 (pa_cons (pv 1) (pa_cons (pe_callB (r := rLen K) c_len (by rfl) T.n_len PySem.boot_len (pa_cons (pv 2) pa_nil)) pa_nil))))
      (pss_cons (ps_for PassesOwn.never rfl (pi_list (pe_op op_cat (pe_slice (r := rSlL K) sl_list (pv 2) (po_some (pv 3)) po_none) (pe_slice (r := rSlL K) sl_list (pv 2) po_none (po_some (pv 3))))) (pg_name (i := 4) sc_law.nd rfl (by first | exact Or.inl rfl | exact Or.inr rfl))
        (pss_cons (ps_set (i := 5) sc_law.nd rfl (by first | exact Or.inl rfl | exact Or.inr rfl) (pe_call (ok_law_draw T) (hr.mono (by decide)) (by rfl) T.g_law_draw T.F_law_draw.kp T.b_law_draw .nil pass0 (pa_cons (pv 1) (pa_cons pe_int pa_nil))))
        (pss_cons (ps_asg (pe_call (ok_law_deed T) hr (by rfl) T.g_law_deed T.F_law_deed.kp T.b_law_deed .nil pass0 (pa_cons (pv 1) (pa_cons (pv 4) (pa_cons (pv 5) pa_nil)))) (pg_tup (by rfl) (pgs_cons (pg_name (i := 6) sc_law.nd rfl (by first | exact Or.inl rfl | exact Or.inr rfl)) (pgs_cons (pg_name (i := 7) sc_law.nd rfl (by first | exact Or.inl rfl | exact Or.inr rfl)) (pgs_cons (pg_name (i := 8) sc_law.nd rfl (by first | exact Or.inl rfl | exact Or.inr rfl)) pgs_nil)))))
        (pss_cons (ps_set (i := 9) sc_law.nd rfl (by first | exact Or.inl rfl | exact Or.inr rfl) (pe_call (ok_work T) (hr.mono (by decide)) (by rfl) T.g_work T.F_work.kp T.b_work .nil pass0 (pa_cons (pe_tup (pa_cons pe_str (pa_cons (pv 5) (pa_cons (pv 4) (pa_cons (pv 6) (pa_cons (pe_callTy (r := rTupO K) c_tuple (by rfl) T.n_tuple (by decide +kernel) (pa_cons (pv 7) pa_nil)) pa_nil)))))) pa_nil)))
        (pss_one (ps_if (PW.pt (pw_or (pt_not (pt_val (pe_call (ok_law_is_integer T) (hr.mono (by decide)) (by rfl) T.g_law_is_integer T.F_law_is_integer.kp T.b_law_is_integer .nil pass0 (pa_cons (pv 9) pa_nil)))) (pw_or1 (pt_cmpR op_ne (pv 9) (pe_op op_add (pe_op op_add pe_int (pe_callB (r := rLen K) c_len (by rfl) T.n_len PySem.boot_len (pa_cons (pv 7) pa_nil))) (pv 8)) (nomark _)))))
          (pss_one (ps_ret pe_bl))
          pss_nil))))))
      (pss_cons (ps_for PassesOwn.never rfl (pi_range1 rfl T.n_range (pa_cons pe_int pa_nil)) (pg_name (i := 10) sc_law.nd rfl (by first | exact Or.inl rfl | exact Or.inr rfl))
        (pss_cons (ps_set (i := 9) sc_law.nd rfl (by first | exact Or.inl rfl | exact Or.inr rfl) (pe_call (ok_work T) (hr.mono (by decide)) (by rfl) T.g_work T.F_work.kp T.b_work .nil pass0 (pa_cons (pe_call (ok_law_other T) (hr.mono (by decide)) (by rfl) T.g_law_other T.F_law_other.kp T.b_law_other .nil pass0 (pa_cons (pv 1) (pa_cons (pv 10) pa_nil))) pa_nil)))
        (pss_one (ps_if (PW.pt (pw_or (pt_not (pt_val (pe_call (ok_law_is_integer T) (hr.mono (by decide)) (by rfl) T.g_law_is_integer T.F_law_is_integer.kp T.b_law_is_integer .nil pass0 (pa_cons (pv 9) pa_nil)))) (pw_or1 (pt_cmpR op_ne (pv 9) pe_int (nomark _)))))
          (pss_one (ps_ret pe_bl))
          pss_nil))))
      (pss_one (ps_ret pe_bl))))))))), ?_⟩
    refine rd_seq (rd_asg (rd_call (rd_cons ?_)))
    walk_at "lw go"
    refine ⟨a, ns, rfl, ha, hn, fun b H1 iv => ?_⟩
    walk_at "lw go"
    rename_i c Hc fc ec hc
    refine for_l (fun i σ' H' => ∃ (v2 v3 v4 v5 v6 v7 v8 v9 v10 : Option V), σ' = [some (.ref a), some (.ref b), v2, v3, v4, v5, v6, v7, v8, v9, v10] ∧ Ex (WB b) Hc H') ⟨_, _, _, _, _, _, _, _, _, rfl, Ex.refl ec.iv⟩ (fun i σ' H' _ ⟨_, _, _, _, _, _, _, _, _, _, e⟩ => e.at_ hc) ?_ ?_
    · rintro i x σ' H' hx ⟨v2, v3, v4, v5, v6, v7, v8, v9, v10, rfl, e1⟩
      obtain ⟨nm, rfl⟩ := AS.get (by walk_at "lw as") hx
      clear hx
      walk_at "lw all"
      exact ⟨_, _, _, _, _, _, _, _, _, rfl, by walk_at "lw ex"⟩
    · rintro σ' H' ⟨v2, v3, v4, v5, v6, v7, v8, v9, v10, rfl, e1⟩
      walk_at "lw all"
      refine for_r (fun i σ' H' => ∃ (v2 v3 v4 v5 v6 v7 v8 v9 v10 : Option V), σ' = [some (.ref a), some (.ref b), v2, v3, v4, v5, v6, v7, v8, v9, v10] ∧ Ex (WB b) Hc H') ⟨_, _, _, _, _, _, _, _, _, rfl, e1⟩ ?_ ?_
      · rintro i σ' H' hi ⟨v2, v3, v4, v5, v6, v7, v8, v9, v10, rfl, e1⟩
        walk_at "lw all"
        exact ⟨_, _, _, _, _, _, _, _, _, rfl, by walk_at "lw ex"⟩
      · rintro σ' H' ⟨v2, v3, v4, v5, v6, v7, v8, v9, v10, rfl, e1⟩
        walk_at "lw all"
        exact k _

end

theorem all_mk {l : PySem.W.OpenLaw} {w : World} {K : PySem.W.Frag} {h : Heap} {mg : Str → Option Value} {fa : Addr} (X : K.In h) (G : h.Ns mainGlobals mg) (hfa : mg "law" = some (.ref fa))
    {f0 : Addr} {od0 an0 : Option Addr} {sl0 : Array (Option Value)} {oc0 kV0 dc0 pm0 cd0 ct0 : Value}
    {f1 : Addr} {od1 an1 : Option Addr} {sl1 : Array (Option Value)} {oc1 kV1 dc1 pm1 cd1 ct1 : Value}
    {f2 : Addr} {od2 an2 : Option Addr} {sl2 : Array (Option Value)} {oc2 kV2 dc2 pm2 cd2 ct2 : Value}
    {f3 : Addr} {od3 an3 : Option Addr} {sl3 : Array (Option Value)} {oc3 kV3 dc3 pm3 cd3 ct3 : Value}
    {f4 : Addr} {od4 an4 : Option Addr} {sl4 : Array (Option Value)} {oc4 kV4 dc4 pm4 cd4 ct4 : Value}
    {f5 : Addr} {od5 an5 : Option Addr} {sl5 : Array (Option Value)} {oc5 kV5 dc5 pm5 cd5 ct5 : Value}
    {f6 : Addr} {od6 an6 : Option Addr} {sl6 : Array (Option Value)} {oc6 kV6 dc6 pm6 cd6 ct6 : Value}
    {f7 : Addr} {od7 an7 : Option Addr} {sl7 : Array (Option Value)} {oc7 kV7 dc7 pm7 cd7 ct7 : Value}
    {f8 : Addr} {od8 an8 : Option Addr} {sl8 : Array (Option Value)} {oc8 kV8 dc8 pm8 cd8 ct8 : Value}
    {f9 : Addr} {od9 an9 : Option Addr} {sl9 : Array (Option Value)} {oc9 kV9 dc9 pm9 cd9 ct9 : Value}
    {f10 : Addr} {od10 an10 : Option Addr} {sl10 : Array (Option Value)} {oc10 kV10 dc10 pm10 cd10 ct10 : Value}
    {f11 : Addr} {od11 an11 : Option Addr} {sl11 : Array (Option Value)} {oc11 kV11 dc11 pm11 cd11 ct11 : Value}
    {f12 : Addr} {od12 an12 : Option Addr} {sl12 : Array (Option Value)} {oc12 kV12 dc12 pm12 cd12 ct12 : Value}
    {f13 : Addr} {od13 an13 : Option Addr} {sl13 : Array (Option Value)} {oc13 kV13 dc13 pm13 cd13 ct13 : Value}
    {f14 : Addr} {od14 an14 : Option Addr} {sl14 : Array (Option Value)} {oc14 kV14 dc14 pm14 cd14 ct14 : Value}
    {aK_PASSING : Addr} {its_PASSING : Array Value} {n_PASSING : Nat} {dd_PASSING : Option Addr} {sl_PASSING : Array (Option Value)}
    {tk_WORDS_OF_A_MESSAGE : Tok}
    {tk_WORDS_OF_A_PAGE : Tok}
    (a0 : PySem.W.nsIn K mainGlobals "has_passed_on" = some (some (.ref f0))) (l0 : K.lookup f0 = some ⟨oc0, od0, .func (PySem.W.fnOf "has_passed_on" "has_passed_on" (defArgs s_has_passed_on) (defBody s_has_passed_on) (defScope s_has_passed_on) .none kV0 dc0 pm0 an0 cd0 ct0), sl0⟩) (c0 : PySem.W.codeIn K cd0 "has_passed_on" = true) (k0 : PySem.W.keepIn K (.ref f0) = true)
    (a1 : PySem.W.nsIn K mainGlobals "work" = some (some (.ref f1))) (l1 : K.lookup f1 = some ⟨oc1, od1, .func (PySem.W.fnOf "work" "work" (defArgs s_work) (defBody s_work) (defScope s_work) .none kV1 dc1 pm1 an1 cd1 ct1), sl1⟩) (c1 : PySem.W.codeIn K cd1 "work" = true) (k1 : PySem.W.keepIn K (.ref f1) = true)
    (a2 : PySem.W.nsIn K mainGlobals "_law_box" = some (some (.ref f2))) (l2 : K.lookup f2 = some ⟨oc2, od2, .func (PySem.W.fnOf "_law_box" "_law_box" (defArgs s_law_box) (defBody s_law_box) (defScope s_law_box) .none kV2 dc2 pm2 an2 cd2 ct2), sl2⟩) (c2 : PySem.W.codeIn K cd2 "_law_box" = true) (k2 : PySem.W.keepIn K (.ref f2) = true)
    (a3 : PySem.W.nsIn K mainGlobals "_law_draw" = some (some (.ref f3))) (l3 : K.lookup f3 = some ⟨oc3, od3, .func (PySem.W.fnOf "_law_draw" "_law_draw" (defArgs s_law_draw) (defBody s_law_draw) (defScope s_law_draw) .none kV3 dc3 pm3 an3 cd3 ct3), sl3⟩) (c3 : PySem.W.codeIn K cd3 "_law_draw" = true) (k3 : PySem.W.keepIn K (.ref f3) = true)
    (a4 : PySem.W.nsIn K mainGlobals "_law_chosen" = some (some (.ref f4))) (l4 : K.lookup f4 = some ⟨oc4, od4, .func (PySem.W.fnOf "_law_chosen" "_law_chosen" (defArgs s_law_chosen) (defBody s_law_chosen) (defScope s_law_chosen) .none kV4 dc4 pm4 an4 cd4 ct4), sl4⟩) (c4 : PySem.W.codeIn K cd4 "_law_chosen" = true) (k4 : PySem.W.keepIn K (.ref f4) = true)
    (a5 : PySem.W.nsIn K mainGlobals "_law_gone" = some (some (.ref f5))) (l5 : K.lookup f5 = some ⟨oc5, od5, .func (PySem.W.fnOf "_law_gone" "_law_gone" (defArgs s_law_gone) (defBody s_law_gone) (defScope s_law_gone) .none kV5 dc5 pm5 an5 cd5 ct5), sl5⟩) (c5 : PySem.W.codeIn K cd5 "_law_gone" = true) (k5 : PySem.W.keepIn K (.ref f5) = true)
    (a6 : PySem.W.nsIn K mainGlobals "_law_dropped" = some (some (.ref f6))) (l6 : K.lookup f6 = some ⟨oc6, od6, .func (PySem.W.fnOf "_law_dropped" "_law_dropped" (defArgs s_law_dropped) (defBody s_law_dropped) (defScope s_law_dropped) .none kV6 dc6 pm6 an6 cd6 ct6), sl6⟩) (c6 : PySem.W.codeIn K cd6 "_law_dropped" = true) (k6 : PySem.W.keepIn K (.ref f6) = true)
    (a7 : PySem.W.nsIn K mainGlobals "_law_made" = some (some (.ref f7))) (l7 : K.lookup f7 = some ⟨oc7, od7, .func (PySem.W.fnOf "_law_made" "_law_made" (defArgs s_law_made) (defBody s_law_made) (defScope s_law_made) .none kV7 dc7 pm7 an7 cd7 ct7), sl7⟩) (c7 : PySem.W.codeIn K cd7 "_law_made" = true) (k7 : PySem.W.keepIn K (.ref f7) = true)
    (a8 : PySem.W.nsIn K mainGlobals "_law_woken" = some (some (.ref f8))) (l8 : K.lookup f8 = some ⟨oc8, od8, .func (PySem.W.fnOf "_law_woken" "_law_woken" (defArgs s_law_woken) (defBody s_law_woken) (defScope s_law_woken) .none kV8 dc8 pm8 an8 cd8 ct8), sl8⟩) (c8 : PySem.W.codeIn K cd8 "_law_woken" = true) (k8 : PySem.W.keepIn K (.ref f8) = true)
    (a9 : PySem.W.nsIn K mainGlobals "_law_carried" = some (some (.ref f9))) (l9 : K.lookup f9 = some ⟨oc9, od9, .func (PySem.W.fnOf "_law_carried" "_law_carried" (defArgs s_law_carried) (defBody s_law_carried) (defScope s_law_carried) .none kV9 dc9 pm9 an9 cd9 ct9), sl9⟩) (c9 : PySem.W.codeIn K cd9 "_law_carried" = true) (k9 : PySem.W.keepIn K (.ref f9) = true)
    (a10 : PySem.W.nsIn K mainGlobals "_law_message" = some (some (.ref f10))) (l10 : K.lookup f10 = some ⟨oc10, od10, .func (PySem.W.fnOf "_law_message" "_law_message" (defArgs s_law_message) (defBody s_law_message) (defScope s_law_message) .none kV10 dc10 pm10 an10 cd10 ct10), sl10⟩) (c10 : PySem.W.codeIn K cd10 "_law_message" = true) (k10 : PySem.W.keepIn K (.ref f10) = true)
    (a11 : PySem.W.nsIn K mainGlobals "_law_deed" = some (some (.ref f11))) (l11 : K.lookup f11 = some ⟨oc11, od11, .func (PySem.W.fnOf "_law_deed" "_law_deed" (defArgs s_law_deed) (defBody s_law_deed) (defScope s_law_deed) .none kV11 dc11 pm11 an11 cd11 ct11), sl11⟩) (c11 : PySem.W.codeIn K cd11 "_law_deed" = true) (k11 : PySem.W.keepIn K (.ref f11) = true)
    (a12 : PySem.W.nsIn K mainGlobals "_law_other" = some (some (.ref f12))) (l12 : K.lookup f12 = some ⟨oc12, od12, .func (PySem.W.fnOf "_law_other" "_law_other" (defArgs s_law_other) (defBody s_law_other) (defScope s_law_other) .none kV12 dc12 pm12 an12 cd12 ct12), sl12⟩) (c12 : PySem.W.codeIn K cd12 "_law_other" = true) (k12 : PySem.W.keepIn K (.ref f12) = true)
    (a13 : PySem.W.nsIn K mainGlobals "_law_is_integer" = some (some (.ref f13))) (l13 : K.lookup f13 = some ⟨oc13, od13, .func (PySem.W.fnOf "_law_is_integer" "_law_is_integer" (defArgs s_law_is_integer) (defBody s_law_is_integer) (defScope s_law_is_integer) .none kV13 dc13 pm13 an13 cd13 ct13), sl13⟩) (c13 : PySem.W.codeIn K cd13 "_law_is_integer" = true) (k13 : PySem.W.keepIn K (.ref f13) = true)
    (a14 : PySem.W.nsIn K mainGlobals "law" = some (some (.ref f14))) (l14 : K.lookup f14 = some ⟨oc14, od14, .func (PySem.W.fnOf "law" "law" (defArgs s_law) (defBody s_law) (defScope s_law) .none kV14 dc14 pm14 an14 cd14 ct14), sl14⟩) (c14 : PySem.W.codeIn K cd14 "law" = true) (k14 : PySem.W.keepIn K (.ref f14) = true)
    (ka_PASSING : PySem.W.nsIn K mainGlobals "PASSING" = some (some (.ref aK_PASSING))) (kl_PASSING : K.lookup aK_PASSING = some ⟨.type "tuple", dd_PASSING, .seq its_PASSING n_PASSING, sl_PASSING⟩) (kv_PASSING : its_PASSING.toList.map absV = ([.str "send", .str "take", .str "trysend", .str "trytake", .str "reply"] : List V).map some)
    (ka_WORDS_OF_A_MESSAGE : PySem.W.nsIn K mainGlobals "WORDS_OF_A_MESSAGE" = some (some (.int 3 tk_WORDS_OF_A_MESSAGE)))
    (ka_WORDS_OF_A_PAGE : PySem.W.nsIn K mainGlobals "WORDS_OF_A_PAGE" = some (some (.int 8 tk_WORDS_OF_A_PAGE)))
    (z_any : PySem.W.nsIn K mainGlobals "any" = some none)
    (z_bool : PySem.W.nsIn K mainGlobals "bool" = some none)
    (z_int : PySem.W.nsIn K mainGlobals "int" = some none)
    (z_isinstance : PySem.W.nsIn K mainGlobals "isinstance" = some none)
    (z_len : PySem.W.nsIn K mainGlobals "len" = some none)
    (z_range : PySem.W.nsIn K mainGlobals "range" = some none)
    (z_sum : PySem.W.nsIn K mainGlobals "sum" = some none)
    (z_tuple : PySem.W.nsIn K mainGlobals "tuple" = some none) :
    ∃ fd : FuncData, (∀ (s : Shared) (v : Value), BindsTo s fd ⟨[v], []⟩ [("script", v)]) ∧ ∀ base : Heap, K.In base → base.Ns mainGlobals mg → FnOk l.prog w K mg base CX0 6 fa fd ["script"] (spLaw K) := by
  have e := hfa.symm.trans (PySem.W.mg_of X G a14)
  cases e
  have F0 := fun_mk (st := s_has_passed_on) l0 c0 k0
  have F1 := fun_mk (st := s_work) l1 c1 k1
  have F2 := fun_mk (st := s_law_box) l2 c2 k2
  have F3 := fun_mk (st := s_law_draw) l3 c3 k3
  have F4 := fun_mk (st := s_law_chosen) l4 c4 k4
  have F5 := fun_mk (st := s_law_gone) l5 c5 k5
  have F6 := fun_mk (st := s_law_dropped) l6 c6 k6
  have F7 := fun_mk (st := s_law_made) l7 c7 k7
  have F8 := fun_mk (st := s_law_woken) l8 c8 k8
  have F9 := fun_mk (st := s_law_carried) l9 c9 k9
  have F10 := fun_mk (st := s_law_message) l10 c10 k10
  have F11 := fun_mk (st := s_law_deed) l11 c11 k11
  have F12 := fun_mk (st := s_law_other) l12 c12 k12
  have F13 := fun_mk (st := s_law_is_integer) l13 c13 k13
  have F14 := fun_mk (st := s_law) l14 c14 k14
  have T : Tx K mg := {
    f_has_passed_on := f0, fd_has_passed_on := _, F_has_passed_on := F0, b_has_passed_on := F0.binds (ps := ["name", "answer", "effects"]) fun _ _ _ _ _ _ us hl => match us, hl with | [_, _, _], _ => rfl, g_has_passed_on := PySem.W.mg_of X G a0,
    f_work := f1, fd_work := _, F_work := F1, b_work := F1.binds (ps := ["record"]) fun _ _ _ _ _ _ us hl => match us, hl with | [_], _ => rfl, g_work := PySem.W.mg_of X G a1,
    f_law_box := f2, fd_law_box := _, F_law_box := F2, b_law_box := F2.binds (ps := ["script"]) fun _ _ _ _ _ _ us hl => match us, hl with | [_], _ => rfl, g_law_box := PySem.W.mg_of X G a2,
    f_law_draw := f3, fd_law_draw := _, F_law_draw := F3, b_law_draw := F3.binds (ps := ["box", "many"]) fun _ _ _ _ _ _ us hl => match us, hl with | [_, _], _ => rfl, g_law_draw := PySem.W.mg_of X G a3,
    f_law_chosen := f4, fd_law_chosen := _, F_law_chosen := F4, b_law_chosen := F4.binds (ps := ["box", "most"]) fun _ _ _ _ _ _ us hl => match us, hl with | [_, _], _ => rfl, g_law_chosen := PySem.W.mg_of X G a4,
    f_law_gone := f5, fd_law_gone := _, F_law_gone := F5, b_law_gone := F5.binds (ps := ["box", "name"]) fun _ _ _ _ _ _ us hl => match us, hl with | [_, _], _ => rfl, g_law_gone := PySem.W.mg_of X G a5,
    f_law_dropped := f6, fd_law_dropped := _, F_law_dropped := F6, b_law_dropped := F6.binds (ps := ["box", "process"]) fun _ _ _ _ _ _ us hl => match us, hl with | [_, _], _ => rfl, g_law_dropped := PySem.W.mg_of X G a6,
    f_law_made := f7, fd_law_made := _, F_law_made := F7, b_law_made := F7.binds (ps := ["box", "process"]) fun _ _ _ _ _ _ us hl => match us, hl with | [_, _], _ => rfl, g_law_made := PySem.W.mg_of X G a7,
    f_law_woken := f8, fd_law_woken := _, F_law_woken := F8, b_law_woken := F8.binds (ps := ["box"]) fun _ _ _ _ _ _ us hl => match us, hl with | [_], _ => rfl, g_law_woken := PySem.W.mg_of X G a8,
    f_law_carried := f9, fd_law_carried := _, F_law_carried := F9, b_law_carried := F9.binds (ps := ["box", "way"]) fun _ _ _ _ _ _ us hl => match us, hl with | [_, _], _ => rfl, g_law_carried := PySem.W.mg_of X G a9,
    f_law_message := f10, fd_law_message := _, F_law_message := F10, b_law_message := F10.binds (ps := ["box", "name", "way"]) fun _ _ _ _ _ _ us hl => match us, hl with | [_, _, _], _ => rfl, g_law_message := PySem.W.mg_of X G a10,
    f_law_deed := f11, fd_law_deed := _, F_law_deed := F11, b_law_deed := F11.binds (ps := ["box", "name", "process"]) fun _ _ _ _ _ _ us hl => match us, hl with | [_, _, _], _ => rfl, g_law_deed := PySem.W.mg_of X G a11,
    f_law_other := f12, fd_law_other := _, F_law_other := F12, b_law_other := F12.binds (ps := ["box", "sort"]) fun _ _ _ _ _ _ us hl => match us, hl with | [_, _], _ => rfl, g_law_other := PySem.W.mg_of X G a12,
    f_law_is_integer := f13, fd_law_is_integer := _, F_law_is_integer := F13, b_law_is_integer := F13.binds (ps := ["told"]) fun _ _ _ _ _ _ us hl => match us, hl with | [_], _ => rfl, g_law_is_integer := PySem.W.mg_of X G a13,
    a_PASSING := aK_PASSING, g_PASSING := PySem.W.mg_of X G ka_PASSING, q_PASSING := fun H => sqt_k kl_PASSING kv_PASSING (by decide) H,
    t_WORDS_OF_A_MESSAGE := tk_WORDS_OF_A_MESSAGE, g_WORDS_OF_A_MESSAGE := PySem.W.mg_of X G ka_WORDS_OF_A_MESSAGE,
    t_WORDS_OF_A_PAGE := tk_WORDS_OF_A_PAGE, g_WORDS_OF_A_PAGE := PySem.W.mg_of X G ka_WORDS_OF_A_PAGE,
    n_any := PySem.W.mg_none_of X G z_any,
    n_bool := PySem.W.mg_none_of X G z_bool,
    n_int := PySem.W.mg_none_of X G z_int,
    n_isinstance := PySem.W.mg_none_of X G z_isinstance,
    n_len := PySem.W.mg_none_of X G z_len,
    n_range := PySem.W.mg_none_of X G z_range,
    n_sum := PySem.W.mg_none_of X G z_sum,
    n_tuple := PySem.W.mg_none_of X G z_tuple }
  exact ⟨PySem.W.fnOf "law" "law" (defArgs s_law) (defBody s_law) (defScope s_law) .none kV14 dc14 pm14 an14 cd14 ct14, fun s v => .of_eq rfl, fun base _ _ => ok_law_at T F14⟩
end K49

open PySem PySem.W PyProof.Rows in
set_option maxRecDepth 100000 in
set_option maxHeartbeats 0 in
theorem PySem.Challenge.cw_capstead_k49_work_of_records_holds : PySem.Challenge.rw_capstead_k49_work_of_records.Holds := by
  w_on; o_law; k_head; (case hw => w_witness2)
  k_fill
  refine L2.walk_ofK (l := PySem.Challenge.rw_capstead_k49_work_of_records) (n := 63) (k := 6) (x := "script") (CX := L2.CX0) (sp := K49.spLaw) rfl (by decide) rfl ⟨rfl, by decide, by decide⟩ (fun w h Y => PySem.W.kIn_of Y) ?F (fun _ _ a ns hl _ hS => ⟨a, ns, rfl, hS, hl, fun _ => rfl⟩) fun _ _ _ _ z => z
  case F =>
    intro w mg fa h KX G hmg
    refine' K49.all_mk KX G hmg ?a0 ?l0 ?c0 ?k0 ?a1 ?l1 ?c1 ?k1 ?a2 ?l2 ?c2 ?k2 ?a3 ?l3 ?c3 ?k3 ?a4 ?l4 ?c4 ?k4 ?a5 ?l5 ?c5 ?k5 ?a6 ?l6 ?c6 ?k6 ?a7 ?l7 ?c7 ?k7 ?a8 ?l8 ?c8 ?k8 ?a9 ?l9 ?c9 ?k9 ?a10 ?l10 ?c10 ?k10 ?a11 ?l11 ?c11 ?k11 ?a12 ?l12 ?c12 ?k12 ?a13 ?l13 ?c13 ?k13 ?a14 ?l14 ?c14 ?k14 ?ka_PASSING ?kl_PASSING ?kv_PASSING ?ka_WORDS_OF_A_MESSAGE ?ka_WORDS_OF_A_PAGE ?z_any ?z_bool ?z_int ?z_isinstance ?z_len ?z_range ?z_sum ?z_tuple
    (case a0 => k_is)
    (case l0 => k_is)
    (case c0 => k_is)
    (case k0 => k_is)
    (case a1 => k_is)
    (case l1 => k_is)
    (case c1 => k_is)
    (case k1 => k_is)
    (case a2 => k_is)
    (case l2 => k_is)
    (case c2 => k_is)
    (case k2 => k_is)
    (case a3 => k_is)
    (case l3 => k_is)
    (case c3 => k_is)
    (case k3 => k_is)
    (case a4 => k_is)
    (case l4 => k_is)
    (case c4 => k_is)
    (case k4 => k_is)
    (case a5 => k_is)
    (case l5 => k_is)
    (case c5 => k_is)
    (case k5 => k_is)
    (case a6 => k_is)
    (case l6 => k_is)
    (case c6 => k_is)
    (case k6 => k_is)
    (case a7 => k_is)
    (case l7 => k_is)
    (case c7 => k_is)
    (case k7 => k_is)
    (case a8 => k_is)
    (case l8 => k_is)
    (case c8 => k_is)
    (case k8 => k_is)
    (case a9 => k_is)
    (case l9 => k_is)
    (case c9 => k_is)
    (case k9 => k_is)
    (case a10 => k_is)
    (case l10 => k_is)
    (case c10 => k_is)
    (case k10 => k_is)
    (case a11 => k_is)
    (case l11 => k_is)
    (case c11 => k_is)
    (case k11 => k_is)
    (case a12 => k_is)
    (case l12 => k_is)
    (case c12 => k_is)
    (case k12 => k_is)
    (case a13 => k_is)
    (case l13 => k_is)
    (case c13 => k_is)
    (case k13 => k_is)
    (case a14 => k_is)
    (case l14 => k_is)
    (case c14 => k_is)
    (case k14 => k_is)
    (case ka_PASSING => k_is)
    (case kl_PASSING => k_is)
    (case kv_PASSING => decide +kernel)
    (case ka_WORDS_OF_A_MESSAGE => k_is)
    (case ka_WORDS_OF_A_PAGE => k_is)
    (case z_any => k_is)
    (case z_bool => k_is)
    (case z_int => k_is)
    (case z_isinstance => k_is)
    (case z_len => k_is)
    (case z_range => k_is)
    (case z_sum => k_is)
    (case z_tuple => k_is)

