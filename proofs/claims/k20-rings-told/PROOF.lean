import PyProof.Rows.All
import Wide.All
import OpenK.AllK
import Wide.FinOn
import HandS.ForMost
import HandS.ForExc
import HandS.Style
import HandS.IsInst
import HandS.Evl
import HandS.More
import HandS.Deep
import HandS.Wide
import HandS.Conv
import HandS.TupLen
import HandS.Text
import HandS.WordsExc
import HandS.WordsDict
import HandS.Codes
import PyProof.StrBlock2
import HandS.SortInts
import HandS.ExcIs
import HandS.Lambda
import HandS.Nested
import HandS.Replace
import KE.KDictDisplayH
import KE.DataFind
import KE.KEqDict
import PySem.Challenge.RW_lazycols_k20_rings_told
set_option Elab.async false
set_option linter.all false
set_option autoImplicit false
set_option maxRecDepth 100000
set_option maxHeartbeats 4000000
namespace Z
open PySem PySem.Spec PyProof.Rows L2 Evl

/-! ### one rule for each operator, whatever the kinds -/
def rSubA : R2 := rI0 fun i j => .int (i - j)
def rLtA : R2 := rI0 fun i j => .bl (decide (i < j))
def rLeA : R2 := rI0 fun i j => .bl (decide (i ≤ j))
def rGtA : R2 := rI0 fun i j => .bl (decide (j < i))
def rGeA : R2 := rI0 fun i j => .bl (decide (j ≤ i))
def rModA : R2 := rI (fun _ j => j ≠ 0) fun i j => .int (i.fmod j)
def rPowA : R2 := rI CPow fun i j => .int (i ^ j.toNat)
def rNegA : V → Hp → VK → Prop := rU fun i => .int (-i)
def rAddI : R2 := rI0 fun i j => .int (i + j)
def rAddS : R2 := fun x y H Q => ∃ i j, x = .str i ∧ y = .str j ∧ i.length + j.length ≤ sizeLine ∧ Q (.str (i ++ j)) H
def rAddA (K : PySem.W.Frag) : R2 := fun x y H Q => rAddI x y H Q ∨ rAddS x y H Q ∨ rCat x y H Q ∨ rCatT K x y H Q
/-- a text n times -/
def repS (a : Str) (n : Int) : Str := SX.S (List.replicate n.toNat a.cps.toList).flatten
def rRepS : R2 := fun x y H Q => ∃ (a : Str) (n : Int), x = .str a ∧ y = .int n ∧ a.length ≤ 4000 ∧ -1000 ≤ n ∧ n ≤ 4000 ∧ Q (.str (repS a n)) H
def rMulA (K : PySem.W.Frag) : R2 := fun x y H Q => rI CMulW (fun i j => .int (i * j)) x y H Q ∨ rRep x y H Q ∨ rRepS x y H Q
def rDivA : R2 := fun x y H Q => rI CDivN (fun i j => .int (i.fdiv j)) x y H Q ∨ rI CDivW (fun i j => .int (i / j)) x y H Q
/-- two dicts: of unlike sizes, or with the same things at the same keys -/
def sameV (x : V) : Prop := flatB x = true ∨ ∃ a, x = .ref a
def rEqKn (neg : Bool) : R2 := fun x y H Q => ∃ a b ks ls, x = .ref a ∧ y = .ref b ∧ H a = some (.dK ks) ∧ H b = some (.dK ls) ∧ (ks.length = ls.length → ∀ p ∈ ks, valV ls p.1 = some p.2 ∧ sameV p.2) ∧ Q (.bl (if neg then !decide (ks.length = ls.length) else decide (ks.length = ls.length))) H
/-- a list and an empty list -/
def rEqLn (neg : Bool) : R2 := fun x y H Q => ∃ a b xs, x = .ref a ∧ y = .ref b ∧ H a = some (.lst xs) ∧ H b = some (.lst []) ∧ Q (.bl (if neg then !decide (xs.length = 0) else decide (xs.length = 0))) H
def rEqA (K : PySem.W.Frag) : R2 := fun x y H Q => rEq x y H Q ∨ rEqD K x y H Q ∨ rEqKn false x y H Q ∨ rEqLn false x y H Q
def rNeA (K : PySem.W.Frag) : R2 := fun x y H Q => rNe x y H Q ∨ rNeD K x y H Q ∨ rEqKn true x y H Q ∨ rEqLn true x y H Q
def rInDict (neg : Bool) : R2 := fun x y H Q => ∃ a o, y = .ref a ∧ DGet H a x o ∧ Q (.bl (if neg then !o.isSome else o.isSome)) H
def rInStr (neg : Bool) : R2 := fun x y H Q => ∃ (c : Nat) (z : Str), x = .str ⟨#[c]⟩ ∧ y = .str z ∧ Q (.bl (if neg then !decide (c ∈ z.cps.toList) else decide (c ∈ z.cps.toList))) H
def rInA (K : PySem.W.Frag) : R2 := fun x y H Q => rInStr false x y H Q ∨ rInDict false x y H Q ∨ rIn K false x y H Q ∨ rInD K x y H Q
def rNinA (K : PySem.W.Frag) : R2 := fun x y H Q => rInStr true x y H Q ∨ rInDict true x y H Q ∨ rIn K true x y H Q ∨ rNotInD K x y H Q
def rIsA : R2 := fun x y H Q => (y = .non ∧ Q (.bl (decide (x = .non))) H) ∨ rIsB x y H Q
def rIsnA : R2 := fun x y H Q => (y = .non ∧ Q (.bl (!decide (x = .non))) H) ∨ rNotB x y H Q
def rIxD : R2 := fun x y H Q => ∃ a v, x = .ref a ∧ DGet H a y (some v) ∧ Q v H
def rIxA (K : PySem.W.Frag) : R2 := fun x y H Q => rIx K x y H Q ∨ rIxD x y H Q
def rSetA : V → V → V → Hp → (Hp → Prop) → Prop := fun o i v H Q => rSetL o i v H Q ∨ ∃ a H', o = .ref a ∧ DPut H a i v H' ∧ Q H'
def rSlS : V → Option Int → Option Int → Hp → VK → Prop := fun x lo hi H Q => ∃ z, x = .str z ∧ z.length ≤ sizeLine ∧ Q (.str (cutS z lo hi)) H
def rSlA (K : PySem.W.Frag) : V → Option Int → Option Int → Hp → VK → Prop := fun x lo hi H Q => rSlL K x lo hi H Q ∨ rSlT K x lo hi H Q ∨ rSlS x lo hi H Q
def rLenD : List V → Hp → VK → Prop := fun xs H Q => ∃ a kvs, xs = [V.ref a] ∧ H a = some (.dK kvs) ∧ Q (.int kvs.length) H
def rLenA (K : PySem.W.Frag) : List V → Hp → VK → Prop := fun xs H Q => rLen K xs H Q ∨ rLenD xs H Q ∨ rLenT xs H Q
def rAbsA : List V → Hp → VK → Prop := fun xs H Q => ∃ i, xs = [V.int i] ∧ Q (.int (if i < 0 then -i else i)) H
def rStrA : List V → Hp → VK → Prop := fun xs H Q => ∃ i : Int, xs = [V.int i] ∧ i.natAbs.log2 < 1920 ∧ Q (.str (toString i)) H
def rIsiA (K : PySem.W.Frag) : List V → Hp → VK → Prop := fun xs H Q => rIsi K xs H Q ∨ rIsiT K xs H Q
def rListA (K : PySem.W.Frag) : List V → Hp → VK → Prop := fun xs H Q => (∃ p ys, xs = [V.ref p] ∧ (SqL K H p ys ∨ SqT K H p ys) ∧ ∀ l, H l = none → Q (.ref l) (upd H l (.lst ys))) ∨
  ∃ (a : Addr) (kvs : List (Key × V)), xs = [V.ref a] ∧ Rd H a (.dK kvs) ∧ ∀ p, H p = none → Q (.ref p) (upd H p (.lst (kvs.map fun kv => kV kv.1)))
def rDictA : List V → Hp → VK → Prop := fun xs H Q => ∃ (a : Addr) (kvs : List (Key × V)), xs = [V.ref a] ∧ Rd H a (.dK kvs) ∧ ∀ p, H p = none → Q (.ref p) (upd H p (.dK kvs))
def rInsA : V → List V → Hp → VK → Prop := fun x vs H Q => ∃ (l : Addr) (xs : List V) (i : Int) (y : V), x = .ref l ∧ vs = [.int i, y] ∧ H l = some (.lst xs) ∧ xs.length < sizeLine ∧ 0 ≤ i ∧ i < 2 ^ 63 ∧ Q .non (upd H l (.lst (xs.take i.toNat ++ [y] ++ xs.drop i.toNat)))
def rIntA : List V → Hp → VK → Prop := fun xs H Q => (∃ i, xs = [V.int i] ∧ Q (.int i) H) ∨ (∃ k, xs = [V.bl k] ∧ Q (.int (if k then 1 else 0)) H) ∨ ∃ a n, xs = [V.str a] ∧ PySem.intText? a = some n ∧ a.length ≤ 640 ∧ Q (.int n) H
section
variable {X : Cx}
theorem op_addA : OpR X (binaryOp .Add) (rAddA X.K) := op_add.or (op_add_str.or (op_cat.or op_catT))
theorem foldl_cps (l : List (Array Nat)) (acc : Array Nat) : (l.foldl (· ++ ·) acc).toList = acc.toList ++ (l.map (·.toList)).flatten := by
  induction l generalizing acc with
  | nil => simp
  | cons a r ih => rw [List.foldl_cons, ih, Array.toList_append, List.map_cons, List.flatten_cons, List.append_assoc]
theorem mul_repS (a : Str) (n : Int) : Txt.mul a n = repS a n := by
  have g : ∀ x y : Str, x.cps.toList = y.cps.toList → x = y := fun x y h => by
    obtain ⟨⟨x⟩⟩ := x
    obtain ⟨⟨y⟩⟩ := y
    have h : x = y := h
    rw [h]
  refine g _ _ ?_
  unfold Txt.mul repS
  by_cases h1 : n < 1
  · rw [if_pos h1, show n.toNat = 0 by omega]
    rfl
  · rw [if_neg h1]
    by_cases h2 : (n == 1 || a.length == 0) = true
    · rw [if_pos h2]
      rcases Bool.or_eq_true_iff.mp h2 with h | h
      · have h : n = 1 := by simpa using h
        subst h
        simp
      · have h : a.length = 0 := by simpa using h
        have e : a.cps.toList = [] := by
          have h : a.cps.size = 0 := h
          have : a.cps.toList.length = 0 := by simpa using h
          exact List.eq_nil_of_length_eq_zero this
        rw [e]
        simp
    · rw [if_neg h2]
      show (List.foldl (· ++ ·) #[] (List.replicate n.toNat a.cps)).toList = _
      rw [foldl_cps, List.map_replicate]
      simp
theorem op_repS : OpR X (binaryOp .Mult) rRepS := by
  intro pins s σ H x y v u Q I rx ry h
  obtain ⟨a, n, rfl, rfl, ha, hn, hm, q⟩ := h
  obtain ⟨t, rfl⟩ := rx
  obtain ⟨t', rfl⟩ := ry
  have hb : a.length * n.toNat ≤ 16000000 := Nat.le_trans (Nat.mul_le_mul ha (show n.toNat ≤ 4000 by omega)) (by decide)
  refine SB.mul ⟨?_, fun h1 _ => ?_, fun _ _ => ?_⟩ fun t2 k => ⟨.str (repS a n), H, I.tok k, ⟨t2, by rw [mul_repS]⟩, q⟩
  · rw [decide_eq_false (by omega), decide_eq_false (by omega)]
    rfl
  · have h2 : (9223372036854775807 : Int) / 4000 ≤ 9223372036854775807 / n := by
      refine (Int.le_ediv_iff_mul_le (by omega)).mpr ?_
      omega
    have h3 : (2 ^ 63 - 1 : Int) = 9223372036854775807 := rfl
    rw [h3]
    omega
  · unfold Builtin.Str.tooLong
    refine decide_eq_false ?_
    have : sizeLine = 16777216 := sizeLine_eq
    omega
theorem op_mulA : OpR X (binaryOp .Mult) (rMulA X.K) := op_mulW.or (op_rep.or op_repS)
theorem op_fdivA : OpR X (binaryOp .FloorDiv) rDivA := op_fdivN.or op_fdivW
theorem K_sq {K : PySem.W.Frag} {H : Hp} {a : Addr} {xs : List V} (h : H a = some (.lst xs)) : SqL K H a xs := sq_of h
theorem hits_same {A : Around} {s : Shared} {kvs : List (Key × V)} {vb : List (Key × Value)} (rb : KV kvs vb) {ks : List (Key × V)} {va : List (Key × Value)} (ra : KV ks va) :
    (∀ p ∈ ks, valV kvs p.1 = some p.2 ∧ sameV p.2) → PySem.W.KeqHits A s vb va true := by
  unfold KV at ra
  induction ra with
  | nil => intro _; exact .nil
  | @cons p q ps qs h t ih =>
    intro hp
    obtain ⟨h1, h2⟩ := h
    obtain ⟨e, f⟩ := hp p List.mem_cons_self
    have rr : RelO (some p.2) (valueAt vb p.1) := by rw [← e]; exact rb.val p.1
    obtain ⟨y, hy, ry⟩ := rr.some_of
    obtain ⟨k, v⟩ := q
    have h1' : p.1 = k := h1
    rw [h1'] at hy
    show PySem.W.KeqHits A s vb ((k, v) :: qs) (true && true)
    refine .hit hy ?_ (ih fun p' hm => hp p' (List.mem_cons_of_mem _ hm))
    rcases f with f | ⟨a, ea⟩
    · exact eqAt_same h2 ry f
    · have h2 : RelV p.2 v := h2
      rw [ea] at h2 ry
      cases (show v = Value.ref a from h2)
      cases (show y = Value.ref a from ry)
      exact SeqAt.EqAt.same _
theorem op_eqKn (hu : X.A.units < cLine) : OpR X (compareOp .Eq) (rEqKn false) := by
  intro pins s σ H x y v u Q I rx ry h
  obtain ⟨a, b, ks, ls, rfl, rfl, ea, eb, hp, q⟩ := h
  obtain rfl : v = Value.ref a := rx
  obtain rfl : u = Value.ref b := ry
  obtain ⟨_, ya, va, ra, da⟩ := (show ObjOk X.prog X.w H s.heap a (.dK ks) from I.hok a _ ea)
  obtain ⟨_, yb, vb, rb, db⟩ := (show ObjOk X.prog X.w H s.heap b (.dK ls) from I.hok b _ eb)
  have la : ks.length = va.length := ra.length
  have lb : ls.length = vb.length := rb.length
  exact PySem.W.keq_eq (knd := mixKind X.prog X.w) (r := true) ya yb da db hu (fun e => hits_same rb ra (hp (by omega))) (fin_bl I q (by rw [la, lb]; simp only [Bool.and_true, Bool.false_eq_true, if_false, if_true]; rfl))
theorem op_neKn (hu : X.A.units < cLine) : OpR X (compareOp .NotEq) (rEqKn true) := by
  intro pins s σ H x y v u Q I rx ry h
  obtain ⟨a, b, ks, ls, rfl, rfl, ea, eb, hp, q⟩ := h
  obtain rfl : v = Value.ref a := rx
  obtain rfl : u = Value.ref b := ry
  obtain ⟨_, ya, va, ra, da⟩ := (show ObjOk X.prog X.w H s.heap a (.dK ks) from I.hok a _ ea)
  obtain ⟨_, yb, vb, rb, db⟩ := (show ObjOk X.prog X.w H s.heap b (.dK ls) from I.hok b _ eb)
  have la : ks.length = va.length := ra.length
  have lb : ls.length = vb.length := rb.length
  exact PySem.W.keq_ne (knd := mixKind X.prog X.w) (r := true) ya yb da db hu (fun e => hits_same rb ra (hp (by omega))) (fin_bl I q (by rw [la, lb]; simp only [Bool.and_true, Bool.false_eq_true, if_false, if_true]; rfl))
theorem op_eqLn (hu : X.A.units < cLine) : OpR X (compareOp .Eq) (rEqLn false) := by
  intro pins s σ H x y v u Q I rx ry h
  obtain ⟨a, b, xs, rfl, rfl, ha, hb, q⟩ := h
  obtain rfl : v = Value.ref a := rx
  obtain rfl : u = Value.ref b := ry
  obtain ⟨us, r1, p1, _⟩ := I.list (K_sq ha)
  obtain ⟨ws, r2, p2, _⟩ := I.list (K_sq hb)
  have l1 := r1.length
  have l2 := r2.length
  rw [List.length_nil] at l2
  by_cases hz : xs.length = 0
  · have hsz : us.toArray.size = ws.toArray.size := by rw [List.size_toArray, List.size_toArray]; omega
    refine SeqAt.RcAt.lists (e := fun _ => true) p1.isList p2.isList hsz hu (fun j h1 _ => absurd h1 (by rw [List.size_toArray]; omega)) _ _ _ _ ⟨.bl true, H, I, ?_, ?_⟩
    · show Value.bool ((List.range us.toArray.size).all fun _ => true) = Value.bool true
      congr 1
      exact List.all_eq_true.mpr fun _ _ => rfl
    · rw [show (if false = true then !decide (xs.length = 0) else decide (xs.length = 0)) = true from decide_eq_true hz] at q
      exact q
  · refine SeqAt.RcAt.lists_lengths p1.isList p2.isList (by rw [List.size_toArray, List.size_toArray, ← l2, ← l1]; simpa using hz) hu _ _ _ _ ⟨.bl false, H, I, rfl, ?_⟩
    rw [show (if false = true then !decide (xs.length = 0) else decide (xs.length = 0)) = false from decide_eq_false hz] at q
    exact q
theorem op_neLn (hu : X.A.units < cLine) : OpR X (compareOp .NotEq) (rEqLn true) := by
  intro pins s σ H x y v u Q I rx ry h
  obtain ⟨a, b, xs, rfl, rfl, ha, hb, q⟩ := h
  obtain rfl : v = Value.ref a := rx
  obtain rfl : u = Value.ref b := ry
  obtain ⟨us, r1, p1, _⟩ := I.list (K_sq ha)
  obtain ⟨ws, r2, p2, _⟩ := I.list (K_sq hb)
  have l1 := r1.length
  have l2 := r2.length
  rw [List.length_nil] at l2
  by_cases hz : xs.length = 0
  · have hsz : us.toArray.size = ws.toArray.size := by rw [List.size_toArray, List.size_toArray]; omega
    refine SeqAt.RcNeAt.lists (e := fun _ => true) p1.isList p2.isList hsz hu (fun j h1 _ => absurd h1 (by rw [List.size_toArray]; omega)) _ _ _ _ ⟨.bl false, H, I, ?_, ?_⟩
    · show Value.bool (!(List.range us.toArray.size).all fun _ => true) = Value.bool false
      congr 1
      rw [show ((List.range us.toArray.size).all fun _ => true) = true from List.all_eq_true.mpr fun _ _ => rfl]
      rfl
    · rw [show (if true = true then !decide (xs.length = 0) else decide (xs.length = 0)) = false from by rw [if_pos rfl, decide_eq_true hz]; rfl] at q
      exact q
  · refine SeqAt.RcNeAt.lists_lengths p1.isList p2.isList (by rw [List.size_toArray, List.size_toArray, ← l2, ← l1]; simpa using hz) hu _ _ _ _ ⟨.bl true, H, I, rfl, ?_⟩
    rw [show (if true = true then !decide (xs.length = 0) else decide (xs.length = 0)) = true from by rw [if_pos rfl, decide_eq_false hz]; rfl] at q
    exact q
theorem op_eqA (hu : X.A.units + 65 < cLine) : OpR X (compareOp .Eq) (rEqA X.K) := op_eq.or ((op_eqD (by omega)).or ((op_eqKn (by omega)).or (op_eqLn (by omega))))
theorem op_neA (hu : X.A.units + 65 < cLine) : OpR X (compareOp .NotEq) (rNeA X.K) := op_ne.or ((op_neD (by omega)).or ((op_neKn (by omega)).or (op_neLn (by omega))))
theorem op_inDict (hu : X.A.units + 65 < cLine) : OpR X (compareOp .In) (rInDict false) := by
  intro pins s σ H x y v u Q I rx ry h
  obtain ⟨a, o, rfl, g, q⟩ := h
  cases ry
  exact d_in (by omega) I g rx fun s' I' => ⟨.bl o.isSome, H, I', rfl, q⟩
theorem op_ninDict (hu : X.A.units + 65 < cLine) : OpR X (compareOp .NotIn) (rInDict true) := by
  intro pins s σ H x y v u Q I rx ry h
  obtain ⟨a, o, rfl, g, q⟩ := h
  cases ry
  exact d_notIn (by omega) I g rx fun s' I' => ⟨.bl (!o.isSome), H, I', rfl, q⟩
theorem op_inStr : OpR X (compareOp .In) (rInStr false) := op_in_sign
theorem op_ninStr : OpR X (compareOp .NotIn) (rInStr true) := op_notIn_sign
theorem op_inA (hu : X.A.units + 65 < cLine) : OpR X (compareOp .In) (rInA X.K) := op_inStr.or ((op_inDict hu).or (op_in_seq.or (op_inD hu)))
theorem op_ninA (hu : X.A.units + 65 < cLine) : OpR X (compareOp .NotIn) (rNinA X.K) := op_ninStr.or ((op_ninDict hu).or (op_notIn_seq.or (op_notInD hu)))
theorem op_isA : OpR X (compareOp .Is) rIsA := op_isN.or op_isBl
theorem op_isnA : OpR X (compareOp .IsNot) rIsnA := op_notN.or op_notBl
theorem ix_dict (hu : X.A.units + 65 < cLine) : IxR X rIxD := by
  intro value slice pins s σ H x y v u Q I rx ry h hs
  obtain ⟨a, w, rfl, g, q⟩ := h
  cases rx
  refine tail_any (dict_typeIs I g) PySem.F.slot_dict_getitem.lookup (d_getItem (by omega) I g ry fun w' s' I' r' => ⟨w, H, I', r', q⟩) hs
theorem ix_A (hu : X.A.units + 65 < cLine) : IxR X (rIxA X.K) := ix_seq.or (ix_dict hu)
theorem set_A (hu : X.A.units + 65 < cLine) : PSet X rSetA := by
  intro pins s σ H o i v ov iv u Q I ro ri rv h
  rcases h with h | ⟨a, H', rfl, g, q⟩
  · exact set_list pins s σ H o i v ov iv u Q I ro ri rv h
  · cases ro
    exact d_setItem (by omega) I g ri rv fun s' I' => ⟨H', I', q⟩
theorem sl_A : SlR X (rSlA X.K) := sl_list.or (sl_tup.or sl_str)
theorem call_lenA : CallR X (.builtin "len") (rLenA X.K) := call_len.or (call_lenD.or call_len_dT)
theorem call_isiA : CallR X (.builtin "isinstance") (rIsiA X.K) := call_isi.or call_isiT
theorem call_listA (hc : X.calm = true) : CallR X (.type "list") (rListA X.K) := call_list_of.or (call_listD hc)
theorem call_dictA (hc : X.calm = true) : CallR X (.type "dict") rDictA := call_dictD
theorem call_intA : CallR X (.type "int") rIntA := by
  intro pins s σ H xs us Q I r h
  rcases h with h | h | h
  · exact call_int1 pins s σ H xs us Q I r (.inl h)
  · exact call_int1 pins s σ H xs us Q I r (.inr h)
  · exact call_int_str pins s σ H xs us Q I r h
end
/-! ### built-in types of values -/
def tyO : Option HO → Option String
  | some (.lst _) => some "list"
  | some (.tup _) => some "tuple"
  | some (.dK _) => some "dict"
  | some (.dT _) => some "dict"
  | some (.frz _ (.lst _)) => some "list"
  | _ => none
def tyN (H : Hp) : V → Option String
  | .non => some "NoneType"
  | .bl _ => some "bool"
  | .int _ => some "int"
  | .str _ => some "str"
  | .ref a => tyO (H a)
  | _ => none
def kinds : List String := ["NoneType", "bool", "int", "str", "list", "tuple", "dict"]
def asked : List String := ["bool", "int", "str", "list", "tuple", "dict"]
def isiB (n c : String) : Bool := n == c || (n == "bool" && c == "int")
theorem tyN_ex {H H' : Hp} {x : V} {n : String} (e : Ex H H') (h : tyN H x = some n) : tyN H' x = some n := by
  cases x with
  | ref a =>
    have h : tyO (H a) = some n := h
    show tyO (H' a) = some n
    cases q : H a with
    | none => rw [q] at h; cases h
    | some o => rw [e a o q, ← q]; exact h
  | _ => exact h
theorem tyX_of {K : PySem.W.Frag} {H : Hp} {x : V} {n : String} (h : tyN H x = some n) : TyX K H x (.type n) := by
  cases x with
  | non => cases h; exact .base .non
  | bl b => cases h; exact .base (.bl b)
  | int i => cases h; exact .base (.int i)
  | str z => cases h; exact .base (.str z)
  | ref a =>
    have h : tyO (H a) = some n := h
    cases q : H a with
    | none => rw [q] at h; cases h
    | some o =>
      rw [q] at h
      unfold tyO at h
      split at h
      · rename_i w; cases w; cases h; exact .base (.lst q)
      · rename_i w; cases w; cases h; exact .base (.tup q)
      · rename_i w; cases w; cases h; exact .base (.dK q)
      · rename_i w; cases w; cases h; exact .base (.dT q)
      · rename_i w; cases w; cases h; exact .base (.frz q)
      · cases h
  | _ => cases h
theorem tyO_mem {o : Option HO} {n : String} (h : tyO o = some n) : n ∈ kinds := by
  unfold tyO at h
  split at h <;> first | (cases h; decide) | cases h
theorem tyN_mem {H : Hp} {x : V} {n : String} (h : tyN H x = some n) : n ∈ kinds := by
  cases x with
  | ref a => exact tyO_mem h
  | _ => first | (cases h; decide) | cases h
theorem kit_all : ∀ n ∈ kinds, ∀ c ∈ asked, kitB n c = some (isiB n c) := by decide +kernel

section
variable {K : PySem.W.Frag} {σ : L2.St} {H H' : Hp} {ta tb te tx : TE} {t u : TT} {x y z v : V} {r r' : R2}
theorem rc_isi {n c : String} (h : tyN H x = some n) (hc : c ∈ asked := by decide) : RC (rIsiA K) [x, .ty c] H (.bl (isiB n c)) := fun H1 e Q q =>
  .inl ⟨x, .ty c, .type n, .type c, isiB n c, rfl, .ty c, tyX_of (tyN_ex e h), kit_ty (kit_all n (tyN_mem h) c hc), q H1 (Ex.refl H1)⟩
theorem ev_cb {r : List V → Hp → VK → Prop} {ta : TA} {vs : List V} (ha : EvA ta σ H vs) (hr : RC r vs H z) : Ev (tCB r ta) σ H z := fun H1 e Q q =>
  ha H1 e _ fun H2 e2 => hr H2 (e.trans e2) Q fun H3 e3 => q H3 (e2.trans e3)
theorem ev_isi {n c : String} (ha : Ev ta σ H x) (h : tyN H x = some n) (hc : c ∈ asked := by decide) : Ev (tCB (rIsiA K) (tCons ta (tCons (tC (.ty c)) tNil))) σ H (.bl (isiB n c)) :=
  ev_cb (ea_cons ha (ea_cons ev_c ea_nil)) (rc_isi h hc)
/-- a op b op' c -/
theorem ev_chain {k : Bool} {w : V} (ha : Ev ta σ H x) (hb : Ev tb σ H y) (hr : RV r x y H (.bl k)) (h0 : k = false → w = .bl false) (h1 : k = true → ∃ z, Ev tx σ H z ∧ RV r' y z H w) : Ev (tChain r r' ta tb tx) σ H w := fun H1 e Q q =>
  ha H1 e _ fun H2 e2 => hb H2 (e.trans e2) _ fun H3 e3 => hr H3 ((e.trans e2).trans e3) _ fun H4 e4 => ⟨k, rfl, by
    have E4 : Ex H H4 := ((e.trans e2).trans e3).trans e4
    have F4 : Ex H1 H4 := (e2.trans e3).trans e4
    cases k with
    | true =>
      obtain ⟨z, hz, hw⟩ := h1 rfl
      show tx σ H4 _
      exact hz H4 E4 _ fun H5 e5 => hw H5 (E4.trans e5) Q fun H6 e6 => q H6 ((F4.trans e5).trans e6)
    | false =>
      show Q (.bl false) H4
      rw [← h0 rfl]
      exact q H4 F4⟩
/-- two comparisons of ints -/
theorem ev_chainI {g g' : Int → Int → Bool} {i j k : Int} (ha : Ev ta σ H (.int i)) (hb : Ev tb σ H (.int j)) (hc : Ev tx σ H (.int k)) :
    Ev (tChain (rI0 fun a b => .bl (g a b)) (rI0 fun a b => .bl (g' a b)) ta tb tx) σ H (.bl (g i j && g' j k)) :=
  ev_chain (k := g i j) ha hb rv_I0 (fun h => by rw [h]; rfl) fun h => ⟨.int k, hc, by rw [h]; exact rv_I0⟩
theorem rc_lenS {w : Str} (h : w.length ≤ 100000) : RC (rLenA K) [.str w] H (.int w.length) := fun H1 _ _ q => .inl ⟨.str w, w.length, rfl, ⟨sz_of h, rfl⟩, q H1 (Ex.refl H1)⟩
theorem rc_lenL {p : Addr} {xs : List V} (h : SqL K H p xs) : RC (rLenA K) [.ref p] H (.int xs.length) := fun H1 e _ q => .inl ⟨.ref p, xs.length, rfl, .inl ⟨xs, ex_l e h, rfl⟩, q H1 (Ex.refl H1)⟩
theorem rc_lenT {p : Addr} {xs : List V} (h : SqT K H p xs) : RC (rLenA K) [.ref p] H (.int xs.length) := fun H1 e _ q => .inl ⟨.ref p, xs.length, rfl, .inr ⟨xs, ex_t e h, rfl⟩, q H1 (Ex.refl H1)⟩
theorem ev_lenV {n : Nat} (ha : Ev ta σ H x) (hr : RC (rLenA K) [x] H (.int n)) : Ev (tCB (rLenA K) (tCons ta tNil)) σ H (.int n) := ev_cb (ea_cons ha ea_nil) hr
/-- all(..) of a list of truths that is made on the way -/
theorem ev_all {bs : List Bool} (ha : EvL ta σ H (bs.map V.bl)) : Ev (tCB (rAll K) (tCons ta tNil)) σ H (.bl (bs.all id)) := fun H1 e Q q =>
  ha H1 e _ fun p H2 _ e2 h2 => ⟨p, bs, rfl, sq_of h2, q H2 e2⟩
/-- a comprehension over a text -/
theorem el_lcS {a : Str} {tl : TE} {j : Nat} {vs : List Nat} (f : Nat → Bool) (v : Nat → V) (h : Ev tl σ H (.str a)) (hz : a.cps.size ≤ 40000) (hw : ∀ x, wipe ((wipe σ vs).set j (some x)) vs = wipe σ vs)
    (ht : ∀ (i : Nat) (c : Nat) H1, Ex H H1 → a.cps[i]? = some c → EvT t ((wipe σ vs).set j (some (.str ⟨#[c]⟩))) H1 (f i)) (he : ∀ (i : Nat) (c : Nat) H1, Ex H H1 → a.cps[i]? = some c → f i = true → Ev te ((wipe σ vs).set j (some (.str ⟨#[c]⟩))) H1 (v i)) :
    EvL (tLc (iStr tl) (gName j) t te vs) σ H (given a.cps.size f v) := fun H0 e Q q => h H0 e _ fun H1 e1 => ⟨a, rfl, fun Dl hD => by
  refine ⟨fun i m H' => m = a.cps.size - i ∧ i ≤ a.cps.size ∧ Cw H1 f v Dl i H', ⟨a.cps.size, by simp, Nat.zero_le _, hD, Ex.new hD, upd_same⟩, ?_⟩
  rintro i m H' ⟨rfl, hi, p⟩
  by_cases hlt : i < a.cps.size
  · refine .inr ⟨hlt, fun H2 => Cw H1 f v Dl (i + 1) H2, fun H2 p2 => ⟨a.cps.size - (i + 1), by omega, rfl, hlt, p2⟩, ?_⟩
    rintro x2 H2 ⟨rfl, c, hc, rfl⟩
    exact ⟨hw _, cw_turn p (by omega) (ht i c H1 (e.trans e1) hc) (fun hf => he i c H1 (e.trans e1) hc hf)⟩
  · have e0 : i = a.cps.size := by omega
    subst e0
    exact .inl ⟨Nat.le_refl _, q Dl H' (fresh_back e1 p.1) (e1.trans p.2.1) p.2.2⟩⟩
end
end Z

set_option Elab.async false
set_option linter.all false
set_option autoImplicit false
set_option maxRecDepth 100000
set_option maxHeartbeats 4000000
namespace Z
open PySem PySem.Spec PyProof.Rows L2 Evl
/-! ### a def that may be called: its promise, its name, its place -/
structure Cal (P : Program) (w : World) (K : PySem.W.Frag) (mg : Str → Option Value) (base : Heap) (k : Nat) (x : Str) (f : Addr) (ps : List Str) (sp : Sp) : Prop where
  ex : ∃ fd, FnOk P w K mg base (L2.CX P w) k f fd ps sp ∧ Binds K fd ps []
  mg : mg x = some (.ref f)
  kp : PySem.W.keepIn K (.ref f) = true
section
variable {X : Cx} {W : WX} {k : Nat} {f : Addr} {ps : List Str} {sp : Sp} {x : Str} {p pos : Pos} {e : Expr} {es : List Expr} {t : TA}
theorem pe_cal (C : Cal X.prog X.w X.K X.mg X.base k x f ps sp) (hr : Room k X.A) (tk : Takes X W) (ha : PA X (e :: es) t) (hg : Gl X x := by rfl) (hdb : (x == ("__debug__" : Str)) = false := by decide)
    (he : starEach (e :: es) X.env = (false, eval e X.env) :: starEach es X.env := by rfl) (hpl : (backTo pos (starEach es X.env)).any (·.1) = false := by rfl) :
    PE X (.Call (.Name x p) (e :: es) [] pos) (tCallS sp (WE W) t) := by
  obtain ⟨fd, F, b⟩ := C.ex
  exact pe_callS F hr hg C.mg C.kp b (fun σ => passAt tk σ) ha hdb he hpl
theorem pe_calB (C : Cal X.prog X.w X.K X.mg X.base k x f ps sp) (hr : Room k X.A) (ha : PA X (e :: es) t) (hg : Gl X x := by rfl) (hdb : (x == ("__debug__" : Str)) = false := by decide)
    (he : starEach (e :: es) X.env = (false, eval e X.env) :: starEach es X.env := by rfl) (hpl : (backTo pos (starEach es X.env)).any (·.1) = false := by rfl) :
    PE X (.Call (.Name x p) (e :: es) [] pos) (tCall sp [] E0 t) := by
  obtain ⟨fd, F, b⟩ := C.ex
  exact pe_call F hr hg C.mg C.kp b .nil passL ha hdb he hpl
end
theorem pe_cal0 {X : Cx} {W : WX} {k : Nat} {f : Addr} {ps : List Str} {sp : Sp} {x : Str} {p pos : Pos} (C : Cal X.prog X.w X.K X.mg X.base k x f ps sp) (hr : Room k X.A) (tk : Takes X W) (hg : Gl X x := by rfl) (hdb : (x == ("__debug__" : Str)) = false := by decide) :
    PE X (.Call (.Name x p) [] [] pos) (tCallS sp (WE W) tNil) := by
  obtain ⟨fd, F, b⟩ := C.ex
  refine ⟨fun pins s σ H Q J h => ?_⟩
  refine wpAny_Call_Name_kw (ld_glob J hg C.mg ?_ hdb)
  exact PySem.W.callWith_K0 J.kIn C.kp (run_fnS (us := []) (vs := []) F hr b (passAt tk σ) J .nil h)
theorem hu65 {A : Around} {k : Nat} (hr : Room k A) : A.units + 65 < cLine := by have := hr.un; omega
/-- a body and its reading make a def's promise -/
theorem cal_of {P : Program} {w : World} {K : PySem.W.Frag} {mg : Str → Option Value} {base : Heap} {st : Stmt} {x : Str} {f : Addr} {fd : FuncData} {N ps : List Str} {k : Nat} {sp : Sp} (F : Fun K x x st f fd) (S : FnScope N ps (defScope st)) (hm : mg x = some (.ref f)) (hb : Binds K fd ps [])
    (len : ∀ vs H Q E, sp vs H Q E → vs.length = ps.length) (t : XK → TS)
    (d : ∀ (cdv : Value) (A : Around) (outer : List Env) (s : Shared) (H : Hp) (E : XK), Room k (A.deeper (envOfC x (defScope st) s.heap.objs.size f cdv)) → PSs (cxOf (L2.CX P w) P w K mg base N x (defScope st) f cdv A outer s H E) (defBody st) (t E))
    (r : ∀ (vs : List V) (H : Hp) (Q : VK) (E : XK), sp vs H Q E → t E { nx := fun _ H' => Q .non H', rt := Q } (L2.start N vs) H) : Cal P w K mg base (k + 1) x f ps sp :=
  ⟨⟨fd, F.okX S len fun cdv A outer s H vs Q E hr h => ⟨t E, d cdv A outer s H E hr, r vs H Q E h⟩, hb⟩, hm, F.kp⟩

/-- the law itself -/
theorem fnx_of {P : Program} {w : World} {K : PySem.W.Frag} {mg : Str → Option Value} {base : Heap} {st : Stmt} {x : Str} {f : Addr} {fd : FuncData} {N ps : List Str} {k : Nat} {sp : Sp} (F : Fun K x x st f fd) (S : FnScope N ps (defScope st))
    (len : ∀ vs H Q E, sp vs H Q E → vs.length = ps.length) (t : XK → TS)
    (d : ∀ (cdv : Value) (A : Around) (outer : List Env) (s : Shared) (H : Hp) (E : XK), Room k (A.deeper (envOfC x (defScope st) s.heap.objs.size f cdv)) → PSs (cxOf (L2.CX P w) P w K mg base N x (defScope st) f cdv A outer s H E) (defBody st) (t E))
    (r : ∀ (vs : List V) (H : Hp) (Q : VK) (E : XK), sp vs H Q E → t E { nx := fun _ H' => Q .non H', rt := Q } (L2.start N vs) H) : FnOk P w K mg base (L2.CX P w) (k + 1) f fd ps sp :=
  F.okX S len fun cdv A outer s H vs Q E hr h => ⟨t E, d cdv A outer s H E hr, r vs H Q E h⟩
theorem cx_no {P : Program} {w : World} {H : Hp} {s : Shared} {e : Value} {s' : Shared} (h : L2.CX P w [] H s (fun _ _ _ => False) e s') : False := by
  obtain ⟨_, _, _, _, _, _, _, _, _, _, _, _, z⟩ := h
  exact z
section
variable {K : PySem.W.Frag} {σ : L2.St} {H H' : Hp} {ta tb te tx : TE} {t u : TT} {x y z v : V} {r r' : R2} {D : Ends}
/-! ### what the operators give -/
theorem rv_addI {i j : Int} : RV (rAddA K) (.int i) (.int j) H (.int (i + j)) := fun H1 _ _ q => .inl ⟨i, j, rfl, rfl, q H1 (Ex.refl H1)⟩
theorem rv_addS {i j : Str} (h : i.length + j.length ≤ 100000) : RV (rAddA K) (.str i) (.str j) H (.str (i ++ j)) := fun H1 _ _ q => .inr (.inl ⟨i, j, rfl, rfl, sz_of h, q H1 (Ex.refl H1)⟩)
theorem rv_subI {i j : Int} : RV rSubA (.int i) (.int j) H (.int (i - j)) := fun H1 _ _ q => ⟨i, j, rfl, rfl, q H1 (Ex.refl H1)⟩
theorem rv_lt {i j : Int} : RV rLtA (.int i) (.int j) H (.bl (decide (i < j))) := fun H1 _ _ q => ⟨i, j, rfl, rfl, q H1 (Ex.refl H1)⟩
theorem rv_le {i j : Int} : RV rLeA (.int i) (.int j) H (.bl (decide (i ≤ j))) := fun H1 _ _ q => ⟨i, j, rfl, rfl, q H1 (Ex.refl H1)⟩
theorem rv_gt {i j : Int} : RV rGtA (.int i) (.int j) H (.bl (decide (j < i))) := fun H1 _ _ q => ⟨i, j, rfl, rfl, q H1 (Ex.refl H1)⟩
theorem rv_ge {i j : Int} : RV rGeA (.int i) (.int j) H (.bl (decide (j ≤ i))) := fun H1 _ _ q => ⟨i, j, rfl, rfl, q H1 (Ex.refl H1)⟩
theorem rv_mod {i j : Int} (h : 0 < j) : RV rModA (.int i) (.int j) H (.int (i % j)) := fun H1 _ Q q => ⟨i, j, rfl, rfl, by omega, by
  show Q (.int (i.fmod j)) H1
  rw [Int.fmod_eq_emod_of_nonneg i (by omega)]
  exact q H1 (Ex.refl H1)⟩
theorem rv_div {i j : Int} (h : 0 < j ∧ j < 1073741824) : RV rDivA (.int i) (.int j) H (.int (i / j)) := fun H1 _ Q q => .inl ⟨i, j, rfl, rfl, ⟨by omega, by omega⟩, by
  show Q (.int (i.fdiv j)) H1
  rw [Int.fdiv_eq_ediv_of_nonneg i (by omega)]
  exact q H1 (Ex.refl H1)⟩
theorem rv_mulI {i j : Int} (h : CMulW i j) : RV (rMulA K) (.int i) (.int j) H (.int (i * j)) := fun H1 _ _ q => .inl ⟨i, j, rfl, rfl, h, q H1 (Ex.refl H1)⟩
theorem rv_rep {a : Str} {n : Int} (ha : a.length ≤ 4000) (hn : -1000 ≤ n ∧ n ≤ 4000) : RV (rMulA K) (.str a) (.int n) H (.str (repS a n)) := fun H1 _ _ q => .inr (.inr ⟨a, n, rfl, rfl, ha, hn.1, hn.2, q H1 (Ex.refl H1)⟩)
theorem rv_pow {i j : Int} (h : 0 ≤ j ∧ j ≤ 1000000 ∧ i.natAbs < 2 ^ 64) : RV rPowA (.int i) (.int j) H (.int (i ^ j.toNat)) := fun H1 _ _ q => ⟨i, j, rfl, rfl, h, q H1 (Ex.refl H1)⟩
theorem rv_eqS (h : scal x y = true) : RV (rEqA K) x y H (.bl (decide (x = y))) := fun H1 _ _ q => .inl ⟨h, q H1 (Ex.refl H1)⟩
theorem rv_neS (h : scal x y = true) : RV (rNeA K) x y H (.bl (!decide (x = y))) := fun H1 _ _ q => .inl ⟨h, q H1 (Ex.refl H1)⟩
theorem rv_isN : RV rIsA x .non H (.bl (decide (x = .non))) := fun H1 _ _ q => .inl ⟨rfl, q H1 (Ex.refl H1)⟩
theorem rv_isnN : RV rIsnA x .non H (.bl (!decide (x = .non))) := fun H1 _ _ q => .inl ⟨rfl, q H1 (Ex.refl H1)⟩
theorem rv_isB {a b : Bool} : RV rIsA (.bl a) (.bl b) H (.bl (decide (a = b))) := fun H1 _ _ q => .inr ⟨a, b, rfl, rfl, q H1 (Ex.refl H1)⟩
theorem rv_isnB {a b : Bool} : RV rIsnA (.bl a) (.bl b) H (.bl (!decide (a = b))) := fun H1 _ _ q => .inr ⟨a, b, rfl, rfl, q H1 (Ex.refl H1)⟩
theorem rv_inStr {c : Nat} {w : Str} : RV (rInA K) (.str ⟨#[c]⟩) (.str w) H (.bl (decide (c ∈ w.cps.toList))) := fun H1 _ _ q => .inl ⟨c, w, rfl, rfl, q H1 (Ex.refl H1)⟩
theorem rv_ninStr {c : Nat} {w : Str} : RV (rNinA K) (.str ⟨#[c]⟩) (.str w) H (.bl (!decide (c ∈ w.cps.toList))) := fun H1 _ _ q => .inl ⟨c, w, rfl, rfl, q H1 (Ex.refl H1)⟩
theorem rv_itL {p : Addr} {xs : List V} {i : Int} (h : SqL K H p xs) (ha : atI xs i = some v) : RV (rIxA K) (.ref p) (.int i) H v := fun H1 e _ q => .inl (.inl ⟨p, xs, i, v, rfl, rfl, ex_l e h, ha, q H1 (Ex.refl H1)⟩)
theorem rv_itT {p : Addr} {xs : List V} {i : Int} (h : SqT K H p xs) (ha : atI xs i = some v) : RV (rIxA K) (.ref p) (.int i) H v := fun H1 e _ q => .inl (.inr (.inl ⟨p, xs, i, v, rfl, rfl, ex_t e h, ha, q H1 (Ex.refl H1)⟩))
theorem rv_itS {w : Str} {i : Int} {c : Nat} (h : w.length ≤ 100000) (ha : atI w.cps.toList i = some c) : RV (rIxA K) (.str w) (.int i) H (.str ⟨#[c]⟩) := fun H1 _ _ q => .inl (.inr (.inr ⟨w, i, c, rfl, rfl, sz_of h, ha, q H1 (Ex.refl H1)⟩))
theorem rc_str {i : Int} (h : i.natAbs.log2 < 1920) : RC rStrA [.int i] H (.str (Str.ofString (toString i))) := fun H1 _ _ q => ⟨i, rfl, h, q H1 (Ex.refl H1)⟩
theorem rc_abs {i : Int} : RC rAbsA [.int i] H (.int (if i < 0 then -i else i)) := fun H1 _ _ q => ⟨i, rfl, q H1 (Ex.refl H1)⟩
theorem ev_callS {sp : Sp} {vs : List V} {E : L2.St → XK} {ta : TA} (h : EvA ta σ H vs) (hs : SpV sp vs H z) : Ev (tCallS sp E ta) σ H z := fun H1 e Q q =>
  h H1 e _ fun H2 e2 => hs H2 (e.trans e2) Q (fun H3 e3 => q H3 (e2.trans e3)) (E σ)
/-- a word between a statement and what follows -/
theorem q_cut2 {tu tz : TS} {M : L2.St → Hp → Prop} (h : ∀ nx : L2.St → Hp → Prop, (∀ σ' H', M σ' H' → nx σ' H') → tu { D with nx := nx } σ H) (k : ∀ σ' H', M σ' H' → tz D σ' H') : tSeq tu tz D σ H := h _ k
/-- a call, by its promise -/
theorem q_callS {sp : Sp} {vs : List V} {E : L2.St → XK} {ta : TA} {i : Nat} {tz : TS} (h : EvA ta σ H vs) (k : ∀ H1, Ex H H1 → sp vs H1 (fun v H2 => tz D (σ.set i (some v)) H2) (E σ)) : tSeq (tAsg (tCallS sp E ta) (gName i)) tz D σ H := h H (Ex.refl H) _ k
theorem s_callS {sp : Sp} {vs : List V} {E : L2.St → XK} {ta : TA} {i : Nat} (h : EvA ta σ H vs) (k : ∀ H1, Ex H H1 → sp vs H1 (fun v H2 => D.nx (σ.set i (some v)) H2) (E σ)) : tAsg (tCallS sp E ta) (gName i) D σ H := h H (Ex.refl H) _ k
theorem s_retS {sp : Sp} {vs : List V} {E : L2.St → XK} {ta : TA} (h : EvA ta σ H vs) (k : ∀ H1, Ex H H1 → sp vs H1 D.rt (E σ)) : tRet (tCallS sp E ta) D σ H := h H (Ex.refl H) _ k
theorem q_dropS {sp : Sp} {vs : List V} {E : L2.St → XK} {ta : TA} {tz : TS} (h : EvA ta σ H vs) (k : ∀ H1, Ex H H1 → sp vs H1 (fun _ H2 => tz D σ H2) (E σ)) : tSeq (tDrop (tCallS sp E ta)) tz D σ H := h H (Ex.refl H) _ k
theorem ev_neg {i : Int} (h : Ev ta σ H (.int i)) : Ev (tUn rNegA ta) σ H (.int (-i)) := ev_un h ru_neg
theorem ev_chainLL {i j k : Int} (ha : Ev ta σ H (.int i)) (hb : Ev tb σ H (.int j)) (hc : Ev tx σ H (.int k)) : Ev (tChain rLeA rLeA ta tb tx) σ H (.bl (decide (i ≤ j) && decide (j ≤ k))) :=
  ev_chainI (g := fun a b => decide (a ≤ b)) (g' := fun a b => decide (a ≤ b)) ha hb hc
theorem ev_chainLt {i j k : Int} (ha : Ev ta σ H (.int i)) (hb : Ev tb σ H (.int j)) (hc : Ev tx σ H (.int k)) : Ev (tChain rLeA rLtA ta tb tx) σ H (.bl (decide (i ≤ j) && decide (j < k))) :=
  ev_chainI (g := fun a b => decide (a ≤ b)) (g' := fun a b => decide (a < b)) ha hb hc
end
end Z

set_option Elab.async false
set_option linter.all false
set_option autoImplicit false
set_option maxRecDepth 100000
set_option maxHeartbeats 4000000
namespace Z
open PySem PySem.Spec PyProof.Rows L2 Evl
/-! ### data: what stands at a value, through and through -/
def kD : Key → PyData
  | .inl i => .int i
  | .inr x => .str x
mutual
inductive Dt (H : Hp) : V → PyData → Prop
  | non : Dt H .non .none
  | bl (b : Bool) : Dt H (.bl b) (.bool b)
  | int (i : Int) : Dt H (.int i) (.int i)
  | str (x : Str) : Dt H (.str x) (.str x)
  | lst {a : Addr} {xs : List V} {ds : List PyData} : H a = some (.lst xs) → DtAll H xs ds → Dt H (.ref a) (.list ds)
  | tup {a : Addr} {xs : List V} {ds : List PyData} : H a = some (.tup xs) → DtAll H xs ds → Dt H (.ref a) (.tuple ds)
  | dct {a : Addr} {kvs : List (Key × V)} {ds : List PyData} : H a = some (.dK kvs) → DtAll H (kvs.map (·.2)) ds → Dt H (.ref a) (.dict ((kvs.map fun kv => kD kv.1).zip ds))
inductive DtAll (H : Hp) : List V → List PyData → Prop
  | nil : DtAll H [] []
  | cons {v : V} {vs : List V} {d : PyData} {ds : List PyData} : Dt H v d → DtAll H vs ds → DtAll H (v :: vs) (d :: ds)
end
mutual
theorem Dt.ex {H H' : Hp} (e : Ex H H') : ∀ {v : V} {d : PyData}, Dt H v d → Dt H' v d
  | _, _, .non => .non
  | _, _, .bl b => .bl b
  | _, _, .int i => .int i
  | _, _, .str x => .str x
  | _, _, .lst h r => .lst (e _ _ h) (DtAll.ex e r)
  | _, _, .tup h r => .tup (e _ _ h) (DtAll.ex e r)
  | _, _, .dct h r => .dct (e _ _ h) (DtAll.ex e r)
theorem DtAll.ex {H H' : Hp} (e : Ex H H') : ∀ {vs : List V} {ds : List PyData}, DtAll H vs ds → DtAll H' vs ds
  | _, _, .nil => .nil
  | _, _, .cons a r => .cons (Dt.ex e a) (DtAll.ex e r)
end
mutual
def noDict : PyData → Bool
  | .list ds => noDicts ds
  | .tuple ds => noDicts ds
  | .dict _ => false
  | _ => true
def noDicts : List PyData → Bool
  | [] => true
  | d :: ds => noDict d && noDicts ds
end
mutual
theorem Dt.dp {K : PySem.W.Frag} {H : Hp} : ∀ {v : V} {d : PyData}, Dt H v d → noDict d = true → Dp K H v d
  | _, _, .non, _ => .non
  | _, _, .bl b, _ => .bl b
  | _, _, .int i, _ => .int i
  | _, _, .str x, _ => .str x
  | _, _, .lst h r, n => .lst (SqL.of h) (DtAll.dp r (by simpa [noDict] using n))
  | _, _, .tup h r, n => .tup (SqT.of h) (DtAll.dp r (by simpa [noDict] using n))
  | _, _, .dct h r, n => by simp [noDict] at n
theorem DtAll.dp {K : PySem.W.Frag} {H : Hp} : ∀ {vs : List V} {ds : List PyData}, DtAll H vs ds → noDicts ds = true → DpAll K H vs ds
  | _, _, .nil, _ => .nil
  | _, _, .cons a r, n => by
    simp only [noDicts, Bool.and_eq_true] at n
    exact .cons (Dt.dp a n.1) (DtAll.dp r n.2)
end
theorem DtAll.length {H : Hp} : ∀ {vs : List V} {ds : List PyData}, DtAll H vs ds → vs.length = ds.length
  | _, _, .nil => rfl
  | _, _, .cons _ r => by rw [List.length_cons, List.length_cons, r.length]
theorem DtAll.get {H : Hp} : ∀ {vs : List V} {ds : List PyData} {i : Nat} {d : PyData}, DtAll H vs ds → ds[i]? = some d → ∃ v, vs[i]? = some v ∧ Dt H v d
  | _, _, i, d, .nil, h => by simp at h
  | _, _, 0, d, .cons (v := v) a r, h => by
    rw [List.getElem?_cons_zero] at h
    cases h
    exact ⟨v, rfl, a⟩
  | _, _, i + 1, d, .cons a r, h => by
    obtain ⟨v, h1, h2⟩ := r.get (i := i) (d := d) (by simpa using h)
    exact ⟨v, by simpa using h1, h2⟩
theorem DtAll.getV {H : Hp} : ∀ {vs : List V} {ds : List PyData} {i : Nat} {v : V}, DtAll H vs ds → vs[i]? = some v → ∃ d, ds[i]? = some d ∧ Dt H v d
  | _, _, i, d, .nil, h => by simp at h
  | _, _, 0, v, .cons (d := d) a r, h => by
    rw [List.getElem?_cons_zero] at h
    cases h
    exact ⟨d, rfl, a⟩
  | _, _, i + 1, v, .cons a r, h => by
    obtain ⟨d, h1, h2⟩ := r.getV (i := i) (v := v) (by simpa using h)
    exact ⟨d, by simpa using h1, h2⟩
theorem DtAll.append {H : Hp} : ∀ {vs ws : List V} {ds es : List PyData}, DtAll H vs ds → DtAll H ws es → DtAll H (vs ++ ws) (ds ++ es)
  | _, _, _, _, .nil, s => s
  | _, _, _, _, .cons a r, s => .cons a (r.append s)
theorem atI_dt {H : Hp} {vs : List V} {ds : List PyData} {i : Int} {d : PyData} (h : DtAll H vs ds) (a : atI ds i = some d) : ∃ v, atI vs i = some v ∧ Dt H v d := by
  unfold atI at a ⊢
  rw [h.length]
  cases q : ixN ds.length i with
  | none => rw [q] at a; cases a
  | some j =>
    rw [q] at a
    exact h.get (show ds[j]? = some d from a)
/-! ### data of a size and depth that is compared -/
structure okS (z : Str) : Prop where
  len : z.length ≤ 30000
  cps : z.cps.all (· < 1114112) = true
theorem okS.app {x y : Str} (hx : okS x) (hy : okS y) (h : x.length + y.length ≤ 30000) : okS (x ++ y) := by
  refine ⟨by rw [Str.length_append]; exact h, ?_⟩
  show (x.cps ++ y.cps).all (· < 1114112) = true
  rw [Array.all_append, hx.cps, hy.cps]
  rfl
theorem okS_S {l : List Nat} (h : l.length ≤ 30000) (hc : ∀ c ∈ l, c < 128) : okS (SX.S l) := by
  refine ⟨by rw [SX.S_len]; exact h, ?_⟩
  show l.toArray.all (· < 1114112) = true
  rw [List.all_toArray]
  exact List.all_eq_true.mpr fun c h => decide_eq_true (by have := hc c h; omega)
theorem S_of (z : Str) : SX.S z.cps.toList = z := SX.S_tl z
theorem okS_of {z : Str} (h : z.length ≤ 30000) (hc : ∀ c ∈ z.cps.toList, c < 128) : okS z := by
  have q : z.cps.toList.length ≤ 30000 := by
    have e : z.cps.toList.length = z.length := by simp [Str.length]
    omega
  have := okS_S q hc
  rw [S_of] at this
  exact this
mutual
def okN : Nat → PyData → Prop
  | _, .str z => okS z
  | n + 1, .list ds => okNs n ds
  | n + 1, .tuple ds => okNs n ds
  | 0, .list _ => False
  | 0, .tuple _ => False
  | _, .dict _ => False
  | _, .none => True
  | _, .bool _ => True
  | _, .int _ => True
def okNs : Nat → List PyData → Prop
  | _, [] => True
  | n, d :: ds => okN n d ∧ okNs n ds
end
theorem okNs_iff {n : Nat} : ∀ {ds : List PyData}, okNs n ds ↔ ∀ d ∈ ds, okN n d
  | [] => by simp [okNs]
  | d :: ds => by
    rw [okNs, okNs_iff]
    simp
mutual
theorem okN_lay : ∀ (n : Nat) (d : PyData), okN n d → d.canLay0 = true ∧ d.depth ≤ n + 1 ∧ noDict d = true
  | n, .str z, h => by
    rw [okN] at h
    refine ⟨?_, by simp [PyData.depth], by simp [noDict]⟩
    simp only [PyData.canLay0]
    exact h.cps
  | n + 1, .list ds, h => by
    rw [okN] at h
    have := okNs_lay n ds h
    refine ⟨by simp only [PyData.canLay0]; exact this.1, ?_, by simp only [noDict]; exact this.2.2⟩
    have := this.2.1
    simp only [PyData.depth]
    omega
  | n + 1, .tuple ds, h => by
    rw [okN] at h
    have := okNs_lay n ds h
    refine ⟨by simp only [PyData.canLay0]; exact this.1, ?_, by simp only [noDict]; exact this.2.2⟩
    have := this.2.1
    simp only [PyData.depth]
    omega
  | 0, .list _, h => by rw [okN] at h; exact h.elim
  | 0, .tuple _, h => by rw [okN] at h; exact h.elim
  | _, .dict _, h => by rw [okN] at h; exact h.elim
  | _, .none, _ => ⟨by simp [PyData.canLay0], by simp [PyData.depth], by simp [noDict]⟩
  | _, .bool _, _ => ⟨by simp [PyData.canLay0], by simp [PyData.depth], by simp [noDict]⟩
  | _, .int _, _ => ⟨by simp [PyData.canLay0], by simp [PyData.depth], by simp [noDict]⟩
theorem okNs_lay : ∀ (n : Nat) (ds : List PyData), okNs n ds → PyData.canLayAll0 ds = true ∧ PyData.depthAll ds ≤ n + 1 ∧ noDicts ds = true
  | _, [], _ => ⟨by simp [PyData.canLayAll0], by simp [PyData.depthAll], by simp [noDicts]⟩
  | n, d :: ds, h => by
    rw [okNs] at h
    have h1 := okN_lay n d h.1
    have h2 := okNs_lay n ds h.2
    refine ⟨by simp only [PyData.canLayAll0, h1.1, h2.1, Bool.and_self], ?_, by simp only [noDicts, h1.2.2, h2.2.2, Bool.and_self]⟩
    have := h1.2.1
    have := h2.2.1
    simp only [PyData.depthAll]
    omega
end
/-- at most ten deep, no dict, texts of at most 30,000 signs -/
def okD (d : PyData) : Prop := okN 10 d
theorem okD.shaped {d : PyData} (h : okD d) : SeqAt.shaped d = true := by
  have := okN_lay 10 d h
  unfold SeqAt.shaped
  rw [this.1, Bool.true_and]
  exact decide_eq_true (by omega)
theorem okD.nd {d : PyData} (h : okD d) : noDict d = true := (okN_lay 10 d h).2.2
/-- the built-in type of data -/
def kindD : PyData → String
  | .none => "NoneType"
  | .bool _ => "bool"
  | .int _ => "int"
  | .str _ => "str"
  | .list _ => "list"
  | .tuple _ => "tuple"
  | .dict _ => "dict"
theorem Dt.ty {H : Hp} {v : V} {d : PyData} (h : Dt H v d) : tyN H v = some (kindD d) := by
  cases h with
  | non => rfl
  | bl b => rfl
  | int i => rfl
  | str x => rfl
  | lst e r => show tyO (H _) = _; rw [e]; rfl
  | tup e r => show tyO (H _) = _; rw [e]; rfl
  | dct e r => show tyO (H _) = _; rw [e]; rfl

/-! ### expressions that evaluate to data -/
def EvD (te : TE) (σ : L2.St) (H : Hp) (d : PyData) : Prop := ∀ H1, Ex H H1 → ∀ Q : VK, (∀ v H2, Ex H1 H2 → Dt H2 v d → Q v H2) → te σ H1 Q
def EvDs (ta : TA) (σ : L2.St) (H : Hp) (ds : List PyData) : Prop := ∀ H1, Ex H H1 → ∀ Q : List V → Hp → Prop, (∀ vs H2, Ex H1 H2 → DtAll H2 vs ds → Q vs H2) → ta σ H1 Q
section
variable {K : PySem.W.Frag} {σ : L2.St} {H H' : Hp} {ta tb te tx : TE} {tas : TA} {t u : TT} {x y z v : V} {d e : PyData} {ds es : List PyData} {D : Ends} {tu tw tz : TS}
theorem EvD.mono (e0 : Ex H H') (h : EvD te σ H d) : EvD te σ H' d := fun H1 a Q q => h H1 (e0.trans a) Q q
theorem ed_ev (h : Ev te σ H v) (r : Dt H v d) : EvD te σ H d := fun H1 e0 Q q => h H1 e0 _ fun H2 e2 => q v H2 e2 (r.ex (e0.trans e2))
theorem ed_i {i : Int} (h : Ev te σ H (.int i)) : EvD te σ H (.int i) := ed_ev h (.int i)
theorem ed_s {i : Str} (h : Ev te σ H (.str i)) : EvD te σ H (.str i) := ed_ev h (.str i)
theorem ed_b {i : Bool} (h : Ev te σ H (.bl i)) : EvD te σ H (.bool i) := ed_ev h (.bl i)
theorem ed_n (h : Ev te σ H .non) : EvD te σ H .none := ed_ev h .non
theorem ed_var {i : Nat} (h : σ[i]? = some (some v)) (r : Dt H v d) : EvD (tVar i) σ H d := ed_ev (ev_var h) r
theorem eds_nil : EvDs tNil σ H [] := fun H1 _ _ q => q [] H1 (Ex.refl H1) .nil
theorem eds_cons (h : EvD ta σ H d) (r : EvDs tas σ H ds) : EvDs (tCons ta tas) σ H (d :: ds) := fun H1 e0 Q q =>
  h H1 e0 _ fun v H2 e2 hv => r H2 (e0.trans e2) _ fun vs H3 e3 hvs => q _ H3 (e2.trans e3) (.cons (hv.ex e3) hvs)
theorem ed_lst (h : EvDs tas σ H ds) (hl : ds.length ≤ 100000 := by simp only [List.length_cons, List.length_nil, List.length_append]; omega) : EvD (tLst tas) σ H (.list ds) := fun H1 e0 Q q =>
  h H1 e0 _ fun vs H2 e2 hvs => ⟨sz_of (by rw [hvs.length]; exact hl), fun p hp => q _ _ (e2.trans (Ex.new hp)) (.lst upd_same (hvs.ex (Ex.new hp)))⟩
theorem ed_tup (h : EvDs tas σ H ds) (hl : ds.length ≤ 100000 := by simp only [List.length_cons, List.length_nil, List.length_append]; omega) : EvD (tTup tas) σ H (.tuple ds) := fun H1 e0 Q q =>
  h H1 e0 _ fun vs H2 e2 hvs => ⟨sz_of (by rw [hvs.length]; exact hl), fun p hp => q _ _ (e2.trans (Ex.new hp)) (.tup upd_same (hvs.ex (Ex.new hp)))⟩
theorem ed_dnew : EvD tDNewK σ H (.dict []) := fun H1 _ Q q p hp => q _ _ (Ex.new hp) (.dct (kvs := []) (ds := []) upd_same .nil)
theorem ed_ixL {i : Int} (h : EvD ta σ H (.list ds)) (hi : Ev tb σ H (.int i)) (a : atI ds i = some d) : EvD (tOp (rIxA K) ta tb) σ H d := fun H1 e0 Q q =>
  h H1 e0 _ fun v H2 e2 hv => hi H2 (e0.trans e2) _ fun H3 e3 => by
    cases hv with
    | lst hl r =>
      obtain ⟨w, h1, h2⟩ := atI_dt r a
      exact .inl (.inl ⟨_, _, i, w, rfl, rfl, SqL.of (e3 _ _ hl), h1, q w H3 (e2.trans e3) (h2.ex e3)⟩)
theorem ed_ixT {i : Int} (h : EvD ta σ H (.tuple ds)) (hi : Ev tb σ H (.int i)) (a : atI ds i = some d) : EvD (tOp (rIxA K) ta tb) σ H d := fun H1 e0 Q q =>
  h H1 e0 _ fun v H2 e2 hv => hi H2 (e0.trans e2) _ fun H3 e3 => by
    cases hv with
    | tup hl r =>
      obtain ⟨w, h1, h2⟩ := atI_dt r a
      exact .inl (.inr (.inl ⟨_, _, i, w, rfl, rfl, SqT.of (e3 _ _ hl), h1, q w H3 (e2.trans e3) (h2.ex e3)⟩))
theorem ed_catL (h : EvD ta σ H (.list ds)) (h2 : EvD tb σ H (.list es)) (hl : ds.length + es.length ≤ 100000 := by simp only [List.length_cons, List.length_nil, List.length_append]; omega) : EvD (tOp (rAddA K) ta tb) σ H (.list (ds ++ es)) := fun H1 e0 Q q =>
  h H1 e0 _ fun v H2 e2 hv => h2 H2 (e0.trans e2) _ fun w H3 e3 hw => by
    cases hv with
    | lst hv r =>
      cases hw with
      | lst hw r2 => exact .inr (.inr (.inl ⟨_, _, _, _, rfl, rfl, e3 _ _ hv, hw, sz_of (by rw [r.length, r2.length]; exact hl), fun p hp => q _ _ ((e2.trans e3).trans (Ex.new hp)) (.lst upd_same (((r.ex e3).append r2).ex (Ex.new hp)))⟩))
theorem ev_eqD (h : EvD ta σ H d) (h2 : EvD tb σ H e) (od : okD d) (oe : okD e) : Ev (tOp (rEqA K) ta tb) σ H (.bl (PyData.eqv d e)) := fun H1 e0 Q q =>
  h H1 e0 _ fun v H2 e2 hv => h2 H2 (e0.trans e2) _ fun w H3 e3 hw => .inr (.inl ⟨d, e, (hv.ex e3).dp od.nd, hw.dp oe.nd, od.shaped, oe.shaped, q H3 (e2.trans e3)⟩)
theorem ev_neD (h : EvD ta σ H d) (h2 : EvD tb σ H e) (od : okD d) (oe : okD e) : Ev (tOp (rNeA K) ta tb) σ H (.bl (!PyData.eqv d e)) := fun H1 e0 Q q =>
  h H1 e0 _ fun v H2 e2 hv => h2 H2 (e0.trans e2) _ fun w H3 e3 hw => .inr (.inl ⟨d, e, (hv.ex e3).dp od.nd, hw.dp oe.nd, od.shaped, oe.shaped, q H3 (e2.trans e3)⟩)
theorem ev_isD {c : String} (ha : EvD ta σ H d) (hc : c ∈ asked := by decide) : Ev (tCB (rIsiA K) (tCons ta (tCons (tC (.ty c)) tNil))) σ H (.bl (isiB (kindD d) c)) := fun H1 e0 Q q =>
  ha H1 e0 _ fun v H2 e2 hv => rc_isi (hv.ty) hc H2 (Ex.refl H2) Q fun H3 e3 => q H3 (e2.trans e3)
theorem s_asgD {i : Nat} (h : EvD te σ H d) (k : ∀ v H1, Ex H H1 → Dt H1 v d → D.nx (σ.set i (some v)) H1) : tAsg te (gName i) D σ H := h H (Ex.refl H) _ fun v H1 e1 hv => k v H1 e1 hv
theorem q_asgD {i : Nat} (h : EvD te σ H d) (k : ∀ v H1, Ex H H1 → Dt H1 v d → tz D (σ.set i (some v)) H1) : tSeq (tAsg te (gName i)) tz D σ H := s_asgD (D := { D with nx := tz D }) h k
theorem s_retD (h : EvD te σ H d) (k : ∀ v H1, Ex H H1 → Dt H1 v d → D.rt v H1) : tRet te D σ H := h H (Ex.refl H) _ k
/-- promises about data: arguments ds in, d out -/
def RetD (d : PyData) (H : Hp) (Q : VK) : Prop := ∀ v H2, Ex H H2 → Dt H2 v d → Q v H2
/-- a def from data to data, by a function -/
def spD (n : Nat) (pre : List PyData → Prop) (f : List PyData → PyData) : Sp := fun vs H Q _ => ∃ ds, ds.length = n ∧ DtAll H vs ds ∧ pre ds ∧ RetD (f ds) H Q
theorem ed_callS {n : Nat} {pre : List PyData → Prop} {f : List PyData → PyData} {E : L2.St → XK} {ta : TA} (h : EvDs ta σ H ds) (hn : ds.length = n) (hp : pre ds) : EvD (tCallS (spD n pre f) E ta) σ H (f ds) := fun H1 e0 Q q =>
  h H1 e0 _ fun vs H2 e2 hvs => ⟨ds, hn, hvs, hp, fun v H3 e3 hv => q v H3 (e2.trans e3) hv⟩
theorem ed_call {n : Nat} {pre : List PyData → Prop} {f : List PyData → PyData} {E : XK} {ta : TA} (h : EvDs ta σ H ds) (hn : ds.length = n) (hp : pre ds) : EvD (tCall (spD n pre f) [] E ta) σ H (f ds) := fun H1 e0 Q q =>
  h H1 e0 _ fun vs H2 e2 hvs => ⟨ds, hn, by rw [List.append_nil]; exact hvs, hp, fun v H3 e3 hv => q v H3 (e2.trans e3) hv⟩
theorem Dt.i {v : V} {i : Int} (h : Dt H v (.int i)) : v = .int i := by cases h; rfl
theorem Dt.s {v : V} {i : Str} (h : Dt H v (.str i)) : v = .str i := by cases h; rfl
theorem Dt.b {v : V} {i : Bool} (h : Dt H v (.bool i)) : v = .bl i := by cases h; rfl
theorem Dt.n {v : V} (h : Dt H v .none) : v = .non := by cases h; rfl
theorem ev_i {i : Int} (h : EvD te σ H (.int i)) : Ev te σ H (.int i) := fun H1 e0 Q q => h H1 e0 _ fun v H2 e2 hv => by rw [hv.i]; exact q H2 e2
theorem ev_s {i : Str} (h : EvD te σ H (.str i)) : Ev te σ H (.str i) := fun H1 e0 Q q => h H1 e0 _ fun v H2 e2 hv => by rw [hv.s]; exact q H2 e2
theorem ev_b {i : Bool} (h : EvD te σ H (.bool i)) : Ev te σ H (.bl i) := fun H1 e0 Q q => h H1 e0 _ fun v H2 e2 hv => by rw [hv.b]; exact q H2 e2
theorem ev_n (h : EvD te σ H .none) : Ev te σ H .non := fun H1 e0 Q q => h H1 e0 _ fun v H2 e2 hv => by rw [hv.n]; exact q H2 e2
end
end Z

set_option Elab.async false
set_option linter.all false
set_option autoImplicit false
set_option maxRecDepth 100000
set_option maxHeartbeats 4000000
/-! ev: what an expression comes to, by its form -/
local macro_rules | `(tactic| k_places) => `(tactic| (repeat' (first
  | (with_reducible exact ev_c)
  | (with_reducible exact ev_var rfl)
  | (with_reducible refine ev_chainLL ?_ ?_ ?_)
  | (with_reducible refine ev_chainLt ?_ ?_ ?_)
  | (with_reducible refine ev_op ?_ ?_ ?_)
  | (with_reducible refine ev_neg ?_)
  | (with_reducible refine et_test ?_)
  | (with_reducible refine et_B ?_)
  | (with_reducible refine et_not ?_)
  | (with_reducible refine et_and ?_ (fun _ => ?_))
  | (with_reducible refine et_or ?_ (fun _ => ?_))
  | (with_reducible refine ev_andV ?_ (fun _ => ?_))
  | (with_reducible refine ev_orV ?_ (fun _ => ?_))
  | (with_reducible refine ev_notV ?_)
  | (with_reducible exact rv_addI)
  | (with_reducible exact rv_subI)
  | (with_reducible exact rv_lt)
  | (with_reducible exact rv_le)
  | (with_reducible exact rv_gt)
  | (with_reducible exact rv_ge)
  | (with_reducible exact rv_isB)
  | (with_reducible exact rv_isnB)
  | (with_reducible exact rv_isN)
  | (with_reducible exact rv_isnN)
  | (with_reducible exact rv_eqS rfl)
  | (with_reducible exact rv_neS rfl)
  | (with_reducible exact rv_inStr)
  | (with_reducible exact rv_ninStr)
  | (with_reducible exact rv_mod (by first | decide | omega | assumption))
  | (with_reducible exact rv_div (by first | decide | omega | assumption))
  | (with_reducible exact rv_pow (by decide))
  | (with_reducible refine ed_i ?_; done)
  | (with_reducible exact ea_nil)
  | (with_reducible refine ea_cons ?_ ?_)
  | (with_reducible exact eds_nil)
  | (with_reducible refine eds_cons ?_ ?_)
  | (with_reducible exact ed_dnew)
  | (with_reducible refine ed_lst ?_ (by simp only [List.length_cons, List.length_nil]; omega))
  | (with_reducible refine ed_tup ?_ (by simp only [List.length_cons, List.length_nil]; omega)))))
namespace Z
open PySem PySem.Spec PyProof.Rows L2 Evl
/-! ### values.py -/
def lets : List Nat := ("abcdefghijklmnopqrstuvwxyz" : Str).cps.toList
def isName (z : Str) : Bool := decide (1 ≤ z.length ∧ z.length ≤ 8) && z.cps.toList.all fun c => decide (c ∈ lets)
def isWholeD (d : PyData) : Bool := kindD d == "int"
def isNameD : PyData → Bool
  | .str z => isName z
  | _ => false
def isFaultD : PyData → Bool
  | .tuple [.str f, w] => decide (f = ("fault" : Str)) && isNameD w
  | _ => false
def isNumD : PyData → Bool
  | .int i => decide (-(10 ^ 60) < i ∧ i < 10 ^ 60)
  | _ => false
def isValueD (d : PyData) : Bool := isNumD d || isFaultD d
def short : PyData → Prop
  | .str z => z.length ≤ 30000
  | _ => True
def short2 : PyData → Prop
  | .tuple [_, w] => short w
  | _ => True
/-- a def of one argument -/
def sp1 (pre : PyData → Prop) (f : PyData → PyData) : Sp := spD 1 (fun ds => pre (ds.getD 0 .none)) (fun ds => f (ds.getD 0 .none))
theorem sp1_open {pre : PyData → Prop} {f : PyData → PyData} {vs : List V} {H : Hp} {Q : VK} {E : XK} (h : sp1 pre f vs H Q E) : ∃ v d, vs = [v] ∧ Dt H v d ∧ pre d ∧ RetD (f d) H Q := by
  obtain ⟨ds, hn, ha, hp, k⟩ := h
  cases ha with
  | nil => cases hn
  | cons a r =>
    cases r with
    | nil => exact ⟨_, _, rfl, a, hp, k⟩
    | cons _ _ => simp at hn
def sp_is_whole (K : PySem.W.Frag) : Sp := sp1 (fun _ => True) fun d => .bool (isWholeD d)
def sp_is_name (K : PySem.W.Frag) : Sp := sp1 short fun d => .bool (isNameD d)
def sp_is_fault (K : PySem.W.Frag) : Sp := sp1 short2 fun d => .bool (isFaultD d)
def sp_is_number (K : PySem.W.Frag) : Sp := sp1 (fun _ => True) fun d => .bool (isNumD d)
def sp_is_value (K : PySem.W.Frag) : Sp := sp1 short2 fun d => .bool (isValueD d)
def t_is_whole (K : PySem.W.Frag) (E : XK) : TS :=
  tRet (tAndV (tCB (rIsiA K) (tCons (tVar 0) (tCons (tC (.ty "int")) tNil))) (tNotV (tCB (rIsiA K) (tCons (tVar 0) (tCons (tC (.ty "bool")) tNil)))))
def t_is_name (K : PySem.W.Frag) (E : XK) : TS :=
  tSeq (tIfS (tOr (tNot (tB (tCB (rIsiA K) (tCons (tVar 0) (tCons (tC (.ty "str")) tNil))))) (tNot (tTest (tChain rLeA rLeA (tC (.int 1)) (tCB (rLenA K) (tCons (tVar 0) tNil)) (tC (.int 8)))))) (tRet (tC (.bl false))) tNext)
    (tRet (tCB (rAll K) (tCons (tLc (iStr (tVar 0)) (gName 1) tYes (tOp (rInA K) (tVar 1) (tC (.str "abcdefghijklmnopqrstuvwxyz"))) [1]) tNil)))
def t_is_fault (K : PySem.W.Frag) (E : XK) : TS :=
  tSeq (tIfS (tOr (tNot (tB (tCB (rIsiA K) (tCons (tVar 0) (tCons (tC (.ty "tuple")) tNil))))) (tTest (tOp (rNeA K) (tCB (rLenA K) (tCons (tVar 0) tNil)) (tC (.int 2))))) (tRet (tC (.bl false))) tNext)
    (tRet (tAndV (tCB (rIsiA K) (tCons (tOp (rIxA K) (tVar 0) (tC (.int 0))) (tCons (tC (.ty "str")) tNil))) (tAndV (tOp (rEqA K) (tOp (rIxA K) (tVar 0) (tC (.int 0))) (tC (.str "fault"))) (tCallS (sp_is_name K) (WE fun cls d _ H => E cls d H) (tCons (tOp (rIxA K) (tVar 0) (tC (.int 1))) tNil)))))
def t_is_number (K : PySem.W.Frag) (E : XK) : TS :=
  tRet (tAndV (tCallS (sp_is_whole K) (WE fun cls d _ H => E cls d H) (tCons (tVar 0) tNil)) (tOp rLtA (tCB rAbsA (tCons (tVar 0) tNil)) (tOp rPowA (tC (.int 10)) (tC (.int 60)))))
def t_is_value (K : PySem.W.Frag) (E : XK) : TS :=
  tRet (tOrV (tCallS (sp_is_number K) (WE fun cls d _ H => E cls d H) (tCons (tVar 0) tNil)) (tCallS (sp_is_fault K) (WE fun cls d _ H => E cls d H) (tCons (tVar 0) tNil)))
section
variable {K : PySem.W.Frag} {σ : L2.St} {H H' : Hp} {te : TE} {d : PyData} {E : L2.St → XK}
theorem ed_sp1 {pre : PyData → Prop} {f : PyData → PyData} (h : EvD te σ H d) (hp : pre d) : EvD (tCallS (sp1 pre f) E (tCons te tNil)) σ H (f d) := ed_callS (ds := [d]) (eds_cons h eds_nil) rfl hp
theorem ev_spB {pre : PyData → Prop} {g : PyData → Bool} (h : EvD te σ H d) (hp : pre d) : Ev (tCallS (sp1 pre fun d => .bool (g d)) E (tCons te tNil)) σ H (.bl (g d)) := ev_b (ed_sp1 h hp)
end
theorem r_is_whole {K : PySem.W.Frag} (vs : List V) (H : Hp) (Q : VK) (E : XK) (h : sp_is_whole K vs H Q E) : t_is_whole K E { nx := fun _ H' => Q .non H', rt := Q } (L2.start ["thing"] vs) H := by
  obtain ⟨v, d, rfl, r, -, k⟩ := sp1_open h
  unfold t_is_whole
  refine s_ret (v := .bl (isWholeD d)) (ev_is (ev_andV (ev_isD (ed_var rfl r)) fun _ => ev_notV (ev_isD (ed_var rfl r))) ?_) fun H1 e1 => k _ H1 e1 (.bl _)
  cases d <;> rfl
theorem r_is_number {K : PySem.W.Frag} (vs : List V) (H : Hp) (Q : VK) (E : XK) (h : sp_is_number K vs H Q E) : t_is_number K E { nx := fun _ H' => Q .non H', rt := Q } (L2.start ["thing"] vs) H := by
  obtain ⟨v, d, rfl, r, -, k⟩ := sp1_open h
  unfold t_is_number
  refine s_ret (v := .bl (isNumD d)) ?_ fun H1 e1 => k _ H1 e1 (.bl _)
  by_cases hi : ∃ i, d = .int i
  · obtain ⟨i, rfl⟩ := hi
    obtain rfl := r.i
    refine ev_is (ev_andV (ev_spB (ed_var rfl r) trivial) fun _ => ev_op (ev_cb (ea_cons (ev_var rfl) ea_nil) rc_abs) (ev_op ev_c ev_c (rv_pow (by decide))) rv_lt) ?_
    have e : ((10 : Int) ^ (60 : Int).toNat) = 10 ^ 60 := rfl
    rw [e]
    show V.bl (true && decide ((if i < 0 then -i else i) < 10 ^ 60)) = V.bl (decide (-(10 ^ 60) < i ∧ i < 10 ^ 60))
    rw [Bool.true_and]
    congr 1
    refine decide_eq_decide.mpr ?_
    split <;> omega
  · have e1 : isNumD d = false := by
      cases d <;> first | rfl | exact absurd ⟨_, rfl⟩ hi
    have e2 : isWholeD d = false := by
      cases d <;> first | rfl | exact absurd ⟨_, rfl⟩ hi
    rw [e1]
    refine ev_is (v := .bl (isWholeD d && false)) (ev_andV (ev_spB (ed_var rfl r) trivial) fun z => ?_) (by rw [e2]; rfl)
    rw [e2] at z
    cases z
theorem r_is_name {K : PySem.W.Frag} (vs : List V) (H : Hp) (Q : VK) (E : XK) (h : sp_is_name K vs H Q E) : t_is_name K E { nx := fun _ H' => Q .non H', rt := Q } (L2.start ["thing", "sign"] vs) H := by
  obtain ⟨v, d, rfl, r, hs, k⟩ := sp1_open h
  unfold t_is_name
  by_cases hz : ∃ z, d = .str z
  · obtain ⟨z, rfl⟩ := hz
    obtain rfl := r.s
    have hs : z.length ≤ 30000 := hs
    refine q_when (b := !(decide ((1 : Int) ≤ z.length) && decide ((z.length : Int) ≤ 8))) (et_is (et_or (et_not (et_B (ev_isD (ed_var rfl r)))) fun _ => et_not (et_test (ev_chainLL ev_c (ev_lenV (ev_var rfl) (rc_lenS (by omega))) ev_c))) (by rfl)) (fun hb H1 e1 => ?_) fun hb H1 e1 => ?_
    · refine s_ret ev_c fun H2 e2 => ?_
      have : isNameD (.str z) = false := by
        show (decide (1 ≤ z.length ∧ z.length ≤ 8) && _) = false
        have h1 : ¬ (1 ≤ z.length ∧ z.length ≤ 8) := by
          intro hh
          rw [decide_eq_true (by omega : (1 : Int) ≤ z.length), decide_eq_true (by omega : (z.length : Int) ≤ 8)] at hb
          cases hb
        rw [decide_eq_false h1, Bool.false_and]
      rw [this] at k
      exact k _ H2 (e1.trans e2) (.bl _)
    · have h1 : 1 ≤ z.length ∧ z.length ≤ 8 := by
        cases q1 : decide ((1 : Int) ≤ z.length) with
        | false => rw [q1] at hb; cases hb
        | true =>
          cases q2 : decide ((z.length : Int) ≤ 8) with
          | false => rw [q1, q2] at hb; cases hb
          | true =>
            have := of_decide_eq_true q1
            have := of_decide_eq_true q2
            omega
      have zl : z.length = z.cps.size := rfl
      have E1 : given z.cps.size (fun _ => true) (fun i => .bl (decide (z.cps.toList.getD i 0 ∈ lets))) = (z.cps.toList.map fun c => decide (c ∈ lets)).map V.bl := by
        unfold given
        rw [List.filter_eq_self.mpr (fun _ _ => rfl), List.map_map]
        apply List.ext_getElem?
        intro i
        rw [List.getElem?_map, List.getElem?_map]
        by_cases hi : i < z.cps.size
        · have hi2 : i < z.cps.toList.length := by simpa using hi
          have e : z.cps.toList[i]? = some (z.cps.toList.getD i 0) := by
            rw [List.getD_eq_getElem?_getD, List.getElem?_eq_getElem hi2]
            rfl
          rw [List.getElem?_range hi, e]
          rfl
        · rw [List.getElem?_eq_none (by simpa using hi), List.getElem?_eq_none (by simpa using hi)]
          rfl
      refine s_ret (v := .bl (isNameD (.str z))) (ev_is (ev_all (bs := z.cps.toList.map fun c => decide (c ∈ lets)) ?_) ?_) fun H2 e2 => k _ H2 (e1.trans e2) (.bl _)
      · rw [← E1]
        refine el_lcS (fun _ => true) _ (ev_var rfl) (by omega) (fun _ => rfl) (fun i c H2 e2 hc => ?_) (fun i c H2 e2 hc _ => ?_)
        · exact fun H3 _ Q q => q H3 (Ex.refl H3)
        · refine ev_is (ev_op (ev_var rfl) ev_c rv_inStr) ?_
          have : z.cps.toList.getD i 0 = c := by
            rw [List.getD_eq_getElem?_getD, Array.getElem?_toList, hc]
            rfl
          rw [this]
          rfl
      · show V.bl ((z.cps.toList.map fun c => decide (c ∈ lets)).all id) = V.bl (decide (1 ≤ z.length ∧ z.length ≤ 8) && z.cps.toList.all fun c => decide (c ∈ lets))
        rw [decide_eq_true h1, Bool.true_and, List.all_map]
        rfl
  · have e1 : isNameD d = false := by
      cases d <;> first | rfl | exact absurd ⟨_, rfl⟩ hz
    have e2 : isiB (kindD d) "str" = false := by
      cases d <;> first | rfl | exact absurd ⟨_, rfl⟩ hz
    refine q_when (b := true) (et_is (b := true) (a := !(isiB (kindD d) "str") || true) (et_or (et_not (et_B (ev_isD (ed_var rfl r)))) fun z => ?_) (by rw [e2]; rfl)) (fun hb H1 e1' => ?_) fun hb => nomatch hb
    · rw [e2] at z
      cases z
    · refine s_ret ev_c fun H2 e2 => ?_
      rw [e1] at k
      exact k _ H2 (e1'.trans e2) (.bl _)
theorem r_is_fault {K : PySem.W.Frag} (vs : List V) (H : Hp) (Q : VK) (E : XK) (h : sp_is_fault K vs H Q E) : t_is_fault K E { nx := fun _ H' => Q .non H', rt := Q } (L2.start ["thing"] vs) H := by
  obtain ⟨v, d, rfl, r, hs, k⟩ := sp1_open h
  unfold t_is_fault
  by_cases hz : ∃ ds, d = .tuple ds
  · obtain ⟨ds, rfl⟩ := hz
    cases r with
    | @tup a xs _ ha r =>
    have el := r.length
    have hl : Ev (tCB (rLenA K) (tCons (tVar 0) tNil)) [some (V.ref a)] H (.int ds.length) := by
      rw [← el]
      exact ev_lenV (ev_var rfl) (rc_lenT (SqT.of ha))
    refine q_when (b := !decide ((ds.length : Int) = 2)) (et_is (et_or (et_not (et_B (ev_isi (n := "tuple") (ev_var rfl) (by show tyO (H a) = _; rw [ha]; rfl)))) fun _ => et_test (ev_op hl ev_c (rv_neS rfl))) ?_) (fun hb H1 e1 => ?_) fun hb H1 e1 => ?_
    · show (false || !decide (V.int ds.length = V.int 2)) = _
      rw [Bool.false_or]
      congr 1
      exact decide_eq_decide.mpr ⟨fun h => V.int.inj h, fun h => by rw [h]⟩
    · refine s_ret ev_c fun H2 e2 => ?_
      have : isFaultD (.tuple ds) = false := by
        unfold isFaultD
        split
        · rename_i q
          cases q
          cases hb
        · rfl
      rw [this] at k
      exact k _ H2 (e1.trans e2) (.bl _)
    · have h2 : ds.length = 2 := by
        cases q : decide ((ds.length : Int) = 2) with
        | false => rw [q] at hb; cases hb
        | true =>
          have := of_decide_eq_true q
          omega
      obtain ⟨f, w, rfl⟩ : ∃ f w, ds = [f, w] := by
        match ds, h2 with
        | [f, w], _ => exact ⟨f, w, rfl⟩
      have D0 : Dt H (.ref a) (.tuple [f, w]) := .tup ha r
      have i0 : EvD (tOp (rIxA K) (tVar 0) (tC (.int 0))) [some (V.ref a)] H f := ed_ixT (ed_var rfl D0) ev_c rfl
      have i1 : EvD (tOp (rIxA K) (tVar 0) (tC (.int 1))) [some (V.ref a)] H w := ed_ixT (ed_var rfl D0) ev_c rfl
      refine s_ret (v := .bl (isFaultD (.tuple [f, w]))) ?_ fun H2 e2 => k _ H2 (e1.trans e2) (.bl _)
      refine Ev.mono e1 ?_
      by_cases hf : ∃ z, f = .str z
      · obtain ⟨z, rfl⟩ := hf
        refine ev_is (ev_andV (ev_isD i0) fun _ => ev_andV (ev_op (ev_s i0) ev_c (rv_eqS rfl)) fun _ => ev_spB i1 hs) ?_
        show V.bl (true && (decide (V.str z = V.str "fault") && isNameD w)) = V.bl (decide (z = ("fault" : Str)) && isNameD w)
        rw [Bool.true_and]
        congr 2
        exact decide_eq_decide.mpr ⟨fun h => V.str.inj h, fun h => by rw [h]⟩
      · have e2 : isiB (kindD f) "str" = false := by
          cases f <;> first | rfl | exact absurd ⟨_, rfl⟩ hf
        refine ev_is (v := .bl (isiB (kindD f) "str" && false)) (ev_andV (ev_isD i0) fun z => ?_) ?_
        · rw [e2] at z
          cases z
        · rw [e2]
          cases f <;> first | rfl | exact absurd ⟨_, rfl⟩ hf
  · have e1 : isFaultD d = false := by
      cases d <;> first | rfl | exact absurd ⟨_, rfl⟩ hz
    have e2 : isiB (kindD d) "tuple" = false := by
      cases d <;> first | rfl | exact absurd ⟨_, rfl⟩ hz
    refine q_when (b := true) (et_is (b := true) (a := !(isiB (kindD d) "tuple") || true) (et_or (et_not (et_B (ev_isD (ed_var rfl r)))) fun z => ?_) (by rw [e2]; rfl)) (fun hb H1 e1' => ?_) fun hb => nomatch hb
    · rw [e2] at z
      cases z
    · refine s_ret ev_c fun H2 e2 => ?_
      rw [e1] at k
      exact k _ H2 (e1'.trans e2) (.bl _)
theorem r_is_value {K : PySem.W.Frag} (vs : List V) (H : Hp) (Q : VK) (E : XK) (h : sp_is_value K vs H Q E) : t_is_value K E { nx := fun _ H' => Q .non H', rt := Q } (L2.start ["thing"] vs) H := by
  obtain ⟨v, d, rfl, r, hs, k⟩ := sp1_open h
  unfold t_is_value
  exact s_ret (v := .bl (isValueD d)) (ev_orV (ev_spB (ed_var rfl r) trivial) fun _ => ev_spB (ed_var rfl r) hs) fun H1 e1 => k _ H1 e1 (.bl _)
end Z

set_option Elab.async false
set_option linter.all false
set_option autoImplicit false
set_option maxRecDepth 100000
set_option maxHeartbeats 4000000
/-! ev: what an expression comes to, by its form -/
local macro_rules | `(tactic| k_places) => `(tactic| (repeat' (first
  | (with_reducible exact ev_c)
  | (with_reducible exact ev_var rfl)
  | (with_reducible refine ev_chainLL ?_ ?_ ?_)
  | (with_reducible refine ev_chainLt ?_ ?_ ?_)
  | (with_reducible refine ev_op ?_ ?_ ?_)
  | (with_reducible refine ev_neg ?_)
  | (with_reducible refine et_test ?_)
  | (with_reducible refine et_B ?_)
  | (with_reducible refine et_not ?_)
  | (with_reducible refine et_and ?_ (fun _ => ?_))
  | (with_reducible refine et_or ?_ (fun _ => ?_))
  | (with_reducible refine ev_andV ?_ (fun _ => ?_))
  | (with_reducible refine ev_orV ?_ (fun _ => ?_))
  | (with_reducible refine ev_notV ?_)
  | (with_reducible exact rv_addI)
  | (with_reducible exact rv_subI)
  | (with_reducible exact rv_lt)
  | (with_reducible exact rv_le)
  | (with_reducible exact rv_gt)
  | (with_reducible exact rv_ge)
  | (with_reducible exact rv_isB)
  | (with_reducible exact rv_isnB)
  | (with_reducible exact rv_isN)
  | (with_reducible exact rv_isnN)
  | (with_reducible exact rv_eqS rfl)
  | (with_reducible exact rv_neS rfl)
  | (with_reducible exact rv_inStr)
  | (with_reducible exact rv_ninStr)
  | (with_reducible exact rv_mod (by first | decide | omega | assumption))
  | (with_reducible exact rv_div (by first | decide | omega | assumption))
  | (with_reducible exact rv_pow (by decide))
  | (with_reducible refine ed_i ?_; done)
  | (with_reducible exact ea_nil)
  | (with_reducible refine ea_cons ?_ ?_)
  | (with_reducible exact eds_nil)
  | (with_reducible refine eds_cons ?_ ?_)
  | (with_reducible exact ed_dnew)
  | (with_reducible refine ed_lst ?_ (by simp only [List.length_cons, List.length_nil]; omega))
  | (with_reducible refine ed_tup ?_ (by simp only [List.length_cons, List.length_nil]; omega)))))
namespace Z
open PySem PySem.Spec PyProof.Rows L2 Evl
/-! ### texts and draws -/
def tJoin (K : PySem.W.Frag) : TE → TE → TE := tM1 (fun x xs H Q => ∃ a p, ∃ ys : List Str, x = .str a ∧ xs = [.ref p] ∧ (SqL K H p (ys.map V.str) ∨ SqT K H p (ys.map V.str)) ∧
      (ys.map (·.length)).sum + ys.length * a.length ≤ 16777216 ∧ Q (.str (Txt.join a ys)) H)
theorem toL_joinL0 : ∀ l : List Nat, TL.joinL [] (l.map fun c => [c]) = l
  | [] => rfl
  | [c] => rfl
  | c :: d :: r => by
    have ih := toL_joinL0 (d :: r)
    show [c] ++ ([] ++ TL.joinL [] ((d :: r).map fun c => [c])) = c :: d :: r
    rw [ih]
    rfl
theorem join_signs (l : List Nat) : Txt.join (SX.S []) (l.map fun c => SX.S [c]) = SX.S l := by
  have h := SX.join_S [] (l.map fun c => [c])
  rw [List.map_map] at h
  rw [toL_joinL0] at h
  exact h
theorem sum_ones (l : List Nat) : ((l.map fun c => SX.S [c]).map (·.length)).sum = l.length := by
  induction l with
  | nil => rfl
  | cons a r ih =>
    rw [List.map_cons, List.map_cons, List.sum_cons, ih, List.length_cons]
    show 1 + r.length = r.length + 1
    omega
theorem atI_emod {α : Type} (l : List α) (x : Int) (d : α) {n : Int} (hn : n = l.length) (h : 0 < n) : atI l (x % n) = some (l.getD (x % n).toNat d) := by
  have h1 := Int.emod_nonneg x (show n ≠ 0 by omega)
  have h2 := Int.emod_lt_of_pos x h
  have hl : (x % n).toNat < l.length := by omega
  have e : x % n = (((x % n).toNat : Nat) : Int) := by omega
  have g : l[(x % n).toNat]? = some (l.getD (x % n).toNat d) := by
    rw [List.getD_eq_getElem?_getD, List.getElem?_eq_getElem hl]
    rfl
  have q := atI_nat g
  rw [← e] at q
  exact q
theorem getD_mem {α : Type} {l : List α} {i : Nat} {d : α} (h : i < l.length) : l.getD i d ∈ l := by
  rw [List.getD_eq_getElem?_getD, List.getElem?_eq_getElem h]
  exact List.getElem_mem h
theorem emod_lt_len {α : Type} {l : List α} (x : Int) {n : Int} (hn : n = l.length) (h : 0 < n) : (x % n).toNat < l.length := by
  have h1 := Int.emod_nonneg x (show n ≠ 0 by omega)
  have h2 := Int.emod_lt_of_pos x h
  omega
theorem emod_bd (x : Int) {n : Int} (h : 0 < n) : 0 ≤ x % n ∧ x % n < n := ⟨Int.emod_nonneg x (by omega), Int.emod_lt_of_pos x h⟩
theorem map_str_S (l : List Nat) : (l.map fun c => SX.S [c]).map V.str = l.map fun c => V.str ⟨#[c]⟩ := by
  rw [List.map_map]
  rfl
section
variable {K : PySem.W.Frag} {σ : L2.St} {H H' : Hp} {ta tb te tx : TE} {D : Ends}
theorem ev_joinP {a : Str} {ys : List Str} {p : Addr} (ha : Ev ta σ H (.str a)) (hb : Ev tb σ H (.ref p)) (hs : H p = some (.lst (ys.map V.str))) (hl : (ys.map (·.length)).sum + ys.length * a.length ≤ 16777216) : Ev (tJoin K ta tb) σ H (.str (Txt.join a ys)) := fun H1 e Q q =>
  ha H1 e _ fun H2 e2 => ⟨⟨a, rfl⟩, hb H2 (e.trans e2) _ fun H3 e3 => ⟨a, p, ys, rfl, rfl, .inl (SqL.of (((e.trans e2).trans e3) _ _ hs)), hl, q H3 (e2.trans e3)⟩⟩
/-- "".join of a list of signs -/
theorem ev_joinSigns {l : List Nat} {p : Addr} (hb : Ev tb σ H (.ref p)) (hs : H p = some (.lst (l.map fun c => V.str ⟨#[c]⟩))) (hl : l.length ≤ 1000000) : Ev (tJoin K (tC (.str "")) tb) σ H (.str (SX.S l)) := by
  refine ev_is (ev_joinP (a := SX.S []) (ys := l.map fun c => SX.S [c]) (ev_is ev_c rfl) hb (by rw [map_str_S]; exact hs) ?_) (by rw [join_signs])
  rw [sum_ones, List.length_map]
  show l.length + l.length * 0 ≤ 16777216
  omega
/-- "abc"[x % n] -/
theorem ev_sign {w : Str} {x n : Int} (ha : Ev ta σ H (.str w)) (hb : Ev tb σ H (.int (x % n))) (hn : n = w.cps.toList.length) (h : 0 < n) (hw : w.length ≤ 100000) : Ev (tOp (rIxA K) ta tb) σ H (.str ⟨#[w.cps.toList.getD (x % n).toNat 0]⟩) :=
  ev_op ha hb (rv_itS hw (atI_emod _ x 0 hn h))
end
section
variable {K : PySem.W.Frag} {σ : L2.St} {H H' : Hp} {ta tb te tx : TE} {tl : TE} {D : Ends} {tu tz : TS}
/-- for c in a text -/
theorem s_forS {a : Str} {j : Nat} (h : Ev tl σ H (.str a)) (Pv : Nat → L2.St → Hp → Prop) (h0 : ∀ H1, Ex H H1 → Pv 0 σ H1)
    (hs : ∀ i c σ' H', a.cps.toList[i]? = some c → Pv i σ' H' → tu { D with nx := Pv (i + 1), ct := Pv (i + 1), bk := D.nx } (σ'.set j (some (.str ⟨#[c]⟩))) H') (hd : ∀ σ' H', Pv a.cps.toList.length σ' H' → D.nx σ' H') : tFor (iStr tl) (gName j) tu D σ H := by
  refine h H (Ex.refl H) _ fun H1 e => ⟨a, rfl, ?_⟩
  refine ⟨fun i m σ' H' => m = a.cps.toList.length - i ∧ i ≤ a.cps.toList.length ∧ Pv i σ' H', ⟨a.cps.toList.length, by simp, Nat.zero_le _, h0 H1 e⟩, ?_⟩
  rintro i m σ' H' ⟨rfl, hi, p⟩
  by_cases hlt : i < a.cps.toList.length
  · refine .inr ⟨show i < a.cps.size by simpa using hlt, fun σ2 H2 => Pv (i + 1) σ2 H2, fun σ2 H2 p2 => ⟨a.cps.toList.length - (i + 1), by omega, rfl, hlt, p2⟩, ?_⟩
    rintro x2 H2 ⟨rfl, c, hc, rfl⟩
    exact hs i c σ' _ (by rw [Array.getElem?_toList]; exact hc) p
  · have e0 : i = a.cps.toList.length := by omega
    subst e0
    exact .inl ⟨show a.cps.size ≤ a.cps.toList.length by simp, hd σ' H' p⟩
theorem q_forS {a : Str} {j : Nat} (h : Ev tl σ H (.str a)) (Pv : Nat → L2.St → Hp → Prop) (h0 : ∀ H1, Ex H H1 → Pv 0 σ H1)
    (hs : ∀ i c σ' H', a.cps.toList[i]? = some c → Pv i σ' H' → tu { D with nx := Pv (i + 1), ct := Pv (i + 1), bk := tz D } (σ'.set j (some (.str ⟨#[c]⟩))) H') (hd : ∀ σ' H', Pv a.cps.toList.length σ' H' → tz D σ' H') : tSeq (tFor (iStr tl) (gName j) tu) tz D σ H := s_forS (D := { D with nx := tz D }) h Pv h0 hs hd
/-- {i: v}, v no object -/
theorem ed_disp1 {i : Int} {v : V} {d : PyData} (hk : Ev ta σ H (.int i)) (hv : Ev tb σ H v) (hd : ∀ H, Dt H v d) : EvD (tDisp ((ta, tb) :: [])) σ H (.dict [(.int i, d)]) := fun H1 e0 Q q p hp => by
  show ta σ (upd H1 p (.dK [])) _
  have e1 : Ex H1 (upd H1 p (.dK [])) := Ex.new hp
  refine hk _ (e0.trans e1) _ fun H2 e2 => hv H2 ((e0.trans e1).trans e2) _ fun H3 e3 => ⟨(e2.trans e3) _ _ upd_same, [(.inl i, v)], rfl, (show 1 ≤ 15 by decide), ?_⟩
  refine q _ _ (Ex.mut ((e1.trans e2).trans e3) hp) ?_
  exact .dct (kvs := [(.inl i, v)]) (ds := [d]) upd_same (.cons (hd _) .nil)
/-- xs[i] = v -/
theorem s_setA {l : Addr} {xs : List V} {j : Nat} {v : V} (hl : H l = some (.lst xs)) (h : Ev te σ H v) (ho : Ev ta σ H (.ref l)) (hi : Ev tb σ H (.int (j : Int))) (hj : j < xs.length) (k : ∀ H1, Ex H H1 → D.nx σ (upd H1 l (.lst (xs.set j v)))) :
    tAsg te (gSub ta tb rSetA) D σ H := h H (Ex.refl H) _ fun H1 e1 => ho H1 e1 _ fun H2 e2 => hi H2 (e1.trans e2) _ fun H3 e3 =>
  .inl ⟨l, xs, (j : Int), j, rfl, rfl, ((e1.trans e2).trans e3) l _ hl, ixN_nat hj, k H3 ((e1.trans e2).trans e3)⟩
end
/-! ### _law_cell -/
def cellV (ns : List Int) (k : Nat) : Int :=
  if k < ns.length then ns.getD k 0
  else ((if 0 < ns.length then ns.getD (k % ns.length) 0 % 2147483647 else 41) + (k : Int) * k + 5) * (48271 + 16807 * (k : Int)) % 2147483629
def sp_law_cell (K : PySem.W.Frag) : Sp := fun vs H Q _ => ∃ (l : Addr) (ns : List Int) (j : Nat), vs = [.ref l, .int (j : Int)] ∧ SqL K H l (ns.map V.int) ∧ j ≤ 100000 ∧ RetV (.int (cellV ns j)) H Q
def t_law_cell (K : PySem.W.Frag) (E : XK) : TS :=
  tSeq (tIfS (tTest (tOp rLtA (tVar 1) (tCB (rLenA K) (tCons (tVar 0) tNil)))) (tRet (tOp (rIxA K) (tVar 0) (tVar 1))) tNext)
    (tSeq (tAsg (tC (.int 41)) (gName 2))
    (tSeq (tIfS (tTest (tOp rGtA (tCB (rLenA K) (tCons (tVar 0) tNil)) (tC (.int 0)))) (tAsg (tOp rModA (tOp (rIxA K) (tVar 0) (tOp rModA (tVar 1) (tCB (rLenA K) (tCons (tVar 0) tNil)))) (tC (.int 2147483647))) (gName 2)) tNext)
    (tRet (tOp rModA (tOp (rMulA K) (tOp (rAddA K) (tOp (rAddA K) (tVar 2) (tOp (rMulA K) (tVar 1) (tVar 1))) (tC (.int 5))) (tOp (rAddA K) (tC (.int 48271)) (tOp (rMulA K) (tC (.int 16807)) (tVar 1)))) (tC (.int 2147483629))))))
theorem ints_at {ns : List Int} {k : Nat} (h : k < ns.length) : atI (ns.map V.int) (k : Int) = some (.int (ns.getD k 0)) := by
  refine atI_nat ?_
  rw [List.getElem?_map, List.getElem?_eq_getElem h, List.getD_eq_getElem?_getD, List.getElem?_eq_getElem h]
  rfl
theorem r_law_cell {K : PySem.W.Frag} (vs : List V) (H : Hp) (Q : VK) (E : XK) (h : sp_law_cell K vs H Q E) : t_law_cell K E { nx := fun _ H' => Q .non H', rt := Q } (L2.start ["script", "k", "seed"] vs) H := by
  obtain ⟨l, ns, j, rfl, hl, hj, k⟩ := h
  unfold t_law_cell
  have hlen : ∀ {σ : L2.St} {H1 : Hp}, σ[0]? = some (some (V.ref l)) → Ex H H1 → Ev (tCB (rLenA K) (tCons (tVar 0) tNil)) σ H1 (.int ns.length) := fun h0 e => by
    have := ev_lenV (ta := tVar 0) (ev_var h0) (rc_lenL (K := K) (ex_l e hl))
    rw [List.length_map] at this
    exact this
  refine q_when (et_test (ev_op (ev_var rfl) (hlen rfl (Ex.refl H)) rv_lt)) (fun hb H1 e1 => ?_) (fun hb H1 e1 => ?_)
  · have hb := of_decide_eq_true hb
    refine s_ret (ev_op (ev_var rfl) (ev_var rfl) (rv_itL (ex_l e1 hl) (ints_at (show j < ns.length by omega)))) fun H2 e2 => ?_
    unfold RetV cellV at k
    rw [if_pos (by omega)] at k
    exact k H2 (e1.trans e2)
  · have hb := of_decide_eq_false hb
    refine q_asg ev_c fun H2 e2 => ?_
    refine q_ifAsg (v := .int (if 0 < ns.length then ns.getD (j % ns.length) 0 % 2147483647 else 41)) (et_test (ev_op (hlen rfl (e1.trans e2)) ev_c rv_gt)) (fun hp => ?_) (fun hp => ?_) fun H3 e3 => ?_
    · have hp := of_decide_eq_true hp
      have hp : 0 < ns.length := by omega
      rw [if_pos hp]
      refine ev_op (ev_op (ev_var rfl) (ev_is (ev_op (ev_var rfl) (hlen rfl (e1.trans e2)) (rv_mod (by omega))) (by rw [← Int.natCast_emod])) (rv_itL (ex_l (e1.trans e2) hl) (ints_at (Nat.mod_lt _ hp)))) ev_c (rv_mod (by decide))
    · have hp := of_decide_eq_false hp
      rw [if_neg (by omega)]
      rfl
    · generalize hs : (if 0 < ns.length then ns.getD (j % ns.length) 0 % 2147483647 else 41) = sd at *
      have b : 0 ≤ sd ∧ sd < 2147483647 := by
        rw [← hs]
        split
        · exact emod_bd _ (by decide)
        · decide
      have j2 : (j : Int) * j < 2 ^ 40 ∧ 0 ≤ (j : Int) * j := by
        have h1 : j * j ≤ 100000 * 100000 := Nat.mul_le_mul hj hj
        have h2 : ((j * j : Nat) : Int) = (j : Int) * j := Int.natCast_mul j j
        rw [← h2]
        omega
      refine s_ret (ev_op (ev_op (ev_op (ev_op (ev_var rfl) (ev_op (ev_var rfl) (ev_var rfl) (rv_mulI (wide_mul (a := 20) (b := 20) (by omega) (by omega) (by decide) (by decide) (by decide)))) rv_addI) ev_c rv_addI) (ev_op ev_c (ev_op ev_c (ev_var rfl) (rv_mulI (wide_mul (a := 20) (b := 20) (by omega) (by omega) (by decide) (by decide) (by decide)))) rv_addI) (rv_mulI (wide_mul (a := 50) (b := 50) (by omega) (by omega) (by decide) (by decide) (by decide)))) ev_c (rv_mod (by decide))) fun H4 e4 => ?_
      unfold RetV cellV at k
      rw [if_neg (by omega), hs] at k
      exact k H4 (((e1.trans e2).trans e3).trans e4)
section
variable {K : PySem.W.Frag} {σ : L2.St} {H H' : Hp} {ta tb te tx : TE} {E : L2.St → XK}
theorem ev_cell {l : Addr} {ns : List Int} {j : Nat} (ha : Ev ta σ H (.ref l)) (hb : Ev tb σ H (.int (j : Int))) (hl : SqL K H l (ns.map V.int)) (hj : j ≤ 100000) : Ev (tCallS (sp_law_cell K) E (tCons ta (tCons tb tNil))) σ H (.int (cellV ns j)) :=
  ev_callS (ea_cons ha (ea_cons hb ea_nil)) fun H1 e Q q E => ⟨l, ns, j, rfl, ex_l e hl, hj, fun H2 e2 => q H2 e2⟩
end
/-! ### often wanted -/
theorem lt60 {i : Int} (h : -(10 ^ 62) < i) (h2 : i < 10 ^ 62) : i.natAbs.log2 < 1000 := by
  refine PySem.Flt.log2_lt_of (by decide) (Nat.lt_trans (m := 10 ^ 62) (by omega) (by decide +kernel))
theorem name_of {l : List Nat} (h1 : 1 ≤ l.length) (h2 : l.length ≤ 8) (h : ∀ c ∈ l, c ∈ lets) : isName (SX.S l) = true := by
  unfold isName
  rw [decide_eq_true (by rw [SX.S_len]; exact ⟨h1, h2⟩), Bool.true_and]
  exact List.all_eq_true.mpr fun c hc => decide_eq_true (h c hc)
theorem name_len {z : Str} (h : isName z = true) : 1 ≤ z.length ∧ z.length ≤ 8 := by
  unfold isName at h
  exact of_decide_eq_true (Bool.and_eq_true_iff.mp h).1
theorem isFault_pair (f : Str) (w : PyData) : isFaultD (.tuple [.str f, w]) = (decide (f = ("fault" : Str)) && isNameD w) := rfl
theorem lets_lt : ∀ c ∈ lets, c < 128 := by decide +kernel
theorem name_ok {z : Str} (h : isName z = true) : okS z := by
  have := name_len h
  unfold isName at h
  refine okS_of (by omega) fun c hc => lets_lt c ?_
  exact of_decide_eq_true (List.all_eq_true.mp (Bool.and_eq_true_iff.mp h).2 c hc)
theorem okF : okS "fault" := ⟨by decide +kernel, by decide +kernel⟩
theorem okS_rep {z : Str} (h : okS z) {n : Int} (hn : z.length * n.toNat ≤ 30000) : okS (repS z n) := by
  unfold repS
  have e : z.cps.toList.length = z.length := by simp [Str.length]
  refine ⟨?_, ?_⟩
  · rw [SX.S_len, List.length_flatten, List.map_replicate, e]
    have : ∀ n : Nat, (List.replicate n z.length).sum = z.length * n := fun n => by
      induction n with
      | zero => rfl
      | succ n ih => rw [List.replicate_succ, List.sum_cons, ih, Nat.mul_succ, Nat.add_comm]
    rw [this]
    exact hn
  · show ((List.replicate n.toNat z.cps.toList).flatten).toArray.all (· < 1114112) = true
    rw [List.all_toArray]
    refine List.all_eq_true.mpr fun c hc => ?_
    obtain ⟨l, h1, h2⟩ := List.mem_flatten.mp hc
    rw [List.eq_of_mem_replicate h1] at h2
    have h3 := h.cps
    rw [← Array.all_toList] at h3
    exact List.all_eq_true.mp h3 c h2
theorem isNum_iff (x : Int) : isNumD (.int x) = decide (-(10 ^ 60) < x ∧ x < 10 ^ 60) := rfl
theorem ev_chainT {K : PySem.W.Frag} {σ : L2.St} {H : Hp} {ta tb tx : TE} {i j k : Int} (ha : Ev ta σ H (.int i)) (hb : Ev tb σ H (.int j)) (hc : Ev tx σ H (.int k)) : Ev (tChain rLtA rLtA ta tb tx) σ H (.bl (decide (i < j) && decide (j < k))) :=
  ev_chainI (g := fun a b => decide (a < b)) (g' := fun a b => decide (a < b)) ha hb hc
theorem len_is_whole {K : PySem.W.Frag} (vs : List V) (H : Hp) (Q : VK) (E : XK) (h : sp_is_whole K vs H Q E) : vs.length = 1 := by obtain ⟨_, _, rfl, _⟩ := sp1_open h; rfl
theorem len_is_name {K : PySem.W.Frag} (vs : List V) (H : Hp) (Q : VK) (E : XK) (h : sp_is_name K vs H Q E) : vs.length = 1 := by obtain ⟨_, _, rfl, _⟩ := sp1_open h; rfl
theorem len_is_fault {K : PySem.W.Frag} (vs : List V) (H : Hp) (Q : VK) (E : XK) (h : sp_is_fault K vs H Q E) : vs.length = 1 := by obtain ⟨_, _, rfl, _⟩ := sp1_open h; rfl
theorem len_is_number {K : PySem.W.Frag} (vs : List V) (H : Hp) (Q : VK) (E : XK) (h : sp_is_number K vs H Q E) : vs.length = 1 := by obtain ⟨_, _, rfl, _⟩ := sp1_open h; rfl
theorem len_is_value {K : PySem.W.Frag} (vs : List V) (H : Hp) (Q : VK) (E : XK) (h : sp_is_value K vs H Q E) : vs.length = 1 := by obtain ⟨_, _, rfl, _⟩ := sp1_open h; rfl
theorem len_law_cell {K : PySem.W.Frag} (vs : List V) (H : Hp) (Q : VK) (E : XK) (h : sp_law_cell K vs H Q E) : vs.length = 2 := by obtain ⟨_, _, _, rfl, _⟩ := h; rfl
end Z

set_option Elab.async false
set_option linter.all false
set_option autoImplicit false
set_option maxRecDepth 100000
set_option maxHeartbeats 4000000
/-! ev: what an expression comes to, by its form -/
local macro_rules | `(tactic| k_places) => `(tactic| (repeat' (first
  | (with_reducible exact ev_c)
  | (with_reducible exact ev_var rfl)
  | (with_reducible refine ev_chainLL ?_ ?_ ?_)
  | (with_reducible refine ev_chainLt ?_ ?_ ?_)
  | (with_reducible refine ev_op ?_ ?_ ?_)
  | (with_reducible refine ev_neg ?_)
  | (with_reducible refine et_test ?_)
  | (with_reducible refine et_B ?_)
  | (with_reducible refine et_not ?_)
  | (with_reducible refine et_and ?_ (fun _ => ?_))
  | (with_reducible refine et_or ?_ (fun _ => ?_))
  | (with_reducible refine ev_andV ?_ (fun _ => ?_))
  | (with_reducible refine ev_orV ?_ (fun _ => ?_))
  | (with_reducible refine ev_notV ?_)
  | (with_reducible exact rv_addI)
  | (with_reducible exact rv_subI)
  | (with_reducible exact rv_lt)
  | (with_reducible exact rv_le)
  | (with_reducible exact rv_gt)
  | (with_reducible exact rv_ge)
  | (with_reducible exact rv_isB)
  | (with_reducible exact rv_isnB)
  | (with_reducible exact rv_isN)
  | (with_reducible exact rv_isnN)
  | (with_reducible exact rv_eqS rfl)
  | (with_reducible exact rv_neS rfl)
  | (with_reducible exact rv_inStr)
  | (with_reducible exact rv_ninStr)
  | (with_reducible exact rv_mod (by first | decide | omega | assumption))
  | (with_reducible exact rv_div (by first | decide | omega | assumption))
  | (with_reducible exact rv_pow (by decide))
  | (with_reducible refine ed_i ?_; done)
  | (with_reducible exact ea_nil)
  | (with_reducible refine ea_cons ?_ ?_)
  | (with_reducible exact eds_nil)
  | (with_reducible refine eds_cons ?_ ?_)
  | (with_reducible exact ed_dnew)
  | (with_reducible refine ed_lst ?_ (by simp only [List.length_cons, List.length_nil]; omega))
  | (with_reducible refine ed_tup ?_ (by simp only [List.length_cons, List.length_nil]; omega)))))
namespace Z
open PySem PySem.Spec PyProof.Rows L2 Evl
/-! ### a caught exception that is kept by a name -/
def exA (a : Addr) (cls : Value) (d : Option Addr) : HO := .ext fun h => ∃ o : Obj, h.get? a = some o ∧ o.cls = cls ∧ o.dict = d ∧ ∃ vs, o.data = .fields vs
theorem exA_ok {P : Program} {w : World} {H : Hp} {h : Heap} {a : Addr} {cls : Value} {d : Option Addr} {o : Obj} (e : h.get? a = some o) (z : Zc cls d o) (f : ∃ vs, o.data = .fields vs) : ObjOk P w H h a (exA a cls d) :=
  ⟨⟨o, e, z.1, z.2, f⟩, ⟨o, e⟩, fun _ _ ⟨o, e, r⟩ k => ⟨o, k o e, r⟩⟩
theorem exA_at {P : Program} {w : World} {H : Hp} {h : Heap} {a : Addr} {cls : Value} {d : Option Addr} (ok : HOk P w H h) (e : H a = some (exA a cls d)) : ∃ o : Obj, h.get? a = some o ∧ o.cls = cls ∧ o.dict = d ∧ ∃ vs, o.data = .fields vs := by
  have x := ok a _ e
  exact x.1
section
variable {X : Cx} {pins : List (Addr × Obj)} {σ : L2.St} {H : Hp} {s : Shared}
/-- an object that was only known by its place is written into the heap that is told -/
theorem inv_track {a : Addr} {oe : Obj} {cls : Value} {d : Option Addr} (I : Inv X ((a, oe) :: pins) σ H s) (z : Zc cls d oe) (f : ∃ vs, oe.data = .fields vs) (h0 : X.s_0.heap.get? a = none) (hp : ∀ p ∈ X.pn ++ pins, p.1 ≠ a) : Inv X pins σ (upd H a (exA a cls d)) s := by
  obtain ⟨ga, na, nL, nF, nC⟩ := I.pin (a, oe) (List.mem_append_right _ List.mem_cons_self)
  have ga : s.heap.get? a = some oe := ga
  have na : H a = none := na
  have nL : a ≠ X.env.locals := nL
  refine ⟨I.ok, I.os, I.bare, ⟨I.base.keep, I.base.slot, fun b o e n hx => ?_, I.base.there, fun b xs e => ?_, fun b o u e => ?_, fun b ps e => ?_⟩, I.loc, I.cell, ?_, fun x c e => ?_, fun p hq => ?_, fun b o e => ?_, I.len⟩
  · have hb : b ≠ a := fun q => by rw [q, h0] at e; cases e
    rw [upd_ne hb]
    exact I.base.free b o e n hx
  · have q := I.base.tups b xs e
    rw [upd_ne (ne_of_none q na)]
    exact q
  · have q := I.base.frzs b o u e
    rw [upd_ne (ne_of_none q na)]
    exact q
  · obtain ⟨m, q⟩ := I.base.tbls b ps e
    exact ⟨m, by rw [upd_ne (ne_of_none q na)]; exact q⟩
  · rw [upd_ne (Ne.symm nL)]
    exact I.free
  · have hc : c ≠ a := fun q => by
      obtain ⟨v, o, ho, hd⟩ := I.cell x c e
      rw [q, ga] at ho
      cases ho
      obtain ⟨vs, hv⟩ := f
      rw [hv] at hd
      cases hd
    rw [upd_ne hc]
    exact I.freeC x c e
  · obtain ⟨g, n, l1, l2, l3⟩ := I.pin p (by
      rcases List.mem_append.mp hq with q | q
      · exact List.mem_append_left _ q
      · exact List.mem_append_right _ (List.mem_cons_of_mem _ q))
    refine ⟨g, ?_, l1, l2, l3⟩
    rw [upd_ne (hp p hq)]
    exact n
  · by_cases hb : b = a
    · subst hb
      rw [upd_same] at e
      cases e
      exact exA_ok ga z f
    · rw [upd_ne hb] at e
      refine (I.hok b o e).stay (fun _ _ _ q => q) (fun c q => ?_) fun c xs q => ?_
      · rw [upd_ne (ne_of_none q na)]
        exact q
      · rw [upd_ne (ne_of_none q na)]
        exact q
end
/-- what «except x as n: y = n» wishes of an exception of the body: slots i of n, j of y -/
def wKeep (K : PySem.W.Frag) (c : Value) (i j : Nat) (Wout : WX) (D : Ends) : WX := fun cls d σ H =>
  ∃ b, PySem.W.exmOne K cls c = some b ∧ (b = true → ∀ a, H a = none → D.nx (((σ.set i (some (.ref a))).set j (some (.ref a))).set i none) (upd H a (exA a cls d))) ∧ (b = false → Wout cls d σ H)
def tTryK (K : PySem.W.Frag) (c : Value) (i j : Nat) (Wout : WX) (tb : WX → TS) : TS := fun D σ H => tb (wKeep K c i j Wout D) D σ H
section
variable {X : Cx} {x n y : Str} {c : Value} {i j : Nat} {body : List Stmt} {np pos pos' py pn' pa : Pos} {tb : WX → TS} {Wout : WX}
theorem ps_try_keep (hs : X.stack = X.env :: X.outer) (hf : X.env.frame = some X.env.locals) (hex : X.ex = []) (hN : X.N.Nodup) (hi : X.N[i]? = some n) (hln : X.env.scope.names.lookup n = some .local) (hj : X.N[j]? = some y) (hly : X.env.scope.names.lookup y = some .local) (hc : Names X x c) (tk : Takes X Wout)
    (hb : ∀ (W : WX) (pn : List (Addr × Obj)) (xe : Value → Shared → Prop), Takes (X.tr pn xe) W → PassesOwn (model X.prog X.w) X.A X.env xe → PSs (X.tr pn xe) body (tb W))
    (hd1 : (n == ("__debug__" : Str)) = false := by decide) (hd2 : (n == ("__classdict__" : Str)) = false := by decide) (hsw : swapsWith (.Name n pn') (some (.Name y py)) pa.line X.env = pure false := by rfl) :
    PS X (.Try body [.ExceptHandler (some (.Name x np)) (some n) [.Assign [.Name y py] (.Name n pn') pa] pos'] [] [] pos) (tTryK X.K c i j Wout tb) := by
  refine ⟨fun pins s σ H D I h => ?_⟩
  have ok := I.ok
  have ih : i < σ.length := by rw [I.len]; exact (List.getElem?_eq_some_iff.mp hi).1
  have stk : X.A.frames = some (X.env :: X.outer) := by rw [ok.frames, hs]
  refine wpAny_Try_except (wpAny_mono ((hb (wKeep X.K c i j Wout D) (X.pn ++ pins) _ (fun u s' xx => ?caught) PassesOwn.looking).run [] s σ H D (I.toTry _) h) (fun f s1 hsp => ?thru) (fun e s1 he => he))
  case thru =>
    cases f with
    | next =>
      obtain ⟨σ', H', J, q⟩ := hsp
      exact wpAny_execs_nil ⟨σ', H', J.ofTry ok, q⟩
    | brk =>
      obtain ⟨σ', H', J, q⟩ := hsp
      exact ⟨σ', H', J.ofTry ok, q⟩
    | cont =>
      obtain ⟨σ', H', J, q⟩ := hsp
      exact ⟨σ', H', J.ofTry ok, q⟩
    | ret u =>
      obtain ⟨v, σ', H', J, r, q⟩ := hsp
      exact ⟨v, σ', H', J.ofTry ok, r, q⟩
  case caught =>
    obtain ⟨a, B, sI, pins', σ', H', cls, d, rfl, J', nb, up, sky, na, os, ag, b, hb1, hyes, hno⟩ := xx
    have J : Inv X pins σ' H' sI := J'.ofTry ok
    rw [hs] at sky nb
    show wpAny (model X.prog X.w) X.A (noteFrame (.ref a) X.env) _ _ _
    refine Sky.land Zc.steady stk hf sky fun h3 fl3 up3 => ?_
    have J3 : Inv X pins σ' H' { s' with heap := h3 } := J.landed (by rw [hs]; exact nb) fl3.1 (up.trans up3) os ag
    obtain ⟨oe3, vs3, he3, hz3, hd3⟩ := fl3.there
    have off : a ∉ frs (X.env :: X.outer) := fun hm => by
      obtain ⟨_, o', e', hnf⟩ := fl3.2.2.1.mem hm
      rw [he3] at e'
      cases e'
      exact hnf _ hd3
    have nL : a ≠ X.env.locals := fun q => off (List.mem_filterMap.mpr ⟨X.env, List.mem_cons_self, by rw [hf, q]⟩)
    have nF : a ∉ X.fs := fun hm => by
      obtain ⟨e, he, q⟩ := List.mem_filterMap.mp hm
      exact off (List.mem_filterMap.mpr ⟨e, List.mem_cons_of_mem _ he, q⟩)
    have newI : sI.heap.get? a = none := by
      cases q : sI.heap.get? a with
      | none => rfl
      | some o =>
        have z := nb a o q off
        rw [fl3.2.1] at z
        cases z
    have new0 : X.s_0.heap.get? a = none := by
      cases q : X.s_0.heap.get? a with
      | none => rfl
      | some o =>
        obtain ⟨o', e'⟩ := J.base.there a o q (by rw [hex]; simp)
        rw [newI] at e'
        cases e'
    have pinsNe : ∀ p ∈ X.pn ++ pins, p.1 ≠ a := fun p hp q => by
      have z := (J.pin p hp).1
      rw [q, newI] at z
      cases z
    have S3 := J3.suite he3 hd3 na nL nF
    refine wpAny_handleBy_cons (codeAny_handlers_test ?_) (by intro q; cases q)
    have LT : PySem.W.Looks (model X.prog X.w) h3 (typeOf (.ref a)) cls := fun A Q E s k q => wpAny_typeOf_ref (k _ _ he3) (by rw [hz3.1]; exact q)
    have LM := PySem.W.exm_one (M := model X.prog X.w) J3.kIn LT hb1
    have test : ∀ {Q : Value → Shared → Prop} {E : Value → Shared → Prop}, Q c { s' with heap := h3 } → wpAny (model X.prog X.w) (X.A.mark (some (.ref a))) (eval (.Name x np) X.env) Q E { s' with heap := h3 } := fun {Q E} q => by
      obtain ⟨hg, hdb, hm | ⟨hm, hv, hnn⟩⟩ := hc
      · exact ld_glob (X := X.suite a ((a, oe3) :: (X.pn ++ pins))) S3 hg hm q hdb
      · exact ld_blt (X := X.suite a ((a, oe3) :: (X.pn ++ pins))) S3 hg hm hv q hnn hdb
    refine test (LM.here ?_)
    cases b with
    | false =>
      show wpAny _ X.A (handleBy (.ref a) X.env []) _ _ _
      refine wpAny_handleBy_nil ?_
      obtain ⟨k1, k2, k3, oe, vs, T, oT, ts', he, hz, hd, h1, hr⟩ := id fl3
      unfold PySem.passOn
      refine wpAny_bind (wpAny_field he hd h1 ?_)
      rw [if_neg (show ¬ ((Value.ref T == Value.none) = true) from by simp)]
      have fin : wpAny (model X.prog X.w) X.A (setFlight (.ref a) X.env.frame) (fun _ s4 => wpAny (model X.prog X.w) X.A (throw (.ref a) : Sem Flow) (SP X pins D) X.xe s4) X.xe { s' with heap := h3 } := by
        rw [hf]
        refine HandSPX.setFlight_upZ fl3 fun h4 hh4 up4 => wpAny_throw (tk _ _ ?_)
        exact ⟨a, B, sI, pins, σ', H', cls, d, rfl, J, by rw [hs]; exact nb, (up.trans up3).trans up4, .inr (.inr (by rw [hs]; exact hh4)), na, os, ag, hno rfl⟩
      first
        | exact wpAny_bind (wpAny_pure (wpAny_bind fin))
        | exact wpAny_bind fin
    | true =>
      refine codeAny_handlers_suite_as (HandSPX.lands_againZ fl3 fun h4 fl4 up4 => ?_)
      have J4 : Inv X pins σ' H' { s' with heap := h4 } := J.landed (by rw [hs]; exact nb) fl4.1 ((up.trans up3).trans up4) os ag
      obtain ⟨oe4, vs4, he4, hz4, hd4⟩ := fl4.there
      have S4 := J4.suite he4 hd4 na nL nF
      refine store_ok (X := X.suite a ((a, oe4) :: (X.pn ++ pins))) (v := .ref a) S4 hN hi (.inl hln) rfl (fun s5 S5 => ?_) (.inr hln)
      have body1 : PSs (X.suite a ((a, oe4) :: (X.pn ++ pins))) [.Assign [.Name y py] (.Name n pn') pa] (tAsg (tVar i) (gName j)) :=
        pss_one (ps_set (X := X.suite a ((a, oe4) :: (X.pn ++ pins))) (i := j) hN hj (.inl hly) (pe_var hi (.inl hln) hd1 hd2) hsw (.inr hly))
      have ih' : i < σ'.length := by rw [J.len]; exact (List.getElem?_eq_some_iff.mp hi).1
      refine wpAny_mono (body1.run [] s5 _ H' { nx := fun σ6 H6 => σ6 = (σ'.set i (some (.ref a))).set j (some (.ref a)) ∧ H6 = H', rt := fun _ _ => False } S5 ⟨.ref a, by rw [List.getElem?_set_self ih'], rfl, rfl⟩) (fun f s6 hsp => ?_) (fun _ _ z => False.elim z)
      cases f with
      | next =>
        obtain ⟨σ6, H6, S6, e6, eH⟩ := hsp
        subst e6 eH
        have pa6 := S6.pin (a, oe4) (List.mem_append_left _ List.mem_cons_self)
        have K6 : Inv X ((a, oe4) :: pins) ((σ'.set i (some (.ref a))).set j (some (.ref a))) H6 s6 := by
          refine (S6.unsuite ok).pins_of fun p hp => ?_
          rcases List.mem_cons.mp hp with e | hp
          · rw [e]
            exact pa6
          · exact S6.pin p (List.mem_append_left _ (List.mem_cons_of_mem _ (List.mem_append_right _ hp)))
        refine gone_ok K6 hN hi hln fun s7 J7 => ⟨_, _, inv_track J7 hz4 ⟨_, hd4⟩ new0 pinsNe, hyes rfl a na⟩
      | brk =>
        obtain ⟨_, _, _, z⟩ := hsp
        exact False.elim z
      | cont =>
        obtain ⟨_, _, _, z⟩ := hsp
        exact False.elim z
      | ret u =>
        obtain ⟨_, _, _, _, _, z⟩ := hsp
        exact False.elim z
end
/-! ### isinstance of a kept exception -/
def rIsX (K : PySem.W.Frag) : List V → Hp → VK → Prop := fun xs H Q => ∃ (a D : Addr) (c : V) (u : Value) (b : Bool), xs = [.ref a, c] ∧ H a = some (exA a (.ref D) none) ∧ ExcC K D ∧ ClsV c u ∧ PySem.W.kitOne K (.ref D) u = some b ∧ Q (.bl b) H
theorem call_isX {X : Cx} : CallR X (.builtin "isinstance") (rIsX X.K) := by
  intro pins s σ H xs us Q I r h
  obtain ⟨a, D, c, u, b, rfl, ha, C, k, e, q⟩ := h
  obtain ⟨u1, u2, rfl, r1, r2⟩ := vals2 r
  have e2 := k.eq r2
  subst e2
  cases (show u1 = Value.ref a from r1)
  obtain ⟨⟨oc, od, oda, osl⟩, g, h1, h2, vs, h3⟩ := exA_at I.hok ha
  dsimp only at h1 h2 h3
  subst h1 h2 h3
  have J : PySem.W.InstAt s.heap a ⟨.ref D, none, .fields vs, osl⟩ D none := ⟨g, rfl, rfl, trivial⟩
  exact PySem.W.kia_one (PySem.W.handS_kitx_exc C.hg C.hk C.hs C.hd C.ha C.hn C.ht C.hm) I.kIn J e (fun z => nomatch z) fun tk => ⟨.bl b, H, I.tok tk, rfl, q⟩
/-! ### the program's classes -/
inductive Cn
  | ColsError | NoName | NoValue | NoTable | NoColumn | NoPlace | NoSize | NoText | NoRow | NoBack | TooMuch | Ruled | Ring | Nobody | Several
  | Table | Rule | Cells | Above | Group | Lookup | Mend | Sheet | View | Some | Ordered | Cut | Together | Beside | Desk | Shelf | Changes | Kept | Other
  deriving DecidableEq
/-- is D the class X, or below it: errors -/
def subE (D X : Cn) : Bool := D == X || X == .ColsError
/-- what is known of an error's class D, asked of the classes in L -/
structure ExK (K : PySem.W.Frag) (A : Cn → Addr) (L : List Cn) (D : Cn) : Prop where
  cc : ExcC K (A D)
  em : PySem.W.exmOne K (.ref (A D)) (.ref (A .ColsError)) = some true
  kt : ∀ X ∈ L, PySem.W.kitOne K (.ref (A D)) (.ref (A X)) = some (subE D X)
  kv : PySem.W.kitOne K (.ref (A D)) (.type "ValueError") = some true
theorem kit_of {K : PySem.W.Frag} {D X : Addr} {b : Bool} (i : PySem.W.isClsIn K X = true) (t : PySem.W.typeIn K (.ref X) = some (.type "type")) (s : PySem.W.subIn K (.ref D) (.ref X) = some b) (r : PySem.W.subIn K (.ref D) (.ref D) = some true) : PySem.W.kitOne K (.ref D) (.ref X) = some b := by
  unfold PySem.W.kitOne
  split
  · rename_i h
    have h : Value.ref D = Value.ref X := by simpa using h
    cases h
    rw [r] at s
    exact s
  · have e2 : ((PySem.W.clsIn K X).isSome && PySem.W.typeIn K (.ref X) == some (.type "type")) = true := by
      have h2' : (PySem.W.clsIn K X).isSome = true := i
      rw [h2', t] <;> rfl
    show (if ((PySem.W.clsIn K X).isSome && PySem.W.typeIn K (.ref X) == some (.type "type")) = true then PySem.W.subIn K (.ref D) (.ref X) else none) = some b
    rw [if_pos e2]
    exact s
theorem exm_of {K : PySem.W.Frag} {D X : Addr} {b : Bool} (h1 : PySem.W.subIn K (.ref X) (.type "BaseException") = some true) (i : PySem.W.isClsIn K X = true) (t : PySem.W.typeIn K (.ref X) = some (.type "type")) (s : PySem.W.subIn K (.ref D) (.ref X) = some b) : PySem.W.exmOne K (.ref D) (.ref X) = some b := by
  have e1 : (PySem.W.subIn K (.ref X) (.type "BaseException") == some true) = true := by rw [h1] <;> rfl
  have e2 : ((PySem.W.clsIn K X).isSome && PySem.W.typeIn K (.ref X) == some (.type "type")) = true := by
    have h2' : (PySem.W.clsIn K X).isSome = true := i
    rw [h2', t] <;> rfl
  show (if (PySem.W.subIn K (.ref X) (.type "BaseException") == some true) = true then (if ((PySem.W.clsIn K X).isSome && PySem.W.typeIn K (.ref X) == some (.type "type")) = true then PySem.W.subIn K (.ref D) (.ref X) else none) else none) = some b
  rw [if_pos e1, if_pos e2]
  exact s
theorem kitv_of {K : PySem.W.Frag} {D : Addr} (s : PySem.W.subIn K (.ref D) (.type "ValueError") = some true) : PySem.W.kitOne K (.ref D) (.type "ValueError") = some true := by
  unfold PySem.W.kitOne
  rw [if_neg (fun h => nomatch (show Value.ref D = Value.type "ValueError" by simpa using h))]
  show (if PySem.W.kitMeta "ValueError" = true then PySem.W.subIn K (.ref D) (.type "ValueError") else none) = some true
  rw [if_pos (by decide +kernel)]
  exact s
/-- raise X('..') -/
def tRaiseA (W : WX) (C : Addr) : TS := fun _ σ H => W (.ref C) none σ H
section
variable {K : PySem.W.Frag} {σ : L2.St} {H H' : Hp} {ta tb : TE} {D : Ends} {tz : TS} {A : Cn → Addr} {L : List Cn} {Dn X : Cn}
theorem rc_isX {a : Addr} (h : H a = some (exA a (.ref (A Dn)) none)) (E : ExK K A L Dn) (hX : X ∈ L) : RC (rIsX K) [.ref a, .ref (A X)] H (.bl (subE Dn X)) := fun H1 e Q q =>
  ⟨a, A Dn, .ref (A X), .ref (A X), subE Dn X, rfl, e a _ h, E.cc, .own _, E.kt X hX, q H1 (Ex.refl H1)⟩
theorem rc_isXV {a : Addr} (h : H a = some (exA a (.ref (A Dn)) none)) (E : ExK K A L Dn) : RC (rIsX K) [.ref a, .ty "ValueError"] H (.bl true) := fun H1 e Q q =>
  ⟨a, A Dn, .ty "ValueError", .type "ValueError", true, rfl, e a _ h, E.cc, .ty _, E.kv, q H1 (Ex.refl H1)⟩
theorem ev_isX {a : Addr} (ha : Ev ta σ H (.ref a)) (h : H a = some (exA a (.ref (A Dn)) none)) (E : ExK K A L Dn) (hX : X ∈ L) : Ev (tCB (rIsX K) (tCons ta (tCons (tC (.ref (A X))) tNil))) σ H (.bl (subE Dn X)) :=
  ev_cb (ea_cons ha (ea_cons ev_c ea_nil)) (rc_isX h E hX)
theorem ev_isXV {a : Addr} (ha : Ev ta σ H (.ref a)) (h : H a = some (exA a (.ref (A Dn)) none)) (E : ExK K A L Dn) : Ev (tCB (rIsX K) (tCons ta (tCons (tC (.ty "ValueError")) tNil))) σ H (.bl true) :=
  ev_cb (ea_cons ha (ea_cons ev_c ea_nil)) (rc_isXV h E)
/-- the try suite: what its body does is told for every wish W that the caught error's way on fulfils -/
theorem q_try {i j : Nat} {Wout : WX} {tbb : WX → TS} (h : ∀ W : WX, (∀ Dn : Cn, (∃ L, ExK K A L Dn) → ∀ H1, Ex H H1 → (∀ a, H1 a = none → tz D (((σ.set i (some (.ref a))).set j (some (.ref a))).set i none) (upd H1 a (exA a (.ref (A Dn)) none))) → W (.ref (A Dn)) none σ H1) → tbb W { D with nx := tz D } σ H) :
    tSeq (tTryK K (.ref (A .ColsError)) i j Wout tbb) tz D σ H :=
  h _ fun Dn ⟨L, E⟩ H1 _ k => ⟨true, E.em, fun _ a ha => k a ha, fun q => nomatch q⟩
end
end Z

set_option Elab.async false
set_option linter.all false
set_option autoImplicit false
set_option maxRecDepth 100000
set_option maxHeartbeats 4000000
/-! ev: what an expression comes to, by its form -/
local macro_rules | `(tactic| k_places) => `(tactic| (repeat' (first
  | (with_reducible exact ev_c)
  | (with_reducible exact ev_var rfl)
  | (with_reducible refine ev_chainLL ?_ ?_ ?_)
  | (with_reducible refine ev_chainLt ?_ ?_ ?_)
  | (with_reducible refine ev_op ?_ ?_ ?_)
  | (with_reducible refine ev_neg ?_)
  | (with_reducible refine et_test ?_)
  | (with_reducible refine et_B ?_)
  | (with_reducible refine et_not ?_)
  | (with_reducible refine et_and ?_ (fun _ => ?_))
  | (with_reducible refine et_or ?_ (fun _ => ?_))
  | (with_reducible refine ev_andV ?_ (fun _ => ?_))
  | (with_reducible refine ev_orV ?_ (fun _ => ?_))
  | (with_reducible refine ev_notV ?_)
  | (with_reducible exact rv_addI)
  | (with_reducible exact rv_subI)
  | (with_reducible exact rv_lt)
  | (with_reducible exact rv_le)
  | (with_reducible exact rv_gt)
  | (with_reducible exact rv_ge)
  | (with_reducible exact rv_isB)
  | (with_reducible exact rv_isnB)
  | (with_reducible exact rv_isN)
  | (with_reducible exact rv_isnN)
  | (with_reducible exact rv_eqS rfl)
  | (with_reducible exact rv_neS rfl)
  | (with_reducible exact rv_inStr)
  | (with_reducible exact rv_ninStr)
  | (with_reducible exact rv_mod (by first | decide | omega | assumption))
  | (with_reducible exact rv_div (by first | decide | omega | assumption))
  | (with_reducible exact rv_pow (by decide))
  | (with_reducible refine ed_i ?_; done)
  | (with_reducible exact ea_nil)
  | (with_reducible refine ea_cons ?_ ?_)
  | (with_reducible exact eds_nil)
  | (with_reducible refine eds_cons ?_ ?_)
  | (with_reducible exact ed_dnew)
  | (with_reducible refine ed_lst ?_ (by simp only [List.length_cons, List.length_nil]; omega))
  | (with_reducible refine ed_tup ?_ (by simp only [List.length_cons, List.length_nil]; omega)))))
namespace Z
open PySem PySem.Spec PyProof.Rows L2 Evl
/-! ### texts, faults -/
section
variable {K : PySem.W.Frag} {σ : L2.St} {H H' : Hp} {ta tb te tx : TE} {tl th : TO} {D : Ends} {tz : TS} {A : Cn → Addr}
theorem ev_slS {z : Str} {lo hi : Option Int} (h : Ev te σ H (.str z)) (h1 : EvO tl σ H lo) (h2 : EvO th σ H hi) (hz : z.length ≤ 100000) : Ev (tSl (rSlA K) te tl th) σ H (.str (cutS z lo hi)) := fun H1 e Q q =>
  h H1 e _ fun H2 e2 => h1 H2 (e.trans e2) _ fun H3 e3 => h2 H3 ((e.trans e2).trans e3) _ fun H4 e4 => .inr (.inr ⟨z, rfl, sz_of hz, q H4 ((e2.trans e3).trans e4)⟩)
theorem s_dropS {sp : Sp} {vs : List V} {E : L2.St → XK} {tas : TA} (h : EvA tas σ H vs) (k : ∀ H1, Ex H H1 → sp vs H1 (fun _ H2 => D.nx σ H2) (E σ)) : tDrop (tCallS sp E tas) D σ H := h H (Ex.refl H) _ k
theorem not_name {z : Str} {c : Nat} (h : c ∈ z.cps.toList) (hc : c ∉ lets) : isName z = false := by
  unfold isName
  have : (z.cps.toList.all fun c => decide (c ∈ lets)) = false := by
    rw [← Bool.not_eq_true]
    intro q
    exact hc (of_decide_eq_true (List.all_eq_true.mp q c h))
  rw [this, Bool.and_false]
theorem not_name_len {z : Str} (h : ¬ (1 ≤ z.length ∧ z.length ≤ 8)) : isName z = false := by
  unfold isName
  rw [decide_eq_false h, Bool.false_and]
theorem app_mem {x y : Str} {c : Nat} : c ∈ (x ++ y).cps.toList ↔ c ∈ x.cps.toList ∨ c ∈ y.cps.toList := by
  show c ∈ (x.cps ++ y.cps).toList ↔ _
  rw [Array.toList_append, List.mem_append]
theorem repS_len (z : Str) (n : Int) : (repS z n).length = z.length * n.toNat := by
  unfold repS
  have e : z.cps.toList.length = z.length := by simp [Str.length]
  rw [SX.S_len, List.length_flatten, List.map_replicate, e]
  have : ∀ n : Nat, (List.replicate n z.length).sum = z.length * n := fun n => by
    induction n with
    | zero => rfl
    | succ n ih => rw [List.replicate_succ, List.sum_cons, ih, Nat.mul_succ, Nat.add_comm]
  rw [this]
theorem okS_cut {z : Str} (h : okS z) (lo hi : Option Int) : okS (cutS z lo hi) := by
  refine ⟨Nat.le_trans (cutS_length z lo hi) h.len, ?_⟩
  have h3 := h.cps
  rw [← Array.all_toList] at h3
  show (((z.cps.toList.drop _).take _).toArray).all _ = true
  rw [List.all_toArray]
  exact List.all_eq_true.mpr fun c hc => List.all_eq_true.mp h3 c (List.mem_of_mem_drop (List.mem_of_mem_take hc))
/-- fault(word) -/
def faultD (d : PyData) : PyData := .tuple [.str "fault", d]
def sp_fault (K : PySem.W.Frag) (A : Cn → Addr) : Sp := fun vs H Q E => ∃ v d, vs = [v] ∧ Dt H v d ∧ short d ∧ (isNameD d = true → RetD (faultD d) H Q) ∧ (isNameD d = false → ∀ H1, Ex H H1 → E (.ref (A .NoName)) none H1)
def t_fault (K : PySem.W.Frag) (A : Cn → Addr) (E : XK) : TS :=
  tSeq (tIfS (tNot (tB (tCallS (sp_is_name K) (WE (fun cls d _ H => E cls d H)) (tCons (tVar 0) tNil)))) (tRaiseA (fun cls d _ H => E cls d H) (A .NoName)) tNext)
    (tRet (tTup (tCons (tC (.str "fault")) (tCons (tVar 0) tNil))))
theorem len_fault (vs : List V) (H : Hp) (Q : VK) (E : XK) (h : sp_fault K A vs H Q E) : vs.length = 1 := by obtain ⟨_, _, rfl, _⟩ := h; rfl
theorem r_fault (vs : List V) (H : Hp) (Q : VK) (E : XK) (h : sp_fault K A vs H Q E) : t_fault K A E { nx := fun _ H' => Q .non H', rt := Q } (L2.start ["word"] vs) H := by
  obtain ⟨v, d, rfl, r, hs, k1, k2⟩ := h
  unfold t_fault
  refine q_when (et_not (et_B (ev_spB (g := isNameD) (pre := short) (ed_var rfl r) hs))) (fun hb H1 e1 => k2 ?_ H1 e1) (fun hb H1 e1 => ?_)
  · cases q : isNameD d with
    | false => rfl
    | true => rw [q] at hb; cases hb
  · refine s_retD (ed_tup (eds_cons (ed_s ev_c) (eds_cons (ed_var rfl (r.ex e1)) eds_nil))) fun v2 H2 e2 r2 => k1 ?_ v2 H2 (e1.trans e2) r2
    cases q : isNameD d with
    | true => rfl
    | false => rw [q] at hb; cases hb
theorem ed_fault {d : PyData} {E : L2.St → XK} (h : EvD te σ H d) (hs : short d) (hn : isNameD d = true) : EvD (tCallS (sp_fault K A) E (tCons te tNil)) σ H (faultD d) := fun H1 e Q q =>
  h H1 e _ fun v H2 e2 r => ⟨v, d, rfl, r, hs, fun _ v3 H3 e3 r3 => q v3 H3 (e2.trans e3) r3, fun z => by rw [hn] at z; cases z⟩
/-! ### what a law asks of a caught error -/
def tIsE (K : PySem.W.Frag) (A : Cn → Addr) (j : Nat) (X : Cn) : TE := tCB (rIsX K) (tCons (tVar j) (tCons (tC (.ref (A X))) tNil))
theorem q_not3 {j : Nat} {a : Addr} {L : List Cn} {Dn X1 X2 X3 : Cn} (hv : σ[j]? = some (some (.ref a))) (h : H a = some (exA a (.ref (A Dn)) none)) (E : ExK K A L Dn) (m : X1 ∈ L ∧ X2 ∈ L ∧ X3 ∈ L) (s : (subE Dn X1 || (subE Dn X2 || subE Dn X3)) = false) (k : ∀ H1, Ex H H1 → tz D σ H1) :
    tSeq (tIfS (tOr (tB (tIsE K A j X1)) (tOr (tB (tIsE K A j X2)) (tB (tIsE K A j X3)))) (tRet (tC (.bl false))) tNext) tz D σ H :=
  q_when (b := false) (et_is (et_or (et_B (ev_isX (ev_var hv) h E m.1)) fun _ => et_or (et_B (ev_isX (ev_var hv) h E m.2.1)) fun _ => et_B (ev_isX (ev_var hv) h E m.2.2)) s) (fun q => nomatch q) fun _ H1 e1 => k H1 e1
theorem s_isE {j : Nat} {a : Addr} {L : List Cn} {Dn Y : Cn} (hv : σ[j]? = some (some (.ref a))) (h : H a = some (exA a (.ref (A Dn)) none)) (E : ExK K A L Dn) (m : Dn ∈ L ∧ Y ∈ L) (s : subE Dn Y = false) (k : ∀ H1, Ex H H1 → D.rt (.bl true) H1) :
    tRet (tAndV (tIsE K A j Dn) (tAndV (tCB (rIsX K) (tCons (tVar j) (tCons (tC (.ty "ValueError")) tNil))) (tNotV (tIsE K A j Y)))) D σ H :=
  s_ret (ev_is (ev_andV (ev_isX (ev_var hv) h E m.1) fun _ => ev_andV (ev_isXV (ev_var hv) h E) fun _ => ev_notV (ev_isX (ev_var hv) h E m.2)) (by rw [s, show subE Dn Dn = true by unfold subE; simp]; rfl)) k
/-- the whole of it -/
theorem q_tail {j : Nat} {a : Addr} {L : List Cn} {Dn X1 X2 X3 X4 X5 X6 X7 X8 X9 X10 X11 X12 Y : Cn} (hv : σ[j]? = some (some (.ref a))) (h : H a = some (exA a (.ref (A Dn)) none)) (E : ExK K A L Dn) (m : ∀ X ∈ [X1, X2, X3, X4, X5, X6, X7, X8, X9, X10, X11, X12, Dn, Y], X ∈ L)
    (s : ∀ X ∈ [X1, X2, X3, X4, X5, X6, X7, X8, X9, X10, X11, X12, Y], subE Dn X = false) (k : ∀ H1, Ex H H1 → D.rt (.bl true) H1) :
    tSeq (tIfS (tOr (tB (tIsE K A j X1)) (tOr (tB (tIsE K A j X2)) (tB (tIsE K A j X3)))) (tRet (tC (.bl false))) tNext)
    (tSeq (tIfS (tOr (tB (tIsE K A j X4)) (tOr (tB (tIsE K A j X5)) (tB (tIsE K A j X6)))) (tRet (tC (.bl false))) tNext)
    (tSeq (tIfS (tOr (tB (tIsE K A j X7)) (tOr (tB (tIsE K A j X8)) (tB (tIsE K A j X9)))) (tRet (tC (.bl false))) tNext)
    (tSeq (tIfS (tOr (tB (tIsE K A j X10)) (tOr (tB (tIsE K A j X11)) (tB (tIsE K A j X12)))) (tRet (tC (.bl false))) tNext)
    (tRet (tAndV (tIsE K A j Dn) (tAndV (tCB (rIsX K) (tCons (tVar j) (tCons (tC (.ty "ValueError")) tNil))) (tNotV (tIsE K A j Y)))))))) D σ H := by
  refine q_not3 hv h E ⟨m _ (by simp), m _ (by simp), m _ (by simp)⟩ (by rw [s _ (by simp), s _ (by simp), s _ (by simp)]; rfl) fun H1 e1 => ?_
  refine q_not3 hv (e1 a _ h) E ⟨m _ (by simp), m _ (by simp), m _ (by simp)⟩ (by rw [s _ (by simp), s _ (by simp), s _ (by simp)]; rfl) fun H2 e2 => ?_
  refine q_not3 hv ((e1.trans e2) a _ h) E ⟨m _ (by simp), m _ (by simp), m _ (by simp)⟩ (by rw [s _ (by simp), s _ (by simp), s _ (by simp)]; rfl) fun H3 e3 => ?_
  refine q_not3 hv (((e1.trans e2).trans e3) a _ h) E ⟨m _ (by simp), m _ (by simp), m _ (by simp)⟩ (by rw [s _ (by simp), s _ (by simp), s _ (by simp)]; rfl) fun H4 e4 => ?_
  exact s_isE hv ((((e1.trans e2).trans e3).trans e4) a _ h) E ⟨m _ (by simp), m _ (by simp)⟩ (s _ (by simp)) fun H5 e5 => k H5 ((((e1.trans e2).trans e3).trans e4).trans e5)
end
end Z

set_option Elab.async false
set_option linter.all false
set_option autoImplicit false
set_option maxRecDepth 100000
set_option maxHeartbeats 4000000
/-! ev: what an expression comes to, by its form -/
local macro_rules | `(tactic| k_places) => `(tactic| (repeat' (first
  | (with_reducible exact ev_c)
  | (with_reducible exact ev_var rfl)
  | (with_reducible refine ev_chainLL ?_ ?_ ?_)
  | (with_reducible refine ev_chainLt ?_ ?_ ?_)
  | (with_reducible refine ev_op ?_ ?_ ?_)
  | (with_reducible refine ev_neg ?_)
  | (with_reducible refine et_test ?_)
  | (with_reducible refine et_B ?_)
  | (with_reducible refine et_not ?_)
  | (with_reducible refine et_and ?_ (fun _ => ?_))
  | (with_reducible refine et_or ?_ (fun _ => ?_))
  | (with_reducible refine ev_andV ?_ (fun _ => ?_))
  | (with_reducible refine ev_orV ?_ (fun _ => ?_))
  | (with_reducible refine ev_notV ?_)
  | (with_reducible exact rv_addI)
  | (with_reducible exact rv_subI)
  | (with_reducible exact rv_lt)
  | (with_reducible exact rv_le)
  | (with_reducible exact rv_gt)
  | (with_reducible exact rv_ge)
  | (with_reducible exact rv_isB)
  | (with_reducible exact rv_isnB)
  | (with_reducible exact rv_isN)
  | (with_reducible exact rv_isnN)
  | (with_reducible exact rv_eqS rfl)
  | (with_reducible exact rv_neS rfl)
  | (with_reducible exact rv_inStr)
  | (with_reducible exact rv_ninStr)
  | (with_reducible exact rv_mod (by first | decide | omega | assumption))
  | (with_reducible exact rv_div (by first | decide | omega | assumption))
  | (with_reducible exact rv_pow (by decide))
  | (with_reducible refine ed_i ?_; done)
  | (with_reducible exact ea_nil)
  | (with_reducible refine ea_cons ?_ ?_)
  | (with_reducible exact eds_nil)
  | (with_reducible refine eds_cons ?_ ?_)
  | (with_reducible exact ed_dnew)
  | (with_reducible refine ed_lst ?_ (by simp only [List.length_cons, List.length_nil]; omega))
  | (with_reducible refine ed_tup ?_ (by simp only [List.length_cons, List.length_nil]; omega)))))
namespace Z
open PySem PySem.Spec PyProof.Rows L2 Evl
/-! ### methods and classes -/
def tMetS (C : Addr) (m : Str) (sp : Sp) (E : L2.St → XK) (ta : TE) (t : TA) : TE := fun σ H Q => ta σ H fun x H1 => ∃ a dx fs, x = .ref a ∧ H1 a = some (.ins C dx fs) ∧ fs.lookup m = none ∧ t σ H1 fun vs H2 => sp (x :: vs) H2 Q (E σ)
def tMakS (C : Addr) (sp : Sp) (E : L2.St → XK) (t : TA) : TE := fun σ H Q => t σ H fun vs H1 => ∀ x dx, H1 x = none → H1 dx = none → dx ≠ x →
  sp (.ref x :: vs) (upd (upd H1 dx (.own x)) x (.ins C dx [])) (fun v H2 => v = .non ∧ Q (.ref x) H2) (E σ)
/-- a method of a class -/
structure Met (P : Program) (w : World) (K : PySem.W.Frag) (mg : Str → Option Value) (base : Heap) (k : Nat) (C : Addr) (m : Str) (f : Addr) (ps : List Str) (sp : Sp) : Prop where
  ex : ∃ fd, FnOk P w K mg base (L2.CX P w) k f fd ps sp ∧ Binds K fd ps []
  mt : Meth K C m f
  cl : Cls K C
/-- a class that may be made -/
structure Mak (P : Program) (w : World) (K : PySem.W.Frag) (mg : Str → Option Value) (base : Heap) (k : Nat) (C : Addr) (c : Str) (f : Addr) (ps : List Str) (sp : Sp) : Prop where
  ex : ∃ fd, FnOk P w K mg base (L2.CX P w) k f fd ps sp ∧ Binds K fd ps []
  mak : Mk K C f
  mg : mg c = some (.ref C)
section
variable {X : Cx} {W : WX} {k : Nat} {f C : Addr} {ps : List Str} {sp : Sp} {x m : Str} {p pos apos : Pos} {e o : Expr} {es : List Expr} {t : TA} {ta : TE} {pl : Sem Bool}
theorem pe_metX {E : L2.St → XK} (M : Met X.prog X.w X.K X.mg X.base k C m f ps sp) (he : PE X o ta) (hr : Room k X.A) (hx : ∀ σ, PassesAt (L2.CX X.prog X.w) X σ (E σ)) (ha : PA X (e :: es) t)
    (hst : starEach (e :: es) X.env = (false, eval e X.env) :: starEach es X.env := by rfl) (hpl : (backTo pos (starEach es X.env)).any (·.1) = false := by rfl)
    (ht : eval (.Call (.Attribute o m apos) (e :: es) [] pos) X.env = (do
      let ov ← eval o X.env
      standAt apos.atName
      let (f, first) ← holding [ov] (getMethod ov m pl)
      callWith pos f first (backTo pos (starEach (e :: es) X.env)) (backToKw pos (keywordEach [] X.env))) := by rfl) :
    PE X (.Call (.Attribute o m apos) (e :: es) [] pos) (tMetS C m sp E ta t) := by
  obtain ⟨fd, F, b⟩ := M.ex
  refine ⟨fun pins s σ H Q I h => ?_⟩
  refine PySem.W.methodCall_KW (pl := pl) (thn (he.run pins s σ H _ I h) fun u s1 ⟨x, H1, I1, rx, a, dx, fs, ex, ea, l, q⟩ => ?_) ht
  subst ex
  obtain rfl : u = Value.ref a := rx
  refine getmeth_ok I1 ea M.cl M.mt l ?_
  refine PySem.W.callWith_K (first := [.ref a]) (h₀ := X.base) I.ok.mod.kin M.mt.kp (thn (ha.run pos pins s1 σ H1 _ I1 q) fun us s2 ⟨vs, H2, I2, r, q2⟩ => ⟨I2.kIn, ?_⟩) hst hpl
  exact run_fnS (us := .ref a :: us) (vs := .ref a :: vs) F hr b (hx σ) I2 (.cons rfl r) q2
theorem pe_met0X {E : L2.St → XK} (M : Met X.prog X.w X.K X.mg X.base k C m f ps sp) (he : PE X o ta) (hr : Room k X.A) (hx : ∀ σ, PassesAt (L2.CX X.prog X.w) X σ (E σ))
    (ht : eval (.Call (.Attribute o m apos) [] [] pos) X.env = (do
      let ov ← eval o X.env
      standAt apos.atName
      let (f, first) ← holding [ov] (getMethod ov m pl)
      callWith pos f first (backTo pos (starEach [] X.env)) (backToKw pos (keywordEach [] X.env))) := by rfl) :
    PE X (.Call (.Attribute o m apos) [] [] pos) (tMetS C m sp E ta tNil) := by
  obtain ⟨fd, F, b⟩ := M.ex
  refine ⟨fun pins s σ H Q I h => ?_⟩
  refine PySem.W.methodCall_KW (pl := pl) (thn (he.run pins s σ H _ I h) fun u s1 ⟨x, H1, I1, rx, a, dx, fs, ex, ea, l, q⟩ => ?_) ht
  subst ex
  obtain rfl : u = Value.ref a := rx
  refine getmeth_ok I1 ea M.cl M.mt l ?_
  exact PySem.W.callWith_K0 (first := [.ref a]) I1.kIn M.mt.kp (run_fnS (us := [.ref a]) (vs := [.ref a]) F hr b (hx σ) I1 (.cons rfl .nil) q)
theorem pe_met (M : Met X.prog X.w X.K X.mg X.base k C m f ps sp) (he : PE X o ta) (hr : Room k X.A) (tk : Takes X W) (ha : PA X (e :: es) t)
    (hst : starEach (e :: es) X.env = (false, eval e X.env) :: starEach es X.env := by rfl) (hpl : (backTo pos (starEach es X.env)).any (·.1) = false := by rfl)
    (ht : eval (.Call (.Attribute o m apos) (e :: es) [] pos) X.env = (do
      let ov ← eval o X.env
      standAt apos.atName
      let (f, first) ← holding [ov] (getMethod ov m pl)
      callWith pos f first (backTo pos (starEach (e :: es) X.env)) (backToKw pos (keywordEach [] X.env))) := by rfl) :
    PE X (.Call (.Attribute o m apos) (e :: es) [] pos) (tMetS C m sp (WE W) ta t) := pe_metX M he hr (fun σ => passAt tk σ) ha hst hpl ht
theorem pe_met0 (M : Met X.prog X.w X.K X.mg X.base k C m f ps sp) (he : PE X o ta) (hr : Room k X.A) (tk : Takes X W)
    (ht : eval (.Call (.Attribute o m apos) [] [] pos) X.env = (do
      let ov ← eval o X.env
      standAt apos.atName
      let (f, first) ← holding [ov] (getMethod ov m pl)
      callWith pos f first (backTo pos (starEach [] X.env)) (backToKw pos (keywordEach [] X.env))) := by rfl) :
    PE X (.Call (.Attribute o m apos) [] [] pos) (tMetS C m sp (WE W) ta tNil) := pe_met0X M he hr (fun σ => passAt tk σ) ht
theorem passB {X : Cx} (σ : L2.St) : PassesAt (L2.CX X.prog X.w) X σ E0 := fun pins H s e s' _ c => by
  obtain ⟨_, _, _, _, _, _, _, _, _, _, _, _, z⟩ := c
  exact z.elim
theorem pe_metB (M : Met X.prog X.w X.K X.mg X.base k C m f ps sp) (he : PE X o ta) (hr : Room k X.A) (ha : PA X (e :: es) t)
    (hst : starEach (e :: es) X.env = (false, eval e X.env) :: starEach es X.env := by rfl) (hpl : (backTo pos (starEach es X.env)).any (·.1) = false := by rfl)
    (ht : eval (.Call (.Attribute o m apos) (e :: es) [] pos) X.env = (do
      let ov ← eval o X.env
      standAt apos.atName
      let (f, first) ← holding [ov] (getMethod ov m pl)
      callWith pos f first (backTo pos (starEach (e :: es) X.env)) (backToKw pos (keywordEach [] X.env))) := by rfl) :
    PE X (.Call (.Attribute o m apos) (e :: es) [] pos) (tMetS C m sp (fun _ => E0) ta t) := pe_metX M he hr passB ha hst hpl ht
theorem pe_metB0 (M : Met X.prog X.w X.K X.mg X.base k C m f ps sp) (he : PE X o ta) (hr : Room k X.A)
    (ht : eval (.Call (.Attribute o m apos) [] [] pos) X.env = (do
      let ov ← eval o X.env
      standAt apos.atName
      let (f, first) ← holding [ov] (getMethod ov m pl)
      callWith pos f first (backTo pos (starEach [] X.env)) (backToKw pos (keywordEach [] X.env))) := by rfl) :
    PE X (.Call (.Attribute o m apos) [] [] pos) (tMetS C m sp (fun _ => E0) ta tNil) := pe_met0X M he hr passB ht
theorem run_mak {pins : List (Addr × Obj)} {σ : L2.St} {H : Hp} {s : Shared} {Q : VK} {us : List Value} {vs : List V} {fd : FuncData} {E : XK} (M : Mk X.K C f) (F : FnOk X.prog X.w X.K X.mg X.base (L2.CX X.prog X.w) k f fd ps sp) (hr : Room (k + 1) X.A) (hb : Binds X.K fd ps [])
    (hx : PassesAt (L2.CX X.prog X.w) X σ E) (I : Inv X pins σ H s) (r : Vals vs us)
    (h : ∀ x dx, H x = none → H dx = none → dx ≠ x → sp (.ref x :: vs) (upd (upd H dx (.own x)) x (.ins C dx [])) (fun v H2 => v = .non ∧ Q (.ref x) H2) E) :
    wpAny (model X.prog X.w) X.A (call (.ref C) us) (EP X pins σ Q) X.xe s := by
  have hq := h (s.heap.objs.size + 1) s.heap.objs.size (I.hok.fresh (Nat.le_succ _)) (I.hok.fresh (Nat.le_refl _)) (Nat.ne_of_lt (Nat.lt_succ_self _))
  have I2 := Inv.made (C := C) I
  have r2 : Vals (V.ref (s.heap.objs.size + 1) :: vs) (Value.ref (s.heap.objs.size + 1) :: us) := .cons rfl r
  have hl : (Value.ref (s.heap.objs.size + 1) :: us ++ []).length = ps.length := by
    have e := r2.length
    rw [F.len _ _ _ _ hq] at e
    rw [List.append_nil]
    exact e.symm
  have b := hb _ (Value.ref (s.heap.objs.size + 1) :: us) I2.kIn hl
  rw [List.append_nil] at b
  refine wpAny_call (make_map (f := f) I.kIn M.makes M.init (beq_iff_eq.mp M.fn) (codeAny_mono (F.run _ X.stack _ _ ⟨Value.ref (s.heap.objs.size + 1) :: us, []⟩ (Value.ref (s.heap.objs.size + 1) :: us) _ _ E (hr.make C us [])
    (I2.env0.make C us []) b r2 hq) fun r s' hq' => ?_))
  cases r with
  | error e => exact hx pins _ _ e s' I2 hq'
  | ok fl =>
    cases fl with
    | ret u =>
      obtain ⟨v, H', I3, rv, ev, q3⟩ := I2.after hq'
      subst ev
      exact ⟨rv, ⟨V.ref (s.heap.objs.size + 1), H', I3, rfl, q3⟩⟩
    | next => exact False.elim hq'
    | brk => exact False.elim hq'
    | cont => exact False.elim hq'
theorem pe_mak (M : Mak X.prog X.w X.K X.mg X.base k C x f ps sp) (hr : Room (k + 1) X.A) (tk : Takes X W) (ha : PA X (e :: es) t) (hg : Gl X x := by rfl) (hdb : (x == ("__debug__" : Str)) = false := by decide)
    (he : starEach (e :: es) X.env = (false, eval e X.env) :: starEach es X.env := by rfl) (hpl : (backTo pos (starEach es X.env)).any (·.1) = false := by rfl) :
    PE X (.Call (.Name x p) (e :: es) [] pos) (tMakS C sp (WE W) t) := by
  obtain ⟨fd, F, b⟩ := M.ex
  refine ⟨fun pins s σ H Q I h => ?_⟩
  refine wpAny_Call_Name_kw (ld_glob I hg M.mg ?_ hdb)
  refine PySem.W.callWith_K (h₀ := X.base) I.ok.mod.kin M.mak.kp (thn (ha.run pos pins s σ H _ I h) fun us s1 ⟨vs, H1, I1, r, q⟩ => ⟨I1.kIn, ?_⟩) he hpl
  exact run_mak M.mak F hr b (passAt tk σ) I1 r q
theorem pe_mak0 (M : Mak X.prog X.w X.K X.mg X.base k C x f ps sp) (hr : Room (k + 1) X.A) (tk : Takes X W) (hg : Gl X x := by rfl) (hdb : (x == ("__debug__" : Str)) = false := by decide) : PE X (.Call (.Name x p) [] [] pos) (tMakS C sp (WE W) tNil) := by
  obtain ⟨fd, F, b⟩ := M.ex
  refine ⟨fun pins s σ H Q I h => ?_⟩
  refine wpAny_Call_Name_kw (ld_glob I hg M.mg ?_ hdb)
  exact PySem.W.callWith_K0 I.kIn M.mak.kp (run_mak (us := []) M.mak F hr b (passAt tk σ) I .nil h)
end
theorem met_of {P : Program} {w : World} {K : PySem.W.Frag} {mg : Str → Option Value} {base : Heap} {st : Stmt} {x qual : Str} {f C : Addr} {fd : FuncData} {N ps : List Str} {k : Nat} {sp : Sp} (F : Fun K x qual st f fd) (S : FnScope N ps (defScope st)) (hm : Meth K C x f) (hc : Cls K C) (hb : Binds K fd ps [])
    (len : ∀ vs H Q E, sp vs H Q E → vs.length = ps.length) (t : XK → TS)
    (d : ∀ (cdv : Value) (A : Around) (outer : List Env) (s : Shared) (H : Hp) (E : XK), Room k (A.deeper (envOfC qual (defScope st) s.heap.objs.size f cdv)) → PSs (cxOf (L2.CX P w) P w K mg base N qual (defScope st) f cdv A outer s H E) (defBody st) (t E))
    (r : ∀ (vs : List V) (H : Hp) (Q : VK) (E : XK), sp vs H Q E → t E { nx := fun _ H' => Q .non H', rt := Q } (L2.start N vs) H) : Met P w K mg base (k + 1) C x f ps sp :=
  ⟨⟨fd, F.okX S len fun cdv A outer s H vs Q E hr h => ⟨t E, d cdv A outer s H E hr, r vs H Q E h⟩, hb⟩, hm, hc⟩
theorem mak_of {P : Program} {w : World} {K : PySem.W.Frag} {mg : Str → Option Value} {base : Heap} {st : Stmt} {c qual : Str} {f C : Addr} {fd : FuncData} {N ps : List Str} {k : Nat} {sp : Sp} (F : Fun K "__init__" qual st f fd) (S : FnScope N ps (defScope st)) (hm : Mk K C f) (hg : mg c = some (.ref C)) (hb : Binds K fd ps [])
    (len : ∀ vs H Q E, sp vs H Q E → vs.length = ps.length) (t : XK → TS)
    (d : ∀ (cdv : Value) (A : Around) (outer : List Env) (s : Shared) (H : Hp) (E : XK), Room k (A.deeper (envOfC qual (defScope st) s.heap.objs.size f cdv)) → PSs (cxOf (L2.CX P w) P w K mg base N qual (defScope st) f cdv A outer s H E) (defBody st) (t E))
    (r : ∀ (vs : List V) (H : Hp) (Q : VK) (E : XK), sp vs H Q E → t E { nx := fun _ H' => Q .non H', rt := Q } (L2.start N vs) H) : Mak P w K mg base (k + 1) C c f ps sp :=
  ⟨⟨fd, F.okX S len fun cdv A outer s H vs Q E hr h => ⟨t E, d cdv A outer s H E hr, r vs H Q E h⟩, hb⟩, hm, hg⟩
/-! ### fields -/
structure ClK (K : PySem.W.Frag) (C : Addr) (fs : List Str) : Prop where
  cl : Cls K C
  na : ∀ f ∈ fs, NoAttr K C f
theorem putF_len (f : Str) (v : V) : ∀ fs : List (Str × V), (putF f v fs).length ≤ fs.length + 1
  | [] => Nat.le_refl _
  | (g, x) :: r => by
    show (if g = f then (g, v) :: r else (g, x) :: putF f v r).length ≤ _
    split
    · exact Nat.le_succ _
    · exact Nat.succ_le_succ (putF_len f v r)
theorem putF_lt {f : Str} {v : V} {fs : List (Str × V)} {n m : Nat} (h : fs.length < n) (e : n + 1 = m) : (putF f v fs).length < m := by
  have := putF_len f v fs
  omega
section
variable {K : PySem.W.Frag} {σ : L2.St} {H H' : Hp} {ta tb tv : TE} {D : Ends} {tz : TS} {C a dx : Addr} {fs : List (Str × V)} {ns : List Str} {f : Str} {v : V}
theorem ev_fld (ha : Ev ta σ H (.ref a)) (hi : H a = some (.ins C dx fs)) (c : ClK K C ns) (hf : f ∈ ns) (l : fs.lookup f = some v) : Ev (tFld K ta f) σ H v := fun H1 e Q q =>
  ha H1 e _ fun H2 e2 => ⟨a, C, dx, fs, v, rfl, (e.trans e2) _ _ hi, c.cl, c.na f hf, l, q H2 e2⟩
theorem s_fld (hv : Ev tv σ H v) (ha : Ev ta σ H (.ref a)) (hi : H a = some (.ins C dx fs)) (c : ClK K C ns) (hf : f ∈ ns) (hl : fs.length < 1000) (k : ∀ H1, Ex H H1 → D.nx σ (upd H1 a (.ins C dx (putF f v fs)))) : sFld K ta tv f D σ H :=
  hv H (Ex.refl H) _ fun H1 e1 => ha H1 e1 _ fun H2 e2 => ⟨a, C, dx, fs, rfl, (e1.trans e2) _ _ hi, c.cl, c.na f hf, hl, k H2 (e1.trans e2)⟩
theorem q_fld (hv : Ev tv σ H v) (ha : Ev ta σ H (.ref a)) (hi : H a = some (.ins C dx fs)) (c : ClK K C ns) (hf : f ∈ ns) (hl : fs.length < 1000) (k : ∀ H1, Ex H H1 → tz D σ (upd H1 a (.ins C dx (putF f v fs)))) : tSeq (sFld K ta tv f) tz D σ H :=
  s_fld (D := { D with nx := tz D }) hv ha hi c hf hl k
theorem q_fldL {xs : List V} (hv : EvL tv σ H xs) (ha : Ev ta σ H (.ref a)) (hi : H a = some (.ins C dx fs)) (c : ClK K C ns) (hf : f ∈ ns) (hl : fs.length < 1000) (k : ∀ p H1, H p = none → Ex H H1 → H1 p = some (.lst xs) → tz D σ (upd H1 a (.ins C dx (putF f (.ref p) fs)))) : tSeq (sFld K ta tv f) tz D σ H :=
  hv H (Ex.refl H) _ fun p H1 hp e1 h1 => ha H1 e1 _ fun H2 e2 => ⟨a, C, dx, fs, rfl, (e1.trans e2) _ _ hi, c.cl, c.na f hf, hl, k p H2 hp (e1.trans e2) (e2 _ _ h1)⟩
/-- a method without change: a value -/
theorem ev_met {m : Str} {sp : Sp} {vs : List V} {E : L2.St → XK} {tas : TA} {z : V} (ho : Ev ta σ H (.ref a)) (hi : H a = some (.ins C dx fs)) (l : fs.lookup m = none) (h : EvA tas σ H vs) (hs : SpV sp (.ref a :: vs) H z) : Ev (tMetS C m sp E ta tas) σ H z := fun H1 e Q q =>
  ho H1 e _ fun H2 e2 => ⟨a, dx, fs, rfl, (e.trans e2) _ _ hi, l, h H2 (e.trans e2) _ fun H3 e3 => hs H3 ((e.trans e2).trans e3) Q (fun H4 e4 => q H4 ((e2.trans e3).trans e4)) (E σ)⟩
theorem el_met {m : Str} {sp : Sp} {vs : List V} {E : L2.St → XK} {tas : TA} {xs : List V} (ho : Ev ta σ H (.ref a)) (hi : H a = some (.ins C dx fs)) (l : fs.lookup m = none) (h : EvA tas σ H vs) (hs : SpL sp (.ref a :: vs) H xs) : EvL (tMetS C m sp E ta tas) σ H xs := fun H1 e Q q =>
  ho H1 e _ fun H2 e2 => ⟨a, dx, fs, rfl, (e.trans e2) _ _ hi, l, h H2 (e.trans e2) _ fun H3 e3 => hs H3 ((e.trans e2).trans e3) Q (fun p H4 hp e4 h4 => q p H4 (fresh_back (e2.trans e3) hp) ((e2.trans e3).trans e4) h4) (E σ)⟩
/-- a method, by its promise -/
theorem s_metS {m : Str} {sp : Sp} {vs : List V} {E : L2.St → XK} {tas : TA} (ho : Ev ta σ H (.ref a)) (hi : H a = some (.ins C dx fs)) (l : fs.lookup m = none) (h : EvA tas σ H vs) (k : ∀ H1, Ex H H1 → sp (.ref a :: vs) H1 (fun _ H2 => D.nx σ H2) (E σ)) : tDrop (tMetS C m sp E ta tas) D σ H :=
  ho H (Ex.refl H) _ fun H2 e2 => ⟨a, dx, fs, rfl, e2 _ _ hi, l, h H2 e2 _ fun H3 e3 => k H3 (e2.trans e3)⟩
theorem q_metS {m : Str} {sp : Sp} {vs : List V} {E : L2.St → XK} {tas : TA} (ho : Ev ta σ H (.ref a)) (hi : H a = some (.ins C dx fs)) (l : fs.lookup m = none) (h : EvA tas σ H vs) (k : ∀ H1, Ex H H1 → sp (.ref a :: vs) H1 (fun _ H2 => tz D σ H2) (E σ)) : tSeq (tDrop (tMetS C m sp E ta tas)) tz D σ H :=
  s_metS (D := { D with nx := tz D }) ho hi l h k
theorem s_metAsg {m : Str} {sp : Sp} {vs : List V} {E : L2.St → XK} {tas : TA} {i : Nat} (ho : Ev ta σ H (.ref a)) (hi : H a = some (.ins C dx fs)) (l : fs.lookup m = none) (h : EvA tas σ H vs) (k : ∀ H1, Ex H H1 → sp (.ref a :: vs) H1 (fun v H2 => D.nx (σ.set i (some v)) H2) (E σ)) : tAsg (tMetS C m sp E ta tas) (gName i) D σ H :=
  ho H (Ex.refl H) _ fun H2 e2 => ⟨a, dx, fs, rfl, e2 _ _ hi, l, h H2 e2 _ fun H3 e3 => k H3 (e2.trans e3)⟩
theorem q_metAsg {m : Str} {sp : Sp} {vs : List V} {E : L2.St → XK} {tas : TA} {i : Nat} (ho : Ev ta σ H (.ref a)) (hi : H a = some (.ins C dx fs)) (l : fs.lookup m = none) (h : EvA tas σ H vs) (k : ∀ H1, Ex H H1 → sp (.ref a :: vs) H1 (fun v H2 => tz D (σ.set i (some v)) H2) (E σ)) : tSeq (tAsg (tMetS C m sp E ta tas) (gName i)) tz D σ H :=
  s_metAsg (D := { D with nx := tz D }) ho hi l h k
theorem q_makS {sp : Sp} {vs : List V} {E : L2.St → XK} {tas : TA} {i : Nat} (h : EvA tas σ H vs) (k : ∀ H1, Ex H H1 → ∀ x dx, H1 x = none → H1 dx = none → dx ≠ x → sp (.ref x :: vs) (upd (upd H1 dx (.own x)) x (.ins C dx [])) (fun v H2 => v = .non ∧ tz D (σ.set i (some (.ref x))) H2) (E σ)) :
    tSeq (tAsg (tMakS C sp E tas) (gName i)) tz D σ H := h H (Ex.refl H) _ fun H1 e1 x dx h1 h2 h3 => k H1 e1 x dx h1 h2 h3
theorem x_makS {sp : Sp} {vs : List V} {E : L2.St → XK} {tas : TA} {Q : VK} (h : EvA tas σ H vs) (k : ∀ H1, Ex H H1 → ∀ x dx, H1 x = none → H1 dx = none → dx ≠ x → sp (.ref x :: vs) (upd (upd H1 dx (.own x)) x (.ins C dx [])) (fun v H2 => v = .non ∧ Q (.ref x) H2) (E σ)) :
    tMakS C sp E tas σ H Q := h H (Ex.refl H) _ fun H1 e1 x dx h1 h2 h3 => k H1 e1 x dx h1 h2 h3
theorem s_makDrop {sp : Sp} {vs : List V} {E : L2.St → XK} {tas : TA} (h : EvA tas σ H vs) (k : ∀ H1, Ex H H1 → ∀ x dx, H1 x = none → H1 dx = none → dx ≠ x → sp (.ref x :: vs) (upd (upd H1 dx (.own x)) x (.ins C dx [])) (fun v H2 => v = .non ∧ D.nx σ H2) (E σ)) :
    tDrop (tMakS C sp E tas) D σ H := h H (Ex.refl H) _ fun H1 e1 x dx h1 h2 h3 => k H1 e1 x dx h1 h2 h3
end
end Z

set_option Elab.async false
set_option linter.all false
set_option autoImplicit false
set_option maxRecDepth 100000
set_option maxHeartbeats 4000000
/-! ev: what an expression comes to, by its form -/
local macro_rules | `(tactic| k_places) => `(tactic| (repeat' (first
  | (with_reducible exact ev_c)
  | (with_reducible exact ev_var rfl)
  | (with_reducible refine ev_chainLL ?_ ?_ ?_)
  | (with_reducible refine ev_chainLt ?_ ?_ ?_)
  | (with_reducible refine ev_op ?_ ?_ ?_)
  | (with_reducible refine ev_neg ?_)
  | (with_reducible refine et_test ?_)
  | (with_reducible refine et_B ?_)
  | (with_reducible refine et_not ?_)
  | (with_reducible refine et_and ?_ (fun _ => ?_))
  | (with_reducible refine et_or ?_ (fun _ => ?_))
  | (with_reducible refine ev_andV ?_ (fun _ => ?_))
  | (with_reducible refine ev_orV ?_ (fun _ => ?_))
  | (with_reducible refine ev_notV ?_)
  | (with_reducible exact rv_addI)
  | (with_reducible exact rv_subI)
  | (with_reducible exact rv_lt)
  | (with_reducible exact rv_le)
  | (with_reducible exact rv_gt)
  | (with_reducible exact rv_ge)
  | (with_reducible exact rv_isB)
  | (with_reducible exact rv_isnB)
  | (with_reducible exact rv_isN)
  | (with_reducible exact rv_isnN)
  | (with_reducible exact rv_eqS rfl)
  | (with_reducible exact rv_neS rfl)
  | (with_reducible exact rv_inStr)
  | (with_reducible exact rv_ninStr)
  | (with_reducible exact rv_mod (by first | decide | omega | assumption))
  | (with_reducible exact rv_div (by first | decide | omega | assumption))
  | (with_reducible exact rv_pow (by decide))
  | (with_reducible refine ed_i ?_; done)
  | (with_reducible exact ea_nil)
  | (with_reducible refine ea_cons ?_ ?_)
  | (with_reducible exact eds_nil)
  | (with_reducible refine eds_cons ?_ ?_)
  | (with_reducible exact ed_dnew)
  | (with_reducible refine ed_lst ?_ (by simp only [List.length_cons, List.length_nil]; omega))
  | (with_reducible refine ed_tup ?_ (by simp only [List.length_cons, List.length_nil]; omega)))))
namespace Z
open PySem PySem.Spec PyProof.Rows L2 Evl
/-! ### tables.py -/
section
variable {K : PySem.W.Frag} {σ : L2.St} {H H' : Hp} {ta tb te tx : TE} {D : Ends} {tz : TS}
theorem ed_L {xs : List V} {ds : List PyData} (h : EvL te σ H xs) (r : ∀ H', Ex H H' → DtAll H' xs ds) : EvD te σ H (.list ds) := fun H1 e Q q =>
  h H1 e _ fun p H2 _ e2 hp => q _ H2 e2 (.lst hp (r H2 (e.trans e2)))
theorem dt_ints : ∀ (ns : List Int), DtAll H (ns.map V.int) (ns.map PyData.int)
  | [] => .nil
  | n :: ns => .cons (.int n) (dt_ints ns)
theorem dt_strs : ∀ (ns : List Str), DtAll H (ns.map V.str) (ns.map PyData.str)
  | [] => .nil
  | n :: ns => .cons (.str n) (dt_strs ns)
/-- 0, 1, .. -/
def upto (n : Nat) : List Int := (List.range n).map Int.ofNat
theorem upto_len (n : Nat) : (upto n).length = n := by unfold upto; rw [List.length_map, List.length_range]
theorem el_listRg {n : Int} (h : Ev te σ H (.int n)) (hn : 0 ≤ n ∧ n ≤ 100000) : EvL (tLstRg (tRg1 te)) σ H ((upto n.toNat).map V.int) := fun H1 e Q q =>
  h H1 e _ fun H2 e2 => ⟨n, rfl, .of_le (by omega) (by omega) (by omega) (by omega), fun p hp => q p _ (fresh_back e2 hp) (e2.trans (Ex.new hp)) (by
    rw [upd_same]
    unfold rgV upto
    rw [List.map_map, Int.sub_zero]
    congr 2
    exact List.map_congr_left fun i _ => by show V.int (0 + (i : Int)) = V.int (i : Int); rw [Int.zero_add])⟩
/-- [k for k in range(n)] -/
theorem el_upto {tas : TA} {n : Int} {j : Nat} (h : EvA tas σ H [.int n]) (hn : 0 ≤ n ∧ n ≤ 40000) (hw : ∀ x, wipe ((wipe σ [j]).set j (some x)) [j] = wipe σ [j]) (hj : ∀ x, ((wipe σ [j]).set j (some x))[j]? = some (some x)) : EvL (tLc (iRng1 tas) (gName j) tYes (tVar j) [j]) σ H ((upto n.toNat).map V.int) := by
  have := el_lcR1 (t := tYes) (te := tVar j) (fun _ => true) (fun i => V.int i) h hn hw (fun i H1 _ _ => fun H2 _ Q q => q H2 (Ex.refl H2)) (fun i H1 _ _ _ => ev_var (hj _))
  refine fun H1 e Q q => this H1 e Q fun p H2 hp e2 h2 => q p H2 hp e2 ?_
  rw [h2]
  unfold given upto
  rw [List.filter_eq_self.mpr (fun _ _ => rfl), List.map_map]
  rfl
theorem el_listA {p : Addr} {xs : List V} (ha : Ev ta σ H (.ref p)) (h : SqL K H p xs) : EvL (tCB (rListA K) (tCons ta tNil)) σ H xs := fun H1 e Q q =>
  ha H1 e _ fun H2 e2 => .inl ⟨p, xs, rfl, .inl (ex_l (e.trans e2) h), fun l hl => q l _ (fresh_back e2 hl) (e2.trans (Ex.new hl)) upd_same⟩
theorem el_listK {p : Addr} {kvs : List (Key × V)} (ha : Ev ta σ H (.ref p)) (h : H p = some (.dK kvs)) : EvL (tCB (rListA K) (tCons ta tNil)) σ H (kvs.map fun kv => kV kv.1) := fun H1 e Q q =>
  ha H1 e _ fun H2 e2 => .inr ⟨p, kvs, rfl, .inl ((e.trans e2) _ _ h), fun l hl => q l _ (fresh_back e2 hl) (e2.trans (Ex.new hl)) upd_same⟩
theorem rc_lenD {p : Addr} {kvs : List (Key × V)} (h : H p = some (.dK kvs)) : RC (rLenA K) [.ref p] H (.int kvs.length) := fun H1 e _ q => .inr (.inl ⟨p, kvs, rfl, e _ _ h, q H1 (Ex.refl H1)⟩)
/-- made(..).append(v) -/
theorem q_appN {v : V} {xs : List V} (ha : EvL ta σ H xs) (h : Ev te σ H v) (hz : xs.length < 100000) (k : ∀ p H1, H p = none → Ex H H1 → H1 p = some (.lst xs) → tz D σ (upd H1 p (.lst (xs ++ [v])))) :
    tSeq (tDrop (tBM K "list" rAppend ta (tCons te tNil))) tz D σ H := ha H (Ex.refl H) _ fun p H1 hp e1 h1 =>
  ⟨Or.inl ⟨rfl, xs, sq_of h1⟩, h H1 e1 _ fun H2 e2 => ⟨p, xs, v, rfl, rfl, e2 _ _ h1, sz_lt hz, k p H2 hp (e1.trans e2) (e2 _ _ h1)⟩⟩
end
/-! is_below -/
def isBelow (n : Int) : PyData → Bool
  | .int i => decide (0 ≤ i ∧ i < n)
  | _ => false
def sp_is_below (K : PySem.W.Frag) : Sp := fun vs H Q _ => ∃ (v : V) (d : PyData) (n : Int), vs = [v, .int n] ∧ Dt H v d ∧ RetV (.bl (isBelow n d)) H Q
def t_is_below (K : PySem.W.Frag) (E : XK) : TS :=
  tRet (tAndV (tCallS (sp_is_whole K) (WE (fun cls d _ H => E cls d H)) (tCons (tVar 0) tNil)) (tChain rLeA rLtA (tC (.int 0)) (tVar 0) (tVar 1)))
theorem len_is_below {K : PySem.W.Frag} (vs : List V) (H : Hp) (Q : VK) (E : XK) (h : sp_is_below K vs H Q E) : vs.length = 2 := by obtain ⟨_, _, _, rfl, _⟩ := h; rfl
theorem r_is_below {K : PySem.W.Frag} (vs : List V) (H : Hp) (Q : VK) (E : XK) (h : sp_is_below K vs H Q E) : t_is_below K E { nx := fun _ H' => Q .non H', rt := Q } (L2.start ["thing", "many"] vs) H := by
  obtain ⟨v, d, n, rfl, r, k⟩ := h
  unfold t_is_below
  refine s_ret (v := .bl (isBelow n d)) ?_ k
  by_cases hi : ∃ i, d = .int i
  · obtain ⟨i, rfl⟩ := hi
    obtain rfl := r.i
    refine ev_is (ev_andV (ev_spB (g := isWholeD) (ed_var rfl r) trivial) fun _ => ev_chainLt ev_c (ev_var rfl) (ev_var rfl)) ?_
    show V.bl (true && (decide (0 ≤ i) && decide (i < n))) = V.bl (decide (0 ≤ i ∧ i < n))
    rw [Bool.true_and, Bool.decide_and]
  · have e1 : isBelow n d = false := by
      cases d <;> first | rfl | exact absurd ⟨_, rfl⟩ hi
    have e2 : isWholeD d = false := by
      cases d <;> first | rfl | exact absurd ⟨_, rfl⟩ hi
    rw [e1]
    refine ev_is (v := .bl (isWholeD d && false)) (ev_andV (ev_spB (ed_var rfl r) trivial) fun z => ?_) (by rw [e2]; rfl)
    rw [e2] at z
    cases z
theorem ev_below {K : PySem.W.Frag} {σ : L2.St} {H : Hp} {ta tb : TE} {E : L2.St → XK} {d : PyData} {n : Int} (h : EvD ta σ H d) (hb : Ev tb σ H (.int n)) : Ev (tCallS (sp_is_below K) E (tCons ta (tCons tb tNil))) σ H (.bl (isBelow n d)) := fun H1 e Q q =>
  h H1 e _ fun v H2 e2 r => hb H2 (e.trans e2) _ fun H3 e3 => ⟨v, d, n, rfl, r.ex e3, fun H4 e4 => q H4 ((e2.trans e3).trans e4)⟩
/-! the object -/
structure Tb where
  rows : List Int
  coming : Int
  cols : List (Str × List PyData)
/-- values: numbers and faults -/
inductive Vt (H : Hp) : V → PyData → Prop
  | int (i : Int) : Vt H (.int i) (.int i)
  | flt {a : Addr} {f w : Str} : H a = some (.tup [.str f, .str w]) → Vt H (.ref a) (.tuple [.str f, .str w])
inductive VtAll (H : Hp) : List V → List PyData → Prop
  | nil : VtAll H [] []
  | cons {v : V} {vs : List V} {d : PyData} {ds : List PyData} : Vt H v d → VtAll H vs ds → VtAll H (v :: vs) (d :: ds)
def Tup (H H' : Hp) : Prop := ∀ b xs, H b = some (.tup xs) → H' b = some (.tup xs)
theorem Vt.tup {H H' : Hp} (e : Tup H H') {v : V} {d : PyData} : Vt H v d → Vt H' v d
  | .int i => .int i
  | .flt h => .flt (e _ _ h)
theorem VtAll.tup {H H' : Hp} (e : Tup H H') : ∀ {vs : List V} {ds : List PyData}, VtAll H vs ds → VtAll H' vs ds
  | _, _, .nil => .nil
  | _, _, .cons a r => .cons (a.tup e) (r.tup e)
theorem Vt.dt {H : Hp} {v : V} {d : PyData} : Vt H v d → Dt H v d
  | .int i => .int i
  | .flt h => .tup h (.cons (.str _) (.cons (.str _) .nil))
theorem VtAll.dt {H : Hp} : ∀ {vs : List V} {ds : List PyData}, VtAll H vs ds → DtAll H vs ds
  | _, _, .nil => .nil
  | _, _, .cons a r => .cons a.dt r.dt
theorem vt_of {H : Hp} {v : V} {d : PyData} (r : Dt H v d) (h : isValueD d = true) : Vt H v d := by
  cases r with
  | int i => exact .int i
  | @tup a xs ds e r =>
    have h : (false || isFaultD (.tuple ds)) = true := h
    rw [Bool.false_or] at h
    unfold isFaultD at h
    split at h
    · rename_i f w q
      cases q
      cases r with
      | cons r1 r2 =>
        cases r2 with
        | cons r2 r3 =>
          cases r3
          cases r1
          cases w with
          | str z =>
            cases r2
            exact .flt e
          | _ => exact absurd h (by show ¬ ((decide _ && false) = true); rw [Bool.and_false]; decide)
    · cases h
  | non => cases h
  | bl b => cases h
  | str x => cases h
  | lst e r => cases h
  | dct e r => cases h
theorem VtAll.length {H : Hp} {vs : List V} {ds : List PyData} (h : VtAll H vs ds) : vs.length = ds.length := h.dt.length
/-- a column: its name, its list's place, its values -/
structure Ent where
  n : Str
  l : Addr
  ds : List PyData
def kvE (e : Ent) : Key × V := (.inr e.n, .ref e.l)
def cE (e : Ent) : Str × List PyData := (e.n, e.ds)
def ColAt (H : Hp) (e : Ent) : Prop := ∃ vs, H e.l = some (.lst vs) ∧ VtAll H vs e.ds
/-- the table tb stands at t: its dict dx, its lists and dict r, h, its columns es -/
structure TabOf (A : Cn → Addr) (H : Hp) (t dx r h : Addr) (es : List Ent) (tb : Tb) : Prop where
  nd : (t :: r :: h :: es.map (·.l)).Nodup
  nn : (es.map (·.n)).Nodup
  cols : tb.cols = es.map cE
  at_ : H t = some (.ins (A .Table) dx [("rows_now", .ref r), ("coming", .int tb.coming), ("held", .ref h)])
  rows : H r = some (.lst (tb.rows.map V.int))
  held : H h = some (.dK (es.map kvE))
  cell : ∀ e ∈ es, ColAt H e
  wide : ∀ e ∈ es, e.ds.length = tb.rows.length
  few : tb.rows.length ≤ 30 ∧ es.length ≤ 8
/-- the table tb stands at t, its places F -/
structure TabAt (A : Cn → Addr) (F : List Addr) (H : Hp) (t : Addr) (tb : Tb) : Prop where
  ex : ∃ (dx r h : Addr) (es : List Ent), F = t :: r :: h :: es.map (·.l) ∧ TabOf A H t dx r h es tb
theorem keys_es (es : List Ent) : ((es.map kvE).map fun kv => kV kv.1) = ((es.map cE).map (·.1)).map V.str := by
  rw [List.map_map, List.map_map, List.map_map]
  rfl
theorem Tup.of_ex {H H' : Hp} (e : Ex H H') : Tup H H' := fun b xs h => e b _ h
theorem ColAt.keep {H H' : Hp} {e : Ent} (h : ColAt H e) (t : Tup H H') (k : H' e.l = H e.l) : ColAt H' e := by
  obtain ⟨vs, h1, h2⟩ := h
  exact ⟨vs, by rw [k]; exact h1, h2.tup t⟩
theorem TabOf.keep {A : Cn → Addr} {H H' : Hp} {t dx r h : Addr} {es : List Ent} {tb : Tb} (T : TabOf A H t dx r h es tb) (e : Tup H H') (k : ∀ l ∈ t :: r :: h :: es.map (·.l), ∀ o, H l = some o → H' l = some o) : TabOf A H' t dx r h es tb :=
  ⟨T.nd, T.nn, T.cols, k _ (by simp) _ T.at_, k _ (by simp) _ T.rows, k _ (by simp) _ T.held, fun en hen => by
    obtain ⟨vs, h1, h2⟩ := T.cell en hen
    exact ⟨vs, k en.l (by simp only [List.mem_cons]; exact .inr (.inr (.inr (List.mem_map_of_mem hen)))) _ h1, h2.tup e⟩, T.wide, T.few⟩
theorem TabAt.keep {A : Cn → Addr} {F : List Addr} {H H' : Hp} {t : Addr} {tb : Tb} (h : TabAt A F H t tb) (e : Tup H H') (k : ∀ l ∈ F, ∀ o, H l = some o → H' l = some o) : TabAt A F H' t tb := by
  obtain ⟨dx, r, hh, es, rfl, T⟩ := h.ex
  exact ⟨dx, r, hh, es, rfl, T.keep e k⟩
theorem TabAt.ex' {A : Cn → Addr} {F : List Addr} {H H' : Hp} {t : Addr} {tb : Tb} (h : TabAt A F H t tb) (e : Ex H H') : TabAt A F H' t tb := h.keep (.of_ex e) fun l _ o => e l o
theorem TabAt.there {A : Cn → Addr} {F : List Addr} {H : Hp} {t : Addr} {tb : Tb} (h : TabAt A F H t tb) : ∀ l ∈ F, ∃ o, H l = some o := by
  obtain ⟨dx, r, hh, es, rfl, T⟩ := h.ex
  intro l hl
  simp only [List.mem_cons] at hl
  rcases hl with rfl | rfl | rfl | hl
  · exact ⟨_, T.at_⟩
  · exact ⟨_, T.rows⟩
  · exact ⟨_, T.held⟩
  · obtain ⟨e, he, rfl⟩ := List.mem_map.mp hl
    obtain ⟨vs, h1, -⟩ := T.cell e he
    exact ⟨_, h1⟩
/-- no place of a table holds a tuple -/
theorem TabAt.noTup {A : Cn → Addr} {F : List Addr} {H : Hp} {t : Addr} {tb : Tb} (h : TabAt A F H t tb) {l : Addr} (hl : l ∈ F) {xs : List V} : H l ≠ some (.tup xs) := by
  obtain ⟨dx, r, hh, es, rfl, T⟩ := h.ex
  simp only [List.mem_cons] at hl
  rcases hl with rfl | rfl | rfl | hl
  · rw [T.at_]; exact fun z => nomatch z
  · rw [T.rows]; exact fun z => nomatch z
  · rw [T.held]; exact fun z => nomatch z
  · obtain ⟨e, he, rfl⟩ := List.mem_map.mp hl
    obtain ⟨vs, h1, -⟩ := T.cell e he
    rw [h1]; exact fun z => nomatch z
/-- all but F stays -/
def Fr (F : List Addr) (H H' : Hp) : Prop := ∀ b o, H b = some o → b ∉ F → H' b = some o
theorem Fr.of_ex {F : List Addr} {H H' : Hp} (e : Ex H H') : Fr F H H' := fun b o h _ => e b o h
theorem Fr.trans {F : List Addr} {H H1 H2 : Hp} (a : Fr F H H1) (b : Fr F H1 H2) : Fr F H H2 := fun x o h n => b x o (a x o h n) n
theorem TabAt.off {A : Cn → Addr} {F : List Addr} {H : Hp} {t : Addr} {tb : Tb} (h : TabAt A F H t tb) {p : Addr} (hp : H p = none) : p ∉ F := fun q => by
  obtain ⟨o, e⟩ := h.there p q
  rw [hp] at e
  cases e
theorem Tup.upd {H : Hp} {p : Addr} {xs : List V} {o : HO} (h : H p = some (.lst xs)) : Tup H (upd H p o) := fun b ys e => by
  rw [upd_ne (fun q => by rw [q, h] at e; cases e)]
  exact e
theorem TabAt.upd {A : Cn → Addr} {F : List Addr} {H : Hp} {t : Addr} {tb : Tb} (h : TabAt A F H t tb) {p : Addr} {xs : List V} {o : HO} (hp : p ∉ F) (hl : H p = some (.lst xs)) : TabAt A F (L2.upd H p o) t tb :=
  h.keep (.upd hl) fun l hl o e => by rw [upd_ne (show l ≠ p from fun q => hp (by rw [← q]; exact hl))]; exact e
abbrev tabF : List Str := ["rows_now", "coming", "held"]
/-! __init__, many, numbers, columns -/
def sp_Table_init (K : PySem.W.Frag) (A : Cn → Addr) : Sp := fun vs H Q E => ∃ (x dx : Addr) (v : V) (d : PyData), vs = [.ref x, v] ∧ H x = some (.ins (A .Table) dx []) ∧ Dt H v d ∧
  (∀ n : Nat, d = .int n → n < 31 → ∀ H' r h, Fr [x] H H' → H r = none → H h = none → TabAt A [x, r, h] H' x ⟨upto n, n, []⟩ → Q .non H') ∧ (isBelow 31 d = false → ∀ H1, Ex H H1 → E (.ref (A .NoSize)) none H1)
def t_Table_init (K : PySem.W.Frag) (A : Cn → Addr) (E : XK) : TS :=
  tSeq (tIfS (tNot (tB (tCallS (sp_is_below K) (WE (fun cls d _ H => E cls d H)) (tCons (tVar 1) (tCons (tOp (rAddA K) (tC (.int 30)) (tC (.int 1))) tNil))))) (tRaiseA (fun cls d _ H => E cls d H) (A .NoSize)) tNext)
    (tSeq (sFld K (tVar 0) (tLstRg (tRg1 (tVar 1))) "rows_now")
    (tSeq (sFld K (tVar 0) (tVar 1) "coming")
    (sFld K (tVar 0) tDNewK "held")))
section
variable {K : PySem.W.Frag} {A : Cn → Addr} {H H' : Hp} {Q : VK} {E : XK} {vs : List V}
theorem len_Table_init (vs : List V) (H : Hp) (Q : VK) (E : XK) (h : sp_Table_init K A vs H Q E) : vs.length = 2 := by obtain ⟨_, _, _, _, rfl, _⟩ := h; rfl
theorem r_Table_init (c : ClK K (A .Table) tabF) (vs : List V) (H : Hp) (Q : VK) (E : XK) (h : sp_Table_init K A vs H Q E) : t_Table_init K A E { nx := fun _ H' => Q .non H', rt := Q } (L2.start ["self", "many"] vs) H := by
  obtain ⟨x, dx, v, d, rfl, hx, r, k1, k2⟩ := h
  unfold t_Table_init
  refine q_when (et_not (et_B (ev_below (ed_var rfl r) (ev_is (ev_op ev_c ev_c rv_addI) rfl)))) (fun hb H1 e1 => k2 ?_ H1 e1) (fun hb H1 e1 => ?_)
  · cases q : isBelow 31 d with
    | false => rfl
    | true => rw [show (30 + 1 : Int) = 31 from rfl, q] at hb; cases hb
  · have hb : isBelow 31 d = true := by
      cases q : isBelow 31 d with
      | true => rfl
      | false => rw [show (30 + 1 : Int) = 31 from rfl, q] at hb; cases hb
    obtain ⟨i, rfl, hi⟩ : ∃ i, d = .int i ∧ 0 ≤ i ∧ i < 31 := by
      cases d <;> first | (simp [isBelow] at hb; done) | exact ⟨_, rfl, of_decide_eq_true hb⟩
    obtain rfl := r.i
    obtain ⟨n, rfl⟩ : ∃ n : Nat, i = n := ⟨i.toNat, by omega⟩
    -- self.rows_now
    refine q_fldL (el_listRg (n := (n : Int)) (ev_var rfl) (by omega)) (ev_var rfl) (e1 _ _ hx) c (by decide) (by decide) fun rw_ H2 nr e2 hr => ?_
    have xr : x ≠ rw_ := fun q => by rw [← q, e1 _ _ hx] at nr; cases nr
    -- self.coming
    refine q_fld (v := .int n) (ev_var rfl) (ev_var rfl) upd_same c (by decide) (putF_lt (n := 999) (by decide) rfl) fun H3 e3 => ?_
    -- self.held
    show tDNewK _ _ _
    intro hd nh
    have nh1 : H3 hd = none := by
      cases q : H3 hd with
      | none => rfl
      | some o =>
        by_cases hx' : hd = x
        · rw [hx', upd_same] at nh; cases nh
        · rw [upd_ne hx', q] at nh; cases nh
    have hne : hd ≠ x := fun q => by rw [q, upd_same] at nh; cases nh
    refine ⟨_, rfl, x, A .Table, dx, _, rfl, (by rw [upd_ne hne.symm, upd_same]), c.cl, c.na _ (by decide), (putF_lt (putF_lt (n := 998) (by decide) rfl) rfl), ?_⟩
    have f1 : Fr [x] H H3 := fun b o h n => e3 b o (by rw [upd_ne (by simpa using n)]; exact e2 b o (e1 b o h))
    have nh0 : H hd = none := by
      cases q : H hd with
      | none => rfl
      | some o => rw [f1 hd o q (by simpa using hne)] at nh1; cases nh1
    have hr2 : H3 rw_ = some (.lst ((upto n).map V.int)) := e3 _ _ (by rw [upd_ne xr.symm]; exact hr)
    have rh : rw_ ≠ hd := fun q => by rw [q, nh1] at hr2; cases hr2
    refine k1 n rfl (by omega) _ rw_ hd (fun b o h nb => ?_) (fresh_back e1 nr) nh0 ⟨dx, rw_, hd, [], rfl, ⟨?_, .nil, rfl, ?_, ?_, ?_, fun _ h => (nomatch h), fun _ h => (nomatch h), ⟨?_, by decide⟩⟩⟩
    · have nb' : b ≠ x := by simpa using nb
      have bh : b ≠ hd := fun q => by rw [q, nh0] at h; cases h
      rw [upd_ne nb', upd_ne bh, upd_ne nb']
      exact f1 b o h nb
    · simp [xr, hne.symm, rh]
    · rw [upd_same]
      rfl
    · rw [upd_ne xr.symm, upd_ne rh, upd_ne xr.symm]
      exact hr2
    · rw [upd_ne hne, upd_same]
      rfl
    · show (upto n).length ≤ 30
      rw [upto_len]
      omega
def sp_Table_many (K : PySem.W.Frag) (A : Cn → Addr) : Sp := fun vs H Q _ => ∃ F t tb, vs = [.ref t] ∧ TabAt A F H t tb ∧ RetV (.int tb.rows.length) H Q
def sp_Table_numbers (K : PySem.W.Frag) (A : Cn → Addr) : Sp := fun vs H Q _ => ∃ F t tb, vs = [.ref t] ∧ TabAt A F H t tb ∧ RetL (tb.rows.map V.int) H Q
def sp_Table_columns (K : PySem.W.Frag) (A : Cn → Addr) : Sp := fun vs H Q _ => ∃ F t tb, vs = [.ref t] ∧ TabAt A F H t tb ∧ RetL ((tb.cols.map (·.1)).map V.str) H Q
def t_Table_many (K : PySem.W.Frag) (E : XK) : TS := tRet (tCB (rLenA K) (tCons (tFld K (tVar 0) "rows_now") tNil))
def t_Table_numbers (K : PySem.W.Frag) (E : XK) : TS := tRet (tCB (rListA K) (tCons (tFld K (tVar 0) "rows_now") tNil))
def t_Table_columns (K : PySem.W.Frag) (E : XK) : TS := tRet (tCB (rListA K) (tCons (tFld K (tVar 0) "held") tNil))
theorem len_Table_many (vs : List V) (H : Hp) (Q : VK) (E : XK) (h : sp_Table_many K A vs H Q E) : vs.length = 1 := by obtain ⟨_, _, _, rfl, _⟩ := h; rfl
theorem len_Table_numbers (vs : List V) (H : Hp) (Q : VK) (E : XK) (h : sp_Table_numbers K A vs H Q E) : vs.length = 1 := by obtain ⟨_, _, _, rfl, _⟩ := h; rfl
theorem len_Table_columns (vs : List V) (H : Hp) (Q : VK) (E : XK) (h : sp_Table_columns K A vs H Q E) : vs.length = 1 := by obtain ⟨_, _, _, rfl, _⟩ := h; rfl
theorem r_Table_many (c : ClK K (A .Table) tabF) (vs : List V) (H : Hp) (Q : VK) (E : XK) (h : sp_Table_many K A vs H Q E) : t_Table_many K E { nx := fun _ H' => Q .non H', rt := Q } (L2.start ["self"] vs) H := by
  obtain ⟨F, t, tb, rfl, T, k⟩ := h
  obtain ⟨dx, r, hh, es, rfl, O⟩ := T.ex
  have := rc_lenL (K := K) (SqL.of O.rows)
  rw [List.length_map] at this
  exact s_ret (ev_lenV (ev_fld (ev_var rfl) O.at_ c (by decide) rfl) this) k
theorem r_Table_numbers (c : ClK K (A .Table) tabF) (vs : List V) (H : Hp) (Q : VK) (E : XK) (h : sp_Table_numbers K A vs H Q E) : t_Table_numbers K E { nx := fun _ H' => Q .non H', rt := Q } (L2.start ["self"] vs) H := by
  obtain ⟨F, t, tb, rfl, T, k⟩ := h
  obtain ⟨dx, r, hh, es, rfl, O⟩ := T.ex
  exact s_retL (el_listA (ev_fld (ev_var rfl) O.at_ c (by decide) rfl) (SqL.of O.rows)) fun p H2 hp e2 hl => k p H2 hp e2 hl
theorem r_Table_columns (c : ClK K (A .Table) tabF) (vs : List V) (H : Hp) (Q : VK) (E : XK) (h : sp_Table_columns K A vs H Q E) : t_Table_columns K E { nx := fun _ H' => Q .non H', rt := Q } (L2.start ["self"] vs) H := by
  obtain ⟨F, t, tb, rfl, T, k⟩ := h
  obtain ⟨dx, r, hh, es, rfl, O⟩ := T.ex
  have := el_listK (K := K) (ta := tFld K (tVar 0) "held") (σ := L2.start ["self"] [.ref t]) (ev_fld (ev_var rfl) O.at_ c (by decide) rfl) O.held
  rw [keys_es, ← O.cols] at this
  exact s_retL this fun p H2 hp e2 hl => k p H2 hp e2 hl
/-! their calls -/
variable {σ : L2.St} {ta : TE} {F : List Addr} {t : Addr} {tb : Tb} {Ex0 : L2.St → XK}
theorem TabAt.ins (T : TabAt A F H t tb) : ∃ dx fs, H t = some (.ins (A .Table) dx fs) ∧ fs.map (·.1) = tabF := by
  obtain ⟨dx, r, hh, es, rfl, O⟩ := T.ex
  exact ⟨dx, _, O.at_, rfl⟩
theorem look_none {fs : List (Str × V)} {m : Str} (h : fs.map (·.1) = tabF) (hm : m ∉ tabF) : fs.lookup m = none := by
  have : ∀ fs : List (Str × V), m ∉ fs.map (·.1) → fs.lookup m = none := by
    intro fs
    induction fs with
    | nil => intro _; rfl
    | cons a r ih =>
      intro h
      rw [List.map_cons, List.mem_cons, not_or] at h
      obtain ⟨n, v⟩ := a
      rw [List.lookup_cons, show (m == n) = false from beq_eq_false_iff_ne.mpr h.1]
      exact ih h.2
  exact this fs (by rw [h]; exact hm)
theorem ev_many (T : TabAt A F H t tb) (ho : Ev ta σ H (.ref t)) : Ev (tMetS (A .Table) "many" (sp_Table_many K A) Ex0 ta tNil) σ H (.int tb.rows.length) := by
  obtain ⟨dx, fs, h1, hf⟩ := T.ins
  exact ev_met ho h1 (look_none hf (by decide)) ea_nil fun H1 e Q q E => ⟨F, t, tb, rfl, T.ex' e, fun H2 e2 => q H2 e2⟩
theorem el_numbers (T : TabAt A F H t tb) (ho : Ev ta σ H (.ref t)) : EvL (tMetS (A .Table) "numbers" (sp_Table_numbers K A) Ex0 ta tNil) σ H (tb.rows.map V.int) := by
  obtain ⟨dx, fs, h1, hf⟩ := T.ins
  exact el_met ho h1 (look_none hf (by decide)) ea_nil fun H1 e Q q E => ⟨F, t, tb, rfl, T.ex' e, fun p H2 hp e2 h => q p H2 hp e2 h⟩
theorem el_columns (T : TabAt A F H t tb) (ho : Ev ta σ H (.ref t)) : EvL (tMetS (A .Table) "columns" (sp_Table_columns K A) Ex0 ta tNil) σ H ((tb.cols.map (·.1)).map V.str) := by
  obtain ⟨dx, fs, h1, hf⟩ := T.ins
  exact el_met ho h1 (look_none hf (by decide)) ea_nil fun H1 e Q q E => ⟨F, t, tb, rfl, T.ex' e, fun p H2 hp e2 h => q p H2 hp e2 h⟩
/-- x = Table(n) -/
theorem x_table {n : Nat} (ha : Ev ta σ H (.int n)) (hn : n < 31) (k : ∀ x r h H2, Ex H H2 → H x = none → H r = none → H h = none → TabAt A [x, r, h] H2 x ⟨upto n, n, []⟩ → Q (.ref x) H2) :
    tMakS (A .Table) (sp_Table_init K A) Ex0 (tCons ta tNil) σ H Q := by
  refine x_makS (ea_cons ha ea_nil) fun H1 e1 x dx nx nd ne => ?_
  refine ⟨x, dx, .int n, .int n, rfl, upd_same, .int _, fun m hm _ H' r h fr hr hh T => ⟨rfl, ?_⟩, fun hb => ?_⟩
  · have e : (n : Int) = m := by
      have := PyData.int.inj hm
      exact this
    have e : n = m := by omega
    subst e
    have back : ∀ {b : Addr}, upd (upd H1 dx (.own x)) x (.ins (A .Table) dx []) b = none → H1 b = none := fun {b} q => by
      by_cases q1 : b = x
      · rw [q1]; exact nx
      · by_cases q2 : b = dx
        · rw [q2]; exact nd
        · rw [upd_ne q1, upd_ne q2] at q
          exact q
    refine k x r h H' (fun b o hb => fr b o ?_ ?_) (fresh_back e1 nx) (fresh_back e1 (back hr)) (fresh_back e1 (back hh)) T
    · have h1 := e1 b o hb
      have b1 : b ≠ x := fun q => by rw [q, nx] at h1; cases h1
      have b2 : b ≠ dx := fun q => by rw [q, nd] at h1; cases h1
      rw [upd_ne b1, upd_ne b2]
      exact h1
    · intro q
      have h1 := e1 b o hb
      rw [List.mem_singleton.mp q, nx] at h1
      cases h1
  · exfalso
    have : isBelow 31 (.int n) = true := decide_eq_true (by omega)
    rw [this] at hb
    cases hb
theorem q_table {D : Ends} {tz : TS} {n : Nat} {i : Nat} (ha : Ev ta σ H (.int n)) (hn : n < 31) (k : ∀ x r h H2, Ex H H2 → H x = none → H r = none → H h = none → TabAt A [x, r, h] H2 x ⟨upto n, n, []⟩ → tz D (σ.set i (some (.ref x))) H2) :
    tSeq (tAsg (tMakS (A .Table) (sp_Table_init K A) Ex0 (tCons ta tNil)) (gName i)) tz D σ H := x_table (Q := fun v H1 => tz D (σ.set i (some v)) H1) ha hn k
/-- [Table(n), Table(n)] -/
theorem q_table2 {D : Ends} {tz : TS} {n : Nat} {i : Nat} (ha : Ev ta σ H (.int n)) (hn : n < 31) (k : ∀ x r h x' r' h' p H2, Ex H H2 → (∀ a ∈ [x, r, h], H a = none) → (∀ a ∈ [x', r', h'], H a = none ∧ a ∉ [x, r, h]) → TabAt A [x, r, h] H2 x ⟨upto n, n, []⟩ → TabAt A [x', r', h'] H2 x' ⟨upto n, n, []⟩ → H p = none → H2 p = some (.lst [.ref x, .ref x']) → p ∉ [x, r, h] → p ∉ [x', r', h'] → tz D (σ.set i (some (.ref p))) H2) :
    tSeq (tAsg (tLst (tCons (tMakS (A .Table) (sp_Table_init K A) Ex0 (tCons ta tNil)) (tCons (tMakS (A .Table) (sp_Table_init K A) Ex0 (tCons ta tNil)) tNil))) (gName i)) tz D σ H := by
  refine x_table (Q := fun v H1 => tMakS (A .Table) (sp_Table_init K A) Ex0 (tCons ta tNil) σ H1 fun w H2 => ([v, w].length ≤ sizeLine ∧ ∀ p, H2 p = none → tz D (σ.set i (some (.ref p))) (upd H2 p (.lst [v, w])))) ha hn fun x r h H1 e1 n1 n2 n3 T1 => ?_
  refine x_table (Ev.mono e1 ha) hn fun x' r' h' H2 e2 n4 n5 n6 T2 => ⟨sz_of (show 2 ≤ 100000 by decide), fun p hp => ?_⟩
  refine k x r h x' r' h' p _ ((e1.trans e2).trans (Ex.new hp)) ?_ ?_ ((T1.ex' e2).ex' (Ex.new hp)) (T2.ex' (Ex.new hp)) (fresh_back (e1.trans e2) hp) upd_same ((T1.ex' e2).off hp) (T2.off hp)
  · intro a ha
    simp only [List.mem_cons, List.not_mem_nil, or_false] at ha
    rcases ha with rfl | rfl | rfl <;> assumption
  · intro a ha
    simp only [List.mem_cons, List.not_mem_nil, or_false] at ha
    rcases ha with rfl | rfl | rfl
    · exact ⟨fresh_back e1 n4, T1.off n4⟩
    · exact ⟨fresh_back e1 n5, T1.off n5⟩
    · exact ⟨fresh_back e1 n6, T1.off n6⟩
/-- [{}, {}] -/
theorem q_dict2 {D : Ends} {tz : TS} {i : Nat} (k : ∀ h h' p H2, Ex H H2 → H h = none → H h' = none → h ≠ h' → H p = none → H2 h = some (.dK []) → H2 h' = some (.dK []) → H2 p = some (.lst [.ref h, .ref h']) → p ≠ h → p ≠ h' → tz D (σ.set i (some (.ref p))) H2) : tSeq (tAsg (tLst (tCons tDNewK (tCons tDNewK tNil))) (gName i)) tz D σ H := by
  intro h hh h' hh' 
  refine ⟨sz_of (show 2 ≤ 100000 by decide), fun p hp => ?_⟩
  have e1 : Ex H (upd H h (.dK [])) := Ex.new hh
  have e2 := Ex.new (o := HO.dK []) hh'
  have ne : h ≠ h' := fun q => by rw [← q, upd_same] at hh'; cases hh'
  exact k h h' p _ ((e1.trans e2).trans (Ex.new hp)) hh (fresh_back e1 hh') ne (fresh_back (e1.trans e2) hp) (Ex.new hp _ _ (e2 _ _ upd_same)) (Ex.new hp _ _ upd_same) upd_same (fun q => by subst q; rw [e2 _ _ upd_same] at hp; cases hp) (fun q => by rw [q, upd_same] at hp; cases hp)
end
end Z

set_option Elab.async false
set_option linter.all false
set_option autoImplicit false
set_option maxRecDepth 100000
set_option maxHeartbeats 4000000
/-! ev: what an expression comes to, by its form -/
local macro_rules | `(tactic| k_places) => `(tactic| (repeat' (first
  | (with_reducible exact ev_c)
  | (with_reducible exact ev_var rfl)
  | (with_reducible refine ev_chainLL ?_ ?_ ?_)
  | (with_reducible refine ev_chainLt ?_ ?_ ?_)
  | (with_reducible refine ev_op ?_ ?_ ?_)
  | (with_reducible refine ev_neg ?_)
  | (with_reducible refine et_test ?_)
  | (with_reducible refine et_B ?_)
  | (with_reducible refine et_not ?_)
  | (with_reducible refine et_and ?_ (fun _ => ?_))
  | (with_reducible refine et_or ?_ (fun _ => ?_))
  | (with_reducible refine ev_andV ?_ (fun _ => ?_))
  | (with_reducible refine ev_orV ?_ (fun _ => ?_))
  | (with_reducible refine ev_notV ?_)
  | (with_reducible exact rv_addI)
  | (with_reducible exact rv_subI)
  | (with_reducible exact rv_lt)
  | (with_reducible exact rv_le)
  | (with_reducible exact rv_gt)
  | (with_reducible exact rv_ge)
  | (with_reducible exact rv_isB)
  | (with_reducible exact rv_isnB)
  | (with_reducible exact rv_isN)
  | (with_reducible exact rv_isnN)
  | (with_reducible exact rv_eqS rfl)
  | (with_reducible exact rv_neS rfl)
  | (with_reducible exact rv_inStr)
  | (with_reducible exact rv_ninStr)
  | (with_reducible exact rv_mod (by first | decide | omega | assumption))
  | (with_reducible exact rv_div (by first | decide | omega | assumption))
  | (with_reducible exact rv_pow (by decide))
  | (with_reducible refine ed_i ?_; done)
  | (with_reducible exact ea_nil)
  | (with_reducible refine ea_cons ?_ ?_)
  | (with_reducible exact eds_nil)
  | (with_reducible refine eds_cons ?_ ?_)
  | (with_reducible exact ed_dnew)
  | (with_reducible refine ed_lst ?_ (by simp only [List.length_cons, List.length_nil]; omega))
  | (with_reducible refine ed_tup ?_ (by simp only [List.length_cons, List.length_nil]; omega)))))
namespace Z
open PySem PySem.Spec PyProof.Rows L2 Evl
/-! ### the table's other methods -/
section
variable {α : Type}
def getA (cs : List (Str × α)) (z : Str) : Option α := (cs.find? fun c => decide (c.1 = z)).map (·.2)
def putA (cs : List (Str × α)) (z : Str) (y : α) : List (Str × α) := if (cs.any fun c => decide (c.1 = z)) = true then cs.map (fun c => if c.1 = z then (c.1, y) else c) else cs ++ [(z, y)]
def dropA (cs : List (Str × α)) (z : Str) : List (Str × α) := cs.filter fun c => decide (c.1 ≠ z)
def onA (f : α → α) (cs : List (Str × α)) (z : Str) : List (Str × α) := cs.map fun c => if c.1 = z then (c.1, f c.2) else c
end
def hasC (tb : Tb) : PyData → Bool
  | .str z => tb.cols.any fun c => decide (c.1 = z)
  | _ => false
def areVals (n : Nat) : PyData → Bool
  | .list ds => decide (ds.length = n) && ds.all isValueD
  | _ => false
def nameD : PyData → Str
  | .str z => z
  | _ => ""
def listD : PyData → List PyData
  | .list ds => ds
  | _ => []
def intD : PyData → Int
  | .int i => i
  | _ => 0
def giveB (tb : Tb) (c vs : PyData) : Except Cn Tb :=
  if isNameD c then if !hasC tb c && decide (8 ≤ tb.cols.length) then .error .TooMuch else if areVals tb.rows.length vs then .ok { tb with cols := putA tb.cols (nameD c) (listD vs) } else .error .NoValue else .error .NoName
def dropB (tb : Tb) (c : PyData) : Except Cn Tb := if hasC tb c then .ok { tb with cols := dropA tb.cols (nameD c) } else .error .NoColumn
def putB (tb : Tb) (c p v : PyData) : Except Cn Tb :=
  if hasC tb c then if isBelow tb.rows.length p then if isValueD v then .ok { tb with cols := onA (fun ds => ds.set (intD p).toNat v) tb.cols (nameD c) } else .error .NoValue else .error .NoPlace else .error .NoColumn
def atB (tb : Tb) (c p : PyData) : Except Cn PyData :=
  if hasC tb c then if isBelow tb.rows.length p then .ok (((getA tb.cols (nameD c)).getD []).getD (intD p).toNat .none) else .error .NoPlace else .error .NoColumn
/-- what a change of a table comes to -/
def Out (A : Cn → Addr) (F : List Addr) (t : Addr) (H : Hp) (Q : VK) (E : XK) : Except Cn Tb → Prop
  | .error c => ∀ H1, Ex H H1 → E (.ref (A c)) none H1
  | .ok tb => ∀ H' F', TabAt A F' H' t tb → Fr F H H' → (∀ b ∈ F', b ∈ F ∨ H b = none) → Q .non H'
theorem Out.ex {A : Cn → Addr} {F : List Addr} {t : Addr} {H H' : Hp} {Q : VK} {E : XK} {r : Except Cn Tb} (e : Ex H H') (h : Out A F t H Q E r) : Out A F t H' Q E r := by
  cases r with
  | error c => exact fun H1 e1 => h H1 (e.trans e1)
  | ok tb => exact fun H1 F' T f n => h H1 F' T (Fr.trans (.of_ex e) f) fun b hb => (n b hb).imp_right (fresh_back e)
/-! entries -/
theorem valV_es (es : List Ent) (z : Str) : valV (es.map kvE) (.inr z) = (es.find? fun e => decide (e.n = z)).map fun e => V.ref e.l := by
  unfold valV
  rw [List.find?_map, Option.map_map]
  have : ((fun kv : Key × V => decide (kv.1 = .inr z)) ∘ kvE) = fun e : Ent => decide (e.n = z) := by
    funext e
    show decide ((Sum.inr e.n : Key) = .inr z) = _
    exact decide_eq_decide.mpr ⟨fun h => Sum.inr.inj h, fun h => by rw [h]⟩
  rw [this]
  rfl
theorem any_es (es : List Ent) (z : Str) : ((es.map cE).any fun c => decide (c.1 = z)) = es.any fun e => decide (e.n = z) := by
  rw [List.any_map]
  rfl
theorem getA_es (es : List Ent) (z : Str) : getA (es.map cE) z = (es.find? fun e => decide (e.n = z)).map (·.ds) := by
  unfold getA
  rw [List.find?_map, Option.map_map]
  rfl
theorem find_es {es : List Ent} {z : Str} (h : (es.any fun e => decide (e.n = z)) = true) : ∃ e ∈ es, e.n = z ∧ (es.find? fun e => decide (e.n = z)) = some e := by
  obtain ⟨e, he⟩ := Option.isSome_iff_exists.mp (List.find?_isSome.mpr (List.any_eq_true.mp h))
  exact ⟨e, List.mem_of_find?_eq_some he, of_decide_eq_true (List.find?_some (p := fun e : Ent => decide (e.n = z)) he), he⟩
theorem hasC_es {A : Cn → Addr} {H : Hp} {t dx r h : Addr} {es : List Ent} {tb : Tb} (T : TabOf A H t dx r h es tb) (z : Str) : hasC tb (.str z) = es.any fun e => decide (e.n = z) := by
  show (tb.cols.any fun c => decide (c.1 = z)) = _
  rw [T.cols, any_es]
section
variable {K : PySem.W.Frag} {A : Cn → Addr} {H H' : Hp} {Q : VK} {E : XK} {vs : List V} {σ : L2.St} {ta tb te tx : TE} {D : Ends} {tz : TS} {F : List Addr} {t : Addr} {Ex0 : L2.St → XK}
theorem rv_inDk {p : Addr} {kvs : List (Key × V)} {k : Key} (h : H p = some (.dK kvs)) : RV (rInA K) (kV k) (.ref p) H (.bl (valV kvs k).isSome) := fun H1 e _ q => .inr (.inl ⟨p, _, rfl, DGet.k (e _ _ h), q H1 (Ex.refl H1)⟩)
theorem rv_ixDk {p : Addr} {kvs : List (Key × V)} {k : Key} {v : V} (h : H p = some (.dK kvs)) (hv : valV kvs k = some v) : RV (rIxA K) (.ref p) (kV k) H v := fun H1 e _ q => .inr ⟨p, v, rfl, hv ▸ DGet.k (e _ _ h), q H1 (Ex.refl H1)⟩
theorem len_es (es : List Ent) : (es.map kvE).length = es.length := List.length_map _
/-! are_values -/
def sp_are_values (K : PySem.W.Frag) : Sp := fun vs H Q _ => ∃ (v : V) (d : PyData) (n : Nat), vs = [v, .int n] ∧ Dt H v d ∧ (∀ x ∈ listD d, short2 x) ∧ (listD d).length ≤ 40000 ∧ RetV (.bl (areVals n d)) H Q
def t_are_values (K : PySem.W.Frag) (E : XK) : TS :=
  tRet (tAndV (tCB (rIsiA K) (tCons (tVar 0) (tCons (tC (.ty "list")) tNil))) (tAndV (tOp (rEqA K) (tCB (rLenA K) (tCons (tVar 0) tNil)) (tVar 1)) (tCB (rAll K) (tCons (tLc (iList K (tVar 0)) (gName 2) tYes (tCall (sp_is_value K) [] E0 (tCons (tVar 2) tNil)) [2]) tNil))))
theorem len_are_values (vs : List V) (H : Hp) (Q : VK) (E : XK) (h : sp_are_values K vs H Q E) : vs.length = 2 := by obtain ⟨_, _, _, rfl, _⟩ := h; rfl
theorem given_map {xs : List V} {bs : List Bool} (h : xs.length = bs.length) (f : Nat → Bool) (hf : ∀ i, i < xs.length → f i = bs.getD i false) : given xs.length (fun _ => true) (fun i => .bl (f i)) = bs.map V.bl := by
  unfold given
  rw [List.filter_eq_self.mpr (fun _ _ => rfl)]
  apply List.ext_getElem?
  intro i
  rw [List.getElem?_map, List.getElem?_map]
  by_cases hi : i < xs.length
  · rw [List.getElem?_range hi, List.getElem?_eq_getElem (by omega : i < bs.length)]
    show some (V.bl (f i)) = some (V.bl bs[i])
    rw [hf i hi, List.getD_eq_getElem?_getD, List.getElem?_eq_getElem (by omega : i < bs.length)]
    rfl
  · rw [List.getElem?_eq_none (by simpa using hi), List.getElem?_eq_none (by omega)]
    rfl
theorem ev_spB2 {pre : PyData → Prop} {g : PyData → Bool} {d : PyData} (h : EvD te σ H d) (hp : pre d) : Ev (tCall (sp1 pre fun d => .bool (g d)) [] E0 (tCons te tNil)) σ H (.bl (g d)) := ev_b (ed_call (ds := [d]) (eds_cons h eds_nil) rfl hp)
theorem r_are_values (vs : List V) (H : Hp) (Q : VK) (E : XK) (h : sp_are_values K vs H Q E) : t_are_values K E { nx := fun _ H' => Q .non H', rt := Q } (L2.start ["thing", "many", "value"] vs) H := by
  obtain ⟨v, d, n, rfl, r, hs, hz, k⟩ := h
  unfold t_are_values
  refine s_ret (v := .bl (areVals n d)) ?_ k
  by_cases hi : ∃ ds, d = .list ds
  · obtain ⟨ds, rfl⟩ := hi
    have hs : ∀ x ∈ ds, short2 x := hs
    have hz : ds.length ≤ 40000 := hz
    cases r with
    | @lst a xs _ ha r =>
    have el := r.length
    have hl : Ev (tCB (rLenA K) (tCons (tVar 0) tNil)) (L2.start ["thing", "many", "value"] [V.ref a, .int n]) H (.int ds.length) := by
      rw [← el]
      exact ev_lenV (ev_var rfl) (rc_lenL (SqL.of ha))
    have D0 : Dt H (.ref a) (.list ds) := .lst ha r
    refine ev_is (ev_andV (ev_isD (ed_var rfl D0)) fun _ => ev_andV (ev_op hl (ev_var rfl) (rv_eqS rfl)) fun _ => ev_all (bs := ds.map isValueD) ?_) ?_
    · rw [← given_map (xs := xs) (bs := ds.map isValueD) (by rw [List.length_map, el]) (fun i => (ds.map isValueD).getD i false) (fun _ _ => rfl)]
      refine el_lcL (fun _ => true) _ (ev_var rfl) (SqL.of ha) (by omega) (fun _ => rfl) (fun i x H1 _ _ => fun H2 _ Q q => q H2 (Ex.refl H2)) (fun i x H1 e1 hx _ => ?_)
      obtain ⟨d, hd, rx⟩ := r.getV hx
      refine ev_is (ev_spB2 (g := isValueD) (pre := short2) (ed_var rfl (rx.ex e1)) (hs d (List.mem_of_getElem? hd))) ?_
      rw [List.getD_eq_getElem?_getD, List.getElem?_map, hd]
      rfl
    · show V.bl (true && (decide (V.int ds.length = V.int n) && (ds.map isValueD).all id)) = V.bl (decide (ds.length = n) && ds.all isValueD)
      rw [Bool.true_and, List.all_map]
      congr 2
      exact decide_eq_decide.mpr ⟨fun h => by have := V.int.inj h; omega, fun h => by rw [h]⟩
  · have e1 : areVals n d = false := by
      cases d <;> first | rfl | exact absurd ⟨_, rfl⟩ hi
    have e2 : isiB (kindD d) "list" = false := by
      cases d <;> first | rfl | exact absurd ⟨_, rfl⟩ hi
    rw [e1]
    refine ev_is (v := .bl (isiB (kindD d) "list" && false)) (ev_andV (ev_isD (ed_var rfl r)) fun z => ?_) (by rw [e2]; rfl)
    rw [e2] at z
    cases z
theorem ev_areV {d : PyData} {n : Nat} (h : EvD ta σ H d) (hb : Ev tb σ H (.int n)) (hs : ∀ x ∈ listD d, short2 x) (hz : (listD d).length ≤ 40000) : Ev (tCallS (sp_are_values K) Ex0 (tCons ta (tCons tb tNil))) σ H (.bl (areVals n d)) := fun H1 e Q q =>
  h H1 e _ fun v H2 e2 r => hb H2 (e.trans e2) _ fun H3 e3 => ⟨v, d, n, rfl, r.ex e3, hs, hz, fun H4 e4 => q H4 ((e2.trans e3).trans e4)⟩
/-! has -/
def sp_Table_has (K : PySem.W.Frag) (A : Cn → Addr) : Sp := fun vs H Q _ => ∃ F t b v d, vs = [.ref t, v] ∧ TabAt A F H t b ∧ Dt H v d ∧ RetV (.bl (hasC b d)) H Q
def t_Table_has (K : PySem.W.Frag) (E : XK) : TS :=
  tRet (tAndV (tCB (rIsiA K) (tCons (tVar 1) (tCons (tC (.ty "str")) tNil))) (tOp (rInA K) (tVar 1) (tFld K (tVar 0) "held")))
theorem len_Table_has (vs : List V) (H : Hp) (Q : VK) (E : XK) (h : sp_Table_has K A vs H Q E) : vs.length = 2 := by obtain ⟨_, _, _, _, _, rfl, _⟩ := h; rfl
theorem r_Table_has (c : ClK K (A .Table) tabF) (vs : List V) (H : Hp) (Q : VK) (E : XK) (h : sp_Table_has K A vs H Q E) : t_Table_has K E { nx := fun _ H' => Q .non H', rt := Q } (L2.start ["self", "column"] vs) H := by
  obtain ⟨F, t, b, v, d, rfl, T, rd, k⟩ := h
  obtain ⟨dx, r, hh, es, rfl, O⟩ := T.ex
  unfold t_Table_has
  refine s_ret (v := .bl (hasC b d)) ?_ k
  by_cases hi : ∃ z, d = .str z
  · obtain ⟨z, rfl⟩ := hi
    obtain rfl := rd.s
    refine ev_is (ev_andV (ev_isD (ed_var rfl rd)) fun _ => ev_op (ev_var rfl) (ev_fld (ev_var rfl) O.at_ c (by decide) rfl) (rv_inDk (k := .inr z) O.held)) ?_
    rw [hasC_es O, valV_es, Option.isSome_map]
    show V.bl (true && _) = _
    rw [Bool.true_and, List.isSome_find?]
  · have e1 : hasC b d = false := by
      cases d <;> first | rfl | exact absurd ⟨_, rfl⟩ hi
    have e2 : isiB (kindD d) "str" = false := by
      cases d <;> first | rfl | exact absurd ⟨_, rfl⟩ hi
    rw [e1]
    refine ev_is (v := .bl (isiB (kindD d) "str" && false)) (ev_andV (ev_isD (ed_var rfl rd)) fun z => ?_) (by rw [e2]; rfl)
    rw [e2] at z
    cases z
theorem ev_has {d : PyData} {b : Tb} (T : TabAt A F H t b) (ho : Ev ta σ H (.ref t)) (h : EvD te σ H d) : Ev (tMetS (A .Table) "has" (sp_Table_has K A) Ex0 ta (tCons te tNil)) σ H (.bl (hasC b d)) := fun H1 e Q q => by
  obtain ⟨dx, fs, h1, hf⟩ := T.ins
  exact ho H1 e _ fun H2 e2 => ⟨t, dx, fs, rfl, (e.trans e2) _ _ h1, look_none hf (by decide), h H2 (e.trans e2) _ fun v H3 e3 r => ⟨F, t, b, v, d, rfl, T.ex' ((e.trans e2).trans e3), r, fun H4 e4 => q H4 ((e2.trans e3).trans e4)⟩⟩
/-! look_at, look_at_place -/
def Go (A : Cn → Addr) (ok : Bool) (c : Cn) (H : Hp) (Q : VK) (E : XK) : Prop := (ok = true → RetV .non H Q) ∧ (ok = false → ∀ H1, Ex H H1 → E (.ref (A c)) none H1)
def sp_Table_look_at (K : PySem.W.Frag) (A : Cn → Addr) : Sp := fun vs H Q E => ∃ F t b v d, vs = [.ref t, v] ∧ TabAt A F H t b ∧ Dt H v d ∧ Go A (hasC b d) .NoColumn H Q E
def sp_Table_look_at_place (K : PySem.W.Frag) (A : Cn → Addr) : Sp := fun vs H Q E => ∃ (t : Addr) (v : V) (d : PyData) (n : Int), vs = [.ref t, v, .int n] ∧ Dt H v d ∧ Go A (isBelow n d) .NoPlace H Q E
def t_Table_look_at (K : PySem.W.Frag) (A : Cn → Addr) (E : XK) : TS :=
  tIfS (tNot (tB (tMetS (A .Table) "has" (sp_Table_has K A) (WE (fun cls d _ H => E cls d H)) (tVar 0) (tCons (tVar 1) tNil)))) (tRaiseA (fun cls d _ H => E cls d H) (A .NoColumn)) tNext
def t_Table_look_at_place (K : PySem.W.Frag) (A : Cn → Addr) (E : XK) : TS :=
  tIfS (tNot (tB (tCallS (sp_is_below K) (WE (fun cls d _ H => E cls d H)) (tCons (tVar 1) (tCons (tVar 2) tNil))))) (tRaiseA (fun cls d _ H => E cls d H) (A .NoPlace)) tNext
theorem len_Table_look_at (vs : List V) (H : Hp) (Q : VK) (E : XK) (h : sp_Table_look_at K A vs H Q E) : vs.length = 2 := by obtain ⟨_, _, _, _, _, rfl, _⟩ := h; rfl
theorem len_Table_look_at_place (vs : List V) (H : Hp) (Q : VK) (E : XK) (h : sp_Table_look_at_place K A vs H Q E) : vs.length = 3 := by obtain ⟨_, _, _, _, rfl, _⟩ := h; rfl
theorem not_eq_true_iff {b : Bool} (h : (!b) = true) : b = false := by cases b <;> simp_all
theorem not_eq_false_iff {b : Bool} (h : (!b) = false) : b = true := by cases b <;> simp_all
theorem r_Table_look_at (c : ClK K (A .Table) tabF) (vs : List V) (H : Hp) (Q : VK) (E : XK) (h : sp_Table_look_at K A vs H Q E) : t_Table_look_at K A E { nx := fun _ H' => Q .non H', rt := Q } (L2.start ["self", "column"] vs) H := by
  obtain ⟨F, t, b, v, d, rfl, T, rd, k1, k2⟩ := h
  exact s_when (et_not (et_B (ev_has T (ev_var rfl) (ed_var rfl rd)))) (fun hb H1 e1 => k2 (not_eq_true_iff hb) H1 e1) fun hb H1 e1 => k1 (not_eq_false_iff hb) H1 e1
theorem r_Table_look_at_place (c : ClK K (A .Table) tabF) (vs : List V) (H : Hp) (Q : VK) (E : XK) (h : sp_Table_look_at_place K A vs H Q E) : t_Table_look_at_place K A E { nx := fun _ H' => Q .non H', rt := Q } (L2.start ["self", "place", "many"] vs) H := by
  obtain ⟨t, v, d, n, rfl, rd, k1, k2⟩ := h
  exact s_when (et_not (et_B (ev_below (ed_var rfl rd) (ev_var rfl)))) (fun hb H1 e1 => k2 (not_eq_true_iff hb) H1 e1) fun hb H1 e1 => k1 (not_eq_false_iff hb) H1 e1
theorem q_look {d : PyData} {b : Tb} (T : TabAt A F H t b) (ho : Ev ta σ H (.ref t)) (h : EvD te σ H d) (k1 : hasC b d = true → ∀ H1, Ex H H1 → tz D σ H1) (k2 : hasC b d = false → ∀ H1, Ex H H1 → (Ex0 σ) (.ref (A .NoColumn)) none H1) :
    tSeq (tDrop (tMetS (A .Table) "look_at" (sp_Table_look_at K A) Ex0 ta (tCons te tNil))) tz D σ H := by
  obtain ⟨dx, fs, h1, hf⟩ := T.ins
  exact ho H (Ex.refl H) _ fun H2 e2 => ⟨t, dx, fs, rfl, e2 _ _ h1, look_none hf (by decide), h H2 e2 _ fun v H3 e3 r => ⟨F, t, b, v, d, rfl, T.ex' (e2.trans e3), r, fun q H4 e4 => k1 q H4 ((e2.trans e3).trans e4), fun q H4 e4 => k2 q H4 ((e2.trans e3).trans e4)⟩⟩
theorem q_lookP {d : PyData} {n : Int} {b : Tb} (T : TabAt A F H t b) (ho : Ev ta σ H (.ref t)) (h : EvD te σ H d) (hn : Ev tb σ H (.int n)) (k1 : isBelow n d = true → ∀ H1, Ex H H1 → tz D σ H1) (k2 : isBelow n d = false → ∀ H1, Ex H H1 → (Ex0 σ) (.ref (A .NoPlace)) none H1) :
    tSeq (tDrop (tMetS (A .Table) "look_at_place" (sp_Table_look_at_place K A) Ex0 ta (tCons te (tCons tb tNil)))) tz D σ H := by
  obtain ⟨dx, fs, h1, hf⟩ := T.ins
  exact ho H (Ex.refl H) _ fun H2 e2 => ⟨t, dx, fs, rfl, e2 _ _ h1, look_none hf (by decide), h H2 e2 _ fun v H3 e3 r => hn H3 (e2.trans e3) _ fun H4 e4 => ⟨t, v, d, n, rfl, r.ex e4, fun q H5 e5 => k1 q H5 (((e2.trans e3).trans e4).trans e5), fun q H5 e5 => k2 q H5 (((e2.trans e3).trans e4).trans e5)⟩⟩
end
end Z

set_option Elab.async false
set_option linter.all false
set_option autoImplicit false
set_option maxRecDepth 100000
set_option maxHeartbeats 4000000
/-! ev: what an expression comes to, by its form -/
local macro_rules | `(tactic| k_places) => `(tactic| (repeat' (first
  | (with_reducible exact ev_c)
  | (with_reducible exact ev_var rfl)
  | (with_reducible refine ev_chainLL ?_ ?_ ?_)
  | (with_reducible refine ev_chainLt ?_ ?_ ?_)
  | (with_reducible refine ev_op ?_ ?_ ?_)
  | (with_reducible refine ev_neg ?_)
  | (with_reducible refine et_test ?_)
  | (with_reducible refine et_B ?_)
  | (with_reducible refine et_not ?_)
  | (with_reducible refine et_and ?_ (fun _ => ?_))
  | (with_reducible refine et_or ?_ (fun _ => ?_))
  | (with_reducible refine ev_andV ?_ (fun _ => ?_))
  | (with_reducible refine ev_orV ?_ (fun _ => ?_))
  | (with_reducible refine ev_notV ?_)
  | (with_reducible exact rv_addI)
  | (with_reducible exact rv_subI)
  | (with_reducible exact rv_lt)
  | (with_reducible exact rv_le)
  | (with_reducible exact rv_gt)
  | (with_reducible exact rv_ge)
  | (with_reducible exact rv_isB)
  | (with_reducible exact rv_isnB)
  | (with_reducible exact rv_isN)
  | (with_reducible exact rv_isnN)
  | (with_reducible exact rv_eqS rfl)
  | (with_reducible exact rv_neS rfl)
  | (with_reducible exact rv_inStr)
  | (with_reducible exact rv_ninStr)
  | (with_reducible exact rv_mod (by first | decide | omega | assumption))
  | (with_reducible exact rv_div (by first | decide | omega | assumption))
  | (with_reducible exact rv_pow (by decide))
  | (with_reducible refine ed_i ?_; done)
  | (with_reducible exact ea_nil)
  | (with_reducible refine ea_cons ?_ ?_)
  | (with_reducible exact eds_nil)
  | (with_reducible refine eds_cons ?_ ?_)
  | (with_reducible exact ed_dnew)
  | (with_reducible refine ed_lst ?_ (by simp only [List.length_cons, List.length_nil]; omega))
  | (with_reducible refine ed_tup ?_ (by simp only [List.length_cons, List.length_nil]; omega)))))
namespace Z
open PySem PySem.Spec PyProof.Rows L2 Evl
/-! ### give, drop, put, at -/
def putE (es : List Ent) (z : Str) (p : Addr) (ds : List PyData) : List Ent := if (es.any fun e => decide (e.n = z)) = true then es.map (fun e => if e.n = z then ⟨z, p, ds⟩ else e) else es ++ [⟨z, p, ds⟩]
theorem putE_kv (es : List Ent) (z : Str) (p : Addr) (ds : List PyData) : (putE es z p ds).map kvE = putK (es.map kvE) (.inr z) (.ref p) := by
  unfold putE putK
  rw [List.any_map]
  have : ((fun kv : Key × V => decide (kv.1 = .inr z)) ∘ kvE) = fun e : Ent => decide (e.n = z) := by
    funext e
    show decide ((Sum.inr e.n : Key) = .inr z) = _
    exact decide_eq_decide.mpr ⟨fun h => Sum.inr.inj h, fun h => by rw [h]⟩
  rw [this]
  split
  · rw [List.map_map, List.map_map]
    refine List.map_congr_left fun e _ => ?_
    show kvE (if e.n = z then ⟨z, p, ds⟩ else e) = if (Sum.inr e.n : Key) = .inr z then (Sum.inr e.n, V.ref p) else kvE e
    by_cases h : e.n = z
    · rw [if_pos h, if_pos (by rw [h]), h]
      rfl
    · rw [if_neg h, if_neg (fun q => h (Sum.inr.inj q))]
  · rw [List.map_append]
    rfl
theorem putE_c (es : List Ent) (z : Str) (p : Addr) (ds : List PyData) : (putE es z p ds).map cE = putA (es.map cE) z ds := by
  unfold putE putA
  rw [any_es]
  split
  · rw [List.map_map, List.map_map]
    refine List.map_congr_left fun e _ => ?_
    show cE (if e.n = z then ⟨z, p, ds⟩ else e) = if e.n = z then (e.n, ds) else cE e
    by_cases h : e.n = z
    · rw [if_pos h, if_pos h, h]
      rfl
    · rw [if_neg h, if_neg h]
  · rw [List.map_append]
    rfl
theorem putE_mem {es : List Ent} {z : Str} {p : Addr} {ds : List PyData} {e : Ent} (h : e ∈ putE es z p ds) : e ∈ es ∨ e = ⟨z, p, ds⟩ := by
  unfold putE at h
  split at h
  · obtain ⟨e0, h0, rfl⟩ := List.mem_map.mp h
    split
    · exact .inr rfl
    · exact .inl h0
  · rcases List.mem_append.mp h with h | h
    · exact .inl h
    · exact .inr (List.mem_singleton.mp h)
theorem putE_n {es : List Ent} {z : Str} {p : Addr} {ds : List PyData} (nn : (es.map (·.n)).Nodup) : ((putE es z p ds).map (·.n)).Nodup := by
  unfold putE
  split
  · have : (es.map (fun e => if e.n = z then (⟨z, p, ds⟩ : Ent) else e)).map (·.n) = es.map (·.n) := by
      rw [List.map_map]
      refine List.map_congr_left fun e _ => ?_
      show (if e.n = z then (⟨z, p, ds⟩ : Ent) else e).n = e.n
      split
      · rename_i h; exact h.symm
      · rfl
    rw [this]
    exact nn
  · rename_i h
    rw [List.map_append, List.nodup_append]
    refine ⟨nn, by simp, fun a ha b hb => ?_⟩
    obtain ⟨e, he, rfl⟩ := List.mem_map.mp ha
    have hb : b = z := by simpa using hb
    subst hb
    intro q
    exact h (List.any_eq_true.mpr ⟨e, he, decide_eq_true q⟩)
theorem putE_l {es : List Ent} {z : Str} {p : Addr} {ds : List PyData} (nn : (es.map (·.n)).Nodup) (nl : (es.map (·.l)).Nodup) (hp : ∀ e ∈ es, e.l ≠ p) : ((putE es z p ds).map (·.l)).Nodup := by
  unfold putE
  split
  · rw [List.map_map]
    unfold List.Nodup at nn nl ⊢
    rw [List.pairwise_map] at nn nl ⊢
    refine List.Pairwise.imp_of_mem (fun {a b} ha hb hab => ?_) (nn.and nl)
    show (if a.n = z then (⟨z, p, ds⟩ : Ent) else a).l ≠ (if b.n = z then (⟨z, p, ds⟩ : Ent) else b).l
    by_cases h1 : a.n = z <;> by_cases h2 : b.n = z
    · exact absurd (h1.trans h2.symm) hab.1
    · rw [if_pos h1, if_neg h2]; exact (hp b hb).symm
    · rw [if_neg h1, if_pos h2]; exact hp a ha
    · rw [if_neg h1, if_neg h2]; exact hab.2
  · rw [List.map_append, List.nodup_append]
    refine ⟨nl, by simp, fun a ha b hb => ?_⟩
    obtain ⟨e, he, rfl⟩ := List.mem_map.mp ha
    have hb : b = p := by simpa using hb
    subst hb
    exact hp e he
theorem nodup3 {t r h : Addr} {ls ls' : List Addr} (nd : (t :: r :: h :: ls).Nodup) (n' : ls'.Nodup) (m : ∀ l ∈ ls', l ∈ ls ∨ (l ≠ t ∧ l ≠ r ∧ l ≠ h)) : (t :: r :: h :: ls').Nodup := by
  simp only [List.nodup_cons, List.mem_cons, not_or] at nd ⊢
  obtain ⟨⟨a1, a2, a3⟩, ⟨b1, b2⟩, c1, _⟩ := nd
  refine ⟨⟨a1, a2, fun q => ?_⟩, ⟨b1, fun q => ?_⟩, fun q => ?_, n'⟩
  · rcases m _ q with q | q
    · exact a3 q
    · exact q.1 rfl
  · rcases m _ q with q | q
    · exact b2 q
    · exact q.2.1 rfl
  · rcases m _ q with q | q
    · exact c1 q
    · exact q.2.2 rfl
section
variable {K : PySem.W.Frag} {A : Cn → Addr} {H H' : Hp} {Q : VK} {E : XK} {vs : List V} {σ : L2.St} {ta te tx tb : TE} {D : Ends} {tz : TS} {F : List Addr} {t : Addr} {Ex0 : L2.St → XK} {dx r h : Addr} {es : List Ent} {b : Tb}
theorem TabOf.ne_es (T : TabOf A H t dx r h es b) {e : Ent} (he : e ∈ es) : e.l ≠ t ∧ e.l ≠ r ∧ e.l ≠ h := by
  have nd := T.nd
  simp only [List.nodup_cons, List.mem_cons, not_or] at nd
  have m : e.l ∈ es.map (·.l) := List.mem_map_of_mem he
  exact ⟨fun q => nd.1.2.2 (q ▸ m), fun q => nd.2.1.2 (q ▸ m), fun q => nd.2.2.1 (q ▸ m)⟩
theorem TabOf.ne3 (T : TabOf A H t dx r h es b) : t ≠ r ∧ t ≠ h ∧ r ≠ h := by
  have nd := T.nd
  simp only [List.nodup_cons, List.mem_cons, not_or] at nd
  exact ⟨nd.1.1, nd.1.2.1, nd.2.1.1⟩
theorem TabOf.nl (T : TabOf A H t dx r h es b) : (es.map (·.l)).Nodup := by
  have nd := T.nd
  simp only [List.nodup_cons] at nd
  exact nd.2.2.2
theorem TabOf.sameL (T : TabOf A H t dx r h es b) {e e' : Ent} (he : e ∈ es) (he' : e' ∈ es) (q : e.l = e'.l) : e = e' := by
  have nl := T.nl
  clear T
  induction es with
  | nil => cases he
  | cons a s ih =>
    rw [List.map_cons, List.nodup_cons] at nl
    rcases List.mem_cons.mp he with h1 | h1 <;> rcases List.mem_cons.mp he' with h2 | h2
    · rw [h1, h2]
    · exact absurd (List.mem_map_of_mem (f := (·.l)) h2) (by show e'.l ∉ _; rw [← q, h1]; exact nl.1)
    · exact absurd (List.mem_map_of_mem (f := (·.l)) h1) (by show e.l ∉ _; rw [q, h2]; exact nl.1)
    · exact ih h1 h2 nl.2
theorem TabOf.sameN (T : TabOf A H t dx r h es b) {e e' : Ent} (he : e ∈ es) (he' : e' ∈ es) (q : e.n = e'.n) : e = e' := by
  have nl := T.nn
  clear T
  induction es with
  | nil => cases he
  | cons a s ih =>
    rw [List.map_cons, List.nodup_cons] at nl
    rcases List.mem_cons.mp he with h1 | h1 <;> rcases List.mem_cons.mp he' with h2 | h2
    · rw [h1, h2]
    · exact absurd (List.mem_map_of_mem (f := (·.n)) h2) (by show e'.n ∉ _; rw [← q, h1]; exact nl.1)
    · exact absurd (List.mem_map_of_mem (f := (·.n)) h1) (by show e.n ∉ _; rw [q, h2]; exact nl.1)
    · exact ih h1 h2 nl.2
/-- the column named is there -/
theorem TabOf.find (T : TabOf A H t dx r h es b) {d : PyData} (q : hasC b d = true) : ∃ z e, d = .str z ∧ e ∈ es ∧ e.n = z ∧ valV (es.map kvE) (.inr z) = some (.ref e.l) ∧ getA b.cols z = some e.ds := by
  obtain ⟨z, rfl⟩ : ∃ z, d = .str z := by
    cases d <;> first | exact ⟨_, rfl⟩ | cases q
  rw [hasC_es T] at q
  obtain ⟨e, he, hn, hf⟩ := find_es q
  exact ⟨z, e, rfl, he, hn, by rw [valV_es, hf]; rfl, by rw [T.cols, getA_es, hf]; rfl⟩
/-! give -/
def sp_Table_give (K : PySem.W.Frag) (A : Cn → Addr) : Sp := fun vs H Q E => ∃ F t b v1 d1 v2 d2, vs = [.ref t, v1, v2] ∧ TabAt A F H t b ∧ Dt H v1 d1 ∧ short d1 ∧ Dt H v2 d2 ∧ (∀ x ∈ listD d2, short2 x) ∧ (listD d2).length ≤ 40000 ∧ Out A F t H Q E (giveB b d1 d2)
def t_Table_give (K : PySem.W.Frag) (A : Cn → Addr) (E : XK) : TS :=
  tSeq (tIfS (tNot (tB (tCallS (sp_is_name K) (WE (fun cls d _ H => E cls d H)) (tCons (tVar 1) tNil)))) (tRaiseA (fun cls d _ H => E cls d H) (A .NoName)) tNext)
    (tSeq (tIfS (tAnd (tNot (tB (tMetS (A .Table) "has" (sp_Table_has K A) (WE (fun cls d _ H => E cls d H)) (tVar 0) (tCons (tVar 1) tNil)))) (tTest (tOp rGeA (tCB (rLenA K) (tCons (tFld K (tVar 0) "held") tNil)) (tC (.int 8))))) (tRaiseA (fun cls d _ H => E cls d H) (A .TooMuch)) tNext)
    (tSeq (tIfS (tNot (tB (tCallS (sp_are_values K) (WE (fun cls d _ H => E cls d H)) (tCons (tVar 2) (tCons (tCB (rLenA K) (tCons (tFld K (tVar 0) "rows_now") tNil)) tNil))))) (tRaiseA (fun cls d _ H => E cls d H) (A .NoValue)) tNext)
    (tAsg (tCB (rListA K) (tCons (tVar 2) tNil)) (gSub (tFld K (tVar 0) "held") (tVar 1) rSetA))))
theorem len_Table_give (vs : List V) (H : Hp) (Q : VK) (E : XK) (h : sp_Table_give K A vs H Q E) : vs.length = 3 := by obtain ⟨_, _, _, _, _, _, _, rfl, _⟩ := h; rfl
theorem vtAll_of : ∀ {H : Hp} {vs : List V} {ds : List PyData}, DtAll H vs ds → ds.all isValueD = true → VtAll H vs ds
  | _, _, _, .nil, _ => .nil
  | _, _, _, .cons a r, h => by
    rw [List.all_cons, Bool.and_eq_true] at h
    exact .cons (vt_of a h.1) (vtAll_of r h.2)
theorem r_Table_give (c : ClK K (A .Table) tabF) (vs : List V) (H : Hp) (Q : VK) (E : XK) (h : sp_Table_give K A vs H Q E) : t_Table_give K A E { nx := fun _ H' => Q .non H', rt := Q } (L2.start ["self", "column", "values"] vs) H := by
  obtain ⟨F, t, b, v1, d1, v2, d2, rfl, T, r1, hs, r2, hs2, hz, k⟩ := h
  unfold t_Table_give
  refine q_when (et_not (et_B (ev_spB (g := isNameD) (pre := short) (ed_var rfl r1) hs))) (fun hb H1 e1 => ?_) (fun hb H1 e1 => ?_)
  · unfold giveB at k
    rw [if_neg (by rw [not_eq_true_iff hb]; decide)] at k
    exact k H1 e1
  have hb := not_eq_false_iff hb
  obtain ⟨z, rfl⟩ : ∃ z, d1 = .str z := by
    cases d1 <;> first | exact ⟨_, rfl⟩ | cases hb
  obtain rfl := r1.s
  have T := T.ex' e1
  have r1 := r1.ex e1
  have r2 := r2.ex e1
  have k := Out.ex e1 k
  unfold giveB at k
  rw [if_pos hb] at k
  have held : ∀ {F : List Addr} {H : Hp} {σ : L2.St}, TabAt A F H t b → σ[0]? = some (some (V.ref t)) → Ev (tCB (rLenA K) (tCons (tFld K (tVar 0) "held") tNil)) σ H (.int b.cols.length) := fun T hσ => by
    obtain ⟨dx, r, hh, es, rfl, O⟩ := T.ex
    have := ev_lenV (K := K) (ev_fld (f := "held") (ev_var hσ) O.at_ c (by decide) rfl) (rc_lenD O.held)
    rw [len_es, ← List.length_map (f := cE), ← O.cols] at this
    exact this
  have rown : ∀ {F : List Addr} {H : Hp} {σ : L2.St}, TabAt A F H t b → σ[0]? = some (some (V.ref t)) → Ev (tCB (rLenA K) (tCons (tFld K (tVar 0) "rows_now") tNil)) σ H (.int b.rows.length) := fun T hσ => by
    obtain ⟨dx, r, hh, es, rfl, O⟩ := T.ex
    have := ev_lenV (K := K) (ev_fld (f := "rows_now") (ev_var hσ) O.at_ c (by decide) rfl) (rc_lenL (SqL.of O.rows))
    rw [List.length_map] at this
    exact this
  refine q_when (et_and (et_not (et_B (ev_has T (ev_var rfl) (ed_var rfl r1)))) fun _ => et_test (ev_op (held T rfl) ev_c rv_ge)) (fun hb2 H2 e2 => ?_) (fun hb2 H2 e2 => ?_)
  · rw [if_pos (by rw [← hb2]; congr 1; exact decide_eq_decide.mpr (by omega))] at k
    exact k H2 e2
  have T := T.ex' e2
  have r1 := r1.ex e2
  have r2 := r2.ex e2
  have k := Out.ex e2 k
  have hb3 : (!hasC b (.str z) && decide (8 ≤ b.cols.length)) = false := by
    rw [← hb2]; congr 1; exact decide_eq_decide.mpr (by omega)
  rw [if_neg (by rw [hb3]; decide)] at k
  refine q_when (et_not (et_B (ev_areV (ed_var rfl r2) (rown T rfl) hs2 hz))) (fun hb4 H3 e3 => ?_) (fun hb4 H3 e3 => ?_)
  · rw [if_neg (by rw [not_eq_true_iff hb4]; decide)] at k
    exact k H3 e3
  have hb4 := not_eq_false_iff hb4
  rw [if_pos hb4] at k
  obtain ⟨ds, rfl⟩ : ∃ ds, d2 = .list ds := by
    cases d2 <;> first | exact ⟨_, rfl⟩ | cases hb4
  have hv : ds.length = b.rows.length ∧ ds.all isValueD = true := by
    have : (decide (ds.length = b.rows.length) && ds.all isValueD) = true := hb4
    rw [Bool.and_eq_true] at this
    exact ⟨of_decide_eq_true this.1, this.2⟩
  have T := T.ex' e3
  have r2 := r2.ex e3
  have k := Out.ex e3 k
  cases r2 with
  | @lst a xs _ ha r2 =>
  -- list(values)
  refine el_listA (ev_var rfl) (SqL.of ha) H3 (Ex.refl H3) _ fun p H4 np e4 hp => ?_
  obtain ⟨dx, r, hh, es, rfl, O⟩ := T.ex
  have O4 := O.keep (.of_ex e4) fun l _ o q => e4 l o q
  have hne : ∀ l ∈ t :: r :: hh :: es.map (·.l), l ≠ p := fun l hl q => T.off np (q ▸ hl)
  have hpe : ∀ e ∈ es, e.l ≠ p := fun e he => hne _ (by simp only [List.mem_cons]; exact .inr (.inr (.inr (List.mem_map_of_mem he))))
  have el : es.length = b.cols.length := by rw [O.cols, List.length_map]
  refine ev_fld (ev_var rfl) O4.at_ c (by decide) rfl H4 (Ex.refl H4) _ fun H5 e5 => ⟨_, rfl, .inr ⟨hh, _, rfl, DPut.k (k := .inr z) (e5 _ _ O4.held) (by rw [len_es]; have := O.few.2; exact sz_lt (by omega)), ?_⟩⟩
  have O5 := O4.keep (.of_ex e5) fun l _ o q => e5 l o q
  have hp5 := e5 _ _ hp
  have vx : VtAll H5 xs ds := vtAll_of ((r2.ex e4).ex e5) hv.2
  have tup : Tup H5 (upd H5 hh (.dK (putK (es.map kvE) (.inr z) (.ref p)))) := fun bb ys q => by
    rw [upd_ne (fun w => by rw [w, O5.held] at q; cases q)]
    exact q
  have nh : ∀ {l : Addr}, l ≠ hh → upd H5 hh (.dK (putK (es.map kvE) (.inr z) (.ref p))) l = H5 l := fun w => upd_ne w
  have hp4 : ∀ {l : Addr} {o : HO}, H3 l = some o → H5 l = some o := fun q => e5 _ _ (e4 _ _ q)
  refine k _ (t :: r :: hh :: (putE es z p ds).map (·.l)) ⟨dx, r, hh, putE es z p ds, rfl, ⟨?_, putE_n O.nn, ?_, ?_, ?_, ?_, ?_, ?_, ?_⟩⟩ ?_ ?_
  · refine nodup3 O.nd (putE_l O.nn O.nl hpe) fun l hl => ?_
    obtain ⟨e, he, rfl⟩ := List.mem_map.mp hl
    rcases putE_mem he with he | rfl
    · exact .inl (List.mem_map_of_mem he)
    · exact .inr ⟨(hne _ (by simp)).symm, (hne _ (by simp)).symm, (hne _ (by simp)).symm⟩
  · show putA b.cols z ds = _
    rw [putE_c, O.cols]
  · rw [nh O.ne3.2.1]
    exact O5.at_
  · rw [nh O.ne3.2.2]
    exact O5.rows
  · rw [upd_same, putE_kv]
  · intro e he
    rcases putE_mem he with he | rfl
    · exact (O5.cell e he).keep tup (nh (O.ne_es he).2.2)
    · exact ⟨xs, by rw [nh (hne _ (by simp)).symm]; exact hp5, vx.tup tup⟩
  · intro e he
    rcases putE_mem he with he | rfl
    · exact O.wide e he
    · exact hv.1
  · refine ⟨O.few.1, ?_⟩
    unfold putE
    split
    · rw [List.length_map]; exact O.few.2
    · rename_i q
      rw [List.length_append, List.length_singleton]
      have q : hasC b (.str z) = false := by rw [hasC_es O]; simpa using q
      rw [q] at hb3
      have : ¬ 8 ≤ b.cols.length := of_decide_eq_false (by simpa using hb3)
      omega
  · intro bb o q nf
    rw [nh (fun w => nf (by rw [w]; simp))]
    exact hp4 q
  · intro bb hb
    simp only [List.mem_cons] at hb ⊢
    rcases hb with hb | hb | hb | hb
    · exact .inl (.inl hb)
    · exact .inl (.inr (.inl hb))
    · exact .inl (.inr (.inr (.inl hb)))
    · obtain ⟨e, he, rfl⟩ := List.mem_map.mp hb
      rcases putE_mem he with he | rfl
      · exact .inl (.inr (.inr (.inr (List.mem_map_of_mem he))))
      · exact .inr np
end
end Z

set_option Elab.async false
set_option linter.all false
set_option autoImplicit false
set_option maxRecDepth 100000
set_option maxHeartbeats 4000000
/-! ev: what an expression comes to, by its form -/
local macro_rules | `(tactic| k_places) => `(tactic| (repeat' (first
  | (with_reducible exact ev_c)
  | (with_reducible exact ev_var rfl)
  | (with_reducible refine ev_chainLL ?_ ?_ ?_)
  | (with_reducible refine ev_chainLt ?_ ?_ ?_)
  | (with_reducible refine ev_op ?_ ?_ ?_)
  | (with_reducible refine ev_neg ?_)
  | (with_reducible refine et_test ?_)
  | (with_reducible refine et_B ?_)
  | (with_reducible refine et_not ?_)
  | (with_reducible refine et_and ?_ (fun _ => ?_))
  | (with_reducible refine et_or ?_ (fun _ => ?_))
  | (with_reducible refine ev_andV ?_ (fun _ => ?_))
  | (with_reducible refine ev_orV ?_ (fun _ => ?_))
  | (with_reducible refine ev_notV ?_)
  | (with_reducible exact rv_addI)
  | (with_reducible exact rv_subI)
  | (with_reducible exact rv_lt)
  | (with_reducible exact rv_le)
  | (with_reducible exact rv_gt)
  | (with_reducible exact rv_ge)
  | (with_reducible exact rv_isB)
  | (with_reducible exact rv_isnB)
  | (with_reducible exact rv_isN)
  | (with_reducible exact rv_isnN)
  | (with_reducible exact rv_eqS rfl)
  | (with_reducible exact rv_neS rfl)
  | (with_reducible exact rv_inStr)
  | (with_reducible exact rv_ninStr)
  | (with_reducible exact rv_mod (by first | decide | omega | assumption))
  | (with_reducible exact rv_div (by first | decide | omega | assumption))
  | (with_reducible exact rv_pow (by decide))
  | (with_reducible refine ed_i ?_; done)
  | (with_reducible exact ea_nil)
  | (with_reducible refine ea_cons ?_ ?_)
  | (with_reducible exact eds_nil)
  | (with_reducible refine eds_cons ?_ ?_)
  | (with_reducible exact ed_dnew)
  | (with_reducible refine ed_lst ?_ (by simp only [List.length_cons, List.length_nil]; omega))
  | (with_reducible refine ed_tup ?_ (by simp only [List.length_cons, List.length_nil]; omega)))))
namespace Z
open PySem PySem.Spec PyProof.Rows L2 Evl
section
variable {K : PySem.W.Frag} {A : Cn → Addr} {H H' : Hp} {Q : VK} {E : XK} {vs : List V} {σ : L2.St} {ta te tx tb : TE} {D : Ends} {tz : TS} {F : List Addr} {t : Addr} {Ex0 : L2.St → XK} {dx r h : Addr} {es : List Ent} {b : Tb}
theorem ev_held (c : ClK K (A .Table) tabF) (O : TabOf A H t dx r h es b) (hσ : Ev ta σ H (.ref t)) : Ev (tFld K ta "held") σ H (.ref h) := ev_fld hσ O.at_ c (by decide) rfl
theorem ev_rown (c : ClK K (A .Table) tabF) (O : TabOf A H t dx r h es b) (hσ : Ev ta σ H (.ref t)) : Ev (tFld K ta "rows_now") σ H (.ref r) := ev_fld hσ O.at_ c (by decide) rfl
theorem ev_rowsN (c : ClK K (A .Table) tabF) (T : TabAt A F H t b) (hσ : Ev ta σ H (.ref t)) : Ev (tCB (rLenA K) (tCons (tFld K ta "rows_now") tNil)) σ H (.int b.rows.length) := by
  obtain ⟨dx, r, hh, es, rfl, O⟩ := T.ex
  have := ev_lenV (ev_rown c O hσ) (rc_lenL (K := K) (SqL.of O.rows))
  rw [List.length_map] at this
  exact this
theorem nodup_sub {ls ls' : List Addr} (h : ls'.Sublist ls) (n : ls.Nodup) : ls'.Nodup := List.Pairwise.sublist h n
theorem s_dpop {p : Addr} {kvs : List (Key × V)} {k : Key} {v : V} (ho : Ev ta σ H (.ref p)) (hk : Ev te σ H (kV k)) (h : H p = some (.dK kvs)) (hv : valV kvs k = some v) (kk : ∀ H1, Ex H H1 → D.nx σ (upd H1 p (.dK (dropK kvs k)))) : tDrop (tDPop1 ta te) D σ H :=
  ho H (Ex.refl H) _ fun H2 e2 => ⟨p, rfl, .inl ⟨_, .inl (e2 _ _ h)⟩, hk H2 e2 _ fun H3 e3 => ⟨kvs, k, v, (e2.trans e3) _ _ h, rfl, hv, kk H3 (e2.trans e3)⟩⟩
/-! drop -/
def sp_Table_drop (K : PySem.W.Frag) (A : Cn → Addr) : Sp := fun vs H Q E => ∃ F t b v d, vs = [.ref t, v] ∧ TabAt A F H t b ∧ Dt H v d ∧ Out A F t H Q E (dropB b d)
def t_Table_drop (K : PySem.W.Frag) (A : Cn → Addr) (E : XK) : TS :=
  tSeq (tDrop (tMetS (A .Table) "look_at" (sp_Table_look_at K A) (WE (fun cls d _ H => E cls d H)) (tVar 0) (tCons (tVar 1) tNil)))
    (tDrop (tDPop1 (tFld K (tVar 0) "held") (tVar 1)))
theorem len_Table_drop (vs : List V) (H : Hp) (Q : VK) (E : XK) (h : sp_Table_drop K A vs H Q E) : vs.length = 2 := by obtain ⟨_, _, _, _, _, rfl, _⟩ := h; rfl
theorem dropK_es (es : List Ent) (z : Str) : dropK (es.map kvE) (.inr z) = (es.filter fun e => decide (e.n ≠ z)).map kvE := by
  unfold dropK
  rw [List.filter_map]
  congr 2
  funext e
  exact decide_eq_decide.mpr ⟨fun h q => h (show (Sum.inr e.n : Key) = _ by rw [q]), fun h q => h (Sum.inr.inj q)⟩
theorem dropA_es (es : List Ent) (z : Str) : dropA (es.map cE) z = (es.filter fun e => decide (e.n ≠ z)).map cE := by
  unfold dropA
  rw [List.filter_map]
  rfl
theorem r_Table_drop (c : ClK K (A .Table) tabF) (vs : List V) (H : Hp) (Q : VK) (E : XK) (h : sp_Table_drop K A vs H Q E) : t_Table_drop K A E { nx := fun _ H' => Q .non H', rt := Q } (L2.start ["self", "column"] vs) H := by
  obtain ⟨F, t, b, v, d, rfl, T, rd, k⟩ := h
  unfold t_Table_drop
  unfold dropB at k
  refine q_look T (ev_var rfl) (ed_var rfl rd) (fun q H1 e1 => ?_) (fun q H1 e1 => ?_)
  · rw [if_pos q] at k
    obtain ⟨dx, r, hh, es, rfl, O⟩ := (T.ex' e1).ex
    obtain ⟨z, e, rfl, he, hn, hv, hg⟩ := O.find q
    obtain rfl := rd.s
    have k := Out.ex e1 k
    refine s_dpop (k := .inr z) (ev_held c O (ev_var rfl)) (ev_var rfl) O.held hv fun H2 e2 => ?_
    have k := Out.ex e2 k
    have O2 := O.keep (.of_ex e2) fun l _ o q => e2 l o q
    have tup : Tup H2 (upd H2 hh (.dK (dropK (es.map kvE) (.inr z)))) := fun bb ys q => by
      rw [upd_ne (fun w => by rw [w, O2.held] at q; cases q)]
      exact q
    have nh : ∀ {l : Addr}, l ≠ hh → upd H2 hh (.dK (dropK (es.map kvE) (.inr z))) l = H2 l := fun w => upd_ne w
    have sub : (es.filter fun e => decide (e.n ≠ z)).Sublist es := List.filter_sublist
    refine k _ (t :: r :: hh :: (es.filter fun e => decide (e.n ≠ z)).map (·.l)) ⟨dx, r, hh, _, rfl, ⟨?_, ?_, ?_, ?_, ?_, ?_, ?_, ?_, ?_⟩⟩ ?_ ?_
    · exact nodup_sub (.cons₂ _ (.cons₂ _ (.cons₂ _ (sub.map _)))) O.nd
    · exact List.Pairwise.sublist (sub.map _) O.nn
    · show dropA b.cols z = _
      rw [O.cols, dropA_es]
    · rw [nh O.ne3.2.1]; exact O2.at_
    · rw [nh O.ne3.2.2]; exact O2.rows
    · rw [upd_same, dropK_es]
    · exact fun e he => (O2.cell e (sub.subset he)).keep tup (nh (O.ne_es (sub.subset he)).2.2)
    · exact fun e he => O.wide e (sub.subset he)
    · exact ⟨O.few.1, Nat.le_trans sub.length_le O.few.2⟩
    · intro bb o q nf
      rw [nh (fun w => nf (by rw [w]; simp))]
      exact q
    · intro bb hb
      refine .inl ?_
      simp only [List.mem_cons] at hb ⊢
      rcases hb with hb | hb | hb | hb
      · exact .inl hb
      · exact .inr (.inl hb)
      · exact .inr (.inr (.inl hb))
      · exact .inr (.inr (.inr ((sub.map _).subset hb)))
  · rw [if_neg (by rw [q]; decide)] at k
    exact k H1 e1
/-! at -/
def sp_Table_at (K : PySem.W.Frag) (A : Cn → Addr) : Sp := fun vs H Q E => ∃ F t b v1 d1 v2 d2, vs = [.ref t, v1, v2] ∧ TabAt A F H t b ∧ Dt H v1 d1 ∧ Dt H v2 d2 ∧
  (∀ c, atB b d1 d2 = .error c → ∀ H1, Ex H H1 → E (.ref (A c)) none H1) ∧ (∀ d, atB b d1 d2 = .ok d → ∀ v H1, Ex H H1 → Vt H1 v d → Q v H1)
def t_Table_at (K : PySem.W.Frag) (A : Cn → Addr) (E : XK) : TS :=
  tSeq (tDrop (tMetS (A .Table) "look_at" (sp_Table_look_at K A) (WE (fun cls d _ H => E cls d H)) (tVar 0) (tCons (tVar 1) tNil)))
    (tSeq (tDrop (tMetS (A .Table) "look_at_place" (sp_Table_look_at_place K A) (WE (fun cls d _ H => E cls d H)) (tVar 0) (tCons (tVar 2) (tCons (tCB (rLenA K) (tCons (tFld K (tVar 0) "rows_now") tNil)) tNil))))
    (tRet (tOp (rIxA K) (tOp (rIxA K) (tFld K (tVar 0) "held") (tVar 1)) (tVar 2))))
theorem len_Table_at (vs : List V) (H : Hp) (Q : VK) (E : XK) (h : sp_Table_at K A vs H Q E) : vs.length = 3 := by obtain ⟨_, _, _, _, _, _, _, rfl, _⟩ := h; rfl
theorem VtAll.get {H : Hp} : ∀ {vs : List V} {ds : List PyData} {i : Nat}, VtAll H vs ds → i < ds.length → ∃ v, vs[i]? = some v ∧ Vt H v (ds.getD i .none)
  | _, _, i, .nil, h => by cases h
  | _, _, 0, .cons a r, h => ⟨_, rfl, a⟩
  | _, _, i + 1, .cons a r, h => by
    obtain ⟨v, h1, h2⟩ := r.get (i := i) (by simpa using h)
    exact ⟨v, by simpa using h1, by simpa using h2⟩
theorem below_nat {n : Nat} {d : PyData} (h : isBelow n d = true) : ∃ i : Nat, d = .int i ∧ i < n := by
  obtain ⟨i, rfl, hi⟩ : ∃ i, d = .int i ∧ 0 ≤ i ∧ i < n := by
    cases d <;> first | (simp [isBelow] at h; done) | exact ⟨_, rfl, of_decide_eq_true h⟩
  exact ⟨i.toNat, by congr 1; omega, by omega⟩
theorem r_Table_at (c : ClK K (A .Table) tabF) (vs : List V) (H : Hp) (Q : VK) (E : XK) (h : sp_Table_at K A vs H Q E) : t_Table_at K A E { nx := fun _ H' => Q .non H', rt := Q } (L2.start ["self", "column", "place"] vs) H := by
  obtain ⟨F, t, b, v1, d1, v2, d2, rfl, T, r1, r2, k1, k2⟩ := h
  unfold t_Table_at
  unfold atB at k1 k2
  refine q_look T (ev_var rfl) (ed_var rfl r1) (fun q H1 e1 => ?_) (fun q H1 e1 => k1 _ (by rw [if_neg (by rw [q]; decide)]) H1 e1)
  rw [if_pos q] at k1 k2
  have T := T.ex' e1
  refine q_lookP T (ev_var rfl) (ed_var rfl (r2.ex e1)) (ev_rowsN c T (ev_var rfl)) (fun q2 H2 e2 => ?_) (fun q2 H2 e2 => k1 _ (by rw [if_neg (by rw [q2]; decide)]) H2 (e1.trans e2))
  rw [if_pos q2] at k2
  have T := T.ex' e2
  obtain ⟨dx, r, hh, es, rfl, O⟩ := T.ex
  obtain ⟨z, e, rfl, he, hn, hv, hg⟩ := O.find q
  obtain rfl := r1.s
  obtain ⟨i, rfl, hi⟩ := below_nat q2
  obtain rfl := r2.i
  obtain ⟨xs, hx, vx⟩ := O.cell e he
  obtain ⟨v, g1, g2⟩ := vx.get (i := i) (by rw [O.wide e he]; exact hi)
  refine s_ret (ev_op (ev_op (ev_held c O (ev_var rfl)) (ev_var rfl) (rv_ixDk (k := .inr z) O.held hv)) (ev_var rfl) (rv_itL (SqL.of hx) (atI_nat g1))) fun H3 e3 => ?_
  refine k2 _ rfl v H3 ((e1.trans e2).trans e3) ?_
  show Vt H3 v (((getA b.cols z).getD []).getD i .none)
  rw [hg]
  exact g2.tup (.of_ex e3)
/-! put -/
def sp_Table_put (K : PySem.W.Frag) (A : Cn → Addr) : Sp := fun vs H Q E => ∃ F t b v1 d1 v2 d2 v3 d3, vs = [.ref t, v1, v2, v3] ∧ TabAt A F H t b ∧ Dt H v1 d1 ∧ Dt H v2 d2 ∧ Dt H v3 d3 ∧ short2 d3 ∧ Out A F t H Q E (putB b d1 d2 d3)
def t_Table_put (K : PySem.W.Frag) (A : Cn → Addr) (E : XK) : TS :=
  tSeq (tDrop (tMetS (A .Table) "look_at" (sp_Table_look_at K A) (WE (fun cls d _ H => E cls d H)) (tVar 0) (tCons (tVar 1) tNil)))
    (tSeq (tDrop (tMetS (A .Table) "look_at_place" (sp_Table_look_at_place K A) (WE (fun cls d _ H => E cls d H)) (tVar 0) (tCons (tVar 2) (tCons (tCB (rLenA K) (tCons (tFld K (tVar 0) "rows_now") tNil)) tNil))))
    (tSeq (tIfS (tNot (tB (tCallS (sp_is_value K) (WE (fun cls d _ H => E cls d H)) (tCons (tVar 3) tNil)))) (tRaiseA (fun cls d _ H => E cls d H) (A .NoValue)) tNext)
    (tAsg (tVar 3) (gSub (tOp (rIxA K) (tFld K (tVar 0) "held") (tVar 1)) (tVar 2) rSetA))))
theorem len_Table_put (vs : List V) (H : Hp) (Q : VK) (E : XK) (h : sp_Table_put K A vs H Q E) : vs.length = 4 := by obtain ⟨_, _, _, _, _, _, _, _, _, rfl, _⟩ := h; rfl
def onE (f : List PyData → List PyData) (es : List Ent) (z : Str) : List Ent := es.map fun e => if e.n = z then { e with ds := f e.ds } else e
theorem onE_same {β : Type} (g : Ent → β) (hg : ∀ e ds, g { e with ds := ds } = g e) (f : List PyData → List PyData) (es : List Ent) (z : Str) : (onE f es z).map g = es.map g := by
  unfold onE
  rw [List.map_map]
  refine List.map_congr_left fun e _ => ?_
  show g (if e.n = z then { e with ds := f e.ds } else e) = g e
  split
  · exact hg _ _
  · rfl
theorem onE_c (f : List PyData → List PyData) (es : List Ent) (z : Str) : (onE f es z).map cE = onA f (es.map cE) z := by
  unfold onE onA
  rw [List.map_map, List.map_map]
  refine List.map_congr_left fun e _ => ?_
  show cE (if e.n = z then { e with ds := f e.ds } else e) = if e.n = z then (e.n, f e.ds) else cE e
  split <;> rfl
theorem VtAll.set {H : Hp} {v : V} {d : PyData} (h : Vt H v d) : ∀ {vs : List V} {ds : List PyData} (i : Nat), VtAll H vs ds → VtAll H (vs.set i v) (ds.set i d)
  | _, _, _, .nil => .nil
  | _, _, 0, .cons a r => .cons h r
  | _, _, i + 1, .cons a r => .cons a (r.set h i)
theorem Fr.set {F : List Addr} {l : Addr} {o : HO} (h : l ∈ F) (e : Ex H H') : Fr F H (upd H' l o) := fun b u q n => by
  rw [upd_ne (fun w => n (by rw [w]; exact h))]
  exact e b u q
theorem r_Table_put (c : ClK K (A .Table) tabF) (vs : List V) (H : Hp) (Q : VK) (E : XK) (h : sp_Table_put K A vs H Q E) : t_Table_put K A E { nx := fun _ H' => Q .non H', rt := Q } (L2.start ["self", "column", "place", "value"] vs) H := by
  obtain ⟨F, t, b, v1, d1, v2, d2, v3, d3, rfl, T, r1, r2, r3, hs, k⟩ := h
  unfold t_Table_put
  unfold putB at k
  refine q_look T (ev_var rfl) (ed_var rfl r1) (fun q H1 e1 => ?_) (fun q H1 e1 => by rw [if_neg (by rw [q]; decide)] at k; exact k H1 e1)
  rw [if_pos q] at k
  have T := T.ex' e1
  refine q_lookP T (ev_var rfl) (ed_var rfl (r2.ex e1)) (ev_rowsN c T (ev_var rfl)) (fun q2 H2 e2 => ?_) (fun q2 H2 e2 => by rw [if_neg (by rw [q2]; decide)] at k; exact k H2 (e1.trans e2))
  rw [if_pos q2] at k
  have T := T.ex' e2
  refine q_when (et_not (et_B (ev_spB (g := isValueD) (pre := short2) (ed_var rfl ((r3.ex e1).ex e2)) hs))) (fun hb H3 e3 => by rw [if_neg (by rw [not_eq_true_iff hb]; decide)] at k; exact k H3 ((e1.trans e2).trans e3)) fun hb H3 e3 => ?_
  have hb := not_eq_false_iff hb
  rw [if_pos hb] at k
  have T := T.ex' e3
  have E3 := (e1.trans e2).trans e3
  obtain ⟨dx, r, hh, es, rfl, O⟩ := T.ex
  obtain ⟨z, e, rfl, he, hn, hv, hg⟩ := O.find q
  obtain rfl := r1.s
  obtain ⟨i, rfl, hi⟩ := below_nat q2
  obtain rfl := r2.i
  obtain ⟨xs, hx, vx⟩ := O.cell e he
  have w3 := vt_of (r3.ex E3) hb
  refine s_setA hx (ev_var rfl) (ev_op (ev_held c O (ev_var rfl)) (ev_var rfl) (rv_ixDk (k := .inr z) O.held hv)) (ev_var rfl) (by rw [vx.length, O.wide e he]; exact hi) fun H4 e4 => ?_
  have O4 := O.keep (.of_ex e4) fun l _ o q => e4 l o q
  have hx4 := e4 _ _ hx
  have tup : Tup H4 (upd H4 e.l (.lst (xs.set i v3))) := .upd hx4
  have nl : ∀ {l : Addr} {o : HO}, l ≠ e.l → upd H4 e.l o l = H4 l := fun w => upd_ne w
  have k := Out.ex (E3.trans e4) k
  have Le : (onE (fun ds => ds.set i d3) es z).map (·.l) = es.map (·.l) := onE_same (·.l) (fun _ _ => rfl) _ _ _
  have ne := O.ne_es he
  have mem : ∀ e' ∈ onE (fun ds => ds.set i d3) es z, ∃ e0 ∈ es, e' = if e0.n = z then { e0 with ds := e0.ds.set i d3 } else e0 := fun e' h' => by
    obtain ⟨e0, h0, rfl⟩ := List.mem_map.mp h'
    exact ⟨e0, h0, rfl⟩
  refine k _ (t :: r :: hh :: es.map (·.l)) ⟨dx, r, hh, onE (fun ds => ds.set i d3) es z, by rw [Le], ⟨by rw [Le]; exact O.nd, by rw [onE_same (·.n) (fun _ _ => rfl)]; exact O.nn, ?_, by rw [nl ne.1.symm]; exact O4.at_, by rw [nl ne.2.1.symm]; exact O4.rows, by rw [nl ne.2.2.symm, onE_same kvE (fun _ _ => rfl)]; exact O4.held, ?_, ?_, ⟨O.few.1, by unfold onE; rw [List.length_map]; exact O.few.2⟩⟩⟩ (.set (by simp only [List.mem_cons]; exact .inr (.inr (.inr (List.mem_map_of_mem he)))) (Ex.refl _)) (fun _ h => .inl h)
  · rw [onE_c, ← O.cols]
    rfl
  · intro e' h'
    obtain ⟨e0, h0, rfl⟩ := mem e' h'
    by_cases w : e0.n = z
    · rw [if_pos w]
      obtain rfl := O.sameN h0 he (w.trans hn.symm)
      exact ⟨_, upd_same, ((vx.tup (.of_ex e4)).set (w3.tup (.of_ex e4)) i).tup tup⟩
    · rw [if_neg w]
      refine (O4.cell e0 h0).keep tup (nl fun q => w ?_)
      rw [O.sameL h0 he q]
      exact hn
  · intro e' h'
    obtain ⟨e0, h0, rfl⟩ := mem e' h'
    by_cases w : e0.n = z
    · rw [if_pos w]
      show (e0.ds.set i d3).length = _
      rw [List.length_set]
      exact O.wide e0 h0
    · rw [if_neg w]
      exact O.wide e0 h0
end
end Z

set_option Elab.async false
set_option linter.all false
set_option autoImplicit false
set_option maxRecDepth 100000
set_option maxHeartbeats 4000000
/-! ev: what an expression comes to, by its form -/
local macro_rules | `(tactic| k_places) => `(tactic| (repeat' (first
  | (with_reducible exact ev_c)
  | (with_reducible exact ev_var rfl)
  | (with_reducible refine ev_chainLL ?_ ?_ ?_)
  | (with_reducible refine ev_chainLt ?_ ?_ ?_)
  | (with_reducible refine ev_op ?_ ?_ ?_)
  | (with_reducible refine ev_neg ?_)
  | (with_reducible refine et_test ?_)
  | (with_reducible refine et_B ?_)
  | (with_reducible refine et_not ?_)
  | (with_reducible refine et_and ?_ (fun _ => ?_))
  | (with_reducible refine et_or ?_ (fun _ => ?_))
  | (with_reducible refine ev_andV ?_ (fun _ => ?_))
  | (with_reducible refine ev_orV ?_ (fun _ => ?_))
  | (with_reducible refine ev_notV ?_)
  | (with_reducible exact rv_addI)
  | (with_reducible exact rv_subI)
  | (with_reducible exact rv_lt)
  | (with_reducible exact rv_le)
  | (with_reducible exact rv_gt)
  | (with_reducible exact rv_ge)
  | (with_reducible exact rv_isB)
  | (with_reducible exact rv_isnB)
  | (with_reducible exact rv_isN)
  | (with_reducible exact rv_isnN)
  | (with_reducible exact rv_eqS rfl)
  | (with_reducible exact rv_neS rfl)
  | (with_reducible exact rv_inStr)
  | (with_reducible exact rv_ninStr)
  | (with_reducible exact rv_mod (by first | decide | omega | assumption))
  | (with_reducible exact rv_div (by first | decide | omega | assumption))
  | (with_reducible exact rv_pow (by decide))
  | (with_reducible refine ed_i ?_; done)
  | (with_reducible exact ea_nil)
  | (with_reducible refine ea_cons ?_ ?_)
  | (with_reducible exact eds_nil)
  | (with_reducible refine eds_cons ?_ ?_)
  | (with_reducible exact ed_dnew)
  | (with_reducible refine ed_lst ?_ (by simp only [List.length_cons, List.length_nil]; omega))
  | (with_reducible refine ed_tup ?_ (by simp only [List.length_cons, List.length_nil]; omega)))))
namespace Z
open PySem PySem.Spec PyProof.Rows L2 Evl
/-! ### values that are only known to be values -/
theorem val_cases {d : PyData} (h : isValueD d = true) : (∃ i, d = .int i ∧ -(10 ^ 60) < i ∧ i < 10 ^ 60) ∨ ∃ w, d = .tuple [.str "fault", .str w] ∧ isName w = true := by
  cases d with
  | int i =>
    have h : (decide (-(10 ^ 60) < i ∧ i < 10 ^ 60) || false) = true := h
    rw [Bool.or_false] at h
    exact .inl ⟨i, rfl, of_decide_eq_true h⟩
  | tuple ds =>
    have h0 : (false || isFaultD (.tuple ds)) = true := h
    clear h
    rw [Bool.false_or] at h0
    unfold isFaultD at h0
    split at h0
    · rename_i f w q
      cases q
      rw [Bool.and_eq_true] at h0
      obtain ⟨h1, h2⟩ := h0
      cases w with
      | str z => exact .inr ⟨z, by rw [of_decide_eq_true h1], h2⟩
      | _ => cases h2
    · cases h0
  | _ => cases h
theorem val_ok {d : PyData} (h : isValueD d = true) : short2 d ∧ okN 1 d ∧ PyData.eqv d d = true ∧ isiB (kindD d) "bool" = false := by
  rcases val_cases h with ⟨i, rfl, -⟩ | ⟨w, rfl, hw⟩
  · exact ⟨trivial, trivial, by simp [PyData.eqv], rfl⟩
  · exact ⟨(name_ok hw).len, ⟨okF, name_ok hw, trivial⟩, by simp [PyData.eqv, PyData.eqvAll], rfl⟩
theorem val_int {i : Int} (h : -(10 ^ 60) < i ∧ i < 10 ^ 60) : isValueD (.int i) = true := by
  show (decide (-(10 ^ 60) < i ∧ i < 10 ^ 60) || false) = true
  rw [decide_eq_true h]
  rfl
theorem val_flt {w : Str} (h : isName w = true) : isValueD (.tuple [.str "fault", .str w]) = true := by
  show (false || isFaultD (.tuple [.str "fault", .str w])) = true
  rw [isFault_pair, show isNameD (.str w) = true from h, Bool.and_true]
  decide +kernel
mutual
theorem okN_up : ∀ {n : Nat} {d : PyData}, okN n d → ∀ m, n ≤ m → okN m d
  | _, .str z, h, m, _ => by cases m <;> (unfold okN at *; exact h)
  | n + 1, .list ds, h, m + 1, e => by unfold okN at *; exact okNs_up h m (by omega)
  | n + 1, .tuple ds, h, m + 1, e => by unfold okN at *; exact okNs_up h m (by omega)
  | 0, .list _, h, _, _ => by unfold okN at h; exact h.elim
  | 0, .tuple _, h, _, _ => by unfold okN at h; exact h.elim
  | _, .dict _, h, _, _ => by unfold okN at h; exact h.elim
  | _, .none, _, m, _ => by cases m <;> (unfold okN; trivial)
  | _, .bool _, _, m, _ => by cases m <;> (unfold okN; trivial)
  | _, .int _, _, m, _ => by cases m <;> (unfold okN; trivial)
theorem okNs_up : ∀ {n : Nat} {ds : List PyData}, okNs n ds → ∀ m, n ≤ m → okNs m ds
  | _, [], _, _, _ => by unfold okNs; trivial
  | n, d :: ds, h, m, e => by
    unfold okNs at *
    exact ⟨okN_up h.1 m e, okNs_up h.2 m e⟩
end
theorem val_okD {d : PyData} (h : isValueD d = true) : okD d := okN_up (val_ok h).2.1 10 (by decide)
theorem vals_okD {ds : List PyData} (h : ds.all isValueD = true) : okD (.list ds) := by
  show okNs 9 ds
  exact okNs_iff.mpr fun d hd => okN_up (val_ok (List.all_eq_true.mp h d hd)).2.1 9 (by decide)
theorem eqvAll_refl : ∀ {ds : List PyData}, (∀ d ∈ ds, PyData.eqv d d = true) → PyData.eqvAll ds ds = true
  | [], _ => by simp [PyData.eqvAll]
  | d :: ds, h => by
    rw [PyData.eqvAll, h d List.mem_cons_self, eqvAll_refl fun x hx => h x (List.mem_cons_of_mem _ hx)]
    rfl
theorem vals_eqv {ds : List PyData} (h : ds.all isValueD = true) : PyData.eqv (.list ds) (.list ds) = true := by
  rw [PyData.eqv]
  exact eqvAll_refl fun d hd => (val_ok (List.all_eq_true.mp h d hd)).2.2.1
/-- an expression that comes to a value -/
def EvW (te : TE) (σ : L2.St) (H : Hp) : Prop := ∀ H1, Ex H H1 → ∀ Q : VK, (∀ d v H2, isValueD d = true → Ex H1 H2 → Vt H2 v d → Q v H2) → te σ H1 Q
/-- a value is told, of which nothing else is known -/
def RetW (H : Hp) (Q : VK) : Prop := ∀ d v H2, isValueD d = true → Ex H H2 → Vt H2 v d → Q v H2
section
variable {K : PySem.W.Frag} {A : Cn → Addr} {H H' : Hp} {Q : VK} {E : XK} {vs : List V} {σ : L2.St} {ta te tx tb : TE} {t : TT} {D : Ends} {tz tu : TS}
theorem ew_d {d : PyData} (h : EvD te σ H d) (hd : isValueD d = true) : EvW te σ H := fun H1 e Q q => h H1 e _ fun v H2 e2 r => q d v H2 hd e2 (vt_of r hd)
theorem s_retW (h : EvW te σ H) (k : RetW H D.rt) : tRet te D σ H := h H (Ex.refl H) _ fun d v H1 hd e1 r => k d v H1 hd e1 r
theorem s_asgW {i : Nat} (h : EvW te σ H) (k : ∀ d v H1, isValueD d = true → Ex H H1 → Vt H1 v d → D.nx (σ.set i (some v)) H1) : tAsg te (gName i) D σ H := h H (Ex.refl H) _ fun d v H1 hd e1 r => k d v H1 hd e1 r
theorem q_asgW {i : Nat} (h : EvW te σ H) (k : ∀ d v H1, isValueD d = true → Ex H H1 → Vt H1 v d → tz D (σ.set i (some v)) H1) : tSeq (tAsg te (gName i)) tz D σ H := s_asgW (D := { D with nx := tz D }) h k
/-- a def of one number that tells a value -/
def spW : Sp := fun vs H Q _ => ∃ c : Int, vs = [.int c] ∧ RetW H Q
theorem ew_call {c : Int} {E : L2.St → XK} (h : Ev te σ H (.int c)) : EvW (tCallS spW E (tCons te tNil)) σ H := fun H1 e Q q => h H1 e _ fun H2 e2 => ⟨c, rfl, fun d v H3 hd e3 r => q d v H3 hd (e2.trans e3) r⟩
theorem ew_callB {c : Int} (h : Ev te σ H (.int c)) : EvW (tCall spW [] E0 (tCons te tNil)) σ H := fun H1 e Q q => h H1 e _ fun H2 e2 => ⟨c, rfl, fun d v H3 hd e3 r => q d v H3 hd (e2.trans e3) r⟩
/-- the values in the making -/
def CwW (H : Hp) (Dl : Addr) (i : Nat) (H' : Hp) : Prop := H Dl = none ∧ Ex H H' ∧ ∃ vs ds, H' Dl = some (.lst vs) ∧ VtAll H' vs ds ∧ ds.length = i ∧ ds.all isValueD = true
theorem VtAll.snoc {v : V} {d : PyData} : ∀ {vs : List V} {ds : List PyData}, VtAll H vs ds → Vt H v d → VtAll H (vs ++ [v]) (ds ++ [d])
  | _, _, .nil, h => .cons h .nil
  | _, _, .cons a r, h => .cons a (r.snoc h)
theorem cwW_turn {Dl : Addr} {i : Nat} {σ2 : L2.St} (p : CwW H Dl i H') (hi : i < 50000) (he : EvW te σ2 H) :
    te σ2 H' fun y H4 => ∃ acc, H4 Dl = some (.lst acc) ∧ acc.length < sizeLine ∧ CwW H Dl (i + 1) (upd H4 Dl (.lst (acc ++ [y]))) := by
  obtain ⟨p1, p2, vs, ds, p3, p4, p5, p6⟩ := p
  refine he H' p2 _ fun d v H4 hd e4 r => ⟨vs, e4 Dl _ p3, sz_lt (by rw [p4.length]; omega), p1, Ex.mut (p2.trans e4) p1, vs ++ [v], ds ++ [d], upd_same, ((p4.tup (.of_ex e4)).snoc r).tup (.upd (e4 _ _ p3)), by rw [List.length_append, p5]; rfl, ?_⟩
  rw [List.all_append, p6]
  show (d :: []).all isValueD = true
  rw [List.all_cons, hd]
  rfl
/-- [value(..) for k in range(n)] -/
theorem el_lcW {tas : TA} {j : Nat} {n : Int} {ls : List Nat} (h : EvA tas σ H [.int n]) (hn : 0 ≤ n ∧ n ≤ 40000) (hw : ∀ x, wipe ((wipe σ ls).set j (some x)) ls = wipe σ ls)
    (he : ∀ (i : Nat) H1, Ex H H1 → (i : Int) < n → EvW te ((wipe σ ls).set j (some (.int (i : Int)))) H1) (k : ∀ p vs ds H1, H p = none → Ex H H1 → H1 p = some (.lst vs) → VtAll H1 vs ds → ds.length = n.toNat → ds.all isValueD = true → Q (.ref p) H1) : tLc (iRng1 tas) (gName j) tYes te ls σ H Q :=
  h H (Ex.refl H) _ fun H1 e1 => ⟨n, rfl, by omega, by omega, fun Dl hD =>
  lc_range (lo := 0) (n := n.toNat) (CwW H1 Dl) ⟨hD, Ex.new hD, [], [], upd_same, .nil, rfl, rfl⟩ (fun i H' hi p => by
    have e0 : (0 : Int) + (i : Int) = (i : Int) := Int.zero_add _
    show wipe ((wipe σ ls).set j (some (.int ((0 : Int) + (i : Int))))) ls = wipe σ ls ∧ te ((wipe σ ls).set j (some (.int ((0 : Int) + (i : Int))))) H' fun y H4 => ∃ acc, H4 Dl = some (.lst acc) ∧ acc.length < sizeLine ∧ CwW H1 Dl (i + 1) (upd H4 Dl (.lst (acc ++ [y])))
    rw [e0]
    exact ⟨hw _, cwW_turn p (by omega) (he i H1 e1 (by omega))⟩) (fun H' p => by
      obtain ⟨p1, p2, vs, ds, p3, p4, p5, p6⟩ := p
      exact k Dl vs ds H' (fresh_back e1 p1) (e1.trans p2) p3 p4 p5 p6)⟩
/-- for k in a dict -/
theorem s_forK {d : Addr} {kvs : List (Key × V)} {td : TE} {j : Nat} (hd : H d = some (.dK kvs)) (h : ∀ od, Ev td σ (upd H d (.frz od (.dK kvs))) (.ref d)) (Pv : Obj → Nat → L2.St → Hp → Prop) (h0 : ∀ od H1, Ex (upd H d (.frz od (.dK kvs))) H1 → Pv od 0 σ H1)
    (hl : ∀ od i σ' H', Pv od i σ' H' → H' d = some (.frz od (.dK kvs)))
    (hs : ∀ od i kk v σ' H', kvs[i]? = some (kk, v) → Pv od i σ' H' → tu { nx := Pv od (i + 1), ct := Pv od (i + 1), bk := fun σ' H' => H' d = some (.frz od (.dK kvs)) ∧ D.nx σ' (upd H' d (.dK kvs)), rt := fun v H' => H' d = some (.frz od (.dK kvs)) ∧ D.rt v (upd H' d (.dK kvs)) } (σ'.set j (some (kV kk))) H')
    (hf : ∀ od σ' H', Pv od kvs.length σ' H' → D.nx σ' (upd H' d (.dK kvs))) : tLock (tFor (iKeys td) (gName j) tu) D σ H := by
  refine ⟨d, .dK kvs, hd, trivial, fun od => ?_⟩
  refine h od _ (Ex.refl _) _ fun H1 e1 => ⟨d, od, rfl, .inl ⟨kvs, e1 _ _ upd_same, ?_⟩⟩
  refine ⟨fun i m σ' H' => m = kvs.length - i ∧ i ≤ kvs.length ∧ Pv od i σ' H', ⟨kvs.length, by simp, Nat.zero_le _, h0 od H1 e1⟩, ?_⟩
  rintro i m σ' H' ⟨rfl, hi, p⟩
  by_cases hlt : i < kvs.length
  · refine .inr ⟨⟨hl od i σ' H' p, hlt⟩, fun σ2 H2 => Pv od (i + 1) σ2 H2, fun σ2 H2 p2 => ⟨kvs.length - (i + 1), by omega, rfl, hlt, p2⟩, ?_⟩
    rintro x2 H2 ⟨rfl, kk, v, hk, rfl⟩
    exact hs od i kk v σ' _ hk p
  · have e0 : i = kvs.length := by omega
    subst e0
    exact .inl ⟨⟨hl od _ σ' H' p, Nat.le_refl _⟩, hl od _ σ' H' p, hf od σ' H' p⟩
theorem q_forK {d : Addr} {kvs : List (Key × V)} {td : TE} {j : Nat} (hd : H d = some (.dK kvs)) (h : ∀ od, Ev td σ (upd H d (.frz od (.dK kvs))) (.ref d)) (Pv : Obj → Nat → L2.St → Hp → Prop) (h0 : ∀ od H1, Ex (upd H d (.frz od (.dK kvs))) H1 → Pv od 0 σ H1)
    (hl : ∀ od i σ' H', Pv od i σ' H' → H' d = some (.frz od (.dK kvs)))
    (hs : ∀ od i kk v σ' H', kvs[i]? = some (kk, v) → Pv od i σ' H' → tu { nx := Pv od (i + 1), ct := Pv od (i + 1), bk := fun σ' H' => H' d = some (.frz od (.dK kvs)) ∧ tz D σ' (upd H' d (.dK kvs)), rt := fun v H' => H' d = some (.frz od (.dK kvs)) ∧ D.rt v (upd H' d (.dK kvs)) } (σ'.set j (some (kV kk))) H')
    (hf : ∀ od σ' H', Pv od kvs.length σ' H' → tz D σ' (upd H' d (.dK kvs))) : tSeq (tLock (tFor (iKeys td) (gName j) tu)) tz D σ H := s_forK (D := { D with nx := tz D }) hd h Pv h0 hl hs hf
/-! a law's own dict of lists of values -/
structure DictOf (H : Hp) (h : Addr) (es : List Ent) : Prop where
  nd : (h :: es.map (·.l)).Nodup
  nn : (es.map (·.n)).Nodup
  held : H h = some (.dK (es.map kvE))
  cell : ∀ e ∈ es, ColAt H e
theorem DictOf.keep {h : Addr} {es : List Ent} (T : DictOf H h es) (e : Tup H H') (k : ∀ l ∈ h :: es.map (·.l), ∀ o, H l = some o → H' l = some o) : DictOf H' h es :=
  ⟨T.nd, T.nn, k _ (by simp) _ T.held, fun en hen => by
    obtain ⟨vs, h1, h2⟩ := T.cell en hen
    exact ⟨vs, k en.l (by simp only [List.mem_cons]; exact .inr (List.mem_map_of_mem hen)) _ h1, h2.tup e⟩⟩
theorem DictOf.ex {h : Addr} {es : List Ent} (T : DictOf H h es) (e : Ex H H') : DictOf H' h es := T.keep (.of_ex e) fun l _ o => e l o
theorem DictOf.there {h : Addr} {es : List Ent} (T : DictOf H h es) : ∀ l ∈ h :: es.map (·.l), ∃ o, H l = some o := by
  intro l hl
  rcases List.mem_cons.mp hl with rfl | hl
  · exact ⟨_, T.held⟩
  · obtain ⟨e, he, rfl⟩ := List.mem_map.mp hl
    obtain ⟨vs, h1, -⟩ := T.cell e he
    exact ⟨_, h1⟩
theorem DictOf.off {h : Addr} {es : List Ent} (T : DictOf H h es) {p : Addr} (hp : H p = none) : p ∉ h :: es.map (·.l) := fun q => by
  obtain ⟨o, e⟩ := T.there p q
  rw [hp] at e
  cases e
theorem DictOf.ne {h : Addr} {es : List Ent} (T : DictOf H h es) {e : Ent} (he : e ∈ es) : e.l ≠ h := by
  have nd := T.nd
  rw [List.nodup_cons] at nd
  exact fun q => nd.1 (q ▸ List.mem_map_of_mem he)
/-- d.pop(z) -/
theorem DictOf.drop {h : Addr} {es : List Ent} (T : DictOf H h es) (z : Str) : DictOf (upd H h (.dK (dropK (es.map kvE) (.inr z)))) h (es.filter fun e => decide (e.n ≠ z)) := by
  have sub : (es.filter fun e => decide (e.n ≠ z)).Sublist es := List.filter_sublist
  refine ⟨nodup_sub (.cons₂ _ (sub.map _)) T.nd, List.Pairwise.sublist (sub.map _) T.nn, by rw [upd_same, dropK_es], fun e he => (T.cell e (sub.subset he)).keep (fun bb ys q => ?_) (upd_ne (T.ne (sub.subset he)))⟩
  rw [upd_ne (fun w => by rw [w, T.held] at q; cases q)]
  exact q
/-- d[z] = p -/
theorem DictOf.put {h p : Addr} {es : List Ent} {xs : List V} {ds : List PyData} (T : DictOf H h es) (z : Str) (hp : p ∉ h :: es.map (·.l)) (hx : H p = some (.lst xs)) (hv : VtAll H xs ds) : DictOf (upd H h (.dK (putK (es.map kvE) (.inr z) (.ref p)))) h (putE es z p ds) := by
  have tup : Tup H (upd H h (.dK (putK (es.map kvE) (.inr z) (.ref p)))) := fun bb ys q => by
    rw [upd_ne (fun w => by rw [w, T.held] at q; cases q)]
    exact q
  have nd := T.nd
  rw [List.mem_cons, not_or] at hp
  rw [List.nodup_cons] at nd
  refine ⟨?_, putE_n T.nn, by rw [upd_same, putE_kv], fun e he => ?_⟩
  · rw [List.nodup_cons]
    refine ⟨fun q => ?_, putE_l T.nn nd.2 fun e he q => hp.2 (q ▸ List.mem_map_of_mem he)⟩
    obtain ⟨e, he, q⟩ := List.mem_map.mp q
    rcases putE_mem he with he | rfl
    · exact T.ne he q
    · exact hp.1 q
  · rcases putE_mem he with he | rfl
    · exact (T.cell e he).keep tup (upd_ne (T.ne he))
    · exact ⟨xs, by rw [upd_ne hp.1]; exact hx, hv.tup tup⟩
theorem DictOf.find {h : Addr} {es : List Ent} (T : DictOf H h es) {e : Ent} (he : e ∈ es) : valV (es.map kvE) (.inr e.n) = some (.ref e.l) := by
  have q : (es.any fun x => decide (x.n = e.n)) = true := List.any_eq_true.mpr ⟨e, he, decide_eq_true rfl⟩
  obtain ⟨e', h', hn, hf⟩ := find_es q
  have : e' = e := by
    have nl := T.nn
    clear q hf T
    induction es with
    | nil => cases he
    | cons a s ih =>
      rw [List.map_cons, List.nodup_cons] at nl
      rcases List.mem_cons.mp h' with h1 | h1 <;> rcases List.mem_cons.mp he with h2 | h2
      · rw [h1, h2]
      · exact absurd (List.mem_map_of_mem (f := (·.n)) h2) (by show e.n ∉ _; rw [← hn, h1]; exact nl.1)
      · exact absurd (List.mem_map_of_mem (f := (·.n)) h1) (by show e'.n ∉ _; rw [hn, h2]; exact nl.1)
      · exact ih h2 h1 nl.2
  rw [valV_es, hf, this]
  rfl
/-! calls of the table's methods -/
variable {F : List Addr} {t0 : Addr} {b : Tb} {Ex0 : L2.St → XK}
theorem ed_at {d1 d2 d : PyData} (T : TabAt A F H t0 b) (ho : Ev ta σ H (.ref t0)) (h1 : EvD te σ H d1) (h2 : EvD tx σ H d2) (q : atB b d1 d2 = .ok d) : EvD (tMetS (A .Table) "at" (sp_Table_at K A) Ex0 ta (tCons te (tCons tx tNil))) σ H d := fun H1 e Q k => by
  obtain ⟨dx, fs, hi, hf⟩ := T.ins
  refine ho H1 e _ fun H2 e2 => ⟨t0, dx, fs, rfl, (e.trans e2) _ _ hi, look_none hf (by decide), h1 H2 (e.trans e2) _ fun v H3 e3 r3 => h2 H3 ((e.trans e2).trans e3) _ fun w H4 e4 r4 => ?_⟩
  refine ⟨F, t0, b, v, d1, w, d2, rfl, T.ex' (((e.trans e2).trans e3).trans e4), r3.ex e4, r4, fun c hc => (by rw [q] at hc; cases hc), fun d' hd v' H5 e5 r5 => ?_⟩
  rw [q] at hd
  cases hd
  exact k v' H5 (((e2.trans e3).trans e4).trans e5) r5.dt
/-- a change by a method of the table, all arguments data -/
theorem q_tabAsg {m : Str} {sp : Sp} {tas : TA} {i : Nat} {ds : List PyData} (T : TabAt A F H t0 b) (hm : m ∉ tabF) (ho : Ev ta σ H (.ref t0)) (h : EvDs tas σ H ds) (k : ∀ vs H1, Ex H H1 → DtAll H1 vs ds → TabAt A F H1 t0 b → sp (.ref t0 :: vs) H1 (fun v H2 => tz D (σ.set i (some v)) H2) (Ex0 σ)) :
    tSeq (tAsg (tMetS (A .Table) m sp Ex0 ta tas) (gName i)) tz D σ H := by
  obtain ⟨dx, fs, hi, hf⟩ := T.ins
  exact ho H (Ex.refl H) _ fun H2 e2 => ⟨t0, dx, fs, rfl, e2 _ _ hi, look_none hf hm, h H2 e2 _ fun vs H3 e3 r3 => k vs H3 (e2.trans e3) r3 (T.ex' (e2.trans e3))⟩
theorem q_tabDrop {m : Str} {sp : Sp} {tas : TA} {ds : List PyData} (T : TabAt A F H t0 b) (hm : m ∉ tabF) (ho : Ev ta σ H (.ref t0)) (h : EvDs tas σ H ds) (k : ∀ vs H1, Ex H H1 → DtAll H1 vs ds → TabAt A F H1 t0 b → sp (.ref t0 :: vs) H1 (fun _ H2 => tz D σ H2) (Ex0 σ)) :
    tSeq (tDrop (tMetS (A .Table) m sp Ex0 ta tas)) tz D σ H := by
  obtain ⟨dx, fs, hi, hf⟩ := T.ins
  exact ho H (Ex.refl H) _ fun H2 e2 => ⟨t0, dx, fs, rfl, e2 _ _ hi, look_none hf hm, h H2 e2 _ fun vs H3 e3 r3 => k vs H3 (e2.trans e3) r3 (T.ex' (e2.trans e3))⟩
theorem DtAll.one {vs : List V} {d : PyData} (h : DtAll H vs [d]) : ∃ v, vs = [v] ∧ Dt H v d := by
  cases h with
  | cons a r => cases r; exact ⟨_, rfl, a⟩
theorem DtAll.two {vs : List V} {d e : PyData} (h : DtAll H vs [d, e]) : ∃ v w, vs = [v, w] ∧ Dt H v d ∧ Dt H w e := by
  cases h with
  | cons a r => obtain ⟨w, rfl, q⟩ := r.one; exact ⟨_, w, rfl, a, q⟩
theorem DtAll.three {vs : List V} {d e f : PyData} (h : DtAll H vs [d, e, f]) : ∃ v w x, vs = [v, w, x] ∧ Dt H v d ∧ Dt H w e ∧ Dt H x f := by
  cases h with
  | cons a r => obtain ⟨w, x, rfl, q, q2⟩ := r.two; exact ⟨_, w, x, rfl, a, q, q2⟩
/-- d[k] = v -/
theorem s_setK {p : Addr} {kvs : List (Key × V)} {k : Key} {v : V} (h : H p = some (.dK kvs)) (hv : Ev te σ H v) (ho : Ev ta σ H (.ref p)) (hk : Ev tb σ H (kV k)) (hl : kvs.length < 100000) (kk : ∀ H1, Ex H H1 → D.nx σ (upd H1 p (.dK (putK kvs k v)))) : tAsg te (gSub ta tb rSetA) D σ H :=
  hv H (Ex.refl H) _ fun H1 e1 => ho H1 e1 _ fun H2 e2 => hk H2 (e1.trans e2) _ fun H3 e3 => .inr ⟨p, _, rfl, DPut.k (((e1.trans e2).trans e3) _ _ h) (sz_lt hl), kk H3 ((e1.trans e2).trans e3)⟩
theorem nodup_len {α : Type} [DecidableEq α] : ∀ {l m : List α}, l.Nodup → (∀ x ∈ l, x ∈ m) → l.length ≤ m.length
  | [], _, _, _ => Nat.zero_le _
  | a :: l, m, hn, hs => by
    rw [List.nodup_cons] at hn
    have ha := hs a List.mem_cons_self
    have := nodup_len (l := l) (m := m.erase a) hn.2 fun x hx => by
      have hne : x ≠ a := fun q => hn.1 (q ▸ hx)
      exact (List.mem_erase_of_ne hne).mpr (hs x (List.mem_cons_of_mem _ hx))
    rw [List.length_erase_of_mem ha] at this
    have : 0 < m.length := List.length_pos_of_mem ha
    rw [List.length_cons]
    omega
theorem cols_find {es es2 : List Ent} {e : Ent} (q : es2.map cE = es.map cE) (he : e ∈ es) : ∃ e2 ∈ es2, e2.n = e.n ∧ e2.ds = e.ds := by
  have : cE e ∈ es2.map cE := by rw [q]; exact List.mem_map_of_mem he
  obtain ⟨e2, h2, w⟩ := List.mem_map.mp this
  exact ⟨e2, h2, congrArg Prod.fst w, congrArg Prod.snd w⟩
theorem TabAt.wide {e : Ent} {es : List Ent} (T : TabAt A F H t0 b) (q : b.cols = es.map cE) (he : e ∈ es) : e.ds.length = b.rows.length := by
  obtain ⟨dx, r, hh, es2, rfl, O⟩ := T.ex
  obtain ⟨e2, h2, -, w⟩ := cols_find (O.cols.symm.trans q) he
  rw [← w]
  exact O.wide e2 h2
theorem nn_of {es : List Ent} (q : b.cols = es.map cE) (T : TabAt A F H t0 b) : (es.map (·.n)).Nodup := by
  obtain ⟨dx, r, hh, es2, rfl, O⟩ := T.ex
  have : es.map (·.n) = es2.map (·.n) := by
    have := congrArg (List.map Prod.fst) (O.cols.symm.trans q)
    rw [List.map_map, List.map_map] at this
    exact this.symm
  rw [this]
  exact O.nn
theorem getA_mem {es : List Ent} {e : Ent} (nn : (es.map (·.n)).Nodup) (he : e ∈ es) : getA (es.map cE) e.n = some e.ds ∧ ((es.map cE).any fun c => decide (c.1 = e.n)) = true := by
  have q : (es.any fun x => decide (x.n = e.n)) = true := List.any_eq_true.mpr ⟨e, he, decide_eq_true rfl⟩
  refine ⟨?_, by rw [any_es]; exact q⟩
  obtain ⟨e', h', hn, hf⟩ := find_es q
  have : e' = e := by
    clear q hf
    induction es with
    | nil => cases he
    | cons a s ih =>
      rw [List.map_cons, List.nodup_cons] at nn
      rcases List.mem_cons.mp h' with h1 | h1 <;> rcases List.mem_cons.mp he with h2 | h2
      · rw [h1, h2]
      · exact absurd (List.mem_map_of_mem (f := (·.n)) h2) (by show e.n ∉ _; rw [← hn, h1]; exact nn.1)
      · exact absurd (List.mem_map_of_mem (f := (·.n)) h1) (by show e'.n ∉ _; rw [hn, h2]; exact nn.1)
      · exact ih nn.2 h2 h1
  rw [getA_es, hf, this]
  rfl
theorem at_ok {es : List Ent} {e : Ent} {i : Nat} (T : TabAt A F H t0 b) (q : b.cols = es.map cE) (he : e ∈ es) (hi : i < b.rows.length) : atB b (.str e.n) (.int i) = .ok (e.ds.getD i .none) := by
  have g := getA_mem (nn_of q T) he
  have h : hasC b (.str e.n) = true := by
    show (b.cols.any fun c => decide (c.1 = e.n)) = true
    rw [q]
    exact g.2
  unfold atB
  rw [if_pos h, if_pos (show isBelow b.rows.length (.int i) = true from decide_eq_true (by omega))]
  show Except.ok (((getA b.cols e.n).getD []).getD i .none) = _
  rw [q, g.1]
  rfl
end
end Z

set_option Elab.async false
set_option linter.all false
set_option autoImplicit false
set_option maxRecDepth 100000
set_option maxHeartbeats 4000000
/-! ev: what an expression comes to, by its form -/
local macro_rules | `(tactic| k_places) => `(tactic| (repeat' (first
  | (with_reducible exact ev_c)
  | (with_reducible exact ev_var rfl)
  | (with_reducible refine ev_chainLL ?_ ?_ ?_)
  | (with_reducible refine ev_chainLt ?_ ?_ ?_)
  | (with_reducible refine ev_op ?_ ?_ ?_)
  | (with_reducible refine ev_neg ?_)
  | (with_reducible refine et_test ?_)
  | (with_reducible refine et_B ?_)
  | (with_reducible refine et_not ?_)
  | (with_reducible refine et_and ?_ (fun _ => ?_))
  | (with_reducible refine et_or ?_ (fun _ => ?_))
  | (with_reducible refine ev_andV ?_ (fun _ => ?_))
  | (with_reducible refine ev_orV ?_ (fun _ => ?_))
  | (with_reducible refine ev_notV ?_)
  | (with_reducible exact rv_addI)
  | (with_reducible exact rv_subI)
  | (with_reducible exact rv_lt)
  | (with_reducible exact rv_le)
  | (with_reducible exact rv_gt)
  | (with_reducible exact rv_ge)
  | (with_reducible exact rv_isB)
  | (with_reducible exact rv_isnB)
  | (with_reducible exact rv_isN)
  | (with_reducible exact rv_isnN)
  | (with_reducible exact rv_eqS rfl)
  | (with_reducible exact rv_neS rfl)
  | (with_reducible exact rv_inStr)
  | (with_reducible exact rv_ninStr)
  | (with_reducible exact rv_mod (by first | decide | omega | assumption))
  | (with_reducible exact rv_div (by first | decide | omega | assumption))
  | (with_reducible exact rv_pow (by decide))
  | (with_reducible refine ed_i ?_; done)
  | (with_reducible exact ea_nil)
  | (with_reducible refine ea_cons ?_ ?_)
  | (with_reducible exact eds_nil)
  | (with_reducible refine eds_cons ?_ ?_)
  | (with_reducible exact ed_dnew)
  | (with_reducible refine ed_lst ?_ (by simp only [List.length_cons, List.length_nil]; omega))
  | (with_reducible refine ed_tup ?_ (by simp only [List.length_cons, List.length_nil]; omega)))))
namespace Z
open PySem PySem.Spec PyProof.Rows L2 Evl NdefX LamX
/-! ### lambdas: words, what is known of a made one -/
structure LF where
  qual : Str
  params : Arguments
  body : Expr
  scope : Scope
  cl : List (Str × Addr)
  c : Addr
/-- for the frames of NdefX: a def of the same names -/
def LF.nf (F : LF) : NF := ⟨"<lambda>", F.qual, F.params, [], F.scope, F.cl, F.c⟩
def FnL (f : Addr) (F : LF) : HO := .ext fun h => ∃ pm ctv : Value, h.get? f = some (PySem.W.kla_obj "<lambda>" F.qual F.params F.body F.scope F.cl pm F.c ctv)
theorem fnL_ne {f : Addr} {F : LF} (ps : Array Value) : FnL f F ≠ .tbl ps := fun z => by unfold FnL at z; cases z
theorem fnL_frz {f : Addr} {F : LF} (o : Obj) (u : HO) : FnL f F ≠ .frz o u := fun z => by unfold FnL at z; cases z
theorem codeO_frz {c : Addr} {q : Str} (o : Obj) (u : HO) : CodeO c q ≠ .frz o u := fun z => by unfold CodeO at z; cases z
theorem fnL_at {P : Program} {w : World} {H : Hp} {h : Heap} {f : Addr} {F : LF} (ok : HOk P w H h) (e : H f = some (FnL f F)) : ∃ pm ctv : Value, h.get? f = some (PySem.W.kla_obj "<lambda>" F.qual F.params F.body F.scope F.cl pm F.c ctv) := (ok f _ e).1
/-- all but the tables stay, nothing that is tracked goes, the tables stand -/
structure ExT (T : List (Addr × Str)) (H H' : Hp) : Prop where
  e : ExtN H H'
  n : ∀ b, H' b = none → H b = none
  t : Tabs T H'
theorem upd_no {H : Hp} {a b : Addr} {o : HO} (e : L2.upd H a o b = none) : H b = none := by
  unfold L2.upd at e
  split at e
  · cases e
  · exact e
theorem upd_keep {H : Hp} {a : Addr} {o : HO} (n : H a = none) : ∀ b u, H b = some u → L2.upd H a o b = some u := fun b u e => (upd_ne (ne_of_none e n)).trans e
section
variable {X : Cx} {pins : List (Addr × Obj)} {σ : L2.St} {H : Hp} {s : Shared}
theorem inv_lam {F : LF} {tk' : Nat} {pm ctv : Value} (J : Inv X pins σ H s) :
    Inv X pins σ (L2.upd H s.heap.objs.size (FnL s.heap.objs.size F)) { s with heap := s.heap.push (PySem.W.kla_obj "<lambda>" F.qual F.params F.body F.scope F.cl pm F.c ctv), toks := tk' } := by
  refine J.laid (fun b u e => Heap.get?_push_of_some _ e) (Nat.le_refl _) ?_
  have e : (s.heap.push (PySem.W.kla_obj "<lambda>" F.qual F.params F.body F.scope F.cl pm F.c ctv)).get? s.heap.objs.size = some (PySem.W.kla_obj "<lambda>" F.qual F.params F.body F.scope F.cl pm F.c ctv) := Heap.get?_push_size _ rfl
  exact ⟨⟨pm, ctv, e⟩, ⟨_, e⟩, fun _ _ ⟨p, q, z⟩ st => ⟨p, q, st _ z⟩⟩
/-- a lambda is made -/
theorem lam_mk {T : List (Addr × Str)} {c P : Addr} {params : Arguments} {body : Expr} {scope : Scope} {pos : Pos} {E Q : Value → Shared → Prop} (J : Inv X pins σ H s) (TB : TabB X.base X.mg c P) (hc : X.env.code = .ref c)
    (hm : (P, X.env.qual ++ "<lambda>") ∈ T) (hu : ∀ p ∈ T, p.1 = P → p.2 = X.env.qual ++ "<lambda>") (hT : Tabs T H) (hd : defaultsOf params X.env = ([], [])) (hfr : ∀ y ∈ scope.names, y.2 = .free → ∃ c, X.env.cells.lookup y.1 = some c)
    (k : ∀ (f c' : Addr) (H1 : Hp) (s' : Shared), Inv X pins σ H1 s' → ExT T H H1 → H f = none → H1 f = some (FnL f ⟨X.env.qual ++ "<lambda>", params, body, scope, cloFrom X.env.cells scope.names [], c'⟩) → H1 c' = some (CodeO c' (X.env.qual ++ "<lambda>")) → Q (.ref f) s') :
    wpAny (model X.prog X.w) X.A (eval (.Lambda params body scope pos) X.env) Q E s := by
  obtain ⟨ps, hP, ht, ha⟩ := hT _ hm
  refine PySem.W.kla_eval hd ?_
  have bP := TB.bm.keeps J.bk
  have gP : s.heap.get? P = some { cls := .none, data := .fields ps } := J.hok P _ hP
  cases q : codeAmong pos ps.toList with
  | none =>
    refine PySem.W.kla_makeFunction (closure_ok hfr) J.ok.glob (J.mod.glob.keeps J.bk) hc (TB.code.keeps J.bk) gP ht q TB.gP bP fun c' ctv h' tk hx ge lt hrec htb => ?_
    obtain ⟨c2, oc, vs, t, e2, hoc, hdc, hvc⟩ := hrec
    cases e2
    have nC : H c' = none := J.hok.fresh ge
    have J1 := inv_table (t' := tk) (more := #[rawInt pos.line, rawInt pos.col, .ref c']) (h' := h') J hP (fun b o n e => hx b o n e) htb ge ⟨oc, vs, t, hoc, hdc, hvc⟩
    have hE : ExtN H (L2.upd (L2.upd H P (.tbl (ps ++ #[rawInt pos.line, rawInt pos.col, .ref c']))) c' (CodeO c' (X.env.qual ++ "<lambda>"))) := fun b o e n =>
      upd_keep (a := c') ((upd_ne (Ne.symm (ne_of_none hP nC))).trans nC) b o ((upd_ne fun z => n ps (Option.some.inj (e.symm.trans (by rw [z]; exact hP)))).trans e)
    have T1 : Tabs T (L2.upd (L2.upd H P (.tbl (ps ++ #[rawInt pos.line, rawInt pos.col, .ref c']))) c' (CodeO c' (X.env.qual ++ "<lambda>"))) := fun p hp => by
      by_cases hb : p.1 = P
      · have eL : (ps ++ #[rawInt pos.line, rawInt pos.col, .ref c']).toList = ps.toList ++ [rawInt pos.line, rawInt pos.col, .ref c'] := by simp
        rw [hu p hp hb, hb]
        refine ⟨_, (upd_ne (ne_of_none hP nC)).trans upd_same, by rw [eL]; exact PySem.TriplesOk_snoc _ _ _ _ ht, fun p' cv hcv => ?_⟩
        rw [eL] at hcv
        rcases among_app _ ht hcv with z | z
        · obtain ⟨c0, e1, e2⟩ := ha p' cv z
          exact ⟨c0, e1, hE _ _ e2 codeO_ne⟩
        · exact ⟨c', z, upd_same⟩
      · obtain ⟨ps', a1, a2, a3⟩ := hT p hp
        refine ⟨ps', (upd_ne (ne_of_none a1 nC)).trans ((upd_ne hb).trans a1), a2, fun p' cv hcv => ?_⟩
        obtain ⟨c0, e1, e2⟩ := a3 p' cv hcv
        exact ⟨c0, e1, hE _ _ e2 codeO_ne⟩
    have nF := J1.hok.fresh (Nat.le_refl _)
    have J2 := inv_lam (F := ⟨X.env.qual ++ "<lambda>", params, body, scope, cloFrom X.env.cells scope.names [], c'⟩) (tk' := tk) (pm := (X.mg "__name__").getD .none) (ctv := ctv) J1
    exact k _ c' _ _ J2 ⟨fun b o e n => upd_keep nF b o (hE b o e n), fun b e => upd_no (upd_no (upd_no e)), T1.ext (upd_keep nF)⟩ (J.hok.fresh (Nat.le_trans ge (Nat.le_of_lt lt))) upd_same ((upd_ne (Nat.ne_of_lt lt)).trans upd_same)
  | some cv =>
    obtain ⟨c', rfl, hco⟩ := ha pos cv q
    refine PySem.W.kla_makeFunctionHit (closure_ok hfr) J.ok.glob (J.mod.glob.keeps J.bk) hc (TB.code.keeps J.bk) gP ht q bP fun ctv h' tk hx hsz => ?_
    have J1 : Inv X pins σ H { s with heap := h', toks := tk } := J.kept hx
    have nF := J1.hok.fresh (Nat.le_refl _)
    have J2 := inv_lam (F := ⟨X.env.qual ++ "<lambda>", params, body, scope, cloFrom X.env.cells scope.names [], c'⟩) (tk' := tk) (pm := (X.mg "__name__").getD .none) (ctv := ctv) J1
    exact k _ c' _ _ J2 ⟨fun b o e _ => upd_keep nF b o e, fun b e => upd_no e, hT.ext (upd_keep nF)⟩ nF upd_same (upd_keep nF _ _ hco)
end
/-- the reading of a lambda -/
def tLamE (T : List (Addr × Str)) (mk : Addr → LF) : TE := fun _ H Q => Tabs T H ∧ ∀ f c' H1, ExT T H H1 → H f = none → H1 f = some (FnL f (mk c')) → H1 c' = some (CodeO c' (mk c').qual) → Q (.ref f) H1
theorem pe_lam {X : Cx} {T : List (Addr × Str)} {c P : Addr} {params : Arguments} {body : Expr} {scope : Scope} {pos : Pos} {cl : List (Str × Addr)} (TB : TabB X.base X.mg c P) (hc : X.env.code = .ref c) (hm : (P, X.env.qual ++ "<lambda>") ∈ T) (hu : ∀ p ∈ T, p.1 = P → p.2 = X.env.qual ++ "<lambda>")
    (hcl : X.env.cells = cl) (hn : ndefB X.env.scope scope [] = true) (hd : defaultsOf params X.env = ([], []) := by rfl) : PE X (.Lambda params body scope pos) (tLamE T fun c' => ⟨X.env.qual ++ "<lambda>", params, body, scope, cloFrom cl scope.names [], c'⟩) := by
  refine ⟨fun pins s σ H Q J ⟨hT, k⟩ => ?_⟩
  subst hcl
  refine lam_mk J TB hc hm hu hT hd (fun y hy e => (ndef_free hn y hy e).elim (fun z => J.ok.has _ (.inl z)) fun z => J.ok.has _ (.inr z)) fun f c' H1 s' J1 eT h0 h1 h2 => ⟨.ref f, H1, J1, rfl, k f c' H1 eT h0 h1 h2⟩
/-! ### the body -/
section
variable {P : Program} {w : World} {K : PySem.W.Frag} {mg : Str → Option Value} {base : Heap} {N ps fr : List Str} {F : LF} {f : Addr} {k j : Nat} {sp : List (Option V) → Sp}
/-- what a lambda promises: at a call, from what its cells hold -/
structure LOk (P : Program) (w : World) (K : PySem.W.Frag) (mg : Str → Option Value) (base : Heap) (k : Nat) (f : Addr) (F : LF) (ps fr : List Str) (sp : List (Option V) → Sp) : Prop where
  len : ∀ ws vs H Q E, sp ws vs H Q E → vs.length = ps.length
  run : ∀ (A : Around) (outer : List Env) (s : Shared) (H : Hp) (us : List Value) (vs : List V) (ws : List (Option V)) (Q : VK), Room k A → Env0 P w K mg base A outer s H → H f = some (FnL f F) → H F.c = some (CodeO F.c F.qual) →
    CellsAt F.cl fr ws s.heap H → Vals vs us → sp ws vs H Q E0 → codeAny (model P w) A (.call (.ref f) ⟨us, []⟩) (CR (L2.CX P w) outer P w H s Q E0) s
theorem lok_of (S : NScope N ps fr F.scope) (hb : ∀ (pm ctv : Value) (us : List Value), us.length = ps.length → bindArgs (PySem.W.kla_fn "<lambda>" F.qual F.params F.body F.scope F.cl pm (.ref F.c) ctv) ⟨us, []⟩ = pure (ps.zip us)) (len : ∀ ws vs H Q E, sp ws vs H Q E → vs.length = ps.length)
    (hbody : ∀ (A : Around) (outer : List Env) (s : Shared) (H : Hp) (vs : List V) (ws : List (Option V)) (Q : VK), Room k (A.deeper (envF F.nf f s.heap.objs.size)) → ws.length = fr.length → sp ws vs H Q E0 →
      ∃ t : TE, PE (ncx (L2.CX P w) P w K mg base N F.nf f A outer s H E0) F.body t ∧ t (startF N vs ws) H Q) : LOk P w K mg base (k + 1) f F ps fr sp := by
  refine ⟨len, fun A outer s H us vs ws Q hr e0 hf hc C r hsp => ?_⟩
  have hl := len _ _ _ _ _ hsp
  have lim : s.heap.NoLimit := e0.mod.nolimit.keeps fun b o e => (e0.bs b o e).1
  obtain ⟨pm, ctv, ho⟩ := fnL_at e0.hok hf
  refine PySem.W.kla_callFunE hr.depth ho rfl S.co S.gen rfl (codeO_at e0.hok hc) ?_
  rw [hb pm ctv us (by rw [← r.length]; exact hl)]
  refine wpAny_pure (wpAny_newFunctionEnv S.nocell (fun ⟨n, _⟩ hy => S.par n (List.of_mem_zip hy).1) (fun h₁ hns hsb => ⟨lim.fresh _ hsb, ?_⟩) S.kind)
  show codeAny _ _ (.expr F.body (envF F.nf f s.heap.objs.size)) _ _
  have kp : ∀ b o, s.heap.get? b = some o → h₁.get? b = some o := fun b o e => hsb.extBut b o (Nat.ne_of_lt (Heap.lt_size e)) (Heap.get?_push_of_some _ e)
  obtain ⟨t, ht, hq⟩ := hbody A outer s H vs ws Q (hr.deeper _) C.len hsp
  have J : Inv (ncx (L2.CX P w) P w K mg base N F.nf f A outer s H E0) [] (startF N vs ws) H { s with heap := h₁, toks := s.toks + (ps.zip us).length } := inv_startN (F := F.nf) S hr.hd e0 hl r C hns kp
  refine PySem.W.kla_codeExpr (wpAny_mono (ht.run [] _ (startF N vs ws) H _ J hq) (fun u s' hs => ?_) fun e s' hs => hs)
  obtain ⟨v, H', J', rv, q⟩ := hs
  exact ⟨v, H', J'.os, J'.bare, J'.base, J'.hok, rv, q⟩
end
/-! ### cells that are told by the abstract heap: lent to a callee, or left behind by a def that is gone -/
/-- an object that is written there, and holds the value -/
def CellT (H : Hp) (c : Addr) (v : V) : Prop := ∃ o u, H c = some (.frz o (.own 0)) ∧ o.data = .cell (some u) ∧ L2.RelV v u
structure Caught (H : Hp) (cl : List (Str × Addr)) (fr : List Str) (ws : List (Option V)) : Prop where
  len : ws.length = fr.length
  all : ∀ y c, cl.lookup y = some c → ∃ o u, H c = some (.frz o (.own 0)) ∧ o.data = .cell u
  inj : ∀ x y c, cl.lookup x = some c → cl.lookup y = some c → x = y
  has : ∀ (i : Nat) (y : Str), fr[i]? = some y → ∃ c, cl.lookup y = some c ∧ ∀ v, ws[i]? = some (some v) → CellT H c v
open Classical in
/-- the heap without these cells; with them again -/
noncomputable def hidC (cl : List (Str × Addr)) (H : Hp) : Hp := fun b => if ∃ y, cl.lookup y = some b then none else H b
open Classical in
noncomputable def shwC (cl : List (Str × Addr)) (H H' : Hp) : Hp := fun b => if ∃ y, cl.lookup y = some b then H b else H' b
theorem hidC_at {cl : List (Str × Addr)} {H : Hp} {b : Addr} (h : ∃ y, cl.lookup y = some b) : hidC cl H b = none := by unfold hidC; rw [if_pos h]
theorem hidC_ne {cl : List (Str × Addr)} {H : Hp} {b : Addr} (h : ¬ ∃ y, cl.lookup y = some b) : hidC cl H b = H b := by unfold hidC; rw [if_neg h]
theorem shwC_at {cl : List (Str × Addr)} {H H' : Hp} {b : Addr} (h : ∃ y, cl.lookup y = some b) : shwC cl H H' b = H b := by unfold shwC; rw [if_pos h]
theorem shwC_ne {cl : List (Str × Addr)} {H H' : Hp} {b : Addr} (h : ¬ ∃ y, cl.lookup y = some b) : shwC cl H H' b = H' b := by unfold shwC; rw [if_neg h]
/-- the cells are written objects there -/
def Cells (cl : List (Str × Addr)) (H : Hp) : Prop := ∀ y c, cl.lookup y = some c → ∃ o u, H c = some (.frz o (.own 0)) ∧ o.data = .cell u
section
variable {P : Program} {w : World} {cl : List (Str × Addr)} {H H' H2 : Hp} {h h' : Heap} {fs : List Addr}
theorem Cells.no (C : Cells cl H) {b : Addr} {o : HO} (e : H b = some o) (n : ∀ ob u, o ≠ .frz ob u) : ¬ ∃ y, cl.lookup y = some b := fun ⟨y, hy⟩ => by
  obtain ⟨ob, u, q, _⟩ := C y b hy
  rw [e] at q
  exact n _ _ (Option.some.inj q)
theorem HOk.hid (ok : HOk P w H h) (C : Cells cl H) : HOk P w (hidC cl H) h := fun b o e => by
  have nb : ¬ ∃ y, cl.lookup y = some b := fun z => by rw [hidC_at z] at e; cases e
  rw [hidC_ne nb] at e
  exact (ok b o e).stay (fun _ _ _ q => q) (fun c q => (hidC_ne (C.no q fun _ _ z => by cases z)).trans q) fun c xs q => (hidC_ne (C.no q fun _ _ z => by cases z)).trans q
/-- back: the cells that were hidden are as they were -/
theorem un_shw (ok : HOk P w H h) (C : Cells cl H) (nf : ∀ b ∈ fs, H b = none) (u : Un fs [] (hidC cl H) H2 h h') (ok2 : HOk P w H2 h') : Un fs [] H (shwC cl H H2) h h' ∧ HOk P w (shwC cl H H2) h' := by
  have kc : ∀ y c, cl.lookup y = some c → ∃ o u, H c = some (.frz o (.own 0)) ∧ h.get? c = some o ∧ h'.get? c = some o ∧ H2 c = none := fun y c e => by
    obtain ⟨o, d, q, _⟩ := C y c e
    have ho : h.get? c = some o := (ok c _ q).1
    have n : hidC cl H c = none := hidC_at ⟨y, e⟩
    refine ⟨o, d, q, ho, u.keep c o ho n (fun z => ?_) (by simp), u.free c o ho n (by simp)⟩
    rw [nf c z] at q
    cases q
  refine ⟨⟨fun b o e n hb hx => ?_, fun b o e n hb hx => ?_, fun b o e n hx => ?_, fun b o e hx => u.there b o e hx, fun b xs e => ?_, fun b o x e => ?_, fun b ps e => ?_⟩, fun b o e => ?_⟩
  · have nb : ¬ ∃ y, cl.lookup y = some b := fun ⟨y, z⟩ => by obtain ⟨_, _, q, _⟩ := kc y b z; rw [n] at q; cases q
    exact u.keep b o e ((hidC_ne nb).trans n) hb hx
  · have nb : ¬ ∃ y, cl.lookup y = some b := fun ⟨y, z⟩ => by obtain ⟨_, _, q, _⟩ := kc y b z; rw [n] at q; cases q
    exact u.slot b o e ((hidC_ne nb).trans n) hb hx
  · have nb : ¬ ∃ y, cl.lookup y = some b := fun ⟨y, z⟩ => by obtain ⟨_, _, q, _⟩ := kc y b z; rw [n] at q; cases q
    exact (shwC_ne nb).trans (u.free b o e ((hidC_ne nb).trans n) hx)
  · have nb := C.no e fun _ _ z => by cases z
    exact (shwC_ne nb).trans (u.tups b xs ((hidC_ne nb).trans e))
  · by_cases nb : ∃ y, cl.lookup y = some b
    · exact (shwC_at nb).trans e
    · exact (shwC_ne nb).trans (u.frzs b o x ((hidC_ne nb).trans e))
  · have nb := C.no e fun _ _ z => by cases z
    obtain ⟨m, q⟩ := u.tbls b ps ((hidC_ne nb).trans e)
    exact ⟨m, (shwC_ne nb).trans q⟩
  · by_cases nb : ∃ y, cl.lookup y = some b
    · rw [shwC_at nb] at e
      obtain ⟨y, hy⟩ := nb
      obtain ⟨o', d, q, _, h2, _⟩ := kc y b hy
      rw [q] at e
      cases e
      exact ⟨h2, o', h2⟩
    · rw [shwC_ne nb] at e
      have nn : ∀ c x, H2 c = some x → ¬ ∃ y, cl.lookup y = some c := fun c x q ⟨y, hy⟩ => by
        obtain ⟨_, _, _, _, _, z⟩ := kc y c hy
        rw [z] at q
        cases q
      exact (ok2 b o e).stay (fun _ _ _ q => q) (fun c q => (shwC_ne (nn c _ q)).trans q) fun c xs q => (shwC_ne (nn c _ q)).trans q
theorem env0_hid {K : PySem.W.Frag} {mg : Str → Option Value} {base : Heap} {A : Around} {outer : List Env} {s : Shared} (e : Env0 P w K mg base A outer s H) (C : Cells cl H) : Env0 P w K mg base A outer s (hidC cl H) := by
  have nn : ∀ b, H b = none → hidC cl H b = none := fun b n => by
    by_cases nb : ∃ y, cl.lookup y = some b
    · exact hidC_at nb
    · exact (hidC_ne nb).trans n
  exact ⟨e.frames, e.mod, fun b o q => ⟨(e.bs b o q).1, nn b (e.bs b o q).2⟩, e.bsz, e.funs, fun b hb => nn b (e.frf b hb), HOk.hid e.hok C, e.bare⟩
end
theorem Caught.cells {H : Hp} {cl : List (Str × Addr)} {fr : List Str} {ws : List (Option V)} (C : Caught H cl fr ws) : Cells cl H := C.all
theorem caught_at {P : Program} {w : World} {H : Hp} {h : Heap} {cl : List (Str × Addr)} {fr : List Str} {ws : List (Option V)} (ok : HOk P w H h) (C : Caught H cl fr ws) : CellsAt cl fr ws h (hidC cl H) := by
  refine ⟨C.len, fun y c e => ⟨hidC_at ⟨y, e⟩, ?_⟩, C.inj, fun i y e => ?_⟩
  · obtain ⟨o, u, q, d⟩ := C.all y c e
    exact ⟨u, o, (ok c _ q).1, d⟩
  · obtain ⟨c, hc, k⟩ := C.has i y e
    refine ⟨c, hc, fun v hv => ?_⟩
    obtain ⟨o, u, q, d, r⟩ := k v hv
    exact ⟨u, r, o, (ok c _ q).1, d⟩
/-! ### what may be called: f is a lambda that promises sp -/
/-- kept between two heaps: lambdas, code objects, written cells -/
def Fix : HO → Prop
  | .ext _ => True
  | .frz _ _ => True
  | _ => False
def Kp (H H' : Hp) : Prop := ∀ a o, H a = some o → Fix o → H' a = some o
theorem Kp.refl (H : Hp) : Kp H H := fun _ _ e _ => e
theorem Kp.trans {H H1 H2 : Hp} (a : Kp H H1) (b : Kp H1 H2) : Kp H H2 := fun x o e f => b x o (a x o e f) f
theorem Kp.of {H H' : Hp} (e : Ex H H') : Kp H H' := fun a o q _ => e a o q
theorem Kp.extN {H H' : Hp} (e : ExtN H H') : Kp H H' := fun a o q f => e a o q fun ps z => by rw [z] at f; exact f
section
variable (P : Program) (w : World) (K : PySem.W.Frag) (mg : Str → Option Value) (base : Heap) (k : Nat)
def CloAt (H : Hp) (f : Addr) (sp : Sp) : Prop := ∃ (F : LF) (ps fr : List Str) (ws : List (Option V)) (sp0 : List (Option V) → Sp), LOk P w K mg base k f F ps fr sp0 ∧ H f = some (FnL f F) ∧ H F.c = some (CodeO F.c F.qual) ∧ Caught H F.cl fr ws ∧
  ∀ vs H' Q, Kp H H' → sp vs H' Q E0 → sp0 ws vs (hidC F.cl H') (fun v H2 => (∀ y c, F.cl.lookup y = some c → H2 c = none) → Q v (shwC F.cl H' H2)) E0
end
section
variable {P : Program} {w : World} {K : PySem.W.Frag} {mg : Str → Option Value} {base : Heap} {k j : Nat} {H H' : Hp} {f : Addr} {sp : Sp}
theorem Caught.kp {cl : List (Str × Addr)} {fr : List Str} {ws : List (Option V)} (e : Kp H H') (C : Caught H cl fr ws) : Caught H' cl fr ws := by
  refine ⟨C.len, fun y c q => ?_, C.inj, fun i y q => ?_⟩
  · obtain ⟨o, u, a, b⟩ := C.all y c q
    exact ⟨o, u, e _ _ a True.intro, b⟩
  · obtain ⟨c, a, b⟩ := C.has i y q
    refine ⟨c, a, fun v hv => ?_⟩
    obtain ⟨o, u, z, r⟩ := b v hv
    exact ⟨o, u, e _ _ z True.intro, r⟩
theorem CloAt.kp (e : Kp H H') (c : CloAt P w K mg base k H f sp) : CloAt P w K mg base k H' f sp := by
  obtain ⟨F, ps, fr, ws, sp0, a, b, d, C, i⟩ := c
  exact ⟨F, ps, fr, ws, sp0, a, e _ _ b True.intro, e _ _ d True.intro, C.kp e, fun vs H2 Q e2 => i vs H2 Q (e.trans e2)⟩
theorem CloAt.mono (h : j ≤ k) (c : CloAt P w K mg base j H f sp) : CloAt P w K mg base k H f sp := by
  obtain ⟨F, ps, fr, ws, sp0, a, r⟩ := c
  exact ⟨F, ps, fr, ws, sp0, ⟨a.len, fun A outer s H us vs ws Q hr => a.run A outer s H us vs ws Q (hr.mono h)⟩, r⟩
theorem CloAt.fnAt {h : Heap} (ok : HOk P w H h) (c : CloAt P w K mg base k H f sp) : PySem.W.FnAt f h := by
  obtain ⟨F, _, _, _, _, _, b, _⟩ := c
  obtain ⟨pm, ctv, e⟩ := fnL_at ok b
  exact ⟨_, none, _, _, e⟩
theorem run_clo {X : Cx} {pins : List (Addr × Obj)} {σ : L2.St} {H : Hp} {s : Shared} {Q : VK} {us : List Value} {vs : List V} (c : CloAt X.prog X.w X.K X.mg X.base k H f sp) (hr : Room k X.A) (J : Inv X pins σ H s) (r : Vals vs us) (q : sp vs H Q E0) :
    wpAny (model X.prog X.w) X.A (call (.ref f) us) (EP X pins σ Q) X.xe s := by
  obtain ⟨F, ps, fr, ws, sp0, L, hf, hc, C, i⟩ := c
  have e1 := env0_hid J.env0 C.cells
  have nf : ¬ ∃ y, F.cl.lookup y = some f := C.cells.no hf fun _ _ z => fnL_frz _ _ z
  have nc : ¬ ∃ y, F.cl.lookup y = some F.c := C.cells.no hc fun _ _ z => codeO_frz _ _ z
  refine wpAny_call (codeAny_mono (L.run X.A X.stack s _ us vs ws _ hr e1 ((hidC_ne nf).trans hf) ((hidC_ne nc).trans hc) (caught_at J.hok C) r (i vs H Q (Kp.refl H) q)) fun rr s' hq => ?_)
  cases rr with
  | error e =>
    obtain ⟨_, _, _, _, _, _, _, _, _, _, _, _, z⟩ := hq
    exact z.elim
  | ok fl =>
    cases fl with
    | ret u =>
      obtain ⟨v, H2, os, bare, un, ok2, rv, q2⟩ := hq
      obtain ⟨un', ok'⟩ := un_shw J.hok C.cells J.stkFree un ok2
      refine J.after ⟨v, _, os, bare, un', ok', rv, q2 fun y c hy => ?_⟩
      obtain ⟨o, d, q3, _⟩ := C.all y c hy
      exact un.free c o (J.hok c _ q3).1 (hidC_at ⟨y, hy⟩) (by simp)
    | next => exact False.elim hq
    | brk => exact False.elim hq
    | cont => exact False.elim hq
end
/-- f(..), f a name -/
def tCallC (CA : Hp → Addr → Sp → Prop) (i : Nat) (t : TA) : TE := fun σ H Q => ∃ f sp, σ[i]? = some (some (.ref f)) ∧ CA H f sp ∧ t σ H fun vs H1 => CA H1 f sp ∧ sp vs H1 Q E0
/-- o.f(..), f an attribute of the instance -/
def tCallF (K : PySem.W.Frag) (CA : Hp → Addr → Sp → Prop) (x : Str) (ta : TE) (t : TA) : TE := fun σ H Q => ta σ H fun v H1 => ∃ a C dx fs f sp, v = .ref a ∧ H1 a = some (.ins C dx fs) ∧ Cls K C ∧ NoAttr K C x ∧ fs.lookup x = some (.ref f) ∧ CA H1 f sp ∧ t σ H1 fun vs H2 => CA H2 f sp ∧ sp vs H2 Q E0
section
variable {X : Cx} {k i : Nat} {x : Str} {p pos apos : Pos} {e o : Expr} {es : List Expr} {t : TA} {ta : TE} {pl : Sem Bool}
theorem pe_callC (hr : Room k X.A) (hN : X.N[i]? = some x) (hv : Vis X.env.scope x) (ha : PA X (e :: es) t) (hd : (x == ("__debug__" : Str)) = false := by decide) (hcd : (x == ("__classdict__" : Str)) = false := by decide)
    (he : starEach (e :: es) X.env = (false, eval e X.env) :: starEach es X.env := by rfl) (hpl : (backTo pos (starEach es X.env)).any (·.1) = false := by rfl) :
    PE X (.Call (.Name x p) (e :: es) [] pos) (tCallC (CloAt X.prog X.w X.K X.mg X.base k) i t) := by
  refine ⟨fun pins s σ H Q J h => ?_⟩
  obtain ⟨f, sp, hs, c, ht⟩ := h
  refine wpAny_Call_Name_kw (thn ((pe_var (pos := p) hN hv hd hcd).run pins s σ H (fun v H1 => v = .ref f ∧ H1 = H) J ⟨.ref f, hs, rfl, rfl⟩) fun u s1 ⟨v, H1, J1, r1, q1, q2⟩ => ?_)
  subst q1 q2
  obtain rfl : u = Value.ref f := r1
  exact PySem.W.callWith_F (first := []) (c.fnAt J1.hok) (thn (ha.run pos pins s1 σ _ _ J1 ht) fun us s2 ⟨vs, H2, J2, r, c2, q⟩ => ⟨c2.fnAt J2.hok, run_clo c2 hr J2 r q⟩) he hpl
theorem pe_callF (hr : Room k X.A) (ho : PE X o ta) (ha : PA X (e :: es) t) (he : starEach (e :: es) X.env = (false, eval e X.env) :: starEach es X.env := by rfl) (hpl : (backTo pos (starEach es X.env)).any (·.1) = false := by rfl)
    (ht : eval (.Call (.Attribute o x apos) (e :: es) [] pos) X.env = (do
      let ov ← eval o X.env
      standAt apos.atName
      let (f, first) ← holding [ov] (getMethod ov x pl)
      callWith pos f first (backTo pos (starEach (e :: es) X.env)) (backToKw pos (keywordEach [] X.env))) := by rfl) :
    PE X (.Call (.Attribute o x apos) (e :: es) [] pos) (tCallF X.K (CloAt X.prog X.w X.K X.mg X.base k) x ta t) := by
  refine ⟨fun pins s σ H Q J h => ?_⟩
  refine PySem.W.methodCall_KW (pl := pl) (thn (ho.run pins s σ H _ J h) fun u s1 ⟨v, H1, J1, rx, a, C, dx, fs, f, sp, ev, ea, c, n, l, ca, q⟩ => ?_) ht
  subst ev
  obtain rfl : u = Value.ref a := rx
  obtain ⟨mA, O, _⟩ := ins_get J1.hok ea
  obtain ⟨od, Il, _⟩ := O.look
  have g := PySem.W.plainGet_of (c.get x)
  refine PySem.W.method_usual J1.kIn Il g.1 g.2 (show PySem.W.findIn X.K (.ref C) x = some none from n) rfl (getattr_ok J1 ea c n l fun u2 s2 J2 r2 => ?_)
  obtain rfl : u2 = Value.ref f := r2
  exact PySem.W.callWith_F (first := []) (ca.fnAt J2.hok) (thn (ha.run pos pins s2 σ _ _ J2 q) fun us s3 ⟨vs, H2, J3, r, c2, q⟩ => ⟨c2.fnAt J3.hok, run_clo c2 hr J3 r q⟩) he hpl
end
end Z

set_option Elab.async false
set_option linter.all false
set_option autoImplicit false
set_option maxRecDepth 100000
set_option maxHeartbeats 4000000
/-! ev: what an expression comes to, by its form -/
local macro_rules | `(tactic| k_places) => `(tactic| (repeat' (first
  | (with_reducible exact ev_c)
  | (with_reducible exact ev_var rfl)
  | (with_reducible refine ev_chainLL ?_ ?_ ?_)
  | (with_reducible refine ev_chainLt ?_ ?_ ?_)
  | (with_reducible refine ev_op ?_ ?_ ?_)
  | (with_reducible refine ev_neg ?_)
  | (with_reducible refine et_test ?_)
  | (with_reducible refine et_B ?_)
  | (with_reducible refine et_not ?_)
  | (with_reducible refine et_and ?_ (fun _ => ?_))
  | (with_reducible refine et_or ?_ (fun _ => ?_))
  | (with_reducible refine ev_andV ?_ (fun _ => ?_))
  | (with_reducible refine ev_orV ?_ (fun _ => ?_))
  | (with_reducible refine ev_notV ?_)
  | (with_reducible exact rv_addI)
  | (with_reducible exact rv_subI)
  | (with_reducible exact rv_lt)
  | (with_reducible exact rv_le)
  | (with_reducible exact rv_gt)
  | (with_reducible exact rv_ge)
  | (with_reducible exact rv_isB)
  | (with_reducible exact rv_isnB)
  | (with_reducible exact rv_isN)
  | (with_reducible exact rv_isnN)
  | (with_reducible exact rv_eqS rfl)
  | (with_reducible exact rv_neS rfl)
  | (with_reducible exact rv_inStr)
  | (with_reducible exact rv_ninStr)
  | (with_reducible exact rv_mod (by first | decide | omega | assumption))
  | (with_reducible exact rv_div (by first | decide | omega | assumption))
  | (with_reducible exact rv_pow (by decide))
  | (with_reducible refine ed_i ?_; done)
  | (with_reducible exact ea_nil)
  | (with_reducible refine ea_cons ?_ ?_)
  | (with_reducible exact eds_nil)
  | (with_reducible refine eds_cons ?_ ?_)
  | (with_reducible exact ed_dnew)
  | (with_reducible refine ed_lst ?_ (by simp only [List.length_cons, List.length_nil]; omega))
  | (with_reducible refine ed_tup ?_ (by simp only [List.length_cons, List.length_nil]; omega)))))
namespace Z
open PySem PySem.Spec PyProof.Rows L2 Evl NdefX LamX
/-! ### a def lends its cells to a callee -/
/-- N: the def's names, ns: those that stand in cells, cl: the cells -/
structure Lent (N ns : List Str) (cl : List (Str × Addr)) (σ : L2.St) (H H' : Hp) : Prop where
  out : ∀ b, (¬ ∃ y, cl.lookup y = some b) → H' b = H b
  was : ∀ y c, cl.lookup y = some c → H c = none
  inj : ∀ x y c, cl.lookup x = some c → cl.lookup y = some c → x = y
  all : Cells cl H'
  at_ : ∀ y ∈ ns, ∃ c, cl.lookup y = some c
  has : ∀ (i : Nat) (y : Str) (v : V) (c : Addr), N[i]? = some y → σ[i]? = some (some v) → y ∈ ns → cl.lookup y = some c → CellT H' c v
section
variable {N ns : List Str} {cl : List (Str × Addr)} {σ : L2.St} {H H' H2 : Hp}
theorem Lent.ex (L : Lent N ns cl σ H H') : Ex H H' := fun a o e => by
  rw [L.out a fun ⟨y, hy⟩ => by rw [L.was y a hy] at e; cases e]
  exact e
theorem Lent.free (L : Lent N ns cl σ H H') {b : Addr} (e : H' b = none) : H b = none := by
  rw [← L.out b fun ⟨y, hy⟩ => by obtain ⟨_, _, q, _⟩ := L.all y b hy; rw [e] at q; cases q]
  exact e
/-- what stood ahead of the loan and stands behind the call stands when the cells are hidden again -/
theorem Lent.hid (L : Lent N ns cl σ H H') {a : Addr} {o : HO} (h0 : (H a).isSome) (e : H2 a = some o) : hidC cl H2 a = some o := by
  rw [hidC_ne fun ⟨y, hy⟩ => by rw [L.was y a hy] at h0; cases h0]
  exact e
theorem Lent.caught {names : List (Str × NameKind)} {fr : List Str} {js : List Nat} (L : Lent N ns cl σ H H') (hf : ∀ y ∈ names, y.2 = .free → y.1 ∈ ns) (hfr : ∀ y ∈ fr, (y, NameKind.free) ∈ names) (hjs : js.map (fun j => N[j]?) = fr.map some) :
    Caught H' (cloFrom cl names []) fr (js.map (slotAt σ)) := by
  have hfree : ∀ y ∈ names, y.2 = .free → ∃ c, cl.lookup y.1 = some c := fun y hy e => L.at_ _ (hf y hy e)
  refine ⟨?_, fun y c e => L.all y c (clo_cm hfree e), fun x y c e1 e2 => L.inj x y c (clo_cm hfree e1) (clo_cm hfree e2), fun i y e => ?_⟩
  · have q := congrArg List.length hjs
    simpa using q
  · have hy := List.mem_of_getElem? e
    obtain ⟨c, hc⟩ := hfree _ (hfr y hy) rfl
    refine ⟨c, clo_has hfree (hfr y hy) hc, fun v hv => ?_⟩
    have e2 : (js.map fun j => N[j]?)[i]? = some (some y) := by rw [hjs, List.getElem?_map, e]; rfl
    rw [List.getElem?_map] at e2 hv
    cases ej : js[i]? with
    | none => rw [ej] at e2; cases e2
    | some j =>
      rw [ej] at e2 hv
      exact L.has j y v c (Option.some.inj e2) (slotAt_some (Option.some.inj hv)) (hf _ (hfr y hy) rfl) hc
end
section
variable {X : Cx} {pins : List (Addr × Obj)} {σ : L2.St} {H : Hp} {s : Shared} {ns : List Str}
def cellB (sc : Scope) (ns : List Str) : Bool := ns.all fun y => decide (sc.names.lookup y = some .cell)
open Classical in
theorem lend (J : Inv X pins σ H s) (hn : cellB X.env.scope ns = true) : ∃ H', Lent X.N ns X.env.cells σ H H' ∧ HOk X.prog X.w H' s.heap := by
  have kd : ∀ y ∈ ns, X.env.scope.names.lookup y = some .cell := fun y hy => by simpa using List.all_eq_true.mp hn y hy
  refine ⟨fun b => if ∃ y, X.env.cells.lookup y = some b then (s.heap.get? b).map fun o => .frz o (.own 0) else H b, ?_⟩
  have lay : ∀ b, (∃ y, X.env.cells.lookup y = some b) → ∃ o u, s.heap.get? b = some o ∧ o.data = .cell u ∧ (if ∃ y, X.env.cells.lookup y = some b then (s.heap.get? b).map fun o => HO.frz o (.own 0) else H b) = some (.frz o (.own 0)) := fun b z => by
    obtain ⟨y, hy⟩ := z
    obtain ⟨v, o, ho, hd⟩ := J.cell y b hy
    exact ⟨o, v, ho, hd, by rw [if_pos ⟨y, hy⟩, ho]; rfl⟩
  refine ⟨⟨fun b nb => if_neg nb, J.freeC, J.ok.inj, fun y c e => ?_, fun y hy => J.ok.has y (.inl (kd y hy)), fun i y v c hi hv hy hc => ?_⟩, fun b o e => ?_⟩
  · obtain ⟨o, u, _, hd, q⟩ := lay c ⟨y, e⟩
    exact ⟨o, u, q, hd⟩
  · obtain ⟨m, _, hl⟩ := J.loc
    obtain ⟨u, r, l⟩ := hl i y v hi hv (.inr (.inl (kd y hy)))
    obtain ⟨o, u', ho, hd, q⟩ := lay c ⟨y, hc⟩
    rcases l with ⟨z, _⟩ | ⟨_, c2, hc2, o2, ho2, hd2⟩
    · rw [show X.env.kindOf y = some .cell from kd y hy] at z
      cases z
    · rw [hc] at hc2
      cases hc2
      rw [ho] at ho2
      cases ho2
      exact ⟨o, u, q, hd2, r⟩
  · have nn : ∀ c x, H c = some x → ¬ ∃ y, X.env.cells.lookup y = some c := fun c x q ⟨y, hy⟩ => by rw [J.freeC y c hy] at q; cases q
    by_cases nb : ∃ y, X.env.cells.lookup y = some b
    · obtain ⟨ob, _, ho, _, q⟩ := lay b nb
      have e := q.symm.trans e
      cases e
      exact ⟨ho, ob, ho⟩
    · have e := (if_neg nb).symm.trans e
      exact (J.hok b o e).stay (fun _ _ _ q => q) (fun c q => (if_neg (nn c _ q)).trans q) fun c xs q => (if_neg (nn c _ q)).trans q
theorem lend_env (J : Inv X pins σ H s) {H' : Hp} (L : Lent X.N ns X.env.cells σ H H') (ok : HOk X.prog X.w H' s.heap) (hfn : ∀ x, X.fn x = true) : Env0 X.prog X.w X.K X.mg X.base X.A X.stack s H' := by
  have e := J.env0
  have up : ∀ b y, X.env.cells.lookup y = some b → X.s_0.heap.objs.size ≤ b := fun b y z => J.ok.cab y b (hfn y) z
  refine ⟨e.frames, e.mod, fun b o q => ⟨(e.bs b o q).1, ?_⟩, e.bsz, e.funs, fun b hb => ?_, ok, e.bare⟩
  · rw [L.out b fun ⟨y, hy⟩ => absurd (Nat.lt_of_lt_of_le (Heap.lt_size q) (Nat.le_trans J.ok.bsz (up b y hy))) (Nat.lt_irrefl _)]
    exact (e.bs b o q).2
  · rw [L.out b fun ⟨y, hy⟩ => ?_]
    · exact e.frf b hb
    · rcases List.mem_cons.mp (J.stkSub b hb) with z | z
      · exact J.cne y b hy z
      · obtain ⟨_, o, ho, _⟩ := J.ok.funs.mem z
        exact absurd (Nat.lt_of_lt_of_le (Heap.lt_size ho) (up b y hy)) (Nat.lt_irrefl _)
/-- the cells are the def's own again -/
theorem lend_back (J : Inv X pins σ H s) {H' H4 : Hp} {h' : Heap} {fs : List Addr} (L : Lent X.N ns X.env.cells σ H H') (ok : HOk X.prog X.w H' s.heap) (nf : ∀ b ∈ fs, H' b = none) (u : Un fs [] H' H4 s.heap h') (ok4 : HOk X.prog X.w H4 h') :
    Un fs [] H (hidC X.env.cells H4) s.heap h' ∧ HOk X.prog X.w (hidC X.env.cells H4) h' := by
  have C4 : Cells X.env.cells H4 := fun y c e => by
    obtain ⟨o, d, q, hd⟩ := L.all y c e
    exact ⟨o, d, u.frzs c o _ q, hd⟩
  have nt : ∀ b, H' b = none → ¬ ∃ y, X.env.cells.lookup y = some b := fun b n ⟨y, hy⟩ => by obtain ⟨_, _, q, _⟩ := L.all y b hy; rw [n] at q; cases q
  have nn : ∀ b x, H b = some x → ¬ ∃ y, X.env.cells.lookup y = some b := fun b x q ⟨y, hy⟩ => by rw [L.was y b hy] at q; cases q
  have cl : ∀ b, (∃ y, X.env.cells.lookup y = some b) → ∃ o, s.heap.get? b = some o ∧ h'.get? b = some o := fun b ⟨y, hy⟩ => by
    obtain ⟨o, d, q, _⟩ := L.all y b hy
    exact ⟨o, (ok b _ q).1, (ok4 b _ (u.frzs b o _ q)).1⟩
  refine ⟨⟨fun b o e n hb hx => ?_, fun b o e n hb hx => ?_, fun b o e n hx => ?_, u.there, fun b xs e => ?_, fun b o x e => ?_, fun b ps e => ?_⟩, HOk.hid ok4 C4⟩
  · by_cases nb : ∃ y, X.env.cells.lookup y = some b
    · obtain ⟨o', h1, h2⟩ := cl b nb
      rw [e] at h1
      cases h1
      exact h2
    · exact u.keep b o e ((L.out b nb).trans n) hb hx
  · exact u.slot b o e (nf b hb) hb hx
  · by_cases nb : ∃ y, X.env.cells.lookup y = some b
    · exact hidC_at nb
    · exact (hidC_ne nb).trans (u.free b o e ((L.out b nb).trans n) hx)
  · exact (hidC_ne (nn b _ e)).trans (u.tups b xs ((L.out b (nn b _ e)).trans e))
  · exact (hidC_ne (nn b _ e)).trans (u.frzs b o x ((L.out b (nn b _ e)).trans e))
  · obtain ⟨m, q⟩ := u.tbls b ps ((L.out b (nn b _ e)).trans e)
    exact ⟨m, (hidC_ne (nn b _ e)).trans q⟩
end
/-- a call to which the cells are lent: a def, a method -/
def tCallL (N ns : List Str) (cl : List (Str × Addr)) (sp : Sp) (t : TA) : TE := fun σ H Q => t σ H fun vs H1 => ∀ H2, Lent N ns cl σ H1 H2 → sp vs H2 (fun v H3 => Q v (hidC cl H3)) E0
def tMetL (C : Addr) (m : Str) (N ns : List Str) (cl : List (Str × Addr)) (sp : Sp) (ta : TE) (t : TA) : TE := fun σ H Q => ta σ H fun x H1 => ∃ a dx fs, x = .ref a ∧ H1 a = some (.ins C dx fs) ∧ fs.lookup m = none ∧
  t σ H1 fun vs H2 => ∀ H3, Lent N ns cl σ H2 H3 → sp (x :: vs) H3 (fun v H4 => Q v (hidC cl H4)) E0
section
variable {X : Cx} {k : Nat} {f C : Addr} {ps ns N : List Str} {sp : Sp} {x m : Str} {p pos apos : Pos} {e o : Expr} {es : List Expr} {t : TA} {ta : TE} {pl : Sem Bool} {cl : List (Str × Addr)}
theorem run_lend {pins : List (Addr × Obj)} {σ : L2.St} {H : Hp} {s : Shared} {Q : VK} {us : List Value} {vs : List V} {fd : FuncData} (F : FnOk X.prog X.w X.K X.mg X.base (L2.CX X.prog X.w) k f fd ps sp) (b : Binds X.K fd ps []) (hr : Room k X.A) (hfn : ∀ x, X.fn x = true) (hn : cellB X.env.scope ns = true)
    (J : Inv X pins σ H s) (r : Vals vs us) (h : ∀ H2, Lent X.N ns X.env.cells σ H H2 → sp vs H2 (fun v H3 => Q v (hidC X.env.cells H3)) E0) : wpAny (model X.prog X.w) X.A (call (.ref f) us) (EP X pins σ Q) X.xe s := by
  obtain ⟨H', L, ok⟩ := lend J hn
  have q := h H' L
  have e0 := lend_env J L ok hfn
  have hl : (us ++ []).length = ps.length := by rw [List.append_nil, ← r.length]; exact F.len _ _ _ _ q
  have bb := b s us J.kIn hl
  rw [List.append_nil] at bb
  refine wpAny_call (codeAny_mono (F.run X.A X.stack s H' ⟨us, []⟩ us vs _ E0 hr e0 bb r q) fun rr s' hq => ?_)
  cases rr with
  | error e =>
    obtain ⟨_, _, _, _, _, _, _, _, _, _, _, _, z⟩ := hq
    exact z.elim
  | ok fl =>
    cases fl with
    | ret u =>
      obtain ⟨v, H4, os, bare, un, ok4, rv, q4⟩ := hq
      obtain ⟨un2, ok2⟩ := lend_back J L ok e0.frf un ok4
      exact J.after ⟨v, _, os, bare, un2, ok2, rv, q4⟩
    | next => exact False.elim hq
    | brk => exact False.elim hq
    | cont => exact False.elim hq
theorem pe_calL (C : Cal X.prog X.w X.K X.mg X.base k x f ps sp) (hr : Room k X.A) (hN : X.N = N) (hcl : X.env.cells = cl) (hn : cellB X.env.scope ns = true) (hfn : ∀ x, X.fn x = true) (ha : PA X (e :: es) t) (hg : Gl X x := by rfl) (hdb : (x == ("__debug__" : Str)) = false := by decide)
    (he : starEach (e :: es) X.env = (false, eval e X.env) :: starEach es X.env := by rfl) (hpl : (backTo pos (starEach es X.env)).any (·.1) = false := by rfl) : PE X (.Call (.Name x p) (e :: es) [] pos) (tCallL N ns cl sp t) := by
  obtain ⟨fd, F, b⟩ := C.ex
  subst hN hcl
  refine ⟨fun pins s σ H Q J h => ?_⟩
  refine wpAny_Call_Name_kw (ld_glob J hg C.mg ?_ hdb)
  refine PySem.W.callWith_K (h₀ := X.base) J.ok.mod.kin C.kp (thn (ha.run pos pins s σ H _ J h) fun us s1 ⟨vs, H1, J1, r, q⟩ => ⟨J1.kIn, ?_⟩) he hpl
  exact run_lend F b hr hfn hn J1 r q
theorem pe_metL (M : Met X.prog X.w X.K X.mg X.base k C m f ps sp) (he : PE X o ta) (hr : Room k X.A) (hN : X.N = N) (hcl : X.env.cells = cl) (hn : cellB X.env.scope ns = true) (hfn : ∀ x, X.fn x = true) (ha : PA X (e :: es) t)
    (hst : starEach (e :: es) X.env = (false, eval e X.env) :: starEach es X.env := by rfl) (hpl : (backTo pos (starEach es X.env)).any (·.1) = false := by rfl)
    (ht : eval (.Call (.Attribute o m apos) (e :: es) [] pos) X.env = (do
      let ov ← eval o X.env
      standAt apos.atName
      let (f, first) ← holding [ov] (getMethod ov m pl)
      callWith pos f first (backTo pos (starEach (e :: es) X.env)) (backToKw pos (keywordEach [] X.env))) := by rfl) :
    PE X (.Call (.Attribute o m apos) (e :: es) [] pos) (tMetL C m N ns cl sp ta t) := by
  obtain ⟨fd, F, b⟩ := M.ex
  subst hN hcl
  refine ⟨fun pins s σ H Q J h => ?_⟩
  refine PySem.W.methodCall_KW (pl := pl) (thn (he.run pins s σ H _ J h) fun u s1 ⟨x, H1, J1, rx, a, dx, fs, ex, ea, l, q⟩ => ?_) ht
  subst ex
  obtain rfl : u = Value.ref a := rx
  refine getmeth_ok J1 ea M.cl M.mt l ?_
  refine PySem.W.callWith_K (first := [.ref a]) (h₀ := X.base) J1.ok.mod.kin M.mt.kp (thn (ha.run pos pins s1 σ H1 _ J1 q) fun us s2 ⟨vs, H2, J2, r, q2⟩ => ⟨J2.kIn, ?_⟩) hst hpl
  exact run_lend (us := .ref a :: us) (vs := .ref a :: vs) F b hr hfn hn J2 (.cons rfl r) q2
end
/-! ### a def that leaves its cells behind -/
abbrev RK := L2.St → V → Hp → Prop
/-- a body that ends by return: the slots are told at the end -/
structure PSr (X : Cx) (st : List Stmt) (t : RK → L2.St → Hp → Prop) : Prop where
  run : ∀ (pins : List (Addr × Obj)) (s : Shared) (σ : L2.St) (H : Hp) (R : RK), Inv X pins σ H s → t R σ H →
    wpAny (model X.prog X.w) X.A (execs st X.env) (fun fl s' => ∃ u v σ' H', fl = .ret u ∧ Inv X pins σ' H' s' ∧ L2.RelV v u ∧ R σ' v H') X.xe s
section
variable {X : Cx} {st : Stmt} {rest a : List Stmt} {t1 : TS} {t2 ta : RK → L2.St → Hp → Prop} {te : TE} {tc : TT} {e c : Expr} {pos : Pos}
def tSeqR (t1 : TS) (t2 : RK → L2.St → Hp → Prop) : RK → L2.St → Hp → Prop := fun R σ H => t1 { nx := t2 R, rt := fun _ _ => False } σ H
def tRetR (te : TE) : RK → L2.St → Hp → Prop := fun R σ H => te σ H fun v H' => R σ v H'
def tIfR (tc : TT) (ta t2 : RK → L2.St → Hp → Prop) : RK → L2.St → Hp → Prop := fun R σ H => tc σ H fun b H' => if b = true then ta R σ H' else t2 R σ H'
theorem psr_seq (h1 : PS X st t1) (h2 : PSr X rest t2) : PSr X (st :: rest) (tSeqR t1 t2) := by
  refine ⟨fun pins s σ H R J h => ?_⟩
  refine wpAny_execs_cons (thn (h1.run pins s σ H _ J h) fun f s1 q => ?_)
  cases f with
  | next =>
    obtain ⟨σ', H', J', q⟩ := q
    exact h2.run pins s1 σ' H' R J' q
  | ret v => obtain ⟨_, _, _, _, _, z⟩ := q; exact z.elim
  | brk => obtain ⟨_, _, _, z⟩ := q; exact z.elim
  | cont => obtain ⟨_, _, _, z⟩ := q; exact z.elim
theorem psr_ret (h : PE X e te) : PSr X [.Return (some e) pos] (tRetR te) := by
  refine ⟨fun pins s σ H R J q => ?_⟩
  refine wpAny_execs_cons (wpAny_Return_some (thn (h.run pins s σ H _ J q) fun u s1 ⟨v, H1, J1, r1, q1⟩ => ?_))
  exact ⟨u, v, σ, H1, rfl, J1, r1, q1⟩
theorem psr_if (hc : PT X c tc) (ha : PSr X a ta) (hr : PSr X rest t2) : PSr X (.If c a [] pos :: rest) (tIfR tc ta t2) := by
  refine ⟨fun pins s σ H R J q => ?_⟩
  refine wpAny_execs_cons (wpAny_If (thn (hc.run pins s σ H _ J q) fun d s1 ⟨H1, J1, q1⟩ => ?_))
  cases d with
  | true =>
    refine thn (ha.run pins s1 σ H1 R J1 q1) fun fl s2 ⟨u, v, σ', H', e1, z⟩ => ?_
    subst e1
    exact ⟨u, v, σ', H', rfl, z⟩
  | false => exact wpAny_execs_nil (hr.run pins s1 σ H1 R J1 q1)
end
section
variable {P : Program} {w : World} {K : PySem.W.Frag} {mg : Str → Option Value} {base : Heap} {x name qual : Str} {f c : Addr} {N ps ns : List Str} {k : Nat} {sp : Sp} {st : Stmt} {oc kV doc pm ct : Value} {od an : Option Addr} {osl : Array (Option Value)}
abbrev fdT (x qual : Str) (st : Stmt) (kV doc pm : Value) (an : Option Addr) (c : Addr) (ct : Value) : FuncData := PySem.W.fnOf x qual (defArgs st) (defBody st) (defScope st) .none kV doc pm an (.ref c) ct
abbrev clT (st : Stmt) (s : Shared) : List (Str × Addr) := cellsFrom (s.heap.objs.size + 1) (defScope st).names []
theorem fnT_of (lk : K.lookup f = some ⟨oc, od, .func (fdT x qual st kV doc pm an c ct), osl⟩) (hcd : PySem.W.codeIn K (.ref c) qual = true) (S : FnScope N ps (defScope st)) (len : ∀ vs H Q E, sp vs H Q E → vs.length = ps.length) (t : List (Str × Addr) → XK → TS)
    (d : ∀ (A : Around) (outer : List Env) (s : Shared) (H : Hp) (E : XK), Room k (A.deeper (envOfC qual (defScope st) s.heap.objs.size f (.ref c))) → PSs (cxOf (L2.CX P w) P w K mg base N qual (defScope st) f (.ref c) A outer s H E) (defBody st) (t (clT st s) E))
    (r : ∀ (cl : List (Str × Addr)) (vs : List V) (H : Hp) (Q : VK) (E : XK), sp vs H Q E → t cl E { nx := fun _ H' => Q .non H', rt := Q } (L2.start N vs) H) : FnOk P w K mg base (L2.CX P w) (k + 1) f (fdT x qual st kV doc pm an c ct) ps sp :=
  fn_of lk hcd S len fun A outer s H vs Q E hr h => ⟨t (clT st s) E, d A outer s H E hr, r _ vs H Q E h⟩
/-- .. that leaves its cells behind, told by the abstract heap from then on -/
theorem fnR_of (lk : K.lookup f = some ⟨oc, od, .func (fdT x qual st kV doc pm an c ct), osl⟩) (hcd : PySem.W.codeIn K (.ref c) qual = true) (S : FnScope N ps (defScope st)) (len : ∀ vs H Q E, sp vs H Q E → vs.length = ps.length) (hn : cellB (defScope st) ns = true) (t : List (Str × Addr) → XK → RK → L2.St → Hp → Prop)
    (d : ∀ (A : Around) (outer : List Env) (s : Shared) (H : Hp) (E : XK), Room k (A.deeper (envOfC qual (defScope st) s.heap.objs.size f (.ref c))) → PSr (cxOf (L2.CX P w) P w K mg base N qual (defScope st) f (.ref c) A outer s H E) (defBody st) (t (clT st s) E))
    (r : ∀ (cl : List (Str × Addr)) (vs : List V) (H : Hp) (Q : VK) (E : XK), sp vs H Q E → t cl E (fun σ' v H' => ∀ H2, Lent N ns cl σ' H' H2 → Q v H2) (L2.start N vs) H) : FnOk P w K mg base (L2.CX P w) (k + 1) f (fdT x qual st kV doc pm an c ct) ps sp := by
  refine ⟨len, fun A outer s H args us vs Q E hr e0 hb rv hsp => ?_⟩
  have hl := len _ _ _ _ hsp
  have KX : K.In s.heap := e0.mod.kin.keeps fun b o e => (e0.bs b o e).1
  have lim : s.heap.NoLimit := e0.mod.nolimit.keeps fun b o e => (e0.bs b o e).1
  have hkind : ∀ y ∈ ps.zip us, (defScope st).names.lookup y.1 = some .local ∨ ((defScope st).names.lookup y.1 = some .cell ∧ ((cellsFrom (s.heap.objs.size + 1) (defScope st).names []).lookup y.1).isSome = true) := fun ⟨n, v⟩ hy =>
    (S.par n (List.of_mem_zip hy).1).elim .inl fun q => .inr ⟨q, PySem.W.cellsFrom_some _ _ _ (.inl q)⟩
  refine codeAny_call_function hr.depth (KX _ _ lk) rfl S.co S.gen rfl (PySem.W.codeRec_of KX hcd) (hb _ _ _ _ ?_)
  refine wpAny_newFunctionEnv_cells S.kind hkind fun env he s1 x => ?_
  subst he
  refine ⟨lim.keeps x.toInCall.keep, codeAny_func ?_⟩
  have J : Inv (cxOf (L2.CX P w) P w K mg base N qual (defScope st) f (.ref c) A outer s H E) [] (L2.start N vs) H s1 := inv_start S hr.hd e0 hl rv x
  refine wpAny_mono ((d A outer s H E (hr.deeper _)).run [] s1 (L2.start N vs) H _ J (r _ vs H Q E hsp)) (fun fl s' hs => ?_) fun e s' hs => hs
  obtain ⟨u, v, σ', H', rfl, J', ru, q⟩ := hs
  obtain ⟨H2, L, ok⟩ := lend J' hn
  have old : ∀ b o, s.heap.get? b = some o → ¬ ∃ y, (cxOf (L2.CX P w) P w K mg base N qual (defScope st) f (.ref c) A outer s H E).env.cells.lookup y = some b := fun b o e ⟨y, hy⟩ => by
    have h1 := J'.ok.cab y b rfl hy
    exact absurd (Nat.lt_of_lt_of_le (Heap.lt_size e) h1) (Nat.lt_irrefl _)
  have nn : ∀ b x, H' b = some x → H2 b = some x := fun b x e => L.ex b x e
  have B := J'.base
  refine ⟨v, H2, J'.os, J'.bare, ⟨B.keep, B.slot, fun b o e n hx => (L.out b (old b o e)).trans (B.free b o e n hx), B.there, fun b xs e => nn b _ (B.tups b xs e), fun b o x e => nn b _ (B.frzs b o x e), fun b ps e => ?_⟩, ok, ru, q H2 L⟩
  obtain ⟨m, z⟩ := B.tbls b ps e
  exact ⟨m, nn b _ z⟩
theorem calT {g : FuncData} (F : FnOk P w K mg base (L2.CX P w) k f g ps sp) (hm : mg x = some (.ref f)) (kp : PySem.W.keepIn K (.ref f) = true) (hb : Binds K g ps []) : Cal P w K mg base k x f ps sp := ⟨⟨g, F, hb⟩, hm, kp⟩
theorem metT {g : FuncData} {C : Addr} (F : FnOk P w K mg base (L2.CX P w) k f g ps sp) (hm : Meth K C x f) (hc : Cls K C) (hb : Binds K g ps []) : Met P w K mg base k C x f ps sp := ⟨⟨g, F, hb⟩, hm, hc⟩
end
/-! ### a function of a class, called by the class's name; methods of one of several classes -/
structure CFn (P : Program) (w : World) (K : PySem.W.Frag) (mg : Str → Option Value) (base : Heap) (k : Nat) (C : Addr) (c m : Str) (f : Addr) (ps : List Str) (sp : Sp) : Prop where
  ex : ∃ fd, FnOk P w K mg base (L2.CX P w) k f fd ps sp ∧ Binds K fd ps []
  mg : mg c = some (.ref C)
  rd : PySem.W.readsIn K C (.type "type") = true
  fc : PySem.W.findCls K (.ref C) (.type "type") m = some (.val (.ref f))
  ga : PySem.W.specialIn K (.ref C) "__getattribute__" = some (some (.builtin "type.__getattribute__"))
  kp : PySem.W.keepIn K (.ref f) = true
def tMetD (L : List (Addr × Sp)) (m : Str) (E : L2.St → XK) (ta : TE) (t : TA) : TE := fun σ H Q => ta σ H fun x H1 => ∃ a C dx fs sp, x = .ref a ∧ (C, sp) ∈ L ∧ H1 a = some (.ins C dx fs) ∧ fs.lookup m = none ∧ t σ H1 fun vs H2 => sp (x :: vs) H2 Q (E σ)
def tMetLD (L : List (Addr × Sp)) (m : Str) (N ns : List Str) (cl : List (Str × Addr)) (ta : TE) (t : TA) : TE := fun σ H Q => ta σ H fun x H1 => ∃ a C dx fs sp, x = .ref a ∧ (C, sp) ∈ L ∧ H1 a = some (.ins C dx fs) ∧ fs.lookup m = none ∧
  t σ H1 fun vs H2 => ∀ H3, Lent N ns cl σ H2 H3 → sp (x :: vs) H3 (fun v H4 => Q v (hidC cl H4)) E0
section
variable {X : Cx} {W : WX} {k : Nat} {f C : Addr} {ps ns N : List Str} {sp : Sp} {x m : Str} {p pos apos : Pos} {e o : Expr} {es : List Expr} {t : TA} {ta : TE} {pl : Sem Bool} {cl : List (Str × Addr)} {L : List (Addr × Sp)}
theorem pe_clsF (M : CFn X.prog X.w X.K X.mg X.base k C x m f ps sp) (hr : Room k X.A) (tk : Takes X W) (ha : PA X (e :: es) t) (hg : Gl X x := by rfl) (hdb : (x == ("__debug__" : Str)) = false := by decide)
    (hst : starEach (e :: es) X.env = (false, eval e X.env) :: starEach es X.env := by rfl) (hpl : (backTo pos (starEach es X.env)).any (·.1) = false := by rfl)
    (ht : eval (.Call (.Attribute (.Name x p) m apos) (e :: es) [] pos) X.env = (do
      let ov ← eval (.Name x p) X.env
      standAt apos.atName
      let (f, first) ← holding [ov] (getMethod ov m pl)
      callWith pos f first (backTo pos (starEach (e :: es) X.env)) (backToKw pos (keywordEach [] X.env))) := by rfl) :
    PE X (.Call (.Attribute (.Name x p) m apos) (e :: es) [] pos) (tCallS sp (WE W) t) := by
  obtain ⟨fd, F, b⟩ := M.ex
  refine ⟨fun pins s σ H Q J h => ?_⟩
  refine PySem.W.methodCall_KW (pl := pl) (ld_glob J hg M.mg ?_ hdb) ht
  refine PySem.W.method_cls J.kIn M.ga (PySem.W.cls_value J.kIn M.rd M.fc rfl ?_)
  have J1 := J.tok (s.toks + 1)
  refine PySem.W.callWith_K (first := []) (h₀ := X.base) J.ok.mod.kin M.kp (thn (ha.run pos pins _ σ H _ J1 h) fun us s2 ⟨vs, H2, J2, r, q2⟩ => ⟨J2.kIn, ?_⟩) hst hpl
  exact run_fnS F hr b (passAt tk σ) J2 r q2
theorem pe_metDX {E : L2.St → XK} (M : ∀ C sp, (C, sp) ∈ L → ∃ f ps, Met X.prog X.w X.K X.mg X.base k C m f ps sp) (he : PE X o ta) (hr : Room k X.A) (hx : ∀ σ, PassesAt (L2.CX X.prog X.w) X σ (E σ)) (ha : PA X (e :: es) t)
    (hst : starEach (e :: es) X.env = (false, eval e X.env) :: starEach es X.env := by rfl) (hpl : (backTo pos (starEach es X.env)).any (·.1) = false := by rfl)
    (ht : eval (.Call (.Attribute o m apos) (e :: es) [] pos) X.env = (do
      let ov ← eval o X.env
      standAt apos.atName
      let (f, first) ← holding [ov] (getMethod ov m pl)
      callWith pos f first (backTo pos (starEach (e :: es) X.env)) (backToKw pos (keywordEach [] X.env))) := by rfl) :
    PE X (.Call (.Attribute o m apos) (e :: es) [] pos) (tMetD L m E ta t) := by
  refine ⟨fun pins s σ H Q J h => ?_⟩
  refine PySem.W.methodCall_KW (pl := pl) (thn (he.run pins s σ H _ J h) fun u s1 ⟨x, H1, J1, rx, a, C, dx, fs, sp, ex, mem, ea, l, q⟩ => ?_) ht
  subst ex
  obtain rfl : u = Value.ref a := rx
  obtain ⟨f, ps, M⟩ := M C sp mem
  obtain ⟨fd, F, b⟩ := M.ex
  refine getmeth_ok J1 ea M.cl M.mt l ?_
  refine PySem.W.callWith_K (first := [.ref a]) (h₀ := X.base) J1.ok.mod.kin M.mt.kp (thn (ha.run pos pins s1 σ H1 _ J1 q) fun us s2 ⟨vs, H2, J2, r, q2⟩ => ⟨J2.kIn, ?_⟩) hst hpl
  exact run_fnS (us := .ref a :: us) (vs := .ref a :: vs) F hr b (hx σ) J2 (.cons rfl r) q2
theorem pe_metD (M : ∀ C sp, (C, sp) ∈ L → ∃ f ps, Met X.prog X.w X.K X.mg X.base k C m f ps sp) (he : PE X o ta) (hr : Room k X.A) (tk : Takes X W) (ha : PA X (e :: es) t)
    (hst : starEach (e :: es) X.env = (false, eval e X.env) :: starEach es X.env := by rfl) (hpl : (backTo pos (starEach es X.env)).any (·.1) = false := by rfl)
    (ht : eval (.Call (.Attribute o m apos) (e :: es) [] pos) X.env = (do
      let ov ← eval o X.env
      standAt apos.atName
      let (f, first) ← holding [ov] (getMethod ov m pl)
      callWith pos f first (backTo pos (starEach (e :: es) X.env)) (backToKw pos (keywordEach [] X.env))) := by rfl) :
    PE X (.Call (.Attribute o m apos) (e :: es) [] pos) (tMetD L m (WE W) ta t) := pe_metDX M he hr (fun σ => passAt tk σ) ha hst hpl ht
theorem pe_metLD (M : ∀ C sp, (C, sp) ∈ L → ∃ f ps, Met X.prog X.w X.K X.mg X.base k C m f ps sp) (he : PE X o ta) (hr : Room k X.A) (hN : X.N = N) (hcl : X.env.cells = cl) (hn : cellB X.env.scope ns = true) (hfn : ∀ x, X.fn x = true) (ha : PA X (e :: es) t)
    (hst : starEach (e :: es) X.env = (false, eval e X.env) :: starEach es X.env := by rfl) (hpl : (backTo pos (starEach es X.env)).any (·.1) = false := by rfl)
    (ht : eval (.Call (.Attribute o m apos) (e :: es) [] pos) X.env = (do
      let ov ← eval o X.env
      standAt apos.atName
      let (f, first) ← holding [ov] (getMethod ov m pl)
      callWith pos f first (backTo pos (starEach (e :: es) X.env)) (backToKw pos (keywordEach [] X.env))) := by rfl) :
    PE X (.Call (.Attribute o m apos) (e :: es) [] pos) (tMetLD L m N ns cl ta t) := by
  subst hN hcl
  refine ⟨fun pins s σ H Q J h => ?_⟩
  refine PySem.W.methodCall_KW (pl := pl) (thn (he.run pins s σ H _ J h) fun u s1 ⟨x, H1, J1, rx, a, C, dx, fs, sp, ex, mem, ea, l, q⟩ => ?_) ht
  subst ex
  obtain rfl : u = Value.ref a := rx
  obtain ⟨f, ps, M⟩ := M C sp mem
  obtain ⟨fd, F, b⟩ := M.ex
  refine getmeth_ok J1 ea M.cl M.mt l ?_
  refine PySem.W.callWith_K (first := [.ref a]) (h₀ := X.base) J1.ok.mod.kin M.mt.kp (thn (ha.run pos pins s1 σ H1 _ J1 q) fun us s2 ⟨vs, H2, J2, r, q2⟩ => ⟨J2.kIn, ?_⟩) hst hpl
  exact run_lend (us := .ref a :: us) (vs := .ref a :: vs) F b hr hfn hn J2 (.cons rfl r) q2
end
/-! ### a lambda of the text: what its making gives -/
def noE : Expr := .Constant .none 0 ⟨0, 0, 0, 0⟩
def noSt : Stmt := .Pass ⟨0, 0, 0, 0⟩
def stX : Stmt → Expr
  | .Assign _ v _ => v
  | .Return (some v) _ => v
  | .Expr v _ => v
  | .If c _ _ _ => c
  | .While c _ _ _ => c
  | .For _ i _ _ _ => i
  | _ => noE
def stB : Stmt → Nat → Stmt
  | .FunctionDef _ _ b _ _ _ _ _ _ _, i => b.getD i noSt
  | .If _ b _ _, i => b.getD i noSt
  | .While _ b _ _, i => b.getD i noSt
  | .For _ _ b _ _, i => b.getD i noSt
  | _, _ => noSt
def stE : Stmt → Nat → Stmt
  | .If _ _ b _, i => b.getD i noSt
  | _, _ => noSt
def exC : Expr → Nat → Expr
  | .Call f _ _ _, 0 => f
  | .Call _ as _ _, i + 1 => as.getD i noE
  | .List es _, i => es.getD i noE
  | .Tuple es _ _, i => es.getD i noE
  | .IfExp c _ _ _, 0 => c
  | .IfExp _ a _ _, 1 => a
  | .IfExp _ _ b _, _ => b
  | .Dict _ vs _, i => vs.getD i noE
  | .Subscript a _ _, 0 => a
  | .Subscript _ b _, _ => b
  | _, _ => noE
def lamP : Expr → Arguments
  | .Lambda a _ _ _ => a
  | _ => { posonlyargs := [], args := [], vararg := none, kwonlyargs := [], kw_defaults := [], kwarg := none, defaults := [] }
def lamB : Expr → Expr
  | .Lambda _ b _ _ => b
  | _ => noE
def lamS : Expr → Scope
  | .Lambda _ _ sc _ => sc
  | _ => { kind := .function, names := [], isGenerator := false, isCoroutine := false }
abbrev lamF (qual : Str) (e : Expr) (cl : List (Str × Addr)) (c : Addr) : LF := ⟨qual ++ ".<locals>." ++ "<lambda>", lamP e, lamB e, lamS e, cloFrom cl (lamS e).names [], c⟩
structure LamI (CA : Hp → Addr → Sp → Prop) (mk : List (Str × Addr) → Addr → LF) (nm : List (Str × NameKind)) (fr : List Str) (spl : List (Option V) → Sp) : Prop where
  cl : ∀ cl c, (mk cl c).cl = cloFrom cl nm [] ∧ (mk cl c).c = c
  sub : ∀ y ∈ nm, y.2 = .free → y.1 ∈ fr
  frk : ∀ y ∈ fr, (y, NameKind.free) ∈ nm
  ca : ∀ cl c f H ws sp, H f = some (FnL f (mk cl c)) → H c = some (CodeO c (mk cl c).qual) → Caught H (cloFrom cl nm []) fr ws →
    (∀ vs H' Q, Kp H H' → sp vs H' Q E0 → spl ws vs (hidC (cloFrom cl nm []) H') (fun v H2 => (∀ y c, (cloFrom cl nm []).lookup y = some c → H2 c = none) → Q v (shwC (cloFrom cl nm []) H' H2)) E0) → CA H f sp
/-- what may be called stays so -/
def CAst (CA : Hp → Addr → Sp → Prop) : Prop := ∀ H H' f sp, CA H f sp → Kp H H' → CA H' f sp
theorem clo_st {P : Program} {w : World} {K : PySem.W.Frag} {mg : Str → Option Value} {base : Heap} {k : Nat} : CAst (CloAt P w K mg base k) := fun _ _ _ _ c e => c.kp e
def tabOf (K : PySem.W.Frag) (c : Addr) : Option Addr := match K.lookup c with
  | some ⟨_, _, .fields vs, _⟩ => (match (vs[11]? : Option Value) with | some (.ref P) => some P | _ => none)
  | _ => none
end Z

set_option Elab.async false
set_option linter.all false
set_option autoImplicit false
set_option maxRecDepth 100000
set_option maxHeartbeats 4000000
/-! ev: what an expression comes to, by its form -/
local macro_rules | `(tactic| k_places) => `(tactic| (repeat' (first
  | (with_reducible exact ev_c)
  | (with_reducible exact ev_var rfl)
  | (with_reducible refine ev_chainLL ?_ ?_ ?_)
  | (with_reducible refine ev_chainLt ?_ ?_ ?_)
  | (with_reducible refine ev_op ?_ ?_ ?_)
  | (with_reducible refine ev_neg ?_)
  | (with_reducible refine et_test ?_)
  | (with_reducible refine et_B ?_)
  | (with_reducible refine et_not ?_)
  | (with_reducible refine et_and ?_ (fun _ => ?_))
  | (with_reducible refine et_or ?_ (fun _ => ?_))
  | (with_reducible refine ev_andV ?_ (fun _ => ?_))
  | (with_reducible refine ev_orV ?_ (fun _ => ?_))
  | (with_reducible refine ev_notV ?_)
  | (with_reducible exact rv_addI)
  | (with_reducible exact rv_subI)
  | (with_reducible exact rv_lt)
  | (with_reducible exact rv_le)
  | (with_reducible exact rv_gt)
  | (with_reducible exact rv_ge)
  | (with_reducible exact rv_isB)
  | (with_reducible exact rv_isnB)
  | (with_reducible exact rv_isN)
  | (with_reducible exact rv_isnN)
  | (with_reducible exact rv_eqS rfl)
  | (with_reducible exact rv_neS rfl)
  | (with_reducible exact rv_inStr)
  | (with_reducible exact rv_ninStr)
  | (with_reducible exact rv_mod (by first | decide | omega | assumption))
  | (with_reducible exact rv_div (by first | decide | omega | assumption))
  | (with_reducible exact rv_pow (by decide))
  | (with_reducible refine ed_i ?_; done)
  | (with_reducible exact ea_nil)
  | (with_reducible refine ea_cons ?_ ?_)
  | (with_reducible exact eds_nil)
  | (with_reducible refine eds_cons ?_ ?_)
  | (with_reducible exact ed_dnew)
  | (with_reducible refine ed_lst ?_ (by simp only [List.length_cons, List.length_nil]; omega))
  | (with_reducible refine ed_tup ?_ (by simp only [List.length_cons, List.length_nil]; omega)))))
namespace Z
open PySem PySem.Spec PyProof.Rows L2 Evl NdefX LamX
/-! ### what a call may change -/
def Imm : HO → Prop
  | .tup _ => True
  | .ext _ => True
  | .frz _ _ => True
  | _ => False
/-- what never changes is there still -/
def Imk (H H' : Hp) : Prop := ∀ a o, H a = some o → Imm o → H' a = some o
theorem Imk.tup {H H' : Hp} (e : Imk H H') : Tup H H' := fun b xs q => e b _ q True.intro
theorem Imk.kp {H H' : Hp} (e : Imk H H') : Kp H H' := fun a o q f => e a o q (by cases o <;> first | exact True.intro | exact f.elim)
theorem Imk.of {H H' : Hp} (e : Ex H H') : Imk H H' := fun a o q _ => e a o q
theorem Imk.trans {H H1 H2 : Hp} (a : Imk H H1) (b : Imk H1 H2) : Imk H H2 := fun x o q i => b x o (a x o q i) i
/-- T: the tables of lambdas; F: what may be changed -/
structure XB (T : List (Addr × Str)) (F : List Addr) (H H' : Hp) : Prop where
  k : ∀ a o, H a = some o → a ∉ F → (∀ ps, o ≠ .tbl ps) → H' a = some o
  i : Imk H H'
  n : ∀ a, H' a = none → H a = none
  t : Tabs T H → Tabs T H'
/-- F' is F behind it: what is new in it was not there -/
structure Step (T : List (Addr × Str)) (F : List Addr) (H : Hp) (F' : List Addr) (H' : Hp) : Prop where
  x : XB T F H H'
  f : ∀ a ∈ F', a ∈ F ∨ H a = none
section
variable {T : List (Addr × Str)} {F F1 F2 : List Addr} {H H1 H2 : Hp}
theorem XB.of (e : Ex H H1) : XB T F H H1 := ⟨fun a o q _ _ => e a o q, .of e, fun a q => fresh_back e q, fun t => t.ext fun b o q => e b o q⟩
theorem XB.ofT (e : ExT T H H1) : XB T F H H1 := ⟨fun a o q _ n => e.e a o q n, fun a o q i => e.e a o q fun ps z => by rw [z] at i; exact i, e.n, fun _ => e.t⟩
theorem XB.trans (a : XB T F H H1) (b : XB T F H1 H2) : XB T F H H2 := ⟨fun x o q n t => b.k x o (a.k x o q n t) n t, a.i.trans b.i, fun x q => a.n x (b.n x q), fun t => b.t (a.t t)⟩
theorem XB.mono (a : XB T F H H1) (h : ∀ x ∈ F, x ∈ F1) : XB T F1 H H1 := ⟨fun x o q n t => a.k x o q (fun z => n (h x z)) t, a.i, a.n, a.t⟩
theorem Step.refl : Step T F H F H := ⟨.of (Ex.refl H), fun _ h => .inl h⟩
theorem Step.of (e : Ex H H1) : Step T F H F H1 := ⟨.of e, fun _ h => .inl h⟩
theorem Step.trans (a : Step T F H F1 H1) (b : Step T F1 H1 F2 H2) : Step T F H F2 H2 := by
  refine ⟨⟨fun x o q n t => b.x.k x o (a.x.k x o q n t) (fun z => ?_) t, a.x.i.trans b.x.i, fun x q => a.x.n x (b.x.n x q), fun t => b.x.t (a.x.t t)⟩, fun x h => ?_⟩
  · rcases a.f x z with z | z
    · exact n z
    · rw [q] at z; cases z
  · rcases b.f x h with z | z
    · exact a.f x z
    · exact .inr (a.x.n x z)
/-- a list or dict of one's own, written -/
theorem XB.upd {p : Addr} {o u : HO} (h : H p = some o) (hi : ¬ Imm o) (ht : ∀ ps, o ≠ .tbl ps) (hp : p ∈ F) : XB T F H (L2.upd H p u) := by
  refine ⟨fun a o q n _ => (upd_ne fun z => n (by rw [z]; exact hp)).trans q, fun a o' q i => (upd_ne fun z => ?_).trans q, fun a q => upd_no q, fun t => ?_⟩
  · rw [z, h] at q
    cases q
    exact hi i
  · intro x hx
    obtain ⟨ps, a1, a2, a3⟩ := t x hx
    refine ⟨ps, (upd_ne fun z => ?_).trans a1, a2, fun pos cv hc => ?_⟩
    · rw [z, h] at a1
      exact ht _ (Option.some.inj a1)
    · obtain ⟨c, e1, e2⟩ := a3 pos cv hc
      refine ⟨c, e1, (upd_ne fun z => ?_).trans e2⟩
      rw [z, h] at e2
      refine hi ?_
      rw [Option.some.inj e2]
      exact True.intro
theorem Imk.upd {p : Addr} {o u : HO} (h : H p = some o) (hi : ¬ Imm o) : Imk H (L2.upd H p u) := fun a o' q i => (upd_ne fun z => by rw [z, h] at q; cases q; exact hi i).trans q
/-- .. that was not there at the outset -/
theorem XB.updN {p : Addr} {o u : HO} (a : XB T F H H1) (h0 : H p = none) (h : H1 p = some o) (hi : ¬ Imm o) (ht : ∀ ps, o ≠ .tbl ps) : XB T F H (L2.upd H1 p u) :=
  ⟨fun x o q n t => (upd_ne (ne_of_none q h0)).trans (a.k x o q n t), a.i.trans (.upd h hi), fun x q => a.n x (upd_no q), fun t => (XB.upd (F := [p]) h hi ht (List.mem_singleton.mpr rfl)).t (a.t t)⟩
theorem Step.updN {p : Addr} {o u : HO} (a : Step T F H F1 H1) (h0 : H p = none) (h : H1 p = some o) (hi : ¬ Imm o) (ht : ∀ ps, o ≠ .tbl ps) : Step T F H F1 (L2.upd H1 p u) := ⟨a.x.updN h0 h hi ht, a.f⟩
/-- cells hidden ahead of a call and shown behind -/
theorem XB.shw {cl : List (Str × Addr)} (C : Cells cl H) (h0 : ∀ y c, cl.lookup y = some c → H1 c = none) (x : XB T F (hidC cl H) H1) : XB T F H (shwC cl H H1) := by
  have nn : ∀ a o, H1 a = some o → shwC cl H H1 a = some o := fun a o e => (shwC_ne fun ⟨y, hy⟩ => by rw [h0 y a hy] at e; cases e).trans e
  have nt : ∀ a o, H a = some o → (∀ ob u, o ≠ .frz ob u) → hidC cl H a = some o := fun a o q n => (hidC_ne (C.no q n)).trans q
  refine ⟨fun a o q n t => ?_, fun a o q i => ?_, fun a q => ?_, fun t p hp => ?_⟩
  · by_cases z : ∃ y, cl.lookup y = some a
    · exact (shwC_at z).trans q
    · exact nn a o (x.k a o ((hidC_ne z).trans q) n t)
  · by_cases z : ∃ y, cl.lookup y = some a
    · exact (shwC_at z).trans q
    · exact nn a o (x.i a o ((hidC_ne z).trans q) i)
  · by_cases z : ∃ y, cl.lookup y = some a
    · exact (shwC_at z).symm.trans q
    · exact (hidC_ne z).symm.trans (x.n a ((shwC_ne z).symm.trans q))
  · obtain ⟨ps, a1, a2, a3⟩ := x.t (fun p hp => by
      obtain ⟨ps, a1, a2, a3⟩ := t p hp
      refine ⟨ps, nt _ _ a1 fun _ _ z => (by cases z), a2, fun pos cv hc => ?_⟩
      obtain ⟨c, e1, e2⟩ := a3 pos cv hc
      exact ⟨c, e1, nt _ _ e2 fun _ _ z => codeO_frz _ _ z⟩) p hp
    refine ⟨ps, nn _ _ a1, a2, fun pos cv hc => ?_⟩
    obtain ⟨c, e1, e2⟩ := a3 pos cv hc
    exact ⟨c, e1, nn _ _ e2⟩
/-- cells lent to a call -/
theorem XB.lent {N ns : List Str} {cl : List (Str × Addr)} {σ : L2.St} (L : Lent N ns cl σ H H1) (x : XB T F H1 H2) : XB T F H (hidC cl H2) := by
  have nn : ∀ a o, H a = some o → ∀ u, H2 a = some u → hidC cl H2 a = some u := fun a o q u e => L.hid (by rw [q]; rfl) e
  refine ⟨fun a o q n t => nn a o q o (x.k a o (L.ex a o q) n t), fun a o q i => nn a o q o (x.i a o (L.ex a o q) i), fun a q => ?_, fun t p hp => ?_⟩
  · by_cases z : ∃ y, cl.lookup y = some a
    · obtain ⟨y, hy⟩ := z
      exact L.was y a hy
    · exact L.free (x.n a ((hidC_ne z).symm.trans q))
  · have nc : ∀ a u, H2 a = some u → (∀ ob v, u ≠ .frz ob v) → hidC cl H2 a = some u := fun a u e n => (hidC_ne fun ⟨y, hy⟩ => by
      obtain ⟨o, d, q, _⟩ := L.all y a hy
      rw [x.i a _ q True.intro] at e
      exact n _ _ (Option.some.inj e).symm).trans e
    obtain ⟨ps, a1, a2, a3⟩ := x.t (t.ext fun b o e => L.ex b o e) p hp
    refine ⟨ps, nc _ _ a1 fun _ _ z => (by cases z), a2, fun pos cv hc => ?_⟩
    obtain ⟨c, e1, e2⟩ := a3 pos cv hc
    exact ⟨c, e1, nc _ _ e2 fun _ _ z => codeO_frz _ _ z⟩
end
/-! ### values, spots, what is told at them -/
/-- a value: a number, a fault's word -/
abbrev Val := Sum Int Str
def dV : Val → PyData
  | .inl i => .int i
  | .inr w => .tuple [.str "fault", .str w]
def okV : Val → Prop
  | .inl i => -(10 ^ 60) < i ∧ i < 10 ^ 60
  | .inr w => isName w = true
theorem okV.val {x : Val} (h : okV x) : isValueD (dV x) = true := by
  cases x with
  | inl i => exact val_int h
  | inr w => exact val_flt h
def isFltV : Val → Bool
  | .inl _ => false
  | .inr _ => true
theorem okV.flt {x : Val} (h : okV x) : isFaultD (dV x) = isFltV x := by
  cases x with
  | inl i => rfl
  | inr w =>
    have h : isName w = true := h
    show (decide ((("fault" : Str)) = ("fault" : Str)) && isName w) = true
    rw [h]
    rfl
theorem eqv_dV {x y : Val} (hx : okV x) (hy : okV y) : PyData.eqv (dV x) (dV y) = decide (x = y) := by
  cases x with
  | inl i =>
    cases y with
    | inl j =>
      show decide (i = j) = _
      exact decide_eq_decide.mpr ⟨fun e => by rw [e], fun e => Sum.inl.inj e⟩
    | inr v => exact (decide_eq_false (fun z => nomatch z)).symm
  | inr w =>
    cases y with
    | inl j => exact (decide_eq_false (fun z => nomatch z)).symm
    | inr v =>
      show (decide ((("fault" : Str)) = ("fault" : Str)) && (decide (w = v) && true)) = _
      rw [Bool.and_true]
      show (true && decide (w = v)) = _
      rw [Bool.true_and]
      exact decide_eq_decide.mpr ⟨fun e => by rw [e], fun e => Sum.inr.inj e⟩
abbrev Spot := Str × Str × Int
def dSp (s : Spot) : PyData := .tuple [.str s.1, .str s.2.1, .int s.2.2]
def AtS (H : Hp) (v : V) (s : Spot) : Prop := ∃ a, v = .ref a ∧ H a = some (.tup [.str s.1, .str s.2.1, .int s.2.2])
/-- a list's items: spots -/
def AtSs (H : Hp) (vs : List V) (ss : List Spot) : Prop := vs.length = ss.length ∧ ∀ (i : Nat) (s : Spot), ss[i]? = some s → ∃ v, vs[i]? = some v ∧ AtS H v s
theorem AtS.tup {H H' : Hp} {v : V} {s : Spot} (e : Tup H H') (h : AtS H v s) : AtS H' v s := let ⟨a, e1, e2⟩ := h; ⟨a, e1, e a _ e2⟩
theorem AtSs.tup {H H' : Hp} {vs : List V} {ss : List Spot} (e : Tup H H') (h : AtSs H vs ss) : AtSs H' vs ss := ⟨h.1, fun i s q => let ⟨v, a, b⟩ := h.2 i s q; ⟨v, a, b.tup e⟩⟩
theorem AtSs.snoc {H : Hp} {vs : List V} {ss : List Spot} {v : V} {s : Spot} (h : AtSs H vs ss) (k : AtS H v s) : AtSs H (vs ++ [v]) (ss ++ [s]) := by
  refine ⟨by simp [h.1], fun i t q => ?_⟩
  by_cases hi : i < ss.length
  · rw [List.getElem?_append_left hi] at q
    obtain ⟨w, a, b⟩ := h.2 i t q
    exact ⟨w, (List.getElem?_append_left (by rw [h.1]; exact hi)).trans a, b⟩
  · rw [List.getElem?_append_right (by omega)] at q
    have e : i = ss.length := by
      have := (List.getElem?_eq_some_iff.mp q).1
      simp at this
      omega
    subst e
    rw [Nat.sub_self] at q
    cases q
    exact ⟨v, by rw [← h.1, List.getElem?_append_right (Nat.le_refl _), Nat.sub_self]; rfl, k⟩
theorem AtSs.at {H : Hp} {vs : List V} {ss : List Spot} {i : Nat} {v : V} (h : AtSs H vs ss) (q : vs[i]? = some v) : ∃ s, ss[i]? = some s ∧ AtS H v s := by
  have hi : i < ss.length := by rw [← h.1]; exact (List.getElem?_eq_some_iff.mp q).1
  obtain ⟨s, hs⟩ : ∃ s, ss[i]? = some s := ⟨_, List.getElem?_eq_getElem hi⟩
  obtain ⟨w, a, b⟩ := h.2 i s hs
  rw [q] at a
  cases a
  exact ⟨s, hs, b⟩
/-- what is told of a cell; where one has looked so far -/
structure Ask (T : List (Addr × Str)) (Rv : List Addr) (J : List Addr → List Spot → Hp → Prop) (W : Spot → Val) (Dom : Spot → Prop) : Prop where
  st : ∀ F l H H', J F l H → (∀ a, a ∈ F ∨ a ∈ Rv → ∀ o, H a = some o → H' a = some o) → Imk H H' → (Tabs T H → Tabs T H') → J F l H'
  rv : ∀ F l H a, J F l H → a ∈ Rv → ∃ o, H a = some o
  th : ∀ F l H a, J F l H → a ∈ F → ∃ o, H a = some o ∧ ¬ Imm o ∧ ∀ ps, o ≠ .tbl ps
  ok : ∀ s, Dom s → okV (W s)
section
variable {T : List (Addr × Str)} {Rv : List Addr} {J : List Addr → List Spot → Hp → Prop} {W : Spot → Val} {Dom : Spot → Prop} {F : List Addr} {l : List Spot} {H H' : Hp}
theorem Ask.ex (K : Ask T Rv J W Dom) (j : J F l H) (e : Ex H H') : J F l H' := K.st F l H H' j (fun a _ o q => e a o q) (.of e) fun t => t.ext fun b o q => e b o q
theorem Ask.offR (K : Ask T Rv J W Dom) (j : J F l H) {p : Addr} (h : H p = none) : p ∉ Rv := fun z => by
  obtain ⟨o, q⟩ := K.rv F l H p j z
  rw [h] at q
  cases q
theorem Ask.off (K : Ask T Rv J W Dom) (j : J F l H) {p : Addr} (h : H p = none) : p ∉ F := fun z => by
  obtain ⟨o, q, _⟩ := K.th F l H p j z
  rw [h] at q
  cases q
theorem Ask.upd (K : Ask T Rv J W Dom) (j : J F l H) {p : Addr} {o u : HO} (hp : p ∉ F) (hr : p ∉ Rv) (h : H p = some o) (hi : ¬ Imm o) (ht : ∀ ps, o ≠ .tbl ps) : J F l (L2.upd H p u) :=
  K.st F l _ _ j (fun a ha o q => (upd_ne fun z => ha.elim (fun ha => hp (by rw [← z]; exact ha)) fun ha => hr (by rw [← z]; exact ha)).trans q) (.upd h hi) (XB.upd (F := [p]) h hi ht (List.mem_singleton.mpr rfl)).t
theorem Step.off {F' : List Addr} {p : Addr} {o : HO} (hp : p ∉ F) (h : H p = some o) (s : Step T F H F' H') : p ∉ F' := fun z => (s.f p z).elim hp fun q => by rw [h] at q; cases q
end
def spLook (T : List (Addr × Str)) (J : List Addr → List Spot → Hp → Prop) (W : Spot → Val) (Dom : Spot → Prop) : Sp := fun vs H Q _ => ∃ (s : Spot) (F : List Addr) (l : List Spot), vs = [.str s.1, .str s.2.1, .int s.2.2] ∧ Dom s ∧ l.length < 1000 ∧ J F l H ∧
  ∀ v F' H', Step T F H F' H' → Vt H' v (dV (W s)) → J F' (l ++ [s]) H' → Q v H'
def spMany (J : List Addr → List Spot → Hp → Prop) (R : Str → Nat) (Tm : Str → Prop) : Sp := fun vs H Q _ => ∃ (t : Str) (F : List Addr) (l : List Spot), vs = [.str t] ∧ Tm t ∧ J F l H ∧ RetV (.int (R t)) H Q
/-- what gathering tells: a value, or a list for a call -/
inductive Res where
  | val (x : Val)
  | call (is : List Int)
def Got (H H' : Hp) (v : V) : Res → Prop
  | .val x => ∃ a u, v = .ref a ∧ H' a = some (.tup [.str "value", u]) ∧ Vt H' u (dV x)
  | .call is => ∃ a p, v = .ref a ∧ H' a = some (.tup [.str "call", .ref p]) ∧ H' p = some (.lst (is.map V.int)) ∧ H p = none
def turn (W : Spot → Val) : List Spot → Res × List Spot
  | [] => (.call [], [])
  | s :: r => match W s with
    | .inr w => (.val (.inr w), [s])
    | .inl i => match turn W r with
      | (.call is, l) => (.call (i :: is), s :: l)
      | (.val x, l) => (.val x, s :: l)
theorem turn_pre {W : Spot → Val} {r : List Spot} : ∀ {pre : List Spot} {is : List Int}, pre.map W = is.map Sum.inl → turn W (pre ++ r) = ((match (turn W r).1 with | .call js => .call (is ++ js) | .val x => .val x), pre ++ (turn W r).2)
  | [], [], _ => by cases h : turn W r with | mk a b => cases a <;> simp [h]
  | [], _ :: _, h => by cases h
  | _ :: _, [], h => by cases h
  | s :: pre, i :: is, h => by
    rw [List.map_cons, List.map_cons] at h
    injection h with h1 h2
    rw [List.cons_append, turn, h1]
    dsimp only
    rw [turn_pre h2]
    cases h : turn W r with
    | mk a b => cases a <;> simp
theorem turn_len {W : Spot → Val} : ∀ ss : List Spot, (turn W ss).2.length ≤ ss.length
  | [] => Nat.le_refl _
  | s :: r => by
    rw [turn]
    cases h : W s with
    | inr w => simp
    | inl i =>
      have := turn_len (W := W) r
      cases q : turn W r with
      | mk a b =>
        rw [q] at this
        cases a <;> simpa using this
theorem turn_all {W : Spot → Val} {ss : List Spot} {is : List Int} (h : ss.map W = is.map Sum.inl) : turn W ss = (.call is, ss) := by
  have := turn_pre (r := []) h
  rw [List.append_nil] at this
  rw [this]
  simp [turn]
theorem turn_flt {W : Spot → Val} {ss : List Spot} {k : Nat} {s : Spot} {w : Str} {is : List Int} (h : (ss.take k).map W = is.map Sum.inl) (hs : ss[k]? = some s) (hw : W s = .inr w) : turn W ss = (.val (.inr w), ss.take k ++ [s]) := by
  obtain ⟨hk, e⟩ := List.getElem?_eq_some_iff.mp hs
  have q : ss = ss.take k ++ (s :: ss.drop (k + 1)) := by
    rw [← e, List.getElem_cons_drop, List.take_append_drop]
  have := turn_pre (W := W) (r := s :: ss.drop (k + 1)) h
  rw [← q] at this
  rw [this, turn, hw]
/-! ### readings of calls by names -/
section
variable {K : PySem.W.Frag} {CA : Hp → Addr → Sp → Prop} {σ : L2.St} {H : Hp} {D : Ends} {tz : TS} {T : List (Addr × Str)} {Rv : List Addr} {J : List Addr → List Spot → Hp → Prop} {W : Spot → Val} {Dom : Spot → Prop} {i : Nat} {f : Addr} {F : List Addr} {l : List Spot} {s : Spot} {tas : TA}
/-- a look -/
theorem x_lookC {Q : VK} (hc : CAst CA) (A : Ask T Rv J W Dom) (hv : σ[i]? = some (some (.ref f))) (c : CA H f (spLook T J W Dom)) (h : EvA tas σ H [.str s.1, .str s.2.1, .int s.2.2]) (hd : Dom s) (hl : l.length < 1000) (j : J F l H)
    (k : ∀ v F' H', Step T F H F' H' → Vt H' v (dV (W s)) → J F' (l ++ [s]) H' → Q v H') : tCallC CA i tas σ H Q :=
  ⟨f, _, hv, c, h H (Ex.refl H) _ fun H1 e1 => ⟨hc _ _ _ _ c (.of e1), s, F, l, rfl, hd, hl, A.ex j e1, fun v F' H' st r jj => k v F' H' ((Step.of e1).trans st) r jj⟩⟩
theorem q_lookC {i2 : Nat} (hc : CAst CA) (A : Ask T Rv J W Dom) (hv : σ[i]? = some (some (.ref f))) (c : CA H f (spLook T J W Dom)) (h : EvA tas σ H [.str s.1, .str s.2.1, .int s.2.2]) (hd : Dom s) (hl : l.length < 1000) (j : J F l H)
    (k : ∀ v F' H', Step T F H F' H' → Vt H' v (dV (W s)) → J F' (l ++ [s]) H' → tz D (σ.set i2 (some v)) H') : tSeq (tAsg (tCallC CA i tas) (gName i2)) tz D σ H :=
  x_lookC (Q := fun v H' => tz D (σ.set i2 (some v)) H') hc A hv c h hd hl j k
theorem ev_manyC {R : Str → Nat} {Tm : Str → Prop} {t : Str} (hc : CAst CA) (A : Ask T Rv J W Dom) (hv : σ[i]? = some (some (.ref f))) (c : CA H f (spMany J R Tm)) (h : EvA tas σ H [.str t]) (ht : Tm t) (j : J F l H) : Ev (tCallC CA i tas) σ H (.int (R t)) := fun H1 e Q q =>
  ⟨f, _, hv, hc _ _ _ _ c (.of e), h H1 e _ fun H2 e2 => ⟨hc _ _ _ _ c (.of (e.trans e2)), t, F, l, rfl, ht, A.ex j (e.trans e2), fun H3 e3 => q H3 (e2.trans e3)⟩⟩
theorem dt_val {H : Hp} {v : V} {x : Val} (h : Vt H v (dV x)) : Dt H v (dV x) := h.dt
theorem ev_isflt {te : TE} {x : Val} {v : V} {E : L2.St → XK} (h : Ev te σ H v) (r : Vt H v (dV x)) (o : okV x) : Ev (tCallS (sp_is_fault K) E (tCons te tNil)) σ H (.bl (isFltV x)) := by
  rw [← o.flt]
  exact ev_spB (ed_ev h r.dt) (val_ok o.val).1
/-- == of two values that stand there -/
theorem x_eqV {Q : Bool → Hp → Prop} {v u : V} {x y : Val} (r1 : Vt H v (dV x)) (r2 : Vt H u (dV y)) (o1 : okV x) (o2 : okV y) (k : ∀ H1, Ex H H1 → Q (decide (x = y)) H1) : rEqA K v u H fun z H1 => ∃ b, z = .bl b ∧ Q b H1 := by
  have := ev_eqD (K := K) (σ := []) (ta := tC v) (tb := tC u) (H := H) (ed_ev ev_c r1.dt) (ed_ev ev_c r2.dt) (val_okD o1.val) (val_okD o2.val)
  exact this H (Ex.refl H) _ fun H1 e1 => ⟨_, rfl, by rw [eqv_dV o1 o2]; exact k H1 e1⟩
end
end Z

set_option Elab.async false
set_option linter.all false
set_option autoImplicit false
set_option maxRecDepth 100000
set_option maxHeartbeats 4000000
/-! ev: what an expression comes to, by its form -/
local macro_rules | `(tactic| k_places) => `(tactic| (repeat' (first
  | (with_reducible exact ev_c)
  | (with_reducible exact ev_var rfl)
  | (with_reducible refine ev_chainLL ?_ ?_ ?_)
  | (with_reducible refine ev_chainLt ?_ ?_ ?_)
  | (with_reducible refine ev_op ?_ ?_ ?_)
  | (with_reducible refine ev_neg ?_)
  | (with_reducible refine et_test ?_)
  | (with_reducible refine et_B ?_)
  | (with_reducible refine et_not ?_)
  | (with_reducible refine et_and ?_ (fun _ => ?_))
  | (with_reducible refine et_or ?_ (fun _ => ?_))
  | (with_reducible refine ev_andV ?_ (fun _ => ?_))
  | (with_reducible refine ev_orV ?_ (fun _ => ?_))
  | (with_reducible refine ev_notV ?_)
  | (with_reducible exact rv_addI)
  | (with_reducible exact rv_subI)
  | (with_reducible exact rv_lt)
  | (with_reducible exact rv_le)
  | (with_reducible exact rv_gt)
  | (with_reducible exact rv_ge)
  | (with_reducible exact rv_isB)
  | (with_reducible exact rv_isnB)
  | (with_reducible exact rv_isN)
  | (with_reducible exact rv_isnN)
  | (with_reducible exact rv_eqS rfl)
  | (with_reducible exact rv_neS rfl)
  | (with_reducible exact rv_inStr)
  | (with_reducible exact rv_ninStr)
  | (with_reducible exact rv_mod (by first | decide | omega | assumption))
  | (with_reducible exact rv_div (by first | decide | omega | assumption))
  | (with_reducible exact rv_pow (by decide))
  | (with_reducible refine ed_i ?_; done)
  | (with_reducible exact ea_nil)
  | (with_reducible refine ea_cons ?_ ?_)
  | (with_reducible exact eds_nil)
  | (with_reducible refine eds_cons ?_ ?_)
  | (with_reducible exact ed_dnew)
  | (with_reducible refine ed_lst ?_ (by simp only [List.length_cons, List.length_nil]; omega))
  | (with_reducible refine ed_tup ?_ (by simp only [List.length_cons, List.length_nil]; omega)))))
namespace Z
open PySem PySem.Spec PyProof.Rows L2 Evl NdefX LamX
/-! ### an expression whose value stands in a relation; comprehensions of such -/
def EvR (te : TE) (σ : L2.St) (H : Hp) (R : V → Hp → Prop) : Prop := ∀ H1, Ex H H1 → ∀ Q : VK, (∀ v H2, Ex H1 H2 → R v H2 → Q v H2) → te σ H1 Q
def CwR (R : Nat → V → Hp → Prop) (H : Hp) (Dl : Addr) (i : Nat) (H' : Hp) : Prop := H Dl = none ∧ Ex H H' ∧ ∃ vs, H' Dl = some (.lst vs) ∧ vs.length = i ∧ ∀ j v, vs[j]? = some v → R j v H'
section
variable {K : PySem.W.Frag} {σ σ2 : L2.St} {H H' : Hp} {te tl : TE} {D : Ends} {tz : TS} {R : Nat → V → Hp → Prop} {Q : VK}
theorem cwR_turn {Dl : Addr} {i : Nat} (hR : ∀ i v H H', R i v H → Imk H H' → R i v H') (p : CwR R H Dl i H') (hi : i < 50000) (he : EvR te σ2 H (R i)) :
    te σ2 H' fun y H4 => ∃ acc, H4 Dl = some (.lst acc) ∧ acc.length < sizeLine ∧ CwR R H Dl (i + 1) (L2.upd H4 Dl (.lst (acc ++ [y]))) := by
  obtain ⟨p1, p2, vs, p3, p4, p5⟩ := p
  refine he H' p2 _ fun v H4 e4 r => ⟨vs, e4 Dl _ p3, sz_lt (by omega), p1, Ex.mut (p2.trans e4) p1, vs ++ [v], upd_same, by rw [List.length_append, p4]; rfl, fun j w hj => ?_⟩
  have im : Imk H4 (L2.upd H4 Dl (.lst (vs ++ [v]))) := .upd (e4 _ _ p3) fun z => z
  by_cases hl : j < vs.length
  · rw [List.getElem?_append_left hl] at hj
    exact hR _ _ _ _ (p5 j w hj) ((Imk.of e4).trans im)
  · rw [List.getElem?_append_right (by omega)] at hj
    have e : j = vs.length := by
      have := (List.getElem?_eq_some_iff.mp hj).1
      simp at this
      omega
    subst e
    rw [Nat.sub_self] at hj
    cases hj
    rw [p4]
    exact hR _ _ _ _ r im
theorem er_lcL {a : Addr} {xs : List V} {j : Nat} {ls : List Nat} (hR : ∀ i v H H', R i v H → Imk H H' → R i v H') (h : Ev tl σ H (.ref a)) (hx : SqL K H a xs) (hz : xs.length ≤ 40000) (hw : ∀ x, wipe ((wipe σ ls).set j (some x)) ls = wipe σ ls)
    (he : ∀ (i : Nat) (x : V) H1, Ex H H1 → xs[i]? = some x → EvR te ((wipe σ ls).set j (some x)) H1 (R i))
    (k : ∀ p ys H1, H p = none → Ex H H1 → H1 p = some (.lst ys) → ys.length = xs.length → (∀ i y, ys[i]? = some y → R i y H1) → Q (.ref p) H1) : tLc (iList K tl) (gName j) tYes te ls σ H Q :=
  h H (Ex.refl H) _ fun H1 e1 => ⟨a, rfl, ⟨xs, ex_l e1 hx⟩, fun Dl hD =>
  lc_list (xs := xs) (CwR R H1 Dl) ⟨hD, Ex.new hD, [], upd_same, rfl, fun j v hj => by simp at hj⟩ (fun i H' _ p => ex_l (e1.trans p.2.1) hx) (fun i x H' hi p => ⟨hw x, cwR_turn hR p (by have := (List.getElem?_eq_some_iff.mp hi).1; omega) (he i x H1 e1 hi)⟩)
  (fun H' p => by
    obtain ⟨p1, p2, vs, p3, p4, p5⟩ := p
    exact k Dl vs H' (fresh_back e1 p1) (e1.trans p2) p3 p4 p5)⟩
theorem er_lcR {tas : TA} {n : Int} {j : Nat} {ls : List Nat} (hR : ∀ i v H H', R i v H → Imk H H' → R i v H') (h : EvA tas σ H [.int n]) (hn : 0 ≤ n ∧ n ≤ 40000) (hw : ∀ x, wipe ((wipe σ ls).set j (some x)) ls = wipe σ ls)
    (he : ∀ (i : Nat) H1, Ex H H1 → (i : Int) < n → EvR te ((wipe σ ls).set j (some (.int (i : Int)))) H1 (R i))
    (k : ∀ p ys H1, H p = none → Ex H H1 → H1 p = some (.lst ys) → ys.length = n.toNat → (∀ i y, ys[i]? = some y → R i y H1) → Q (.ref p) H1) : tLc (iRng1 tas) (gName j) tYes te ls σ H Q :=
  h H (Ex.refl H) _ fun H1 e1 => ⟨n, rfl, by omega, by omega, fun Dl hD =>
  lc_range (lo := 0) (n := n.toNat) (CwR R H1 Dl) ⟨hD, Ex.new hD, [], upd_same, rfl, fun j v hj => by simp at hj⟩ (fun i H' hi p => by
    have e0 : (0 : Int) + (i : Int) = (i : Int) := Int.zero_add _
    show wipe ((wipe σ ls).set j (some (.int ((0 : Int) + (i : Int))))) ls = wipe σ ls ∧ te ((wipe σ ls).set j (some (.int ((0 : Int) + (i : Int))))) H' fun y H4 => ∃ acc, H4 Dl = some (.lst acc) ∧ acc.length < sizeLine ∧ CwR R H1 Dl (i + 1) (L2.upd H4 Dl (.lst (acc ++ [y])))
    rw [e0]
    exact ⟨hw _, cwR_turn hR p (by omega) (he i H1 e1 (by omega))⟩) (fun H' p => by
      obtain ⟨p1, p2, vs, p3, p4, p5⟩ := p
      exact k Dl vs H' (fresh_back e1 p1) (e1.trans p2) p3 p4 p5)⟩
/-- a new list of spots -/
def EvSs (te : TE) (σ : L2.St) (H : Hp) (ss : List Spot) : Prop := ∀ H1, Ex H H1 → ∀ Q : VK, (∀ p xs H2, H1 p = none → Ex H1 H2 → H2 p = some (.lst xs) → AtSs H2 xs ss → Q (.ref p) H2) → te σ H1 Q
theorem er_spot {t1 t2 t3 : TE} {s : Spot} (h1 : Ev t1 σ H (.str s.1)) (h2 : Ev t2 σ H (.str s.2.1)) (h3 : Ev t3 σ H (.int s.2.2)) : EvR (tTup (tCons t1 (tCons t2 (tCons t3 tNil)))) σ H (fun v H => AtS H v s) := fun H1 e Q q =>
  eu_tup (ea_cons h1 (ea_cons h2 (ea_cons h3 ea_nil))) (show 3 ≤ 100000 by decide) H1 e Q fun p H2 _ e2 h2 => q _ H2 e2 ⟨p, rfl, h2⟩
theorem atSs_of {vs : List V} {ss : List Spot} (hl : vs.length = ss.length) (h : ∀ (i : Nat) (v : V), vs[i]? = some v → ∃ s, ss[i]? = some s ∧ AtS H v s) : AtSs H vs ss := ⟨hl, fun i s q => by
  obtain ⟨v, hv⟩ : ∃ v, vs[i]? = some v := ⟨_, List.getElem?_eq_getElem (by rw [hl]; exact (List.getElem?_eq_some_iff.mp q).1)⟩
  obtain ⟨s', a, b⟩ := h i v hv
  rw [q] at a
  cases a
  exact ⟨v, hv, b⟩⟩
/-- [(.., name, ..) for name in a list of texts] -/
theorem es_lc {a : Addr} {zs : List Str} {j : Nat} {ls : List Nat} (f : Str → Spot) (h : Ev tl σ H (.ref a)) (hx : SqL K H a (zs.map V.str)) (hz : zs.length ≤ 40000) (hw : ∀ x, wipe ((wipe σ ls).set j (some x)) ls = wipe σ ls)
    (he : ∀ (z : Str) H1, Ex H H1 → z ∈ zs → EvR te ((wipe σ ls).set j (some (.str z))) H1 (fun v H => AtS H v (f z))) : EvSs (tLc (iList K tl) (gName j) tYes te ls) σ H (zs.map f) := fun H0 e Q q => by
  refine er_lcL (R := fun i v H => ∃ z, zs[i]? = some z ∧ AtS H v (f z)) (fun i v H H' ⟨z, a, b⟩ im => ⟨z, a, b.tup im.tup⟩) (h.mono e) (ex_l e hx) (by rw [List.length_map]; exact hz) hw (fun i x H1 e1 hi => ?_) fun p ys H1 hp e1 h1 hl hr => q p ys H1 hp e1 h1 (atSs_of (by rw [hl, List.length_map, List.length_map]) fun i v hv => ?_)
  · rw [List.getElem?_map] at hi
    cases hz' : zs[i]? with
    | none => rw [hz'] at hi; cases hi
    | some z =>
      rw [hz'] at hi
      cases hi
      intro H2 e2 Q2 q2
      exact he z H1 (e.trans e1) (List.mem_of_getElem? hz') H2 e2 Q2 fun v H3 e3 r => q2 v H3 e3 ⟨z, rfl, r⟩
  · obtain ⟨z, a, b⟩ := hr i v hv
    exact ⟨f z, by rw [List.getElem?_map, a]; rfl, b⟩
/-- a tuple of two, of three taken apart -/
theorem g_spot {a b c : Nat} {v : V} {s : Spot} {Q : L2.St → Hp → Prop} (h : AtS H v s) (k : Q (((σ.set a (some (.str s.1))).set b (some (.str s.2.1))).set c (some (.int s.2.2))) H) : gTup K 3 (gCons (gName a) (gCons (gName b) (gCons (gName c) gNil))) v σ H Q := by
  obtain ⟨p, e1, e2⟩ := h
  exact ⟨p, _, e1, SqT.of e2, rfl, _, _, rfl, _, _, rfl, _, _, rfl, rfl, k⟩
theorem g_two {a b : Nat} {v x y : V} {p : Addr} {Q : L2.St → Hp → Prop} (e1 : v = .ref p) (e2 : H p = some (.tup [x, y])) (k : Q ((σ.set a (some x)).set b (some y)) H) : gTup K 2 (gCons (gName a) (gCons (gName b) gNil)) v σ H Q := ⟨p, _, e1, SqT.of e2, rfl, _, _, rfl, _, _, rfl, rfl, k⟩
end
/-! ### rules.py: names, looks in turn -/
def sp_name_told (K : PySem.W.Frag) (A : Cn → Addr) : Sp := fun vs H Q _ => ∃ z : Str, vs = [.str z] ∧ isName z = true ∧ RetV (.str z) H Q
def sp_names_told (K : PySem.W.Frag) (A : Cn → Addr) : Sp := fun vs H Q _ => ∃ (p : Addr) (zs : List Str), vs = [.ref p] ∧ H p = some (.lst (zs.map V.str)) ∧ zs.length ≤ 6 ∧ (∀ z ∈ zs, isName z = true) ∧ RetL (zs.map V.str) H Q
def sp_looked (K : PySem.W.Frag) (CA : Hp → Addr → Sp → Prop) : Sp := fun vs H Q _ => ∃ (f c : Addr) (xs : List V) (ss : List Spot) (T : List (Addr × Str)) (Rv : List Addr) (J : List Addr → List Spot → Hp → Prop) (W : Spot → Val) (Dom : Spot → Prop) (F : List Addr) (l : List Spot),
  vs = [.ref f, .ref c] ∧ CA H f (spLook T J W Dom) ∧ Ask T Rv J W Dom ∧ H c = some (.lst xs) ∧ c ∉ F ∧ AtSs H xs ss ∧ (∀ s ∈ ss, Dom s) ∧ J F l H ∧ l.length + ss.length ≤ 1000 ∧
  ∀ v F' H', Step T F H F' H' → J F' (l ++ (turn W ss).2) H' → Got H H' v (turn W ss).1 → Q v H'
def t_name_told (K : PySem.W.Frag) (A : Cn → Addr) (E : XK) : TS :=
  tSeq (tIfS (tNot (tB (tCallS (sp_is_name K) (WE (fun cls d _ H => E cls d H)) (tCons (tVar 0) tNil)))) (tRaiseA (fun cls d _ H => E cls d H) (A .NoName)) tNext)
    (tRet (tVar 0))
def t_names_told (K : PySem.W.Frag) (A : Cn → Addr) (E : XK) : TS :=
  tSeq (tIfS (tOr (tNot (tB (tCB (rIsiA K) (tCons (tVar 0) (tCons (tC (.ty "list")) tNil))))) (tTest (tOp rGtA (tCB (rLenA K) (tCons (tVar 0) tNil)) (tC (.int 6))))) (tRaiseA (fun cls d _ H => E cls d H) (A .NoName)) tNext)
    (tRet (tLc (iList K (tVar 0)) (gName 1) tYes (tCall (sp_name_told K A) [] E0 (tCons (tVar 1) tNil)) [1]))
def t_looked (K : PySem.W.Frag) (CA : Hp → Addr → Sp → Prop) (E : XK) : TS :=
  tSeq (tAsg (tLst tNil) (gName 2))
    (tSeq (tFor (iList K (tVar 1)) (gTup K 3 (gCons (gName 3) (gCons (gName 4) (gCons (gName 5) gNil)))) (tSeq (tAsg (tCallC CA 0 (tCons (tVar 3) (tCons (tVar 4) (tCons (tVar 5) tNil)))) (gName 6))
    (tSeq (tIfS (tB (tCallS (sp_is_fault K) (WE (fun cls d _ H => E cls d H)) (tCons (tVar 6) tNil))) (tRet (tTup (tCons (tC (.str "value")) (tCons (tVar 6) tNil)))) tNext)
    (tDrop (tBM K "list" rAppend (tVar 2) (tCons (tVar 6) tNil))))))
    (tRet (tTup (tCons (tC (.str "call")) (tCons (tVar 2) tNil)))))
section
variable {K : PySem.W.Frag} {A : Cn → Addr} {CA : Hp → Addr → Sp → Prop}
theorem len_name_told (vs : List V) (H : Hp) (Q : VK) (E : XK) (h : sp_name_told K A vs H Q E) : vs.length = 1 := by obtain ⟨_, rfl, _⟩ := h; rfl
theorem len_names_told (vs : List V) (H : Hp) (Q : VK) (E : XK) (h : sp_names_told K A vs H Q E) : vs.length = 1 := by obtain ⟨_, _, rfl, _⟩ := h; rfl
theorem len_looked (vs : List V) (H : Hp) (Q : VK) (E : XK) (h : sp_looked K CA vs H Q E) : vs.length = 2 := by obtain ⟨_, _, _, _, _, _, _, _, _, _, _, rfl, _⟩ := h; rfl
theorem name_short {z : Str} (h : isName z = true) : short (.str z) := (name_ok h).len
theorem r_name_told (vs : List V) (H : Hp) (Q : VK) (E : XK) (h : sp_name_told K A vs H Q E) : t_name_told K A E { nx := fun _ H' => Q .non H', rt := Q } (L2.start ["name"] vs) H := by
  obtain ⟨z, rfl, hz, k⟩ := h
  unfold t_name_told
  refine q_when (b := false) (et_is (et_not (et_B (ev_spB (g := isNameD) (pre := short) (ed_s (ev_var rfl)) (name_short hz)))) (by show (!isName z) = false; rw [hz]; rfl)) (fun hb => nomatch hb) fun _ H1 e1 => ?_
  exact s_ret (ev_var rfl) fun H2 e2 => k H2 (e1.trans e2)
theorem r_names_told (vs : List V) (H : Hp) (Q : VK) (E : XK) (h : sp_names_told K A vs H Q E) : t_names_told K A E { nx := fun _ H' => Q .non H', rt := Q } (L2.start ["names", "name"] vs) H := by
  obtain ⟨p, zs, rfl, hp, hl, hz, k⟩ := h
  unfold t_names_told
  have ln : Ev (tCB (rLenA K) (tCons (tVar 0) tNil)) (L2.start ["names", "name"] [.ref p]) H (.int (zs.length : Int)) := by
    have := ev_lenV (K := K) (ta := tVar 0) (σ := L2.start ["names", "name"] [.ref p]) (H := H) (ev_var rfl) (rc_lenL (SqL.of hp))
    rwa [List.length_map] at this
  refine q_when (b := false) (et_is (et_or (et_not (et_B (ev_isi (ev_var rfl) (n := "list") (by show tyO (H p) = _; rw [hp]; rfl)))) fun _ => et_test (ev_op ln ev_c rv_gt)) (by
    show (!(isiB "list" "list") || decide ((6 : Int) < (zs.length : Int))) = false
    rw [decide_eq_false (by omega)]
    rfl)) (fun hb => nomatch hb) fun _ H1 e1 => ?_
  have el := el_lcL (K := K) (t := tYes) (te := tCall (sp_name_told K A) [] E0 (tCons (tVar 1) tNil)) (j := 1) (vs := [1]) (fun _ => true) (fun i => (zs.map V.str).getD i .non) (tl := tVar 0) (σ := L2.start ["names", "name"] [.ref p]) (H := H1) (ev_var rfl) (SqL.of (e1 _ _ hp)) (by rw [List.length_map]; omega) (fun _ => rfl)
    (fun _ _ _ _ _ => fun H2 _ Q q => q H2 (Ex.refl H2)) (fun i x H2 e2 hi _ => by
      have e : (zs.map V.str).getD i .non = x := by rw [List.getD, hi]; rfl
      rw [e]
      rw [List.getElem?_map] at hi
      cases hq : zs[i]? with
      | none => rw [hq] at hi; cases hi
      | some z =>
        rw [hq] at hi
        cases hi
        exact ev_call (vs := [.str z]) (ea_cons (ev_var rfl) ea_nil) fun H3 e3 Q q E => ⟨z, rfl, hz z (List.mem_of_getElem? hq), fun H4 e4 => q H4 e4⟩)
  have eg : given (zs.map V.str).length (fun _ => true) (fun i => (zs.map V.str).getD i .non) = zs.map V.str := by
    unfold given
    rw [List.filter_eq_self.mpr (fun _ _ => rfl)]
    refine List.ext_getElem (by simp) fun i h1 h2 => ?_
    rw [List.getElem_map, List.getElem_range, List.getD, List.getElem?_eq_getElem h2]
    rfl
  rw [eg] at el
  exact s_retL el fun p2 H2 hp2 e2 h2 => k p2 H2 (fresh_back e1 hp2) (e1.trans e2) h2
theorem r_looked (hc : CAst CA) (vs : List V) (H : Hp) (Q : VK) (E : XK) (h : sp_looked K CA vs H Q E) : t_looked K CA E { nx := fun _ H' => Q .non H', rt := Q } (L2.start ["look", "cells", "found", "table", "column", "place", "value"] vs) H := by
  obtain ⟨f, c, xs, ss, T, Rv, J, W, Dom, F, l, rfl, ca, AK, hx, hcF, hs, hd, j0, hl, k⟩ := h
  unfold t_looked
  refine q_asgL (el_lst ea_nil (by decide)) fun p H1 hp e1 h1 => ?_
  have pF : p ∉ F := AK.off j0 hp
  have pR : p ∉ Rv := AK.offR j0 hp
  refine q_forL (ev_var rfl) (SqL.of (e1 _ _ hx)) (fun i σ H' => ∃ (x3 x4 x5 x6 : Option V) (F' : List Addr) (is : List Int), σ = [some (.ref f), some (.ref c), some (.ref p), x3, x4, x5, x6] ∧ Step T F H F' H' ∧ J F' (l ++ ss.take i) H' ∧ (ss.take i).map W = is.map Sum.inl ∧ H' p = some (.lst (is.map V.int)) ∧ p ∉ F' ∧ c ∉ F')
    (fun H2 e2 => ⟨_, _, _, _, F, [], rfl, Step.of (e1.trans e2), by rw [List.take_zero, List.append_nil]; exact AK.ex j0 (e1.trans e2), rfl, e2 _ _ h1, pF, hcF⟩) (fun i σ H' _ ⟨_, _, _, _, F', _, _, st, _, _, _, _, cF⟩ => SqL.of (st.x.k c _ hx hcF fun _ z => nomatch z)) ?_ ?_
  · rintro i x σ H2 hi ⟨x3, x4, x5, x6, F2, is, rfl, st, j2, hW, hp2, pF2, cF2⟩
    obtain ⟨s, hsi, hat⟩ := (hs.tup st.x.i.tup).at hi
    refine g_spot hat ?_
    have ds := hd s (List.mem_of_getElem? hsi)
    have hlen : i < ss.length := (List.getElem?_eq_some_iff.mp hsi).1
    have tk : ss.take (i + 1) = ss.take i ++ [s] := by rw [List.take_add_one, hsi]; rfl
    have lis : is.length = i := by
      have := congrArg List.length hW
      rw [List.length_map, List.length_map, List.length_take] at this
      omega
    refine q_lookC hc AK rfl (hc _ _ _ _ ca st.x.i.kp) (ea_cons (ev_var rfl) (ea_cons (ev_var rfl) (ea_cons (ev_var rfl) ea_nil))) ds (by rw [List.length_append, List.length_take]; omega) j2 fun v F3 H3 st3 rv j3 => ?_
    have ok := AK.ok s ds
    have st13 := st.trans st3
    have hp3 : H3 p = some (.lst (is.map V.int)) := st3.x.k p _ hp2 pF2 fun _ z => nomatch z
    have pF3 := Step.off pF2 hp2 st3
    have cF3 : c ∉ F3 := fun z => (st13.f c z).elim hcF fun q => by rw [hx] at q; cases q
    refine q_when (et_B (ev_isflt (ev_var rfl) rv ok)) (fun hb H4 e4 => ?_) (fun hb H4 e4 => ?_)
    · obtain ⟨w, hw⟩ : ∃ w, W s = .inr w := by
        cases q : W s with
        | inl i => rw [q] at hb; cases hb
        | inr w => exact ⟨w, rfl⟩
      have tf := turn_flt hW hsi hw
      refine s_retU (eu_tup (ea_cons ev_c (ea_cons (ev_var rfl) ea_nil)) (show 2 ≤ 100000 by decide)) fun a H5 _ e5 h5 => ?_
      refine k _ F3 H5 (st13.trans (Step.of (e4.trans e5))) ?_ ?_
      · rw [tf]
        have := AK.ex j3 (e4.trans e5)
        rwa [List.append_assoc] at this
      · rw [tf]
        rw [hw] at rv
        exact ⟨a, v, rfl, h5, rv.tup (.of_ex (e4.trans e5))⟩
    · obtain ⟨n, hw⟩ : ∃ n, W s = .inl n := by
        cases q : W s with
        | inl i => exact ⟨i, rfl⟩
        | inr w => rw [q] at hb; cases hb
      rw [hw] at rv
      obtain rfl : v = .int n := by cases rv; rfl
      refine s_app (e4 _ _ hp3) (ev_var rfl) (ev_var rfl) (by rw [List.length_map]; omega) fun H5 e5 => ?_
      have e45 := e4.trans e5
      refine ⟨_, _, _, _, F3, is ++ [n], rfl, (st13.trans (Step.of e45)).updN hp (e45 _ _ hp3) (fun z => z) (fun _ z => nomatch z), ?_, ?_, ?_, pF3, cF3⟩
      · rw [tk, ← List.append_assoc]
        exact AK.upd (AK.ex j3 e45) pF3 pR (e45 _ _ hp3) (fun z => z) fun _ z => nomatch z
      · rw [tk, List.map_append, List.map_append, hW, List.map_cons, hw]
        rfl
      · rw [List.map_append]
        exact upd_same
  · rintro σ H2 ⟨x3, x4, x5, x6, F2, is, rfl, st, j2, hW, hp2, pF2, cF2⟩
    rw [hs.1, List.take_length] at j2 hW
    have ta := turn_all hW
    refine s_retU (eu_tup (ea_cons ev_c (ea_cons (ev_var rfl) ea_nil)) (show 2 ≤ 100000 by decide)) fun a H3 _ e3 h3 => ?_
    refine k _ F2 H3 (st.trans (Step.of e3)) ?_ ?_
    · rw [ta]
      exact AK.ex j2 e3
    · rw [ta]
      exact ⟨a, p, rfl, h3, e3 _ _ hp2, hp⟩
end
end Z

set_option Elab.async false
set_option linter.all false
set_option autoImplicit false
set_option maxRecDepth 100000
set_option maxHeartbeats 4000000
/-! ev: what an expression comes to, by its form -/
local macro_rules | `(tactic| k_places) => `(tactic| (repeat' (first
  | (with_reducible exact ev_c)
  | (with_reducible exact ev_var rfl)
  | (with_reducible refine ev_chainLL ?_ ?_ ?_)
  | (with_reducible refine ev_chainLt ?_ ?_ ?_)
  | (with_reducible refine ev_op ?_ ?_ ?_)
  | (with_reducible refine ev_neg ?_)
  | (with_reducible refine et_test ?_)
  | (with_reducible refine et_B ?_)
  | (with_reducible refine et_not ?_)
  | (with_reducible refine et_and ?_ (fun _ => ?_))
  | (with_reducible refine et_or ?_ (fun _ => ?_))
  | (with_reducible refine ev_andV ?_ (fun _ => ?_))
  | (with_reducible refine ev_orV ?_ (fun _ => ?_))
  | (with_reducible refine ev_notV ?_)
  | (with_reducible exact rv_addI)
  | (with_reducible exact rv_subI)
  | (with_reducible exact rv_lt)
  | (with_reducible exact rv_le)
  | (with_reducible exact rv_gt)
  | (with_reducible exact rv_ge)
  | (with_reducible exact rv_isB)
  | (with_reducible exact rv_isnB)
  | (with_reducible exact rv_isN)
  | (with_reducible exact rv_isnN)
  | (with_reducible exact rv_eqS rfl)
  | (with_reducible exact rv_neS rfl)
  | (with_reducible exact rv_inStr)
  | (with_reducible exact rv_ninStr)
  | (with_reducible exact rv_mod (by first | decide | omega | assumption))
  | (with_reducible exact rv_div (by first | decide | omega | assumption))
  | (with_reducible exact rv_pow (by decide))
  | (with_reducible refine ed_i ?_; done)
  | (with_reducible exact ea_nil)
  | (with_reducible refine ea_cons ?_ ?_)
  | (with_reducible exact eds_nil)
  | (with_reducible refine eds_cons ?_ ?_)
  | (with_reducible exact ed_dnew)
  | (with_reducible refine ed_lst ?_ (by simp only [List.length_cons, List.length_nil]; omega))
  | (with_reducible refine ed_tup ?_ (by simp only [List.length_cons, List.length_nil]; omega)))))
namespace Z
open PySem PySem.Spec PyProof.Rows L2 Evl NdefX LamX
/-! ### rules.py: the kinds of rules -/
def sp_Rule_init (K : PySem.W.Frag) : Sp := fun vs H Q _ => ∃ (a C dx : Addr) (fs : List (Str × V)) (v : V), vs = [.ref a, v] ∧ H a = some (.ins C dx fs) ∧ Cls K C ∧ NoAttr K C "function" ∧ fs.length < 900 ∧ ∀ H1, Ex H H1 → Q .non (L2.upd H1 a (.ins C dx (putF "function" v fs)))
def t_Rule_init (K : PySem.W.Frag) (E : XK) : TS := sFld K (tVar 0) (tVar 1) "function"
theorem len_Rule_init {K : PySem.W.Frag} (vs : List V) (H : Hp) (Q : VK) (E : XK) (h : sp_Rule_init K vs H Q E) : vs.length = 2 := by obtain ⟨_, _, _, _, _, rfl, _⟩ := h; rfl
theorem r_Rule_init {K : PySem.W.Frag} (vs : List V) (H : Hp) (Q : VK) (E : XK) (h : sp_Rule_init K vs H Q E) : t_Rule_init K E { nx := fun _ H' => Q .non H', rt := Q } (L2.start ["self", "function"] vs) H := by
  obtain ⟨a, C, dx, fs, v, rfl, ha, c, n, hl, k⟩ := h
  unfold t_Rule_init
  exact ev_var rfl H (Ex.refl H) _ fun H1 e1 => ev_var rfl H1 (Ex.refl H1) _ fun H2 e2 => ⟨a, C, dx, fs, rfl, (e1.trans e2) _ _ ha, c, n, by omega, k H2 (e1.trans e2)⟩
section
variable {K : PySem.W.Frag} {A : Cn → Addr} {CA : Hp → Addr → Sp → Prop} {σ : L2.St} {H : Hp} {D : Ends} {tz : TS} {ta tb tv te : TE} {a dx C : Addr} {fs : List (Str × V)} {ns : List Str} {v : V}
theorem q_ruleInit {E : L2.St → XK} (h1 : Ev ta σ H (.ref a)) (h2 : Ev tb σ H v) (hi : H a = some (.ins C dx fs)) (c : ClK K C ns) (hf : ("function" : Str) ∈ ns) (hl : fs.length < 900) (k : ∀ H1, Ex H H1 → tz D σ (L2.upd H1 a (.ins C dx (putF "function" v fs)))) :
    tSeq (tDrop (tCallS (sp_Rule_init K) E (tCons ta (tCons tb tNil)))) tz D σ H :=
  h1 H (Ex.refl H) _ fun H1 e1 => h2 H1 e1 _ fun H2 e2 => ⟨a, C, dx, fs, v, rfl, (e1.trans e2) _ _ hi, c.cl, c.na _ hf, hl, fun H3 e3 => k H3 ((e1.trans e2).trans e3)⟩
theorem ev_nameTold {z : Str} {E : L2.St → XK} (h : Ev te σ H (.str z)) (hz : isName z = true) : Ev (tCallS (sp_name_told K A) E (tCons te tNil)) σ H (.str z) := ev_callS (ea_cons h ea_nil) fun H1 _ Q q E => ⟨z, rfl, hz, fun H2 e2 => q H2 e2⟩
theorem el_namesTold {p : Addr} {zs : List Str} {E : L2.St → XK} (h : Ev te σ H (.ref p)) (hp : H p = some (.lst (zs.map V.str))) (hl : zs.length ≤ 6) (hz : ∀ z ∈ zs, isName z = true) : EvL (tCallS (sp_names_told K A) E (tCons te tNil)) σ H (zs.map V.str) := fun H1 e Q q =>
  h H1 e _ fun H2 e2 => ⟨p, zs, rfl, (e.trans e2) _ _ hp, hl, hz, fun p2 H3 hp2 e3 h3 => q p2 H3 (fresh_back e2 hp2) (e2.trans e3) h3⟩
theorem s_fldL {xs : List V} (hv : EvL tv σ H xs) (ha : Ev ta σ H (.ref a)) (hi : H a = some (.ins C dx fs)) (c : ClK K C ns) {f : Str} (hf : f ∈ ns) (hl : fs.length < 1000) (k : ∀ p H1, H p = none → Ex H H1 → H1 p = some (.lst xs) → D.nx σ (L2.upd H1 a (.ins C dx (putF f (.ref p) fs)))) : sFld K ta tv f D σ H :=
  hv H (Ex.refl H) _ fun p H1 hp e1 h1 => ha H1 e1 _ fun H2 e2 => ⟨a, C, dx, fs, rfl, (e1.trans e2) _ _ hi, c.cl, c.na f hf, hl, k p H2 hp (e1.trans e2) (e2 _ _ h1)⟩
end
/-- a new instance of a kind of rule: its attributes, all else as it was -/
def Made (H : Hp) (a : Addr) (Q : VK) (P : Hp → Prop) : Prop := ∀ H', (∀ T, XB T [a] H H') → P H' → Q .non H'
def sp_Cells_init (K : PySem.W.Frag) (A : Cn → Addr) : Sp := fun vs H Q _ => ∃ (a dx p : Addr) (zs : List Str) (v : V), vs = [.ref a, .ref p, v] ∧ H a = some (.ins (A .Cells) dx []) ∧ H p = some (.lst (zs.map V.str)) ∧ zs.length ≤ 6 ∧ (∀ z ∈ zs, isName z = true) ∧
  Made H a Q fun H' => ∃ np, H np = none ∧ H' np = some (.lst (zs.map V.str)) ∧ H' a = some (.ins (A .Cells) dx [("function", v), ("names", .ref np)])
def sp_Above_init (K : PySem.W.Frag) (A : Cn → Addr) : Sp := fun vs H Q _ => ∃ (a dx p : Addr) (zs : List Str) (v : V) (i : Int), vs = [.ref a, .int i, .ref p, v] ∧ H a = some (.ins (A .Above) dx []) ∧ H p = some (.lst (zs.map V.str)) ∧ zs.length ≤ 6 ∧ (∀ z ∈ zs, isName z = true) ∧ (-(10 ^ 60) < i ∧ i < 10 ^ 60) ∧
  Made H a Q fun H' => ∃ np, H np = none ∧ H' np = some (.lst (zs.map V.str)) ∧ H' a = some (.ins (A .Above) dx [("function", v), ("names", .ref np), ("first", .int i)])
def sp_Group_init (K : PySem.W.Frag) (A : Cn → Addr) : Sp := fun vs H Q _ => ∃ (a dx : Addr) (y z : Str) (v : V), vs = [.ref a, .str y, .str z, v] ∧ H a = some (.ins (A .Group) dx []) ∧ isName y = true ∧ isName z = true ∧
  Made H a Q fun H' => H' a = some (.ins (A .Group) dx [("function", v), ("key", .str y), ("name", .str z)])
def sp_Lookup_init (K : PySem.W.Frag) (A : Cn → Addr) : Sp := fun vs H Q _ => ∃ (a dx p : Addr) (zs : List Str) (x y z : Str) (v : V), vs = [.ref a, .str x, .str y, .str z, .ref p, v] ∧ H a = some (.ins (A .Lookup) dx []) ∧ H p = some (.lst (zs.map V.str)) ∧ zs.length ≤ 6 ∧ (∀ z ∈ zs, isName z = true) ∧ (isName x = true ∧ isName y = true ∧ isName z = true) ∧
  Made H a Q fun H' => ∃ np, H np = none ∧ H' np = some (.lst (zs.map V.str)) ∧ H' a = some (.ins (A .Lookup) dx [("function", v), ("key", .str x), ("other", .str y), ("theirs", .str z), ("names", .ref np)])
def sp_Mend_init (K : PySem.W.Frag) (A : Cn → Addr) : Sp := fun vs H Q _ => ∃ (a dx : Addr) (z : Str) (v : V), vs = [.ref a, .str z, v] ∧ H a = some (.ins (A .Mend) dx []) ∧ isName z = true ∧
  Made H a Q fun H' => H' a = some (.ins (A .Mend) dx [("function", v), ("name", .str z)])
def t_Cells_init (K : PySem.W.Frag) (A : Cn → Addr) (E : XK) : TS :=
  tSeq (tDrop (tCallS (sp_Rule_init K) (WE (fun cls d _ H => E cls d H)) (tCons (tVar 0) (tCons (tVar 2) tNil))))
    (sFld K (tVar 0) (tCallS (sp_names_told K A) (WE (fun cls d _ H => E cls d H)) (tCons (tVar 1) tNil)) "names")
def t_Above_init (K : PySem.W.Frag) (A : Cn → Addr) (E : XK) : TS :=
  tSeq (tDrop (tCallS (sp_Rule_init K) (WE (fun cls d _ H => E cls d H)) (tCons (tVar 0) (tCons (tVar 3) tNil))))
    (tSeq (sFld K (tVar 0) (tCallS (sp_names_told K A) (WE (fun cls d _ H => E cls d H)) (tCons (tVar 2) tNil)) "names")
    (tSeq (tIfS (tNot (tB (tCallS (sp_is_number K) (WE (fun cls d _ H => E cls d H)) (tCons (tVar 1) tNil)))) (tRaiseA (fun cls d _ H => E cls d H) (A .NoValue)) tNext)
    (sFld K (tVar 0) (tVar 1) "first")))
def t_Group_init (K : PySem.W.Frag) (A : Cn → Addr) (E : XK) : TS :=
  tSeq (tDrop (tCallS (sp_Rule_init K) (WE (fun cls d _ H => E cls d H)) (tCons (tVar 0) (tCons (tVar 3) tNil))))
    (tSeq (sFld K (tVar 0) (tCallS (sp_name_told K A) (WE (fun cls d _ H => E cls d H)) (tCons (tVar 1) tNil)) "key")
    (sFld K (tVar 0) (tCallS (sp_name_told K A) (WE (fun cls d _ H => E cls d H)) (tCons (tVar 2) tNil)) "name"))
def t_Lookup_init (K : PySem.W.Frag) (A : Cn → Addr) (E : XK) : TS :=
  tSeq (tDrop (tCallS (sp_Rule_init K) (WE (fun cls d _ H => E cls d H)) (tCons (tVar 0) (tCons (tVar 5) tNil))))
    (tSeq (sFld K (tVar 0) (tCallS (sp_name_told K A) (WE (fun cls d _ H => E cls d H)) (tCons (tVar 1) tNil)) "key")
    (tSeq (sFld K (tVar 0) (tCallS (sp_name_told K A) (WE (fun cls d _ H => E cls d H)) (tCons (tVar 2) tNil)) "other")
    (tSeq (sFld K (tVar 0) (tCallS (sp_name_told K A) (WE (fun cls d _ H => E cls d H)) (tCons (tVar 3) tNil)) "theirs")
    (sFld K (tVar 0) (tCallS (sp_names_told K A) (WE (fun cls d _ H => E cls d H)) (tCons (tVar 4) tNil)) "names"))))
def t_Mend_init (K : PySem.W.Frag) (A : Cn → Addr) (E : XK) : TS :=
  tSeq (tDrop (tCallS (sp_Rule_init K) (WE (fun cls d _ H => E cls d H)) (tCons (tVar 0) (tCons (tVar 2) tNil))))
    (sFld K (tVar 0) (tCallS (sp_name_told K A) (WE (fun cls d _ H => E cls d H)) (tCons (tVar 1) tNil)) "name")
section
variable {K : PySem.W.Frag} {A : Cn → Addr}
theorem len_Cells_init (vs : List V) (H : Hp) (Q : VK) (E : XK) (h : sp_Cells_init K A vs H Q E) : vs.length = 3 := by obtain ⟨_, _, _, _, _, rfl, _⟩ := h; rfl
theorem len_Above_init (vs : List V) (H : Hp) (Q : VK) (E : XK) (h : sp_Above_init K A vs H Q E) : vs.length = 4 := by obtain ⟨_, _, _, _, _, _, rfl, _⟩ := h; rfl
theorem len_Group_init (vs : List V) (H : Hp) (Q : VK) (E : XK) (h : sp_Group_init K A vs H Q E) : vs.length = 4 := by obtain ⟨_, _, _, _, _, rfl, _⟩ := h; rfl
theorem len_Lookup_init (vs : List V) (H : Hp) (Q : VK) (E : XK) (h : sp_Lookup_init K A vs H Q E) : vs.length = 6 := by obtain ⟨_, _, _, _, _, _, _, _, rfl, _⟩ := h; rfl
theorem len_Mend_init (vs : List V) (H : Hp) (Q : VK) (E : XK) (h : sp_Mend_init K A vs H Q E) : vs.length = 3 := by obtain ⟨_, _, _, _, rfl, _⟩ := h; rfl
theorem XB.ins {T : List (Addr × Str)} {H H1 H2 : Hp} {a C dx : Addr} {fs : List (Str × V)} {u : HO} (x : XB T [a] H H1) (e : Ex H1 H2) (h : H1 a = some (.ins C dx fs)) : XB T [a] H (L2.upd H2 a u) :=
  (x.trans (XB.of e)).trans (XB.upd (e _ _ h) (fun z => z) (fun _ z => nomatch z) (List.mem_singleton.mpr rfl))
theorem r_Cells_init (fx : ClK K (A .Cells) ["function", "names"]) (vs : List V) (H : Hp) (Q : VK) (E : XK) (h : sp_Cells_init K A vs H Q E) : t_Cells_init K A E { nx := fun _ H' => Q .non H', rt := Q } (L2.start ["self", "names", "function"] vs) H := by
  obtain ⟨a, dx, p, zs, v, rfl, ha, hp, hl, hz, k⟩ := h
  unfold t_Cells_init
  have pa : p ≠ a := ne_of hp ha fun z => nomatch z
  refine q_ruleInit (ev_var rfl) (ev_var rfl) ha fx (by decide) (show 0 < 900 by decide) fun H1 e1 => ?_
  refine s_fldL (el_namesTold (ev_var rfl) ((upd_ne pa).trans (e1 _ _ hp)) hl hz) (ev_var rfl) upd_same fx (by decide) (show 1 < 1000 by decide) fun np H2 hn e2 h2 => ?_
  have na : np ≠ a := fun z => by rw [z, upd_same] at hn; cases hn
  exact k _ (fun T => (XB.ins (.of (Ex.refl H)) e1 ha).ins e2 upd_same) ⟨np, fresh_back e1 ((upd_ne na).symm.trans hn), (upd_ne na).trans h2, upd_same⟩
theorem r_Above_init (fx : ClK K (A .Above) ["function", "names", "first"]) (vs : List V) (H : Hp) (Q : VK) (E : XK) (h : sp_Above_init K A vs H Q E) : t_Above_init K A E { nx := fun _ H' => Q .non H', rt := Q } (L2.start ["self", "first", "names", "function"] vs) H := by
  obtain ⟨a, dx, p, zs, v, i, rfl, ha, hp, hl, hz, hi, k⟩ := h
  unfold t_Above_init
  have pa : p ≠ a := ne_of hp ha fun z => nomatch z
  refine q_ruleInit (ev_var rfl) (ev_var rfl) ha fx (by decide) (show 0 < 900 by decide) fun H1 e1 => ?_
  refine s_fldL (D := { nx := _, rt := Q }) (el_namesTold (ev_var rfl) ((upd_ne pa).trans (e1 _ _ hp)) hl hz) (ev_var rfl) upd_same fx (by decide) (show 1 < 1000 by decide) fun np H2 hn e2 h2 => ?_
  have na : np ≠ a := fun z => by rw [z, upd_same] at hn; cases hn
  refine q_when (b := false) (et_is (et_not (et_B (ev_spB (g := isNumD) (pre := fun _ => True) (ed_i (ev_var rfl)) True.intro))) (by rw [isNum_iff, decide_eq_true hi]; rfl)) (fun hb => nomatch hb) fun _ H3 e3 => ?_
  refine s_fld (ev_var rfl) (ev_var rfl) (e3 _ _ upd_same) fx (by decide) (show 2 < 1000 by decide) fun H4 e4 => ?_
  exact k _ (fun T => ((XB.ins (.of (Ex.refl H)) e1 ha).ins e2 upd_same).ins (e3.trans e4) upd_same) ⟨np, fresh_back e1 ((upd_ne na).symm.trans hn), (upd_ne na).trans ((e3.trans e4) _ _ ((upd_ne na).trans h2)), upd_same⟩
theorem r_Group_init (fx : ClK K (A .Group) ["function", "key", "name"]) (vs : List V) (H : Hp) (Q : VK) (E : XK) (h : sp_Group_init K A vs H Q E) : t_Group_init K A E { nx := fun _ H' => Q .non H', rt := Q } (L2.start ["self", "key", "name", "function"] vs) H := by
  obtain ⟨a, dx, y, z, v, rfl, ha, hy, hz, k⟩ := h
  unfold t_Group_init
  refine q_ruleInit (ev_var rfl) (ev_var rfl) ha fx (by decide) (show 0 < 900 by decide) fun H1 e1 => ?_
  refine q_fld (ev_nameTold (ev_var rfl) hy) (ev_var rfl) upd_same fx (by decide) (show 1 < 1000 by decide) fun H2 e2 => ?_
  refine s_fld (ev_nameTold (ev_var rfl) hz) (ev_var rfl) upd_same fx (by decide) (show 2 < 1000 by decide) fun H3 e3 => ?_
  exact k _ (fun T => ((XB.ins (.of (Ex.refl H)) e1 ha).ins e2 upd_same).ins e3 upd_same) upd_same
theorem r_Lookup_init (fx : ClK K (A .Lookup) ["function", "key", "other", "theirs", "names"]) (vs : List V) (H : Hp) (Q : VK) (E : XK) (h : sp_Lookup_init K A vs H Q E) :
    t_Lookup_init K A E { nx := fun _ H' => Q .non H', rt := Q } (L2.start ["self", "key", "other", "theirs", "names", "function"] vs) H := by
  obtain ⟨a, dx, p, zs, x, y, z, v, rfl, ha, hp, hl, hz, ⟨n1, n2, n3⟩, k⟩ := h
  unfold t_Lookup_init
  have pa : p ≠ a := ne_of hp ha fun z => nomatch z
  refine q_ruleInit (ev_var rfl) (ev_var rfl) ha fx (by decide) (show 0 < 900 by decide) fun H1 e1 => ?_
  refine q_fld (ev_nameTold (ev_var rfl) n1) (ev_var rfl) upd_same fx (by decide) (show 1 < 1000 by decide) fun H2 e2 => ?_
  refine q_fld (ev_nameTold (ev_var rfl) n2) (ev_var rfl) upd_same fx (by decide) (show 2 < 1000 by decide) fun H3 e3 => ?_
  refine q_fld (ev_nameTold (ev_var rfl) n3) (ev_var rfl) upd_same fx (by decide) (show 3 < 1000 by decide) fun H4 e4 => ?_
  have x4 := fun T => ((XB.ins (T := T) (.of (Ex.refl H)) e1 ha).ins (u := .ins (A .Lookup) dx [("function", v), ("key", .str x)]) e2 upd_same).ins (u := .ins (A .Lookup) dx [("function", v), ("key", .str x), ("other", .str y)]) e3 upd_same
  have x5 := fun T => (x4 T).ins (u := .ins (A .Lookup) dx [("function", v), ("key", .str x), ("other", .str y), ("theirs", .str z)]) e4 upd_same
  refine s_fldL (el_namesTold (ev_var rfl) ((x5 []).k p _ hp (by simpa using pa) fun _ z => nomatch z) hl hz) (ev_var rfl) upd_same fx (by decide) (show 4 < 1000 by decide) fun np H5 hn e5 h5 => ?_
  have na : np ≠ a := fun z => by rw [z, upd_same] at hn; cases hn
  exact k _ (fun T => (x5 T).ins e5 upd_same) ⟨np, (x5 []).n _ hn, (upd_ne na).trans h5, upd_same⟩
theorem r_Mend_init (fx : ClK K (A .Mend) ["function", "name"]) (vs : List V) (H : Hp) (Q : VK) (E : XK) (h : sp_Mend_init K A vs H Q E) : t_Mend_init K A E { nx := fun _ H' => Q .non H', rt := Q } (L2.start ["self", "name", "function"] vs) H := by
  obtain ⟨a, dx, z, v, rfl, ha, hz, k⟩ := h
  unfold t_Mend_init
  refine q_ruleInit (ev_var rfl) (ev_var rfl) ha fx (by decide) (show 0 < 900 by decide) fun H1 e1 => ?_
  refine s_fld (ev_nameTold (ev_var rfl) hz) (ev_var rfl) upd_same fx (by decide) (show 1 < 1000 by decide) fun H2 e2 => ?_
  exact k _ (fun T => (XB.ins (.of (Ex.refl H)) e1 ha).ins e2 upd_same) upd_same
end
end Z

set_option Elab.async false
set_option linter.all false
set_option autoImplicit false
set_option maxRecDepth 100000
set_option maxHeartbeats 4000000
/-! ev: what an expression comes to, by its form -/
local macro_rules | `(tactic| k_places) => `(tactic| (repeat' (first
  | (with_reducible exact ev_c)
  | (with_reducible exact ev_var rfl)
  | (with_reducible refine ev_chainLL ?_ ?_ ?_)
  | (with_reducible refine ev_chainLt ?_ ?_ ?_)
  | (with_reducible refine ev_op ?_ ?_ ?_)
  | (with_reducible refine ev_neg ?_)
  | (with_reducible refine et_test ?_)
  | (with_reducible refine et_B ?_)
  | (with_reducible refine et_not ?_)
  | (with_reducible refine et_and ?_ (fun _ => ?_))
  | (with_reducible refine et_or ?_ (fun _ => ?_))
  | (with_reducible refine ev_andV ?_ (fun _ => ?_))
  | (with_reducible refine ev_orV ?_ (fun _ => ?_))
  | (with_reducible refine ev_notV ?_)
  | (with_reducible exact rv_addI)
  | (with_reducible exact rv_subI)
  | (with_reducible exact rv_lt)
  | (with_reducible exact rv_le)
  | (with_reducible exact rv_gt)
  | (with_reducible exact rv_ge)
  | (with_reducible exact rv_isB)
  | (with_reducible exact rv_isnB)
  | (with_reducible exact rv_isN)
  | (with_reducible exact rv_isnN)
  | (with_reducible exact rv_eqS rfl)
  | (with_reducible exact rv_neS rfl)
  | (with_reducible exact rv_inStr)
  | (with_reducible exact rv_ninStr)
  | (with_reducible exact rv_mod (by first | decide | omega | assumption))
  | (with_reducible exact rv_div (by first | decide | omega | assumption))
  | (with_reducible exact rv_pow (by decide))
  | (with_reducible refine ed_i ?_; done)
  | (with_reducible exact ea_nil)
  | (with_reducible refine ea_cons ?_ ?_)
  | (with_reducible exact eds_nil)
  | (with_reducible refine eds_cons ?_ ?_)
  | (with_reducible exact ed_dnew)
  | (with_reducible refine ed_lst ?_ (by simp only [List.length_cons, List.length_nil]; omega))
  | (with_reducible refine ed_tup ?_ (by simp only [List.length_cons, List.length_nil]; omega)))))
namespace Z
open PySem PySem.Spec PyProof.Rows L2 Evl NdefX LamX
/-! ### what the kinds of rules gather -/
def pre (is : List Int) (sp : List Spot) (r : Res × List Spot) : Res × List Spot := (match r.1 with | .call js => .call (is ++ js) | .val x => .val x, sp ++ r.2)
theorem pre_pre {is js : List Int} {sp tp : List Spot} {r : Res × List Spot} : pre is sp (pre js tp r) = pre (is ++ js) (sp ++ tp) r := by
  obtain ⟨a, b⟩ := r
  cases a <;> simp [pre]
theorem pre_nil {r : Res × List Spot} : pre [] [] r = r := by
  obtain ⟨a, b⟩ := r
  cases a <;> simp [pre]
theorem pre_end {is : List Int} {sp : List Spot} : pre is sp (.call [], []) = (.call is, sp) := by simp [pre]
theorem pre_val {is : List Int} {sp l : List Spot} {x : Val} : pre is sp (.val x, l) = (.val x, sp ++ l) := rfl
def gCells (W : Spot → Val) (t : Str) (zs : List Str) (p : Int) : Res × List Spot := turn W (zs.map fun z => (t, z, p))
def gAbove (W : Spot → Val) (first : Int) (t c : Str) (zs : List Str) (p : Int) : Res × List Spot := if 0 < p then turn W ((t, c, p - 1) :: zs.map fun z => (t, z, p)) else pre [first] [] (turn W (zs.map fun z => (t, z, p)))
def grp (W : Spot → Val) (t key name : Str) (m : Int) : List Nat → Res × List Spot
  | [] => (.call [], [])
  | i :: r => if W (t, key, (i : Int)) = .inl m then (match W (t, name, (i : Int)) with
      | .inr w => (.val (.inr w), [(t, key, (i : Int)), (t, name, (i : Int))])
      | .inl x => pre [x] [(t, key, (i : Int)), (t, name, (i : Int))] (grp W t key name m r)) else pre [] [(t, key, (i : Int))] (grp W t key name m r)
def gGroup (W : Spot → Val) (R : Str → Nat) (t key name : Str) (p : Int) : Res × List Spot := match W (t, key, p) with
  | .inr w => (.val (.inr w), [(t, key, p)])
  | .inl m => pre [] [(t, key, p)] (grp W t key name m (List.range (R t)))
def lkp (W : Spot → Val) (o theirs : Str) (zs : List Str) (m : Int) : List Nat → Res × List Spot
  | [] => (.val (.inr "lacks"), [])
  | i :: r => pre [] [(o, theirs, (i : Int))] (if W (o, theirs, (i : Int)) = .inl m then turn W (zs.map fun z => (o, z, (i : Int))) else lkp W o theirs zs m r)
def gLookup (W : Spot → Val) (R : Str → Nat) (t key o theirs : Str) (zs : List Str) (p : Int) : Res × List Spot := match W (t, key, p) with
  | .inr w => (.val (.inr w), [(t, key, p)])
  | .inl m => pre [] [(t, key, p)] (lkp W o theirs zs m (List.range (R o)))
def gMend (W : Spot → Val) (t name : Str) (p : Int) : Res × List Spot := match W (t, name, p) with
  | .inr _ => (.call [], [(t, name, p)])
  | .inl i => (.val (.inl i), [(t, name, p)])
/-- the attribute of an instance -/
def Fld (H : Hp) (C a : Addr) (f : Str) (v : V) : Prop := ∃ dx fs, H a = some (.ins C dx fs) ∧ fs.lookup f = some v
theorem Fld.ex {H H' : Hp} {C a : Addr} {f : Str} {v : V} (h : Fld H C a f v) (e : Ex H H') : Fld H' C a f v := let ⟨dx, fs, a1, b⟩ := h; ⟨dx, fs, e _ _ a1, b⟩
theorem Fld.step {T : List (Addr × Str)} {F F' : List Addr} {H H' : Hp} {C a : Addr} {f : Str} {v : V} (h : Fld H C a f v) (n : a ∉ F) (s : Step T F H F' H') : Fld H' C a f v := let ⟨dx, fs, a1, b⟩ := h; ⟨dx, fs, s.x.k _ _ a1 n (fun _ z => nomatch z), b⟩
theorem Fld.upd {H : Hp} {C a p : Addr} {f : Str} {v : V} {xs : List V} {u : HO} (h : Fld H C a f v) (hp : H p = some (.lst xs)) : Fld (L2.upd H p u) C a f v := let ⟨dx, fs, a1, b⟩ := h; ⟨dx, fs, (upd_ne (ne_of a1 hp fun z => nomatch z)).trans a1, b⟩
def gOut (T : List (Addr × Str)) (J : List Addr → List Spot → Hp → Prop) (F : List Addr) (l : List Spot) (H : Hp) (Q : VK) (r : Res × List Spot) : Prop := ∀ v F' H', Step T F H F' H' → J F' (l ++ r.2) H' → Got H H' v r.1 → Q v H'
/-- the callables, the looker's own, the names and places -/
structure GIn (CA : Hp → Addr → Sp → Prop) (T : List (Addr × Str)) (Rv : List Addr) (J : List Addr → List Spot → Hp → Prop) (W : Spot → Val) (Dom : Spot → Prop) (R : Str → Nat) (Tm : Str → Prop) (F : List Addr) (l : List Spot) (H : Hp) (a f m : Addr) : Prop where
  ca : CA H f (spLook T J W Dom)
  cm : CA H m (spMany J R Tm)
  ask : Ask T Rv J W Dom
  few : ∀ t, Tm t → R t ≤ 30
  j : J F l H
  len : l.length ≤ 900
  aF : a ∉ F
def sp_Cells_gather (K : PySem.W.Frag) (A : Cn → Addr) (CA : Hp → Addr → Sp → Prop) : Sp := fun vs H Q _ => ∃ (a f m np : Addr) (zs : List Str) (t c : Str) (p : Int) (T : List (Addr × Str)) (Rv : List Addr) (J : List Addr → List Spot → Hp → Prop) (W : Spot → Val) (Dom : Spot → Prop) (R : Str → Nat) (Tm : Str → Prop) (F : List Addr) (l : List Spot),
  vs = [.ref a, .ref f, .ref m, .str t, .str c, .int p] ∧ Fld H (A .Cells) a "names" (.ref np) ∧ H np = some (.lst (zs.map V.str)) ∧ zs.length ≤ 6 ∧ GIn CA T Rv J W Dom R Tm F l H a f m ∧ (∀ z ∈ zs, Dom (t, z, p)) ∧ gOut T J F l H Q (gCells W t zs p)
def sp_Above_gather (K : PySem.W.Frag) (A : Cn → Addr) (CA : Hp → Addr → Sp → Prop) : Sp := fun vs H Q _ => ∃ (a f m np : Addr) (zs : List Str) (t c : Str) (p first : Int) (T : List (Addr × Str)) (Rv : List Addr) (J : List Addr → List Spot → Hp → Prop) (W : Spot → Val) (Dom : Spot → Prop) (R : Str → Nat) (Tm : Str → Prop) (F : List Addr) (l : List Spot),
  vs = [.ref a, .ref f, .ref m, .str t, .str c, .int p] ∧ Fld H (A .Above) a "names" (.ref np) ∧ Fld H (A .Above) a "first" (.int first) ∧ H np = some (.lst (zs.map V.str)) ∧ zs.length ≤ 6 ∧ GIn CA T Rv J W Dom R Tm F l H a f m ∧ (∀ z ∈ zs, Dom (t, z, p)) ∧ (0 < p → Dom (t, c, p - 1)) ∧ gOut T J F l H Q (gAbove W first t c zs p)
def sp_Group_gather (K : PySem.W.Frag) (A : Cn → Addr) (CA : Hp → Addr → Sp → Prop) : Sp := fun vs H Q _ => ∃ (a f m : Addr) (t c key name : Str) (p : Int) (T : List (Addr × Str)) (Rv : List Addr) (J : List Addr → List Spot → Hp → Prop) (W : Spot → Val) (Dom : Spot → Prop) (R : Str → Nat) (Tm : Str → Prop) (F : List Addr) (l : List Spot),
  vs = [.ref a, .ref f, .ref m, .str t, .str c, .int p] ∧ Fld H (A .Group) a "key" (.str key) ∧ Fld H (A .Group) a "name" (.str name) ∧ GIn CA T Rv J W Dom R Tm F l H a f m ∧ Tm t ∧ Dom (t, key, p) ∧ (∀ i : Nat, i < R t → Dom (t, key, (i : Int)) ∧ Dom (t, name, (i : Int))) ∧ gOut T J F l H Q (gGroup W R t key name p)
def sp_Lookup_gather (K : PySem.W.Frag) (A : Cn → Addr) (CA : Hp → Addr → Sp → Prop) : Sp := fun vs H Q _ => ∃ (a f m np : Addr) (zs : List Str) (t c key o theirs : Str) (p : Int) (T : List (Addr × Str)) (Rv : List Addr) (J : List Addr → List Spot → Hp → Prop) (W : Spot → Val) (Dom : Spot → Prop) (R : Str → Nat) (Tm : Str → Prop) (F : List Addr) (l : List Spot),
  vs = [.ref a, .ref f, .ref m, .str t, .str c, .int p] ∧ Fld H (A .Lookup) a "key" (.str key) ∧ Fld H (A .Lookup) a "other" (.str o) ∧ Fld H (A .Lookup) a "theirs" (.str theirs) ∧ Fld H (A .Lookup) a "names" (.ref np) ∧ np ∉ F ∧ H np = some (.lst (zs.map V.str)) ∧ zs.length ≤ 6 ∧
  GIn CA T Rv J W Dom R Tm F l H a f m ∧ Tm o ∧ Dom (t, key, p) ∧ (∀ i : Nat, i < R o → Dom (o, theirs, (i : Int)) ∧ ∀ z ∈ zs, Dom (o, z, (i : Int))) ∧ gOut T J F l H Q (gLookup W R t key o theirs zs p)
def sp_Mend_gather (K : PySem.W.Frag) (A : Cn → Addr) (CA : Hp → Addr → Sp → Prop) : Sp := fun vs H Q _ => ∃ (a f m : Addr) (t c name : Str) (p : Int) (T : List (Addr × Str)) (Rv : List Addr) (J : List Addr → List Spot → Hp → Prop) (W : Spot → Val) (Dom : Spot → Prop) (R : Str → Nat) (Tm : Str → Prop) (F : List Addr) (l : List Spot),
  vs = [.ref a, .ref f, .ref m, .str t, .str c, .int p] ∧ Fld H (A .Mend) a "name" (.str name) ∧ GIn CA T Rv J W Dom R Tm F l H a f m ∧ Dom (t, name, p) ∧ gOut T J F l H Q (gMend W t name p)
def t_Cells_gather (K : PySem.W.Frag) (CA : Hp → Addr → Sp → Prop) (E : XK) : TS :=
  tRet (tCallS (sp_looked K CA) (WE (fun cls d _ H => E cls d H)) (tCons (tVar 1) (tCons (tLc (iList K (tFld K (tVar 0) "names")) (gName 6) tYes (tTup (tCons (tVar 3) (tCons (tVar 6) (tCons (tVar 5) tNil)))) [6]) tNil)))
def t_Above_gather (K : PySem.W.Frag) (CA : Hp → Addr → Sp → Prop) (E : XK) : TS :=
  tSeq (tAsg (tLc (iList K (tFld K (tVar 0) "names")) (gName 9) tYes (tTup (tCons (tVar 3) (tCons (tVar 9) (tCons (tVar 5) tNil)))) [9]) (gName 6))
    (tSeq (tIfS (tTest (tOp rGtA (tVar 5) (tC (.int 0)))) (tRet (tCallS (sp_looked K CA) (WE (fun cls d _ H => E cls d H)) (tCons (tVar 1) (tCons (tOp (rAddA K) (tLst (tCons (tTup (tCons (tVar 3) (tCons (tVar 4) (tCons (tOp rSubA (tVar 5) (tC (.int 1))) tNil)))) tNil)) (tVar 6)) tNil)))) tNext)
    (tSeq (tAsg (tCallS (sp_looked K CA) (WE (fun cls d _ H => E cls d H)) (tCons (tVar 1) (tCons (tVar 6) tNil))) (gTup K 2 (gCons (gName 7) (gCons (gName 8) gNil))))
    (tSeq (tIfS (tTest (tOp (rEqA K) (tVar 7) (tC (.str "call")))) (tRet (tTup (tCons (tC (.str "call")) (tCons (tOp (rAddA K) (tLst (tCons (tFld K (tVar 0) "first") tNil)) (tVar 8)) tNil)))) tNext)
    (tRet (tTup (tCons (tVar 7) (tCons (tVar 8) tNil)))))))
def t_Group_gather (K : PySem.W.Frag) (CA : Hp → Addr → Sp → Prop) (E : XK) : TS :=
  tSeq (tAsg (tCallC CA 1 (tCons (tVar 3) (tCons (tFld K (tVar 0) "key") (tCons (tVar 5) tNil)))) (gName 6))
    (tSeq (tIfS (tB (tCallS (sp_is_fault K) (WE (fun cls d _ H => E cls d H)) (tCons (tVar 6) tNil))) (tRet (tTup (tCons (tC (.str "value")) (tCons (tVar 6) tNil)))) tNext)
    (tSeq (tAsg (tLst tNil) (gName 7))
    (tSeq (tFor (iRng1 (tCons (tCallC CA 2 (tCons (tVar 3) tNil)) tNil)) (gName 8) (tIfS (tTest (tOp (rEqA K) (tCallC CA 1 (tCons (tVar 3) (tCons (tFld K (tVar 0) "key") (tCons (tVar 8) tNil)))) (tVar 6))) (tSeq (tAsg (tCallC CA 1 (tCons (tVar 3) (tCons (tFld K (tVar 0) "name") (tCons (tVar 8) tNil)))) (gName 9))
    (tSeq (tIfS (tB (tCallS (sp_is_fault K) (WE (fun cls d _ H => E cls d H)) (tCons (tVar 9) tNil))) (tRet (tTup (tCons (tC (.str "value")) (tCons (tVar 9) tNil)))) tNext)
    (tDrop (tBM K "list" rAppend (tVar 7) (tCons (tVar 9) tNil))))) tNext))
    (tRet (tTup (tCons (tC (.str "call")) (tCons (tVar 7) tNil)))))))
def t_Lookup_gather (K : PySem.W.Frag) (A : Cn → Addr) (CA : Hp → Addr → Sp → Prop) (E : XK) : TS :=
  tSeq (tAsg (tCallC CA 1 (tCons (tVar 3) (tCons (tFld K (tVar 0) "key") (tCons (tVar 5) tNil)))) (gName 6))
    (tSeq (tIfS (tB (tCallS (sp_is_fault K) (WE (fun cls d _ H => E cls d H)) (tCons (tVar 6) tNil))) (tRet (tTup (tCons (tC (.str "value")) (tCons (tVar 6) tNil)))) tNext)
    (tSeq (tFor (iRng1 (tCons (tCallC CA 2 (tCons (tFld K (tVar 0) "other") tNil)) tNil)) (gName 7) (tIfS (tTest (tOp (rEqA K) (tCallC CA 1 (tCons (tFld K (tVar 0) "other") (tCons (tFld K (tVar 0) "theirs") (tCons (tVar 7) tNil)))) (tVar 6))) (tRet (tCallS (sp_looked K CA) (WE (fun cls d _ H => E cls d H)) (tCons (tVar 1) (tCons (tLc (iList K (tFld K (tVar 0) "names")) (gName 8) tYes (tTup (tCons (tFld K (tVar 0) "other") (tCons (tVar 8) (tCons (tVar 7) tNil)))) [8]) tNil)))) tNext))
    (tRet (tTup (tCons (tC (.str "value")) (tCons (tCallS (sp_fault K A) (WE (fun cls d _ H => E cls d H)) (tCons (tC (.str "lacks")) tNil)) tNil))))))
def t_Mend_gather (K : PySem.W.Frag) (CA : Hp → Addr → Sp → Prop) (E : XK) : TS :=
  tSeq (tAsg (tCallC CA 1 (tCons (tVar 3) (tCons (tFld K (tVar 0) "name") (tCons (tVar 5) tNil)))) (gName 6))
    (tSeq (tIfS (tB (tCallS (sp_is_fault K) (WE (fun cls d _ H => E cls d H)) (tCons (tVar 6) tNil))) (tRet (tTup (tCons (tC (.str "call")) (tCons (tLst tNil) tNil)))) tNext)
    (tRet (tTup (tCons (tC (.str "value")) (tCons (tVar 6) tNil)))))
section
variable {K : PySem.W.Frag} {A : Cn → Addr} {CA : Hp → Addr → Sp → Prop} {σ : L2.St} {H : Hp} {D : Ends} {tu tw tz : TS} {te ta : TE} {T : List (Addr × Str)} {Rv : List Addr} {J : List Addr → List Spot → Hp → Prop} {W : Spot → Val} {Dom : Spot → Prop} {R : Str → Nat} {Tm : Str → Prop} {F : List Addr} {l : List Spot} {a f m : Addr}
theorem len_Cells_gather (vs : List V) (H : Hp) (Q : VK) (E : XK) (h : sp_Cells_gather K A CA vs H Q E) : vs.length = 6 := by obtain ⟨_, _, _, _, _, _, _, _, _, _, _, _, _, _, _, _, _, rfl, _⟩ := h; rfl
theorem len_Above_gather (vs : List V) (H : Hp) (Q : VK) (E : XK) (h : sp_Above_gather K A CA vs H Q E) : vs.length = 6 := by obtain ⟨_, _, _, _, _, _, _, _, _, _, _, _, _, _, _, _, _, _, rfl, _⟩ := h; rfl
theorem len_Group_gather (vs : List V) (H : Hp) (Q : VK) (E : XK) (h : sp_Group_gather K A CA vs H Q E) : vs.length = 6 := by obtain ⟨_, _, _, _, _, _, _, _, _, _, _, _, _, _, _, _, _, rfl, _⟩ := h; rfl
theorem len_Lookup_gather (vs : List V) (H : Hp) (Q : VK) (E : XK) (h : sp_Lookup_gather K A CA vs H Q E) : vs.length = 6 := by obtain ⟨_, _, _, _, _, _, _, _, _, _, _, _, _, _, _, _, _, _, _, _, rfl, _⟩ := h; rfl
theorem len_Mend_gather (vs : List V) (H : Hp) (Q : VK) (E : XK) (h : sp_Mend_gather K A CA vs H Q E) : vs.length = 6 := by obtain ⟨_, _, _, _, _, _, _, _, _, _, _, _, _, _, _, _, rfl, _⟩ := h; rfl
theorem ev_Fld {C : Addr} {ns : List Str} {x : Str} {v : V} (h : Fld H C a x v) (c : ClK K C ns) (hf : x ∈ ns) (ha : Ev ta σ H (.ref a)) : Ev (tFld K ta x) σ H v := by
  obtain ⟨dx, fs, h1, h2⟩ := h
  exact ev_fld ha h1 c hf h2
/-- look(..) == x, as a test -/
theorem s_ifLook {i j : Nat} {s : Spot} {tas : TA} {v : V} {y : Val} (hc : CAst CA) (AK : Ask T Rv J W Dom) (hv : σ[i]? = some (some (.ref f))) (ca : CA H f (spLook T J W Dom)) (h : EvA tas σ H [.str s.1, .str s.2.1, .int s.2.2]) (hd : Dom s) (hl : l.length < 1000) (j0 : J F l H)
    (hw : σ[j]? = some (some v)) (rv : Vt H v (dV y)) (oy : okV y) (k1 : ∀ F' H', Step T F H F' H' → J F' (l ++ [s]) H' → W s = y → tu D σ H') (k2 : ∀ F' H', Step T F H F' H' → J F' (l ++ [s]) H' → W s ≠ y → tw D σ H') : tIfS (tTest (tOp (rEqA K) (tCallC CA i tas) (tVar j))) tu tw D σ H :=
  x_lookC (Q := fun u H1 => tVar j σ H1 fun w H2 => rEqA K u w H2 fun z H3 => ∃ b, z = .bl b ∧ if b = true then tu D σ H3 else tw D σ H3) hc AK hv ca h hd hl j0 fun u F' H' st ru j1 => ⟨v, hw, x_eqV (Q := fun b H3 => if b = true then tu D σ H3 else tw D σ H3) ru (rv.tup st.x.i.tup) (AK.ok s hd) oy fun H3 e3 => by
    by_cases e : W s = y
    · rw [decide_eq_true e, if_pos rfl]
      exact k1 F' H3 (st.trans (.of e3)) (AK.ex j1 e3) e
    · rw [decide_eq_false e, if_neg Bool.false_ne_true]
      exact k2 F' H3 (st.trans (.of e3)) (AK.ex j1 e3) e⟩
/-- [a spot] + a list of spots -/
theorem es_cons {tb : TE} {s : Spot} {ss : List Spot} {q : Addr} {xs : List V} (h : EvR te σ H (fun v H => AtS H v s)) (hb : Ev tb σ H (.ref q)) (hq : H q = some (.lst xs)) (r : AtSs H xs ss) (hl : ss.length ≤ 10000) : EvSs (tOp (rAddA K) (tLst (tCons te tNil)) tb) σ H (s :: ss) := fun H1 e Q k =>
  h H1 e _ fun u H2 e2 hu => ⟨sz_of (show 1 ≤ 100000 by decide), fun b hn => hb _ (e.trans (e2.trans (Ex.new hn))) _ fun H3 e3 => .inr (.inr (.inl ⟨b, q, [u], xs, rfl, rfl, e3 _ _ upd_same, (e.trans ((e2.trans (Ex.new hn)).trans e3)) _ _ hq, sz_of (by rw [r.1]; show 1 + ss.length ≤ 100000; omega), fun d hd => by
    have e5 : Ex H1 (L2.upd H3 d (.lst ([u] ++ xs))) := ((e2.trans (Ex.new hn)).trans e3).trans (Ex.new hd)
    refine k d _ _ (fresh_back ((e2.trans (Ex.new hn)).trans e3) hd) e5 upd_same ⟨by simp [r.1], fun i s' hs => ?_⟩
    cases i with
    | zero =>
      cases hs
      exact ⟨u, rfl, hu.tup (.of_ex (((Ex.new hn).trans e3).trans (Ex.new hd)))⟩
    | succ i =>
      obtain ⟨v, v1, v2⟩ := (r.tup (.of_ex (e.trans e5))).2 i s' (by simpa using hs)
      exact ⟨v, by simpa using v1, v2⟩⟩))⟩
theorem q_asgSs {i : Nat} {ss : List Spot} (h : EvSs te σ H ss) (k : ∀ p xs H1, H p = none → Ex H H1 → H1 p = some (.lst xs) → AtSs H1 xs ss → tz D (σ.set i (some (.ref p))) H1) : tSeq (tAsg te (gName i)) tz D σ H := h H (Ex.refl H) _ k
/-- return ("call", a new list) -/
theorem s_retCallL {xs : List V} (h : EvL te σ H xs) (k : ∀ a p H1, H p = none → Ex H H1 → H1 a = some (.tup [.str "call", .ref p]) → H1 p = some (.lst xs) → D.rt (.ref a) H1) : tRet (tTup (tCons (tC (.str "call")) (tCons te tNil))) D σ H :=
  h H (Ex.refl H) _ fun p H1 hp e1 h1 => ⟨sz_of (show 2 ≤ 100000 by decide), fun a ha => k a p _ hp (e1.trans (Ex.new ha)) upd_same ((upd_ne (ne_of_none h1 ha)).trans h1)⟩
/-- return ("value", a value that stands there) -/
theorem s_retVal {v : V} {x : Val} {Q : VK} (hQ : D.rt = Q) (h : Ev te σ H v) (r : Vt H v (dV x)) (H0 : Hp) (k : ∀ u H1, Ex H H1 → Got H0 H1 u (.val x) → Q u H1) : tRet (tTup (tCons (tC (.str "value")) (tCons te tNil))) D σ H :=
  s_retU (eu_tup (ea_cons ev_c (ea_cons h ea_nil)) (show 2 ≤ 100000 by decide)) fun a H1 _ e1 h1 => by
    rw [hQ]
    exact k _ H1 e1 ⟨a, v, rfl, h1, r.tup (.of_ex e1)⟩
/-- return looked(look, a new list of spots) -/
theorem s_retLooked {i : Nat} {E : L2.St → XK} {ss : List Spot} (hc : CAst CA) (AK : Ask T Rv J W Dom) (hv : σ[i]? = some (some (.ref f))) (ca : CA H f (spLook T J W Dom)) (h : EvSs te σ H ss) (hd : ∀ s ∈ ss, Dom s) (hl : l.length + ss.length ≤ 1000) (j0 : J F l H)
    (k : ∀ v F' H', Step T F H F' H' → J F' (l ++ (turn W ss).2) H' → Got H H' v (turn W ss).1 → D.rt v H') : tRet (tCallS (sp_looked K CA) E (tCons (tVar i) (tCons te tNil))) D σ H :=
  ⟨_, hv, h H (Ex.refl H) _ fun p xs H1 hp e1 h1 r => ⟨f, p, xs, ss, T, Rv, J, W, Dom, F, l, rfl, hc _ _ _ _ ca (.of e1), AK, h1, AK.off j0 hp, r, hd, AK.ex j0 e1, hl, fun v F' H' st j1 g => k v F' H' ((Step.of e1).trans st) j1 (by
    cases hr : (turn W ss).1 with
    | val x => rw [hr] at g; exact g
    | call is =>
      rw [hr] at g
      obtain ⟨a, q, g1, g2, g3, g4⟩ := g
      exact ⟨a, q, g1, g2, g3, fresh_back e1 g4⟩)⟩⟩
theorem Got.back {H H0 H' : Hp} {v : V} {r : Res} (g : Got H H' v r) (n : ∀ a, H a = none → H0 a = none) : Got H0 H' v r := by
  cases r with
  | val x => exact g
  | call is =>
    obtain ⟨a, p, g1, g2, g3, g4⟩ := g
    exact ⟨a, p, g1, g2, g3, n _ g4⟩
theorem Got.ex {H H0 H' : Hp} {v : V} {r : Res} (g : Got H H0 v r) (e : Ex H0 H') : Got H H' v r := by
  cases r with
  | val x =>
    obtain ⟨a, u, g1, g2, g3⟩ := g
    exact ⟨a, u, g1, e _ _ g2, g3.tup (.of_ex e)⟩
  | call is =>
    obtain ⟨a, p, g1, g2, g3, g4⟩ := g
    exact ⟨a, p, g1, e _ _ g2, e _ _ g3, g4⟩
theorem r_Cells_gather (hc : CAst CA) (fx : ClK K (A .Cells) ["function", "names"]) (vs : List V) (H : Hp) (Q : VK) (E : XK) (h : sp_Cells_gather K A CA vs H Q E) : t_Cells_gather K CA E { nx := fun _ H' => Q .non H', rt := Q } (L2.start ["self", "look", "many", "table", "column", "place", "name"] vs) H := by
  obtain ⟨a, f, m, np, zs, t, c, p, T, Rv, J, W, Dom, R, Tm, F, l, rfl, fn, hn, hz, G, hd, k⟩ := h
  unfold t_Cells_gather
  have hlen := G.len
  refine s_retLooked hc G.ask rfl G.ca (es_lc (fun z => (t, z, p)) (ev_Fld fn fx (by decide) (ev_var rfl)) (SqL.of hn) (by omega) (fun _ => rfl) fun z H1 e1 _ => er_spot (ev_var rfl) (ev_var rfl) (ev_var rfl)) (fun s hs => ?_) (by rw [List.length_map]; omega) G.j k
  obtain ⟨z, hz, rfl⟩ := List.mem_map.mp hs
  exact hd z hz
theorem r_Mend_gather (hc : CAst CA) (fx : ClK K (A .Mend) ["function", "name"]) (vs : List V) (H : Hp) (Q : VK) (E : XK) (h : sp_Mend_gather K A CA vs H Q E) : t_Mend_gather K CA E { nx := fun _ H' => Q .non H', rt := Q } (L2.start ["self", "look", "many", "table", "column", "place", "value"] vs) H := by
  obtain ⟨a, f, m, t, c, name, p, T, Rv, J, W, Dom, R, Tm, F, l, rfl, fn, G, hd, k⟩ := h
  unfold t_Mend_gather
  have hlen := G.len
  unfold gMend at k
  refine q_lookC (s := (t, name, p)) hc G.ask rfl G.ca (ea_cons (ev_var rfl) (ea_cons (ev_Fld fn fx (by decide) (ev_var rfl)) (ea_cons (ev_var rfl) ea_nil))) hd (by omega) G.j fun v F1 H1 st rv j1 => ?_
  refine q_when (et_B (ev_isflt (ev_var rfl) rv (G.ask.ok _ hd))) (fun hb H2 e2 => ?_) (fun hb H2 e2 => ?_)
  · cases hw : W (t, name, p) with
    | inl i => rw [hw] at hb; cases hb
    | inr w =>
      rw [hw] at k
      exact s_retCallL (el_lst ea_nil (by decide)) fun a q H3 hq e3 h3 h4 => k _ F1 H3 (st.trans (.of (e2.trans e3))) (G.ask.ex j1 (e2.trans e3)) ⟨a, q, rfl, h3, h4, st.x.n q (fresh_back e2 hq)⟩
  · cases hw : W (t, name, p) with
    | inr w => rw [hw] at hb; cases hb
    | inl i =>
      rw [hw] at k rv
      exact s_retVal rfl (ev_var rfl) (rv.tup (.of_ex e2)) H fun u H3 e3 g => k _ F1 H3 (st.trans (.of (e2.trans e3))) (G.ask.ex j1 (e2.trans e3)) g
theorem r_Group_gather (hc : CAst CA) (fx : ClK K (A .Group) ["function", "key", "name"]) (vs : List V) (H : Hp) (Q : VK) (E : XK) (h : sp_Group_gather K A CA vs H Q E) :
    t_Group_gather K CA E { nx := fun _ H' => Q .non H', rt := Q } (L2.start ["self", "look", "many", "table", "column", "place", "mine", "found", "at", "value"] vs) H := by
  obtain ⟨a, f, m, t, c, key, name, p, T, Rv, J, W, Dom, R, Tm, F, l, rfl, fk, fn, G, ht, hd, hds, k⟩ := h
  unfold t_Group_gather
  have hlen := G.len
  have few := G.few t ht
  unfold gGroup at k
  refine q_lookC (s := (t, key, p)) hc G.ask rfl G.ca (ea_cons (ev_var rfl) (ea_cons (ev_Fld fk fx (by decide) (ev_var rfl)) (ea_cons (ev_var rfl) ea_nil))) hd (by omega) G.j fun v F1 H1 st rv j1 => ?_
  refine q_when (et_B (ev_isflt (ev_var rfl) rv (G.ask.ok _ hd))) (fun hb H2 e2 => ?_) (fun hb H2 e2 => ?_)
  · cases hw : W (t, key, p) with
    | inl i => rw [hw] at hb; cases hb
    | inr w =>
      rw [hw] at k rv
      exact s_retVal rfl (ev_var rfl) (rv.tup (.of_ex e2)) H fun u H3 e3 g => k _ F1 H3 (st.trans (.of (e2.trans e3))) (G.ask.ex j1 (e2.trans e3)) g
  cases hw : W (t, key, p) with
  | inr w => rw [hw] at hb; cases hb
  | inl mine =>
  rw [hw] at k rv
  dsimp only at k
  obtain rfl : v = .int mine := by cases rv; rfl
  have om : okV (.inl mine) := by rw [← hw]; exact G.ask.ok _ hd
  have st2 : Step T F H F1 H2 := st.trans (.of e2)
  have j2 := G.ask.ex j1 e2
  have aF1 : a ∉ F1 := fun z => (st2.f a z).elim G.aF fun q => by obtain ⟨_, _, q2, _⟩ := fk; rw [q] at q2; cases q2
  refine q_asgL (el_lst ea_nil (by decide)) fun q H3 hq e3 h3 => ?_
  have qF : q ∉ F1 := G.ask.off j2 hq
  have qR : q ∉ Rv := G.ask.offR j2 hq
  have st3 : Step T F H F1 H3 := st2.trans (.of e3)
  refine q_forR1 (n := (R t : Int)) (ea_cons (ev_manyC hc G.ask rfl (hc _ _ _ _ G.cm st3.x.i.kp) (ea_cons (ev_var rfl) ea_nil) ht (G.ask.ex j2 e3)) ea_nil) (by omega)
    (fun i σ H' => ∃ (x8 x9 : Option V) (F' : List Addr) (is : List Int) (sp : List Spot), σ = [some (.ref a), some (.ref f), some (.ref m), some (.str t), some (.str c), some (.int p), some (.int mine), some (.ref q), x8, x9] ∧ Step T F H F' H' ∧ J F' (l ++ sp) H' ∧ H' q = some (.lst (is.map V.int)) ∧ q ∉ F' ∧ sp.length ≤ 1 + 2 * i ∧ is.length ≤ i ∧
      pre [] [(t, key, p)] (grp W t key name mine (List.range (R t))) = pre is sp (grp W t key name mine ((List.range (R t)).drop i)))
    (fun H4 e4 => ⟨_, _, F1, [], [(t, key, p)], rfl, st3.trans (.of e4), G.ask.ex j2 (e3.trans e4), e4 _ _ h3, qF, by simp, by simp, by rw [List.drop_zero]⟩) ?_ ?_
  · rintro i σ H4 hi ⟨x8, x9, F4, is, sp, rfl, st4, j4, hq4, qF4, hsp, his, hpre⟩
    have hi' : i < R t := by omega
    have dr : (List.range (R t)).drop i = i :: (List.range (R t)).drop (i + 1) := by
      rw [List.drop_eq_getElem_cons (by simpa using hi'), List.getElem_range]
    rw [dr] at hpre
    have fk4 := fk.step G.aF st4
    have fn4 := fn.step G.aF st4
    refine s_ifLook (s := (t, key, (i : Int))) hc G.ask rfl (hc _ _ _ _ G.ca st4.x.i.kp) (ea_cons (ev_var rfl) (ea_cons (ev_Fld fk4 fx (by decide) (ev_var rfl)) (ea_cons (ev_var rfl) ea_nil))) (hds i hi').1 (by rw [List.length_append]; omega) j4 rfl (.int mine) om (fun F5 H5 st5 j5 e => ?_) (fun F5 H5 st5 j5 e => ?_)
    · have st45 := st4.trans st5
      have hq5 : H5 q = some (.lst (is.map V.int)) := st5.x.k q _ hq4 qF4 fun _ z => nomatch z
      have qF5 := Step.off qF4 hq4 st5
      refine q_lookC (s := (t, name, (i : Int))) hc G.ask rfl (hc _ _ _ _ G.ca st45.x.i.kp) (ea_cons (ev_var rfl) (ea_cons (ev_Fld (fn.step G.aF st45) fx (by decide) (ev_var rfl)) (ea_cons (ev_var rfl) ea_nil))) (hds i hi').2 (by simp only [List.length_append, List.length_cons, List.length_nil]; omega) j5 fun v6 F6 H6 st6 rv6 j6 => ?_
      have st46 := st45.trans st6
      have hq6 : H6 q = some (.lst (is.map V.int)) := st6.x.k q _ hq5 qF5 fun _ z => nomatch z
      have qF6 := Step.off qF5 hq5 st6
      have g1 : grp W t key name mine (i :: (List.range (R t)).drop (i + 1)) = (match W (t, name, (i : Int)) with
          | .inr w => (.val (.inr w), [(t, key, (i : Int)), (t, name, (i : Int))])
          | .inl x => pre [x] [(t, key, (i : Int)), (t, name, (i : Int))] (grp W t key name mine ((List.range (R t)).drop (i + 1)))) := by
        rw [grp, if_pos e]
      rw [List.append_assoc, List.append_assoc] at j6
      refine q_when (et_B (ev_isflt (ev_var rfl) rv6 (G.ask.ok _ (hds i hi').2))) (fun hb H7 e7 => ?_) (fun hb H7 e7 => ?_)
      · cases hw6 : W (t, name, (i : Int)) with
        | inl i => rw [hw6] at hb; cases hb
        | inr w =>
          rw [hw6] at rv6 g1
          dsimp only at g1
          rw [hpre, g1, pre_val] at k
          exact s_retVal rfl (ev_var rfl) (rv6.tup (.of_ex e7)) H fun u H8 e8 g => k _ F6 H8 (st46.trans (.of (e7.trans e8))) (G.ask.ex j6 (e7.trans e8)) g
      · cases hw6 : W (t, name, (i : Int)) with
        | inr w => rw [hw6] at hb; cases hb
        | inl x =>
          rw [hw6] at rv6 g1
          dsimp only at g1
          obtain rfl : v6 = .int x := by cases rv6; rfl
          refine s_app (e7 _ _ hq6) (ev_var rfl) (ev_var rfl) (by rw [List.length_map]; omega) fun H8 e8 => ?_
          have e78 := e7.trans e8
          refine ⟨_, _, F6, is ++ [x], sp ++ [(t, key, (i : Int)), (t, name, (i : Int))], rfl, (st46.trans (.of e78)).updN (st2.x.n q hq) (e78 _ _ hq6) (fun z => z) (fun _ z => nomatch z), G.ask.upd (G.ask.ex j6 e78) qF6 qR (e78 _ _ hq6) (fun z => z) (fun _ z => nomatch z), ?_, qF6, ?_, ?_, ?_⟩
          · rw [List.map_append]
            exact upd_same
          · simp only [List.length_append, List.length_cons, List.length_nil]; omega
          · simp only [List.length_append, List.length_cons, List.length_nil]; omega
          · rw [hpre, g1, pre_pre]
    · have g1 : grp W t key name mine (i :: (List.range (R t)).drop (i + 1)) = pre [] [(t, key, (i : Int))] (grp W t key name mine ((List.range (R t)).drop (i + 1))) := by
        rw [grp, if_neg e]
      rw [List.append_assoc] at j5
      refine ⟨_, _, F5, is, sp ++ [(t, key, (i : Int))], rfl, st4.trans st5, j5, st5.x.k q _ hq4 qF4 (fun _ z => nomatch z), Step.off qF4 hq4 st5, ?_, by omega, ?_⟩
      · simp only [List.length_append, List.length_cons, List.length_nil]; omega
      · rw [hpre, g1, pre_pre, List.append_nil]
  · rintro σ H4 ⟨x8, x9, F4, is, sp, rfl, st4, j4, hq4, qF4, hsp, his, hpre⟩
    have dr : (List.range (R t)).drop (R t : Int).toNat = [] := by
      rw [List.drop_eq_nil_iff]
      simp
    rw [dr, grp, pre_end] at hpre
    rw [hpre] at k
    refine s_retU (eu_tup (ea_cons ev_c (ea_cons (ev_var rfl) ea_nil)) (show 2 ≤ 100000 by decide)) fun b H5 _ e5 h5 => ?_
    exact k _ F4 H5 (st4.trans (.of e5)) (G.ask.ex j4 e5) ⟨b, q, rfl, h5, e5 _ _ hq4, st2.x.n q hq⟩
theorem r_Lookup_gather (hc : CAst CA) (fx : ClK K (A .Lookup) ["function", "key", "other", "theirs", "names"]) (vs : List V) (H : Hp) (Q : VK) (E : XK) (h : sp_Lookup_gather K A CA vs H Q E) :
    t_Lookup_gather K A CA E { nx := fun _ H' => Q .non H', rt := Q } (L2.start ["self", "look", "many", "table", "column", "place", "mine", "at", "name"] vs) H := by
  obtain ⟨a, f, m, np, zs, t, c, key, o, theirs, p, T, Rv, J, W, Dom, R, Tm, F, l, rfl, fk, fo, ft, fn, npF, hn, hz, G, ht, hd, hds, k⟩ := h
  unfold t_Lookup_gather
  have hlen := G.len
  have few := G.few o ht
  unfold gLookup at k
  refine q_lookC (s := (t, key, p)) hc G.ask rfl G.ca (ea_cons (ev_var rfl) (ea_cons (ev_Fld fk fx (by decide) (ev_var rfl)) (ea_cons (ev_var rfl) ea_nil))) hd (by omega) G.j fun v F1 H1 st rv j1 => ?_
  refine q_when (et_B (ev_isflt (ev_var rfl) rv (G.ask.ok _ hd))) (fun hb H2 e2 => ?_) (fun hb H2 e2 => ?_)
  · cases hw : W (t, key, p) with
    | inl i => rw [hw] at hb; cases hb
    | inr w =>
      rw [hw] at k rv
      exact s_retVal rfl (ev_var rfl) (rv.tup (.of_ex e2)) H fun u H3 e3 g => k _ F1 H3 (st.trans (.of (e2.trans e3))) (G.ask.ex j1 (e2.trans e3)) g
  cases hw : W (t, key, p) with
  | inr w => rw [hw] at hb; cases hb
  | inl mine =>
  rw [hw] at k rv
  dsimp only at k
  obtain rfl : v = .int mine := by cases rv; rfl
  have om : okV (.inl mine) := by rw [← hw]; exact G.ask.ok _ hd
  have st2 : Step T F H F1 H2 := st.trans (.of e2)
  have j2 := G.ask.ex j1 e2
  have fo2 := fo.step G.aF st2
  refine q_forR1 (n := (R o : Int)) (ea_cons (ev_manyC hc G.ask rfl (hc _ _ _ _ G.cm st2.x.i.kp) (ea_cons (ev_Fld fo2 fx (by decide) (ev_var rfl)) ea_nil) ht j2) ea_nil) (by omega)
    (fun i σ H' => ∃ (x7 : Option V) (F' : List Addr) (sp : List Spot), σ = [some (.ref a), some (.ref f), some (.ref m), some (.str t), some (.str c), some (.int p), some (.int mine), x7, none] ∧ Step T F H F' H' ∧ J F' (l ++ sp) H' ∧ sp.length ≤ 1 + i ∧
      pre [] [(t, key, p)] (lkp W o theirs zs mine (List.range (R o))) = pre [] sp (lkp W o theirs zs mine ((List.range (R o)).drop i)))
    (fun H4 e4 => ⟨_, F1, [(t, key, p)], rfl, st2.trans (.of e4), G.ask.ex j2 e4, by simp, by rw [List.drop_zero]⟩) ?_ ?_
  · rintro i σ H4 hi ⟨x7, F4, sp, rfl, st4, j4, hsp, hpre⟩
    have hi' : i < R o := by omega
    have dr : (List.range (R o)).drop i = i :: (List.range (R o)).drop (i + 1) := by
      rw [List.drop_eq_getElem_cons (by simpa using hi'), List.getElem_range]
    rw [dr] at hpre
    refine s_ifLook (s := (o, theirs, (i : Int))) hc G.ask rfl (hc _ _ _ _ G.ca st4.x.i.kp) (ea_cons (ev_Fld (fo.step G.aF st4) fx (by decide) (ev_var rfl)) (ea_cons (ev_Fld (ft.step G.aF st4) fx (by decide) (ev_var rfl)) (ea_cons (ev_var rfl) ea_nil))) (hds i hi').1 (by rw [List.length_append]; omega) j4 rfl (.int mine) om (fun F5 H5 st5 j5 e => ?_) (fun F5 H5 st5 j5 e => ?_)
    · have st45 := st4.trans st5
      have g1 : lkp W o theirs zs mine (i :: (List.range (R o)).drop (i + 1)) = pre [] [(o, theirs, (i : Int))] (turn W (zs.map fun z => (o, z, (i : Int)))) := by
        rw [lkp, if_pos e]
      rw [hpre, g1, pre_pre] at k
      refine s_retLooked hc G.ask rfl (hc _ _ _ _ G.ca st45.x.i.kp) (es_lc (fun z => (o, z, (i : Int))) (ev_Fld (fn.step G.aF st45) fx (by decide) (ev_var rfl)) (SqL.of (st45.x.k _ _ hn npF fun _ z => nomatch z)) (by omega) (fun _ => rfl) fun z H6 e6 _ =>
        er_spot (ev_Fld ((fo.step G.aF st45).ex e6) fx (by decide) (ev_var rfl)) (ev_var rfl) (ev_var rfl)) (fun s hs => ?_) (by simp only [List.length_append, List.length_cons, List.length_nil, List.length_map]; omega) j5 fun v F6 H6 st6 j6 g => k v F6 H6 (st45.trans st6) ?_ ?_
      · obtain ⟨z, hz, rfl⟩ := List.mem_map.mp hs
        exact (hds i hi').2 z hz
      · rw [List.append_assoc, List.append_assoc] at j6
        simpa [pre] using j6
      · have g2 := g.back (H0 := H) fun x hx => st45.x.n x hx
        simp only [pre]
        cases hr : (turn W (zs.map fun z => (o, z, (i : Int)))).1 with
        | val x => rw [hr] at g2; exact g2
        | call is => rw [hr] at g2; simpa using g2
    · have g1 : lkp W o theirs zs mine (i :: (List.range (R o)).drop (i + 1)) = pre [] [(o, theirs, (i : Int))] (lkp W o theirs zs mine ((List.range (R o)).drop (i + 1))) := by
        rw [lkp, if_neg e]
      rw [List.append_assoc] at j5
      refine ⟨_, F5, sp ++ [(o, theirs, (i : Int))], rfl, st4.trans st5, j5, ?_, ?_⟩
      · simp only [List.length_append, List.length_cons, List.length_nil]; omega
      · rw [hpre, g1, pre_pre]
        rfl
  · rintro σ H4 ⟨x7, F4, sp, rfl, st4, j4, hsp, hpre⟩
    have dr : (List.range (R o)).drop (R o : Int).toNat = [] := by
      rw [List.drop_eq_nil_iff]
      simp
    rw [dr, lkp, pre_val, List.append_nil] at hpre
    rw [hpre] at k
    exact ed_fault (K := K) (A := A) (d := .str "lacks") (ed_s ev_c) (show ("lacks" : Str).length ≤ 30000 by decide +kernel) (by decide +kernel) H4 (Ex.refl H4) _ fun u H5 e5 r5 => ⟨sz_of (show 2 ≤ 100000 by decide), fun b hb => k _ F4 _ (st4.trans (.of (e5.trans (Ex.new hb)))) (G.ask.ex j4 (e5.trans (Ex.new hb))) ⟨b, u, rfl, upd_same, (vt_of r5 (by decide +kernel)).tup (.of_ex (Ex.new hb))⟩⟩
theorem r_Above_gather (hc : CAst CA) (fx : ClK K (A .Above) ["function", "names", "first"]) (vs : List V) (H : Hp) (Q : VK) (E : XK) (h : sp_Above_gather K A CA vs H Q E) :
    t_Above_gather K CA E { nx := fun _ H' => Q .non H', rt := Q } (L2.start ["self", "look", "many", "table", "column", "place", "cells", "kind", "told", "name"] vs) H := by
  obtain ⟨a, f, m, np, zs, t, c, p, first, T, Rv, J, W, Dom, R, Tm, F, l, rfl, fn, ff, hn, hz, G, hd, hd2, k⟩ := h
  unfold t_Above_gather
  have hlen := G.len
  unfold gAbove at k
  have hdz : ∀ s ∈ zs.map (fun z => ((t, z, p) : Spot)), Dom s := fun s hs => by
    obtain ⟨z, hz, rfl⟩ := List.mem_map.mp hs
    exact hd z hz
  refine q_asgSs (es_lc (fun z => (t, z, p)) (ev_Fld fn fx (by decide) (ev_var rfl)) (SqL.of hn) (by omega) (fun _ => rfl) fun z H1 e1 _ => er_spot (ev_var rfl) (ev_var rfl) (ev_var rfl)) fun q xs H1 hq e1 h1 r1 => ?_
  have j1 := G.ask.ex G.j e1
  refine q_when (et_test (ev_op (ev_var rfl) ev_c rv_gt)) (fun hb H2 e2 => ?_) (fun hb H2 e2 => ?_)
  · have hp : 0 < p := by simpa using hb
    rw [if_pos hp] at k
    refine s_retLooked (ss := (t, c, p - 1) :: zs.map fun z => (t, z, p)) hc G.ask rfl (hc _ _ _ _ G.ca (.of (e1.trans e2))) (fun H3 e3 Q3 q3 => ?_) (fun s hs => ?_) (by simp only [List.length_cons, List.length_map]; omega) (G.ask.ex j1 e2) fun v F6 H6 st6 j6 g => k v F6 H6 ((Step.of (e1.trans e2)).trans st6) j6 (g.back fun x hx => fresh_back (e1.trans e2) hx)
    · exact es_cons (er_spot (s := (t, c, p - 1)) (ev_var rfl) (ev_var rfl) (ev_op (ev_var rfl) ev_c rv_subI)) (ev_var rfl) ((e2.trans e3) _ _ h1) (r1.tup (.of_ex (e2.trans e3))) (by rw [List.length_map]; omega) H3 (Ex.refl H3) Q3 q3
    · rcases List.mem_cons.mp hs with z | z
      · rw [z]
        exact hd2 hp
      · exact hdz s z
  · have hp : ¬ 0 < p := by simpa using hb
    rw [if_neg hp] at k
    have e12 := e1.trans e2
    refine ⟨_, rfl, _, rfl, f, q, xs, zs.map fun z => (t, z, p), T, Rv, J, W, Dom, F, l, rfl, hc _ _ _ _ G.ca (.of e12), G.ask, e2 _ _ h1, G.ask.off G.j hq, r1.tup (.of_ex e2), hdz, G.ask.ex j1 e2, by rw [List.length_map]; omega, fun v F3 H3 st3 j3 g => ?_⟩
    have st := (Step.of (T := T) (F := F) e12).trans st3
    have aF3 : a ∉ F3 := fun z => (st.f a z).elim G.aF fun q => by obtain ⟨_, _, q2, _⟩ := fn; rw [q] at q2; cases q2
    cases hr : turn W (zs.map fun z => (t, z, p)) with
    | mk res asked =>
    rw [hr] at g j3 k
    cases res with
    | val x =>
      obtain ⟨b, u, rfl, g1, g2⟩ := g
      refine g_two rfl g1 ?_
      refine q_when (b := false) (et_is (et_test (ev_op (ev_var rfl) ev_c (rv_eqS rfl))) (by decide +kernel)) (fun hb => nomatch hb) fun _ H4 e4 => ?_
      refine s_retU (eu_tup (ea_cons (ev_var rfl) (ea_cons (ev_var rfl) ea_nil)) (show 2 ≤ 100000 by decide)) fun d H5 _ e5 h5 => ?_
      exact k _ F3 H5 (st.trans (.of (e4.trans e5))) (G.ask.ex j3 (e4.trans e5)) ⟨d, u, rfl, h5, g2.tup (.of_ex (e4.trans e5))⟩
    | call is =>
      obtain ⟨b, u, rfl, g1, g2, g3⟩ := g
      refine g_two rfl g1 ?_
      refine q_when (b := true) (et_is (et_test (ev_op (ev_var rfl) ev_c (rv_eqS rfl))) (by decide +kernel)) (fun _ H4 e4 => ?_) (fun hb => nomatch hb)
      have lis : is.length ≤ 6 := by
        have : ∀ ss : List Spot, ∀ js l, turn W ss = (.call js, l) → js.length ≤ ss.length := by
          intro ss
          induction ss with
          | nil => intro js l h; cases h; exact Nat.le_refl _
          | cons s r ih =>
            intro js l h
            rw [turn] at h
            cases hs : W s with
            | inr w => rw [hs] at h; cases h
            | inl i =>
              rw [hs] at h
              cases hq : turn W r with
              | mk a b =>
                rw [hq] at h
                cases a with
                | val x => cases h
                | call ks =>
                  cases h
                  have := ih ks _ hq
                  simpa using this
        have := this _ _ _ hr
        rw [List.length_map] at this
        omega
      refine s_retCallL (xs := (first :: is).map V.int) (fun H5 e5 Q5 q5 => ?_) fun d y H6 hy e6 h6 h7 => ?_
      · refine (el_lst (ea_cons (ev_Fld (((ff.step G.aF st).ex e4)) fx (by decide) (ev_var rfl)) ea_nil) (show 1 ≤ 100000 by decide)) H5 e5 _ fun d H6 hd6 e6 h6 => ⟨_, rfl, .inr (.inr (.inl ⟨d, u, _, _, rfl, rfl, h6, ((e4.trans e5).trans e6) _ _ g2, sz_of (by rw [List.length_map]; show 1 + is.length ≤ 100000; omega), fun w hw => ?_⟩))⟩
        exact q5 w _ (fresh_back e6 hw) (e6.trans (Ex.new hw)) upd_same
      · refine k _ F3 H6 (st.trans (.of (e4.trans e6))) (by simpa [pre] using G.ask.ex j3 (e4.trans e6)) ?_
        refine ⟨d, y, rfl, h6, ?_, st.x.n y (fresh_back e4 hy)⟩
        simpa [pre] using h7
end
end Z

set_option Elab.async false
set_option linter.all false
set_option autoImplicit false
set_option maxRecDepth 100000
set_option maxHeartbeats 4000000
/-! ev: what an expression comes to, by its form -/
local macro_rules | `(tactic| k_places) => `(tactic| (repeat' (first
  | (with_reducible exact ev_c)
  | (with_reducible exact ev_var rfl)
  | (with_reducible refine ev_chainLL ?_ ?_ ?_)
  | (with_reducible refine ev_chainLt ?_ ?_ ?_)
  | (with_reducible refine ev_op ?_ ?_ ?_)
  | (with_reducible refine ev_neg ?_)
  | (with_reducible refine et_test ?_)
  | (with_reducible refine et_B ?_)
  | (with_reducible refine et_not ?_)
  | (with_reducible refine et_and ?_ (fun _ => ?_))
  | (with_reducible refine et_or ?_ (fun _ => ?_))
  | (with_reducible refine ev_andV ?_ (fun _ => ?_))
  | (with_reducible refine ev_orV ?_ (fun _ => ?_))
  | (with_reducible refine ev_notV ?_)
  | (with_reducible exact rv_addI)
  | (with_reducible exact rv_subI)
  | (with_reducible exact rv_lt)
  | (with_reducible exact rv_le)
  | (with_reducible exact rv_gt)
  | (with_reducible exact rv_ge)
  | (with_reducible exact rv_isB)
  | (with_reducible exact rv_isnB)
  | (with_reducible exact rv_isN)
  | (with_reducible exact rv_isnN)
  | (with_reducible exact rv_eqS rfl)
  | (with_reducible exact rv_neS rfl)
  | (with_reducible exact rv_inStr)
  | (with_reducible exact rv_ninStr)
  | (with_reducible exact rv_mod (by first | decide | omega | assumption))
  | (with_reducible exact rv_div (by first | decide | omega | assumption))
  | (with_reducible exact rv_pow (by decide))
  | (with_reducible refine ed_i ?_; done)
  | (with_reducible exact ea_nil)
  | (with_reducible refine ea_cons ?_ ?_)
  | (with_reducible exact eds_nil)
  | (with_reducible refine eds_cons ?_ ?_)
  | (with_reducible exact ed_dnew)
  | (with_reducible refine ed_lst ?_ (by simp only [List.length_cons, List.length_nil]; omega))
  | (with_reducible refine ed_tup ?_ (by simp only [List.length_cons, List.length_nil]; omega)))))
namespace Z
open PySem PySem.Spec PyProof.Rows L2 Evl NdefX LamX
/-! ### drawn numbers -/
def drawn (ns : List Int) (k : Nat) (size : Int) : Int :=
  (104729 * (k : Int) * k + 48271 + (if 0 < ns.length then ns.getD (k % ns.length) 0 % 10 ^ 40 * (2 * (k : Int) + 69621) else 0)) % 2147483647 / 3 % size
theorem drawn_bd (ns : List Int) (k : Nat) {size : Int} (h : 0 < size) : 0 ≤ drawn ns k size ∧ drawn ns k size < size := emod_bd _ h
def sp_law_drawn (K : PySem.W.Frag) : Sp := fun vs H Q _ => ∃ (l : Addr) (ns : List Int) (j : Nat) (size : Int), vs = [.ref l, .int (j : Int), .int size] ∧ SqL K H l (ns.map V.int) ∧ j ≤ 100000 ∧ 0 < size ∧ RetV (.int (drawn ns j size)) H Q
def t_law_drawn (K : PySem.W.Frag) (E : XK) : TS :=
  tSeq (tAsg (tOp (rAddA K) (tOp (rMulA K) (tOp (rMulA K) (tC (.int 104729)) (tVar 1)) (tVar 1)) (tC (.int 48271))) (gName 3))
    (tSeq (tIfS (tTest (tOp rGtA (tCB (rLenA K) (tCons (tVar 0) tNil)) (tC (.int 0)))) (tAsg (tOp (rAddA K) (tVar 3) (tOp (rMulA K) (tOp rModA (tOp (rIxA K) (tVar 0) (tOp rModA (tVar 1) (tCB (rLenA K) (tCons (tVar 0) tNil)))) (tOp rPowA (tC (.int 10)) (tC (.int 40)))) (tOp (rAddA K) (tOp (rMulA K) (tC (.int 2)) (tVar 1)) (tC (.int 69621))))) (gName 3)) tNext)
    (tRet (tOp rModA (tOp rDivA (tOp rModA (tVar 3) (tC (.int 2147483647))) (tC (.int 3))) (tVar 2))))
section
variable {K : PySem.W.Frag} {σ : L2.St} {H H' : Hp} {ta tb tc te tx : TE} {D : Ends} {tz : TS} {E : L2.St → XK}
theorem len_law_drawn (vs : List V) (H : Hp) (Q : VK) (E : XK) (h : sp_law_drawn K vs H Q E) : vs.length = 3 := by obtain ⟨_, _, _, _, rfl, _⟩ := h; rfl
theorem r_law_drawn (vs : List V) (H : Hp) (Q : VK) (E : XK) (h : sp_law_drawn K vs H Q E) : t_law_drawn K E { nx := fun _ H' => Q .non H', rt := Q } (L2.start ["script", "k", "size", "number"] vs) H := by
  obtain ⟨l, ns, j, size, rfl, hl, hj, hs, k⟩ := h
  unfold t_law_drawn
  have j2 : (104729 * (j : Int)) < 2 ^ 40 ∧ 0 ≤ 104729 * (j : Int) := by omega
  refine q_asg (v := .int (104729 * (j : Int) * j + 48271)) (ev_op (ev_op (ev_op ev_c (ev_var rfl) (rv_mulI (wide_mul (a := 20) (b := 20) (by decide) (by omega) (by decide) (by decide) (by decide)))) (ev_var rfl) (rv_mulI (wide_mul (a := 40) (b := 20) (by omega) (by omega) (by decide) (by decide) (by decide)))) ev_c rv_addI) fun H1 e1 => ?_
  have ln : ∀ {σ : L2.St} {H1 : Hp}, σ[0]? = some (some (V.ref l)) → Ex H H1 → Ev (tCB (rLenA K) (tCons (tVar 0) tNil)) σ H1 (.int ns.length) := fun h0 e => by
    have := ev_lenV (ta := tVar 0) (ev_var h0) (rc_lenL (K := K) (ex_l e hl))
    rwa [List.length_map] at this
  refine q_ifAsg (v := .int (104729 * (j : Int) * j + 48271 + (if 0 < ns.length then ns.getD (j % ns.length) 0 % 10 ^ 40 * (2 * (j : Int) + 69621) else 0))) (et_test (ev_op (ln rfl e1) ev_c rv_gt)) (fun hp => ?_) (fun hp => ?_) fun H2 e2 => ?_
  · have hp : 0 < ns.length := by simpa using hp
    rw [if_pos hp]
    have b := emod_bd (ns.getD (j % ns.length) 0) (n := 10 ^ 40) (by decide +kernel)
    refine ev_op (ev_var rfl) (ev_op (ev_op (ev_op (ev_var rfl) (ev_is (ev_op (ev_var rfl) (ln rfl e1) (rv_mod (by omega))) (by rw [← Int.natCast_emod])) (rv_itL (ex_l e1 hl) (ints_at (Nat.mod_lt _ hp)))) (ev_op ev_c ev_c (rv_pow (by decide))) (rv_mod (by decide +kernel))) (ev_op (ev_op ev_c (ev_var rfl) (rv_mulI (wide_mul (a := 20) (b := 20) (by decide) (by omega) (by decide) (by decide) (by decide)))) ev_c rv_addI) (rv_mulI (wide_mul (a := 140) (b := 40) ?_ (by omega) (by decide) (by decide) (by decide)))) rv_addI
    have h40 : (10 : Int) ^ (40 : Int).toNat < 2 ^ 140 := by decide +kernel
    have b2 : 0 ≤ ns.getD (j % ns.length) 0 % 10 ^ (40 : Int).toNat ∧ ns.getD (j % ns.length) 0 % 10 ^ (40 : Int).toNat < 10 ^ (40 : Int).toNat := emod_bd _ (by decide +kernel)
    omega
  · have hp : ¬ 0 < ns.length := by simpa using hp
    rw [if_neg hp, Int.add_zero]
    rfl
  · exact s_ret (ev_op (ev_op (ev_op (ev_var rfl) ev_c (rv_mod (by decide))) ev_c (rv_div (by decide))) (ev_var rfl) (rv_mod hs)) fun H3 e3 => k H3 ((e1.trans e2).trans e3)
theorem ev_drawn {l : Addr} {ns : List Int} {j : Nat} {size : Int} (hl : SqL K H l (ns.map V.int)) (ha : Ev ta σ H (.ref l)) (hb : Ev tb σ H (.int (j : Int))) (hc : Ev tc σ H (.int size)) (hj : j ≤ 100000) (hs : 0 < size) : Ev (tCallS (sp_law_drawn K) E (tCons ta (tCons tb (tCons tc tNil)))) σ H (.int (drawn ns j size)) :=
  ev_callS (ea_cons ha (ea_cons hb (ea_cons hc ea_nil))) fun H1 e Q q E => ⟨l, ns, j, size, rfl, ex_l e hl, hj, hs, fun H2 e2 => q H2 e2⟩
theorem ev_drawnB {l : Addr} {ns : List Int} {j : Nat} {size : Int} (hl : SqL K H l (ns.map V.int)) (ha : Ev ta σ H (.ref l)) (hb : Ev tb σ H (.int (j : Int))) (hc : Ev tc σ H (.int size)) (hj : j ≤ 100000) (hs : 0 < size) : Ev (tCall (sp_law_drawn K) [] E0 (tCons ta (tCons tb (tCons tc tNil)))) σ H (.int (drawn ns j size)) :=
  ev_call (ea_cons ha (ea_cons hb (ea_cons hc ea_nil))) fun H1 e Q q E => ⟨l, ns, j, size, rfl, ex_l e hl, hj, hs, fun H2 e2 => q H2 e2⟩
/-- a drawn place of a list, of a text -/
theorem atI_drawn {α : Type} {xs : List α} (ns : List Int) (j : Nat) (d : α) {n : Int} (hn : n = xs.length) (h : 0 < n) : atI xs (drawn ns j n) = some (xs.getD (drawn ns j n).toNat d) := by
  have b := drawn_bd ns j h
  have e : drawn ns j n = ((drawn ns j n).toNat : Int) := (Int.toNat_of_nonneg b.1).symm
  rw [e]
  refine atI_nat ?_
  rw [Int.toNat_natCast, List.getD_eq_getElem?_getD, List.getElem?_eq_getElem (by omega)]
  rfl
theorem drawn_lt {α : Type} {xs : List α} (ns : List Int) (j : Nat) {n : Int} (hn : n = xs.length) (h : 0 < n) : (drawn ns j n).toNat < xs.length := by
  have b := drawn_bd ns j h
  omega
/-! ### drawn names -/
def rSIndex : V → List V → Hp → VK → Prop := fun x xs H Q => ∃ a b i rest, x = .str a ∧ xs = [.str b] ∧ Builtin.Str.occurrences a b 0 a.length 1 = i :: rest ∧ Q (.int (i : Nat)) H
def occ (c : Nat) : List Nat := Builtin.Str.occurrences ("abcdefghijklmnopqrstuvwxyz" : Str) ⟨#[c]⟩ 0 ("abcdefghijklmnopqrstuvwxyz" : Str).length 1
def posL (c : Nat) : Nat := (occ c).headD 0
theorem occ_ok : ∀ c ∈ lets, occ c = posL c :: (occ c).tail ∧ posL c < 26 ∧ lets[posL c]? = some c := by decide +kernel
theorem ev_sindex {c : Nat} (ha : Ev ta σ H (.str "abcdefghijklmnopqrstuvwxyz")) (hb : Ev tb σ H (.str ⟨#[c]⟩)) (hc : c ∈ lets) : Ev (tM1 rSIndex ta tb) σ H (.int (posL c : Int)) := fun H1 e Q q =>
  ha H1 e _ fun H2 e2 => ⟨⟨_, rfl⟩, hb H2 (e.trans e2) _ fun H3 e3 => ⟨_, _, _, _, rfl, rfl, (occ_ok c hc).1, q H3 (e2.trans e3)⟩⟩
theorem cut_from (l : List Nat) (j : Nat) : cutS (SX.S l) (some (j : Int)) none = SX.S (l.drop j) := by
  have e : (SX.S l).length = l.length := SX.S_len l
  unfold cutS
  rw [HT.sIx_nat, e, show HT.sIx l.length l.length none = l.length from rfl]
  show SX.S ((l.drop (min j l.length)).take (l.length - min j l.length)) = SX.S (l.drop j)
  congr 1
  by_cases h : j ≤ l.length
  · rw [Nat.min_eq_left h, List.take_of_length_le (by rw [List.length_drop]; omega)]
  · rw [Nat.min_eq_right (by omega), List.drop_of_length_le (by omega), List.drop_of_length_le (by omega)]
    simp
theorem cutTo (l : List Nat) (j : Nat) : cutS (SX.S l) none (some (j : Int)) = SX.S (l.take j) := by
  have e : (SX.S l).length = l.length := SX.S_len l
  unfold cutS
  rw [HT.sIx_nat, e, show HT.sIx l.length 0 none = 0 from rfl, List.drop_zero, Nat.sub_zero]
  show SX.S (l.take (min j l.length)) = SX.S (l.take j)
  congr 1
  by_cases h : j ≤ l.length
  · rw [Nat.min_eq_left h]
  · rw [Nat.min_eq_right (by omega), List.take_of_length_le (Nat.le_refl _), List.take_of_length_le (by omega)]
theorem S_app (a b : List Nat) : SX.S a ++ SX.S b = SX.S (a ++ b) := by
  show (⟨a.toArray ++ b.toArray⟩ : Str) = ⟨(a ++ b).toArray⟩
  rw [List.append_toArray]
theorem S_inj {a b : List Nat} (h : SX.S a = SX.S b) : a = b := by
  have h2 : a.toArray = b.toArray := congrArg Str.cps h
  simpa using congrArg Array.toList h2
theorem S_one (c : Nat) : (⟨#[c]⟩ : Str) = SX.S [c] := rfl
def sp_law_names (K : PySem.W.Frag) : Sp := fun vs H Q _ => ∃ (l : Addr) (ns : List Int) (m : Nat), vs = [.ref l, .int (m : Int)] ∧ SqL K H l (ns.map V.int) ∧ m ≤ 26 ∧ ∀ zs : List Str, zs.length = m → zs.Nodup → (∀ z ∈ zs, isName z = true) → RetL (zs.map V.str) H Q
def t_law_names (K : PySem.W.Frag) (E : XK) : TS :=
  tSeq (tAsg (tC (.str "abcdefghijklmnopqrstuvwxyz")) (gName 2))
    (tSeq (tAsg (tC (.str "")) (gName 3))
    (tSeq (tFor (iRng1 (tCons (tOp (rAddA K) (tC (.int 1)) (tCallS (sp_law_drawn K) (WE (fun cls d _ H => E cls d H)) (tCons (tVar 0) (tCons (tC (.int 1)) (tCons (tC (.int 8)) tNil))))) tNil)) (gName 4) (tAsg (tOp (rAddA K) (tVar 3) (tOp (rIxA K) (tVar 2) (tCallS (sp_law_drawn K) (WE (fun cls d _ H => E cls d H)) (tCons (tVar 0) (tCons (tOp (rAddA K) (tC (.int 2)) (tVar 4)) (tCons (tC (.int 26)) tNil)))))) (gName 3)))
    (tSeq (tAsg (tCallS (sp_law_drawn K) (WE (fun cls d _ H => E cls d H)) (tCons (tVar 0) (tCons (tC (.int 10)) (tCons (tCB (rLenA K) (tCons (tVar 3) tNil)) tNil)))) (gName 5))
    (tSeq (tAsg (tLst tNil) (gName 6))
    (tSeq (tFor (iRng1 (tCons (tVar 1) tNil)) (gName 4) (tSeq (tAsg (tOp (rIxA K) (tVar 2) (tOp rModA (tOp (rAddA K) (tM1 rSIndex (tVar 2) (tOp (rIxA K) (tVar 3) (tVar 5))) (tVar 4)) (tC (.int 26)))) (gName 7))
    (tDrop (tBM K "list" rAppend (tVar 6) (tCons (tOp (rAddA K) (tOp (rAddA K) (tSl (rSlA K) (tVar 3) tNoPart (tPart (tVar 5))) (tVar 7)) (tSl (rSlA K) (tVar 3) (tPart (tOp (rAddA K) (tVar 5) (tC (.int 1)))) tNoPart)) tNil)))))
    (tRet (tVar 6)))))))
theorem len_law_names (vs : List V) (H : Hp) (Q : VK) (E : XK) (h : sp_law_names K vs H Q E) : vs.length = 2 := by obtain ⟨_, _, _, rfl, _⟩ := h; rfl
theorem let_at {j : Nat} (h : j < lets.length) : lets[j]? = some (lets.getD j 0) := by
  rw [List.getD_eq_getElem?_getD, List.getElem?_eq_getElem h]
  rfl
theorem lets_nd : lets.Nodup := by decide +kernel
theorem let_inj {i j : Nat} (hi : i < lets.length) (hj : j < lets.length) (h : lets.getD i 0 = lets.getD j 0) : i = j := by
  rw [List.getD_eq_getElem?_getD, List.getD_eq_getElem?_getD, List.getElem?_eq_getElem hi, List.getElem?_eq_getElem hj] at h
  have h : lets[i]'hi = lets[j]'hj := h
  exact (List.getElem_inj lets_nd).mp h
/-- the k-th of the names: the sign at a place moved on -/
def nameAt (cs : List Nat) (a k : Nat) : List Nat := cs.take a ++ [lets.getD ((posL (cs.getD a 0) + k) % 26) 0] ++ cs.drop (a + 1)
theorem r_law_names (vs : List V) (H : Hp) (Q : VK) (E : XK) (h : sp_law_names K vs H Q E) : t_law_names K E { nx := fun _ H' => Q .non H', rt := Q } (L2.start ["script", "many", "letters", "word", "k", "at", "names", "sign"] vs) H := by
  obtain ⟨l, ns, m, rfl, hl, hm, k⟩ := h
  unfold t_law_names
  refine q_asg ev_c fun H1 e1 => q_asg ev_c fun H2 e2 => ?_
  have e12 := e1.trans e2
  have b8 := drawn_bd ns 1 (size := 8) (by decide)
  refine q_forR1 (n := 1 + drawn ns 1 8) (ea_cons (ev_op ev_c (ev_drawn (j := 1) (ex_l e12 hl) (ev_var rfl) ev_c ev_c (by decide) (by decide)) rv_addI) ea_nil) (by omega)
    (fun i σ H' => ∃ (x4 : Option V) (cs : List Nat), σ = [some (.ref l), some (.int (m : Int)), some (.str "abcdefghijklmnopqrstuvwxyz"), some (.str (SX.S cs)), x4, none, none, none] ∧ Ex H H' ∧ cs.length = i ∧ ∀ c ∈ cs, c ∈ lets)
    (fun H3 e3 => ⟨_, [], rfl, e12.trans e3, rfl, fun c hc => by simp at hc⟩) ?_ ?_
  · rintro i σ H3 hi ⟨x4, cs, rfl, e3, hcs, hl2⟩
    have b26 := drawn_bd ns (2 + i) (size := 26) (by decide)
    have e26 : ((2 : Int) + (i : Int)) = ((2 + i : Nat) : Int) := by omega
    refine s_asg (v := .str (SX.S (cs ++ [lets.getD (drawn ns (2 + i) 26).toNat 0]))) (ev_is (ev_op (ev_var rfl) (ev_op (ev_var rfl) (ev_drawn (j := 2 + i) (ex_l e3 hl) (ev_var rfl) (ev_is (ev_op ev_c (ev_var rfl) rv_addI) (by rw [e26])) ev_c (by omega) (by decide)) (rv_itS (by decide +kernel) (atI_drawn (xs := lets) ns (2 + i) 0 (by decide +kernel) (by decide)))) (rv_addS ?_)) ?_) fun H4 e4 => ?_
    · rw [SX.S_len]
      show cs.length + 1 ≤ 100000
      omega
    · rw [S_one, S_app]
    · refine ⟨_, _, rfl, e3.trans e4, by rw [List.length_append, hcs]; rfl, fun c hc => ?_⟩
      rcases List.mem_append.mp hc with z | z
      · exact hl2 c z
      · rw [List.mem_singleton.mp z]
        exact getD_mem (drawn_lt ns (2 + i) (by decide +kernel) (by decide))
  · rintro σ H3 ⟨x4, cs, rfl, e3, hcs, hl2⟩
    have h1 : 1 ≤ cs.length ∧ cs.length ≤ 8 := by omega
    have ba := drawn_bd ns 10 (size := (cs.length : Int)) (by omega)
    obtain ⟨a, ha⟩ : ∃ a : Nat, drawn ns 10 (cs.length : Int) = (a : Int) := ⟨(drawn ns 10 (cs.length : Int)).toNat, (Int.toNat_of_nonneg ba.1).symm⟩
    refine q_asg (v := .int (a : Int)) (ev_is (ev_drawn (j := 10) (ex_l e3 hl) (ev_var rfl) ev_c (ev_is (ev_lenV (ev_var rfl) (rc_lenS (by rw [SX.S_len]; omega))) (by rw [SX.S_len])) (by decide) (by omega)) (by rw [ha])) fun H4 e4 => ?_
    have hal : a < cs.length := by omega
    refine q_asgL (el_lst ea_nil (by decide)) fun p H5 hp e5 h5 => ?_
    have ca : cs.getD a 0 ∈ lets := hl2 _ (getD_mem hal)
    have pc := occ_ok _ ca
    have e34 := e3.trans e4
    refine q_forR1 (n := (m : Int)) (ea_cons (ev_var rfl) ea_nil) (by omega)
      (fun i σ H' => ∃ (x4 x7 : Option V), σ = [some (.ref l), some (.int (m : Int)), some (.str "abcdefghijklmnopqrstuvwxyz"), some (.str (SX.S cs)), x4, some (.int (a : Int)), some (.ref p), x7] ∧ Ex H4 H' ∧ H' p = some (.lst (((List.range i).map fun k => SX.S (nameAt cs a k)).map V.str)))
      (fun H6 e6 => ⟨_, _, rfl, e5.trans e6, e6 _ _ h5⟩) ?_ ?_
    · rintro i σ H6 hi ⟨x4, x7, rfl, e6, h6⟩
      refine q_asg (v := .str ⟨#[lets.getD ((posL (cs.getD a 0) + i) % 26) 0]⟩) (ev_is (ev_op (ev_var rfl) (ev_op (ev_op (ev_sindex (c := cs.getD a 0) (ev_var rfl) (ev_op (ev_var rfl) (ev_var rfl) (rv_itS (by rw [SX.S_len]; omega) (atI_nat (show cs[a]? = some (cs.getD a 0) by rw [List.getD_eq_getElem?_getD, List.getElem?_eq_getElem hal]; rfl)))) ca) (ev_var rfl) rv_addI) ev_c (rv_mod (by decide))) (rv_itS (c := lets.getD ((posL (cs.getD a 0) + i) % 26) 0) (by decide +kernel) ?_)) rfl) fun H7 e7 => ?_
      · have e : ((posL (cs.getD a 0) : Int) + (i : Int)) % 26 = (((posL (cs.getD a 0) + i) % 26 : Nat) : Int) := by omega
        rw [e]
        refine atI_nat ?_
        have hlt : (posL (cs.getD a 0) + i) % 26 < lets.length := Nat.lt_of_lt_of_eq (Nat.mod_lt _ (by decide)) (by decide +kernel)
        exact let_at hlt
      · refine s_app (v := .str (SX.S (nameAt cs a i))) (e7 _ _ h6) (ev_var rfl) (ev_is (ev_op (ev_op (ev_slS (ev_var rfl) eo_none (eo_some (ev_var rfl)) (by rw [SX.S_len]; omega)) (ev_var rfl) (rv_addS ?_)) (ev_slS (ev_var rfl) (eo_some (ev_op (ev_var rfl) ev_c rv_addI)) eo_none (by rw [SX.S_len]; omega)) (rv_addS ?_)) ?_) (by rw [List.length_map, List.length_map, List.length_range]; omega) fun H8 e8 => ?_
        · rw [cutTo, SX.S_len, List.length_take]
          show _ + 1 ≤ _
          omega
        · rw [show ((a : Int) + 1) = ((a + 1 : Nat) : Int) by omega, cutTo, cut_from, S_one, S_app, SX.S_len, SX.S_len, List.length_append, List.length_take, List.length_drop]
          show _ + 1 + _ ≤ _
          omega
        · rw [show ((a : Int) + 1) = ((a + 1 : Nat) : Int) by omega, cutTo, cut_from, S_one, S_app, S_app]
          rfl
        · refine ⟨_, _, rfl, Ex.mut ((e6.trans e7).trans e8) hp, ?_⟩
          rw [List.range_succ, List.map_append, List.map_append]
          exact upd_same
    · rintro σ H6 ⟨x4, x7, rfl, e6, h6⟩
      have hlen : ∀ k, (nameAt cs a k).length = cs.length := fun k => by
        unfold nameAt
        rw [List.length_append, List.length_append, List.length_take, List.length_drop]
        show min a cs.length + 1 + _ = _
        omega
      have hlet : ∀ k, (posL (cs.getD a 0) + k) % 26 < lets.length := fun k => Nat.lt_of_lt_of_eq (Nat.mod_lt _ (by decide)) (by decide +kernel)
      refine s_ret (ev_var rfl) fun H7 e7 => k ((List.range m).map fun k => SX.S (nameAt cs a k)) (by rw [List.length_map, List.length_range]) ?_ (fun z hz => ?_) p H7 (fresh_back e34 hp) ((e34.trans e6).trans e7) (e7 _ _ ?_)
      · refine List.Pairwise.map _ (R := fun x y => x < y ∧ y < m) ?_ ?_
        · intro x y ⟨hxy, hy⟩ e
          have e := S_inj e
          have q : (nameAt cs a x)[a]? = (nameAt cs a y)[a]? := by rw [e]
          have g : ∀ k, (nameAt cs a k)[a]? = some (lets.getD ((posL (cs.getD a 0) + k) % 26) 0) := fun k => by
            unfold nameAt
            rw [List.append_assoc, List.getElem?_append_right (by rw [List.length_take]; omega), List.length_take, Nat.min_eq_left (by omega), Nat.sub_self]
            rfl
          rw [g, g] at q
          have q := Option.some.inj q
          have := let_inj (hlet x) (hlet y) q
          omega
        · have : ∀ n, (List.range n).Pairwise fun x y => x < y ∧ y < n := fun n => List.pairwise_iff_getElem.mpr fun i j hi hj hij => by
            rw [List.getElem_range, List.getElem_range]
            rw [List.length_range] at hj
            exact ⟨hij, hj⟩
          exact this m
      · obtain ⟨k, hk, rfl⟩ := List.mem_map.mp hz
        refine name_of (by rw [hlen]; omega) (by rw [hlen]; omega) fun c hc => ?_
        unfold nameAt at hc
        rcases List.mem_append.mp hc with z | z
        · rcases List.mem_append.mp z with z | z
          · exact hl2 c (List.mem_of_mem_take z)
          · rw [List.mem_singleton.mp z]
            exact getD_mem (hlet k)
        · exact hl2 c (List.mem_of_mem_drop z)
      · rw [h6]
        simp
end
end Z

set_option Elab.async false
set_option linter.all false
set_option autoImplicit false
set_option maxRecDepth 100000
set_option maxHeartbeats 4000000
/-! ev: what an expression comes to, by its form -/
local macro_rules | `(tactic| k_places) => `(tactic| (repeat' (first
  | (with_reducible exact ev_c)
  | (with_reducible exact ev_var rfl)
  | (with_reducible refine ev_chainLL ?_ ?_ ?_)
  | (with_reducible refine ev_chainLt ?_ ?_ ?_)
  | (with_reducible refine ev_op ?_ ?_ ?_)
  | (with_reducible refine ev_neg ?_)
  | (with_reducible refine et_test ?_)
  | (with_reducible refine et_B ?_)
  | (with_reducible refine et_not ?_)
  | (with_reducible refine et_and ?_ (fun _ => ?_))
  | (with_reducible refine et_or ?_ (fun _ => ?_))
  | (with_reducible refine ev_andV ?_ (fun _ => ?_))
  | (with_reducible refine ev_orV ?_ (fun _ => ?_))
  | (with_reducible refine ev_notV ?_)
  | (with_reducible exact rv_addI)
  | (with_reducible exact rv_subI)
  | (with_reducible exact rv_lt)
  | (with_reducible exact rv_le)
  | (with_reducible exact rv_gt)
  | (with_reducible exact rv_ge)
  | (with_reducible exact rv_isB)
  | (with_reducible exact rv_isnB)
  | (with_reducible exact rv_isN)
  | (with_reducible exact rv_isnN)
  | (with_reducible exact rv_eqS rfl)
  | (with_reducible exact rv_neS rfl)
  | (with_reducible exact rv_inStr)
  | (with_reducible exact rv_ninStr)
  | (with_reducible exact rv_mod (by first | decide | omega | assumption))
  | (with_reducible exact rv_div (by first | decide | omega | assumption))
  | (with_reducible exact rv_pow (by decide))
  | (with_reducible refine ed_i ?_; done)
  | (with_reducible exact ea_nil)
  | (with_reducible refine ea_cons ?_ ?_)
  | (with_reducible exact eds_nil)
  | (with_reducible refine eds_cons ?_ ?_)
  | (with_reducible exact ed_dnew)
  | (with_reducible refine ed_lst ?_ (by simp only [List.length_cons, List.length_nil]; omega))
  | (with_reducible refine ed_tup ?_ (by simp only [List.length_cons, List.length_nil]; omega)))))
namespace Z
open PySem PySem.Spec PyProof.Rows L2 Evl NdefX LamX
/-! ### worlds: what is told of cells, kept in a dict -/
theorem eqv_self {d : PyData} (h : okD d) : PyData.eqv d d = true := PySem.SeqAt.eqv_refl d (okN_lay 10 d h).1
theorem okI2 (n : List Int) : okD (.list (n.map PyData.int)) := by
  show okN 10 (.list _)
  rw [okN, okNs_iff]
  intro d hd
  obtain ⟨i, _, rfl⟩ := List.mem_map.mp hd
  simp [okN]
def keyS (s : Spot) : List Key := [.inr s.1, .inr s.2.1, .inl s.2.2]
theorem keyS_inj {s t : Spot} (h : keyS s = keyS t) : s = t := by
  obtain ⟨a, b, c⟩ := s
  obtain ⟨x, y, z⟩ := t
  simp only [keyS, List.cons.injEq, Sum.inr.injEq, Sum.inl.injEq, and_true] at h
  obtain ⟨rfl, rfl, rfl⟩ := h
  rfl
def WAt (H : Hp) (wd : Addr) (W : Spot → Val) (Dom : Spot → Prop) : Prop := ∃ kvs, H wd = some (.dT kvs) ∧ ∀ s, Dom s → ∃ v, valV kvs (keyS s) = some v ∧ Vt H v (dV (W s))
def RAt (H : Hp) (rw : Addr) (R : Str → Nat) (Tm : Str → Prop) : Prop := ∃ rvs, H rw = some (.dK rvs) ∧ ∀ t, Tm t → valV rvs (.inr t) = some (.int (R t))
/-- the tables ts, the columns zs: the values W of all cells, R rows -/
def domW (ts zs : List Str) (R : Str → Nat) : Spot → Prop := fun s => s.1 ∈ ts ∧ s.2.1 ∈ zs ∧ ∃ i : Nat, s.2.2 = (i : Int) ∧ i < R s.1
structure World (H : Hp) (wd rw : Addr) (ts zs : List Str) (W : Spot → Val) (R : Str → Nat) : Prop where
  w : WAt H wd W (domW ts zs R)
  r : RAt H rw R (· ∈ ts)
  ok : ∀ s, okV (W s)
  few : ∀ t, t ∈ ts → R t ≤ 30
theorem WAt.imk {H H' : Hp} {wd : Addr} {W : Spot → Val} {Dom : Spot → Prop} (h : WAt H wd W Dom) (k : ∀ o, H wd = some o → H' wd = some o) (i : Imk H H') : WAt H' wd W Dom := let ⟨kvs, a, b⟩ := h; ⟨kvs, k _ a, fun s d => let ⟨v, c, e⟩ := b s d; ⟨v, c, e.tup i.tup⟩⟩
theorem RAt.imk {H H' : Hp} {rw : Addr} {R : Str → Nat} {Tm : Str → Prop} (h : RAt H rw R Tm) (k : ∀ o, H rw = some o → H' rw = some o) : RAt H' rw R Tm := let ⟨rvs, a, b⟩ := h; ⟨rvs, k _ a, b⟩
theorem World.imk {H H' : Hp} {wd rw : Addr} {ts zs : List Str} {W : Spot → Val} {R : Str → Nat} (h : World H wd rw ts zs W R) (k1 : ∀ o, H wd = some o → H' wd = some o) (k2 : ∀ o, H rw = some o → H' rw = some o) (i : Imk H H') : World H' wd rw ts zs W R := ⟨h.w.imk k1 i, h.r.imk k2, h.ok, h.few⟩
theorem World.ex {H H' : Hp} {wd rw : Addr} {ts zs : List Str} {W : Spot → Val} {R : Str → Nat} (h : World H wd rw ts zs W R) (e : Ex H H') : World H' wd rw ts zs W R := h.imk (e _) (e _) (.of e)
/-! ### the law's helpers -/
def RetX (H : Hp) (Q : VK) : Prop := ∀ (x : Val) v H', okV x → Ex H H' → Vt H' v (dV x) → Q v H'
def sp_law_value (K : PySem.W.Frag) : Sp := fun vs H Q _ => ∃ (l : Addr) (ns : List Int) (j : Nat) (fl : Int), vs = [.ref l, .int (j : Int), .int fl] ∧ SqL K H l (ns.map V.int) ∧ j ≤ 90000 ∧ RetX H Q
def sp_law_world (K : PySem.W.Frag) : Sp := fun vs H Q _ => ∃ (l np tp : Addr) (ns : List Int) (zs : List Str) (t1 t2 : Str) (fl : Int) (j : Nat), vs = [.ref l, .ref np, .ref tp, .int fl, .int (j : Int)] ∧ SqL K H l (ns.map V.int) ∧ H np = some (.lst (zs.map V.str)) ∧ zs.length ≤ 6 ∧ H tp = some (.lst [.str t1, .str t2]) ∧ t1 ≠ t2 ∧ j ≤ 2000 ∧
  ∀ a wd rw H' W R, Ex H H' → H' a = some (.tup [.ref wd, .ref rw]) → World H' wd rw [t1, t2] zs W R → 1 ≤ R t1 → Q (.ref a) H'
def sp_law_table (K : PySem.W.Frag) : Sp := fun vs H Q _ => ∃ (l rw tp : Addr) (ns : List Int) (t1 t2 : Str) (j : Nat) (R : Str → Nat), vs = [.ref l, .int (j : Int), .ref rw, .ref tp] ∧ SqL K H l (ns.map V.int) ∧ H tp = some (.lst [.str t1, .str t2]) ∧ RAt H rw R (· ∈ [t1, t2]) ∧ 1 ≤ R t1 ∧ j ≤ 2000 ∧
  ∀ t, t ∈ [t1, t2] → 1 ≤ R t → RetV (.str t) H Q
def sp_law_look (K : PySem.W.Frag) : Sp := fun vs H Q _ => ∃ (wd pn : Addr) (xs : List V) (s : Spot) (kvs : List (List Key × V)) (v : V), vs = [.ref wd, .ref pn, .str s.1, .str s.2.1, .int s.2.2] ∧ H wd = some (.dT kvs) ∧ valV kvs (keyS s) = some v ∧ H pn = some (.lst xs) ∧ xs.length < 1000 ∧
  ∀ b H', (∀ T, XB T [pn] H H') → H' pn = some (.lst (xs ++ [b])) → AtS H' b s → Q v H'
def t_law_value (K : PySem.W.Frag) (E : XK) : TS :=
  tSeq (tAsg (tCallS (sp_law_drawn K) (WE (fun cls d _ H => E cls d H)) (tCons (tVar 0) (tCons (tVar 1) (tCons (tC (.int 16)) tNil)))) (gName 3))
    (tSeq (tIfS (tTest (tOp rLtA (tVar 3) (tVar 2))) (tRet (tTup (tCons (tC (.str "fault")) (tCons (tOp (rIxA K) (tLst (tCons (tC (.str "odd")) (tCons (tC (.str "lacks")) (tCons (tC (.str "a")) (tCons (tC (.str "zzzzzzzz")) tNil))))) (tCallS (sp_law_drawn K) (WE (fun cls d _ H => E cls d H)) (tCons (tVar 0) (tCons (tOp (rAddA K) (tVar 1) (tC (.int 1))) (tCons (tC (.int 4)) tNil))))) tNil)))) tNext)
    (tSeq (tIfS (tTest (tOp (rEqA K) (tVar 3) (tC (.int 15)))) (tRet (tOp (rMulA K) (tOp rPowA (tOp (rAddA K) (tCallS (sp_law_drawn K) (WE (fun cls d _ H => E cls d H)) (tCons (tVar 0) (tCons (tOp (rAddA K) (tVar 1) (tC (.int 1))) (tCons (tC (.int 999983)) tNil)))) (tC (.int 1))) (tC (.int 9))) (tOp (rIxA K) (tLst (tCons (tC (.int 1)) (tCons (tUn rNegA (tC (.int 1))) tNil))) (tCallS (sp_law_drawn K) (WE (fun cls d _ H => E cls d H)) (tCons (tVar 0) (tCons (tOp (rAddA K) (tVar 1) (tC (.int 2))) (tCons (tC (.int 2)) tNil))))))) tNext)
    (tRet (tOp rSubA (tCallS (sp_law_drawn K) (WE (fun cls d _ H => E cls d H)) (tCons (tVar 0) (tCons (tOp (rAddA K) (tVar 1) (tC (.int 1))) (tCons (tC (.int 4)) tNil)))) (tC (.int 1))))))
def t_law_world (K : PySem.W.Frag) (E : XK) : TS :=
  tSeq (tAsg tDNewT (gName 5))
    (tSeq (tAsg tDNewK (gName 6))
    (tSeq (tFor (iList K (tVar 2)) (gName 7) (tSeq (tAsg (tCallS (sp_law_drawn K) (WE (fun cls d _ H => E cls d H)) (tCons (tVar 0) (tCons (tVar 4) (tCons (tC (.int 7)) tNil)))) (gSub (tVar 6) (tVar 7) rSetA))
    (tSeq (tIfS (tTest (tOp (rEqA K) (tCallS (sp_law_drawn K) (WE (fun cls d _ H => E cls d H)) (tCons (tVar 0) (tCons (tOp (rAddA K) (tVar 4) (tC (.int 1))) (tCons (tC (.int 16)) tNil)))) (tC (.int 5)))) (tAsg (tC (.int 30)) (gSub (tVar 6) (tVar 7) rSetA)) tNext)
    (tSeq (tIfS (tTest (tOp (rEqA K) (tVar 7) (tOp (rIxA K) (tVar 2) (tC (.int 0))))) (tAsg (tCB rMax2 (tCons (tC (.int 1)) (tCons (tOp (rIxA K) (tVar 6) (tVar 7)) tNil))) (gSub (tVar 6) (tVar 7) rSetA)) tNext)
    (tFor (iList K (tVar 1)) (gName 8) (tFor (iRng1 (tCons (tOp (rIxA K) (tVar 6) (tVar 7)) tNil)) (gName 9) (tSeq (tAsg (tOp (rAddA K) (tVar 4) (tC (.int 3))) (gName 4))
    (tAsg (tCallS (sp_law_value K) (WE (fun cls d _ H => E cls d H)) (tCons (tVar 0) (tCons (tVar 4) (tCons (tVar 3) tNil)))) (gSub (tVar 5) (tTup (tCons (tVar 7) (tCons (tVar 8) (tCons (tVar 9) tNil)))) rSetA)))))))))
    (tRet (tTup (tCons (tVar 5) (tCons (tVar 6) tNil))))))
def t_law_table (K : PySem.W.Frag) (E : XK) : TS :=
  tSeq (tAsg (tOp (rIxA K) (tVar 3) (tCallS (sp_law_drawn K) (WE (fun cls d _ H => E cls d H)) (tCons (tVar 0) (tCons (tVar 1) (tCons (tC (.int 2)) tNil))))) (gName 4))
    (tSeq (tIfS (tTest (tOp (rEqA K) (tOp (rIxA K) (tVar 2) (tVar 4)) (tC (.int 0)))) (tRet (tOp (rIxA K) (tVar 3) (tC (.int 0)))) tNext)
    (tRet (tVar 4)))
def t_law_look (K : PySem.W.Frag) (E : XK) : TS :=
  tSeq (tDrop (tBM K "list" rAppend (tVar 1) (tCons (tTup (tCons (tVar 2) (tCons (tVar 3) (tCons (tVar 4) tNil)))) tNil)))
    (tRet (tOp (rIxA K) (tVar 0) (tTup (tCons (tVar 2) (tCons (tVar 3) (tCons (tVar 4) tNil))))))
section
variable {K : PySem.W.Frag} {σ : L2.St} {H H' : Hp} {ta tb tc te tx : TE} {D : Ends} {tz : TS} {E : L2.St → XK}
theorem len_law_value (vs : List V) (H : Hp) (Q : VK) (E : XK) (h : sp_law_value K vs H Q E) : vs.length = 3 := by obtain ⟨_, _, _, _, rfl, _⟩ := h; rfl
theorem len_law_world (vs : List V) (H : Hp) (Q : VK) (E : XK) (h : sp_law_world K vs H Q E) : vs.length = 5 := by obtain ⟨_, _, _, _, _, _, _, _, _, rfl, _⟩ := h; rfl
theorem len_law_table (vs : List V) (H : Hp) (Q : VK) (E : XK) (h : sp_law_table K vs H Q E) : vs.length = 4 := by obtain ⟨_, _, _, _, _, _, _, _, rfl, _⟩ := h; rfl
theorem len_law_look (vs : List V) (H : Hp) (Q : VK) (E : XK) (h : sp_law_look K vs H Q E) : vs.length = 5 := by obtain ⟨_, _, _, _, _, _, rfl, _⟩ := h; rfl
/-- an item of a new list -/
theorem ev_ixN {xs : List V} {i : Int} {v : V} (h : EvL ta σ H xs) (hi : Ev tb σ H (.int i)) (a : atI xs i = some v) : Ev (tOp (rIxA K) ta tb) σ H v := ev_opL1 h (fun H1 e1 => hi.mono e1) fun p H1 hp _ => rv_itL (SqL.of hp) a
theorem r_law_value (vs : List V) (H : Hp) (Q : VK) (E : XK) (h : sp_law_value K vs H Q E) : t_law_value K E { nx := fun _ H' => Q .non H', rt := Q } (L2.start ["script", "k", "faults", "way"] vs) H := by
  obtain ⟨l, ns, j, fl, rfl, hl, hj, k⟩ := h
  unfold t_law_value
  have kk : ∀ {te : TE} {σ : L2.St} {H1 : Hp} {D : Ends} {i : Int}, D.rt = Q → Ex H H1 → Ev te σ H1 (.int i) → (-(10 ^ 60) < i ∧ i < 10 ^ 60) → tRet te D σ H1 := fun hD e ht hi => s_ret ht fun H2 e2 => by rw [hD]; exact k (.inl _) _ _ hi (e.trans e2) (.int _)
  refine q_asg (ev_drawn (j := j) hl (ev_var rfl) (ev_var rfl) ev_c (by omega) (by decide)) fun H1 e1 => ?_
  have dr : ∀ {σ : L2.St} {H1 : Hp} {i : Nat} {n : Int}, σ[0]? = some (some (V.ref l)) → σ[1]? = some (some (V.int (j : Int))) → Ex H H1 → i ≤ 10 → 0 < n → Ev (tCallS (sp_law_drawn K) (WE (fun cls d _ H => E cls d H)) (tCons (tVar 0) (tCons (tOp (rAddA K) (tVar 1) (tC (.int (i : Int)))) (tCons (tC (.int n)) tNil)))) σ H1 (.int (drawn ns (j + i) n)) := fun h0 h1 e hi hn =>
    ev_drawn (j := _) (ex_l e hl) (ev_var h0) (ev_is (ev_op (ev_var h1) ev_c rv_addI) (by rw [Int.natCast_add])) ev_c (by omega) hn
  refine q_when (et_test (ev_op (ev_var rfl) (ev_var rfl) rv_lt)) (fun _ H2 e2 => ?_) (fun _ H2 e2 => ?_)
  · have e12 := e1.trans e2
    have dd := dr (σ := [some (.ref l), some (.int (j : Int)), some (.int fl), some (.int (drawn ns j 16))]) (i := 1) (n := 4) rfl rfl e12 (by decide) (by decide)
    have ix := ev_ixN (K := K) (el_lst (ea_cons (ev_c (v := .str "odd")) (ea_cons (ev_c (v := .str "lacks")) (ea_cons (ev_c (v := .str "a")) (ea_cons (ev_c (v := .str "zzzzzzzz")) ea_nil)))) (show 4 ≤ 100000 by decide)) dd (atI_drawn ns (j + 1) .non (by rfl) (by decide))
    have hm : (["odd", "lacks", "a", "zzzzzzzz"] : List Str).map V.str = [V.str "odd", V.str "lacks", V.str "a", V.str "zzzzzzzz"] := rfl
    obtain ⟨w, hw, ew⟩ : ∃ w ∈ (["odd", "lacks", "a", "zzzzzzzz"] : List Str), [V.str "odd", V.str "lacks", V.str "a", V.str "zzzzzzzz"].getD (drawn ns (j + 1) 4).toNat .non = V.str w := by
      have := getD_mem (d := V.non) (drawn_lt (xs := [V.str "odd", V.str "lacks", V.str "a", V.str "zzzzzzzz"]) ns (j + 1) (n := 4) rfl (by decide))
      rw [← hm] at this
      obtain ⟨w, a, b⟩ := List.mem_map.mp this
      exact ⟨w, a, b.symm⟩
    rw [ew] at ix
    refine s_retU (eu_tup (ea_cons ev_c (ea_cons ix ea_nil)) (show 2 ≤ 100000 by decide)) fun a H3 _ e3 h3 => k (.inr w) _ _ ?_ (e12.trans e3) (.flt h3)
    have : ∀ w ∈ (["odd", "lacks", "a", "zzzzzzzz"] : List Str), isName w = true := by decide +kernel
    exact this w hw
  refine q_when (et_test (ev_op (ev_var rfl) ev_c (rv_eqS rfl))) (fun _ H3 e3 => ?_) (fun _ H3 e3 => ?_)
  · have e13 := (e1.trans e2).trans e3
    have b1 := drawn_bd ns (j + 1) (size := 999983) (by decide)
    have d1 := dr (σ := [some (.ref l), some (.int (j : Int)), some (.int fl), some (.int (drawn ns j 16))]) (i := 1) (n := 999983) rfl rfl e13 (by decide) (by decide)
    have d2 := dr (σ := [some (.ref l), some (.int (j : Int)), some (.int fl), some (.int (drawn ns j 16))]) (i := 2) (n := 2) rfl rfl e13 (by decide) (by decide)
    obtain ⟨x, hx⟩ : ∃ x, x = drawn ns (j + 1) 999983 + 1 := ⟨_, rfl⟩
    have bx : 0 < x ∧ x < 1000000 := by omega
    have px : 0 < x ^ 9 ∧ x ^ 9 < 10 ^ 54 := by
      refine ⟨Int.pow_pos bx.1, ?_⟩
      have : x.toNat ^ 9 < 1000000 ^ 9 := Nat.pow_lt_pow_left (by omega) (by decide)
      have e : x ^ 9 = ((x.toNat ^ 9 : Nat) : Int) := by rw [Int.natCast_pow, Int.toNat_of_nonneg (by omega)]
      have e9 : (1000000 ^ 9 : Nat) = 10 ^ 54 := by decide +kernel
      rw [e9] at this
      rw [e]
      have e5 : ((10 : Int) ^ 54) = ((10 ^ 54 : Nat) : Int) := by decide +kernel
      rw [e5]
      exact Int.ofNat_lt.mpr this
    obtain ⟨y, hy, ey⟩ : ∃ y : Int, (y = 1 ∨ y = -1) ∧ [V.int 1, V.int (-1)].getD (drawn ns (j + 2) 2).toNat .non = V.int y := by
      have := getD_mem (d := V.non) (drawn_lt (xs := [V.int 1, V.int (-1)]) ns (j + 2) (n := 2) rfl (by decide))
      rcases List.mem_cons.mp this with z | z
      · exact ⟨1, .inl rfl, z⟩
      · exact ⟨-1, .inr rfl, List.mem_singleton.mp z⟩
    have ix := ev_ixN (K := K) (el_lst (ea_cons (ev_c (v := .int 1)) (ea_cons (ev_neg (i := 1) ev_c) ea_nil)) (show 2 ≤ 100000 by decide)) d2 (atI_drawn ns (j + 2) .non (by rfl) (by decide))
    rw [ey] at ix
    refine kk (i := x ^ (9 : Int).toNat * y) rfl e13 (ev_op (ev_is (ev_op (ev_op d1 ev_c rv_addI) ev_c (rv_pow (by omega))) (by rw [hx])) ix (rv_mulI (wide_mul (a := 200) (b := 2) ?_ (by omega) (by decide) (by decide) (by decide)))) ?_
    · have h54 : (10 : Int) ^ 54 < 2 ^ 200 := by decide +kernel
      show (x ^ 9).natAbs < _
      omega
    · have h54 : (10 : Int) ^ 54 < 10 ^ 60 := by decide +kernel
      show -(10 ^ 60) < x ^ 9 * y ∧ x ^ 9 * y < 10 ^ 60
      rcases hy with rfl | rfl <;> omega
  · have e13 := (e1.trans e2).trans e3
    have b1 := drawn_bd ns (j + 1) (size := 4) (by decide)
    have d1 := dr (σ := [some (.ref l), some (.int (j : Int)), some (.int fl), some (.int (drawn ns j 16))]) (i := 1) (n := 4) rfl rfl e13 (by decide) (by decide)
    exact kk rfl e13 (ev_op d1 ev_c rv_subI) (by omega)
theorem r_law_table (vs : List V) (H : Hp) (Q : VK) (E : XK) (h : sp_law_table K vs H Q E) : t_law_table K E { nx := fun _ H' => Q .non H', rt := Q } (L2.start ["script", "k", "rows", "tables", "table"] vs) H := by
  obtain ⟨l, rw, tp, ns, t1, t2, j, R, rfl, hl, ht, ⟨rvs, hr, hv⟩, h1, hj, k⟩ := h
  unfold t_law_table
  obtain ⟨t, mt, et⟩ : ∃ t ∈ [t1, t2], [V.str t1, V.str t2].getD (drawn ns j 2).toNat .non = V.str t := by
    have := getD_mem (d := V.non) (drawn_lt (xs := [V.str t1, V.str t2]) ns j (n := 2) rfl (by decide))
    rcases List.mem_cons.mp this with z | z
    · exact ⟨t1, List.mem_cons_self, z⟩
    · exact ⟨t2, by simp, List.mem_singleton.mp z⟩
  refine q_asg (v := .str t) (ev_is (ev_op (ev_var rfl) (ev_drawn (j := j) hl (ev_var rfl) (ev_var rfl) ev_c (by omega) (by decide)) (rv_itL (SqL.of ht) (atI_drawn ns j .non (by rfl) (by decide)))) et) fun H1 e1 => ?_
  refine q_when (et_test (ev_op (ev_op (ev_var rfl) (ev_var rfl) (rv_ixDk (k := .inr t) (e1 _ _ hr) (hv t mt))) ev_c (rv_eqS rfl))) (fun hb H2 e2 => ?_) (fun hb H2 e2 => ?_)
  · refine s_ret (v := .str t1) (ev_op (ev_var rfl) ev_c (rv_itL (SqL.of ((e1.trans e2) _ _ ht)) rfl)) fun H3 e3 => k t1 (by simp) h1 H3 ((e1.trans e2).trans e3)
  · refine s_ret (ev_var rfl) fun H3 e3 => k t mt ?_ H3 ((e1.trans e2).trans e3)
    have : ¬ (V.int (R t) = V.int 0) := of_decide_eq_false hb
    have : (R t : Int) ≠ 0 := fun z => this (by rw [z])
    omega
theorem r_law_look (vs : List V) (H : Hp) (Q : VK) (E : XK) (h : sp_law_look K vs H Q E) : t_law_look K E { nx := fun _ H' => Q .non H', rt := Q } (L2.start ["world", "notes", "table", "column", "place"] vs) H := by
  obtain ⟨wd, pn, xs, s, kvs, v, rfl, hw, hv, hp, hl, k⟩ := h
  unfold t_law_look
  refine q_appU hp (ev_var rfl) (eu_tup (ea_cons (ev_var rfl) (ea_cons (ev_var rfl) (ea_cons (ev_var rfl) ea_nil))) (show 3 ≤ 100000 by decide)) (by omega) fun b H1 hb e1 h1 => ?_
  have wp : wd ≠ pn := ne_of hw hp fun z => nomatch z
  have bp : b ≠ pn := fun z => by rw [z] at hb; rw [hp] at hb; cases hb
  have tb : ∀ (σ : L2.St) (H2 : Hp), σ = [some (.ref wd), some (.ref pn), some (.str s.1), some (.str s.2.1), some (.int s.2.2)] → EvU (tTup (tCons (tVar 2) (tCons (tVar 3) (tCons (tVar 4) tNil)))) σ H2 ((keyS s).map kV) := fun σ H2 e => by
    subst e
    exact eu_tup (ea_cons (ev_var rfl) (ea_cons (ev_var rfl) (ea_cons (ev_var rfl) ea_nil))) (show 3 ≤ 100000 by decide)
  refine s_ret (v := v) (ev_opU (ev_var rfl) (tb _ _ rfl) fun p H3 h3 e3 H4 e4 Q4 q4 => .inr ⟨wd, v, rfl, ?_, q4 H4 (Ex.refl H4)⟩) fun H3 e3 => ?_
  · rw [← hv]
    exact DGet.t (e4 _ _ (e3 _ _ ((upd_ne wp).trans (e1 _ _ hw)))) (e4 _ _ h3)
  · refine k (.ref b) H3 (fun T => ?_) (e3 _ _ upd_same) ⟨b, rfl, e3 _ _ ((upd_ne bp).trans h1)⟩
    exact ((XB.of e1).trans (XB.upd (e1 _ _ hp) (fun z => z) (fun _ z => nomatch z) (List.mem_singleton.mpr rfl))).trans (XB.of e3)
end
end Z

set_option Elab.async false
set_option linter.all false
set_option autoImplicit false
set_option maxRecDepth 100000
set_option maxHeartbeats 4000000
/-! ev: what an expression comes to, by its form -/
local macro_rules | `(tactic| k_places) => `(tactic| (repeat' (first
  | (with_reducible exact ev_c)
  | (with_reducible exact ev_var rfl)
  | (with_reducible refine ev_chainLL ?_ ?_ ?_)
  | (with_reducible refine ev_chainLt ?_ ?_ ?_)
  | (with_reducible refine ev_op ?_ ?_ ?_)
  | (with_reducible refine ev_neg ?_)
  | (with_reducible refine et_test ?_)
  | (with_reducible refine et_B ?_)
  | (with_reducible refine et_not ?_)
  | (with_reducible refine et_and ?_ (fun _ => ?_))
  | (with_reducible refine et_or ?_ (fun _ => ?_))
  | (with_reducible refine ev_andV ?_ (fun _ => ?_))
  | (with_reducible refine ev_orV ?_ (fun _ => ?_))
  | (with_reducible refine ev_notV ?_)
  | (with_reducible exact rv_addI)
  | (with_reducible exact rv_subI)
  | (with_reducible exact rv_lt)
  | (with_reducible exact rv_le)
  | (with_reducible exact rv_gt)
  | (with_reducible exact rv_ge)
  | (with_reducible exact rv_isB)
  | (with_reducible exact rv_isnB)
  | (with_reducible exact rv_isN)
  | (with_reducible exact rv_isnN)
  | (with_reducible exact rv_eqS rfl)
  | (with_reducible exact rv_neS rfl)
  | (with_reducible exact rv_inStr)
  | (with_reducible exact rv_ninStr)
  | (with_reducible exact rv_mod (by first | decide | omega | assumption))
  | (with_reducible exact rv_div (by first | decide | omega | assumption))
  | (with_reducible exact rv_pow (by decide))
  | (with_reducible refine ed_i ?_; done)
  | (with_reducible exact ea_nil)
  | (with_reducible refine ea_cons ?_ ?_)
  | (with_reducible exact eds_nil)
  | (with_reducible refine eds_cons ?_ ?_)
  | (with_reducible exact ed_dnew)
  | (with_reducible refine ed_lst ?_ (by simp only [List.length_cons, List.length_nil]; omega))
  | (with_reducible refine ed_tup ?_ (by simp only [List.length_cons, List.length_nil]; omega)))))
namespace Z
open PySem PySem.Spec PyProof.Rows L2 Evl NdefX LamX
def GoodC (kvs : List (List Key × V)) (H : Hp) (s : Spot) : Prop := ∃ v x, valV kvs (keyS s) = some v ∧ okV x ∧ Vt H v (dV x)
theorem GoodC.imk {kvs : List (List Key × V)} {H H' : Hp} {s : Spot} (g : GoodC kvs H s) (i : Imk H H') : GoodC kvs H' s := let ⟨v, x, a, b, c⟩ := g; ⟨v, x, a, b, c.tup i.tup⟩
theorem GoodC.put {kvs : List (List Key × V)} {H : Hp} {s t : Spot} {v : V} {x : Val} (g : GoodC kvs H s) (o : okV x) (r : Vt H v (dV x)) : GoodC (putK kvs (keyS t) v) H s := by
  obtain ⟨w, y, a, b, c⟩ := g
  by_cases e : keyS s = keyS t
  · exact ⟨v, x, by rw [valV_put, if_pos e], o, r⟩
  · exact ⟨w, y, by rw [valV_put, if_neg e]; exact a, b, c⟩
/-- the tables ts are told: their rows, their cells -/
def Dn (t1 : Str) (zs ts : List Str) (kvs : List (List Key × V)) (rvs : List (Key × V)) (H : Hp) : Prop := ∀ t ∈ ts, ∃ r : Nat, valV rvs (.inr t) = some (.int (r : Int)) ∧ r ≤ 30 ∧ (t = t1 → 1 ≤ r) ∧ ∀ z ∈ zs, ∀ p : Nat, p < r → GoodC kvs H (t, z, (p : Int))
section
variable {K : PySem.W.Frag} {σ : L2.St} {H H' : Hp} {ta tb tc te tx : TE} {D : Ends} {tz tu tw : TS} {E : L2.St → XK} {t1 : Str} {zs ts : List Str} {kvs : List (List Key × V)} {rvs rvs' : List (Key × V)}
theorem Dn.imk (d : Dn t1 zs ts kvs rvs H) (i : Imk H H') : Dn t1 zs ts kvs rvs H' := fun t ht => let ⟨r, a, b, c, e⟩ := d t ht; ⟨r, a, b, c, fun z hz p hp => (e z hz p hp).imk i⟩
theorem Dn.put {s : Spot} {v : V} {x : Val} (d : Dn t1 zs ts kvs rvs H) (o : okV x) (w : Vt H v (dV x)) : Dn t1 zs ts (putK kvs (keyS s) v) rvs H := fun t ht => let ⟨r, a, b, c, e⟩ := d t ht; ⟨r, a, b, c, fun z hz p hp => (e z hz p hp).put o w⟩
theorem Dn.rows (d : Dn t1 zs ts kvs rvs H) (h : ∀ t ∈ ts, valV rvs' (.inr t) = valV rvs (.inr t)) : Dn t1 zs ts kvs rvs' H := fun t ht => let ⟨r, a, b, c, e⟩ := d t ht; ⟨r, (h t ht).trans a, b, c, e⟩
theorem ImkT {p : Addr} (h : H p = some (.dT kvs)) {u : HO} : Imk H (L2.upd H p u) := .upd h fun z => z
theorem ImkK {p : Addr} (h : H p = some (.dK rvs)) {u : HO} : Imk H (L2.upd H p u) := .upd h fun z => z
theorem q_asgDT {i : Nat} (k : ∀ p H1, H p = none → Ex H H1 → H1 p = some (.dT []) → tz D (σ.set i (some (.ref p))) H1) : tSeq (tAsg tDNewT (gName i)) tz D σ H := fun p hp => k p _ hp (Ex.new hp) upd_same
/-- d[(a, b, c)] = value(..) -/
theorem s_setCellA {l wd : Addr} {ns : List Int} {j : Nat} {fl : Int} {s : Spot} {tas tbs : TA} (hl : SqL K H l (ns.map V.int)) (h : EvA tas σ H [.ref l, .int (j : Int), .int fl]) (hj : j ≤ 90000) (hw : H wd = some (.dT kvs)) (hk : kvs.length < 100000) (ho : Ev te σ H (.ref wd))
    (hb : EvA tbs σ H [.str s.1, .str s.2.1, .int s.2.2]) (k : ∀ x v H1, okV x → Ex H H1 → Vt H1 v (dV x) → D.nx σ (L2.upd H1 wd (.dT (putK kvs (keyS s) v)))) :
    tAsg (tCallS (sp_law_value K) E tas) (gSub te (tTup tbs) rSetA) D σ H :=
  h H (Ex.refl H) _ fun H1 e1 => ⟨l, ns, j, fl, rfl, ex_l e1 hl, hj, fun x v H2 o e2 r => ho H2 (e1.trans e2) _ fun H3 e3 =>
    eu_tup hb (show 3 ≤ 100000 by decide) H3 ((e1.trans e2).trans e3) _ fun b H4 _ e4 h4 => by
      have E4 := ((e1.trans e2).trans e3).trans e4
      exact .inr ⟨wd, _, rfl, DPut.t (k := keyS s) (E4 _ _ hw) h4 (sz_lt hk), k x v H4 o E4 (r.tup (.of_ex (e3.trans e4)))⟩⟩
theorem s_setCell {l wd : Addr} {ns : List Int} {j : Nat} {fl : Int} {s : Spot} {t2 t3 t4 : TE} (hl : SqL K H l (ns.map V.int)) (h1 : Ev ta σ H (.ref l)) (h2 : Ev tb σ H (.int (j : Int))) (h3 : Ev tc σ H (.int fl)) (hj : j ≤ 90000) (hw : H wd = some (.dT kvs)) (hk : kvs.length < 100000) (ho : Ev te σ H (.ref wd))
    (k1 : Ev t2 σ H (.str s.1)) (k2 : Ev t3 σ H (.str s.2.1)) (k3 : Ev t4 σ H (.int s.2.2)) (k : ∀ x v H1, okV x → Ex H H1 → Vt H1 v (dV x) → D.nx σ (L2.upd H1 wd (.dT (putK kvs (keyS s) v)))) :
    tAsg (tCallS (sp_law_value K) E (tCons ta (tCons tb (tCons tc tNil)))) (gSub te (tTup (tCons t2 (tCons t3 (tCons t4 tNil)))) rSetA) D σ H :=
  s_setCellA hl (ea_cons h1 (ea_cons h2 (ea_cons h3 ea_nil))) hj hw hk ho (ea_cons k1 (ea_cons k2 (ea_cons k3 ea_nil))) k
theorem q_asgDK {i : Nat} (k : ∀ p H1, H p = none → Ex H H1 → H1 p = some (.dK []) → tz D (σ.set i (some (.ref p))) H1) : tSeq (tAsg tDNewK (gName i)) tz D σ H := fun p hp => k p _ hp (Ex.new hp) upd_same
theorem putLen {κ : Type} [DecidableEq κ] (c : List (κ × V)) (k : κ) (x : V) : (putK c k x).length ≤ c.length + 1 := by
  unfold putK
  split <;> simp
theorem q_setK {p : Addr} {k : Key} {v : V} (h : H p = some (.dK rvs)) (hv : Ev te σ H v) (ho : Ev ta σ H (.ref p)) (hk : Ev tb σ H (kV k)) (hl : rvs.length < 100000) (kk : ∀ H1, Ex H H1 → tz D σ (L2.upd H1 p (.dK (putK rvs k v)))) : tSeq (tAsg te (gSub ta tb rSetA)) tz D σ H :=
  s_setK (D := { D with nx := tz D }) h hv ho hk hl kk
/-- if ..: d[k] = v -/
theorem q_ifSetK {bb : Bool} {tt : TT} {p : Addr} {k : Key} {v : V} (ht : EvT tt σ H bb) (h : H p = some (.dK rvs)) (hv : bb = true → Ev te σ H v) (ho : Ev ta σ H (.ref p)) (hk : Ev tb σ H (kV k)) (hl : rvs.length < 100000) (k1 : bb = true → ∀ H1, Ex H H1 → tz D σ (L2.upd H1 p (.dK (putK rvs k v)))) (k2 : bb = false → ∀ H1, Ex H H1 → tz D σ H1) :
    tSeq (tIfS tt (tAsg te (gSub ta tb rSetA)) tNext) tz D σ H :=
  q_when ht (fun hb H1 e1 => s_setK (D := { D with nx := tz D }) (e1 _ _ h) ((hv hb).mono e1) (ho.mono e1) (hk.mono e1) hl fun H2 e2 => k1 hb H2 (e1.trans e2)) fun hb H1 e1 => k2 hb H1 e1
theorem r_law_world (vs : List V) (H : Hp) (Q : VK) (E : XK) (h : sp_law_world K vs H Q E) : t_law_world K E { nx := fun _ H' => Q .non H', rt := Q } (L2.start ["script", "names", "tables", "faults", "k", "world", "rows", "table", "name", "place"] vs) H := by
  obtain ⟨l, np, tp, ns, zs, t1, t2, fl, j, rfl, hl, hn, hz, ht, hne, hj, k⟩ := h
  unfold t_law_world
  refine q_asgDT fun wd H1 w0 e1 w1 => q_asgDK fun rw H2 r0 e2 r1 => ?_
  have r00 : H rw = none := fresh_back e1 r0
  have wr : wd ≠ rw := ne_of_none w1 r0
  have nw : ∀ {H' : Hp} {kvs : List (List Key × V)} {rvs : List (Key × V)}, H' wd = some (.dT kvs) → H' rw = some (.dK rvs) → wd ≠ rw := fun _ _ => wr
  have htl : ∀ i : Nat, i < 2 → ∃ t, [V.str t1, V.str t2][i]? = some (.str t) ∧ [t1, t2][i]? = some t := fun i hi => by
    match i, hi with
    | 0, _ => exact ⟨t1, rfl, rfl⟩
    | 1, _ => exact ⟨t2, rfl, rfl⟩
  have nd : ∀ {i : Nat} {t : Str}, [t1, t2][i]? = some t → t ∉ [t1, t2].take i := fun {i t} hi => by
    match i, hi with
    | 0, _ => simp
    | 1, h => cases h; simpa using Ne.symm hne
    | i + 2, h => simp at h
  refine q_forLn (ev_var rfl) (SqL.of ((e1.trans e2) _ _ ht)) (fun i σ H' => ∃ (x7 x8 x9 : Option V) (kvs : List (List Key × V)) (rvs : List (Key × V)) (cnt : Nat), σ = [some (.ref l), some (.ref np), some (.ref tp), some (.int fl), some (.int ((j + 3 * cnt : Nat) : Int)), some (.ref wd), some (.ref rw), x7, x8, x9] ∧
      Ex H H' ∧ H' wd = some (.dT kvs) ∧ H' rw = some (.dK rvs) ∧ kvs.length ≤ cnt ∧ cnt ≤ 180 * i ∧ rvs.length ≤ 3 * i ∧ Dn t1 zs ([t1, t2].take i) kvs rvs H')
    (fun H3 e3 => ⟨_, _, _, [], [], 0, rfl, (e1.trans e2).trans e3, e3 _ _ (e2 _ _ w1), e3 _ _ r1, by simp, by simp, by simp, fun t ht => by simp at ht⟩) (fun i σ H' _ ⟨_, _, _, _, _, _, _, e, _⟩ => SqL.of (e _ _ ht)) ?_ ?_
  · rintro i x σ H3 hi ⟨x7, x8, x9, kvs, rvs, cnt, rfl, e3, hw3, hr3, hk3, hc3, hv3, dn⟩
    have hi2 : i < 2 := (List.getElem?_eq_some_iff.mp hi).1
    obtain ⟨t, ht1, ht2⟩ := htl i hi2
    rw [hi] at ht1
    cases ht1
    have tn := nd ht2
    -- the rows of the table
    have dr : ∀ {σ : L2.St} {H4 : Hp} {a : Nat} {n : Int}, σ[0]? = some (some (V.ref l)) → σ[4]? = some (some (V.int ((j + 3 * cnt : Nat) : Int))) → Ex H H4 → a ≤ 10 → 0 < n → Ev (tCallS (sp_law_drawn K) (WE (fun cls d _ H => E cls d H)) (tCons (tVar 0) (tCons (tOp (rAddA K) (tVar 4) (tC (.int (a : Int)))) (tCons (tC (.int n)) tNil)))) σ H4 (.int (drawn ns (j + 3 * cnt + a) n)) := fun h0 h1 e hi hn =>
      ev_drawn (j := _) (ex_l e hl) (ev_var h0) (ev_is (ev_op (ev_var h1) ev_c rv_addI) (by rw [← Int.natCast_add])) ev_c (by omega) hn
    have b7 := drawn_bd ns (j + 3 * cnt) (size := 7) (by decide)
    refine q_setK (k := .inr t) (v := .int (drawn ns (j + 3 * cnt) 7)) hr3 (ev_drawn (j := j + 3 * cnt) (ex_l e3 hl) (ev_var rfl) (ev_var rfl) ev_c (by omega) (by decide)) (ev_var rfl) (ev_var rfl) (by omega) fun H4 e4 => ?_
    obtain ⟨n7, h7⟩ : ∃ n7 : Nat, drawn ns (j + 3 * cnt) 7 = (n7 : Int) := ⟨_, (Int.toNat_of_nonneg b7.1).symm⟩
    rw [h7]
    -- what stands behind each of the three: rows r of the table, all else as it was
    have keep : ∀ (rv : List (Key × V)) (v : V), (∀ t' ∈ [t1, t2].take i, valV rv (.inr t') = valV rvs (.inr t')) → ∀ t' ∈ [t1, t2].take i, valV (putK rv (.inr t) v) (.inr t') = valV rvs (.inr t') := fun rv v h t' ht' => by
      rw [valV_put, if_neg fun e => tn (by cases e; exact ht')]
      exact h t' ht'
    have pl : ∀ (rv : List (Key × V)) (v : V), (putK rv (.inr t) v).length ≤ rv.length + 1 := fun rv v => putLen rv _ v
    have loops : ∀ (rv : List (Key × V)) (r : Nat) (H5 : Hp) (D : Ends), D.rt = Q → Ex H H5 → H5 wd = some (.dT kvs) → H5 rw = some (.dK rv) → rv.length ≤ 3 * (i + 1) → valV rv (.inr t) = some (.int (r : Int)) → r ≤ 30 → (t = t1 → 1 ≤ r) → Dn t1 zs ([t1, t2].take i) kvs rv H5 →
        (∀ (x8 x9 : Option V) (kvs' : List (List Key × V)) (cnt' : Nat) (H6 : Hp), Ex H H6 → H6 wd = some (.dT kvs') → H6 rw = some (.dK rv) → kvs'.length ≤ cnt' → cnt' ≤ 180 * (i + 1) → Dn t1 zs ([t1, t2].take (i + 1)) kvs' rv H6 →
          D.nx [some (.ref l), some (.ref np), some (.ref tp), some (.int fl), some (.int ((j + 3 * cnt' : Nat) : Int)), some (.ref wd), some (.ref rw), some (.str t), x8, x9] H6) →
        tFor (iList K (tVar 1)) (gName 8) (tFor (iRng1 (tCons (tOp (rIxA K) (tVar 6) (tVar 7)) tNil)) (gName 9) (tSeq (tAsg (tOp (rAddA K) (tVar 4) (tC (.int 3))) (gName 4))
          (tAsg (tCallS (sp_law_value K) (WE (fun cls d _ H => E cls d H)) (tCons (tVar 0) (tCons (tVar 4) (tCons (tVar 3) tNil)))) (gSub (tVar 5) (tTup (tCons (tVar 7) (tCons (tVar 8) (tCons (tVar 9) tNil)))) rSetA)))) D
          [some (.ref l), some (.ref np), some (.ref tp), some (.int fl), some (.int ((j + 3 * cnt : Nat) : Int)), some (.ref wd), some (.ref rw), some (.str t), x8, x9] H5 := by
      intro rv r H5 D hD e5 hw5 hr5 hv5 hvt hr30 hr1 dn5 kD
      refine s_forLn (ev_var rfl) (SqL.of (e5 _ _ hn)) (fun a σ H' => ∃ (x8 x9 : Option V) (kvs' : List (List Key × V)) (cnt' : Nat), σ = [some (.ref l), some (.ref np), some (.ref tp), some (.int fl), some (.int ((j + 3 * cnt' : Nat) : Int)), some (.ref wd), some (.ref rw), some (.str t), x8, x9] ∧
          Ex H H' ∧ H' wd = some (.dT kvs') ∧ H' rw = some (.dK rv) ∧ kvs'.length ≤ cnt' ∧ cnt' ≤ cnt + 30 * a ∧ Dn t1 zs ([t1, t2].take i) kvs' rv H' ∧ ∀ z ∈ zs.take a, ∀ p : Nat, p < r → GoodC kvs' H' (t, z, (p : Int)))
        (fun H6 e6 => ⟨_, _, kvs, cnt, rfl, e5.trans e6, e6 _ _ hw5, e6 _ _ hr5, hk3, by simp, dn5.imk (.of e6), fun z hz => by simp at hz⟩) (fun a σ H' _ ⟨_, _, _, _, _, e, _⟩ => SqL.of (e _ _ hn)) ?_ ?_
      · rintro a y σ H6 ha ⟨x8, x9, kvs', cnt', rfl, e6, hw6, hr6, hk6, hc6, dn6, gd6⟩
        rw [List.getElem?_map] at ha
        cases hza : zs[a]? with
        | none => rw [hza] at ha; cases ha
        | some z =>
        rw [hza] at ha
        cases ha
        have za : a < zs.length := (List.getElem?_eq_some_iff.mp hza).1
        have tk : zs.take (a + 1) = zs.take a ++ [z] := by rw [List.take_add_one, hza]; rfl
        refine s_forR1 (n := (r : Int)) (ea_cons (ev_op (ev_var rfl) (ev_var rfl) (rv_ixDk (k := .inr t) hr6 hvt)) ea_nil) (by omega) (fun b σ H' => ∃ (x9 : Option V) (kvs' : List (List Key × V)) (cnt' : Nat), σ = [some (.ref l), some (.ref np), some (.ref tp), some (.int fl), some (.int ((j + 3 * cnt' : Nat) : Int)), some (.ref wd), some (.ref rw), some (.str t), some (.str z), x9] ∧
            Ex H H' ∧ H' wd = some (.dT kvs') ∧ H' rw = some (.dK rv) ∧ kvs'.length ≤ cnt' ∧ cnt' ≤ cnt + 30 * a + b ∧ Dn t1 zs ([t1, t2].take i) kvs' rv H' ∧ (∀ z ∈ zs.take a, ∀ p : Nat, p < r → GoodC kvs' H' (t, z, (p : Int))) ∧ ∀ p : Nat, p < b → GoodC kvs' H' (t, z, (p : Int)))
          (fun H7 e7 => ⟨_, kvs', cnt', rfl, e6.trans e7, e7 _ _ hw6, e7 _ _ hr6, hk6, by simpa using hc6, dn6.imk (.of e7), fun z hz p hp => (gd6 z hz p hp).imk (.of e7), fun p hp => by omega⟩) ?_ ?_
        · rintro b σ H7 hb ⟨x9, kvs7, cnt7, rfl, e7, hw7, hr7, hk7, hc7, dn7, gd7, gz7⟩
          refine q_asg (v := .int ((j + 3 * (cnt7 + 1) : Nat) : Int)) (ev_is (ev_op (ev_var rfl) ev_c rv_addI) (by congr 1 <;> omega)) fun H8 e8 => ?_
          refine s_setCell (kvs := kvs7) (s := (t, z, (b : Int))) (j := j + 3 * (cnt7 + 1)) (ex_l (e7.trans e8) hl) (ev_var rfl) (ev_var rfl) (ev_var rfl) (by omega) (e8 _ _ hw7) (by omega) (ev_var rfl) (ev_var rfl) (ev_var rfl) (ev_var rfl) fun x v H9 ox e9 rv9 => ?_
          have e89 := e8.trans e9
          have im : Imk H7 (L2.upd H9 wd (.dT (putK kvs7 (keyS (t, z, (b : Int))) v))) := (Imk.of e89).trans (ImkT (e89 _ _ hw7))
          have rvU : Vt (L2.upd H9 wd (.dT (putK kvs7 (keyS (t, z, (b : Int))) v))) v (dV x) := rv9.tup (ImkT (e89 _ _ hw7)).tup
          refine ⟨_, putK kvs7 (keyS (t, z, (b : Int))) v, cnt7 + 1, rfl, Ex.mut (e7.trans e89) w0, upd_same, (upd_ne (Ne.symm wr)).trans (e89 _ _ hr7), ?_, by omega, (dn7.imk im).put ox rvU, fun z' hz' p hp => ((gd7 z' hz' p hp).imk im).put ox rvU, fun p hp => ?_⟩
          · have := putLen kvs7 (keyS (t, z, (b : Int))) v
            omega
          · by_cases hpb : p < b
            · exact ((gz7 p hpb).imk im).put ox rvU
            · have : p = b := by omega
              subst this
              exact ⟨v, x, by rw [valV_put, if_pos rfl], ox, rvU⟩
        · rintro σ H7 ⟨x9, kvs7, cnt7, rfl, e7, hw7, hr7, hk7, hc7, dn7, gd7, gz7⟩
          refine ⟨_, _, kvs7, cnt7, rfl, e7, hw7, hr7, hk7, by omega, dn7, fun z' hz' p hp => ?_⟩
          rw [tk] at hz'
          rcases List.mem_append.mp hz' with q | q
          · exact gd7 z' q p hp
          · rw [List.mem_singleton.mp q]
            exact gz7 p (by omega)
      · rintro σ H6 ⟨x8, x9, kvs', cnt', rfl, e6, hw6, hr6, hk6, hc6, dn6, gd6⟩
        rw [List.length_map] at hc6 gd6
        rw [List.take_length] at gd6
        refine kD _ _ kvs' cnt' H6 e6 hw6 hr6 hk6 (by omega) fun t' ht' => ?_
        rw [List.take_add_one, ht2] at ht'
        rcases List.mem_append.mp ht' with q | q
        · exact dn6 t' q
        · have : t' = t := by simpa using q
          subst this
          exact ⟨r, hvt, hr30, hr1, gd6⟩
    -- the three statements
    have s4 : Ex H (L2.upd H4 rw (.dK (putK rvs (.inr t) (.int (n7 : Int))))) := Ex.mut (e3.trans e4) r00
    have v4 : valV (putK rvs (.inr t) (.int (n7 : Int))) (.inr t) = some (.int (n7 : Int)) := by rw [valV_put, if_pos rfl]
    have d4 := ((dn.imk (.of e4)).imk (ImkK (e4 _ _ hr3) (u := .dK (putK rvs (.inr t) (.int (n7 : Int)))))).rows (keep rvs (.int (n7 : Int)) fun _ _ => rfl)
    have w4 := (upd_ne (H := H4) (o := .dK (putK rvs (.inr t) (.int (n7 : Int)))) wr).trans (e4 _ _ hw3)
    have l4 := pl rvs (.int (n7 : Int))
    have last : ∀ (rv : List (Key × V)) (r : Nat) (H5 : Hp) (D : Ends), D.rt = Q → Ex H H5 → H5 wd = some (.dT kvs) → H5 rw = some (.dK rv) → rv.length ≤ 3 * i + 2 → valV rv (.inr t) = some (.int (r : Int)) → r ≤ 30 → Dn t1 zs ([t1, t2].take i) kvs rv H5 → (∀ t' ∈ [t1, t2].take i, valV rv (.inr t') = valV rvs (.inr t')) →
        (∀ (x8 x9 : Option V) (kvs' : List (List Key × V)) (rv : List (Key × V)) (cnt' : Nat) (H6 : Hp), Ex H H6 → H6 wd = some (.dT kvs') → H6 rw = some (.dK rv) → kvs'.length ≤ cnt' → cnt' ≤ 180 * (i + 1) → rv.length ≤ 3 * (i + 1) → Dn t1 zs ([t1, t2].take (i + 1)) kvs' rv H6 →
          D.nx [some (.ref l), some (.ref np), some (.ref tp), some (.int fl), some (.int ((j + 3 * cnt' : Nat) : Int)), some (.ref wd), some (.ref rw), some (.str t), x8, x9] H6) →
        tSeq (tIfS (tTest (tOp (rEqA K) (tVar 7) (tOp (rIxA K) (tVar 2) (tC (.int 0))))) (tAsg (tCB rMax2 (tCons (tC (.int 1)) (tCons (tOp (rIxA K) (tVar 6) (tVar 7)) tNil))) (gSub (tVar 6) (tVar 7) rSetA)) tNext)
          (tFor (iList K (tVar 1)) (gName 8) (tFor (iRng1 (tCons (tOp (rIxA K) (tVar 6) (tVar 7)) tNil)) (gName 9) (tSeq (tAsg (tOp (rAddA K) (tVar 4) (tC (.int 3))) (gName 4))
          (tAsg (tCallS (sp_law_value K) (WE (fun cls d _ H => E cls d H)) (tCons (tVar 0) (tCons (tVar 4) (tCons (tVar 3) tNil)))) (gSub (tVar 5) (tTup (tCons (tVar 7) (tCons (tVar 8) (tCons (tVar 9) tNil)))) rSetA))))) D
          [some (.ref l), some (.ref np), some (.ref tp), some (.int fl), some (.int ((j + 3 * cnt : Nat) : Int)), some (.ref wd), some (.ref rw), some (.str t), x8, x9] H5 := by
      intro rv r H5 D hD e5 hw5 hr5 hl5 hv5 h30 dn5 ks kD
      refine q_ifSetK (k := .inr t) (v := .int (if (r : Int) > 1 then (r : Int) else 1)) (et_test (ev_op (ev_var rfl) (ev_op (ev_var rfl) ev_c (rv_itL (v := .str t1) (SqL.of (e5 _ _ ht)) rfl)) (rv_eqS rfl))) hr5 (fun _ => ev_max2 ev_c (ev_op (ev_var rfl) (ev_var rfl) (rv_ixDk (k := .inr t) hr5 hv5))) (ev_var rfl) (ev_var rfl) (by omega) (fun hb H6 e6 => ?_) (fun hb H6 e6 => ?_)
      · have em : (if (r : Int) > 1 then (r : Int) else 1) = ((max r 1 : Nat) : Int) := by
          split <;> omega
        rw [em]
        refine loops (putK rv (.inr t) (.int ((max r 1 : Nat) : Int))) (max r 1) _ D hD (Ex.mut (e5.trans e6) r00) ((upd_ne wr).trans (e6 _ _ hw5)) upd_same (by have := pl rv (.int ((max r 1 : Nat) : Int)); omega) (by rw [valV_put, if_pos rfl]) (by omega) (fun _ => by omega)
          (((dn5.imk (.of e6)).imk (ImkK (e6 _ _ hr5))).rows fun t' ht' => ?_) fun x8 x9 kvs' cnt' H7 a b c d e f => kD x8 x9 kvs' _ cnt' H7 a b c d e (by have := pl rv (.int ((max r 1 : Nat) : Int)); omega) f
        rw [keep rv _ ks t' ht', ks t' ht']
      · exact loops rv r H6 D hD (e5.trans e6) (e6 _ _ hw5) (e6 _ _ hr5) (by omega) hv5 h30 (fun e => absurd (by rw [e] : (V.str t = V.str t1)) (of_decide_eq_false hb)) (dn5.imk (.of e6)) fun x8 x9 kvs' cnt' H7 a b c d e f => kD x8 x9 kvs' _ cnt' H7 a b c d e (by omega) f
    refine q_ifSetK (k := .inr t) (v := .int 30) (et_test (ev_op (dr (a := 1) rfl rfl s4 (by decide) (by decide)) ev_c (rv_eqS rfl))) upd_same (fun _ => ev_c) (ev_var rfl) (ev_var rfl) (by omega) (fun _ H5 e5 => ?_) (fun _ H5 e5 => ?_)
    · exact last (putK (putK rvs (.inr t) (.int (n7 : Int))) (.inr t) (.int 30)) 30 _ _ rfl (Ex.mut (s4.trans e5) r00) ((upd_ne wr).trans (e5 _ _ w4)) upd_same (by have := pl (putK rvs (.inr t) (.int (n7 : Int))) (.int 30); omega) (by rw [valV_put, if_pos rfl]; rfl) (by decide)
        (((d4.imk (.of e5)).imk (ImkK (e5 _ _ upd_same))).rows fun t' ht' => by rw [keep _ _ (keep rvs (.int (n7 : Int)) fun _ _ => rfl) t' ht', keep rvs (.int (n7 : Int)) (fun _ _ => rfl) t' ht']) (keep _ _ (keep rvs (.int (n7 : Int)) fun _ _ => rfl)) (fun x8 x9 kvs' rv cnt' H6 a b c d e f g => ⟨_, x8, x9, kvs', rv, cnt', rfl, a, b, c, d, e, f, g⟩)
    · exact last (putK rvs (.inr t) (.int (n7 : Int))) n7 _ _ rfl (s4.trans e5) (e5 _ _ w4) (e5 _ _ upd_same) (by omega) v4 (by omega) (d4.imk (.of e5)) (keep rvs (.int (n7 : Int)) fun _ _ => rfl) (fun x8 x9 kvs' rv cnt' H6 a b c d e f g => ⟨_, x8, x9, kvs', rv, cnt', rfl, a, b, c, d, e, f, g⟩)
  · rintro σ H3 ⟨x7, x8, x9, kvs, rvs, cnt, rfl, e3, hw3, hr3, hk3, hc3, hv3, dn⟩
    have dn : Dn t1 zs [t1, t2] kvs rvs H3 := dn
    refine s_retU (eu_tup (ea_cons (ev_var rfl) (ea_cons (ev_var rfl) ea_nil)) (show 2 ≤ 100000 by decide)) fun a H4 _ e4 h4 => ?_
    have E4 := e3.trans e4
    classical
    -- the values and rows, read off
    refine k a wd rw H4 (fun s => if g : GoodC kvs H3 s then (Classical.choose (Classical.choose_spec g)) else .inl 0) (fun t => if g : ∃ r : Nat, valV rvs (.inr t) = some (.int (r : Int)) ∧ r ≤ 30 then Classical.choose g else 0) E4 h4 ⟨⟨kvs, e4 _ _ hw3, fun s ⟨d1, d2, p, hp, hlt⟩ => ?_⟩, ⟨rvs, e4 _ _ hr3, fun t mt => ?_⟩, fun s => ?_, fun t mt => ?_⟩ ?_
    · obtain ⟨r, hr, h30, _, gd⟩ := dn s.1 d1
      have g0 : ∃ r : Nat, valV rvs (.inr s.1) = some (.int (r : Int)) ∧ r ≤ 30 := ⟨r, hr, h30⟩
      dsimp only at hlt
      rw [dif_pos g0] at hlt
      have er : Classical.choose g0 = r := by
        have := hr.symm.trans (Classical.choose_spec g0).1
        injection this with this
        injection this with this
        omega
      rw [er] at hlt
      have gs : GoodC kvs H3 s := by
        have := gd s.2.1 d2 p hlt
        rw [← hp] at this
        exact this
      try dsimp only
      rw [dif_pos gs]
      obtain ⟨q1, q2, q3⟩ := Classical.choose_spec (Classical.choose_spec gs)
      exact ⟨_, q1, q3.tup (.of_ex e4)⟩
    · obtain ⟨r, hr, h30, _⟩ := dn t mt
      have g0 : ∃ r : Nat, valV rvs (.inr t) = some (.int (r : Int)) ∧ r ≤ 30 := ⟨r, hr, h30⟩
      try dsimp only
      rw [dif_pos g0]
      exact (Classical.choose_spec g0).1
    · try dsimp only
      split
      · rename_i gs
        exact (Classical.choose_spec (Classical.choose_spec gs)).2.1
      · exact ⟨by decide, by decide⟩
    · try dsimp only
      split
      · rename_i g0
        exact (Classical.choose_spec g0).2
      · omega
    · obtain ⟨r, hr, h30, h1, _⟩ := dn t1 (by simp)
      have g0 : ∃ r : Nat, valV rvs (.inr t1) = some (.int (r : Int)) ∧ r ≤ 30 := ⟨r, hr, h30⟩
      try dsimp only
      rw [dif_pos g0]
      have := hr.symm.trans (Classical.choose_spec g0).1
      injection this with this
      injection this with this
      have := h1 rfl
      omega
end
end Z

set_option Elab.async false
set_option linter.all false
set_option autoImplicit false
set_option maxRecDepth 100000
set_option maxHeartbeats 4000000
/-! ev: what an expression comes to, by its form -/
local macro_rules | `(tactic| k_places) => `(tactic| (repeat' (first
  | (with_reducible exact ev_c)
  | (with_reducible exact ev_var rfl)
  | (with_reducible refine ev_chainLL ?_ ?_ ?_)
  | (with_reducible refine ev_chainLt ?_ ?_ ?_)
  | (with_reducible refine ev_op ?_ ?_ ?_)
  | (with_reducible refine ev_neg ?_)
  | (with_reducible refine et_test ?_)
  | (with_reducible refine et_B ?_)
  | (with_reducible refine et_not ?_)
  | (with_reducible refine et_and ?_ (fun _ => ?_))
  | (with_reducible refine et_or ?_ (fun _ => ?_))
  | (with_reducible refine ev_andV ?_ (fun _ => ?_))
  | (with_reducible refine ev_orV ?_ (fun _ => ?_))
  | (with_reducible refine ev_notV ?_)
  | (with_reducible exact rv_addI)
  | (with_reducible exact rv_subI)
  | (with_reducible exact rv_lt)
  | (with_reducible exact rv_le)
  | (with_reducible exact rv_gt)
  | (with_reducible exact rv_ge)
  | (with_reducible exact rv_isB)
  | (with_reducible exact rv_isnB)
  | (with_reducible exact rv_isN)
  | (with_reducible exact rv_isnN)
  | (with_reducible exact rv_eqS rfl)
  | (with_reducible exact rv_neS rfl)
  | (with_reducible exact rv_inStr)
  | (with_reducible exact rv_ninStr)
  | (with_reducible exact rv_mod (by first | decide | omega | assumption))
  | (with_reducible exact rv_div (by first | decide | omega | assumption))
  | (with_reducible exact rv_pow (by decide))
  | (with_reducible refine ed_i ?_; done)
  | (with_reducible exact ea_nil)
  | (with_reducible refine ea_cons ?_ ?_)
  | (with_reducible exact eds_nil)
  | (with_reducible refine eds_cons ?_ ?_)
  | (with_reducible exact ed_dnew)
  | (with_reducible refine ed_lst ?_ (by simp only [List.length_cons, List.length_nil]; omega))
  | (with_reducible refine ed_tup ?_ (by simp only [List.length_cons, List.length_nil]; omega)))))
namespace Z
open PySem PySem.Spec PyProof.Rows L2 Evl NdefX LamX
/-! ### spots compared; lists of them in which each stands once -/
def okSp (s : Spot) : Prop := okS s.1 ∧ okS s.2.1
theorem eqv_dSp (s t : Spot) : PyData.eqv (dSp s) (dSp t) = decide (s = t) := by
  show ((s.1 == t.1) && ((s.2.1 == t.2.1) && ((s.2.2 == t.2.2) && true))) = _
  rw [Bool.and_true]
  by_cases h : s = t
  · subst h
    simp
  · rw [decide_eq_false h]
    cases q : ((s.1 == t.1) && ((s.2.1 == t.2.1) && (s.2.2 == t.2.2))) with
    | false => rfl
    | true =>
      simp only [Bool.and_eq_true, beq_iff_eq] at q
      exact (h (Prod.ext q.1 (Prod.ext q.2.1 q.2.2))).elim
theorem any_dSp (s : Spot) (ss : List Spot) : ((ss.map dSp).any fun z => PyData.eqv z (dSp s)) = decide (s ∈ ss) := by
  induction ss with
  | nil => rfl
  | cons x r ih =>
    rw [List.map_cons, List.any_cons, ih, eqv_dSp]
    by_cases h : x = s
    · subst h; simp
    · have : ¬ s = x := fun e => h e.symm
      simp [h, this]
theorem okD_dSp {s : Spot} (h : okSp s) : okD (dSp s) := by
  show okN 10 (.tuple _)
  simp only [okN, okNs, and_true]
  exact ⟨h.1, h.2⟩
theorem okN_dSp {s : Spot} (h : okSp s) : okN 9 (dSp s) := by
  show okN 9 (.tuple _)
  simp only [okN, okNs, and_true]
  exact ⟨h.1, h.2⟩
theorem okD_dSps {ss : List Spot} (h : ∀ s ∈ ss, okSp s) : okD (.list (ss.map dSp)) := by
  show okN 10 (.list _)
  rw [okN, okNs_iff]
  intro d hd
  obtain ⟨s, hs, rfl⟩ := List.mem_map.mp hd
  exact okN_dSp (h s hs)
theorem AtS.dt {H : Hp} {v : V} {s : Spot} (h : AtS H v s) : Dt H v (dSp s) := by
  obtain ⟨a, rfl, h⟩ := h
  exact .tup h (.cons (.str _) (.cons (.str _) (.cons (.int _) .nil)))
theorem AtSs.dt {H : Hp} : ∀ {vs : List V} {ss : List Spot}, AtSs H vs ss → DtAll H vs (ss.map dSp)
  | [], [], _ => .nil
  | [], _ :: _, h => by have := h.1; simp at this
  | _ :: _, [], h => by have := h.1; simp at this
  | v :: vs, s :: ss, h => by
    obtain ⟨w, a, b⟩ := h.2 0 s rfl
    cases a
    exact .cons b.dt (AtSs.dt ⟨by have := h.1; simpa using this, fun i t ht => by
      obtain ⟨w, a, b⟩ := h.2 (i + 1) t (by simpa using ht)
      exact ⟨w, by simpa using a, b⟩⟩)
/-- in the order of their first coming -/
def once (l : List Spot) : List Spot := l.foldl (fun acc s => if s ∈ acc then acc else acc ++ [s]) []
theorem once_snoc (l : List Spot) (s : Spot) : once (l ++ [s]) = if s ∈ once l then once l else once l ++ [s] := by
  unfold once
  rw [List.foldl_append]
  rfl
theorem once_mem {l : List Spot} {s : Spot} (h : s ∈ once l) : s ∈ l := by
  have : ∀ (l : List Spot) (acc : List Spot), s ∈ l.foldl (fun acc s => if s ∈ acc then acc else acc ++ [s]) acc → s ∈ acc ∨ s ∈ l := by
    intro l
    induction l with
    | nil => intro acc h; exact .inl h
    | cons x r ih =>
      intro acc h
      rcases ih _ h with z | z
      · dsimp only at z
        split at z
        · exact .inl z
        · rcases List.mem_append.mp z with z | z
          · exact .inl z
          · exact .inr (by rw [List.mem_singleton.mp z]; exact List.mem_cons_self)
      · exact .inr (List.mem_cons_of_mem _ z)
  rcases this l [] h with z | z
  · simp at z
  · exact z
theorem once_len (l : List Spot) : (once l).length ≤ l.length := by
  have : ∀ (l : List Spot) (acc : List Spot), (l.foldl (fun acc s => if s ∈ acc then acc else acc ++ [s]) acc).length ≤ acc.length + l.length := by
    intro l
    induction l with
    | nil => intro acc; simp
    | cons x r ih =>
      intro acc
      have := ih (if x ∈ acc then acc else acc ++ [x])
      rw [List.foldl_cons, List.length_cons]
      refine Nat.le_trans this ?_
      split
      · omega
      · rw [List.length_append]
        simp only [List.length_cons, List.length_nil]
        omega
  have h2 := this l []
  rw [List.length_nil, Nat.zero_add] at h2
  exact h2
section
variable {K : PySem.W.Frag} {σ : L2.St} {H H' : Hp} {ta tb tc te tx : TE} {D : Ends} {tz : TS} {E : L2.St → XK}
theorem ev_ninS {v : V} {s : Spot} {ss : List Spot} {p : Addr} {xs : List V} (h1 : Ev ta σ H v) (r1 : AtS H v s) (h2 : Ev tb σ H (.ref p)) (hp : H p = some (.lst xs)) (r2 : AtSs H xs ss) (o1 : okSp s) (o2 : ∀ x ∈ ss, okSp x) : Ev (tOp (rNinA K) ta tb) σ H (.bl (!decide (s ∈ ss))) := fun H1 e Q q =>
  h1 H1 e _ fun H2 e2 => h2 H2 (e.trans e2) _ fun H3 e3 => by
    have E := (e.trans e2).trans e3
    refine .inr (.inr (.inr ⟨dSp s, ss.map dSp, ((r1.tup (.of_ex E)).dt).dp (okD_dSp o1).nd, (Dt.lst (E _ _ hp) (r2.tup (.of_ex E)).dt).dp (okD_dSps o2).nd, (okD_dSp o1).shaped, (okD_dSps o2).shaped, ?_⟩))
    rw [any_dSp]
    exact q H3 (e2.trans e3)
theorem ev_neSs {ss : List Spot} (h1 : EvD ta σ H (.list (ss.map dSp))) (h2 : EvD tb σ H (.list (ss.map dSp))) (o : ∀ x ∈ ss, okSp x) : Ev (tOp (rNeA K) ta tb) σ H (.bl false) :=
  ev_is (ev_neD h1 h2 (okD_dSps o) (okD_dSps o)) (by rw [eqv_self (okD_dSps o)]; rfl)
theorem ed_spots {p : Addr} {xs : List V} {ss : List Spot} (h : Ev ta σ H (.ref p)) (hp : H p = some (.lst xs)) (r : AtSs H xs ss) : EvD ta σ H (.list (ss.map dSp)) := ed_ev h (.lst hp r.dt)
end
theorem World.keep {H H' : Hp} {wd rw : Addr} {ts zs : List Str} {W : Spot → Val} {R : Str → Nat} (h : World H wd rw ts zs W R) (k1 : ∀ o, H wd = some o → H' wd = some o) (k2 : ∀ o, H rw = some o → H' rw = some o) (i : Tup H H') : World H' wd rw ts zs W R := by
  obtain ⟨⟨kvs, a, b⟩, ⟨rvs, c, d⟩, e, f⟩ := h
  refine ⟨⟨kvs, k1 _ a, fun s q => ?_⟩, ⟨rvs, k2 _ c, d⟩, e, f⟩
  obtain ⟨v, x, y⟩ := b s q
  exact ⟨v, x, y.tup i⟩
theorem hid_tup {cl : List (Str × Addr)} {H : Hp} (C : Cells cl H) : Tup H (hidC cl H) := fun b xs e => (hidC_ne (C.no e fun _ _ z => by cases z)).trans e
theorem hid_at {cl : List (Str × Addr)} {H : Hp} (C : Cells cl H) {b : Addr} {o : HO} (e : H b = some o) (n : ∀ ob u, o ≠ .frz ob u) : hidC cl H b = some o := (hidC_ne (C.no e n)).trans e
/-! ### the law's function that is told what is asked -/
abbrev ND : List Str := ["world", "rows", "rule", "table", "column", "place", "look", "many", "found", "once", "spot", "notes"]
def tG (K : PySem.W.Frag) (CA : Hp → Addr → Sp → Prop) (Tb : List (Addr × Str)) (mk0 mk1 : List (Str × Addr) → Addr → LF) (cl : List (Str × Addr)) (C : Addr) (spg : Sp) (E : XK) : TS :=
  tSeq (tAsg (tLst tNil) (gName 11))
    (tSeq (tAsg (tLamE Tb (mk1 cl)) (gName 6))
    (tSeq (tAsg (tLamE Tb (mk0 cl)) (gName 7))
    (tSeq (tAsg (tMetL C "gather" ND ["world", "rows", "notes"] cl spg (tVar 2) (tCons (tVar 6) (tCons (tVar 7) (tCons (tVar 3) (tCons (tVar 4) (tCons (tVar 5) tNil)))))) (gName 8))
    (tSeq (tAsg (tLst tNil) (gName 9))
    (tSeq (tFor (iList K (tVar 11)) (gName 10) (tIfS (tTest (tOp (rNinA K) (tVar 10) (tVar 9))) (tDrop (tBM K "list" rAppend (tVar 9) (tCons (tVar 10) tNil))) tNext))
    (tRet (tTup (tCons (tVar 8) (tCons (tVar 9) tNil)))))))))
/-- the lambdas' promises: many = lambda t: rows[t]; look = lambda t, c, p: _law_look(world, notes, t, c, p) -/
def splM (K : PySem.W.Frag) : List (Option V) → Sp := fun ws vs H Q _ => ∃ (rw : Addr) (t : Str) (rvs : List (Key × V)) (v : V), ws = [some (.ref rw)] ∧ vs = [.str t] ∧ H rw = some (.dK rvs) ∧ valV rvs (.inr t) = some v ∧ RetV v H Q
def splL (K : PySem.W.Frag) : List (Option V) → Sp := fun ws vs H Q E => ∃ (pn wd : Addr) (t c p : V), ws = [some (.ref pn), some (.ref wd)] ∧ vs = [t, c, p] ∧ sp_law_look K [.ref wd, .ref pn, t, c, p] H Q E0
def tlM (K : PySem.W.Frag) : TE := tOp (rIxA K) (tVar 1) (tVar 0)
def tlL (K : PySem.W.Frag) : TE := tCall (sp_law_look K) [] E0 (tCons (tVar 4) (tCons (tVar 3) (tCons (tVar 0) (tCons (tVar 1) (tCons (tVar 2) tNil)))))
theorem lenlM {K : PySem.W.Frag} (ws : List (Option V)) (vs : List V) (H : Hp) (Q : VK) (E : XK) (h : splM K ws vs H Q E) : vs.length = 1 := by obtain ⟨_, _, _, _, _, rfl, _⟩ := h; rfl
theorem lenlL {K : PySem.W.Frag} (ws : List (Option V)) (vs : List V) (H : Hp) (Q : VK) (E : XK) (h : splL K ws vs H Q E) : vs.length = 3 := by obtain ⟨_, _, _, _, _, _, rfl, _⟩ := h; rfl
theorem rlM {K : PySem.W.Frag} (ws : List (Option V)) (vs : List V) (H : Hp) (Q : VK) (h : splM K ws vs H Q E0) : tlM K (startF ["t", "rows"] vs ws) H Q := by
  obtain ⟨rw, t, rvs, v, rfl, rfl, h1, h2, k⟩ := h
  exact ev_op (r := rIxA K) (ta := tVar 1) (tb := tVar 0) (σ := [some (.str t), some (.ref rw)]) (ev_var rfl) (ev_var rfl) (rv_ixDk (k := .inr t) h1 h2) H (Ex.refl H) Q fun H1 e1 => k H1 e1
theorem rlL {K : PySem.W.Frag} (ws : List (Option V)) (vs : List V) (H : Hp) (Q : VK) (h : splL K ws vs H Q E0) : tlL K (startF ["t", "c", "p", "notes", "world"] vs ws) H Q := by
  obtain ⟨pn, wd, t, c, p, rfl, rfl, h⟩ := h
  exact ⟨_, rfl, _, rfl, _, rfl, _, rfl, _, rfl, h⟩
/-- where one has looked: the notes; the world -/
def JW (pn wd rw : Addr) (kvs : List (List Key × V)) (rvs : List (Key × V)) (ts zs : List Str) (W : Spot → Val) (R : Str → Nat) : List Addr → List Spot → Hp → Prop := fun F l H => F = [pn, wd, rw] ∧ (∃ xs, H pn = some (.lst xs) ∧ AtSs H xs l) ∧ World H wd rw ts zs W R ∧ (∀ s ∈ l, domW ts zs R s) ∧ H wd = some (.dT kvs) ∧ H rw = some (.dK rvs)
theorem ask_jw {T : List (Addr × Str)} {pn wd rw : Addr} {kvs : List (List Key × V)} {rvs : List (Key × V)} {ts zs : List Str} {W : Spot → Val} {R : Str → Nat} (ok : ∀ s, okV (W s)) : Ask T [] (JW pn wd rw kvs rvs ts zs W R) W (domW ts zs R) := by
  refine ⟨fun F l H H' ⟨hF, ⟨xs, a, b⟩, w, d, u1, u2⟩ k i _ => ?_, (fun _ _ _ _ _ z => nomatch z), fun F l H a ⟨hF, ⟨xs, h, _⟩, w, _, hw, hr⟩ ha => ?_, fun s _ => ok s⟩
  · subst hF
    exact ⟨rfl, ⟨xs, k pn (.inl (by simp)) _ a, b.tup i.tup⟩, w.keep (k wd (.inl (by simp))) (k rw (.inl (by simp))) i.tup, d, k wd (.inl (by simp)) _ u1, k rw (.inl (by simp)) _ u2⟩
  · subst hF
    simp only [List.mem_cons, List.mem_nil_iff, or_false] at ha
    rcases ha with rfl | rfl | rfl
    · exact ⟨_, h, fun z => z, fun _ z => nomatch z⟩
    · exact ⟨_, hw, fun z => z, fun _ z => nomatch z⟩
    · exact ⟨_, hr, fun z => z, fun _ z => nomatch z⟩
/-- what the rule at ru tells of a cell, in the world -/
abbrev PRule := Hp → Addr → Str → Str → Int → (Spot → Val) → (Str → Nat) → List Str → List Str → Res × List Spot → Prop
def spG (Tb : List (Addr × Str)) (PR : PRule) : Sp := fun vs H Q _ => ∃ (wd rw ru : Addr) (t c : Str) (p : Int) (ts zs : List Str) (W : Spot → Val) (R : Str → Nat) (r : Res × List Spot), vs = [.ref wd, .ref rw, .ref ru, .str t, .str c, .int p] ∧ Tabs Tb H ∧ World H wd rw ts zs W R ∧ (∀ z ∈ zs, isName z = true) ∧ (∀ t ∈ ts, isName t = true) ∧
  PR H ru t c p W R ts zs r ∧ r.2.length ≤ 900 ∧ ∀ a v q xs H', XB Tb [] H H' → H' a = some (.tup [v, .ref q]) → Got H H' v r.1 → H' q = some (.lst xs) → AtSs H' xs (once r.2) → (∀ s ∈ once r.2, okSp s) → Q (.ref a) H'
/-- the rule's class, and what its gather promises -/
structure PROk (CA : Hp → Addr → Sp → Prop) (Tb : List (Addr × Str)) (PR : PRule) (C : Addr) (spg : Sp) : Prop where
  ins : ∀ {H ru t c p W R ts zs r}, PR H ru t c p W R ts zs r → ∃ dx fs, H ru = some (.ins C dx fs) ∧ fs.lookup ("gather" : Str) = none
  run : ∀ {H ru t c p W R ts zs r}, PR H ru t c p W R ts zs r → ∀ H3 J F f m Q, XB Tb [] H H3 → (∀ a ∈ F, H a = none ∨ (∃ kvs, H a = some (.dT kvs)) ∨ ∃ kvs, H a = some (.dK kvs)) → GIn CA Tb [] J W (domW ts zs R) R (· ∈ ts) F [] H3 ru f m → gOut Tb J F [] H3 Q r → spg [.ref ru, .ref f, .ref m, .str t, .str c, .int p] H3 Q E0
theorem lenG {Tb : List (Addr × Str)} {PR : PRule} (vs : List V) (H : Hp) (Q : VK) (E : XK) (h : spG Tb PR vs H Q E) : vs.length = 6 := by obtain ⟨_, _, _, _, _, _, _, _, _, _, _, rfl, _⟩ := h; rfl
theorem q_lam {Tb : List (Addr × Str)} {mk : Addr → LF} {σ : L2.St} {H : Hp} {D : Ends} {tz : TS} {i : Nat} (ht : Tabs Tb H) (k : ∀ f c H1, ExT Tb H H1 → H f = none → H1 f = some (FnL f (mk c)) → H1 c = some (CodeO c (mk c).qual) → tz D (σ.set i (some (.ref f))) H1) : tSeq (tAsg (tLamE Tb mk) (gName i)) tz D σ H := ⟨ht, k⟩
theorem rG {K : PySem.W.Frag} {CA : Hp → Addr → Sp → Prop} {Tb : List (Addr × Str)} {PR : PRule} {mk0 mk1 : List (Str × Addr) → Addr → LF} {nm0 nm1 : List (Str × NameKind)} {cl : List (Str × Addr)} {C : Addr} {spg : Sp} (I0 : LamI CA mk0 nm0 ["rows"] (splM K)) (I1 : LamI CA mk1 nm1 ["notes", "world"] (splL K)) (G : PROk CA Tb PR C spg) (hc : CAst CA)
    (vs : List V) (H : Hp) (Q : VK) (E : XK) (h : spG Tb PR vs H Q E) : tG K CA Tb mk0 mk1 cl C spg E { nx := fun _ H' => Q .non H', rt := Q } (L2.start ND vs) H := by
  obtain ⟨wd, rw, ru, t, c, p, ts, zs, W, R, r, rfl, hT, hw, hz, hts, pr, hr, k⟩ := h
  unfold tG
  obtain ⟨kvs, w1, _⟩ := hw.w
  obtain ⟨rvs, r1, _⟩ := hw.r
  obtain ⟨dx, fs, u1, u2⟩ := G.ins pr
  refine q_asgL (el_lst ea_nil (by decide)) fun pn H1 hp e1 h1 => ?_
  have t1 : Tabs Tb H1 := hT.ext fun b o e => e1 b o e
  refine q_lam t1 fun f c1 H2 e2 f0 f1 g1 => ?_
  refine q_lam e2.t fun m c2 H3 e3 m0 m1 g2 => ?_
  have x3 : XB Tb [] H H3 := ((XB.of e1).trans (XB.ofT e2)).trans (XB.ofT e3)
  have keep3 : ∀ {a : Addr} {o : HO}, H a = some o → (∀ ps, o ≠ .tbl ps) → H3 a = some o := fun e n => x3.k _ _ e (by simp) n
  have pn3 : H3 pn = some (.lst []) := ((XB.ofT (F := []) e2).trans (XB.ofT e3)).k pn _ h1 (by simp) fun _ z => nomatch z
  have f3 : H3 f = some (FnL f (mk1 cl c1)) := e3.e f _ f1 fun ps => fnL_ne ps
  have g3 : H3 c1 = some (CodeO c1 (mk1 cl c1).qual) := e3.e c1 _ g1 fun ps => codeO_ne ps
  have w3 : World H3 wd rw ts zs W R := hw.keep (fun o e => x3.k _ _ e (by simp) fun ps z => by rw [w1] at e; cases e; cases z) (fun o e => x3.k _ _ e (by simp) fun ps z => by rw [r1] at e; cases e; cases z) x3.i.tup
  have wp : wd ≠ pn := ne_of_none w1 hp
  have rp : rw ≠ pn := ne_of_none r1 hp
  have AK : Ask Tb [] (JW pn wd rw kvs rvs ts zs W R) W (domW ts zs R) := ask_jw hw.ok
  refine ⟨_, rfl, ru, dx, fs, rfl, keep3 u1 (fun _ z => nomatch z), u2, _, rfl, _, rfl, _, rfl, _, rfl, _, rfl, fun H4 L => ?_⟩
  have e4 := L.ex
  have x4 : XB Tb [] H H4 := x3.trans (XB.of e4)
  -- what may be called
  have F4 : ∀ a ∈ [pn, wd, rw], H a = none ∨ (∃ kvs, H a = some (.dT kvs)) ∨ ∃ kvs, H a = some (.dK kvs) := fun a ha => by
    simp only [List.mem_cons, List.mem_nil_iff, or_false] at ha
    rcases ha with rfl | rfl | rfl
    · exact .inl hp
    · exact .inr (.inl ⟨_, w1⟩)
    · exact .inr (.inr ⟨_, r1⟩)
  have ruF : ru ∉ [pn, wd, rw] := fun z => by
    rcases F4 ru z with q | ⟨_, q⟩ | ⟨_, q⟩ <;> rw [u1] at q <;> cases q
  have C1 := L.caught (names := nm1) (fr := ["notes", "world"]) (js := [11, 0]) (fun y hy e => by have := I1.sub y hy e; simp at this ⊢; rcases this with z | z <;> simp [z]) I1.frk rfl
  have C0 := L.caught (names := nm0) (fr := ["rows"]) (js := [1]) (fun y hy e => by have := I0.sub y hy e; simp at this ⊢; simp [this]) I0.frk rfl
  have ca1 : CA H4 f (spLook Tb (JW pn wd rw kvs rvs ts zs W R) W (domW ts zs R)) := by
    refine I1.ca cl c1 f H4 _ _ (e4 _ _ f3) (e4 _ _ g3) C1 fun vs H' Q' kp ⟨s, F, l, hvs, hd, hl, ⟨hF, ⟨xs, a1, a2⟩, w, dl, u1, u2⟩, kk⟩ => ?_
    subst hF hvs
    have CC := (C1.kp kp).cells
    obtain ⟨kvs', b1, b2⟩ := w.w
    obtain ⟨v, c1', c2'⟩ := b2 s hd
    have lx : xs.length = l.length := a2.1
    refine ⟨pn, wd, .str s.1, .str s.2.1, .int s.2.2, rfl, rfl, wd, pn, xs, s, kvs', v, rfl, hid_at CC b1 (fun _ _ z => nomatch z), c1', hid_at CC a1 (fun _ _ z => nomatch z), by omega, fun b H2 xb p2 s2 hn => ?_⟩
    have xs' := (xb Tb).shw CC hn
    have at2 : ∀ {a : Addr} {o : HO}, H2 a = some o → shwC (cloFrom cl nm1 []) H' H2 a = some o := fun {a o} e => (shwC_ne fun ⟨y, hy⟩ => by rw [hn y a hy] at e; cases e).trans e
    refine kk v [pn, wd, rw] _ ⟨xs'.mono (by simp), fun a ha => .inl ha⟩ (c2'.tup xs'.i.tup) ⟨rfl, ⟨xs ++ [b], at2 p2, ?_⟩, ?_, fun s' hs' => ?_, ?_⟩
    · refine (a2.tup xs'.i.tup).snoc ?_
      obtain ⟨x, y1, y2⟩ := s2
      exact ⟨x, y1, at2 y2⟩
    · obtain ⟨rvs', d1, _⟩ := w.r
      exact w.keep (fun o e => xs'.k _ _ e (by simpa using wp) fun ps z => by rw [b1] at e; cases e; cases z) (fun o e => xs'.k _ _ e (by simpa using rp) fun ps z => by rw [d1] at e; cases e; cases z) xs'.i.tup
    · rcases List.mem_append.mp hs' with z | z
      · exact dl s' z
      · rw [List.mem_singleton.mp z]
        exact hd
    · exact ⟨xs'.k _ _ u1 (by simpa using wp) (fun _ z => nomatch z), xs'.k _ _ u2 (by simpa using rp) (fun _ z => nomatch z)⟩
  have ca0 : CA H4 m (spMany (JW pn wd rw kvs rvs ts zs W R) R (· ∈ ts)) := by
    refine I0.ca cl c2 m H4 _ _ (e4 _ _ m1) (e4 _ _ g2) C0 fun vs H' Q' kp ⟨t', F, l, hvs, ht', ⟨hF, _, w, _, _, _⟩, kk⟩ => ?_
    subst hF hvs
    have CC := (C0.kp kp).cells
    obtain ⟨rvs', b1, b2⟩ := w.r
    refine ⟨rw, t', rvs', _, rfl, rfl, hid_at CC b1 (fun _ _ z => nomatch z), b2 t' ht', fun H2 e2 hn => kk _ fun a o e => ?_⟩
    by_cases z : ∃ y, (cloFrom cl nm0 []).lookup y = some a
    · exact (shwC_at z).trans e
    · exact (shwC_ne z).trans (e2 _ _ ((hidC_ne z).trans e))
  refine G.run pr H4 (JW pn wd rw kvs rvs ts zs W R) [pn, wd, rw] f m _ x4 F4 ⟨ca1, ca0, AK, hw.few, ⟨rfl, ⟨[], e4 _ _ pn3, rfl, fun i s q => by simp at q⟩, w3.ex e4, fun s q => by simp at q, e4 _ _ (keep3 w1 fun _ z => nomatch z), e4 _ _ (keep3 r1 fun _ z => nomatch z)⟩, by simp, ruF⟩ fun v F5 H5 st5 j5 got5 => ?_
  obtain ⟨hF5, ⟨xs5, n5, s5⟩, w5, d5, y5, z5⟩ := j5
  rw [List.nil_append] at s5 d5
  -- behind the call the cells are hidden again
  have C5 : Cells cl H5 := fun y a e => by
    obtain ⟨o, u, q1, q2⟩ := L.all y a e
    exact ⟨o, u, st5.x.i _ _ q1 True.intro, q2⟩
  have x6 : XB Tb [pn, wd, rw] H3 (hidC cl H5) := st5.x.lent L
  have x06 : XB Tb [] H (hidC cl H5) := by
    refine ⟨fun a o e n t => ?_, x3.i.trans x6.i, fun a q => x3.n a (x6.n a q), fun t => x6.t (x3.t t)⟩
    by_cases z : a ∈ [pn, wd, rw]
    · simp only [List.mem_cons, List.mem_nil_iff, or_false] at z
      rcases z with rfl | rfl | rfl
      · rw [hp] at e; cases e
      · rw [w1] at e; cases e
        exact hid_at C5 y5 fun _ _ z => nomatch z
      · rw [r1] at e; cases e
        exact hid_at C5 z5 fun _ _ z => nomatch z
    · exact x6.k a o (keep3 e t) z t
  have n6 : hidC cl H5 pn = some (.lst xs5) := hid_at C5 n5 fun _ _ z => nomatch z
  have s6 : AtSs (hidC cl H5) xs5 r.2 := s5.tup (hid_tup C5)
  have got6 : Got H (hidC cl H5) v r.1 := by
    have g := got5.back (H0 := H) fun a q => x4.n a q
    cases hr1 : r.1 with
    | val x =>
      rw [hr1] at g
      obtain ⟨a, u, g1, g2, g3⟩ := g
      exact ⟨a, u, g1, hid_at C5 g2 (fun _ _ z => nomatch z), g3.tup (hid_tup C5)⟩
    | call is =>
      rw [hr1] at g
      obtain ⟨a, q, g1, g2, g3, g4⟩ := g
      exact ⟨a, q, g1, hid_at C5 g2 (fun _ _ z => nomatch z), hid_at C5 g3 (fun _ _ z => nomatch z), g4⟩
  have okr : ∀ s ∈ r.2, okSp s := fun s hs => by
    obtain ⟨q1, q2, _⟩ := d5 s hs
    exact ⟨name_ok (hts _ q1), name_ok (hz _ q2)⟩
  show tSeq _ _ _ _ _
  refine q_asgL (el_lst ea_nil (by decide)) fun q H7 hq e7 h7 => ?_
  refine q_forLn (ev_var rfl) (SqL.of (e7 _ _ n6)) (fun i σ H' => ∃ (x10 : Option V) (ys : List V), σ = [some (.ref wd), some (.ref rw), some (.ref ru), some (.str t), some (.str c), some (.int p), some (.ref f), some (.ref m), some v, some (.ref q), x10, some (.ref pn)] ∧ Ex (hidC cl H5) H' ∧ H' q = some (.lst ys) ∧ AtSs H' ys (once (r.2.take i)))
    (fun H8 e8 => ⟨_, [], rfl, e7.trans e8, e8 _ _ h7, rfl, fun i s z => by simp [once] at z⟩) (fun i σ H' _ ⟨_, _, _, e, _⟩ => SqL.of (e _ _ n6)) ?_ ?_
  · rintro i x σ H8 hi ⟨x10, ys, rfl, e8, hq8, a8⟩
    obtain ⟨s, hs, as⟩ := (s6.tup (.of_ex e8)).at hi
    have il : i < r.2.length := (List.getElem?_eq_some_iff.mp hs).1
    have tk : r.2.take (i + 1) = r.2.take i ++ [s] := by rw [List.take_add_one, hs]; rfl
    have o2 : ∀ x ∈ once (r.2.take i), okSp x := fun x hx => okr x (List.mem_of_mem_take (once_mem hx))
    have ly : ys.length ≤ 900 := by
      have := once_len (r.2.take i)
      rw [List.length_take] at this
      have := a8.1
      omega
    refine s_when (et_test (ev_ninS (ev_var rfl) as (ev_var rfl) hq8 a8 (okr s (List.mem_of_getElem? hs)) o2)) (fun hb H9 e9 => ?_) (fun hb H9 e9 => ?_)
    · have hn : s ∉ once (r.2.take i) := by simpa using hb
      refine s_app (e9 _ _ hq8) (ev_var rfl) (ev_var rfl) (by omega) fun H10 e10 => ?_
      have e910 := e9.trans e10
      refine ⟨_, _, rfl, Ex.mut (e8.trans e910) hq, upd_same, ?_⟩
      rw [tk, once_snoc, if_neg hn]
      have tt : Tup H8 (L2.upd H10 q (.lst (ys ++ [x]))) := ((Imk.of e910).trans (Imk.upd (e910 _ _ hq8) fun z => z)).tup
      exact (a8.tup tt).snoc (as.tup tt)
    · have hn : s ∈ once (r.2.take i) := by simpa using hb
      refine ⟨_, ys, rfl, e8.trans e9, e9 _ _ hq8, ?_⟩
      rw [tk, once_snoc, if_pos hn]
      exact a8.tup (.of_ex e9)
  · rintro σ H8 ⟨x10, ys, rfl, e8, hq8, a8⟩
    rw [s6.1, List.take_length] at a8
    refine s_retU (eu_tup (ea_cons (ev_var rfl) (ea_cons (ev_var rfl) ea_nil)) (show 2 ≤ 100000 by decide)) fun a H9 _ e9 h9 => ?_
    have e89 := e8.trans e9
    exact k a v q ys H9 (x06.trans (XB.of e89)) h9 (got6.ex e89) (e9 _ _ hq8) (a8.tup (.of_ex e9)) fun s hs => okr s (once_mem hs)
end Z

set_option Elab.async false
set_option linter.all false
set_option autoImplicit false
set_option maxRecDepth 100000
set_option maxHeartbeats 4000000
/-! ev: what an expression comes to, by its form -/
local macro_rules | `(tactic| k_places) => `(tactic| (repeat' (first
  | (with_reducible exact ev_c)
  | (with_reducible exact ev_var rfl)
  | (with_reducible refine ev_chainLL ?_ ?_ ?_)
  | (with_reducible refine ev_chainLt ?_ ?_ ?_)
  | (with_reducible refine ev_op ?_ ?_ ?_)
  | (with_reducible refine ev_neg ?_)
  | (with_reducible refine et_test ?_)
  | (with_reducible refine et_B ?_)
  | (with_reducible refine et_not ?_)
  | (with_reducible refine et_and ?_ (fun _ => ?_))
  | (with_reducible refine et_or ?_ (fun _ => ?_))
  | (with_reducible refine ev_andV ?_ (fun _ => ?_))
  | (with_reducible refine ev_orV ?_ (fun _ => ?_))
  | (with_reducible refine ev_notV ?_)
  | (with_reducible exact rv_addI)
  | (with_reducible exact rv_subI)
  | (with_reducible exact rv_lt)
  | (with_reducible exact rv_le)
  | (with_reducible exact rv_gt)
  | (with_reducible exact rv_ge)
  | (with_reducible exact rv_isB)
  | (with_reducible exact rv_isnB)
  | (with_reducible exact rv_isN)
  | (with_reducible exact rv_isnN)
  | (with_reducible exact rv_eqS rfl)
  | (with_reducible exact rv_neS rfl)
  | (with_reducible exact rv_inStr)
  | (with_reducible exact rv_ninStr)
  | (with_reducible exact rv_mod (by first | decide | omega | assumption))
  | (with_reducible exact rv_div (by first | decide | omega | assumption))
  | (with_reducible exact rv_pow (by decide))
  | (with_reducible refine ed_i ?_; done)
  | (with_reducible exact ea_nil)
  | (with_reducible refine ea_cons ?_ ?_)
  | (with_reducible exact eds_nil)
  | (with_reducible refine eds_cons ?_ ?_)
  | (with_reducible exact ed_dnew)
  | (with_reducible refine ed_lst ?_ (by simp only [List.length_cons, List.length_nil]; omega))
  | (with_reducible refine ed_tup ?_ (by simp only [List.length_cons, List.length_nil]; omega)))))
namespace Z
open PySem PySem.Spec PyProof.Rows L2 Evl NdefX LamX
/-! ### what was told, against what is due -/
def Told (H : Hp) (v : V) : Res → Prop
  | .val x => ∃ a u, v = .ref a ∧ H a = some (.tup [.str "value", u]) ∧ Vt H u (dV x)
  | .call is => ∃ a p, v = .ref a ∧ H a = some (.tup [.str "call", .ref p]) ∧ H p = some (.lst (is.map V.int))
theorem Got.told {H H' : Hp} {v : V} {r : Res} (g : Got H H' v r) : Told H' v r := by
  cases r with
  | val x => exact g
  | call is => obtain ⟨a, p, g1, g2, g3, _⟩ := g; exact ⟨a, p, g1, g2, g3⟩
theorem Told.ex {H H' : Hp} {v : V} {r : Res} (g : Told H v r) (e : Ex H H') : Told H' v r := by
  cases r with
  | val x => obtain ⟨a, u, g1, g2, g3⟩ := g; exact ⟨a, u, g1, e _ _ g2, g3.tup (.of_ex e)⟩
  | call is => obtain ⟨a, p, g1, g2, g3⟩ := g; exact ⟨a, p, g1, e _ _ g2, e _ _ g3⟩
theorem Told.xb {T : List (Addr × Str)} {F : List Addr} {H H' : Hp} {v : V} {r : Res} (g : Told H v r) (x : XB T F H H') (hF : ∀ a ∈ F, (∃ kvs, H a = some (.dT kvs)) ∨ ∃ kvs, H a = some (.dK kvs)) : Told H' v r := by
  cases r with
  | val y => obtain ⟨a, u, g1, g2, g3⟩ := g; exact ⟨a, u, g1, x.i _ _ g2 True.intro, g3.tup x.i.tup⟩
  | call is =>
    obtain ⟨a, p, g1, g2, g3⟩ := g
    exact ⟨a, p, g1, x.i _ _ g2 True.intro, x.k _ _ g3 (fun z => by rcases hF p z with ⟨_, q⟩ | ⟨_, q⟩ <;> rw [g3] at q <;> cases q) fun _ z => nomatch z⟩
def okRes : Res → Prop
  | .val x => okV x
  | .call is => is.length ≤ 1000
def sp_law_whole (K : PySem.W.Frag) : Sp := sp1 (fun _ => True) fun d => .bool (isWholeD d)
def sp_law_alike (K : PySem.W.Frag) : Sp := fun vs H Q _ => ∃ (v u : V) (r : Res), vs = [v, u] ∧ Told H v r ∧ Told H u r ∧ okRes r ∧ RetV (.bl true) H Q
def sp_law_in_turn (K : PySem.W.Frag) : Sp := fun vs H Q _ => ∃ (wd sp : Addr) (xs : List V) (ss : List Spot) (W : Spot → Val) (Dom : Spot → Prop), vs = [.ref wd, .ref sp] ∧ WAt H wd W Dom ∧ H sp = some (.lst xs) ∧ AtSs H xs ss ∧ (∀ s ∈ ss, Dom s ∧ okSp s) ∧ (∀ s, okV (W s)) ∧ ss.length ≤ 100 ∧
  ∀ a u q ys H', Ex H H' → H' a = some (.tup [u, .ref q]) → Told H' u (turn W ss).1 → H' q = some (.lst ys) → AtSs H' ys (once (turn W ss).2) → Q (.ref a) H'
def sp_law_picked (K : PySem.W.Frag) : Sp := fun vs H Q _ => ∃ (l np : Addr) (ns : List Int) (zs : List Str) (j : Nat), vs = [.ref l, .int (j : Int), .ref np] ∧ SqL K H l (ns.map V.int) ∧ H np = some (.lst (zs.map V.str)) ∧ 1 ≤ zs.length ∧ zs.length ≤ 1000 ∧ j ≤ 90000 ∧
  ∀ ws : List Str, ws.length ≤ 6 → (∀ w ∈ ws, w ∈ zs) → RetL (ws.map V.str) H Q
def t_law_whole (K : PySem.W.Frag) (E : XK) : TS :=
  tRet (tAndV (tCB (rIsiA K) (tCons (tVar 0) (tCons (tC (.ty "int")) tNil))) (tNotV (tCB (rIsiA K) (tCons (tVar 0) (tCons (tC (.ty "bool")) tNil)))))
def t_law_alike (K : PySem.W.Frag) (E : XK) : TS :=
  tSeq (tIfS (tOr (tNot (tB (tCB (rIsiA K) (tCons (tVar 0) (tCons (tC (.ty "tuple")) tNil))))) (tOr (tTest (tOp (rNeA K) (tCB (rLenA K) (tCons (tVar 0) tNil)) (tC (.int 2)))) (tOr (tNot (tB (tCB (rIsiA K) (tCons (tOp (rIxA K) (tVar 0) (tC (.int 0))) (tCons (tC (.ty "str")) tNil))))) (tTest (tOp (rNeA K) (tOp (rIxA K) (tVar 0) (tC (.int 0))) (tOp (rIxA K) (tVar 1) (tC (.int 0)))))))) (tRet (tC (.bl false))) tNext)
    (tSeq (tIfS (tB (tCB (rIsiA K) (tCons (tOp (rIxA K) (tVar 1) (tC (.int 1))) (tCons (tC (.ty "int")) tNil)))) (tRet (tAndV (tCallS (sp_law_whole K) (WE (fun cls d _ H => E cls d H)) (tCons (tOp (rIxA K) (tVar 0) (tC (.int 1))) tNil)) (tOp (rEqA K) (tOp (rIxA K) (tVar 0) (tC (.int 1))) (tOp (rIxA K) (tVar 1) (tC (.int 1)))))) tNext)
    (tSeq (tIfS (tB (tCB (rIsiA K) (tCons (tOp (rIxA K) (tVar 1) (tC (.int 1))) (tCons (tC (.ty "tuple")) tNil)))) (tRet (tAndV (tCB (rIsiA K) (tCons (tOp (rIxA K) (tVar 0) (tC (.int 1))) (tCons (tC (.ty "tuple")) tNil))) (tOp (rEqA K) (tOp (rIxA K) (tVar 0) (tC (.int 1))) (tOp (rIxA K) (tVar 1) (tC (.int 1)))))) tNext)
    (tSeq (tIfS (tOr (tNot (tB (tCB (rIsiA K) (tCons (tOp (rIxA K) (tVar 0) (tC (.int 1))) (tCons (tC (.ty "list")) tNil))))) (tTest (tOp (rNeA K) (tLc (iList K (tOp (rIxA K) (tVar 0) (tC (.int 1)))) (gName 2) (tNot (tB (tCall (sp_law_whole K) [] E0 (tCons (tVar 2) tNil)))) (tVar 2) [2]) (tLst tNil)))) (tRet (tC (.bl false))) tNext)
    (tRet (tOp (rEqA K) (tOp (rIxA K) (tVar 0) (tC (.int 1))) (tOp (rIxA K) (tVar 1) (tC (.int 1))))))))
def t_law_in_turn (K : PySem.W.Frag) (E : XK) : TS :=
  tSeq (tAsg (tLst tNil) (gName 2))
    (tSeq (tAsg (tLst tNil) (gName 3))
    (tSeq (tFor (iList K (tVar 1)) (gName 4) (tSeq (tIfS (tTest (tOp (rNinA K) (tVar 4) (tVar 3))) (tDrop (tBM K "list" rAppend (tVar 3) (tCons (tVar 4) tNil))) tNext)
    (tSeq (tIfS (tB (tCB (rIsiA K) (tCons (tOp (rIxA K) (tVar 0) (tVar 4)) (tCons (tC (.ty "tuple")) tNil)))) (tRet (tTup (tCons (tTup (tCons (tC (.str "value")) (tCons (tOp (rIxA K) (tVar 0) (tVar 4)) tNil))) (tCons (tVar 3) tNil)))) tNext)
    (tDrop (tBM K "list" rAppend (tVar 2) (tCons (tOp (rIxA K) (tVar 0) (tVar 4)) tNil))))))
    (tRet (tTup (tCons (tTup (tCons (tC (.str "call")) (tCons (tVar 2) tNil))) (tCons (tVar 3) tNil))))))
def t_law_picked (K : PySem.W.Frag) (E : XK) : TS :=
  tRet (tLc (iRng1 (tCons (tCallS (sp_law_drawn K) (WE (fun cls d _ H => E cls d H)) (tCons (tVar 0) (tCons (tOp (rAddA K) (tVar 1) (tC (.int 9))) (tCons (tC (.int 7)) tNil)))) tNil)) (gName 3) tYes (tOp (rIxA K) (tVar 2) (tCall (sp_law_drawn K) [] E0 (tCons (tVar 0) (tCons (tOp (rAddA K) (tVar 1) (tVar 3)) (tCons (tCB (rLenA K) (tCons (tVar 2) tNil)) tNil))))) [3])
section
variable {K : PySem.W.Frag} {σ : L2.St} {H H' : Hp} {ta tb tc te tx : TE} {D : Ends} {tz : TS} {E : L2.St → XK}
theorem len_law_whole (vs : List V) (H : Hp) (Q : VK) (E : XK) (h : sp_law_whole K vs H Q E) : vs.length = 1 := by obtain ⟨_, _, rfl, _⟩ := sp1_open h; rfl
theorem len_law_alike (vs : List V) (H : Hp) (Q : VK) (E : XK) (h : sp_law_alike K vs H Q E) : vs.length = 2 := by obtain ⟨_, _, _, rfl, _⟩ := h; rfl
theorem len_law_in_turn (vs : List V) (H : Hp) (Q : VK) (E : XK) (h : sp_law_in_turn K vs H Q E) : vs.length = 2 := by obtain ⟨_, _, _, _, _, _, rfl, _⟩ := h; rfl
theorem len_law_picked (vs : List V) (H : Hp) (Q : VK) (E : XK) (h : sp_law_picked K vs H Q E) : vs.length = 3 := by obtain ⟨_, _, _, _, _, rfl, _⟩ := h; rfl
theorem r_law_whole (vs : List V) (H : Hp) (Q : VK) (E : XK) (h : sp_law_whole K vs H Q E) : t_law_whole K E { nx := fun _ H' => Q .non H', rt := Q } (L2.start ["found"] vs) H := r_is_whole vs H Q E h
def kindR : Res → Str
  | .val _ => "value"
  | .call _ => "call"
def tyVal : Val → String
  | .inl _ => "int"
  | .inr _ => "tuple"
/-- the two parts of what is told -/
theorem told_parts {v : V} {r : Res} (h : Told H v r) : ∃ a k x, v = .ref a ∧ H a = some (.tup [.str k, x]) ∧ k = kindR r := by
  cases r with
  | val x => obtain ⟨a, u, g1, g2, _⟩ := h; exact ⟨a, _, u, g1, g2, rfl⟩
  | call is => obtain ⟨a, p, g1, g2, _⟩ := h; exact ⟨a, _, _, g1, g2, rfl⟩
theorem ev_pt {a : Addr} {x y : V} (h : Ev ta σ H (.ref a)) (g : H a = some (.tup [x, y])) : Ev (tOp (rIxA K) ta (tC (.int 0))) σ H x ∧ Ev (tOp (rIxA K) ta (tC (.int 1))) σ H y :=
  ⟨ev_op h ev_c (rv_itT (SqT.of g) rfl), ev_op h ev_c (rv_itT (SqT.of g) rfl)⟩
theorem vt_ty {v : V} {x : Val} (h : Vt H v (dV x)) : tyN H v = some (tyVal x) := by
  cases x with
  | inl i => cases h; rfl
  | inr w => cases h with | flt h => show tyO (H _) = _; rw [h]; rfl
theorem r_law_alike (vs : List V) (H : Hp) (Q : VK) (E : XK) (h : sp_law_alike K vs H Q E) : t_law_alike K E { nx := fun _ H' => Q .non H', rt := Q } (L2.start ["found", "due", "one"] vs) H := by
  obtain ⟨v, u, r, rfl, h1, h2, ok, k⟩ := h
  unfold t_law_alike
  obtain ⟨a, k1, x, rfl, a1, ek1⟩ := told_parts h1
  obtain ⟨b, k2, y, rfl, b1, ek2⟩ := told_parts h2
  have ek : k1 = k2 := ek1.trans ek2.symm
  subst ek
  refine q_when (b := false) (et_is (et_or (et_not (et_B (ev_isi (ev_var rfl) (n := "tuple") (by show tyO (H a) = _; rw [a1]; rfl)))) fun _ => et_or (et_test (ev_op (ev_lenV (ev_var rfl) (rc_lenT (SqT.of a1))) ev_c (rv_neS rfl))) fun _ => et_or (et_not (et_B (ev_isi (ev_pt (ev_var rfl) a1).1 (n := "str") rfl))) fun _ => et_test (ev_op (ev_pt (ev_var rfl) a1).1 (ev_pt (ev_var rfl) b1).1 (rv_neS rfl))) (by
      rw [decide_eq_true rfl]
      rfl)) (fun hb => nomatch hb) fun _ H1 e1 => ?_
  have a2 := e1 _ _ a1
  have b2 := e1 _ _ b1
  cases r with
  | val z =>
    obtain ⟨a', x', q1, q2, vx⟩ := h1
    cases q1
    rw [a1] at q2
    cases q2
    obtain ⟨b', y', q1, q2, vy⟩ := h2
    cases q1
    rw [b1] at q2
    cases q2
    have eq : ∀ {σ : L2.St} {H2 : Hp}, Ex H H2 → σ[0]? = some (some (V.ref a)) → σ[1]? = some (some (V.ref b)) → Ev (tOp (rEqA K) (tOp (rIxA K) (tVar 0) (tC (.int 1))) (tOp (rIxA K) (tVar 1) (tC (.int 1)))) σ H2 (.bl true) := fun e h0 h1 =>
      ev_is (ev_eqD (ed_ev (ev_pt (ev_var h0) (e _ _ a1)).2 (vx.tup (.of_ex e)).dt) (ed_ev (ev_pt (ev_var h1) (e _ _ b1)).2 (vy.tup (.of_ex e)).dt) (val_okD (okV.val ok)) (val_okD (okV.val ok))) (by rw [eqv_self (val_okD (okV.val ok))])
    cases z with
    | inl i =>
      refine q_when (b := true) (et_is (et_B (ev_isi (ev_pt (ev_var rfl) b2).2 (vt_ty (vy.tup (.of_ex e1))))) rfl) (fun _ H2 e2 => ?_) (fun hb => nomatch hb)
      refine s_ret (v := .bl true) (ev_is (ev_andV (ev_spB (g := isWholeD) (pre := fun _ => True) (ed_ev (ev_pt (ev_var rfl) (e2 _ _ a2)).2 (vx.tup (.of_ex (e1.trans e2))).dt) True.intro) fun _ => eq (e1.trans e2) rfl rfl) rfl) fun H3 e3 => k H3 ((e1.trans e2).trans e3)
    | inr w =>
      refine q_when (b := false) (et_is (et_B (ev_isi (ev_pt (ev_var rfl) b2).2 (vt_ty (vy.tup (.of_ex e1))))) rfl) (fun hb => nomatch hb) fun _ H2 e2 => ?_
      refine q_when (b := true) (et_is (et_B (ev_isi (ev_pt (ev_var rfl) (e2 _ _ b2)).2 (vt_ty (vy.tup (.of_ex (e1.trans e2)))))) rfl) (fun _ H3 e3 => ?_) (fun hb => nomatch hb)
      have e13 := (e1.trans e2).trans e3
      refine s_ret (v := .bl true) (ev_is (ev_andV (ev_isi (ev_pt (ev_var rfl) (e13 _ _ a1)).2 (vt_ty (vx.tup (.of_ex e13)))) fun _ => eq e13 rfl rfl) rfl) fun H4 e4 => k H4 (e13.trans e4)
  | call is =>
    obtain ⟨a', p, q1, q2, px⟩ := h1
    cases q1
    rw [a1] at q2
    cases q2
    obtain ⟨b', q, q1, q2, py⟩ := h2
    cases q1
    rw [b1] at q2
    cases q2
    have tl : ∀ {H2 : Hp} {c : Addr}, H2 c = some (.lst (is.map V.int)) → tyN H2 (.ref c) = some "list" := fun h => by show tyO _ = _; rw [h]; rfl
    refine q_when (b := false) (et_is (et_B (ev_isi (ev_pt (ev_var rfl) b2).2 (tl (e1 _ _ py)))) rfl) (fun hb => nomatch hb) fun _ H2 e2 => ?_
    have e12 := e1.trans e2
    refine q_when (b := false) (et_is (et_B (ev_isi (ev_pt (ev_var rfl) (e12 _ _ b1)).2 (tl (e12 _ _ py)))) rfl) (fun hb => nomatch hb) fun _ H3 e3 => ?_
    have e13 := e12.trans e3
    have lis : is.length ≤ 1000 := ok
    have el : EvL (tLc (iList K (tOp (rIxA K) (tVar 0) (tC (.int 1)))) (gName 2) (tNot (tB (tCall (sp_law_whole K) [] E0 (tCons (tVar 2) tNil)))) (tVar 2) [2]) [some (.ref a), some (.ref b), none] H3 [] := by
      have := el_lcL (K := K) (t := tNot (tB (tCall (sp_law_whole K) [] E0 (tCons (tVar 2) tNil)))) (te := tVar 2) (j := 2) (vs := [2]) (fun _ => false) (fun _ => .non) (tl := tOp (rIxA K) (tVar 0) (tC (.int 1))) (σ := [some (.ref a), some (.ref b), none]) (H := H3) (ev_pt (ev_var rfl) (e13 _ _ a1)).2 (SqL.of (e13 _ _ px)) (by rw [List.length_map]; omega) (fun _ => rfl)
        (fun i x H4 e4 hi => by
          rw [List.getElem?_map] at hi
          cases hq : is[i]? with
          | none => rw [hq] at hi; cases hi
          | some n =>
            rw [hq] at hi
            cases hi
            exact et_is (et_not (et_B (ev_b (ed_call (ds := [.int n]) (eds_cons (ed_i (ev_var rfl)) eds_nil) rfl True.intro)))) rfl) (fun i x H4 e4 hi hf => nomatch hf)
      have eg : given (is.map V.int).length (fun _ => false) (fun _ => V.non) = [] := by
        unfold given
        rw [List.filter_eq_nil_iff.mpr (by simp)]
        rfl
      rwa [eg] at this
    refine q_when (b := false) (et_is (et_or (et_not (et_B (ev_isi (ev_pt (ev_var rfl) (e13 _ _ a1)).2 (tl (e13 _ _ px))))) fun _ => et_test (ev_opLL (z := .bl false) el (el_lst ea_nil (by decide)) fun c d H4 hc hd _ => fun H5 e5 Q5 q5 => .inr (.inr (.inr ⟨c, d, [], rfl, rfl, e5 _ _ hc, e5 _ _ hd, q5 H5 (Ex.refl H5)⟩)))) rfl) (fun hb => nomatch hb) fun _ H4 e4 => ?_
    have e14 := e13.trans e4
    refine s_ret (v := .bl true) (ev_is (ev_eqD (ed_ev (ev_pt (ev_var rfl) (e14 _ _ a1)).2 (.lst (e14 _ _ px) (dt_ints is))) (ed_ev (ev_pt (ev_var rfl) (e14 _ _ b1)).2 (.lst (e14 _ _ py) (dt_ints is))) (okI2 is) (okI2 is)) (by rw [eqv_self (okI2 is)])) fun H5 e5 => k H5 (e14.trans e5)
/-- world[spot] -/
theorem ev_world {wd : Addr} {W : Spot → Val} {Dom : Spot → Prop} {v : V} {s : Spot} (h : WAt H wd W Dom) (hd : Dom s) (ha : Ev ta σ H (.ref wd)) (hb : Ev tb σ H v) (r : AtS H v s) : ∃ u, Ev (tOp (rIxA K) ta tb) σ H u ∧ Vt H u (dV (W s)) := by
  obtain ⟨kvs, a1, a2⟩ := h
  obtain ⟨u, b1, b2⟩ := a2 s hd
  obtain ⟨p, rfl, c1⟩ := r
  refine ⟨u, ev_op ha hb fun H1 e Q q => .inr ⟨wd, u, rfl, ?_, q H1 (Ex.refl H1)⟩, b2⟩
  rw [← b1]
  exact DGet.t (e _ _ a1) (e _ _ c1)
theorem r_law_in_turn (vs : List V) (H : Hp) (Q : VK) (E : XK) (h : sp_law_in_turn K vs H Q E) : t_law_in_turn K E { nx := fun _ H' => Q .non H', rt := Q } (L2.start ["world", "spots", "found", "seen", "spot"] vs) H := by
  obtain ⟨wd, sp, xs, ss, W, Dom, rfl, hw, hs, ha, hd, ok, hl, k⟩ := h
  unfold t_law_in_turn
  refine q_asgL (el_lst ea_nil (by decide)) fun p H1 hp e1 h1 => q_asgL (el_lst ea_nil (by decide)) fun q H2 hq e2 h2 => ?_
  have pq : p ≠ q := ne_of_none h1 hq
  have q0 : H q = none := fresh_back e1 hq
  refine q_forLn (ev_var rfl) (SqL.of ((e1.trans e2) _ _ hs)) (fun i σ H' => ∃ (x4 : Option V) (is : List Int) (ys : List V), σ = [some (.ref wd), some (.ref sp), some (.ref p), some (.ref q), x4] ∧ Ex H H' ∧ H' p = some (.lst (is.map V.int)) ∧ H' q = some (.lst ys) ∧ AtSs H' ys (once (ss.take i)) ∧ (ss.take i).map W = is.map Sum.inl)
    (fun H3 e3 => ⟨_, [], [], rfl, (e1.trans e2).trans e3, e3 _ _ (e2 _ _ h1), e3 _ _ h2, ⟨rfl, fun i s z => by simp [once] at z⟩, rfl⟩) (fun i σ H' _ ⟨_, _, _, _, e, _⟩ => SqL.of (e _ _ hs)) ?_ ?_
  · rintro i x σ H3 hi ⟨x4, is, ys, rfl, e3, hp3, hq3, a3, hW⟩
    obtain ⟨s, hsi, as⟩ := (ha.tup (.of_ex e3)).at hi
    have il : i < ss.length := (List.getElem?_eq_some_iff.mp hsi).1
    have ms := List.mem_of_getElem? hsi
    have tk : ss.take (i + 1) = ss.take i ++ [s] := by rw [List.take_add_one, hsi]; rfl
    have o2 : ∀ x ∈ once (ss.take i), okSp x := fun x hx => (hd x (List.mem_of_mem_take (once_mem hx))).2
    have ly : ys.length ≤ 100 := by
      have := once_len (ss.take i)
      rw [List.length_take] at this
      have := a3.1
      omega
    have lis : is.length = i := by
      have := congrArg List.length hW
      rw [List.length_map, List.length_map, List.length_take] at this
      omega
    refine q_cut2 (M := fun σ' H' => ∃ ys', σ' = [some (.ref wd), some (.ref sp), some (.ref p), some (.ref q), some x] ∧ Ex H H' ∧ Tup H3 H' ∧ H' p = some (.lst (is.map V.int)) ∧ H' q = some (.lst ys') ∧ AtSs H' ys' (once (ss.take (i + 1)))) (fun nx hnx => ?_) ?_
    · refine s_when (et_test (ev_ninS (ev_var rfl) as (ev_var rfl) hq3 a3 (hd s ms).2 o2)) (fun hb H4 e4 => ?_) (fun hb H4 e4 => ?_)
      · have hn : s ∉ once (ss.take i) := by simpa using hb
        refine s_app (e4 _ _ hq3) (ev_var rfl) (ev_var rfl) (by omega) fun H5 e5 => ?_
        have e45 := e4.trans e5
        have im : Imk H3 (L2.upd H5 q (.lst (ys ++ [x]))) := (Imk.of e45).trans (Imk.upd (e45 _ _ hq3) fun z => z)
        refine hnx _ _ ⟨_, rfl, Ex.mut (e3.trans e45) q0, im.tup, (upd_ne pq).trans (e45 _ _ hp3), upd_same, ?_⟩
        rw [tk, once_snoc, if_neg hn]
        exact (a3.tup im.tup).snoc (as.tup im.tup)
      · have hn : s ∈ once (ss.take i) := by simpa using hb
        refine hnx _ _ ⟨ys, rfl, e3.trans e4, .of_ex e4, e4 _ _ hp3, e4 _ _ hq3, ?_⟩
        rw [tk, once_snoc, if_pos hn]
        exact a3.tup (.of_ex e4)
    · rintro σ4 H4 ⟨ys', rfl, e4, tt, hp4, hq4, a4⟩
      have hw4 : WAt H4 wd W Dom := hw.imk (e4 _) (.of e4)
      obtain ⟨u, ev, rv⟩ := ev_world (K := K) (ta := tVar 0) (tb := tVar 4) (σ := [some (.ref wd), some (.ref sp), some (.ref p), some (.ref q), some x]) hw4 (hd s ms).1 (ev_var rfl) (ev_var rfl) (as.tup tt)
      refine q_when (et_B (ev_isi ev (vt_ty rv))) (fun hb H5 e5 => ?_) (fun hb H5 e5 => ?_)
      · obtain ⟨w, hWs⟩ : ∃ w, W s = .inr w := by
          cases z : W s with
          | inl i =>
            rw [z, show isiB (tyVal (Sum.inl i)) "tuple" = false from by show isiB "int" "tuple" = false; decide] at hb
            cases hb
          | inr w => exact ⟨w, rfl⟩
        have tf := turn_flt hW hsi hWs
        rw [hWs] at rv
        refine (ev.mono e5) H5 (Ex.refl H5) _ fun H6 e6 => ⟨sz_of (show 2 ≤ 100000 by decide), fun b hb6 => ⟨_, rfl, sz_of (show 2 ≤ 100000 by decide), fun a ha7 => ?_⟩⟩
        have E56 : Ex H4 H6 := e5.trans e6
        have E67 : Ex H6 (L2.upd (L2.upd H6 b (.tup [.str "value", u])) a (.tup [.ref b, .ref q])) := (Ex.new hb6).trans (Ex.new ha7)
        refine k a (.ref b) q ys' _ ((e4.trans E56).trans E67) upd_same ?_ ((E56.trans E67) _ _ hq4) ?_
        · rw [tf]
          exact ⟨b, u, rfl, (upd_ne (ne_of_none upd_same ha7)).trans upd_same, rv.tup (.of_ex (E56.trans E67))⟩
        · rw [tf, ← tk]
          exact a4.tup (.of_ex (E56.trans E67))
      · obtain ⟨n, hWs⟩ : ∃ n, W s = .inl n := by
          cases z : W s with
          | inl i => exact ⟨i, rfl⟩
          | inr w =>
            rw [z, show isiB (tyVal (Sum.inr w)) "tuple" = true from by show isiB "tuple" "tuple" = true; decide] at hb
            cases hb
        rw [hWs] at rv
        obtain rfl : u = .int n := by cases rv; rfl
        refine s_app (e5 _ _ hp4) (ev_var rfl) (ev.mono e5) (by rw [List.length_map]; omega) fun H6 e6 => ?_
        have e56 := e5.trans e6
        have im : Imk H4 (L2.upd H6 p (.lst (is.map V.int ++ [V.int n]))) := (Imk.of e56).trans (Imk.upd (e56 _ _ hp4) fun z => z)
        refine ⟨_, is ++ [n], ys', rfl, Ex.mut (e4.trans e56) hp, ?_, (upd_ne (Ne.symm pq)).trans (e56 _ _ hq4), a4.tup im.tup, ?_⟩
        · rw [List.map_append]
          exact upd_same
        · rw [tk, List.map_append, List.map_append, hW, List.map_cons, hWs]
          rfl
  · rintro σ H3 ⟨x4, is, ys, rfl, e3, hp3, hq3, a3, hW⟩
    rw [ha.1, List.take_length] at a3 hW
    have tf := turn_all hW
    refine ⟨_, rfl, sz_of (show 2 ≤ 100000 by decide), fun b hb6 => ⟨_, rfl, sz_of (show 2 ≤ 100000 by decide), fun a ha7 => ?_⟩⟩
    have E67 : Ex H3 (L2.upd (L2.upd H3 b (.tup [.str "call", .ref p])) a (.tup [.ref b, .ref q])) := (Ex.new hb6).trans (Ex.new ha7)
    refine k a (.ref b) q ys _ (e3.trans E67) upd_same ?_ (E67 _ _ hq3) ?_
    · rw [tf]
      exact ⟨b, p, rfl, (upd_ne (ne_of_none upd_same ha7)).trans upd_same, E67 _ _ hp3⟩
    · rw [tf]
      exact a3.tup (.of_ex E67)
theorem s_retLcR {R : Nat → V → Hp → Prop} {tas : TA} {n : Int} {j : Nat} {ls : List Nat} (hR : ∀ i v H H', R i v H → Imk H H' → R i v H') (h : EvA tas σ H [.int n]) (hn : 0 ≤ n ∧ n ≤ 40000) (hw : ∀ x, wipe ((wipe σ ls).set j (some x)) ls = wipe σ ls)
    (he : ∀ (i : Nat) H1, Ex H H1 → (i : Int) < n → EvR te ((wipe σ ls).set j (some (.int (i : Int)))) H1 (R i))
    (k : ∀ p ys H1, H p = none → Ex H H1 → H1 p = some (.lst ys) → ys.length = n.toNat → (∀ i y, ys[i]? = some y → R i y H1) → D.rt (.ref p) H1) : tRet (tLc (iRng1 tas) (gName j) tYes te ls) D σ H := er_lcR hR h hn hw he k
theorem r_law_picked (vs : List V) (H : Hp) (Q : VK) (E : XK) (h : sp_law_picked K vs H Q E) : t_law_picked K E { nx := fun _ H' => Q .non H', rt := Q } (L2.start ["script", "k", "names", "j"] vs) H := by
  obtain ⟨l, np, ns, zs, j, rfl, hl, hn, h1, h2, hj, k⟩ := h
  unfold t_law_picked
  have b7 := drawn_bd ns (j + 9) (size := 7) (by decide)
  have len : ∀ {σ : L2.St} {H1 : Hp}, σ[2]? = some (some (V.ref np)) → Ex H H1 → Ev (tCB (rLenA K) (tCons (tVar 2) tNil)) σ H1 (.int zs.length) := fun h0 e => by
    have := ev_lenV (ta := tVar 2) (ev_var h0) (rc_lenL (K := K) (SqL.of (e _ _ hn)))
    rwa [List.length_map] at this
  refine s_retLcR (n := drawn ns (j + 9) 7) (R := fun i v _ => ∃ z ∈ zs, v = .str z) (fun i v H H' h _ => h) (ea_cons (ev_drawn (j := j + 9) hl (ev_var rfl) (ev_is (ev_op (ev_var rfl) ev_c rv_addI) (by rw [Int.natCast_add]; rfl)) ev_c (by omega) (by decide)) ea_nil) (by omega) (fun _ => rfl) (fun i H1 e1 hi => ?_) fun p ys H1 hp e1 h1 hl2 hr => ?_
  · intro H2 e2 Q2 q2
    have E := e1.trans e2
    refine ev_op (r := rIxA K) (ta := tVar 2) (ev_var rfl) (ev_drawnB (K := K) (j := j + i) (size := (zs.length : Int)) (ex_l E hl) (ev_var rfl) (ev_is (ev_op (ev_var rfl) (ev_var rfl) rv_addI) (by rw [Int.natCast_add])) (len rfl E) (by omega) (by omega)) (rv_itL (SqL.of (E _ _ hn)) (atI_drawn ns (j + i) .non (by rw [List.length_map]) (by omega))) H2 (Ex.refl H2) _ fun H3 e3 => q2 _ H3 e3 ?_
    have := getD_mem (d := V.non) (drawn_lt (xs := zs.map V.str) ns (j + i) (n := (zs.length : Int)) (by rw [List.length_map]) (by omega))
    obtain ⟨z, a, b⟩ := List.mem_map.mp this
    exact ⟨z, a, b.symm⟩
  · obtain ⟨ws, hw1, hw2⟩ : ∃ ws : List Str, ys = ws.map V.str ∧ ∀ w ∈ ws, w ∈ zs := by
      have : ∀ ys : List V, (∀ y ∈ ys, ∃ z ∈ zs, y = .str z) → ∃ ws : List Str, ys = ws.map V.str ∧ ∀ w ∈ ws, w ∈ zs := by
        intro ys
        induction ys with
        | nil => intro _; exact ⟨[], rfl, fun w hw => by simp at hw⟩
        | cons y r ih =>
          intro h
          obtain ⟨z, hz, rfl⟩ := h y List.mem_cons_self
          obtain ⟨ws, a, b⟩ := ih fun y hy => h y (List.mem_cons_of_mem _ hy)
          refine ⟨z :: ws, by rw [a]; rfl, fun w hw => ?_⟩
          rcases List.mem_cons.mp hw with q | q
          · rw [q]; exact hz
          · exact b w q
      refine this ys fun y hy => ?_
      obtain ⟨i, hi⟩ := List.mem_iff_getElem?.mp hy
      exact hr i y hi
    subst hw1
    rw [List.length_map] at hl2
    exact k ws (by omega) hw2 p H1 hp e1 h1
end
end Z

set_option Elab.async false
set_option linter.all false
set_option autoImplicit false
set_option maxRecDepth 100000
set_option maxHeartbeats 4000000
/-! ev: what an expression comes to, by its form -/
local macro_rules | `(tactic| k_places) => `(tactic| (repeat' (first
  | (with_reducible exact ev_c)
  | (with_reducible exact ev_var rfl)
  | (with_reducible refine ev_chainLL ?_ ?_ ?_)
  | (with_reducible refine ev_chainLt ?_ ?_ ?_)
  | (with_reducible refine ev_op ?_ ?_ ?_)
  | (with_reducible refine ev_neg ?_)
  | (with_reducible refine et_test ?_)
  | (with_reducible refine et_B ?_)
  | (with_reducible refine et_not ?_)
  | (with_reducible refine et_and ?_ (fun _ => ?_))
  | (with_reducible refine et_or ?_ (fun _ => ?_))
  | (with_reducible refine ev_andV ?_ (fun _ => ?_))
  | (with_reducible refine ev_orV ?_ (fun _ => ?_))
  | (with_reducible refine ev_notV ?_)
  | (with_reducible exact rv_addI)
  | (with_reducible exact rv_subI)
  | (with_reducible exact rv_lt)
  | (with_reducible exact rv_le)
  | (with_reducible exact rv_gt)
  | (with_reducible exact rv_ge)
  | (with_reducible exact rv_isB)
  | (with_reducible exact rv_isnB)
  | (with_reducible exact rv_isN)
  | (with_reducible exact rv_isnN)
  | (with_reducible exact rv_eqS rfl)
  | (with_reducible exact rv_neS rfl)
  | (with_reducible exact rv_inStr)
  | (with_reducible exact rv_ninStr)
  | (with_reducible exact rv_mod (by first | decide | omega | assumption))
  | (with_reducible exact rv_div (by first | decide | omega | assumption))
  | (with_reducible exact rv_pow (by decide))
  | (with_reducible refine ed_i ?_; done)
  | (with_reducible exact ea_nil)
  | (with_reducible refine ea_cons ?_ ?_)
  | (with_reducible exact eds_nil)
  | (with_reducible refine eds_cons ?_ ?_)
  | (with_reducible exact ed_dnew)
  | (with_reducible refine ed_lst ?_ (by simp only [List.length_cons, List.length_nil]; omega))
  | (with_reducible refine ed_tup ?_ (by simp only [List.length_cons, List.length_nil]; omega)))))
namespace Z
open PySem PySem.Spec PyProof.Rows L2 Evl NdefX LamX
/-! ### what the laws of rules do alike -/
theorem sqL_xb {K : PySem.W.Frag} {T : List (Addr × Str)} {H H' : Hp} {a : Addr} {xs : List V} (x : XB T [] H H') (h : SqL K H a xs) : SqL K H' a xs := by
  rcases h with (h | ⟨o, h⟩) | h
  · exact .inl (.inl (x.k _ _ h (by simp) fun _ z => nomatch z))
  · exact .inl (.inr ⟨o, x.i _ _ h True.intro⟩)
  · exact .inr h
/-- something new is written on -/
theorem XB.newF {T : List (Addr × Str)} {H H1 H2 : Hp} {a : Addr} (x : XB T [] H H1) (y : XB T [a] H1 H2) (h : H a = none) : XB T [] H H2 :=
  ⟨fun b o e n t => y.k b o (x.k b o e n t) (by simpa using (ne_of_none e h)) t, x.i.trans y.i, fun b q => x.n b (y.n b q), fun t => y.t (x.t t)⟩
theorem XB.lst {T : List (Addr × Str)} {H H' : Hp} {a : Addr} {xs : List V} (x : XB T [] H H') (h : H a = some (.lst xs)) : H' a = some (.lst xs) := x.k _ _ h (by simp) fun _ z => nomatch z
/-- a comprehension over a new list, its items standing whatever lists are changed -/
def Nl (H H' : Hp) : Prop := ∀ a o, H a = some o → (∀ xs, o ≠ .lst xs) → H' a = some o
section
variable {K : PySem.W.Frag} {σ σ2 : L2.St} {H H' : Hp} {te tl ta tb tr ts to : TE} {D : Ends} {tz : TS} {R : Nat → V → Hp → Prop} {Q : VK} {E : L2.St → XK}
theorem cwR_turn2 {Dl : Addr} {i : Nat} (hR : ∀ i v H H', R i v H → Nl H H' → R i v H') (p : CwR R H Dl i H') (hi : i < 50000) (he : EvR te σ2 H (R i)) :
    te σ2 H' fun y H4 => ∃ acc, H4 Dl = some (.lst acc) ∧ acc.length < sizeLine ∧ CwR R H Dl (i + 1) (L2.upd H4 Dl (.lst (acc ++ [y]))) := by
  obtain ⟨p1, p2, vs, p3, p4, p5⟩ := p
  refine he H' p2 _ fun v H4 e4 r => ⟨vs, e4 Dl _ p3, sz_lt (by omega), p1, Ex.mut (p2.trans e4) p1, vs ++ [v], upd_same, by rw [List.length_append, p4]; rfl, fun j w hj => ?_⟩
  have im : Nl H4 (L2.upd H4 Dl (.lst (vs ++ [v]))) := fun a o e n => (upd_ne fun z => by rw [z, e4 _ _ p3] at e; exact n _ (Option.some.inj e).symm).trans e
  by_cases hl : j < vs.length
  · rw [List.getElem?_append_left hl] at hj
    exact hR _ _ _ _ (hR _ _ _ _ (p5 j w hj) fun a o e _ => e4 a o e) im
  · rw [List.getElem?_append_right (by omega)] at hj
    have e : j = vs.length := by
      have := (List.getElem?_eq_some_iff.mp hj).1
      simp at this
      omega
    subst e
    rw [Nat.sub_self] at hj
    cases hj
    rw [p4]
    exact hR _ _ _ _ r im
theorem er_lcNL {xs : List V} {j : Nat} {ls : List Nat} (hR : ∀ i v H H', R i v H → Nl H H' → R i v H') (h : EvL tl σ H xs) (hz : xs.length ≤ 40000) (hw : ∀ x, wipe ((wipe σ ls).set j (some x)) ls = wipe σ ls)
    (he : ∀ (i : Nat) (x : V) H1, Ex H H1 → xs[i]? = some x → EvR te ((wipe σ ls).set j (some x)) H1 (R i))
    (k : ∀ p ys H1, H p = none → Ex H H1 → H1 p = some (.lst ys) → ys.length = xs.length → (∀ i y, ys[i]? = some y → R i y H1) → Q (.ref p) H1) : tLc (iList K tl) (gName j) tYes te ls σ H Q :=
  h H (Ex.refl H) _ fun a H1 _ e1 h1 => ⟨a, rfl, ⟨xs, SqL.of h1⟩, fun Dl hD =>
  lc_list (xs := xs) (CwR R H1 Dl) ⟨hD, Ex.new hD, [], upd_same, rfl, fun j v hj => by simp at hj⟩ (fun i H' _ p => SqL.of (p.2.1 _ _ h1)) (fun i x H' hi p => ⟨hw x, cwR_turn2 hR p (by have := (List.getElem?_eq_some_iff.mp hi).1; omega) (he i x H1 e1 hi)⟩)
  (fun H' p => by
    obtain ⟨p1, p2, vs, p3, p4, p5⟩ := p
    exact k Dl vs H' (fresh_back e1 p1) (e1.trans p2) p3 p4 p5)⟩
theorem el_slA {tl th : TO} {a : Addr} {xs : List V} {lo hi : Option Int} (h : Ev te σ H (.ref a)) (h1 : EvO tl σ H lo) (h2 : EvO th σ H hi) (hs : SqL K H a xs) : EvL (tSl (rSlA K) te tl th) σ H (cutV xs lo hi) := fun H1 e _ q =>
  h H1 e _ fun H2 e2 => h1 H2 (e.trans e2) _ fun H3 e3 => h2 H3 ((e.trans e2).trans e3) _ fun H4 e4 =>
    .inl ⟨a, xs, rfl, ex_l (((e.trans e2).trans e3).trans e4) hs, fun p hp => q p _ (fresh_back ((e2.trans e3).trans e4) hp) (((e2.trans e3).trans e4).trans (Ex.new hp)) upd_same⟩
theorem cut_l {as bs : List V} : cutV (as ++ bs) none (some (as.length : Int)) = as := by
  unfold cutV
  rw [HT.sIx_nat, show HT.sIx (as ++ bs).length 0 none = 0 from rfl, List.drop_zero, List.length_append, Nat.min_eq_left (by omega), Nat.sub_zero, List.take_left]
theorem cut_r {as bs : List V} : cutV (as ++ bs) (some (as.length : Int)) none = bs := by
  unfold cutV
  rw [HT.sIx_nat, show HT.sIx (as ++ bs).length (as ++ bs).length none = (as ++ bs).length from rfl, List.length_append, Nat.min_eq_left (by omega), List.drop_left, List.take_of_length_le (by omega)]
theorem atI_in {α : Type} {xs : List α} {i : Int} (d : α) (h0 : 0 ≤ i) (h : i < xs.length) : atI xs i = some (xs.getD i.toNat d) := by
  rw [show i = (i.toNat : Int) from (Int.toNat_of_nonneg h0).symm]
  refine atI_nat ?_
  rw [Int.toNat_natCast, List.getD_eq_getElem?_getD, List.getElem?_eq_getElem (by omega)]
  rfl
/-- names[a drawn number below so many] -/
theorem ev_name {np : Addr} {zs ts : List Str} {i : Int} (hn : H np = some (.lst ((zs ++ ts).map V.str))) (ha : Ev ta σ H (.ref np)) (hb : Ev tb σ H (.int i)) (h0 : 0 ≤ i) (h : i < zs.length) : ∃ z ∈ zs, Ev (tOp (rIxA K) ta tb) σ H (.str z) := by
  have hl : i.toNat < zs.length := by omega
  refine ⟨zs[i.toNat], List.getElem_mem hl, ev_op ha hb (rv_itL (SqL.of hn) ?_)⟩
  rw [atI_in .non h0 (by rw [List.length_map, List.length_append]; omega), List.getD_eq_getElem?_getD, List.getElem?_map, List.getElem?_append_left hl, List.getElem?_eq_getElem hl]
  rfl
theorem q_names {l : Addr} {ns : List Int} {i m : Nat} (hl : SqL K H l (ns.map V.int)) (ha : Ev ta σ H (.ref l)) (hb : Ev tb σ H (.int (m : Int))) (hm : m ≤ 26) (k : ∀ (p : Addr) (zs : List Str) (H1 : Hp), zs.length = m → zs.Nodup → (∀ z ∈ zs, isName z = true) → H p = none → Ex H H1 → H1 p = some (.lst (zs.map V.str)) → tz D (σ.set i (some (.ref p))) H1) :
    tSeq (tAsg (tCallS (sp_law_names K) E (tCons ta (tCons tb tNil))) (gName i)) tz D σ H :=
  ha H (Ex.refl H) _ fun H1 e1 => hb H1 e1 _ fun H2 e2 => ⟨l, ns, m, rfl, ex_l (e1.trans e2) hl, hm, fun zs h1 h2 h3 p H3 hp e3 h4 => k p zs H3 h1 h2 h3 (fresh_back (e1.trans e2) hp) ((e1.trans e2).trans e3) h4⟩
/-- a world with its rows -/
def WT (t1 t2 : Str) (zs : List Str) (v : V) (H : Hp) : Prop := ∃ a wd rw W R, v = .ref a ∧ H a = some (.tup [.ref wd, .ref rw]) ∧ World H wd rw [t1, t2] zs W R ∧ 1 ≤ R t1
theorem World.nl {wd rw : Addr} {tt zs : List Str} {W : Spot → Val} {R : Str → Nat} (w : World H wd rw tt zs W R) (n : ∀ a o, H a = some o → (∀ xs, o ≠ .lst xs) → (∀ ps, o ≠ .tbl ps) → H' a = some o) : World H' wd rw tt zs W R := by
  obtain ⟨kvs, a, _⟩ := w.w
  obtain ⟨rvs, b, _⟩ := w.r
  exact w.keep (fun o e => n _ _ e (fun xs z => by rw [a] at e; cases e; cases z) fun xs z => by rw [a] at e; cases e; cases z) (fun o e => n _ _ e (fun xs z => by rw [b] at e; cases e; cases z) fun xs z => by rw [b] at e; cases e; cases z) fun b xs e => n _ _ e (fun _ z => nomatch z) fun _ z => nomatch z
theorem World.xb {T : List (Addr × Str)} {wd rw : Addr} {tt zs : List Str} {W : Spot → Val} {R : Str → Nat} (w : World H wd rw tt zs W R) (x : XB T [] H H') : World H' wd rw tt zs W R := w.nl fun a o e _ t => x.k a o e (by simp) t
theorem WT.xb {T : List (Addr × Str)} {t1 t2 : Str} {zs : List Str} {v : V} (w : WT t1 t2 zs v H) (x : XB T [] H H') : WT t1 t2 zs v H' := let ⟨a, wd, rw, W, R, h1, h2, h3, h4⟩ := w; ⟨a, wd, rw, W, R, h1, x.i _ _ h2 True.intro, h3.xb x, h4⟩
theorem q_worlds {l np : Addr} {ns : List Int} {zs : List Str} {t1 t2 : Str} {fl : Int} {i j : Nat} {tf : TE} (hl : SqL K H l (ns.map V.int)) (hn : H np = some (.lst ((zs ++ [t1, t2]).map V.str))) (hz : zs.length = 6) (ht : t1 ≠ t2) (hw : ∀ x, wipe ((wipe σ [j]).set j (some x)) [j] = wipe σ [j])
    (h0 : ∀ x, ((wipe σ [j]).set j (some x))[0]? = some (some (.ref l))) (h1 : ∀ x, ((wipe σ [j]).set j (some x))[1]? = some (some (.ref np))) (h2 : ∀ x H1, Ex H H1 → Ev tf ((wipe σ [j]).set j (some x)) H1 (.int fl)) (hj : ∀ x, ((wipe σ [j]).set j (some x))[j]? = some (some x))
    (k : ∀ p v1 v2 H1, H p = none → Ex H H1 → H1 p = some (.lst [v1, v2]) → WT t1 t2 zs v1 H1 → WT t1 t2 zs v2 H1 → tz D (σ.set i (some (.ref p))) H1) :
    tSeq (tAsg (tLc (iList K (tLst (tCons (tC (.int 100)) (tCons (tC (.int 1500)) tNil)))) (gName j) tYes (tCall (sp_law_world K) [] E0 (tCons (tVar 0) (tCons (tSl (rSlA K) (tVar 1) tNoPart (tPart (tC (.int 6)))) (tCons (tSl (rSlA K) (tVar 1) (tPart (tC (.int 6))) tNoPart) (tCons tf (tCons (tVar j) tNil)))))) [j]) (gName i)) tz D σ H := by
  refine er_lcNL (K := K) (Q := fun v H1 => tz D (σ.set i (some v)) H1) (R := fun _ v H => WT t1 t2 zs v H) (fun i v H H' ⟨a, wd, rw, W, R, h1, h2, h3, h4⟩ n => ⟨a, wd, rw, W, R, h1, n _ _ h2 (fun _ z => nomatch z), h3.nl (fun a o e q _ => n a o e q), h4⟩) (el_lst (ea_cons (ev_c (v := .int 100)) (ea_cons (ev_c (v := .int 1500)) ea_nil)) (show 2 ≤ 100000 by decide)) (show 2 ≤ 40000 by decide) hw (fun a x H1 e1 hx => ?_) fun p ys H1 hp e1 h1 hlen hr => ?_
  · obtain ⟨jn, rfl, hjn⟩ : ∃ jn : Nat, x = .int (jn : Int) ∧ jn ≤ 2000 := by
      match a, hx with
      | 0, h => cases h; exact ⟨100, rfl, by decide⟩
      | 1, h => cases h; exact ⟨1500, rfl, by decide⟩
      | a + 2, h => simp at h
    intro H2 e2 Q2 q2
    have E2 := e1.trans e2
    have hn2 := E2 _ _ hn
    refine ⟨_, h0 _, el_slA (K := K) (ev_var (h1 _)) eo_none (eo_some (ev_c (v := .int 6))) (SqL.of hn2) H2 (Ex.refl H2) _ fun pz H3 _ e3 g3 => el_slA (K := K) (ev_var (h1 _)) (eo_some (ev_c (v := .int 6))) eo_none (SqL.of (e3 _ _ hn2)) H3 (Ex.refl H3) _ fun pt H4 _ e4 g4 => (h2 _ _ E2) H4 (e3.trans e4) _ fun H5 e5 => ⟨_, hj _, ?_⟩⟩
    have c1 : cutV ((zs ++ [t1, t2]).map V.str) none (some 6) = zs.map V.str := by
      have := cut_l (as := zs.map V.str) (bs := [t1, t2].map V.str)
      rw [List.length_map, hz, ← List.map_append] at this
      exact this
    have c2 : cutV ((zs ++ [t1, t2]).map V.str) (some 6) none = [.str t1, .str t2] := by
      have := cut_r (as := zs.map V.str) (bs := [t1, t2].map V.str)
      rw [List.length_map, hz, ← List.map_append] at this
      exact this
    rw [c1] at g3
    rw [c2] at g4
    exact ⟨l, pz, pt, ns, zs, t1, t2, fl, jn, rfl, ex_l (((E2.trans e3).trans e4).trans e5) hl, (e4.trans e5) _ _ g3, by omega, e5 _ _ g4, ht, hjn, fun a wd rw H' W R e6 h6 w6 r6 => q2 _ H' (((e3.trans e4).trans e5).trans e6) ⟨a, wd, rw, W, R, rfl, h6, w6, r6⟩⟩
  · obtain ⟨v1, v2, rfl⟩ : ∃ v1 v2, ys = [v1, v2] := by
      match ys, hlen with
      | [a, b], _ => exact ⟨a, b, rfl⟩
    exact k p v1 v2 H1 hp e1 h1 (hr 0 v1 rfl) (hr 1 v2 rfl)
theorem q_tab {l rw : Addr} {ns : List Int} {t1 t2 : Str} {i j : Nat} {Rw : Str → Nat} (hl : SqL K H l (ns.map V.int)) (ha : Ev ta σ H (.ref l)) (hb : Ev tb σ H (.int (j : Int))) (hr : Ev tr σ H (.ref rw)) (hs : EvL ts σ H [.str t1, .str t2]) (w : RAt H rw Rw (· ∈ [t1, t2])) (h1 : 1 ≤ Rw t1) (hj : j ≤ 2000)
    (k : ∀ t H1, t ∈ [t1, t2] → 1 ≤ Rw t → Ex H H1 → tz D (σ.set i (some (.str t))) H1) : tSeq (tAsg (tCallS (sp_law_table K) E (tCons ta (tCons tb (tCons tr (tCons ts tNil))))) (gName i)) tz D σ H :=
  ha H (Ex.refl H) _ fun H1 e1 => hb H1 e1 _ fun H2 e2 => hr H2 (e1.trans e2) _ fun H3 e3 => hs H3 ((e1.trans e2).trans e3) _ fun p H4 _ e4 h4 => ⟨l, rw, p, ns, t1, t2, j, Rw, rfl, ex_l (((e1.trans e2).trans e3).trans e4) hl, h4, w.imk ((((e1.trans e2).trans e3).trans e4) _), h1, hj, fun t mt ht H5 e5 => k t H5 mt ht ((((e1.trans e2).trans e3).trans e4).trans e5)⟩
/-- the cut of the names: the tables -/
theorem el_tabs {np : Addr} {zs : List Str} {t1 t2 : Str} (hn : H np = some (.lst ((zs ++ [t1, t2]).map V.str))) (hz : zs.length = 6) (ha : Ev ta σ H (.ref np)) : EvL (tSl (rSlA K) ta (tPart (tC (.int 6))) tNoPart) σ H [.str t1, .str t2] := by
  have := el_slA (K := K) ha (eo_some (ev_c (v := .int 6))) eo_none (SqL.of hn)
  have c2 := cut_r (as := zs.map V.str) (bs := [t1, t2].map V.str)
  rw [List.length_map, hz, ← List.map_append] at c2
  rw [show cutV ((zs ++ [t1, t2]).map V.str) (some 6) none = [.str t1, .str t2] from c2] at this
  exact this
theorem el_cols {np : Addr} {zs : List Str} {t1 t2 : Str} (hn : H np = some (.lst ((zs ++ [t1, t2]).map V.str))) (hz : zs.length = 6) (ha : Ev ta σ H (.ref np)) : EvL (tSl (rSlA K) ta tNoPart (tPart (tC (.int 6)))) σ H (zs.map V.str) := by
  have := el_slA (K := K) ha eo_none (eo_some (ev_c (v := .int 6))) (SqL.of hn)
  have c2 := cut_l (as := zs.map V.str) (bs := [t1, t2].map V.str)
  rw [List.length_map, hz, ← List.map_append] at c2
  rw [show cutV ((zs ++ [t1, t2]).map V.str) none (some 6) = zs.map V.str from c2] at this
  exact this
theorem q_gath {Tb : List (Addr × Str)} {PR : PRule} {tas : TA} {wd rw ru : Addr} {t c : Str} {p : Int} {tt zs : List Str} {W : Spot → Val} {Rw : Str → Nat} {r : Res × List Spot} {a b : Nat} (h : EvA tas σ H [.ref wd, .ref rw, .ref ru, .str t, .str c, .int p]) (hT : Tabs Tb H) (w : World H wd rw tt zs W Rw) (hz : ∀ z ∈ zs, isName z = true) (ht : ∀ t ∈ tt, isName t = true)
    (pr : ∀ H1, Ex H H1 → PR H1 ru t c p W Rw tt zs r) (hr : r.2.length ≤ 900) (k : ∀ v q xs H1, XB Tb [] H H1 → Got H H1 v r.1 → H1 q = some (.lst xs) → AtSs H1 xs (once r.2) → (∀ s ∈ once r.2, okSp s) → tz D ((σ.set a (some v)).set b (some (.ref q))) H1) :
    tSeq (tAsg (tCallS (spG Tb PR) E tas) (gTup K 2 (gCons (gName a) (gCons (gName b) gNil)))) tz D σ H :=
  h H (Ex.refl H) _ fun H1 e1 => ⟨wd, rw, ru, t, c, p, tt, zs, W, Rw, r, rfl, hT.ext fun b o e => e1 b o e, w.ex e1, hz, ht, pr H1 e1, hr, fun x v q xs H2 x2 h1 h2 h3 h4 h5 => g_two (K := K) rfl h1 (k v q xs H2 ((XB.of e1).trans x2) (h2.back fun y hy => fresh_back e1 hy) h3 h4 h5)⟩
theorem s_check {Tb : List (Addr × Str)} {H0 : Hp} {f d : Nat} {v u : V} {r : Res} {ss : List Spot} (x0 : XB Tb [] H0 H) (hf : σ[f]? = some (some v)) (hd : σ[d]? = some (some u)) (g : Got H0 H v r) (g2 : Told H u r) (ok : okRes r) (h1 : EvD to σ H (.list (ss.map dSp))) (h2 : EvD ts σ H (.list (ss.map dSp))) (oS : ∀ s ∈ ss, okSp s)
    (k : ∀ H', XB Tb [] H0 H' → D.nx σ H') :
    tSeq (tIfS (tOr (tNot (tB (tCallS (sp_law_alike K) E (tCons (tVar f) (tCons (tVar d) tNil))))) (tTest (tOp (rNeA K) to ts))) (tRet (tC (.bl false))) tNext)
      (tIfS (tTest (tOp (rEqA K) (tOp (rIxA K) (tVar d) (tC (.int 0))) (tC (.str "call")))) (tDrop (tBM K "list" rAppend (tOp (rIxA K) (tVar f) (tC (.int 1))) (tCons (tC (.int 7)) tNil))) tNext) D σ H := by
  refine q_when (b := false) (et_is (et_or (et_not (et_B (ev_callS (ea_cons (ev_var hf) (ea_cons (ev_var hd) ea_nil)) fun H1 e Q q E => ⟨v, u, r, rfl, g.told.ex e, g2.ex e, ok, fun H2 e2 => q H2 e2⟩))) fun _ => et_test (ev_neSs h1 h2 oS)) rfl) (fun hb => nomatch hb) fun _ H1 e1 => ?_
  have x1 := x0.trans (XB.of e1)
  obtain ⟨a, kk, x, rfl, a1, ek⟩ := told_parts (g2.ex e1)
  refine s_when (et_test (ev_op (ev_pt (ev_var hd) a1).1 ev_c (rv_eqS rfl))) (fun hb H2 e2 => ?_) (fun hb H2 e2 => k H2 (x1.trans (XB.of e2)))
  cases r with
  | val y =>
    rw [ek] at hb
    exact absurd hb (by show ¬ decide (V.str (kindR (.val y)) = V.str "call") = true; show ¬ decide (V.str "value" = V.str "call") = true; decide +kernel)
  | call is =>
    obtain ⟨b, p, rfl, b1, b2, b3⟩ := g
    have lis : is.length ≤ 1000 := ok
    refine s_app ((e1.trans e2) _ _ b2) (ev_pt (ev_var hf) ((e1.trans e2) _ _ b1)).2 ev_c (by rw [List.length_map]; omega) fun H3 e3 => ?_
    exact k _ ((x1.trans (XB.of (e2.trans e3))).updN b3 (((e1.trans e2).trans e3) _ _ b2) (fun z => z) fun _ z => nomatch z)
def spLawT (K : PySem.W.Frag) (Tb : List (Addr × Str)) : Sp := fun vs H Q _ => ∃ (a : Addr) (ns : List Int), vs = [.ref a] ∧ SqL K H a (ns.map V.int) ∧ ns.length ≤ 63 ∧ Tabs Tb H ∧ ∀ H', Q (.bl true) H'
theorem len_lawT {Tb : List (Addr × Str)} (vs : List V) (H : Hp) (Q : VK) (E : XK) (h : spLawT K Tb vs H Q E) : vs.length = 1 := by obtain ⟨_, _, rfl, _⟩ := h; rfl
/-- for world, rows in worlds + worlds[:1] -/
theorem s_forWorlds {Tb : List (Addr × Str)} {t1 t2 : Str} {zs : List Str} {p : Addr} {v1 v2 : V} {a b c : Nat} {tu : TS} (Sh : L2.St → Prop) (hc : σ[c]? = some (some (.ref p))) (hp : H p = some (.lst [v1, v2])) (w1 : WT t1 t2 zs v1 H) (w2 : WT t1 t2 zs v2 H) (h0 : Sh σ)
    (hs : ∀ wd rw W R σ' H', Sh σ' → XB Tb [] H H' → World H' wd rw [t1, t2] zs W R → 1 ≤ R t1 → ∀ nx bk, (∀ σ2 H2, Sh σ2 → XB Tb [] H' H2 → nx σ2 H2) → tu { D with nx := nx, ct := nx, bk := bk } ((σ'.set a (some (.ref wd))).set b (some (.ref rw))) H') (hd : ∀ σ' H', Sh σ' → XB Tb [] H H' → D.nx σ' H') :
    tFor (iList K (tOp (rAddA K) (tVar c) (tSl (rSlA K) (tVar c) tNoPart (tPart (tC (.int 1)))))) (gTup K 2 (gCons (gName a) (gCons (gName b) gNil))) tu D σ H := by
  have hcat : EvL (tOp (rAddA K) (tVar c) (tSl (rSlA K) (tVar c) tNoPart (tPart (tC (.int 1))))) σ H [v1, v2, v1] := fun H1 e1 Q q =>
    ⟨_, hc, el_slA (K := K) (ev_var hc) eo_none (eo_some (ev_c (v := .int 1))) (SqL.of (e1 _ _ hp)) H1 (Ex.refl H1) _ fun d H2 _ e2 h2 => .inr (.inr (.inl ⟨p, d, [v1, v2], _, rfl, rfl, (e1.trans e2) _ _ hp, h2, sz_of (show 2 + 1 ≤ 100000 by decide), fun y hy => q y _ (fresh_back e2 hy) (e2.trans (Ex.new hy)) upd_same⟩))⟩
  refine s_forNL hcat (fun y i σ' H' => Sh σ' ∧ XB Tb [] H H' ∧ H' y = some (.lst [v1, v2, v1])) (fun y H1 hy e1 h1 => ⟨h0, XB.of e1, h1⟩) (fun y i σ' H' _ ⟨_, _, h⟩ => SqL.of h) (fun y i x σ' H' hi ⟨sh, x', hy⟩ => ?_) fun y σ' H' ⟨sh, x', _⟩ => hd σ' H' sh x'
  have wx : WT t1 t2 zs x H' := by
    match i, hi with
    | 0, h => cases h; exact w1.xb x'
    | 1, h => cases h; exact w2.xb x'
    | 2, h => cases h; exact w1.xb x'
    | i + 3, h => simp at h
  obtain ⟨q, wd, rw, W, R, rfl, h2, w, hr⟩ := wx
  exact g_two (K := K) rfl h2 (hs wd rw W R σ' H' sh x' w hr _ _ fun σ2 H2 s2 y2 => ⟨s2, x'.trans y2, y2.lst hy⟩)
end
end Z

set_option Elab.async false
set_option linter.all false
set_option autoImplicit false
set_option maxRecDepth 100000
set_option maxHeartbeats 4000000
/-! ev: what an expression comes to, by its form -/
local macro_rules | `(tactic| k_places) => `(tactic| (repeat' (first
  | (with_reducible exact ev_c)
  | (with_reducible exact ev_var rfl)
  | (with_reducible refine ev_chainLL ?_ ?_ ?_)
  | (with_reducible refine ev_chainLt ?_ ?_ ?_)
  | (with_reducible refine ev_op ?_ ?_ ?_)
  | (with_reducible refine ev_neg ?_)
  | (with_reducible refine et_test ?_)
  | (with_reducible refine et_B ?_)
  | (with_reducible refine et_not ?_)
  | (with_reducible refine et_and ?_ (fun _ => ?_))
  | (with_reducible refine et_or ?_ (fun _ => ?_))
  | (with_reducible refine ev_andV ?_ (fun _ => ?_))
  | (with_reducible refine ev_orV ?_ (fun _ => ?_))
  | (with_reducible refine ev_notV ?_)
  | (with_reducible exact rv_addI)
  | (with_reducible exact rv_subI)
  | (with_reducible exact rv_lt)
  | (with_reducible exact rv_le)
  | (with_reducible exact rv_gt)
  | (with_reducible exact rv_ge)
  | (with_reducible exact rv_isB)
  | (with_reducible exact rv_isnB)
  | (with_reducible exact rv_isN)
  | (with_reducible exact rv_isnN)
  | (with_reducible exact rv_eqS rfl)
  | (with_reducible exact rv_neS rfl)
  | (with_reducible exact rv_inStr)
  | (with_reducible exact rv_ninStr)
  | (with_reducible exact rv_mod (by first | decide | omega | assumption))
  | (with_reducible exact rv_div (by first | decide | omega | assumption))
  | (with_reducible exact rv_pow (by decide))
  | (with_reducible refine ed_i ?_; done)
  | (with_reducible exact ea_nil)
  | (with_reducible refine ea_cons ?_ ?_)
  | (with_reducible exact eds_nil)
  | (with_reducible refine eds_cons ?_ ?_)
  | (with_reducible exact ed_dnew)
  | (with_reducible refine ed_lst ?_ (by simp only [List.length_cons, List.length_nil]; omega))
  | (with_reducible refine ed_tup ?_ (by simp only [List.length_cons, List.length_nil]; omega)))))
namespace Z
open PySem PySem.Spec PyProof.Rows L2 Evl NdefX LamX
/-! ### the rules in the laws' worlds -/
theorem hu_of {Tb : List (Addr × Str)} {tp : Addr} {q : Str} (nd : (Tb.map (·.1)).Nodup) (hm : (tp, q) ∈ Tb) : ∀ p ∈ Tb, p.1 = tp → p.2 = q := by
  induction Tb with
  | nil => simp at hm
  | cons x r ih =>
    rw [List.map_cons, List.nodup_cons] at nd
    intro p hp e
    rcases List.mem_cons.mp hm with h | h
    · rcases List.mem_cons.mp hp with z | z
      · rw [z, ← h]
      · refine absurd (List.mem_map.mpr ⟨p, z, ?_⟩) nd.1
        rw [e, ← h]
    · rcases List.mem_cons.mp hp with z | z
      · refine absurd (List.mem_map.mpr ⟨_, h, ?_⟩) nd.1
        rw [← z, e]
      · exact ih nd.2 h p z e
theorem cfn_of {P : Program} {w : PySem.World} {K : PySem.W.Frag} {mg : Str → Option Value} {base : Heap} {st : Stmt} {c x qual : Str} {f C : Addr} {fd : FuncData} {N ps : List Str} {k : Nat} {sp : Sp} (F : Fun K x qual st f fd) (S : FnScope N ps (defScope st))
    (len : ∀ vs H Q E, sp vs H Q E → vs.length = ps.length) (t : XK → TS)
    (d : ∀ (cdv : Value) (A : Around) (outer : List Env) (s : Shared) (H : Hp) (E : XK), Room k (A.deeper (envOfC qual (defScope st) s.heap.objs.size f cdv)) → PSs (cxOf (L2.CX P w) P w K mg base N qual (defScope st) f cdv A outer s H E) (defBody st) (t E))
    (r : ∀ (vs : List V) (H : Hp) (Q : VK) (E : XK), sp vs H Q E → t E { nx := fun _ H' => Q .non H', rt := Q } (L2.start N vs) H) (hb : Binds K fd ps []) (hg : mg c = some (.ref C)) (rd : PySem.W.readsIn K C (.type "type") = true)
    (fc : PySem.W.findCls K (.ref C) (.type "type") x = some (.val (.ref f))) (ga : PySem.W.specialIn K (.ref C) "__getattribute__" = some (some (.builtin "type.__getattribute__"))) (kp : PySem.W.keepIn K (.ref f) = true) : CFn P w K mg base (k + 1) C c x f ps sp :=
  ⟨⟨fd, F.okX S len fun cdv A outer s H vs Q E hr h => ⟨t E, d cdv A outer s H E hr, r vs H Q E h⟩, hb⟩, hg, rd, fc, ga, kp⟩
theorem lok_mono {P : Program} {w : PySem.World} {K : PySem.W.Frag} {mg : Str → Option Value} {base : Heap} {j k : Nat} {f : Addr} {F : LF} {ps fr : List Str} {sp : List (Option V) → Sp} (h : j ≤ k) (a : LOk P w K mg base j f F ps fr sp) : LOk P w K mg base k f F ps fr sp := ⟨a.len, fun A outer s H us vs ws Q hr => a.run A outer s H us vs ws Q (hr.mono h)⟩
theorem lamI_of {P : Program} {w : PySem.World} {K : PySem.W.Frag} {mg : Str → Option Value} {base : Heap} {k : Nat} {mk : List (Str × Addr) → Addr → LF} {nm : List (Str × NameKind)} {ps fr : List Str} {spl : List (Option V) → Sp} (h1 : ∀ cl c, (mk cl c).cl = cloFrom cl nm [] ∧ (mk cl c).c = c) (h2 : ∀ y ∈ nm, y.2 = .free → y.1 ∈ fr) (h3 : ∀ y ∈ fr, (y, NameKind.free) ∈ nm)
    (h : ∀ cl c f, LOk P w K mg base k f (mk cl c) ps fr spl) : LamI (CloAt P w K mg base k) mk nm fr spl :=
  ⟨h1, h2, h3, fun cl c f H ws sp hf hc C i => ⟨mk cl c, ps, fr, ws, spl, h cl c f, hf, by rw [(h1 cl c).2]; exact hc, by rw [(h1 cl c).1]; exact C, by rw [(h1 cl c).1]; exact i⟩⟩
theorem names8 {zs : List Str} (h : zs.length = 8) (nd : zs.Nodup) (hn : ∀ z ∈ zs, isName z = true) : ∃ ys t1 t2, zs = ys ++ [t1, t2] ∧ ys.length = 6 ∧ t1 ≠ t2 ∧ (∀ z ∈ ys, isName z = true) ∧ ∀ t ∈ [t1, t2], isName t = true := by
  obtain ⟨a, b, c, d, e, f, t1, t2, rfl⟩ : ∃ a b c d e f g h, zs = [a, b, c, d, e, f, g, h] := by
    match zs, h with
    | [a, b, c, d, e, f, g, h], _ => exact ⟨_, _, _, _, _, _, _, _, rfl⟩
  refine ⟨[a, b, c, d, e, f], t1, t2, rfl, rfl, ?_, fun z hz => hn z (List.mem_append.mpr (.inl hz) : z ∈ [a, b, c, d, e, f] ++ [t1, t2]), fun z hz => hn z (List.mem_append.mpr (.inr hz) : z ∈ [a, b, c, d, e, f] ++ [t1, t2])⟩
  rintro rfl
  simp at nd
theorem name_at {zs : List Str} {ts : List Str} {i : Int} {n : Nat} (hz : zs.length = n) (h0 : 0 ≤ i) (h : i < n) : ∃ z ∈ zs, atI ((zs ++ ts).map V.str) i = some (.str z) := by
  have hl : i.toNat < zs.length := by omega
  refine ⟨zs[i.toNat], List.getElem_mem hl, ?_⟩
  rw [atI_in .non h0 (by rw [List.length_map, List.length_append]; omega), List.getD_eq_getElem?_getD, List.getElem?_map, List.getElem?_append_left hl, List.getElem?_eq_getElem hl]
  rfl
def resN (n : Nat) : Res → Prop
  | .val x => okV x
  | .call is => is.length ≤ n
theorem turn_res {W : Spot → Val} (ok : ∀ s, okV (W s)) : ∀ ss : List Spot, resN ss.length (turn W ss).1
  | [] => Nat.le_refl 0
  | s :: r => by
    have h := turn_res ok r
    have o := ok s
    rw [turn]
    cases e : W s with
    | inr w => rw [e] at o; exact o
    | inl i =>
      dsimp only
      cases q : turn W r with
      | mk a b =>
        rw [q] at h
        cases a with
        | val x => exact h
        | call is => exact Nat.succ_le_succ h
theorem turn_okR {W : Spot → Val} (ok : ∀ s, okV (W s)) {ss : List Spot} (h : ss.length ≤ 1000) : okRes (turn W ss).1 := by
  have := turn_res ok ss
  cases q : (turn W ss).1 with
  | val x => rw [q] at this; exact this
  | call is => rw [q] at this; exact Nat.le_trans this h
section
variable {K : PySem.W.Frag} {σ : L2.St} {H H' : Hp} {te tl ta tb tr ts to : TE} {D : Ends} {tz : TS} {E : L2.St → XK} {Tb : List (Addr × Str)}
theorem q_picked {l : Addr} {ns : List Int} {zs : List Str} {i j : Nat} {x : Int} (hx : x = (j : Int)) (hl : SqL K H l (ns.map V.int)) (ha : Ev ta σ H (.ref l)) (hb : Ev tb σ H (.int x)) (hs : EvL ts σ H (zs.map V.str)) (h1 : 1 ≤ zs.length) (h2 : zs.length ≤ 1000) (hj : j ≤ 90000)
    (k : ∀ (p : Addr) (ws : List Str) (H1 : Hp), ws.length ≤ 6 → (∀ w ∈ ws, w ∈ zs) → H p = none → Ex H H1 → H1 p = some (.lst (ws.map V.str)) → tz D (σ.set i (some (.ref p))) H1) :
    tSeq (tAsg (tCallS (sp_law_picked K) E (tCons ta (tCons tb (tCons ts tNil)))) (gName i)) tz D σ H := by
  subst hx
  exact ha H (Ex.refl H) _ fun H1 e1 => hb H1 e1 _ fun H2 e2 => hs H2 (e1.trans e2) _ fun p H3 _ e3 h3 => ⟨l, p, ns, zs, j, rfl, ex_l ((e1.trans e2).trans e3) hl, h3, h1, h2, hj, fun ws w1 w2 q H4 hq e4 h4 => k q ws H4 w1 w2 (fresh_back ((e1.trans e2).trans e3) hq) (((e1.trans e2).trans e3).trans e4) h4⟩
/-- due, seen = _law_in_turn(world, spots) -/
theorem q_inTurn {wd : Addr} {ss : List Spot} {W : Spot → Val} {Dom : Spot → Prop} {a b : Nat} (ha : Ev ta σ H (.ref wd)) (hs : EvSs ts σ H ss) (w : WAt H wd W Dom) (hd : ∀ s ∈ ss, Dom s ∧ okSp s) (ok : ∀ s, okV (W s)) (hl : ss.length ≤ 100)
    (k : ∀ u q ys H1, Ex H H1 → Told H1 u (turn W ss).1 → H1 q = some (.lst ys) → AtSs H1 ys (once (turn W ss).2) → tz D ((σ.set a (some u)).set b (some (.ref q))) H1) :
    tSeq (tAsg (tCallS (sp_law_in_turn K) E (tCons ta (tCons ts tNil))) (gTup K 2 (gCons (gName a) (gCons (gName b) gNil)))) tz D σ H :=
  ha H (Ex.refl H) _ fun H1 e1 => hs H1 e1 _ fun p xs H2 _ e2 h2 s2 => ⟨wd, p, xs, ss, W, Dom, rfl, w.imk ((e1.trans e2) _) (.of (e1.trans e2)), h2, s2, hd, ok, hl, fun x u q ys H3 e3 h3 t3 h4 s4 => g_two (K := K) rfl h3 (k u q ys H3 ((e1.trans e2).trans e3) t3 h4 s4)⟩
/-- an object is there, and what its class does at the outset is done -/
theorem xb_made {C x dx : Addr} {H : Hp} {P : Hp → Prop} {Q : VK} (h1 : H x = none) (h2 : H dx = none) (h3 : dx ≠ x) (k : ∀ H', XB Tb [] H H' → P H' → Q .non H') : Made (upd (upd H dx (.own x)) x (.ins C dx [])) x Q P := fun H' xb p => by
  have e1 : Ex H (upd H dx (.own x)) := Ex.new h2
  refine k H' ⟨fun b o e n t => ?_, fun b o e i => ?_, fun b q => ?_, fun t => ?_⟩ p
  · exact (xb Tb).k b o ((upd_ne (ne_of_none e h1)).trans (e1 _ _ e)) (by simpa using ne_of_none e h1) t
  · exact (xb Tb).i b o ((upd_ne (ne_of_none e h1)).trans (e1 _ _ e)) i
  · exact fresh_back e1 (upd_no ((xb Tb).n b q))
  · exact (xb Tb).t ((t.ext fun b o e => (upd_ne (ne_of_none e h1)).trans (e1 _ _ e)))
end
/-! ### what the rules' objects hold -/
def Pl (R : Str → Nat) (ts : List Str) (t : Str) (p : Int) : Prop := t ∈ ts ∧ ∃ i : Nat, p = (i : Int) ∧ i < R t
theorem Pl.dom {R : Str → Nat} {ts zs : List Str} {t z : Str} {p : Int} (h : Pl R ts t p) (hz : z ∈ zs) : domW ts zs R (t, z, p) := ⟨h.1, hz, h.2⟩
def PRCells (A : Cn → Addr) : PRule := fun H ru t _ p W R ts zs r => ∃ (np dx : Addr) (v : V) (ws : List Str), H ru = some (.ins (A .Cells) dx [("function", v), ("names", .ref np)]) ∧ H np = some (.lst (ws.map V.str)) ∧ ws.length ≤ 6 ∧ (∀ w ∈ ws, w ∈ zs) ∧ Pl R ts t p ∧ r = gCells W t ws p
def PRAbove (A : Cn → Addr) : PRule := fun H ru t c p W R ts zs r => ∃ (np dx : Addr) (v : V) (ws : List Str) (first : Int), H ru = some (.ins (A .Above) dx [("function", v), ("names", .ref np), ("first", .int first)]) ∧ H np = some (.lst (ws.map V.str)) ∧ ws.length ≤ 6 ∧ (∀ w ∈ ws, w ∈ zs) ∧ c ∈ zs ∧ Pl R ts t p ∧ r = gAbove W first t c ws p
def PRGroup (A : Cn → Addr) : PRule := fun H ru t _ p W R ts zs r => ∃ (dx : Addr) (v : V) (y z : Str), H ru = some (.ins (A .Group) dx [("function", v), ("key", .str y), ("name", .str z)]) ∧ y ∈ zs ∧ z ∈ zs ∧ Pl R ts t p ∧ r = gGroup W R t y z p
def PRLookup (A : Cn → Addr) : PRule := fun H ru t _ p W R ts zs r => ∃ (np dx : Addr) (v : V) (x y z : Str) (ws : List Str), H ru = some (.ins (A .Lookup) dx [("function", v), ("key", .str x), ("other", .str y), ("theirs", .str z), ("names", .ref np)]) ∧ H np = some (.lst (ws.map V.str)) ∧ ws.length ≤ 6 ∧ (∀ w ∈ ws, w ∈ zs) ∧ x ∈ zs ∧ y ∈ ts ∧ z ∈ zs ∧ Pl R ts t p ∧ r = gLookup W R t x y z ws p
def PRMend (A : Cn → Addr) : PRule := fun H ru t _ p W R ts zs r => ∃ (dx : Addr) (v : V) (z : Str), H ru = some (.ins (A .Mend) dx [("function", v), ("name", .str z)]) ∧ z ∈ zs ∧ Pl R ts t p ∧ r = gMend W t z p
section
variable {K : PySem.W.Frag} {A : Cn → Addr} {CA : Hp → Addr → Sp → Prop} {Tb : List (Addr × Str)} {H H3 : Hp} {F : List Addr}
theorem offF {a : Addr} {xs : List V} (hF : ∀ a ∈ F, H a = none ∨ (∃ kvs, H a = some (.dT kvs)) ∨ ∃ kvs, H a = some (.dK kvs)) (h : H a = some (.lst xs)) : a ∉ F := fun z => by
  rcases hF a z with q | ⟨_, q⟩ | ⟨_, q⟩ <;> rw [h] at q <;> cases q
theorem prCells : PROk CA Tb (PRCells A) (A .Cells) (sp_Cells_gather K A CA) where
  ins := fun ⟨_, _, _, _, h, _⟩ => ⟨_, _, h, rfl⟩
  run := fun ⟨np, dx, v, ws, h1, h2, h3, h4, h5, hr⟩ H3 J F f m Q x _ I k => by
    subst hr
    exact ⟨_, f, m, np, ws, _, _, _, Tb, [], J, _, _, _, _, F, [], rfl, ⟨dx, _, x.k _ _ h1 (by simp) (fun _ z => nomatch z), rfl⟩, x.lst h2, h3, I, fun z hz => h5.dom (h4 z hz), k⟩
theorem prAbove : PROk CA Tb (PRAbove A) (A .Above) (sp_Above_gather K A CA) where
  ins := fun ⟨_, _, _, _, _, h, _⟩ => ⟨_, _, h, rfl⟩
  run := fun ⟨np, dx, v, ws, first, h1, h2, h3, h4, hc, h5, hr⟩ H3 J F f m Q x _ I k => by
    subst hr
    have h1' := x.k _ _ h1 (by simp) (fun _ z => nomatch z)
    refine ⟨_, f, m, np, ws, _, _, _, first, Tb, [], J, _, _, _, _, F, [], rfl, ⟨dx, _, h1', rfl⟩, ⟨dx, _, h1', rfl⟩, x.lst h2, h3, I, fun z hz => h5.dom (h4 z hz), fun hp => ?_, k⟩
    obtain ⟨ht, i, rfl, hi⟩ := h5
    exact ⟨ht, hc, i - 1, by show (i : Int) - 1 = _; omega, Nat.lt_of_le_of_lt (Nat.sub_le i 1) hi⟩
theorem prGroup : PROk CA Tb (PRGroup A) (A .Group) (sp_Group_gather K A CA) where
  ins := fun ⟨_, _, _, _, h, _⟩ => ⟨_, _, h, rfl⟩
  run := fun ⟨dx, v, y, z, h1, hy, hz, h5, hr⟩ H3 J F f m Q x _ I k => by
    subst hr
    have h1' := x.k _ _ h1 (by simp) (fun _ z => nomatch z)
    exact ⟨_, f, m, _, _, y, z, _, Tb, [], J, _, _, _, _, F, [], rfl, ⟨dx, _, h1', rfl⟩, ⟨dx, _, h1', rfl⟩, I, h5.1, h5.dom hy, fun i hi => ⟨⟨h5.1, hy, i, rfl, hi⟩, ⟨h5.1, hz, i, rfl, hi⟩⟩, k⟩
theorem prLookup : PROk CA Tb (PRLookup A) (A .Lookup) (sp_Lookup_gather K A CA) where
  ins := fun ⟨_, _, _, _, _, _, _, h, _⟩ => ⟨_, _, h, rfl⟩
  run := fun ⟨np, dx, v, y, o, z, ws, h1, h2, h3, h4, hy, ho, hz, h5, hr⟩ H3 J F f m Q x hF I k => by
    subst hr
    have h1' := x.k _ _ h1 (by simp) (fun _ z => nomatch z)
    exact ⟨_, f, m, np, ws, _, _, y, o, z, _, Tb, [], J, _, _, _, _, F, [], rfl, ⟨dx, _, h1', rfl⟩, ⟨dx, _, h1', rfl⟩, ⟨dx, _, h1', rfl⟩, ⟨dx, _, h1', rfl⟩, offF hF h2, x.lst h2, h3, I, ho, h5.dom hy, fun i hi => ⟨⟨ho, hz, i, rfl, hi⟩, fun w hw => ⟨ho, h4 w hw, i, rfl, hi⟩⟩, k⟩
theorem prMend : PROk CA Tb (PRMend A) (A .Mend) (sp_Mend_gather K A CA) where
  ins := fun ⟨_, _, _, h, _⟩ => ⟨_, _, h, rfl⟩
  run := fun ⟨dx, v, z, h1, hz, h5, hr⟩ H3 J F f m Q x _ I k => by
    subst hr
    exact ⟨_, f, m, _, _, z, _, Tb, [], J, _, _, _, _, F, [], rfl, ⟨dx, _, x.k _ _ h1 (by simp) (fun _ z => nomatch z), rfl⟩, I, h5.dom hz, k⟩
end
end Z

set_option Elab.async false
set_option linter.all false
set_option autoImplicit false
set_option maxRecDepth 100000
set_option maxHeartbeats 4000000
/-! ev: what an expression comes to, by its form -/
local macro_rules | `(tactic| k_places) => `(tactic| (repeat' (first
  | (with_reducible exact ev_c)
  | (with_reducible exact ev_var rfl)
  | (with_reducible refine ev_chainLL ?_ ?_ ?_)
  | (with_reducible refine ev_chainLt ?_ ?_ ?_)
  | (with_reducible refine ev_op ?_ ?_ ?_)
  | (with_reducible refine ev_neg ?_)
  | (with_reducible refine et_test ?_)
  | (with_reducible refine et_B ?_)
  | (with_reducible refine et_not ?_)
  | (with_reducible refine et_and ?_ (fun _ => ?_))
  | (with_reducible refine et_or ?_ (fun _ => ?_))
  | (with_reducible refine ev_andV ?_ (fun _ => ?_))
  | (with_reducible refine ev_orV ?_ (fun _ => ?_))
  | (with_reducible refine ev_notV ?_)
  | (with_reducible exact rv_addI)
  | (with_reducible exact rv_subI)
  | (with_reducible exact rv_lt)
  | (with_reducible exact rv_le)
  | (with_reducible exact rv_gt)
  | (with_reducible exact rv_ge)
  | (with_reducible exact rv_isB)
  | (with_reducible exact rv_isnB)
  | (with_reducible exact rv_isN)
  | (with_reducible exact rv_isnN)
  | (with_reducible exact rv_eqS rfl)
  | (with_reducible exact rv_neS rfl)
  | (with_reducible exact rv_inStr)
  | (with_reducible exact rv_ninStr)
  | (with_reducible exact rv_mod (by first | decide | omega | assumption))
  | (with_reducible exact rv_div (by first | decide | omega | assumption))
  | (with_reducible exact rv_pow (by decide))
  | (with_reducible refine ed_i ?_; done)
  | (with_reducible exact ea_nil)
  | (with_reducible refine ea_cons ?_ ?_)
  | (with_reducible exact eds_nil)
  | (with_reducible refine eds_cons ?_ ?_)
  | (with_reducible exact ed_dnew)
  | (with_reducible refine ed_lst ?_ (by simp only [List.length_cons, List.length_nil]; omega))
  | (with_reducible refine ed_tup ?_ (by simp only [List.length_cons, List.length_nil]; omega)))))
namespace Z
open PySem PySem.Spec PyProof.Rows L2 Evl NdefX LamX
/-! ### what the laws of rules expect -/
theorem set_self {σ : L2.St} {i : Nat} {v : Option V} (h : σ[i]? = some v) : σ.set i v = σ := by
  apply List.ext_getElem?
  intro j
  by_cases e : i = j
  · subst e
    rw [List.getElem?_set_self (List.getElem?_eq_some_iff.mp h).1, h]
  · rw [List.getElem?_set_ne e]
theorem pre_nilL {sp : List Spot} {r : Res × List Spot} : pre [] sp r = (r.1, sp ++ r.2) := by
  obtain ⟨a, b⟩ := r
  cases a <;> simp [pre]
theorem tab_at {zs : List Str} {t1 t2 : Str} {d : Int} (hz : zs.length = 6) (h0 : 0 ≤ d) (h : d < 2) : ∃ o ∈ [t1, t2], atI ((zs ++ [t1, t2]).map V.str) (6 + d) = some (.str o) := by
  obtain ⟨a, b, c, e, f, g, rfl⟩ : ∃ a b c d e f, zs = [a, b, c, d, e, f] := by
    match zs, hz with
    | [a, b, c, d, e, f], _ => exact ⟨_, _, _, _, _, _, rfl⟩
  obtain rfl | rfl : d = 0 ∨ d = 1 := by omega
  · exact ⟨t1, by simp, rfl⟩
  · exact ⟨t2, by simp, rfl⟩
theorem once_all {l : List Spot} {s : Spot} (h : s ∈ l) : s ∈ once l := by
  have keep : ∀ (l : List Spot) (acc : List Spot), s ∈ acc → s ∈ l.foldl (fun acc s => if s ∈ acc then acc else acc ++ [s]) acc := by
    intro l
    induction l with
    | nil => intro acc h; exact h
    | cons x r ih =>
      intro acc h
      refine ih _ ?_
      dsimp only
      split
      · exact h
      · exact List.mem_append.mpr (.inl h)
  have : ∀ (l : List Spot) (acc : List Spot), s ∈ l → s ∈ l.foldl (fun acc s => if s ∈ acc then acc else acc ++ [s]) acc := by
    intro l
    induction l with
    | nil => intro acc h; cases h
    | cons x r ih =>
      intro acc h
      rcases List.mem_cons.mp h with z | z
      · subst z
        refine keep r _ ?_
        dsimp only
        split
        · assumption
        · exact List.mem_append.mpr (.inr List.mem_cons_self)
      · exact ih _ z
  exact this l [] h
theorem once_app (a : List Spot) : ∀ b : List Spot, once (a ++ once b) = once (a ++ b) := by
  suffices h : ∀ n (b : List Spot), b.length = n → once (a ++ once b) = once (a ++ b) from fun b => h _ b rfl
  intro n
  induction n with
  | zero => intro b hb; rw [List.eq_nil_of_length_eq_zero hb]; rfl
  | succ n ih =>
    intro b hb
    obtain ⟨c, s, rfl⟩ : ∃ c s, b = c ++ [s] := ⟨b.dropLast, b.getLast (by intro z; rw [z] at hb; cases hb), (List.dropLast_concat_getLast _).symm⟩
    have hc : c.length = n := by rw [List.length_append] at hb; simpa using hb
    rw [once_snoc, ← List.append_assoc, once_snoc]
    by_cases h : s ∈ once c
    · rw [if_pos h, ih c hc, if_pos (once_all (List.mem_append.mpr (.inr (once_mem h))))]
    · rw [if_neg h, ← List.append_assoc, once_snoc, ih c hc]
section
variable {K : PySem.W.Frag} {σ : L2.St} {H H' : Hp} {te tl ta tb tr ts to t1 t2 t3 : TE} {D : Ends} {tz : TS} {E : L2.St → XK} {Tb : List (Addr × Str)}
theorem ev_worldT {wd : Addr} {W : Spot → Val} {Dom : Spot → Prop} {s : Spot} (h : WAt H wd W Dom) (hd : Dom s) (ha : Ev ta σ H (.ref wd)) (h1 : Ev t1 σ H (.str s.1)) (h2 : Ev t2 σ H (.str s.2.1)) (h3 : Ev t3 σ H (.int s.2.2)) :
    ∃ u, Ev (tOp (rIxA K) ta (tTup (tCons t1 (tCons t2 (tCons t3 tNil))))) σ H u ∧ Vt H u (dV (W s)) := by
  obtain ⟨kvs, a1, a2⟩ := h
  obtain ⟨u, b1, b2⟩ := a2 s hd
  refine ⟨u, ev_opU ha (eu_tup (ea_cons h1 (ea_cons h2 (ea_cons h3 ea_nil))) (show 3 ≤ 100000 by decide)) fun p H3 g3 e3 H4 e4 Q4 q4 => .inr ⟨wd, u, rfl, ?_, q4 H4 (Ex.refl H4)⟩, b2⟩
  rw [← b1]
  exact DGet.t (k := keyS s) (e4 _ _ (e3 _ _ a1)) (e4 _ _ g3)
/-- names[_law_drawn(script, x, 6)] -/
theorem ev_nameAt {l np : Addr} {ns : List Int} {zs ts' : List Str} {j : Nat} {x n : Int} (hx : x = (j : Int)) (hl : SqL K H l (ns.map V.int)) (hn : H np = some (.lst ((zs ++ ts').map V.str))) (hz : (zs.length : Int) = n) (h0 : 0 < n) (ha : Ev ta σ H (.ref np)) (hr : Ev tr σ H (.ref l)) (hb : Ev tb σ H (.int x)) (hj : j ≤ 100000) :
    ∃ z ∈ zs, Ev (tOp (rIxA K) ta (tCallS (sp_law_drawn K) E (tCons tr (tCons tb (tCons (tC (.int n)) tNil))))) σ H (.str z) := by
  subst hx
  have b := drawn_bd ns j (size := n) h0
  obtain ⟨z, h, ix⟩ := name_at (zs := zs) (ts := ts') (n := zs.length) rfl b.1 (by omega)
  exact ⟨z, h, ev_op ha (ev_drawn hl hr hb ev_c hj h0) (rv_itL (SqL.of hn) ix)⟩
theorem q_nameAt {l np : Addr} {ns : List Int} {zs ts' : List Str} {i j : Nat} {x n : Int} (hx : x = (j : Int)) (hl : SqL K H l (ns.map V.int)) (hn : H np = some (.lst ((zs ++ ts').map V.str))) (hz : (zs.length : Int) = n) (h0 : 0 < n) (ha : Ev ta σ H (.ref np)) (hr : Ev tr σ H (.ref l)) (hb : Ev tb σ H (.int x)) (hj : j ≤ 100000)
    (k : ∀ z H1, z ∈ zs → Ex H H1 → tz D (σ.set i (some (.str z))) H1) : tSeq (tAsg (tOp (rIxA K) ta (tCallS (sp_law_drawn K) E (tCons tr (tCons tb (tCons (tC (.int n)) tNil))))) (gName i)) tz D σ H := by
  obtain ⟨z, h, ev⟩ := ev_nameAt (K := K) (E := E) (ts' := ts') hx hl hn hz h0 ha hr hb hj
  exact q_asg ev fun H1 e => k z H1 h e
/-- ("call", a new list) -/
theorem x_dueL {w : Str} {xs : List V} {Q : VK} (h : EvL tl σ H xs) (k : ∀ a p H1, Ex H H1 → H p = none → H1 a = some (.tup [.str w, .ref p]) → H1 p = some (.lst xs) → Q (.ref a) H1) : tTup (tCons (tC (.str w)) (tCons tl tNil)) σ H Q :=
  h H (Ex.refl H) _ fun p H1 hp e1 h1 => ⟨sz_of (show 2 ≤ 100000 by decide), fun a ha => k a p _ (e1.trans (Ex.new ha)) hp upd_same ((Ex.new ha) _ _ h1)⟩
theorem s_dueL {w : Str} {xs : List V} {i : Nat} (h : EvL tl σ H xs) (k : ∀ a p H1, Ex H H1 → H p = none → H1 a = some (.tup [.str w, .ref p]) → H1 p = some (.lst xs) → D.nx (σ.set i (some (.ref a))) H1) : tAsg (tTup (tCons (tC (.str w)) (tCons tl tNil))) (gName i) D σ H :=
  x_dueL (Q := fun v H1 => D.nx (σ.set i (some v)) H1) h k
/-- a list of one spot, written out -/
theorem ed_spot1 {s : Spot} (h1 : Ev t1 σ H (.str s.1)) (h2 : Ev t2 σ H (.str s.2.1)) (h3 : Ev t3 σ H (.int s.2.2)) : EvD (tLst (tCons (tTup (tCons t1 (tCons t2 (tCons t3 tNil)))) tNil)) σ H (.list ([s].map dSp)) :=
  ed_lst (eds_cons (ed_tup (eds_cons (ed_ev h1 (.str _)) (eds_cons (ed_ev h2 (.str _)) (eds_cons (ed_ev h3 (.int _)) eds_nil))) (show 3 ≤ 100000 by decide)) eds_nil) (show 1 ≤ 100000 by decide)
theorem mend_ok {W : Spot → Val} (ok : ∀ s, okV (W s)) {t z : Str} {p : Int} : okRes (gMend W t z p).1 := by
  have o := ok (t, z, p)
  unfold gMend
  cases e : W (t, z, p) with
  | inr w => exact Nat.zero_le 1000
  | inl i => rw [e] at o; exact o
/-- if isinstance(due[1], tuple): due = ("call", []) -/
theorem q_ifMend {W : Spot → Val} {t z : Str} {p : Int} {a : Addr} {i : Nat} {u : V} (ha : H a = some (.tup [.str "value", u])) (vu : Vt H u (dV (W (t, z, p)))) (hi : σ[i]? = some (some (.ref a)))
    (k : ∀ d H1, Ex H H1 → Told H1 d (gMend W t z p).1 → tz D (σ.set i (some d)) H1) :
    tSeq (tIfS (tB (tCB (rIsiA K) (tCons (tOp (rIxA K) (tVar i) (tC (.int 1))) (tCons (tC (.ty "tuple")) tNil)))) (tAsg (tTup (tCons (tC (.str "call")) (tCons (tLst tNil) tNil))) (gName i)) tNext) tz D σ H := by
  unfold gMend at k
  cases e : W (t, z, p) with
  | inr w =>
    rw [e] at vu k
    exact q_if (b := true) (et_is (et_B (ev_isi (ev_pt (ev_var hi) ha).2 (vt_ty vu))) rfl) (fun _ H2 e2 => s_dueL (el_lst ea_nil (by decide)) fun b q H3 e3 _ h3 h4 => k _ H3 (e2.trans e3) ⟨b, q, rfl, h3, h4⟩) (fun hb => nomatch hb)
  | inl n =>
    rw [e] at vu k
    refine q_when (b := false) (et_is (et_B (ev_isi (ev_pt (ev_var hi) ha).2 (vt_ty vu))) rfl) (fun hb => nomatch hb) fun _ H2 e2 => ?_
    have := k (.ref a) H2 e2 ⟨a, u, rfl, e2 _ _ ha, vu.tup (.of_ex e2)⟩
    rwa [set_self hi] at this
/-- a new list behind which one stands that is there already -/
theorem el_catR {xs ys : List V} {q : Addr} (h1 : EvL ta σ H xs) (h2 : Ev tb σ H (.ref q)) (hq : H q = some (.lst ys)) (hl : xs.length + ys.length ≤ 100000) : EvL (tOp (rAddA K) ta tb) σ H (xs ++ ys) := fun H1 e Q k =>
  h1 H1 e _ fun p H2 _ e2 hp => h2 H2 (e.trans e2) _ fun H3 e3 => .inr (.inr (.inl ⟨p, q, xs, ys, rfl, rfl, e3 _ _ hp, ((e.trans e2).trans e3) _ _ hq, sz_of hl, fun u hu => k u _ (fresh_back (e2.trans e3) hu) ((e2.trans e3).trans (Ex.new hu)) upd_same⟩))
theorem x_op {r : R2} {Q : VK} (h : ta σ H fun x H1 => tb σ H1 fun y H2 => r x y H2 Q) : tOp r ta tb σ H Q := h
theorem x_lst1 {Q : VK} (h : ta σ H fun x H1 => [x].length ≤ sizeLine ∧ ∀ p, H1 p = none → Q (.ref p) (upd H1 p (.lst [x]))) : tLst (tCons ta tNil) σ H Q := h
/-- [a spot] + spots -/
theorem x_spotCat {s : Spot} {q : Addr} {xs : List V} {i : Nat} {Q : VK} (h1 : Ev t1 σ H (.str s.1)) (h2 : Ev t2 σ H (.str s.2.1)) (h3 : Ev t3 σ H (.int s.2.2)) (hv : σ[i]? = some (some (.ref q))) (hq : H q = some (.lst xs)) (hl : xs.length ≤ 90000)
    (k : ∀ a y H1, Ex H H1 → AtS H1 a s → H1 y = some (.lst (a :: xs)) → Q (.ref y) H1) : tOp (rAddA K) (tLst (tCons (tTup (tCons t1 (tCons t2 (tCons t3 tNil)))) tNil)) (tVar i) σ H Q :=
  x_op <| x_lst1 <| eu_tup (ea_cons h1 (ea_cons h2 (ea_cons h3 ea_nil))) (show 3 ≤ 100000 by decide) H (Ex.refl H) _ fun a H1 _ e1 g1 => ⟨sz_of (show 1 ≤ 100000 by decide), fun p hp => ⟨_, hv, .inr (.inr (.inl ⟨p, q, [.ref a], xs, rfl, rfl, upd_same, (Ex.new hp) _ _ (e1 _ _ hq), sz_of (show 1 + xs.length ≤ 100000 by omega), fun y hy =>
    k (.ref a) y _ ((e1.trans (Ex.new hp)).trans (Ex.new hy)) ⟨a, rfl, (Ex.new hy) _ _ ((Ex.new hp) _ _ g1)⟩ upd_same⟩))⟩⟩
theorem q_inTurnV {wd sp : Addr} {xs : List V} {ss : List Spot} {W : Spot → Val} {Dom : Spot → Prop} {a b : Nat} (ha : Ev ta σ H (.ref wd)) (hs : Ev ts σ H (.ref sp)) (h2 : H sp = some (.lst xs)) (s2 : AtSs H xs ss) (w : WAt H wd W Dom) (hd : ∀ s ∈ ss, Dom s ∧ okSp s) (ok : ∀ s, okV (W s)) (hl : ss.length ≤ 100)
    (k : ∀ u q ys H1, Ex H H1 → Told H1 u (turn W ss).1 → H1 q = some (.lst ys) → AtSs H1 ys (once (turn W ss).2) → tz D ((σ.set a (some u)).set b (some (.ref q))) H1) :
    tSeq (tAsg (tCallS (sp_law_in_turn K) E (tCons ta (tCons ts tNil))) (gTup K 2 (gCons (gName a) (gCons (gName b) gNil)))) tz D σ H :=
  ha H (Ex.refl H) _ fun H1 e1 => hs H1 e1 _ fun H2 e2 => ⟨wd, sp, xs, ss, W, Dom, rfl, w.imk ((e1.trans e2) _) (.of (e1.trans e2)), (e1.trans e2) _ _ h2, s2.tup (.of_ex (e1.trans e2)), hd, ok, hl, fun x u q ys H3 e3 h3 t3 h4 s4 => g_two (K := K) rfl h3 (k u q ys H3 ((e1.trans e2).trans e3) t3 h4 s4)⟩
theorem cut_take {xs : List V} {i : Nat} : cutV xs none (some (i : Int)) = xs.take i := by
  unfold cutV
  rw [HT.sIx_nat, show HT.sIx xs.length 0 none = 0 from rfl, List.drop_zero, Nat.sub_zero]
  by_cases h : i ≤ xs.length
  · rw [Nat.min_eq_left h]
  · rw [Nat.min_eq_right (by omega), List.take_of_length_le (Nat.le_refl _), List.take_of_length_le (by omega)]
theorem AtSs.take {vs : List V} {ss : List Spot} (r : AtSs H vs ss) (i : Nat) : AtSs H (vs.take i) (ss.take i) := ⟨by rw [List.length_take, List.length_take, r.1], fun j s hs => by
  rw [List.getElem?_take] at hs ⊢
  split at hs
  · rename_i h
    rw [if_pos h]
    exact r.2 j s hs
  · cases hs⟩
theorem ev_ninSL {v : V} {s : Spot} {ss : List Spot} {xs : List V} (h1 : Ev ta σ H v) (r1 : AtS H v s) (h2 : EvL tb σ H xs) (r2 : AtSs H xs ss) (o1 : okSp s) (o2 : ∀ x ∈ ss, okSp x) : Ev (tOp (rNinA K) ta tb) σ H (.bl (!decide (s ∈ ss))) := fun H1 e Q q =>
  h1 H1 e _ fun H2 e2 => h2 H2 (e.trans e2) _ fun p H3 _ e3 hp => by
    have E := (e.trans e2).trans e3
    refine .inr (.inr (.inr ⟨dSp s, ss.map dSp, ((r1.tup (.of_ex E)).dt).dp (okD_dSp o1).nd, (Dt.lst hp (r2.tup (.of_ex E)).dt).dp (okD_dSps o2).nd, (okD_dSp o1).shaped, (okD_dSps o2).shaped, ?_⟩))
    rw [any_dSp]
    exact q H3 (e2.trans e3)
/-- [seen[k] for k in range(len(seen)) if seen[k] not in seen[:k]] -/
theorem es_once {q : Addr} {xs : List V} {ss : List Spot} {i j : Nat} {tas : TA} (h0 : EvA tas σ H [.int (xs.length : Int)]) (hi : ∀ x, ((wipe σ [j]).set j (some x))[i]? = some (some (.ref q))) (hj : ∀ x, ((wipe σ [j]).set j (some x))[j]? = some (some x)) (hw : ∀ x, wipe ((wipe σ [j]).set j (some x)) [j] = wipe σ [j])
    (hq : H q = some (.lst xs)) (r : AtSs H xs ss) (ok : ∀ s ∈ ss, okSp s) (hl : ss.length ≤ 1000) :
    EvSs (tLc (iRng1 tas) (gName j) (tTest (tOp (rNinA K) (tOp (rIxA K) (tVar i) (tVar j)) (tSl (rSlA K) (tVar i) tNoPart (tPart (tVar j))))) (tOp (rIxA K) (tVar i) (tVar j)) [j]) σ H (once ss) := fun H0 e Q k => by
  refine h0 H0 e _ fun H1 e1 => ⟨(xs.length : Int), rfl, by rw [r.1]; omega, by rw [r.1]; omega, fun Dl hD => ?_⟩
  have E1 := e.trans e1
  refine lc_range (lo := 0) (n := xs.length) (fun m H' => Ex H1 H' ∧ ∃ vs, H' Dl = some (.lst vs) ∧ AtSs H' vs (once (ss.take m))) ⟨Ex.new hD, [], upd_same, rfl, fun i s z => by simp [once] at z⟩ (fun m H' hm p => ?_) fun H' ⟨p1, vs, p2, p3⟩ => ?_
  · obtain ⟨p1, vs, p2, p3⟩ := p
    show wipe ((wipe σ [j]).set j (some (.int ((0 : Int) + (m : Int))))) [j] = wipe σ [j] ∧ _
    rw [Int.zero_add]
    have E2 := E1.trans p1
    have hm' : m < xs.length := hm
    obtain ⟨s, hs, as⟩ := (r.tup (.of_ex E2)).at (List.getElem?_eq_getElem hm')
    have okm : ∀ x ∈ ss.take m, okSp x := fun x hx => ok x (List.mem_of_mem_take hx)
    have ix : Ev (tOp (rIxA K) (tVar i) (tVar j)) ((wipe σ [j]).set j (some (.int (m : Int)))) H' xs[m] := ev_op (ev_var (hi _)) (ev_var (hj _)) (rv_itL (SqL.of (E2 _ _ hq)) (atI_nat (List.getElem?_eq_getElem hm')))
    have sl : EvL (tSl (rSlA K) (tVar i) tNoPart (tPart (tVar j))) ((wipe σ [j]).set j (some (.int (m : Int)))) H' (xs.take m) := by
      have := el_slA (K := K) (σ := (wipe σ [j]).set j (some (.int (m : Int)))) (H := H') (ev_var (hi _)) eo_none (eo_some (ev_var (hj _))) (SqL.of (E2 _ _ hq))
      rwa [cut_take] at this
    have tk : ss.take (m + 1) = ss.take m ++ [s] := by rw [List.take_add_one, hs]; rfl
    have lv : vs.length ≤ 1000 := by
      have := once_len (ss.take m)
      rw [List.length_take] at this
      have := p3.1
      omega
    refine ⟨hw _, et_test (ev_ninSL ix as sl ((r.tup (.of_ex E2)).take m) (ok s (List.mem_of_getElem? hs)) okm) H' (Ex.refl H') _ fun H3 e3 => ?_⟩
    by_cases hn : s ∈ once (ss.take m)
    · have hn' := once_mem hn
      rw [decide_eq_true hn']
      refine (if_neg (by decide)).mpr ⟨p1.trans e3, vs, e3 _ _ p2, ?_⟩
      rw [tk, once_snoc, if_pos hn]
      exact p3.tup (.of_ex e3)
    · have hn' : s ∉ ss.take m := fun z => hn (once_all z)
      rw [decide_eq_false hn']
      refine (if_pos rfl).mpr (ix.mono e3 H3 (Ex.refl H3) _ fun H4 e4 => ⟨vs, (e3.trans e4) _ _ p2, sz_lt (by omega), Ex.mut (p1.trans (e3.trans e4)) hD, _, upd_same, ?_⟩)
      rw [tk, once_snoc, if_neg hn]
      have tt : Tup H' (L2.upd H4 Dl (.lst (vs ++ [xs[m]]))) := ((Imk.of (e3.trans e4)).trans (Imk.upd ((e3.trans e4) _ _ p2) fun z => z)).tup
      exact (p3.tup tt).snoc (as.tup tt)
  · rw [r.1, List.take_length] at p3
    exact k Dl vs H' (fresh_back e1 hD) (e1.trans p1) p2 p3
theorem q_call2 {sp : Sp} {tas : TA} {vs : List V} {a b : Nat} (h : EvA tas σ H vs) (k : ∀ H1, Ex H H1 → sp vs H1 (fun v H2 => gTup K 2 (gCons (gName a) (gCons (gName b) gNil)) v σ H2 fun σ2 H3 => tz D σ2 H3) (E σ)) :
    tSeq (tAsg (tCallS sp E tas) (gTup K 2 (gCons (gName a) (gCons (gName b) gNil)))) tz D σ H := h H (Ex.refl H) _ k
theorem x_tupU {Q : VK} (h : ta σ H fun x H1 => tb σ H1 fun y H2 => [x, y].length ≤ sizeLine ∧ ∀ p, H2 p = none → Q (.ref p) (upd H2 p (.tup [x, y]))) : tTup (tCons ta (tCons tb tNil)) σ H Q := h
theorem x_c {v : V} {Q : VK} (h : Q v H) : tC v σ H Q := h
/-- return ((x, y), z) -/
theorem s_ret2 {x y z : V} (h1 : Ev t1 σ H x) (h2 : Ev t2 σ H y) (h3 : Ev t3 σ H z) (k : ∀ a b H1, Ex H H1 → H1 a = some (.tup [.ref b, z]) → H1 b = some (.tup [x, y]) → D.rt (.ref a) H1) : tRet (tTup (tCons (tTup (tCons t1 (tCons t2 tNil))) (tCons t3 tNil))) D σ H :=
  x_tupU (Q := D.rt) <| eu_tup (ea_cons h1 (ea_cons h2 ea_nil)) (show 2 ≤ 100000 by decide) H (Ex.refl H) _ fun b H1 _ e1 g1 => h3 H1 e1 _ fun H2 e2 => ⟨sz_of (show 2 ≤ 100000 by decide), fun a ha => k a b _ ((e1.trans e2).trans (Ex.new ha)) upd_same ((Ex.new ha) _ _ (e2 _ _ g1))⟩
/-- a test of what stands in the world -/
theorem ev_eqW {u v : V} {x y : Val} (h1 : Ev ta σ H u) (r1 : Vt H u (dV x)) (h2 : Ev tb σ H v) (r2 : Vt H v (dV y)) (o1 : okV x) (o2 : okV y) : Ev (tOp (rEqA K) ta tb) σ H (.bl (decide (x = y))) :=
  ev_is (ev_eqD (ed_ev h1 r1.dt) (ed_ev h2 r2.dt) (val_okD o1.val) (val_okD o2.val)) (by rw [eqv_dV o1 o2])
theorem et_tupW {u : V} {x : Val} (h : Ev ta σ H u) (r : Vt H u (dV x)) : EvT (tB (tCB (rIsiA K) (tCons ta (tCons (tC (.ty "tuple")) tNil)))) σ H (isFltV x) :=
  et_is (et_B (ev_isi h (vt_ty r))) (by cases x <;> rfl)
theorem atSs1 {x : V} {s : Spot} (h : AtS H x s) : AtSs H [x] [s] := ⟨rfl, fun i s' hs => by
  cases i with
  | zero => cases hs; exact ⟨x, rfl, h⟩
  | succ i => simp at hs⟩
/-- seen = [a spot] -/
theorem q_spot1 {s : Spot} {i : Nat} (h1 : Ev t1 σ H (.str s.1)) (h2 : Ev t2 σ H (.str s.2.1)) (h3 : Ev t3 σ H (.int s.2.2)) (k : ∀ p x H1, H p = none → Ex H H1 → H1 p = some (.lst [x]) → AtS H1 x s → tz D (σ.set i (some (.ref p))) H1) :
    tSeq (tAsg (tLst (tCons (tTup (tCons t1 (tCons t2 (tCons t3 tNil)))) tNil)) (gName i)) tz D σ H :=
  x_lst1 (Q := fun v H1 => tz D (σ.set i (some v)) H1) <| eu_tup (ea_cons h1 (ea_cons h2 (ea_cons h3 ea_nil))) (show 3 ≤ 100000 by decide) H (Ex.refl H) _ fun a H1 _ e1 g1 => ⟨sz_of (show 1 ≤ 100000 by decide), fun p hp => k p (.ref a) _ (fresh_back e1 hp) (e1.trans (Ex.new hp)) upd_same ⟨a, rfl, (Ex.new hp) _ _ g1⟩⟩
/-- return (u, seen + more) -/
theorem s_retApp {u : V} {q q2 : Addr} {xs ys : List V} (h1 : Ev t1 σ H u) (h2 : Ev t2 σ H (.ref q)) (hq : H q = some (.lst xs)) (h3 : Ev t3 σ H (.ref q2)) (hq2 : H q2 = some (.lst ys)) (hl : xs.length + ys.length ≤ 100000)
    (k : ∀ a y H1, Ex H H1 → H1 a = some (.tup [u, .ref y]) → H1 y = some (.lst (xs ++ ys)) → D.rt (.ref a) H1) : tRet (tTup (tCons t1 (tCons (tOp (rAddA K) t2 t3) tNil))) D σ H :=
  x_tupU (Q := D.rt) <| h1 H (Ex.refl H) _ fun H1 e1 => x_op <| h2 H1 e1 _ fun H2 e2 => h3 H2 (e1.trans e2) _ fun H3 e3 => .inr (.inr (.inl ⟨q, q2, xs, ys, rfl, rfl, ((e1.trans e2).trans e3) _ _ hq, ((e1.trans e2).trans e3) _ _ hq2, sz_of hl, fun y hy => ⟨sz_of (show 2 ≤ 100000 by decide), fun a ha =>
    k a y _ ((((e1.trans e2).trans e3).trans (Ex.new hy)).trans (Ex.new ha)) upd_same ((Ex.new ha) _ _ upd_same)⟩⟩))
/-- return (("value", ("fault", "lacks")), z) -/
theorem s_retLacks {z : V} {w : Str} (h3 : Ev t3 σ H z) (k : ∀ a b H1, Ex H H1 → H1 a = some (.tup [.ref b, z]) → Told H1 (.ref b) (.val (.inr w)) → D.rt (.ref a) H1) :
    tRet (tTup (tCons (tTup (tCons (tC (.str "value")) (tCons (tTup (tCons (tC (.str "fault")) (tCons (tC (.str w)) tNil))) tNil))) (tCons t3 tNil))) D σ H :=
  x_tupU (Q := D.rt) <| x_tupU (ta := tC (.str "value")) <| x_c <| eu_tup (ea_cons ev_c (ea_cons ev_c ea_nil)) (show 2 ≤ 100000 by decide) H (Ex.refl H) _ fun c H1 _ e1 g1 => ⟨sz_of (show 2 ≤ 100000 by decide), fun b hb => h3 _ (e1.trans (Ex.new hb)) _ fun H2 e2 => ⟨sz_of (show 2 ≤ 100000 by decide), fun a ha =>
    k a b _ (((e1.trans (Ex.new hb)).trans e2).trans (Ex.new ha)) upd_same ⟨b, .ref c, rfl, (Ex.new ha) _ _ (e2 _ _ upd_same), .flt ((Ex.new ha) _ _ (e2 _ _ ((Ex.new hb) _ _ g1)))⟩⟩⟩
theorem atSs_app {xs ys : List V} {ss tt : List Spot} (h : AtSs H xs ss) (g : AtSs H ys tt) : AtSs H (xs ++ ys) (ss ++ tt) := ⟨by rw [List.length_append, List.length_append, h.1, g.1], fun i s hs => by
  by_cases hl : i < ss.length
  · rw [List.getElem?_append_left hl] at hs
    rw [List.getElem?_append_left (by rw [h.1]; exact hl)]
    exact h.2 i s hs
  · rw [List.getElem?_append_right (by omega)] at hs
    rw [List.getElem?_append_right (by rw [h.1]; omega), h.1]
    exact g.2 _ s hs⟩
end
end Z

set_option Elab.async false
set_option linter.all false
set_option autoImplicit false
set_option maxRecDepth 100000
set_option maxHeartbeats 4000000
/-! ev: what an expression comes to, by its form -/
local macro_rules | `(tactic| k_places) => `(tactic| (repeat' (first
  | (with_reducible exact ev_c)
  | (with_reducible exact ev_var rfl)
  | (with_reducible refine ev_chainLL ?_ ?_ ?_)
  | (with_reducible refine ev_chainLt ?_ ?_ ?_)
  | (with_reducible refine ev_op ?_ ?_ ?_)
  | (with_reducible refine ev_neg ?_)
  | (with_reducible refine et_test ?_)
  | (with_reducible refine et_B ?_)
  | (with_reducible refine et_not ?_)
  | (with_reducible refine et_and ?_ (fun _ => ?_))
  | (with_reducible refine et_or ?_ (fun _ => ?_))
  | (with_reducible refine ev_andV ?_ (fun _ => ?_))
  | (with_reducible refine ev_orV ?_ (fun _ => ?_))
  | (with_reducible refine ev_notV ?_)
  | (with_reducible exact rv_addI)
  | (with_reducible exact rv_subI)
  | (with_reducible exact rv_lt)
  | (with_reducible exact rv_le)
  | (with_reducible exact rv_gt)
  | (with_reducible exact rv_ge)
  | (with_reducible exact rv_isB)
  | (with_reducible exact rv_isnB)
  | (with_reducible exact rv_isN)
  | (with_reducible exact rv_isnN)
  | (with_reducible exact rv_eqS rfl)
  | (with_reducible exact rv_neS rfl)
  | (with_reducible exact rv_inStr)
  | (with_reducible exact rv_ninStr)
  | (with_reducible exact rv_mod (by first | decide | omega | assumption))
  | (with_reducible exact rv_div (by first | decide | omega | assumption))
  | (with_reducible exact rv_pow (by decide))
  | (with_reducible refine ed_i ?_; done)
  | (with_reducible exact ea_nil)
  | (with_reducible refine ea_cons ?_ ?_)
  | (with_reducible exact eds_nil)
  | (with_reducible refine eds_cons ?_ ?_)
  | (with_reducible exact ed_dnew)
  | (with_reducible refine ed_lst ?_ (by simp only [List.length_cons, List.length_nil]; omega))
  | (with_reducible refine ed_tup ?_ (by simp only [List.length_cons, List.length_nil]; omega)))))
namespace Z
open PySem PySem.Spec PyProof.Rows L2 Evl NdefX LamX
/-! ### pairs of texts -/
abbrev Pt := Str × Str
def dP (s : Pt) : PyData := .tuple [.str s.1, .str s.2]
def AtP (H : Hp) (v : V) (s : Pt) : Prop := ∃ a, v = .ref a ∧ H a = some (.tup [.str s.1, .str s.2])
def AtPs (H : Hp) (vs : List V) (ss : List Pt) : Prop := vs.length = ss.length ∧ ∀ (i : Nat) (s : Pt), ss[i]? = some s → ∃ v, vs[i]? = some v ∧ AtP H v s
theorem AtP.tup {H H' : Hp} {v : V} {s : Pt} (e : Tup H H') (h : AtP H v s) : AtP H' v s := let ⟨a, e1, e2⟩ := h; ⟨a, e1, e a _ e2⟩
theorem AtPs.tup {H H' : Hp} {vs : List V} {ss : List Pt} (e : Tup H H') (h : AtPs H vs ss) : AtPs H' vs ss := ⟨h.1, fun i s q => let ⟨v, a, b⟩ := h.2 i s q; ⟨v, a, b.tup e⟩⟩
theorem AtPs.snoc {H : Hp} {vs : List V} {ss : List Pt} {v : V} {s : Pt} (h : AtPs H vs ss) (k : AtP H v s) : AtPs H (vs ++ [v]) (ss ++ [s]) := by
  refine ⟨by simp [h.1], fun i t q => ?_⟩
  by_cases hi : i < ss.length
  · rw [List.getElem?_append_left hi] at q
    obtain ⟨w, a, b⟩ := h.2 i t q
    exact ⟨w, (List.getElem?_append_left (by rw [h.1]; exact hi)).trans a, b⟩
  · rw [List.getElem?_append_right (by omega)] at q
    have e : i = ss.length := by
      have := (List.getElem?_eq_some_iff.mp q).1
      simp at this
      omega
    subst e
    rw [Nat.sub_self] at q
    cases q
    exact ⟨v, by rw [← h.1, List.getElem?_append_right (Nat.le_refl _), Nat.sub_self]; rfl, k⟩
theorem AtPs.at {H : Hp} {vs : List V} {ss : List Pt} {i : Nat} {v : V} (h : AtPs H vs ss) (q : vs[i]? = some v) : ∃ s, ss[i]? = some s ∧ AtP H v s := by
  have hi : i < ss.length := by rw [← h.1]; exact (List.getElem?_eq_some_iff.mp q).1
  obtain ⟨s, hs⟩ : ∃ s, ss[i]? = some s := ⟨_, List.getElem?_eq_getElem hi⟩
  obtain ⟨w, a, b⟩ := h.2 i s hs
  rw [q] at a
  cases a
  exact ⟨s, hs, b⟩

def okP (s : Pt) : Prop := okS s.1 ∧ okS s.2
theorem eqv_dP (s t : Pt) : PyData.eqv (dP s) (dP t) = decide (s = t) := by
  show ((s.1 == t.1) && ((s.2 == t.2) && true)) = _
  rw [Bool.and_true]
  by_cases h : s = t
  · subst h
    simp
  · rw [decide_eq_false h]
    cases q : ((s.1 == t.1) && (s.2 == t.2)) with
    | false => rfl
    | true =>
      simp only [Bool.and_eq_true, beq_iff_eq] at q
      exact (h (Prod.ext q.1 q.2)).elim
theorem any_dP (s : Pt) (ss : List Pt) : ((ss.map dP).any fun z => PyData.eqv z (dP s)) = decide (s ∈ ss) := by
  induction ss with
  | nil => rfl
  | cons x r ih =>
    rw [List.map_cons, List.any_cons, ih, eqv_dP]
    by_cases h : x = s
    · subst h; simp
    · have : ¬ s = x := fun e => h e.symm
      simp [h, this]
theorem okD_dP {s : Pt} (h : okP s) : okD (dP s) := by
  show okN 10 (.tuple _)
  simp only [okN, okNs, and_true]
  exact ⟨h.1, h.2⟩
theorem okN_dP {s : Pt} (h : okP s) : okN 9 (dP s) := by
  show okN 9 (.tuple _)
  simp only [okN, okNs, and_true]
  exact ⟨h.1, h.2⟩
theorem okD_dPs {ss : List Pt} (h : ∀ s ∈ ss, okP s) : okD (.list (ss.map dP)) := by
  show okN 10 (.list _)
  rw [okN, okNs_iff]
  intro d hd
  obtain ⟨s, hs, rfl⟩ := List.mem_map.mp hd
  exact okN_dP (h s hs)
theorem AtP.dt {H : Hp} {v : V} {s : Pt} (h : AtP H v s) : Dt H v (dP s) := by
  obtain ⟨a, rfl, h⟩ := h
  exact .tup h (.cons (.str _) (.cons (.str _) .nil))
theorem AtPs.dt {H : Hp} : ∀ {vs : List V} {ss : List Pt}, AtPs H vs ss → DtAll H vs (ss.map dP)
  | [], [], _ => .nil
  | [], _ :: _, h => by have := h.1; simp at this
  | _ :: _, [], h => by have := h.1; simp at this
  | v :: vs, s :: ss, h => by
    obtain ⟨w, a, b⟩ := h.2 0 s rfl
    cases a
    exact .cons b.dt (AtPs.dt ⟨by have := h.1; simpa using this, fun i t ht => by
      obtain ⟨w, a, b⟩ := h.2 (i + 1) t (by simpa using ht)
      exact ⟨w, by simpa using a, b⟩⟩)
/-- in the order of their first coming -/
def onceP (l : List Pt) : List Pt := l.foldl (fun acc s => if s ∈ acc then acc else acc ++ [s]) []
theorem onceP_snoc (l : List Pt) (s : Pt) : onceP (l ++ [s]) = if s ∈ onceP l then onceP l else onceP l ++ [s] := by
  unfold onceP
  rw [List.foldl_append]
  rfl
theorem onceP_mem {l : List Pt} {s : Pt} (h : s ∈ onceP l) : s ∈ l := by
  have : ∀ (l : List Pt) (acc : List Pt), s ∈ l.foldl (fun acc s => if s ∈ acc then acc else acc ++ [s]) acc → s ∈ acc ∨ s ∈ l := by
    intro l
    induction l with
    | nil => intro acc h; exact .inl h
    | cons x r ih =>
      intro acc h
      rcases ih _ h with z | z
      · dsimp only at z
        split at z
        · exact .inl z
        · rcases List.mem_append.mp z with z | z
          · exact .inl z
          · exact .inr (by rw [List.mem_singleton.mp z]; exact List.mem_cons_self)
      · exact .inr (List.mem_cons_of_mem _ z)
  rcases this l [] h with z | z
  · simp at z
  · exact z
theorem onceP_len (l : List Pt) : (onceP l).length ≤ l.length := by
  have : ∀ (l : List Pt) (acc : List Pt), (l.foldl (fun acc s => if s ∈ acc then acc else acc ++ [s]) acc).length ≤ acc.length + l.length := by
    intro l
    induction l with
    | nil => intro acc; simp
    | cons x r ih =>
      intro acc
      have := ih (if x ∈ acc then acc else acc ++ [x])
      rw [List.foldl_cons, List.length_cons]
      refine Nat.le_trans this ?_
      split
      · omega
      · rw [List.length_append]
        simp only [List.length_cons, List.length_nil]
        omega
  have h2 := this l []
  rw [List.length_nil, Nat.zero_add] at h2
  exact h2

theorem onceP_all {l : List Pt} {s : Pt} (h : s ∈ l) : s ∈ onceP l := by
  have keep : ∀ (l : List Pt) (acc : List Pt), s ∈ acc → s ∈ l.foldl (fun acc s => if s ∈ acc then acc else acc ++ [s]) acc := by
    intro l
    induction l with
    | nil => intro acc h; exact h
    | cons x r ih =>
      intro acc h
      refine ih _ ?_
      dsimp only
      split
      · exact h
      · exact List.mem_append.mpr (.inl h)
  have : ∀ (l : List Pt) (acc : List Pt), s ∈ l → s ∈ l.foldl (fun acc s => if s ∈ acc then acc else acc ++ [s]) acc := by
    intro l
    induction l with
    | nil => intro acc h; cases h
    | cons x r ih =>
      intro acc h
      rcases List.mem_cons.mp h with z | z
      · subst z
        refine keep r _ ?_
        dsimp only
        split
        · assumption
        · exact List.mem_append.mpr (.inr List.mem_cons_self)
      · exact ih _ z
  exact this l [] h
section
variable {K : PySem.W.Frag} {σ : L2.St} {H H' : Hp} {te tl ta tb tc tx t1 t2 t3 : TE} {D : Ends} {tz : TS} {E : L2.St → XK} {Q : VK}
theorem ev_ninP {v : V} {s : Pt} {ss : List Pt} {p : Addr} {xs : List V} (h1 : Ev ta σ H v) (r1 : AtP H v s) (h2 : Ev tb σ H (.ref p)) (hp : H p = some (.lst xs)) (r2 : AtPs H xs ss) (o1 : okP s) (o2 : ∀ x ∈ ss, okP x) : Ev (tOp (rNinA K) ta tb) σ H (.bl (!decide (s ∈ ss))) := fun H1 e Q q =>
  h1 H1 e _ fun H2 e2 => h2 H2 (e.trans e2) _ fun H3 e3 => by
    have E := (e.trans e2).trans e3
    refine .inr (.inr (.inr ⟨dP s, ss.map dP, ((r1.tup (.of_ex E)).dt).dp (okD_dP o1).nd, (Dt.lst (E _ _ hp) (r2.tup (.of_ex E)).dt).dp (okD_dPs o2).nd, (okD_dP o1).shaped, (okD_dPs o2).shaped, ?_⟩))
    rw [any_dP]
    exact q H3 (e2.trans e3)
theorem ev_nePs {ss : List Pt} (h1 : EvD ta σ H (.list (ss.map dP))) (h2 : EvD tb σ H (.list (ss.map dP))) (o : ∀ x ∈ ss, okP x) : Ev (tOp (rNeA K) ta tb) σ H (.bl false) :=
  ev_is (ev_neD h1 h2 (okD_dPs o) (okD_dPs o)) (by rw [eqv_self (okD_dPs o)]; rfl)
theorem ed_pts {p : Addr} {xs : List V} {ss : List Pt} (h : Ev ta σ H (.ref p)) (hp : H p = some (.lst xs)) (r : AtPs H xs ss) : EvD ta σ H (.list (ss.map dP)) := ed_ev h (.lst hp r.dt)

def EvPs (te : TE) (σ : L2.St) (H : Hp) (ss : List Pt) : Prop := ∀ H1, Ex H H1 → ∀ Q : VK, (∀ p xs H2, H1 p = none → Ex H1 H2 → H2 p = some (.lst xs) → AtPs H2 xs ss → Q (.ref p) H2) → te σ H1 Q

theorem er_pt {t1 t2 : TE} {s : Pt} (h1 : Ev t1 σ H (.str s.1)) (h2 : Ev t2 σ H (.str s.2)) : EvR (tTup (tCons t1 (tCons t2 tNil))) σ H (fun v H => AtP H v s) := fun H1 e Q q =>
  eu_tup (ea_cons h1 (ea_cons h2 ea_nil)) (show 2 ≤ 100000 by decide) H1 e Q fun p H2 _ e2 h2 => q _ H2 e2 ⟨p, rfl, h2⟩
theorem atPs_of {vs : List V} {ss : List Pt} (hl : vs.length = ss.length) (h : ∀ (i : Nat) (v : V), vs[i]? = some v → ∃ s, ss[i]? = some s ∧ AtP H v s) : AtPs H vs ss := ⟨hl, fun i s q => by
  obtain ⟨v, hv⟩ : ∃ v, vs[i]? = some v := ⟨_, List.getElem?_eq_getElem (by rw [hl]; exact (List.getElem?_eq_some_iff.mp q).1)⟩
  obtain ⟨s', a, b⟩ := h i v hv
  rw [q] at a
  cases a
  exact ⟨v, hv, b⟩⟩
/-- [(.., name, ..) for name in a list of texts] -/
theorem es_lcP {a : Addr} {zs : List Str} {j : Nat} {ls : List Nat} (f : Str → Pt) (h : Ev tl σ H (.ref a)) (hx : SqL K H a (zs.map V.str)) (hz : zs.length ≤ 40000) (hw : ∀ x, wipe ((wipe σ ls).set j (some x)) ls = wipe σ ls)
    (he : ∀ (z : Str) H1, Ex H H1 → z ∈ zs → EvR te ((wipe σ ls).set j (some (.str z))) H1 (fun v H => AtP H v (f z))) : EvPs (tLc (iList K tl) (gName j) tYes te ls) σ H (zs.map f) := fun H0 e Q q => by
  refine er_lcL (R := fun i v H => ∃ z, zs[i]? = some z ∧ AtP H v (f z)) (fun i v H H' ⟨z, a, b⟩ im => ⟨z, a, b.tup im.tup⟩) (h.mono e) (ex_l e hx) (by rw [List.length_map]; exact hz) hw (fun i x H1 e1 hi => ?_) fun p ys H1 hp e1 h1 hl hr => q p ys H1 hp e1 h1 (atPs_of (by rw [hl, List.length_map, List.length_map]) fun i v hv => ?_)
  · rw [List.getElem?_map] at hi
    cases hz' : zs[i]? with
    | none => rw [hz'] at hi; cases hi
    | some z =>
      rw [hz'] at hi
      cases hi
      intro H2 e2 Q2 q2
      exact he z H1 (e.trans e1) (List.mem_of_getElem? hz') H2 e2 Q2 fun v H3 e3 r => q2 v H3 e3 ⟨z, rfl, r⟩
  · obtain ⟨z, a, b⟩ := hr i v hv
    exact ⟨f z, by rw [List.getElem?_map, a]; rfl, b⟩

/-- [a spot] + a list of spots -/
theorem es_consP {tb : TE} {s : Pt} {ss : List Pt} {q : Addr} {xs : List V} (h : EvR te σ H (fun v H => AtP H v s)) (hb : Ev tb σ H (.ref q)) (hq : H q = some (.lst xs)) (r : AtPs H xs ss) (hl : ss.length ≤ 10000) : EvPs (tOp (rAddA K) (tLst (tCons te tNil)) tb) σ H (s :: ss) := fun H1 e Q k =>
  h H1 e _ fun u H2 e2 hu => ⟨sz_of (show 1 ≤ 100000 by decide), fun b hn => hb _ (e.trans (e2.trans (Ex.new hn))) _ fun H3 e3 => .inr (.inr (.inl ⟨b, q, [u], xs, rfl, rfl, e3 _ _ upd_same, (e.trans ((e2.trans (Ex.new hn)).trans e3)) _ _ hq, sz_of (by rw [r.1]; show 1 + ss.length ≤ 100000; omega), fun d hd => by
    have e5 : Ex H1 (L2.upd H3 d (.lst ([u] ++ xs))) := ((e2.trans (Ex.new hn)).trans e3).trans (Ex.new hd)
    refine k d _ _ (fresh_back ((e2.trans (Ex.new hn)).trans e3) hd) e5 upd_same ⟨by simp [r.1], fun i s' hs => ?_⟩
    cases i with
    | zero =>
      cases hs
      exact ⟨u, rfl, hu.tup (.of_ex (((Ex.new hn).trans e3).trans (Ex.new hd)))⟩
    | succ i =>
      obtain ⟨v, v1, v2⟩ := (r.tup (.of_ex (e.trans e5))).2 i s' (by simpa using hs)
      exact ⟨v, by simpa using v1, v2⟩⟩))⟩
theorem q_asgPs {i : Nat} {ss : List Pt} (h : EvPs te σ H ss) (k : ∀ p xs H1, H p = none → Ex H H1 → H1 p = some (.lst xs) → AtPs H1 xs ss → tz D (σ.set i (some (.ref p))) H1) : tSeq (tAsg te (gName i)) tz D σ H := h H (Ex.refl H) _ k

theorem AtPs.take {vs : List V} {ss : List Pt} (r : AtPs H vs ss) (i : Nat) : AtPs H (vs.take i) (ss.take i) := ⟨by rw [List.length_take, List.length_take, r.1], fun j s hs => by
  rw [List.getElem?_take] at hs ⊢
  split at hs
  · rename_i h
    rw [if_pos h]
    exact r.2 j s hs
  · cases hs⟩
theorem ev_ninPL {v : V} {s : Pt} {ss : List Pt} {xs : List V} (h1 : Ev ta σ H v) (r1 : AtP H v s) (h2 : EvL tb σ H xs) (r2 : AtPs H xs ss) (o1 : okP s) (o2 : ∀ x ∈ ss, okP x) : Ev (tOp (rNinA K) ta tb) σ H (.bl (!decide (s ∈ ss))) := fun H1 e Q q =>
  h1 H1 e _ fun H2 e2 => h2 H2 (e.trans e2) _ fun p H3 _ e3 hp => by
    have E := (e.trans e2).trans e3
    refine .inr (.inr (.inr ⟨dP s, ss.map dP, ((r1.tup (.of_ex E)).dt).dp (okD_dP o1).nd, (Dt.lst hp (r2.tup (.of_ex E)).dt).dp (okD_dPs o2).nd, (okD_dP o1).shaped, (okD_dPs o2).shaped, ?_⟩))
    rw [any_dP]
    exact q H3 (e2.trans e3)
/-- [seen[k] for k in range(len(seen)) if seen[k] not in seen[:k]] -/
theorem es_onceP {q : Addr} {xs : List V} {ss : List Pt} {i j : Nat} {tas : TA} (h0 : EvA tas σ H [.int (xs.length : Int)]) (hi : ∀ x, ((wipe σ [j]).set j (some x))[i]? = some (some (.ref q))) (hj : ∀ x, ((wipe σ [j]).set j (some x))[j]? = some (some x)) (hw : ∀ x, wipe ((wipe σ [j]).set j (some x)) [j] = wipe σ [j])
    (hq : H q = some (.lst xs)) (r : AtPs H xs ss) (ok : ∀ s ∈ ss, okP s) (hl : ss.length ≤ 1000) :
    EvPs (tLc (iRng1 tas) (gName j) (tTest (tOp (rNinA K) (tOp (rIxA K) (tVar i) (tVar j)) (tSl (rSlA K) (tVar i) tNoPart (tPart (tVar j))))) (tOp (rIxA K) (tVar i) (tVar j)) [j]) σ H (onceP ss) := fun H0 e Q k => by
  refine h0 H0 e _ fun H1 e1 => ⟨(xs.length : Int), rfl, by rw [r.1]; omega, by rw [r.1]; omega, fun Dl hD => ?_⟩
  have E1 := e.trans e1
  refine lc_range (lo := 0) (n := xs.length) (fun m H' => Ex H1 H' ∧ ∃ vs, H' Dl = some (.lst vs) ∧ AtPs H' vs (onceP (ss.take m))) ⟨Ex.new hD, [], upd_same, rfl, fun i s z => by simp [onceP] at z⟩ (fun m H' hm p => ?_) fun H' ⟨p1, vs, p2, p3⟩ => ?_
  · obtain ⟨p1, vs, p2, p3⟩ := p
    show wipe ((wipe σ [j]).set j (some (.int ((0 : Int) + (m : Int))))) [j] = wipe σ [j] ∧ _
    rw [Int.zero_add]
    have E2 := E1.trans p1
    have hm' : m < xs.length := hm
    obtain ⟨s, hs, as⟩ := (r.tup (.of_ex E2)).at (List.getElem?_eq_getElem hm')
    have okm : ∀ x ∈ ss.take m, okP x := fun x hx => ok x (List.mem_of_mem_take hx)
    have ix : Ev (tOp (rIxA K) (tVar i) (tVar j)) ((wipe σ [j]).set j (some (.int (m : Int)))) H' xs[m] := ev_op (ev_var (hi _)) (ev_var (hj _)) (rv_itL (SqL.of (E2 _ _ hq)) (atI_nat (List.getElem?_eq_getElem hm')))
    have sl : EvL (tSl (rSlA K) (tVar i) tNoPart (tPart (tVar j))) ((wipe σ [j]).set j (some (.int (m : Int)))) H' (xs.take m) := by
      have := el_slA (K := K) (σ := (wipe σ [j]).set j (some (.int (m : Int)))) (H := H') (ev_var (hi _)) eo_none (eo_some (ev_var (hj _))) (SqL.of (E2 _ _ hq))
      rwa [cut_take] at this
    have tk : ss.take (m + 1) = ss.take m ++ [s] := by rw [List.take_add_one, hs]; rfl
    have lv : vs.length ≤ 1000 := by
      have := onceP_len (ss.take m)
      rw [List.length_take] at this
      have := p3.1
      omega
    refine ⟨hw _, et_test (ev_ninPL ix as sl ((r.tup (.of_ex E2)).take m) (ok s (List.mem_of_getElem? hs)) okm) H' (Ex.refl H') _ fun H3 e3 => ?_⟩
    by_cases hn : s ∈ onceP (ss.take m)
    · have hn' := onceP_mem hn
      rw [decide_eq_true hn']
      refine (if_neg (by decide)).mpr ⟨p1.trans e3, vs, e3 _ _ p2, ?_⟩
      rw [tk, onceP_snoc, if_pos hn]
      exact p3.tup (.of_ex e3)
    · have hn' : s ∉ ss.take m := fun z => hn (onceP_all z)
      rw [decide_eq_false hn']
      refine (if_pos rfl).mpr (ix.mono e3 H3 (Ex.refl H3) _ fun H4 e4 => ⟨vs, (e3.trans e4) _ _ p2, sz_lt (by omega), Ex.mut (p1.trans (e3.trans e4)) hD, _, upd_same, ?_⟩)
      rw [tk, onceP_snoc, if_neg hn]
      have tt : Tup H' (L2.upd H4 Dl (.lst (vs ++ [xs[m]]))) := ((Imk.of (e3.trans e4)).trans (Imk.upd ((e3.trans e4) _ _ p2) fun z => z)).tup
      exact (p3.tup tt).snoc (as.tup tt)
  · rw [r.1, List.take_length] at p3
    exact k Dl vs H' (fresh_back e1 hD) (e1.trans p1) p2 p3

theorem atPs_app {xs ys : List V} {ss tt : List Pt} (h : AtPs H xs ss) (g : AtPs H ys tt) : AtPs H (xs ++ ys) (ss ++ tt) := ⟨by rw [List.length_append, List.length_append, h.1, g.1], fun i s hs => by
  by_cases hl : i < ss.length
  · rw [List.getElem?_append_left hl] at hs
    rw [List.getElem?_append_left (by rw [h.1]; exact hl)]
    exact h.2 i s hs
  · rw [List.getElem?_append_right (by omega)] at hs
    rw [List.getElem?_append_right (by rw [h.1]; omega), h.1]
    exact g.2 _ s hs⟩

theorem atPs1 {x : V} {s : Pt} (h : AtP H x s) : AtPs H [x] [s] := ⟨rfl, fun i s' hs => by
  cases i with
  | zero => cases hs; exact ⟨x, rfl, h⟩
  | succ i => simp at hs⟩

end
end Z

set_option Elab.async false
set_option linter.all false
set_option autoImplicit false
set_option maxRecDepth 100000
set_option maxHeartbeats 4000000
/-! ev: what an expression comes to, by its form -/
local macro_rules | `(tactic| k_places) => `(tactic| (repeat' (first
  | (with_reducible exact ev_c)
  | (with_reducible exact ev_var rfl)
  | (with_reducible refine ev_chainLL ?_ ?_ ?_)
  | (with_reducible refine ev_chainLt ?_ ?_ ?_)
  | (with_reducible refine ev_op ?_ ?_ ?_)
  | (with_reducible refine ev_neg ?_)
  | (with_reducible refine et_test ?_)
  | (with_reducible refine et_B ?_)
  | (with_reducible refine et_not ?_)
  | (with_reducible refine et_and ?_ (fun _ => ?_))
  | (with_reducible refine et_or ?_ (fun _ => ?_))
  | (with_reducible refine ev_andV ?_ (fun _ => ?_))
  | (with_reducible refine ev_orV ?_ (fun _ => ?_))
  | (with_reducible refine ev_notV ?_)
  | (with_reducible exact rv_addI)
  | (with_reducible exact rv_subI)
  | (with_reducible exact rv_lt)
  | (with_reducible exact rv_le)
  | (with_reducible exact rv_gt)
  | (with_reducible exact rv_ge)
  | (with_reducible exact rv_isB)
  | (with_reducible exact rv_isnB)
  | (with_reducible exact rv_isN)
  | (with_reducible exact rv_isnN)
  | (with_reducible exact rv_eqS rfl)
  | (with_reducible exact rv_neS rfl)
  | (with_reducible exact rv_inStr)
  | (with_reducible exact rv_ninStr)
  | (with_reducible exact rv_mod (by first | decide | omega | assumption))
  | (with_reducible exact rv_div (by first | decide | omega | assumption))
  | (with_reducible exact rv_pow (by decide))
  | (with_reducible refine ed_i ?_; done)
  | (with_reducible exact ea_nil)
  | (with_reducible refine ea_cons ?_ ?_)
  | (with_reducible exact eds_nil)
  | (with_reducible refine eds_cons ?_ ?_)
  | (with_reducible exact ed_dnew)
  | (with_reducible refine ed_lst ?_ (by simp only [List.length_cons, List.length_nil]; omega))
  | (with_reducible refine ed_tup ?_ (by simp only [List.length_cons, List.length_nil]; omega)))))
namespace Z
open PySem PySem.Spec PyProof.Rows L2 Evl NdefX LamX
/-! ### what rules lean on -/
theorem strs_of {zs : List Str} : ∀ ys : List V, (∀ y ∈ ys, ∃ z ∈ zs, y = .str z) → ∃ ws : List Str, ys = ws.map V.str ∧ ∀ w ∈ ws, w ∈ zs
  | [], _ => ⟨[], rfl, fun w hw => by simp at hw⟩
  | y :: r, h => by
    obtain ⟨z, hz, rfl⟩ := h y List.mem_cons_self
    obtain ⟨ws, a, b⟩ := strs_of r fun y hy => h y (List.mem_cons_of_mem _ hy)
    refine ⟨z :: ws, by rw [a]; rfl, fun w hw => ?_⟩
    rcases List.mem_cons.mp hw with q | q
    · rw [q]; exact hz
    · exact b w q
theorem md_nil {P : Addr → Sp → Prop} : ∀ C sp, (C, sp) ∈ ([] : List (Addr × Sp)) → P C sp := fun _ _ h => by cases h
theorem md_cons {P : Addr → Sp → Prop} {C1 : Addr} {s1 : Sp} {L : List (Addr × Sp)} (h : P C1 s1) (r : ∀ C sp, (C, sp) ∈ L → P C sp) : ∀ C sp, (C, sp) ∈ (C1, s1) :: L → P C sp := fun C sp m => by
  rcases List.mem_cons.mp m with z | z
  · cases z; exact h
  · exact r C sp z
/-- a new list of pairs -/
def RetPs (ps : List Pt) (H : Hp) (Q : VK) : Prop := ∀ p xs H', Ex H H' → H p = none → H' p = some (.lst xs) → AtPs H' xs ps → Q (.ref p) H'
def sp_each_once (K : PySem.W.Frag) : Sp := fun vs H Q _ => ∃ (sp : Addr) (xs : List V) (ps : List Pt), vs = [.ref sp] ∧ H sp = some (.lst xs) ∧ AtPs H xs ps ∧ (∀ s ∈ ps, okP s) ∧ ps.length ≤ 100 ∧ RetPs (onceP ps) H Q
def sp_Cells_leans (K : PySem.W.Frag) (A : Cn → Addr) : Sp := fun vs H Q _ => ∃ (a np : Addr) (zs : List Str) (t : Str), vs = [.ref a, .str t] ∧ Fld H (A .Cells) a "names" (.ref np) ∧ H np = some (.lst (zs.map V.str)) ∧ zs.length ≤ 6 ∧ isName t = true ∧ (∀ z ∈ zs, isName z = true) ∧ RetPs (onceP (zs.map fun z => (t, z))) H Q
def sp_Above_leans (K : PySem.W.Frag) (A : Cn → Addr) : Sp := fun vs H Q _ => ∃ (a np : Addr) (zs : List Str) (t : Str), vs = [.ref a, .str t] ∧ Fld H (A .Above) a "names" (.ref np) ∧ H np = some (.lst (zs.map V.str)) ∧ zs.length ≤ 6 ∧ isName t = true ∧ (∀ z ∈ zs, isName z = true) ∧ RetPs (onceP (zs.map fun z => (t, z))) H Q
def sp_Group_leans (K : PySem.W.Frag) (A : Cn → Addr) : Sp := fun vs H Q _ => ∃ (a : Addr) (t y z : Str), vs = [.ref a, .str t] ∧ Fld H (A .Group) a "key" (.str y) ∧ Fld H (A .Group) a "name" (.str z) ∧ isName t = true ∧ isName y = true ∧ isName z = true ∧ RetPs (onceP [(t, y), (t, z)]) H Q
def sp_Lookup_leans (K : PySem.W.Frag) (A : Cn → Addr) : Sp := fun vs H Q _ => ∃ (a np : Addr) (t x y z : Str) (zs : List Str), vs = [.ref a, .str t] ∧ Fld H (A .Lookup) a "key" (.str x) ∧ Fld H (A .Lookup) a "other" (.str y) ∧ Fld H (A .Lookup) a "theirs" (.str z) ∧ Fld H (A .Lookup) a "names" (.ref np) ∧ H np = some (.lst (zs.map V.str)) ∧ zs.length ≤ 6 ∧
  (isName t = true ∧ isName x = true ∧ isName y = true ∧ isName z = true) ∧ (∀ z ∈ zs, isName z = true) ∧ RetPs (onceP ((t, x) :: (z :: zs).map fun n => (y, n))) H Q
def sp_Mend_leans (K : PySem.W.Frag) (A : Cn → Addr) : Sp := fun vs H Q _ => ∃ (a : Addr) (t z : Str), vs = [.ref a, .str t] ∧ Fld H (A .Mend) a "name" (.str z) ∧ isName t = true ∧ isName z = true ∧ RetPs [(t, z)] H Q
/-- names: "spots", "found", "spot" -/
def t_each_once (K : PySem.W.Frag) (E : XK) : TS :=
  tSeq (tAsg (tLst tNil) (gName 1))
    (tSeq (tFor (iList K (tVar 0)) (gName 2) (tIfS (tTest (tOp (rNinA K) (tVar 2) (tVar 1))) (tDrop (tBM K "list" rAppend (tVar 1) (tCons (tVar 2) tNil))) tNext))
    (tRet (tVar 1)))
/-- names: "self", "table", "name" -/
def t_Cells_leans (K : PySem.W.Frag) (E : XK) : TS :=
  tRet (tCallS (sp_each_once K) (WE (fun cls d _ H => E cls d H)) (tCons (tLc (iList K (tFld K (tVar 0) "names")) (gName 2) tYes (tTup (tCons (tVar 1) (tCons (tVar 2) tNil))) [2]) tNil))
/-- names: "self", "table", "name" -/
def t_Above_leans (K : PySem.W.Frag) (E : XK) : TS :=
  tRet (tCallS (sp_each_once K) (WE (fun cls d _ H => E cls d H)) (tCons (tLc (iList K (tFld K (tVar 0) "names")) (gName 2) tYes (tTup (tCons (tVar 1) (tCons (tVar 2) tNil))) [2]) tNil))
/-- names: "self", "table" -/
def t_Group_leans (K : PySem.W.Frag) (E : XK) : TS :=
  tRet (tCallS (sp_each_once K) (WE (fun cls d _ H => E cls d H)) (tCons (tLst (tCons (tTup (tCons (tVar 1) (tCons (tFld K (tVar 0) "key") tNil))) (tCons (tTup (tCons (tVar 1) (tCons (tFld K (tVar 0) "name") tNil))) tNil))) tNil))
/-- names: "self", "table", "behind", "name" -/
def t_Lookup_leans (K : PySem.W.Frag) (E : XK) : TS :=
  tSeq (tAsg (tLc (iList K (tOp (rAddA K) (tLst (tCons (tFld K (tVar 0) "theirs") tNil)) (tFld K (tVar 0) "names"))) (gName 3) tYes (tTup (tCons (tFld K (tVar 0) "other") (tCons (tVar 3) tNil))) [3]) (gName 2))
    (tRet (tCallS (sp_each_once K) (WE (fun cls d _ H => E cls d H)) (tCons (tOp (rAddA K) (tLst (tCons (tTup (tCons (tVar 1) (tCons (tFld K (tVar 0) "key") tNil))) tNil)) (tVar 2)) tNil)))
/-- names: "self", "table" -/
def t_Mend_leans (K : PySem.W.Frag) (E : XK) : TS :=
  tRet (tLst (tCons (tTup (tCons (tVar 1) (tCons (tFld K (tVar 0) "name") tNil))) tNil))
section
variable {K : PySem.W.Frag} {A : Cn → Addr} {σ : L2.St} {H H' : Hp} {te tl ta tb t1 t2 : TE} {D : Ends} {tz : TS} {E : L2.St → XK}
theorem len_each_once (vs : List V) (H : Hp) (Q : VK) (E : XK) (h : sp_each_once K vs H Q E) : vs.length = 1 := by obtain ⟨_, _, _, rfl, _⟩ := h; rfl
theorem len_Cells_leans (vs : List V) (H : Hp) (Q : VK) (E : XK) (h : sp_Cells_leans K A vs H Q E) : vs.length = 2 := by obtain ⟨_, _, _, _, rfl, _⟩ := h; rfl
theorem len_Above_leans (vs : List V) (H : Hp) (Q : VK) (E : XK) (h : sp_Above_leans K A vs H Q E) : vs.length = 2 := by obtain ⟨_, _, _, _, rfl, _⟩ := h; rfl
theorem len_Group_leans (vs : List V) (H : Hp) (Q : VK) (E : XK) (h : sp_Group_leans K A vs H Q E) : vs.length = 2 := by obtain ⟨_, _, _, _, rfl, _⟩ := h; rfl
theorem len_Lookup_leans (vs : List V) (H : Hp) (Q : VK) (E : XK) (h : sp_Lookup_leans K A vs H Q E) : vs.length = 2 := by obtain ⟨_, _, _, _, _, _, _, rfl, _⟩ := h; rfl
theorem len_Mend_leans (vs : List V) (H : Hp) (Q : VK) (E : XK) (h : sp_Mend_leans K A vs H Q E) : vs.length = 2 := by obtain ⟨_, _, _, rfl, _⟩ := h; rfl
theorem r_each_once (vs : List V) (H : Hp) (Q : VK) (E : XK) (h : sp_each_once K vs H Q E) : t_each_once K E { nx := fun _ H' => Q .non H', rt := Q } (L2.start ["spots", "found", "spot"] vs) H := by
  obtain ⟨sp, xs, ps, rfl, h0, a0, ok, hl, k⟩ := h
  unfold t_each_once
  refine q_asgL (el_lst ea_nil (by decide)) fun q H1 hq e1 h1 => ?_
  refine q_forLn (ev_var rfl) (SqL.of (e1 _ _ h0)) (fun i σ H' => ∃ (x2 : Option V) (ys : List V), σ = [some (.ref sp), some (.ref q), x2] ∧ Ex H H' ∧ H' q = some (.lst ys) ∧ AtPs H' ys (onceP (ps.take i)))
    (fun H2 e2 => ⟨_, [], rfl, e1.trans e2, e2 _ _ h1, rfl, fun i s z => by simp [onceP] at z⟩) (fun i σ H' _ ⟨_, _, _, e, _⟩ => SqL.of (e _ _ h0)) ?_ ?_
  · rintro i x σ H2 hi ⟨x2, ys, rfl, e2, hq2, a2⟩
    obtain ⟨s, hs, as⟩ := (a0.tup (.of_ex e2)).at hi
    have tk : ps.take (i + 1) = ps.take i ++ [s] := by rw [List.take_add_one, hs]; rfl
    have o2 : ∀ x ∈ onceP (ps.take i), okP x := fun x hx => ok x (List.mem_of_mem_take (onceP_mem hx))
    have ly : ys.length ≤ 100 := by
      have := onceP_len (ps.take i)
      rw [List.length_take] at this
      have := a2.1
      omega
    refine s_when (et_test (ev_ninP (ev_var rfl) as (ev_var rfl) hq2 a2 (ok s (List.mem_of_getElem? hs)) o2)) (fun hb H3 e3 => ?_) (fun hb H3 e3 => ?_)
    · have hn : s ∉ onceP (ps.take i) := by simpa using hb
      refine s_app (e3 _ _ hq2) (ev_var rfl) (ev_var rfl) (by omega) fun H4 e4 => ?_
      have e34 := e3.trans e4
      refine ⟨_, _, rfl, Ex.mut (e2.trans e34) hq, upd_same, ?_⟩
      rw [tk, onceP_snoc, if_neg hn]
      have tt : Tup H2 (L2.upd H4 q (.lst (ys ++ [x]))) := ((Imk.of e34).trans (Imk.upd (e34 _ _ hq2) fun z => z)).tup
      exact (a2.tup tt).snoc (as.tup tt)
    · have hn : s ∈ onceP (ps.take i) := by simpa using hb
      refine ⟨_, ys, rfl, e2.trans e3, e3 _ _ hq2, ?_⟩
      rw [tk, onceP_snoc, if_pos hn]
      exact a2.tup (.of_ex e3)
  · rintro σ H2 ⟨x2, ys, rfl, e2, hq2, a2⟩
    rw [a0.1, List.take_length] at a2
    exact s_ret (ev_var rfl) fun H3 e3 => k q ys H3 (e2.trans e3) hq (e3 _ _ hq2) (a2.tup (.of_ex e3))
/-- return each_once(pairs) -/
theorem s_retOnce {ps : List Pt} {Q : VK} (hQ : D.rt = Q) (h : EvPs te σ H ps) (ok : ∀ s ∈ ps, okP s) (hl : ps.length ≤ 100) (k : RetPs (onceP ps) H Q) : tRet (tCallS (sp_each_once K) E (tCons te tNil)) D σ H := by
  subst hQ
  exact h H (Ex.refl H) _ fun p xs H1 _ e1 h1 a1 => ⟨p, xs, ps, rfl, h1, a1, ok, hl, fun q ys H2 e2 hq h2 a2 => k q ys H2 (e1.trans e2) (fresh_back e1 hq) h2 a2⟩
theorem es_lst1P {s : Pt} (h : EvR ta σ H (fun v H => AtP H v s)) : EvPs (tLst (tCons ta tNil)) σ H [s] := fun H1 e Q k =>
  x_lst1 <| h H1 e _ fun v H2 e2 r => ⟨sz_of (show 1 ≤ 100000 by decide), fun p hp => k p [v] _ (fresh_back e2 hp) (e2.trans (Ex.new hp)) upd_same (atPs1 (r.tup (.of_ex (Ex.new hp))))⟩
theorem x_lst2 {Q : VK} (h : ta σ H fun x H1 => tb σ H1 fun y H2 => [x, y].length ≤ sizeLine ∧ ∀ p, H2 p = none → Q (.ref p) (upd H2 p (.lst [x, y]))) : tLst (tCons ta (tCons tb tNil)) σ H Q := h
theorem es_lst2P {s t : Pt} (h1 : EvR ta σ H (fun v H => AtP H v s)) (h2 : EvR tb σ H (fun v H => AtP H v t)) : EvPs (tLst (tCons ta (tCons tb tNil))) σ H [s, t] := fun H1 e Q k =>
  x_lst2 <| h1 H1 e _ fun v H2 e2 r1 => h2 H2 (e.trans e2) _ fun w H3 e3 r2 => ⟨sz_of (show 2 ≤ 100000 by decide), fun p hp => k p [v, w] _ (fresh_back (e2.trans e3) hp) ((e2.trans e3).trans (Ex.new hp)) upd_same ((atPs1 (r1.tup (.of_ex (e3.trans (Ex.new hp))))).snoc (r2.tup (.of_ex (Ex.new hp))))⟩
/-- [(.., name) for name in a new list of texts] -/
theorem es_lcPN {zs : List Str} {j : Nat} {ls : List Nat} (f : Str → Pt) (h : EvL tl σ H (zs.map V.str)) (hz : zs.length ≤ 40000) (hw : ∀ x, wipe ((wipe σ ls).set j (some x)) ls = wipe σ ls)
    (he : ∀ (z : Str) H1, Ex H H1 → z ∈ zs → EvR te ((wipe σ ls).set j (some (.str z))) H1 (fun v H => AtP H v (f z))) : EvPs (tLc (iList K tl) (gName j) tYes te ls) σ H (zs.map f) := fun H0 e Q q => by
  refine er_lcNL (R := fun i v H => ∃ z, zs[i]? = some z ∧ AtP H v (f z)) (fun i v H H' ⟨z, a, b⟩ n => ⟨z, a, b.tup fun x xs e => n _ _ e fun _ z => nomatch z⟩) (fun H1 e1 => h H1 (e.trans e1)) (by rw [List.length_map]; exact hz) hw (fun i x H1 e1 hi => ?_) fun p ys H1 hp e1 h1 hl hr => q p ys H1 hp e1 h1 (atPs_of (by rw [hl, List.length_map, List.length_map]) fun i v hv => ?_)
  · rw [List.getElem?_map] at hi
    cases hz' : zs[i]? with
    | none => rw [hz'] at hi; cases hi
    | some z =>
      rw [hz'] at hi
      cases hi
      intro H2 e2 Q2 q2
      exact he z H1 (e.trans e1) (List.mem_of_getElem? hz') H2 e2 Q2 fun v H3 e3 r => q2 v H3 e3 ⟨z, rfl, r⟩
  · obtain ⟨z, a, b⟩ := hr i v hv
    exact ⟨f z, by rw [List.getElem?_map, a]; rfl, b⟩
theorem okP_map {t : Str} {zs : List Str} (ht : isName t = true) (hz : ∀ z ∈ zs, isName z = true) : ∀ s ∈ zs.map (fun z => (t, z)), okP s := fun s hs => by
  obtain ⟨z, h, rfl⟩ := List.mem_map.mp hs
  exact ⟨name_ok ht, name_ok (hz z h)⟩
theorem r_Cells_leans (fx : ClK K (A .Cells) ["function", "names"]) (vs : List V) (H : Hp) (Q : VK) (E : XK) (h : sp_Cells_leans K A vs H Q E) : t_Cells_leans K E { nx := fun _ H' => Q .non H', rt := Q } (L2.start ["self", "table", "name"] vs) H := by
  obtain ⟨a, np, zs, t, rfl, f1, h1, hl, ht, hz, k⟩ := h
  unfold t_Cells_leans
  exact s_retOnce rfl (es_lcP (fun z => (t, z)) (ev_Fld f1 fx (by decide) (ev_var rfl)) (SqL.of h1) (by omega) (fun _ => rfl) fun z H1 e1 hz => er_pt (s := (t, z)) (ev_var rfl) (ev_var rfl)) (okP_map ht hz) (by rw [List.length_map]; omega) k
theorem r_Above_leans (fx : ClK K (A .Above) ["function", "names", "first"]) (vs : List V) (H : Hp) (Q : VK) (E : XK) (h : sp_Above_leans K A vs H Q E) : t_Above_leans K E { nx := fun _ H' => Q .non H', rt := Q } (L2.start ["self", "table", "name"] vs) H := by
  obtain ⟨a, np, zs, t, rfl, f1, h1, hl, ht, hz, k⟩ := h
  unfold t_Above_leans
  exact s_retOnce rfl (es_lcP (fun z => (t, z)) (ev_Fld f1 fx (by decide) (ev_var rfl)) (SqL.of h1) (by omega) (fun _ => rfl) fun z H1 e1 hz => er_pt (s := (t, z)) (ev_var rfl) (ev_var rfl)) (okP_map ht hz) (by rw [List.length_map]; omega) k
theorem r_Group_leans (fx : ClK K (A .Group) ["function", "key", "name"]) (vs : List V) (H : Hp) (Q : VK) (E : XK) (h : sp_Group_leans K A vs H Q E) : t_Group_leans K E { nx := fun _ H' => Q .non H', rt := Q } (L2.start ["self", "table"] vs) H := by
  obtain ⟨a, t, y, z, rfl, f1, f2, ht, hy, hz, k⟩ := h
  unfold t_Group_leans
  exact s_retOnce rfl (es_lst2P (er_pt (s := (t, y)) (ev_var rfl) (ev_Fld f1 fx (by decide) (ev_var rfl))) (er_pt (s := (t, z)) (ev_var rfl) (ev_Fld f2 fx (by decide) (ev_var rfl)))) (fun s hs => by
    simp only [List.mem_cons, List.mem_nil_iff, or_false] at hs
    rcases hs with rfl | rfl
    · exact ⟨name_ok ht, name_ok hy⟩
    · exact ⟨name_ok ht, name_ok hz⟩) (show 2 ≤ 100 by decide) k
theorem r_Lookup_leans (fx : ClK K (A .Lookup) ["function", "key", "other", "theirs", "names"]) (vs : List V) (H : Hp) (Q : VK) (E : XK) (h : sp_Lookup_leans K A vs H Q E) : t_Lookup_leans K E { nx := fun _ H' => Q .non H', rt := Q } (L2.start ["self", "table", "behind", "name"] vs) H := by
  obtain ⟨a, np, t, x, y, z, zs, rfl, f1, f2, f3, f4, h1, hl, ⟨ht, hx, hy, hz⟩, hzs, k⟩ := h
  unfold t_Lookup_leans
  refine q_asgPs (es_lcPN (zs := z :: zs) (fun n => (y, n)) (el_catR (xs := [.str z]) (ys := zs.map V.str) (el_lst (ea_cons (ev_Fld f3 fx (by decide) (ev_var rfl)) ea_nil) (show 1 ≤ 100000 by decide)) (ev_Fld f4 fx (by decide) (ev_var rfl)) h1 (by rw [List.length_map]; show 1 + zs.length ≤ 100000; omega)) (by show zs.length + 1 ≤ 40000; omega) (fun _ => rfl) fun n H1 e1 hn => er_pt (s := (y, n)) (ev_Fld (f2.ex e1) fx (by decide) (ev_var rfl)) (ev_var rfl)) fun p xs H1 _ e1 p1 a1 => ?_
  refine s_retOnce rfl (es_consP (er_pt (s := (t, x)) (ev_var rfl) (ev_Fld (f1.ex e1) fx (by decide) (ev_var rfl))) (ev_var rfl) p1 a1 (by rw [List.length_map]; show zs.length + 1 ≤ 10000; omega)) (fun s hs => ?_) (by rw [List.length_cons, List.length_map]; show zs.length + 1 + 1 ≤ 100; omega) fun q ys H2 e2 hq h2 a2 => k q ys H2 (e1.trans e2) (fresh_back e1 hq) h2 a2
  rcases List.mem_cons.mp hs with rfl | hs
  · exact ⟨name_ok ht, name_ok hx⟩
  · exact okP_map hy (fun n hn => (List.mem_cons.mp hn).elim (fun e => e ▸ hz) (hzs n)) s hs
theorem r_Mend_leans (fx : ClK K (A .Mend) ["function", "name"]) (vs : List V) (H : Hp) (Q : VK) (E : XK) (h : sp_Mend_leans K A vs H Q E) : t_Mend_leans K E { nx := fun _ H' => Q .non H', rt := Q } (L2.start ["self", "table"] vs) H := by
  obtain ⟨a, t, z, rfl, f1, ht, hz, k⟩ := h
  unfold t_Mend_leans
  exact es_lst1P (er_pt (s := (t, z)) (ev_var rfl) (ev_Fld f1 fx (by decide) (ev_var rfl))) H (Ex.refl H) _ fun p xs H1 hp e1 h1 a1 => k p xs H1 e1 hp h1 a1
/-! ### a rule of one of the five kinds -/
def LR (A : Cn → Addr) (H0 H : Hp) (ru : Addr) (kind : Int) (n0 n1 n2 : Str) (ws : List Str) : Prop :=
  (kind = 0 ∧ ∃ (np dx : Addr) (v : V), H ru = some (.ins (A .Cells) dx [("function", v), ("names", .ref np)]) ∧ H0 np = none ∧ H np = some (.lst (ws.map V.str))) ∨
  (kind = 1 ∧ ∃ (np dx : Addr) (v : V), H ru = some (.ins (A .Above) dx [("function", v), ("names", .ref np), ("first", .int 5)]) ∧ H0 np = none ∧ H np = some (.lst (ws.map V.str))) ∨
  (kind = 2 ∧ ∃ (dx : Addr) (v : V), H ru = some (.ins (A .Group) dx [("function", v), ("key", .str n0), ("name", .str n1)])) ∨
  (kind = 3 ∧ ∃ (np dx : Addr) (v : V), H ru = some (.ins (A .Lookup) dx [("function", v), ("key", .str n0), ("other", .str n1), ("theirs", .str n2), ("names", .ref np)]) ∧ H0 np = none ∧ H np = some (.lst (ws.map V.str))) ∨
  (kind = 4 ∧ ∃ (dx : Addr) (v : V), H ru = some (.ins (A .Mend) dx [("function", v), ("name", .str n0)]))
theorem LR.keep {H0 H1 : Hp} {ru : Addr} {kind : Int} {n0 n1 n2 : Str} {ws : List Str} (h : LR A H0 H ru kind n0 n1 n2 ws) (k : ∀ a o, H a = some o → (H0 a = none ∨ ∀ xs, o ≠ .lst xs) → (∀ ps, o ≠ .tbl ps) → H1 a = some o) : LR A H0 H1 ru kind n0 n1 n2 ws := by
  rcases h with ⟨e, np, dx, v, a, b, c⟩ | ⟨e, np, dx, v, a, b, c⟩ | ⟨e, dx, v, a⟩ | ⟨e, np, dx, v, a, b, c⟩ | ⟨e, dx, v, a⟩
  · exact .inl ⟨e, np, dx, v, k _ _ a (.inr fun _ z => nomatch z) (fun _ z => nomatch z), b, k _ _ c (.inl b) fun _ z => nomatch z⟩
  · exact .inr (.inl ⟨e, np, dx, v, k _ _ a (.inr fun _ z => nomatch z) (fun _ z => nomatch z), b, k _ _ c (.inl b) fun _ z => nomatch z⟩)
  · exact .inr (.inr (.inl ⟨e, dx, v, k _ _ a (.inr fun _ z => nomatch z) (fun _ z => nomatch z)⟩))
  · exact .inr (.inr (.inr (.inl ⟨e, np, dx, v, k _ _ a (.inr fun _ z => nomatch z) (fun _ z => nomatch z), b, k _ _ c (.inl b) fun _ z => nomatch z⟩)))
  · exact .inr (.inr (.inr (.inr ⟨e, dx, v, k _ _ a (.inr fun _ z => nomatch z) (fun _ z => nomatch z)⟩)))
theorem LR.xb {T : List (Addr × Str)} {H0 H1 : Hp} {ru : Addr} {kind : Int} {n0 n1 n2 : Str} {ws : List Str} (h : LR A H0 H ru kind n0 n1 n2 ws) (x : XB T [] H H1) : LR A H0 H1 ru kind n0 n1 n2 ws := h.keep fun a o e _ t => x.k a o e (by simp) t
def dueP (kind : Int) (n0 n1 n2 : Str) (ws : List Str) (t : Str) : List Pt := if kind < 2 then ws.map fun z => (t, z) else if kind = 2 then [(t, n0), (t, n1)] else if kind = 3 then (t, n0) :: (n2 :: ws).map fun z => (n1, z) else [(t, n0)]
theorem duePs {kind : Int} {n0 n1 n2 : Str} {ws : List Str} {t : Str} (ht : isName t = true) (h0 : isName n0 = true) (h1 : isName n1 = true) (h2 : isName n2 = true) (hw : ∀ z ∈ ws, isName z = true) (w6 : ws.length ≤ 6) : (∀ s ∈ dueP kind n0 n1 n2 ws t, okP s) ∧ (dueP kind n0 n1 n2 ws t).length ≤ 8 := by
  unfold dueP
  split
  · exact ⟨okP_map ht hw, by rw [List.length_map]; omega⟩
  · split
    · refine ⟨fun s hs => ?_, show 2 ≤ 8 by decide⟩
      simp only [List.mem_cons, List.mem_nil_iff, or_false] at hs
      rcases hs with rfl | rfl
      · exact ⟨name_ok ht, name_ok h0⟩
      · exact ⟨name_ok ht, name_ok h1⟩
    · split
      · refine ⟨fun s hs => ?_, by rw [List.length_cons, List.length_map]; show ws.length + 1 + 1 ≤ 8; omega⟩
        rcases List.mem_cons.mp hs with rfl | hs
        · exact ⟨name_ok ht, name_ok h0⟩
        · exact okP_map h1 (fun n hn => (List.mem_cons.mp hn).elim (fun e => e ▸ h2) (hw n)) s hs
      · refine ⟨fun s hs => ?_, show 1 ≤ 8 by decide⟩
        rw [List.mem_singleton.mp hs]
        exact ⟨name_ok ht, name_ok h0⟩
abbrev ldL (K : PySem.W.Frag) (A : Cn → Addr) : List (Addr × Sp) := [(A .Cells, sp_Cells_leans K A), (A .Above, sp_Above_leans K A), (A .Group, sp_Group_leans K A), (A .Lookup, sp_Lookup_leans K A), (A .Mend, sp_Mend_leans K A)]
/-- found = rule.leans(table) -/
theorem x_leans {H0 : Hp} {ru : Addr} {kind : Int} {n0 n1 n2 : Str} {ws : List Str} {t : Str} {i j : Nat} {Q : VK} (h : LR A H0 H ru kind n0 n1 n2 ws) (hi : σ[i]? = some (some (.ref ru))) (hj : σ[j]? = some (some (.str t))) (ht : isName t = true) (h0 : isName n0 = true) (h1 : isName n1 = true) (h2 : isName n2 = true) (hw : ∀ z ∈ ws, isName z = true) (w6 : ws.length ≤ 6)
    (k : RetPs (onceP (dueP kind n0 n1 n2 ws t)) H Q) : tMetD (ldL K A) "leans" E (tVar i) (tCons (tVar j) tNil) σ H Q := by
  refine ⟨_, hi, ?_⟩
  rcases h with ⟨rfl, np, dx, v, a, b, c⟩ | ⟨rfl, np, dx, v, a, b, c⟩ | ⟨rfl, dx, v, a⟩ | ⟨rfl, np, dx, v, a, b, c⟩ | ⟨rfl, dx, v, a⟩
  · exact ⟨ru, _, dx, _, _, rfl, .head _, a, rfl, _, hj, ru, np, ws, t, rfl, ⟨dx, _, a, rfl⟩, c, w6, ht, hw, k⟩
  · exact ⟨ru, _, dx, _, _, rfl, .tail _ (.head _), a, rfl, _, hj, ru, np, ws, t, rfl, ⟨dx, _, a, rfl⟩, c, w6, ht, hw, k⟩
  · exact ⟨ru, _, dx, _, _, rfl, .tail _ (.tail _ (.head _)), a, rfl, _, hj, ru, t, n0, n1, rfl, ⟨dx, _, a, rfl⟩, ⟨dx, _, a, rfl⟩, ht, h0, h1, k⟩
  · exact ⟨ru, _, dx, _, _, rfl, .tail _ (.tail _ (.tail _ (.head _))), a, rfl, _, hj, ru, np, t, n0, n1, n2, ws, rfl, ⟨dx, _, a, rfl⟩, ⟨dx, _, a, rfl⟩, ⟨dx, _, a, rfl⟩, ⟨dx, _, a, rfl⟩, c, w6, ⟨ht, h0, h1, h2⟩, hw, k⟩
  · exact ⟨ru, _, dx, _, _, rfl, .tail _ (.tail _ (.tail _ (.tail _ (.head _)))), a, rfl, _, hj, ru, t, n0, rfl, ⟨dx, _, a, rfl⟩, ht, h0, k⟩
end
end Z

set_option Elab.async false
set_option linter.all false
set_option autoImplicit false
set_option maxRecDepth 100000
set_option maxHeartbeats 4000000
/-! ev: what an expression comes to, by its form -/
local macro_rules | `(tactic| k_places) => `(tactic| (repeat' (first
  | (with_reducible exact ev_c)
  | (with_reducible exact ev_var rfl)
  | (with_reducible refine ev_chainLL ?_ ?_ ?_)
  | (with_reducible refine ev_chainLt ?_ ?_ ?_)
  | (with_reducible refine ev_op ?_ ?_ ?_)
  | (with_reducible refine ev_neg ?_)
  | (with_reducible refine et_test ?_)
  | (with_reducible refine et_B ?_)
  | (with_reducible refine et_not ?_)
  | (with_reducible refine et_and ?_ (fun _ => ?_))
  | (with_reducible refine et_or ?_ (fun _ => ?_))
  | (with_reducible refine ev_andV ?_ (fun _ => ?_))
  | (with_reducible refine ev_orV ?_ (fun _ => ?_))
  | (with_reducible refine ev_notV ?_)
  | (with_reducible exact rv_addI)
  | (with_reducible exact rv_subI)
  | (with_reducible exact rv_lt)
  | (with_reducible exact rv_le)
  | (with_reducible exact rv_gt)
  | (with_reducible exact rv_ge)
  | (with_reducible exact rv_isB)
  | (with_reducible exact rv_isnB)
  | (with_reducible exact rv_isN)
  | (with_reducible exact rv_isnN)
  | (with_reducible exact rv_eqS rfl)
  | (with_reducible exact rv_neS rfl)
  | (with_reducible exact rv_inStr)
  | (with_reducible exact rv_ninStr)
  | (with_reducible exact rv_mod (by first | decide | omega | assumption))
  | (with_reducible exact rv_div (by first | decide | omega | assumption))
  | (with_reducible exact rv_pow (by decide))
  | (with_reducible refine ed_i ?_; done)
  | (with_reducible exact ea_nil)
  | (with_reducible refine ea_cons ?_ ?_)
  | (with_reducible exact eds_nil)
  | (with_reducible refine eds_cons ?_ ?_)
  | (with_reducible exact ed_dnew)
  | (with_reducible refine ed_lst ?_ (by simp only [List.length_cons, List.length_nil]; omega))
  | (with_reducible refine ed_tup ?_ (by simp only [List.length_cons, List.length_nil]; omega)))))
namespace Z
open PySem PySem.Spec PyProof.Rows L2 Evl NdefX LamX
/-! ### rules are made -/
section
variable {K : PySem.W.Frag} {A : Cn → Addr} {σ : L2.St} {H H' : Hp} {te tl ta tb tc td t1 t2 : TE} {D : Ends} {tz : TS} {E : L2.St → XK} {Tb : List (Addr × Str)} {mk : Addr → LF} {Q : VK} {sp : Addr} {ws : List Str} {n0 n1 n2 : Str}
theorem back2 {H H1 H2 : Hp} {ru dx np : Addr} {C : Addr} (e1 : Ex H H1) (e2 : ExT Tb H1 H2) (n : upd (upd H2 dx (.own ru)) ru (.ins C dx []) np = none) : H np = none := fresh_back e1 (e2.n _ (upd_no (upd_no n)))
theorem x_mkCells (h : Ev ta σ H (.ref sp)) (hT : Tabs Tb H) (hs : H sp = some (.lst (ws.map V.str))) (hl : ws.length ≤ 6) (hz : ∀ z ∈ ws, isName z = true) (k : ∀ ru H', XB Tb [] H H' → LR A H H' ru 0 n0 n1 n2 ws → Q (.ref ru) H') :
    tMakS (A .Cells) (sp_Cells_init K A) E (tCons ta (tCons (tLamE Tb mk) tNil)) σ H Q :=
  h H (Ex.refl H) _ fun H1 e1 => ⟨hT.ext fun b o e => e1 b o e, fun f c H2 e2 _ _ _ => fun ru dx m1 m2 m3 => by
    have h2 : H2 sp = some (.lst (ws.map V.str)) := e2.e _ _ (e1 _ _ hs) fun _ z => nomatch z
    exact ⟨ru, dx, sp, ws, _, rfl, upd_same, (upd_ne (ne_of_none h2 m1)).trans ((upd_ne (ne_of_none h2 m2)).trans h2), hl, hz, xb_made (Tb := Tb) m1 m2 m3 fun H8 x ⟨rp, r0, r1, r2⟩ => ⟨rfl, k ru H8 (((XB.of e1).trans (XB.ofT e2)).trans x) (.inl ⟨rfl, rp, dx, _, r2, back2 e1 e2 r0, r1⟩)⟩⟩⟩
theorem x_mkAbove (h : Ev ta σ H (.ref sp)) (hT : Tabs Tb H) (hs : H sp = some (.lst (ws.map V.str))) (hl : ws.length ≤ 6) (hz : ∀ z ∈ ws, isName z = true) (k : ∀ ru H', XB Tb [] H H' → LR A H H' ru 1 n0 n1 n2 ws → Q (.ref ru) H') :
    tMakS (A .Above) (sp_Above_init K A) E (tCons (tC (.int 5)) (tCons ta (tCons (tLamE Tb mk) tNil))) σ H Q :=
  h H (Ex.refl H) _ fun H1 e1 => ⟨hT.ext fun b o e => e1 b o e, fun f c H2 e2 _ _ _ => fun ru dx m1 m2 m3 => by
    have h2 : H2 sp = some (.lst (ws.map V.str)) := e2.e _ _ (e1 _ _ hs) fun _ z => nomatch z
    exact ⟨ru, dx, sp, ws, _, 5, rfl, upd_same, (upd_ne (ne_of_none h2 m1)).trans ((upd_ne (ne_of_none h2 m2)).trans h2), hl, hz, by decide +kernel, xb_made (Tb := Tb) m1 m2 m3 fun H8 x ⟨rp, r0, r1, r2⟩ => ⟨rfl, k ru H8 (((XB.of e1).trans (XB.ofT e2)).trans x) (.inr (.inl ⟨rfl, rp, dx, _, r2, back2 e1 e2 r0, r1⟩))⟩⟩⟩
theorem x_mkGroup (h1 : Ev ta σ H (.str n0)) (h2 : Ev tb σ H (.str n1)) (hT : Tabs Tb H) (y1 : isName n0 = true) (y2 : isName n1 = true) (k : ∀ ru H', XB Tb [] H H' → LR A H H' ru 2 n0 n1 n2 ws → Q (.ref ru) H') :
    tMakS (A .Group) (sp_Group_init K A) E (tCons ta (tCons tb (tCons (tLamE Tb mk) tNil))) σ H Q :=
  h1 H (Ex.refl H) _ fun H1 e1 => h2 H1 e1 _ fun H1b e1b => ⟨hT.ext fun b o e => (e1.trans e1b) b o e, fun f c H2 e2 _ _ _ => fun ru dx m1 m2 m3 =>
    ⟨ru, dx, n0, n1, _, rfl, upd_same, y1, y2, xb_made (Tb := Tb) m1 m2 m3 fun H8 x r2 => ⟨rfl, k ru H8 (((XB.of (e1.trans e1b)).trans (XB.ofT e2)).trans x) (.inr (.inr (.inl ⟨rfl, dx, _, r2⟩)))⟩⟩⟩
theorem x_mkLookup (h1 : Ev ta σ H (.str n0)) (h2 : Ev tb σ H (.str n1)) (h3 : Ev tc σ H (.str n2)) (h : Ev td σ H (.ref sp)) (hT : Tabs Tb H) (y1 : isName n0 = true) (y2 : isName n1 = true) (y3 : isName n2 = true) (hs : H sp = some (.lst (ws.map V.str))) (hl : ws.length ≤ 6) (hz : ∀ z ∈ ws, isName z = true)
    (k : ∀ ru H', XB Tb [] H H' → LR A H H' ru 3 n0 n1 n2 ws → Q (.ref ru) H') : tMakS (A .Lookup) (sp_Lookup_init K A) E (tCons ta (tCons tb (tCons tc (tCons td (tCons (tLamE Tb mk) tNil))))) σ H Q :=
  h1 H (Ex.refl H) _ fun Ha ea => h2 Ha ea _ fun Hb eb => h3 Hb (ea.trans eb) _ fun Hc ec => h Hc ((ea.trans eb).trans ec) _ fun H1 ed => by
    have e1 := ((ea.trans eb).trans ec).trans ed
    refine ⟨hT.ext fun b o e => e1 b o e, fun f c H2 e2 _ _ _ => fun ru dx m1 m2 m3 => ?_⟩
    have h2 : H2 sp = some (.lst (ws.map V.str)) := e2.e _ _ (e1 _ _ hs) fun _ z => nomatch z
    exact ⟨ru, dx, sp, ws, n0, n1, n2, _, rfl, upd_same, (upd_ne (ne_of_none h2 m1)).trans ((upd_ne (ne_of_none h2 m2)).trans h2), hl, hz, ⟨y1, y2, y3⟩, xb_made (Tb := Tb) m1 m2 m3 fun H8 x ⟨rp, r0, r1, r2⟩ => ⟨rfl, k ru H8 (((XB.of e1).trans (XB.ofT e2)).trans x) (.inr (.inr (.inr (.inl ⟨rfl, rp, dx, _, r2, back2 e1 e2 r0, r1⟩))))⟩⟩
theorem x_mkMend (h1 : Ev ta σ H (.str n0)) (hT : Tabs Tb H) (y1 : isName n0 = true) (k : ∀ ru H', XB Tb [] H H' → LR A H H' ru 4 n0 n1 n2 ws → Q (.ref ru) H') : tMakS (A .Mend) (sp_Mend_init K A) E (tCons ta (tCons (tLamE Tb mk) tNil)) σ H Q :=
  h1 H (Ex.refl H) _ fun H1 e1 => ⟨hT.ext fun b o e => e1 b o e, fun f c H2 e2 _ _ _ => fun ru dx m1 m2 m3 =>
    ⟨ru, dx, n0, _, rfl, upd_same, y1, xb_made (Tb := Tb) m1 m2 m3 fun H8 x r2 => ⟨rfl, k ru H8 (((XB.of e1).trans (XB.ofT e2)).trans x) (.inr (.inr (.inr (.inr ⟨rfl, dx, _, r2⟩))))⟩⟩⟩
/-- [words[a drawn one] for j in range(n)] -/
theorem q_drawnNames {tas : TA} {n : Int} {zs : List Str} {i j : Nat} {ls : List Nat} (h : EvA tas σ H [.int n]) (hn : 0 ≤ n ∧ n ≤ 40000) (hw : ∀ x, wipe ((wipe σ ls).set j (some x)) ls = wipe σ ls)
    (he : ∀ (m : Nat) H1, Ex H H1 → (m : Int) < n → ∃ z ∈ zs, Ev te ((wipe σ ls).set j (some (.int (m : Int)))) H1 (.str z))
    (k : ∀ (p : Addr) (ts : List Str) (H1 : Hp), H p = none → Ex H H1 → H1 p = some (.lst (ts.map V.str)) → ts.length = n.toNat → (∀ t ∈ ts, t ∈ zs) → tz D (σ.set i (some (.ref p))) H1) : tSeq (tAsg (tLc (iRng1 tas) (gName j) tYes te ls) (gName i)) tz D σ H := by
  refine er_lcR (Q := fun v H1 => tz D (σ.set i (some v)) H1) (R := fun _ v _ => ∃ z ∈ zs, v = .str z) (fun i v H H' h _ => h) h hn hw (fun m H1 e1 hm => ?_) fun p ys H1 hp e1 h1 hl hr => ?_
  · obtain ⟨z, hz, ev⟩ := he m H1 e1 hm
    intro H2 e2 Q2 q2
    exact ev H2 e2 Q2 fun H3 e3 => q2 _ H3 e3 ⟨z, hz, rfl⟩
  · obtain ⟨ts, rfl, hts⟩ := strs_of ys fun y hy => by
      obtain ⟨i, hi⟩ := List.mem_iff_getElem?.mp hy
      exact hr i y hi
    rw [List.length_map] at hl
    exact k p ts H1 hp e1 h1 hl hts
/-- words[lo + a drawn one] -/
theorem name_rng {zs : List Str} {i : Int} (h0 : 0 ≤ i) (h : i < zs.length) : ∃ z ∈ zs, atI (zs.map V.str) i = some (.str z) := by
  have hl : i.toNat < zs.length := by omega
  refine ⟨zs[i.toNat], List.getElem_mem hl, ?_⟩
  rw [atI_in .non h0 (by rw [List.length_map]; omega), List.getD_eq_getElem?_getD, List.getElem?_map, List.getElem?_eq_getElem hl]
  rfl
theorem tyLst {l : Addr} {xs : List V} (h : H l = some (.lst xs)) : tyV K "list" (.ref l) H := .inl ⟨rfl, xs, SqL.of h⟩
theorem q_clear {l : Addr} {xs : List V} {i : Nat} (hi : σ[i]? = some (some (.ref l))) (h : H l = some (.lst xs)) (k : tz D σ (upd H l (.lst []))) : tSeq (tDrop (tBM0 K "list" rClear (tVar i))) tz D σ H :=
  ⟨_, hi, tyLst h, l, xs, rfl, rfl, h, k⟩
theorem es_cat {ss tt : List Pt} (h1 : EvPs ta σ H ss) (h2 : EvPs tb σ H tt) (hl : ss.length + tt.length ≤ 100000) : EvPs (tOp (rAddA K) ta tb) σ H (ss ++ tt) := fun H1 e Q k =>
  h1 H1 e _ fun p xs H2 _ e2 g2 a2 => h2 H2 (e.trans e2) _ fun q ys H3 _ e3 g3 a3 => .inr (.inr (.inl ⟨p, q, xs, ys, rfl, rfl, e3 _ _ g2, g3, sz_of (by rw [a2.1, a3.1]; exact hl), fun u hu => k u _ _ (fresh_back (e2.trans e3) hu) ((e2.trans e3).trans (Ex.new hu)) upd_same (atPs_app (a2.tup (.of_ex (e3.trans (Ex.new hu)))) (a3.tup (.of_ex (Ex.new hu))))⟩))
theorem LR.fresh {H0 H1 : Hp} {ru : Addr} {kind : Int} (h : LR A H1 H ru kind n0 n1 n2 ws) (n : ∀ a, H1 a = none → H0 a = none) : LR A H0 H ru kind n0 n1 n2 ws := by
  rcases h with ⟨e, np, dx, v, a, b, c⟩ | ⟨e, np, dx, v, a, b, c⟩ | ⟨e, dx, v, a⟩ | ⟨e, np, dx, v, a, b, c⟩ | ⟨e, dx, v, a⟩
  · exact .inl ⟨e, np, dx, v, a, n _ b, c⟩
  · exact .inr (.inl ⟨e, np, dx, v, a, n _ b, c⟩)
  · exact .inr (.inr (.inl ⟨e, dx, v, a⟩))
  · exact .inr (.inr (.inr (.inl ⟨e, np, dx, v, a, n _ b, c⟩)))
  · exact .inr (.inr (.inr (.inr ⟨e, dx, v, a⟩)))
theorem ed_ofPs {ps : List Pt} (h : EvPs te σ H ps) : EvD te σ H (.list (ps.map dP)) := fun H1 e Q q => h H1 e Q fun p xs H2 _ e2 h2 a2 => q _ H2 e2 (.lst h2 a2.dt)
theorem q_ifMid {tt : TT} {tu : TS} {b : Bool} (M : Hp → Prop) (h : EvT tt σ H b) (h1 : ∀ H1, Ex H H1 → ∀ Qn : L2.St → Hp → Prop, (∀ H', M H' → Qn σ H') → tu { D with nx := Qn } σ H1) (h2 : ∀ H1, Ex H H1 → M H1) (k : ∀ H', M H' → tz D σ H') : tSeq (tIfS tt tu tNext) tz D σ H :=
  q_if h (fun _ H1 e => h1 H1 e _ k) fun _ H1 e => k H1 (h2 H1 e)
theorem s_setLA {l : Addr} {xs : List V} {v : V} {j : Nat} (hl : H l = some (.lst xs)) (h : Ev te σ H v) (ho : Ev ta σ H (.ref l)) (hi : Ev tb σ H (.int (j : Int))) (hj : j < xs.length) (k : ∀ H1, Ex H H1 → D.nx σ (upd H1 l (.lst (xs.set j v)))) : tAsg te (gSub ta tb rSetA) D σ H :=
  h H (Ex.refl H) _ fun H1 e1 => ho H1 e1 _ fun H2 e2 => hi H2 (e1.trans e2) _ fun H3 e3 => .inl ⟨l, xs, j, j, rfl, rfl, ((e1.trans e2).trans e3) _ _ hl, ixN_nat hj, k H3 ((e1.trans e2).trans e3)⟩
theorem q_call1 {sp : Sp} {tas : TA} {vs : List V} {i : Nat} (h : EvA tas σ H vs) (k : ∀ H1, Ex H H1 → sp vs H1 (fun v H2 => tz D (σ.set i (some v)) H2) (E σ)) : tSeq (tAsg (tCallS sp E tas) (gName i)) tz D σ H := h H (Ex.refl H) _ k
theorem el_more {p : Addr} {v1 v2 : V} {c : Nat} (hc : σ[c]? = some (some (.ref p))) (hp : H p = some (.lst [v1, v2])) : EvL (tOp (rAddA K) (tVar c) (tSl (rSlA K) (tVar c) tNoPart (tPart (tC (.int 1))))) σ H [v1, v2, v1] := fun H1 e1 Q q =>
  ⟨_, hc, el_slA (K := K) (ev_var hc) eo_none (eo_some (ev_c (v := .int 1))) (SqL.of (e1 _ _ hp)) H1 (Ex.refl H1) _ fun d H2 _ e2 h2 => .inr (.inr (.inl ⟨p, d, [v1, v2], _, rfl, rfl, (e1.trans e2) _ _ hp, h2, sz_of (show 2 + 1 ≤ 100000 by decide), fun y hy => q y _ (fresh_back e2 hy) (e2.trans (Ex.new hy)) upd_same⟩))⟩
theorem s_forNLv {xs : List V} {tl : TE} {tu : TS} {j : Nat} (h : EvL tl σ H xs) (Pv : Addr → Nat → L2.St → Hp → Prop) (h0 : ∀ p H1, H p = none → Ex H H1 → H1 p = some (.lst xs) → Pv p 0 σ H1) (hl : ∀ p i σ' H', i ≤ xs.length → Pv p i σ' H' → SqL K H' p xs)
    (hs : ∀ p i x σ' H', xs[i]? = some x → Pv p i σ' H' → tu { D with nx := Pv p (i + 1), ct := Pv p (i + 1), bk := D.nx } (σ'.set j (some x)) H') (hd : ∀ p σ' H', Pv p xs.length σ' H' → D.nx σ' H') : tFor (iList K tl) (gName j) tu D σ H := s_forNL h Pv h0 hl hs hd
end
end Z

set_option Elab.async false
set_option linter.all false
set_option autoImplicit false
set_option maxRecDepth 100000
set_option maxHeartbeats 4000000
/-! ev: what an expression comes to, by its form -/
local macro_rules | `(tactic| k_places) => `(tactic| (repeat' (first
  | (with_reducible exact ev_c)
  | (with_reducible exact ev_var rfl)
  | (with_reducible refine ev_chainLL ?_ ?_ ?_)
  | (with_reducible refine ev_chainLt ?_ ?_ ?_)
  | (with_reducible refine ev_op ?_ ?_ ?_)
  | (with_reducible refine ev_neg ?_)
  | (with_reducible refine et_test ?_)
  | (with_reducible refine et_B ?_)
  | (with_reducible refine et_not ?_)
  | (with_reducible refine et_and ?_ (fun _ => ?_))
  | (with_reducible refine et_or ?_ (fun _ => ?_))
  | (with_reducible refine ev_andV ?_ (fun _ => ?_))
  | (with_reducible refine ev_orV ?_ (fun _ => ?_))
  | (with_reducible refine ev_notV ?_)
  | (with_reducible exact rv_addI)
  | (with_reducible exact rv_subI)
  | (with_reducible exact rv_lt)
  | (with_reducible exact rv_le)
  | (with_reducible exact rv_gt)
  | (with_reducible exact rv_ge)
  | (with_reducible exact rv_isB)
  | (with_reducible exact rv_isnB)
  | (with_reducible exact rv_isN)
  | (with_reducible exact rv_isnN)
  | (with_reducible exact rv_eqS rfl)
  | (with_reducible exact rv_neS rfl)
  | (with_reducible exact rv_inStr)
  | (with_reducible exact rv_ninStr)
  | (with_reducible exact rv_mod (by first | decide | omega | assumption))
  | (with_reducible exact rv_div (by first | decide | omega | assumption))
  | (with_reducible exact rv_pow (by decide))
  | (with_reducible refine ed_i ?_; done)
  | (with_reducible exact ea_nil)
  | (with_reducible refine ea_cons ?_ ?_)
  | (with_reducible exact eds_nil)
  | (with_reducible refine eds_cons ?_ ?_)
  | (with_reducible exact ed_dnew)
  | (with_reducible refine ed_lst ?_ (by simp only [List.length_cons, List.length_nil]; omega))
  | (with_reducible refine ed_tup ?_ (by simp only [List.length_cons, List.length_nil]; omega)))))
namespace Z
open PySem PySem.Spec PyProof.Rows L2 Evl NdefX LamX
/-! ### functions that note what they are called with; reckoning -/
theorem XB.newP {T : List (Addr × Str)} {F : List Addr} {H H1 H2 : Hp} {a : Addr} (x : XB T F H H1) (y : XB T (a :: F) H1 H2) (h : H a = none) : XB T F H H2 :=
  ⟨fun b o e n t => y.k b o (x.k b o e n t) (by simp [n, ne_of_none e h]) t, x.i.trans y.i, fun b q => x.n b (y.n b q), fun t => y.t (x.t t)⟩
/-- a thing: a scalar, a tuple, a list -/
def ThV (H : Hp) (v : V) (d : PyData) : Prop := (∀ H', Dt H' v d) ∨ (∃ a xs, v = .ref a ∧ H a = some (.tup xs) ∧ ∀ H' : Hp, H' a = some (.tup xs) → Dt H' v d) ∨ ∃ a xs, v = .ref a ∧ H a = some (.lst xs) ∧ ∀ H' : Hp, H' a = some (.lst xs) → Dt H' v d
theorem ThV.dt {H : Hp} {v : V} {d : PyData} (h : ThV H v d) : Dt H v d := by
  rcases h with h | ⟨a, xs, _, b, c⟩ | ⟨a, xs, _, b, c⟩
  · exact h H
  · exact c H b
  · exact c H b
theorem ThV.xb {T : List (Addr × Str)} {F : List Addr} {H H' : Hp} {v : V} {d : PyData} (x : XB T F H H') (n : ∀ a ∈ F, v ≠ .ref a) (h : ThV H v d) : ThV H' v d := by
  rcases h with h | ⟨a, xs, e, b, c⟩ | ⟨a, xs, e, b, c⟩
  · exact .inl h
  · exact .inr (.inl ⟨a, xs, e, x.i _ _ b True.intro, c⟩)
  · exact .inr (.inr ⟨a, xs, e, x.k _ _ b (fun z => n a z e) (fun _ z => nomatch z), c⟩)
theorem ThV.ex {H H' : Hp} {v : V} {d : PyData} (e : Ex H H') (h : ThV H v d) : ThV H' v d := h.xb (T := []) (F := []) (XB.of e) (fun a z => by cases z)
def settledD (d : PyData) : PyData := if isValueD d = true then d else .tuple [.str "fault", .str "odd"]
def sp_settled (K : PySem.W.Frag) : Sp := sp1 short2 settledD
/-- the function of a rule: it notes a copy of the list, changes the list, tells a thing -/
def spT (Tb : List (Addr × Str)) (pn : Addr) (v : V) : Sp := fun vs H Q _ => ∃ (p : Addr) (ns : List Int) (xs : List V), vs = [.ref p] ∧ H p = some (.lst (ns.map V.int)) ∧ H pn = some (.lst xs) ∧ p ≠ pn ∧ xs.length < 1000 ∧ ns.length < 1000 ∧
  ∀ b H', XB Tb [p, pn] H H' → H b = none → H' b = some (.lst (ns.map V.int)) → H' pn = some (.lst (xs ++ [.ref b])) → Q v H'
def sp_law_told (K : PySem.W.Frag) : Sp := fun vs H Q _ => ∃ (p pn : Addr) (v : V) (ns : List Int) (xs : List V), vs = [.ref pn, .ref p, v] ∧ H p = some (.lst (ns.map V.int)) ∧ H pn = some (.lst xs) ∧ p ≠ pn ∧ xs.length < 1000 ∧ ns.length < 1000 ∧
  ∀ b H', (∀ T, XB T [p, pn] H H') → H b = none → H' b = some (.lst (ns.map V.int)) → H' pn = some (.lst (xs ++ [.ref b])) → Q v H'
def sp_Rule_reckon (K : PySem.W.Frag) (CA : Hp → Addr → Sp → Prop) (Tb : List (Addr × Str)) : Sp := fun vs H Q _ => ∃ (a C dx f p pn : Addr) (fs : List (Str × V)) (v : V) (d : PyData) (ns : List Int) (xs : List V), vs = [.ref a, .ref p] ∧ H a = some (.ins C dx fs) ∧ Cls K C ∧ NoAttr K C "function" ∧ fs.lookup ("function" : Str) = some (.ref f) ∧ CA H f (spT Tb pn v) ∧
  H p = some (.lst (ns.map V.int)) ∧ H pn = some (.lst xs) ∧ xs.length < 1000 ∧ ns.length < 1000 ∧ short2 d ∧ ThV H v d ∧ v ≠ .ref pn ∧
  ∀ b w H', XB Tb [pn] H H' → H b = none → H' b = some (.lst (ns.map V.int)) → H' pn = some (.lst (xs ++ [.ref b])) → Dt H' w (settledD d) → Q w H'
/-- names: "thing" -/
def t_settled (K : PySem.W.Frag) (E : XK) : TS :=
  tSeq (tIfS (tB (tCallS (sp_is_value K) (WE (fun cls d _ H => E cls d H)) (tCons (tVar 0) tNil))) (tRet (tVar 0)) tNext)
    (tRet (tTup (tCons (tC (.str "fault")) (tCons (tC (.str "odd")) tNil))))
/-- names: "self", "some" -/
def t_Rule_reckon (K : PySem.W.Frag) (CA : Hp → Addr → Sp → Prop) (E : XK) : TS :=
  tRet (tCallS (sp_settled K) (WE (fun cls d _ H => E cls d H)) (tCons (tCallF K CA "function" (tVar 0) (tCons (tCB (rListA K) (tCons (tVar 1) tNil)) tNil)) tNil))
/-- names: "notes", "xs", "thing" -/
def t_law_told (K : PySem.W.Frag) (E : XK) : TS :=
  tSeq (tDrop (tBM K "list" rAppend (tVar 0) (tCons (tCB (rListA K) (tCons (tVar 1) tNil)) tNil)))
    (tSeq (tDrop (tBM K "list" rAppend (tVar 1) (tCons (tC (.int 5)) tNil)))
    (tRet (tVar 2)))
section
variable {K : PySem.W.Frag} {A : Cn → Addr} {CA : Hp → Addr → Sp → Prop} {Tb : List (Addr × Str)} {σ : L2.St} {H H' : Hp} {te tl ta tb t1 t2 : TE} {D : Ends} {tz : TS} {E : L2.St → XK}
theorem len_settled (vs : List V) (H : Hp) (Q : VK) (E : XK) (h : sp_settled K vs H Q E) : vs.length = 1 := by obtain ⟨_, _, rfl, _⟩ := sp1_open h; rfl
theorem len_law_told (vs : List V) (H : Hp) (Q : VK) (E : XK) (h : sp_law_told K vs H Q E) : vs.length = 3 := by obtain ⟨_, _, _, _, _, rfl, _⟩ := h; rfl
theorem len_Rule_reckon (vs : List V) (H : Hp) (Q : VK) (E : XK) (h : sp_Rule_reckon K CA Tb vs H Q E) : vs.length = 2 := by obtain ⟨_, _, _, _, _, _, _, _, _, _, _, rfl, _⟩ := h; rfl
theorem r_settled (vs : List V) (H : Hp) (Q : VK) (E : XK) (h : sp_settled K vs H Q E) : t_settled K E { nx := fun _ H' => Q .non H', rt := Q } (L2.start ["thing"] vs) H := by
  obtain ⟨v, d, rfl, r, hs, k⟩ := sp1_open h
  unfold t_settled
  unfold settledD at k
  refine q_when (et_B (ev_spB (g := isValueD) (pre := short2) (ed_var rfl r) hs)) (fun hb H1 e1 => ?_) (fun hb H1 e1 => ?_)
  · rw [if_pos hb] at k
    exact s_retD (ed_var rfl (r.ex e1)) fun v2 H2 e2 r2 => k v2 H2 (e1.trans e2) r2
  · rw [if_neg (by rw [hb]; decide)] at k
    exact s_retD (ed_tup (eds_cons (ed_s ev_c) (eds_cons (ed_s ev_c) eds_nil))) fun v2 H2 e2 r2 => k v2 H2 (e1.trans e2) r2
theorem r_law_told (vs : List V) (H : Hp) (Q : VK) (E : XK) (h : sp_law_told K vs H Q E) : t_law_told K E { nx := fun _ H' => Q .non H', rt := Q } (L2.start ["notes", "xs", "thing"] vs) H := by
  obtain ⟨p, pn, v, ns, xs, rfl, h1, h2, ne, l1, l2, k⟩ := h
  unfold t_law_told
  refine q_appL h2 (ev_var rfl) (el_listA (ev_var rfl) (SqL.of h1)) (by omega) fun b H1 hb e1 g1 => ?_
  have bn : b ≠ pn := fun z => by rw [z, h2] at hb; cases hb
  have bp : b ≠ p := fun z => by rw [z, h1] at hb; cases hb
  have p1 : upd H1 pn (.lst (xs ++ [.ref b])) p = some (.lst (ns.map V.int)) := (upd_ne ne).trans (e1 _ _ h1)
  refine q_app p1 (ev_var rfl) (ev_c (v := .int 5)) (by rw [List.length_map]; omega) fun H2 e2 => ?_
  refine s_ret (ev_var rfl) fun H3 e3 => k b H3 (fun T => ?_) hb (e3 _ _ ((upd_ne bp).trans (e2 _ _ ((upd_ne bn).trans g1)))) (e3 _ _ ((upd_ne ne.symm).trans (e2 _ _ upd_same)))
  have x1 : XB T [p, pn] H (upd H1 pn (.lst (xs ++ [.ref b]))) := (XB.of e1).trans (XB.upd (e1 _ _ h2) (fun z => z) (fun _ z => nomatch z) (by simp))
  exact (x1.trans ((XB.of e2).trans (XB.upd (e2 _ _ p1) (fun z => z) (fun _ z => nomatch z) (by simp)))).trans (XB.of e3)
theorem r_Rule_reckon (hc : CAst CA) (vs : List V) (H : Hp) (Q : VK) (E : XK) (h : sp_Rule_reckon K CA Tb vs H Q E) : t_Rule_reckon K CA E { nx := fun _ H' => Q .non H', rt := Q } (L2.start ["self", "some"] vs) H := by
  obtain ⟨a, C, dx, f, p, pn, fs, v, d, ns, xs, rfl, ha, cl, na, lk, ca, hp, hn, l1, l2, sd, th, vn, k⟩ := h
  unfold t_Rule_reckon
  refine ⟨_, rfl, a, C, dx, fs, f, spT Tb pn v, rfl, ha, cl, na, lk, ca, el_listA (K := K) (ev_var rfl) (SqL.of hp) H (Ex.refl H) _ fun p' H1 hp' e1 h1 => ⟨hc _ _ _ _ ca (.of e1), p', ns, xs, rfl, h1, e1 _ _ hn, (ne_of_none hn hp').symm, l1, l2, fun b H2 x2 hb hb2 hpn => ?_⟩⟩
  have vp : v ≠ .ref p' := fun z => by
    rcases th with t | ⟨a, xs, e, b, _⟩ | ⟨a, xs, e, b, _⟩
    · have := t (fun _ => none)
      rw [z] at this
      cases this <;> rename_i q _ <;> cases q
    · rw [e] at z; cases z; rw [hp'] at b; cases b
    · rw [e] at z; cases z; rw [hp'] at b; cases b
  have x02 : XB Tb [pn] H H2 := (XB.of e1).newP x2 hp'
  have th2 : ThV H2 v d := th.xb x02 fun a ha => by rw [List.mem_singleton.mp ha]; exact vn
  exact ⟨[d], rfl, .cons th2.dt .nil, sd, fun w H3 e3 r => k b w H3 (x02.trans (XB.of e3)) (fresh_back e1 hb) (e3 _ _ hb2) (e3 _ _ hpn) r⟩
end
end Z

set_option Elab.async false
set_option linter.all false
set_option autoImplicit false
set_option maxRecDepth 100000
set_option maxHeartbeats 4000000
/-! ev: what an expression comes to, by its form -/
local macro_rules | `(tactic| k_places) => `(tactic| (repeat' (first
  | (with_reducible exact ev_c)
  | (with_reducible exact ev_var rfl)
  | (with_reducible refine ev_chainLL ?_ ?_ ?_)
  | (with_reducible refine ev_chainLt ?_ ?_ ?_)
  | (with_reducible refine ev_op ?_ ?_ ?_)
  | (with_reducible refine ev_neg ?_)
  | (with_reducible refine et_test ?_)
  | (with_reducible refine et_B ?_)
  | (with_reducible refine et_not ?_)
  | (with_reducible refine et_and ?_ (fun _ => ?_))
  | (with_reducible refine et_or ?_ (fun _ => ?_))
  | (with_reducible refine ev_andV ?_ (fun _ => ?_))
  | (with_reducible refine ev_orV ?_ (fun _ => ?_))
  | (with_reducible refine ev_notV ?_)
  | (with_reducible exact rv_addI)
  | (with_reducible exact rv_subI)
  | (with_reducible exact rv_lt)
  | (with_reducible exact rv_le)
  | (with_reducible exact rv_gt)
  | (with_reducible exact rv_ge)
  | (with_reducible exact rv_isB)
  | (with_reducible exact rv_isnB)
  | (with_reducible exact rv_isN)
  | (with_reducible exact rv_isnN)
  | (with_reducible exact rv_eqS rfl)
  | (with_reducible exact rv_neS rfl)
  | (with_reducible exact rv_inStr)
  | (with_reducible exact rv_ninStr)
  | (with_reducible exact rv_mod (by first | decide | omega | assumption))
  | (with_reducible exact rv_div (by first | decide | omega | assumption))
  | (with_reducible exact rv_pow (by decide))
  | (with_reducible refine ed_i ?_; done)
  | (with_reducible exact ea_nil)
  | (with_reducible refine ea_cons ?_ ?_)
  | (with_reducible exact eds_nil)
  | (with_reducible refine eds_cons ?_ ?_)
  | (with_reducible exact ed_dnew)
  | (with_reducible refine ed_lst ?_ (by simp only [List.length_cons, List.length_nil]; omega))
  | (with_reducible refine ed_tup ?_ (by simp only [List.length_cons, List.length_nil]; omega)))))
namespace Z
open PySem PySem.Spec PyProof.Rows L2 Evl NdefX LamX
/-! ### rules whose function notes: the lambda, the makers, reckon of one of the five kinds -/
def splT (K : PySem.W.Frag) : List (Option V) → Sp := fun ws vs H Q _ => ∃ (pn : Addr) (v x : V), ws = [some (.ref pn), some v] ∧ vs = [x] ∧ sp_law_told K [.ref pn, x, v] H Q E0
def tlT (K : PySem.W.Frag) : TE := tCall (sp_law_told K) [] E0 (tCons (tVar 1) (tCons (tVar 0) (tCons (tVar 2) tNil)))
theorem lenlT {K : PySem.W.Frag} (ws : List (Option V)) (vs : List V) (H : Hp) (Q : VK) (E : XK) (h : splT K ws vs H Q E) : vs.length = 1 := by obtain ⟨_, _, _, _, rfl, _⟩ := h; rfl
theorem rlT {K : PySem.W.Frag} (ws : List (Option V)) (vs : List V) (H : Hp) (Q : VK) (h : splT K ws vs H Q E0) : tlT K (startF ["xs", "notes", "thing"] vs ws) H Q := by
  obtain ⟨pn, v, x, rfl, rfl, h⟩ := h
  exact ⟨_, rfl, _, rfl, _, rfl, h⟩
abbrev five : List Cn := [.Cells, .Above, .Group, .Lookup, .Mend]
def RKd (A : Cn → Addr) (CA : Hp → Addr → Sp → Prop) (H : Hp) (ru : Addr) (sp : Sp) : Prop := ∃ (k : Cn) (dx f : Addr) (fs : List (Str × V)), k ∈ five ∧ H ru = some (.ins (A k) dx fs) ∧ fs.lookup ("function" : Str) = some (.ref f) ∧ fs.lookup ("reckon" : Str) = none ∧ CA H f sp
theorem RKd.xb {A : Cn → Addr} {CA : Hp → Addr → Sp → Prop} {H H' : Hp} {ru : Addr} {sp : Sp} {T : List (Addr × Str)} {F : List Addr} (hc : CAst CA) (h : RKd A CA H ru sp) (x : XB T F H H') (n : ∀ a ∈ F, ∃ xs, H a = some (.lst xs)) : RKd A CA H' ru sp := by
  obtain ⟨k, dx, f, fs, m, a, b, c, d⟩ := h
  exact ⟨k, dx, f, fs, m, x.k _ _ a (fun z => by obtain ⟨xs, q⟩ := n _ z; rw [a] at q; cases q) (fun _ z => nomatch z), b, c, hc _ _ _ _ d x.i.kp⟩
structure InsK (K : PySem.W.Frag) (C : Addr) : Prop where
  a : PySem.W.findIn K (.ref C) "__class__" = some (some (.builtin "object.__class__"))
  n : PySem.W.specialIn K (.builtin "object.__class__") "__get__" = some (some (.builtin "getset_descriptor.__get__"))
  t : PySem.W.takesIn K (.builtin "object.__class__") = some true
  m : PySem.W.mroIn K C (.type "object") = some true
def FxR (K : PySem.W.Frag) (A : Cn → Addr) : Prop := ∀ k ∈ five, Cls K (A k) ∧ NoAttr K (A k) "function"
def IsR (K : PySem.W.Frag) (A : Cn → Addr) : Prop := ∀ k ∈ five, InsK K (A k) ∧ PySem.W.kitOne K (.ref (A k)) (.ref (A .Rule)) = some true
theorem fxR {K : PySem.W.Frag} {A : Cn → Addr} (a : ClK K (A .Cells) ["function", "names"]) (b : ClK K (A .Above) ["function", "names", "first"]) (c : ClK K (A .Group) ["function", "key", "name"]) (d : ClK K (A .Lookup) ["function", "key", "other", "theirs", "names"]) (e : ClK K (A .Mend) ["function", "name"]) : FxR K A := fun k hk => by
  simp only [List.mem_cons, List.mem_nil_iff, or_false] at hk
  rcases hk with rfl | rfl | rfl | rfl | rfl
  · exact ⟨a.cl, a.na _ (by decide)⟩
  · exact ⟨b.cl, b.na _ (by decide)⟩
  · exact ⟨c.cl, c.na _ (by decide)⟩
  · exact ⟨d.cl, d.na _ (by decide)⟩
  · exact ⟨e.cl, e.na _ (by decide)⟩
theorem isR {K : PySem.W.Frag} {A : Cn → Addr} (a : InsK K (A .Cells)) (a' : PySem.W.kitOne K (.ref (A .Cells)) (.ref (A .Rule)) = some true) (b : InsK K (A .Above)) (b' : PySem.W.kitOne K (.ref (A .Above)) (.ref (A .Rule)) = some true) (c : InsK K (A .Group)) (c' : PySem.W.kitOne K (.ref (A .Group)) (.ref (A .Rule)) = some true)
    (d : InsK K (A .Lookup)) (d' : PySem.W.kitOne K (.ref (A .Lookup)) (.ref (A .Rule)) = some true) (e : InsK K (A .Mend)) (e' : PySem.W.kitOne K (.ref (A .Mend)) (.ref (A .Rule)) = some true) : IsR K A := fun k hk => by
  simp only [List.mem_cons, List.mem_nil_iff, or_false] at hk
  rcases hk with rfl | rfl | rfl | rfl | rfl
  · exact ⟨a, a'⟩
  · exact ⟨b, b'⟩
  · exact ⟨c, c'⟩
  · exact ⟨d, d'⟩
  · exact ⟨e, e'⟩
/-- a list of numbers, there or new -/
def EvPl (te : TE) (σ : L2.St) (H : Hp) (xs : List V) : Prop := ∀ H1, Ex H H1 → ∀ Q : VK, (∀ p H2, Ex H1 H2 → H2 p = some (.lst xs) → Q (.ref p) H2) → te σ H1 Q
section
variable {K : PySem.W.Frag} {A : Cn → Addr} {CA : Hp → Addr → Sp → Prop} {Tb : List (Addr × Str)} {σ : L2.St} {H H' : Hp} {te tl ta tb t1 t2 : TE} {D : Ends} {tz : TS} {E : L2.St → XK} {ru pn : Addr} {v : V}
theorem epl_v {p : Addr} {xs : List V} (h : Ev te σ H (.ref p)) (hp : H p = some (.lst xs)) : EvPl te σ H xs := fun H1 e Q q => h H1 e _ fun H2 e2 => q p H2 e2 ((e.trans e2) _ _ hp)
theorem epl_l {xs : List V} (h : EvL te σ H xs) : EvPl te σ H xs := fun H1 e Q q => h H1 e _ fun p H2 _ e2 hp => q p H2 e2 hp
abbrev ldR (K : PySem.W.Frag) (A : Cn → Addr) (CA : Hp → Addr → Sp → Prop) (Tb : List (Addr × Str)) : List (Addr × Sp) := [(A .Cells, sp_Rule_reckon K CA Tb), (A .Above, sp_Rule_reckon K CA Tb), (A .Group, sp_Rule_reckon K CA Tb), (A .Lookup, sp_Rule_reckon K CA Tb), (A .Mend, sp_Rule_reckon K CA Tb)]
theorem ldR_mem {k : Cn} (h : k ∈ five) : (A k, sp_Rule_reckon K CA Tb) ∈ ldR K A CA Tb := by
  simp only [List.mem_cons, List.mem_nil_iff, or_false] at h
  rcases h with rfl | rfl | rfl | rfl | rfl <;> simp
theorem ev_isRule {i : Nat} {sp : Sp} (hi : σ[i]? = some (some (.ref ru))) (rk : RKd A CA H ru sp) (fx : FxR K A) (ir : IsR K A) : Ev (tCB (rIsi K) (tCons (tVar i) (tCons (tC (.ref (A .Rule))) tNil))) σ H (.bl true) := by
  obtain ⟨k, dx, f, fs, m, a, _, _, _⟩ := rk
  obtain ⟨i1, i2⟩ := ir k m
  exact ev_cb (ea_cons (ev_var hi) (ea_cons ev_c ea_nil)) fun H1 e Q q => ⟨.ref ru, .ref (A .Rule), .ref (A k), .ref (A .Rule), true, rfl, .own _, .base (.ins (e _ _ a) (fx k m).1 i1.a i1.n i1.t i1.m), i2, q H1 (Ex.refl H1)⟩
/-- rule.reckon(a list) -/
theorem x_reckon {i : Nat} {d : PyData} {ns : List Int} {xs : List V} {Q : VK} (hi : σ[i]? = some (some (.ref ru))) (rk : RKd A CA H ru (spT Tb pn v)) (fx : FxR K A) (hc : CAst CA) (ha : EvPl ta σ H (ns.map V.int)) (hn : H pn = some (.lst xs)) (l1 : xs.length < 1000) (l2 : ns.length < 1000) (sd : short2 d) (th : ThV H v d) (vn : v ≠ .ref pn)
    (k : ∀ b w H', XB Tb [pn] H H' → H b = none → H' b = some (.lst (ns.map V.int)) → H' pn = some (.lst (xs ++ [.ref b])) → Dt H' w (settledD d) → Q w H') : tMetD (ldR K A CA Tb) "reckon" E (tVar i) (tCons ta tNil) σ H Q := by
  obtain ⟨kk, dx, f, fs, m, a, b, c, e⟩ := rk
  refine ⟨_, hi, ru, A kk, dx, fs, _, rfl, ldR_mem m, a, c, ha H (Ex.refl H) _ fun p H1 e1 h1 => ?_⟩
  exact ⟨ru, A kk, dx, f, p, pn, fs, v, d, ns, xs, rfl, e1 _ _ a, (fx kk m).1, (fx kk m).2, b, hc _ _ _ _ e (.of e1), h1, e1 _ _ hn, l1, l2, sd, th.ex e1, vn, fun b w H2 x2 hb => k b w H2 ((XB.of e1).trans x2) (fresh_back e1 hb)⟩
/-! ### the makers -/
def sp_law_rule (_ : PySem.W.Frag) (A : Cn → Addr) (CA : Hp → Addr → Sp → Prop) (Tb : List (Addr × Str)) : Sp := fun vs H Q _ => ∃ (kind : Int) (pn : Addr) (v : V), vs = [.int kind, .ref pn, v] ∧ 0 ≤ kind ∧ kind < 5 ∧ Tabs Tb H ∧ ∀ ru H', XB Tb [] H H' → RKd A CA H' ru (spT Tb pn v) → Q (.ref ru) H'
theorem len_law_rule (vs : List V) (H : Hp) (Q : VK) (E : XK) (h : sp_law_rule K A CA Tb vs H Q E) : vs.length = 3 := by obtain ⟨_, _, _, rfl, _⟩ := h; rfl
theorem qr_if {tt : TT} {ta t2 : RK → L2.St → Hp → Prop} {R : RK} {b : Bool} (h : EvT tt σ H b) (h1 : b = true → ∀ H1, Ex H H1 → ta R σ H1) (h2 : b = false → ∀ H1, Ex H H1 → t2 R σ H1) : tIfR tt ta t2 R σ H := h H (Ex.refl H) _ fun H1 e => by
  cases b with
  | true => exact (if_pos rfl).mpr (h1 rfl H1 e)
  | false => exact (if_neg (by decide)).mpr (h2 rfl H1 e)
/-- what is made: an object with the function -/
def MkR (A : Cn → Addr) (Tb : List (Addr × Str)) (H : Hp) (u : V) (Q : VK) : Prop := ∀ (k : Cn) (ru dx : Addr) (fs : List (Str × V)) (H' : Hp), k ∈ five → XB Tb [] H H' → H' ru = some (.ins (A k) dx fs) → fs.lookup ("function" : Str) = some u → fs.lookup ("reckon" : Str) = none → Q (.ref ru) H'
theorem y_mkCells {ws : List Str} {j : Nat} {u : V} {Q : VK} (h : EvL ta σ H (ws.map V.str)) (hj : σ[j]? = some (some u)) (hl : ws.length ≤ 6) (hz : ∀ z ∈ ws, isName z = true) (k : MkR A Tb H u Q) : tMakS (A .Cells) (sp_Cells_init K A) E (tCons ta (tCons (tVar j) tNil)) σ H Q :=
  h H (Ex.refl H) _ fun p H1 _ e1 h1 => ⟨_, hj, fun ru dx m1 m2 m3 => ⟨ru, dx, p, ws, u, rfl, upd_same, (upd_ne (ne_of_none h1 m1)).trans ((upd_ne (ne_of_none h1 m2)).trans h1), hl, hz, xb_made (Tb := Tb) m1 m2 m3 fun H8 x ⟨rp, r0, r1, r2⟩ => ⟨rfl, k .Cells ru dx _ H8 (by simp) ((XB.of e1).trans x) r2 rfl rfl⟩⟩⟩
theorem y_mkAbove {ws : List Str} {j : Nat} {u : V} {Q : VK} (h : EvL ta σ H (ws.map V.str)) (hj : σ[j]? = some (some u)) (hl : ws.length ≤ 6) (hz : ∀ z ∈ ws, isName z = true) (k : MkR A Tb H u Q) : tMakS (A .Above) (sp_Above_init K A) E (tCons (tC (.int 3)) (tCons ta (tCons (tVar j) tNil))) σ H Q :=
  h H (Ex.refl H) _ fun p H1 _ e1 h1 => ⟨_, hj, fun ru dx m1 m2 m3 => ⟨ru, dx, p, ws, u, 3, rfl, upd_same, (upd_ne (ne_of_none h1 m1)).trans ((upd_ne (ne_of_none h1 m2)).trans h1), hl, hz, by decide +kernel, xb_made (Tb := Tb) m1 m2 m3 fun H8 x ⟨rp, r0, r1, r2⟩ => ⟨rfl, k .Above ru dx _ H8 (by simp) ((XB.of e1).trans x) r2 rfl rfl⟩⟩⟩
theorem y_mkGroup {y z : Str} {j : Nat} {u : V} {Q : VK} (hj : σ[j]? = some (some u)) (h1 : isName y = true) (h2 : isName z = true) (k : MkR A Tb H u Q) : tMakS (A .Group) (sp_Group_init K A) E (tCons (tC (.str y)) (tCons (tC (.str z)) (tCons (tVar j) tNil))) σ H Q :=
  ⟨_, hj, fun ru dx m1 m2 m3 => ⟨ru, dx, y, z, u, rfl, upd_same, h1, h2, xb_made (Tb := Tb) m1 m2 m3 fun H8 x r2 => ⟨rfl, k .Group ru dx _ H8 (by simp) x r2 rfl rfl⟩⟩⟩
theorem y_mkLookup {x y z : Str} {ws : List Str} {j : Nat} {u : V} {Q : VK} (h : EvL ta σ H (ws.map V.str)) (hj : σ[j]? = some (some u)) (hl : ws.length ≤ 6) (hz : ∀ z ∈ ws, isName z = true) (h1 : isName x = true) (h2 : isName y = true) (h3 : isName z = true) (k : MkR A Tb H u Q) :
    tMakS (A .Lookup) (sp_Lookup_init K A) E (tCons (tC (.str x)) (tCons (tC (.str y)) (tCons (tC (.str z)) (tCons ta (tCons (tVar j) tNil))))) σ H Q :=
  h H (Ex.refl H) _ fun p H1 _ e1 g1 => ⟨_, hj, fun ru dx m1 m2 m3 => ⟨ru, dx, p, ws, x, y, z, u, rfl, upd_same, (upd_ne (ne_of_none g1 m1)).trans ((upd_ne (ne_of_none g1 m2)).trans g1), hl, hz, ⟨h1, h2, h3⟩, xb_made (Tb := Tb) m1 m2 m3 fun H8 xx ⟨rp, r0, r1, r2⟩ => ⟨rfl, k .Lookup ru dx _ H8 (by simp) ((XB.of e1).trans xx) r2 rfl rfl⟩⟩⟩
theorem y_mkMend {y : Str} {j : Nat} {u : V} {Q : VK} (hj : σ[j]? = some (some u)) (h1 : isName y = true) (k : MkR A Tb H u Q) : tMakS (A .Mend) (sp_Mend_init K A) E (tCons (tC (.str y)) (tCons (tVar j) tNil)) σ H Q :=
  ⟨_, hj, fun ru dx m1 m2 m3 => ⟨ru, dx, y, u, rfl, upd_same, h1, xb_made (Tb := Tb) m1 m2 m3 fun H8 x r2 => ⟨rfl, k .Mend ru dx _ H8 (by simp) x r2 rfl rfl⟩⟩⟩
end
end Z

set_option Elab.async false
set_option linter.all false
set_option autoImplicit false
set_option maxRecDepth 100000
set_option maxHeartbeats 4000000
/-! ev: what an expression comes to, by its form -/
local macro_rules | `(tactic| k_places) => `(tactic| (repeat' (first
  | (with_reducible exact ev_c)
  | (with_reducible exact ev_var rfl)
  | (with_reducible refine ev_chainLL ?_ ?_ ?_)
  | (with_reducible refine ev_chainLt ?_ ?_ ?_)
  | (with_reducible refine ev_op ?_ ?_ ?_)
  | (with_reducible refine ev_neg ?_)
  | (with_reducible refine et_test ?_)
  | (with_reducible refine et_B ?_)
  | (with_reducible refine et_not ?_)
  | (with_reducible refine et_and ?_ (fun _ => ?_))
  | (with_reducible refine et_or ?_ (fun _ => ?_))
  | (with_reducible refine ev_andV ?_ (fun _ => ?_))
  | (with_reducible refine ev_orV ?_ (fun _ => ?_))
  | (with_reducible refine ev_notV ?_)
  | (with_reducible exact rv_addI)
  | (with_reducible exact rv_subI)
  | (with_reducible exact rv_lt)
  | (with_reducible exact rv_le)
  | (with_reducible exact rv_gt)
  | (with_reducible exact rv_ge)
  | (with_reducible exact rv_isB)
  | (with_reducible exact rv_isnB)
  | (with_reducible exact rv_isN)
  | (with_reducible exact rv_isnN)
  | (with_reducible exact rv_eqS rfl)
  | (with_reducible exact rv_neS rfl)
  | (with_reducible exact rv_inStr)
  | (with_reducible exact rv_ninStr)
  | (with_reducible exact rv_mod (by first | decide | omega | assumption))
  | (with_reducible exact rv_div (by first | decide | omega | assumption))
  | (with_reducible exact rv_pow (by decide))
  | (with_reducible refine ed_i ?_; done)
  | (with_reducible exact ea_nil)
  | (with_reducible refine ea_cons ?_ ?_)
  | (with_reducible exact eds_nil)
  | (with_reducible refine eds_cons ?_ ?_)
  | (with_reducible exact ed_dnew)
  | (with_reducible refine ed_lst ?_ (by simp only [List.length_cons, List.length_nil]; omega))
  | (with_reducible refine ed_tup ?_ (by simp only [List.length_cons, List.length_nil]; omega)))))
namespace Z
open PySem PySem.Spec PyProof.Rows L2 Evl NdefX LamX
/-! ### things: new ones, lists of them -/
def ThF (H0 H : Hp) (v : V) (d : PyData) : Prop := ThV H v d ∧ ∀ a, v = .ref a → H0 a = none
theorem ThF.ex {H0 H H' : Hp} {v : V} {d : PyData} (e : Ex H H') (h : ThF H0 H v d) : ThF H0 H' v d := ⟨h.1.ex e, h.2⟩
theorem ThF.back {H0 H1 H : Hp} {v : V} {d : PyData} (e : Ex H0 H1) (h : ThF H1 H v d) : ThF H0 H v d := ⟨h.1, fun a z => fresh_back e (h.2 a z)⟩
def ThAll (H0 H : Hp) (vs : List V) (ds : List PyData) : Prop := vs.length = ds.length ∧ ∀ (i : Nat) (d : PyData), ds[i]? = some d → ∃ v, vs[i]? = some v ∧ ThF H0 H v d
theorem ThAll.ex {H0 H H' : Hp} {vs : List V} {ds : List PyData} (e : Ex H H') (h : ThAll H0 H vs ds) : ThAll H0 H' vs ds := ⟨h.1, fun i d q => let ⟨v, a, b⟩ := h.2 i d q; ⟨v, a, b.ex e⟩⟩
theorem ThAll.back {H0 H1 H : Hp} {vs : List V} {ds : List PyData} (e : Ex H0 H1) (h : ThAll H1 H vs ds) : ThAll H0 H vs ds := ⟨h.1, fun i d q => let ⟨v, a, b⟩ := h.2 i d q; ⟨v, a, b.back e⟩⟩
theorem ThAll.app {H0 H : Hp} {vs ws : List V} {ds es : List PyData} (h : ThAll H0 H vs ds) (g : ThAll H0 H ws es) : ThAll H0 H (vs ++ ws) (ds ++ es) := ⟨by rw [List.length_append, List.length_append, h.1, g.1], fun i d q => by
  by_cases hl : i < ds.length
  · rw [List.getElem?_append_left hl] at q
    rw [List.getElem?_append_left (by rw [h.1]; exact hl)]
    exact h.2 i d q
  · rw [List.getElem?_append_right (by omega)] at q
    rw [List.getElem?_append_right (by rw [h.1]; omega), h.1]
    exact g.2 _ d q⟩
def EvTh (te : TE) (σ : L2.St) (H : Hp) (d : PyData) : Prop := ∀ H1, Ex H H1 → ∀ Q : VK, (∀ v H2, Ex H1 H2 → ThF H1 H2 v d → Q v H2) → te σ H1 Q
def EvThs (ta : TA) (σ : L2.St) (H : Hp) (ds : List PyData) : Prop := ∀ H1, Ex H H1 → ∀ Q : List V → Hp → Prop, (∀ vs H2, Ex H1 H2 → ThAll H1 H2 vs ds → Q vs H2) → ta σ H1 Q
section
variable {K : PySem.W.Frag} {σ : L2.St} {H H' : Hp} {te ta tb : TE} {tas : TA} {D : Ends} {tz : TS} {E : L2.St → XK} {v : V} {d : PyData} {ds es : List PyData} {vs : List V}
theorem eth_nil : EvThs tNil σ H [] := fun H1 _ Q q => q [] H1 (Ex.refl H1) ⟨rfl, fun i d z => by simp at z⟩
theorem eth_cons (h : EvTh ta σ H d) (r : EvThs tas σ H ds) : EvThs (tCons ta tas) σ H (d :: ds) := fun H1 e Q q =>
  h H1 e _ fun v H2 e2 t => r H2 (e.trans e2) _ fun vs H3 e3 a => q _ H3 (e2.trans e3) ⟨congrArg (· + 1) a.1, fun i d' z => by
    cases i with
    | zero => cases z; exact ⟨v, rfl, t.ex e3⟩
    | succ i =>
      obtain ⟨w, b, c⟩ := a.2 i d' z
      exact ⟨w, b, c.back e2⟩⟩
theorem eth_c (h : Ev te σ H v) (hv : ∀ a, v ≠ .ref a) (hd : ∀ H', Dt H' v d) : EvTh te σ H d := fun H1 e Q q => h H1 e _ fun H2 e2 => q v H2 e2 ⟨.inl hd, fun a z => (hv a z).elim⟩
theorem eth_i {i : Int} (h : Ev te σ H (.int i)) : EvTh te σ H (.int i) := eth_c h (fun _ z => nomatch z) fun _ => .int i
theorem eth_s {i : Str} (h : Ev te σ H (.str i)) : EvTh te σ H (.str i) := eth_c h (fun _ z => nomatch z) fun _ => .str i
theorem eth_tup (h : EvA tas σ H vs) (hl : vs.length ≤ 100000) (hd : ∀ H' : Hp, DtAll H' vs ds) : EvTh (tTup tas) σ H (.tuple ds) := fun H1 e Q q =>
  eu_tup h hl H1 e Q fun a H2 ha e2 h2 => q _ H2 e2 ⟨.inr (.inl ⟨a, vs, rfl, h2, fun H' z => .tup z (hd H')⟩), fun b z => by cases z; exact ha⟩
theorem eth_lst (h : EvA tas σ H vs) (hl : vs.length ≤ 100000) (hd : ∀ H' : Hp, DtAll H' vs ds) : EvTh (tLst tas) σ H (.list ds) := fun H1 e Q q =>
  el_lst h hl H1 e Q fun a H2 ha e2 h2 => q _ H2 e2 ⟨.inr (.inr ⟨a, vs, rfl, h2, fun H' z => .lst z (hd H')⟩), fun b z => by cases z; exact ha⟩
theorem q_ths1 {i : Nat} (h : EvThs tas σ H ds) (hl : ds.length ≤ 100000) (k : ∀ p vs H1, Ex H H1 → H1 p = some (.lst vs) → ThAll H H1 vs ds → tz D (σ.set i (some (.ref p))) H1) : tSeq (tAsg (tLst tas) (gName i)) tz D σ H :=
  h H (Ex.refl H) _ fun vs H1 e1 a => ⟨sz_of (by rw [a.1]; exact hl), fun p hp => k p vs _ (e1.trans (Ex.new hp)) upd_same (a.ex (Ex.new hp))⟩
theorem q_ths2 {H0 : Hp} {i : Nat} {p : Addr} (e0 : Ex H0 H) (hi : σ[i]? = some (some (.ref p))) (hp : H p = some (.lst vs)) (a0 : ThAll H0 H vs ds) (h : EvThs tas σ H es) (hl : ds.length + es.length ≤ 100000) (k : ∀ q ws H1, H q = none → Ex H H1 → H1 q = some (.lst ws) → ThAll H0 H1 ws (ds ++ es) → tz D (σ.set i (some (.ref q))) H1) :
    tSeq (tAsg (tOp (rAddA K) (tVar i) (tLst tas)) (gName i)) tz D σ H :=
  ⟨_, hi, h H (Ex.refl H) _ fun ws H1 e1 a => ⟨sz_of (by rw [a.1]; omega), fun q hq => .inr (.inr (.inl ⟨p, q, vs, ws, rfl, rfl, (Ex.new hq) _ _ (e1 _ _ hp), upd_same, sz_of (by rw [a0.1, a.1]; exact hl), fun u hu =>
    k u _ _ (fresh_back (e1.trans (Ex.new hq)) hu) ((e1.trans (Ex.new hq)).trans (Ex.new hu)) upd_same ((a0.ex ((e1.trans (Ex.new hq)).trans (Ex.new hu))).app ((a.back e0).ex ((Ex.new hq).trans (Ex.new hu))))⟩))⟩⟩
theorem thV_upd {q : Addr} {xs : List V} {u : HO} (nl : ∀ es, d ≠ .list es) (h : ThV H v d) (hq : H q = some (.lst xs)) : ThV (upd H q u) v d := by
  rcases h with h | ⟨a, ys, e, b, c⟩ | ⟨a, ys, e, b, c⟩
  · exact .inl h
  · exact .inr (.inl ⟨a, ys, e, (upd_ne (ne_of b hq fun z => nomatch z)).trans b, c⟩)
  · subst e
    have := c H b
    cases this with
    | lst h _ => exact absurd rfl (nl _)
    | tup h _ => rw [b] at h; cases h
    | dct h _ => rw [b] at h; cases h
theorem ThAll.upd {H0 : Hp} {q : Addr} {xs : List V} {u : HO} (nl : ∀ d ∈ ds, ∀ es, d ≠ .list es) (h : ThAll H0 H vs ds) (hq : H q = some (.lst xs)) : ThAll H0 (upd H q u) vs ds := ⟨h.1, fun i d z => let ⟨v, a, b⟩ := h.2 i d z; ⟨v, a, thV_upd (nl d (List.mem_of_getElem? z)) b.1 hq, b.2⟩⟩
theorem ev_inD (h1 : EvD ta σ H d) (h2 : EvD tb σ H (.list ds)) (od : okD d) (ods : okD (.list ds)) : Ev (tOp (rInA K) ta tb) σ H (.bl (ds.any fun z => PyData.eqv z d)) := fun H1 e Q q =>
  h1 H1 e _ fun v H2 e2 r1 => h2 H2 (e.trans e2) _ fun w H3 e3 r2 => .inr (.inr (.inr ⟨d, ds, (r1.ex e3).dp od.nd, r2.dp ods.nd, od.shaped, ods.shaped, q H3 (e2.trans e3)⟩))
end
end Z

set_option Elab.async false
set_option linter.all false
set_option autoImplicit false
set_option maxRecDepth 100000
set_option maxHeartbeats 4000000
/-! ev: what an expression comes to, by its form -/
local macro_rules | `(tactic| k_places) => `(tactic| (repeat' (first
  | (with_reducible exact ev_c)
  | (with_reducible exact ev_var rfl)
  | (with_reducible refine ev_chainLL ?_ ?_ ?_)
  | (with_reducible refine ev_chainLt ?_ ?_ ?_)
  | (with_reducible refine ev_op ?_ ?_ ?_)
  | (with_reducible refine ev_neg ?_)
  | (with_reducible refine et_test ?_)
  | (with_reducible refine et_B ?_)
  | (with_reducible refine et_not ?_)
  | (with_reducible refine et_and ?_ (fun _ => ?_))
  | (with_reducible refine et_or ?_ (fun _ => ?_))
  | (with_reducible refine ev_andV ?_ (fun _ => ?_))
  | (with_reducible refine ev_orV ?_ (fun _ => ?_))
  | (with_reducible refine ev_notV ?_)
  | (with_reducible exact rv_addI)
  | (with_reducible exact rv_subI)
  | (with_reducible exact rv_lt)
  | (with_reducible exact rv_le)
  | (with_reducible exact rv_gt)
  | (with_reducible exact rv_ge)
  | (with_reducible exact rv_isB)
  | (with_reducible exact rv_isnB)
  | (with_reducible exact rv_isN)
  | (with_reducible exact rv_isnN)
  | (with_reducible exact rv_eqS rfl)
  | (with_reducible exact rv_neS rfl)
  | (with_reducible exact rv_inStr)
  | (with_reducible exact rv_ninStr)
  | (with_reducible exact rv_mod (by first | decide | omega | assumption))
  | (with_reducible exact rv_div (by first | decide | omega | assumption))
  | (with_reducible exact rv_pow (by decide))
  | (with_reducible refine ed_i ?_; done)
  | (with_reducible exact ea_nil)
  | (with_reducible refine ea_cons ?_ ?_)
  | (with_reducible exact eds_nil)
  | (with_reducible refine eds_cons ?_ ?_)
  | (with_reducible exact ed_dnew)
  | (with_reducible refine ed_lst ?_ (by simp only [List.length_cons, List.length_nil]; omega))
  | (with_reducible refine ed_tup ?_ (by simp only [List.length_cons, List.length_nil]; omega)))))
namespace Z
/-! ### rings: breadth first, in plain words (for rings.py) -/
section
variable {α : Type} [DecidableEq α]
/-- y is come to from s in n steps -/
inductive Rch (L : α → List α) (s : α) : Nat → α → Prop where
  | nil : Rch L s 0 s
  | snoc {n : Nat} {x y : α} : Rch L s n x → y ∈ L x → Rch L s (n + 1) y
/-- the ring's least length, none without one -/
def Least (L : α → List α) (s : α) (n : Nat) : Prop := 1 ≤ n ∧ Rch L s n s ∧ ∀ m, 1 ≤ m → m < n → ¬ Rch L s m s
def NoRing (L : α → List α) (s : α) : Prop := ∀ m, 1 ≤ m → ¬ Rch L s m s
/-- one that waits: itself, its depth, the place of the one ahead of it -/
structure Wt (α : Type) where
  x : α
  d : Nat
  p : Nat
/-- w waits; the ones before `at_` are done, of the one at `at_` the leanings in `done` -/
structure Bf (L : α → List α) (s : α) (w : List (Wt α)) (at_ : Nat) (done : List α) : Prop where
  root : w[0]? = some ⟨s, 0, 0⟩
  nd : (w.map (·.x)).Nodup
  le : at_ ≤ w.length
  mono : ∀ (i j : Nat) (a b : Wt α), w[i]? = some a → w[j]? = some b → i ≤ j → a.d ≤ b.d
  top : ∀ (j : Nat) (a c : Wt α), w[at_]? = some c → w[j]? = some a → a.d ≤ c.d + 1
  par : ∀ (i : Nat) (a : Wt α), w[i]? = some a → 0 < i → ∃ b, a.p < i ∧ w[a.p]? = some b ∧ a.d = b.d + 1 ∧ a.x ∈ L b.x
  old : ∀ (i : Nat) (a : Wt α), w[i]? = some a → i < at_ → ∀ y ∈ L a.x, y ≠ s ∧ ∃ (j : Nat) (b : Wt α), w[j]? = some b ∧ b.x = y ∧ b.d ≤ a.d + 1
  now : ∀ (a : Wt α), w[at_]? = some a → ∀ y ∈ done, y ≠ s ∧ ∃ (j : Nat) (b : Wt α), w[j]? = some b ∧ b.x = y
variable {L : α → List α} {s : α} {w : List (Wt α)} {at_ : Nat} {done : List α}
theorem Bf.start : Bf L s [⟨s, 0, 0⟩] 0 [] where
  root := rfl
  nd := by simp
  le := Nat.zero_le _
  mono := fun i j a b hi hj h => by
    match i, j, hi, hj with
    | 0, 0, hi, hj => cases hi; cases hj; exact Nat.le_refl _
    | 0, j + 1, _, hj => simp at hj
    | i + 1, _, hi, _ => simp at hi
  top := fun j a c hc hj => by
    match j, hj with
    | 0, hj => cases hj; exact Nat.zero_le _
    | j + 1, hj => simp at hj
  par := fun i a hi h0 => by
    match i, hi with
    | 0, _ => exact absurd h0 (Nat.lt_irrefl _)
    | i + 1, hi => simp at hi
  old := fun i a _ h => absurd h (Nat.not_lt_zero _)
  now := fun a _ y hy => by cases hy
theorem Bf.lt_of {i : Nat} {a : Wt α} (h : w[i]? = some a) : i < w.length := (List.getElem?_eq_some_iff.mp h).1
/-- a leaning that waits already, or goes on waiting -/
theorem Bf.seen (b : Bf L s w at_ done) {y : α} (hs : y ≠ s) (hy : y ∈ w.map (·.x)) : Bf L s w at_ (done ++ [y]) :=
  ⟨b.root, b.nd, b.le, b.mono, b.top, b.par, b.old, fun a ha z hz => by
      rcases List.mem_append.mp hz with hz | hz
      · exact b.now a ha z hz
      · rw [List.mem_singleton.mp hz]
        obtain ⟨c, hc, rfl⟩ := List.mem_map.mp hy
        obtain ⟨j, hj⟩ := List.mem_iff_getElem?.mp hc
        exact ⟨hs, j, c, hj, rfl⟩⟩
theorem Bf.push (b : Bf L s w at_ done) {c : Wt α} (hc : w[at_]? = some c) {y : α} (hs : y ≠ s) (hy : y ∉ w.map (·.x)) (hl : y ∈ L c.x) : Bf L s (w ++ [⟨y, c.d + 1, at_⟩]) at_ (done ++ [y]) := by
  have lt : at_ < w.length := Bf.lt_of hc
  have keep : ∀ {i : Nat} {a : Wt α}, w[i]? = some a → (w ++ [⟨y, c.d + 1, at_⟩])[i]? = some a := fun h => by rw [List.getElem?_append_left (Bf.lt_of h)]; exact h
  have split : ∀ {i : Nat} {a : Wt α}, (w ++ [⟨y, c.d + 1, at_⟩])[i]? = some a → w[i]? = some a ∨ (i = w.length ∧ a = ⟨y, c.d + 1, at_⟩) := fun {i a} h => by
    by_cases hi : i < w.length
    · rw [List.getElem?_append_left hi] at h
      exact .inl h
    · rw [List.getElem?_append_right (by omega)] at h
      have : i - w.length = 0 := by
        have := (List.getElem?_eq_some_iff.mp h).1
        simp at this
        omega
      rw [this] at h
      cases h
      exact .inr ⟨by omega, rfl⟩
  have at' : ∀ {a : Wt α}, (w ++ [⟨y, c.d + 1, at_⟩])[at_]? = some a → a = c := fun h => by
    rcases split h with h | ⟨e, _⟩
    · rw [hc] at h; cases h; rfl
    · omega
  refine ⟨keep b.root, ?_, ?_, fun i j a d hi hj h => ?_, fun j a d hd hj => ?_, fun i a hi h0 => ?_, fun i a hi h z hz => ?_, fun a ha z hz => ?_⟩
  · rw [List.map_append, List.nodup_append]
    refine ⟨b.nd, by simp, fun a ha d hd => ?_⟩
    rintro rfl
    rw [List.map_cons, List.map_nil, List.mem_singleton] at hd
    have hd : a = y := hd
    subst hd
    exact hy ha
  · rw [List.length_append]; omega
  · rcases split hi with hi | ⟨ei, ra⟩
    · rcases split hj with hj | ⟨ej, rb⟩
      · exact b.mono i j a d hi hj h
      · rw [rb]
        exact b.top i a c hc hi
    · rcases split hj with hj | ⟨ej, rb⟩
      · have := Bf.lt_of hj
        omega
      · rw [ra, rb]
        exact Nat.le_refl _
  · rw [at' hd]
    rcases split hj with hj | ⟨ej, ra⟩
    · exact b.top j a c hc hj
    · rw [ra]
      exact Nat.le_refl _
  · rcases split hi with hi | ⟨ei, ra⟩
    · obtain ⟨d, h1, h2, h3⟩ := b.par i a hi h0
      exact ⟨d, h1, keep h2, h3⟩
    · rw [ra]
      exact ⟨c, by show at_ < i; omega, keep hc, rfl, hl⟩
  · rcases split hi with hi | ⟨ei, _⟩
    · obtain ⟨h1, j, d, h2, h3⟩ := b.old i a hi h z hz
      exact ⟨h1, j, d, keep h2, h3⟩
    · omega
  · rw [at' ha] at *
    rcases List.mem_append.mp hz with hz | hz
    · obtain ⟨h1, j, d, h2, h3⟩ := b.now c hc z hz
      exact ⟨h1, j, d, keep h2, h3⟩
    · rw [List.mem_singleton.mp hz]
      exact ⟨hs, w.length, ⟨y, c.d + 1, at_⟩, by rw [List.getElem?_append_right (Nat.le_refl _), Nat.sub_self]; rfl, rfl⟩
/-- all leanings of the one at `at_` are done -/
theorem Bf.next (b : Bf L s w at_ done) {c : Wt α} (hc : w[at_]? = some c) (hd : L c.x = done) : Bf L s w (at_ + 1) [] where
  root := b.root
  nd := b.nd
  le := Bf.lt_of hc
  mono := b.mono
  top := fun j a d h hj => Nat.le_trans (b.top j a c hc hj) (Nat.succ_le_succ (b.mono at_ (at_ + 1) c d hc h (Nat.le_succ _)))
  par := b.par
  old := fun i a hi h y hy => by
    by_cases e : i = at_
    · subst e
      rw [hc] at hi
      cases hi
      obtain ⟨h1, j, d, h2, h3⟩ := b.now c hc y (hd ▸ hy)
      exact ⟨h1, j, d, h2, h3, b.top j d c hc h2⟩
    · exact b.old i a hi (by omega) y hy
  now := fun a _ y hy => by cases hy
theorem Bf.reach (b : Bf L s w at_ done) : ∀ (i : Nat) (a : Wt α), w[i]? = some a → Rch L s a.d a.x := by
  intro i
  induction i using Nat.strongRecOn with
  | _ i ih =>
    intro a ha
    by_cases h : 0 < i
    · obtain ⟨c, h1, h2, h3, h4⟩ := b.par i a ha h
      rw [h3]
      exact .snoc (ih _ h1 c h2) h4
    · have : i = 0 := by omega
      subst this
      rw [b.root] at ha
      cases ha
      exact .nil
/-- who is come to in few steps waits, as deep at most -/
theorem Bf.found (b : Bf L s w at_ done) (k : Nat) (hk : ∀ c, w[at_]? = some c → k ≤ c.d) : ∀ (n : Nat) (y : α), Rch L s n y → n ≤ k → ∃ (j : Nat) (a : Wt α), w[j]? = some a ∧ a.x = y ∧ a.d ≤ n := by
  intro n
  induction n with
  | zero =>
    intro y h _
    cases h
    exact ⟨0, _, b.root, rfl, Nat.le_refl _⟩
  | succ n ih =>
    intro y h hn
    cases h with
    | snoc h hy =>
      obtain ⟨j, a, h1, rfl, h3⟩ := ih _ h (by omega)
      have hj : j < at_ := by
        by_cases hj : j < at_
        · exact hj
        · obtain ⟨c, hc⟩ : ∃ c, w[at_]? = some c := ⟨_, List.getElem?_eq_getElem (by have := Bf.lt_of h1; omega)⟩
          have := b.mono at_ j c a hc h1 (by omega)
          have := hk c hc
          omega
      obtain ⟨_, j2, a2, g1, g2, g3⟩ := b.old j a h1 hj y hy
      exact ⟨j2, a2, g1, g2, by omega⟩
/-- a leaning on the first one: the ring is a least one -/
theorem Bf.least (b : Bf L s w at_ done) {c : Wt α} (hc : w[at_]? = some c) (hs : s ∈ L c.x) : Least L s (c.d + 1) := by
  refine ⟨by omega, .snoc (b.reach at_ c hc) hs, fun m h1 hm h => ?_⟩
  cases h with
  | nil => omega
  | snoc h hy =>
    rename_i n x
    obtain ⟨j, a, g1, rfl, g3⟩ := b.found c.d (fun c' hc' => by rw [hc] at hc'; cases hc'; exact Nat.le_refl _) n x h (by omega)
    have hj : j < at_ := by
      by_cases hj : j < at_
      · exact hj
      · have := b.mono at_ j c a hc g1 (by omega)
        omega
    exact (b.old j a g1 hj s hy).1 rfl
/-- all are done: no ring -/
theorem Bf.none (b : Bf L s w w.length done) : NoRing L s := fun m h1 h => by
  have no : ∀ c, w[w.length]? = some c → False := fun c hc => absurd (Bf.lt_of hc) (Nat.lt_irrefl _)
  cases h with
  | nil => omega
  | snoc h hy =>
    rename_i n x
    obtain ⟨j, a, g1, rfl, g3⟩ := b.found n (fun c hc => (no c hc).elim) n x h (Nat.le_refl _)
    exact (b.old j a g1 (Bf.lt_of g1) s hy).1 rfl
/-- the way back -/
def wayW (w : List (Wt α)) : Nat → Nat → List α
  | 0, _ => []
  | f + 1, i => match w[i]? with
    | none => []
    | some a => if i = 0 then [a.x] else wayW w f a.p ++ [a.x]
end
end Z

set_option Elab.async false
set_option linter.all false
set_option autoImplicit false
set_option maxRecDepth 100000
set_option maxHeartbeats 4000000
/-! ev: what an expression comes to, by its form -/
local macro_rules | `(tactic| k_places) => `(tactic| (repeat' (first
  | (with_reducible exact ev_c)
  | (with_reducible exact ev_var rfl)
  | (with_reducible refine ev_chainLL ?_ ?_ ?_)
  | (with_reducible refine ev_chainLt ?_ ?_ ?_)
  | (with_reducible refine ev_op ?_ ?_ ?_)
  | (with_reducible refine ev_neg ?_)
  | (with_reducible refine et_test ?_)
  | (with_reducible refine et_B ?_)
  | (with_reducible refine et_not ?_)
  | (with_reducible refine et_and ?_ (fun _ => ?_))
  | (with_reducible refine et_or ?_ (fun _ => ?_))
  | (with_reducible refine ev_andV ?_ (fun _ => ?_))
  | (with_reducible refine ev_orV ?_ (fun _ => ?_))
  | (with_reducible refine ev_notV ?_)
  | (with_reducible exact rv_addI)
  | (with_reducible exact rv_subI)
  | (with_reducible exact rv_lt)
  | (with_reducible exact rv_le)
  | (with_reducible exact rv_gt)
  | (with_reducible exact rv_ge)
  | (with_reducible exact rv_isB)
  | (with_reducible exact rv_isnB)
  | (with_reducible exact rv_isN)
  | (with_reducible exact rv_isnN)
  | (with_reducible exact rv_eqS rfl)
  | (with_reducible exact rv_neS rfl)
  | (with_reducible exact rv_inStr)
  | (with_reducible exact rv_ninStr)
  | (with_reducible exact rv_mod (by first | decide | omega | assumption))
  | (with_reducible exact rv_div (by first | decide | omega | assumption))
  | (with_reducible exact rv_pow (by decide))
  | (with_reducible refine ed_i ?_; done)
  | (with_reducible exact ea_nil)
  | (with_reducible refine ea_cons ?_ ?_)
  | (with_reducible exact eds_nil)
  | (with_reducible refine eds_cons ?_ ?_)
  | (with_reducible exact ed_dnew)
  | (with_reducible refine ed_lst ?_ (by simp only [List.length_cons, List.length_nil]; omega))
  | (with_reducible refine ed_tup ?_ (by simp only [List.length_cons, List.length_nil]; omega)))))
namespace Z
open PySem PySem.Spec PyProof.Rows L2 Evl
/-! ### {k: v, ..} with keys that are tuples -/
def mergeT (kvs more : List (List L2.Key × V)) : List (List L2.Key × V) := more.foldl (fun acc kv => putK acc kv.1 kv.2) kvs
theorem length_mergeT : ∀ (more kvs : List (List L2.Key × V)), (mergeT kvs more).length ≤ kvs.length + more.length
  | [], kvs => by show kvs.length ≤ kvs.length + 0; omega
  | p :: r, kvs => by
    have h1 := length_mergeT r (putK kvs p.1 p.2)
    have h2 := length_putK kvs p.1 p.2
    show (mergeT (putK kvs p.1 p.2) r).length ≤ _
    rw [List.length_cons]; omega
abbrev KA := List L2.Key × Addr × V
theorem kt_merge {H : Hp} : ∀ {more : List KA} {rs : List (List L2.Key × Addr × Value)} {kvs : List (List L2.Key × V)} {xs : List (List L2.Key × Addr × Value)}, (∀ m ∈ more, H m.2.1 = some (.tup (m.1.map kV))) → Paired (fun p q => q.1 = p.1 ∧ q.2.1 = p.2.1 ∧ RelV p.2.2 q.2.2) more rs → KT H kvs xs → KT H (mergeT kvs (more.map fun m => (m.1, m.2.2))) (storedAllH xs rs)
  | [], _, _, _, _, .nil, q => q
  | p :: more, _, kvs, xs, hm, .cons (b := r) h t, q => by
    obtain ⟨k, b, v⟩ := r
    obtain ⟨e1, e2, rv⟩ := h
    cases e1
    cases e2
    have := kt_merge (more := more) (fun m hh => hm m (List.mem_cons_of_mem _ hh)) t (q.put p.1 (hm p List.mem_cons_self) rv)
    exact this
theorem carriesH_of {P : Program} {w : PySem.World} {H : Hp} {h : Heap} (ok : HOk P w H h) : ∀ {kvs : List KA} {ws : List (Value × Value)}, (∀ m ∈ kvs, H m.2.1 = some (.tup (m.1.map kV))) → VV (kvs.map fun kv => (V.ref kv.2.1, kv.2.2)) ws → ∃ rs, CarriesH (tupleKind (mixKind P w)) h ws rs ∧ Paired (fun p q => q.1 = p.1 ∧ q.2.1 = p.2.1 ∧ RelV p.2.2 q.2.2) kvs rs
  | [], _, _, r => by rw [List.map_nil] at r; cases r; exact ⟨[], True.intro, .nil⟩
  | p :: kvs, _, hm, r => by
    rw [List.map_cons] at r
    cases r with
    | @cons a b as bs h t =>
      obtain ⟨rs, c, q⟩ := carriesH_of ok (fun m hh => hm m (List.mem_cons_of_mem _ hh)) t
      obtain ⟨b1, b2⟩ := b
      obtain ⟨h1, h2⟩ := h
      cases (show b1 = Value.ref p.2.1 from h1)
      exact ⟨(p.1, p.2.1, b2) :: rs, ⟨rfl, rfl, key_of ok (hm p List.mem_cons_self), c⟩, .cons ⟨rfl, rfl, h2⟩ q⟩
def tDispT (trs : List (TE × TE)) : TE := fun σ H Q => ∀ p, H p = none → tPairs trs σ (upd H p (.dT [])) fun ps H2 => H2 p = some (.dT []) ∧ ∃ kvs : List KA, ps = kvs.map (fun kv => (V.ref kv.2.1, kv.2.2)) ∧ (∀ m ∈ kvs, H2 m.2.1 = some (.tup (m.1.map kV))) ∧ kvs.length ≤ 15 ∧ Q (.ref p) (upd H2 p (.dT (mergeT [] (kvs.map fun m => (m.1, m.2.2)))))
theorem pe_dispT {X : Cx} {pos : Pos} {keys : List (Option Expr)} {values : List Expr} {trs : List (TE × TE)} (hu : X.A.units + 1 < cLine) (h : PPs X pos keys values trs) (hall : keys.all (·.isSome) = true) (hl : keys.length = values.length) (h0 : keys ≠ [])
    (h15 : keys.length ≤ 15) : PE X (.Dict keys values pos) (tDispT trs) := by
  refine ⟨fun pins s σ H Q I q => ?_⟩
  have hn := I.hok.fresh (Nat.le_refl s.heap.objs.size)
  have I1 := I.laid (a := s.heap.objs.size) (o := .dT []) (h' := s.heap.push { cls := .type "dict", data := .dict #[] }) (t' := s.toks) (fun _ _ q => Heap.get?_push_of_some _ q) (Nat.le_refl _) (dt_empty s.heap I.big)
  have hlen := pairTrees_length keys values X.env pos hall hl
  have hne : pairTrees keys values X.env pos ≠ [] := fun z => by
    rw [z] at hlen
    exact h0 (List.eq_nil_of_length_eq_zero hlen.symm)
  rw [arm_eval_Dict, zip_pairTrees keys values X.env pos hall hl, dictDisplay_pairs _ hne (by rw [hlen]; omega)]
  refine wpAny_bind (wpAny_standAt (wpAny_bind (wpAny_subDictH (knd := tupleKind (mixKind X.prog X.w)) (Q := fun d s' => wpAny (model X.prog X.w) X.A (pure (Value.ref d)) _ _ s') (Nat.lt_of_succ_lt hu) (by rw [hlen]; exact h15) (thn (h.run pins _ σ _ _ I1 (q _ hn)) fun ws s2 ⟨ps, H2, I2, rel, e, kvs, ep, hk, lk, q2⟩ => ?_))))
  subst ep
  obtain ⟨rs, c, pr⟩ := carriesH_of I2.hok hk rel
  obtain ⟨z, hd, xs0, r0, dd⟩ := dt_of I2.hok e
  cases r0
  refine ⟨rs, c, dd, fun h' tk dd' hs => wpAny_pure ⟨.ref s.heap.objs.size, _, ?_, rfl, q2⟩⟩
  have hz : (mergeT [] (kvs.map fun m => (m.1, m.2.2))).length ≤ sizeLine := by
    have h1 := length_mergeT (kvs.map fun m => (m.1, m.2.2)) []
    rw [List.length_nil, List.length_map] at h1
    rw [sizeLine_eq]; omega
  obtain ⟨o, es, ep, hq, h2, h3, h4, _, h5⟩ := dd'
  refine d_write I2 (by rw [e]; exact True.intro) hs ⟨o, hq⟩ ⟨hz, hd, _, (kt_merge hk pr .nil).keeps fun c ys ec => ?_, o, es, ep, hq, h2, h3, h4, h5⟩
  rw [upd_ne (ne_of ec e (fun z => nomatch z))]
  exact ec
end Z

set_option Elab.async false
set_option linter.all false
set_option autoImplicit false
set_option maxRecDepth 100000
set_option maxHeartbeats 4000000
/-! ev: what an expression comes to, by its form -/
local macro_rules | `(tactic| k_places) => `(tactic| (repeat' (first
  | (with_reducible exact ev_c)
  | (with_reducible exact ev_var rfl)
  | (with_reducible refine ev_chainLL ?_ ?_ ?_)
  | (with_reducible refine ev_chainLt ?_ ?_ ?_)
  | (with_reducible refine ev_op ?_ ?_ ?_)
  | (with_reducible refine ev_neg ?_)
  | (with_reducible refine et_test ?_)
  | (with_reducible refine et_B ?_)
  | (with_reducible refine et_not ?_)
  | (with_reducible refine et_and ?_ (fun _ => ?_))
  | (with_reducible refine et_or ?_ (fun _ => ?_))
  | (with_reducible refine ev_andV ?_ (fun _ => ?_))
  | (with_reducible refine ev_orV ?_ (fun _ => ?_))
  | (with_reducible refine ev_notV ?_)
  | (with_reducible exact rv_addI)
  | (with_reducible exact rv_subI)
  | (with_reducible exact rv_lt)
  | (with_reducible exact rv_le)
  | (with_reducible exact rv_gt)
  | (with_reducible exact rv_ge)
  | (with_reducible exact rv_isB)
  | (with_reducible exact rv_isnB)
  | (with_reducible exact rv_isN)
  | (with_reducible exact rv_isnN)
  | (with_reducible exact rv_eqS rfl)
  | (with_reducible exact rv_neS rfl)
  | (with_reducible exact rv_inStr)
  | (with_reducible exact rv_ninStr)
  | (with_reducible exact rv_mod (by first | decide | omega | assumption))
  | (with_reducible exact rv_div (by first | decide | omega | assumption))
  | (with_reducible exact rv_pow (by decide))
  | (with_reducible refine ed_i ?_; done)
  | (with_reducible exact ea_nil)
  | (with_reducible refine ea_cons ?_ ?_)
  | (with_reducible exact eds_nil)
  | (with_reducible refine eds_cons ?_ ?_)
  | (with_reducible exact ed_dnew)
  | (with_reducible refine ed_lst ?_ (by simp only [List.length_cons, List.length_nil]; omega))
  | (with_reducible refine ed_tup ?_ (by simp only [List.length_cons, List.length_nil]; omega)))))
namespace Z
open PySem PySem.Spec PyProof.Rows L2 Evl NdefX LamX
/-! ### the way back, in plain words -/
section
variable {α : Type} [DecidableEq α] {L : α → List α} {s : α} {w : List (Wt α)} {at_ : Nat} {done : List α}
inductive WayTo (w : List (Wt α)) : Nat → List α → Prop where
  | root {a : Wt α} : w[0]? = some a → WayTo w 0 [a.x]
  | step {i : Nat} {a : Wt α} {r : List α} : w[i]? = some a → 0 < i → WayTo w a.p r → WayTo w i (r ++ [a.x])
/-- a way from s to x along leanings, each but once -/
structure Way (L : α → List α) (s x : α) (n : Nat) (r : List α) : Prop where
  len : r.length = n + 1
  hd : r[0]? = some s
  last : r[n]? = some x
  chain : ∀ (k : Nat) (y z : α), r[k]? = some y → r[k + 1]? = some z → z ∈ L y
  nd : r.Nodup
theorem way_at (b : Bf L s w at_ done) {i : Nat} {r : List α} (h : WayTo w i r) : ∀ a, w[i]? = some a → Way L s a.x a.d r ∧ ∀ z ∈ r, ∃ (j : Nat) (c : Wt α), j ≤ i ∧ w[j]? = some c ∧ c.x = z := by
  induction h with
  | root h0 =>
    intro a ha
    rw [b.root] at ha h0
    cases ha
    cases h0
    refine ⟨⟨rfl, rfl, rfl, fun k y z h1 h2 => by simp at h2, by simp⟩, fun z hz => ⟨0, _, Nat.le_refl 0, b.root, (List.mem_singleton.mp hz).symm⟩⟩
  | @step i a' r hi h0 _ ih =>
    intro a ha
    rw [hi] at ha
    cases ha
    obtain ⟨c, p1, p2, p3, p4⟩ := b.par i a' hi h0
    obtain ⟨W, mem⟩ := ih c p2
    have inj : ∀ (j : Nat) (c' : Wt α), w[j]? = some c' → c'.x = a'.x → j = i := fun j c' h1 h2 => by
      have g1 : (w.map (·.x))[j]? = some a'.x := by rw [List.getElem?_map, h1]; exact congrArg some h2
      have g2 : (w.map (·.x))[i]? = some a'.x := by rw [List.getElem?_map, hi]; rfl
      obtain ⟨l1, e1⟩ := List.getElem?_eq_some_iff.mp g1
      obtain ⟨l2, e2⟩ := List.getElem?_eq_some_iff.mp g2
      exact (List.getElem_inj b.nd).mp (e1.trans e2.symm)
    refine ⟨⟨by rw [List.length_append, W.len, p3]; rfl, ?_, ?_, fun k y z h1 h2 => ?_, ?_⟩, fun z hz => ?_⟩
    · rw [List.getElem?_append_left (by rw [W.len]; omega)]
      exact W.hd
    · rw [List.getElem?_append_right (by rw [W.len, p3]; omega), W.len, p3, Nat.sub_self]
      rfl
    · by_cases hk : k + 1 < r.length
      · rw [List.getElem?_append_left (by omega)] at h1
        rw [List.getElem?_append_left hk] at h2
        exact W.chain k y z h1 h2
      · have l2 := (List.getElem?_eq_some_iff.mp h2).1
        rw [List.length_append] at l2
        have l2 : k + 1 < r.length + 1 := l2
        have ek : k + 1 = r.length := by omega
        rw [ek, List.getElem?_append_right (Nat.le_refl _), Nat.sub_self] at h2
        cases h2
        rw [List.getElem?_append_left (by omega), show k = c.d by have := W.len; omega, W.last] at h1
        cases h1
        exact p4
    · rw [List.nodup_append]
      refine ⟨W.nd, by simp, fun y hy z hz => ?_⟩
      rw [List.mem_singleton.mp hz]
      rintro rfl
      obtain ⟨j, c', g1, g2, g3⟩ := mem _ hy
      have := inj j c' g2 g3
      omega
    · rcases List.mem_append.mp hz with hz | hz
      · obtain ⟨j, c', g1, g2, g3⟩ := mem z hz
        exact ⟨j, c', by omega, g2, g3⟩
      · exact ⟨i, a', Nat.le_refl i, hi, (List.mem_singleton.mp hz).symm⟩
end
/-! ### rings.py -/
def keyP (s : Pt) : List Key := [.inr s.1, .inr s.2]
theorem keyP_inj {s t : Pt} (h : keyP s = keyP t) : s = t := by
  simp only [keyP, List.cons.injEq, Sum.inr.injEq, and_true] at h
  exact Prod.ext h.1 h.2
/-- the dict of leanings -/
def LAt (H : Hp) (ld : Addr) (L : Pt → List Pt) : Prop := ∃ kvs, H ld = some (.dT kvs) ∧ ∀ x, (valV kvs (keyP x) = none ∧ L x = []) ∨ ∃ p xs, valV kvs (keyP x) = some (.ref p) ∧ H p = some (.lst xs) ∧ AtPs H xs (L x)
theorem LAt.ex {H H' : Hp} {ld : Addr} {L : Pt → List Pt} (e : Ex H H') (h : LAt H ld L) : LAt H' ld L := by
  obtain ⟨kvs, h1, h2⟩ := h
  refine ⟨kvs, e _ _ h1, fun x => ?_⟩
  rcases h2 x with h | ⟨p, xs, a, b, c⟩
  · exact .inl h
  · exact .inr ⟨p, xs, a, e _ _ b, c.tup (.of_ex e)⟩
/-- ahead: the ones that wait, each with the one ahead of it -/
def AhAt (H : Hp) (ah : Addr) (w : List (Wt Pt)) : Prop := ∃ kvs, H ah = some (.dT kvs) ∧ kvs.length ≤ w.length ∧ (∀ x, (valV kvs (keyP x)).isSome = decide (x ∈ w.map (·.x))) ∧ ∀ (i : Nat) (a : Wt Pt), w[i]? = some a → (i = 0 ∧ valV kvs (keyP a.x) = some .non) ∨ (0 < i ∧ ∃ (v : V) (c : Wt Pt), valV kvs (keyP a.x) = some v ∧ w[a.p]? = some c ∧ AtP H v c.x)
theorem AhAt.keep {H H' : Hp} {ah : Addr} {w : List (Wt Pt)} (h : AhAt H ah w) (k : ∀ o, H ah = some o → H' ah = some o) (t : Tup H H') : AhAt H' ah w := by
  obtain ⟨kvs, h1, h2, h3, h4⟩ := h
  refine ⟨kvs, k _ h1, h2, h3, fun i a hi => ?_⟩
  rcases h4 i a hi with h | ⟨h0, v, c, a1, a2, a3⟩
  · exact .inl h
  · exact .inr ⟨h0, v, c, a1, a2, a3.tup t⟩
def sp_way_to (K : PySem.W.Frag) : Sp := fun vs H Q _ => ∃ (ah p i : Nat) (a : Wt Pt) (w : List (Wt Pt)) (L : Pt → List Pt) (s : Pt) (at_ : Nat) (done : List Pt), vs = [.ref ah, .ref p] ∧ Bf L s w at_ done ∧ AhAt H ah w ∧ w[i]? = some a ∧ AtP H (.ref p) a.x ∧ w.length ≤ 1000 ∧
  ∀ r q xs H', WayTo w i r → Ex H H' → H q = none → H' q = some (.lst xs) → AtPs H' xs r → Q (.ref q) H'
/-- a told ring -/
structure RingAt (L : Pt → List Pt) (s : Pt) (r : List Pt) : Prop where
  least : Least L s r.length
  hd : r[0]? = some s
  nd : r.Nodup
  chain : ∀ (k : Nat) (y z : Pt), r[k]? = some y → r[k + 1]? = some z → z ∈ L y
  back : ∀ y, r[r.length - 1]? = some y → s ∈ L y
def sp_ring_from (K : PySem.W.Frag) : Sp := fun vs H Q _ => ∃ (ld p : Addr) (L : Pt → List Pt) (s : Pt) (N : List Pt), vs = [.ref ld, .ref p] ∧ LAt H ld L ∧ AtP H (.ref p) s ∧ (∀ x ∈ N, okP x ∧ ∀ y ∈ L x, y ∈ N) ∧ s ∈ N ∧ N.length ≤ 100 ∧ (∀ x, (L x).length ≤ 1000) ∧
  (NoRing L s → ∀ H', Ex H H' → Q .non H') ∧ ∀ r q xs H', RingAt L s r → Ex H H' → H q = none → H' q = some (.lst xs) → AtPs H' xs r → Q (.ref q) H'
/-- names: "ahead", "spot", "found" -/
def t_way_to (K : PySem.W.Frag) (E : XK) : TS :=
  tSeq (tAsg (tLst tNil) (gName 2))
    (tSeq (tWhile (tTest (tOp rIsnA (tVar 1) (tC .non))) (tSeq (tDrop (tBM K "list" rInsA (tVar 2) (tCons (tC (.int 0)) (tCons (tVar 1) tNil))))
    (tAsg (tOp (rIxA K) (tVar 0) (tVar 1)) (gName 1))))
    (tRet (tVar 2)))
/-- names: "leanings", "spot", "ahead", "waiting", "at", "other" -/
def t_ring_from (K : PySem.W.Frag) (E : XK) : TS :=
  tSeq (tAsg (tDispT ((tVar 1, tC .non) :: [])) (gName 2))
    (tSeq (tAsg (tLst (tCons (tVar 1) tNil)) (gName 3))
    (tSeq (tAsg (tC (.int 0)) (gName 4))
    (tSeq (tWhile (tTest (tOp rLtA (tVar 4) (tCB (rLenA K) (tCons (tVar 3) tNil)))) (tSeq (tFor (iList K (tDGet2 (tVar 0) (tOp (rIxA K) (tVar 3) (tVar 4)) (tLst tNil))) (gName 5) (tSeq (tIfS (tTest (tOp (rEqA K) (tVar 5) (tVar 1))) (tRet (tCallS (sp_way_to K) (WE (fun cls d _ H => E cls d H)) (tCons (tVar 2) (tCons (tOp (rIxA K) (tVar 3) (tVar 4)) tNil)))) tNext)
    (tIfS (tTest (tOp (rNinA K) (tVar 5) (tVar 2))) (tSeq (tAsg (tOp (rIxA K) (tVar 3) (tVar 4)) (gSub (tVar 2) (tVar 5) rSetA))
    (tDrop (tBM K "list" rAppend (tVar 3) (tCons (tVar 5) tNil)))) tNext)))
    (tAsg (tOp (rAddA K) (tVar 4) (tC (.int 1))) (gName 4))))
    (tRet (tC .non)))))
section
variable {K : PySem.W.Frag} {σ : L2.St} {H H' : Hp} {te tl ta tb t1 t2 : TE} {D : Ends} {tz : TS} {E : L2.St → XK}
theorem len_way_to (vs : List V) (H : Hp) (Q : VK) (E : XK) (h : sp_way_to K vs H Q E) : vs.length = 2 := by obtain ⟨_, _, _, _, _, _, _, _, _, rfl, _⟩ := h; rfl
theorem len_ring_from (vs : List V) (H : Hp) (Q : VK) (E : XK) (h : sp_ring_from K vs H Q E) : vs.length = 2 := by obtain ⟨_, _, _, _, _, rfl, _⟩ := h; rfl
theorem q_ins0 {l : Addr} {xs : List V} {v : V} {i : Nat} (hi : σ[i]? = some (some (.ref l))) (hl : H l = some (.lst xs)) (hv : Ev tb σ H v) (hz : xs.length < 100000) (k : ∀ H1, Ex H H1 → tz D σ (upd H1 l (.lst (v :: xs)))) :
    tSeq (tDrop (tBM K "list" rInsA (tVar i) (tCons (tC (.int 0)) (tCons tb tNil)))) tz D σ H :=
  ⟨_, hi, tyLst hl, hv H (Ex.refl H) _ fun H3 e3 => ⟨l, xs, 0, v, rfl, rfl, e3 _ _ hl, sz_lt hz, by omega, by omega, k H3 e3⟩⟩
theorem r_way_to (vs : List V) (H : Hp) (Q : VK) (E : XK) (h : sp_way_to K vs H Q E) : t_way_to K E { nx := fun _ H' => Q .non H', rt := Q } (L2.start ["ahead", "spot", "found"] vs) H := by
  obtain ⟨ah, p, i, a, w, L, s, at_, done, rfl, b, hA, hi, hp, hw, k⟩ := h
  unfold t_way_to
  have bnd : ∀ {j : Nat} {c : Wt Pt}, w[j]? = some c → j < w.length := fun h => (List.getElem?_eq_some_iff.mp h).1
  refine q_asgL (el_lst ea_nil (by decide)) fun fq H1 hfq e1 h1 => ?_
  refine q_while (fun m σ' H' => ∃ (v : V) (fs : List Pt) (xs : List V), σ' = [some (.ref ah), some v, some (.ref fq)] ∧ Ex H H' ∧ H' fq = some (.lst xs) ∧ AtPs H' xs fs ∧ fs.length + m ≤ w.length + 1 ∧ ((∃ (j : Nat) (c : Wt Pt), m = j + 1 ∧ w[j]? = some c ∧ AtP H' v c.x ∧ ∀ r, WayTo w j r → WayTo w i (r ++ fs)) ∨ (m = 0 ∧ v = .non ∧ WayTo w i fs)))
    (i + 1) ⟨_, [], [], rfl, e1, h1, ⟨rfl, fun i s z => by simp at z⟩, by have := bnd hi; simp only [List.length_nil]; omega, .inl ⟨i, a, rfl, hi, hp.tup (.of_ex e1), fun r hr => by rw [List.append_nil]; exact hr⟩⟩ fun m σ' H' ⟨v, fs, xs, hσ, e2, h2, a2, l2, hc⟩ => ?_
  subst hσ
  rcases hc with ⟨j, c, hm, hj, hv, hr⟩ | ⟨hm, rfl, hr⟩
  · obtain ⟨q, rfl, hq⟩ := hv
    refine ⟨true, et_is (et_test (ev_op (ev_var rfl) ev_c rv_isnN)) rfl, fun _ H2 e3 => ⟨fun σ2 H3 => ∃ m', m' < m ∧ ∃ (v : V) (fs : List Pt) (xs : List V), σ2 = [some (.ref ah), some v, some (.ref fq)] ∧ Ex H H3 ∧ H3 fq = some (.lst xs) ∧ AtPs H3 xs fs ∧ fs.length + m' ≤ w.length + 1 ∧ ((∃ (j : Nat) (c : Wt Pt), m' = j + 1 ∧ w[j]? = some c ∧ AtP H3 v c.x ∧ ∀ r, WayTo w j r → WayTo w i (r ++ fs)) ∨ (m' = 0 ∧ v = .non ∧ WayTo w i fs)), fun σ2 H3 ⟨m', l, r⟩ => ⟨m', l, r⟩, ?_⟩, (fun hb => nomatch hb)⟩
    have lxs : xs.length < 100000 := by have := a2.1; omega
    refine q_ins0 rfl (e3 _ _ h2) (ev_var rfl) lxs fun H3 e4 => ?_
    have e34 := e3.trans e4
    have E5 : Ex H (upd H3 fq (.lst (.ref q :: xs))) := Ex.mut (e2.trans e34) hfq
    have tt : Tup H' (upd H3 fq (.lst (.ref q :: xs))) := ((Imk.of e34).trans (Imk.upd (e34 _ _ h2) fun z => z)).tup
    have A5 : AtPs (upd H3 fq (.lst (.ref q :: xs))) (.ref q :: xs) (c.x :: fs) := (atPs_app (atPs1 (AtP.tup tt ⟨q, rfl, hq⟩)) (a2.tup tt))
    obtain ⟨kvs, g1, g2, g3, g4⟩ := hA
    have get : ∀ {u : V}, valV kvs (keyP c.x) = some u → Ev (tOp (rIxA K) (tVar 0) (tVar 1)) [some (.ref ah), some (.ref q), some (.ref fq)] (upd H3 fq (.lst (.ref q :: xs))) u := fun {u} hu => ev_op (ev_var rfl) (ev_var rfl) fun H6 e6 Q6 q6 => .inr ⟨ah, u, rfl, by
      rw [← hu]
      exact DGet.t (k := keyP c.x) (e6 _ _ (E5 _ _ g1)) (e6 _ _ (tt _ _ hq)), q6 H6 (Ex.refl H6)⟩
    rcases g4 j c hj with ⟨j0, hu⟩ | ⟨j0, u, c', hu, hc', at'⟩
    · refine s_asg (get hu) fun H6 e6 => ⟨0, by omega, .non, c.x :: fs, .ref q :: xs, rfl, E5.trans e6, e6 _ _ upd_same, A5.tup (.of_ex e6), by simp only [List.length_cons]; omega, .inr ⟨rfl, rfl, ?_⟩⟩
      subst j0
      exact hr _ (.root hj)
    · obtain ⟨c2, p1, p2, p3, p4⟩ := b.par j c hj j0
      have lp := bnd hj
      refine s_asg (get hu) fun H6 e6 => ⟨c.p + 1, by omega, u, c.x :: fs, .ref q :: xs, rfl, E5.trans e6, e6 _ _ upd_same, A5.tup (.of_ex e6), by simp only [List.length_cons]; omega, .inl ⟨c.p, c', rfl, hc', (at'.tup (.of_ex (E5.trans e6))), fun r0 hr0 => ?_⟩⟩
      have := hr _ (.step hj j0 hr0)
      rwa [List.append_assoc] at this
  · exact ⟨false, et_is (et_test (ev_op (ev_var rfl) ev_c rv_isnN)) rfl, (fun hb => nomatch hb), fun _ H2 e3 => s_ret (ev_var rfl) fun H3 e4 => k fs fq xs H3 hr (e2.trans (e3.trans e4)) hfq ((e3.trans e4) _ _ h2) (a2.tup (.of_ex (e3.trans e4)))⟩
theorem nodup_le {α : Type} [DecidableEq α] : ∀ {l N : List α}, l.Nodup → (∀ x ∈ l, x ∈ N) → l.length ≤ N.length
  | [], _, _, _ => Nat.zero_le _
  | x :: l, N, nd, h => by
    rw [List.nodup_cons] at nd
    have hx := h x List.mem_cons_self
    have := nodup_le (N := N.erase x) nd.2 fun y hy => (List.mem_erase_of_ne fun e => nd.1 (by rw [← e]; exact hy)).mpr (h y (List.mem_cons_of_mem _ hy))
    rw [List.length_erase_of_mem hx] at this
    have l0 : 0 < N.length := List.length_pos_of_mem hx
    rw [List.length_cons]
    omega
/-- leanings.get(x, []): a list of the outset H0, or a new one -/
def EvG (te : TE) (σ : L2.St) (H0 H : Hp) (ps : List Pt) : Prop := ∀ Q : VK, (∀ q xs H2, Ex H H2 → H2 q = some (.lst xs) → AtPs H2 xs ps → (H q = none ∨ ∃ o, H0 q = some o) → Q (.ref q) H2) → te σ H Q
theorem ev_get {H0 : Hp} {ld : Addr} {L : Pt → List Pt} {x : Pt} {v : V} {td ty : TE} (h : LAt H0 ld L) (e0 : Ex H0 H) (ho : Ev td σ H (.ref ld)) (hx : Ev ty σ H v) (ax : AtP H v x) : EvG (tDGet2 td ty (tLst tNil)) σ H0 H (L x) := fun Q q =>
  ho H (Ex.refl H) _ fun H2 e2 => by
    obtain ⟨kvs, h1, h2⟩ := h
    refine ⟨ld, rfl, .inr ⟨kvs, .inl ((e0.trans e2) _ _ h1)⟩, hx H2 e2 _ fun H3 e3 => ⟨show 0 ≤ sizeLine from Nat.zero_le _, fun d hd => ?_⟩⟩
    have E1 : Ex H (upd H3 d (.lst [])) := (e2.trans e3).trans (Ex.new hd)
    have E := e0.trans E1
    obtain ⟨b, rfl, hb⟩ := ax
    refine ⟨_, DGet.t (k := keyP x) (E _ _ h1) (E1 _ _ hb), ?_⟩
    rcases h2 x with ⟨a, c⟩ | ⟨p, xs, a, c, g⟩
    · rw [a]
      exact q d [] _ E1 upd_same (by rw [c]; exact ⟨rfl, fun i s z => by simp at z⟩) (.inl (fresh_back (e2.trans e3) hd))
    · rw [a]
      exact q p xs _ E1 (E _ _ c) (g.tup (.of_ex E)) (.inr ⟨_, c⟩)
theorem q_forG {H0 : Hp} {F : List Addr} {ps : List Pt} {j : Nat} {tu : TS} (h : EvG te σ H0 H ps) (hF : ∀ a ∈ F, H0 a = none ∧ ∃ o, H a = some o) (Pv : Nat → L2.St → Hp → Prop) (h0 : ∀ H1, Ex H H1 → Pv 0 σ H1)
    (hs : ∀ i s x σ' H', ps[i]? = some s → AtP H' x s → Pv i σ' H' → ∀ nx : L2.St → Hp → Prop, (∀ σ2 H2, Pv (i + 1) σ2 H2 → XB [] F H' H2 → nx σ2 H2) → tu { D with nx := nx, ct := nx, bk := tz D } (σ'.set j (some x)) H') (hd : ∀ σ' H', Pv ps.length σ' H' → tz D σ' H') : tSeq (tFor (iList K te) (gName j) tu) tz D σ H :=
  h _ fun q xs H1 e1 h1 a1 hq => ⟨q, rfl, ⟨xs, SqL.of h1⟩, for_list (fun i σ' H' => Pv i σ' H' ∧ H' q = some (.lst xs) ∧ AtPs H' xs ps) ⟨h0 H1 e1, h1, a1⟩ (fun i σ' H' _ ⟨_, h, _⟩ => SqL.of h) (fun i x σ' H' hi ⟨pv, hq', aq⟩ => by
    obtain ⟨s, hs1, as⟩ := aq.at hi
    have qF : q ∉ F := fun z => by
      obtain ⟨f1, o, f2⟩ := hF q z
      rcases hq with n | ⟨o', n⟩
      · rw [n] at f2; cases f2
      · rw [f1] at n; cases n
    exact hs i s x σ' H' hs1 as pv _ fun σ2 H2 p2 x2 => ⟨p2, x2.k _ _ hq' qF (fun _ z => nomatch z), aq.tup x2.i.tup⟩) fun σ' H' ⟨pv, _, _⟩ => hd σ' H' (by rw [← a1.1]; exact pv)⟩
theorem s_setT {p b : Addr} {kvs : List (List Key × V)} {k : List Key} {v : V} (h : H p = some (.dT kvs)) (hv : Ev te σ H v) (ho : Ev ta σ H (.ref p)) (hk : Ev tb σ H (.ref b)) (hb : H b = some (.tup (k.map kV))) (hl : kvs.length < 100000) (kk : ∀ H1, Ex H H1 → tz D σ (upd H1 p (.dT (putK kvs k v)))) : tSeq (tAsg te (gSub ta tb rSetA)) tz D σ H :=
  hv H (Ex.refl H) _ fun H1 e1 => ho H1 e1 _ fun H2 e2 => hk H2 (e1.trans e2) _ fun H3 e3 => .inr ⟨p, _, rfl, DPut.t (((e1.trans e2).trans e3) _ _ h) (((e1.trans e2).trans e3) _ _ hb) (sz_lt hl), kk H3 ((e1.trans e2).trans e3)⟩
theorem AhAt.put {ah : Addr} {w : List (Wt Pt)} {at_ : Nat} {c : Wt Pt} {y : Pt} {v : V} {kvs : List (List Key × V)} (hc : w[at_]? = some c) (hy : y ∉ w.map (·.x)) (hv : AtP H v c.x) (h1 : H ah = some (.dT kvs)) (h2 : kvs.length ≤ w.length) (h3 : ∀ x, (valV kvs (keyP x)).isSome = decide (x ∈ w.map (·.x)))
    (h4 : ∀ (i : Nat) (a : Wt Pt), w[i]? = some a → (i = 0 ∧ valV kvs (keyP a.x) = some .non) ∨ (0 < i ∧ ∃ (v : V) (c : Wt Pt), valV kvs (keyP a.x) = some v ∧ w[a.p]? = some c ∧ AtP H v c.x)) (lp : ∀ (i : Nat) (a : Wt Pt), w[i]? = some a → 0 < i → a.p < w.length) (lt : 0 < w.length) : AhAt (upd H ah (.dT (putK kvs (keyP y) v))) ah (w ++ [⟨y, c.d + 1, at_⟩]) := by
  have tt : Tup H (upd H ah (.dT (putK kvs (keyP y) v))) := fun b xs e => (upd_ne fun z => by rw [z, h1] at e; cases e).trans e
  have keep : ∀ {i : Nat} {a : Wt Pt}, w[i]? = some a → (w ++ [⟨y, c.d + 1, at_⟩])[i]? = some a := fun h => by rw [List.getElem?_append_left (Bf.lt_of h)]; exact h
  refine ⟨_, upd_same, by rw [List.length_append]; exact Nat.le_trans (putLen kvs (keyP y) v) (Nat.succ_le_succ h2), fun x => ?_, fun i a hi => ?_⟩
  · rw [valV_put]
    by_cases e : keyP x = keyP y
    · have := keyP_inj e
      subst this
      rw [if_pos rfl]
      simp
    · rw [if_neg e, h3 x]
      have : x ≠ y := fun z => e (by rw [z])
      simp [this]
  · by_cases hw : i < w.length
    · rw [List.getElem?_append_left hw] at hi
      have ne : keyP a.x ≠ keyP y := fun z => hy (by
        rw [← keyP_inj z]
        exact List.mem_map.mpr ⟨a, List.mem_of_getElem? hi, rfl⟩)
      rw [valV_put, if_neg ne]
      rcases h4 i a hi with h | ⟨h0, v', c', a1, a2, a3⟩
      · exact .inl h
      · exact .inr ⟨h0, v', c', a1, keep a2, a3.tup tt⟩
    · rw [List.getElem?_append_right (by omega)] at hi
      have ei : i - w.length = 0 := by
        have := (List.getElem?_eq_some_iff.mp hi).1
        simp at this
        omega
      rw [ei] at hi
      cases hi
      exact .inr ⟨by omega, v, c, by rw [valV_put, if_pos rfl], keep hc, hv.tup tt⟩
theorem q_disp1 {s : Pt} {p : Addr} {i j : Nat} (hj : σ[j]? = some (some (.ref p))) (hp : H p = some (.tup [.str s.1, .str s.2])) (k : ∀ ah H1, H ah = none → Ex H H1 → H1 ah = some (.dT [(keyP s, V.non)]) → tz D (σ.set i (some (.ref ah))) H1) : tSeq (tAsg (tDispT ((tVar j, tC .non) :: [])) (gName i)) tz D σ H :=
  fun ah hah => ⟨_, hj, upd_same, [(keyP s, p, .non)], rfl, fun m hm => by rw [List.mem_singleton.mp hm]; exact (upd_ne (ne_of_none hp hah)).trans hp, show 1 ≤ 15 by decide, k ah _ hah (Ex.mut (Ex.new hah) hah) upd_same⟩
theorem s_retCallA {tas : TA} {vs : List V} {sp : Sp} (h : EvA tas σ H vs) (k : ∀ H1, Ex H H1 → sp vs H1 D.rt (E σ)) : tRet (tCallS sp E tas) D σ H := h H (Ex.refl H) _ k
theorem r_ring_from (vs : List V) (H : Hp) (Q : VK) (E : XK) (h : sp_ring_from K vs H Q E) : t_ring_from K E { nx := fun _ H' => Q .non H', rt := Q } (L2.start ["leanings", "spot", "ahead", "waiting", "at", "other"] vs) H := by
  obtain ⟨ld, p, L, s, N, rfl, hL, hp, hN, hsN, lN, hLl, kn, kr⟩ := h
  unfold t_ring_from
  obtain ⟨p', e', gp⟩ := hp
  cases e'
  refine q_disp1 (s := s) rfl gp fun ah H1 hah e1 ah0 => ?_
  have ah1 : AhAt H1 ah [⟨s, 0, 0⟩] := by
    refine ⟨_, ah0, Nat.le_refl 1, fun x => ?_, fun i a hi => ?_⟩
    · by_cases e : x = s
      · subst e; simp [valV]
      · have : keyP s ≠ keyP x := fun z => e (keyP_inj z).symm
        simp [valV, e, this]
    · match i, hi with
      | 0, hi =>
        cases hi
        refine .inl ⟨rfl, ?_⟩
        simp [valV]
      | i + 1, hi => simp at hi
  have okN : ∀ x ∈ N, okP x := fun x hx => (hN x hx).1
  refine q_asgL (el_lst (ea_cons (ev_var rfl) ea_nil) (show 1 ≤ 100000 by decide)) fun wl H2 hwl e2 h2 => ?_
  have hwl0 : H wl = none := fresh_back e1 hwl
  have ahw : ah ≠ wl := by
    obtain ⟨kvs, q, _⟩ := ah1
    exact ne_of_none q hwl
  refine q_asg (v := .int ((0 : Nat) : Int)) ev_c fun H3 e3 => ?_
  have e23 := e2.trans e3
  refine q_while (fun m σ' H' => ∃ (w : List (Wt Pt)) (at_ : Nat) (xs : List V) (x5 : Option V), m = N.length - at_ ∧ σ' = [some (.ref ld), some (.ref p), some (.ref ah), some (.ref wl), some (.int (at_ : Int)), x5] ∧ Bf L s w at_ [] ∧ Ex H H' ∧ H' wl = some (.lst xs) ∧ AtPs H' xs (w.map (·.x)) ∧ AhAt H' ah w ∧ ∀ a ∈ w, a.x ∈ N)
    (N.length - 0) ⟨[⟨s, 0, 0⟩], 0, [.ref p], none, rfl, rfl, Bf.start, e1.trans e23, e3 _ _ h2, atPs1 ⟨p, rfl, (e1.trans e23) _ _ gp⟩, ah1.keep (fun o q => e23 _ _ q) (.of_ex e23), fun a ha => by rw [List.mem_singleton.mp ha]; exact hsN⟩ fun m σ' H' ⟨w, at_, xs, x5, hm, hσ, b, e4, hw4, a4, ah4, sub⟩ => ?_
  subst hσ
  have lw : w.length ≤ N.length := by
    have := nodup_le b.nd fun x hx => by
      obtain ⟨a, ha, rfl⟩ := List.mem_map.mp hx
      exact sub a ha
    rwa [List.length_map] at this
  have lx : xs.length = w.length := by rw [a4.1, List.length_map]
  refine ⟨decide ((at_ : Int) < (xs.length : Int)), et_test (ev_op (ev_var rfl) (ev_lenV (ev_var rfl) (rc_lenL (SqL.of hw4))) rv_lt), fun hb H5 e5 => ?_, fun hb H5 e5 => ?_⟩
  · have hlt : at_ < w.length := by have := of_decide_eq_true hb; omega
    obtain ⟨c, hc⟩ : ∃ c, w[at_]? = some c := ⟨_, List.getElem?_eq_getElem hlt⟩
    refine ⟨fun σ2 H3 => ∃ m', m' < m ∧ ∃ (w : List (Wt Pt)) (at_ : Nat) (xs : List V) (x5 : Option V), m' = N.length - at_ ∧ σ2 = [some (.ref ld), some (.ref p), some (.ref ah), some (.ref wl), some (.int (at_ : Int)), x5] ∧ Bf L s w at_ [] ∧ Ex H H3 ∧ H3 wl = some (.lst xs) ∧ AtPs H3 xs (w.map (·.x)) ∧ AhAt H3 ah w ∧ ∀ a ∈ w, a.x ∈ N, fun σ2 H3 ⟨m', l, r⟩ => ⟨m', l, r⟩, ?_⟩
    have cN : c.x ∈ N := sub c (List.mem_of_getElem? hc)
    have E5 := e4.trans e5
    obtain ⟨vc, hvc, avc⟩ := (a4.tup (.of_ex e5)).2 at_ c.x (by rw [List.getElem?_map, hc]; rfl)
    refine q_forG (F := [ah, wl]) (ev_get hL E5 (ev_var rfl) (ev_op (ev_var rfl) (ev_var rfl) (rv_itL (SqL.of (e5 _ _ hw4)) (atI_nat hvc))) avc) (fun a ha => ?_)
      (fun i σ2 H6 => ∃ (w : List (Wt Pt)) (xs : List V) (x5 : Option V), σ2 = [some (.ref ld), some (.ref p), some (.ref ah), some (.ref wl), some (.int (at_ : Int)), x5] ∧ Bf L s w at_ ((L c.x).take i) ∧ w[at_]? = some c ∧ Ex H H6 ∧ H6 wl = some (.lst xs) ∧ AtPs H6 xs (w.map (·.x)) ∧ AhAt H6 ah w ∧ ∀ a ∈ w, a.x ∈ N)
      (fun H6 e6 => ⟨w, xs, _, rfl, by rw [List.take_zero]; exact b, hc, E5.trans e6, (e5.trans e6) _ _ hw4, a4.tup (.of_ex (e5.trans e6)), ah4.keep (fun o q => (e5.trans e6) _ _ q) (.of_ex (e5.trans e6)), sub⟩) (fun i y x σ2 H6 hy ay ⟨w2, xs2, x52, hσ2, b2, hc2, e6, hw6, a6, ah6, sub2⟩ nx hnx => ?_) fun σ2 H6 ⟨w2, xs2, x52, hσ2, b2, hc2, e6, hw6, a6, ah6, sub2⟩ => ?_
    · simp only [List.mem_cons, List.mem_nil_iff, or_false] at ha
      rcases ha with rfl | rfl
      · obtain ⟨kvs, q, _⟩ := ah4
        exact ⟨hah, _, e5 _ _ q⟩
      · exact ⟨hwl0, _, e5 _ _ hw4⟩
    · subst hσ2
      have hyL : y ∈ L c.x := List.mem_of_getElem? hy
      have yN := (hN c.x cN).2 y hyL
      have tk : (L c.x).take (i + 1) = (L c.x).take i ++ [y] := by rw [List.take_add_one, hy]; rfl
      have lw2 : w2.length ≤ N.length := by
        have := nodup_le b2.nd fun x hx => by
          obtain ⟨a, ha, rfl⟩ := List.mem_map.mp hx
          exact sub2 a ha
        rwa [List.length_map] at this
      have lx2 : xs2.length = w2.length := by rw [a6.1, List.length_map]
      obtain ⟨pc, hpc, apc⟩ := a6.2 at_ c.x (by rw [List.getElem?_map, hc2]; rfl)
      obtain ⟨pcr, rfl, gpc⟩ := apc
      obtain ⟨yr, rfl, gy⟩ := ay
      have ix : ∀ {H7 : Hp}, Ex H6 H7 → Ev (tOp (rIxA K) (tVar 3) (tVar 4)) [some (.ref ld), some (.ref p), some (.ref ah), some (.ref wl), some (.int (at_ : Int)), some (.ref yr)] H7 (.ref pcr) := fun e => ev_op (ev_var rfl) (ev_var rfl) (rv_itL (SqL.of (e _ _ hw6)) (atI_nat hpc))
      refine q_when (et_test (ev_is (ev_eqD (ed_ev (ev_var rfl) (AtP.dt ⟨yr, rfl, gy⟩)) (ed_ev (ev_var rfl) (AtP.dt ⟨p, rfl, e6 _ _ gp⟩)) (okD_dP (okN y yN)) (okD_dP (okN s hsN))) (by rw [eqv_dP]))) (fun hb2 H7 e7 => ?_) (fun hb2 H7 e7 => ?_)
      · have ys : y = s := of_decide_eq_true hb2
        subst ys
        refine s_retCallA (ea_cons (ev_var rfl) (ea_cons (ix e7) ea_nil)) fun H8 e8 => ?_
        have e78 := e7.trans e8
        refine ⟨ah, pcr, at_, c, w2, L, y, at_, _, rfl, b2, ah6.keep (fun o q => e78 _ _ q) (.of_ex e78), hc2, ⟨pcr, rfl, e78 _ _ gpc⟩, by omega, fun r q ys H9 hr e9 hq h9 a9 => ?_⟩
        have W := (way_at b2 hr c hc2).1
        refine kr r q ys H9 ⟨?_, W.hd, W.nd, W.chain, fun z hz => ?_⟩ ((e6.trans e78).trans e9) (fresh_back (e6.trans e78) hq) h9 a9
        · rw [W.len]
          exact b2.least hc2 hyL
        · rw [W.len, Nat.add_sub_cancel, W.last] at hz
          cases hz
          exact hyL
      · have ys : y ≠ s := of_decide_eq_false hb2
        obtain ⟨kvs, g1, g2, g3, g4⟩ := ah6
        have nin : Ev (tOp (rNinA K) (tVar 5) (tVar 2)) [some (.ref ld), some (.ref p), some (.ref ah), some (.ref wl), some (.int (at_ : Int)), some (.ref yr)] H7 (.bl (!decide (y ∈ w2.map (·.x)))) := ev_op (ev_var rfl) (ev_var rfl) fun H8 e8 Q8 q8 => .inr (.inl ⟨ah, valV kvs (keyP y), rfl, DGet.t ((e7.trans e8) _ _ g1) ((e7.trans e8) _ _ gy), by
          rw [← g3 y] at q8
          exact q8 H8 (Ex.refl H8)⟩)
        refine s_when (et_test nin) (fun hb3 H8 e8 => ?_) (fun hb3 H8 e8 => ?_)
        · have hy2 : y ∉ w2.map (·.x) := by simpa using hb3
          have e78 := e7.trans e8
          refine s_setT (k := keyP y) (e78 _ _ g1) (ix e78) (ev_var rfl) (ev_var rfl) (e78 _ _ gy) (by omega) fun H9 e9 => ?_
          have e79 := e78.trans e9
          have lp : ∀ (i : Nat) (a : Wt Pt), w2[i]? = some a → 0 < i → a.p < w2.length := fun i a hi h0 => by
            obtain ⟨_, p1, p2, _⟩ := b2.par i a hi h0
            exact Bf.lt_of p2
          have A9 := AhAt.put (H := H9) (v := .ref pcr) hc2 hy2 ⟨pcr, rfl, e79 _ _ gpc⟩ (e79 _ _ g1) g2 g3 (fun i a hi => by
            rcases g4 i a hi with h | ⟨h0, v, c', a1, a2, a3⟩
            · exact .inl h
            · exact .inr ⟨h0, v, c', a1, a2, a3.tup (.of_ex e79)⟩) lp (Nat.lt_of_le_of_lt (Nat.zero_le _) (Bf.lt_of hc2))
          have w9 : upd H9 ah (.dT (putK kvs (keyP y) (.ref pcr))) wl = some (.lst xs2) := (upd_ne ahw.symm).trans (e79 _ _ hw6)
          refine s_app w9 (ev_var rfl) (ev_var rfl) (by omega) fun H10 e10 => ?_
          have x9 : XB [] [ah, wl] H6 (upd H9 ah (.dT (putK kvs (keyP y) (.ref pcr)))) := (XB.of e79).trans (XB.upd (e79 _ _ g1) (fun z => z) (fun _ z => nomatch z) (by simp))
          have x10 : XB [] [ah, wl] H6 (upd H10 wl (.lst (xs2 ++ [.ref yr]))) := (x9.trans (XB.of e10)).trans (XB.upd (e10 _ _ w9) (fun z => z) (fun _ z => nomatch z) (by simp))
          refine hnx _ _ ⟨w2 ++ [⟨y, c.d + 1, at_⟩], xs2 ++ [.ref yr], _, rfl, by rw [tk]; exact b2.push hc2 ys hy2 hyL, by rw [List.getElem?_append_left (Bf.lt_of hc2)]; exact hc2, Ex.mut ((Ex.mut (e6.trans e79) hah).trans e10) hwl0, upd_same, ?_, ?_, fun a ha => ?_⟩ x10
          · rw [List.map_append]
            exact (a6.tup x10.i.tup).snoc ⟨yr, rfl, x10.i _ _ gy True.intro⟩
          · refine A9.keep (fun o q => (upd_ne ahw).trans (e10 _ _ q)) fun b ys q => (upd_ne fun z => ?_).trans (e10 _ _ q)
            rw [z, w9] at q
            cases q
          · rcases List.mem_append.mp ha with ha | ha
            · exact sub2 a ha
            · rw [List.mem_singleton.mp ha]
              exact yN
        · have hy2 : y ∈ w2.map (·.x) := by simpa using hb3
          have e78 := e7.trans e8
          exact hnx _ _ ⟨w2, xs2, _, rfl, by rw [tk]; exact b2.seen ys hy2, hc2, e6.trans e78, e78 _ _ hw6, a6.tup (.of_ex e78), AhAt.keep ⟨kvs, g1, g2, g3, g4⟩ (fun o q => e78 _ _ q) (.of_ex e78), sub2⟩ (XB.of e78)
    · subst hσ2
      rw [List.take_length] at b2
      refine s_asg (v := .int ((at_ + 1 : Nat) : Int)) (ev_is (ev_op (ev_var rfl) ev_c rv_addI) (by rw [Int.natCast_add]; rfl)) fun H7 e7 => ⟨N.length - (at_ + 1), by omega, w2, at_ + 1, xs2, x52, rfl, rfl, b2.next hc2 rfl, e6.trans e7, e7 _ _ hw6, a6.tup (.of_ex e7), ah6.keep (fun o q => e7 _ _ q) (.of_ex e7), sub2⟩
  · have hge : at_ = w.length := by have := of_decide_eq_false hb; have := b.le; omega
    subst hge
    exact s_ret ev_c fun H6 e6 => kn b.none H6 (e4.trans (e5.trans e6))
end
end Z

set_option Elab.async false
set_option linter.all false
set_option autoImplicit false
set_option maxRecDepth 100000
set_option maxHeartbeats 4000000
/-! ev: what an expression comes to, by its form -/
local macro_rules | `(tactic| k_places) => `(tactic| (repeat' (first
  | (with_reducible exact ev_c)
  | (with_reducible exact ev_var rfl)
  | (with_reducible refine ev_chainLL ?_ ?_ ?_)
  | (with_reducible refine ev_chainLt ?_ ?_ ?_)
  | (with_reducible refine ev_op ?_ ?_ ?_)
  | (with_reducible refine ev_neg ?_)
  | (with_reducible refine et_test ?_)
  | (with_reducible refine et_B ?_)
  | (with_reducible refine et_not ?_)
  | (with_reducible refine et_and ?_ (fun _ => ?_))
  | (with_reducible refine et_or ?_ (fun _ => ?_))
  | (with_reducible refine ev_andV ?_ (fun _ => ?_))
  | (with_reducible refine ev_orV ?_ (fun _ => ?_))
  | (with_reducible refine ev_notV ?_)
  | (with_reducible exact rv_addI)
  | (with_reducible exact rv_subI)
  | (with_reducible exact rv_lt)
  | (with_reducible exact rv_le)
  | (with_reducible exact rv_gt)
  | (with_reducible exact rv_ge)
  | (with_reducible exact rv_isB)
  | (with_reducible exact rv_isnB)
  | (with_reducible exact rv_isN)
  | (with_reducible exact rv_isnN)
  | (with_reducible exact rv_eqS rfl)
  | (with_reducible exact rv_neS rfl)
  | (with_reducible exact rv_inStr)
  | (with_reducible exact rv_ninStr)
  | (with_reducible exact rv_mod (by first | decide | omega | assumption))
  | (with_reducible exact rv_div (by first | decide | omega | assumption))
  | (with_reducible exact rv_pow (by decide))
  | (with_reducible refine ed_i ?_; done)
  | (with_reducible exact ea_nil)
  | (with_reducible refine ea_cons ?_ ?_)
  | (with_reducible exact eds_nil)
  | (with_reducible refine eds_cons ?_ ?_)
  | (with_reducible exact ed_dnew)
  | (with_reducible refine ed_lst ?_ (by simp only [List.length_cons, List.length_nil]; omega))
  | (with_reducible refine ed_tup ?_ (by simp only [List.length_cons, List.length_nil]; omega)))))
namespace Z
open PySem PySem.Spec PyProof.Rows L2 Evl NdefX LamX
/-! ### the law's own count of steps (k21) -/
def sp_law_length (K : PySem.W.Frag) : Sp := fun vs H Q _ => ∃ (ld p : Addr) (L : Pt → List Pt) (s : Pt) (N : List Pt), vs = [.ref ld, .ref p] ∧ LAt H ld L ∧ AtP H (.ref p) s ∧ (∀ x ∈ N, okP x ∧ ∀ y ∈ L x, y ∈ N) ∧ s ∈ N ∧ N.length ≤ 33 ∧ (∀ x, (L x).length ≤ 40) ∧
  ∀ (n : Nat) H', ((n ≤ 33 ∧ Least L s n) ∨ (n = 0 ∧ ∀ m, 1 ≤ m → m ≤ 33 → ¬ Rch L s m s)) → Ex H H' → Q (.int (n : Int)) H'
/-- names: "leanings", "spot", "come", "many", "further", "one", "other" -/
def t_law_length (K : PySem.W.Frag) (E : XK) : TS :=
  tSeq (tAsg (tCB (rListA K) (tCons (tDGet2 (tVar 0) (tVar 1) (tLst tNil)) tNil)) (gName 2))
    (tSeq (tFor (iRng2 (tCons (tC (.int 1)) (tCons (tC (.int 34)) tNil))) (gName 3) (tSeq (tIfS (tTest (tOp (rInA K) (tVar 1) (tVar 2))) (tRet (tVar 3)) tNext)
    (tSeq (tAsg (tLst tNil) (gName 4))
    (tSeq (tFor (iList K (tVar 2)) (gName 5) (tAsg (tOp (rAddA K) (tVar 4) (tLc (iList K (tDGet2 (tVar 0) (tVar 5) (tLst tNil))) (gName 6) (tTest (tOp (rNinA K) (tVar 6) (tVar 4))) (tVar 6) [6])) (gName 4)))
    (tAsg (tVar 4) (gName 2))))))
    (tRet (tC (.int 0))))
section
variable {K : PySem.W.Frag} {σ : L2.St} {H H' : Hp} {te tl ta tb : TE} {D : Ends} {tz : TS} {E : L2.St → XK}
theorem len_law_length (vs : List V) (H : Hp) (Q : VK) (E : XK) (h : sp_law_length K vs H Q E) : vs.length = 2 := by obtain ⟨_, _, _, _, _, rfl, _⟩ := h; rfl
theorem ev_inP {v : V} {s : Pt} {ss : List Pt} {p : Addr} {xs : List V} (h1 : Ev ta σ H v) (r1 : AtP H v s) (h2 : Ev tb σ H (.ref p)) (hp : H p = some (.lst xs)) (r2 : AtPs H xs ss) (o1 : okP s) (o2 : ∀ x ∈ ss, okP x) : Ev (tOp (rInA K) ta tb) σ H (.bl (decide (s ∈ ss))) := fun H1 e Q q =>
  h1 H1 e _ fun H2 e2 => h2 H2 (e.trans e2) _ fun H3 e3 => by
    have E := (e.trans e2).trans e3
    refine .inr (.inr (.inr ⟨dP s, ss.map dP, ((r1.tup (.of_ex E)).dt).dp (okD_dP o1).nd, (Dt.lst (E _ _ hp) (r2.tup (.of_ex E)).dt).dp (okD_dPs o2).nd, (okD_dP o1).shaped, (okD_dPs o2).shaped, ?_⟩))
    rw [any_dP]
    exact q H3 (e2.trans e3)
/-- [other for other in leanings.get(..) if other not in further] -/
theorem x_filt {H0 : Hp} {ps fs : List Pt} {fl : Addr} {ys : List V} {i j : Nat} {Q : VK} (h : EvG tl σ H0 H ps) (hi : ∀ x, ((wipe σ [j]).set j (some x))[i]? = some (some (.ref fl))) (hj : ∀ x, ((wipe σ [j]).set j (some x))[j]? = some (some x)) (hw : ∀ x, wipe ((wipe σ [j]).set j (some x)) [j] = wipe σ [j])
    (hf : H fl = some (.lst ys)) (af : AtPs H ys fs) (o1 : ∀ x ∈ ps, okP x) (o2 : ∀ x ∈ fs, okP x) (hl : ps.length ≤ 1000) (k : ∀ p zs H2, H p = none → Ex H H2 → H2 p = some (.lst zs) → AtPs H2 zs (ps.filter fun y => decide (y ∉ fs)) → Q (.ref p) H2) :
    tLc (iList K tl) (gName j) (tTest (tOp (rNinA K) (tVar j) (tVar i))) (tVar j) [j] σ H Q :=
  h _ fun q xs H1 e1 h1 a1 _ => ⟨q, rfl, ⟨xs, SqL.of h1⟩, fun Dl hD => by
    refine lc_list (xs := xs) (fun m H' => Ex H1 H' ∧ ∃ vs, H' Dl = some (.lst vs) ∧ AtPs H' vs ((ps.take m).filter fun y => decide (y ∉ fs))) ⟨Ex.new hD, [], upd_same, rfl, fun i s z => by simp at z⟩ (fun m H' _ p => SqL.of (p.1 _ _ h1)) (fun m x H' hm p => ?_) fun H' p => ?_
    · obtain ⟨p1, vs, p2, p3⟩ := p
      have E1 := e1.trans p1
      obtain ⟨s, hs, as⟩ := (a1.tup (.of_ex p1)).at hm
      have tk : ps.take (m + 1) = ps.take m ++ [s] := by rw [List.take_add_one, hs]; rfl
      have lv : vs.length ≤ 1000 := by
        have := p3.1
        have := List.length_filter_le (fun y => decide (y ∉ fs)) (ps.take m)
        rw [List.length_take] at this
        omega
      show wipe ((wipe σ [j]).set j (some x)) [j] = wipe σ [j] ∧ _
      refine ⟨hw _, et_test (ev_ninP (ev_var (hj x)) as (ev_var (hi x)) (E1 _ _ hf) (af.tup (.of_ex E1)) (o1 s (List.mem_of_getElem? hs)) o2) H' (Ex.refl H') _ fun H3 e3 => ?_⟩
      by_cases hn : s ∈ fs
      · rw [decide_eq_true hn]
        refine (if_neg (by decide)).mpr ⟨p1.trans e3, vs, e3 _ _ p2, ?_⟩
        rw [tk, List.filter_append, List.filter_cons_of_neg (by simpa using hn), List.filter_nil, List.append_nil]
        exact p3.tup (.of_ex e3)
      · rw [decide_eq_false hn]
        refine (if_pos rfl).mpr ((ev_var (hj x)) H3 (Ex.refl H3) _ fun H4 e4 => ⟨vs, (e3.trans e4) _ _ p2, sz_lt (by omega), Ex.mut (p1.trans (e3.trans e4)) hD, _, upd_same, ?_⟩)
        rw [tk, List.filter_append, List.filter_cons_of_pos (by simpa using hn), List.filter_nil]
        have tt : Tup H' (L2.upd H4 Dl (.lst (vs ++ [x]))) := ((Imk.of (e3.trans e4)).trans (Imk.upd ((e3.trans e4) _ _ p2) fun z => z)).tup
        exact (p3.tup tt).snoc (as.tup tt)
    · obtain ⟨p1, vs, p2, p3⟩ := p
      rw [a1.1, List.take_length] at p3
      exact k Dl vs H' (fresh_back e1 hD) (e1.trans p1) p2 p3⟩
/-- come = list(leanings.get(x, [])) -/
theorem q_listG {H0 : Hp} {ps : List Pt} {i : Nat} (h : EvG tl σ H0 H ps) (k : ∀ p xs H1, H p = none → Ex H H1 → H1 p = some (.lst xs) → AtPs H1 xs ps → tz D (σ.set i (some (.ref p))) H1) : tSeq (tAsg (tCB (rListA K) (tCons tl tNil)) (gName i)) tz D σ H :=
  h _ fun q xs H1 e1 h1 a1 _ => el_listA (K := K) (σ := σ) (ta := tC (.ref q)) ev_c (SqL.of h1) H1 (Ex.refl H1) (fun v H2 => tz D (σ.set i (some v)) H2) fun p H2 hp e2 h2 => k p xs H2 (fresh_back e1 hp) (e1.trans e2) h2 (a1.tup (.of_ex e2))
theorem r_law_length (vs : List V) (H : Hp) (Q : VK) (E : XK) (h : sp_law_length K vs H Q E) : t_law_length K E { nx := fun _ H' => Q .non H', rt := Q } (L2.start ["leanings", "spot", "come", "many", "further", "one", "other"] vs) H := by
  obtain ⟨ld, p, L, s, N, rfl, hL, ⟨p', e', gp⟩, hN, hsN, lN, lL, k⟩ := h
  cases e'
  unfold t_law_length
  have okN : ∀ x ∈ N, okP x := fun x hx => (hN x hx).1
  refine q_listG (ev_get hL (Ex.refl H) (ev_var rfl) (ev_var rfl) ⟨p, rfl, gp⟩) fun cl xs H1 _ e1 h1 a1 => ?_
  refine q_forR2 (lo := 1) (n := 34) (ea_cons ev_c (ea_cons ev_c ea_nil)) (by decide) (fun i σ' H' => ∃ (cl : Addr) (xs : List V) (cs : List Pt) (x3 x4 x5 x6 : Option V), σ' = [some (.ref ld), some (.ref p), some (.ref cl), x3, x4, x5, x6] ∧ Ex H H' ∧ H' cl = some (.lst xs) ∧ AtPs H' xs cs ∧ (∀ y, y ∈ cs ↔ Rch L s (i + 1) y) ∧ (∀ y ∈ cs, y ∈ N) ∧ cs.length ≤ 40 * 34 ∧ ∀ m, 1 ≤ m → m ≤ i → ¬ Rch L s m s)
    (fun H2 e2 => ⟨cl, xs, L s, _, _, _, _, rfl, e1.trans e2, e2 _ _ h1, a1.tup (.of_ex e2), fun y => ⟨fun hy => .snoc .nil hy, fun h => by
      cases h with
      | snoc h hy => cases h; exact hy⟩, fun y hy => (hN s hsN).2 y hy, by have := lL s; omega, fun m h1 h2 => by omega⟩) (fun i σ' H2 hi ⟨cl, xs, cs, x3, x4, x5, x6, hσ, e2, h2, a2, hc, hcN, lc, hno⟩ => ?_) fun σ' H2 ⟨cl, xs, cs, x3, x4, x5, x6, hσ, e2, h2, a2, hc, hcN, lc, hno⟩ => ?_
  · subst hσ
    refine q_when (et_test (ev_inP (ev_var rfl) ⟨p, rfl, e2 _ _ gp⟩ (ev_var rfl) h2 a2 (okN s hsN) fun x hx => okN x (hcN x hx))) (fun hb H3 e3 => ?_) (fun hb H3 e3 => ?_)
    · have hs : Rch L s (i + 1) s := (hc s).mp (of_decide_eq_true hb)
      refine s_ret (v := .int ((i + 1 : Nat) : Int)) (ev_is (ev_var rfl) (by congr 1; omega)) fun H4 e4 => k (i + 1) H4 (.inl ⟨by omega, by omega, hs, fun m h1 hm => hno m h1 (by omega)⟩) (e2.trans (e3.trans e4))
    have hns : s ∉ cs := of_decide_eq_false hb
    refine q_asgL (el_lst ea_nil (by decide)) fun fl H4 _ e4 h4 => ?_
    have e34 := e3.trans e4
    have E4 := e2.trans e34
    refine q_forLn (ev_var rfl) (SqL.of (e34 _ _ h2)) (fun m σ' H' => ∃ (fl : Addr) (ys : List V) (fs ds : List Pt) (x5 x6 : Option V), σ' = [some (.ref ld), some (.ref p), some (.ref cl), some (.int (1 + (i : Int))), some (.ref fl), x5, x6] ∧ Ex H4 H' ∧ H' fl = some (.lst ys) ∧ AtPs H' ys fs ∧ (∀ y, y ∈ fs ↔ ∃ x ∈ cs.take m, y ∈ L x) ∧ ds.Nodup ∧ (∀ d ∈ ds, d ∈ fs) ∧ fs.length ≤ 40 * ds.length)
      (fun H5 e5 => ⟨fl, [], [], [], _, _, rfl, e5, e5 _ _ h4, ⟨rfl, fun i s z => by simp at z⟩, fun y => by simp, .nil, (fun d hd => by cases hd), Nat.le_refl 0⟩) (fun m σ' H' _ ⟨_, _, _, _, _, _, _, e, _⟩ => SqL.of (e _ _ (e34 _ _ h2))) ?_ ?_
    · rintro m x σ' H5 hm ⟨fl, ys, fs, ds, x5, x6, rfl, e5, h5, a5, hf, nd, dsf, ld2⟩
      have E5 := E4.trans e5
      obtain ⟨c, hcm, ac⟩ := (a2.tup (.of_ex (e34.trans e5))).at hm
      have cN := hcN c (List.mem_of_getElem? hcm)
      have fN : ∀ y ∈ fs, y ∈ N := fun y hy => by
        obtain ⟨x, hx, hy⟩ := (hf y).mp hy
        exact (hN x (hcN x (List.mem_of_mem_take hx))).2 y hy
      have ld3 : ds.length ≤ N.length := nodup_le nd fun d hd => fN d (dsf d hd)
      refine ⟨_, rfl, x_filt (H0 := H) (ps := L c) (fs := fs) (ev_get hL (E5.trans (Ex.refl H5)) (ev_var rfl) (ev_var rfl) ac) (fun _ => rfl) (fun _ => rfl) (fun _ => rfl) h5 a5 (fun y hy => okN y ((hN c cN).2 y hy)) (fun y hy => okN y (fN y hy)) (by have := lL c; omega) fun g zs H6 _ e6 h6 a6 => ?_⟩
      have lz := List.length_filter_le (fun y => decide (y ∉ fs)) (L c)
      have lLc := lL c
      refine .inr (.inr (.inl ⟨fl, g, ys, zs, rfl, rfl, e6 _ _ h5, h6, sz_of (by rw [a5.1, a6.1]; omega), fun u hu => ?_⟩))
      have tk : cs.take (m + 1) = cs.take m ++ [c] := by rw [List.take_add_one, hcm]; rfl
      have mem : ∀ y, y ∈ fs ++ (L c).filter (fun y => decide (y ∉ fs)) ↔ ∃ x ∈ cs.take (m + 1), y ∈ L x := fun y => by
        rw [tk, List.mem_append, List.mem_filter]
        constructor
        · rintro (hyf | ⟨hy, _⟩)
          · obtain ⟨x, hx, hy⟩ := (hf y).mp hyf
            exact ⟨x, List.mem_append.mpr (.inl hx), hy⟩
          · exact ⟨c, List.mem_append.mpr (.inr (by simp)), hy⟩
        · rintro ⟨x, hx, hy⟩
          rcases List.mem_append.mp hx with hx | hx
          · exact .inl ((hf y).mpr ⟨x, hx, hy⟩)
          · rw [List.mem_singleton.mp hx] at hy
            by_cases hyf : y ∈ fs
            · exact .inl hyf
            · exact .inr ⟨hy, by simpa using hyf⟩
      have A6 := atPs_app ((a5.tup (.of_ex e6)).tup (.of_ex (Ex.new (o := .lst (ys ++ zs)) hu))) (a6.tup (.of_ex (Ex.new (o := .lst (ys ++ zs)) hu)))
      obtain ⟨ds', n1, n2, n3⟩ : ∃ ds' : List Pt, ds'.Nodup ∧ (∀ d ∈ ds', d ∈ fs ++ (L c).filter fun y => decide (y ∉ fs)) ∧ (fs ++ (L c).filter fun y => decide (y ∉ fs)).length ≤ 40 * ds'.length := by
        cases hz : (L c).filter (fun y => decide (y ∉ fs)) with
        | nil => exact ⟨ds, nd, fun d hd => List.mem_append.mpr (.inl (dsf d hd)), by rw [List.append_nil]; exact ld2⟩
        | cons y0 r =>
          have hy0 : y0 ∈ (L c).filter (fun y => decide (y ∉ fs)) := by rw [hz]; exact List.mem_cons_self
          have ny0 : y0 ∉ fs := by simpa using (List.mem_filter.mp hy0).2
          rw [hz] at lz
          refine ⟨ds ++ [y0], List.nodup_append.mpr ⟨nd, by simp, fun a ha b hb => ?_⟩, fun d hd => ?_, by rw [List.length_append, List.length_append, List.length_singleton]; omega⟩
          · rw [List.mem_singleton.mp hb]
            rintro rfl
            exact ny0 (dsf _ ha)
          · rcases List.mem_append.mp hd with hd | hd
            · exact List.mem_append.mpr (.inl (dsf d hd))
            · rw [List.mem_singleton.mp hd]
              exact List.mem_append.mpr (.inr List.mem_cons_self)
      exact ⟨u, ys ++ zs, _, ds', some x, x6, rfl, (e5.trans e6).trans (Ex.new hu), upd_same, A6, mem, n1, n2, n3⟩
    · rintro σ' H5 ⟨fl, ys, fs, ds, x5, x6, rfl, e5, h5, a5, hf, nd, dsf, ld2⟩
      rw [a2.1, List.take_length] at hf
      have fN : ∀ y ∈ fs, y ∈ N := fun y hy => by
        obtain ⟨x, hx, hy⟩ := (hf y).mp hy
        exact (hN x (hcN x hx)).2 y hy
      have ld3 : ds.length ≤ N.length := nodup_le nd fun d hd => fN d (dsf d hd)
      refine s_asg (ev_var rfl) fun H6 e6 => ⟨fl, ys, fs, _, _, _, _, rfl, (E4.trans e5).trans e6, e6 _ _ h5, a5.tup (.of_ex e6), fun y => ?_, fN, by omega, fun m h1 hm => ?_⟩
      · rw [hf y]
        constructor
        · rintro ⟨x, hx, hy⟩
          exact .snoc ((hc x).mp hx) hy
        · intro h
          cases h with
          | snoc h hy => exact ⟨_, (hc _).mpr h, hy⟩
      · by_cases em : m ≤ i
        · exact hno m h1 em
        · have : m = i + 1 := by omega
          subst this
          exact fun h => hns ((hc s).mpr h)
  · subst hσ
    exact s_ret ev_c fun H3 e3 => k 0 H3 (.inr ⟨rfl, fun m h1 hm => hno m h1 hm⟩) (e2.trans e3)
end
end Z

set_option Elab.async false
set_option linter.all false
set_option autoImplicit false
set_option maxRecDepth 100000
set_option maxHeartbeats 4000000
/-! ev: what an expression comes to, by its form -/
local macro_rules | `(tactic| k_places) => `(tactic| (repeat' (first
  | (with_reducible exact ev_c)
  | (with_reducible exact ev_var rfl)
  | (with_reducible refine ev_chainLL ?_ ?_ ?_)
  | (with_reducible refine ev_chainLt ?_ ?_ ?_)
  | (with_reducible refine ev_op ?_ ?_ ?_)
  | (with_reducible refine ev_neg ?_)
  | (with_reducible refine et_test ?_)
  | (with_reducible refine et_B ?_)
  | (with_reducible refine et_not ?_)
  | (with_reducible refine et_and ?_ (fun _ => ?_))
  | (with_reducible refine et_or ?_ (fun _ => ?_))
  | (with_reducible refine ev_andV ?_ (fun _ => ?_))
  | (with_reducible refine ev_orV ?_ (fun _ => ?_))
  | (with_reducible refine ev_notV ?_)
  | (with_reducible exact rv_addI)
  | (with_reducible exact rv_subI)
  | (with_reducible exact rv_lt)
  | (with_reducible exact rv_le)
  | (with_reducible exact rv_gt)
  | (with_reducible exact rv_ge)
  | (with_reducible exact rv_isB)
  | (with_reducible exact rv_isnB)
  | (with_reducible exact rv_isN)
  | (with_reducible exact rv_isnN)
  | (with_reducible exact rv_eqS rfl)
  | (with_reducible exact rv_neS rfl)
  | (with_reducible exact rv_inStr)
  | (with_reducible exact rv_ninStr)
  | (with_reducible exact rv_mod (by first | decide | omega | assumption))
  | (with_reducible exact rv_div (by first | decide | omega | assumption))
  | (with_reducible exact rv_pow (by decide))
  | (with_reducible refine ed_i ?_; done)
  | (with_reducible exact ea_nil)
  | (with_reducible refine ea_cons ?_ ?_)
  | (with_reducible exact eds_nil)
  | (with_reducible refine eds_cons ?_ ?_)
  | (with_reducible exact ed_dnew)
  | (with_reducible refine ed_lst ?_ (by simp only [List.length_cons, List.length_nil]; omega))
  | (with_reducible refine ed_tup ?_ (by simp only [List.length_cons, List.length_nil]; omega)))))
namespace Z
open PySem PySem.Spec PyProof.Rows L2 Evl NdefX LamX
/-! ### drawn spots and leanings (k20, k21, k22) -/
/-- leanings, all within N, short -/
structure LdN (H : Hp) (ld : Addr) (L : Pt → List Pt) (N : List Pt) (n m : Nat) : Prop where
  at_ : ∃ kvs, H ld = some (.dT kvs) ∧ kvs.length ≤ n ∧ ∀ x, (valV kvs (keyP x) = none ∧ L x = []) ∨ ∃ p xs, valV kvs (keyP x) = some (.ref p) ∧ H p = some (.lst xs) ∧ AtPs H xs (L x)
  sub : ∀ x, ∀ y ∈ L x, y ∈ N
  few : ∀ x, (L x).length ≤ m
theorem LdN.lat {H : Hp} {ld : Addr} {L : Pt → List Pt} {N : List Pt} {n m : Nat} (h : LdN H ld L N n m) : LAt H ld L := let ⟨kvs, a, _, b⟩ := h.at_; ⟨kvs, a, b⟩
theorem LdN.ex {H H' : Hp} {ld : Addr} {L : Pt → List Pt} {N : List Pt} {n m : Nat} (e : Ex H H') (h : LdN H ld L N n m) : LdN H' ld L N n m := by
  refine ⟨?_, h.sub, h.few⟩
  obtain ⟨kvs, h1, h2, h3⟩ := h.at_
  refine ⟨kvs, e _ _ h1, h2, fun x => ?_⟩
  rcases h3 x with h | ⟨p, xs, a, b, c⟩
  · exact .inl h
  · exact .inr ⟨p, xs, a, e _ _ b, c.tup (.of_ex e)⟩
def updL (L : Pt → List Pt) (k : Pt) (ps : List Pt) : Pt → List Pt := fun x => if x = k then ps else L x
/-- one more key, or another list for it -/
theorem LdN.put {H H' : Hp} {ld q : Addr} {L : Pt → List Pt} {N : List Pt} {n m : Nat} {kvs : List (List Key × V)} {k : Pt} {ps : List Pt} {xs : List V} (h : LdN H ld L N n m) (h1 : H ld = some (.dT kvs)) (g1 : H' ld = some (.dT (putK kvs (keyP k) (.ref q)))) (kp : ∀ a xs, H a = some (.lst xs) → H' a = some (.lst xs)) (t : Tup H H')
    (hq : H' q = some (.lst xs)) (a : AtPs H' xs ps) (hs : ∀ y ∈ ps, y ∈ N) (hm : ps.length ≤ m) : LdN H' ld (updL L k ps) N (n + 1) m := by
  obtain ⟨kvs', e, h2, h3⟩ := h.at_
  rw [h1] at e
  cases e
  refine ⟨⟨_, g1, Nat.le_trans (putLen kvs (keyP k) (.ref q)) (Nat.succ_le_succ h2), fun x => ?_⟩, fun x y hy => ?_, fun x => ?_⟩
  · rw [valV_put]
    unfold updL
    by_cases e : x = k
    · subst e
      rw [if_pos rfl, if_pos rfl]
      exact .inr ⟨q, xs, rfl, hq, a⟩
    · rw [if_neg fun z => e (keyP_inj z), if_neg e]
      rcases h3 x with h | ⟨p, zs, b1, b2, b3⟩
      · exact .inl h
      · exact .inr ⟨p, zs, b1, kp _ _ b2, b3.tup t⟩
  · unfold updL at hy
    split at hy
    · exact hs y hy
    · exact h.sub x y hy
  · unfold updL
    split
    · exact hm
    · exact h.few x
def sp_law_spots (K : PySem.W.Frag) : Sp := fun vs H Q _ => ∃ (l : Addr) (ns : List Int), vs = [.ref l] ∧ SqL K H l (ns.map V.int) ∧ ∀ (ss : List Pt) p xs H', ss.length = 5 → ss.Nodup → (∀ s ∈ ss, okP s) → Ex H H' → H p = none → H' p = some (.lst xs) → AtPs H' xs ss → Q (.ref p) H'
def sp_law_leanings (K : PySem.W.Frag) : Sp := fun vs H Q _ => ∃ (l sl : Addr) (ns : List Int) (xs : List V) (ss : List Pt), vs = [.ref l, .ref sl] ∧ SqL K H l (ns.map V.int) ∧ H sl = some (.lst xs) ∧ AtPs H xs ss ∧ ss.length = 5 ∧ (∀ s ∈ ss, okP s) ∧ ∀ ld L H', Ex H H' → H ld = none → LdN H' ld L ss 5 6 → Q (.ref ld) H'
/-- names: "script", "names", "k" -/
def t_law_spots (K : PySem.W.Frag) (E : XK) : TS :=
  tSeq (tAsg (tCallS (sp_law_names K) (WE (fun cls d _ H => E cls d H)) (tCons (tVar 0) (tCons (tC (.int 7)) tNil))) (gName 1))
    (tRet (tLc (iRng1 (tCons (tC (.int 5)) tNil)) (gName 2) tYes (tTup (tCons (tOp (rIxA K) (tVar 1) (tOp (rAddA K) (tC (.int 5)) (tCall (sp_law_drawn K) [] E0 (tCons (tVar 0) (tCons (tOp (rAddA K) (tC (.int 20)) (tVar 2)) (tCons (tC (.int 2)) tNil)))))) (tCons (tOp (rIxA K) (tVar 1) (tVar 2)) tNil))) [2]))
/-- names: "script", "spots", "leanings", "share", "k", "found", "j" -/
def t_law_leanings (K : PySem.W.Frag) (E : XK) : TS :=
  tSeq (tAsg tDNewT (gName 2))
    (tSeq (tAsg (tOp (rIxA K) (tLst (tCons (tC (.int 1)) (tCons (tC (.int 2)) (tCons (tC (.int 3)) (tCons (tC (.int 5)) tNil))))) (tCallS (sp_law_drawn K) (WE (fun cls d _ H => E cls d H)) (tCons (tVar 0) (tCons (tC (.int 30)) (tCons (tC (.int 4)) tNil))))) (gName 3))
    (tSeq (tFor (iRng1 (tCons (tCB (rLenA K) (tCons (tVar 1) tNil)) tNil)) (gName 4) (tSeq (tAsg (tLst tNil) (gName 5))
    (tSeq (tFor (iRng1 (tCons (tCB (rLenA K) (tCons (tVar 1) tNil)) tNil)) (gName 6) (tIfS (tTest (tOp rLtA (tCallS (sp_law_drawn K) (WE (fun cls d _ H => E cls d H)) (tCons (tVar 0) (tCons (tOp (rAddA K) (tOp (rAddA K) (tC (.int 40)) (tOp (rMulA K) (tC (.int 7)) (tVar 4))) (tVar 6)) (tCons (tC (.int 8)) tNil)))) (tVar 3))) (tDrop (tBM K "list" rInsA (tVar 5) (tCons (tCallS (sp_law_drawn K) (WE (fun cls d _ H => E cls d H)) (tCons (tVar 0) (tCons (tOp (rAddA K) (tOp (rAddA K) (tC (.int 90)) (tOp (rMulA K) (tC (.int 7)) (tVar 4))) (tVar 6)) (tCons (tOp (rAddA K) (tCB (rLenA K) (tCons (tVar 5) tNil)) (tC (.int 1))) tNil)))) (tCons (tOp (rIxA K) (tVar 1) (tVar 6)) tNil)))) tNext))
    (tSeq (tIfS (tAnd (tTest (tOp (rNeA K) (tVar 5) (tLst tNil))) (tTest (tOp (rEqA K) (tCallS (sp_law_drawn K) (WE (fun cls d _ H => E cls d H)) (tCons (tVar 0) (tCons (tOp (rAddA K) (tC (.int 140)) (tVar 4)) (tCons (tC (.int 5)) tNil)))) (tC (.int 0))))) (tDrop (tBM K "list" rAppend (tVar 5) (tCons (tOp (rIxA K) (tVar 5) (tC (.int 0))) tNil))) tNext)
    (tIfS (tOr (tTest (tOp (rNeA K) (tVar 5) (tLst tNil))) (tTest (tOp (rEqA K) (tCallS (sp_law_drawn K) (WE (fun cls d _ H => E cls d H)) (tCons (tVar 0) (tCons (tOp (rAddA K) (tC (.int 150)) (tVar 4)) (tCons (tC (.int 2)) tNil)))) (tC (.int 0))))) (tAsg (tVar 5) (gSub (tVar 2) (tOp (rIxA K) (tVar 1) (tVar 4)) rSetA)) tNext)))))
    (tRet (tVar 2))))
section
variable {K : PySem.W.Frag} {σ : L2.St} {H H' : Hp} {te tl ta tb : TE} {D : Ends} {tz : TS} {E : L2.St → XK}
theorem len_law_spots (vs : List V) (H : Hp) (Q : VK) (E : XK) (h : sp_law_spots K vs H Q E) : vs.length = 1 := by obtain ⟨_, _, rfl, _⟩ := h; rfl
theorem len_law_leanings (vs : List V) (H : Hp) (Q : VK) (E : XK) (h : sp_law_leanings K vs H Q E) : vs.length = 2 := by obtain ⟨_, _, _, _, _, rfl, _⟩ := h; rfl
theorem r_law_spots (vs : List V) (H : Hp) (Q : VK) (E : XK) (h : sp_law_spots K vs H Q E) : t_law_spots K E { nx := fun _ H' => Q .non H', rt := Q } (L2.start ["script", "names", "k"] vs) H := by
  obtain ⟨l, ns, rfl, hl, k⟩ := h
  unfold t_law_spots
  refine q_names hl (ev_var rfl) (ev_c (v := .int ((7 : Nat) : Int))) (by decide) fun np zs H1 l7 nd nz _ e1 h1 => ?_
  refine er_lcR (Q := Q) (n := 5) (R := fun i v H => ∃ t ∈ zs, ∃ z, zs[i]? = some z ∧ AtP H v (t, z)) (fun i v H H' ⟨t, a, z, b, c⟩ im => ⟨t, a, z, b, c.tup im.tup⟩) (ea_cons ev_c ea_nil) (by decide) (fun _ => rfl) (fun i H2 e2 hi => ?_) fun p ys H2 hp e2 h2 hl2 hr => ?_
  · have b := drawn_bd ns (20 + i) (size := 2) (by decide)
    obtain ⟨t, ht, ixt⟩ := name_rng (zs := zs) (i := 5 + drawn ns (20 + i) 2) (by omega) (by omega)
    have li : i < zs.length := by omega
    have E := e1.trans e2
    intro H3 e3 Q3 q3
    exact er_pt (s := (t, zs[i])) (ev_op (ev_var rfl) (ev_op ev_c (ev_drawnB (j := 20 + i) (ex_l (E.trans e3) hl) (ev_var rfl) (ev_is (ev_op ev_c (ev_var rfl) rv_addI) (by rw [Int.natCast_add]; rfl)) ev_c (by omega) (by decide)) rv_addI) (rv_itL (SqL.of ((e2.trans e3) _ _ h1)) ixt))
      (ev_op (ev_var rfl) (ev_var rfl) (rv_itL (SqL.of ((e2.trans e3) _ _ h1)) (atI_nat (by rw [List.getElem?_map, List.getElem?_eq_getElem li]; rfl)))) H3 (Ex.refl H3) Q3 fun v H4 e4 r => q3 v H4 e4 ⟨t, ht, zs[i], List.getElem?_eq_getElem li, r⟩
  · obtain ⟨y0, y1, y2, y3, y4, rfl⟩ : ∃ a b c d e, ys = [a, b, c, d, e] := by
      match ys, hl2 with
      | [a, b, c, d, e], _ => exact ⟨_, _, _, _, _, rfl⟩
    obtain ⟨z0, z1, z2, z3, z4, z5, z6, rfl⟩ : ∃ a b c d e f g, zs = [a, b, c, d, e, f, g] := by
      match zs, l7 with
      | [a, b, c, d, e, f, g], _ => exact ⟨_, _, _, _, _, _, _, rfl⟩
    obtain ⟨t0, m0, _, q0, a0⟩ := hr 0 y0 rfl
    obtain ⟨t1, m1, _, q1, a1⟩ := hr 1 y1 rfl
    obtain ⟨t2, m2, _, q2, a2⟩ := hr 2 y2 rfl
    obtain ⟨t3, m3, _, q3, a3⟩ := hr 3 y3 rfl
    obtain ⟨t4, m4, _, q4, a4⟩ := hr 4 y4 rfl
    cases q0; cases q1; cases q2; cases q3; cases q4
    refine k [(t0, z0), (t1, z1), (t2, z2), (t3, z3), (t4, z4)] p _ H2 rfl ?_ (fun s hs => ?_) (e1.trans e2) (fresh_back e1 hp) h2 (((((atPs1 a0).snoc a1).snoc a2).snoc a3).snoc a4)
    · simp only [List.nodup_cons, List.mem_cons, not_or, List.mem_nil_iff, or_false, Prod.mk.injEq, not_and] at nd ⊢
      obtain ⟨⟨n1, n2, n3, n4, _⟩, ⟨n5, n6, n7, _⟩, ⟨n8, n9, _⟩, ⟨n10, _⟩, _⟩ := nd
      exact ⟨⟨fun _ => n1, fun _ => n2, fun _ => n3, fun _ => n4⟩, ⟨fun _ => n5, fun _ => n6, fun _ => n7⟩, ⟨fun _ => n8, fun _ => n9⟩, fun _ => n10, fun z => z.elim, .nil⟩
    · simp only [List.mem_cons, List.mem_nil_iff, or_false] at hs
      rcases hs with rfl | rfl | rfl | rfl | rfl
      · exact ⟨name_ok (nz _ m0), name_ok (nz _ (by simp))⟩
      · exact ⟨name_ok (nz _ m1), name_ok (nz _ (by simp))⟩
      · exact ⟨name_ok (nz _ m2), name_ok (nz _ (by simp))⟩
      · exact ⟨name_ok (nz _ m3), name_ok (nz _ (by simp))⟩
      · exact ⟨name_ok (nz _ m4), name_ok (nz _ (by simp))⟩
theorem LdN.mono {ld : Addr} {L : Pt → List Pt} {N : List Pt} {n n' m : Nat} (h : LdN H ld L N n m) (hn : n ≤ n') : LdN H ld L N n' m := ⟨let ⟨kvs, a, b, c⟩ := h.at_; ⟨kvs, a, Nat.le_trans b hn, c⟩, h.sub, h.few⟩
theorem AtPs.drop {vs : List V} {ss : List Pt} (r : AtPs H vs ss) (i : Nat) : AtPs H (vs.drop i) (ss.drop i) := ⟨by rw [List.length_drop, List.length_drop, r.1], fun j s hs => by
  rw [List.getElem?_drop] at hs ⊢
  exact r.2 _ s hs⟩
theorem s_insN {l : Addr} {xs : List V} {v : V} {i d : Nat} {x : Int} (hx : x = (d : Int)) (hi : σ[i]? = some (some (.ref l))) (hl : H l = some (.lst xs)) (he : Ev te σ H (.int x)) (hv : Ev tb σ H v) (hz : xs.length < 100000) (hd : d ≤ 100000) (k : ∀ H1, Ex H H1 → D.nx σ (upd H1 l (.lst (xs.take d ++ [v] ++ xs.drop d)))) :
    tDrop (tBM K "list" rInsA (tVar i) (tCons te (tCons tb tNil))) D σ H := by
  subst hx
  exact ⟨_, hi, tyLst hl, he H (Ex.refl H) _ fun H2 e2 => hv H2 e2 _ fun H3 e3 => ⟨l, xs, (d : Int), v, rfl, rfl, (e2.trans e3) _ _ hl, sz_lt hz, by omega, by omega, k H3 (e2.trans e3)⟩⟩
theorem s_setT' {p b : Addr} {kvs : List (List Key × V)} {k : List Key} {v : V} (h : H p = some (.dT kvs)) (hv : Ev te σ H v) (ho : Ev ta σ H (.ref p)) (hk : Ev tb σ H (.ref b)) (hb : H b = some (.tup (k.map kV))) (hl : kvs.length < 100000) (kk : ∀ H1, Ex H H1 → D.nx σ (upd H1 p (.dT (putK kvs k v)))) : tAsg te (gSub ta tb rSetA) D σ H :=
  hv H (Ex.refl H) _ fun H1 e1 => ho H1 e1 _ fun H2 e2 => hk H2 (e1.trans e2) _ fun H3 e3 => .inr ⟨p, _, rfl, DPut.t (((e1.trans e2).trans e3) _ _ h) (((e1.trans e2).trans e3) _ _ hb) (sz_lt hl), kk H3 ((e1.trans e2).trans e3)⟩
theorem ev_neNil {p : Addr} {ys : List V} {ps : List Pt} (h : Ev ta σ H (.ref p)) (hp : H p = some (.lst ys)) (a : AtPs H ys ps) (ok : ∀ s ∈ ps, okP s) : Ev (tOp (rNeA K) ta (tLst tNil)) σ H (.bl (!decide (ps = []))) :=
  ev_is (ev_neD (ed_pts h hp a) (ed_lst eds_nil (show 0 ≤ 100000 by decide)) (okD_dPs ok) (by show okN 10 (.list _); simp only [okN, okNs])) (by cases ps <;> rfl)
theorem q_ifMidB {tt : TT} {tu : TS} {b : Bool} (M : Hp → Prop) (h : EvT tt σ H b) (h1 : b = true → ∀ H1, Ex H H1 → ∀ Qn : L2.St → Hp → Prop, (∀ H', M H' → Qn σ H') → tu { D with nx := Qn } σ H1) (h2 : ∀ H1, Ex H H1 → M H1) (k : ∀ H', M H' → tz D σ H') : tSeq (tIfS tt tu tNext) tz D σ H :=
  q_if h (fun hb H1 e => h1 hb H1 e _ k) fun _ H1 e => k H1 (h2 H1 e)
theorem r_law_leanings (vs : List V) (H : Hp) (Q : VK) (E : XK) (h : sp_law_leanings K vs H Q E) : t_law_leanings K E { nx := fun _ H' => Q .non H', rt := Q } (L2.start ["script", "spots", "leanings", "share", "k", "found", "j"] vs) H := by
  obtain ⟨l, sl, ns, xs, ss, rfl, hl, hs, as, l5, ok, k⟩ := h
  unfold t_law_leanings
  have lx : xs.length = 5 := by rw [as.1]; exact l5
  have sp : ∀ {H1 : Hp} {σ : L2.St} {te : TE} {i : Nat}, Ex H H1 → σ[1]? = some (some (V.ref sl)) → Ev te σ H1 (.int (i : Int)) → i < 5 → ∃ (v : V) (s : Pt), ss[i]? = some s ∧ AtP H1 v s ∧ Ev (tOp (rIxA K) (tVar 1) te) σ H1 v := fun {H1 σ te i} e h1 ht hi => by
    have hi' : i < xs.length := by omega
    obtain ⟨s, q, a⟩ := (as.tup (.of_ex e)).at (List.getElem?_eq_getElem hi')
    exact ⟨xs[i], s, q, a, ev_op (ev_var h1) ht (rv_itL (SqL.of (e _ _ hs)) (atI_nat (List.getElem?_eq_getElem hi')))⟩
  have dr : ∀ {H1 : Hp} {σ : L2.St} {tb tc : TE} {j : Nat} {n x : Int} {E : L2.St → XK}, Ex H H1 → σ[0]? = some (some (V.ref l)) → Ev tb σ H1 (.int x) → Ev tc σ H1 (.int n) → x = (j : Int) → j ≤ 100000 → 0 < n → Ev (tCallS (sp_law_drawn K) E (tCons (tVar 0) (tCons tb (tCons tc tNil)))) σ H1 (.int (drawn ns j n)) := fun e h0 hb hn hx hj h0' => by
    subst hx
    exact ev_drawn (ex_l e hl) (ev_var h0) hb hn hj h0'
  refine q_asgDT fun ld H1 hld e1 h1 => ?_
  obtain ⟨sh, hsh⟩ : ∃ sh : Int, [V.int 1, V.int 2, V.int 3, V.int 5].getD (drawn ns 30 4).toNat .non = V.int sh := by
    have := getD_mem (d := V.non) (drawn_lt (xs := [V.int 1, V.int 2, V.int 3, V.int 5]) ns 30 (n := 4) rfl (by decide))
    simp only [List.mem_cons, List.mem_nil_iff, or_false] at this
    rcases this with z | z | z | z <;> exact ⟨_, z⟩
  have ix : Ev (tOp (rIxA K) (tLst (tCons (tC (.int 1)) (tCons (tC (.int 2)) (tCons (tC (.int 3)) (tCons (tC (.int 5)) tNil))))) (tCallS (sp_law_drawn K) (WE (fun cls d _ H => E cls d H)) (tCons (tVar 0) (tCons (tC (.int 30)) (tCons (tC (.int 4)) tNil))))) [some (.ref l), some (.ref sl), some (.ref ld), none, none, none, none] H1 (.int sh) := by
    have := ev_ixN (K := K) (σ := [some (.ref l), some (.ref sl), some (.ref ld), none, none, none, none]) (H := H1) (el_lst (ea_cons (ev_c (v := .int 1)) (ea_cons (ev_c (v := .int 2)) (ea_cons (ev_c (v := .int 3)) (ea_cons (ev_c (v := .int 5)) ea_nil)))) (show 4 ≤ 100000 by decide)) (dr (tb := tC (.int 30)) (tc := tC (.int 4)) (j := 30) (n := 4) (E := WE (fun cls d _ H => E cls d H)) e1 rfl ev_c ev_c rfl (by decide) (by decide)) (atI_drawn ns 30 .non (n := 4) (by rfl) (by decide))
    rwa [hsh] at this
  refine q_asg ix fun H2 e2 => ?_
  have e12 := e1.trans e2
  have len5 : ∀ {H3 : Hp} {σ : L2.St}, Ex H H3 → σ[1]? = some (some (V.ref sl)) → EvA (tCons (tCB (rLenA K) (tCons (tVar 1) tNil)) tNil) σ H3 [.int 5] := fun e h1 => ea_cons (ev_is (ev_lenV (ev_var h1) (rc_lenL (K := K) (SqL.of (e _ _ hs)))) (by rw [lx]; rfl)) ea_nil
  refine q_forR1 (n := 5) (len5 e12 rfl) (by decide) (fun i σ' H' => ∃ (L : Pt → List Pt) (x4 x5 x6 : Option V), σ' = [some (.ref l), some (.ref sl), some (.ref ld), some (.int sh), x4, x5, x6] ∧ Ex H H' ∧ LdN H' ld L ss i 6)
    (fun H3 e3 => ⟨fun _ => [], _, _, _, rfl, e12.trans e3, ⟨[], (e2.trans e3) _ _ h1, Nat.le_refl 0, fun x => .inl ⟨rfl, rfl⟩⟩, fun x y hy => (by cases hy), fun x => Nat.zero_le 6⟩) (fun i σ' H3 hi ⟨L, x4, x5, x6, hσ, e3, hL⟩ => ?_) fun σ' H3 ⟨L, x4, x5, x6, hσ, e3, hL⟩ => ?_
  · subst hσ
    have hi5 : i < 5 := by omega
    refine q_asgL (el_lst ea_nil (by decide)) fun fq H4 hfq e4 h4 => ?_
    have nf : H fq = none := fresh_back e3 hfq
    refine q_forR1 (n := 5) (len5 (e3.trans e4) rfl) (by decide) (fun j σ' H' => ∃ (ys : List V) (ps : List Pt) (x6 : Option V), σ' = [some (.ref l), some (.ref sl), some (.ref ld), some (.int sh), some (.int (i : Int)), some (.ref fq), x6] ∧ Ex H3 H' ∧ H' fq = some (.lst ys) ∧ AtPs H' ys ps ∧ (∀ y ∈ ps, y ∈ ss) ∧ ps.length ≤ j)
      (fun H5 e5 => ⟨[], [], _, rfl, e4.trans e5, e5 _ _ h4, ⟨rfl, fun i s z => by simp at z⟩, (fun y hy => by cases hy), Nat.le_refl 0⟩) (fun j σ' H5 hj ⟨ys, ps, x6, hσ, e5, h5, a5, sub5, l5'⟩ => ?_) fun σ' H5 ⟨ys, ps, x6, hσ, e5, h5, a5, sub5, l5'⟩ => ?_
    · subst hσ
      have E5 := e3.trans e5
      refine s_when (et_test (ev_op (dr (j := 40 + 7 * i + j) (n := 8) E5 rfl (ev_op (ev_op ev_c (ev_op ev_c (ev_var rfl) (rv_mulI (wide_mul (a := 20) (b := 20) (by decide) (by omega) (by decide) (by decide) (by decide)))) rv_addI) (ev_var rfl) rv_addI) ev_c (by omega) (by omega) (by decide)) (ev_var rfl) rv_lt)) (fun hb H6 e6 => ?_) (fun hb H6 e6 => ⟨ys, ps, _, rfl, e5.trans e6, e6 _ _ h5, a5.tup (.of_ex e6), sub5, by omega⟩)
      obtain ⟨v, s, qs, av, ev⟩ := sp (te := tVar 6) (σ := [some (.ref l), some (.ref sl), some (.ref ld), some (.int sh), some (.int (i : Int)), some (.ref fq), some (.int (j : Int))]) (i := j) (E5.trans e6) rfl (ev_var rfl) (by omega)
      have bd := drawn_bd ns (90 + 7 * i + j) (size := (ys.length : Int) + 1) (by omega)
      refine s_insN (d := (drawn ns (90 + 7 * i + j) ((ys.length : Int) + 1)).toNat) (Int.toNat_of_nonneg bd.1).symm rfl (e6 _ _ h5) (dr (j := 90 + 7 * i + j) (E5.trans e6) rfl (ev_op (ev_op ev_c (ev_op ev_c (ev_var rfl) (rv_mulI (wide_mul (a := 20) (b := 20) (by decide) (by omega) (by decide) (by decide) (by decide)))) rv_addI) (ev_var rfl) rv_addI) (ev_op (ev_lenV (ev_var rfl) (rc_lenL (K := K) (SqL.of (e6 _ _ h5)))) ev_c rv_addI) (by omega) (by omega) (by omega)) ev (by have := a5.1; omega) (by have := a5.1; omega) fun H7 e7 => ?_
      have e67 := e6.trans e7
      generalize (drawn ns (90 + 7 * i + j) ((ys.length : Int) + 1)).toNat = d
      have tt : Tup H5 (upd H7 fq (.lst (ys.take d ++ [v] ++ ys.drop d))) := ((Imk.of e67).trans (Imk.upd (e67 _ _ h5) fun z => z)).tup
      have t6 : Tup H6 (upd H7 fq (.lst (ys.take d ++ [v] ++ ys.drop d))) := ((Imk.of e7).trans (Imk.upd (e67 _ _ h5) fun z => z)).tup
      refine ⟨_, ps.take d ++ [s] ++ ps.drop d, _, rfl, Ex.mut (e5.trans e67) hfq, upd_same, atPs_app (atPs_app ((a5.tup tt).take d) (atPs1 (av.tup t6))) ((a5.tup tt).drop d), fun y hy => ?_, ?_⟩
      · simp only [List.mem_append, List.mem_singleton] at hy
        rcases hy with (hy | rfl) | hy
        · exact sub5 y (List.mem_of_mem_take hy)
        · exact List.mem_of_getElem? qs
        · exact sub5 y (List.mem_of_mem_drop hy)
      · simp only [List.length_append, List.length_take, List.length_drop, List.length_singleton]
        omega
    · subst hσ
      have E5 := e3.trans e5
      have l5'' : ps.length ≤ 5 := l5'
      refine q_ifMidB (fun H' => ∃ (ys : List V) (ps : List Pt), Ex H3 H' ∧ H' fq = some (.lst ys) ∧ AtPs H' ys ps ∧ (∀ y ∈ ps, y ∈ ss) ∧ ps.length ≤ 6) (et_and (et_test (ev_neNil (ev_var rfl) h5 a5 fun s hs => ok s (sub5 s hs))) fun _ => et_test (ev_op (dr (j := 140 + i) (n := 5) E5 rfl (ev_op ev_c (ev_var rfl) rv_addI) ev_c (by omega) (by omega) (by decide)) ev_c (rv_eqS rfl))) (fun hb H6 e6 Qn hQ => ?_) (fun H6 e6 => ⟨ys, ps, e5.trans e6, e6 _ _ h5, a5.tup (.of_ex e6), sub5, by omega⟩) fun H6 ⟨ys, ps, e6, h6, a6, sub6, l6⟩ => ?_
      · have hne : ps ≠ [] := fun z => by subst z; simp at hb
        obtain ⟨s0, hs0⟩ : ∃ s0, ps[0]? = some s0 := by
          cases ps with
          | nil => exact absurd rfl hne
          | cons a r => exact ⟨a, rfl⟩
        obtain ⟨v0, hv0, av0⟩ := (a5.tup (.of_ex e6)).2 0 s0 hs0
        refine s_app (e6 _ _ h5) (ev_var rfl) (ev_op (ev_var rfl) ev_c (rv_itL (SqL.of (e6 _ _ h5)) (atI_nat (j := 0) hv0))) (by have := a5.1; omega) fun H7 e7 => hQ _ ⟨ys ++ [v0], ps ++ [s0], Ex.mut (e5.trans (e6.trans e7)) hfq, upd_same, ?_, fun y hy => ?_, by rw [List.length_append]; exact Nat.succ_le_succ l5''⟩
        · have tt : Tup H6 (upd H7 fq (.lst (ys ++ [v0]))) := ((Imk.of e7).trans (Imk.upd ((e6.trans e7) _ _ h5) fun z => z)).tup
          exact ((a5.tup (.of_ex e6)).tup tt).snoc (av0.tup tt)
        · rcases List.mem_append.mp hy with hy | hy
          · exact sub5 y hy
          · rw [List.mem_singleton.mp hy]
            exact sub5 s0 (List.mem_of_getElem? hs0)
      · have E6 := e3.trans e6
        have hL6 := hL.ex e6
        obtain ⟨kvs, g1, g2, g3⟩ := hL6.at_
        refine s_when (et_or (et_test (ev_neNil (ev_var rfl) h6 a6 fun s hs => ok s (sub6 s hs))) fun _ => et_test (ev_op (dr (j := 150 + i) (n := 2) E6 rfl (ev_op ev_c (ev_var rfl) rv_addI) ev_c (by omega) (by omega) (by decide)) ev_c (rv_eqS rfl))) (fun hb H7 e7 => ?_) (fun hb H7 e7 => ⟨L, _, _, _, rfl, E6.trans e7, (hL6.ex e7).mono (Nat.le_succ i)⟩)
        obtain ⟨v, s, qs, ⟨b, rfl, gb⟩, ev⟩ := sp (te := tVar 4) (σ := [some (.ref l), some (.ref sl), some (.ref ld), some (.int sh), some (.int (i : Int)), some (.ref fq), x6]) (i := i) (E6.trans e7) rfl (ev_var rfl) hi5
        refine s_setT' (k := keyP s) (e7 _ _ g1) (ev_var rfl) (ev_var rfl) ev gb (by omega) fun H8 e8 => ?_
        have e78 := e7.trans e8
        have ldn : ∀ {a : Addr} {xs : List V}, H6 a = some (.lst xs) → upd H8 ld (.dT (putK kvs (keyP s) (.ref fq))) a = some (.lst xs) := fun {a xs} e => (upd_ne fun z => by rw [z, g1] at e; cases e).trans (e78 _ _ e)
        have tt : Tup H6 (upd H8 ld (.dT (putK kvs (keyP s) (.ref fq)))) := fun a xs e => (upd_ne fun z => by rw [z, g1] at e; cases e).trans (e78 _ _ e)
        exact ⟨updL L s ps, _, _, _, rfl, Ex.mut (E6.trans e78) hld, hL6.put g1 upd_same (fun a xs e => ldn e) tt (ldn h6) (a6.tup tt) sub6 l6⟩
  · subst hσ
    exact s_ret (ev_var rfl) fun H4 e4 => k ld L H4 (e3.trans e4) hld (hL.ex e4)
end
end Z

set_option Elab.async false
set_option linter.all false
set_option autoImplicit false
set_option maxRecDepth 100000
set_option maxHeartbeats 4000000
/-! ev: what an expression comes to, by its form -/
local macro_rules | `(tactic| k_places) => `(tactic| (repeat' (first
  | (with_reducible exact ev_c)
  | (with_reducible exact ev_var rfl)
  | (with_reducible refine ev_chainLL ?_ ?_ ?_)
  | (with_reducible refine ev_chainLt ?_ ?_ ?_)
  | (with_reducible refine ev_op ?_ ?_ ?_)
  | (with_reducible refine ev_neg ?_)
  | (with_reducible refine et_test ?_)
  | (with_reducible refine et_B ?_)
  | (with_reducible refine et_not ?_)
  | (with_reducible refine et_and ?_ (fun _ => ?_))
  | (with_reducible refine et_or ?_ (fun _ => ?_))
  | (with_reducible refine ev_andV ?_ (fun _ => ?_))
  | (with_reducible refine ev_orV ?_ (fun _ => ?_))
  | (with_reducible refine ev_notV ?_)
  | (with_reducible exact rv_addI)
  | (with_reducible exact rv_subI)
  | (with_reducible exact rv_lt)
  | (with_reducible exact rv_le)
  | (with_reducible exact rv_gt)
  | (with_reducible exact rv_ge)
  | (with_reducible exact rv_isB)
  | (with_reducible exact rv_isnB)
  | (with_reducible exact rv_isN)
  | (with_reducible exact rv_isnN)
  | (with_reducible exact rv_eqS rfl)
  | (with_reducible exact rv_neS rfl)
  | (with_reducible exact rv_inStr)
  | (with_reducible exact rv_ninStr)
  | (with_reducible exact rv_mod (by first | decide | omega | assumption))
  | (with_reducible exact rv_div (by first | decide | omega | assumption))
  | (with_reducible exact rv_pow (by decide))
  | (with_reducible refine ed_i ?_; done)
  | (with_reducible exact ea_nil)
  | (with_reducible refine ea_cons ?_ ?_)
  | (with_reducible exact eds_nil)
  | (with_reducible refine eds_cons ?_ ?_)
  | (with_reducible exact ed_dnew)
  | (with_reducible refine ed_lst ?_ (by simp only [List.length_cons, List.length_nil]; omega))
  | (with_reducible refine ed_tup ?_ (by simp only [List.length_cons, List.length_nil]; omega)))))
namespace Z
open PySem PySem.Spec PyProof.Rows L2 Evl NdefX LamX
/-! ### k22's own count of steps -/
def sp_law_length22 (K : PySem.W.Frag) : Sp := fun vs H Q _ => ∃ (ld p : Addr) (L : Pt → List Pt) (s : Pt) (N : List Pt), vs = [.ref ld, .ref p] ∧ LAt H ld L ∧ AtP H (.ref p) s ∧ (∀ x ∈ N, okP x ∧ ∀ y ∈ L x, y ∈ N) ∧ s ∈ N ∧ N.length ≤ 8 ∧ (∀ x, (L x).length ≤ 40) ∧
  ∀ v H', ((∃ n : Nat, v = .int (n : Int) ∧ n ≤ 8 ∧ Least L s n) ∨ (v = .non ∧ ∀ m, 1 ≤ m → m ≤ 8 → ¬ Rch L s m s)) → Ex H H' → Q v H'
/-- names: "leanings", "spot", "some", "met", "steps", "later", "one", "other" -/
def t_law_length22 (K : PySem.W.Frag) (E : XK) : TS :=
  tSeq (tAsg (tTup (tCons (tLst (tCons (tVar 1) tNil)) (tCons (tLst tNil) tNil))) (gTup K 2 (gCons (gName 2) (gCons (gName 3) gNil))))
    (tSeq (tFor (iRng2 (tCons (tC (.int 1)) (tCons (tC (.int 9)) tNil))) (gName 4) (tSeq (tAsg (tLst tNil) (gName 5))
    (tSeq (tFor (iList K (tVar 2)) (gName 6) (tAsg (tOp (rAddA K) (tVar 5) (tLc (iList K (tDGet2 (tVar 0) (tVar 6) (tLst tNil))) (gName 7) (tAnd (tTest (tOp (rNinA K) (tVar 7) (tVar 3))) (tTest (tOp (rNinA K) (tVar 7) (tVar 5)))) (tVar 7) [7])) (gName 5)))
    (tSeq (tIfS (tTest (tOp (rInA K) (tVar 1) (tVar 5))) (tRet (tVar 4)) tNext)
    (tSeq (tAsg (tOp (rAddA K) (tVar 3) (tVar 5)) (gName 3))
    (tAsg (tVar 5) (gName 2)))))))
    (tRet (tC .non)))
section
variable {K : PySem.W.Frag} {σ : L2.St} {H H' : Hp} {te tl ta tb : TE} {tt : TT} {D : Ends} {tz : TS} {E : L2.St → XK}
theorem len_law_length22 (vs : List V) (H : Hp) (Q : VK) (E : XK) (h : sp_law_length22 K vs H Q E) : vs.length = 2 := by obtain ⟨_, _, _, _, _, rfl, _⟩ := h; rfl
/-- a comprehension over leanings, with a test -/
theorem x_filtG {H0 : Hp} {ps : List Pt} {j : Nat} {Q : VK} (f : Pt → Bool) (h : EvG tl σ H0 H ps) (hj : ∀ x, ((wipe σ [j]).set j (some x))[j]? = some (some x)) (hw : ∀ x, wipe ((wipe σ [j]).set j (some x)) [j] = wipe σ [j])
    (ht : ∀ x s H1, Ex H H1 → AtP H1 x s → s ∈ ps → EvT tt ((wipe σ [j]).set j (some x)) H1 (f s)) (hl : ps.length ≤ 1000) (k : ∀ p zs H2, H p = none → Ex H H2 → H2 p = some (.lst zs) → AtPs H2 zs (ps.filter f) → Q (.ref p) H2) :
    tLc (iList K tl) (gName j) tt (tVar j) [j] σ H Q :=
  h _ fun q xs H1 e1 h1 a1 _ => ⟨q, rfl, ⟨xs, SqL.of h1⟩, fun Dl hD => by
    refine lc_list (xs := xs) (fun m H' => Ex H1 H' ∧ ∃ vs, H' Dl = some (.lst vs) ∧ AtPs H' vs ((ps.take m).filter f)) ⟨Ex.new hD, [], upd_same, rfl, fun i s z => by simp at z⟩ (fun m H' _ p => SqL.of (p.1 _ _ h1)) (fun m x H' hm p => ?_) fun H' p => ?_
    · obtain ⟨p1, vs, p2, p3⟩ := p
      have E1 := e1.trans p1
      obtain ⟨s, hs, as⟩ := (a1.tup (.of_ex p1)).at hm
      have tk : ps.take (m + 1) = ps.take m ++ [s] := by rw [List.take_add_one, hs]; rfl
      have lv : vs.length ≤ 1000 := by
        have := p3.1
        have := List.length_filter_le f (ps.take m)
        rw [List.length_take] at this
        omega
      show wipe ((wipe σ [j]).set j (some x)) [j] = wipe σ [j] ∧ _
      refine ⟨hw _, ht x s H' E1 as (List.mem_of_getElem? hs) H' (Ex.refl H') _ fun H3 e3 => ?_⟩
      cases hn : f s with
      | false =>
        refine (if_neg (by decide)).mpr ⟨p1.trans e3, vs, e3 _ _ p2, ?_⟩
        rw [tk, List.filter_append, List.filter_cons_of_neg (by rw [hn]; decide), List.filter_nil, List.append_nil]
        exact p3.tup (.of_ex e3)
      | true =>
        refine (if_pos rfl).mpr ((ev_var (hj x)) H3 (Ex.refl H3) _ fun H4 e4 => ⟨vs, (e3.trans e4) _ _ p2, sz_lt (by omega), Ex.mut (p1.trans (e3.trans e4)) hD, _, upd_same, ?_⟩)
        rw [tk, List.filter_append, List.filter_cons_of_pos hn, List.filter_nil]
        have tt : Tup H' (L2.upd H4 Dl (.lst (vs ++ [x]))) := ((Imk.of (e3.trans e4)).trans (Imk.upd ((e3.trans e4) _ _ p2) fun z => z)).tup
        exact (p3.tup tt).snoc (as.tup tt)
    · obtain ⟨p1, vs, p2, p3⟩ := p
      rw [a1.1, List.take_length] at p3
      exact k Dl vs H' (fresh_back e1 hD) (e1.trans p1) p2 p3⟩
theorem x_lst1' {i j : Nat} {xs ys : List V} (h1 : EvL ta σ H xs) (h2 : EvL tb σ H ys) (k : ∀ p q H1, Ex H H1 → H1 p = some (.lst xs) → H1 q = some (.lst ys) → tz D ((σ.set i (some (.ref p))).set j (some (.ref q))) H1) : tSeq (tAsg (tTup (tCons ta (tCons tb tNil))) (gTup K 2 (gCons (gName i) (gCons (gName j) gNil)))) tz D σ H :=
  x_tupU (Q := fun v H1 => gTup K 2 (gCons (gName i) (gCons (gName j) gNil)) v σ H1 fun σ2 H2 => tz D σ2 H2) <| h1 H (Ex.refl H) _ fun p H1 _ e1 g1 => h2 H1 e1 _ fun q H2 _ e2 g2 => ⟨sz_of (show 2 ≤ 100000 by decide), fun t ht => g_two (K := K) rfl upd_same (k p q _ ((e1.trans e2).trans (Ex.new ht)) ((Ex.new ht) _ _ (e2 _ _ g1)) ((Ex.new ht) _ _ g2))⟩
theorem q_catV {i j : Nat} {p q : Addr} {xs ys : List V} (hi : σ[i]? = some (some (.ref p))) (hp : H p = some (.lst xs)) (hj : σ[j]? = some (some (.ref q))) (hq : H q = some (.lst ys)) (hl : xs.length + ys.length ≤ 100000) (k : ∀ u H1, Ex H H1 → H1 u = some (.lst (xs ++ ys)) → tz D (σ.set i (some (.ref u))) H1) : tSeq (tAsg (tOp (rAddA K) (tVar i) (tVar j)) (gName i)) tz D σ H :=
  ⟨_, hi, _, hj, .inr (.inr (.inl ⟨p, q, xs, ys, rfl, rfl, hp, hq, sz_of hl, fun u hu => k u _ (Ex.new hu) upd_same⟩))⟩
theorem r_law_length22 (vs : List V) (H : Hp) (Q : VK) (E : XK) (h : sp_law_length22 K vs H Q E) : t_law_length22 K E { nx := fun _ H' => Q .non H', rt := Q } (L2.start ["leanings", "spot", "some", "met", "steps", "later", "one", "other"] vs) H := by
  obtain ⟨ld, p, L, s, N, rfl, hL, ⟨p', e', gp⟩, hN, hsN, lN, lL, k⟩ := h
  cases e'
  unfold t_law_length22
  have okN : ∀ x ∈ N, okP x := fun x hx => (hN x hx).1
  refine x_lst1' (el_lst (ea_cons (ev_var rfl) ea_nil) (show 1 ≤ 100000 by decide)) (el_lst ea_nil (show 0 ≤ 100000 by decide)) fun cl ml H1 e1 h1 g1 => ?_
  refine q_forR2 (lo := 1) (n := 9) (ea_cons ev_c (ea_cons ev_c ea_nil)) (by decide) (fun i σ' H' => ∃ (cl ml : Addr) (xs zs : List V) (cs ms : List Pt) (x4 x5 x6 x7 : Option V), σ' = [some (.ref ld), some (.ref p), some (.ref cl), some (.ref ml), x4, x5, x6, x7] ∧ Ex H H' ∧ H' cl = some (.lst xs) ∧ AtPs H' xs cs ∧ H' ml = some (.lst zs) ∧ AtPs H' zs ms ∧ (∀ y, y ∈ cs ↔ Rch L s i y ∧ ∀ m, 1 ≤ m → m < i → ¬ Rch L s m y) ∧ (∀ y, y ∈ ms ↔ ∃ m, 1 ≤ m ∧ m ≤ i ∧ Rch L s m y) ∧ (∀ y ∈ cs, y ∈ N) ∧ cs.length ≤ 400 ∧ (∀ y ∈ ms, y ∈ N) ∧ ms.length ≤ 400 * i ∧ ∀ m, 1 ≤ m → m ≤ i → ¬ Rch L s m s)
    (fun H2 e2 => ⟨cl, ml, [.ref p], [], [s], [], _, _, _, _, rfl, e1.trans e2, e2 _ _ h1, atPs1 ⟨p, rfl, (e1.trans e2) _ _ gp⟩, e2 _ _ g1, ⟨rfl, fun i s z => by simp at z⟩, fun y => ?_, fun y => ?_, (fun y hy => by rw [List.mem_singleton.mp hy]; exact hsN), (show 1 ≤ 400 by decide), (fun y hy => by cases hy), Nat.zero_le _, fun m h1 h2 => by omega⟩) (fun i σ' H2 hi ⟨cl, ml, xs, zs, cs, ms, x4, x5, x6, x7, hσ, e2, h2, a2, g2, b2, hc, hm, hcN, lc, hmN, lm, hno⟩ => ?_) fun σ' H2 ⟨cl, ml, xs, zs, cs, ms, x4, x5, x6, x7, hσ, e2, h2, a2, g2, b2, hc, hm, hcN, lc, hmN, lm, hno⟩ => ?_
  · rw [List.mem_singleton]
    exact ⟨fun e => by rw [e]; exact ⟨.nil, fun m h1 h2 => by omega⟩, fun h => by cases h.1; rfl⟩
  · exact ⟨fun h => (by cases h), fun ⟨m, h1, h2, _⟩ => (by omega)⟩
  · subst hσ
    refine q_asgL (el_lst ea_nil (by decide)) fun fl H4 _ e4 h4 => ?_
    have E4 := e2.trans e4
    refine q_forLn (ev_var rfl) (SqL.of (e4 _ _ h2)) (fun m σ' H' => ∃ (fl : Addr) (ys : List V) (fs ds : List Pt) (x6 x7 : Option V), σ' = [some (.ref ld), some (.ref p), some (.ref cl), some (.ref ml), some (.int (1 + (i : Int))), some (.ref fl), x6, x7] ∧ Ex H4 H' ∧ H' fl = some (.lst ys) ∧ AtPs H' ys fs ∧ (∀ y, y ∈ fs ↔ y ∉ ms ∧ ∃ x ∈ cs.take m, y ∈ L x) ∧ ds.Nodup ∧ (∀ d ∈ ds, d ∈ fs) ∧ fs.length ≤ 40 * ds.length)
      (fun H5 e5 => ⟨fl, [], [], [], _, _, rfl, e5, e5 _ _ h4, ⟨rfl, fun i s z => by simp at z⟩, fun y => by simp, .nil, (fun d hd => by cases hd), Nat.le_refl 0⟩) (fun m σ' H' _ ⟨_, _, _, _, _, _, _, e, _⟩ => SqL.of (e _ _ (e4 _ _ h2))) ?_ ?_
    · rintro m x σ' H5 hmm ⟨fl, ys, fs, ds, x6, x7, rfl, e5, h5, a5, hf, nd, dsf, ld2⟩
      have E5 := E4.trans e5
      obtain ⟨c, hcm, ac⟩ := (a2.tup (.of_ex (e4.trans e5))).at hmm
      have cN := hcN c (List.mem_of_getElem? hcm)
      have fN : ∀ y ∈ fs, y ∈ N := fun y hy => by
        obtain ⟨_, x, hx, hy⟩ := (hf y).mp hy
        exact (hN x (hcN x (List.mem_of_mem_take hx))).2 y hy
      have ld3 : ds.length ≤ N.length := nodup_le nd fun d hd => fN d (dsf d hd)
      have g5 := (e4.trans e5) _ _ g2
      have b5 := b2.tup (.of_ex (e4.trans e5))
      refine ⟨_, rfl, x_filtG (H0 := H) (ps := L c) (fun y => !decide (y ∈ ms) && !decide (y ∈ fs)) (ev_get hL E5 (ev_var rfl) (ev_var rfl) ac) (fun _ => rfl) (fun _ => rfl) (fun x s' H7 e7 as' hs' => et_and (et_test (ev_ninP (ev_var rfl) as' (ev_var rfl) (e7 _ _ g5) (b5.tup (.of_ex e7)) (okN s' ((hN c cN).2 s' hs')) fun y hy => okN y (hmN y hy))) fun _ => et_test (ev_ninP (ev_var rfl) as' (ev_var rfl) (e7 _ _ h5) (a5.tup (.of_ex e7)) (okN s' ((hN c cN).2 s' hs')) fun y hy => okN y (fN y hy))) (by have := lL c; omega) fun g zs' H6 _ e6 h6 a6 => ?_⟩
      have lz := List.length_filter_le (fun y => !decide (y ∈ ms) && !decide (y ∈ fs)) (L c)
      have lLc := lL c
      refine .inr (.inr (.inl ⟨fl, g, ys, zs', rfl, rfl, e6 _ _ h5, h6, sz_of (by rw [a5.1, a6.1]; omega), fun u hu => ?_⟩))
      have tk : cs.take (m + 1) = cs.take m ++ [c] := by rw [List.take_add_one, hcm]; rfl
      have mem : ∀ y, y ∈ fs ++ (L c).filter (fun y => !decide (y ∈ ms) && !decide (y ∈ fs)) ↔ y ∉ ms ∧ ∃ x ∈ cs.take (m + 1), y ∈ L x := fun y => by
        rw [tk, List.mem_append, List.mem_filter]
        constructor
        · rintro (hyf | ⟨hy, ht⟩)
          · obtain ⟨n1, x, hx, hy⟩ := (hf y).mp hyf
            exact ⟨n1, x, List.mem_append.mpr (.inl hx), hy⟩
          · simp only [Bool.and_eq_true, Bool.not_eq_true', decide_eq_false_iff_not] at ht
            exact ⟨ht.1, c, List.mem_append.mpr (.inr (by simp)), hy⟩
        · rintro ⟨n1, x, hx, hy⟩
          rcases List.mem_append.mp hx with hx | hx
          · exact .inl ((hf y).mpr ⟨n1, x, hx, hy⟩)
          · rw [List.mem_singleton.mp hx] at hy
            by_cases hyf : y ∈ fs
            · exact .inl hyf
            · exact .inr ⟨hy, by simp [n1, hyf]⟩
      have A6 := atPs_app ((a5.tup (.of_ex e6)).tup (.of_ex (Ex.new (o := .lst (ys ++ zs')) hu))) (a6.tup (.of_ex (Ex.new (o := .lst (ys ++ zs')) hu)))
      obtain ⟨ds', n1, n2, n3⟩ : ∃ ds' : List Pt, ds'.Nodup ∧ (∀ d ∈ ds', d ∈ fs ++ (L c).filter fun y => !decide (y ∈ ms) && !decide (y ∈ fs)) ∧ (fs ++ (L c).filter fun y => !decide (y ∈ ms) && !decide (y ∈ fs)).length ≤ 40 * ds'.length := by
        cases hz : (L c).filter (fun y => !decide (y ∈ ms) && !decide (y ∈ fs)) with
        | nil => exact ⟨ds, nd, fun d hd => List.mem_append.mpr (.inl (dsf d hd)), by rw [List.append_nil]; exact ld2⟩
        | cons y0 r =>
          have hy0 : y0 ∈ (L c).filter (fun y => !decide (y ∈ ms) && !decide (y ∈ fs)) := by rw [hz]; exact List.mem_cons_self
          have ny0 : y0 ∉ fs := by
            have := (List.mem_filter.mp hy0).2
            simp only [Bool.and_eq_true, Bool.not_eq_true', decide_eq_false_iff_not] at this
            exact this.2
          rw [hz] at lz
          refine ⟨ds ++ [y0], List.nodup_append.mpr ⟨nd, by simp, fun a ha b hb => ?_⟩, fun d hd => ?_, by rw [List.length_append, List.length_append, List.length_singleton]; omega⟩
          · rw [List.mem_singleton.mp hb]
            rintro rfl
            exact ny0 (dsf _ ha)
          · rcases List.mem_append.mp hd with hd | hd
            · exact List.mem_append.mpr (.inl (dsf d hd))
            · rw [List.mem_singleton.mp hd]
              exact List.mem_append.mpr (.inr List.mem_cons_self)
      exact ⟨u, ys ++ zs', _, ds', some x, x7, rfl, (e5.trans e6).trans (Ex.new hu), upd_same, A6, mem, n1, n2, n3⟩
    · rintro σ' H5 ⟨fl, ys, fs, ds, x6, x7, rfl, e5, h5, a5, hf, nd, dsf, ld2⟩
      rw [a2.1, List.take_length] at hf
      have fN : ∀ y ∈ fs, y ∈ N := fun y hy => by
        obtain ⟨_, x, hx, hy⟩ := (hf y).mp hy
        exact (hN x (hcN x hx)).2 y hy
      have ld3 : ds.length ≤ N.length := nodup_le nd fun d hd => fN d (dsf d hd)
      have E5 := E4.trans e5
      have later : ∀ y, y ∈ fs ↔ Rch L s (i + 1) y ∧ ∀ m, 1 ≤ m → m < i + 1 → ¬ Rch L s m y := fun y => by
        rw [hf y]
        constructor
        · rintro ⟨n1, x, hx, hy⟩
          exact ⟨.snoc ((hc x).mp hx).1 hy, fun m h1 h2 hr => n1 ((hm y).mpr ⟨m, h1, by omega, hr⟩)⟩
        · rintro ⟨h, n1⟩
          refine ⟨fun hy => ?_, ?_⟩
          · obtain ⟨m, h1, h2, hr⟩ := (hm y).mp hy
            exact n1 m h1 (by omega) hr
          · cases h with
            | snoc h hy => exact ⟨_, (hc _).mpr ⟨h, fun m h1 h2 hr => n1 (m + 1) (by omega) (by omega) (.snoc hr hy)⟩, hy⟩
      refine q_when (et_test (ev_inP (ev_var rfl) ⟨p, rfl, E5 _ _ gp⟩ (ev_var rfl) h5 a5 (okN s hsN) fun x hx => okN x (fN x hx))) (fun hb H6 e6 => ?_) (fun hb H6 e6 => ?_)
      · have hs := (later s).mp (of_decide_eq_true hb)
        exact s_ret (v := .int ((i + 1 : Nat) : Int)) (ev_is (ev_var rfl) (by congr 1; omega)) fun H7 e7 => k _ H7 (.inl ⟨i + 1, rfl, by omega, by omega, hs.1, fun m h1 h2 => hs.2 m h1 h2⟩) (E5.trans (e6.trans e7))
      have hns : s ∉ fs := of_decide_eq_false hb
      have g6 := (e4.trans (e5.trans e6)) _ _ g2
      have b6 := b2.tup (.of_ex (e4.trans (e5.trans e6)))
      refine q_catV rfl g6 rfl (e6 _ _ h5) (by rw [b2.1, a5.1]; omega) fun nm H7 e7 h7 => ?_
      refine s_asg (ev_var rfl) fun H8 e8 => ⟨fl, nm, ys, zs ++ ys, fs, ms ++ fs, _, _, _, _, rfl, E5.trans (e6.trans (e7.trans e8)), (e6.trans (e7.trans e8)) _ _ h5, a5.tup (.of_ex (e6.trans (e7.trans e8))), e8 _ _ h7, atPs_app (b6.tup (.of_ex (e7.trans e8))) (a5.tup (.of_ex (e6.trans (e7.trans e8)))), later, fun y => ?_, fN, by omega, fun y hy => ?_, by rw [List.length_append]; omega, fun m h1 h2 => ?_⟩
      · rw [List.mem_append]
        constructor
        · rintro (hy | hy)
          · obtain ⟨m, h1, h2, hr⟩ := (hm y).mp hy
            exact ⟨m, h1, by omega, hr⟩
          · exact ⟨i + 1, by omega, Nat.le_refl _, ((later y).mp hy).1⟩
        · rintro ⟨m, h1, h2, hr⟩
          by_cases hy : y ∈ ms
          · exact .inl hy
          · refine .inr ((later y).mpr ?_)
            have nr : ∀ m, 1 ≤ m → m < i + 1 → ¬ Rch L s m y := fun m' h1' h2' hr' => hy ((hm y).mpr ⟨m', h1', by omega, hr'⟩)
            have : m = i + 1 := by
              by_cases e : m = i + 1
              · exact e
              · exact absurd hr (nr m h1 (by omega))
            rw [this] at hr
            exact ⟨hr, nr⟩
      · rcases List.mem_append.mp hy with hy | hy
        · exact hmN y hy
        · exact fN y hy
      · intro hr
        by_cases e : m ≤ i
        · exact hno m h1 e hr
        · have : m = i + 1 := by omega
          rw [this] at hr
          exact hns ((later s).mpr ⟨hr, fun m' h1' h2' => hno m' h1' (by omega)⟩)
  · subst hσ
    exact s_ret ev_c fun H3 e3 => k .non H3 (.inr ⟨rfl, fun m h1 h2 => hno m h1 h2⟩) (e2.trans e3)
end
end Z

set_option Elab.async false
set_option linter.all false
set_option autoImplicit false
set_option maxRecDepth 100000
set_option maxHeartbeats 4000000
/-! ev: what an expression comes to, by its form -/
local macro_rules | `(tactic| k_places) => `(tactic| (repeat' (first
  | (with_reducible exact ev_c)
  | (with_reducible exact ev_var rfl)
  | (with_reducible refine ev_chainLL ?_ ?_ ?_)
  | (with_reducible refine ev_chainLt ?_ ?_ ?_)
  | (with_reducible refine ev_op ?_ ?_ ?_)
  | (with_reducible refine ev_neg ?_)
  | (with_reducible refine et_test ?_)
  | (with_reducible refine et_B ?_)
  | (with_reducible refine et_not ?_)
  | (with_reducible refine et_and ?_ (fun _ => ?_))
  | (with_reducible refine et_or ?_ (fun _ => ?_))
  | (with_reducible refine ev_andV ?_ (fun _ => ?_))
  | (with_reducible refine ev_orV ?_ (fun _ => ?_))
  | (with_reducible refine ev_notV ?_)
  | (with_reducible exact rv_addI)
  | (with_reducible exact rv_subI)
  | (with_reducible exact rv_lt)
  | (with_reducible exact rv_le)
  | (with_reducible exact rv_gt)
  | (with_reducible exact rv_ge)
  | (with_reducible exact rv_isB)
  | (with_reducible exact rv_isnB)
  | (with_reducible exact rv_isN)
  | (with_reducible exact rv_isnN)
  | (with_reducible exact rv_eqS rfl)
  | (with_reducible exact rv_neS rfl)
  | (with_reducible exact rv_inStr)
  | (with_reducible exact rv_ninStr)
  | (with_reducible exact rv_mod (by first | decide | omega | assumption))
  | (with_reducible exact rv_div (by first | decide | omega | assumption))
  | (with_reducible exact rv_pow (by decide))
  | (with_reducible refine ed_i ?_; done)
  | (with_reducible exact ea_nil)
  | (with_reducible refine ea_cons ?_ ?_)
  | (with_reducible exact eds_nil)
  | (with_reducible refine eds_cons ?_ ?_)
  | (with_reducible exact ed_dnew)
  | (with_reducible refine ed_lst ?_ (by simp only [List.length_cons, List.length_nil]; omega))
  | (with_reducible refine ed_tup ?_ (by simp only [List.length_cons, List.length_nil]; omega)))))
namespace Z
open PySem PySem.Spec PyProof.Rows L2 Evl NdefX LamX
/-! ### l.count(x), over data -/
def rCountD (K : PySem.W.Frag) : V → List V → Hp → VK → Prop := fun x vs H Q => ∃ (a : Addr) (y : V) (d : PyData) (ds : List PyData), x = .ref a ∧ vs = [y] ∧ Dp K H (.ref a) (.list ds) ∧ Dp K H y d ∧ PyData.plainAll ds = true ∧ d.plain = true ∧ d.depth ≤ 10 ∧ Q (.int ((ds.countP fun z => PyData.eqv z d : Nat) : Int)) H
theorem mt_countD {X : Cx} (hu : X.A.units + 65 < cLine) : MtM X "list.count" (rCountD X.K) := by
  intro pins s σ H x vs v us Q I rx rv h
  obtain ⟨a, y, d, ds, rfl, rfl, hl, hy, pds, pd, dep, q⟩ := h
  cases rx
  obtain ⟨u, rfl, ru⟩ := rv.one
  obtain ⟨bs, r1⟩ := Dp.reads I d y u hy ru
  cases hl with
  | lst hs ha =>
    obtain ⟨its, rv', ⟨⟨cls, dd, data, sls⟩, n, ho, hc, hdn, hdt⟩, hlen⟩ := I.list hs
    simp only at hc hdt
    subst hc hdt
    obtain ⟨as, h4⟩ := Dp.readsAll I ds _ its ha rv'
    refine SeqAt.count_list_data (vs := its.toArray) ⟨_, ho, rfl, n, rfl⟩ (by simpa using h4) r1 pds pd (Nat.lt_of_le_of_lt (Nat.add_le_add_left (Nat.le_trans (Nat.min_le_right _ _) dep) _) (by omega)) ?_
    exact ⟨V.int _, H, I.tok _, ⟨_, rfl⟩, q⟩
end Z

set_option Elab.async false
set_option linter.all false
set_option autoImplicit false
set_option maxRecDepth 100000
set_option maxHeartbeats 4000000
/-! ev: what an expression comes to, by its form -/
local macro_rules | `(tactic| k_places) => `(tactic| (repeat' (first
  | (with_reducible exact ev_c)
  | (with_reducible exact ev_var rfl)
  | (with_reducible refine ev_chainLL ?_ ?_ ?_)
  | (with_reducible refine ev_chainLt ?_ ?_ ?_)
  | (with_reducible refine ev_op ?_ ?_ ?_)
  | (with_reducible refine ev_neg ?_)
  | (with_reducible refine et_test ?_)
  | (with_reducible refine et_B ?_)
  | (with_reducible refine et_not ?_)
  | (with_reducible refine et_and ?_ (fun _ => ?_))
  | (with_reducible refine et_or ?_ (fun _ => ?_))
  | (with_reducible refine ev_andV ?_ (fun _ => ?_))
  | (with_reducible refine ev_orV ?_ (fun _ => ?_))
  | (with_reducible refine ev_notV ?_)
  | (with_reducible exact rv_addI)
  | (with_reducible exact rv_subI)
  | (with_reducible exact rv_lt)
  | (with_reducible exact rv_le)
  | (with_reducible exact rv_gt)
  | (with_reducible exact rv_ge)
  | (with_reducible exact rv_isB)
  | (with_reducible exact rv_isnB)
  | (with_reducible exact rv_isN)
  | (with_reducible exact rv_isnN)
  | (with_reducible exact rv_eqS rfl)
  | (with_reducible exact rv_neS rfl)
  | (with_reducible exact rv_inStr)
  | (with_reducible exact rv_ninStr)
  | (with_reducible exact rv_mod (by first | decide | omega | assumption))
  | (with_reducible exact rv_div (by first | decide | omega | assumption))
  | (with_reducible exact rv_pow (by decide))
  | (with_reducible refine ed_i ?_; done)
  | (with_reducible exact ea_nil)
  | (with_reducible refine ea_cons ?_ ?_)
  | (with_reducible exact eds_nil)
  | (with_reducible refine eds_cons ?_ ?_)
  | (with_reducible exact ed_dnew)
  | (with_reducible refine ed_lst ?_ (by simp only [List.length_cons, List.length_nil]; omega))
  | (with_reducible refine ed_tup ?_ (by simp only [List.length_cons, List.length_nil]; omega)))))
namespace Z
open PySem PySem.Spec PyProof.Rows L2 Evl NdefX LamX
/-! ### is it a ring (k20, k22) -/
def sp_law_is_ring (K : PySem.W.Frag) : Sp := fun vs H Q _ => ∃ (ld p fp : Addr) (L : Pt → List Pt) (s : Pt) (xs : List V) (r : List Pt), vs = [.ref ld, .ref p, .ref fp] ∧ LAt H ld L ∧ AtP H (.ref p) s ∧ H fp = some (.lst xs) ∧ AtPs H xs r ∧ r[0]? = some s ∧ r.Nodup ∧ r.length ≤ 1000 ∧ (∀ x ∈ r, okP x ∧ ∀ y ∈ L x, okP y) ∧
  (∀ (k : Nat) (a b : Pt), r[k]? = some a → r[(k + 1) % r.length]? = some b → b ∈ L a) ∧ RetV (.bl true) H Q
/-- names: "leanings", "spot", "found", "k" -/
def t_law_is_ring (K : PySem.W.Frag) (E : XK) : TS :=
  tSeq (tIfS (tOr (tNot (tB (tCB (rIsiA K) (tCons (tVar 2) (tCons (tC (.ty "list")) tNil))))) (tOr (tTest (tOp (rEqA K) (tCB (rLenA K) (tCons (tVar 2) tNil)) (tC (.int 0)))) (tTest (tOp (rNeA K) (tOp (rIxA K) (tVar 2) (tC (.int 0))) (tVar 1))))) (tRet (tC (.bl false))) tNext)
    (tSeq (tFor (iRng1 (tCons (tCB (rLenA K) (tCons (tVar 2) tNil)) tNil)) (gName 3) (tSeq (tIfS (tOr (tNot (tB (tCB (rIsiA K) (tCons (tOp (rIxA K) (tVar 2) (tVar 3)) (tCons (tC (.ty "tuple")) tNil))))) (tTest (tOp rGtA (tBM K "list" (rCountD K) (tVar 2) (tCons (tOp (rIxA K) (tVar 2) (tVar 3)) tNil)) (tC (.int 1))))) (tRet (tC (.bl false))) tNext)
    (tIfS (tTest (tOp (rNinA K) (tOp (rIxA K) (tVar 2) (tOp rModA (tOp (rAddA K) (tVar 3) (tC (.int 1))) (tCB (rLenA K) (tCons (tVar 2) tNil)))) (tDGet2 (tVar 0) (tOp (rIxA K) (tVar 2) (tVar 3)) (tLst tNil)))) (tRet (tC (.bl false))) tNext)))
    (tRet (tC (.bl true))))
section
variable {K : PySem.W.Frag} {σ : L2.St} {H H' : Hp} {te tl ta tb : TE} {D : Ends} {tz : TS} {E : L2.St → XK}
theorem len_law_is_ring (vs : List V) (H : Hp) (Q : VK) (E : XK) (h : sp_law_is_ring K vs H Q E) : vs.length = 3 := by obtain ⟨_, _, _, _, _, _, _, rfl, _⟩ := h; rfl
theorem plain_dPs : ∀ r : List Pt, PyData.plainAll (r.map dP) = true
  | [] => rfl
  | x :: r => by
    show (PyData.plain (dP x) && PyData.plainAll (r.map dP)) = true
    rw [plain_dPs r]
    rfl
theorem count_one {s : Pt} : ∀ {r : List Pt}, r.Nodup → s ∈ r → r.count s = 1
  | [], _, h => by cases h
  | x :: r, nd, h => by
    rw [List.nodup_cons] at nd
    rw [List.count_cons]
    by_cases e : x = s
    · subst e
      rw [List.count_eq_zero_of_not_mem nd.1]
      simp
    · rcases List.mem_cons.mp h with z | z
      · exact absurd z.symm e
      · rw [count_one nd.2 z, if_neg (by simpa using e)]
theorem count_dP (s : Pt) : ∀ r : List Pt, (r.map dP).countP (fun z => PyData.eqv z (dP s)) = r.count s
  | [] => rfl
  | x :: r => by
    rw [List.map_cons, List.countP_cons, count_dP s r, eqv_dP, List.count_cons]
    simp only [decide_eq_true_eq, beq_iff_eq]
/-- found.count(found[k]), of a list in which each stands once -/
theorem ev_count1 {fp : Addr} {xs : List V} {r : List Pt} {i : Nat} {v : V} {s : Pt} (hi : σ[i]? = some (some (.ref fp))) (hf : H fp = some (.lst xs)) (a : AtPs H xs r) (ok : ∀ x ∈ r, okP x) (nd : r.Nodup) (he : Ev te σ H v) (av : AtP H v s) (hs : s ∈ r) : Ev (tBM K "list" (rCountD K) (tVar i) (tCons te tNil)) σ H (.int 1) := fun H1 e Q q =>
  ⟨_, hi, tyLst (e _ _ hf), he H1 e _ fun H2 e2 => by
    have E := e.trans e2
    refine ⟨fp, v, dP s, r.map dP, rfl, rfl, (Dt.lst (E _ _ hf) (a.tup (.of_ex E)).dt).dp (okD_dPs ok).nd, ((av.tup (.of_ex E)).dt).dp (okD_dP (ok s hs)).nd, plain_dPs r, rfl, by simp [dP, PyData.depth, PyData.depthAll], ?_⟩
    rw [count_dP, count_one nd hs]
    exact q H2 e2⟩
theorem ev_ninG {H0 : Hp} {ps : List Pt} {v : V} {s : Pt} (h1 : Ev ta σ H v) (r1 : AtP H v s) (h2 : ∀ H1, Ex H H1 → EvG tb σ H0 H1 ps) (o1 : okP s) (o2 : ∀ x ∈ ps, okP x) : Ev (tOp (rNinA K) ta tb) σ H (.bl (!decide (s ∈ ps))) := fun H1 e Q q =>
  h1 H1 e _ fun H2 e2 => h2 H2 (e.trans e2) _ fun p xs H3 e3 hp a3 _ => by
    have E := (e.trans e2).trans e3
    refine .inr (.inr (.inr ⟨dP s, ps.map dP, ((r1.tup (.of_ex E)).dt).dp (okD_dP o1).nd, (Dt.lst hp a3.dt).dp (okD_dPs o2).nd, (okD_dP o1).shaped, (okD_dPs o2).shaped, ?_⟩))
    rw [any_dP]
    exact q H3 (e2.trans e3)
theorem r_law_is_ring (vs : List V) (H : Hp) (Q : VK) (E : XK) (h : sp_law_is_ring K vs H Q E) : t_law_is_ring K E { nx := fun _ H' => Q .non H', rt := Q } (L2.start ["leanings", "spot", "found", "k"] vs) H := by
  obtain ⟨ld, p, fp, L, s, xs, r, rfl, hL, hp, hf, af, r0, nd, lr, ok, edge, k⟩ := h
  unfold t_law_is_ring
  have lx : xs.length = r.length := af.1
  have l0 : 0 < r.length := (List.getElem?_eq_some_iff.mp r0).1
  have okr : ∀ x ∈ r, okP x := fun x hx => (ok x hx).1
  have itm : ∀ {H1 : Hp} {σ : L2.St} {te : TE} {i : Nat} {x : Int}, Ex H H1 → σ[2]? = some (some (V.ref fp)) → Ev te σ H1 (.int x) → x = (i : Int) → i < r.length → ∃ (v : V) (y : Pt), r[i]? = some y ∧ AtP H1 v y ∧ Ev (tOp (rIxA K) (tVar 2) te) σ H1 v := fun {H1 σ te i x} e h2 ht hx hi => by
    subst hx
    have hi' : i < xs.length := by omega
    obtain ⟨y, q, a⟩ := (af.tup (.of_ex e)).at (List.getElem?_eq_getElem hi')
    exact ⟨xs[i], y, q, a, ev_op (ev_var h2) ht (rv_itL (SqL.of (e _ _ hf)) (atI_nat (List.getElem?_eq_getElem hi')))⟩
  obtain ⟨v0, y0, q0, a0, ev0⟩ := itm (te := tC (.int 0)) (σ := [some (.ref ld), some (.ref p), some (.ref fp), none]) (i := 0) (Ex.refl H) rfl ev_c rfl l0
  rw [r0] at q0
  cases q0
  have s0 := List.mem_of_getElem? r0
  have len : ∀ {H1 : Hp} {σ : L2.St}, Ex H H1 → σ[2]? = some (some (V.ref fp)) → Ev (tCB (rLenA K) (tCons (tVar 2) tNil)) σ H1 (.int (r.length : Int)) := fun e h2 => ev_is (ev_lenV (ev_var h2) (rc_lenL (K := K) (SqL.of (e _ _ hf)))) (by rw [lx])
  refine q_when (b := false) (et_is (et_or (et_not (et_B (ev_isi (ev_var rfl) (n := "list") (by show tyO (H fp) = _; rw [hf]; rfl)))) fun _ => et_or (et_test (ev_op (len (Ex.refl H) rfl) ev_c (rv_eqS rfl))) fun _ => et_test (ev_neD (ed_ev ev0 a0.dt) (ed_ev (ev_var rfl) hp.dt) (okD_dP (okr s s0)) (okD_dP (okr s s0)))) ?_) (fun hb => nomatch hb) fun _ H1 e1 => ?_
  · rw [decide_eq_false (fun z => by have := V.int.inj z; omega), eqv_self (okD_dP (okr s s0))]
    rfl
  refine q_forR1 (n := (r.length : Int)) (ea_cons (len e1 rfl) ea_nil) (by omega) (fun i σ' H' => ∃ x3 : Option V, σ' = [some (.ref ld), some (.ref p), some (.ref fp), x3] ∧ Ex H H') (fun H2 e2 => ⟨_, rfl, e1.trans e2⟩) (fun i σ' H2 hi ⟨x3, hσ, e2⟩ => ?_) fun σ' H2 ⟨x3, hσ, e2⟩ => ?_
  · subst hσ
    have hi' : i < r.length := by omega
    obtain ⟨v, y, qy, ay, evy⟩ := itm (te := tVar 3) (σ := [some (.ref ld), some (.ref p), some (.ref fp), some (.int (i : Int))]) (i := i) e2 rfl (ev_var rfl) rfl hi'
    have yr := List.mem_of_getElem? qy
    refine q_when (b := false) (et_is (et_or (et_not (et_B (ev_isi evy (n := "tuple") (by obtain ⟨b, rfl, hb⟩ := ay; show tyO (H2 b) = _; rw [hb]; rfl)))) fun _ => et_test (ev_op (ev_count1 rfl (e2 _ _ hf) (af.tup (.of_ex e2)) okr nd evy ay yr) ev_c rv_gt)) rfl) (fun hb => nomatch hb) fun _ H3 e3 => ?_
    have E3 := e2.trans e3
    have hm : (i + 1) % r.length < r.length := Nat.mod_lt _ l0
    obtain ⟨v2, y2, qy2, ay2, evy2⟩ := itm (te := tOp rModA (tOp (rAddA K) (tVar 3) (tC (.int 1))) (tCB (rLenA K) (tCons (tVar 2) tNil))) (σ := [some (.ref ld), some (.ref p), some (.ref fp), some (.int (i : Int))]) (i := (i + 1) % r.length) E3 rfl (ev_op (ev_op (ev_var rfl) ev_c rv_addI) (len E3 rfl) (rv_mod (by omega))) (by rw [Int.natCast_emod, Int.natCast_add]; rfl) hm
    have inL := edge i y y2 qy qy2
    refine s_when (b := false) (et_is (et_test (ev_ninG (H0 := H) (ps := L y) evy2 ay2 (fun H4 e4 => ev_get hL (E3.trans e4) (ev_var rfl) (evy.mono (e3.trans e4)) (ay.tup (.of_ex (e3.trans e4)))) ((ok y yr).2 y2 inL) (ok y yr).2)) (by rw [decide_eq_true inL]; rfl)) (fun hb => nomatch hb) fun _ H4 e4 => ⟨_, rfl, E3.trans e4⟩
  · subst hσ
    exact s_ret ev_c fun H3 e3 => k H3 (e2.trans e3)
end
end Z

set_option Elab.async false
set_option linter.all false
set_option autoImplicit false
set_option maxRecDepth 100000
set_option maxHeartbeats 4000000
/-! ev: what an expression comes to, by its form -/
local macro_rules | `(tactic| k_places) => `(tactic| (repeat' (first
  | (with_reducible exact ev_c)
  | (with_reducible exact ev_var rfl)
  | (with_reducible refine ev_chainLL ?_ ?_ ?_)
  | (with_reducible refine ev_chainLt ?_ ?_ ?_)
  | (with_reducible refine ev_op ?_ ?_ ?_)
  | (with_reducible refine ev_neg ?_)
  | (with_reducible refine et_test ?_)
  | (with_reducible refine et_B ?_)
  | (with_reducible refine et_not ?_)
  | (with_reducible refine et_and ?_ (fun _ => ?_))
  | (with_reducible refine et_or ?_ (fun _ => ?_))
  | (with_reducible refine ev_andV ?_ (fun _ => ?_))
  | (with_reducible refine ev_orV ?_ (fun _ => ?_))
  | (with_reducible refine ev_notV ?_)
  | (with_reducible exact rv_addI)
  | (with_reducible exact rv_subI)
  | (with_reducible exact rv_lt)
  | (with_reducible exact rv_le)
  | (with_reducible exact rv_gt)
  | (with_reducible exact rv_ge)
  | (with_reducible exact rv_isB)
  | (with_reducible exact rv_isnB)
  | (with_reducible exact rv_isN)
  | (with_reducible exact rv_isnN)
  | (with_reducible exact rv_eqS rfl)
  | (with_reducible exact rv_neS rfl)
  | (with_reducible exact rv_inStr)
  | (with_reducible exact rv_ninStr)
  | (with_reducible exact rv_mod (by first | decide | omega | assumption))
  | (with_reducible exact rv_div (by first | decide | omega | assumption))
  | (with_reducible exact rv_pow (by decide))
  | (with_reducible refine ed_i ?_; done)
  | (with_reducible exact ea_nil)
  | (with_reducible refine ea_cons ?_ ?_)
  | (with_reducible exact eds_nil)
  | (with_reducible refine eds_cons ?_ ?_)
  | (with_reducible exact ed_dnew)
  | (with_reducible refine ed_lst ?_ (by simp only [List.length_cons, List.length_nil]; omega))
  | (with_reducible refine ed_tup ?_ (by simp only [List.length_cons, List.length_nil]; omega)))))
namespace PySem.W
open Lean Elab Tactic Meta PySem PySem.Calls PyProof.Rows PyProof.V PySem.Spec
/-! ### a == b for two dicts with tuple keys that tell the same -/
section
variable {prog : Program} {w : World} {K : Type} [DecidableEq K] {knd : HeapKind prog w K} {A : Around} {E : Value → Shared → Prop} {s : Shared}
theorem keq_samePairsH {nm : String} {a b : Addr} {ka kb : List (K × Addr × Value)} {Q : Bool → Shared → Prop} (hu : knd.room A) (ha : (a == sysModules) = false) (hb : (b == sysModules) = false)
    (da : s.heap.DictOfH knd a ka) (db : s.heap.DictOfH knd b kb) (hl : ka.length = kb.length) (hits : ∀ (i : Nat) p, ka[i]? = some p → ∃ (j : Nat) (q : Addr × Value), kb[j]? = some (p.1, q) ∧ SeqAt.EqAt A s p.2.2 q.2 true) (h : Q true s) :
    wpAny (model prog w) A (Builtin.Dict.samePairs nm a b) Q E s := by
  obtain ⟨oa, es, ep, hoa, _, hda, hea, hisa, hna⟩ := da
  obtain ⟨ob, es', ep', hob, _, hdb, heb, hisb, hnb⟩ := db
  have hla := size_of_entries hea
  have hlb := size_of_entries heb
  unfold Builtin.Dict.samePairs Builtin.Dict.showsAll
  rw [if_neg (show ¬ (a == sysModules) = true by rw [ha]; exact Bool.false_ne_true), if_neg (show ¬ (b == sysModules) = true by rw [hb]; exact Bool.false_ne_true)]
  refine wpAny_bind (wpAny_pure (wpAny_bind (wpAny_pure ?_)))
  refine wpAny_bind (wpAny_dictEntries hoa hda ?_)
  dsimp only
  refine wpAny_bind (wpAny_dictEntries hob hdb ?_)
  have hsz : es.size = es'.size := by omega
  rw [if_neg (by rw [hsz]; simp)]
  refine wpAny_bind (wpAny_dictEpoch hoa hda ?_)
  refine wpAny_bind ?_
  rw [Std.Legacy.Range.forIn_eq_forIn_range']
  simp only [Std.Legacy.Range.size, Nat.sub_zero, Nat.add_sub_cancel, Nat.div_one]
  refine wpAny_forIn_list _
    (fun rest q s' => s' = s ∧ q = (none, ()) ∧ ∃ i, rest = List.range' i (es.size - i) ∧ i ≤ es.size)
    _ ?_ ?_ _ _ ⟨rfl, rfl, 0, by simp, Nat.zero_le _⟩
  · rintro x rest q s' ⟨rfl, rfl, i, hr, hi⟩
    have hlt : i < es.size := by
      rcases Nat.lt_or_ge i es.size with h | h
      · exact h
      · rw [Nat.sub_eq_zero_of_le h] at hr; simp at hr
    obtain ⟨rfl, hrest⟩ : x = i ∧ rest = List.range' (i + 1) (es.size - (i + 1)) := by
      have e : es.size - i = (es.size - (i + 1)) + 1 := by omega
      rw [e, List.range'_succ] at hr
      injection hr with h1 h2
      exact ⟨h1, h2⟩
    refine wpAny_bind (wpAny_dictEntries hoa hda ?_)
    obtain ⟨⟨k, c, v⟩, hkv⟩ : ∃ y, ka[x]? = some y := ⟨ka[x]'(by omega), List.getElem?_eq_getElem _⟩
    obtain ⟨j, q, hj, heq⟩ := hits x _ hkv
    have hex : es[x]? = some ⟨knd.hash k, .ref c, v⟩ := by rw [entry_at hea x, hkv]; rfl
    have hex' : es'[j]? = some ⟨knd.hash k, .ref q.1, q.2⟩ := by rw [entry_at heb j, hj]; rfl
    rw [hex]
    show wpAny _ _ (holding [Value.ref c, v] _ >>= _) _ _ _
    refine wpAny_bind (wpAny_holding (wpAny_bind (wpAny_dictFind_heap hu (hisa _ (List.mem_of_getElem? hkv)) hob hdb heb hisb hnb (fun hno => absurd hj (hno j q)) fun j' p' hj' => ?_)))
    obtain rfl : j' = j := idxH_unique hnb hj' hj
    refine wpAny_bind (wpAny_dictEntries hob hdb ?_)
    rw [hex']
    refine wpAny_holding (heq prog w _ _ ?_)
    show wpAny _ _ (if (!true) = true then _ else _) _ _ _
    rw [if_neg (by decide)]
    refine wpAny_bind (wpAny_dictEpoch hoa hda ?_)
    rw [if_neg (by simp)]
    exact wpAny_pure ⟨rfl, rfl, x + 1, hrest, hlt⟩
  · rintro q s' ⟨rfl, rfl, i, hr, hi⟩
    exact wpAny_pure h
theorem keq_neH {a b : Addr} {ka kb : List (K × Addr × Value)} {Q : Value → Shared → Prop} (hr : knd.room A.in1) (ha : (a == sysModules) = false) (hb : (b == sysModules) = false)
    (da : s.heap.DictOfH knd a ka) (db : s.heap.DictOfH knd b kb) (hu : A.units < cLine) (hl : ka.length = kb.length) (hits : ∀ (i : Nat) p, ka[i]? = some p → ∃ (j : Nat) (q : Addr × Value), kb[j]? = some (p.1, q) ∧ SeqAt.EqAt A.in1 s p.2.2 q.2 true) (h : Q (.bool false) s) :
    wpAny (model prog w) A (compareOp .NotEq (.ref a) (.ref b)) Q E s := by
  refine wpAny_richCompare_same_room (op := .NotEq) da.typeIs db.typeIs PySem.F.slot_dict_ne (wpAny_call_entry PySem.F.slot_dict_ne da.typeIs PySem.F.entry_dict_ne ?_ (PySem.F.args_dict_ne_2 _ _)) hu
  show wpAny _ _ (Builtin.Dict.dictSlotArgs "__ne__" ⟨[.ref a, .ref b], []⟩ >>= _) _ _ s
  refine wpAny_bind ?_
  unfold Builtin.Dict.dictSlotArgs
  refine wpAny_bind (wpAny_notOrdered_dict da.typeIs ?_)
  show wpAny _ _ (pure (Value.ref a, Value.ref b)) _ _ s
  refine wpAny_pure ?_
  refine wpAny_bind (wpAny_isInstance (T := "dict") db.typeIs PySem.F.sub_dict_dict ?_)
  simp only [Bool.not_true, Bool.false_eq_true, if_false]
  refine wpAny_bind (wpAny_pure (wpAny_bind (wpAny_pure ?_)))
  refine wpAny_bind (keq_samePairsH hr ha hb da db hl hits ?_)
  refine wpAny_pure ⟨_, rfl, ?_, ?_⟩
  · exact fun x => nomatch x
  · simpa using h
end
end PySem.W
namespace Z
open PySem PySem.Spec PyProof.Rows L2 Evl NdefX LamX
theorem paired_r {α β : Type} {F : α → β → Prop} : ∀ {l : List α} {m : List β} {i : Nat} {b : β}, Paired F l m → m[i]? = some b → ∃ a, l[i]? = some a ∧ F a b
  | _, _, i, b, .nil, h => by simp at h
  | _, _, 0, b, .cons a r, h => by cases h; exact ⟨_, rfl, a⟩
  | _, _, i + 1, b, .cons a r, h => paired_r (i := i) r (by simpa using h)
theorem paired_l {α β : Type} {F : α → β → Prop} : ∀ {l : List α} {m : List β} {i : Nat} {a : α}, Paired F l m → l[i]? = some a → ∃ b, m[i]? = some b ∧ F a b
  | _, _, i, b, .nil, h => by simp at h
  | _, _, 0, b, .cons a r, h => by cases h; exact ⟨_, rfl, a⟩
  | _, _, i + 1, b, .cons a r, h => paired_l (i := i) r (by simpa using h)
theorem valV_at {κ : Type} [DecidableEq κ] {kvs : List (κ × V)} {k : κ} {v : V} (h : valV kvs k = some v) : ∃ j : Nat, kvs[j]? = some (k, v) := by
  unfold valV at h
  cases e : kvs.find? fun kv => decide (kv.1 = k) with
  | none => rw [e] at h; cases h
  | some p =>
    rw [e] at h
    have h2 : p.2 = v := Option.some.inj h
    have h1 : p.1 = k := by have := List.find?_some e; exact of_decide_eq_true this
    obtain ⟨j, hj⟩ := List.mem_iff_getElem?.mp (List.mem_of_find?_eq_some e)
    exact ⟨j, by rw [hj, ← h1, ← h2]⟩
/-- two dicts with tuple keys that tell the same data -/
def rNeT (K : PySem.W.Frag) : R2 := fun x y H Q => ∃ (a b : Addr) (ks ls : List (List Key × V)), x = .ref a ∧ y = .ref b ∧ H a = some (.dT ks) ∧ H b = some (.dT ls) ∧ ks.length = ls.length ∧
  (∀ p ∈ ks, ∃ v d e, valV ls p.1 = some v ∧ Dp K H p.2 d ∧ Dp K H v e ∧ SeqAt.shaped d = true ∧ SeqAt.shaped e = true ∧ PyData.eqv d e = true) ∧ Q (.bl false) H
theorem op_neT {X : Cx} (hu : X.A.units + 66 < cLine) : OpR X (compareOp .NotEq) (rNeT X.K) := by
  intro pins s σ H x y v u Q I rx ry h
  obtain ⟨a, b, ks, ls, rfl, rfl, ea, eb, hl, hp, q⟩ := h
  obtain rfl : v = Value.ref a := rx
  obtain rfl : u = Value.ref b := ry
  obtain ⟨_, ya, xa, ra, da⟩ := dt_rd I.hok (Rd.of ea)
  obtain ⟨_, yb, xb, rb, db⟩ := dt_rd I.hok (Rd.of eb)
  refine PySem.W.keq_neH (knd := tupleKind (mixKind X.prog X.w)) (tupleKind_room_in1 (by omega)) ya yb da db (by omega) (by rw [← ra.length, ← rb.length]; exact hl) (fun i p hi => ?_) ⟨.bl false, H, I, rfl, q⟩
  obtain ⟨p0, h0, f1, f2, f3⟩ := paired_r ra hi
  obtain ⟨v, d, e, hv, dd, de, sd, se, ev⟩ := hp p0 (List.mem_of_getElem? h0)
  obtain ⟨j, hj⟩ := valV_at hv
  obtain ⟨q0, g0, g1, g2, g3⟩ := paired_l rb hj
  refine ⟨j, q0.2, ?_, ?_⟩
  · rw [g0]
    have g1 : p0.1 = q0.1 := g1
    rw [← f1, g1]
  · obtain ⟨as1, r1⟩ := Dp.reads I d p0.2 p.2.2 dd f3
    obtain ⟨as2, r2⟩ := Dp.reads I e v q0.2.2 de g3
    have := PySem.W.keq_at (A := X.A) r1 r2 sd se (by show X.A.units + 1 + 64 < cLine; omega)
    rw [ev] at this
    exact this
section
variable {σ : L2.St} {H : Hp} {td : TE} {tu : TS} {tz : TS} {D : Ends}
/-- for k in a dict whose keys are tuples: each key's own tuple -/
theorem s_forKT {d : Addr} {kvs : List (List Key × V)} {j : Nat} (hd : H d = some (.dT kvs)) (h : ∀ od, Ev td σ (upd H d (.frz od (.dT kvs))) (.ref d)) (Pv : Obj → Nat → L2.St → Hp → Prop) (h0 : ∀ od H1, Ex (upd H d (.frz od (.dT kvs))) H1 → Pv od 0 σ H1)
    (hl : ∀ od i σ' H', Pv od i σ' H' → H' d = some (.frz od (.dT kvs)))
    (hs : ∀ od i kk v q σ' H', kvs[i]? = some (kk, v) → H' q = some (.tup (kk.map kV)) → Pv od i σ' H' → tu { nx := Pv od (i + 1), ct := Pv od (i + 1), bk := fun σ' H' => H' d = some (.frz od (.dT kvs)) ∧ D.nx σ' (upd H' d (.dT kvs)), rt := fun v H' => H' d = some (.frz od (.dT kvs)) ∧ D.rt v (upd H' d (.dT kvs)) } (σ'.set j (some (.ref q))) H')
    (hf : ∀ od σ' H', Pv od kvs.length σ' H' → D.nx σ' (upd H' d (.dT kvs))) : tLock (tFor (iKeys td) (gName j) tu) D σ H := by
  refine ⟨d, .dT kvs, hd, trivial, fun od => ?_⟩
  refine h od _ (Ex.refl _) _ fun H1 e1 => ⟨d, od, rfl, .inr ⟨kvs, e1 _ _ upd_same, ?_⟩⟩
  refine ⟨fun i m σ' H' => m = kvs.length - i ∧ i ≤ kvs.length ∧ Pv od i σ' H', ⟨kvs.length, by simp, Nat.zero_le _, h0 od H1 e1⟩, ?_⟩
  rintro i m σ' H' ⟨rfl, hi, p⟩
  by_cases hlt : i < kvs.length
  · refine .inr ⟨⟨hl od i σ' H' p, hlt⟩, fun σ2 H2 => Pv od (i + 1) σ2 H2, fun σ2 H2 p2 => ⟨kvs.length - (i + 1), by omega, rfl, hlt, p2⟩, ?_⟩
    rintro x2 H2 ⟨rfl, kk, v, q, hk, rfl, hq⟩
    exact hs od i kk v q σ' _ hk hq p
  · have e0 : i = kvs.length := by omega
    subst e0
    exact .inl ⟨⟨hl od _ σ' H' p, Nat.le_refl _⟩, hl od _ σ' H' p, hf od σ' H' p⟩
theorem q_forKT {d : Addr} {kvs : List (List Key × V)} {j : Nat} (hd : H d = some (.dT kvs)) (h : ∀ od, Ev td σ (upd H d (.frz od (.dT kvs))) (.ref d)) (Pv : Obj → Nat → L2.St → Hp → Prop) (h0 : ∀ od H1, Ex (upd H d (.frz od (.dT kvs))) H1 → Pv od 0 σ H1)
    (hl : ∀ od i σ' H', Pv od i σ' H' → H' d = some (.frz od (.dT kvs)))
    (hs : ∀ od i kk v q σ' H', kvs[i]? = some (kk, v) → H' q = some (.tup (kk.map kV)) → Pv od i σ' H' → tu { nx := Pv od (i + 1), ct := Pv od (i + 1), bk := fun σ' H' => H' d = some (.frz od (.dT kvs)) ∧ tz D σ' (upd H' d (.dT kvs)), rt := fun v H' => H' d = some (.frz od (.dT kvs)) ∧ D.rt v (upd H' d (.dT kvs)) } (σ'.set j (some (.ref q))) H')
    (hf : ∀ od σ' H', Pv od kvs.length σ' H' → tz D σ' (upd H' d (.dT kvs))) : tSeq (tLock (tFor (iKeys td) (gName j) tu)) tz D σ H := s_forKT (D := { D with nx := tz D }) hd h Pv h0 hl hs hf
end
end Z

set_option Elab.async false
set_option linter.all false
set_option autoImplicit false
set_option maxRecDepth 100000
set_option maxHeartbeats 4000000
/-! ev: what an expression comes to, by its form -/
local macro_rules | `(tactic| k_places) => `(tactic| (repeat' (first
  | (with_reducible exact ev_c)
  | (with_reducible exact ev_var rfl)
  | (with_reducible refine ev_chainLL ?_ ?_ ?_)
  | (with_reducible refine ev_chainLt ?_ ?_ ?_)
  | (with_reducible refine ev_op ?_ ?_ ?_)
  | (with_reducible refine ev_neg ?_)
  | (with_reducible refine et_test ?_)
  | (with_reducible refine et_B ?_)
  | (with_reducible refine et_not ?_)
  | (with_reducible refine et_and ?_ (fun _ => ?_))
  | (with_reducible refine et_or ?_ (fun _ => ?_))
  | (with_reducible refine ev_andV ?_ (fun _ => ?_))
  | (with_reducible refine ev_orV ?_ (fun _ => ?_))
  | (with_reducible refine ev_notV ?_)
  | (with_reducible exact rv_addI)
  | (with_reducible exact rv_subI)
  | (with_reducible exact rv_lt)
  | (with_reducible exact rv_le)
  | (with_reducible exact rv_gt)
  | (with_reducible exact rv_ge)
  | (with_reducible exact rv_isB)
  | (with_reducible exact rv_isnB)
  | (with_reducible exact rv_isN)
  | (with_reducible exact rv_isnN)
  | (with_reducible exact rv_eqS rfl)
  | (with_reducible exact rv_neS rfl)
  | (with_reducible exact rv_inStr)
  | (with_reducible exact rv_ninStr)
  | (with_reducible exact rv_mod (by first | decide | omega | assumption))
  | (with_reducible exact rv_div (by first | decide | omega | assumption))
  | (with_reducible exact rv_pow (by decide))
  | (with_reducible refine ed_i ?_; done)
  | (with_reducible exact ea_nil)
  | (with_reducible refine ea_cons ?_ ?_)
  | (with_reducible exact eds_nil)
  | (with_reducible refine eds_cons ?_ ?_)
  | (with_reducible exact ed_dnew)
  | (with_reducible refine ed_lst ?_ (by simp only [List.length_cons, List.length_nil]; omega))
  | (with_reducible refine ed_tup ?_ (by simp only [List.length_cons, List.length_nil]; omega)))))
--TDEFS _law_leanings _law_comes_back law
namespace Z
open PySem PySem.Spec PyProof.Rows L2 Evl NdefX LamX
def sp_law_comes_back (K : PySem.W.Frag) : Sp := fun vs H Q _ => ∃ (ld p : Addr) (L : Pt → List Pt) (s : Pt) (N : List Pt), vs = [.ref ld, .ref p] ∧ LAt H ld L ∧ AtP H (.ref p) s ∧ (∀ x ∈ N, okP x ∧ ∀ y ∈ L x, y ∈ N) ∧ s ∈ N ∧ N.length ≤ 8 ∧ (∀ x, (L x).length ≤ 6) ∧
  ∀ (b : Bool) H', (b = true → ∃ m, 1 ≤ m ∧ Rch L s m s) → (∀ m, 1 ≤ m → m ≤ 7 → Rch L s m s → b = true) → Ex H H' → Q (.bl b) H'
def KeysIn (H : Hp) (ld : Addr) (N : List Pt) : Prop := ∃ kvs : List (List Key × V), H ld = some (.dT kvs) ∧ (kvs.map (·.1)).Nodup ∧ ∀ p ∈ kvs, ∃ x ∈ N, p.1 = keyP x
theorem KeysIn.ex {H H' : Hp} {ld : Addr} {N : List Pt} (h : KeysIn H ld N) (e : Ex H H') : KeysIn H' ld N := let ⟨kvs, a, b⟩ := h; ⟨kvs, e _ _ a, b⟩
theorem putK_in {κ : Type} [DecidableEq κ] {kvs : List (κ × V)} {k : κ} {v : V} {p : κ × V} (h : p ∈ putK kvs k v) : p.1 = k ∨ ∃ q ∈ kvs, q.1 = p.1 := by
  unfold putK at h
  split at h
  · obtain ⟨q, hq, rfl⟩ := List.mem_map.mp h
    split
    · rename_i e; exact .inl e
    · exact .inr ⟨q, hq, rfl⟩
  · rcases List.mem_append.mp h with h | h
    · exact .inr ⟨p, h, rfl⟩
    · rw [List.mem_singleton.mp h]; exact .inl rfl
theorem putK_keys {κ : Type} [DecidableEq κ] (kvs : List (κ × V)) (k : κ) (v : V) : (putK kvs k v).map (·.1) = if k ∈ kvs.map (·.1) then kvs.map (·.1) else kvs.map (·.1) ++ [k] := by
  unfold putK
  by_cases h : (kvs.any fun kv => decide (kv.1 = k)) = true
  · have hm : k ∈ kvs.map (·.1) := by
      obtain ⟨p, hp, e⟩ := List.any_eq_true.mp h
      exact List.mem_map.mpr ⟨p, hp, of_decide_eq_true e⟩
    rw [if_pos h, if_pos hm, List.map_map]
    refine List.map_congr_left fun p _ => ?_
    show (if p.1 = k then (p.1, v) else p).1 = p.1
    split <;> rfl
  · have hm : k ∉ kvs.map (·.1) := fun z => h (by
      obtain ⟨p, hp, e⟩ := List.mem_map.mp z
      exact List.any_eq_true.mpr ⟨p, hp, decide_eq_true e⟩)
    rw [if_neg h, if_neg hm, List.map_append]
    rfl
theorem putK_nd {κ : Type} [DecidableEq κ] {kvs : List (κ × V)} {k : κ} {v : V} (h : (kvs.map (·.1)).Nodup) : ((putK kvs k v).map (·.1)).Nodup := by
  rw [putK_keys]
  split
  · exact h
  · rename_i z
    exact List.nodup_append.mpr ⟨h, by simp, fun a ha b hb e => z (by rw [← List.mem_singleton.mp hb, ← e]; exact ha)⟩
theorem KeysIn.put {H H' : Hp} {ld : Addr} {N : List Pt} {kvs : List (List Key × V)} {k : Pt} {v : V} (h : KeysIn H ld N) (h1 : H ld = some (.dT kvs)) (h2 : H' ld = some (.dT (putK kvs (keyP k) v))) (hk : k ∈ N) : KeysIn H' ld N := by
  obtain ⟨kvs', a, n, b⟩ := h
  rw [h1] at a
  cases a
  refine ⟨_, h2, putK_nd n, fun p hp => ?_⟩
  rcases putK_in hp with e | ⟨q, hq, e⟩
  · exact ⟨k, hk, e⟩
  · obtain ⟨x, hx, e2⟩ := b q hq
    exact ⟨x, hx, e ▸ e2⟩
def sp_law_leanings20 (K : PySem.W.Frag) : Sp := fun vs H Q _ => ∃ (l sl : Addr) (ns : List Int) (xs : List V) (ss : List Pt), vs = [.ref l, .ref sl] ∧ SqL K H l (ns.map V.int) ∧ H sl = some (.lst xs) ∧ AtPs H xs ss ∧ ss.length = 5 ∧ (∀ s ∈ ss, okP s) ∧ ∀ ld L H', Ex H H' → H ld = none → LdN H' ld L ss 5 6 → KeysIn H' ld ss → Q (.ref ld) H'
def spLaw (K : PySem.W.Frag) : Sp := fun vs H Q _ => ∃ (a : Addr) (ns : List Int), vs = [.ref a] ∧ SqL K H a (ns.map V.int) ∧ ns.length ≤ 63 ∧ ∀ H', Q (.bl true) H'
theorem hu66 {k : Nat} {A : PySem.Around} (hr : L2.Room k A) : A.units + 66 < cLine := by have := hr.un; omega
def nw : Pt := ("nowhere", "x")
/-- names: "script", "spots", "leanings", "share", "k", "found", "j" -/
def t_law_leanings20 (K : PySem.W.Frag) (E : XK) : TS :=
  tSeq (tAsg tDNewT (gName 2))
    (tSeq (tAsg (tOp (rIxA K) (tLst (tCons (tC (.int 1)) (tCons (tC (.int 2)) (tCons (tC (.int 3)) (tCons (tC (.int 5)) tNil))))) (tCallS (sp_law_drawn K) (WE (fun cls d _ H => E cls d H)) (tCons (tVar 0) (tCons (tC (.int 30)) (tCons (tC (.int 4)) tNil))))) (gName 3))
    (tSeq (tFor (iRng1 (tCons (tCB (rLenA K) (tCons (tVar 1) tNil)) tNil)) (gName 4) (tSeq (tAsg (tLst tNil) (gName 5))
    (tSeq (tFor (iRng1 (tCons (tCB (rLenA K) (tCons (tVar 1) tNil)) tNil)) (gName 6) (tIfS (tTest (tOp rLtA (tCallS (sp_law_drawn K) (WE (fun cls d _ H => E cls d H)) (tCons (tVar 0) (tCons (tOp (rAddA K) (tOp (rAddA K) (tC (.int 40)) (tOp (rMulA K) (tC (.int 7)) (tVar 4))) (tVar 6)) (tCons (tC (.int 8)) tNil)))) (tVar 3))) (tDrop (tBM K "list" rInsA (tVar 5) (tCons (tCallS (sp_law_drawn K) (WE (fun cls d _ H => E cls d H)) (tCons (tVar 0) (tCons (tOp (rAddA K) (tOp (rAddA K) (tC (.int 90)) (tOp (rMulA K) (tC (.int 7)) (tVar 4))) (tVar 6)) (tCons (tOp (rAddA K) (tCB (rLenA K) (tCons (tVar 5) tNil)) (tC (.int 1))) tNil)))) (tCons (tOp (rIxA K) (tVar 1) (tVar 6)) tNil)))) tNext))
    (tSeq (tIfS (tAnd (tTest (tOp (rNeA K) (tVar 5) (tLst tNil))) (tTest (tOp (rEqA K) (tCallS (sp_law_drawn K) (WE (fun cls d _ H => E cls d H)) (tCons (tVar 0) (tCons (tOp (rAddA K) (tC (.int 140)) (tVar 4)) (tCons (tC (.int 5)) tNil)))) (tC (.int 0))))) (tDrop (tBM K "list" rAppend (tVar 5) (tCons (tOp (rIxA K) (tVar 5) (tC (.int 0))) tNil))) tNext)
    (tIfS (tOr (tTest (tOp (rNeA K) (tVar 5) (tLst tNil))) (tTest (tOp (rEqA K) (tCallS (sp_law_drawn K) (WE (fun cls d _ H => E cls d H)) (tCons (tVar 0) (tCons (tOp (rAddA K) (tC (.int 150)) (tVar 4)) (tCons (tC (.int 2)) tNil)))) (tC (.int 0))))) (tAsg (tVar 5) (gSub (tVar 2) (tOp (rIxA K) (tVar 1) (tVar 4)) rSetA)) tNext)))))
    (tRet (tVar 2))))
/-- names: "leanings", "spot", "come", "turn", "one", "other" -/
def t_law_comes_back (K : PySem.W.Frag) (E : XK) : TS :=
  tSeq (tAsg (tCB (rListA K) (tCons (tDGet2 (tVar 0) (tVar 1) (tLst tNil)) tNil)) (gName 2))
    (tSeq (tFor (iRng1 (tCons (tC (.int 6)) tNil)) (gName 3) (tFor (iList K (tCB (rListA K) (tCons (tVar 2) tNil))) (gName 4) (tAsg (tOp (rAddA K) (tVar 2) (tLc (iList K (tDGet2 (tVar 0) (tVar 4) (tLst tNil))) (gName 5) (tTest (tOp (rNinA K) (tVar 5) (tVar 2))) (tVar 5) [5])) (gName 2))))
    (tRet (tOp (rInA K) (tVar 1) (tVar 2))))
/-- names: "script", "spots", "leanings", "spot", "handed", "one", "found", "many" -/
def t_law (K : PySem.W.Frag) (E : XK) : TS :=
  tSeq (tAsg (tCallS (sp_law_spots K) (WE (fun cls d _ H => E cls d H)) (tCons (tVar 0) tNil)) (gName 1))
    (tSeq (tAsg (tCallS (sp_law_leanings20 K) (WE (fun cls d _ H => E cls d H)) (tCons (tVar 0) (tCons (tVar 1) tNil))) (gName 2))
    (tSeq (tFor (iList K (tOp (rAddA K) (tVar 1) (tLst (tCons (tTup (tCons (tC (.str "nowhere")) (tCons (tC (.str "x")) tNil))) tNil)))) (gName 3) (tSeq (tAsg tDNewT (gName 4))
    (tSeq (tLock (tFor (iKeys (tVar 2)) (gName 5) (tAsg (tCB (rListA K) (tCons (tOp (rIxA K) (tVar 2) (tVar 5)) tNil)) (gSub (tVar 4) (tVar 5) rSetA))))
    (tSeq (tAsg (tCallS (sp_ring_from K) (WE (fun cls d _ H => E cls d H)) (tCons (tVar 4) (tCons (tVar 3) tNil))) (gName 6))
    (tSeq (tIfS (tOr (tTest (tOp (rNeT K) (tVar 4) (tVar 2))) (tTest (tOp (rEqA K) (tOp rIsA (tVar 6) (tC .non)) (tCallS (sp_law_comes_back K) (WE (fun cls d _ H => E cls d H)) (tCons (tVar 2) (tCons (tVar 3) tNil)))))) (tRet (tC (.bl false))) tNext)
    (tIfS (tTest (tOp rIsnA (tVar 6) (tC .non))) (tSeq (tAsg (tCB (rLenA K) (tCons (tVar 6) tNil)) (gName 7))
    (tSeq (tIfS (tNot (tB (tCallS (sp_law_is_ring K) (WE (fun cls d _ H => E cls d H)) (tCons (tVar 2) (tCons (tVar 3) (tCons (tVar 6) tNil)))))) (tRet (tC (.bl false))) tNext)
    (tSeq (tDrop (tBM K "list" rAppend (tVar 6) (tCons (tVar 3) tNil)))
    (tIfS (tTest (tOp (rNeA K) (tCB (rLenA K) (tCons (tCallS (sp_ring_from K) (WE (fun cls d _ H => E cls d H)) (tCons (tVar 4) (tCons (tVar 3) tNil))) tNil)) (tVar 7))) (tRet (tC (.bl false))) tNext)))) tNext))))))
    (tRet (tC (.bl true)))))

section
variable {K : PySem.W.Frag}
theorem len_law_comes_back (vs : List V) (H : Hp) (Q : VK) (E : XK) (h : sp_law_comes_back K vs H Q E) : vs.length = 2 := by obtain ⟨_, _, _, _, _, rfl, _⟩ := h; rfl
theorem s_forNLn {σ : L2.St} {H : Hp} {D : Ends} {tu : TS} {xs : List V} {tl : TE} {j : Nat} (h : EvL tl σ H xs) (Pv : Addr → Nat → L2.St → Hp → Prop) (h0 : ∀ p H1, H p = none → Ex H H1 → H1 p = some (.lst xs) → Pv p 0 σ H1) (hl : ∀ p i σ' H', i ≤ xs.length → Pv p i σ' H' → SqL K H' p xs)
    (hs : ∀ p i x σ' H', xs[i]? = some x → Pv p i σ' H' → tu { D with nx := Pv p (i + 1), ct := Pv p (i + 1), bk := D.nx } (σ'.set j (some x)) H') (hd : ∀ p σ' H', Pv p xs.length σ' H' → D.nx σ' H') : tFor (iList K tl) (gName j) tu D σ H := s_forNL h Pv h0 hl hs hd
structure Come (L : Pt → List Pt) (s : Pt) (N cs : List Pt) (t : Nat) : Prop where
  a : ∀ y ∈ cs, ∃ m, 1 ≤ m ∧ Rch L s m y
  b : ∀ m y, 1 ≤ m → m ≤ t → Rch L s m y → y ∈ cs
  n : ∀ y ∈ cs, y ∈ N
  d : ∃ ds : List Pt, ds.Nodup ∧ (∀ d ∈ ds, d ∈ cs) ∧ cs.length ≤ 6 + 6 * ds.length
theorem Come.len {L : Pt → List Pt} {s : Pt} {N cs : List Pt} {t : Nat} (c : Come L s N cs t) (h : N.length ≤ 8) : cs.length ≤ 54 := by
  obtain ⟨ds, n1, n2, n3⟩ := c.d
  have := nodup_le n1 fun d hd => c.n d (n2 d hd)
  omega
theorem r_law_comes_back (vs : List V) (H : Hp) (Q : VK) (E : XK) (h : sp_law_comes_back K vs H Q E) : t_law_comes_back K E { nx := fun _ H' => Q .non H', rt := Q } (L2.start ["leanings", "spot", "come", "turn", "one", "other"] vs) H := by
  obtain ⟨ld, p, L, s, N, rfl, hL, ⟨p', e', gp⟩, hN, hsN, lN, lL, k⟩ := h
  cases e'
  unfold t_law_comes_back
  have okN : ∀ x ∈ N, okP x := fun x hx => (hN x hx).1
  refine q_listG (ev_get hL (Ex.refl H) (ev_var rfl) (ev_var rfl) ⟨p, rfl, gp⟩) fun cl xs H1 _ e1 h1 a1 => ?_
  refine q_forR1 (n := 6) (ea_cons ev_c ea_nil) (by decide) (fun i σ' H' => ∃ (cl : Addr) (xs : List V) (cs : List Pt) (x3 x4 x5 : Option V), σ' = [some (.ref ld), some (.ref p), some (.ref cl), x3, x4, x5] ∧ Ex H H' ∧ H' cl = some (.lst xs) ∧ AtPs H' xs cs ∧ Come L s N cs (i + 1))
    (fun H2 e2 => ⟨cl, xs, L s, _, _, _, rfl, e1.trans e2, e2 _ _ h1, a1.tup (.of_ex e2), ⟨fun y hy => ⟨1, Nat.le_refl _, .snoc .nil hy⟩, fun m y m1 m2 r => by
      obtain rfl : m = 1 := by omega
      cases r with
      | snoc r hy => cases r; exact hy, fun y hy => (hN s hsN).2 y hy, [], .nil, (fun d hd => nomatch hd), by have := lL s; show _ ≤ 6 + 6 * 0; omega⟩⟩) (fun i σ' H2 hi ⟨cl, xs, cs, x3, x4, x5, hσ, e2, h2, a2, C⟩ => ?_) fun σ' H2 ⟨cl, xs, cs, x3, x4, x5, hσ, e2, h2, a2, C⟩ => ?_
  · subst hσ
    have lcs := C.len lN
    refine s_forNLn (xs := xs) (el_listA (ev_var rfl) (SqL.of h2)) (fun q m σ' H' => ∃ (fl : Addr) (ys : List V) (fs : List Pt) (x4 x5 : Option V), σ' = [some (.ref ld), some (.ref p), some (.ref fl), some (.int (i : Int)), x4, x5] ∧ Ex H2 H' ∧ H' q = some (.lst xs) ∧ H' fl = some (.lst ys) ∧ AtPs H' ys fs ∧ Come L s N fs (i + 1) ∧ (∀ y ∈ cs, y ∈ fs) ∧ ∀ x ∈ cs.take m, ∀ y ∈ L x, y ∈ fs)
      (fun q H3 hq e3 h3 => ⟨cl, xs, cs, _, _, rfl, e3, h3, e3 _ _ h2, a2.tup (.of_ex e3), C, (fun _ h => h), fun x hx => by simp at hx⟩) (fun q m σ' H' _ ⟨_, _, _, _, _, _, _, h, _⟩ => SqL.of h) ?_ ?_
    · rintro q m x σ' H5 hm ⟨fl, ys, fs, x4, x5, rfl, e5, h5, hf5, a5, F, sub, cov⟩
      have E5 := e2.trans e5
      obtain ⟨c, hcm, ac⟩ := (a2.tup (.of_ex e5)).at hm
      have cN := C.n c (List.mem_of_getElem? hcm)
      have lfs := F.len lN
      have fN : ∀ y ∈ fs, y ∈ N := F.n
      refine ⟨_, rfl, x_filt (H0 := H) (ps := L c) (fs := fs) (ev_get hL (E5.trans (Ex.refl H5)) (ev_var rfl) (ev_var rfl) ac) (fun _ => rfl) (fun _ => rfl) (fun _ => rfl) hf5 a5 (fun y hy => okN y ((hN c cN).2 y hy)) (fun y hy => okN y (fN y hy)) (by have := lL c; omega) fun g zs H6 _ e6 h6 a6 => ?_⟩
      have lz := List.length_filter_le (fun y => decide (y ∉ fs)) (L c)
      have lLc := lL c
      refine .inr (.inr (.inl ⟨fl, g, ys, zs, rfl, rfl, e6 _ _ hf5, h6, sz_of (by rw [a5.1, a6.1]; omega), fun u hu => ?_⟩))
      have tk : cs.take (m + 1) = cs.take m ++ [c] := by rw [List.take_add_one, hcm]; rfl
      have A6 := atPs_app ((a5.tup (.of_ex e6)).tup (.of_ex (Ex.new (o := .lst (ys ++ zs)) hu))) (a6.tup (.of_ex (Ex.new (o := .lst (ys ++ zs)) hu)))
      have C6 : Come L s N (fs ++ (L c).filter fun y => decide (y ∉ fs)) (i + 1) := by
        refine ⟨fun y hy => ?_, fun m y m1 m2 r => List.mem_append.mpr (.inl (F.b m y m1 m2 r)), fun y hy => ?_, ?_⟩
        · rcases List.mem_append.mp hy with hy | hy
          · exact F.a y hy
          · obtain ⟨m, m1, r⟩ := C.a c (List.mem_of_getElem? hcm)
            exact ⟨m + 1, by omega, .snoc r (List.mem_filter.mp hy).1⟩
        · rcases List.mem_append.mp hy with hy | hy
          · exact fN y hy
          · exact (hN c cN).2 y (List.mem_filter.mp hy).1
        · obtain ⟨ds, nd, dsf, ld2⟩ := F.d
          cases hz : (L c).filter (fun y => decide (y ∉ fs)) with
          | nil => exact ⟨ds, nd, fun d hd => List.mem_append.mpr (.inl (dsf d hd)), by rw [List.append_nil]; exact ld2⟩
          | cons y0 r =>
            have hy0 : y0 ∈ (L c).filter (fun y => decide (y ∉ fs)) := by rw [hz]; exact List.mem_cons_self
            have ny0 : y0 ∉ fs := by simpa using (List.mem_filter.mp hy0).2
            rw [hz] at lz
            refine ⟨ds ++ [y0], List.nodup_append.mpr ⟨nd, by simp, fun a ha b hb => ?_⟩, fun d hd => ?_, by rw [List.length_append, List.length_append, List.length_singleton]; omega⟩
            · rw [List.mem_singleton.mp hb]
              rintro rfl
              exact ny0 (dsf _ ha)
            · rcases List.mem_append.mp hd with hd | hd
              · exact List.mem_append.mpr (.inl (dsf d hd))
              · rw [List.mem_singleton.mp hd]
                exact List.mem_append.mpr (.inr List.mem_cons_self)
      refine ⟨u, ys ++ zs, _, some x, x5, rfl, (e5.trans e6).trans (Ex.new hu), (Ex.new hu) _ _ (e6 _ _ h5), upd_same, A6, C6, fun y hy => List.mem_append.mpr (.inl (sub y hy)), fun z hz y hy => ?_⟩
      rw [tk] at hz
      rcases List.mem_append.mp hz with hz | hz
      · exact List.mem_append.mpr (.inl (cov z hz y hy))
      · rw [List.mem_singleton.mp hz] at hy
        by_cases hyf : y ∈ fs
        · exact List.mem_append.mpr (.inl hyf)
        · exact List.mem_append.mpr (.inr (List.mem_filter.mpr ⟨hy, by simpa using hyf⟩))
    · rintro q σ' H5 ⟨fl, ys, fs, x4, x5, rfl, e5, h5, hf5, a5, F, sub, cov⟩
      rw [a2.1, List.take_length] at cov
      refine ⟨fl, ys, fs, _, _, _, rfl, e2.trans e5, hf5, a5, ⟨F.a, fun m y m1 m2 r => ?_, F.n, F.d⟩⟩
      rcases Nat.lt_or_ge m (i + 2) with h | h
      · exact F.b m y m1 (by omega) r
      · obtain rfl : m = i + 1 + 1 := by omega
        cases r with
        | snoc r hy => exact cov _ (C.b (i + 1) _ (by omega) (Nat.le_refl _) r) y hy
  · subst hσ
    refine s_ret (ev_inP (ev_var rfl) ⟨p, rfl, e2 _ _ gp⟩ (ev_var rfl) h2 a2 (okN s hsN) fun x hx => okN x (C.n x hx)) fun H3 e3 => k _ H3 (fun hb => C.a s (of_decide_eq_true hb)) (fun m m1 m2 r => decide_eq_true (C.b m s m1 (by simpa using m2) r)) (e2.trans e3)
theorem len_law_leanings20 (vs : List V) (H : Hp) (Q : VK) (E : XK) (h : sp_law_leanings20 K vs H Q E) : vs.length = 2 := by obtain ⟨_, _, _, _, _, rfl, _⟩ := h; rfl
theorem r_law_leanings20 (vs : List V) (H : Hp) (Q : VK) (E : XK) (h : sp_law_leanings20 K vs H Q E) : t_law_leanings20 K E { nx := fun _ H' => Q .non H', rt := Q } (L2.start ["script", "spots", "leanings", "share", "k", "found", "j"] vs) H := by
  obtain ⟨l, sl, ns, xs, ss, rfl, hl, hs, as, l5, ok, k⟩ := h
  unfold t_law_leanings20
  have lx : xs.length = 5 := by rw [as.1]; exact l5
  have sp : ∀ {H1 : Hp} {σ : L2.St} {te : TE} {i : Nat}, Ex H H1 → σ[1]? = some (some (V.ref sl)) → Ev te σ H1 (.int (i : Int)) → i < 5 → ∃ (v : V) (s : Pt), ss[i]? = some s ∧ AtP H1 v s ∧ Ev (tOp (rIxA K) (tVar 1) te) σ H1 v := fun {H1 σ te i} e h1 ht hi => by
    have hi' : i < xs.length := by omega
    obtain ⟨s, q, a⟩ := (as.tup (.of_ex e)).at (List.getElem?_eq_getElem hi')
    exact ⟨xs[i], s, q, a, ev_op (ev_var h1) ht (rv_itL (SqL.of (e _ _ hs)) (atI_nat (List.getElem?_eq_getElem hi')))⟩
  have dr : ∀ {H1 : Hp} {σ : L2.St} {tb tc : TE} {j : Nat} {n x : Int} {E : L2.St → XK}, Ex H H1 → σ[0]? = some (some (V.ref l)) → Ev tb σ H1 (.int x) → Ev tc σ H1 (.int n) → x = (j : Int) → j ≤ 100000 → 0 < n → Ev (tCallS (sp_law_drawn K) E (tCons (tVar 0) (tCons tb (tCons tc tNil)))) σ H1 (.int (drawn ns j n)) := fun e h0 hb hn hx hj h0' => by
    subst hx
    exact ev_drawn (ex_l e hl) (ev_var h0) hb hn hj h0'
  refine q_asgDT fun ld H1 hld e1 h1 => ?_
  obtain ⟨sh, hsh⟩ : ∃ sh : Int, [V.int 1, V.int 2, V.int 3, V.int 5].getD (drawn ns 30 4).toNat .non = V.int sh := by
    have := getD_mem (d := V.non) (drawn_lt (xs := [V.int 1, V.int 2, V.int 3, V.int 5]) ns 30 (n := 4) rfl (by decide))
    simp only [List.mem_cons, List.mem_nil_iff, or_false] at this
    rcases this with z | z | z | z <;> exact ⟨_, z⟩
  have ix : Ev (tOp (rIxA K) (tLst (tCons (tC (.int 1)) (tCons (tC (.int 2)) (tCons (tC (.int 3)) (tCons (tC (.int 5)) tNil))))) (tCallS (sp_law_drawn K) (WE (fun cls d _ H => E cls d H)) (tCons (tVar 0) (tCons (tC (.int 30)) (tCons (tC (.int 4)) tNil))))) [some (.ref l), some (.ref sl), some (.ref ld), none, none, none, none] H1 (.int sh) := by
    have := ev_ixN (K := K) (σ := [some (.ref l), some (.ref sl), some (.ref ld), none, none, none, none]) (H := H1) (el_lst (ea_cons (ev_c (v := .int 1)) (ea_cons (ev_c (v := .int 2)) (ea_cons (ev_c (v := .int 3)) (ea_cons (ev_c (v := .int 5)) ea_nil)))) (show 4 ≤ 100000 by decide)) (dr (tb := tC (.int 30)) (tc := tC (.int 4)) (j := 30) (n := 4) (E := WE (fun cls d _ H => E cls d H)) e1 rfl ev_c ev_c rfl (by decide) (by decide)) (atI_drawn ns 30 .non (n := 4) (by rfl) (by decide))
    rwa [hsh] at this
  refine q_asg ix fun H2 e2 => ?_
  have e12 := e1.trans e2
  have len5 : ∀ {H3 : Hp} {σ : L2.St}, Ex H H3 → σ[1]? = some (some (V.ref sl)) → EvA (tCons (tCB (rLenA K) (tCons (tVar 1) tNil)) tNil) σ H3 [.int 5] := fun e h1 => ea_cons (ev_is (ev_lenV (ev_var h1) (rc_lenL (K := K) (SqL.of (e _ _ hs)))) (by rw [lx]; rfl)) ea_nil
  refine q_forR1 (n := 5) (len5 e12 rfl) (by decide) (fun i σ' H' => ∃ (L : Pt → List Pt) (x4 x5 x6 : Option V), σ' = [some (.ref l), some (.ref sl), some (.ref ld), some (.int sh), x4, x5, x6] ∧ Ex H H' ∧ LdN H' ld L ss i 6 ∧ KeysIn H' ld ss)
    (fun H3 e3 => ⟨fun _ => [], _, _, _, rfl, e12.trans e3, ⟨⟨[], (e2.trans e3) _ _ h1, Nat.le_refl 0, fun x => .inl ⟨rfl, rfl⟩⟩, fun x y hy => (by cases hy), fun x => Nat.zero_le 6⟩, ⟨[], (e2.trans e3) _ _ h1, .nil, fun p hp => nomatch hp⟩⟩) (fun i σ' H3 hi ⟨L, x4, x5, x6, hσ, e3, hL, kN⟩ => ?_) fun σ' H3 ⟨L, x4, x5, x6, hσ, e3, hL, kN⟩ => ?_
  · subst hσ
    have hi5 : i < 5 := by omega
    refine q_asgL (el_lst ea_nil (by decide)) fun fq H4 hfq e4 h4 => ?_
    have nf : H fq = none := fresh_back e3 hfq
    refine q_forR1 (n := 5) (len5 (e3.trans e4) rfl) (by decide) (fun j σ' H' => ∃ (ys : List V) (ps : List Pt) (x6 : Option V), σ' = [some (.ref l), some (.ref sl), some (.ref ld), some (.int sh), some (.int (i : Int)), some (.ref fq), x6] ∧ Ex H3 H' ∧ H' fq = some (.lst ys) ∧ AtPs H' ys ps ∧ (∀ y ∈ ps, y ∈ ss) ∧ ps.length ≤ j)
      (fun H5 e5 => ⟨[], [], _, rfl, e4.trans e5, e5 _ _ h4, ⟨rfl, fun i s z => by simp at z⟩, (fun y hy => by cases hy), Nat.le_refl 0⟩) (fun j σ' H5 hj ⟨ys, ps, x6, hσ, e5, h5, a5, sub5, l5'⟩ => ?_) fun σ' H5 ⟨ys, ps, x6, hσ, e5, h5, a5, sub5, l5'⟩ => ?_
    · subst hσ
      have E5 := e3.trans e5
      refine s_when (et_test (ev_op (dr (j := 40 + 7 * i + j) (n := 8) E5 rfl (ev_op (ev_op ev_c (ev_op ev_c (ev_var rfl) (rv_mulI (wide_mul (a := 20) (b := 20) (by decide) (by omega) (by decide) (by decide) (by decide)))) rv_addI) (ev_var rfl) rv_addI) ev_c (by omega) (by omega) (by decide)) (ev_var rfl) rv_lt)) (fun hb H6 e6 => ?_) (fun hb H6 e6 => ⟨ys, ps, _, rfl, e5.trans e6, e6 _ _ h5, a5.tup (.of_ex e6), sub5, by omega⟩)
      obtain ⟨v, s, qs, av, ev⟩ := sp (te := tVar 6) (σ := [some (.ref l), some (.ref sl), some (.ref ld), some (.int sh), some (.int (i : Int)), some (.ref fq), some (.int (j : Int))]) (i := j) (E5.trans e6) rfl (ev_var rfl) (by omega)
      have bd := drawn_bd ns (90 + 7 * i + j) (size := (ys.length : Int) + 1) (by omega)
      refine s_insN (d := (drawn ns (90 + 7 * i + j) ((ys.length : Int) + 1)).toNat) (Int.toNat_of_nonneg bd.1).symm rfl (e6 _ _ h5) (dr (j := 90 + 7 * i + j) (E5.trans e6) rfl (ev_op (ev_op ev_c (ev_op ev_c (ev_var rfl) (rv_mulI (wide_mul (a := 20) (b := 20) (by decide) (by omega) (by decide) (by decide) (by decide)))) rv_addI) (ev_var rfl) rv_addI) (ev_op (ev_lenV (ev_var rfl) (rc_lenL (K := K) (SqL.of (e6 _ _ h5)))) ev_c rv_addI) (by omega) (by omega) (by omega)) ev (by have := a5.1; omega) (by have := a5.1; omega) fun H7 e7 => ?_
      have e67 := e6.trans e7
      generalize (drawn ns (90 + 7 * i + j) ((ys.length : Int) + 1)).toNat = d
      have tt : Tup H5 (upd H7 fq (.lst (ys.take d ++ [v] ++ ys.drop d))) := ((Imk.of e67).trans (Imk.upd (e67 _ _ h5) fun z => z)).tup
      have t6 : Tup H6 (upd H7 fq (.lst (ys.take d ++ [v] ++ ys.drop d))) := ((Imk.of e7).trans (Imk.upd (e67 _ _ h5) fun z => z)).tup
      refine ⟨_, ps.take d ++ [s] ++ ps.drop d, _, rfl, Ex.mut (e5.trans e67) hfq, upd_same, atPs_app (atPs_app ((a5.tup tt).take d) (atPs1 (av.tup t6))) ((a5.tup tt).drop d), fun y hy => ?_, ?_⟩
      · simp only [List.mem_append, List.mem_singleton] at hy
        rcases hy with (hy | rfl) | hy
        · exact sub5 y (List.mem_of_mem_take hy)
        · exact List.mem_of_getElem? qs
        · exact sub5 y (List.mem_of_mem_drop hy)
      · simp only [List.length_append, List.length_take, List.length_drop, List.length_singleton]
        omega
    · subst hσ
      have E5 := e3.trans e5
      have l5'' : ps.length ≤ 5 := l5'
      refine q_ifMidB (fun H' => ∃ (ys : List V) (ps : List Pt), Ex H3 H' ∧ H' fq = some (.lst ys) ∧ AtPs H' ys ps ∧ (∀ y ∈ ps, y ∈ ss) ∧ ps.length ≤ 6) (et_and (et_test (ev_neNil (ev_var rfl) h5 a5 fun s hs => ok s (sub5 s hs))) fun _ => et_test (ev_op (dr (j := 140 + i) (n := 5) E5 rfl (ev_op ev_c (ev_var rfl) rv_addI) ev_c (by omega) (by omega) (by decide)) ev_c (rv_eqS rfl))) (fun hb H6 e6 Qn hQ => ?_) (fun H6 e6 => ⟨ys, ps, e5.trans e6, e6 _ _ h5, a5.tup (.of_ex e6), sub5, by omega⟩) fun H6 ⟨ys, ps, e6, h6, a6, sub6, l6⟩ => ?_
      · have hne : ps ≠ [] := fun z => by subst z; simp at hb
        obtain ⟨s0, hs0⟩ : ∃ s0, ps[0]? = some s0 := by
          cases ps with
          | nil => exact absurd rfl hne
          | cons a r => exact ⟨a, rfl⟩
        obtain ⟨v0, hv0, av0⟩ := (a5.tup (.of_ex e6)).2 0 s0 hs0
        refine s_app (e6 _ _ h5) (ev_var rfl) (ev_op (ev_var rfl) ev_c (rv_itL (SqL.of (e6 _ _ h5)) (atI_nat (j := 0) hv0))) (by have := a5.1; omega) fun H7 e7 => hQ _ ⟨ys ++ [v0], ps ++ [s0], Ex.mut (e5.trans (e6.trans e7)) hfq, upd_same, ?_, fun y hy => ?_, by rw [List.length_append]; exact Nat.succ_le_succ l5''⟩
        · have tt : Tup H6 (upd H7 fq (.lst (ys ++ [v0]))) := ((Imk.of e7).trans (Imk.upd ((e6.trans e7) _ _ h5) fun z => z)).tup
          exact ((a5.tup (.of_ex e6)).tup tt).snoc (av0.tup tt)
        · rcases List.mem_append.mp hy with hy | hy
          · exact sub5 y hy
          · rw [List.mem_singleton.mp hy]
            exact sub5 s0 (List.mem_of_getElem? hs0)
      · have E6 := e3.trans e6
        have hL6 := hL.ex e6
        obtain ⟨kvs, g1, g2, g3⟩ := hL6.at_
        refine s_when (et_or (et_test (ev_neNil (ev_var rfl) h6 a6 fun s hs => ok s (sub6 s hs))) fun _ => et_test (ev_op (dr (j := 150 + i) (n := 2) E6 rfl (ev_op ev_c (ev_var rfl) rv_addI) ev_c (by omega) (by omega) (by decide)) ev_c (rv_eqS rfl))) (fun hb H7 e7 => ?_) (fun hb H7 e7 => ⟨L, _, _, _, rfl, E6.trans e7, (hL6.ex e7).mono (Nat.le_succ i), (kN.ex e6).ex e7⟩)
        obtain ⟨v, s, qs, ⟨b, rfl, gb⟩, ev⟩ := sp (te := tVar 4) (σ := [some (.ref l), some (.ref sl), some (.ref ld), some (.int sh), some (.int (i : Int)), some (.ref fq), x6]) (i := i) (E6.trans e7) rfl (ev_var rfl) hi5
        refine s_setT' (k := keyP s) (e7 _ _ g1) (ev_var rfl) (ev_var rfl) ev gb (by omega) fun H8 e8 => ?_
        have e78 := e7.trans e8
        have ldn : ∀ {a : Addr} {xs : List V}, H6 a = some (.lst xs) → upd H8 ld (.dT (putK kvs (keyP s) (.ref fq))) a = some (.lst xs) := fun {a xs} e => (upd_ne fun z => by rw [z, g1] at e; cases e).trans (e78 _ _ e)
        have tt : Tup H6 (upd H8 ld (.dT (putK kvs (keyP s) (.ref fq)))) := fun a xs e => (upd_ne fun z => by rw [z, g1] at e; cases e).trans (e78 _ _ e)
        exact ⟨updL L s ps, _, _, _, rfl, Ex.mut (E6.trans e78) hld, hL6.put g1 upd_same (fun a xs e => ldn e) tt (ldn h6) (a6.tup tt) sub6 l6, (kN.ex e6).put g1 upd_same (List.mem_of_getElem? qs)⟩
  · subst hσ
    exact s_ret (ev_var rfl) fun H4 e4 => k ld L H4 (e3.trans e4) hld (hL.ex e4) (kN.ex e4)
theorem valV_of {κ : Type} [DecidableEq κ] : ∀ {kvs : List (κ × V)} {p : κ × V} {i : Nat}, (kvs.map (·.1)).Nodup → kvs[i]? = some p → valV kvs p.1 = some p.2
  | [], p, i, _, h => by simp at h
  | q :: r, p, 0, nd, h => by
    cases h
    exact valV_pos rfl
  | q :: r, p, i + 1, nd, h => by
    have h : r[i]? = some p := by simpa using h
    rw [List.map_cons, List.nodup_cons] at nd
    rw [valV_neg fun z => nd.1 (by rw [z]; exact List.mem_map.mpr ⟨p, List.mem_of_getElem? h, rfl⟩)]
    exact valV_of nd.2 h
theorem key_at {κ : Type} {kvs : List (κ × V)} (nd : (kvs.map (·.1)).Nodup) {i j : Nat} {p q : κ × V} (hi : kvs[i]? = some p) (hj : kvs[j]? = some q) (e : p.1 = q.1) : i = j := by
  have hl : i < (kvs.map (·.1)).length := by
    rw [List.length_map]
    rcases Nat.lt_or_ge i kvs.length with h | h
    · exact h
    · rw [List.getElem?_eq_none h] at hi; cases hi
  exact (List.getElem?_inj hl nd).mp (by rw [List.getElem?_map, List.getElem?_map, hi, hj]; exact congrArg some e)
def Copy (H1 H' : Hp) (kvs kvs2 : List (List Key × V)) (n : Nat) : Prop := kvs2.length = n ∧ ∀ (i : Nat) p, i < n → kvs[i]? = some p → ∃ l q zs, p.2 = V.ref l ∧ H1 l = some (.lst zs) ∧ kvs2[i]? = some (p.1, .ref q) ∧ H' q = some (.lst zs)
theorem rv_ixTF {p b : Addr} {kvs : List (List Key × V)} {k : List Key} {v : V} {H : Hp} {od : Obj} (h : H p = some (.frz od (.dT kvs))) (hb : H b = some (.tup (k.map kV))) (hv : valV kvs k = some v) : RV (rIxA K) (.ref p) (.ref b) H v := fun H1 e _ q => .inr ⟨p, v, rfl, .inr ⟨kvs, k, b, .inr ⟨od, e _ _ h⟩, rfl, e _ _ hb, hv.symm⟩, q H1 (Ex.refl H1)⟩
theorem s_setTL {σ : L2.St} {H : Hp} {te ta tb : TE} {D : Ends} {p b : Addr} {kvs : List (List Key × V)} {k : List Key} {ys : List V} (h : H p = some (.dT kvs)) (hv : EvL te σ H ys) (ho : Ev ta σ H (.ref p)) (hk : Ev tb σ H (.ref b)) (hb : H b = some (.tup (k.map kV))) (hl : kvs.length < 100000) (kk : ∀ q H1, H q = none → Ex H H1 → H1 q = some (.lst ys) → D.nx σ (upd H1 p (.dT (putK kvs k (.ref q))))) : tAsg te (gSub ta tb rSetA) D σ H :=
  hv H (Ex.refl H) _ fun q H1 hq e1 h1 => ho H1 e1 _ fun H2 e2 => hk H2 (e1.trans e2) _ fun H3 e3 => .inr ⟨p, _, rfl, DPut.t (((e1.trans e2).trans e3) _ _ h) (((e1.trans e2).trans e3) _ _ hb) (sz_lt hl), kk q H3 hq ((e1.trans e2).trans e3) ((e2.trans e3) _ _ h1)⟩
theorem x_add1 {σ : L2.St} {H : Hp} {ta tt : TE} {q : Addr} {xs ys : List V} {Q : VK} (h1 : Ev ta σ H (.ref q)) (hq : H q = some (.lst xs)) (hT : EvU tt σ H ys) (hl : xs.length ≤ 1000) (k : ∀ u pt H1, Ex H H1 → H u = none → H1 pt = some (.tup ys) → H1 u = some (.lst (xs ++ [.ref pt])) → Q (.ref u) H1) : tOp (rAddA K) ta (tLst (tCons tt tNil)) σ H Q :=
  h1 H (Ex.refl H) _ fun H1 e1 => hT H1 e1 _ fun pt H2 _ e2 h2 => ⟨sz_of (show 1 ≤ 100000 by decide), fun p2 hp2 => by
    have n1 : Ex H2 (upd H2 p2 (.lst [.ref pt])) := Ex.new hp2
    refine .inr (.inr (.inl ⟨q, p2, xs, [.ref pt], rfl, rfl, n1 _ _ ((e1.trans e2) _ _ hq), upd_same, sz_of (by simp only [List.length_singleton]; omega), fun u hu => ?_⟩))
    exact k u pt _ (((e1.trans e2).trans n1).trans (Ex.new hu)) (fresh_back ((e1.trans e2).trans n1) hu) ((Ex.new hu) _ _ (n1 _ _ h2)) upd_same⟩
theorem Copy.lat {H1 H' : Hp} {kvs kvs2 : List (List Key × V)} {L : Pt → List Pt} {hd : Addr} (c : Copy H1 H' kvs kvs2 kvs.length) (nd : (kvs.map (·.1)).Nodup) (h : ∀ x, (valV kvs (keyP x) = none ∧ L x = []) ∨ ∃ p xs, valV kvs (keyP x) = some (.ref p) ∧ H1 p = some (.lst xs) ∧ AtPs H1 xs (L x)) (hh : H' hd = some (.dT kvs2)) (t : Tup H1 H') : LAt H' hd L := by
  have keys : kvs2.map (·.1) = kvs.map (·.1) := by
    refine List.ext_getElem? fun i => ?_
    rw [List.getElem?_map, List.getElem?_map]
    rcases Nat.lt_or_ge i kvs.length with hi | hi
    · obtain ⟨l, q, zs, _, _, e, _⟩ := c.2 i _ hi (List.getElem?_eq_getElem hi)
      rw [e, List.getElem?_eq_getElem hi]; rfl
    · rw [List.getElem?_eq_none hi, List.getElem?_eq_none (by rw [c.1]; exact hi)]
  refine ⟨kvs2, hh, fun x => ?_⟩
  rcases h x with ⟨a, b⟩ | ⟨p, xs, a, b, d⟩
  · refine .inl ⟨?_, b⟩
    cases q : valV kvs2 (keyP x) with
    | none => rfl
    | some v =>
      obtain ⟨j, hj⟩ := valV_at q
      have jl : j < kvs.length := by
        rw [← c.1]
        rcases Nat.lt_or_ge j kvs2.length with h | h
        · exact h
        · rw [List.getElem?_eq_none h] at hj; cases hj
      obtain ⟨l, q2, zs, e1, _, e, _⟩ := c.2 j _ jl (List.getElem?_eq_getElem jl)
      rw [hj] at e
      have := valV_of nd (List.getElem?_eq_getElem jl)
      rw [← congrArg Prod.fst (Option.some.inj e), a] at this
      cases this
  · obtain ⟨j, hj⟩ := valV_at a
    have jl : j < kvs.length := by
      rcases Nat.lt_or_ge j kvs.length with h | h
      · exact h
      · rw [List.getElem?_eq_none h] at hj; cases hj
    obtain ⟨l, q2, zs, e1, e2, e3, e4⟩ := c.2 j _ jl hj
    cases e1
    rw [b] at e2
    cases e2
    exact .inr ⟨q2, xs, valV_of (by rw [keys]; exact nd) e3, e4, d.tup t⟩
theorem least_one {L : Pt → List Pt} {s : Pt} {n m : Nat} (h : Least L s n) (g : Least L s m) : n = m := by
  rcases Nat.lt_trichotomy n m with w | w | w
  · exact absurd h.2.1 (g.2.2 n h.1 w)
  · exact w
  · exact absurd g.2.1 (h.2.2 m g.1 w)
theorem ring_edges {L : Pt → List Pt} {s : Pt} {r : List Pt} (h : RingAt L s r) : ∀ (k : Nat) (a b : Pt), r[k]? = some a → r[(k + 1) % r.length]? = some b → b ∈ L a := fun k a b h1 h2 => by
  have hk := (List.getElem?_eq_some_iff.mp h1).1
  by_cases e : k + 1 < r.length
  · rw [Nat.mod_eq_of_lt e] at h2
    exact h.chain k a b h1 h2
  · have e2 : k + 1 = r.length := by omega
    rw [e2, Nat.mod_self, h.hd] at h2
    cases h2
    exact h.back a (by rw [show r.length - 1 = k by omega]; exact h1)
theorem ring_sub {L : Pt → List Pt} {s : Pt} {r N : List Pt} (h : RingAt L s r) (hs : s ∈ N) (hN : ∀ x ∈ N, ∀ y ∈ L x, y ∈ N) : ∀ x ∈ r, x ∈ N := by
  have : ∀ (k : Nat) (a : Pt), r[k]? = some a → a ∈ N := by
    intro k
    induction k with
    | zero => intro a ha; rw [h.hd] at ha; cases ha; exact hs
    | succ k ih =>
      intro a ha
      have hk := (List.getElem?_eq_some_iff.mp ha).1
      obtain ⟨b, hb⟩ : ∃ b, r[k]? = some b := ⟨_, List.getElem?_eq_getElem (by omega)⟩
      exact hN b (ih b hb) a (h.chain k b a hb ha)
  intro x hx
  obtain ⟨k, hk⟩ := List.mem_iff_getElem?.mp hx
  exact this k x hk
theorem len_law (vs : List V) (H : Hp) (Q : VK) (E : XK) (h : spLaw K vs H Q E) : vs.length = 1 := by obtain ⟨_, _, rfl, _⟩ := h; rfl
def Same (H : Hp) (hd ld : Addr) (N : List Pt) : Prop := ∃ ks ls : List (List Key × V), H hd = some (.dT ks) ∧ H ld = some (.dT ls) ∧ ks.length = ls.length ∧ ∀ p ∈ ks, ∃ (a b : Addr) (xs : List V) (ps : List Pt), valV ls p.1 = some (.ref b) ∧ p.2 = .ref a ∧ H a = some (.lst xs) ∧ H b = some (.lst xs) ∧ AtPs H xs ps ∧ ∀ y ∈ ps, y ∈ N
theorem Same.ex {H H' : Hp} {hd ld : Addr} {N : List Pt} (e : Ex H H') (h : Same H hd ld N) : Same H' hd ld N := by
  obtain ⟨ks, ls, a, b, c, d⟩ := h
  exact ⟨ks, ls, e _ _ a, e _ _ b, c, fun p hp => let ⟨a, b, xs, ps, f1, f2, f3, f4, f5, f6⟩ := d p hp; ⟨a, b, xs, ps, f1, f2, e _ _ f3, e _ _ f4, f5.tup (.of_ex e), f6⟩⟩
theorem rv_same {H : Hp} {hd ld : Addr} {N : List Pt} (h : Same H hd ld N) (ok : ∀ x ∈ N, okP x) : RV (rNeT K) (.ref hd) (.ref ld) H (.bl false) := fun H1 e Q q => by
  obtain ⟨ks, ls, a, b, c, d⟩ := h.ex e
  refine ⟨hd, ld, ks, ls, rfl, rfl, a, b, c, fun p hp => ?_, q H1 (Ex.refl H1)⟩
  obtain ⟨a, b, xs, ps, f1, f2, f3, f4, f5, f6⟩ := d p hp
  have o := okD_dPs fun y hy => ok y (f6 y hy)
  rw [f2]
  exact ⟨_, .list (ps.map dP), .list (ps.map dP), f1, (Dt.lst f3 f5.dt).dp o.nd, (Dt.lst f4 f5.dt).dp o.nd, o.shaped, o.shaped, eqv_self o⟩
/-- what ring_from told -/
def FoundAt (H : Hp) (v : V) (L : Pt → List Pt) (s : Pt) : Prop := (v = .non ∧ NoRing L s) ∨ ∃ q xs r, v = .ref q ∧ RingAt L s r ∧ H q = some (.lst xs) ∧ AtPs H xs r
theorem q_ringL {σ : L2.St} {H : Hp} {ta tb : TE} {D : Ends} {tz : TS} {E : L2.St → XK} {i : Nat} {ld b : Addr} {L : Pt → List Pt} {N : List Pt} {s : Pt} (hL : LAt H ld L) (few : ∀ x, (L x).length ≤ 6) (hN : N.length ≤ 8) (okN : ∀ x ∈ N, okP x ∧ ∀ y ∈ L x, y ∈ N) (hs : s ∈ N) (h1 : Ev ta σ H (.ref ld)) (h2 : Ev tb σ H (.ref b)) (ap : AtP H (.ref b) s)
    (k0 : NoRing L s → ∀ H1, Ex H H1 → tz D (σ.set i (some .non)) H1) (k : ∀ r q xs H1, RingAt L s r → Ex H H1 → H q = none → H1 q = some (.lst xs) → AtPs H1 xs r → tz D (σ.set i (some (.ref q))) H1) :
    tSeq (tAsg (tCallS (sp_ring_from K) E (tCons ta (tCons tb tNil))) (gName i)) tz D σ H :=
  h1 H (Ex.refl H) _ fun H1 e1 => h2 H1 e1 _ fun H2 e2 => ⟨ld, b, L, s, N, rfl, hL.ex (e1.trans e2), ap.tup (.of_ex (e1.trans e2)), okN, hs, (by omega), (fun x => Nat.le_trans (few x) (by decide)), (fun no H' e => k0 no H' ((e1.trans e2).trans e)), fun r q xs H' hr e hq gq aq => k r q xs H' hr ((e1.trans e2).trans e) (fresh_back (e1.trans e2) hq) gq aq⟩
theorem ev_lenRing {σ : L2.St} {H : Hp} {ta tb : TE} {E : L2.St → XK} {ld b : Addr} {L : Pt → List Pt} {N : List Pt} {s : Pt} {n : Nat} (hL : LAt H ld L) (few : ∀ x, (L x).length ≤ 6) (hN : N.length ≤ 8) (okN : ∀ x ∈ N, okP x ∧ ∀ y ∈ L x, y ∈ N) (hs : s ∈ N) (h1 : Ev ta σ H (.ref ld)) (h2 : Ev tb σ H (.ref b)) (ap : AtP H (.ref b) s) (ln : Least L s n) :
    Ev (tCB (rLenA K) (tCons (tCallS (sp_ring_from K) E (tCons ta (tCons tb tNil))) tNil)) σ H (.int n) := fun H0 e0 Q q =>
  h1 H0 e0 _ fun H1 e1 => h2 H1 (e0.trans e1) _ fun H2 e2 => by
    have E2 := (e0.trans e1).trans e2
    refine ⟨ld, b, L, s, N, rfl, hL.ex E2, ap.tup (.of_ex E2), okN, hs, (by omega), (fun x => Nat.le_trans (few x) (by decide)), (fun no H' e => absurd ln.2.1 (no _ ln.1)), fun r q2 xs H' hr e hq gq aq => ?_⟩
    have lr : xs.length = n := by rw [aq.1]; exact least_one hr.least ln
    refine ev_lenV (K := K) (σ := σ) (ta := tC (.ref q2)) ev_c (rc_lenL (SqL.of gq)) H' (Ex.refl H') Q fun H'' e'' => ?_
    rw [lr]
    exact q H'' ((e1.trans e2).trans (e.trans e''))
theorem ev_backs {σ : L2.St} {H : Hp} {ta tb : TE} {E : L2.St → XK} {ld b : Addr} {L : Pt → List Pt} {N : List Pt} {s : Pt} {bb : Bool} (hL : LAt H ld L) (few : ∀ x, (L x).length ≤ 6) (hN : N.length ≤ 8) (okN : ∀ x ∈ N, okP x ∧ ∀ y ∈ L x, y ∈ N) (hs : s ∈ N) (h1 : Ev ta σ H (.ref ld)) (h2 : Ev tb σ H (.ref b)) (ap : AtP H (.ref b) s)
    (hb : ∀ b, (b = true → ∃ m, 1 ≤ m ∧ Rch L s m s) → (∀ m, 1 ≤ m → m ≤ 7 → Rch L s m s → b = true) → b = bb) : Ev (tCallS (sp_law_comes_back K) E (tCons ta (tCons tb tNil))) σ H (.bl bb) := fun H0 e0 Q q =>
  h1 H0 e0 _ fun H1 e1 => h2 H1 (e0.trans e1) _ fun H2 e2 => by
    have E2 := (e0.trans e1).trans e2
    exact ⟨ld, b, L, s, N, rfl, hL.ex E2, ap.tup (.of_ex E2), okN, hs, hN, few, fun b H' p1 p2 e => by rw [hb b p1 p2]; exact q H' ((e1.trans e2).trans e)⟩
theorem q_copies {l sl ld : Addr} {σ3 x4 x5 x6 x7 : Option V} {H : Hp} {D : Ends} {tz : TS} {L : Pt → List Pt} {N : List Pt} {kvs : List (List Key × V)} (hd0 : H ld = some (.dT kvs)) (h0 : ∀ x, (valV kvs (keyP x) = none ∧ L x = []) ∨ ∃ p xs, valV kvs (keyP x) = some (.ref p) ∧ H p = some (.lst xs) ∧ AtPs H xs (L x)) (nd : (kvs.map (·.1)).Nodup) (hk : ∀ p ∈ kvs, ∃ x ∈ N, p.1 = keyP x) (hl : kvs.length ≤ 5) (sub : ∀ x, ∀ y ∈ L x, y ∈ N)
    (k : ∀ x5' hd H', Ex H H' → H hd = none → LAt H' hd L → Same H' hd ld N → tz D [some (.ref l), some (.ref sl), some (.ref ld), σ3, some (.ref hd), x5', x6, x7] H') :
    tSeq (tAsg tDNewT (gName 4)) (tSeq (tLock (tFor (iKeys (tVar 2)) (gName 5) (tAsg (tCB (rListA K) (tCons (tOp (rIxA K) (tVar 2) (tVar 5)) tNil)) (gSub (tVar 4) (tVar 5) rSetA)))) tz) D [some (.ref l), some (.ref sl), some (.ref ld), σ3, x4, x5, x6, x7] H := by
  refine q_asgDT fun hd H1 hhd e1 h1 => ?_
  have ne : hd ≠ ld := fun z => by rw [z, hd0] at hhd; cases hhd
  refine q_forKT (d := ld) (kvs := kvs) (e1 _ _ hd0) (fun od => ev_var rfl) (fun od i σ' H' => ∃ x5', σ' = [some (.ref l), some (.ref sl), some (.ref ld), σ3, some (.ref hd), x5', x6, x7] ∧ H' ld = some (.frz od (.dT kvs)) ∧ (∀ a o, a ≠ ld → H a = some o → H' a = some o) ∧ ∃ kvs2, H' hd = some (.dT kvs2) ∧ i ≤ kvs.length ∧ Copy H H' kvs kvs2 i)
    (fun od H2 e2 => ⟨_, rfl, e2 _ _ upd_same, fun a o na h => e2 _ _ ((upd_ne na).trans (e1 _ _ h)), [], e2 _ _ ((upd_ne ne).trans h1), Nat.zero_le _, rfl, fun i p hi => absurd hi (Nat.not_lt_zero i)⟩) (fun od i σ' H' ⟨_, _, h, _⟩ => h) (fun od i kk v q σ' H' hi hq ⟨x5', hσ, g1, g2, kvs2, g3, g4, g5⟩ => ?_) fun od σ' H' ⟨x5', hσ, g1, g2, kvs2, g3, g4, g5⟩ => ?_
  · subst hσ
    have il : i < kvs.length := (List.getElem?_eq_some_iff.mp hi).1
    obtain ⟨x, hx, ek⟩ := hk _ (List.mem_of_getElem? hi)
    have ek : kk = keyP x := ek
    have hv : valV kvs kk = some v := valV_of nd hi
    rcases h0 x with ⟨a, _⟩ | ⟨p, zs, a, b, d⟩
    · rw [← ek, hv] at a; cases a
    · rw [← ek, hv] at a
      cases a
      have pl : p ≠ ld := fun z => by rw [z, hd0] at b; cases b
      have b' := g2 _ _ pl b
      refine s_setTL (k := kk) g3 (el_listA (ev_op (ev_var rfl) (ev_var rfl) (rv_ixTF g1 hq hv)) (SqL.of b')) (ev_var rfl) (ev_var rfl) hq (by rw [g5.1]; omega) fun q2 H2 hq2 e2 h2 => ?_
      have nk : ¬ (kvs2.any fun kv => decide (kv.1 = kk)) = true := fun z => by
        obtain ⟨r, hr, e⟩ := List.any_eq_true.mp z
        obtain ⟨j, hj⟩ := List.mem_iff_getElem?.mp hr
        have jl : j < i := by rw [← g5.1]; exact (List.getElem?_eq_some_iff.mp hj).1
        obtain ⟨l', q', zs', c1, c2, c3, c4⟩ := g5.2 j _ jl (List.getElem?_eq_getElem (by omega))
        rw [hj] at c3
        have f := congrArg Prod.fst (Option.some.inj c3)
        have := key_at nd (List.getElem?_eq_getElem (by omega)) hi (f.symm.trans (of_decide_eq_true e))
        omega
      have pk : putK kvs2 kk (.ref q2) = kvs2 ++ [(kk, .ref q2)] := by unfold putK; rw [if_neg nk]
      refine ⟨_, rfl, (upd_ne ne.symm).trans (e2 _ _ g1), fun a o na h => (upd_ne fun z => by rw [z, hhd] at h; cases h).trans (e2 _ _ (g2 _ _ na h)), _, upd_same, il, ?_⟩
      rw [pk]
      refine ⟨by rw [List.length_append, g5.1]; rfl, fun j r hj hr => ?_⟩
      by_cases z : j = i
      · subst z
        rw [hi] at hr
        cases hr
        refine ⟨p, q2, zs, rfl, b, ?_, (upd_ne fun z => by rw [z, g3] at hq2; cases hq2).trans h2⟩
        rw [List.getElem?_append_right (by rw [g5.1]; exact Nat.le_refl _), g5.1, Nat.sub_self]
        rfl
      · obtain ⟨l', q', zs', c1, c2, c3, c4⟩ := g5.2 j _ (by omega) hr
        refine ⟨l', q', zs', c1, c2, ?_, (upd_ne fun z => by rw [z, g3] at c4; cases c4).trans (e2 _ _ c4)⟩
        rw [List.getElem?_append_left (by rw [g5.1]; omega)]
        exact c3
  · subst hσ
    have E : Ex H (upd H' ld (.dT kvs)) := fun a o h => by
      by_cases z : a = ld
      · subst z
        rw [hd0] at h
        cases h
        exact upd_same
      · exact (upd_ne z).trans (g2 _ _ z h)
    have C : Copy H (upd H' ld (.dT kvs)) kvs kvs2 kvs.length := ⟨g5.1, fun i p hi hp => by
      obtain ⟨l', q', zs', c1, c2, c3, c4⟩ := g5.2 i p hi hp
      exact ⟨l', q', zs', c1, c2, c3, (upd_ne fun z => by rw [z, g1] at c4; cases c4).trans c4⟩⟩
    have g3' : upd H' ld (.dT kvs) hd = some (.dT kvs2) := (upd_ne ne).trans g3
    refine k _ hd _ E hhd (C.lat nd h0 g3' (.of_ex E)) ⟨kvs2, kvs, g3', upd_same, C.1, fun p hp => ?_⟩
    obtain ⟨j, hj⟩ := List.mem_iff_getElem?.mp hp
    have jl : j < kvs.length := by rw [← C.1]; exact (List.getElem?_eq_some_iff.mp hj).1
    obtain ⟨l', q', zs', c1, c2, c3, c4⟩ := C.2 j _ jl (List.getElem?_eq_getElem jl)
    rw [hj] at c3
    cases Option.some.inj c3
    have hv := valV_of nd (List.getElem?_eq_getElem jl)
    obtain ⟨x, hx, ek⟩ := hk _ (List.getElem_mem jl)
    rcases h0 x with ⟨a, _⟩ | ⟨b, zs, a, b', d⟩
    · rw [← ek, hv] at a; cases a
    · rw [← ek, hv] at a
      rw [c1] at a
      cases a
      rw [c2] at b'
      cases b'
      exact ⟨q', l', zs', L x, by rw [hv, c1], rfl, c4, E _ _ c2, d.tup (.of_ex E), sub x⟩
theorem q_app1 {σ : L2.St} {H : Hp} {ta te : TE} {D : Ends} {tz : TS} {l : Addr} {xs : List V} {v : V} (hl : H l = some (.lst xs)) (ha : Ev ta σ H (.ref l)) (h : Ev te σ H v) (hz : xs.length < 100000) (k : ∀ H1, Ex H H1 → tz D σ (upd H1 l (.lst (xs ++ [v])))) : tSeq (tDrop (tBM K "list" rAppend ta (tCons te tNil))) tz D σ H := s_app (D := { D with nx := tz D }) hl ha h hz k
theorem ev_isr {σ : L2.St} {H : Hp} {ta tb tc : TE} {E : L2.St → XK} {ld b fp : Addr} {L : Pt → List Pt} {N : List Pt} {s : Pt} {xs : List V} {r : List Pt} (hL : LAt H ld L) (okN : ∀ x ∈ N, okP x ∧ ∀ y ∈ L x, y ∈ N) (hl : r.length ≤ 1000) (h1 : Ev ta σ H (.ref ld)) (h2 : Ev tb σ H (.ref b)) (ap : AtP H (.ref b) s) (h3 : Ev tc σ H (.ref fp)) (hf : H fp = some (.lst xs)) (a : AtPs H xs r) (R : RingAt L s r) (rN : ∀ x ∈ r, x ∈ N) : Ev (tCallS (sp_law_is_ring K) E (tCons ta (tCons tb (tCons tc tNil)))) σ H (.bl true) :=
  fun H0 e0 Q q => h1 H0 e0 _ fun H1 e1 => h2 H1 (e0.trans e1) _ fun H2 e2 => h3 H2 ((e0.trans e1).trans e2) _ fun H3 e3 => by
    have E := ((e0.trans e1).trans e2).trans e3
    exact ⟨ld, b, fp, L, s, xs, r, rfl, hL.ex E, ap.tup (.of_ex E), E _ _ hf, a.tup (.of_ex E), R.hd, R.nd, hl, (fun x hx => ⟨(okN x (rN x hx)).1, fun y hy => (okN y ((okN x (rN x hx)).2 y hy)).1⟩), ring_edges R, fun H' e => q H' (((e1.trans e2).trans e3).trans e)⟩
theorem r_law (vs : List V) (H : Hp) (Q : VK) (E : XK) (h : spLaw K vs H Q E) : t_law K E { nx := fun _ H' => Q .non H', rt := Q } (L2.start ["script", "spots", "leanings", "spot", "handed", "one", "found", "many"] vs) H := by
  obtain ⟨l, ns, rfl, hl, _, k⟩ := h
  unfold t_law
  refine q_call1 (vs := [.ref l]) (ea_cons (ev_var rfl) ea_nil) fun H2 e2 => ⟨l, ns, rfl, ex_l e2 hl, fun ss sl xs H3 l5 nd ok e3 hsl h3 a3 => ?_⟩
  have E3 := e2.trans e3
  refine q_call1 (vs := [.ref l, .ref sl]) (ea_cons (ev_var rfl) (ea_cons (ev_var rfl) ea_nil)) fun H4 e4 => ⟨l, sl, ns, xs, ss, rfl, ex_l (E3.trans e4) hl, e4 _ _ h3, a3.tup (.of_ex e4), l5, ok, fun ld L H5 e5 hld dL kN => ?_⟩
  have E5 := e4.trans e5
  have few := dL.few
  have okN : ∀ x ∈ ss ++ [nw], okP x ∧ ∀ y ∈ L x, y ∈ ss ++ [nw] := fun x hx => ⟨by
    rcases List.mem_append.mp hx with z | z
    · exact ok x z
    · rw [List.mem_singleton.mp z]
      exact ⟨name_ok (by decide +kernel), name_ok (by decide +kernel)⟩, fun y hy => List.mem_append_left _ (dL.sub x y hy)⟩
  have lN : (ss ++ [nw]).length ≤ 8 := by rw [List.length_append, l5]; decide
  have lx : xs.length = 5 := by rw [a3.1]; exact l5
  obtain ⟨kvs, g1, g2, g3⟩ := dL.at_
  have kn : (kvs.map (·.1)).Nodup ∧ ∀ p ∈ kvs, ∃ x ∈ ss, p.1 = keyP x := by
    obtain ⟨kvs', a, b⟩ := kN
    rw [g1] at a
    cases a
    exact b
  refine x_add1 (ev_var rfl) (E5 _ _ h3) (eu_tup (ea_cons (ev_c (v := .str "nowhere")) (ea_cons (ev_c (v := .str "x")) ea_nil)) (show 2 ≤ 100000 by decide)) (by omega) fun u pt H6 e6 hu hpt h6 => ?_
  have a6 : AtPs H6 (xs ++ [.ref pt]) (ss ++ [nw]) := atPs_app ((a3.tup (.of_ex E5)).tup (.of_ex e6)) (atPs1 ⟨pt, rfl, hpt⟩)
  refine ⟨u, rfl, ⟨_, SqL.of h6⟩, for_list (fun i σ' H' => ∃ x3 x4 x5 x6 x7 : Option V, σ' = [some (.ref l), some (.ref sl), some (.ref ld), x3, x4, x5, x6, x7] ∧ Ex H6 H') ⟨_, _, _, _, _, rfl, Ex.refl H6⟩ (fun i σ' H' _ ⟨_, _, _, _, _, _, e⟩ => SqL.of (e _ _ h6)) (fun i x σ' H7 hi ⟨x3, x4, x5, x6, x7, hσ, e7⟩ => ?_) fun σ' H7 ⟨x3, x4, x5, x6, x7, hσ, e7⟩ => ?_⟩
  · subst hσ
    obtain ⟨s, qs, ax⟩ := (a6.tup (.of_ex e7)).at hi
    have sN := List.mem_of_getElem? qs
    obtain ⟨b, rfl, gb⟩ := ax
    have E7 := e6.trans e7
    refine q_copies (L := L) (N := ss) (kvs := kvs) (E7 _ _ g1) (fun x => ?_) kn.1 kn.2 g2 dL.sub fun x5' hd H8 e8 hhd Lh sm => ?_
    · rcases g3 x with h | ⟨p, zs, a, b, c⟩
      · exact .inl h
      · exact .inr ⟨p, zs, a, E7 _ _ b, c.tup (.of_ex E7)⟩
    have LL : ∀ {H'}, Ex H8 H' → LAt H' ld L := fun e => LAt.ex ((E7.trans e8).trans e) dL.lat
    have aB : ∀ {H'}, Ex H8 H' → AtP H' (.ref b) s := fun e => ⟨b, rfl, (e8.trans e) _ _ gb⟩
    refine q_ringL (L := L) (N := ss ++ [nw]) (s := s) Lh few lN okN sN (ev_var rfl) (ev_var rfl) (aB (Ex.refl _)) (fun no H9 e9 => ?_) fun r q zs H9 R e9 hq hz az => ?_
    · refine q_when (b := false) (et_is (et_or (et_test (ev_op (ev_var rfl) (ev_var rfl) (rv_same (sm.ex e9) ok))) fun _ => et_test (ev_op (ev_op (ev_var rfl) ev_c rv_isN) (ev_backs (L := L) (N := ss ++ [nw]) (s := s) (bb := false) (LL e9) few lN okN sN (ev_var rfl) (ev_var rfl) (aB e9) fun b p1 _ => by
        cases b with
        | false => rfl
        | true => obtain ⟨m, m1, m2⟩ := p1 rfl; exact absurd m2 (no m m1)) (rv_eqS rfl))) rfl) (fun hb => nomatch hb) fun _ H10 e10 => ?_
      exact s_when (b := false) (et_is (et_test (ev_op (ev_var rfl) ev_c rv_isnN)) rfl) (fun hb => nomatch hb) fun _ H11 e11 => ⟨_, _, _, _, _, rfl, (e7.trans e8).trans ((e9.trans e10).trans e11)⟩
    · have rN := ring_sub R sN fun x hx => (okN x hx).2
      have l6 : r.length ≤ 6 := by have := nodup_le R.nd rN; rw [List.length_append, l5] at this; exact this
      have lz : zs.length = r.length := az.1
      refine q_when (b := false) (et_is (et_or (et_test (ev_op (ev_var rfl) (ev_var rfl) (rv_same (sm.ex e9) ok))) fun _ => et_test (ev_op (ev_op (ev_var rfl) ev_c rv_isN) (ev_backs (L := L) (N := ss ++ [nw]) (s := s) (bb := true) (LL e9) few lN okN sN (ev_var rfl) (ev_var rfl) (aB e9) fun b _ p2 => p2 _ R.least.1 (by omega) R.least.2.1) (rv_eqS rfl))) rfl) (fun hb => nomatch hb) fun _ H10 e10 => ?_
      refine s_when (b := true) (et_is (et_test (ev_op (ev_var rfl) ev_c rv_isnN)) rfl) (fun _ H11 e11 => ?_) (fun hb => nomatch hb)
      have e9' := e9.trans (e10.trans e11)
      have hz' := (e10.trans e11) _ _ hz
      refine q_asg (ev_lenV (ev_var rfl) (rc_lenL (SqL.of hz'))) fun H12 e12 => ?_
      have E12 := e9'.trans e12
      have isr : Ev (tCallS (sp_law_is_ring K) (WE (fun cls d _ H => E cls d H)) (tCons (tVar 2) (tCons (tVar 3) (tCons (tVar 6) tNil)))) [some (.ref l), some (.ref sl), some (.ref ld), some (.ref b), some (.ref hd), x5', some (.ref q), some (.int (zs.length : Int))] H12 (.bl true) := ev_isr (N := ss ++ [nw]) (LL E12) okN (by omega) (ev_var rfl) (ev_var rfl) (aB E12) (ev_var rfl) (e12 _ _ hz') (az.tup (.of_ex ((e10.trans e11).trans e12))) R rN
      refine q_when (b := false) (et_is (et_not (et_B isr)) rfl) (fun hb => nomatch hb) fun _ H13 e13 => ?_
      · have E13 := E12.trans e13
        refine q_app1 ((e12.trans e13) _ _ hz') (ev_var rfl) (ev_var rfl) (by omega) fun H14 e14 => ?_
        have E14 := Ex.mut (o := .lst (zs ++ [.ref b])) (E13.trans e14) hq
        refine s_when (b := false) (et_is (et_test (ev_op (ev_lenRing (L := L) (N := ss ++ [nw]) (s := s) (n := r.length) (Lh.ex E14) few lN okN sN (ev_var rfl) (ev_var rfl) (aB E14) R.least) (ev_var rfl) (rv_neS rfl))) (by rw [lz]; simp)) (fun hb => nomatch hb) fun _ H15 e15 => ⟨_, _, _, _, _, rfl, (e7.trans e8).trans (E14.trans e15)⟩
  · subst hσ
    exact s_ret (D := { nx := fun _ H' => Q .non H', rt := Q }) (σ := [some (.ref l), some (.ref sl), some (.ref ld), x3, x4, x5, x6, x7]) (v := .bl true) ev_c fun H13 _ => k H13
end
end Z


set_option Elab.async false
set_option linter.all false
set_option autoImplicit false
set_option maxRecDepth 100000
set_option maxHeartbeats 4000000
namespace Z
open PySem PySem.Spec PyProof.Rows L2 Evl
def top (i : Nat) : Stmt := PySem.Challenge.pw_lazycols_k20_rings_told.main.body.getD i (.Pass ⟨0, 0, 0, 0⟩)
abbrev s_way_to : Stmt := top 2
abbrev N_way_to : List Str := ["ahead", "spot", "found"]
theorem sc_way_to : FnScope N_way_to ["ahead", "spot"] (defScope s_way_to) := ⟨rfl, rfl, rfl, by decide +kernel, rfl, by decide +kernel, by decide +kernel⟩
abbrev s_ring_from : Stmt := top 1
abbrev N_ring_from : List Str := ["leanings", "spot", "ahead", "waiting", "at", "other"]
theorem sc_ring_from : FnScope N_ring_from ["leanings", "spot"] (defScope s_ring_from) := ⟨rfl, rfl, rfl, by decide +kernel, rfl, by decide +kernel, by decide +kernel⟩
abbrev s_law_drawn : Stmt := top 4
abbrev N_law_drawn : List Str := ["script", "k", "size", "number"]
theorem sc_law_drawn : FnScope N_law_drawn ["script", "k", "size"] (defScope s_law_drawn) := ⟨rfl, rfl, rfl, by decide +kernel, rfl, by decide +kernel, by decide +kernel⟩
abbrev s_law_names : Stmt := top 5
abbrev N_law_names : List Str := ["script", "many", "letters", "word", "k", "at", "names", "sign"]
theorem sc_law_names : FnScope N_law_names ["script", "many"] (defScope s_law_names) := ⟨rfl, rfl, rfl, by decide +kernel, rfl, by decide +kernel, by decide +kernel⟩
abbrev s_law_spots : Stmt := top 6
abbrev N_law_spots : List Str := ["script", "names", "k"]
theorem sc_law_spots : FnScope N_law_spots ["script"] (defScope s_law_spots) := ⟨rfl, rfl, rfl, by decide +kernel, rfl, by decide +kernel, by decide +kernel⟩
abbrev s_law_leanings : Stmt := top 7
abbrev N_law_leanings : List Str := ["script", "spots", "leanings", "share", "k", "found", "j"]
theorem sc_law_leanings : FnScope N_law_leanings ["script", "spots"] (defScope s_law_leanings) := ⟨rfl, rfl, rfl, by decide +kernel, rfl, by decide +kernel, by decide +kernel⟩
abbrev s_law_is_ring : Stmt := top 8
abbrev N_law_is_ring : List Str := ["leanings", "spot", "found", "k"]
theorem sc_law_is_ring : FnScope N_law_is_ring ["leanings", "spot", "found"] (defScope s_law_is_ring) := ⟨rfl, rfl, rfl, by decide +kernel, rfl, by decide +kernel, by decide +kernel⟩
abbrev s_law_comes_back : Stmt := top 9
abbrev N_law_comes_back : List Str := ["leanings", "spot", "come", "turn", "one", "other"]
theorem sc_law_comes_back : FnScope N_law_comes_back ["leanings", "spot"] (defScope s_law_comes_back) := ⟨rfl, rfl, rfl, by decide +kernel, rfl, by decide +kernel, by decide +kernel⟩
abbrev s_law : Stmt := top 10
abbrev N_law : List Str := ["script", "spots", "leanings", "spot", "handed", "one", "found", "many"]
theorem sc_law : FnScope N_law ["script"] (defScope s_law) := ⟨rfl, rfl, rfl, by decide +kernel, rfl, by decide +kernel, by decide +kernel⟩
structure Txt (K : PySem.W.Frag) (mg : Str → Option Value) (A : Cn → Addr) : Prop where
  n_isinstance : mg "isinstance" = none
  n_len : mg "len" = none
  n_list : mg "list" = none
  n_range : mg "range" = none
  n_tuple : mg "tuple" = none
section
variable {P : Program} {w : PySem.World} {K : PySem.W.Frag} {mg : Str → Option Value} {base : Heap} {A : Cn → Addr} {cdv : Value} {Ar : Around} {outer : List Env} {s : Shared} {H : Hp} {E : XK}
theorem d_way_to (T : Txt K mg A) {f : Addr}   (hr : Room 0 (Ar.deeper (envOfC "way_to" (defScope s_way_to) s.heap.objs.size f cdv))) :
    PSs (cxOf (L2.CX P w) P w K mg base N_way_to "way_to" (defScope s_way_to) f cdv Ar outer s H E) (defBody s_way_to) (t_way_to K E) := by
  have hu := hu65 hr
  exact pss_cons (ps_set (i := 2) sc_way_to.nd rfl (Or.inl rfl) (pe_lst pa_nil))
    (pss_cons (ps_while (passes_of rfl) (pt_cmpR op_isnA (pv 1) pe_non (nomark _)) (pss_cons (ps_expr (pe_bm PySem.F.plainAttrs_list PySem.F.slot_list_insert PySem.F.type_list_insert mt_insert (pv 2) (pa_cons pe_int (pa_cons (pv 1) pa_nil))))
    (pss_one (ps_set (i := 1) sc_way_to.nd rfl (Or.inl rfl) (pe_ix (ix_A hu) (pv 0) (pv 1) (fun _ _ => rfl))))))
    (pss_one (ps_ret (pv 2))))
theorem cal_way_to (T : Txt K mg A) {f : Addr} {fd : FuncData}  (F : Fun K "way_to" "way_to" s_way_to f fd) (hm : mg "way_to" = some (.ref f)) (hb : Binds K fd ["ahead", "spot"] []) :
    Cal P w K mg base 1 "way_to" f ["ahead", "spot"] (sp_way_to K) := cal_of F sc_way_to hm hb len_way_to (t_way_to K) (fun cdv Ar outer s H E hr => d_way_to T  hr) (fun vs H Q E h => r_way_to vs H Q E h)
theorem d_ring_from (T : Txt K mg A) {f : Addr} {f_way_to : Addr} (G_way_to : Cal P w K mg base 1 "way_to" f_way_to ["ahead", "spot"] (sp_way_to K))  (hr : Room 1 (Ar.deeper (envOfC "ring_from" (defScope s_ring_from) s.heap.objs.size f cdv))) :
    PSs (cxOf (L2.CX P w) P w K mg base N_ring_from "ring_from" (defScope s_ring_from) f cdv Ar outer s H E) (defBody s_ring_from) (t_ring_from K E) := by
  have hu := hu65 hr
  have tk : Takes (cxOf (L2.CX P w) P w K mg base N_ring_from "ring_from" (defScope s_ring_from) f cdv Ar outer s H E) (fun cls d _ H => E cls d H) := takes_of rfl rfl rfl rfl
  exact pss_cons (ps_set (i := 2) sc_ring_from.nd rfl (Or.inl rfl) (pe_dispT (Nat.lt_of_le_of_lt (Nat.add_le_add_left (by decide) _) hu) (pps_cons (pv 1) pe_non pps_nil) (by rfl) (by rfl) (fun z => by cases z) (by decide)))
    (pss_cons (ps_set (i := 3) sc_ring_from.nd rfl (Or.inl rfl) (pe_lst (pa_cons (pv 1) pa_nil)))
    (pss_cons (ps_set (i := 4) sc_ring_from.nd rfl (Or.inl rfl) pe_int)
    (pss_cons (ps_while (passes_of rfl) (pt_cmpR op_lt (pv 4) (pe_callB call_lenA (by rfl) T.n_len (by decide +kernel) (pa_cons (pv 3) pa_nil)) (nomark _)) (pss_cons (ps_for (passes_of rfl) rfl (pi_list (pe_dget2 (Nat.lt_of_le_of_lt (Nat.add_le_add_left (by decide) _) hu) (pv 0) (pe_ix (ix_A hu) (pv 3) (pv 4) (fun _ _ => rfl)) (pe_lst pa_nil) ⟨rfl, rfl, rfl, rfl⟩)) (pg_name (i := 5) sc_ring_from.nd rfl (Or.inl rfl)) (pss_cons (ps_if (pt_cmpR (op_eqA hu) (pv 5) (pv 1) (nomark _)) (pss_one (ps_ret (pe_cal G_way_to (hr.mono (by decide)) tk (pa_cons (pv 2) (pa_cons (pe_ix (ix_A hu) (pv 3) (pv 4) (fun _ _ => rfl)) pa_nil))))) pss_nil)
    (pss_one (ps_if (pt_cmpR (op_ninA hu) (pv 5) (pv 2) (by rfl)) (pss_cons (ps_asg (pe_ix (ix_A hu) (pv 3) (pv 4) (fun _ _ => rfl)) (pg_sub (pv 2) (pv 5) (set_A hu)))
    (pss_one (ps_expr (pe_bm PySem.F.plainAttrs_list PySem.F.slot_list_append PySem.F.type_list_append mt_append (pv 3) (pa_cons (pv 5) pa_nil))))) pss_nil))))
    (pss_one (ps_set (i := 4) sc_ring_from.nd rfl (Or.inl rfl) (pe_op op_addA (pv 4) pe_int)))))
    (pss_one (ps_ret pe_non)))))
theorem cal_ring_from (T : Txt K mg A) {f : Addr} {fd : FuncData} {f_way_to : Addr} (G_way_to : Cal P w K mg base 1 "way_to" f_way_to ["ahead", "spot"] (sp_way_to K)) (F : Fun K "ring_from" "ring_from" s_ring_from f fd) (hm : mg "ring_from" = some (.ref f)) (hb : Binds K fd ["leanings", "spot"] []) :
    Cal P w K mg base 2 "ring_from" f ["leanings", "spot"] (sp_ring_from K) := cal_of F sc_ring_from hm hb len_ring_from (t_ring_from K) (fun cdv Ar outer s H E hr => d_ring_from T G_way_to hr) (fun vs H Q E h => r_ring_from vs H Q E h)
theorem d_law_drawn (T : Txt K mg A) {f : Addr}   (hr : Room 0 (Ar.deeper (envOfC "_law_drawn" (defScope s_law_drawn) s.heap.objs.size f cdv))) :
    PSs (cxOf (L2.CX P w) P w K mg base N_law_drawn "_law_drawn" (defScope s_law_drawn) f cdv Ar outer s H E) (defBody s_law_drawn) (t_law_drawn K E) := by
  have hu := hu65 hr
  exact pss_cons (ps_set (i := 3) sc_law_drawn.nd rfl (Or.inl rfl) (pe_op op_addA (pe_op op_mulA (pe_op op_mulA pe_int (pv 1)) (pv 1)) pe_int))
    (pss_cons (ps_if (pt_cmpR op_gt (pe_callB call_lenA (by rfl) T.n_len (by decide +kernel) (pa_cons (pv 0) pa_nil)) pe_int (nomark _)) (pss_one (ps_set (i := 3) sc_law_drawn.nd rfl (Or.inl rfl) (pe_op op_addA (pv 3) (pe_op op_mulA (pe_op op_modN (pe_ix (ix_A hu) (pv 0) (pe_op op_modN (pv 1) (pe_callB call_lenA (by rfl) T.n_len (by decide +kernel) (pa_cons (pv 0) pa_nil))) (fun _ _ => rfl)) (pe_op op_pow pe_int pe_int)) (pe_op op_addA (pe_op op_mulA pe_int (pv 1)) pe_int))))) pss_nil)
    (pss_one (ps_ret (pe_op op_modN (pe_op op_fdivA (pe_op op_modN (pv 3) pe_int) pe_int) (pv 2)))))
theorem cal_law_drawn (T : Txt K mg A) {f : Addr} {fd : FuncData}  (F : Fun K "_law_drawn" "_law_drawn" s_law_drawn f fd) (hm : mg "_law_drawn" = some (.ref f)) (hb : Binds K fd ["script", "k", "size"] []) :
    Cal P w K mg base 1 "_law_drawn" f ["script", "k", "size"] (sp_law_drawn K) := cal_of F sc_law_drawn hm hb len_law_drawn (t_law_drawn K) (fun cdv Ar outer s H E hr => d_law_drawn T  hr) (fun vs H Q E h => r_law_drawn vs H Q E h)
theorem d_law_names (T : Txt K mg A) {f : Addr} {f_law_drawn : Addr} (G_law_drawn : Cal P w K mg base 1 "_law_drawn" f_law_drawn ["script", "k", "size"] (sp_law_drawn K))  (hr : Room 1 (Ar.deeper (envOfC "_law_names" (defScope s_law_names) s.heap.objs.size f cdv))) :
    PSs (cxOf (L2.CX P w) P w K mg base N_law_names "_law_names" (defScope s_law_names) f cdv Ar outer s H E) (defBody s_law_names) (t_law_names K E) := by
  have hu := hu65 hr
  have tk : Takes (cxOf (L2.CX P w) P w K mg base N_law_names "_law_names" (defScope s_law_names) f cdv Ar outer s H E) (fun cls d _ H => E cls d H) := takes_of rfl rfl rfl rfl
  exact pss_cons (ps_set (i := 2) sc_law_names.nd rfl (Or.inl rfl) pe_str)
    (pss_cons (ps_set (i := 3) sc_law_names.nd rfl (Or.inl rfl) pe_str)
    (pss_cons (ps_for (passes_of rfl) rfl (pi_range1 (by rfl) T.n_range (pa_cons (pe_op op_addA pe_int (pe_cal G_law_drawn (hr.mono (by decide)) tk (pa_cons (pv 0) (pa_cons pe_int (pa_cons pe_int pa_nil))))) pa_nil)) (pg_name (i := 4) sc_law_names.nd rfl (Or.inl rfl)) (pss_one (ps_set (i := 3) sc_law_names.nd rfl (Or.inl rfl) (pe_op op_addA (pv 3) (pe_ix (ix_A hu) (pv 2) (pe_cal G_law_drawn (hr.mono (by decide)) tk (pa_cons (pv 0) (pa_cons (pe_op op_addA pe_int (pv 4)) (pa_cons pe_int pa_nil)))) (fun _ _ => rfl))))))
    (pss_cons (ps_set (i := 5) sc_law_names.nd rfl (Or.inl rfl) (pe_cal G_law_drawn (hr.mono (by decide)) tk (pa_cons (pv 0) (pa_cons pe_int (pa_cons (pe_callB call_lenA (by rfl) T.n_len (by decide +kernel) (pa_cons (pv 3) pa_nil)) pa_nil)))))
    (pss_cons (ps_set (i := 6) sc_law_names.nd rfl (Or.inl rfl) (pe_lst pa_nil))
    (pss_cons (ps_for (passes_of rfl) rfl (pi_range1 (by rfl) T.n_range (pa_cons (pv 1) pa_nil)) (pg_name (i := 4) sc_law_names.nd rfl (Or.inl rfl)) (pss_cons (ps_set (i := 7) sc_law_names.nd rfl (Or.inl rfl) (pe_ix (ix_A hu) (pv 2) (pe_op op_modN (pe_op op_addA (pe_m1 PySem.F.slot_str_index PySem.F.type_str_index mt_sindex (pv 2) (pe_ix (ix_A hu) (pv 3) (pv 5) (fun _ _ => rfl))) (pv 4)) pe_int) (fun _ _ => rfl)))
    (pss_one (ps_expr (pe_bm PySem.F.plainAttrs_list PySem.F.slot_list_append PySem.F.type_list_append mt_append (pv 6) (pa_cons (pe_op op_addA (pe_op op_addA (pe_slice sl_A (pv 3) po_none (po_some (pv 5))) (pv 7)) (pe_slice sl_A (pv 3) (po_some (pe_op op_addA (pv 5) pe_int)) po_none)) pa_nil))))))
    (pss_one (ps_ret (pv 6))))))))
theorem cal_law_names (T : Txt K mg A) {f : Addr} {fd : FuncData} {f_law_drawn : Addr} (G_law_drawn : Cal P w K mg base 1 "_law_drawn" f_law_drawn ["script", "k", "size"] (sp_law_drawn K)) (F : Fun K "_law_names" "_law_names" s_law_names f fd) (hm : mg "_law_names" = some (.ref f)) (hb : Binds K fd ["script", "many"] []) :
    Cal P w K mg base 2 "_law_names" f ["script", "many"] (sp_law_names K) := cal_of F sc_law_names hm hb len_law_names (t_law_names K) (fun cdv Ar outer s H E hr => d_law_names T G_law_drawn hr) (fun vs H Q E h => r_law_names vs H Q E h)
theorem d_law_spots (T : Txt K mg A) {f : Addr} {f_law_drawn : Addr} (G_law_drawn : Cal P w K mg base 1 "_law_drawn" f_law_drawn ["script", "k", "size"] (sp_law_drawn K)) {f_law_names : Addr} (G_law_names : Cal P w K mg base 2 "_law_names" f_law_names ["script", "many"] (sp_law_names K))  (hr : Room 2 (Ar.deeper (envOfC "_law_spots" (defScope s_law_spots) s.heap.objs.size f cdv))) :
    PSs (cxOf (L2.CX P w) P w K mg base N_law_spots "_law_spots" (defScope s_law_spots) f cdv Ar outer s H E) (defBody s_law_spots) (t_law_spots K E) := by
  have hu := hu65 hr
  have tk : Takes (cxOf (L2.CX P w) P w K mg base N_law_spots "_law_spots" (defScope s_law_spots) f cdv Ar outer s H E) (fun cls d _ H => E cls d H) := takes_of rfl rfl rfl rfl
  exact pss_cons (ps_set (i := 1) sc_law_spots.nd rfl (Or.inr rfl) (pe_cal G_law_names (hr.mono (by decide)) tk (pa_cons (pv 0) (pa_cons pe_int pa_nil))))
    (pss_one (ps_ret (pe_lc (own := [("k", 2)]) (g := gName 2) (tt := tYes) rfl sc_law_spots.nd (pi_range1 (by rfl) T.n_range (pa_cons pe_int pa_nil)) (blkOk_by (own := [("k", 2)]) (N := N_law_spots) (sc := defScope s_law_spots) (by decide +kernel)) (fun _ _ _ _ _ => pg_name (i := 2) sc_law_spots.nd rfl (Or.inl rfl)) (fun _ _ _ _ _ => pts_nil) (fun _ _ _ _ _ => pe_tup (pa_cons (pe_ix (ix_A hu) (pv 1) (pe_op op_addA pe_int (pe_calB G_law_drawn (hr.mono (by decide)) (pa_cons (pv 0) (pa_cons (pe_op op_addA pe_int (pv 2)) (pa_cons pe_int pa_nil))))) (fun _ _ => rfl)) (pa_cons (pe_ix (ix_A hu) (pv 1) (pv 2) (fun _ _ => rfl)) pa_nil))))))
theorem cal_law_spots (T : Txt K mg A) {f : Addr} {fd : FuncData} {f_law_drawn : Addr} (G_law_drawn : Cal P w K mg base 1 "_law_drawn" f_law_drawn ["script", "k", "size"] (sp_law_drawn K)) {f_law_names : Addr} (G_law_names : Cal P w K mg base 2 "_law_names" f_law_names ["script", "many"] (sp_law_names K)) (F : Fun K "_law_spots" "_law_spots" s_law_spots f fd) (hm : mg "_law_spots" = some (.ref f)) (hb : Binds K fd ["script"] []) :
    Cal P w K mg base 3 "_law_spots" f ["script"] (sp_law_spots K) := cal_of F sc_law_spots hm hb len_law_spots (t_law_spots K) (fun cdv Ar outer s H E hr => d_law_spots T G_law_drawn G_law_names hr) (fun vs H Q E h => r_law_spots vs H Q E h)
theorem d_law_leanings (T : Txt K mg A) {f : Addr} {f_law_drawn : Addr} (G_law_drawn : Cal P w K mg base 1 "_law_drawn" f_law_drawn ["script", "k", "size"] (sp_law_drawn K))  (hr : Room 1 (Ar.deeper (envOfC "_law_leanings" (defScope s_law_leanings) s.heap.objs.size f cdv))) :
    PSs (cxOf (L2.CX P w) P w K mg base N_law_leanings "_law_leanings" (defScope s_law_leanings) f cdv Ar outer s H E) (defBody s_law_leanings) (t_law_leanings20 K E) := by
  have hu := hu65 hr
  have tk : Takes (cxOf (L2.CX P w) P w K mg base N_law_leanings "_law_leanings" (defScope s_law_leanings) f cdv Ar outer s H E) (fun cls d _ H => E cls d H) := takes_of rfl rfl rfl rfl
  exact pss_cons (ps_set (i := 2) sc_law_leanings.nd rfl (Or.inl rfl) pe_dnewT)
    (pss_cons (ps_set (i := 3) sc_law_leanings.nd rfl (Or.inl rfl) (pe_ix (ix_A hu) (pe_lst (pa_cons pe_int (pa_cons pe_int (pa_cons pe_int (pa_cons pe_int pa_nil))))) (pe_cal G_law_drawn (hr.mono (by decide)) tk (pa_cons (pv 0) (pa_cons pe_int (pa_cons pe_int pa_nil)))) (fun _ _ => rfl)))
    (pss_cons (ps_for (passes_of rfl) rfl (pi_range1 (by rfl) T.n_range (pa_cons (pe_callB call_lenA (by rfl) T.n_len (by decide +kernel) (pa_cons (pv 1) pa_nil)) pa_nil)) (pg_name (i := 4) sc_law_leanings.nd rfl (Or.inl rfl)) (pss_cons (ps_set (i := 5) sc_law_leanings.nd rfl (Or.inl rfl) (pe_lst pa_nil))
    (pss_cons (ps_for (passes_of rfl) rfl (pi_range1 (by rfl) T.n_range (pa_cons (pe_callB call_lenA (by rfl) T.n_len (by decide +kernel) (pa_cons (pv 1) pa_nil)) pa_nil)) (pg_name (i := 6) sc_law_leanings.nd rfl (Or.inl rfl)) (pss_one (ps_if (pt_cmpR op_lt (pe_cal G_law_drawn (hr.mono (by decide)) tk (pa_cons (pv 0) (pa_cons (pe_op op_addA (pe_op op_addA pe_int (pe_op op_mulA pe_int (pv 4))) (pv 6)) (pa_cons pe_int pa_nil)))) (pv 3) (nomark _)) (pss_one (ps_expr (pe_bm PySem.F.plainAttrs_list PySem.F.slot_list_insert PySem.F.type_list_insert mt_insert (pv 5) (pa_cons (pe_cal G_law_drawn (hr.mono (by decide)) tk (pa_cons (pv 0) (pa_cons (pe_op op_addA (pe_op op_addA pe_int (pe_op op_mulA pe_int (pv 4))) (pv 6)) (pa_cons (pe_op op_addA (pe_callB call_lenA (by rfl) T.n_len (by decide +kernel) (pa_cons (pv 5) pa_nil)) pe_int) pa_nil)))) (pa_cons (pe_ix (ix_A hu) (pv 1) (pv 6) (fun _ _ => rfl)) pa_nil))))) pss_nil)))
    (pss_cons (ps_if (PW.pt (pw_and (pt_cmpR (op_neA hu) (pv 5) (pe_lst pa_nil) (nomark _)) (pw_and1 (pt_cmpR (op_eqA hu) (pe_cal G_law_drawn (hr.mono (by decide)) tk (pa_cons (pv 0) (pa_cons (pe_op op_addA pe_int (pv 4)) (pa_cons pe_int pa_nil)))) pe_int (nomark _))))) (pss_one (ps_expr (pe_bm PySem.F.plainAttrs_list PySem.F.slot_list_append PySem.F.type_list_append mt_append (pv 5) (pa_cons (pe_ix (ix_A hu) (pv 5) pe_int (fun _ _ => rfl)) pa_nil)))) pss_nil)
    (pss_one (ps_if (PW.pt (pw_or (pt_cmpR (op_neA hu) (pv 5) (pe_lst pa_nil) (nomark _)) (pw_or1 (pt_cmpR (op_eqA hu) (pe_cal G_law_drawn (hr.mono (by decide)) tk (pa_cons (pv 0) (pa_cons (pe_op op_addA pe_int (pv 4)) (pa_cons pe_int pa_nil)))) pe_int (nomark _))))) (pss_one (ps_asg (pv 5) (pg_sub (pv 2) (pe_ix (ix_A hu) (pv 1) (pv 4) (fun _ _ => rfl)) (set_A hu)))) pss_nil))))))
    (pss_one (ps_ret (pv 2)))))
theorem cal_law_leanings (T : Txt K mg A) {f : Addr} {fd : FuncData} {f_law_drawn : Addr} (G_law_drawn : Cal P w K mg base 1 "_law_drawn" f_law_drawn ["script", "k", "size"] (sp_law_drawn K)) (F : Fun K "_law_leanings" "_law_leanings" s_law_leanings f fd) (hm : mg "_law_leanings" = some (.ref f)) (hb : Binds K fd ["script", "spots"] []) :
    Cal P w K mg base 2 "_law_leanings" f ["script", "spots"] (sp_law_leanings20 K) := cal_of F sc_law_leanings hm hb len_law_leanings20 (t_law_leanings20 K) (fun cdv Ar outer s H E hr => d_law_leanings T G_law_drawn hr) (fun vs H Q E h => r_law_leanings20 vs H Q E h)
theorem d_law_is_ring (T : Txt K mg A) {f : Addr}   (hr : Room 0 (Ar.deeper (envOfC "_law_is_ring" (defScope s_law_is_ring) s.heap.objs.size f cdv))) :
    PSs (cxOf (L2.CX P w) P w K mg base N_law_is_ring "_law_is_ring" (defScope s_law_is_ring) f cdv Ar outer s H E) (defBody s_law_is_ring) (t_law_is_ring K E) := by
  have hu := hu65 hr
  exact pss_cons (ps_if (PW.pt (pw_or (pt_not (pt_val (pe_callB call_isiA (by rfl) T.n_isinstance (by decide +kernel) (pa_cons (pv 2) (pa_cons (pe_bltn (v := .ty "list") (by rfl) T.n_list (by decide +kernel) rfl) pa_nil))))) (pw_or (pt_cmpR (op_eqA hu) (pe_callB call_lenA (by rfl) T.n_len (by decide +kernel) (pa_cons (pv 2) pa_nil)) pe_int (nomark _)) (pw_or1 (pt_cmpR (op_neA hu) (pe_ix (ix_A hu) (pv 2) pe_int (fun _ _ => rfl)) (pv 1) (nomark _)))))) (pss_one (ps_ret pe_bl)) pss_nil)
    (pss_cons (ps_for (passes_of rfl) rfl (pi_range1 (by rfl) T.n_range (pa_cons (pe_callB call_lenA (by rfl) T.n_len (by decide +kernel) (pa_cons (pv 2) pa_nil)) pa_nil)) (pg_name (i := 3) sc_law_is_ring.nd rfl (Or.inl rfl)) (pss_cons (ps_if (PW.pt (pw_or (pt_not (pt_val (pe_callB call_isiA (by rfl) T.n_isinstance (by decide +kernel) (pa_cons (pe_ix (ix_A hu) (pv 2) (pv 3) (fun _ _ => rfl)) (pa_cons (pe_bltn (v := .ty "tuple") (by rfl) T.n_tuple (by decide +kernel) rfl) pa_nil))))) (pw_or1 (pt_cmpR op_gt (pe_bm PySem.F.plainAttrs_list PySem.F.slot_list_count PySem.F.type_list_count (mt_countD hu) (pv 2) (pa_cons (pe_ix (ix_A hu) (pv 2) (pv 3) (fun _ _ => rfl)) pa_nil)) pe_int (nomark _))))) (pss_one (ps_ret pe_bl)) pss_nil)
    (pss_one (ps_if (pt_cmpR (op_ninA hu) (pe_ix (ix_A hu) (pv 2) (pe_op op_modN (pe_op op_addA (pv 3) pe_int) (pe_callB call_lenA (by rfl) T.n_len (by decide +kernel) (pa_cons (pv 2) pa_nil))) (fun _ _ => rfl)) (pe_dget2 (Nat.lt_of_le_of_lt (Nat.add_le_add_left (by decide) _) hu) (pv 0) (pe_ix (ix_A hu) (pv 2) (pv 3) (fun _ _ => rfl)) (pe_lst pa_nil) ⟨rfl, rfl, rfl, rfl⟩) (by rfl)) (pss_one (ps_ret pe_bl)) pss_nil))))
    (pss_one (ps_ret pe_bl)))
theorem cal_law_is_ring (T : Txt K mg A) {f : Addr} {fd : FuncData}  (F : Fun K "_law_is_ring" "_law_is_ring" s_law_is_ring f fd) (hm : mg "_law_is_ring" = some (.ref f)) (hb : Binds K fd ["leanings", "spot", "found"] []) :
    Cal P w K mg base 1 "_law_is_ring" f ["leanings", "spot", "found"] (sp_law_is_ring K) := cal_of F sc_law_is_ring hm hb len_law_is_ring (t_law_is_ring K) (fun cdv Ar outer s H E hr => d_law_is_ring T  hr) (fun vs H Q E h => r_law_is_ring vs H Q E h)
theorem d_law_comes_back (T : Txt K mg A) {f : Addr}   (hr : Room 0 (Ar.deeper (envOfC "_law_comes_back" (defScope s_law_comes_back) s.heap.objs.size f cdv))) :
    PSs (cxOf (L2.CX P w) P w K mg base N_law_comes_back "_law_comes_back" (defScope s_law_comes_back) f cdv Ar outer s H E) (defBody s_law_comes_back) (t_law_comes_back K E) := by
  have hu := hu65 hr
  exact pss_cons (ps_set (i := 2) sc_law_comes_back.nd rfl (Or.inr rfl) (pe_callTy (call_listA rfl) (by rfl) T.n_list (by decide +kernel) (pa_cons (pe_dget2 (Nat.lt_of_le_of_lt (Nat.add_le_add_left (by decide) _) hu) (pv 0) (pv 1) (pe_lst pa_nil) ⟨rfl, rfl, rfl, rfl⟩) pa_nil)))
    (pss_cons (ps_for (passes_of rfl) rfl (pi_range1 (by rfl) T.n_range (pa_cons pe_int pa_nil)) (pg_name (i := 3) sc_law_comes_back.nd rfl (Or.inl rfl)) (pss_one (ps_for (passes_of rfl) rfl (pi_list (pe_callTy (call_listA rfl) (by rfl) T.n_list (by decide +kernel) (pa_cons (pv 2) pa_nil))) (pg_name (i := 4) sc_law_comes_back.nd rfl (Or.inl rfl)) (pss_one (ps_set (i := 2) sc_law_comes_back.nd rfl (Or.inr rfl) (pe_op op_addA (pv 2) (pe_lc (own := [("other", 5)]) (g := gName 5) (tt := tTest (tOp (rNinA K) (tVar 5) (tVar 2))) rfl sc_law_comes_back.nd (pi_list (pe_dget2 (Nat.lt_of_le_of_lt (Nat.add_le_add_left (by decide) _) hu) (pv 0) (pv 4) (pe_lst pa_nil) ⟨rfl, rfl, rfl, rfl⟩)) (blkOk_by (own := [("other", 5)]) (N := N_law_comes_back) (sc := defScope s_law_comes_back) (by decide +kernel)) (fun _ _ _ _ _ => pg_name (i := 5) sc_law_comes_back.nd rfl (Or.inl rfl)) (fun _ _ _ _ _ => pts_one (pt_cmpR (op_ninA hu) (pv 5) (pv 2) (by rfl))) (fun _ _ _ _ _ => pv 5))))))))
    (pss_one (ps_ret (pe_cmpR (op_inA hu) (pv 1) (pv 2) (by rfl)))))
theorem cal_law_comes_back (T : Txt K mg A) {f : Addr} {fd : FuncData}  (F : Fun K "_law_comes_back" "_law_comes_back" s_law_comes_back f fd) (hm : mg "_law_comes_back" = some (.ref f)) (hb : Binds K fd ["leanings", "spot"] []) :
    Cal P w K mg base 1 "_law_comes_back" f ["leanings", "spot"] (sp_law_comes_back K) := cal_of F sc_law_comes_back hm hb len_law_comes_back (t_law_comes_back K) (fun cdv Ar outer s H E hr => d_law_comes_back T  hr) (fun vs H Q E h => r_law_comes_back vs H Q E h)
theorem d_law (T : Txt K mg A) {f : Addr} {f_ring_from : Addr} (G_ring_from : Cal P w K mg base 2 "ring_from" f_ring_from ["leanings", "spot"] (sp_ring_from K)) {f_law_is_ring : Addr} (G_law_is_ring : Cal P w K mg base 1 "_law_is_ring" f_law_is_ring ["leanings", "spot", "found"] (sp_law_is_ring K)) {f_law_comes_back : Addr} (G_law_comes_back : Cal P w K mg base 1 "_law_comes_back" f_law_comes_back ["leanings", "spot"] (sp_law_comes_back K)) {f_law_leanings : Addr} (G_law_leanings : Cal P w K mg base 2 "_law_leanings" f_law_leanings ["script", "spots"] (sp_law_leanings20 K)) {f_law_spots : Addr} (G_law_spots : Cal P w K mg base 3 "_law_spots" f_law_spots ["script"] (sp_law_spots K))  (hr : Room 3 (Ar.deeper (envOfC "law" (defScope s_law) s.heap.objs.size f cdv))) :
    PSs (cxOf (L2.CX P w) P w K mg base N_law "law" (defScope s_law) f cdv Ar outer s H E) (defBody s_law) (t_law K E) := by
  have hu := hu65 hr
  have tk : Takes (cxOf (L2.CX P w) P w K mg base N_law "law" (defScope s_law) f cdv Ar outer s H E) (fun cls d _ H => E cls d H) := takes_of rfl rfl rfl rfl
  exact pss_cons (ps_set (i := 1) sc_law.nd rfl (Or.inl rfl) (pe_cal G_law_spots (hr.mono (by decide)) tk (pa_cons (pv 0) pa_nil)))
    (pss_cons (ps_set (i := 2) sc_law.nd rfl (Or.inl rfl) (pe_cal G_law_leanings (hr.mono (by decide)) tk (pa_cons (pv 0) (pa_cons (pv 1) pa_nil))))
    (pss_cons (ps_for (passes_of rfl) rfl (pi_list (pe_op op_addA (pv 1) (pe_lst (pa_cons (pe_tup (pa_cons pe_str (pa_cons pe_str pa_nil))) pa_nil)))) (pg_name (i := 3) sc_law.nd rfl (Or.inl rfl)) (pss_cons (ps_set (i := 4) sc_law.nd rfl (Or.inl rfl) pe_dnewT)
    (pss_cons (ps_lock (ps_for (passes_of rfl) rfl (pi_keys (pv 2)) (pg_name (i := 5) sc_law.nd rfl (Or.inl rfl)) (pss_one (ps_asg (pe_callTy (call_listA rfl) (by rfl) T.n_list (by decide +kernel) (pa_cons (pe_ix (ix_A hu) (pv 2) (pv 5) (fun _ _ => rfl)) pa_nil)) (pg_sub (pv 4) (pv 5) (set_A hu))))))
    (pss_cons (ps_set (i := 6) sc_law.nd rfl (Or.inl rfl) (pe_cal G_ring_from (hr.mono (by decide)) tk (pa_cons (pv 4) (pa_cons (pv 3) pa_nil))))
    (pss_cons (ps_if (PW.pt (pw_or (pt_cmpR (op_neT (hu66 hr)) (pv 4) (pv 2) (nomark _)) (pw_or1 (pt_cmpR (op_eqA hu) (pe_cmpR op_isA (pv 6) pe_non (nomark _)) (pe_cal G_law_comes_back (hr.mono (by decide)) tk (pa_cons (pv 2) (pa_cons (pv 3) pa_nil))) (nomark _))))) (pss_one (ps_ret pe_bl)) pss_nil)
    (pss_one (ps_if (pt_cmpR op_isnA (pv 6) pe_non (nomark _)) (pss_cons (ps_set (i := 7) sc_law.nd rfl (Or.inl rfl) (pe_callB call_lenA (by rfl) T.n_len (by decide +kernel) (pa_cons (pv 6) pa_nil)))
    (pss_cons (ps_if (pt_not (pt_val (pe_cal G_law_is_ring (hr.mono (by decide)) tk (pa_cons (pv 2) (pa_cons (pv 3) (pa_cons (pv 6) pa_nil)))))) (pss_one (ps_ret pe_bl)) pss_nil)
    (pss_cons (ps_expr (pe_bm PySem.F.plainAttrs_list PySem.F.slot_list_append PySem.F.type_list_append mt_append (pv 6) (pa_cons (pv 3) pa_nil)))
    (pss_one (ps_if (pt_cmpR (op_neA hu) (pe_callB call_lenA (by rfl) T.n_len (by decide +kernel) (pa_cons (pe_cal G_ring_from (hr.mono (by decide)) tk (pa_cons (pv 4) (pa_cons (pv 3) pa_nil))) pa_nil)) (pv 7) (nomark _)) (pss_one (ps_ret pe_bl)) pss_nil))))) pss_nil)))))))
    (pss_one (ps_ret pe_bl))))
theorem fn_law (T : Txt K mg A) {f : Addr} {fd : FuncData} {f_ring_from : Addr} (G_ring_from : Cal P w K mg base 2 "ring_from" f_ring_from ["leanings", "spot"] (sp_ring_from K)) {f_law_is_ring : Addr} (G_law_is_ring : Cal P w K mg base 1 "_law_is_ring" f_law_is_ring ["leanings", "spot", "found"] (sp_law_is_ring K)) {f_law_comes_back : Addr} (G_law_comes_back : Cal P w K mg base 1 "_law_comes_back" f_law_comes_back ["leanings", "spot"] (sp_law_comes_back K)) {f_law_leanings : Addr} (G_law_leanings : Cal P w K mg base 2 "_law_leanings" f_law_leanings ["script", "spots"] (sp_law_leanings20 K)) {f_law_spots : Addr} (G_law_spots : Cal P w K mg base 3 "_law_spots" f_law_spots ["script"] (sp_law_spots K)) (F : Fun K "law" "law" s_law f fd) : FnOk P w K mg base (L2.CX P w) 4 f fd ["script"] (spLaw K) :=
  fnx_of F sc_law len_law (t_law K) (fun cdv Ar outer s H E hr => d_law T G_ring_from G_law_is_ring G_law_comes_back G_law_leanings G_law_spots hr) (fun vs H Q E h => r_law vs H Q E h)
end
theorem all_mk {l : PySem.W.OpenLaw} {w : PySem.World} {K : PySem.W.Frag} {h : Heap} {mg : Str → Option Value} {fa : Addr} {f_way_to f_ring_from f_law_drawn f_law_names f_law_spots f_law_leanings f_law_is_ring f_law_comes_back f_law : Addr} {od_way_to an_way_to od_ring_from an_ring_from od_law_drawn an_law_drawn od_law_names an_law_names od_law_spots an_law_spots od_law_leanings an_law_leanings od_law_is_ring an_law_is_ring od_law_comes_back an_law_comes_back od_law an_law : Option Addr} {sl_way_to sl_ring_from sl_law_drawn sl_law_names sl_law_spots sl_law_leanings sl_law_is_ring sl_law_comes_back sl_law : Array (Option Value)} {oc_way_to kV_way_to dc_way_to pm_way_to cd_way_to ct_way_to oc_ring_from kV_ring_from dc_ring_from pm_ring_from cd_ring_from ct_ring_from oc_law_drawn kV_law_drawn dc_law_drawn pm_law_drawn cd_law_drawn ct_law_drawn oc_law_names kV_law_names dc_law_names pm_law_names cd_law_names ct_law_names oc_law_spots kV_law_spots dc_law_spots pm_law_spots cd_law_spots ct_law_spots oc_law_leanings kV_law_leanings dc_law_leanings pm_law_leanings cd_law_leanings ct_law_leanings oc_law_is_ring kV_law_is_ring dc_law_is_ring pm_law_is_ring cd_law_is_ring ct_law_is_ring oc_law_comes_back kV_law_comes_back dc_law_comes_back pm_law_comes_back cd_law_comes_back ct_law_comes_back oc_law kV_law dc_law pm_law cd_law ct_law : Value} (X : K.In h) (G : h.Ns mainGlobals mg) (hfa : mg "law" = some (.ref fa))
    (a_way_to : PySem.W.nsIn K mainGlobals "way_to" = some (some (.ref f_way_to)))
    (l_way_to : K.lookup f_way_to = some ⟨oc_way_to, od_way_to, .func (PySem.W.fnOf "way_to" "way_to" (defArgs s_way_to) (defBody s_way_to) (defScope s_way_to) .none kV_way_to dc_way_to pm_way_to an_way_to cd_way_to ct_way_to), sl_way_to⟩)
    (c_way_to : PySem.W.codeIn K cd_way_to "way_to" = true)
    (k_way_to : PySem.W.keepIn K (.ref f_way_to) = true)
    (a_ring_from : PySem.W.nsIn K mainGlobals "ring_from" = some (some (.ref f_ring_from)))
    (l_ring_from : K.lookup f_ring_from = some ⟨oc_ring_from, od_ring_from, .func (PySem.W.fnOf "ring_from" "ring_from" (defArgs s_ring_from) (defBody s_ring_from) (defScope s_ring_from) .none kV_ring_from dc_ring_from pm_ring_from an_ring_from cd_ring_from ct_ring_from), sl_ring_from⟩)
    (c_ring_from : PySem.W.codeIn K cd_ring_from "ring_from" = true)
    (k_ring_from : PySem.W.keepIn K (.ref f_ring_from) = true)
    (a_law_drawn : PySem.W.nsIn K mainGlobals "_law_drawn" = some (some (.ref f_law_drawn)))
    (l_law_drawn : K.lookup f_law_drawn = some ⟨oc_law_drawn, od_law_drawn, .func (PySem.W.fnOf "_law_drawn" "_law_drawn" (defArgs s_law_drawn) (defBody s_law_drawn) (defScope s_law_drawn) .none kV_law_drawn dc_law_drawn pm_law_drawn an_law_drawn cd_law_drawn ct_law_drawn), sl_law_drawn⟩)
    (c_law_drawn : PySem.W.codeIn K cd_law_drawn "_law_drawn" = true)
    (k_law_drawn : PySem.W.keepIn K (.ref f_law_drawn) = true)
    (a_law_names : PySem.W.nsIn K mainGlobals "_law_names" = some (some (.ref f_law_names)))
    (l_law_names : K.lookup f_law_names = some ⟨oc_law_names, od_law_names, .func (PySem.W.fnOf "_law_names" "_law_names" (defArgs s_law_names) (defBody s_law_names) (defScope s_law_names) .none kV_law_names dc_law_names pm_law_names an_law_names cd_law_names ct_law_names), sl_law_names⟩)
    (c_law_names : PySem.W.codeIn K cd_law_names "_law_names" = true)
    (k_law_names : PySem.W.keepIn K (.ref f_law_names) = true)
    (a_law_spots : PySem.W.nsIn K mainGlobals "_law_spots" = some (some (.ref f_law_spots)))
    (l_law_spots : K.lookup f_law_spots = some ⟨oc_law_spots, od_law_spots, .func (PySem.W.fnOf "_law_spots" "_law_spots" (defArgs s_law_spots) (defBody s_law_spots) (defScope s_law_spots) .none kV_law_spots dc_law_spots pm_law_spots an_law_spots cd_law_spots ct_law_spots), sl_law_spots⟩)
    (c_law_spots : PySem.W.codeIn K cd_law_spots "_law_spots" = true)
    (k_law_spots : PySem.W.keepIn K (.ref f_law_spots) = true)
    (a_law_leanings : PySem.W.nsIn K mainGlobals "_law_leanings" = some (some (.ref f_law_leanings)))
    (l_law_leanings : K.lookup f_law_leanings = some ⟨oc_law_leanings, od_law_leanings, .func (PySem.W.fnOf "_law_leanings" "_law_leanings" (defArgs s_law_leanings) (defBody s_law_leanings) (defScope s_law_leanings) .none kV_law_leanings dc_law_leanings pm_law_leanings an_law_leanings cd_law_leanings ct_law_leanings), sl_law_leanings⟩)
    (c_law_leanings : PySem.W.codeIn K cd_law_leanings "_law_leanings" = true)
    (k_law_leanings : PySem.W.keepIn K (.ref f_law_leanings) = true)
    (a_law_is_ring : PySem.W.nsIn K mainGlobals "_law_is_ring" = some (some (.ref f_law_is_ring)))
    (l_law_is_ring : K.lookup f_law_is_ring = some ⟨oc_law_is_ring, od_law_is_ring, .func (PySem.W.fnOf "_law_is_ring" "_law_is_ring" (defArgs s_law_is_ring) (defBody s_law_is_ring) (defScope s_law_is_ring) .none kV_law_is_ring dc_law_is_ring pm_law_is_ring an_law_is_ring cd_law_is_ring ct_law_is_ring), sl_law_is_ring⟩)
    (c_law_is_ring : PySem.W.codeIn K cd_law_is_ring "_law_is_ring" = true)
    (k_law_is_ring : PySem.W.keepIn K (.ref f_law_is_ring) = true)
    (a_law_comes_back : PySem.W.nsIn K mainGlobals "_law_comes_back" = some (some (.ref f_law_comes_back)))
    (l_law_comes_back : K.lookup f_law_comes_back = some ⟨oc_law_comes_back, od_law_comes_back, .func (PySem.W.fnOf "_law_comes_back" "_law_comes_back" (defArgs s_law_comes_back) (defBody s_law_comes_back) (defScope s_law_comes_back) .none kV_law_comes_back dc_law_comes_back pm_law_comes_back an_law_comes_back cd_law_comes_back ct_law_comes_back), sl_law_comes_back⟩)
    (c_law_comes_back : PySem.W.codeIn K cd_law_comes_back "_law_comes_back" = true)
    (k_law_comes_back : PySem.W.keepIn K (.ref f_law_comes_back) = true)
    (a_law : PySem.W.nsIn K mainGlobals "law" = some (some (.ref f_law)))
    (l_law : K.lookup f_law = some ⟨oc_law, od_law, .func (PySem.W.fnOf "law" "law" (defArgs s_law) (defBody s_law) (defScope s_law) .none kV_law dc_law pm_law an_law cd_law ct_law), sl_law⟩)
    (c_law : PySem.W.codeIn K cd_law "law" = true)
    (k_law : PySem.W.keepIn K (.ref f_law) = true)
    (n_isinstance : PySem.W.nsIn K mainGlobals "isinstance" = some none)
    (n_len : PySem.W.nsIn K mainGlobals "len" = some none)
    (n_list : PySem.W.nsIn K mainGlobals "list" = some none)
    (n_range : PySem.W.nsIn K mainGlobals "range" = some none)
    (n_tuple : PySem.W.nsIn K mainGlobals "tuple" = some none) :
    ∃ fd : FuncData, (∀ (s : Shared) (v : Value), BindsTo s fd ⟨[v], []⟩ [("script", v)]) ∧ ∀ base : Heap, K.In base → base.Ns mainGlobals mg → FnOk l.prog w K mg base (L2.CX l.prog w) 4 fa fd ["script"] (spLaw K) := by
  have e := hfa.symm.trans (PySem.W.mg_of X G a_law)
  cases e
  let A : Cn → Addr := fun | _ => 0
  have T : Txt K mg A := { n_isinstance := PySem.W.mg_none_of X G n_isinstance, n_len := PySem.W.mg_none_of X G n_len, n_list := PySem.W.mg_none_of X G n_list, n_range := PySem.W.mg_none_of X G n_range, n_tuple := PySem.W.mg_none_of X G n_tuple }
  have F_way_to := fun_mk (st := s_way_to) l_way_to c_way_to k_way_to
  have b_way_to := F_way_to.binds (ps := ["ahead", "spot"]) fun _ _ _ _ _ _ us hl => match us, hl with | [_, _], _ => rfl
  have F_ring_from := fun_mk (st := s_ring_from) l_ring_from c_ring_from k_ring_from
  have b_ring_from := F_ring_from.binds (ps := ["leanings", "spot"]) fun _ _ _ _ _ _ us hl => match us, hl with | [_, _], _ => rfl
  have F_law_drawn := fun_mk (st := s_law_drawn) l_law_drawn c_law_drawn k_law_drawn
  have b_law_drawn := F_law_drawn.binds (ps := ["script", "k", "size"]) fun _ _ _ _ _ _ us hl => match us, hl with | [_, _, _], _ => rfl
  have F_law_names := fun_mk (st := s_law_names) l_law_names c_law_names k_law_names
  have b_law_names := F_law_names.binds (ps := ["script", "many"]) fun _ _ _ _ _ _ us hl => match us, hl with | [_, _], _ => rfl
  have F_law_spots := fun_mk (st := s_law_spots) l_law_spots c_law_spots k_law_spots
  have b_law_spots := F_law_spots.binds (ps := ["script"]) fun _ _ _ _ _ _ us hl => match us, hl with | [_], _ => rfl
  have F_law_leanings := fun_mk (st := s_law_leanings) l_law_leanings c_law_leanings k_law_leanings
  have b_law_leanings := F_law_leanings.binds (ps := ["script", "spots"]) fun _ _ _ _ _ _ us hl => match us, hl with | [_, _], _ => rfl
  have F_law_is_ring := fun_mk (st := s_law_is_ring) l_law_is_ring c_law_is_ring k_law_is_ring
  have b_law_is_ring := F_law_is_ring.binds (ps := ["leanings", "spot", "found"]) fun _ _ _ _ _ _ us hl => match us, hl with | [_, _, _], _ => rfl
  have F_law_comes_back := fun_mk (st := s_law_comes_back) l_law_comes_back c_law_comes_back k_law_comes_back
  have b_law_comes_back := F_law_comes_back.binds (ps := ["leanings", "spot"]) fun _ _ _ _ _ _ us hl => match us, hl with | [_, _], _ => rfl
  have F_law := fun_mk (st := s_law) l_law c_law k_law
  have b_law := F_law.binds (ps := ["script"]) fun _ _ _ _ _ _ us hl => match us, hl with | [_], _ => rfl
  refine ⟨PySem.W.fnOf "law" "law" (defArgs s_law) (defBody s_law) (defScope s_law) .none kV_law dc_law pm_law an_law cd_law ct_law, fun s v => .of_eq rfl, fun base _ _ => ?_⟩
  have G_way_to := cal_way_to (P := l.prog) (w := w) (base := base) T  F_way_to (PySem.W.mg_of X G a_way_to) b_way_to
  have G_ring_from := cal_ring_from (P := l.prog) (w := w) (base := base) T G_way_to F_ring_from (PySem.W.mg_of X G a_ring_from) b_ring_from
  have G_law_drawn := cal_law_drawn (P := l.prog) (w := w) (base := base) T  F_law_drawn (PySem.W.mg_of X G a_law_drawn) b_law_drawn
  have G_law_names := cal_law_names (P := l.prog) (w := w) (base := base) T G_law_drawn F_law_names (PySem.W.mg_of X G a_law_names) b_law_names
  have G_law_spots := cal_law_spots (P := l.prog) (w := w) (base := base) T G_law_drawn G_law_names F_law_spots (PySem.W.mg_of X G a_law_spots) b_law_spots
  have G_law_leanings := cal_law_leanings (P := l.prog) (w := w) (base := base) T G_law_drawn F_law_leanings (PySem.W.mg_of X G a_law_leanings) b_law_leanings
  have G_law_is_ring := cal_law_is_ring (P := l.prog) (w := w) (base := base) T  F_law_is_ring (PySem.W.mg_of X G a_law_is_ring) b_law_is_ring
  have G_law_comes_back := cal_law_comes_back (P := l.prog) (w := w) (base := base) T  F_law_comes_back (PySem.W.mg_of X G a_law_comes_back) b_law_comes_back
  exact fn_law (P := l.prog) (w := w) (base := base) T G_ring_from G_law_is_ring G_law_comes_back G_law_leanings G_law_spots F_law
theorem walk {l : PySem.W.OpenLaw} {q : Program} {loose : List Str} {XP : (Str → Option Value) → Heap → Prop} {YP : PySem.World → Heap → Prop} {d : DefRec} {K : Params → PySem.W.Frag} (hn : l.most = some 63) (hdf : d.params.defaults = [])
    (hY : ∀ (w : PySem.World) (h : Heap), YP w h → (K w.params).In h)
    (F : ∀ (w : PySem.World) (mg : Str → Option Value) (fa : Addr) (h : Heap), (K w.params).In h → h.Ns mainGlobals mg → mg d.name = some (.ref fa) →
      ∃ fd : FuncData, (∀ (s : Shared) (u : Value), BindsTo s fd ⟨[u], []⟩ [("script", u)]) ∧ ∀ base : Heap, (K w.params).In base → base.Ns mainGlobals mg → FnOk l.prog w (K w.params) mg base (L2.CX l.prog w) 4 fa fd ["script"] (spLaw (K w.params))) :
    PySem.W.WalkO q loose XP YP l.row.toRowW d [] (fun f vs => PySem.call f vs) :=
  L2.walk_of (n := 63) (k := 4) (x := "script") (CX := fun w => L2.CX l.prog w) (sp := fun w => spLaw (K w.params)) hn (by decide) hdf ⟨rfl, by decide, by decide⟩ hY F (fun _ _ a ns hl _ hS => ⟨a, ns, rfl, hS, hl, fun _ => rfl⟩) (fun _ _ _ _ _ z => cx_no z)
end Z
open PySem PySem.W PyProof.Rows
set_option maxRecDepth 100000 in
set_option maxHeartbeats 0 in
theorem PySem.Challenge.cw_lazycols_k20_rings_told_holds : PySem.Challenge.rw_lazycols_k20_rings_told.Holds := by
  w_on; o_law; k_head; (case hw => w_witness2)
  k_fill
  refine Z.walk (l := PySem.Challenge.rw_lazycols_k20_rings_told) rfl rfl (fun w h Y => PySem.W.kIn_of Y) ?F
  case F =>
    intro w mg fa h KX G hmg
    refine' Z.all_mk KX G hmg ?a_way_to ?l_way_to ?c_way_to ?k_way_to ?a_ring_from ?l_ring_from ?c_ring_from ?k_ring_from ?a_law_drawn ?l_law_drawn ?c_law_drawn ?k_law_drawn ?a_law_names ?l_law_names ?c_law_names ?k_law_names ?a_law_spots ?l_law_spots ?c_law_spots ?k_law_spots ?a_law_leanings ?l_law_leanings ?c_law_leanings ?k_law_leanings ?a_law_is_ring ?l_law_is_ring ?c_law_is_ring ?k_law_is_ring ?a_law_comes_back ?l_law_comes_back ?c_law_comes_back ?k_law_comes_back ?a_law ?l_law ?c_law ?k_law ?n_isinstance ?n_len ?n_list ?n_range ?n_tuple
    (case a_way_to => k_is)
    (case l_way_to => k_is)
    (case c_way_to => k_is)
    (case k_way_to => k_is)
    (case a_ring_from => k_is)
    (case l_ring_from => k_is)
    (case c_ring_from => k_is)
    (case k_ring_from => k_is)
    (case a_law_drawn => k_is)
    (case l_law_drawn => k_is)
    (case c_law_drawn => k_is)
    (case k_law_drawn => k_is)
    (case a_law_names => k_is)
    (case l_law_names => k_is)
    (case c_law_names => k_is)
    (case k_law_names => k_is)
    (case a_law_spots => k_is)
    (case l_law_spots => k_is)
    (case c_law_spots => k_is)
    (case k_law_spots => k_is)
    (case a_law_leanings => k_is)
    (case l_law_leanings => k_is)
    (case c_law_leanings => k_is)
    (case k_law_leanings => k_is)
    (case a_law_is_ring => k_is)
    (case l_law_is_ring => k_is)
    (case c_law_is_ring => k_is)
    (case k_law_is_ring => k_is)
    (case a_law_comes_back => k_is)
    (case l_law_comes_back => k_is)
    (case c_law_comes_back => k_is)
    (case k_law_comes_back => k_is)
    (case a_law => k_is)
    (case l_law => k_is)
    (case c_law => k_is)
    (case k_law => k_is)
    (case n_isinstance => k_is)
    (case n_len => k_is)
    (case n_list => k_is)
    (case n_range => k_is)
    (case n_tuple => k_is)
