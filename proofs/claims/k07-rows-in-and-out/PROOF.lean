import PyProof.Rows.All
import Wide.All
import OpenK.AllK
import Wide.FinOn
import HandS.ForMost
import HandS.ForExc
import HandS.Style
import HandS.IsInst
import HandS.Evl
import HandS.More
import HandS.Deep
import HandS.Wide
import HandS.Conv
import HandS.TupLen
import HandS.Text
import HandS.WordsExc
import HandS.WordsDict
import HandS.Codes
import PyProof.StrBlock2
import HandS.SortInts
import HandS.ExcIs
import PySem.Challenge.RW_lazycols_k07_rows_in_and_out
set_option Elab.async false
set_option linter.all false
set_option autoImplicit false
set_option maxRecDepth 100000
set_option maxHeartbeats 4000000
namespace Z
open PySem PySem.Spec PyProof.Rows L2 Evl

/-! ### one rule for each operator, whatever the kinds -/
def rSubA : R2 := rI0 fun i j => .int (i - j)
def rLtA : R2 := rI0 fun i j => .bl (decide (i < j))
def rLeA : R2 := rI0 fun i j => .bl (decide (i ≤ j))
def rGtA : R2 := rI0 fun i j => .bl (decide (j < i))
def rGeA : R2 := rI0 fun i j => .bl (decide (j ≤ i))
def rModA : R2 := rI (fun _ j => j ≠ 0) fun i j => .int (i.fmod j)
def rPowA : R2 := rI CPow fun i j => .int (i ^ j.toNat)
def rNegA : V → Hp → VK → Prop := rU fun i => .int (-i)
def rAddI : R2 := rI0 fun i j => .int (i + j)
def rAddS : R2 := fun x y H Q => ∃ i j, x = .str i ∧ y = .str j ∧ i.length + j.length ≤ sizeLine ∧ Q (.str (i ++ j)) H
def rAddA (K : PySem.W.Frag) : R2 := fun x y H Q => rAddI x y H Q ∨ rAddS x y H Q ∨ rCat x y H Q ∨ rCatT K x y H Q
/-- a text n times -/
def repS (a : Str) (n : Int) : Str := SX.S (List.replicate n.toNat a.cps.toList).flatten
def rRepS : R2 := fun x y H Q => ∃ (a : Str) (n : Int), x = .str a ∧ y = .int n ∧ a.length ≤ 4000 ∧ -1000 ≤ n ∧ n ≤ 4000 ∧ Q (.str (repS a n)) H
def rMulA (K : PySem.W.Frag) : R2 := fun x y H Q => rI CMulW (fun i j => .int (i * j)) x y H Q ∨ rRep x y H Q ∨ rRepS x y H Q
def rDivA : R2 := fun x y H Q => rI CDivN (fun i j => .int (i.fdiv j)) x y H Q ∨ rI CDivW (fun i j => .int (i / j)) x y H Q
/-- two dicts: of unlike sizes, or with the same things at the same keys -/
def sameV (x : V) : Prop := flatB x = true ∨ ∃ a, x = .ref a
def rEqKn (neg : Bool) : R2 := fun x y H Q => ∃ a b ks ls, x = .ref a ∧ y = .ref b ∧ H a = some (.dK ks) ∧ H b = some (.dK ls) ∧ (ks.length = ls.length → ∀ p ∈ ks, valV ls p.1 = some p.2 ∧ sameV p.2) ∧ Q (.bl (if neg then !decide (ks.length = ls.length) else decide (ks.length = ls.length))) H
/-- a list and an empty list -/
def rEqLn (neg : Bool) : R2 := fun x y H Q => ∃ a b xs, x = .ref a ∧ y = .ref b ∧ H a = some (.lst xs) ∧ H b = some (.lst []) ∧ Q (.bl (if neg then !decide (xs.length = 0) else decide (xs.length = 0))) H
def rEqA (K : PySem.W.Frag) : R2 := fun x y H Q => rEq x y H Q ∨ rEqD K x y H Q ∨ rEqKn false x y H Q ∨ rEqLn false x y H Q
def rNeA (K : PySem.W.Frag) : R2 := fun x y H Q => rNe x y H Q ∨ rNeD K x y H Q ∨ rEqKn true x y H Q ∨ rEqLn true x y H Q
def rInDict (neg : Bool) : R2 := fun x y H Q => ∃ a o, y = .ref a ∧ DGet H a x o ∧ Q (.bl (if neg then !o.isSome else o.isSome)) H
def rInStr (neg : Bool) : R2 := fun x y H Q => ∃ (c : Nat) (z : Str), x = .str ⟨#[c]⟩ ∧ y = .str z ∧ Q (.bl (if neg then !decide (c ∈ z.cps.toList) else decide (c ∈ z.cps.toList))) H
def rInA (K : PySem.W.Frag) : R2 := fun x y H Q => rInStr false x y H Q ∨ rInDict false x y H Q ∨ rIn K false x y H Q ∨ rInD K x y H Q
def rNinA (K : PySem.W.Frag) : R2 := fun x y H Q => rInStr true x y H Q ∨ rInDict true x y H Q ∨ rIn K true x y H Q ∨ rNotInD K x y H Q
def rIsA : R2 := fun x y H Q => (y = .non ∧ Q (.bl (decide (x = .non))) H) ∨ rIsB x y H Q
def rIsnA : R2 := fun x y H Q => (y = .non ∧ Q (.bl (!decide (x = .non))) H) ∨ rNotB x y H Q
def rIxD : R2 := fun x y H Q => ∃ a v, x = .ref a ∧ DGet H a y (some v) ∧ Q v H
def rIxA (K : PySem.W.Frag) : R2 := fun x y H Q => rIx K x y H Q ∨ rIxD x y H Q
def rSetA : V → V → V → Hp → (Hp → Prop) → Prop := fun o i v H Q => rSetL o i v H Q ∨ ∃ a H', o = .ref a ∧ DPut H a i v H' ∧ Q H'
def rSlS : V → Option Int → Option Int → Hp → VK → Prop := fun x lo hi H Q => ∃ z, x = .str z ∧ z.length ≤ sizeLine ∧ Q (.str (cutS z lo hi)) H
def rSlA (K : PySem.W.Frag) : V → Option Int → Option Int → Hp → VK → Prop := fun x lo hi H Q => rSlL K x lo hi H Q ∨ rSlT K x lo hi H Q ∨ rSlS x lo hi H Q
def rLenD : List V → Hp → VK → Prop := fun xs H Q => ∃ a kvs, xs = [V.ref a] ∧ H a = some (.dK kvs) ∧ Q (.int kvs.length) H
def rLenA (K : PySem.W.Frag) : List V → Hp → VK → Prop := fun xs H Q => rLen K xs H Q ∨ rLenD xs H Q ∨ rLenT xs H Q
def rAbsA : List V → Hp → VK → Prop := fun xs H Q => ∃ i, xs = [V.int i] ∧ Q (.int (if i < 0 then -i else i)) H
def rStrA : List V → Hp → VK → Prop := fun xs H Q => ∃ i : Int, xs = [V.int i] ∧ i.natAbs.log2 < 1920 ∧ Q (.str (toString i)) H
def rIsiA (K : PySem.W.Frag) : List V → Hp → VK → Prop := fun xs H Q => rIsi K xs H Q ∨ rIsiT K xs H Q
def rListA (K : PySem.W.Frag) : List V → Hp → VK → Prop := fun xs H Q => (∃ p ys, xs = [V.ref p] ∧ (SqL K H p ys ∨ SqT K H p ys) ∧ ∀ l, H l = none → Q (.ref l) (upd H l (.lst ys))) ∨
  ∃ (a : Addr) (kvs : List (Key × V)), xs = [V.ref a] ∧ Rd H a (.dK kvs) ∧ ∀ p, H p = none → Q (.ref p) (upd H p (.lst (kvs.map fun kv => kV kv.1)))
def rDictA : List V → Hp → VK → Prop := fun xs H Q => ∃ (a : Addr) (kvs : List (Key × V)), xs = [V.ref a] ∧ Rd H a (.dK kvs) ∧ ∀ p, H p = none → Q (.ref p) (upd H p (.dK kvs))
def rInsA : V → List V → Hp → VK → Prop := fun x vs H Q => ∃ (l : Addr) (xs : List V) (i : Int) (y : V), x = .ref l ∧ vs = [.int i, y] ∧ H l = some (.lst xs) ∧ xs.length < sizeLine ∧ 0 ≤ i ∧ i < 2 ^ 63 ∧ Q .non (upd H l (.lst (xs.take i.toNat ++ [y] ++ xs.drop i.toNat)))
def rIntA : List V → Hp → VK → Prop := fun xs H Q => (∃ i, xs = [V.int i] ∧ Q (.int i) H) ∨ (∃ k, xs = [V.bl k] ∧ Q (.int (if k then 1 else 0)) H) ∨ ∃ a n, xs = [V.str a] ∧ PySem.intText? a = some n ∧ a.length ≤ 640 ∧ Q (.int n) H
section
variable {X : Cx}
theorem op_addA : OpR X (binaryOp .Add) (rAddA X.K) := op_add.or (op_add_str.or (op_cat.or op_catT))
theorem foldl_cps (l : List (Array Nat)) (acc : Array Nat) : (l.foldl (· ++ ·) acc).toList = acc.toList ++ (l.map (·.toList)).flatten := by
  induction l generalizing acc with
  | nil => simp
  | cons a r ih => rw [List.foldl_cons, ih, Array.toList_append, List.map_cons, List.flatten_cons, List.append_assoc]
theorem mul_repS (a : Str) (n : Int) : Txt.mul a n = repS a n := by
  have g : ∀ x y : Str, x.cps.toList = y.cps.toList → x = y := fun x y h => by
    obtain ⟨⟨x⟩⟩ := x
    obtain ⟨⟨y⟩⟩ := y
    have h : x = y := h
    rw [h]
  refine g _ _ ?_
  unfold Txt.mul repS
  by_cases h1 : n < 1
  · rw [if_pos h1, show n.toNat = 0 by omega]
    rfl
  · rw [if_neg h1]
    by_cases h2 : (n == 1 || a.length == 0) = true
    · rw [if_pos h2]
      rcases Bool.or_eq_true_iff.mp h2 with h | h
      · have h : n = 1 := by simpa using h
        subst h
        simp
      · have h : a.length = 0 := by simpa using h
        have e : a.cps.toList = [] := by
          have h : a.cps.size = 0 := h
          have : a.cps.toList.length = 0 := by simpa using h
          exact List.eq_nil_of_length_eq_zero this
        rw [e]
        simp
    · rw [if_neg h2]
      show (List.foldl (· ++ ·) #[] (List.replicate n.toNat a.cps)).toList = _
      rw [foldl_cps, List.map_replicate]
      simp
theorem op_repS : OpR X (binaryOp .Mult) rRepS := by
  intro pins s σ H x y v u Q I rx ry h
  obtain ⟨a, n, rfl, rfl, ha, hn, hm, q⟩ := h
  obtain ⟨t, rfl⟩ := rx
  obtain ⟨t', rfl⟩ := ry
  have hb : a.length * n.toNat ≤ 16000000 := Nat.le_trans (Nat.mul_le_mul ha (show n.toNat ≤ 4000 by omega)) (by decide)
  refine SB.mul ⟨?_, fun h1 _ => ?_, fun _ _ => ?_⟩ fun t2 k => ⟨.str (repS a n), H, I.tok k, ⟨t2, by rw [mul_repS]⟩, q⟩
  · rw [decide_eq_false (by omega), decide_eq_false (by omega)]
    rfl
  · have h2 : (9223372036854775807 : Int) / 4000 ≤ 9223372036854775807 / n := by
      refine (Int.le_ediv_iff_mul_le (by omega)).mpr ?_
      omega
    have h3 : (2 ^ 63 - 1 : Int) = 9223372036854775807 := rfl
    rw [h3]
    omega
  · unfold Builtin.Str.tooLong
    refine decide_eq_false ?_
    have : sizeLine = 16777216 := sizeLine_eq
    omega
theorem op_mulA : OpR X (binaryOp .Mult) (rMulA X.K) := op_mulW.or (op_rep.or op_repS)
theorem op_fdivA : OpR X (binaryOp .FloorDiv) rDivA := op_fdivN.or op_fdivW
theorem K_sq {K : PySem.W.Frag} {H : Hp} {a : Addr} {xs : List V} (h : H a = some (.lst xs)) : SqL K H a xs := sq_of h
theorem hits_same {A : Around} {s : Shared} {kvs : List (Key × V)} {vb : List (Key × Value)} (rb : KV kvs vb) {ks : List (Key × V)} {va : List (Key × Value)} (ra : KV ks va) :
    (∀ p ∈ ks, valV kvs p.1 = some p.2 ∧ sameV p.2) → PySem.W.KeqHits A s vb va true := by
  unfold KV at ra
  induction ra with
  | nil => intro _; exact .nil
  | @cons p q ps qs h t ih =>
    intro hp
    obtain ⟨h1, h2⟩ := h
    obtain ⟨e, f⟩ := hp p List.mem_cons_self
    have rr : RelO (some p.2) (valueAt vb p.1) := by rw [← e]; exact rb.val p.1
    obtain ⟨y, hy, ry⟩ := rr.some_of
    obtain ⟨k, v⟩ := q
    have h1' : p.1 = k := h1
    rw [h1'] at hy
    show PySem.W.KeqHits A s vb ((k, v) :: qs) (true && true)
    refine .hit hy ?_ (ih fun p' hm => hp p' (List.mem_cons_of_mem _ hm))
    rcases f with f | ⟨a, ea⟩
    · exact eqAt_same h2 ry f
    · have h2 : RelV p.2 v := h2
      rw [ea] at h2 ry
      cases (show v = Value.ref a from h2)
      cases (show y = Value.ref a from ry)
      exact SeqAt.EqAt.same _
theorem op_eqKn (hu : X.A.units < cLine) : OpR X (compareOp .Eq) (rEqKn false) := by
  intro pins s σ H x y v u Q I rx ry h
  obtain ⟨a, b, ks, ls, rfl, rfl, ea, eb, hp, q⟩ := h
  obtain rfl : v = Value.ref a := rx
  obtain rfl : u = Value.ref b := ry
  obtain ⟨_, ya, va, ra, da⟩ := (show ObjOk X.prog X.w H s.heap a (.dK ks) from I.hok a _ ea)
  obtain ⟨_, yb, vb, rb, db⟩ := (show ObjOk X.prog X.w H s.heap b (.dK ls) from I.hok b _ eb)
  have la : ks.length = va.length := ra.length
  have lb : ls.length = vb.length := rb.length
  exact PySem.W.keq_eq (knd := mixKind X.prog X.w) (r := true) ya yb da db hu (fun e => hits_same rb ra (hp (by omega))) (fin_bl I q (by rw [la, lb]; simp only [Bool.and_true, Bool.false_eq_true, if_false, if_true]; rfl))
theorem op_neKn (hu : X.A.units < cLine) : OpR X (compareOp .NotEq) (rEqKn true) := by
  intro pins s σ H x y v u Q I rx ry h
  obtain ⟨a, b, ks, ls, rfl, rfl, ea, eb, hp, q⟩ := h
  obtain rfl : v = Value.ref a := rx
  obtain rfl : u = Value.ref b := ry
  obtain ⟨_, ya, va, ra, da⟩ := (show ObjOk X.prog X.w H s.heap a (.dK ks) from I.hok a _ ea)
  obtain ⟨_, yb, vb, rb, db⟩ := (show ObjOk X.prog X.w H s.heap b (.dK ls) from I.hok b _ eb)
  have la : ks.length = va.length := ra.length
  have lb : ls.length = vb.length := rb.length
  exact PySem.W.keq_ne (knd := mixKind X.prog X.w) (r := true) ya yb da db hu (fun e => hits_same rb ra (hp (by omega))) (fin_bl I q (by rw [la, lb]; simp only [Bool.and_true, Bool.false_eq_true, if_false, if_true]; rfl))
theorem op_eqLn (hu : X.A.units < cLine) : OpR X (compareOp .Eq) (rEqLn false) := by
  intro pins s σ H x y v u Q I rx ry h
  obtain ⟨a, b, xs, rfl, rfl, ha, hb, q⟩ := h
  obtain rfl : v = Value.ref a := rx
  obtain rfl : u = Value.ref b := ry
  obtain ⟨us, r1, p1, _⟩ := I.list (K_sq ha)
  obtain ⟨ws, r2, p2, _⟩ := I.list (K_sq hb)
  have l1 := r1.length
  have l2 := r2.length
  rw [List.length_nil] at l2
  by_cases hz : xs.length = 0
  · have hsz : us.toArray.size = ws.toArray.size := by rw [List.size_toArray, List.size_toArray]; omega
    refine SeqAt.RcAt.lists (e := fun _ => true) p1.isList p2.isList hsz hu (fun j h1 _ => absurd h1 (by rw [List.size_toArray]; omega)) _ _ _ _ ⟨.bl true, H, I, ?_, ?_⟩
    · show Value.bool ((List.range us.toArray.size).all fun _ => true) = Value.bool true
      congr 1
      exact List.all_eq_true.mpr fun _ _ => rfl
    · rw [show (if false = true then !decide (xs.length = 0) else decide (xs.length = 0)) = true from decide_eq_true hz] at q
      exact q
  · refine SeqAt.RcAt.lists_lengths p1.isList p2.isList (by rw [List.size_toArray, List.size_toArray, ← l2, ← l1]; simpa using hz) hu _ _ _ _ ⟨.bl false, H, I, rfl, ?_⟩
    rw [show (if false = true then !decide (xs.length = 0) else decide (xs.length = 0)) = false from decide_eq_false hz] at q
    exact q
theorem op_neLn (hu : X.A.units < cLine) : OpR X (compareOp .NotEq) (rEqLn true) := by
  intro pins s σ H x y v u Q I rx ry h
  obtain ⟨a, b, xs, rfl, rfl, ha, hb, q⟩ := h
  obtain rfl : v = Value.ref a := rx
  obtain rfl : u = Value.ref b := ry
  obtain ⟨us, r1, p1, _⟩ := I.list (K_sq ha)
  obtain ⟨ws, r2, p2, _⟩ := I.list (K_sq hb)
  have l1 := r1.length
  have l2 := r2.length
  rw [List.length_nil] at l2
  by_cases hz : xs.length = 0
  · have hsz : us.toArray.size = ws.toArray.size := by rw [List.size_toArray, List.size_toArray]; omega
    refine SeqAt.RcNeAt.lists (e := fun _ => true) p1.isList p2.isList hsz hu (fun j h1 _ => absurd h1 (by rw [List.size_toArray]; omega)) _ _ _ _ ⟨.bl false, H, I, ?_, ?_⟩
    · show Value.bool (!(List.range us.toArray.size).all fun _ => true) = Value.bool false
      congr 1
      rw [show ((List.range us.toArray.size).all fun _ => true) = true from List.all_eq_true.mpr fun _ _ => rfl]
      rfl
    · rw [show (if true = true then !decide (xs.length = 0) else decide (xs.length = 0)) = false from by rw [if_pos rfl, decide_eq_true hz]; rfl] at q
      exact q
  · refine SeqAt.RcNeAt.lists_lengths p1.isList p2.isList (by rw [List.size_toArray, List.size_toArray, ← l2, ← l1]; simpa using hz) hu _ _ _ _ ⟨.bl true, H, I, rfl, ?_⟩
    rw [show (if true = true then !decide (xs.length = 0) else decide (xs.length = 0)) = true from by rw [if_pos rfl, decide_eq_false hz]; rfl] at q
    exact q
theorem op_eqA (hu : X.A.units + 65 < cLine) : OpR X (compareOp .Eq) (rEqA X.K) := op_eq.or ((op_eqD (by omega)).or ((op_eqKn (by omega)).or (op_eqLn (by omega))))
theorem op_neA (hu : X.A.units + 65 < cLine) : OpR X (compareOp .NotEq) (rNeA X.K) := op_ne.or ((op_neD (by omega)).or ((op_neKn (by omega)).or (op_neLn (by omega))))
theorem op_inDict (hu : X.A.units + 65 < cLine) : OpR X (compareOp .In) (rInDict false) := by
  intro pins s σ H x y v u Q I rx ry h
  obtain ⟨a, o, rfl, g, q⟩ := h
  cases ry
  exact d_in (by omega) I g rx fun s' I' => ⟨.bl o.isSome, H, I', rfl, q⟩
theorem op_ninDict (hu : X.A.units + 65 < cLine) : OpR X (compareOp .NotIn) (rInDict true) := by
  intro pins s σ H x y v u Q I rx ry h
  obtain ⟨a, o, rfl, g, q⟩ := h
  cases ry
  exact d_notIn (by omega) I g rx fun s' I' => ⟨.bl (!o.isSome), H, I', rfl, q⟩
theorem op_inStr : OpR X (compareOp .In) (rInStr false) := op_in_sign
theorem op_ninStr : OpR X (compareOp .NotIn) (rInStr true) := op_notIn_sign
theorem op_inA (hu : X.A.units + 65 < cLine) : OpR X (compareOp .In) (rInA X.K) := op_inStr.or ((op_inDict hu).or (op_in_seq.or (op_inD hu)))
theorem op_ninA (hu : X.A.units + 65 < cLine) : OpR X (compareOp .NotIn) (rNinA X.K) := op_ninStr.or ((op_ninDict hu).or (op_notIn_seq.or (op_notInD hu)))
theorem op_isA : OpR X (compareOp .Is) rIsA := op_isN.or op_isBl
theorem op_isnA : OpR X (compareOp .IsNot) rIsnA := op_notN.or op_notBl
theorem ix_dict (hu : X.A.units + 65 < cLine) : IxR X rIxD := by
  intro value slice pins s σ H x y v u Q I rx ry h hs
  obtain ⟨a, w, rfl, g, q⟩ := h
  cases rx
  refine tail_any (dict_typeIs I g) PySem.F.slot_dict_getitem.lookup (d_getItem (by omega) I g ry fun w' s' I' r' => ⟨w, H, I', r', q⟩) hs
theorem ix_A (hu : X.A.units + 65 < cLine) : IxR X (rIxA X.K) := ix_seq.or (ix_dict hu)
theorem set_A (hu : X.A.units + 65 < cLine) : PSet X rSetA := by
  intro pins s σ H o i v ov iv u Q I ro ri rv h
  rcases h with h | ⟨a, H', rfl, g, q⟩
  · exact set_list pins s σ H o i v ov iv u Q I ro ri rv h
  · cases ro
    exact d_setItem (by omega) I g ri rv fun s' I' => ⟨H', I', q⟩
theorem sl_A : SlR X (rSlA X.K) := sl_list.or (sl_tup.or sl_str)
theorem call_lenA : CallR X (.builtin "len") (rLenA X.K) := call_len.or (call_lenD.or call_len_dT)
theorem call_isiA : CallR X (.builtin "isinstance") (rIsiA X.K) := call_isi.or call_isiT
theorem call_listA (hc : X.calm = true) : CallR X (.type "list") (rListA X.K) := call_list_of.or (call_listD hc)
theorem call_dictA (hc : X.calm = true) : CallR X (.type "dict") rDictA := call_dictD
theorem call_intA : CallR X (.type "int") rIntA := by
  intro pins s σ H xs us Q I r h
  rcases h with h | h | h
  · exact call_int1 pins s σ H xs us Q I r (.inl h)
  · exact call_int1 pins s σ H xs us Q I r (.inr h)
  · exact call_int_str pins s σ H xs us Q I r h
end
/-! ### built-in types of values -/
def tyO : Option HO → Option String
  | some (.lst _) => some "list"
  | some (.tup _) => some "tuple"
  | some (.dK _) => some "dict"
  | some (.dT _) => some "dict"
  | some (.frz _ (.lst _)) => some "list"
  | _ => none
def tyN (H : Hp) : V → Option String
  | .non => some "NoneType"
  | .bl _ => some "bool"
  | .int _ => some "int"
  | .str _ => some "str"
  | .ref a => tyO (H a)
  | _ => none
def kinds : List String := ["NoneType", "bool", "int", "str", "list", "tuple", "dict"]
def asked : List String := ["bool", "int", "str", "list", "tuple", "dict"]
def isiB (n c : String) : Bool := n == c || (n == "bool" && c == "int")
theorem tyN_ex {H H' : Hp} {x : V} {n : String} (e : Ex H H') (h : tyN H x = some n) : tyN H' x = some n := by
  cases x with
  | ref a =>
    have h : tyO (H a) = some n := h
    show tyO (H' a) = some n
    cases q : H a with
    | none => rw [q] at h; cases h
    | some o => rw [e a o q, ← q]; exact h
  | _ => exact h
theorem tyX_of {K : PySem.W.Frag} {H : Hp} {x : V} {n : String} (h : tyN H x = some n) : TyX K H x (.type n) := by
  cases x with
  | non => cases h; exact .base .non
  | bl b => cases h; exact .base (.bl b)
  | int i => cases h; exact .base (.int i)
  | str z => cases h; exact .base (.str z)
  | ref a =>
    have h : tyO (H a) = some n := h
    cases q : H a with
    | none => rw [q] at h; cases h
    | some o =>
      rw [q] at h
      unfold tyO at h
      split at h
      · rename_i w; cases w; cases h; exact .base (.lst q)
      · rename_i w; cases w; cases h; exact .base (.tup q)
      · rename_i w; cases w; cases h; exact .base (.dK q)
      · rename_i w; cases w; cases h; exact .base (.dT q)
      · rename_i w; cases w; cases h; exact .base (.frz q)
      · cases h
  | _ => cases h
theorem tyO_mem {o : Option HO} {n : String} (h : tyO o = some n) : n ∈ kinds := by
  unfold tyO at h
  split at h <;> first | (cases h; decide) | cases h
theorem tyN_mem {H : Hp} {x : V} {n : String} (h : tyN H x = some n) : n ∈ kinds := by
  cases x with
  | ref a => exact tyO_mem h
  | _ => first | (cases h; decide) | cases h
theorem kit_all : ∀ n ∈ kinds, ∀ c ∈ asked, kitB n c = some (isiB n c) := by decide +kernel

section
variable {K : PySem.W.Frag} {σ : L2.St} {H H' : Hp} {ta tb te tx : TE} {t u : TT} {x y z v : V} {r r' : R2}
theorem rc_isi {n c : String} (h : tyN H x = some n) (hc : c ∈ asked := by decide) : RC (rIsiA K) [x, .ty c] H (.bl (isiB n c)) := fun H1 e Q q =>
  .inl ⟨x, .ty c, .type n, .type c, isiB n c, rfl, .ty c, tyX_of (tyN_ex e h), kit_ty (kit_all n (tyN_mem h) c hc), q H1 (Ex.refl H1)⟩
theorem ev_cb {r : List V → Hp → VK → Prop} {ta : TA} {vs : List V} (ha : EvA ta σ H vs) (hr : RC r vs H z) : Ev (tCB r ta) σ H z := fun H1 e Q q =>
  ha H1 e _ fun H2 e2 => hr H2 (e.trans e2) Q fun H3 e3 => q H3 (e2.trans e3)
theorem ev_isi {n c : String} (ha : Ev ta σ H x) (h : tyN H x = some n) (hc : c ∈ asked := by decide) : Ev (tCB (rIsiA K) (tCons ta (tCons (tC (.ty c)) tNil))) σ H (.bl (isiB n c)) :=
  ev_cb (ea_cons ha (ea_cons ev_c ea_nil)) (rc_isi h hc)
/-- a op b op' c -/
theorem ev_chain {k : Bool} {w : V} (ha : Ev ta σ H x) (hb : Ev tb σ H y) (hr : RV r x y H (.bl k)) (h0 : k = false → w = .bl false) (h1 : k = true → ∃ z, Ev tx σ H z ∧ RV r' y z H w) : Ev (tChain r r' ta tb tx) σ H w := fun H1 e Q q =>
  ha H1 e _ fun H2 e2 => hb H2 (e.trans e2) _ fun H3 e3 => hr H3 ((e.trans e2).trans e3) _ fun H4 e4 => ⟨k, rfl, by
    have E4 : Ex H H4 := ((e.trans e2).trans e3).trans e4
    have F4 : Ex H1 H4 := (e2.trans e3).trans e4
    cases k with
    | true =>
      obtain ⟨z, hz, hw⟩ := h1 rfl
      show tx σ H4 _
      exact hz H4 E4 _ fun H5 e5 => hw H5 (E4.trans e5) Q fun H6 e6 => q H6 ((F4.trans e5).trans e6)
    | false =>
      show Q (.bl false) H4
      rw [← h0 rfl]
      exact q H4 F4⟩
/-- two comparisons of ints -/
theorem ev_chainI {g g' : Int → Int → Bool} {i j k : Int} (ha : Ev ta σ H (.int i)) (hb : Ev tb σ H (.int j)) (hc : Ev tx σ H (.int k)) :
    Ev (tChain (rI0 fun a b => .bl (g a b)) (rI0 fun a b => .bl (g' a b)) ta tb tx) σ H (.bl (g i j && g' j k)) :=
  ev_chain (k := g i j) ha hb rv_I0 (fun h => by rw [h]; rfl) fun h => ⟨.int k, hc, by rw [h]; exact rv_I0⟩
theorem rc_lenS {w : Str} (h : w.length ≤ 100000) : RC (rLenA K) [.str w] H (.int w.length) := fun H1 _ _ q => .inl ⟨.str w, w.length, rfl, ⟨sz_of h, rfl⟩, q H1 (Ex.refl H1)⟩
theorem rc_lenL {p : Addr} {xs : List V} (h : SqL K H p xs) : RC (rLenA K) [.ref p] H (.int xs.length) := fun H1 e _ q => .inl ⟨.ref p, xs.length, rfl, .inl ⟨xs, ex_l e h, rfl⟩, q H1 (Ex.refl H1)⟩
theorem rc_lenT {p : Addr} {xs : List V} (h : SqT K H p xs) : RC (rLenA K) [.ref p] H (.int xs.length) := fun H1 e _ q => .inl ⟨.ref p, xs.length, rfl, .inr ⟨xs, ex_t e h, rfl⟩, q H1 (Ex.refl H1)⟩
theorem ev_lenV {n : Nat} (ha : Ev ta σ H x) (hr : RC (rLenA K) [x] H (.int n)) : Ev (tCB (rLenA K) (tCons ta tNil)) σ H (.int n) := ev_cb (ea_cons ha ea_nil) hr
/-- all(..) of a list of truths that is made on the way -/
theorem ev_all {bs : List Bool} (ha : EvL ta σ H (bs.map V.bl)) : Ev (tCB (rAll K) (tCons ta tNil)) σ H (.bl (bs.all id)) := fun H1 e Q q =>
  ha H1 e _ fun p H2 _ e2 h2 => ⟨p, bs, rfl, sq_of h2, q H2 e2⟩
/-- a comprehension over a text -/
theorem el_lcS {a : Str} {tl : TE} {j : Nat} {vs : List Nat} (f : Nat → Bool) (v : Nat → V) (h : Ev tl σ H (.str a)) (hz : a.cps.size ≤ 40000) (hw : ∀ x, wipe ((wipe σ vs).set j (some x)) vs = wipe σ vs)
    (ht : ∀ (i : Nat) (c : Nat) H1, Ex H H1 → a.cps[i]? = some c → EvT t ((wipe σ vs).set j (some (.str ⟨#[c]⟩))) H1 (f i)) (he : ∀ (i : Nat) (c : Nat) H1, Ex H H1 → a.cps[i]? = some c → f i = true → Ev te ((wipe σ vs).set j (some (.str ⟨#[c]⟩))) H1 (v i)) :
    EvL (tLc (iStr tl) (gName j) t te vs) σ H (given a.cps.size f v) := fun H0 e Q q => h H0 e _ fun H1 e1 => ⟨a, rfl, fun Dl hD => by
  refine ⟨fun i m H' => m = a.cps.size - i ∧ i ≤ a.cps.size ∧ Cw H1 f v Dl i H', ⟨a.cps.size, by simp, Nat.zero_le _, hD, Ex.new hD, upd_same⟩, ?_⟩
  rintro i m H' ⟨rfl, hi, p⟩
  by_cases hlt : i < a.cps.size
  · refine .inr ⟨hlt, fun H2 => Cw H1 f v Dl (i + 1) H2, fun H2 p2 => ⟨a.cps.size - (i + 1), by omega, rfl, hlt, p2⟩, ?_⟩
    rintro x2 H2 ⟨rfl, c, hc, rfl⟩
    exact ⟨hw _, cw_turn p (by omega) (ht i c H1 (e.trans e1) hc) (fun hf => he i c H1 (e.trans e1) hc hf)⟩
  · have e0 : i = a.cps.size := by omega
    subst e0
    exact .inl ⟨Nat.le_refl _, q Dl H' (fresh_back e1 p.1) (e1.trans p.2.1) p.2.2⟩⟩
end
end Z

set_option Elab.async false
set_option linter.all false
set_option autoImplicit false
set_option maxRecDepth 100000
set_option maxHeartbeats 4000000
namespace Z
open PySem PySem.Spec PyProof.Rows L2 Evl
/-! ### a def that may be called: its promise, its name, its place -/
structure Cal (P : Program) (w : World) (K : PySem.W.Frag) (mg : Str → Option Value) (base : Heap) (k : Nat) (x : Str) (f : Addr) (ps : List Str) (sp : Sp) : Prop where
  ex : ∃ fd, FnOk P w K mg base (L2.CX P w) k f fd ps sp ∧ Binds K fd ps []
  mg : mg x = some (.ref f)
  kp : PySem.W.keepIn K (.ref f) = true
section
variable {X : Cx} {W : WX} {k : Nat} {f : Addr} {ps : List Str} {sp : Sp} {x : Str} {p pos : Pos} {e : Expr} {es : List Expr} {t : TA}
theorem pe_cal (C : Cal X.prog X.w X.K X.mg X.base k x f ps sp) (hr : Room k X.A) (tk : Takes X W) (ha : PA X (e :: es) t) (hg : Gl X x := by rfl) (hdb : (x == ("__debug__" : Str)) = false := by decide)
    (he : starEach (e :: es) X.env = (false, eval e X.env) :: starEach es X.env := by rfl) (hpl : (backTo pos (starEach es X.env)).any (·.1) = false := by rfl) :
    PE X (.Call (.Name x p) (e :: es) [] pos) (tCallS sp (WE W) t) := by
  obtain ⟨fd, F, b⟩ := C.ex
  exact pe_callS F hr hg C.mg C.kp b (fun σ => passAt tk σ) ha hdb he hpl
theorem pe_calB (C : Cal X.prog X.w X.K X.mg X.base k x f ps sp) (hr : Room k X.A) (ha : PA X (e :: es) t) (hg : Gl X x := by rfl) (hdb : (x == ("__debug__" : Str)) = false := by decide)
    (he : starEach (e :: es) X.env = (false, eval e X.env) :: starEach es X.env := by rfl) (hpl : (backTo pos (starEach es X.env)).any (·.1) = false := by rfl) :
    PE X (.Call (.Name x p) (e :: es) [] pos) (tCall sp [] E0 t) := by
  obtain ⟨fd, F, b⟩ := C.ex
  exact pe_call F hr hg C.mg C.kp b .nil passL ha hdb he hpl
end
theorem hu65 {A : Around} {k : Nat} (hr : Room k A) : A.units + 65 < cLine := by have := hr.un; omega
/-- a body and its reading make a def's promise -/
theorem cal_of {P : Program} {w : World} {K : PySem.W.Frag} {mg : Str → Option Value} {base : Heap} {st : Stmt} {x : Str} {f : Addr} {fd : FuncData} {N ps : List Str} {k : Nat} {sp : Sp} (F : Fun K x x st f fd) (S : FnScope N ps (defScope st)) (hm : mg x = some (.ref f)) (hb : Binds K fd ps [])
    (len : ∀ vs H Q E, sp vs H Q E → vs.length = ps.length) (t : XK → TS)
    (d : ∀ (cdv : Value) (A : Around) (outer : List Env) (s : Shared) (H : Hp) (E : XK), Room k (A.deeper (envOfC x (defScope st) s.heap.objs.size f cdv)) → PSs (cxOf (L2.CX P w) P w K mg base N x (defScope st) f cdv A outer s H E) (defBody st) (t E))
    (r : ∀ (vs : List V) (H : Hp) (Q : VK) (E : XK), sp vs H Q E → t E { nx := fun _ H' => Q .non H', rt := Q } (L2.start N vs) H) : Cal P w K mg base (k + 1) x f ps sp :=
  ⟨⟨fd, F.okX S len fun cdv A outer s H vs Q E hr h => ⟨t E, d cdv A outer s H E hr, r vs H Q E h⟩, hb⟩, hm, F.kp⟩

/-- the law itself -/
theorem fnx_of {P : Program} {w : World} {K : PySem.W.Frag} {mg : Str → Option Value} {base : Heap} {st : Stmt} {x : Str} {f : Addr} {fd : FuncData} {N ps : List Str} {k : Nat} {sp : Sp} (F : Fun K x x st f fd) (S : FnScope N ps (defScope st))
    (len : ∀ vs H Q E, sp vs H Q E → vs.length = ps.length) (t : XK → TS)
    (d : ∀ (cdv : Value) (A : Around) (outer : List Env) (s : Shared) (H : Hp) (E : XK), Room k (A.deeper (envOfC x (defScope st) s.heap.objs.size f cdv)) → PSs (cxOf (L2.CX P w) P w K mg base N x (defScope st) f cdv A outer s H E) (defBody st) (t E))
    (r : ∀ (vs : List V) (H : Hp) (Q : VK) (E : XK), sp vs H Q E → t E { nx := fun _ H' => Q .non H', rt := Q } (L2.start N vs) H) : FnOk P w K mg base (L2.CX P w) (k + 1) f fd ps sp :=
  F.okX S len fun cdv A outer s H vs Q E hr h => ⟨t E, d cdv A outer s H E hr, r vs H Q E h⟩
theorem cx_no {P : Program} {w : World} {H : Hp} {s : Shared} {e : Value} {s' : Shared} (h : L2.CX P w [] H s (fun _ _ _ => False) e s') : False := by
  obtain ⟨_, _, _, _, _, _, _, _, _, _, _, _, z⟩ := h
  exact z
section
variable {K : PySem.W.Frag} {σ : L2.St} {H H' : Hp} {ta tb te tx : TE} {t u : TT} {x y z v : V} {r r' : R2} {D : Ends}
/-! ### what the operators give -/
theorem rv_addI {i j : Int} : RV (rAddA K) (.int i) (.int j) H (.int (i + j)) := fun H1 _ _ q => .inl ⟨i, j, rfl, rfl, q H1 (Ex.refl H1)⟩
theorem rv_addS {i j : Str} (h : i.length + j.length ≤ 100000) : RV (rAddA K) (.str i) (.str j) H (.str (i ++ j)) := fun H1 _ _ q => .inr (.inl ⟨i, j, rfl, rfl, sz_of h, q H1 (Ex.refl H1)⟩)
theorem rv_subI {i j : Int} : RV rSubA (.int i) (.int j) H (.int (i - j)) := fun H1 _ _ q => ⟨i, j, rfl, rfl, q H1 (Ex.refl H1)⟩
theorem rv_lt {i j : Int} : RV rLtA (.int i) (.int j) H (.bl (decide (i < j))) := fun H1 _ _ q => ⟨i, j, rfl, rfl, q H1 (Ex.refl H1)⟩
theorem rv_le {i j : Int} : RV rLeA (.int i) (.int j) H (.bl (decide (i ≤ j))) := fun H1 _ _ q => ⟨i, j, rfl, rfl, q H1 (Ex.refl H1)⟩
theorem rv_gt {i j : Int} : RV rGtA (.int i) (.int j) H (.bl (decide (j < i))) := fun H1 _ _ q => ⟨i, j, rfl, rfl, q H1 (Ex.refl H1)⟩
theorem rv_ge {i j : Int} : RV rGeA (.int i) (.int j) H (.bl (decide (j ≤ i))) := fun H1 _ _ q => ⟨i, j, rfl, rfl, q H1 (Ex.refl H1)⟩
theorem rv_mod {i j : Int} (h : 0 < j) : RV rModA (.int i) (.int j) H (.int (i % j)) := fun H1 _ Q q => ⟨i, j, rfl, rfl, by omega, by
  show Q (.int (i.fmod j)) H1
  rw [Int.fmod_eq_emod_of_nonneg i (by omega)]
  exact q H1 (Ex.refl H1)⟩
theorem rv_div {i j : Int} (h : 0 < j ∧ j < 1073741824) : RV rDivA (.int i) (.int j) H (.int (i / j)) := fun H1 _ Q q => .inl ⟨i, j, rfl, rfl, ⟨by omega, by omega⟩, by
  show Q (.int (i.fdiv j)) H1
  rw [Int.fdiv_eq_ediv_of_nonneg i (by omega)]
  exact q H1 (Ex.refl H1)⟩
theorem rv_mulI {i j : Int} (h : CMulW i j) : RV (rMulA K) (.int i) (.int j) H (.int (i * j)) := fun H1 _ _ q => .inl ⟨i, j, rfl, rfl, h, q H1 (Ex.refl H1)⟩
theorem rv_rep {a : Str} {n : Int} (ha : a.length ≤ 4000) (hn : -1000 ≤ n ∧ n ≤ 4000) : RV (rMulA K) (.str a) (.int n) H (.str (repS a n)) := fun H1 _ _ q => .inr (.inr ⟨a, n, rfl, rfl, ha, hn.1, hn.2, q H1 (Ex.refl H1)⟩)
theorem rv_pow {i j : Int} (h : 0 ≤ j ∧ j ≤ 1000000 ∧ i.natAbs < 2 ^ 64) : RV rPowA (.int i) (.int j) H (.int (i ^ j.toNat)) := fun H1 _ _ q => ⟨i, j, rfl, rfl, h, q H1 (Ex.refl H1)⟩
theorem rv_eqS (h : scal x y = true) : RV (rEqA K) x y H (.bl (decide (x = y))) := fun H1 _ _ q => .inl ⟨h, q H1 (Ex.refl H1)⟩
theorem rv_neS (h : scal x y = true) : RV (rNeA K) x y H (.bl (!decide (x = y))) := fun H1 _ _ q => .inl ⟨h, q H1 (Ex.refl H1)⟩
theorem rv_isN : RV rIsA x .non H (.bl (decide (x = .non))) := fun H1 _ _ q => .inl ⟨rfl, q H1 (Ex.refl H1)⟩
theorem rv_isnN : RV rIsnA x .non H (.bl (!decide (x = .non))) := fun H1 _ _ q => .inl ⟨rfl, q H1 (Ex.refl H1)⟩
theorem rv_isB {a b : Bool} : RV rIsA (.bl a) (.bl b) H (.bl (decide (a = b))) := fun H1 _ _ q => .inr ⟨a, b, rfl, rfl, q H1 (Ex.refl H1)⟩
theorem rv_isnB {a b : Bool} : RV rIsnA (.bl a) (.bl b) H (.bl (!decide (a = b))) := fun H1 _ _ q => .inr ⟨a, b, rfl, rfl, q H1 (Ex.refl H1)⟩
theorem rv_inStr {c : Nat} {w : Str} : RV (rInA K) (.str ⟨#[c]⟩) (.str w) H (.bl (decide (c ∈ w.cps.toList))) := fun H1 _ _ q => .inl ⟨c, w, rfl, rfl, q H1 (Ex.refl H1)⟩
theorem rv_ninStr {c : Nat} {w : Str} : RV (rNinA K) (.str ⟨#[c]⟩) (.str w) H (.bl (!decide (c ∈ w.cps.toList))) := fun H1 _ _ q => .inl ⟨c, w, rfl, rfl, q H1 (Ex.refl H1)⟩
theorem rv_itL {p : Addr} {xs : List V} {i : Int} (h : SqL K H p xs) (ha : atI xs i = some v) : RV (rIxA K) (.ref p) (.int i) H v := fun H1 e _ q => .inl (.inl ⟨p, xs, i, v, rfl, rfl, ex_l e h, ha, q H1 (Ex.refl H1)⟩)
theorem rv_itT {p : Addr} {xs : List V} {i : Int} (h : SqT K H p xs) (ha : atI xs i = some v) : RV (rIxA K) (.ref p) (.int i) H v := fun H1 e _ q => .inl (.inr (.inl ⟨p, xs, i, v, rfl, rfl, ex_t e h, ha, q H1 (Ex.refl H1)⟩))
theorem rv_itS {w : Str} {i : Int} {c : Nat} (h : w.length ≤ 100000) (ha : atI w.cps.toList i = some c) : RV (rIxA K) (.str w) (.int i) H (.str ⟨#[c]⟩) := fun H1 _ _ q => .inl (.inr (.inr ⟨w, i, c, rfl, rfl, sz_of h, ha, q H1 (Ex.refl H1)⟩))
theorem rc_str {i : Int} (h : i.natAbs.log2 < 1920) : RC rStrA [.int i] H (.str (Str.ofString (toString i))) := fun H1 _ _ q => ⟨i, rfl, h, q H1 (Ex.refl H1)⟩
theorem rc_abs {i : Int} : RC rAbsA [.int i] H (.int (if i < 0 then -i else i)) := fun H1 _ _ q => ⟨i, rfl, q H1 (Ex.refl H1)⟩
theorem ev_callS {sp : Sp} {vs : List V} {E : L2.St → XK} {ta : TA} (h : EvA ta σ H vs) (hs : SpV sp vs H z) : Ev (tCallS sp E ta) σ H z := fun H1 e Q q =>
  h H1 e _ fun H2 e2 => hs H2 (e.trans e2) Q (fun H3 e3 => q H3 (e2.trans e3)) (E σ)
/-- a word between a statement and what follows -/
theorem q_cut2 {tu tz : TS} {M : L2.St → Hp → Prop} (h : ∀ nx : L2.St → Hp → Prop, (∀ σ' H', M σ' H' → nx σ' H') → tu { D with nx := nx } σ H) (k : ∀ σ' H', M σ' H' → tz D σ' H') : tSeq tu tz D σ H := h _ k
/-- a call, by its promise -/
theorem q_callS {sp : Sp} {vs : List V} {E : L2.St → XK} {ta : TA} {i : Nat} {tz : TS} (h : EvA ta σ H vs) (k : ∀ H1, Ex H H1 → sp vs H1 (fun v H2 => tz D (σ.set i (some v)) H2) (E σ)) : tSeq (tAsg (tCallS sp E ta) (gName i)) tz D σ H := h H (Ex.refl H) _ k
theorem s_callS {sp : Sp} {vs : List V} {E : L2.St → XK} {ta : TA} {i : Nat} (h : EvA ta σ H vs) (k : ∀ H1, Ex H H1 → sp vs H1 (fun v H2 => D.nx (σ.set i (some v)) H2) (E σ)) : tAsg (tCallS sp E ta) (gName i) D σ H := h H (Ex.refl H) _ k
theorem s_retS {sp : Sp} {vs : List V} {E : L2.St → XK} {ta : TA} (h : EvA ta σ H vs) (k : ∀ H1, Ex H H1 → sp vs H1 D.rt (E σ)) : tRet (tCallS sp E ta) D σ H := h H (Ex.refl H) _ k
theorem q_dropS {sp : Sp} {vs : List V} {E : L2.St → XK} {ta : TA} {tz : TS} (h : EvA ta σ H vs) (k : ∀ H1, Ex H H1 → sp vs H1 (fun _ H2 => tz D σ H2) (E σ)) : tSeq (tDrop (tCallS sp E ta)) tz D σ H := h H (Ex.refl H) _ k
theorem ev_neg {i : Int} (h : Ev ta σ H (.int i)) : Ev (tUn rNegA ta) σ H (.int (-i)) := ev_un h ru_neg
theorem ev_chainLL {i j k : Int} (ha : Ev ta σ H (.int i)) (hb : Ev tb σ H (.int j)) (hc : Ev tx σ H (.int k)) : Ev (tChain rLeA rLeA ta tb tx) σ H (.bl (decide (i ≤ j) && decide (j ≤ k))) :=
  ev_chainI (g := fun a b => decide (a ≤ b)) (g' := fun a b => decide (a ≤ b)) ha hb hc
theorem ev_chainLt {i j k : Int} (ha : Ev ta σ H (.int i)) (hb : Ev tb σ H (.int j)) (hc : Ev tx σ H (.int k)) : Ev (tChain rLeA rLtA ta tb tx) σ H (.bl (decide (i ≤ j) && decide (j < k))) :=
  ev_chainI (g := fun a b => decide (a ≤ b)) (g' := fun a b => decide (a < b)) ha hb hc
end
end Z

set_option Elab.async false
set_option linter.all false
set_option autoImplicit false
set_option maxRecDepth 100000
set_option maxHeartbeats 4000000
namespace Z
open PySem PySem.Spec PyProof.Rows L2 Evl
/-! ### data: what stands at a value, through and through -/
def kD : Key → PyData
  | .inl i => .int i
  | .inr x => .str x
mutual
inductive Dt (H : Hp) : V → PyData → Prop
  | non : Dt H .non .none
  | bl (b : Bool) : Dt H (.bl b) (.bool b)
  | int (i : Int) : Dt H (.int i) (.int i)
  | str (x : Str) : Dt H (.str x) (.str x)
  | lst {a : Addr} {xs : List V} {ds : List PyData} : H a = some (.lst xs) → DtAll H xs ds → Dt H (.ref a) (.list ds)
  | tup {a : Addr} {xs : List V} {ds : List PyData} : H a = some (.tup xs) → DtAll H xs ds → Dt H (.ref a) (.tuple ds)
  | dct {a : Addr} {kvs : List (Key × V)} {ds : List PyData} : H a = some (.dK kvs) → DtAll H (kvs.map (·.2)) ds → Dt H (.ref a) (.dict ((kvs.map fun kv => kD kv.1).zip ds))
inductive DtAll (H : Hp) : List V → List PyData → Prop
  | nil : DtAll H [] []
  | cons {v : V} {vs : List V} {d : PyData} {ds : List PyData} : Dt H v d → DtAll H vs ds → DtAll H (v :: vs) (d :: ds)
end
mutual
theorem Dt.ex {H H' : Hp} (e : Ex H H') : ∀ {v : V} {d : PyData}, Dt H v d → Dt H' v d
  | _, _, .non => .non
  | _, _, .bl b => .bl b
  | _, _, .int i => .int i
  | _, _, .str x => .str x
  | _, _, .lst h r => .lst (e _ _ h) (DtAll.ex e r)
  | _, _, .tup h r => .tup (e _ _ h) (DtAll.ex e r)
  | _, _, .dct h r => .dct (e _ _ h) (DtAll.ex e r)
theorem DtAll.ex {H H' : Hp} (e : Ex H H') : ∀ {vs : List V} {ds : List PyData}, DtAll H vs ds → DtAll H' vs ds
  | _, _, .nil => .nil
  | _, _, .cons a r => .cons (Dt.ex e a) (DtAll.ex e r)
end
mutual
def noDict : PyData → Bool
  | .list ds => noDicts ds
  | .tuple ds => noDicts ds
  | .dict _ => false
  | _ => true
def noDicts : List PyData → Bool
  | [] => true
  | d :: ds => noDict d && noDicts ds
end
mutual
theorem Dt.dp {K : PySem.W.Frag} {H : Hp} : ∀ {v : V} {d : PyData}, Dt H v d → noDict d = true → Dp K H v d
  | _, _, .non, _ => .non
  | _, _, .bl b, _ => .bl b
  | _, _, .int i, _ => .int i
  | _, _, .str x, _ => .str x
  | _, _, .lst h r, n => .lst (SqL.of h) (DtAll.dp r (by simpa [noDict] using n))
  | _, _, .tup h r, n => .tup (SqT.of h) (DtAll.dp r (by simpa [noDict] using n))
  | _, _, .dct h r, n => by simp [noDict] at n
theorem DtAll.dp {K : PySem.W.Frag} {H : Hp} : ∀ {vs : List V} {ds : List PyData}, DtAll H vs ds → noDicts ds = true → DpAll K H vs ds
  | _, _, .nil, _ => .nil
  | _, _, .cons a r, n => by
    simp only [noDicts, Bool.and_eq_true] at n
    exact .cons (Dt.dp a n.1) (DtAll.dp r n.2)
end
theorem DtAll.length {H : Hp} : ∀ {vs : List V} {ds : List PyData}, DtAll H vs ds → vs.length = ds.length
  | _, _, .nil => rfl
  | _, _, .cons _ r => by rw [List.length_cons, List.length_cons, r.length]
theorem DtAll.get {H : Hp} : ∀ {vs : List V} {ds : List PyData} {i : Nat} {d : PyData}, DtAll H vs ds → ds[i]? = some d → ∃ v, vs[i]? = some v ∧ Dt H v d
  | _, _, i, d, .nil, h => by simp at h
  | _, _, 0, d, .cons (v := v) a r, h => by
    rw [List.getElem?_cons_zero] at h
    cases h
    exact ⟨v, rfl, a⟩
  | _, _, i + 1, d, .cons a r, h => by
    obtain ⟨v, h1, h2⟩ := r.get (i := i) (d := d) (by simpa using h)
    exact ⟨v, by simpa using h1, h2⟩
theorem DtAll.getV {H : Hp} : ∀ {vs : List V} {ds : List PyData} {i : Nat} {v : V}, DtAll H vs ds → vs[i]? = some v → ∃ d, ds[i]? = some d ∧ Dt H v d
  | _, _, i, d, .nil, h => by simp at h
  | _, _, 0, v, .cons (d := d) a r, h => by
    rw [List.getElem?_cons_zero] at h
    cases h
    exact ⟨d, rfl, a⟩
  | _, _, i + 1, v, .cons a r, h => by
    obtain ⟨d, h1, h2⟩ := r.getV (i := i) (v := v) (by simpa using h)
    exact ⟨d, by simpa using h1, h2⟩
theorem DtAll.append {H : Hp} : ∀ {vs ws : List V} {ds es : List PyData}, DtAll H vs ds → DtAll H ws es → DtAll H (vs ++ ws) (ds ++ es)
  | _, _, _, _, .nil, s => s
  | _, _, _, _, .cons a r, s => .cons a (r.append s)
theorem atI_dt {H : Hp} {vs : List V} {ds : List PyData} {i : Int} {d : PyData} (h : DtAll H vs ds) (a : atI ds i = some d) : ∃ v, atI vs i = some v ∧ Dt H v d := by
  unfold atI at a ⊢
  rw [h.length]
  cases q : ixN ds.length i with
  | none => rw [q] at a; cases a
  | some j =>
    rw [q] at a
    exact h.get (show ds[j]? = some d from a)
/-! ### data of a size and depth that is compared -/
structure okS (z : Str) : Prop where
  len : z.length ≤ 30000
  cps : z.cps.all (· < 1114112) = true
theorem okS.app {x y : Str} (hx : okS x) (hy : okS y) (h : x.length + y.length ≤ 30000) : okS (x ++ y) := by
  refine ⟨by rw [Str.length_append]; exact h, ?_⟩
  show (x.cps ++ y.cps).all (· < 1114112) = true
  rw [Array.all_append, hx.cps, hy.cps]
  rfl
theorem okS_S {l : List Nat} (h : l.length ≤ 30000) (hc : ∀ c ∈ l, c < 128) : okS (SX.S l) := by
  refine ⟨by rw [SX.S_len]; exact h, ?_⟩
  show l.toArray.all (· < 1114112) = true
  rw [List.all_toArray]
  exact List.all_eq_true.mpr fun c h => decide_eq_true (by have := hc c h; omega)
theorem S_of (z : Str) : SX.S z.cps.toList = z := SX.S_tl z
theorem okS_of {z : Str} (h : z.length ≤ 30000) (hc : ∀ c ∈ z.cps.toList, c < 128) : okS z := by
  have q : z.cps.toList.length ≤ 30000 := by
    have e : z.cps.toList.length = z.length := by simp [Str.length]
    omega
  have := okS_S q hc
  rw [S_of] at this
  exact this
mutual
def okN : Nat → PyData → Prop
  | _, .str z => okS z
  | n + 1, .list ds => okNs n ds
  | n + 1, .tuple ds => okNs n ds
  | 0, .list _ => False
  | 0, .tuple _ => False
  | _, .dict _ => False
  | _, .none => True
  | _, .bool _ => True
  | _, .int _ => True
def okNs : Nat → List PyData → Prop
  | _, [] => True
  | n, d :: ds => okN n d ∧ okNs n ds
end
theorem okNs_iff {n : Nat} : ∀ {ds : List PyData}, okNs n ds ↔ ∀ d ∈ ds, okN n d
  | [] => by simp [okNs]
  | d :: ds => by
    rw [okNs, okNs_iff]
    simp
mutual
theorem okN_lay : ∀ (n : Nat) (d : PyData), okN n d → d.canLay0 = true ∧ d.depth ≤ n + 1 ∧ noDict d = true
  | n, .str z, h => by
    rw [okN] at h
    refine ⟨?_, by simp [PyData.depth], by simp [noDict]⟩
    simp only [PyData.canLay0]
    exact h.cps
  | n + 1, .list ds, h => by
    rw [okN] at h
    have := okNs_lay n ds h
    refine ⟨by simp only [PyData.canLay0]; exact this.1, ?_, by simp only [noDict]; exact this.2.2⟩
    have := this.2.1
    simp only [PyData.depth]
    omega
  | n + 1, .tuple ds, h => by
    rw [okN] at h
    have := okNs_lay n ds h
    refine ⟨by simp only [PyData.canLay0]; exact this.1, ?_, by simp only [noDict]; exact this.2.2⟩
    have := this.2.1
    simp only [PyData.depth]
    omega
  | 0, .list _, h => by rw [okN] at h; exact h.elim
  | 0, .tuple _, h => by rw [okN] at h; exact h.elim
  | _, .dict _, h => by rw [okN] at h; exact h.elim
  | _, .none, _ => ⟨by simp [PyData.canLay0], by simp [PyData.depth], by simp [noDict]⟩
  | _, .bool _, _ => ⟨by simp [PyData.canLay0], by simp [PyData.depth], by simp [noDict]⟩
  | _, .int _, _ => ⟨by simp [PyData.canLay0], by simp [PyData.depth], by simp [noDict]⟩
theorem okNs_lay : ∀ (n : Nat) (ds : List PyData), okNs n ds → PyData.canLayAll0 ds = true ∧ PyData.depthAll ds ≤ n + 1 ∧ noDicts ds = true
  | _, [], _ => ⟨by simp [PyData.canLayAll0], by simp [PyData.depthAll], by simp [noDicts]⟩
  | n, d :: ds, h => by
    rw [okNs] at h
    have h1 := okN_lay n d h.1
    have h2 := okNs_lay n ds h.2
    refine ⟨by simp only [PyData.canLayAll0, h1.1, h2.1, Bool.and_self], ?_, by simp only [noDicts, h1.2.2, h2.2.2, Bool.and_self]⟩
    have := h1.2.1
    have := h2.2.1
    simp only [PyData.depthAll]
    omega
end
/-- at most ten deep, no dict, texts of at most 30,000 signs -/
def okD (d : PyData) : Prop := okN 10 d
theorem okD.shaped {d : PyData} (h : okD d) : SeqAt.shaped d = true := by
  have := okN_lay 10 d h
  unfold SeqAt.shaped
  rw [this.1, Bool.true_and]
  exact decide_eq_true (by omega)
theorem okD.nd {d : PyData} (h : okD d) : noDict d = true := (okN_lay 10 d h).2.2
/-- the built-in type of data -/
def kindD : PyData → String
  | .none => "NoneType"
  | .bool _ => "bool"
  | .int _ => "int"
  | .str _ => "str"
  | .list _ => "list"
  | .tuple _ => "tuple"
  | .dict _ => "dict"
theorem Dt.ty {H : Hp} {v : V} {d : PyData} (h : Dt H v d) : tyN H v = some (kindD d) := by
  cases h with
  | non => rfl
  | bl b => rfl
  | int i => rfl
  | str x => rfl
  | lst e r => show tyO (H _) = _; rw [e]; rfl
  | tup e r => show tyO (H _) = _; rw [e]; rfl
  | dct e r => show tyO (H _) = _; rw [e]; rfl

/-! ### expressions that evaluate to data -/
def EvD (te : TE) (σ : L2.St) (H : Hp) (d : PyData) : Prop := ∀ H1, Ex H H1 → ∀ Q : VK, (∀ v H2, Ex H1 H2 → Dt H2 v d → Q v H2) → te σ H1 Q
def EvDs (ta : TA) (σ : L2.St) (H : Hp) (ds : List PyData) : Prop := ∀ H1, Ex H H1 → ∀ Q : List V → Hp → Prop, (∀ vs H2, Ex H1 H2 → DtAll H2 vs ds → Q vs H2) → ta σ H1 Q
section
variable {K : PySem.W.Frag} {σ : L2.St} {H H' : Hp} {ta tb te tx : TE} {tas : TA} {t u : TT} {x y z v : V} {d e : PyData} {ds es : List PyData} {D : Ends} {tu tw tz : TS}
theorem EvD.mono (e0 : Ex H H') (h : EvD te σ H d) : EvD te σ H' d := fun H1 a Q q => h H1 (e0.trans a) Q q
theorem ed_ev (h : Ev te σ H v) (r : Dt H v d) : EvD te σ H d := fun H1 e0 Q q => h H1 e0 _ fun H2 e2 => q v H2 e2 (r.ex (e0.trans e2))
theorem ed_i {i : Int} (h : Ev te σ H (.int i)) : EvD te σ H (.int i) := ed_ev h (.int i)
theorem ed_s {i : Str} (h : Ev te σ H (.str i)) : EvD te σ H (.str i) := ed_ev h (.str i)
theorem ed_b {i : Bool} (h : Ev te σ H (.bl i)) : EvD te σ H (.bool i) := ed_ev h (.bl i)
theorem ed_n (h : Ev te σ H .non) : EvD te σ H .none := ed_ev h .non
theorem ed_var {i : Nat} (h : σ[i]? = some (some v)) (r : Dt H v d) : EvD (tVar i) σ H d := ed_ev (ev_var h) r
theorem eds_nil : EvDs tNil σ H [] := fun H1 _ _ q => q [] H1 (Ex.refl H1) .nil
theorem eds_cons (h : EvD ta σ H d) (r : EvDs tas σ H ds) : EvDs (tCons ta tas) σ H (d :: ds) := fun H1 e0 Q q =>
  h H1 e0 _ fun v H2 e2 hv => r H2 (e0.trans e2) _ fun vs H3 e3 hvs => q _ H3 (e2.trans e3) (.cons (hv.ex e3) hvs)
theorem ed_lst (h : EvDs tas σ H ds) (hl : ds.length ≤ 100000 := by simp only [List.length_cons, List.length_nil, List.length_append]; omega) : EvD (tLst tas) σ H (.list ds) := fun H1 e0 Q q =>
  h H1 e0 _ fun vs H2 e2 hvs => ⟨sz_of (by rw [hvs.length]; exact hl), fun p hp => q _ _ (e2.trans (Ex.new hp)) (.lst upd_same (hvs.ex (Ex.new hp)))⟩
theorem ed_tup (h : EvDs tas σ H ds) (hl : ds.length ≤ 100000 := by simp only [List.length_cons, List.length_nil, List.length_append]; omega) : EvD (tTup tas) σ H (.tuple ds) := fun H1 e0 Q q =>
  h H1 e0 _ fun vs H2 e2 hvs => ⟨sz_of (by rw [hvs.length]; exact hl), fun p hp => q _ _ (e2.trans (Ex.new hp)) (.tup upd_same (hvs.ex (Ex.new hp)))⟩
theorem ed_dnew : EvD tDNewK σ H (.dict []) := fun H1 _ Q q p hp => q _ _ (Ex.new hp) (.dct (kvs := []) (ds := []) upd_same .nil)
theorem ed_ixL {i : Int} (h : EvD ta σ H (.list ds)) (hi : Ev tb σ H (.int i)) (a : atI ds i = some d) : EvD (tOp (rIxA K) ta tb) σ H d := fun H1 e0 Q q =>
  h H1 e0 _ fun v H2 e2 hv => hi H2 (e0.trans e2) _ fun H3 e3 => by
    cases hv with
    | lst hl r =>
      obtain ⟨w, h1, h2⟩ := atI_dt r a
      exact .inl (.inl ⟨_, _, i, w, rfl, rfl, SqL.of (e3 _ _ hl), h1, q w H3 (e2.trans e3) (h2.ex e3)⟩)
theorem ed_ixT {i : Int} (h : EvD ta σ H (.tuple ds)) (hi : Ev tb σ H (.int i)) (a : atI ds i = some d) : EvD (tOp (rIxA K) ta tb) σ H d := fun H1 e0 Q q =>
  h H1 e0 _ fun v H2 e2 hv => hi H2 (e0.trans e2) _ fun H3 e3 => by
    cases hv with
    | tup hl r =>
      obtain ⟨w, h1, h2⟩ := atI_dt r a
      exact .inl (.inr (.inl ⟨_, _, i, w, rfl, rfl, SqT.of (e3 _ _ hl), h1, q w H3 (e2.trans e3) (h2.ex e3)⟩))
theorem ed_catL (h : EvD ta σ H (.list ds)) (h2 : EvD tb σ H (.list es)) (hl : ds.length + es.length ≤ 100000 := by simp only [List.length_cons, List.length_nil, List.length_append]; omega) : EvD (tOp (rAddA K) ta tb) σ H (.list (ds ++ es)) := fun H1 e0 Q q =>
  h H1 e0 _ fun v H2 e2 hv => h2 H2 (e0.trans e2) _ fun w H3 e3 hw => by
    cases hv with
    | lst hv r =>
      cases hw with
      | lst hw r2 => exact .inr (.inr (.inl ⟨_, _, _, _, rfl, rfl, e3 _ _ hv, hw, sz_of (by rw [r.length, r2.length]; exact hl), fun p hp => q _ _ ((e2.trans e3).trans (Ex.new hp)) (.lst upd_same (((r.ex e3).append r2).ex (Ex.new hp)))⟩))
theorem ev_eqD (h : EvD ta σ H d) (h2 : EvD tb σ H e) (od : okD d) (oe : okD e) : Ev (tOp (rEqA K) ta tb) σ H (.bl (PyData.eqv d e)) := fun H1 e0 Q q =>
  h H1 e0 _ fun v H2 e2 hv => h2 H2 (e0.trans e2) _ fun w H3 e3 hw => .inr (.inl ⟨d, e, (hv.ex e3).dp od.nd, hw.dp oe.nd, od.shaped, oe.shaped, q H3 (e2.trans e3)⟩)
theorem ev_neD (h : EvD ta σ H d) (h2 : EvD tb σ H e) (od : okD d) (oe : okD e) : Ev (tOp (rNeA K) ta tb) σ H (.bl (!PyData.eqv d e)) := fun H1 e0 Q q =>
  h H1 e0 _ fun v H2 e2 hv => h2 H2 (e0.trans e2) _ fun w H3 e3 hw => .inr (.inl ⟨d, e, (hv.ex e3).dp od.nd, hw.dp oe.nd, od.shaped, oe.shaped, q H3 (e2.trans e3)⟩)
theorem ev_isD {c : String} (ha : EvD ta σ H d) (hc : c ∈ asked := by decide) : Ev (tCB (rIsiA K) (tCons ta (tCons (tC (.ty c)) tNil))) σ H (.bl (isiB (kindD d) c)) := fun H1 e0 Q q =>
  ha H1 e0 _ fun v H2 e2 hv => rc_isi (hv.ty) hc H2 (Ex.refl H2) Q fun H3 e3 => q H3 (e2.trans e3)
theorem s_asgD {i : Nat} (h : EvD te σ H d) (k : ∀ v H1, Ex H H1 → Dt H1 v d → D.nx (σ.set i (some v)) H1) : tAsg te (gName i) D σ H := h H (Ex.refl H) _ fun v H1 e1 hv => k v H1 e1 hv
theorem q_asgD {i : Nat} (h : EvD te σ H d) (k : ∀ v H1, Ex H H1 → Dt H1 v d → tz D (σ.set i (some v)) H1) : tSeq (tAsg te (gName i)) tz D σ H := s_asgD (D := { D with nx := tz D }) h k
theorem s_retD (h : EvD te σ H d) (k : ∀ v H1, Ex H H1 → Dt H1 v d → D.rt v H1) : tRet te D σ H := h H (Ex.refl H) _ k
/-- promises about data: arguments ds in, d out -/
def RetD (d : PyData) (H : Hp) (Q : VK) : Prop := ∀ v H2, Ex H H2 → Dt H2 v d → Q v H2
/-- a def from data to data, by a function -/
def spD (n : Nat) (pre : List PyData → Prop) (f : List PyData → PyData) : Sp := fun vs H Q _ => ∃ ds, ds.length = n ∧ DtAll H vs ds ∧ pre ds ∧ RetD (f ds) H Q
theorem ed_callS {n : Nat} {pre : List PyData → Prop} {f : List PyData → PyData} {E : L2.St → XK} {ta : TA} (h : EvDs ta σ H ds) (hn : ds.length = n) (hp : pre ds) : EvD (tCallS (spD n pre f) E ta) σ H (f ds) := fun H1 e0 Q q =>
  h H1 e0 _ fun vs H2 e2 hvs => ⟨ds, hn, hvs, hp, fun v H3 e3 hv => q v H3 (e2.trans e3) hv⟩
theorem ed_call {n : Nat} {pre : List PyData → Prop} {f : List PyData → PyData} {E : XK} {ta : TA} (h : EvDs ta σ H ds) (hn : ds.length = n) (hp : pre ds) : EvD (tCall (spD n pre f) [] E ta) σ H (f ds) := fun H1 e0 Q q =>
  h H1 e0 _ fun vs H2 e2 hvs => ⟨ds, hn, by rw [List.append_nil]; exact hvs, hp, fun v H3 e3 hv => q v H3 (e2.trans e3) hv⟩
theorem Dt.i {v : V} {i : Int} (h : Dt H v (.int i)) : v = .int i := by cases h; rfl
theorem Dt.s {v : V} {i : Str} (h : Dt H v (.str i)) : v = .str i := by cases h; rfl
theorem Dt.b {v : V} {i : Bool} (h : Dt H v (.bool i)) : v = .bl i := by cases h; rfl
theorem Dt.n {v : V} (h : Dt H v .none) : v = .non := by cases h; rfl
theorem ev_i {i : Int} (h : EvD te σ H (.int i)) : Ev te σ H (.int i) := fun H1 e0 Q q => h H1 e0 _ fun v H2 e2 hv => by rw [hv.i]; exact q H2 e2
theorem ev_s {i : Str} (h : EvD te σ H (.str i)) : Ev te σ H (.str i) := fun H1 e0 Q q => h H1 e0 _ fun v H2 e2 hv => by rw [hv.s]; exact q H2 e2
theorem ev_b {i : Bool} (h : EvD te σ H (.bool i)) : Ev te σ H (.bl i) := fun H1 e0 Q q => h H1 e0 _ fun v H2 e2 hv => by rw [hv.b]; exact q H2 e2
theorem ev_n (h : EvD te σ H .none) : Ev te σ H .non := fun H1 e0 Q q => h H1 e0 _ fun v H2 e2 hv => by rw [hv.n]; exact q H2 e2
end
end Z

set_option Elab.async false
set_option linter.all false
set_option autoImplicit false
set_option maxRecDepth 100000
set_option maxHeartbeats 4000000
/-! ev: what an expression comes to, by its form -/
local macro_rules | `(tactic| k_places) => `(tactic| (repeat' (first
  | (with_reducible exact ev_c)
  | (with_reducible exact ev_var rfl)
  | (with_reducible refine ev_chainLL ?_ ?_ ?_)
  | (with_reducible refine ev_chainLt ?_ ?_ ?_)
  | (with_reducible refine ev_op ?_ ?_ ?_)
  | (with_reducible refine ev_neg ?_)
  | (with_reducible refine et_test ?_)
  | (with_reducible refine et_B ?_)
  | (with_reducible refine et_not ?_)
  | (with_reducible refine et_and ?_ (fun _ => ?_))
  | (with_reducible refine et_or ?_ (fun _ => ?_))
  | (with_reducible refine ev_andV ?_ (fun _ => ?_))
  | (with_reducible refine ev_orV ?_ (fun _ => ?_))
  | (with_reducible refine ev_notV ?_)
  | (with_reducible exact rv_addI)
  | (with_reducible exact rv_subI)
  | (with_reducible exact rv_lt)
  | (with_reducible exact rv_le)
  | (with_reducible exact rv_gt)
  | (with_reducible exact rv_ge)
  | (with_reducible exact rv_isB)
  | (with_reducible exact rv_isnB)
  | (with_reducible exact rv_isN)
  | (with_reducible exact rv_isnN)
  | (with_reducible exact rv_eqS rfl)
  | (with_reducible exact rv_neS rfl)
  | (with_reducible exact rv_inStr)
  | (with_reducible exact rv_ninStr)
  | (with_reducible exact rv_mod (by first | decide | omega | assumption))
  | (with_reducible exact rv_div (by first | decide | omega | assumption))
  | (with_reducible exact rv_pow (by decide))
  | (with_reducible refine ed_i ?_; done)
  | (with_reducible exact ea_nil)
  | (with_reducible refine ea_cons ?_ ?_)
  | (with_reducible exact eds_nil)
  | (with_reducible refine eds_cons ?_ ?_)
  | (with_reducible exact ed_dnew)
  | (with_reducible refine ed_lst ?_ (by simp only [List.length_cons, List.length_nil]; omega))
  | (with_reducible refine ed_tup ?_ (by simp only [List.length_cons, List.length_nil]; omega)))))
namespace Z
open PySem PySem.Spec PyProof.Rows L2 Evl
/-! ### values.py -/
def lets : List Nat := ("abcdefghijklmnopqrstuvwxyz" : Str).cps.toList
def isName (z : Str) : Bool := decide (1 ≤ z.length ∧ z.length ≤ 8) && z.cps.toList.all fun c => decide (c ∈ lets)
def isWholeD (d : PyData) : Bool := kindD d == "int"
def isNameD : PyData → Bool
  | .str z => isName z
  | _ => false
def isFaultD : PyData → Bool
  | .tuple [.str f, w] => decide (f = ("fault" : Str)) && isNameD w
  | _ => false
def isNumD : PyData → Bool
  | .int i => decide (-(10 ^ 60) < i ∧ i < 10 ^ 60)
  | _ => false
def isValueD (d : PyData) : Bool := isNumD d || isFaultD d
def short : PyData → Prop
  | .str z => z.length ≤ 30000
  | _ => True
def short2 : PyData → Prop
  | .tuple [_, w] => short w
  | _ => True
/-- a def of one argument -/
def sp1 (pre : PyData → Prop) (f : PyData → PyData) : Sp := spD 1 (fun ds => pre (ds.getD 0 .none)) (fun ds => f (ds.getD 0 .none))
theorem sp1_open {pre : PyData → Prop} {f : PyData → PyData} {vs : List V} {H : Hp} {Q : VK} {E : XK} (h : sp1 pre f vs H Q E) : ∃ v d, vs = [v] ∧ Dt H v d ∧ pre d ∧ RetD (f d) H Q := by
  obtain ⟨ds, hn, ha, hp, k⟩ := h
  cases ha with
  | nil => cases hn
  | cons a r =>
    cases r with
    | nil => exact ⟨_, _, rfl, a, hp, k⟩
    | cons _ _ => simp at hn
def sp_is_whole (K : PySem.W.Frag) : Sp := sp1 (fun _ => True) fun d => .bool (isWholeD d)
def sp_is_name (K : PySem.W.Frag) : Sp := sp1 short fun d => .bool (isNameD d)
def sp_is_fault (K : PySem.W.Frag) : Sp := sp1 short2 fun d => .bool (isFaultD d)
def sp_is_number (K : PySem.W.Frag) : Sp := sp1 (fun _ => True) fun d => .bool (isNumD d)
def sp_is_value (K : PySem.W.Frag) : Sp := sp1 short2 fun d => .bool (isValueD d)
def t_is_whole (K : PySem.W.Frag) (E : XK) : TS :=
  tRet (tAndV (tCB (rIsiA K) (tCons (tVar 0) (tCons (tC (.ty "int")) tNil))) (tNotV (tCB (rIsiA K) (tCons (tVar 0) (tCons (tC (.ty "bool")) tNil)))))
def t_is_name (K : PySem.W.Frag) (E : XK) : TS :=
  tSeq (tIfS (tOr (tNot (tB (tCB (rIsiA K) (tCons (tVar 0) (tCons (tC (.ty "str")) tNil))))) (tNot (tTest (tChain rLeA rLeA (tC (.int 1)) (tCB (rLenA K) (tCons (tVar 0) tNil)) (tC (.int 8)))))) (tRet (tC (.bl false))) tNext)
    (tRet (tCB (rAll K) (tCons (tLc (iStr (tVar 0)) (gName 1) tYes (tOp (rInA K) (tVar 1) (tC (.str "abcdefghijklmnopqrstuvwxyz"))) [1]) tNil)))
def t_is_fault (K : PySem.W.Frag) (E : XK) : TS :=
  tSeq (tIfS (tOr (tNot (tB (tCB (rIsiA K) (tCons (tVar 0) (tCons (tC (.ty "tuple")) tNil))))) (tTest (tOp (rNeA K) (tCB (rLenA K) (tCons (tVar 0) tNil)) (tC (.int 2))))) (tRet (tC (.bl false))) tNext)
    (tRet (tAndV (tCB (rIsiA K) (tCons (tOp (rIxA K) (tVar 0) (tC (.int 0))) (tCons (tC (.ty "str")) tNil))) (tAndV (tOp (rEqA K) (tOp (rIxA K) (tVar 0) (tC (.int 0))) (tC (.str "fault"))) (tCallS (sp_is_name K) (WE fun cls d _ H => E cls d H) (tCons (tOp (rIxA K) (tVar 0) (tC (.int 1))) tNil)))))
def t_is_number (K : PySem.W.Frag) (E : XK) : TS :=
  tRet (tAndV (tCallS (sp_is_whole K) (WE fun cls d _ H => E cls d H) (tCons (tVar 0) tNil)) (tOp rLtA (tCB rAbsA (tCons (tVar 0) tNil)) (tOp rPowA (tC (.int 10)) (tC (.int 60)))))
def t_is_value (K : PySem.W.Frag) (E : XK) : TS :=
  tRet (tOrV (tCallS (sp_is_number K) (WE fun cls d _ H => E cls d H) (tCons (tVar 0) tNil)) (tCallS (sp_is_fault K) (WE fun cls d _ H => E cls d H) (tCons (tVar 0) tNil)))
section
variable {K : PySem.W.Frag} {σ : L2.St} {H H' : Hp} {te : TE} {d : PyData} {E : L2.St → XK}
theorem ed_sp1 {pre : PyData → Prop} {f : PyData → PyData} (h : EvD te σ H d) (hp : pre d) : EvD (tCallS (sp1 pre f) E (tCons te tNil)) σ H (f d) := ed_callS (ds := [d]) (eds_cons h eds_nil) rfl hp
theorem ev_spB {pre : PyData → Prop} {g : PyData → Bool} (h : EvD te σ H d) (hp : pre d) : Ev (tCallS (sp1 pre fun d => .bool (g d)) E (tCons te tNil)) σ H (.bl (g d)) := ev_b (ed_sp1 h hp)
end
theorem r_is_whole {K : PySem.W.Frag} (vs : List V) (H : Hp) (Q : VK) (E : XK) (h : sp_is_whole K vs H Q E) : t_is_whole K E { nx := fun _ H' => Q .non H', rt := Q } (L2.start ["thing"] vs) H := by
  obtain ⟨v, d, rfl, r, -, k⟩ := sp1_open h
  unfold t_is_whole
  refine s_ret (v := .bl (isWholeD d)) (ev_is (ev_andV (ev_isD (ed_var rfl r)) fun _ => ev_notV (ev_isD (ed_var rfl r))) ?_) fun H1 e1 => k _ H1 e1 (.bl _)
  cases d <;> rfl
theorem r_is_number {K : PySem.W.Frag} (vs : List V) (H : Hp) (Q : VK) (E : XK) (h : sp_is_number K vs H Q E) : t_is_number K E { nx := fun _ H' => Q .non H', rt := Q } (L2.start ["thing"] vs) H := by
  obtain ⟨v, d, rfl, r, -, k⟩ := sp1_open h
  unfold t_is_number
  refine s_ret (v := .bl (isNumD d)) ?_ fun H1 e1 => k _ H1 e1 (.bl _)
  by_cases hi : ∃ i, d = .int i
  · obtain ⟨i, rfl⟩ := hi
    obtain rfl := r.i
    refine ev_is (ev_andV (ev_spB (ed_var rfl r) trivial) fun _ => ev_op (ev_cb (ea_cons (ev_var rfl) ea_nil) rc_abs) (ev_op ev_c ev_c (rv_pow (by decide))) rv_lt) ?_
    have e : ((10 : Int) ^ (60 : Int).toNat) = 10 ^ 60 := rfl
    rw [e]
    show V.bl (true && decide ((if i < 0 then -i else i) < 10 ^ 60)) = V.bl (decide (-(10 ^ 60) < i ∧ i < 10 ^ 60))
    rw [Bool.true_and]
    congr 1
    refine decide_eq_decide.mpr ?_
    split <;> omega
  · have e1 : isNumD d = false := by
      cases d <;> first | rfl | exact absurd ⟨_, rfl⟩ hi
    have e2 : isWholeD d = false := by
      cases d <;> first | rfl | exact absurd ⟨_, rfl⟩ hi
    rw [e1]
    refine ev_is (v := .bl (isWholeD d && false)) (ev_andV (ev_spB (ed_var rfl r) trivial) fun z => ?_) (by rw [e2]; rfl)
    rw [e2] at z
    cases z
theorem r_is_name {K : PySem.W.Frag} (vs : List V) (H : Hp) (Q : VK) (E : XK) (h : sp_is_name K vs H Q E) : t_is_name K E { nx := fun _ H' => Q .non H', rt := Q } (L2.start ["thing", "sign"] vs) H := by
  obtain ⟨v, d, rfl, r, hs, k⟩ := sp1_open h
  unfold t_is_name
  by_cases hz : ∃ z, d = .str z
  · obtain ⟨z, rfl⟩ := hz
    obtain rfl := r.s
    have hs : z.length ≤ 30000 := hs
    refine q_when (b := !(decide ((1 : Int) ≤ z.length) && decide ((z.length : Int) ≤ 8))) (et_is (et_or (et_not (et_B (ev_isD (ed_var rfl r)))) fun _ => et_not (et_test (ev_chainLL ev_c (ev_lenV (ev_var rfl) (rc_lenS (by omega))) ev_c))) (by rfl)) (fun hb H1 e1 => ?_) fun hb H1 e1 => ?_
    · refine s_ret ev_c fun H2 e2 => ?_
      have : isNameD (.str z) = false := by
        show (decide (1 ≤ z.length ∧ z.length ≤ 8) && _) = false
        have h1 : ¬ (1 ≤ z.length ∧ z.length ≤ 8) := by
          intro hh
          rw [decide_eq_true (by omega : (1 : Int) ≤ z.length), decide_eq_true (by omega : (z.length : Int) ≤ 8)] at hb
          cases hb
        rw [decide_eq_false h1, Bool.false_and]
      rw [this] at k
      exact k _ H2 (e1.trans e2) (.bl _)
    · have h1 : 1 ≤ z.length ∧ z.length ≤ 8 := by
        cases q1 : decide ((1 : Int) ≤ z.length) with
        | false => rw [q1] at hb; cases hb
        | true =>
          cases q2 : decide ((z.length : Int) ≤ 8) with
          | false => rw [q1, q2] at hb; cases hb
          | true =>
            have := of_decide_eq_true q1
            have := of_decide_eq_true q2
            omega
      have zl : z.length = z.cps.size := rfl
      have E1 : given z.cps.size (fun _ => true) (fun i => .bl (decide (z.cps.toList.getD i 0 ∈ lets))) = (z.cps.toList.map fun c => decide (c ∈ lets)).map V.bl := by
        unfold given
        rw [List.filter_eq_self.mpr (fun _ _ => rfl), List.map_map]
        apply List.ext_getElem?
        intro i
        rw [List.getElem?_map, List.getElem?_map]
        by_cases hi : i < z.cps.size
        · have hi2 : i < z.cps.toList.length := by simpa using hi
          have e : z.cps.toList[i]? = some (z.cps.toList.getD i 0) := by
            rw [List.getD_eq_getElem?_getD, List.getElem?_eq_getElem hi2]
            rfl
          rw [List.getElem?_range hi, e]
          rfl
        · rw [List.getElem?_eq_none (by simpa using hi), List.getElem?_eq_none (by simpa using hi)]
          rfl
      refine s_ret (v := .bl (isNameD (.str z))) (ev_is (ev_all (bs := z.cps.toList.map fun c => decide (c ∈ lets)) ?_) ?_) fun H2 e2 => k _ H2 (e1.trans e2) (.bl _)
      · rw [← E1]
        refine el_lcS (fun _ => true) _ (ev_var rfl) (by omega) (fun _ => rfl) (fun i c H2 e2 hc => ?_) (fun i c H2 e2 hc _ => ?_)
        · exact fun H3 _ Q q => q H3 (Ex.refl H3)
        · refine ev_is (ev_op (ev_var rfl) ev_c rv_inStr) ?_
          have : z.cps.toList.getD i 0 = c := by
            rw [List.getD_eq_getElem?_getD, Array.getElem?_toList, hc]
            rfl
          rw [this]
          rfl
      · show V.bl ((z.cps.toList.map fun c => decide (c ∈ lets)).all id) = V.bl (decide (1 ≤ z.length ∧ z.length ≤ 8) && z.cps.toList.all fun c => decide (c ∈ lets))
        rw [decide_eq_true h1, Bool.true_and, List.all_map]
        rfl
  · have e1 : isNameD d = false := by
      cases d <;> first | rfl | exact absurd ⟨_, rfl⟩ hz
    have e2 : isiB (kindD d) "str" = false := by
      cases d <;> first | rfl | exact absurd ⟨_, rfl⟩ hz
    refine q_when (b := true) (et_is (b := true) (a := !(isiB (kindD d) "str") || true) (et_or (et_not (et_B (ev_isD (ed_var rfl r)))) fun z => ?_) (by rw [e2]; rfl)) (fun hb H1 e1' => ?_) fun hb => nomatch hb
    · rw [e2] at z
      cases z
    · refine s_ret ev_c fun H2 e2 => ?_
      rw [e1] at k
      exact k _ H2 (e1'.trans e2) (.bl _)
theorem r_is_fault {K : PySem.W.Frag} (vs : List V) (H : Hp) (Q : VK) (E : XK) (h : sp_is_fault K vs H Q E) : t_is_fault K E { nx := fun _ H' => Q .non H', rt := Q } (L2.start ["thing"] vs) H := by
  obtain ⟨v, d, rfl, r, hs, k⟩ := sp1_open h
  unfold t_is_fault
  by_cases hz : ∃ ds, d = .tuple ds
  · obtain ⟨ds, rfl⟩ := hz
    cases r with
    | @tup a xs _ ha r =>
    have el := r.length
    have hl : Ev (tCB (rLenA K) (tCons (tVar 0) tNil)) [some (V.ref a)] H (.int ds.length) := by
      rw [← el]
      exact ev_lenV (ev_var rfl) (rc_lenT (SqT.of ha))
    refine q_when (b := !decide ((ds.length : Int) = 2)) (et_is (et_or (et_not (et_B (ev_isi (n := "tuple") (ev_var rfl) (by show tyO (H a) = _; rw [ha]; rfl)))) fun _ => et_test (ev_op hl ev_c (rv_neS rfl))) ?_) (fun hb H1 e1 => ?_) fun hb H1 e1 => ?_
    · show (false || !decide (V.int ds.length = V.int 2)) = _
      rw [Bool.false_or]
      congr 1
      exact decide_eq_decide.mpr ⟨fun h => V.int.inj h, fun h => by rw [h]⟩
    · refine s_ret ev_c fun H2 e2 => ?_
      have : isFaultD (.tuple ds) = false := by
        unfold isFaultD
        split
        · rename_i q
          cases q
          cases hb
        · rfl
      rw [this] at k
      exact k _ H2 (e1.trans e2) (.bl _)
    · have h2 : ds.length = 2 := by
        cases q : decide ((ds.length : Int) = 2) with
        | false => rw [q] at hb; cases hb
        | true =>
          have := of_decide_eq_true q
          omega
      obtain ⟨f, w, rfl⟩ : ∃ f w, ds = [f, w] := by
        match ds, h2 with
        | [f, w], _ => exact ⟨f, w, rfl⟩
      have D0 : Dt H (.ref a) (.tuple [f, w]) := .tup ha r
      have i0 : EvD (tOp (rIxA K) (tVar 0) (tC (.int 0))) [some (V.ref a)] H f := ed_ixT (ed_var rfl D0) ev_c rfl
      have i1 : EvD (tOp (rIxA K) (tVar 0) (tC (.int 1))) [some (V.ref a)] H w := ed_ixT (ed_var rfl D0) ev_c rfl
      refine s_ret (v := .bl (isFaultD (.tuple [f, w]))) ?_ fun H2 e2 => k _ H2 (e1.trans e2) (.bl _)
      refine Ev.mono e1 ?_
      by_cases hf : ∃ z, f = .str z
      · obtain ⟨z, rfl⟩ := hf
        refine ev_is (ev_andV (ev_isD i0) fun _ => ev_andV (ev_op (ev_s i0) ev_c (rv_eqS rfl)) fun _ => ev_spB i1 hs) ?_
        show V.bl (true && (decide (V.str z = V.str "fault") && isNameD w)) = V.bl (decide (z = ("fault" : Str)) && isNameD w)
        rw [Bool.true_and]
        congr 2
        exact decide_eq_decide.mpr ⟨fun h => V.str.inj h, fun h => by rw [h]⟩
      · have e2 : isiB (kindD f) "str" = false := by
          cases f <;> first | rfl | exact absurd ⟨_, rfl⟩ hf
        refine ev_is (v := .bl (isiB (kindD f) "str" && false)) (ev_andV (ev_isD i0) fun z => ?_) ?_
        · rw [e2] at z
          cases z
        · rw [e2]
          cases f <;> first | rfl | exact absurd ⟨_, rfl⟩ hf
  · have e1 : isFaultD d = false := by
      cases d <;> first | rfl | exact absurd ⟨_, rfl⟩ hz
    have e2 : isiB (kindD d) "tuple" = false := by
      cases d <;> first | rfl | exact absurd ⟨_, rfl⟩ hz
    refine q_when (b := true) (et_is (b := true) (a := !(isiB (kindD d) "tuple") || true) (et_or (et_not (et_B (ev_isD (ed_var rfl r)))) fun z => ?_) (by rw [e2]; rfl)) (fun hb H1 e1' => ?_) fun hb => nomatch hb
    · rw [e2] at z
      cases z
    · refine s_ret ev_c fun H2 e2 => ?_
      rw [e1] at k
      exact k _ H2 (e1'.trans e2) (.bl _)
theorem r_is_value {K : PySem.W.Frag} (vs : List V) (H : Hp) (Q : VK) (E : XK) (h : sp_is_value K vs H Q E) : t_is_value K E { nx := fun _ H' => Q .non H', rt := Q } (L2.start ["thing"] vs) H := by
  obtain ⟨v, d, rfl, r, hs, k⟩ := sp1_open h
  unfold t_is_value
  exact s_ret (v := .bl (isValueD d)) (ev_orV (ev_spB (ed_var rfl r) trivial) fun _ => ev_spB (ed_var rfl r) hs) fun H1 e1 => k _ H1 e1 (.bl _)
end Z

set_option Elab.async false
set_option linter.all false
set_option autoImplicit false
set_option maxRecDepth 100000
set_option maxHeartbeats 4000000
/-! ev: what an expression comes to, by its form -/
local macro_rules | `(tactic| k_places) => `(tactic| (repeat' (first
  | (with_reducible exact ev_c)
  | (with_reducible exact ev_var rfl)
  | (with_reducible refine ev_chainLL ?_ ?_ ?_)
  | (with_reducible refine ev_chainLt ?_ ?_ ?_)
  | (with_reducible refine ev_op ?_ ?_ ?_)
  | (with_reducible refine ev_neg ?_)
  | (with_reducible refine et_test ?_)
  | (with_reducible refine et_B ?_)
  | (with_reducible refine et_not ?_)
  | (with_reducible refine et_and ?_ (fun _ => ?_))
  | (with_reducible refine et_or ?_ (fun _ => ?_))
  | (with_reducible refine ev_andV ?_ (fun _ => ?_))
  | (with_reducible refine ev_orV ?_ (fun _ => ?_))
  | (with_reducible refine ev_notV ?_)
  | (with_reducible exact rv_addI)
  | (with_reducible exact rv_subI)
  | (with_reducible exact rv_lt)
  | (with_reducible exact rv_le)
  | (with_reducible exact rv_gt)
  | (with_reducible exact rv_ge)
  | (with_reducible exact rv_isB)
  | (with_reducible exact rv_isnB)
  | (with_reducible exact rv_isN)
  | (with_reducible exact rv_isnN)
  | (with_reducible exact rv_eqS rfl)
  | (with_reducible exact rv_neS rfl)
  | (with_reducible exact rv_inStr)
  | (with_reducible exact rv_ninStr)
  | (with_reducible exact rv_mod (by first | decide | omega | assumption))
  | (with_reducible exact rv_div (by first | decide | omega | assumption))
  | (with_reducible exact rv_pow (by decide))
  | (with_reducible refine ed_i ?_; done)
  | (with_reducible exact ea_nil)
  | (with_reducible refine ea_cons ?_ ?_)
  | (with_reducible exact eds_nil)
  | (with_reducible refine eds_cons ?_ ?_)
  | (with_reducible exact ed_dnew)
  | (with_reducible refine ed_lst ?_ (by simp only [List.length_cons, List.length_nil]; omega))
  | (with_reducible refine ed_tup ?_ (by simp only [List.length_cons, List.length_nil]; omega)))))
namespace Z
open PySem PySem.Spec PyProof.Rows L2 Evl
/-! ### texts and draws -/
def tJoin (K : PySem.W.Frag) : TE → TE → TE := tM1 (fun x xs H Q => ∃ a p, ∃ ys : List Str, x = .str a ∧ xs = [.ref p] ∧ (SqL K H p (ys.map V.str) ∨ SqT K H p (ys.map V.str)) ∧
      (ys.map (·.length)).sum + ys.length * a.length ≤ 16777216 ∧ Q (.str (Txt.join a ys)) H)
theorem toL_joinL0 : ∀ l : List Nat, TL.joinL [] (l.map fun c => [c]) = l
  | [] => rfl
  | [c] => rfl
  | c :: d :: r => by
    have ih := toL_joinL0 (d :: r)
    show [c] ++ ([] ++ TL.joinL [] ((d :: r).map fun c => [c])) = c :: d :: r
    rw [ih]
    rfl
theorem join_signs (l : List Nat) : Txt.join (SX.S []) (l.map fun c => SX.S [c]) = SX.S l := by
  have h := SX.join_S [] (l.map fun c => [c])
  rw [List.map_map] at h
  rw [toL_joinL0] at h
  exact h
theorem sum_ones (l : List Nat) : ((l.map fun c => SX.S [c]).map (·.length)).sum = l.length := by
  induction l with
  | nil => rfl
  | cons a r ih =>
    rw [List.map_cons, List.map_cons, List.sum_cons, ih, List.length_cons]
    show 1 + r.length = r.length + 1
    omega
theorem atI_emod {α : Type} (l : List α) (x : Int) (d : α) {n : Int} (hn : n = l.length) (h : 0 < n) : atI l (x % n) = some (l.getD (x % n).toNat d) := by
  have h1 := Int.emod_nonneg x (show n ≠ 0 by omega)
  have h2 := Int.emod_lt_of_pos x h
  have hl : (x % n).toNat < l.length := by omega
  have e : x % n = (((x % n).toNat : Nat) : Int) := by omega
  have g : l[(x % n).toNat]? = some (l.getD (x % n).toNat d) := by
    rw [List.getD_eq_getElem?_getD, List.getElem?_eq_getElem hl]
    rfl
  have q := atI_nat g
  rw [← e] at q
  exact q
theorem getD_mem {α : Type} {l : List α} {i : Nat} {d : α} (h : i < l.length) : l.getD i d ∈ l := by
  rw [List.getD_eq_getElem?_getD, List.getElem?_eq_getElem h]
  exact List.getElem_mem h
theorem emod_lt_len {α : Type} {l : List α} (x : Int) {n : Int} (hn : n = l.length) (h : 0 < n) : (x % n).toNat < l.length := by
  have h1 := Int.emod_nonneg x (show n ≠ 0 by omega)
  have h2 := Int.emod_lt_of_pos x h
  omega
theorem emod_bd (x : Int) {n : Int} (h : 0 < n) : 0 ≤ x % n ∧ x % n < n := ⟨Int.emod_nonneg x (by omega), Int.emod_lt_of_pos x h⟩
theorem map_str_S (l : List Nat) : (l.map fun c => SX.S [c]).map V.str = l.map fun c => V.str ⟨#[c]⟩ := by
  rw [List.map_map]
  rfl
section
variable {K : PySem.W.Frag} {σ : L2.St} {H H' : Hp} {ta tb te tx : TE} {D : Ends}
theorem ev_joinP {a : Str} {ys : List Str} {p : Addr} (ha : Ev ta σ H (.str a)) (hb : Ev tb σ H (.ref p)) (hs : H p = some (.lst (ys.map V.str))) (hl : (ys.map (·.length)).sum + ys.length * a.length ≤ 16777216) : Ev (tJoin K ta tb) σ H (.str (Txt.join a ys)) := fun H1 e Q q =>
  ha H1 e _ fun H2 e2 => ⟨⟨a, rfl⟩, hb H2 (e.trans e2) _ fun H3 e3 => ⟨a, p, ys, rfl, rfl, .inl (SqL.of (((e.trans e2).trans e3) _ _ hs)), hl, q H3 (e2.trans e3)⟩⟩
/-- "".join of a list of signs -/
theorem ev_joinSigns {l : List Nat} {p : Addr} (hb : Ev tb σ H (.ref p)) (hs : H p = some (.lst (l.map fun c => V.str ⟨#[c]⟩))) (hl : l.length ≤ 1000000) : Ev (tJoin K (tC (.str "")) tb) σ H (.str (SX.S l)) := by
  refine ev_is (ev_joinP (a := SX.S []) (ys := l.map fun c => SX.S [c]) (ev_is ev_c rfl) hb (by rw [map_str_S]; exact hs) ?_) (by rw [join_signs])
  rw [sum_ones, List.length_map]
  show l.length + l.length * 0 ≤ 16777216
  omega
/-- "abc"[x % n] -/
theorem ev_sign {w : Str} {x n : Int} (ha : Ev ta σ H (.str w)) (hb : Ev tb σ H (.int (x % n))) (hn : n = w.cps.toList.length) (h : 0 < n) (hw : w.length ≤ 100000) : Ev (tOp (rIxA K) ta tb) σ H (.str ⟨#[w.cps.toList.getD (x % n).toNat 0]⟩) :=
  ev_op ha hb (rv_itS hw (atI_emod _ x 0 hn h))
end
section
variable {K : PySem.W.Frag} {σ : L2.St} {H H' : Hp} {ta tb te tx : TE} {tl : TE} {D : Ends} {tu tz : TS}
/-- for c in a text -/
theorem s_forS {a : Str} {j : Nat} (h : Ev tl σ H (.str a)) (Pv : Nat → L2.St → Hp → Prop) (h0 : ∀ H1, Ex H H1 → Pv 0 σ H1)
    (hs : ∀ i c σ' H', a.cps.toList[i]? = some c → Pv i σ' H' → tu { D with nx := Pv (i + 1), ct := Pv (i + 1), bk := D.nx } (σ'.set j (some (.str ⟨#[c]⟩))) H') (hd : ∀ σ' H', Pv a.cps.toList.length σ' H' → D.nx σ' H') : tFor (iStr tl) (gName j) tu D σ H := by
  refine h H (Ex.refl H) _ fun H1 e => ⟨a, rfl, ?_⟩
  refine ⟨fun i m σ' H' => m = a.cps.toList.length - i ∧ i ≤ a.cps.toList.length ∧ Pv i σ' H', ⟨a.cps.toList.length, by simp, Nat.zero_le _, h0 H1 e⟩, ?_⟩
  rintro i m σ' H' ⟨rfl, hi, p⟩
  by_cases hlt : i < a.cps.toList.length
  · refine .inr ⟨show i < a.cps.size by simpa using hlt, fun σ2 H2 => Pv (i + 1) σ2 H2, fun σ2 H2 p2 => ⟨a.cps.toList.length - (i + 1), by omega, rfl, hlt, p2⟩, ?_⟩
    rintro x2 H2 ⟨rfl, c, hc, rfl⟩
    exact hs i c σ' _ (by rw [Array.getElem?_toList]; exact hc) p
  · have e0 : i = a.cps.toList.length := by omega
    subst e0
    exact .inl ⟨show a.cps.size ≤ a.cps.toList.length by simp, hd σ' H' p⟩
theorem q_forS {a : Str} {j : Nat} (h : Ev tl σ H (.str a)) (Pv : Nat → L2.St → Hp → Prop) (h0 : ∀ H1, Ex H H1 → Pv 0 σ H1)
    (hs : ∀ i c σ' H', a.cps.toList[i]? = some c → Pv i σ' H' → tu { D with nx := Pv (i + 1), ct := Pv (i + 1), bk := tz D } (σ'.set j (some (.str ⟨#[c]⟩))) H') (hd : ∀ σ' H', Pv a.cps.toList.length σ' H' → tz D σ' H') : tSeq (tFor (iStr tl) (gName j) tu) tz D σ H := s_forS (D := { D with nx := tz D }) h Pv h0 hs hd
/-- {i: v}, v no object -/
theorem ed_disp1 {i : Int} {v : V} {d : PyData} (hk : Ev ta σ H (.int i)) (hv : Ev tb σ H v) (hd : ∀ H, Dt H v d) : EvD (tDisp ((ta, tb) :: [])) σ H (.dict [(.int i, d)]) := fun H1 e0 Q q p hp => by
  show ta σ (upd H1 p (.dK [])) _
  have e1 : Ex H1 (upd H1 p (.dK [])) := Ex.new hp
  refine hk _ (e0.trans e1) _ fun H2 e2 => hv H2 ((e0.trans e1).trans e2) _ fun H3 e3 => ⟨(e2.trans e3) _ _ upd_same, [(.inl i, v)], rfl, (show 1 ≤ 15 by decide), ?_⟩
  refine q _ _ (Ex.mut ((e1.trans e2).trans e3) hp) ?_
  exact .dct (kvs := [(.inl i, v)]) (ds := [d]) upd_same (.cons (hd _) .nil)
/-- xs[i] = v -/
theorem s_setA {l : Addr} {xs : List V} {j : Nat} {v : V} (hl : H l = some (.lst xs)) (h : Ev te σ H v) (ho : Ev ta σ H (.ref l)) (hi : Ev tb σ H (.int (j : Int))) (hj : j < xs.length) (k : ∀ H1, Ex H H1 → D.nx σ (upd H1 l (.lst (xs.set j v)))) :
    tAsg te (gSub ta tb rSetA) D σ H := h H (Ex.refl H) _ fun H1 e1 => ho H1 e1 _ fun H2 e2 => hi H2 (e1.trans e2) _ fun H3 e3 =>
  .inl ⟨l, xs, (j : Int), j, rfl, rfl, ((e1.trans e2).trans e3) l _ hl, ixN_nat hj, k H3 ((e1.trans e2).trans e3)⟩
end
/-! ### _law_cell -/
def cellV (ns : List Int) (k : Nat) : Int :=
  if k < ns.length then ns.getD k 0
  else ((if 0 < ns.length then ns.getD (k % ns.length) 0 % 2147483647 else 41) + (k : Int) * k + 5) * (48271 + 16807 * (k : Int)) % 2147483629
def sp_law_cell (K : PySem.W.Frag) : Sp := fun vs H Q _ => ∃ (l : Addr) (ns : List Int) (j : Nat), vs = [.ref l, .int (j : Int)] ∧ SqL K H l (ns.map V.int) ∧ j ≤ 100000 ∧ RetV (.int (cellV ns j)) H Q
def t_law_cell (K : PySem.W.Frag) (E : XK) : TS :=
  tSeq (tIfS (tTest (tOp rLtA (tVar 1) (tCB (rLenA K) (tCons (tVar 0) tNil)))) (tRet (tOp (rIxA K) (tVar 0) (tVar 1))) tNext)
    (tSeq (tAsg (tC (.int 41)) (gName 2))
    (tSeq (tIfS (tTest (tOp rGtA (tCB (rLenA K) (tCons (tVar 0) tNil)) (tC (.int 0)))) (tAsg (tOp rModA (tOp (rIxA K) (tVar 0) (tOp rModA (tVar 1) (tCB (rLenA K) (tCons (tVar 0) tNil)))) (tC (.int 2147483647))) (gName 2)) tNext)
    (tRet (tOp rModA (tOp (rMulA K) (tOp (rAddA K) (tOp (rAddA K) (tVar 2) (tOp (rMulA K) (tVar 1) (tVar 1))) (tC (.int 5))) (tOp (rAddA K) (tC (.int 48271)) (tOp (rMulA K) (tC (.int 16807)) (tVar 1)))) (tC (.int 2147483629))))))
theorem ints_at {ns : List Int} {k : Nat} (h : k < ns.length) : atI (ns.map V.int) (k : Int) = some (.int (ns.getD k 0)) := by
  refine atI_nat ?_
  rw [List.getElem?_map, List.getElem?_eq_getElem h, List.getD_eq_getElem?_getD, List.getElem?_eq_getElem h]
  rfl
theorem r_law_cell {K : PySem.W.Frag} (vs : List V) (H : Hp) (Q : VK) (E : XK) (h : sp_law_cell K vs H Q E) : t_law_cell K E { nx := fun _ H' => Q .non H', rt := Q } (L2.start ["script", "k", "seed"] vs) H := by
  obtain ⟨l, ns, j, rfl, hl, hj, k⟩ := h
  unfold t_law_cell
  have hlen : ∀ {σ : L2.St} {H1 : Hp}, σ[0]? = some (some (V.ref l)) → Ex H H1 → Ev (tCB (rLenA K) (tCons (tVar 0) tNil)) σ H1 (.int ns.length) := fun h0 e => by
    have := ev_lenV (ta := tVar 0) (ev_var h0) (rc_lenL (K := K) (ex_l e hl))
    rw [List.length_map] at this
    exact this
  refine q_when (et_test (ev_op (ev_var rfl) (hlen rfl (Ex.refl H)) rv_lt)) (fun hb H1 e1 => ?_) (fun hb H1 e1 => ?_)
  · have hb := of_decide_eq_true hb
    refine s_ret (ev_op (ev_var rfl) (ev_var rfl) (rv_itL (ex_l e1 hl) (ints_at (show j < ns.length by omega)))) fun H2 e2 => ?_
    unfold RetV cellV at k
    rw [if_pos (by omega)] at k
    exact k H2 (e1.trans e2)
  · have hb := of_decide_eq_false hb
    refine q_asg ev_c fun H2 e2 => ?_
    refine q_ifAsg (v := .int (if 0 < ns.length then ns.getD (j % ns.length) 0 % 2147483647 else 41)) (et_test (ev_op (hlen rfl (e1.trans e2)) ev_c rv_gt)) (fun hp => ?_) (fun hp => ?_) fun H3 e3 => ?_
    · have hp := of_decide_eq_true hp
      have hp : 0 < ns.length := by omega
      rw [if_pos hp]
      refine ev_op (ev_op (ev_var rfl) (ev_is (ev_op (ev_var rfl) (hlen rfl (e1.trans e2)) (rv_mod (by omega))) (by rw [← Int.natCast_emod])) (rv_itL (ex_l (e1.trans e2) hl) (ints_at (Nat.mod_lt _ hp)))) ev_c (rv_mod (by decide))
    · have hp := of_decide_eq_false hp
      rw [if_neg (by omega)]
      rfl
    · generalize hs : (if 0 < ns.length then ns.getD (j % ns.length) 0 % 2147483647 else 41) = sd at *
      have b : 0 ≤ sd ∧ sd < 2147483647 := by
        rw [← hs]
        split
        · exact emod_bd _ (by decide)
        · decide
      have j2 : (j : Int) * j < 2 ^ 40 ∧ 0 ≤ (j : Int) * j := by
        have h1 : j * j ≤ 100000 * 100000 := Nat.mul_le_mul hj hj
        have h2 : ((j * j : Nat) : Int) = (j : Int) * j := Int.natCast_mul j j
        rw [← h2]
        omega
      refine s_ret (ev_op (ev_op (ev_op (ev_op (ev_var rfl) (ev_op (ev_var rfl) (ev_var rfl) (rv_mulI (wide_mul (a := 20) (b := 20) (by omega) (by omega) (by decide) (by decide) (by decide)))) rv_addI) ev_c rv_addI) (ev_op ev_c (ev_op ev_c (ev_var rfl) (rv_mulI (wide_mul (a := 20) (b := 20) (by omega) (by omega) (by decide) (by decide) (by decide)))) rv_addI) (rv_mulI (wide_mul (a := 50) (b := 50) (by omega) (by omega) (by decide) (by decide) (by decide)))) ev_c (rv_mod (by decide))) fun H4 e4 => ?_
      unfold RetV cellV at k
      rw [if_neg (by omega), hs] at k
      exact k H4 (((e1.trans e2).trans e3).trans e4)
section
variable {K : PySem.W.Frag} {σ : L2.St} {H H' : Hp} {ta tb te tx : TE} {E : L2.St → XK}
theorem ev_cell {l : Addr} {ns : List Int} {j : Nat} (ha : Ev ta σ H (.ref l)) (hb : Ev tb σ H (.int (j : Int))) (hl : SqL K H l (ns.map V.int)) (hj : j ≤ 100000) : Ev (tCallS (sp_law_cell K) E (tCons ta (tCons tb tNil))) σ H (.int (cellV ns j)) :=
  ev_callS (ea_cons ha (ea_cons hb ea_nil)) fun H1 e Q q E => ⟨l, ns, j, rfl, ex_l e hl, hj, fun H2 e2 => q H2 e2⟩
end
/-! ### often wanted -/
theorem lt60 {i : Int} (h : -(10 ^ 62) < i) (h2 : i < 10 ^ 62) : i.natAbs.log2 < 1000 := by
  refine PySem.Flt.log2_lt_of (by decide) (Nat.lt_trans (m := 10 ^ 62) (by omega) (by decide +kernel))
theorem name_of {l : List Nat} (h1 : 1 ≤ l.length) (h2 : l.length ≤ 8) (h : ∀ c ∈ l, c ∈ lets) : isName (SX.S l) = true := by
  unfold isName
  rw [decide_eq_true (by rw [SX.S_len]; exact ⟨h1, h2⟩), Bool.true_and]
  exact List.all_eq_true.mpr fun c hc => decide_eq_true (h c hc)
theorem name_len {z : Str} (h : isName z = true) : 1 ≤ z.length ∧ z.length ≤ 8 := by
  unfold isName at h
  exact of_decide_eq_true (Bool.and_eq_true_iff.mp h).1
theorem isFault_pair (f : Str) (w : PyData) : isFaultD (.tuple [.str f, w]) = (decide (f = ("fault" : Str)) && isNameD w) := rfl
theorem lets_lt : ∀ c ∈ lets, c < 128 := by decide +kernel
theorem name_ok {z : Str} (h : isName z = true) : okS z := by
  have := name_len h
  unfold isName at h
  refine okS_of (by omega) fun c hc => lets_lt c ?_
  exact of_decide_eq_true (List.all_eq_true.mp (Bool.and_eq_true_iff.mp h).2 c hc)
theorem okF : okS "fault" := ⟨by decide +kernel, by decide +kernel⟩
theorem okS_rep {z : Str} (h : okS z) {n : Int} (hn : z.length * n.toNat ≤ 30000) : okS (repS z n) := by
  unfold repS
  have e : z.cps.toList.length = z.length := by simp [Str.length]
  refine ⟨?_, ?_⟩
  · rw [SX.S_len, List.length_flatten, List.map_replicate, e]
    have : ∀ n : Nat, (List.replicate n z.length).sum = z.length * n := fun n => by
      induction n with
      | zero => rfl
      | succ n ih => rw [List.replicate_succ, List.sum_cons, ih, Nat.mul_succ, Nat.add_comm]
    rw [this]
    exact hn
  · show ((List.replicate n.toNat z.cps.toList).flatten).toArray.all (· < 1114112) = true
    rw [List.all_toArray]
    refine List.all_eq_true.mpr fun c hc => ?_
    obtain ⟨l, h1, h2⟩ := List.mem_flatten.mp hc
    rw [List.eq_of_mem_replicate h1] at h2
    have h3 := h.cps
    rw [← Array.all_toList] at h3
    exact List.all_eq_true.mp h3 c h2
theorem isNum_iff (x : Int) : isNumD (.int x) = decide (-(10 ^ 60) < x ∧ x < 10 ^ 60) := rfl
theorem ev_chainT {K : PySem.W.Frag} {σ : L2.St} {H : Hp} {ta tb tx : TE} {i j k : Int} (ha : Ev ta σ H (.int i)) (hb : Ev tb σ H (.int j)) (hc : Ev tx σ H (.int k)) : Ev (tChain rLtA rLtA ta tb tx) σ H (.bl (decide (i < j) && decide (j < k))) :=
  ev_chainI (g := fun a b => decide (a < b)) (g' := fun a b => decide (a < b)) ha hb hc
theorem len_is_whole {K : PySem.W.Frag} (vs : List V) (H : Hp) (Q : VK) (E : XK) (h : sp_is_whole K vs H Q E) : vs.length = 1 := by obtain ⟨_, _, rfl, _⟩ := sp1_open h; rfl
theorem len_is_name {K : PySem.W.Frag} (vs : List V) (H : Hp) (Q : VK) (E : XK) (h : sp_is_name K vs H Q E) : vs.length = 1 := by obtain ⟨_, _, rfl, _⟩ := sp1_open h; rfl
theorem len_is_fault {K : PySem.W.Frag} (vs : List V) (H : Hp) (Q : VK) (E : XK) (h : sp_is_fault K vs H Q E) : vs.length = 1 := by obtain ⟨_, _, rfl, _⟩ := sp1_open h; rfl
theorem len_is_number {K : PySem.W.Frag} (vs : List V) (H : Hp) (Q : VK) (E : XK) (h : sp_is_number K vs H Q E) : vs.length = 1 := by obtain ⟨_, _, rfl, _⟩ := sp1_open h; rfl
theorem len_is_value {K : PySem.W.Frag} (vs : List V) (H : Hp) (Q : VK) (E : XK) (h : sp_is_value K vs H Q E) : vs.length = 1 := by obtain ⟨_, _, rfl, _⟩ := sp1_open h; rfl
theorem len_law_cell {K : PySem.W.Frag} (vs : List V) (H : Hp) (Q : VK) (E : XK) (h : sp_law_cell K vs H Q E) : vs.length = 2 := by obtain ⟨_, _, _, rfl, _⟩ := h; rfl
end Z

set_option Elab.async false
set_option linter.all false
set_option autoImplicit false
set_option maxRecDepth 100000
set_option maxHeartbeats 4000000
/-! ev: what an expression comes to, by its form -/
local macro_rules | `(tactic| k_places) => `(tactic| (repeat' (first
  | (with_reducible exact ev_c)
  | (with_reducible exact ev_var rfl)
  | (with_reducible refine ev_chainLL ?_ ?_ ?_)
  | (with_reducible refine ev_chainLt ?_ ?_ ?_)
  | (with_reducible refine ev_op ?_ ?_ ?_)
  | (with_reducible refine ev_neg ?_)
  | (with_reducible refine et_test ?_)
  | (with_reducible refine et_B ?_)
  | (with_reducible refine et_not ?_)
  | (with_reducible refine et_and ?_ (fun _ => ?_))
  | (with_reducible refine et_or ?_ (fun _ => ?_))
  | (with_reducible refine ev_andV ?_ (fun _ => ?_))
  | (with_reducible refine ev_orV ?_ (fun _ => ?_))
  | (with_reducible refine ev_notV ?_)
  | (with_reducible exact rv_addI)
  | (with_reducible exact rv_subI)
  | (with_reducible exact rv_lt)
  | (with_reducible exact rv_le)
  | (with_reducible exact rv_gt)
  | (with_reducible exact rv_ge)
  | (with_reducible exact rv_isB)
  | (with_reducible exact rv_isnB)
  | (with_reducible exact rv_isN)
  | (with_reducible exact rv_isnN)
  | (with_reducible exact rv_eqS rfl)
  | (with_reducible exact rv_neS rfl)
  | (with_reducible exact rv_inStr)
  | (with_reducible exact rv_ninStr)
  | (with_reducible exact rv_mod (by first | decide | omega | assumption))
  | (with_reducible exact rv_div (by first | decide | omega | assumption))
  | (with_reducible exact rv_pow (by decide))
  | (with_reducible refine ed_i ?_; done)
  | (with_reducible exact ea_nil)
  | (with_reducible refine ea_cons ?_ ?_)
  | (with_reducible exact eds_nil)
  | (with_reducible refine eds_cons ?_ ?_)
  | (with_reducible exact ed_dnew)
  | (with_reducible refine ed_lst ?_ (by simp only [List.length_cons, List.length_nil]; omega))
  | (with_reducible refine ed_tup ?_ (by simp only [List.length_cons, List.length_nil]; omega)))))
namespace Z
open PySem PySem.Spec PyProof.Rows L2 Evl
/-! ### a caught exception that is kept by a name -/
def exA (a : Addr) (cls : Value) (d : Option Addr) : HO := .ext fun h => ∃ o : Obj, h.get? a = some o ∧ o.cls = cls ∧ o.dict = d ∧ ∃ vs, o.data = .fields vs
theorem exA_ok {P : Program} {w : World} {H : Hp} {h : Heap} {a : Addr} {cls : Value} {d : Option Addr} {o : Obj} (e : h.get? a = some o) (z : Zc cls d o) (f : ∃ vs, o.data = .fields vs) : ObjOk P w H h a (exA a cls d) :=
  ⟨⟨o, e, z.1, z.2, f⟩, ⟨o, e⟩, fun _ _ ⟨o, e, r⟩ k => ⟨o, k o e, r⟩⟩
theorem exA_at {P : Program} {w : World} {H : Hp} {h : Heap} {a : Addr} {cls : Value} {d : Option Addr} (ok : HOk P w H h) (e : H a = some (exA a cls d)) : ∃ o : Obj, h.get? a = some o ∧ o.cls = cls ∧ o.dict = d ∧ ∃ vs, o.data = .fields vs := by
  have x := ok a _ e
  exact x.1
section
variable {X : Cx} {pins : List (Addr × Obj)} {σ : L2.St} {H : Hp} {s : Shared}
/-- an object that was only known by its place is written into the heap that is told -/
theorem inv_track {a : Addr} {oe : Obj} {cls : Value} {d : Option Addr} (I : Inv X ((a, oe) :: pins) σ H s) (z : Zc cls d oe) (f : ∃ vs, oe.data = .fields vs) (h0 : X.s_0.heap.get? a = none) (hp : ∀ p ∈ X.pn ++ pins, p.1 ≠ a) : Inv X pins σ (upd H a (exA a cls d)) s := by
  obtain ⟨ga, na, nL, nF, nC⟩ := I.pin (a, oe) (List.mem_append_right _ List.mem_cons_self)
  have ga : s.heap.get? a = some oe := ga
  have na : H a = none := na
  have nL : a ≠ X.env.locals := nL
  refine ⟨I.ok, I.os, I.bare, ⟨I.base.keep, I.base.slot, fun b o e n hx => ?_, I.base.there, fun b xs e => ?_, fun b o u e => ?_, fun b ps e => ?_⟩, I.loc, I.cell, ?_, fun x c e => ?_, fun p hq => ?_, fun b o e => ?_, I.len⟩
  · have hb : b ≠ a := fun q => by rw [q, h0] at e; cases e
    rw [upd_ne hb]
    exact I.base.free b o e n hx
  · have q := I.base.tups b xs e
    rw [upd_ne (ne_of_none q na)]
    exact q
  · have q := I.base.frzs b o u e
    rw [upd_ne (ne_of_none q na)]
    exact q
  · obtain ⟨m, q⟩ := I.base.tbls b ps e
    exact ⟨m, by rw [upd_ne (ne_of_none q na)]; exact q⟩
  · rw [upd_ne (Ne.symm nL)]
    exact I.free
  · have hc : c ≠ a := fun q => by
      obtain ⟨v, o, ho, hd⟩ := I.cell x c e
      rw [q, ga] at ho
      cases ho
      obtain ⟨vs, hv⟩ := f
      rw [hv] at hd
      cases hd
    rw [upd_ne hc]
    exact I.freeC x c e
  · obtain ⟨g, n, l1, l2, l3⟩ := I.pin p (by
      rcases List.mem_append.mp hq with q | q
      · exact List.mem_append_left _ q
      · exact List.mem_append_right _ (List.mem_cons_of_mem _ q))
    refine ⟨g, ?_, l1, l2, l3⟩
    rw [upd_ne (hp p hq)]
    exact n
  · by_cases hb : b = a
    · subst hb
      rw [upd_same] at e
      cases e
      exact exA_ok ga z f
    · rw [upd_ne hb] at e
      refine (I.hok b o e).stay (fun _ _ _ q => q) (fun c q => ?_) fun c xs q => ?_
      · rw [upd_ne (ne_of_none q na)]
        exact q
      · rw [upd_ne (ne_of_none q na)]
        exact q
end
/-- what «except x as n: y = n» wishes of an exception of the body: slots i of n, j of y -/
def wKeep (K : PySem.W.Frag) (c : Value) (i j : Nat) (Wout : WX) (D : Ends) : WX := fun cls d σ H =>
  ∃ b, PySem.W.exmOne K cls c = some b ∧ (b = true → ∀ a, H a = none → D.nx (((σ.set i (some (.ref a))).set j (some (.ref a))).set i none) (upd H a (exA a cls d))) ∧ (b = false → Wout cls d σ H)
def tTryK (K : PySem.W.Frag) (c : Value) (i j : Nat) (Wout : WX) (tb : WX → TS) : TS := fun D σ H => tb (wKeep K c i j Wout D) D σ H
section
variable {X : Cx} {x n y : Str} {c : Value} {i j : Nat} {body : List Stmt} {np pos pos' py pn' pa : Pos} {tb : WX → TS} {Wout : WX}
theorem ps_try_keep (hs : X.stack = X.env :: X.outer) (hf : X.env.frame = some X.env.locals) (hex : X.ex = []) (hN : X.N.Nodup) (hi : X.N[i]? = some n) (hln : X.env.scope.names.lookup n = some .local) (hj : X.N[j]? = some y) (hly : X.env.scope.names.lookup y = some .local) (hc : Names X x c) (tk : Takes X Wout)
    (hb : ∀ (W : WX) (pn : List (Addr × Obj)) (xe : Value → Shared → Prop), Takes (X.tr pn xe) W → PassesOwn (model X.prog X.w) X.A X.env xe → PSs (X.tr pn xe) body (tb W))
    (hd1 : (n == ("__debug__" : Str)) = false := by decide) (hd2 : (n == ("__classdict__" : Str)) = false := by decide) (hsw : swapsWith (.Name n pn') (some (.Name y py)) pa.line X.env = pure false := by rfl) :
    PS X (.Try body [.ExceptHandler (some (.Name x np)) (some n) [.Assign [.Name y py] (.Name n pn') pa] pos'] [] [] pos) (tTryK X.K c i j Wout tb) := by
  refine ⟨fun pins s σ H D I h => ?_⟩
  have ok := I.ok
  have ih : i < σ.length := by rw [I.len]; exact (List.getElem?_eq_some_iff.mp hi).1
  have stk : X.A.frames = some (X.env :: X.outer) := by rw [ok.frames, hs]
  refine wpAny_Try_except (wpAny_mono ((hb (wKeep X.K c i j Wout D) (X.pn ++ pins) _ (fun u s' xx => ?caught) PassesOwn.looking).run [] s σ H D (I.toTry _) h) (fun f s1 hsp => ?thru) (fun e s1 he => he))
  case thru =>
    cases f with
    | next =>
      obtain ⟨σ', H', J, q⟩ := hsp
      exact wpAny_execs_nil ⟨σ', H', J.ofTry ok, q⟩
    | brk =>
      obtain ⟨σ', H', J, q⟩ := hsp
      exact ⟨σ', H', J.ofTry ok, q⟩
    | cont =>
      obtain ⟨σ', H', J, q⟩ := hsp
      exact ⟨σ', H', J.ofTry ok, q⟩
    | ret u =>
      obtain ⟨v, σ', H', J, r, q⟩ := hsp
      exact ⟨v, σ', H', J.ofTry ok, r, q⟩
  case caught =>
    obtain ⟨a, B, sI, pins', σ', H', cls, d, rfl, J', nb, up, sky, na, os, ag, b, hb1, hyes, hno⟩ := xx
    have J : Inv X pins σ' H' sI := J'.ofTry ok
    rw [hs] at sky nb
    show wpAny (model X.prog X.w) X.A (noteFrame (.ref a) X.env) _ _ _
    refine Sky.land Zc.steady stk hf sky fun h3 fl3 up3 => ?_
    have J3 : Inv X pins σ' H' { s' with heap := h3 } := J.landed (by rw [hs]; exact nb) fl3.1 (up.trans up3) os ag
    obtain ⟨oe3, vs3, he3, hz3, hd3⟩ := fl3.there
    have off : a ∉ frs (X.env :: X.outer) := fun hm => by
      obtain ⟨_, o', e', hnf⟩ := fl3.2.2.1.mem hm
      rw [he3] at e'
      cases e'
      exact hnf _ hd3
    have nL : a ≠ X.env.locals := fun q => off (List.mem_filterMap.mpr ⟨X.env, List.mem_cons_self, by rw [hf, q]⟩)
    have nF : a ∉ X.fs := fun hm => by
      obtain ⟨e, he, q⟩ := List.mem_filterMap.mp hm
      exact off (List.mem_filterMap.mpr ⟨e, List.mem_cons_of_mem _ he, q⟩)
    have newI : sI.heap.get? a = none := by
      cases q : sI.heap.get? a with
      | none => rfl
      | some o =>
        have z := nb a o q off
        rw [fl3.2.1] at z
        cases z
    have new0 : X.s_0.heap.get? a = none := by
      cases q : X.s_0.heap.get? a with
      | none => rfl
      | some o =>
        obtain ⟨o', e'⟩ := J.base.there a o q (by rw [hex]; simp)
        rw [newI] at e'
        cases e'
    have pinsNe : ∀ p ∈ X.pn ++ pins, p.1 ≠ a := fun p hp q => by
      have z := (J.pin p hp).1
      rw [q, newI] at z
      cases z
    have S3 := J3.suite he3 hd3 na nL nF
    refine wpAny_handleBy_cons (codeAny_handlers_test ?_) (by intro q; cases q)
    have LT : PySem.W.Looks (model X.prog X.w) h3 (typeOf (.ref a)) cls := fun A Q E s k q => wpAny_typeOf_ref (k _ _ he3) (by rw [hz3.1]; exact q)
    have LM := PySem.W.exm_one (M := model X.prog X.w) J3.kIn LT hb1
    have test : ∀ {Q : Value → Shared → Prop} {E : Value → Shared → Prop}, Q c { s' with heap := h3 } → wpAny (model X.prog X.w) (X.A.mark (some (.ref a))) (eval (.Name x np) X.env) Q E { s' with heap := h3 } := fun {Q E} q => by
      obtain ⟨hg, hdb, hm | ⟨hm, hv, hnn⟩⟩ := hc
      · exact ld_glob (X := X.suite a ((a, oe3) :: (X.pn ++ pins))) S3 hg hm q hdb
      · exact ld_blt (X := X.suite a ((a, oe3) :: (X.pn ++ pins))) S3 hg hm hv q hnn hdb
    refine test (LM.here ?_)
    cases b with
    | false =>
      show wpAny _ X.A (handleBy (.ref a) X.env []) _ _ _
      refine wpAny_handleBy_nil ?_
      obtain ⟨k1, k2, k3, oe, vs, T, oT, ts', he, hz, hd, h1, hr⟩ := id fl3
      unfold PySem.passOn
      refine wpAny_bind (wpAny_field he hd h1 ?_)
      rw [if_neg (show ¬ ((Value.ref T == Value.none) = true) from by simp)]
      have fin : wpAny (model X.prog X.w) X.A (setFlight (.ref a) X.env.frame) (fun _ s4 => wpAny (model X.prog X.w) X.A (throw (.ref a) : Sem Flow) (SP X pins D) X.xe s4) X.xe { s' with heap := h3 } := by
        rw [hf]
        refine HandSPX.setFlight_upZ fl3 fun h4 hh4 up4 => wpAny_throw (tk _ _ ?_)
        exact ⟨a, B, sI, pins, σ', H', cls, d, rfl, J, by rw [hs]; exact nb, (up.trans up3).trans up4, .inr (.inr (by rw [hs]; exact hh4)), na, os, ag, hno rfl⟩
      first
        | exact wpAny_bind (wpAny_pure (wpAny_bind fin))
        | exact wpAny_bind fin
    | true =>
      refine codeAny_handlers_suite_as (HandSPX.lands_againZ fl3 fun h4 fl4 up4 => ?_)
      have J4 : Inv X pins σ' H' { s' with heap := h4 } := J.landed (by rw [hs]; exact nb) fl4.1 ((up.trans up3).trans up4) os ag
      obtain ⟨oe4, vs4, he4, hz4, hd4⟩ := fl4.there
      have S4 := J4.suite he4 hd4 na nL nF
      refine store_ok (X := X.suite a ((a, oe4) :: (X.pn ++ pins))) (v := .ref a) S4 hN hi (.inl hln) rfl (fun s5 S5 => ?_) (.inr hln)
      have body1 : PSs (X.suite a ((a, oe4) :: (X.pn ++ pins))) [.Assign [.Name y py] (.Name n pn') pa] (tAsg (tVar i) (gName j)) :=
        pss_one (ps_set (X := X.suite a ((a, oe4) :: (X.pn ++ pins))) (i := j) hN hj (.inl hly) (pe_var hi (.inl hln) hd1 hd2) hsw (.inr hly))
      have ih' : i < σ'.length := by rw [J.len]; exact (List.getElem?_eq_some_iff.mp hi).1
      refine wpAny_mono (body1.run [] s5 _ H' { nx := fun σ6 H6 => σ6 = (σ'.set i (some (.ref a))).set j (some (.ref a)) ∧ H6 = H', rt := fun _ _ => False } S5 ⟨.ref a, by rw [List.getElem?_set_self ih'], rfl, rfl⟩) (fun f s6 hsp => ?_) (fun _ _ z => False.elim z)
      cases f with
      | next =>
        obtain ⟨σ6, H6, S6, e6, eH⟩ := hsp
        subst e6 eH
        have pa6 := S6.pin (a, oe4) (List.mem_append_left _ List.mem_cons_self)
        have K6 : Inv X ((a, oe4) :: pins) ((σ'.set i (some (.ref a))).set j (some (.ref a))) H6 s6 := by
          refine (S6.unsuite ok).pins_of fun p hp => ?_
          rcases List.mem_cons.mp hp with e | hp
          · rw [e]
            exact pa6
          · exact S6.pin p (List.mem_append_left _ (List.mem_cons_of_mem _ (List.mem_append_right _ hp)))
        refine gone_ok K6 hN hi hln fun s7 J7 => ⟨_, _, inv_track J7 hz4 ⟨_, hd4⟩ new0 pinsNe, hyes rfl a na⟩
      | brk =>
        obtain ⟨_, _, _, z⟩ := hsp
        exact False.elim z
      | cont =>
        obtain ⟨_, _, _, z⟩ := hsp
        exact False.elim z
      | ret u =>
        obtain ⟨_, _, _, _, _, z⟩ := hsp
        exact False.elim z
end
/-! ### isinstance of a kept exception -/
def rIsX (K : PySem.W.Frag) : List V → Hp → VK → Prop := fun xs H Q => ∃ (a D : Addr) (c : V) (u : Value) (b : Bool), xs = [.ref a, c] ∧ H a = some (exA a (.ref D) none) ∧ ExcC K D ∧ ClsV c u ∧ PySem.W.kitOne K (.ref D) u = some b ∧ Q (.bl b) H
theorem call_isX {X : Cx} : CallR X (.builtin "isinstance") (rIsX X.K) := by
  intro pins s σ H xs us Q I r h
  obtain ⟨a, D, c, u, b, rfl, ha, C, k, e, q⟩ := h
  obtain ⟨u1, u2, rfl, r1, r2⟩ := vals2 r
  have e2 := k.eq r2
  subst e2
  cases (show u1 = Value.ref a from r1)
  obtain ⟨⟨oc, od, oda, osl⟩, g, h1, h2, vs, h3⟩ := exA_at I.hok ha
  dsimp only at h1 h2 h3
  subst h1 h2 h3
  have J : PySem.W.InstAt s.heap a ⟨.ref D, none, .fields vs, osl⟩ D none := ⟨g, rfl, rfl, trivial⟩
  exact PySem.W.kia_one (PySem.W.handS_kitx_exc C.hg C.hk C.hs C.hd C.ha C.hn C.ht C.hm) I.kIn J e (fun z => nomatch z) fun tk => ⟨.bl b, H, I.tok tk, rfl, q⟩
/-! ### the program's classes -/
inductive Cn
  | ColsError | NoName | NoValue | NoTable | NoColumn | NoPlace | NoSize | NoText | NoRow | NoBack | TooMuch | Ruled | Ring | Nobody | Several
  | Table | Cells | Above | Group | Lookup | Mend | Sheet | View | Some | Ordered | Cut | Together | Beside | Desk | Shelf | Changes | Other
  deriving DecidableEq
/-- is D the class X, or below it: errors -/
def subE (D X : Cn) : Bool := D == X || X == .ColsError
/-- what is known of an error's class D, asked of the classes in L -/
structure ExK (K : PySem.W.Frag) (A : Cn → Addr) (L : List Cn) (D : Cn) : Prop where
  cc : ExcC K (A D)
  em : PySem.W.exmOne K (.ref (A D)) (.ref (A .ColsError)) = some true
  kt : ∀ X ∈ L, PySem.W.kitOne K (.ref (A D)) (.ref (A X)) = some (subE D X)
  kv : PySem.W.kitOne K (.ref (A D)) (.type "ValueError") = some true
theorem kit_of {K : PySem.W.Frag} {D X : Addr} {b : Bool} (i : PySem.W.isClsIn K X = true) (t : PySem.W.typeIn K (.ref X) = some (.type "type")) (s : PySem.W.subIn K (.ref D) (.ref X) = some b) (r : PySem.W.subIn K (.ref D) (.ref D) = some true) : PySem.W.kitOne K (.ref D) (.ref X) = some b := by
  unfold PySem.W.kitOne
  split
  · rename_i h
    have h : Value.ref D = Value.ref X := by simpa using h
    cases h
    rw [r] at s
    exact s
  · have e2 : ((PySem.W.clsIn K X).isSome && PySem.W.typeIn K (.ref X) == some (.type "type")) = true := by
      have h2' : (PySem.W.clsIn K X).isSome = true := i
      rw [h2', t] <;> rfl
    show (if ((PySem.W.clsIn K X).isSome && PySem.W.typeIn K (.ref X) == some (.type "type")) = true then PySem.W.subIn K (.ref D) (.ref X) else none) = some b
    rw [if_pos e2]
    exact s
theorem exm_of {K : PySem.W.Frag} {D X : Addr} {b : Bool} (h1 : PySem.W.subIn K (.ref X) (.type "BaseException") = some true) (i : PySem.W.isClsIn K X = true) (t : PySem.W.typeIn K (.ref X) = some (.type "type")) (s : PySem.W.subIn K (.ref D) (.ref X) = some b) : PySem.W.exmOne K (.ref D) (.ref X) = some b := by
  have e1 : (PySem.W.subIn K (.ref X) (.type "BaseException") == some true) = true := by rw [h1] <;> rfl
  have e2 : ((PySem.W.clsIn K X).isSome && PySem.W.typeIn K (.ref X) == some (.type "type")) = true := by
    have h2' : (PySem.W.clsIn K X).isSome = true := i
    rw [h2', t] <;> rfl
  show (if (PySem.W.subIn K (.ref X) (.type "BaseException") == some true) = true then (if ((PySem.W.clsIn K X).isSome && PySem.W.typeIn K (.ref X) == some (.type "type")) = true then PySem.W.subIn K (.ref D) (.ref X) else none) else none) = some b
  rw [if_pos e1, if_pos e2]
  exact s
theorem kitv_of {K : PySem.W.Frag} {D : Addr} (s : PySem.W.subIn K (.ref D) (.type "ValueError") = some true) : PySem.W.kitOne K (.ref D) (.type "ValueError") = some true := by
  unfold PySem.W.kitOne
  rw [if_neg (fun h => nomatch (show Value.ref D = Value.type "ValueError" by simpa using h))]
  show (if PySem.W.kitMeta "ValueError" = true then PySem.W.subIn K (.ref D) (.type "ValueError") else none) = some true
  rw [if_pos (by decide +kernel)]
  exact s
/-- raise X('..') -/
def tRaiseA (W : WX) (C : Addr) : TS := fun _ σ H => W (.ref C) none σ H
section
variable {K : PySem.W.Frag} {σ : L2.St} {H H' : Hp} {ta tb : TE} {D : Ends} {tz : TS} {A : Cn → Addr} {L : List Cn} {Dn X : Cn}
theorem rc_isX {a : Addr} (h : H a = some (exA a (.ref (A Dn)) none)) (E : ExK K A L Dn) (hX : X ∈ L) : RC (rIsX K) [.ref a, .ref (A X)] H (.bl (subE Dn X)) := fun H1 e Q q =>
  ⟨a, A Dn, .ref (A X), .ref (A X), subE Dn X, rfl, e a _ h, E.cc, .own _, E.kt X hX, q H1 (Ex.refl H1)⟩
theorem rc_isXV {a : Addr} (h : H a = some (exA a (.ref (A Dn)) none)) (E : ExK K A L Dn) : RC (rIsX K) [.ref a, .ty "ValueError"] H (.bl true) := fun H1 e Q q =>
  ⟨a, A Dn, .ty "ValueError", .type "ValueError", true, rfl, e a _ h, E.cc, .ty _, E.kv, q H1 (Ex.refl H1)⟩
theorem ev_isX {a : Addr} (ha : Ev ta σ H (.ref a)) (h : H a = some (exA a (.ref (A Dn)) none)) (E : ExK K A L Dn) (hX : X ∈ L) : Ev (tCB (rIsX K) (tCons ta (tCons (tC (.ref (A X))) tNil))) σ H (.bl (subE Dn X)) :=
  ev_cb (ea_cons ha (ea_cons ev_c ea_nil)) (rc_isX h E hX)
theorem ev_isXV {a : Addr} (ha : Ev ta σ H (.ref a)) (h : H a = some (exA a (.ref (A Dn)) none)) (E : ExK K A L Dn) : Ev (tCB (rIsX K) (tCons ta (tCons (tC (.ty "ValueError")) tNil))) σ H (.bl true) :=
  ev_cb (ea_cons ha (ea_cons ev_c ea_nil)) (rc_isXV h E)
/-- the try suite: what its body does is told for every wish W that the caught error's way on fulfils -/
theorem q_try {i j : Nat} {Wout : WX} {tbb : WX → TS} (h : ∀ W : WX, (∀ Dn : Cn, (∃ L, ExK K A L Dn) → ∀ H1, Ex H H1 → (∀ a, H1 a = none → tz D (((σ.set i (some (.ref a))).set j (some (.ref a))).set i none) (upd H1 a (exA a (.ref (A Dn)) none))) → W (.ref (A Dn)) none σ H1) → tbb W { D with nx := tz D } σ H) :
    tSeq (tTryK K (.ref (A .ColsError)) i j Wout tbb) tz D σ H :=
  h _ fun Dn ⟨L, E⟩ H1 _ k => ⟨true, E.em, fun _ a ha => k a ha, fun q => nomatch q⟩
end
end Z

set_option Elab.async false
set_option linter.all false
set_option autoImplicit false
set_option maxRecDepth 100000
set_option maxHeartbeats 4000000
/-! ev: what an expression comes to, by its form -/
local macro_rules | `(tactic| k_places) => `(tactic| (repeat' (first
  | (with_reducible exact ev_c)
  | (with_reducible exact ev_var rfl)
  | (with_reducible refine ev_chainLL ?_ ?_ ?_)
  | (with_reducible refine ev_chainLt ?_ ?_ ?_)
  | (with_reducible refine ev_op ?_ ?_ ?_)
  | (with_reducible refine ev_neg ?_)
  | (with_reducible refine et_test ?_)
  | (with_reducible refine et_B ?_)
  | (with_reducible refine et_not ?_)
  | (with_reducible refine et_and ?_ (fun _ => ?_))
  | (with_reducible refine et_or ?_ (fun _ => ?_))
  | (with_reducible refine ev_andV ?_ (fun _ => ?_))
  | (with_reducible refine ev_orV ?_ (fun _ => ?_))
  | (with_reducible refine ev_notV ?_)
  | (with_reducible exact rv_addI)
  | (with_reducible exact rv_subI)
  | (with_reducible exact rv_lt)
  | (with_reducible exact rv_le)
  | (with_reducible exact rv_gt)
  | (with_reducible exact rv_ge)
  | (with_reducible exact rv_isB)
  | (with_reducible exact rv_isnB)
  | (with_reducible exact rv_isN)
  | (with_reducible exact rv_isnN)
  | (with_reducible exact rv_eqS rfl)
  | (with_reducible exact rv_neS rfl)
  | (with_reducible exact rv_inStr)
  | (with_reducible exact rv_ninStr)
  | (with_reducible exact rv_mod (by first | decide | omega | assumption))
  | (with_reducible exact rv_div (by first | decide | omega | assumption))
  | (with_reducible exact rv_pow (by decide))
  | (with_reducible refine ed_i ?_; done)
  | (with_reducible exact ea_nil)
  | (with_reducible refine ea_cons ?_ ?_)
  | (with_reducible exact eds_nil)
  | (with_reducible refine eds_cons ?_ ?_)
  | (with_reducible exact ed_dnew)
  | (with_reducible refine ed_lst ?_ (by simp only [List.length_cons, List.length_nil]; omega))
  | (with_reducible refine ed_tup ?_ (by simp only [List.length_cons, List.length_nil]; omega)))))
namespace Z
open PySem PySem.Spec PyProof.Rows L2 Evl
/-! ### texts, faults -/
section
variable {K : PySem.W.Frag} {σ : L2.St} {H H' : Hp} {ta tb te tx : TE} {tl th : TO} {D : Ends} {tz : TS} {A : Cn → Addr}
theorem ev_slS {z : Str} {lo hi : Option Int} (h : Ev te σ H (.str z)) (h1 : EvO tl σ H lo) (h2 : EvO th σ H hi) (hz : z.length ≤ 100000) : Ev (tSl (rSlA K) te tl th) σ H (.str (cutS z lo hi)) := fun H1 e Q q =>
  h H1 e _ fun H2 e2 => h1 H2 (e.trans e2) _ fun H3 e3 => h2 H3 ((e.trans e2).trans e3) _ fun H4 e4 => .inr (.inr ⟨z, rfl, sz_of hz, q H4 ((e2.trans e3).trans e4)⟩)
theorem s_dropS {sp : Sp} {vs : List V} {E : L2.St → XK} {tas : TA} (h : EvA tas σ H vs) (k : ∀ H1, Ex H H1 → sp vs H1 (fun _ H2 => D.nx σ H2) (E σ)) : tDrop (tCallS sp E tas) D σ H := h H (Ex.refl H) _ k
theorem not_name {z : Str} {c : Nat} (h : c ∈ z.cps.toList) (hc : c ∉ lets) : isName z = false := by
  unfold isName
  have : (z.cps.toList.all fun c => decide (c ∈ lets)) = false := by
    rw [← Bool.not_eq_true]
    intro q
    exact hc (of_decide_eq_true (List.all_eq_true.mp q c h))
  rw [this, Bool.and_false]
theorem not_name_len {z : Str} (h : ¬ (1 ≤ z.length ∧ z.length ≤ 8)) : isName z = false := by
  unfold isName
  rw [decide_eq_false h, Bool.false_and]
theorem app_mem {x y : Str} {c : Nat} : c ∈ (x ++ y).cps.toList ↔ c ∈ x.cps.toList ∨ c ∈ y.cps.toList := by
  show c ∈ (x.cps ++ y.cps).toList ↔ _
  rw [Array.toList_append, List.mem_append]
theorem repS_len (z : Str) (n : Int) : (repS z n).length = z.length * n.toNat := by
  unfold repS
  have e : z.cps.toList.length = z.length := by simp [Str.length]
  rw [SX.S_len, List.length_flatten, List.map_replicate, e]
  have : ∀ n : Nat, (List.replicate n z.length).sum = z.length * n := fun n => by
    induction n with
    | zero => rfl
    | succ n ih => rw [List.replicate_succ, List.sum_cons, ih, Nat.mul_succ, Nat.add_comm]
  rw [this]
theorem okS_cut {z : Str} (h : okS z) (lo hi : Option Int) : okS (cutS z lo hi) := by
  refine ⟨Nat.le_trans (cutS_length z lo hi) h.len, ?_⟩
  have h3 := h.cps
  rw [← Array.all_toList] at h3
  show (((z.cps.toList.drop _).take _).toArray).all _ = true
  rw [List.all_toArray]
  exact List.all_eq_true.mpr fun c hc => List.all_eq_true.mp h3 c (List.mem_of_mem_drop (List.mem_of_mem_take hc))
/-- fault(word) -/
def faultD (d : PyData) : PyData := .tuple [.str "fault", d]
def sp_fault (K : PySem.W.Frag) (A : Cn → Addr) : Sp := fun vs H Q E => ∃ v d, vs = [v] ∧ Dt H v d ∧ short d ∧ (isNameD d = true → RetD (faultD d) H Q) ∧ (isNameD d = false → ∀ H1, Ex H H1 → E (.ref (A .NoName)) none H1)
def t_fault (K : PySem.W.Frag) (A : Cn → Addr) (E : XK) : TS :=
  tSeq (tIfS (tNot (tB (tCallS (sp_is_name K) (WE (fun cls d _ H => E cls d H)) (tCons (tVar 0) tNil)))) (tRaiseA (fun cls d _ H => E cls d H) (A .NoName)) tNext)
    (tRet (tTup (tCons (tC (.str "fault")) (tCons (tVar 0) tNil))))
theorem len_fault (vs : List V) (H : Hp) (Q : VK) (E : XK) (h : sp_fault K A vs H Q E) : vs.length = 1 := by obtain ⟨_, _, rfl, _⟩ := h; rfl
theorem r_fault (vs : List V) (H : Hp) (Q : VK) (E : XK) (h : sp_fault K A vs H Q E) : t_fault K A E { nx := fun _ H' => Q .non H', rt := Q } (L2.start ["word"] vs) H := by
  obtain ⟨v, d, rfl, r, hs, k1, k2⟩ := h
  unfold t_fault
  refine q_when (et_not (et_B (ev_spB (g := isNameD) (pre := short) (ed_var rfl r) hs))) (fun hb H1 e1 => k2 ?_ H1 e1) (fun hb H1 e1 => ?_)
  · cases q : isNameD d with
    | false => rfl
    | true => rw [q] at hb; cases hb
  · refine s_retD (ed_tup (eds_cons (ed_s ev_c) (eds_cons (ed_var rfl (r.ex e1)) eds_nil))) fun v2 H2 e2 r2 => k1 ?_ v2 H2 (e1.trans e2) r2
    cases q : isNameD d with
    | true => rfl
    | false => rw [q] at hb; cases hb
theorem ed_fault {d : PyData} {E : L2.St → XK} (h : EvD te σ H d) (hs : short d) (hn : isNameD d = true) : EvD (tCallS (sp_fault K A) E (tCons te tNil)) σ H (faultD d) := fun H1 e Q q =>
  h H1 e _ fun v H2 e2 r => ⟨v, d, rfl, r, hs, fun _ v3 H3 e3 r3 => q v3 H3 (e2.trans e3) r3, fun z => by rw [hn] at z; cases z⟩
/-! ### what a law asks of a caught error -/
def tIsE (K : PySem.W.Frag) (A : Cn → Addr) (j : Nat) (X : Cn) : TE := tCB (rIsX K) (tCons (tVar j) (tCons (tC (.ref (A X))) tNil))
theorem q_not3 {j : Nat} {a : Addr} {L : List Cn} {Dn X1 X2 X3 : Cn} (hv : σ[j]? = some (some (.ref a))) (h : H a = some (exA a (.ref (A Dn)) none)) (E : ExK K A L Dn) (m : X1 ∈ L ∧ X2 ∈ L ∧ X3 ∈ L) (s : (subE Dn X1 || (subE Dn X2 || subE Dn X3)) = false) (k : ∀ H1, Ex H H1 → tz D σ H1) :
    tSeq (tIfS (tOr (tB (tIsE K A j X1)) (tOr (tB (tIsE K A j X2)) (tB (tIsE K A j X3)))) (tRet (tC (.bl false))) tNext) tz D σ H :=
  q_when (b := false) (et_is (et_or (et_B (ev_isX (ev_var hv) h E m.1)) fun _ => et_or (et_B (ev_isX (ev_var hv) h E m.2.1)) fun _ => et_B (ev_isX (ev_var hv) h E m.2.2)) s) (fun q => nomatch q) fun _ H1 e1 => k H1 e1
theorem s_isE {j : Nat} {a : Addr} {L : List Cn} {Dn Y : Cn} (hv : σ[j]? = some (some (.ref a))) (h : H a = some (exA a (.ref (A Dn)) none)) (E : ExK K A L Dn) (m : Dn ∈ L ∧ Y ∈ L) (s : subE Dn Y = false) (k : ∀ H1, Ex H H1 → D.rt (.bl true) H1) :
    tRet (tAndV (tIsE K A j Dn) (tAndV (tCB (rIsX K) (tCons (tVar j) (tCons (tC (.ty "ValueError")) tNil))) (tNotV (tIsE K A j Y)))) D σ H :=
  s_ret (ev_is (ev_andV (ev_isX (ev_var hv) h E m.1) fun _ => ev_andV (ev_isXV (ev_var hv) h E) fun _ => ev_notV (ev_isX (ev_var hv) h E m.2)) (by rw [s, show subE Dn Dn = true by unfold subE; simp]; rfl)) k
/-- the whole of it -/
theorem q_tail {j : Nat} {a : Addr} {L : List Cn} {Dn X1 X2 X3 X4 X5 X6 X7 X8 X9 X10 X11 X12 Y : Cn} (hv : σ[j]? = some (some (.ref a))) (h : H a = some (exA a (.ref (A Dn)) none)) (E : ExK K A L Dn) (m : ∀ X ∈ [X1, X2, X3, X4, X5, X6, X7, X8, X9, X10, X11, X12, Dn, Y], X ∈ L)
    (s : ∀ X ∈ [X1, X2, X3, X4, X5, X6, X7, X8, X9, X10, X11, X12, Y], subE Dn X = false) (k : ∀ H1, Ex H H1 → D.rt (.bl true) H1) :
    tSeq (tIfS (tOr (tB (tIsE K A j X1)) (tOr (tB (tIsE K A j X2)) (tB (tIsE K A j X3)))) (tRet (tC (.bl false))) tNext)
    (tSeq (tIfS (tOr (tB (tIsE K A j X4)) (tOr (tB (tIsE K A j X5)) (tB (tIsE K A j X6)))) (tRet (tC (.bl false))) tNext)
    (tSeq (tIfS (tOr (tB (tIsE K A j X7)) (tOr (tB (tIsE K A j X8)) (tB (tIsE K A j X9)))) (tRet (tC (.bl false))) tNext)
    (tSeq (tIfS (tOr (tB (tIsE K A j X10)) (tOr (tB (tIsE K A j X11)) (tB (tIsE K A j X12)))) (tRet (tC (.bl false))) tNext)
    (tRet (tAndV (tIsE K A j Dn) (tAndV (tCB (rIsX K) (tCons (tVar j) (tCons (tC (.ty "ValueError")) tNil))) (tNotV (tIsE K A j Y)))))))) D σ H := by
  refine q_not3 hv h E ⟨m _ (by simp), m _ (by simp), m _ (by simp)⟩ (by rw [s _ (by simp), s _ (by simp), s _ (by simp)]; rfl) fun H1 e1 => ?_
  refine q_not3 hv (e1 a _ h) E ⟨m _ (by simp), m _ (by simp), m _ (by simp)⟩ (by rw [s _ (by simp), s _ (by simp), s _ (by simp)]; rfl) fun H2 e2 => ?_
  refine q_not3 hv ((e1.trans e2) a _ h) E ⟨m _ (by simp), m _ (by simp), m _ (by simp)⟩ (by rw [s _ (by simp), s _ (by simp), s _ (by simp)]; rfl) fun H3 e3 => ?_
  refine q_not3 hv (((e1.trans e2).trans e3) a _ h) E ⟨m _ (by simp), m _ (by simp), m _ (by simp)⟩ (by rw [s _ (by simp), s _ (by simp), s _ (by simp)]; rfl) fun H4 e4 => ?_
  exact s_isE hv ((((e1.trans e2).trans e3).trans e4) a _ h) E ⟨m _ (by simp), m _ (by simp)⟩ (s _ (by simp)) fun H5 e5 => k H5 ((((e1.trans e2).trans e3).trans e4).trans e5)
end
end Z

set_option Elab.async false
set_option linter.all false
set_option autoImplicit false
set_option maxRecDepth 100000
set_option maxHeartbeats 4000000
/-! ev: what an expression comes to, by its form -/
local macro_rules | `(tactic| k_places) => `(tactic| (repeat' (first
  | (with_reducible exact ev_c)
  | (with_reducible exact ev_var rfl)
  | (with_reducible refine ev_chainLL ?_ ?_ ?_)
  | (with_reducible refine ev_chainLt ?_ ?_ ?_)
  | (with_reducible refine ev_op ?_ ?_ ?_)
  | (with_reducible refine ev_neg ?_)
  | (with_reducible refine et_test ?_)
  | (with_reducible refine et_B ?_)
  | (with_reducible refine et_not ?_)
  | (with_reducible refine et_and ?_ (fun _ => ?_))
  | (with_reducible refine et_or ?_ (fun _ => ?_))
  | (with_reducible refine ev_andV ?_ (fun _ => ?_))
  | (with_reducible refine ev_orV ?_ (fun _ => ?_))
  | (with_reducible refine ev_notV ?_)
  | (with_reducible exact rv_addI)
  | (with_reducible exact rv_subI)
  | (with_reducible exact rv_lt)
  | (with_reducible exact rv_le)
  | (with_reducible exact rv_gt)
  | (with_reducible exact rv_ge)
  | (with_reducible exact rv_isB)
  | (with_reducible exact rv_isnB)
  | (with_reducible exact rv_isN)
  | (with_reducible exact rv_isnN)
  | (with_reducible exact rv_eqS rfl)
  | (with_reducible exact rv_neS rfl)
  | (with_reducible exact rv_inStr)
  | (with_reducible exact rv_ninStr)
  | (with_reducible exact rv_mod (by first | decide | omega | assumption))
  | (with_reducible exact rv_div (by first | decide | omega | assumption))
  | (with_reducible exact rv_pow (by decide))
  | (with_reducible refine ed_i ?_; done)
  | (with_reducible exact ea_nil)
  | (with_reducible refine ea_cons ?_ ?_)
  | (with_reducible exact eds_nil)
  | (with_reducible refine eds_cons ?_ ?_)
  | (with_reducible exact ed_dnew)
  | (with_reducible refine ed_lst ?_ (by simp only [List.length_cons, List.length_nil]; omega))
  | (with_reducible refine ed_tup ?_ (by simp only [List.length_cons, List.length_nil]; omega)))))
namespace Z
open PySem PySem.Spec PyProof.Rows L2 Evl
/-! ### methods and classes -/
def tMetS (C : Addr) (m : Str) (sp : Sp) (E : L2.St → XK) (ta : TE) (t : TA) : TE := fun σ H Q => ta σ H fun x H1 => ∃ a dx fs, x = .ref a ∧ H1 a = some (.ins C dx fs) ∧ fs.lookup m = none ∧ t σ H1 fun vs H2 => sp (x :: vs) H2 Q (E σ)
def tMakS (C : Addr) (sp : Sp) (E : L2.St → XK) (t : TA) : TE := fun σ H Q => t σ H fun vs H1 => ∀ x dx, H1 x = none → H1 dx = none → dx ≠ x →
  sp (.ref x :: vs) (upd (upd H1 dx (.own x)) x (.ins C dx [])) (fun v H2 => v = .non ∧ Q (.ref x) H2) (E σ)
/-- a method of a class -/
structure Met (P : Program) (w : World) (K : PySem.W.Frag) (mg : Str → Option Value) (base : Heap) (k : Nat) (C : Addr) (m : Str) (f : Addr) (ps : List Str) (sp : Sp) : Prop where
  ex : ∃ fd, FnOk P w K mg base (L2.CX P w) k f fd ps sp ∧ Binds K fd ps []
  mt : Meth K C m f
  cl : Cls K C
/-- a class that may be made -/
structure Mak (P : Program) (w : World) (K : PySem.W.Frag) (mg : Str → Option Value) (base : Heap) (k : Nat) (C : Addr) (c : Str) (f : Addr) (ps : List Str) (sp : Sp) : Prop where
  ex : ∃ fd, FnOk P w K mg base (L2.CX P w) k f fd ps sp ∧ Binds K fd ps []
  mak : Mk K C f
  mg : mg c = some (.ref C)
section
variable {X : Cx} {W : WX} {k : Nat} {f C : Addr} {ps : List Str} {sp : Sp} {x m : Str} {p pos apos : Pos} {e o : Expr} {es : List Expr} {t : TA} {ta : TE} {pl : Sem Bool}
theorem pe_metX {E : L2.St → XK} (M : Met X.prog X.w X.K X.mg X.base k C m f ps sp) (he : PE X o ta) (hr : Room k X.A) (hx : ∀ σ, PassesAt (L2.CX X.prog X.w) X σ (E σ)) (ha : PA X (e :: es) t)
    (hst : starEach (e :: es) X.env = (false, eval e X.env) :: starEach es X.env := by rfl) (hpl : (backTo pos (starEach es X.env)).any (·.1) = false := by rfl)
    (ht : eval (.Call (.Attribute o m apos) (e :: es) [] pos) X.env = (do
      let ov ← eval o X.env
      standAt apos.atName
      let (f, first) ← holding [ov] (getMethod ov m pl)
      callWith pos f first (backTo pos (starEach (e :: es) X.env)) (backToKw pos (keywordEach [] X.env))) := by rfl) :
    PE X (.Call (.Attribute o m apos) (e :: es) [] pos) (tMetS C m sp E ta t) := by
  obtain ⟨fd, F, b⟩ := M.ex
  refine ⟨fun pins s σ H Q I h => ?_⟩
  refine PySem.W.methodCall_KW (pl := pl) (thn (he.run pins s σ H _ I h) fun u s1 ⟨x, H1, I1, rx, a, dx, fs, ex, ea, l, q⟩ => ?_) ht
  subst ex
  obtain rfl : u = Value.ref a := rx
  refine getmeth_ok I1 ea M.cl M.mt l ?_
  refine PySem.W.callWith_K (first := [.ref a]) (h₀ := X.base) I.ok.mod.kin M.mt.kp (thn (ha.run pos pins s1 σ H1 _ I1 q) fun us s2 ⟨vs, H2, I2, r, q2⟩ => ⟨I2.kIn, ?_⟩) hst hpl
  exact run_fnS (us := .ref a :: us) (vs := .ref a :: vs) F hr b (hx σ) I2 (.cons rfl r) q2
theorem pe_met0X {E : L2.St → XK} (M : Met X.prog X.w X.K X.mg X.base k C m f ps sp) (he : PE X o ta) (hr : Room k X.A) (hx : ∀ σ, PassesAt (L2.CX X.prog X.w) X σ (E σ))
    (ht : eval (.Call (.Attribute o m apos) [] [] pos) X.env = (do
      let ov ← eval o X.env
      standAt apos.atName
      let (f, first) ← holding [ov] (getMethod ov m pl)
      callWith pos f first (backTo pos (starEach [] X.env)) (backToKw pos (keywordEach [] X.env))) := by rfl) :
    PE X (.Call (.Attribute o m apos) [] [] pos) (tMetS C m sp E ta tNil) := by
  obtain ⟨fd, F, b⟩ := M.ex
  refine ⟨fun pins s σ H Q I h => ?_⟩
  refine PySem.W.methodCall_KW (pl := pl) (thn (he.run pins s σ H _ I h) fun u s1 ⟨x, H1, I1, rx, a, dx, fs, ex, ea, l, q⟩ => ?_) ht
  subst ex
  obtain rfl : u = Value.ref a := rx
  refine getmeth_ok I1 ea M.cl M.mt l ?_
  exact PySem.W.callWith_K0 (first := [.ref a]) I1.kIn M.mt.kp (run_fnS (us := [.ref a]) (vs := [.ref a]) F hr b (hx σ) I1 (.cons rfl .nil) q)
theorem pe_met (M : Met X.prog X.w X.K X.mg X.base k C m f ps sp) (he : PE X o ta) (hr : Room k X.A) (tk : Takes X W) (ha : PA X (e :: es) t)
    (hst : starEach (e :: es) X.env = (false, eval e X.env) :: starEach es X.env := by rfl) (hpl : (backTo pos (starEach es X.env)).any (·.1) = false := by rfl)
    (ht : eval (.Call (.Attribute o m apos) (e :: es) [] pos) X.env = (do
      let ov ← eval o X.env
      standAt apos.atName
      let (f, first) ← holding [ov] (getMethod ov m pl)
      callWith pos f first (backTo pos (starEach (e :: es) X.env)) (backToKw pos (keywordEach [] X.env))) := by rfl) :
    PE X (.Call (.Attribute o m apos) (e :: es) [] pos) (tMetS C m sp (WE W) ta t) := pe_metX M he hr (fun σ => passAt tk σ) ha hst hpl ht
theorem pe_met0 (M : Met X.prog X.w X.K X.mg X.base k C m f ps sp) (he : PE X o ta) (hr : Room k X.A) (tk : Takes X W)
    (ht : eval (.Call (.Attribute o m apos) [] [] pos) X.env = (do
      let ov ← eval o X.env
      standAt apos.atName
      let (f, first) ← holding [ov] (getMethod ov m pl)
      callWith pos f first (backTo pos (starEach [] X.env)) (backToKw pos (keywordEach [] X.env))) := by rfl) :
    PE X (.Call (.Attribute o m apos) [] [] pos) (tMetS C m sp (WE W) ta tNil) := pe_met0X M he hr (fun σ => passAt tk σ) ht
theorem passB {X : Cx} (σ : L2.St) : PassesAt (L2.CX X.prog X.w) X σ E0 := fun pins H s e s' _ c => by
  obtain ⟨_, _, _, _, _, _, _, _, _, _, _, _, z⟩ := c
  exact z.elim
theorem pe_metB (M : Met X.prog X.w X.K X.mg X.base k C m f ps sp) (he : PE X o ta) (hr : Room k X.A) (ha : PA X (e :: es) t)
    (hst : starEach (e :: es) X.env = (false, eval e X.env) :: starEach es X.env := by rfl) (hpl : (backTo pos (starEach es X.env)).any (·.1) = false := by rfl)
    (ht : eval (.Call (.Attribute o m apos) (e :: es) [] pos) X.env = (do
      let ov ← eval o X.env
      standAt apos.atName
      let (f, first) ← holding [ov] (getMethod ov m pl)
      callWith pos f first (backTo pos (starEach (e :: es) X.env)) (backToKw pos (keywordEach [] X.env))) := by rfl) :
    PE X (.Call (.Attribute o m apos) (e :: es) [] pos) (tMetS C m sp (fun _ => E0) ta t) := pe_metX M he hr passB ha hst hpl ht
theorem pe_metB0 (M : Met X.prog X.w X.K X.mg X.base k C m f ps sp) (he : PE X o ta) (hr : Room k X.A)
    (ht : eval (.Call (.Attribute o m apos) [] [] pos) X.env = (do
      let ov ← eval o X.env
      standAt apos.atName
      let (f, first) ← holding [ov] (getMethod ov m pl)
      callWith pos f first (backTo pos (starEach [] X.env)) (backToKw pos (keywordEach [] X.env))) := by rfl) :
    PE X (.Call (.Attribute o m apos) [] [] pos) (tMetS C m sp (fun _ => E0) ta tNil) := pe_met0X M he hr passB ht
theorem run_mak {pins : List (Addr × Obj)} {σ : L2.St} {H : Hp} {s : Shared} {Q : VK} {us : List Value} {vs : List V} {fd : FuncData} {E : XK} (M : Mk X.K C f) (F : FnOk X.prog X.w X.K X.mg X.base (L2.CX X.prog X.w) k f fd ps sp) (hr : Room (k + 1) X.A) (hb : Binds X.K fd ps [])
    (hx : PassesAt (L2.CX X.prog X.w) X σ E) (I : Inv X pins σ H s) (r : Vals vs us)
    (h : ∀ x dx, H x = none → H dx = none → dx ≠ x → sp (.ref x :: vs) (upd (upd H dx (.own x)) x (.ins C dx [])) (fun v H2 => v = .non ∧ Q (.ref x) H2) E) :
    wpAny (model X.prog X.w) X.A (call (.ref C) us) (EP X pins σ Q) X.xe s := by
  have hq := h (s.heap.objs.size + 1) s.heap.objs.size (I.hok.fresh (Nat.le_succ _)) (I.hok.fresh (Nat.le_refl _)) (Nat.ne_of_lt (Nat.lt_succ_self _))
  have I2 := Inv.made (C := C) I
  have r2 : Vals (V.ref (s.heap.objs.size + 1) :: vs) (Value.ref (s.heap.objs.size + 1) :: us) := .cons rfl r
  have hl : (Value.ref (s.heap.objs.size + 1) :: us ++ []).length = ps.length := by
    have e := r2.length
    rw [F.len _ _ _ _ hq] at e
    rw [List.append_nil]
    exact e.symm
  have b := hb _ (Value.ref (s.heap.objs.size + 1) :: us) I2.kIn hl
  rw [List.append_nil] at b
  refine wpAny_call (make_map (f := f) I.kIn M.makes M.init (beq_iff_eq.mp M.fn) (codeAny_mono (F.run _ X.stack _ _ ⟨Value.ref (s.heap.objs.size + 1) :: us, []⟩ (Value.ref (s.heap.objs.size + 1) :: us) _ _ E (hr.make C us [])
    (I2.env0.make C us []) b r2 hq) fun r s' hq' => ?_))
  cases r with
  | error e => exact hx pins _ _ e s' I2 hq'
  | ok fl =>
    cases fl with
    | ret u =>
      obtain ⟨v, H', I3, rv, ev, q3⟩ := I2.after hq'
      subst ev
      exact ⟨rv, ⟨V.ref (s.heap.objs.size + 1), H', I3, rfl, q3⟩⟩
    | next => exact False.elim hq'
    | brk => exact False.elim hq'
    | cont => exact False.elim hq'
theorem pe_mak (M : Mak X.prog X.w X.K X.mg X.base k C x f ps sp) (hr : Room (k + 1) X.A) (tk : Takes X W) (ha : PA X (e :: es) t) (hg : Gl X x := by rfl) (hdb : (x == ("__debug__" : Str)) = false := by decide)
    (he : starEach (e :: es) X.env = (false, eval e X.env) :: starEach es X.env := by rfl) (hpl : (backTo pos (starEach es X.env)).any (·.1) = false := by rfl) :
    PE X (.Call (.Name x p) (e :: es) [] pos) (tMakS C sp (WE W) t) := by
  obtain ⟨fd, F, b⟩ := M.ex
  refine ⟨fun pins s σ H Q I h => ?_⟩
  refine wpAny_Call_Name_kw (ld_glob I hg M.mg ?_ hdb)
  refine PySem.W.callWith_K (h₀ := X.base) I.ok.mod.kin M.mak.kp (thn (ha.run pos pins s σ H _ I h) fun us s1 ⟨vs, H1, I1, r, q⟩ => ⟨I1.kIn, ?_⟩) he hpl
  exact run_mak M.mak F hr b (passAt tk σ) I1 r q
theorem pe_mak0 (M : Mak X.prog X.w X.K X.mg X.base k C x f ps sp) (hr : Room (k + 1) X.A) (tk : Takes X W) (hg : Gl X x := by rfl) (hdb : (x == ("__debug__" : Str)) = false := by decide) : PE X (.Call (.Name x p) [] [] pos) (tMakS C sp (WE W) tNil) := by
  obtain ⟨fd, F, b⟩ := M.ex
  refine ⟨fun pins s σ H Q I h => ?_⟩
  refine wpAny_Call_Name_kw (ld_glob I hg M.mg ?_ hdb)
  exact PySem.W.callWith_K0 I.kIn M.mak.kp (run_mak (us := []) M.mak F hr b (passAt tk σ) I .nil h)
end
theorem met_of {P : Program} {w : World} {K : PySem.W.Frag} {mg : Str → Option Value} {base : Heap} {st : Stmt} {x qual : Str} {f C : Addr} {fd : FuncData} {N ps : List Str} {k : Nat} {sp : Sp} (F : Fun K x qual st f fd) (S : FnScope N ps (defScope st)) (hm : Meth K C x f) (hc : Cls K C) (hb : Binds K fd ps [])
    (len : ∀ vs H Q E, sp vs H Q E → vs.length = ps.length) (t : XK → TS)
    (d : ∀ (cdv : Value) (A : Around) (outer : List Env) (s : Shared) (H : Hp) (E : XK), Room k (A.deeper (envOfC qual (defScope st) s.heap.objs.size f cdv)) → PSs (cxOf (L2.CX P w) P w K mg base N qual (defScope st) f cdv A outer s H E) (defBody st) (t E))
    (r : ∀ (vs : List V) (H : Hp) (Q : VK) (E : XK), sp vs H Q E → t E { nx := fun _ H' => Q .non H', rt := Q } (L2.start N vs) H) : Met P w K mg base (k + 1) C x f ps sp :=
  ⟨⟨fd, F.okX S len fun cdv A outer s H vs Q E hr h => ⟨t E, d cdv A outer s H E hr, r vs H Q E h⟩, hb⟩, hm, hc⟩
theorem mak_of {P : Program} {w : World} {K : PySem.W.Frag} {mg : Str → Option Value} {base : Heap} {st : Stmt} {c qual : Str} {f C : Addr} {fd : FuncData} {N ps : List Str} {k : Nat} {sp : Sp} (F : Fun K "__init__" qual st f fd) (S : FnScope N ps (defScope st)) (hm : Mk K C f) (hg : mg c = some (.ref C)) (hb : Binds K fd ps [])
    (len : ∀ vs H Q E, sp vs H Q E → vs.length = ps.length) (t : XK → TS)
    (d : ∀ (cdv : Value) (A : Around) (outer : List Env) (s : Shared) (H : Hp) (E : XK), Room k (A.deeper (envOfC qual (defScope st) s.heap.objs.size f cdv)) → PSs (cxOf (L2.CX P w) P w K mg base N qual (defScope st) f cdv A outer s H E) (defBody st) (t E))
    (r : ∀ (vs : List V) (H : Hp) (Q : VK) (E : XK), sp vs H Q E → t E { nx := fun _ H' => Q .non H', rt := Q } (L2.start N vs) H) : Mak P w K mg base (k + 1) C c f ps sp :=
  ⟨⟨fd, F.okX S len fun cdv A outer s H vs Q E hr h => ⟨t E, d cdv A outer s H E hr, r vs H Q E h⟩, hb⟩, hm, hg⟩
/-! ### fields -/
structure ClK (K : PySem.W.Frag) (C : Addr) (fs : List Str) : Prop where
  cl : Cls K C
  na : ∀ f ∈ fs, NoAttr K C f
theorem putF_len (f : Str) (v : V) : ∀ fs : List (Str × V), (putF f v fs).length ≤ fs.length + 1
  | [] => Nat.le_refl _
  | (g, x) :: r => by
    show (if g = f then (g, v) :: r else (g, x) :: putF f v r).length ≤ _
    split
    · exact Nat.le_succ _
    · exact Nat.succ_le_succ (putF_len f v r)
theorem putF_lt {f : Str} {v : V} {fs : List (Str × V)} {n m : Nat} (h : fs.length < n) (e : n + 1 = m) : (putF f v fs).length < m := by
  have := putF_len f v fs
  omega
section
variable {K : PySem.W.Frag} {σ : L2.St} {H H' : Hp} {ta tb tv : TE} {D : Ends} {tz : TS} {C a dx : Addr} {fs : List (Str × V)} {ns : List Str} {f : Str} {v : V}
theorem ev_fld (ha : Ev ta σ H (.ref a)) (hi : H a = some (.ins C dx fs)) (c : ClK K C ns) (hf : f ∈ ns) (l : fs.lookup f = some v) : Ev (tFld K ta f) σ H v := fun H1 e Q q =>
  ha H1 e _ fun H2 e2 => ⟨a, C, dx, fs, v, rfl, (e.trans e2) _ _ hi, c.cl, c.na f hf, l, q H2 e2⟩
theorem s_fld (hv : Ev tv σ H v) (ha : Ev ta σ H (.ref a)) (hi : H a = some (.ins C dx fs)) (c : ClK K C ns) (hf : f ∈ ns) (hl : fs.length < 1000) (k : ∀ H1, Ex H H1 → D.nx σ (upd H1 a (.ins C dx (putF f v fs)))) : sFld K ta tv f D σ H :=
  hv H (Ex.refl H) _ fun H1 e1 => ha H1 e1 _ fun H2 e2 => ⟨a, C, dx, fs, rfl, (e1.trans e2) _ _ hi, c.cl, c.na f hf, hl, k H2 (e1.trans e2)⟩
theorem q_fld (hv : Ev tv σ H v) (ha : Ev ta σ H (.ref a)) (hi : H a = some (.ins C dx fs)) (c : ClK K C ns) (hf : f ∈ ns) (hl : fs.length < 1000) (k : ∀ H1, Ex H H1 → tz D σ (upd H1 a (.ins C dx (putF f v fs)))) : tSeq (sFld K ta tv f) tz D σ H :=
  s_fld (D := { D with nx := tz D }) hv ha hi c hf hl k
theorem q_fldL {xs : List V} (hv : EvL tv σ H xs) (ha : Ev ta σ H (.ref a)) (hi : H a = some (.ins C dx fs)) (c : ClK K C ns) (hf : f ∈ ns) (hl : fs.length < 1000) (k : ∀ p H1, H p = none → Ex H H1 → H1 p = some (.lst xs) → tz D σ (upd H1 a (.ins C dx (putF f (.ref p) fs)))) : tSeq (sFld K ta tv f) tz D σ H :=
  hv H (Ex.refl H) _ fun p H1 hp e1 h1 => ha H1 e1 _ fun H2 e2 => ⟨a, C, dx, fs, rfl, (e1.trans e2) _ _ hi, c.cl, c.na f hf, hl, k p H2 hp (e1.trans e2) (e2 _ _ h1)⟩
/-- a method without change: a value -/
theorem ev_met {m : Str} {sp : Sp} {vs : List V} {E : L2.St → XK} {tas : TA} {z : V} (ho : Ev ta σ H (.ref a)) (hi : H a = some (.ins C dx fs)) (l : fs.lookup m = none) (h : EvA tas σ H vs) (hs : SpV sp (.ref a :: vs) H z) : Ev (tMetS C m sp E ta tas) σ H z := fun H1 e Q q =>
  ho H1 e _ fun H2 e2 => ⟨a, dx, fs, rfl, (e.trans e2) _ _ hi, l, h H2 (e.trans e2) _ fun H3 e3 => hs H3 ((e.trans e2).trans e3) Q (fun H4 e4 => q H4 ((e2.trans e3).trans e4)) (E σ)⟩
theorem el_met {m : Str} {sp : Sp} {vs : List V} {E : L2.St → XK} {tas : TA} {xs : List V} (ho : Ev ta σ H (.ref a)) (hi : H a = some (.ins C dx fs)) (l : fs.lookup m = none) (h : EvA tas σ H vs) (hs : SpL sp (.ref a :: vs) H xs) : EvL (tMetS C m sp E ta tas) σ H xs := fun H1 e Q q =>
  ho H1 e _ fun H2 e2 => ⟨a, dx, fs, rfl, (e.trans e2) _ _ hi, l, h H2 (e.trans e2) _ fun H3 e3 => hs H3 ((e.trans e2).trans e3) Q (fun p H4 hp e4 h4 => q p H4 (fresh_back (e2.trans e3) hp) ((e2.trans e3).trans e4) h4) (E σ)⟩
/-- a method, by its promise -/
theorem s_metS {m : Str} {sp : Sp} {vs : List V} {E : L2.St → XK} {tas : TA} (ho : Ev ta σ H (.ref a)) (hi : H a = some (.ins C dx fs)) (l : fs.lookup m = none) (h : EvA tas σ H vs) (k : ∀ H1, Ex H H1 → sp (.ref a :: vs) H1 (fun _ H2 => D.nx σ H2) (E σ)) : tDrop (tMetS C m sp E ta tas) D σ H :=
  ho H (Ex.refl H) _ fun H2 e2 => ⟨a, dx, fs, rfl, e2 _ _ hi, l, h H2 e2 _ fun H3 e3 => k H3 (e2.trans e3)⟩
theorem q_metS {m : Str} {sp : Sp} {vs : List V} {E : L2.St → XK} {tas : TA} (ho : Ev ta σ H (.ref a)) (hi : H a = some (.ins C dx fs)) (l : fs.lookup m = none) (h : EvA tas σ H vs) (k : ∀ H1, Ex H H1 → sp (.ref a :: vs) H1 (fun _ H2 => tz D σ H2) (E σ)) : tSeq (tDrop (tMetS C m sp E ta tas)) tz D σ H :=
  s_metS (D := { D with nx := tz D }) ho hi l h k
theorem s_metAsg {m : Str} {sp : Sp} {vs : List V} {E : L2.St → XK} {tas : TA} {i : Nat} (ho : Ev ta σ H (.ref a)) (hi : H a = some (.ins C dx fs)) (l : fs.lookup m = none) (h : EvA tas σ H vs) (k : ∀ H1, Ex H H1 → sp (.ref a :: vs) H1 (fun v H2 => D.nx (σ.set i (some v)) H2) (E σ)) : tAsg (tMetS C m sp E ta tas) (gName i) D σ H :=
  ho H (Ex.refl H) _ fun H2 e2 => ⟨a, dx, fs, rfl, e2 _ _ hi, l, h H2 e2 _ fun H3 e3 => k H3 (e2.trans e3)⟩
theorem q_metAsg {m : Str} {sp : Sp} {vs : List V} {E : L2.St → XK} {tas : TA} {i : Nat} (ho : Ev ta σ H (.ref a)) (hi : H a = some (.ins C dx fs)) (l : fs.lookup m = none) (h : EvA tas σ H vs) (k : ∀ H1, Ex H H1 → sp (.ref a :: vs) H1 (fun v H2 => tz D (σ.set i (some v)) H2) (E σ)) : tSeq (tAsg (tMetS C m sp E ta tas) (gName i)) tz D σ H :=
  s_metAsg (D := { D with nx := tz D }) ho hi l h k
theorem q_makS {sp : Sp} {vs : List V} {E : L2.St → XK} {tas : TA} {i : Nat} (h : EvA tas σ H vs) (k : ∀ H1, Ex H H1 → ∀ x dx, H1 x = none → H1 dx = none → dx ≠ x → sp (.ref x :: vs) (upd (upd H1 dx (.own x)) x (.ins C dx [])) (fun v H2 => v = .non ∧ tz D (σ.set i (some (.ref x))) H2) (E σ)) :
    tSeq (tAsg (tMakS C sp E tas) (gName i)) tz D σ H := h H (Ex.refl H) _ fun H1 e1 x dx h1 h2 h3 => k H1 e1 x dx h1 h2 h3
theorem x_makS {sp : Sp} {vs : List V} {E : L2.St → XK} {tas : TA} {Q : VK} (h : EvA tas σ H vs) (k : ∀ H1, Ex H H1 → ∀ x dx, H1 x = none → H1 dx = none → dx ≠ x → sp (.ref x :: vs) (upd (upd H1 dx (.own x)) x (.ins C dx [])) (fun v H2 => v = .non ∧ Q (.ref x) H2) (E σ)) :
    tMakS C sp E tas σ H Q := h H (Ex.refl H) _ fun H1 e1 x dx h1 h2 h3 => k H1 e1 x dx h1 h2 h3
theorem s_makDrop {sp : Sp} {vs : List V} {E : L2.St → XK} {tas : TA} (h : EvA tas σ H vs) (k : ∀ H1, Ex H H1 → ∀ x dx, H1 x = none → H1 dx = none → dx ≠ x → sp (.ref x :: vs) (upd (upd H1 dx (.own x)) x (.ins C dx [])) (fun v H2 => v = .non ∧ D.nx σ H2) (E σ)) :
    tDrop (tMakS C sp E tas) D σ H := h H (Ex.refl H) _ fun H1 e1 x dx h1 h2 h3 => k H1 e1 x dx h1 h2 h3
end
end Z

set_option Elab.async false
set_option linter.all false
set_option autoImplicit false
set_option maxRecDepth 100000
set_option maxHeartbeats 4000000
/-! ev: what an expression comes to, by its form -/
local macro_rules | `(tactic| k_places) => `(tactic| (repeat' (first
  | (with_reducible exact ev_c)
  | (with_reducible exact ev_var rfl)
  | (with_reducible refine ev_chainLL ?_ ?_ ?_)
  | (with_reducible refine ev_chainLt ?_ ?_ ?_)
  | (with_reducible refine ev_op ?_ ?_ ?_)
  | (with_reducible refine ev_neg ?_)
  | (with_reducible refine et_test ?_)
  | (with_reducible refine et_B ?_)
  | (with_reducible refine et_not ?_)
  | (with_reducible refine et_and ?_ (fun _ => ?_))
  | (with_reducible refine et_or ?_ (fun _ => ?_))
  | (with_reducible refine ev_andV ?_ (fun _ => ?_))
  | (with_reducible refine ev_orV ?_ (fun _ => ?_))
  | (with_reducible refine ev_notV ?_)
  | (with_reducible exact rv_addI)
  | (with_reducible exact rv_subI)
  | (with_reducible exact rv_lt)
  | (with_reducible exact rv_le)
  | (with_reducible exact rv_gt)
  | (with_reducible exact rv_ge)
  | (with_reducible exact rv_isB)
  | (with_reducible exact rv_isnB)
  | (with_reducible exact rv_isN)
  | (with_reducible exact rv_isnN)
  | (with_reducible exact rv_eqS rfl)
  | (with_reducible exact rv_neS rfl)
  | (with_reducible exact rv_inStr)
  | (with_reducible exact rv_ninStr)
  | (with_reducible exact rv_mod (by first | decide | omega | assumption))
  | (with_reducible exact rv_div (by first | decide | omega | assumption))
  | (with_reducible exact rv_pow (by decide))
  | (with_reducible refine ed_i ?_; done)
  | (with_reducible exact ea_nil)
  | (with_reducible refine ea_cons ?_ ?_)
  | (with_reducible exact eds_nil)
  | (with_reducible refine eds_cons ?_ ?_)
  | (with_reducible exact ed_dnew)
  | (with_reducible refine ed_lst ?_ (by simp only [List.length_cons, List.length_nil]; omega))
  | (with_reducible refine ed_tup ?_ (by simp only [List.length_cons, List.length_nil]; omega)))))
namespace Z
open PySem PySem.Spec PyProof.Rows L2 Evl
/-! ### tables.py -/
section
variable {K : PySem.W.Frag} {σ : L2.St} {H H' : Hp} {ta tb te tx : TE} {D : Ends} {tz : TS}
theorem ed_L {xs : List V} {ds : List PyData} (h : EvL te σ H xs) (r : ∀ H', Ex H H' → DtAll H' xs ds) : EvD te σ H (.list ds) := fun H1 e Q q =>
  h H1 e _ fun p H2 _ e2 hp => q _ H2 e2 (.lst hp (r H2 (e.trans e2)))
theorem dt_ints : ∀ (ns : List Int), DtAll H (ns.map V.int) (ns.map PyData.int)
  | [] => .nil
  | n :: ns => .cons (.int n) (dt_ints ns)
theorem dt_strs : ∀ (ns : List Str), DtAll H (ns.map V.str) (ns.map PyData.str)
  | [] => .nil
  | n :: ns => .cons (.str n) (dt_strs ns)
/-- 0, 1, .. -/
def upto (n : Nat) : List Int := (List.range n).map Int.ofNat
theorem upto_len (n : Nat) : (upto n).length = n := by unfold upto; rw [List.length_map, List.length_range]
theorem el_listRg {n : Int} (h : Ev te σ H (.int n)) (hn : 0 ≤ n ∧ n ≤ 100000) : EvL (tLstRg (tRg1 te)) σ H ((upto n.toNat).map V.int) := fun H1 e Q q =>
  h H1 e _ fun H2 e2 => ⟨n, rfl, .of_le (by omega) (by omega) (by omega) (by omega), fun p hp => q p _ (fresh_back e2 hp) (e2.trans (Ex.new hp)) (by
    rw [upd_same]
    unfold rgV upto
    rw [List.map_map, Int.sub_zero]
    congr 2
    exact List.map_congr_left fun i _ => by show V.int (0 + (i : Int)) = V.int (i : Int); rw [Int.zero_add])⟩
/-- [k for k in range(n)] -/
theorem el_upto {tas : TA} {n : Int} {j : Nat} (h : EvA tas σ H [.int n]) (hn : 0 ≤ n ∧ n ≤ 40000) (hw : ∀ x, wipe ((wipe σ [j]).set j (some x)) [j] = wipe σ [j]) (hj : ∀ x, ((wipe σ [j]).set j (some x))[j]? = some (some x)) : EvL (tLc (iRng1 tas) (gName j) tYes (tVar j) [j]) σ H ((upto n.toNat).map V.int) := by
  have := el_lcR1 (t := tYes) (te := tVar j) (fun _ => true) (fun i => V.int i) h hn hw (fun i H1 _ _ => fun H2 _ Q q => q H2 (Ex.refl H2)) (fun i H1 _ _ _ => ev_var (hj _))
  refine fun H1 e Q q => this H1 e Q fun p H2 hp e2 h2 => q p H2 hp e2 ?_
  rw [h2]
  unfold given upto
  rw [List.filter_eq_self.mpr (fun _ _ => rfl), List.map_map]
  rfl
theorem el_listA {p : Addr} {xs : List V} (ha : Ev ta σ H (.ref p)) (h : SqL K H p xs) : EvL (tCB (rListA K) (tCons ta tNil)) σ H xs := fun H1 e Q q =>
  ha H1 e _ fun H2 e2 => .inl ⟨p, xs, rfl, .inl (ex_l (e.trans e2) h), fun l hl => q l _ (fresh_back e2 hl) (e2.trans (Ex.new hl)) upd_same⟩
theorem el_listK {p : Addr} {kvs : List (Key × V)} (ha : Ev ta σ H (.ref p)) (h : H p = some (.dK kvs)) : EvL (tCB (rListA K) (tCons ta tNil)) σ H (kvs.map fun kv => kV kv.1) := fun H1 e Q q =>
  ha H1 e _ fun H2 e2 => .inr ⟨p, kvs, rfl, .inl ((e.trans e2) _ _ h), fun l hl => q l _ (fresh_back e2 hl) (e2.trans (Ex.new hl)) upd_same⟩
theorem rc_lenD {p : Addr} {kvs : List (Key × V)} (h : H p = some (.dK kvs)) : RC (rLenA K) [.ref p] H (.int kvs.length) := fun H1 e _ q => .inr (.inl ⟨p, kvs, rfl, e _ _ h, q H1 (Ex.refl H1)⟩)
/-- made(..).append(v) -/
theorem q_appN {v : V} {xs : List V} (ha : EvL ta σ H xs) (h : Ev te σ H v) (hz : xs.length < 100000) (k : ∀ p H1, H p = none → Ex H H1 → H1 p = some (.lst xs) → tz D σ (upd H1 p (.lst (xs ++ [v])))) :
    tSeq (tDrop (tBM K "list" rAppend ta (tCons te tNil))) tz D σ H := ha H (Ex.refl H) _ fun p H1 hp e1 h1 =>
  ⟨Or.inl ⟨rfl, xs, sq_of h1⟩, h H1 e1 _ fun H2 e2 => ⟨p, xs, v, rfl, rfl, e2 _ _ h1, sz_lt hz, k p H2 hp (e1.trans e2) (e2 _ _ h1)⟩⟩
end
/-! is_below -/
def isBelow (n : Int) : PyData → Bool
  | .int i => decide (0 ≤ i ∧ i < n)
  | _ => false
def sp_is_below (K : PySem.W.Frag) : Sp := fun vs H Q _ => ∃ (v : V) (d : PyData) (n : Int), vs = [v, .int n] ∧ Dt H v d ∧ RetV (.bl (isBelow n d)) H Q
def t_is_below (K : PySem.W.Frag) (E : XK) : TS :=
  tRet (tAndV (tCallS (sp_is_whole K) (WE (fun cls d _ H => E cls d H)) (tCons (tVar 0) tNil)) (tChain rLeA rLtA (tC (.int 0)) (tVar 0) (tVar 1)))
theorem len_is_below {K : PySem.W.Frag} (vs : List V) (H : Hp) (Q : VK) (E : XK) (h : sp_is_below K vs H Q E) : vs.length = 2 := by obtain ⟨_, _, _, rfl, _⟩ := h; rfl
theorem r_is_below {K : PySem.W.Frag} (vs : List V) (H : Hp) (Q : VK) (E : XK) (h : sp_is_below K vs H Q E) : t_is_below K E { nx := fun _ H' => Q .non H', rt := Q } (L2.start ["thing", "many"] vs) H := by
  obtain ⟨v, d, n, rfl, r, k⟩ := h
  unfold t_is_below
  refine s_ret (v := .bl (isBelow n d)) ?_ k
  by_cases hi : ∃ i, d = .int i
  · obtain ⟨i, rfl⟩ := hi
    obtain rfl := r.i
    refine ev_is (ev_andV (ev_spB (g := isWholeD) (ed_var rfl r) trivial) fun _ => ev_chainLt ev_c (ev_var rfl) (ev_var rfl)) ?_
    show V.bl (true && (decide (0 ≤ i) && decide (i < n))) = V.bl (decide (0 ≤ i ∧ i < n))
    rw [Bool.true_and, Bool.decide_and]
  · have e1 : isBelow n d = false := by
      cases d <;> first | rfl | exact absurd ⟨_, rfl⟩ hi
    have e2 : isWholeD d = false := by
      cases d <;> first | rfl | exact absurd ⟨_, rfl⟩ hi
    rw [e1]
    refine ev_is (v := .bl (isWholeD d && false)) (ev_andV (ev_spB (ed_var rfl r) trivial) fun z => ?_) (by rw [e2]; rfl)
    rw [e2] at z
    cases z
theorem ev_below {K : PySem.W.Frag} {σ : L2.St} {H : Hp} {ta tb : TE} {E : L2.St → XK} {d : PyData} {n : Int} (h : EvD ta σ H d) (hb : Ev tb σ H (.int n)) : Ev (tCallS (sp_is_below K) E (tCons ta (tCons tb tNil))) σ H (.bl (isBelow n d)) := fun H1 e Q q =>
  h H1 e _ fun v H2 e2 r => hb H2 (e.trans e2) _ fun H3 e3 => ⟨v, d, n, rfl, r.ex e3, fun H4 e4 => q H4 ((e2.trans e3).trans e4)⟩
/-! the object -/
structure Tb where
  rows : List Int
  coming : Int
  cols : List (Str × List PyData)
/-- values: numbers and faults -/
inductive Vt (H : Hp) : V → PyData → Prop
  | int (i : Int) : Vt H (.int i) (.int i)
  | flt {a : Addr} {f w : Str} : H a = some (.tup [.str f, .str w]) → Vt H (.ref a) (.tuple [.str f, .str w])
inductive VtAll (H : Hp) : List V → List PyData → Prop
  | nil : VtAll H [] []
  | cons {v : V} {vs : List V} {d : PyData} {ds : List PyData} : Vt H v d → VtAll H vs ds → VtAll H (v :: vs) (d :: ds)
def Tup (H H' : Hp) : Prop := ∀ b xs, H b = some (.tup xs) → H' b = some (.tup xs)
theorem Vt.tup {H H' : Hp} (e : Tup H H') {v : V} {d : PyData} : Vt H v d → Vt H' v d
  | .int i => .int i
  | .flt h => .flt (e _ _ h)
theorem VtAll.tup {H H' : Hp} (e : Tup H H') : ∀ {vs : List V} {ds : List PyData}, VtAll H vs ds → VtAll H' vs ds
  | _, _, .nil => .nil
  | _, _, .cons a r => .cons (a.tup e) (r.tup e)
theorem Vt.dt {H : Hp} {v : V} {d : PyData} : Vt H v d → Dt H v d
  | .int i => .int i
  | .flt h => .tup h (.cons (.str _) (.cons (.str _) .nil))
theorem VtAll.dt {H : Hp} : ∀ {vs : List V} {ds : List PyData}, VtAll H vs ds → DtAll H vs ds
  | _, _, .nil => .nil
  | _, _, .cons a r => .cons a.dt r.dt
theorem vt_of {H : Hp} {v : V} {d : PyData} (r : Dt H v d) (h : isValueD d = true) : Vt H v d := by
  cases r with
  | int i => exact .int i
  | @tup a xs ds e r =>
    have h : (false || isFaultD (.tuple ds)) = true := h
    rw [Bool.false_or] at h
    unfold isFaultD at h
    split at h
    · rename_i f w q
      cases q
      cases r with
      | cons r1 r2 =>
        cases r2 with
        | cons r2 r3 =>
          cases r3
          cases r1
          cases w with
          | str z =>
            cases r2
            exact .flt e
          | _ => exact absurd h (by show ¬ ((decide _ && false) = true); rw [Bool.and_false]; decide)
    · cases h
  | non => cases h
  | bl b => cases h
  | str x => cases h
  | lst e r => cases h
  | dct e r => cases h
theorem VtAll.length {H : Hp} {vs : List V} {ds : List PyData} (h : VtAll H vs ds) : vs.length = ds.length := h.dt.length
/-- a column: its name, its list's place, its values -/
structure Ent where
  n : Str
  l : Addr
  ds : List PyData
def kvE (e : Ent) : Key × V := (.inr e.n, .ref e.l)
def cE (e : Ent) : Str × List PyData := (e.n, e.ds)
def ColAt (H : Hp) (e : Ent) : Prop := ∃ vs, H e.l = some (.lst vs) ∧ VtAll H vs e.ds
/-- the table tb stands at t: its dict dx, its lists and dict r, h, its columns es -/
structure TabOf (A : Cn → Addr) (H : Hp) (t dx r h : Addr) (es : List Ent) (tb : Tb) : Prop where
  nd : (t :: r :: h :: es.map (·.l)).Nodup
  nn : (es.map (·.n)).Nodup
  cols : tb.cols = es.map cE
  at_ : H t = some (.ins (A .Table) dx [("rows_now", .ref r), ("coming", .int tb.coming), ("held", .ref h)])
  rows : H r = some (.lst (tb.rows.map V.int))
  held : H h = some (.dK (es.map kvE))
  cell : ∀ e ∈ es, ColAt H e
  wide : ∀ e ∈ es, e.ds.length = tb.rows.length
  few : tb.rows.length ≤ 30 ∧ es.length ≤ 8
/-- the table tb stands at t, its places F -/
structure TabAt (A : Cn → Addr) (F : List Addr) (H : Hp) (t : Addr) (tb : Tb) : Prop where
  ex : ∃ (dx r h : Addr) (es : List Ent), F = t :: r :: h :: es.map (·.l) ∧ TabOf A H t dx r h es tb
theorem keys_es (es : List Ent) : ((es.map kvE).map fun kv => kV kv.1) = ((es.map cE).map (·.1)).map V.str := by
  rw [List.map_map, List.map_map, List.map_map]
  rfl
theorem Tup.of_ex {H H' : Hp} (e : Ex H H') : Tup H H' := fun b xs h => e b _ h
theorem ColAt.keep {H H' : Hp} {e : Ent} (h : ColAt H e) (t : Tup H H') (k : H' e.l = H e.l) : ColAt H' e := by
  obtain ⟨vs, h1, h2⟩ := h
  exact ⟨vs, by rw [k]; exact h1, h2.tup t⟩
theorem TabOf.keep {A : Cn → Addr} {H H' : Hp} {t dx r h : Addr} {es : List Ent} {tb : Tb} (T : TabOf A H t dx r h es tb) (e : Tup H H') (k : ∀ l ∈ t :: r :: h :: es.map (·.l), ∀ o, H l = some o → H' l = some o) : TabOf A H' t dx r h es tb :=
  ⟨T.nd, T.nn, T.cols, k _ (by simp) _ T.at_, k _ (by simp) _ T.rows, k _ (by simp) _ T.held, fun en hen => by
    obtain ⟨vs, h1, h2⟩ := T.cell en hen
    exact ⟨vs, k en.l (by simp only [List.mem_cons]; exact .inr (.inr (.inr (List.mem_map_of_mem hen)))) _ h1, h2.tup e⟩, T.wide, T.few⟩
theorem TabAt.keep {A : Cn → Addr} {F : List Addr} {H H' : Hp} {t : Addr} {tb : Tb} (h : TabAt A F H t tb) (e : Tup H H') (k : ∀ l ∈ F, ∀ o, H l = some o → H' l = some o) : TabAt A F H' t tb := by
  obtain ⟨dx, r, hh, es, rfl, T⟩ := h.ex
  exact ⟨dx, r, hh, es, rfl, T.keep e k⟩
theorem TabAt.ex' {A : Cn → Addr} {F : List Addr} {H H' : Hp} {t : Addr} {tb : Tb} (h : TabAt A F H t tb) (e : Ex H H') : TabAt A F H' t tb := h.keep (.of_ex e) fun l _ o => e l o
theorem TabAt.there {A : Cn → Addr} {F : List Addr} {H : Hp} {t : Addr} {tb : Tb} (h : TabAt A F H t tb) : ∀ l ∈ F, ∃ o, H l = some o := by
  obtain ⟨dx, r, hh, es, rfl, T⟩ := h.ex
  intro l hl
  simp only [List.mem_cons] at hl
  rcases hl with rfl | rfl | rfl | hl
  · exact ⟨_, T.at_⟩
  · exact ⟨_, T.rows⟩
  · exact ⟨_, T.held⟩
  · obtain ⟨e, he, rfl⟩ := List.mem_map.mp hl
    obtain ⟨vs, h1, -⟩ := T.cell e he
    exact ⟨_, h1⟩
/-- no place of a table holds a tuple -/
theorem TabAt.noTup {A : Cn → Addr} {F : List Addr} {H : Hp} {t : Addr} {tb : Tb} (h : TabAt A F H t tb) {l : Addr} (hl : l ∈ F) {xs : List V} : H l ≠ some (.tup xs) := by
  obtain ⟨dx, r, hh, es, rfl, T⟩ := h.ex
  simp only [List.mem_cons] at hl
  rcases hl with rfl | rfl | rfl | hl
  · rw [T.at_]; exact fun z => nomatch z
  · rw [T.rows]; exact fun z => nomatch z
  · rw [T.held]; exact fun z => nomatch z
  · obtain ⟨e, he, rfl⟩ := List.mem_map.mp hl
    obtain ⟨vs, h1, -⟩ := T.cell e he
    rw [h1]; exact fun z => nomatch z
/-- all but F stays -/
def Fr (F : List Addr) (H H' : Hp) : Prop := ∀ b o, H b = some o → b ∉ F → H' b = some o
theorem Fr.of_ex {F : List Addr} {H H' : Hp} (e : Ex H H') : Fr F H H' := fun b o h _ => e b o h
theorem Fr.trans {F : List Addr} {H H1 H2 : Hp} (a : Fr F H H1) (b : Fr F H1 H2) : Fr F H H2 := fun x o h n => b x o (a x o h n) n
theorem TabAt.off {A : Cn → Addr} {F : List Addr} {H : Hp} {t : Addr} {tb : Tb} (h : TabAt A F H t tb) {p : Addr} (hp : H p = none) : p ∉ F := fun q => by
  obtain ⟨o, e⟩ := h.there p q
  rw [hp] at e
  cases e
theorem Tup.upd {H : Hp} {p : Addr} {xs : List V} {o : HO} (h : H p = some (.lst xs)) : Tup H (upd H p o) := fun b ys e => by
  rw [upd_ne (fun q => by rw [q, h] at e; cases e)]
  exact e
theorem TabAt.upd {A : Cn → Addr} {F : List Addr} {H : Hp} {t : Addr} {tb : Tb} (h : TabAt A F H t tb) {p : Addr} {xs : List V} {o : HO} (hp : p ∉ F) (hl : H p = some (.lst xs)) : TabAt A F (L2.upd H p o) t tb :=
  h.keep (.upd hl) fun l hl o e => by rw [upd_ne (show l ≠ p from fun q => hp (by rw [← q]; exact hl))]; exact e
abbrev tabF : List Str := ["rows_now", "coming", "held"]
/-! __init__, many, numbers, columns -/
def sp_Table_init (K : PySem.W.Frag) (A : Cn → Addr) : Sp := fun vs H Q E => ∃ (x dx : Addr) (v : V) (d : PyData), vs = [.ref x, v] ∧ H x = some (.ins (A .Table) dx []) ∧ Dt H v d ∧
  (∀ n : Nat, d = .int n → n < 31 → ∀ H' r h, Fr [x] H H' → H r = none → H h = none → TabAt A [x, r, h] H' x ⟨upto n, n, []⟩ → Q .non H') ∧ (isBelow 31 d = false → ∀ H1, Ex H H1 → E (.ref (A .NoSize)) none H1)
def t_Table_init (K : PySem.W.Frag) (A : Cn → Addr) (E : XK) : TS :=
  tSeq (tIfS (tNot (tB (tCallS (sp_is_below K) (WE (fun cls d _ H => E cls d H)) (tCons (tVar 1) (tCons (tOp (rAddA K) (tC (.int 30)) (tC (.int 1))) tNil))))) (tRaiseA (fun cls d _ H => E cls d H) (A .NoSize)) tNext)
    (tSeq (sFld K (tVar 0) (tLstRg (tRg1 (tVar 1))) "rows_now")
    (tSeq (sFld K (tVar 0) (tVar 1) "coming")
    (sFld K (tVar 0) tDNewK "held")))
section
variable {K : PySem.W.Frag} {A : Cn → Addr} {H H' : Hp} {Q : VK} {E : XK} {vs : List V}
theorem len_Table_init (vs : List V) (H : Hp) (Q : VK) (E : XK) (h : sp_Table_init K A vs H Q E) : vs.length = 2 := by obtain ⟨_, _, _, _, rfl, _⟩ := h; rfl
theorem r_Table_init (c : ClK K (A .Table) tabF) (vs : List V) (H : Hp) (Q : VK) (E : XK) (h : sp_Table_init K A vs H Q E) : t_Table_init K A E { nx := fun _ H' => Q .non H', rt := Q } (L2.start ["self", "many"] vs) H := by
  obtain ⟨x, dx, v, d, rfl, hx, r, k1, k2⟩ := h
  unfold t_Table_init
  refine q_when (et_not (et_B (ev_below (ed_var rfl r) (ev_is (ev_op ev_c ev_c rv_addI) rfl)))) (fun hb H1 e1 => k2 ?_ H1 e1) (fun hb H1 e1 => ?_)
  · cases q : isBelow 31 d with
    | false => rfl
    | true => rw [show (30 + 1 : Int) = 31 from rfl, q] at hb; cases hb
  · have hb : isBelow 31 d = true := by
      cases q : isBelow 31 d with
      | true => rfl
      | false => rw [show (30 + 1 : Int) = 31 from rfl, q] at hb; cases hb
    obtain ⟨i, rfl, hi⟩ : ∃ i, d = .int i ∧ 0 ≤ i ∧ i < 31 := by
      cases d <;> first | (simp [isBelow] at hb; done) | exact ⟨_, rfl, of_decide_eq_true hb⟩
    obtain rfl := r.i
    obtain ⟨n, rfl⟩ : ∃ n : Nat, i = n := ⟨i.toNat, by omega⟩
    -- self.rows_now
    refine q_fldL (el_listRg (n := (n : Int)) (ev_var rfl) (by omega)) (ev_var rfl) (e1 _ _ hx) c (by decide) (by decide) fun rw_ H2 nr e2 hr => ?_
    have xr : x ≠ rw_ := fun q => by rw [← q, e1 _ _ hx] at nr; cases nr
    -- self.coming
    refine q_fld (v := .int n) (ev_var rfl) (ev_var rfl) upd_same c (by decide) (putF_lt (n := 999) (by decide) rfl) fun H3 e3 => ?_
    -- self.held
    show tDNewK _ _ _
    intro hd nh
    have nh1 : H3 hd = none := by
      cases q : H3 hd with
      | none => rfl
      | some o =>
        by_cases hx' : hd = x
        · rw [hx', upd_same] at nh; cases nh
        · rw [upd_ne hx', q] at nh; cases nh
    have hne : hd ≠ x := fun q => by rw [q, upd_same] at nh; cases nh
    refine ⟨_, rfl, x, A .Table, dx, _, rfl, (by rw [upd_ne hne.symm, upd_same]), c.cl, c.na _ (by decide), (putF_lt (putF_lt (n := 998) (by decide) rfl) rfl), ?_⟩
    have f1 : Fr [x] H H3 := fun b o h n => e3 b o (by rw [upd_ne (by simpa using n)]; exact e2 b o (e1 b o h))
    have nh0 : H hd = none := by
      cases q : H hd with
      | none => rfl
      | some o => rw [f1 hd o q (by simpa using hne)] at nh1; cases nh1
    have hr2 : H3 rw_ = some (.lst ((upto n).map V.int)) := e3 _ _ (by rw [upd_ne xr.symm]; exact hr)
    have rh : rw_ ≠ hd := fun q => by rw [q, nh1] at hr2; cases hr2
    refine k1 n rfl (by omega) _ rw_ hd (fun b o h nb => ?_) (fresh_back e1 nr) nh0 ⟨dx, rw_, hd, [], rfl, ⟨?_, .nil, rfl, ?_, ?_, ?_, fun _ h => (nomatch h), fun _ h => (nomatch h), ⟨?_, by decide⟩⟩⟩
    · have nb' : b ≠ x := by simpa using nb
      have bh : b ≠ hd := fun q => by rw [q, nh0] at h; cases h
      rw [upd_ne nb', upd_ne bh, upd_ne nb']
      exact f1 b o h nb
    · simp [xr, hne.symm, rh]
    · rw [upd_same]
      rfl
    · rw [upd_ne xr.symm, upd_ne rh, upd_ne xr.symm]
      exact hr2
    · rw [upd_ne hne, upd_same]
      rfl
    · show (upto n).length ≤ 30
      rw [upto_len]
      omega
def sp_Table_many (K : PySem.W.Frag) (A : Cn → Addr) : Sp := fun vs H Q _ => ∃ F t tb, vs = [.ref t] ∧ TabAt A F H t tb ∧ RetV (.int tb.rows.length) H Q
def sp_Table_numbers (K : PySem.W.Frag) (A : Cn → Addr) : Sp := fun vs H Q _ => ∃ F t tb, vs = [.ref t] ∧ TabAt A F H t tb ∧ RetL (tb.rows.map V.int) H Q
def sp_Table_columns (K : PySem.W.Frag) (A : Cn → Addr) : Sp := fun vs H Q _ => ∃ F t tb, vs = [.ref t] ∧ TabAt A F H t tb ∧ RetL ((tb.cols.map (·.1)).map V.str) H Q
def t_Table_many (K : PySem.W.Frag) (E : XK) : TS := tRet (tCB (rLenA K) (tCons (tFld K (tVar 0) "rows_now") tNil))
def t_Table_numbers (K : PySem.W.Frag) (E : XK) : TS := tRet (tCB (rListA K) (tCons (tFld K (tVar 0) "rows_now") tNil))
def t_Table_columns (K : PySem.W.Frag) (E : XK) : TS := tRet (tCB (rListA K) (tCons (tFld K (tVar 0) "held") tNil))
theorem len_Table_many (vs : List V) (H : Hp) (Q : VK) (E : XK) (h : sp_Table_many K A vs H Q E) : vs.length = 1 := by obtain ⟨_, _, _, rfl, _⟩ := h; rfl
theorem len_Table_numbers (vs : List V) (H : Hp) (Q : VK) (E : XK) (h : sp_Table_numbers K A vs H Q E) : vs.length = 1 := by obtain ⟨_, _, _, rfl, _⟩ := h; rfl
theorem len_Table_columns (vs : List V) (H : Hp) (Q : VK) (E : XK) (h : sp_Table_columns K A vs H Q E) : vs.length = 1 := by obtain ⟨_, _, _, rfl, _⟩ := h; rfl
theorem r_Table_many (c : ClK K (A .Table) tabF) (vs : List V) (H : Hp) (Q : VK) (E : XK) (h : sp_Table_many K A vs H Q E) : t_Table_many K E { nx := fun _ H' => Q .non H', rt := Q } (L2.start ["self"] vs) H := by
  obtain ⟨F, t, tb, rfl, T, k⟩ := h
  obtain ⟨dx, r, hh, es, rfl, O⟩ := T.ex
  have := rc_lenL (K := K) (SqL.of O.rows)
  rw [List.length_map] at this
  exact s_ret (ev_lenV (ev_fld (ev_var rfl) O.at_ c (by decide) rfl) this) k
theorem r_Table_numbers (c : ClK K (A .Table) tabF) (vs : List V) (H : Hp) (Q : VK) (E : XK) (h : sp_Table_numbers K A vs H Q E) : t_Table_numbers K E { nx := fun _ H' => Q .non H', rt := Q } (L2.start ["self"] vs) H := by
  obtain ⟨F, t, tb, rfl, T, k⟩ := h
  obtain ⟨dx, r, hh, es, rfl, O⟩ := T.ex
  exact s_retL (el_listA (ev_fld (ev_var rfl) O.at_ c (by decide) rfl) (SqL.of O.rows)) fun p H2 hp e2 hl => k p H2 hp e2 hl
theorem r_Table_columns (c : ClK K (A .Table) tabF) (vs : List V) (H : Hp) (Q : VK) (E : XK) (h : sp_Table_columns K A vs H Q E) : t_Table_columns K E { nx := fun _ H' => Q .non H', rt := Q } (L2.start ["self"] vs) H := by
  obtain ⟨F, t, tb, rfl, T, k⟩ := h
  obtain ⟨dx, r, hh, es, rfl, O⟩ := T.ex
  have := el_listK (K := K) (ta := tFld K (tVar 0) "held") (σ := L2.start ["self"] [.ref t]) (ev_fld (ev_var rfl) O.at_ c (by decide) rfl) O.held
  rw [keys_es, ← O.cols] at this
  exact s_retL this fun p H2 hp e2 hl => k p H2 hp e2 hl
/-! their calls -/
variable {σ : L2.St} {ta : TE} {F : List Addr} {t : Addr} {tb : Tb} {Ex0 : L2.St → XK}
theorem TabAt.ins (T : TabAt A F H t tb) : ∃ dx fs, H t = some (.ins (A .Table) dx fs) ∧ fs.map (·.1) = tabF := by
  obtain ⟨dx, r, hh, es, rfl, O⟩ := T.ex
  exact ⟨dx, _, O.at_, rfl⟩
theorem look_none {fs : List (Str × V)} {m : Str} (h : fs.map (·.1) = tabF) (hm : m ∉ tabF) : fs.lookup m = none := by
  have : ∀ fs : List (Str × V), m ∉ fs.map (·.1) → fs.lookup m = none := by
    intro fs
    induction fs with
    | nil => intro _; rfl
    | cons a r ih =>
      intro h
      rw [List.map_cons, List.mem_cons, not_or] at h
      obtain ⟨n, v⟩ := a
      rw [List.lookup_cons, show (m == n) = false from beq_eq_false_iff_ne.mpr h.1]
      exact ih h.2
  exact this fs (by rw [h]; exact hm)
theorem ev_many (T : TabAt A F H t tb) (ho : Ev ta σ H (.ref t)) : Ev (tMetS (A .Table) "many" (sp_Table_many K A) Ex0 ta tNil) σ H (.int tb.rows.length) := by
  obtain ⟨dx, fs, h1, hf⟩ := T.ins
  exact ev_met ho h1 (look_none hf (by decide)) ea_nil fun H1 e Q q E => ⟨F, t, tb, rfl, T.ex' e, fun H2 e2 => q H2 e2⟩
theorem el_numbers (T : TabAt A F H t tb) (ho : Ev ta σ H (.ref t)) : EvL (tMetS (A .Table) "numbers" (sp_Table_numbers K A) Ex0 ta tNil) σ H (tb.rows.map V.int) := by
  obtain ⟨dx, fs, h1, hf⟩ := T.ins
  exact el_met ho h1 (look_none hf (by decide)) ea_nil fun H1 e Q q E => ⟨F, t, tb, rfl, T.ex' e, fun p H2 hp e2 h => q p H2 hp e2 h⟩
theorem el_columns (T : TabAt A F H t tb) (ho : Ev ta σ H (.ref t)) : EvL (tMetS (A .Table) "columns" (sp_Table_columns K A) Ex0 ta tNil) σ H ((tb.cols.map (·.1)).map V.str) := by
  obtain ⟨dx, fs, h1, hf⟩ := T.ins
  exact el_met ho h1 (look_none hf (by decide)) ea_nil fun H1 e Q q E => ⟨F, t, tb, rfl, T.ex' e, fun p H2 hp e2 h => q p H2 hp e2 h⟩
/-- x = Table(n) -/
theorem x_table {n : Nat} (ha : Ev ta σ H (.int n)) (hn : n < 31) (k : ∀ x r h H2, Ex H H2 → H x = none → H r = none → H h = none → TabAt A [x, r, h] H2 x ⟨upto n, n, []⟩ → Q (.ref x) H2) :
    tMakS (A .Table) (sp_Table_init K A) Ex0 (tCons ta tNil) σ H Q := by
  refine x_makS (ea_cons ha ea_nil) fun H1 e1 x dx nx nd ne => ?_
  refine ⟨x, dx, .int n, .int n, rfl, upd_same, .int _, fun m hm _ H' r h fr hr hh T => ⟨rfl, ?_⟩, fun hb => ?_⟩
  · have e : (n : Int) = m := by
      have := PyData.int.inj hm
      exact this
    have e : n = m := by omega
    subst e
    have back : ∀ {b : Addr}, upd (upd H1 dx (.own x)) x (.ins (A .Table) dx []) b = none → H1 b = none := fun {b} q => by
      by_cases q1 : b = x
      · rw [q1]; exact nx
      · by_cases q2 : b = dx
        · rw [q2]; exact nd
        · rw [upd_ne q1, upd_ne q2] at q
          exact q
    refine k x r h H' (fun b o hb => fr b o ?_ ?_) (fresh_back e1 nx) (fresh_back e1 (back hr)) (fresh_back e1 (back hh)) T
    · have h1 := e1 b o hb
      have b1 : b ≠ x := fun q => by rw [q, nx] at h1; cases h1
      have b2 : b ≠ dx := fun q => by rw [q, nd] at h1; cases h1
      rw [upd_ne b1, upd_ne b2]
      exact h1
    · intro q
      have h1 := e1 b o hb
      rw [List.mem_singleton.mp q, nx] at h1
      cases h1
  · exfalso
    have : isBelow 31 (.int n) = true := decide_eq_true (by omega)
    rw [this] at hb
    cases hb
theorem q_table {D : Ends} {tz : TS} {n : Nat} {i : Nat} (ha : Ev ta σ H (.int n)) (hn : n < 31) (k : ∀ x r h H2, Ex H H2 → H x = none → H r = none → H h = none → TabAt A [x, r, h] H2 x ⟨upto n, n, []⟩ → tz D (σ.set i (some (.ref x))) H2) :
    tSeq (tAsg (tMakS (A .Table) (sp_Table_init K A) Ex0 (tCons ta tNil)) (gName i)) tz D σ H := x_table (Q := fun v H1 => tz D (σ.set i (some v)) H1) ha hn k
/-- [Table(n), Table(n)] -/
theorem q_table2 {D : Ends} {tz : TS} {n : Nat} {i : Nat} (ha : Ev ta σ H (.int n)) (hn : n < 31) (k : ∀ x r h x' r' h' p H2, Ex H H2 → (∀ a ∈ [x, r, h], H a = none) → (∀ a ∈ [x', r', h'], H a = none ∧ a ∉ [x, r, h]) → TabAt A [x, r, h] H2 x ⟨upto n, n, []⟩ → TabAt A [x', r', h'] H2 x' ⟨upto n, n, []⟩ → H p = none → H2 p = some (.lst [.ref x, .ref x']) → p ∉ [x, r, h] → p ∉ [x', r', h'] → tz D (σ.set i (some (.ref p))) H2) :
    tSeq (tAsg (tLst (tCons (tMakS (A .Table) (sp_Table_init K A) Ex0 (tCons ta tNil)) (tCons (tMakS (A .Table) (sp_Table_init K A) Ex0 (tCons ta tNil)) tNil))) (gName i)) tz D σ H := by
  refine x_table (Q := fun v H1 => tMakS (A .Table) (sp_Table_init K A) Ex0 (tCons ta tNil) σ H1 fun w H2 => ([v, w].length ≤ sizeLine ∧ ∀ p, H2 p = none → tz D (σ.set i (some (.ref p))) (upd H2 p (.lst [v, w])))) ha hn fun x r h H1 e1 n1 n2 n3 T1 => ?_
  refine x_table (Ev.mono e1 ha) hn fun x' r' h' H2 e2 n4 n5 n6 T2 => ⟨sz_of (show 2 ≤ 100000 by decide), fun p hp => ?_⟩
  refine k x r h x' r' h' p _ ((e1.trans e2).trans (Ex.new hp)) ?_ ?_ ((T1.ex' e2).ex' (Ex.new hp)) (T2.ex' (Ex.new hp)) (fresh_back (e1.trans e2) hp) upd_same ((T1.ex' e2).off hp) (T2.off hp)
  · intro a ha
    simp only [List.mem_cons, List.not_mem_nil, or_false] at ha
    rcases ha with rfl | rfl | rfl <;> assumption
  · intro a ha
    simp only [List.mem_cons, List.not_mem_nil, or_false] at ha
    rcases ha with rfl | rfl | rfl
    · exact ⟨fresh_back e1 n4, T1.off n4⟩
    · exact ⟨fresh_back e1 n5, T1.off n5⟩
    · exact ⟨fresh_back e1 n6, T1.off n6⟩
/-- [{}, {}] -/
theorem q_dict2 {D : Ends} {tz : TS} {i : Nat} (k : ∀ h h' p H2, Ex H H2 → H h = none → H h' = none → h ≠ h' → H p = none → H2 h = some (.dK []) → H2 h' = some (.dK []) → H2 p = some (.lst [.ref h, .ref h']) → p ≠ h → p ≠ h' → tz D (σ.set i (some (.ref p))) H2) : tSeq (tAsg (tLst (tCons tDNewK (tCons tDNewK tNil))) (gName i)) tz D σ H := by
  intro h hh h' hh' 
  refine ⟨sz_of (show 2 ≤ 100000 by decide), fun p hp => ?_⟩
  have e1 : Ex H (upd H h (.dK [])) := Ex.new hh
  have e2 := Ex.new (o := HO.dK []) hh'
  have ne : h ≠ h' := fun q => by rw [← q, upd_same] at hh'; cases hh'
  exact k h h' p _ ((e1.trans e2).trans (Ex.new hp)) hh (fresh_back e1 hh') ne (fresh_back (e1.trans e2) hp) (Ex.new hp _ _ (e2 _ _ upd_same)) (Ex.new hp _ _ upd_same) upd_same (fun q => by subst q; rw [e2 _ _ upd_same] at hp; cases hp) (fun q => by rw [q, upd_same] at hp; cases hp)
end
end Z

set_option Elab.async false
set_option linter.all false
set_option autoImplicit false
set_option maxRecDepth 100000
set_option maxHeartbeats 4000000
/-! ev: what an expression comes to, by its form -/
local macro_rules | `(tactic| k_places) => `(tactic| (repeat' (first
  | (with_reducible exact ev_c)
  | (with_reducible exact ev_var rfl)
  | (with_reducible refine ev_chainLL ?_ ?_ ?_)
  | (with_reducible refine ev_chainLt ?_ ?_ ?_)
  | (with_reducible refine ev_op ?_ ?_ ?_)
  | (with_reducible refine ev_neg ?_)
  | (with_reducible refine et_test ?_)
  | (with_reducible refine et_B ?_)
  | (with_reducible refine et_not ?_)
  | (with_reducible refine et_and ?_ (fun _ => ?_))
  | (with_reducible refine et_or ?_ (fun _ => ?_))
  | (with_reducible refine ev_andV ?_ (fun _ => ?_))
  | (with_reducible refine ev_orV ?_ (fun _ => ?_))
  | (with_reducible refine ev_notV ?_)
  | (with_reducible exact rv_addI)
  | (with_reducible exact rv_subI)
  | (with_reducible exact rv_lt)
  | (with_reducible exact rv_le)
  | (with_reducible exact rv_gt)
  | (with_reducible exact rv_ge)
  | (with_reducible exact rv_isB)
  | (with_reducible exact rv_isnB)
  | (with_reducible exact rv_isN)
  | (with_reducible exact rv_isnN)
  | (with_reducible exact rv_eqS rfl)
  | (with_reducible exact rv_neS rfl)
  | (with_reducible exact rv_inStr)
  | (with_reducible exact rv_ninStr)
  | (with_reducible exact rv_mod (by first | decide | omega | assumption))
  | (with_reducible exact rv_div (by first | decide | omega | assumption))
  | (with_reducible exact rv_pow (by decide))
  | (with_reducible refine ed_i ?_; done)
  | (with_reducible exact ea_nil)
  | (with_reducible refine ea_cons ?_ ?_)
  | (with_reducible exact eds_nil)
  | (with_reducible refine eds_cons ?_ ?_)
  | (with_reducible exact ed_dnew)
  | (with_reducible refine ed_lst ?_ (by simp only [List.length_cons, List.length_nil]; omega))
  | (with_reducible refine ed_tup ?_ (by simp only [List.length_cons, List.length_nil]; omega)))))
namespace Z
open PySem PySem.Spec PyProof.Rows L2 Evl
/-! ### the table's other methods -/
section
variable {α : Type}
def getA (cs : List (Str × α)) (z : Str) : Option α := (cs.find? fun c => decide (c.1 = z)).map (·.2)
def putA (cs : List (Str × α)) (z : Str) (y : α) : List (Str × α) := if (cs.any fun c => decide (c.1 = z)) = true then cs.map (fun c => if c.1 = z then (c.1, y) else c) else cs ++ [(z, y)]
def dropA (cs : List (Str × α)) (z : Str) : List (Str × α) := cs.filter fun c => decide (c.1 ≠ z)
def onA (f : α → α) (cs : List (Str × α)) (z : Str) : List (Str × α) := cs.map fun c => if c.1 = z then (c.1, f c.2) else c
end
def hasC (tb : Tb) : PyData → Bool
  | .str z => tb.cols.any fun c => decide (c.1 = z)
  | _ => false
def areVals (n : Nat) : PyData → Bool
  | .list ds => decide (ds.length = n) && ds.all isValueD
  | _ => false
def nameD : PyData → Str
  | .str z => z
  | _ => ""
def listD : PyData → List PyData
  | .list ds => ds
  | _ => []
def intD : PyData → Int
  | .int i => i
  | _ => 0
def giveB (tb : Tb) (c vs : PyData) : Except Cn Tb :=
  if isNameD c then if !hasC tb c && decide (8 ≤ tb.cols.length) then .error .TooMuch else if areVals tb.rows.length vs then .ok { tb with cols := putA tb.cols (nameD c) (listD vs) } else .error .NoValue else .error .NoName
def dropB (tb : Tb) (c : PyData) : Except Cn Tb := if hasC tb c then .ok { tb with cols := dropA tb.cols (nameD c) } else .error .NoColumn
def putB (tb : Tb) (c p v : PyData) : Except Cn Tb :=
  if hasC tb c then if isBelow tb.rows.length p then if isValueD v then .ok { tb with cols := onA (fun ds => ds.set (intD p).toNat v) tb.cols (nameD c) } else .error .NoValue else .error .NoPlace else .error .NoColumn
def atB (tb : Tb) (c p : PyData) : Except Cn PyData :=
  if hasC tb c then if isBelow tb.rows.length p then .ok (((getA tb.cols (nameD c)).getD []).getD (intD p).toNat .none) else .error .NoPlace else .error .NoColumn
/-- what a change of a table comes to -/
def Out (A : Cn → Addr) (F : List Addr) (t : Addr) (H : Hp) (Q : VK) (E : XK) : Except Cn Tb → Prop
  | .error c => ∀ H1, Ex H H1 → E (.ref (A c)) none H1
  | .ok tb => ∀ H' F', TabAt A F' H' t tb → Fr F H H' → (∀ b ∈ F', b ∈ F ∨ H b = none) → Q .non H'
theorem Out.ex {A : Cn → Addr} {F : List Addr} {t : Addr} {H H' : Hp} {Q : VK} {E : XK} {r : Except Cn Tb} (e : Ex H H') (h : Out A F t H Q E r) : Out A F t H' Q E r := by
  cases r with
  | error c => exact fun H1 e1 => h H1 (e.trans e1)
  | ok tb => exact fun H1 F' T f n => h H1 F' T (Fr.trans (.of_ex e) f) fun b hb => (n b hb).imp_right (fresh_back e)
/-! entries -/
theorem valV_es (es : List Ent) (z : Str) : valV (es.map kvE) (.inr z) = (es.find? fun e => decide (e.n = z)).map fun e => V.ref e.l := by
  unfold valV
  rw [List.find?_map, Option.map_map]
  have : ((fun kv : Key × V => decide (kv.1 = .inr z)) ∘ kvE) = fun e : Ent => decide (e.n = z) := by
    funext e
    show decide ((Sum.inr e.n : Key) = .inr z) = _
    exact decide_eq_decide.mpr ⟨fun h => Sum.inr.inj h, fun h => by rw [h]⟩
  rw [this]
  rfl
theorem any_es (es : List Ent) (z : Str) : ((es.map cE).any fun c => decide (c.1 = z)) = es.any fun e => decide (e.n = z) := by
  rw [List.any_map]
  rfl
theorem getA_es (es : List Ent) (z : Str) : getA (es.map cE) z = (es.find? fun e => decide (e.n = z)).map (·.ds) := by
  unfold getA
  rw [List.find?_map, Option.map_map]
  rfl
theorem find_es {es : List Ent} {z : Str} (h : (es.any fun e => decide (e.n = z)) = true) : ∃ e ∈ es, e.n = z ∧ (es.find? fun e => decide (e.n = z)) = some e := by
  obtain ⟨e, he⟩ := Option.isSome_iff_exists.mp (List.find?_isSome.mpr (List.any_eq_true.mp h))
  exact ⟨e, List.mem_of_find?_eq_some he, of_decide_eq_true (List.find?_some (p := fun e : Ent => decide (e.n = z)) he), he⟩
theorem hasC_es {A : Cn → Addr} {H : Hp} {t dx r h : Addr} {es : List Ent} {tb : Tb} (T : TabOf A H t dx r h es tb) (z : Str) : hasC tb (.str z) = es.any fun e => decide (e.n = z) := by
  show (tb.cols.any fun c => decide (c.1 = z)) = _
  rw [T.cols, any_es]
section
variable {K : PySem.W.Frag} {A : Cn → Addr} {H H' : Hp} {Q : VK} {E : XK} {vs : List V} {σ : L2.St} {ta tb te tx : TE} {D : Ends} {tz : TS} {F : List Addr} {t : Addr} {Ex0 : L2.St → XK}
theorem rv_inDk {p : Addr} {kvs : List (Key × V)} {k : Key} (h : H p = some (.dK kvs)) : RV (rInA K) (kV k) (.ref p) H (.bl (valV kvs k).isSome) := fun H1 e _ q => .inr (.inl ⟨p, _, rfl, DGet.k (e _ _ h), q H1 (Ex.refl H1)⟩)
theorem rv_ixDk {p : Addr} {kvs : List (Key × V)} {k : Key} {v : V} (h : H p = some (.dK kvs)) (hv : valV kvs k = some v) : RV (rIxA K) (.ref p) (kV k) H v := fun H1 e _ q => .inr ⟨p, v, rfl, hv ▸ DGet.k (e _ _ h), q H1 (Ex.refl H1)⟩
theorem len_es (es : List Ent) : (es.map kvE).length = es.length := List.length_map _
/-! are_values -/
def sp_are_values (K : PySem.W.Frag) : Sp := fun vs H Q _ => ∃ (v : V) (d : PyData) (n : Nat), vs = [v, .int n] ∧ Dt H v d ∧ (∀ x ∈ listD d, short2 x) ∧ (listD d).length ≤ 40000 ∧ RetV (.bl (areVals n d)) H Q
def t_are_values (K : PySem.W.Frag) (E : XK) : TS :=
  tRet (tAndV (tCB (rIsiA K) (tCons (tVar 0) (tCons (tC (.ty "list")) tNil))) (tAndV (tOp (rEqA K) (tCB (rLenA K) (tCons (tVar 0) tNil)) (tVar 1)) (tCB (rAll K) (tCons (tLc (iList K (tVar 0)) (gName 2) tYes (tCall (sp_is_value K) [] E0 (tCons (tVar 2) tNil)) [2]) tNil))))
theorem len_are_values (vs : List V) (H : Hp) (Q : VK) (E : XK) (h : sp_are_values K vs H Q E) : vs.length = 2 := by obtain ⟨_, _, _, rfl, _⟩ := h; rfl
theorem given_map {xs : List V} {bs : List Bool} (h : xs.length = bs.length) (f : Nat → Bool) (hf : ∀ i, i < xs.length → f i = bs.getD i false) : given xs.length (fun _ => true) (fun i => .bl (f i)) = bs.map V.bl := by
  unfold given
  rw [List.filter_eq_self.mpr (fun _ _ => rfl)]
  apply List.ext_getElem?
  intro i
  rw [List.getElem?_map, List.getElem?_map]
  by_cases hi : i < xs.length
  · rw [List.getElem?_range hi, List.getElem?_eq_getElem (by omega : i < bs.length)]
    show some (V.bl (f i)) = some (V.bl bs[i])
    rw [hf i hi, List.getD_eq_getElem?_getD, List.getElem?_eq_getElem (by omega : i < bs.length)]
    rfl
  · rw [List.getElem?_eq_none (by simpa using hi), List.getElem?_eq_none (by omega)]
    rfl
theorem ev_spB2 {pre : PyData → Prop} {g : PyData → Bool} {d : PyData} (h : EvD te σ H d) (hp : pre d) : Ev (tCall (sp1 pre fun d => .bool (g d)) [] E0 (tCons te tNil)) σ H (.bl (g d)) := ev_b (ed_call (ds := [d]) (eds_cons h eds_nil) rfl hp)
theorem r_are_values (vs : List V) (H : Hp) (Q : VK) (E : XK) (h : sp_are_values K vs H Q E) : t_are_values K E { nx := fun _ H' => Q .non H', rt := Q } (L2.start ["thing", "many", "value"] vs) H := by
  obtain ⟨v, d, n, rfl, r, hs, hz, k⟩ := h
  unfold t_are_values
  refine s_ret (v := .bl (areVals n d)) ?_ k
  by_cases hi : ∃ ds, d = .list ds
  · obtain ⟨ds, rfl⟩ := hi
    have hs : ∀ x ∈ ds, short2 x := hs
    have hz : ds.length ≤ 40000 := hz
    cases r with
    | @lst a xs _ ha r =>
    have el := r.length
    have hl : Ev (tCB (rLenA K) (tCons (tVar 0) tNil)) (L2.start ["thing", "many", "value"] [V.ref a, .int n]) H (.int ds.length) := by
      rw [← el]
      exact ev_lenV (ev_var rfl) (rc_lenL (SqL.of ha))
    have D0 : Dt H (.ref a) (.list ds) := .lst ha r
    refine ev_is (ev_andV (ev_isD (ed_var rfl D0)) fun _ => ev_andV (ev_op hl (ev_var rfl) (rv_eqS rfl)) fun _ => ev_all (bs := ds.map isValueD) ?_) ?_
    · rw [← given_map (xs := xs) (bs := ds.map isValueD) (by rw [List.length_map, el]) (fun i => (ds.map isValueD).getD i false) (fun _ _ => rfl)]
      refine el_lcL (fun _ => true) _ (ev_var rfl) (SqL.of ha) (by omega) (fun _ => rfl) (fun i x H1 _ _ => fun H2 _ Q q => q H2 (Ex.refl H2)) (fun i x H1 e1 hx _ => ?_)
      obtain ⟨d, hd, rx⟩ := r.getV hx
      refine ev_is (ev_spB2 (g := isValueD) (pre := short2) (ed_var rfl (rx.ex e1)) (hs d (List.mem_of_getElem? hd))) ?_
      rw [List.getD_eq_getElem?_getD, List.getElem?_map, hd]
      rfl
    · show V.bl (true && (decide (V.int ds.length = V.int n) && (ds.map isValueD).all id)) = V.bl (decide (ds.length = n) && ds.all isValueD)
      rw [Bool.true_and, List.all_map]
      congr 2
      exact decide_eq_decide.mpr ⟨fun h => by have := V.int.inj h; omega, fun h => by rw [h]⟩
  · have e1 : areVals n d = false := by
      cases d <;> first | rfl | exact absurd ⟨_, rfl⟩ hi
    have e2 : isiB (kindD d) "list" = false := by
      cases d <;> first | rfl | exact absurd ⟨_, rfl⟩ hi
    rw [e1]
    refine ev_is (v := .bl (isiB (kindD d) "list" && false)) (ev_andV (ev_isD (ed_var rfl r)) fun z => ?_) (by rw [e2]; rfl)
    rw [e2] at z
    cases z
theorem ev_areV {d : PyData} {n : Nat} (h : EvD ta σ H d) (hb : Ev tb σ H (.int n)) (hs : ∀ x ∈ listD d, short2 x) (hz : (listD d).length ≤ 40000) : Ev (tCallS (sp_are_values K) Ex0 (tCons ta (tCons tb tNil))) σ H (.bl (areVals n d)) := fun H1 e Q q =>
  h H1 e _ fun v H2 e2 r => hb H2 (e.trans e2) _ fun H3 e3 => ⟨v, d, n, rfl, r.ex e3, hs, hz, fun H4 e4 => q H4 ((e2.trans e3).trans e4)⟩
/-! has -/
def sp_Table_has (K : PySem.W.Frag) (A : Cn → Addr) : Sp := fun vs H Q _ => ∃ F t b v d, vs = [.ref t, v] ∧ TabAt A F H t b ∧ Dt H v d ∧ RetV (.bl (hasC b d)) H Q
def t_Table_has (K : PySem.W.Frag) (E : XK) : TS :=
  tRet (tAndV (tCB (rIsiA K) (tCons (tVar 1) (tCons (tC (.ty "str")) tNil))) (tOp (rInA K) (tVar 1) (tFld K (tVar 0) "held")))
theorem len_Table_has (vs : List V) (H : Hp) (Q : VK) (E : XK) (h : sp_Table_has K A vs H Q E) : vs.length = 2 := by obtain ⟨_, _, _, _, _, rfl, _⟩ := h; rfl
theorem r_Table_has (c : ClK K (A .Table) tabF) (vs : List V) (H : Hp) (Q : VK) (E : XK) (h : sp_Table_has K A vs H Q E) : t_Table_has K E { nx := fun _ H' => Q .non H', rt := Q } (L2.start ["self", "column"] vs) H := by
  obtain ⟨F, t, b, v, d, rfl, T, rd, k⟩ := h
  obtain ⟨dx, r, hh, es, rfl, O⟩ := T.ex
  unfold t_Table_has
  refine s_ret (v := .bl (hasC b d)) ?_ k
  by_cases hi : ∃ z, d = .str z
  · obtain ⟨z, rfl⟩ := hi
    obtain rfl := rd.s
    refine ev_is (ev_andV (ev_isD (ed_var rfl rd)) fun _ => ev_op (ev_var rfl) (ev_fld (ev_var rfl) O.at_ c (by decide) rfl) (rv_inDk (k := .inr z) O.held)) ?_
    rw [hasC_es O, valV_es, Option.isSome_map]
    show V.bl (true && _) = _
    rw [Bool.true_and, List.isSome_find?]
  · have e1 : hasC b d = false := by
      cases d <;> first | rfl | exact absurd ⟨_, rfl⟩ hi
    have e2 : isiB (kindD d) "str" = false := by
      cases d <;> first | rfl | exact absurd ⟨_, rfl⟩ hi
    rw [e1]
    refine ev_is (v := .bl (isiB (kindD d) "str" && false)) (ev_andV (ev_isD (ed_var rfl rd)) fun z => ?_) (by rw [e2]; rfl)
    rw [e2] at z
    cases z
theorem ev_has {d : PyData} {b : Tb} (T : TabAt A F H t b) (ho : Ev ta σ H (.ref t)) (h : EvD te σ H d) : Ev (tMetS (A .Table) "has" (sp_Table_has K A) Ex0 ta (tCons te tNil)) σ H (.bl (hasC b d)) := fun H1 e Q q => by
  obtain ⟨dx, fs, h1, hf⟩ := T.ins
  exact ho H1 e _ fun H2 e2 => ⟨t, dx, fs, rfl, (e.trans e2) _ _ h1, look_none hf (by decide), h H2 (e.trans e2) _ fun v H3 e3 r => ⟨F, t, b, v, d, rfl, T.ex' ((e.trans e2).trans e3), r, fun H4 e4 => q H4 ((e2.trans e3).trans e4)⟩⟩
/-! look_at, look_at_place -/
def Go (A : Cn → Addr) (ok : Bool) (c : Cn) (H : Hp) (Q : VK) (E : XK) : Prop := (ok = true → RetV .non H Q) ∧ (ok = false → ∀ H1, Ex H H1 → E (.ref (A c)) none H1)
def sp_Table_look_at (K : PySem.W.Frag) (A : Cn → Addr) : Sp := fun vs H Q E => ∃ F t b v d, vs = [.ref t, v] ∧ TabAt A F H t b ∧ Dt H v d ∧ Go A (hasC b d) .NoColumn H Q E
def sp_Table_look_at_place (K : PySem.W.Frag) (A : Cn → Addr) : Sp := fun vs H Q E => ∃ (t : Addr) (v : V) (d : PyData) (n : Int), vs = [.ref t, v, .int n] ∧ Dt H v d ∧ Go A (isBelow n d) .NoPlace H Q E
def t_Table_look_at (K : PySem.W.Frag) (A : Cn → Addr) (E : XK) : TS :=
  tIfS (tNot (tB (tMetS (A .Table) "has" (sp_Table_has K A) (WE (fun cls d _ H => E cls d H)) (tVar 0) (tCons (tVar 1) tNil)))) (tRaiseA (fun cls d _ H => E cls d H) (A .NoColumn)) tNext
def t_Table_look_at_place (K : PySem.W.Frag) (A : Cn → Addr) (E : XK) : TS :=
  tIfS (tNot (tB (tCallS (sp_is_below K) (WE (fun cls d _ H => E cls d H)) (tCons (tVar 1) (tCons (tVar 2) tNil))))) (tRaiseA (fun cls d _ H => E cls d H) (A .NoPlace)) tNext
theorem len_Table_look_at (vs : List V) (H : Hp) (Q : VK) (E : XK) (h : sp_Table_look_at K A vs H Q E) : vs.length = 2 := by obtain ⟨_, _, _, _, _, rfl, _⟩ := h; rfl
theorem len_Table_look_at_place (vs : List V) (H : Hp) (Q : VK) (E : XK) (h : sp_Table_look_at_place K A vs H Q E) : vs.length = 3 := by obtain ⟨_, _, _, _, rfl, _⟩ := h; rfl
theorem not_eq_true_iff {b : Bool} (h : (!b) = true) : b = false := by cases b <;> simp_all
theorem not_eq_false_iff {b : Bool} (h : (!b) = false) : b = true := by cases b <;> simp_all
theorem r_Table_look_at (c : ClK K (A .Table) tabF) (vs : List V) (H : Hp) (Q : VK) (E : XK) (h : sp_Table_look_at K A vs H Q E) : t_Table_look_at K A E { nx := fun _ H' => Q .non H', rt := Q } (L2.start ["self", "column"] vs) H := by
  obtain ⟨F, t, b, v, d, rfl, T, rd, k1, k2⟩ := h
  exact s_when (et_not (et_B (ev_has T (ev_var rfl) (ed_var rfl rd)))) (fun hb H1 e1 => k2 (not_eq_true_iff hb) H1 e1) fun hb H1 e1 => k1 (not_eq_false_iff hb) H1 e1
theorem r_Table_look_at_place (c : ClK K (A .Table) tabF) (vs : List V) (H : Hp) (Q : VK) (E : XK) (h : sp_Table_look_at_place K A vs H Q E) : t_Table_look_at_place K A E { nx := fun _ H' => Q .non H', rt := Q } (L2.start ["self", "place", "many"] vs) H := by
  obtain ⟨t, v, d, n, rfl, rd, k1, k2⟩ := h
  exact s_when (et_not (et_B (ev_below (ed_var rfl rd) (ev_var rfl)))) (fun hb H1 e1 => k2 (not_eq_true_iff hb) H1 e1) fun hb H1 e1 => k1 (not_eq_false_iff hb) H1 e1
theorem q_look {d : PyData} {b : Tb} (T : TabAt A F H t b) (ho : Ev ta σ H (.ref t)) (h : EvD te σ H d) (k1 : hasC b d = true → ∀ H1, Ex H H1 → tz D σ H1) (k2 : hasC b d = false → ∀ H1, Ex H H1 → (Ex0 σ) (.ref (A .NoColumn)) none H1) :
    tSeq (tDrop (tMetS (A .Table) "look_at" (sp_Table_look_at K A) Ex0 ta (tCons te tNil))) tz D σ H := by
  obtain ⟨dx, fs, h1, hf⟩ := T.ins
  exact ho H (Ex.refl H) _ fun H2 e2 => ⟨t, dx, fs, rfl, e2 _ _ h1, look_none hf (by decide), h H2 e2 _ fun v H3 e3 r => ⟨F, t, b, v, d, rfl, T.ex' (e2.trans e3), r, fun q H4 e4 => k1 q H4 ((e2.trans e3).trans e4), fun q H4 e4 => k2 q H4 ((e2.trans e3).trans e4)⟩⟩
theorem q_lookP {d : PyData} {n : Int} {b : Tb} (T : TabAt A F H t b) (ho : Ev ta σ H (.ref t)) (h : EvD te σ H d) (hn : Ev tb σ H (.int n)) (k1 : isBelow n d = true → ∀ H1, Ex H H1 → tz D σ H1) (k2 : isBelow n d = false → ∀ H1, Ex H H1 → (Ex0 σ) (.ref (A .NoPlace)) none H1) :
    tSeq (tDrop (tMetS (A .Table) "look_at_place" (sp_Table_look_at_place K A) Ex0 ta (tCons te (tCons tb tNil)))) tz D σ H := by
  obtain ⟨dx, fs, h1, hf⟩ := T.ins
  exact ho H (Ex.refl H) _ fun H2 e2 => ⟨t, dx, fs, rfl, e2 _ _ h1, look_none hf (by decide), h H2 e2 _ fun v H3 e3 r => hn H3 (e2.trans e3) _ fun H4 e4 => ⟨t, v, d, n, rfl, r.ex e4, fun q H5 e5 => k1 q H5 (((e2.trans e3).trans e4).trans e5), fun q H5 e5 => k2 q H5 (((e2.trans e3).trans e4).trans e5)⟩⟩
end
end Z

set_option Elab.async false
set_option linter.all false
set_option autoImplicit false
set_option maxRecDepth 100000
set_option maxHeartbeats 4000000
/-! ev: what an expression comes to, by its form -/
local macro_rules | `(tactic| k_places) => `(tactic| (repeat' (first
  | (with_reducible exact ev_c)
  | (with_reducible exact ev_var rfl)
  | (with_reducible refine ev_chainLL ?_ ?_ ?_)
  | (with_reducible refine ev_chainLt ?_ ?_ ?_)
  | (with_reducible refine ev_op ?_ ?_ ?_)
  | (with_reducible refine ev_neg ?_)
  | (with_reducible refine et_test ?_)
  | (with_reducible refine et_B ?_)
  | (with_reducible refine et_not ?_)
  | (with_reducible refine et_and ?_ (fun _ => ?_))
  | (with_reducible refine et_or ?_ (fun _ => ?_))
  | (with_reducible refine ev_andV ?_ (fun _ => ?_))
  | (with_reducible refine ev_orV ?_ (fun _ => ?_))
  | (with_reducible refine ev_notV ?_)
  | (with_reducible exact rv_addI)
  | (with_reducible exact rv_subI)
  | (with_reducible exact rv_lt)
  | (with_reducible exact rv_le)
  | (with_reducible exact rv_gt)
  | (with_reducible exact rv_ge)
  | (with_reducible exact rv_isB)
  | (with_reducible exact rv_isnB)
  | (with_reducible exact rv_isN)
  | (with_reducible exact rv_isnN)
  | (with_reducible exact rv_eqS rfl)
  | (with_reducible exact rv_neS rfl)
  | (with_reducible exact rv_inStr)
  | (with_reducible exact rv_ninStr)
  | (with_reducible exact rv_mod (by first | decide | omega | assumption))
  | (with_reducible exact rv_div (by first | decide | omega | assumption))
  | (with_reducible exact rv_pow (by decide))
  | (with_reducible refine ed_i ?_; done)
  | (with_reducible exact ea_nil)
  | (with_reducible refine ea_cons ?_ ?_)
  | (with_reducible exact eds_nil)
  | (with_reducible refine eds_cons ?_ ?_)
  | (with_reducible exact ed_dnew)
  | (with_reducible refine ed_lst ?_ (by simp only [List.length_cons, List.length_nil]; omega))
  | (with_reducible refine ed_tup ?_ (by simp only [List.length_cons, List.length_nil]; omega)))))
namespace Z
open PySem PySem.Spec PyProof.Rows L2 Evl
/-! ### give, drop, put, at -/
def putE (es : List Ent) (z : Str) (p : Addr) (ds : List PyData) : List Ent := if (es.any fun e => decide (e.n = z)) = true then es.map (fun e => if e.n = z then ⟨z, p, ds⟩ else e) else es ++ [⟨z, p, ds⟩]
theorem putE_kv (es : List Ent) (z : Str) (p : Addr) (ds : List PyData) : (putE es z p ds).map kvE = putK (es.map kvE) (.inr z) (.ref p) := by
  unfold putE putK
  rw [List.any_map]
  have : ((fun kv : Key × V => decide (kv.1 = .inr z)) ∘ kvE) = fun e : Ent => decide (e.n = z) := by
    funext e
    show decide ((Sum.inr e.n : Key) = .inr z) = _
    exact decide_eq_decide.mpr ⟨fun h => Sum.inr.inj h, fun h => by rw [h]⟩
  rw [this]
  split
  · rw [List.map_map, List.map_map]
    refine List.map_congr_left fun e _ => ?_
    show kvE (if e.n = z then ⟨z, p, ds⟩ else e) = if (Sum.inr e.n : Key) = .inr z then (Sum.inr e.n, V.ref p) else kvE e
    by_cases h : e.n = z
    · rw [if_pos h, if_pos (by rw [h]), h]
      rfl
    · rw [if_neg h, if_neg (fun q => h (Sum.inr.inj q))]
  · rw [List.map_append]
    rfl
theorem putE_c (es : List Ent) (z : Str) (p : Addr) (ds : List PyData) : (putE es z p ds).map cE = putA (es.map cE) z ds := by
  unfold putE putA
  rw [any_es]
  split
  · rw [List.map_map, List.map_map]
    refine List.map_congr_left fun e _ => ?_
    show cE (if e.n = z then ⟨z, p, ds⟩ else e) = if e.n = z then (e.n, ds) else cE e
    by_cases h : e.n = z
    · rw [if_pos h, if_pos h, h]
      rfl
    · rw [if_neg h, if_neg h]
  · rw [List.map_append]
    rfl
theorem putE_mem {es : List Ent} {z : Str} {p : Addr} {ds : List PyData} {e : Ent} (h : e ∈ putE es z p ds) : e ∈ es ∨ e = ⟨z, p, ds⟩ := by
  unfold putE at h
  split at h
  · obtain ⟨e0, h0, rfl⟩ := List.mem_map.mp h
    split
    · exact .inr rfl
    · exact .inl h0
  · rcases List.mem_append.mp h with h | h
    · exact .inl h
    · exact .inr (List.mem_singleton.mp h)
theorem putE_n {es : List Ent} {z : Str} {p : Addr} {ds : List PyData} (nn : (es.map (·.n)).Nodup) : ((putE es z p ds).map (·.n)).Nodup := by
  unfold putE
  split
  · have : (es.map (fun e => if e.n = z then (⟨z, p, ds⟩ : Ent) else e)).map (·.n) = es.map (·.n) := by
      rw [List.map_map]
      refine List.map_congr_left fun e _ => ?_
      show (if e.n = z then (⟨z, p, ds⟩ : Ent) else e).n = e.n
      split
      · rename_i h; exact h.symm
      · rfl
    rw [this]
    exact nn
  · rename_i h
    rw [List.map_append, List.nodup_append]
    refine ⟨nn, by simp, fun a ha b hb => ?_⟩
    obtain ⟨e, he, rfl⟩ := List.mem_map.mp ha
    have hb : b = z := by simpa using hb
    subst hb
    intro q
    exact h (List.any_eq_true.mpr ⟨e, he, decide_eq_true q⟩)
theorem putE_l {es : List Ent} {z : Str} {p : Addr} {ds : List PyData} (nn : (es.map (·.n)).Nodup) (nl : (es.map (·.l)).Nodup) (hp : ∀ e ∈ es, e.l ≠ p) : ((putE es z p ds).map (·.l)).Nodup := by
  unfold putE
  split
  · rw [List.map_map]
    unfold List.Nodup at nn nl ⊢
    rw [List.pairwise_map] at nn nl ⊢
    refine List.Pairwise.imp_of_mem (fun {a b} ha hb hab => ?_) (nn.and nl)
    show (if a.n = z then (⟨z, p, ds⟩ : Ent) else a).l ≠ (if b.n = z then (⟨z, p, ds⟩ : Ent) else b).l
    by_cases h1 : a.n = z <;> by_cases h2 : b.n = z
    · exact absurd (h1.trans h2.symm) hab.1
    · rw [if_pos h1, if_neg h2]; exact (hp b hb).symm
    · rw [if_neg h1, if_pos h2]; exact hp a ha
    · rw [if_neg h1, if_neg h2]; exact hab.2
  · rw [List.map_append, List.nodup_append]
    refine ⟨nl, by simp, fun a ha b hb => ?_⟩
    obtain ⟨e, he, rfl⟩ := List.mem_map.mp ha
    have hb : b = p := by simpa using hb
    subst hb
    exact hp e he
theorem nodup3 {t r h : Addr} {ls ls' : List Addr} (nd : (t :: r :: h :: ls).Nodup) (n' : ls'.Nodup) (m : ∀ l ∈ ls', l ∈ ls ∨ (l ≠ t ∧ l ≠ r ∧ l ≠ h)) : (t :: r :: h :: ls').Nodup := by
  simp only [List.nodup_cons, List.mem_cons, not_or] at nd ⊢
  obtain ⟨⟨a1, a2, a3⟩, ⟨b1, b2⟩, c1, _⟩ := nd
  refine ⟨⟨a1, a2, fun q => ?_⟩, ⟨b1, fun q => ?_⟩, fun q => ?_, n'⟩
  · rcases m _ q with q | q
    · exact a3 q
    · exact q.1 rfl
  · rcases m _ q with q | q
    · exact b2 q
    · exact q.2.1 rfl
  · rcases m _ q with q | q
    · exact c1 q
    · exact q.2.2 rfl
section
variable {K : PySem.W.Frag} {A : Cn → Addr} {H H' : Hp} {Q : VK} {E : XK} {vs : List V} {σ : L2.St} {ta te tx tb : TE} {D : Ends} {tz : TS} {F : List Addr} {t : Addr} {Ex0 : L2.St → XK} {dx r h : Addr} {es : List Ent} {b : Tb}
theorem TabOf.ne_es (T : TabOf A H t dx r h es b) {e : Ent} (he : e ∈ es) : e.l ≠ t ∧ e.l ≠ r ∧ e.l ≠ h := by
  have nd := T.nd
  simp only [List.nodup_cons, List.mem_cons, not_or] at nd
  have m : e.l ∈ es.map (·.l) := List.mem_map_of_mem he
  exact ⟨fun q => nd.1.2.2 (q ▸ m), fun q => nd.2.1.2 (q ▸ m), fun q => nd.2.2.1 (q ▸ m)⟩
theorem TabOf.ne3 (T : TabOf A H t dx r h es b) : t ≠ r ∧ t ≠ h ∧ r ≠ h := by
  have nd := T.nd
  simp only [List.nodup_cons, List.mem_cons, not_or] at nd
  exact ⟨nd.1.1, nd.1.2.1, nd.2.1.1⟩
theorem TabOf.nl (T : TabOf A H t dx r h es b) : (es.map (·.l)).Nodup := by
  have nd := T.nd
  simp only [List.nodup_cons] at nd
  exact nd.2.2.2
theorem TabOf.sameL (T : TabOf A H t dx r h es b) {e e' : Ent} (he : e ∈ es) (he' : e' ∈ es) (q : e.l = e'.l) : e = e' := by
  have nl := T.nl
  clear T
  induction es with
  | nil => cases he
  | cons a s ih =>
    rw [List.map_cons, List.nodup_cons] at nl
    rcases List.mem_cons.mp he with h1 | h1 <;> rcases List.mem_cons.mp he' with h2 | h2
    · rw [h1, h2]
    · exact absurd (List.mem_map_of_mem (f := (·.l)) h2) (by show e'.l ∉ _; rw [← q, h1]; exact nl.1)
    · exact absurd (List.mem_map_of_mem (f := (·.l)) h1) (by show e.l ∉ _; rw [q, h2]; exact nl.1)
    · exact ih h1 h2 nl.2
theorem TabOf.sameN (T : TabOf A H t dx r h es b) {e e' : Ent} (he : e ∈ es) (he' : e' ∈ es) (q : e.n = e'.n) : e = e' := by
  have nl := T.nn
  clear T
  induction es with
  | nil => cases he
  | cons a s ih =>
    rw [List.map_cons, List.nodup_cons] at nl
    rcases List.mem_cons.mp he with h1 | h1 <;> rcases List.mem_cons.mp he' with h2 | h2
    · rw [h1, h2]
    · exact absurd (List.mem_map_of_mem (f := (·.n)) h2) (by show e'.n ∉ _; rw [← q, h1]; exact nl.1)
    · exact absurd (List.mem_map_of_mem (f := (·.n)) h1) (by show e.n ∉ _; rw [q, h2]; exact nl.1)
    · exact ih h1 h2 nl.2
/-- the column named is there -/
theorem TabOf.find (T : TabOf A H t dx r h es b) {d : PyData} (q : hasC b d = true) : ∃ z e, d = .str z ∧ e ∈ es ∧ e.n = z ∧ valV (es.map kvE) (.inr z) = some (.ref e.l) ∧ getA b.cols z = some e.ds := by
  obtain ⟨z, rfl⟩ : ∃ z, d = .str z := by
    cases d <;> first | exact ⟨_, rfl⟩ | cases q
  rw [hasC_es T] at q
  obtain ⟨e, he, hn, hf⟩ := find_es q
  exact ⟨z, e, rfl, he, hn, by rw [valV_es, hf]; rfl, by rw [T.cols, getA_es, hf]; rfl⟩
/-! give -/
def sp_Table_give (K : PySem.W.Frag) (A : Cn → Addr) : Sp := fun vs H Q E => ∃ F t b v1 d1 v2 d2, vs = [.ref t, v1, v2] ∧ TabAt A F H t b ∧ Dt H v1 d1 ∧ short d1 ∧ Dt H v2 d2 ∧ (∀ x ∈ listD d2, short2 x) ∧ (listD d2).length ≤ 40000 ∧ Out A F t H Q E (giveB b d1 d2)
def t_Table_give (K : PySem.W.Frag) (A : Cn → Addr) (E : XK) : TS :=
  tSeq (tIfS (tNot (tB (tCallS (sp_is_name K) (WE (fun cls d _ H => E cls d H)) (tCons (tVar 1) tNil)))) (tRaiseA (fun cls d _ H => E cls d H) (A .NoName)) tNext)
    (tSeq (tIfS (tAnd (tNot (tB (tMetS (A .Table) "has" (sp_Table_has K A) (WE (fun cls d _ H => E cls d H)) (tVar 0) (tCons (tVar 1) tNil)))) (tTest (tOp rGeA (tCB (rLenA K) (tCons (tFld K (tVar 0) "held") tNil)) (tC (.int 8))))) (tRaiseA (fun cls d _ H => E cls d H) (A .TooMuch)) tNext)
    (tSeq (tIfS (tNot (tB (tCallS (sp_are_values K) (WE (fun cls d _ H => E cls d H)) (tCons (tVar 2) (tCons (tCB (rLenA K) (tCons (tFld K (tVar 0) "rows_now") tNil)) tNil))))) (tRaiseA (fun cls d _ H => E cls d H) (A .NoValue)) tNext)
    (tAsg (tCB (rListA K) (tCons (tVar 2) tNil)) (gSub (tFld K (tVar 0) "held") (tVar 1) rSetA))))
theorem len_Table_give (vs : List V) (H : Hp) (Q : VK) (E : XK) (h : sp_Table_give K A vs H Q E) : vs.length = 3 := by obtain ⟨_, _, _, _, _, _, _, rfl, _⟩ := h; rfl
theorem vtAll_of : ∀ {H : Hp} {vs : List V} {ds : List PyData}, DtAll H vs ds → ds.all isValueD = true → VtAll H vs ds
  | _, _, _, .nil, _ => .nil
  | _, _, _, .cons a r, h => by
    rw [List.all_cons, Bool.and_eq_true] at h
    exact .cons (vt_of a h.1) (vtAll_of r h.2)
theorem r_Table_give (c : ClK K (A .Table) tabF) (vs : List V) (H : Hp) (Q : VK) (E : XK) (h : sp_Table_give K A vs H Q E) : t_Table_give K A E { nx := fun _ H' => Q .non H', rt := Q } (L2.start ["self", "column", "values"] vs) H := by
  obtain ⟨F, t, b, v1, d1, v2, d2, rfl, T, r1, hs, r2, hs2, hz, k⟩ := h
  unfold t_Table_give
  refine q_when (et_not (et_B (ev_spB (g := isNameD) (pre := short) (ed_var rfl r1) hs))) (fun hb H1 e1 => ?_) (fun hb H1 e1 => ?_)
  · unfold giveB at k
    rw [if_neg (by rw [not_eq_true_iff hb]; decide)] at k
    exact k H1 e1
  have hb := not_eq_false_iff hb
  obtain ⟨z, rfl⟩ : ∃ z, d1 = .str z := by
    cases d1 <;> first | exact ⟨_, rfl⟩ | cases hb
  obtain rfl := r1.s
  have T := T.ex' e1
  have r1 := r1.ex e1
  have r2 := r2.ex e1
  have k := Out.ex e1 k
  unfold giveB at k
  rw [if_pos hb] at k
  have held : ∀ {F : List Addr} {H : Hp} {σ : L2.St}, TabAt A F H t b → σ[0]? = some (some (V.ref t)) → Ev (tCB (rLenA K) (tCons (tFld K (tVar 0) "held") tNil)) σ H (.int b.cols.length) := fun T hσ => by
    obtain ⟨dx, r, hh, es, rfl, O⟩ := T.ex
    have := ev_lenV (K := K) (ev_fld (f := "held") (ev_var hσ) O.at_ c (by decide) rfl) (rc_lenD O.held)
    rw [len_es, ← List.length_map (f := cE), ← O.cols] at this
    exact this
  have rown : ∀ {F : List Addr} {H : Hp} {σ : L2.St}, TabAt A F H t b → σ[0]? = some (some (V.ref t)) → Ev (tCB (rLenA K) (tCons (tFld K (tVar 0) "rows_now") tNil)) σ H (.int b.rows.length) := fun T hσ => by
    obtain ⟨dx, r, hh, es, rfl, O⟩ := T.ex
    have := ev_lenV (K := K) (ev_fld (f := "rows_now") (ev_var hσ) O.at_ c (by decide) rfl) (rc_lenL (SqL.of O.rows))
    rw [List.length_map] at this
    exact this
  refine q_when (et_and (et_not (et_B (ev_has T (ev_var rfl) (ed_var rfl r1)))) fun _ => et_test (ev_op (held T rfl) ev_c rv_ge)) (fun hb2 H2 e2 => ?_) (fun hb2 H2 e2 => ?_)
  · rw [if_pos (by rw [← hb2]; congr 1; exact decide_eq_decide.mpr (by omega))] at k
    exact k H2 e2
  have T := T.ex' e2
  have r1 := r1.ex e2
  have r2 := r2.ex e2
  have k := Out.ex e2 k
  have hb3 : (!hasC b (.str z) && decide (8 ≤ b.cols.length)) = false := by
    rw [← hb2]; congr 1; exact decide_eq_decide.mpr (by omega)
  rw [if_neg (by rw [hb3]; decide)] at k
  refine q_when (et_not (et_B (ev_areV (ed_var rfl r2) (rown T rfl) hs2 hz))) (fun hb4 H3 e3 => ?_) (fun hb4 H3 e3 => ?_)
  · rw [if_neg (by rw [not_eq_true_iff hb4]; decide)] at k
    exact k H3 e3
  have hb4 := not_eq_false_iff hb4
  rw [if_pos hb4] at k
  obtain ⟨ds, rfl⟩ : ∃ ds, d2 = .list ds := by
    cases d2 <;> first | exact ⟨_, rfl⟩ | cases hb4
  have hv : ds.length = b.rows.length ∧ ds.all isValueD = true := by
    have : (decide (ds.length = b.rows.length) && ds.all isValueD) = true := hb4
    rw [Bool.and_eq_true] at this
    exact ⟨of_decide_eq_true this.1, this.2⟩
  have T := T.ex' e3
  have r2 := r2.ex e3
  have k := Out.ex e3 k
  cases r2 with
  | @lst a xs _ ha r2 =>
  -- list(values)
  refine el_listA (ev_var rfl) (SqL.of ha) H3 (Ex.refl H3) _ fun p H4 np e4 hp => ?_
  obtain ⟨dx, r, hh, es, rfl, O⟩ := T.ex
  have O4 := O.keep (.of_ex e4) fun l _ o q => e4 l o q
  have hne : ∀ l ∈ t :: r :: hh :: es.map (·.l), l ≠ p := fun l hl q => T.off np (q ▸ hl)
  have hpe : ∀ e ∈ es, e.l ≠ p := fun e he => hne _ (by simp only [List.mem_cons]; exact .inr (.inr (.inr (List.mem_map_of_mem he))))
  have el : es.length = b.cols.length := by rw [O.cols, List.length_map]
  refine ev_fld (ev_var rfl) O4.at_ c (by decide) rfl H4 (Ex.refl H4) _ fun H5 e5 => ⟨_, rfl, .inr ⟨hh, _, rfl, DPut.k (k := .inr z) (e5 _ _ O4.held) (by rw [len_es]; have := O.few.2; exact sz_lt (by omega)), ?_⟩⟩
  have O5 := O4.keep (.of_ex e5) fun l _ o q => e5 l o q
  have hp5 := e5 _ _ hp
  have vx : VtAll H5 xs ds := vtAll_of ((r2.ex e4).ex e5) hv.2
  have tup : Tup H5 (upd H5 hh (.dK (putK (es.map kvE) (.inr z) (.ref p)))) := fun bb ys q => by
    rw [upd_ne (fun w => by rw [w, O5.held] at q; cases q)]
    exact q
  have nh : ∀ {l : Addr}, l ≠ hh → upd H5 hh (.dK (putK (es.map kvE) (.inr z) (.ref p))) l = H5 l := fun w => upd_ne w
  have hp4 : ∀ {l : Addr} {o : HO}, H3 l = some o → H5 l = some o := fun q => e5 _ _ (e4 _ _ q)
  refine k _ (t :: r :: hh :: (putE es z p ds).map (·.l)) ⟨dx, r, hh, putE es z p ds, rfl, ⟨?_, putE_n O.nn, ?_, ?_, ?_, ?_, ?_, ?_, ?_⟩⟩ ?_ ?_
  · refine nodup3 O.nd (putE_l O.nn O.nl hpe) fun l hl => ?_
    obtain ⟨e, he, rfl⟩ := List.mem_map.mp hl
    rcases putE_mem he with he | rfl
    · exact .inl (List.mem_map_of_mem he)
    · exact .inr ⟨(hne _ (by simp)).symm, (hne _ (by simp)).symm, (hne _ (by simp)).symm⟩
  · show putA b.cols z ds = _
    rw [putE_c, O.cols]
  · rw [nh O.ne3.2.1]
    exact O5.at_
  · rw [nh O.ne3.2.2]
    exact O5.rows
  · rw [upd_same, putE_kv]
  · intro e he
    rcases putE_mem he with he | rfl
    · exact (O5.cell e he).keep tup (nh (O.ne_es he).2.2)
    · exact ⟨xs, by rw [nh (hne _ (by simp)).symm]; exact hp5, vx.tup tup⟩
  · intro e he
    rcases putE_mem he with he | rfl
    · exact O.wide e he
    · exact hv.1
  · refine ⟨O.few.1, ?_⟩
    unfold putE
    split
    · rw [List.length_map]; exact O.few.2
    · rename_i q
      rw [List.length_append, List.length_singleton]
      have q : hasC b (.str z) = false := by rw [hasC_es O]; simpa using q
      rw [q] at hb3
      have : ¬ 8 ≤ b.cols.length := of_decide_eq_false (by simpa using hb3)
      omega
  · intro bb o q nf
    rw [nh (fun w => nf (by rw [w]; simp))]
    exact hp4 q
  · intro bb hb
    simp only [List.mem_cons] at hb ⊢
    rcases hb with hb | hb | hb | hb
    · exact .inl (.inl hb)
    · exact .inl (.inr (.inl hb))
    · exact .inl (.inr (.inr (.inl hb)))
    · obtain ⟨e, he, rfl⟩ := List.mem_map.mp hb
      rcases putE_mem he with he | rfl
      · exact .inl (.inr (.inr (.inr (List.mem_map_of_mem he))))
      · exact .inr np
end
end Z

set_option Elab.async false
set_option linter.all false
set_option autoImplicit false
set_option maxRecDepth 100000
set_option maxHeartbeats 4000000
/-! ev: what an expression comes to, by its form -/
local macro_rules | `(tactic| k_places) => `(tactic| (repeat' (first
  | (with_reducible exact ev_c)
  | (with_reducible exact ev_var rfl)
  | (with_reducible refine ev_chainLL ?_ ?_ ?_)
  | (with_reducible refine ev_chainLt ?_ ?_ ?_)
  | (with_reducible refine ev_op ?_ ?_ ?_)
  | (with_reducible refine ev_neg ?_)
  | (with_reducible refine et_test ?_)
  | (with_reducible refine et_B ?_)
  | (with_reducible refine et_not ?_)
  | (with_reducible refine et_and ?_ (fun _ => ?_))
  | (with_reducible refine et_or ?_ (fun _ => ?_))
  | (with_reducible refine ev_andV ?_ (fun _ => ?_))
  | (with_reducible refine ev_orV ?_ (fun _ => ?_))
  | (with_reducible refine ev_notV ?_)
  | (with_reducible exact rv_addI)
  | (with_reducible exact rv_subI)
  | (with_reducible exact rv_lt)
  | (with_reducible exact rv_le)
  | (with_reducible exact rv_gt)
  | (with_reducible exact rv_ge)
  | (with_reducible exact rv_isB)
  | (with_reducible exact rv_isnB)
  | (with_reducible exact rv_isN)
  | (with_reducible exact rv_isnN)
  | (with_reducible exact rv_eqS rfl)
  | (with_reducible exact rv_neS rfl)
  | (with_reducible exact rv_inStr)
  | (with_reducible exact rv_ninStr)
  | (with_reducible exact rv_mod (by first | decide | omega | assumption))
  | (with_reducible exact rv_div (by first | decide | omega | assumption))
  | (with_reducible exact rv_pow (by decide))
  | (with_reducible refine ed_i ?_; done)
  | (with_reducible exact ea_nil)
  | (with_reducible refine ea_cons ?_ ?_)
  | (with_reducible exact eds_nil)
  | (with_reducible refine eds_cons ?_ ?_)
  | (with_reducible exact ed_dnew)
  | (with_reducible refine ed_lst ?_ (by simp only [List.length_cons, List.length_nil]; omega))
  | (with_reducible refine ed_tup ?_ (by simp only [List.length_cons, List.length_nil]; omega)))))
namespace Z
open PySem PySem.Spec PyProof.Rows L2 Evl
section
variable {K : PySem.W.Frag} {A : Cn → Addr} {H H' : Hp} {Q : VK} {E : XK} {vs : List V} {σ : L2.St} {ta te tx tb : TE} {D : Ends} {tz : TS} {F : List Addr} {t : Addr} {Ex0 : L2.St → XK} {dx r h : Addr} {es : List Ent} {b : Tb}
theorem ev_held (c : ClK K (A .Table) tabF) (O : TabOf A H t dx r h es b) (hσ : Ev ta σ H (.ref t)) : Ev (tFld K ta "held") σ H (.ref h) := ev_fld hσ O.at_ c (by decide) rfl
theorem ev_rown (c : ClK K (A .Table) tabF) (O : TabOf A H t dx r h es b) (hσ : Ev ta σ H (.ref t)) : Ev (tFld K ta "rows_now") σ H (.ref r) := ev_fld hσ O.at_ c (by decide) rfl
theorem ev_rowsN (c : ClK K (A .Table) tabF) (T : TabAt A F H t b) (hσ : Ev ta σ H (.ref t)) : Ev (tCB (rLenA K) (tCons (tFld K ta "rows_now") tNil)) σ H (.int b.rows.length) := by
  obtain ⟨dx, r, hh, es, rfl, O⟩ := T.ex
  have := ev_lenV (ev_rown c O hσ) (rc_lenL (K := K) (SqL.of O.rows))
  rw [List.length_map] at this
  exact this
theorem nodup_sub {ls ls' : List Addr} (h : ls'.Sublist ls) (n : ls.Nodup) : ls'.Nodup := List.Pairwise.sublist h n
theorem s_dpop {p : Addr} {kvs : List (Key × V)} {k : Key} {v : V} (ho : Ev ta σ H (.ref p)) (hk : Ev te σ H (kV k)) (h : H p = some (.dK kvs)) (hv : valV kvs k = some v) (kk : ∀ H1, Ex H H1 → D.nx σ (upd H1 p (.dK (dropK kvs k)))) : tDrop (tDPop1 ta te) D σ H :=
  ho H (Ex.refl H) _ fun H2 e2 => ⟨p, rfl, .inl ⟨_, .inl (e2 _ _ h)⟩, hk H2 e2 _ fun H3 e3 => ⟨kvs, k, v, (e2.trans e3) _ _ h, rfl, hv, kk H3 (e2.trans e3)⟩⟩
/-! drop -/
def sp_Table_drop (K : PySem.W.Frag) (A : Cn → Addr) : Sp := fun vs H Q E => ∃ F t b v d, vs = [.ref t, v] ∧ TabAt A F H t b ∧ Dt H v d ∧ Out A F t H Q E (dropB b d)
def t_Table_drop (K : PySem.W.Frag) (A : Cn → Addr) (E : XK) : TS :=
  tSeq (tDrop (tMetS (A .Table) "look_at" (sp_Table_look_at K A) (WE (fun cls d _ H => E cls d H)) (tVar 0) (tCons (tVar 1) tNil)))
    (tDrop (tDPop1 (tFld K (tVar 0) "held") (tVar 1)))
theorem len_Table_drop (vs : List V) (H : Hp) (Q : VK) (E : XK) (h : sp_Table_drop K A vs H Q E) : vs.length = 2 := by obtain ⟨_, _, _, _, _, rfl, _⟩ := h; rfl
theorem dropK_es (es : List Ent) (z : Str) : dropK (es.map kvE) (.inr z) = (es.filter fun e => decide (e.n ≠ z)).map kvE := by
  unfold dropK
  rw [List.filter_map]
  congr 2
  funext e
  exact decide_eq_decide.mpr ⟨fun h q => h (show (Sum.inr e.n : Key) = _ by rw [q]), fun h q => h (Sum.inr.inj q)⟩
theorem dropA_es (es : List Ent) (z : Str) : dropA (es.map cE) z = (es.filter fun e => decide (e.n ≠ z)).map cE := by
  unfold dropA
  rw [List.filter_map]
  rfl
theorem r_Table_drop (c : ClK K (A .Table) tabF) (vs : List V) (H : Hp) (Q : VK) (E : XK) (h : sp_Table_drop K A vs H Q E) : t_Table_drop K A E { nx := fun _ H' => Q .non H', rt := Q } (L2.start ["self", "column"] vs) H := by
  obtain ⟨F, t, b, v, d, rfl, T, rd, k⟩ := h
  unfold t_Table_drop
  unfold dropB at k
  refine q_look T (ev_var rfl) (ed_var rfl rd) (fun q H1 e1 => ?_) (fun q H1 e1 => ?_)
  · rw [if_pos q] at k
    obtain ⟨dx, r, hh, es, rfl, O⟩ := (T.ex' e1).ex
    obtain ⟨z, e, rfl, he, hn, hv, hg⟩ := O.find q
    obtain rfl := rd.s
    have k := Out.ex e1 k
    refine s_dpop (k := .inr z) (ev_held c O (ev_var rfl)) (ev_var rfl) O.held hv fun H2 e2 => ?_
    have k := Out.ex e2 k
    have O2 := O.keep (.of_ex e2) fun l _ o q => e2 l o q
    have tup : Tup H2 (upd H2 hh (.dK (dropK (es.map kvE) (.inr z)))) := fun bb ys q => by
      rw [upd_ne (fun w => by rw [w, O2.held] at q; cases q)]
      exact q
    have nh : ∀ {l : Addr}, l ≠ hh → upd H2 hh (.dK (dropK (es.map kvE) (.inr z))) l = H2 l := fun w => upd_ne w
    have sub : (es.filter fun e => decide (e.n ≠ z)).Sublist es := List.filter_sublist
    refine k _ (t :: r :: hh :: (es.filter fun e => decide (e.n ≠ z)).map (·.l)) ⟨dx, r, hh, _, rfl, ⟨?_, ?_, ?_, ?_, ?_, ?_, ?_, ?_, ?_⟩⟩ ?_ ?_
    · exact nodup_sub (.cons₂ _ (.cons₂ _ (.cons₂ _ (sub.map _)))) O.nd
    · exact List.Pairwise.sublist (sub.map _) O.nn
    · show dropA b.cols z = _
      rw [O.cols, dropA_es]
    · rw [nh O.ne3.2.1]; exact O2.at_
    · rw [nh O.ne3.2.2]; exact O2.rows
    · rw [upd_same, dropK_es]
    · exact fun e he => (O2.cell e (sub.subset he)).keep tup (nh (O.ne_es (sub.subset he)).2.2)
    · exact fun e he => O.wide e (sub.subset he)
    · exact ⟨O.few.1, Nat.le_trans sub.length_le O.few.2⟩
    · intro bb o q nf
      rw [nh (fun w => nf (by rw [w]; simp))]
      exact q
    · intro bb hb
      refine .inl ?_
      simp only [List.mem_cons] at hb ⊢
      rcases hb with hb | hb | hb | hb
      · exact .inl hb
      · exact .inr (.inl hb)
      · exact .inr (.inr (.inl hb))
      · exact .inr (.inr (.inr ((sub.map _).subset hb)))
  · rw [if_neg (by rw [q]; decide)] at k
    exact k H1 e1
/-! at -/
def sp_Table_at (K : PySem.W.Frag) (A : Cn → Addr) : Sp := fun vs H Q E => ∃ F t b v1 d1 v2 d2, vs = [.ref t, v1, v2] ∧ TabAt A F H t b ∧ Dt H v1 d1 ∧ Dt H v2 d2 ∧
  (∀ c, atB b d1 d2 = .error c → ∀ H1, Ex H H1 → E (.ref (A c)) none H1) ∧ (∀ d, atB b d1 d2 = .ok d → ∀ v H1, Ex H H1 → Vt H1 v d → Q v H1)
def t_Table_at (K : PySem.W.Frag) (A : Cn → Addr) (E : XK) : TS :=
  tSeq (tDrop (tMetS (A .Table) "look_at" (sp_Table_look_at K A) (WE (fun cls d _ H => E cls d H)) (tVar 0) (tCons (tVar 1) tNil)))
    (tSeq (tDrop (tMetS (A .Table) "look_at_place" (sp_Table_look_at_place K A) (WE (fun cls d _ H => E cls d H)) (tVar 0) (tCons (tVar 2) (tCons (tCB (rLenA K) (tCons (tFld K (tVar 0) "rows_now") tNil)) tNil))))
    (tRet (tOp (rIxA K) (tOp (rIxA K) (tFld K (tVar 0) "held") (tVar 1)) (tVar 2))))
theorem len_Table_at (vs : List V) (H : Hp) (Q : VK) (E : XK) (h : sp_Table_at K A vs H Q E) : vs.length = 3 := by obtain ⟨_, _, _, _, _, _, _, rfl, _⟩ := h; rfl
theorem VtAll.get {H : Hp} : ∀ {vs : List V} {ds : List PyData} {i : Nat}, VtAll H vs ds → i < ds.length → ∃ v, vs[i]? = some v ∧ Vt H v (ds.getD i .none)
  | _, _, i, .nil, h => by cases h
  | _, _, 0, .cons a r, h => ⟨_, rfl, a⟩
  | _, _, i + 1, .cons a r, h => by
    obtain ⟨v, h1, h2⟩ := r.get (i := i) (by simpa using h)
    exact ⟨v, by simpa using h1, by simpa using h2⟩
theorem below_nat {n : Nat} {d : PyData} (h : isBelow n d = true) : ∃ i : Nat, d = .int i ∧ i < n := by
  obtain ⟨i, rfl, hi⟩ : ∃ i, d = .int i ∧ 0 ≤ i ∧ i < n := by
    cases d <;> first | (simp [isBelow] at h; done) | exact ⟨_, rfl, of_decide_eq_true h⟩
  exact ⟨i.toNat, by congr 1; omega, by omega⟩
theorem r_Table_at (c : ClK K (A .Table) tabF) (vs : List V) (H : Hp) (Q : VK) (E : XK) (h : sp_Table_at K A vs H Q E) : t_Table_at K A E { nx := fun _ H' => Q .non H', rt := Q } (L2.start ["self", "column", "place"] vs) H := by
  obtain ⟨F, t, b, v1, d1, v2, d2, rfl, T, r1, r2, k1, k2⟩ := h
  unfold t_Table_at
  unfold atB at k1 k2
  refine q_look T (ev_var rfl) (ed_var rfl r1) (fun q H1 e1 => ?_) (fun q H1 e1 => k1 _ (by rw [if_neg (by rw [q]; decide)]) H1 e1)
  rw [if_pos q] at k1 k2
  have T := T.ex' e1
  refine q_lookP T (ev_var rfl) (ed_var rfl (r2.ex e1)) (ev_rowsN c T (ev_var rfl)) (fun q2 H2 e2 => ?_) (fun q2 H2 e2 => k1 _ (by rw [if_neg (by rw [q2]; decide)]) H2 (e1.trans e2))
  rw [if_pos q2] at k2
  have T := T.ex' e2
  obtain ⟨dx, r, hh, es, rfl, O⟩ := T.ex
  obtain ⟨z, e, rfl, he, hn, hv, hg⟩ := O.find q
  obtain rfl := r1.s
  obtain ⟨i, rfl, hi⟩ := below_nat q2
  obtain rfl := r2.i
  obtain ⟨xs, hx, vx⟩ := O.cell e he
  obtain ⟨v, g1, g2⟩ := vx.get (i := i) (by rw [O.wide e he]; exact hi)
  refine s_ret (ev_op (ev_op (ev_held c O (ev_var rfl)) (ev_var rfl) (rv_ixDk (k := .inr z) O.held hv)) (ev_var rfl) (rv_itL (SqL.of hx) (atI_nat g1))) fun H3 e3 => ?_
  refine k2 _ rfl v H3 ((e1.trans e2).trans e3) ?_
  show Vt H3 v (((getA b.cols z).getD []).getD i .none)
  rw [hg]
  exact g2.tup (.of_ex e3)
/-! put -/
def sp_Table_put (K : PySem.W.Frag) (A : Cn → Addr) : Sp := fun vs H Q E => ∃ F t b v1 d1 v2 d2 v3 d3, vs = [.ref t, v1, v2, v3] ∧ TabAt A F H t b ∧ Dt H v1 d1 ∧ Dt H v2 d2 ∧ Dt H v3 d3 ∧ short2 d3 ∧ Out A F t H Q E (putB b d1 d2 d3)
def t_Table_put (K : PySem.W.Frag) (A : Cn → Addr) (E : XK) : TS :=
  tSeq (tDrop (tMetS (A .Table) "look_at" (sp_Table_look_at K A) (WE (fun cls d _ H => E cls d H)) (tVar 0) (tCons (tVar 1) tNil)))
    (tSeq (tDrop (tMetS (A .Table) "look_at_place" (sp_Table_look_at_place K A) (WE (fun cls d _ H => E cls d H)) (tVar 0) (tCons (tVar 2) (tCons (tCB (rLenA K) (tCons (tFld K (tVar 0) "rows_now") tNil)) tNil))))
    (tSeq (tIfS (tNot (tB (tCallS (sp_is_value K) (WE (fun cls d _ H => E cls d H)) (tCons (tVar 3) tNil)))) (tRaiseA (fun cls d _ H => E cls d H) (A .NoValue)) tNext)
    (tAsg (tVar 3) (gSub (tOp (rIxA K) (tFld K (tVar 0) "held") (tVar 1)) (tVar 2) rSetA))))
theorem len_Table_put (vs : List V) (H : Hp) (Q : VK) (E : XK) (h : sp_Table_put K A vs H Q E) : vs.length = 4 := by obtain ⟨_, _, _, _, _, _, _, _, _, rfl, _⟩ := h; rfl
def onE (f : List PyData → List PyData) (es : List Ent) (z : Str) : List Ent := es.map fun e => if e.n = z then { e with ds := f e.ds } else e
theorem onE_same {β : Type} (g : Ent → β) (hg : ∀ e ds, g { e with ds := ds } = g e) (f : List PyData → List PyData) (es : List Ent) (z : Str) : (onE f es z).map g = es.map g := by
  unfold onE
  rw [List.map_map]
  refine List.map_congr_left fun e _ => ?_
  show g (if e.n = z then { e with ds := f e.ds } else e) = g e
  split
  · exact hg _ _
  · rfl
theorem onE_c (f : List PyData → List PyData) (es : List Ent) (z : Str) : (onE f es z).map cE = onA f (es.map cE) z := by
  unfold onE onA
  rw [List.map_map, List.map_map]
  refine List.map_congr_left fun e _ => ?_
  show cE (if e.n = z then { e with ds := f e.ds } else e) = if e.n = z then (e.n, f e.ds) else cE e
  split <;> rfl
theorem VtAll.set {H : Hp} {v : V} {d : PyData} (h : Vt H v d) : ∀ {vs : List V} {ds : List PyData} (i : Nat), VtAll H vs ds → VtAll H (vs.set i v) (ds.set i d)
  | _, _, _, .nil => .nil
  | _, _, 0, .cons a r => .cons h r
  | _, _, i + 1, .cons a r => .cons a (r.set h i)
theorem Fr.set {F : List Addr} {l : Addr} {o : HO} (h : l ∈ F) (e : Ex H H') : Fr F H (upd H' l o) := fun b u q n => by
  rw [upd_ne (fun w => n (by rw [w]; exact h))]
  exact e b u q
theorem r_Table_put (c : ClK K (A .Table) tabF) (vs : List V) (H : Hp) (Q : VK) (E : XK) (h : sp_Table_put K A vs H Q E) : t_Table_put K A E { nx := fun _ H' => Q .non H', rt := Q } (L2.start ["self", "column", "place", "value"] vs) H := by
  obtain ⟨F, t, b, v1, d1, v2, d2, v3, d3, rfl, T, r1, r2, r3, hs, k⟩ := h
  unfold t_Table_put
  unfold putB at k
  refine q_look T (ev_var rfl) (ed_var rfl r1) (fun q H1 e1 => ?_) (fun q H1 e1 => by rw [if_neg (by rw [q]; decide)] at k; exact k H1 e1)
  rw [if_pos q] at k
  have T := T.ex' e1
  refine q_lookP T (ev_var rfl) (ed_var rfl (r2.ex e1)) (ev_rowsN c T (ev_var rfl)) (fun q2 H2 e2 => ?_) (fun q2 H2 e2 => by rw [if_neg (by rw [q2]; decide)] at k; exact k H2 (e1.trans e2))
  rw [if_pos q2] at k
  have T := T.ex' e2
  refine q_when (et_not (et_B (ev_spB (g := isValueD) (pre := short2) (ed_var rfl ((r3.ex e1).ex e2)) hs))) (fun hb H3 e3 => by rw [if_neg (by rw [not_eq_true_iff hb]; decide)] at k; exact k H3 ((e1.trans e2).trans e3)) fun hb H3 e3 => ?_
  have hb := not_eq_false_iff hb
  rw [if_pos hb] at k
  have T := T.ex' e3
  have E3 := (e1.trans e2).trans e3
  obtain ⟨dx, r, hh, es, rfl, O⟩ := T.ex
  obtain ⟨z, e, rfl, he, hn, hv, hg⟩ := O.find q
  obtain rfl := r1.s
  obtain ⟨i, rfl, hi⟩ := below_nat q2
  obtain rfl := r2.i
  obtain ⟨xs, hx, vx⟩ := O.cell e he
  have w3 := vt_of (r3.ex E3) hb
  refine s_setA hx (ev_var rfl) (ev_op (ev_held c O (ev_var rfl)) (ev_var rfl) (rv_ixDk (k := .inr z) O.held hv)) (ev_var rfl) (by rw [vx.length, O.wide e he]; exact hi) fun H4 e4 => ?_
  have O4 := O.keep (.of_ex e4) fun l _ o q => e4 l o q
  have hx4 := e4 _ _ hx
  have tup : Tup H4 (upd H4 e.l (.lst (xs.set i v3))) := .upd hx4
  have nl : ∀ {l : Addr} {o : HO}, l ≠ e.l → upd H4 e.l o l = H4 l := fun w => upd_ne w
  have k := Out.ex (E3.trans e4) k
  have Le : (onE (fun ds => ds.set i d3) es z).map (·.l) = es.map (·.l) := onE_same (·.l) (fun _ _ => rfl) _ _ _
  have ne := O.ne_es he
  have mem : ∀ e' ∈ onE (fun ds => ds.set i d3) es z, ∃ e0 ∈ es, e' = if e0.n = z then { e0 with ds := e0.ds.set i d3 } else e0 := fun e' h' => by
    obtain ⟨e0, h0, rfl⟩ := List.mem_map.mp h'
    exact ⟨e0, h0, rfl⟩
  refine k _ (t :: r :: hh :: es.map (·.l)) ⟨dx, r, hh, onE (fun ds => ds.set i d3) es z, by rw [Le], ⟨by rw [Le]; exact O.nd, by rw [onE_same (·.n) (fun _ _ => rfl)]; exact O.nn, ?_, by rw [nl ne.1.symm]; exact O4.at_, by rw [nl ne.2.1.symm]; exact O4.rows, by rw [nl ne.2.2.symm, onE_same kvE (fun _ _ => rfl)]; exact O4.held, ?_, ?_, ⟨O.few.1, by unfold onE; rw [List.length_map]; exact O.few.2⟩⟩⟩ (.set (by simp only [List.mem_cons]; exact .inr (.inr (.inr (List.mem_map_of_mem he)))) (Ex.refl _)) (fun _ h => .inl h)
  · rw [onE_c, ← O.cols]
    rfl
  · intro e' h'
    obtain ⟨e0, h0, rfl⟩ := mem e' h'
    by_cases w : e0.n = z
    · rw [if_pos w]
      obtain rfl := O.sameN h0 he (w.trans hn.symm)
      exact ⟨_, upd_same, ((vx.tup (.of_ex e4)).set (w3.tup (.of_ex e4)) i).tup tup⟩
    · rw [if_neg w]
      refine (O4.cell e0 h0).keep tup (nl fun q => w ?_)
      rw [O.sameL h0 he q]
      exact hn
  · intro e' h'
    obtain ⟨e0, h0, rfl⟩ := mem e' h'
    by_cases w : e0.n = z
    · rw [if_pos w]
      show (e0.ds.set i d3).length = _
      rw [List.length_set]
      exact O.wide e0 h0
    · rw [if_neg w]
      exact O.wide e0 h0
end
end Z

set_option Elab.async false
set_option linter.all false
set_option autoImplicit false
set_option maxRecDepth 100000
set_option maxHeartbeats 4000000
/-! ev: what an expression comes to, by its form -/
local macro_rules | `(tactic| k_places) => `(tactic| (repeat' (first
  | (with_reducible exact ev_c)
  | (with_reducible exact ev_var rfl)
  | (with_reducible refine ev_chainLL ?_ ?_ ?_)
  | (with_reducible refine ev_chainLt ?_ ?_ ?_)
  | (with_reducible refine ev_op ?_ ?_ ?_)
  | (with_reducible refine ev_neg ?_)
  | (with_reducible refine et_test ?_)
  | (with_reducible refine et_B ?_)
  | (with_reducible refine et_not ?_)
  | (with_reducible refine et_and ?_ (fun _ => ?_))
  | (with_reducible refine et_or ?_ (fun _ => ?_))
  | (with_reducible refine ev_andV ?_ (fun _ => ?_))
  | (with_reducible refine ev_orV ?_ (fun _ => ?_))
  | (with_reducible refine ev_notV ?_)
  | (with_reducible exact rv_addI)
  | (with_reducible exact rv_subI)
  | (with_reducible exact rv_lt)
  | (with_reducible exact rv_le)
  | (with_reducible exact rv_gt)
  | (with_reducible exact rv_ge)
  | (with_reducible exact rv_isB)
  | (with_reducible exact rv_isnB)
  | (with_reducible exact rv_isN)
  | (with_reducible exact rv_isnN)
  | (with_reducible exact rv_eqS rfl)
  | (with_reducible exact rv_neS rfl)
  | (with_reducible exact rv_inStr)
  | (with_reducible exact rv_ninStr)
  | (with_reducible exact rv_mod (by first | decide | omega | assumption))
  | (with_reducible exact rv_div (by first | decide | omega | assumption))
  | (with_reducible exact rv_pow (by decide))
  | (with_reducible refine ed_i ?_; done)
  | (with_reducible exact ea_nil)
  | (with_reducible refine ea_cons ?_ ?_)
  | (with_reducible exact eds_nil)
  | (with_reducible refine eds_cons ?_ ?_)
  | (with_reducible exact ed_dnew)
  | (with_reducible refine ed_lst ?_ (by simp only [List.length_cons, List.length_nil]; omega))
  | (with_reducible refine ed_tup ?_ (by simp only [List.length_cons, List.length_nil]; omega)))))
namespace Z
open PySem PySem.Spec PyProof.Rows L2 Evl
/-! ### values that are only known to be values -/
theorem val_cases {d : PyData} (h : isValueD d = true) : (∃ i, d = .int i ∧ -(10 ^ 60) < i ∧ i < 10 ^ 60) ∨ ∃ w, d = .tuple [.str "fault", .str w] ∧ isName w = true := by
  cases d with
  | int i =>
    have h : (decide (-(10 ^ 60) < i ∧ i < 10 ^ 60) || false) = true := h
    rw [Bool.or_false] at h
    exact .inl ⟨i, rfl, of_decide_eq_true h⟩
  | tuple ds =>
    have h0 : (false || isFaultD (.tuple ds)) = true := h
    clear h
    rw [Bool.false_or] at h0
    unfold isFaultD at h0
    split at h0
    · rename_i f w q
      cases q
      rw [Bool.and_eq_true] at h0
      obtain ⟨h1, h2⟩ := h0
      cases w with
      | str z => exact .inr ⟨z, by rw [of_decide_eq_true h1], h2⟩
      | _ => cases h2
    · cases h0
  | _ => cases h
theorem val_ok {d : PyData} (h : isValueD d = true) : short2 d ∧ okN 1 d ∧ PyData.eqv d d = true ∧ isiB (kindD d) "bool" = false := by
  rcases val_cases h with ⟨i, rfl, -⟩ | ⟨w, rfl, hw⟩
  · exact ⟨trivial, trivial, by simp [PyData.eqv], rfl⟩
  · exact ⟨(name_ok hw).len, ⟨okF, name_ok hw, trivial⟩, by simp [PyData.eqv, PyData.eqvAll], rfl⟩
theorem val_int {i : Int} (h : -(10 ^ 60) < i ∧ i < 10 ^ 60) : isValueD (.int i) = true := by
  show (decide (-(10 ^ 60) < i ∧ i < 10 ^ 60) || false) = true
  rw [decide_eq_true h]
  rfl
theorem val_flt {w : Str} (h : isName w = true) : isValueD (.tuple [.str "fault", .str w]) = true := by
  show (false || isFaultD (.tuple [.str "fault", .str w])) = true
  rw [isFault_pair, show isNameD (.str w) = true from h, Bool.and_true]
  decide +kernel
mutual
theorem okN_up : ∀ {n : Nat} {d : PyData}, okN n d → ∀ m, n ≤ m → okN m d
  | _, .str z, h, m, _ => by cases m <;> (unfold okN at *; exact h)
  | n + 1, .list ds, h, m + 1, e => by unfold okN at *; exact okNs_up h m (by omega)
  | n + 1, .tuple ds, h, m + 1, e => by unfold okN at *; exact okNs_up h m (by omega)
  | 0, .list _, h, _, _ => by unfold okN at h; exact h.elim
  | 0, .tuple _, h, _, _ => by unfold okN at h; exact h.elim
  | _, .dict _, h, _, _ => by unfold okN at h; exact h.elim
  | _, .none, _, m, _ => by cases m <;> (unfold okN; trivial)
  | _, .bool _, _, m, _ => by cases m <;> (unfold okN; trivial)
  | _, .int _, _, m, _ => by cases m <;> (unfold okN; trivial)
theorem okNs_up : ∀ {n : Nat} {ds : List PyData}, okNs n ds → ∀ m, n ≤ m → okNs m ds
  | _, [], _, _, _ => by unfold okNs; trivial
  | n, d :: ds, h, m, e => by
    unfold okNs at *
    exact ⟨okN_up h.1 m e, okNs_up h.2 m e⟩
end
theorem val_okD {d : PyData} (h : isValueD d = true) : okD d := okN_up (val_ok h).2.1 10 (by decide)
theorem vals_okD {ds : List PyData} (h : ds.all isValueD = true) : okD (.list ds) := by
  show okNs 9 ds
  exact okNs_iff.mpr fun d hd => okN_up (val_ok (List.all_eq_true.mp h d hd)).2.1 9 (by decide)
theorem eqvAll_refl : ∀ {ds : List PyData}, (∀ d ∈ ds, PyData.eqv d d = true) → PyData.eqvAll ds ds = true
  | [], _ => by simp [PyData.eqvAll]
  | d :: ds, h => by
    rw [PyData.eqvAll, h d List.mem_cons_self, eqvAll_refl fun x hx => h x (List.mem_cons_of_mem _ hx)]
    rfl
theorem vals_eqv {ds : List PyData} (h : ds.all isValueD = true) : PyData.eqv (.list ds) (.list ds) = true := by
  rw [PyData.eqv]
  exact eqvAll_refl fun d hd => (val_ok (List.all_eq_true.mp h d hd)).2.2.1
/-- an expression that comes to a value -/
def EvW (te : TE) (σ : L2.St) (H : Hp) : Prop := ∀ H1, Ex H H1 → ∀ Q : VK, (∀ d v H2, isValueD d = true → Ex H1 H2 → Vt H2 v d → Q v H2) → te σ H1 Q
/-- a value is told, of which nothing else is known -/
def RetW (H : Hp) (Q : VK) : Prop := ∀ d v H2, isValueD d = true → Ex H H2 → Vt H2 v d → Q v H2
section
variable {K : PySem.W.Frag} {A : Cn → Addr} {H H' : Hp} {Q : VK} {E : XK} {vs : List V} {σ : L2.St} {ta te tx tb : TE} {t : TT} {D : Ends} {tz tu : TS}
theorem ew_d {d : PyData} (h : EvD te σ H d) (hd : isValueD d = true) : EvW te σ H := fun H1 e Q q => h H1 e _ fun v H2 e2 r => q d v H2 hd e2 (vt_of r hd)
theorem s_retW (h : EvW te σ H) (k : RetW H D.rt) : tRet te D σ H := h H (Ex.refl H) _ fun d v H1 hd e1 r => k d v H1 hd e1 r
theorem s_asgW {i : Nat} (h : EvW te σ H) (k : ∀ d v H1, isValueD d = true → Ex H H1 → Vt H1 v d → D.nx (σ.set i (some v)) H1) : tAsg te (gName i) D σ H := h H (Ex.refl H) _ fun d v H1 hd e1 r => k d v H1 hd e1 r
theorem q_asgW {i : Nat} (h : EvW te σ H) (k : ∀ d v H1, isValueD d = true → Ex H H1 → Vt H1 v d → tz D (σ.set i (some v)) H1) : tSeq (tAsg te (gName i)) tz D σ H := s_asgW (D := { D with nx := tz D }) h k
/-- a def of one number that tells a value -/
def spW : Sp := fun vs H Q _ => ∃ c : Int, vs = [.int c] ∧ RetW H Q
theorem ew_call {c : Int} {E : L2.St → XK} (h : Ev te σ H (.int c)) : EvW (tCallS spW E (tCons te tNil)) σ H := fun H1 e Q q => h H1 e _ fun H2 e2 => ⟨c, rfl, fun d v H3 hd e3 r => q d v H3 hd (e2.trans e3) r⟩
theorem ew_callB {c : Int} (h : Ev te σ H (.int c)) : EvW (tCall spW [] E0 (tCons te tNil)) σ H := fun H1 e Q q => h H1 e _ fun H2 e2 => ⟨c, rfl, fun d v H3 hd e3 r => q d v H3 hd (e2.trans e3) r⟩
/-- the values in the making -/
def CwW (H : Hp) (Dl : Addr) (i : Nat) (H' : Hp) : Prop := H Dl = none ∧ Ex H H' ∧ ∃ vs ds, H' Dl = some (.lst vs) ∧ VtAll H' vs ds ∧ ds.length = i ∧ ds.all isValueD = true
theorem VtAll.snoc {v : V} {d : PyData} : ∀ {vs : List V} {ds : List PyData}, VtAll H vs ds → Vt H v d → VtAll H (vs ++ [v]) (ds ++ [d])
  | _, _, .nil, h => .cons h .nil
  | _, _, .cons a r, h => .cons a (r.snoc h)
theorem cwW_turn {Dl : Addr} {i : Nat} {σ2 : L2.St} (p : CwW H Dl i H') (hi : i < 50000) (he : EvW te σ2 H) :
    te σ2 H' fun y H4 => ∃ acc, H4 Dl = some (.lst acc) ∧ acc.length < sizeLine ∧ CwW H Dl (i + 1) (upd H4 Dl (.lst (acc ++ [y]))) := by
  obtain ⟨p1, p2, vs, ds, p3, p4, p5, p6⟩ := p
  refine he H' p2 _ fun d v H4 hd e4 r => ⟨vs, e4 Dl _ p3, sz_lt (by rw [p4.length]; omega), p1, Ex.mut (p2.trans e4) p1, vs ++ [v], ds ++ [d], upd_same, ((p4.tup (.of_ex e4)).snoc r).tup (.upd (e4 _ _ p3)), by rw [List.length_append, p5]; rfl, ?_⟩
  rw [List.all_append, p6]
  show (d :: []).all isValueD = true
  rw [List.all_cons, hd]
  rfl
/-- [value(..) for k in range(n)] -/
theorem el_lcW {tas : TA} {j : Nat} {n : Int} {ls : List Nat} (h : EvA tas σ H [.int n]) (hn : 0 ≤ n ∧ n ≤ 40000) (hw : ∀ x, wipe ((wipe σ ls).set j (some x)) ls = wipe σ ls)
    (he : ∀ (i : Nat) H1, Ex H H1 → (i : Int) < n → EvW te ((wipe σ ls).set j (some (.int (i : Int)))) H1) (k : ∀ p vs ds H1, H p = none → Ex H H1 → H1 p = some (.lst vs) → VtAll H1 vs ds → ds.length = n.toNat → ds.all isValueD = true → Q (.ref p) H1) : tLc (iRng1 tas) (gName j) tYes te ls σ H Q :=
  h H (Ex.refl H) _ fun H1 e1 => ⟨n, rfl, by omega, by omega, fun Dl hD =>
  lc_range (lo := 0) (n := n.toNat) (CwW H1 Dl) ⟨hD, Ex.new hD, [], [], upd_same, .nil, rfl, rfl⟩ (fun i H' hi p => by
    have e0 : (0 : Int) + (i : Int) = (i : Int) := Int.zero_add _
    show wipe ((wipe σ ls).set j (some (.int ((0 : Int) + (i : Int))))) ls = wipe σ ls ∧ te ((wipe σ ls).set j (some (.int ((0 : Int) + (i : Int))))) H' fun y H4 => ∃ acc, H4 Dl = some (.lst acc) ∧ acc.length < sizeLine ∧ CwW H1 Dl (i + 1) (upd H4 Dl (.lst (acc ++ [y])))
    rw [e0]
    exact ⟨hw _, cwW_turn p (by omega) (he i H1 e1 (by omega))⟩) (fun H' p => by
      obtain ⟨p1, p2, vs, ds, p3, p4, p5, p6⟩ := p
      exact k Dl vs ds H' (fresh_back e1 p1) (e1.trans p2) p3 p4 p5 p6)⟩
/-- for k in a dict -/
theorem s_forK {d : Addr} {kvs : List (Key × V)} {td : TE} {j : Nat} (hd : H d = some (.dK kvs)) (h : ∀ od, Ev td σ (upd H d (.frz od (.dK kvs))) (.ref d)) (Pv : Obj → Nat → L2.St → Hp → Prop) (h0 : ∀ od H1, Ex (upd H d (.frz od (.dK kvs))) H1 → Pv od 0 σ H1)
    (hl : ∀ od i σ' H', Pv od i σ' H' → H' d = some (.frz od (.dK kvs)))
    (hs : ∀ od i kk v σ' H', kvs[i]? = some (kk, v) → Pv od i σ' H' → tu { nx := Pv od (i + 1), ct := Pv od (i + 1), bk := fun σ' H' => H' d = some (.frz od (.dK kvs)) ∧ D.nx σ' (upd H' d (.dK kvs)), rt := fun v H' => H' d = some (.frz od (.dK kvs)) ∧ D.rt v (upd H' d (.dK kvs)) } (σ'.set j (some (kV kk))) H')
    (hf : ∀ od σ' H', Pv od kvs.length σ' H' → D.nx σ' (upd H' d (.dK kvs))) : tLock (tFor (iKeys td) (gName j) tu) D σ H := by
  refine ⟨d, .dK kvs, hd, trivial, fun od => ?_⟩
  refine h od _ (Ex.refl _) _ fun H1 e1 => ⟨d, od, rfl, .inl ⟨kvs, e1 _ _ upd_same, ?_⟩⟩
  refine ⟨fun i m σ' H' => m = kvs.length - i ∧ i ≤ kvs.length ∧ Pv od i σ' H', ⟨kvs.length, by simp, Nat.zero_le _, h0 od H1 e1⟩, ?_⟩
  rintro i m σ' H' ⟨rfl, hi, p⟩
  by_cases hlt : i < kvs.length
  · refine .inr ⟨⟨hl od i σ' H' p, hlt⟩, fun σ2 H2 => Pv od (i + 1) σ2 H2, fun σ2 H2 p2 => ⟨kvs.length - (i + 1), by omega, rfl, hlt, p2⟩, ?_⟩
    rintro x2 H2 ⟨rfl, kk, v, hk, rfl⟩
    exact hs od i kk v σ' _ hk p
  · have e0 : i = kvs.length := by omega
    subst e0
    exact .inl ⟨⟨hl od _ σ' H' p, Nat.le_refl _⟩, hl od _ σ' H' p, hf od σ' H' p⟩
theorem q_forK {d : Addr} {kvs : List (Key × V)} {td : TE} {j : Nat} (hd : H d = some (.dK kvs)) (h : ∀ od, Ev td σ (upd H d (.frz od (.dK kvs))) (.ref d)) (Pv : Obj → Nat → L2.St → Hp → Prop) (h0 : ∀ od H1, Ex (upd H d (.frz od (.dK kvs))) H1 → Pv od 0 σ H1)
    (hl : ∀ od i σ' H', Pv od i σ' H' → H' d = some (.frz od (.dK kvs)))
    (hs : ∀ od i kk v σ' H', kvs[i]? = some (kk, v) → Pv od i σ' H' → tu { nx := Pv od (i + 1), ct := Pv od (i + 1), bk := fun σ' H' => H' d = some (.frz od (.dK kvs)) ∧ tz D σ' (upd H' d (.dK kvs)), rt := fun v H' => H' d = some (.frz od (.dK kvs)) ∧ D.rt v (upd H' d (.dK kvs)) } (σ'.set j (some (kV kk))) H')
    (hf : ∀ od σ' H', Pv od kvs.length σ' H' → tz D σ' (upd H' d (.dK kvs))) : tSeq (tLock (tFor (iKeys td) (gName j) tu)) tz D σ H := s_forK (D := { D with nx := tz D }) hd h Pv h0 hl hs hf
/-! a law's own dict of lists of values -/
structure DictOf (H : Hp) (h : Addr) (es : List Ent) : Prop where
  nd : (h :: es.map (·.l)).Nodup
  nn : (es.map (·.n)).Nodup
  held : H h = some (.dK (es.map kvE))
  cell : ∀ e ∈ es, ColAt H e
theorem DictOf.keep {h : Addr} {es : List Ent} (T : DictOf H h es) (e : Tup H H') (k : ∀ l ∈ h :: es.map (·.l), ∀ o, H l = some o → H' l = some o) : DictOf H' h es :=
  ⟨T.nd, T.nn, k _ (by simp) _ T.held, fun en hen => by
    obtain ⟨vs, h1, h2⟩ := T.cell en hen
    exact ⟨vs, k en.l (by simp only [List.mem_cons]; exact .inr (List.mem_map_of_mem hen)) _ h1, h2.tup e⟩⟩
theorem DictOf.ex {h : Addr} {es : List Ent} (T : DictOf H h es) (e : Ex H H') : DictOf H' h es := T.keep (.of_ex e) fun l _ o => e l o
theorem DictOf.there {h : Addr} {es : List Ent} (T : DictOf H h es) : ∀ l ∈ h :: es.map (·.l), ∃ o, H l = some o := by
  intro l hl
  rcases List.mem_cons.mp hl with rfl | hl
  · exact ⟨_, T.held⟩
  · obtain ⟨e, he, rfl⟩ := List.mem_map.mp hl
    obtain ⟨vs, h1, -⟩ := T.cell e he
    exact ⟨_, h1⟩
theorem DictOf.off {h : Addr} {es : List Ent} (T : DictOf H h es) {p : Addr} (hp : H p = none) : p ∉ h :: es.map (·.l) := fun q => by
  obtain ⟨o, e⟩ := T.there p q
  rw [hp] at e
  cases e
theorem DictOf.ne {h : Addr} {es : List Ent} (T : DictOf H h es) {e : Ent} (he : e ∈ es) : e.l ≠ h := by
  have nd := T.nd
  rw [List.nodup_cons] at nd
  exact fun q => nd.1 (q ▸ List.mem_map_of_mem he)
/-- d.pop(z) -/
theorem DictOf.drop {h : Addr} {es : List Ent} (T : DictOf H h es) (z : Str) : DictOf (upd H h (.dK (dropK (es.map kvE) (.inr z)))) h (es.filter fun e => decide (e.n ≠ z)) := by
  have sub : (es.filter fun e => decide (e.n ≠ z)).Sublist es := List.filter_sublist
  refine ⟨nodup_sub (.cons₂ _ (sub.map _)) T.nd, List.Pairwise.sublist (sub.map _) T.nn, by rw [upd_same, dropK_es], fun e he => (T.cell e (sub.subset he)).keep (fun bb ys q => ?_) (upd_ne (T.ne (sub.subset he)))⟩
  rw [upd_ne (fun w => by rw [w, T.held] at q; cases q)]
  exact q
/-- d[z] = p -/
theorem DictOf.put {h p : Addr} {es : List Ent} {xs : List V} {ds : List PyData} (T : DictOf H h es) (z : Str) (hp : p ∉ h :: es.map (·.l)) (hx : H p = some (.lst xs)) (hv : VtAll H xs ds) : DictOf (upd H h (.dK (putK (es.map kvE) (.inr z) (.ref p)))) h (putE es z p ds) := by
  have tup : Tup H (upd H h (.dK (putK (es.map kvE) (.inr z) (.ref p)))) := fun bb ys q => by
    rw [upd_ne (fun w => by rw [w, T.held] at q; cases q)]
    exact q
  have nd := T.nd
  rw [List.mem_cons, not_or] at hp
  rw [List.nodup_cons] at nd
  refine ⟨?_, putE_n T.nn, by rw [upd_same, putE_kv], fun e he => ?_⟩
  · rw [List.nodup_cons]
    refine ⟨fun q => ?_, putE_l T.nn nd.2 fun e he q => hp.2 (q ▸ List.mem_map_of_mem he)⟩
    obtain ⟨e, he, q⟩ := List.mem_map.mp q
    rcases putE_mem he with he | rfl
    · exact T.ne he q
    · exact hp.1 q
  · rcases putE_mem he with he | rfl
    · exact (T.cell e he).keep tup (upd_ne (T.ne he))
    · exact ⟨xs, by rw [upd_ne hp.1]; exact hx, hv.tup tup⟩
theorem DictOf.find {h : Addr} {es : List Ent} (T : DictOf H h es) {e : Ent} (he : e ∈ es) : valV (es.map kvE) (.inr e.n) = some (.ref e.l) := by
  have q : (es.any fun x => decide (x.n = e.n)) = true := List.any_eq_true.mpr ⟨e, he, decide_eq_true rfl⟩
  obtain ⟨e', h', hn, hf⟩ := find_es q
  have : e' = e := by
    have nl := T.nn
    clear q hf T
    induction es with
    | nil => cases he
    | cons a s ih =>
      rw [List.map_cons, List.nodup_cons] at nl
      rcases List.mem_cons.mp h' with h1 | h1 <;> rcases List.mem_cons.mp he with h2 | h2
      · rw [h1, h2]
      · exact absurd (List.mem_map_of_mem (f := (·.n)) h2) (by show e.n ∉ _; rw [← hn, h1]; exact nl.1)
      · exact absurd (List.mem_map_of_mem (f := (·.n)) h1) (by show e'.n ∉ _; rw [hn, h2]; exact nl.1)
      · exact ih h2 h1 nl.2
  rw [valV_es, hf, this]
  rfl
/-! calls of the table's methods -/
variable {F : List Addr} {t0 : Addr} {b : Tb} {Ex0 : L2.St → XK}
theorem ed_at {d1 d2 d : PyData} (T : TabAt A F H t0 b) (ho : Ev ta σ H (.ref t0)) (h1 : EvD te σ H d1) (h2 : EvD tx σ H d2) (q : atB b d1 d2 = .ok d) : EvD (tMetS (A .Table) "at" (sp_Table_at K A) Ex0 ta (tCons te (tCons tx tNil))) σ H d := fun H1 e Q k => by
  obtain ⟨dx, fs, hi, hf⟩ := T.ins
  refine ho H1 e _ fun H2 e2 => ⟨t0, dx, fs, rfl, (e.trans e2) _ _ hi, look_none hf (by decide), h1 H2 (e.trans e2) _ fun v H3 e3 r3 => h2 H3 ((e.trans e2).trans e3) _ fun w H4 e4 r4 => ?_⟩
  refine ⟨F, t0, b, v, d1, w, d2, rfl, T.ex' (((e.trans e2).trans e3).trans e4), r3.ex e4, r4, fun c hc => (by rw [q] at hc; cases hc), fun d' hd v' H5 e5 r5 => ?_⟩
  rw [q] at hd
  cases hd
  exact k v' H5 (((e2.trans e3).trans e4).trans e5) r5.dt
/-- a change by a method of the table, all arguments data -/
theorem q_tabAsg {m : Str} {sp : Sp} {tas : TA} {i : Nat} {ds : List PyData} (T : TabAt A F H t0 b) (hm : m ∉ tabF) (ho : Ev ta σ H (.ref t0)) (h : EvDs tas σ H ds) (k : ∀ vs H1, Ex H H1 → DtAll H1 vs ds → TabAt A F H1 t0 b → sp (.ref t0 :: vs) H1 (fun v H2 => tz D (σ.set i (some v)) H2) (Ex0 σ)) :
    tSeq (tAsg (tMetS (A .Table) m sp Ex0 ta tas) (gName i)) tz D σ H := by
  obtain ⟨dx, fs, hi, hf⟩ := T.ins
  exact ho H (Ex.refl H) _ fun H2 e2 => ⟨t0, dx, fs, rfl, e2 _ _ hi, look_none hf hm, h H2 e2 _ fun vs H3 e3 r3 => k vs H3 (e2.trans e3) r3 (T.ex' (e2.trans e3))⟩
theorem q_tabDrop {m : Str} {sp : Sp} {tas : TA} {ds : List PyData} (T : TabAt A F H t0 b) (hm : m ∉ tabF) (ho : Ev ta σ H (.ref t0)) (h : EvDs tas σ H ds) (k : ∀ vs H1, Ex H H1 → DtAll H1 vs ds → TabAt A F H1 t0 b → sp (.ref t0 :: vs) H1 (fun _ H2 => tz D σ H2) (Ex0 σ)) :
    tSeq (tDrop (tMetS (A .Table) m sp Ex0 ta tas)) tz D σ H := by
  obtain ⟨dx, fs, hi, hf⟩ := T.ins
  exact ho H (Ex.refl H) _ fun H2 e2 => ⟨t0, dx, fs, rfl, e2 _ _ hi, look_none hf hm, h H2 e2 _ fun vs H3 e3 r3 => k vs H3 (e2.trans e3) r3 (T.ex' (e2.trans e3))⟩
theorem DtAll.one {vs : List V} {d : PyData} (h : DtAll H vs [d]) : ∃ v, vs = [v] ∧ Dt H v d := by
  cases h with
  | cons a r => cases r; exact ⟨_, rfl, a⟩
theorem DtAll.two {vs : List V} {d e : PyData} (h : DtAll H vs [d, e]) : ∃ v w, vs = [v, w] ∧ Dt H v d ∧ Dt H w e := by
  cases h with
  | cons a r => obtain ⟨w, rfl, q⟩ := r.one; exact ⟨_, w, rfl, a, q⟩
theorem DtAll.three {vs : List V} {d e f : PyData} (h : DtAll H vs [d, e, f]) : ∃ v w x, vs = [v, w, x] ∧ Dt H v d ∧ Dt H w e ∧ Dt H x f := by
  cases h with
  | cons a r => obtain ⟨w, x, rfl, q, q2⟩ := r.two; exact ⟨_, w, x, rfl, a, q, q2⟩
/-- d[k] = v -/
theorem s_setK {p : Addr} {kvs : List (Key × V)} {k : Key} {v : V} (h : H p = some (.dK kvs)) (hv : Ev te σ H v) (ho : Ev ta σ H (.ref p)) (hk : Ev tb σ H (kV k)) (hl : kvs.length < 100000) (kk : ∀ H1, Ex H H1 → D.nx σ (upd H1 p (.dK (putK kvs k v)))) : tAsg te (gSub ta tb rSetA) D σ H :=
  hv H (Ex.refl H) _ fun H1 e1 => ho H1 e1 _ fun H2 e2 => hk H2 (e1.trans e2) _ fun H3 e3 => .inr ⟨p, _, rfl, DPut.k (((e1.trans e2).trans e3) _ _ h) (sz_lt hl), kk H3 ((e1.trans e2).trans e3)⟩
theorem nodup_len {α : Type} [DecidableEq α] : ∀ {l m : List α}, l.Nodup → (∀ x ∈ l, x ∈ m) → l.length ≤ m.length
  | [], _, _, _ => Nat.zero_le _
  | a :: l, m, hn, hs => by
    rw [List.nodup_cons] at hn
    have ha := hs a List.mem_cons_self
    have := nodup_len (l := l) (m := m.erase a) hn.2 fun x hx => by
      have hne : x ≠ a := fun q => hn.1 (q ▸ hx)
      exact (List.mem_erase_of_ne hne).mpr (hs x (List.mem_cons_of_mem _ hx))
    rw [List.length_erase_of_mem ha] at this
    have : 0 < m.length := List.length_pos_of_mem ha
    rw [List.length_cons]
    omega
theorem cols_find {es es2 : List Ent} {e : Ent} (q : es2.map cE = es.map cE) (he : e ∈ es) : ∃ e2 ∈ es2, e2.n = e.n ∧ e2.ds = e.ds := by
  have : cE e ∈ es2.map cE := by rw [q]; exact List.mem_map_of_mem he
  obtain ⟨e2, h2, w⟩ := List.mem_map.mp this
  exact ⟨e2, h2, congrArg Prod.fst w, congrArg Prod.snd w⟩
theorem TabAt.wide {e : Ent} {es : List Ent} (T : TabAt A F H t0 b) (q : b.cols = es.map cE) (he : e ∈ es) : e.ds.length = b.rows.length := by
  obtain ⟨dx, r, hh, es2, rfl, O⟩ := T.ex
  obtain ⟨e2, h2, -, w⟩ := cols_find (O.cols.symm.trans q) he
  rw [← w]
  exact O.wide e2 h2
theorem nn_of {es : List Ent} (q : b.cols = es.map cE) (T : TabAt A F H t0 b) : (es.map (·.n)).Nodup := by
  obtain ⟨dx, r, hh, es2, rfl, O⟩ := T.ex
  have : es.map (·.n) = es2.map (·.n) := by
    have := congrArg (List.map Prod.fst) (O.cols.symm.trans q)
    rw [List.map_map, List.map_map] at this
    exact this.symm
  rw [this]
  exact O.nn
theorem getA_mem {es : List Ent} {e : Ent} (nn : (es.map (·.n)).Nodup) (he : e ∈ es) : getA (es.map cE) e.n = some e.ds ∧ ((es.map cE).any fun c => decide (c.1 = e.n)) = true := by
  have q : (es.any fun x => decide (x.n = e.n)) = true := List.any_eq_true.mpr ⟨e, he, decide_eq_true rfl⟩
  refine ⟨?_, by rw [any_es]; exact q⟩
  obtain ⟨e', h', hn, hf⟩ := find_es q
  have : e' = e := by
    clear q hf
    induction es with
    | nil => cases he
    | cons a s ih =>
      rw [List.map_cons, List.nodup_cons] at nn
      rcases List.mem_cons.mp h' with h1 | h1 <;> rcases List.mem_cons.mp he with h2 | h2
      · rw [h1, h2]
      · exact absurd (List.mem_map_of_mem (f := (·.n)) h2) (by show e.n ∉ _; rw [← hn, h1]; exact nn.1)
      · exact absurd (List.mem_map_of_mem (f := (·.n)) h1) (by show e'.n ∉ _; rw [hn, h2]; exact nn.1)
      · exact ih nn.2 h2 h1
  rw [getA_es, hf, this]
  rfl
theorem at_ok {es : List Ent} {e : Ent} {i : Nat} (T : TabAt A F H t0 b) (q : b.cols = es.map cE) (he : e ∈ es) (hi : i < b.rows.length) : atB b (.str e.n) (.int i) = .ok (e.ds.getD i .none) := by
  have g := getA_mem (nn_of q T) he
  have h : hasC b (.str e.n) = true := by
    show (b.cols.any fun c => decide (c.1 = e.n)) = true
    rw [q]
    exact g.2
  unfold atB
  rw [if_pos h, if_pos (show isBelow b.rows.length (.int i) = true from decide_eq_true (by omega))]
  show Except.ok (((getA b.cols e.n).getD []).getD i .none) = _
  rw [q, g.1]
  rfl
end
end Z

set_option Elab.async false
set_option linter.all false
set_option autoImplicit false
set_option maxRecDepth 100000
set_option maxHeartbeats 4000000
/-! ev: what an expression comes to, by its form -/
local macro_rules | `(tactic| k_places) => `(tactic| (repeat' (first
  | (with_reducible exact ev_c)
  | (with_reducible exact ev_var rfl)
  | (with_reducible refine ev_chainLL ?_ ?_ ?_)
  | (with_reducible refine ev_chainLt ?_ ?_ ?_)
  | (with_reducible refine ev_op ?_ ?_ ?_)
  | (with_reducible refine ev_neg ?_)
  | (with_reducible refine et_test ?_)
  | (with_reducible refine et_B ?_)
  | (with_reducible refine et_not ?_)
  | (with_reducible refine et_and ?_ (fun _ => ?_))
  | (with_reducible refine et_or ?_ (fun _ => ?_))
  | (with_reducible refine ev_andV ?_ (fun _ => ?_))
  | (with_reducible refine ev_orV ?_ (fun _ => ?_))
  | (with_reducible refine ev_notV ?_)
  | (with_reducible exact rv_addI)
  | (with_reducible exact rv_subI)
  | (with_reducible exact rv_lt)
  | (with_reducible exact rv_le)
  | (with_reducible exact rv_gt)
  | (with_reducible exact rv_ge)
  | (with_reducible exact rv_isB)
  | (with_reducible exact rv_isnB)
  | (with_reducible exact rv_isN)
  | (with_reducible exact rv_isnN)
  | (with_reducible exact rv_eqS rfl)
  | (with_reducible exact rv_neS rfl)
  | (with_reducible exact rv_inStr)
  | (with_reducible exact rv_ninStr)
  | (with_reducible exact rv_mod (by first | decide | omega | assumption))
  | (with_reducible exact rv_div (by first | decide | omega | assumption))
  | (with_reducible exact rv_pow (by decide))
  | (with_reducible refine ed_i ?_; done)
  | (with_reducible exact ea_nil)
  | (with_reducible refine ea_cons ?_ ?_)
  | (with_reducible exact eds_nil)
  | (with_reducible refine eds_cons ?_ ?_)
  | (with_reducible exact ed_dnew)
  | (with_reducible refine ed_lst ?_ (by simp only [List.length_cons, List.length_nil]; omega))
  | (with_reducible refine ed_tup ?_ (by simp only [List.length_cons, List.length_nil]; omega)))))
namespace Z
open PySem PySem.Spec PyProof.Rows L2 Evl
/-! ### pieces of texts; drawn names -/
theorem cut_to (l : List Nat) (j : Nat) : cutS (SX.S l) none (some (j : Int)) = SX.S (l.take j) := by
  have e : (SX.S l).length = l.length := SX.S_len l
  unfold cutS
  rw [HT.sIx_nat, e, show HT.sIx l.length 0 none = 0 from rfl, List.drop_zero, Nat.sub_zero]
  show SX.S (l.take (min j l.length)) = SX.S (l.take j)
  congr 1
  by_cases h : j ≤ l.length
  · rw [Nat.min_eq_left h]
  · rw [Nat.min_eq_right (by omega), List.take_of_length_le (Nat.le_refl _), List.take_of_length_le (by omega)]
theorem cut_mid (l : List Nat) (i j : Nat) (h : i ≤ l.length) : cutS (SX.S l) (some (i : Int)) (some (j : Int)) = SX.S ((l.drop i).take (j - i)) := by
  have e : (SX.S l).length = l.length := SX.S_len l
  unfold cutS
  rw [HT.sIx_nat, HT.sIx_nat, e, Nat.min_eq_left h]
  show SX.S ((l.drop i).take (min j l.length - i)) = SX.S ((l.drop i).take (j - i))
  congr 1
  by_cases hj : j ≤ l.length
  · rw [Nat.min_eq_left hj]
  · rw [Nat.min_eq_right (by omega), List.take_of_length_le (by rw [List.length_drop]; omega), List.take_of_length_le (by rw [List.length_drop]; omega)]
theorem name_rep {c : Nat} {n : Int} (hc : c ∈ lets) (h : 1 ≤ n ∧ n ≤ 8) : isName (repS ⟨#[c]⟩ n) = true := by
  unfold repS
  refine name_of ?_ ?_ fun x hx => ?_
  · rw [List.length_flatten, List.map_replicate]
    show 1 ≤ (List.replicate n.toNat 1).sum
    rw [List.sum_replicate_nat]
    omega
  · rw [List.length_flatten, List.map_replicate]
    show (List.replicate n.toNat 1).sum ≤ 8
    rw [List.sum_replicate_nat]
    omega
  · obtain ⟨l, h1, h2⟩ := List.mem_flatten.mp hx
    rw [List.eq_of_mem_replicate h1] at h2
    have : x = c := by simpa using h2
    rw [this]
    exact hc
section
variable {K : PySem.W.Frag} {H H' : Hp} {Q : VK} {E : XK} {vs : List V} {σ : L2.St} {ta te tx tb : TE} {D : Ends} {tz tu : TS}
theorem ev_joinL {l : List Nat} (hb : EvL tb σ H (l.map fun c => V.str ⟨#[c]⟩)) (hl : l.length ≤ 1000000) : Ev (tJoin K (tC (.str "")) tb) σ H (.str (SX.S l)) := fun H1 e Q q => by
  refine ⟨⟨SX.S [], rfl⟩, hb H1 e _ fun p H2 _ e2 hs => ⟨SX.S [], p, l.map fun c => SX.S [c], rfl, rfl, .inl (SqL.of (by rw [map_str_S]; exact hs)), ?_, ?_⟩⟩
  · rw [sum_ones, List.length_map]
    show l.length + l.length * 0 ≤ 16777216
    omega
  · rw [join_signs]
    exact q H2 e2
/-- [text(..) for k in range(n)] -/
theorem el_lcStr {tas : TA} {j : Nat} {n : Int} {ls : List Nat} (f : Nat → Str) (h : EvA tas σ H [.int n]) (hn : 0 ≤ n ∧ n ≤ 40000) (hw : ∀ x, wipe ((wipe σ ls).set j (some x)) ls = wipe σ ls)
    (he : ∀ (i : Nat) H1, Ex H H1 → (i : Int) < n → Ev te ((wipe σ ls).set j (some (.int (i : Int)))) H1 (.str (f i))) : EvL (tLc (iRng1 tas) (gName j) tYes te ls) σ H (((List.range n.toNat).map f).map V.str) := by
  have := el_lcR1 (t := tYes) (te := te) (fun _ => true) (fun i => V.str (f i)) h hn hw (fun i H1 _ _ => fun H2 _ Q q => q H2 (Ex.refl H2)) (fun i H1 e1 hi _ => he i H1 e1 hi)
  unfold given at this
  rw [List.filter_eq_self.mpr (fun _ _ => rfl)] at this
  rw [List.map_map]
  exact this
/-- _law_names: five names -/
def sp_law_names (K : PySem.W.Frag) : Sp := fun vs H Q _ => ∃ (l : Addr) (ns : List Int), vs = [.ref l] ∧ SqL K H l (ns.map V.int) ∧ ∀ zs : List Str, zs.length = 5 → (∀ z ∈ zs, isName z = true) → RetL (zs.map V.str) H Q
def t_law_names (K : PySem.W.Frag) (E : XK) : TS :=
  tSeq (tAsg (tOp rModA (tCallS (sp_law_cell K) (WE (fun cls d _ H => E cls d H)) (tCons (tVar 0) (tCons (tC (.int 1)) tNil))) (tC (.int 1000003))) (gName 1))
    (tSeq (tAsg (tC (.str "abcdefghijklmnopqrstuvwxyz")) (gName 2))
    (tSeq (tAsg (tJoin K (tC (.str "")) (tLc (iRng1 (tCons (tC (.int 5)) tNil)) (gName 3) tYes (tOp (rIxA K) (tVar 2) (tOp rModA (tOp rDivA (tVar 1) (tOp (rAddA K) (tVar 3) (tC (.int 2)))) (tC (.int 26)))) [3])) (gName 4))
    (tSeq (tIfS (tTest (tOp (rEqA K) (tOp rModA (tVar 1) (tC (.int 3))) (tC (.int 0)))) (tRet (tLc (iRng1 (tCons (tC (.int 5)) tNil)) (gName 3) tYes (tSl (rSlA K) (tVar 4) tNoPart (tPart (tOp (rAddA K) (tVar 3) (tC (.int 1))))) [3])) tNext)
    (tSeq (tAsg (tOp rModA (tOp rDivA (tVar 1) (tC (.int 3))) (tC (.int 8))) (gName 5))
    (tSeq (tAsg (tOp rModA (tOp rDivA (tVar 1) (tC (.int 24))) (tOp (rAddA K) (tVar 5) (tC (.int 1)))) (gName 6))
    (tSeq (tAsg (tOp (rAddA K) (tVar 4) (tVar 4)) (gName 4))
    (tSeq (tAsg (tLst tNil) (gName 7))
    (tSeq (tFor (iRng1 (tCons (tC (.int 5)) tNil)) (gName 3) (tSeq (tAsg (tOp (rIxA K) (tVar 2) (tOp rModA (tOp (rAddA K) (tOp rDivA (tVar 1) (tC (.int 216))) (tOp (rMulA K) (tC (.int 5)) (tVar 3))) (tC (.int 26)))) (gName 8))
    (tDrop (tBM K "list" rAppend (tVar 7) (tCons (tOp (rAddA K) (tOp (rAddA K) (tSl (rSlA K) (tVar 4) tNoPart (tPart (tVar 6))) (tVar 8)) (tSl (rSlA K) (tVar 4) (tPart (tVar 6)) (tPart (tVar 5)))) tNil)))))
    (tRet (tVar 7))))))))))
theorem len_law_names (vs : List V) (H : Hp) (Q : VK) (E : XK) (h : sp_law_names K vs H Q E) : vs.length = 1 := by obtain ⟨_, _, rfl, _⟩ := h; rfl
theorem let_mem (x : Int) : lets.getD (x % 26).toNat 0 ∈ lets := getD_mem (emod_lt_len x (by decide +kernel) (by decide))
theorem r_law_names (vs : List V) (H : Hp) (Q : VK) (E : XK) (h : sp_law_names K vs H Q E) : t_law_names K E { nx := fun _ H' => Q .non H', rt := Q } (L2.start ["script", "cell", "letters", "k", "stem", "size", "at", "names", "sign"] vs) H := by
  obtain ⟨l, ns, rfl, hl, k⟩ := h
  unfold t_law_names
  refine q_asg (ev_op (ev_cell (j := 1) (ev_var rfl) ev_c hl (by decide)) ev_c (rv_mod (by decide))) fun H1 e1 => ?_
  have bc := emod_bd (cellV ns 1) (n := 1000003) (by decide)
  generalize cellV ns 1 % 1000003 = c at bc
  refine q_asg ev_c fun H2 e2 => ?_
  refine q_asg (v := .str (SX.S ((List.range 5).map fun (k : Nat) => lets.getD (c / ((k : Int) + 2) % 26).toNat 0))) (ev_joinL ?_ (by simp)) fun H3 e3 => ?_
  · have := el_lcStr (σ := [some (.ref l), some (.int c), some (.str "abcdefghijklmnopqrstuvwxyz"), none, none, none, none, none, none]) (H := H2) (te := tOp (rIxA K) (tVar 2) (tOp rModA (tOp rDivA (tVar 1) (tOp (rAddA K) (tVar 3) (tC (.int 2)))) (tC (.int 26)))) (tas := tCons (tC (.int 5)) tNil) (j := 3) (n := 5) (ls := [3]) (fun k => ⟨#[lets.getD (c / ((k : Int) + 2) % 26).toNat 0]⟩) (ea_cons ev_c ea_nil) (by decide) (fun _ => rfl) (fun i H1 e1 hi => ev_sign (ev_var rfl) (ev_op (ev_op (ev_var rfl) (ev_op (ev_var rfl) ev_c rv_addI) (rv_div (by omega))) ev_c (rv_mod (by decide))) (by decide +kernel) (by decide) (by decide +kernel))
    rw [List.map_map] at this
    rw [List.map_map]
    exact this
  generalize hcs : (List.range 5).map (fun (k : Nat) => lets.getD (c / ((k : Int) + 2) % 26).toNat 0) = cs
  have lc : cs.length = 5 := by rw [← hcs, List.length_map, List.length_range]
  have hm : ∀ x ∈ cs, x ∈ lets := fun x hx => by
    rw [← hcs] at hx
    obtain ⟨i, -, rfl⟩ := List.mem_map.mp hx
    exact let_mem _
  have sl : (SX.S cs).length ≤ 100000 := by rw [SX.S_len]; omega
  have E3 := (e1.trans e2).trans e3
  refine q_when (et_test (ev_op (ev_op (ev_var rfl) ev_c (rv_mod (by decide))) ev_c (rv_eqS rfl))) (fun _ H4 e4 => ?_) (fun _ H4 e4 => ?_)
  · refine s_retL (el_lcStr (fun k => SX.S (cs.take (k + 1))) (ea_cons ev_c ea_nil) (by decide) (fun _ => rfl) fun i H5 e5 hi => ?_) fun p H5 hp e5 h5 => ?_
    · exact ev_is (ev_slS (ev_var rfl) eo_none (eo_some (ev_op (ev_var rfl) ev_c rv_addI)) sl) (by rw [show (i : Int) + 1 = ((i + 1 : Nat) : Int) from rfl, cut_to])
    · refine k ((List.range 5).map fun k => SX.S (cs.take (k + 1))) (by simp) (fun z hz => ?_) p H5 (fresh_back (E3.trans e4) hp) ((E3.trans e4).trans e5) h5
      obtain ⟨i, hi, rfl⟩ := List.mem_map.mp hz
      have hi := List.mem_range.mp hi
      exact name_of (by rw [List.length_take]; omega) (by rw [List.length_take]; omega) fun x hx => hm x (List.mem_of_mem_take hx)
  · refine q_asg (ev_op (ev_op (ev_var rfl) ev_c (rv_div (by decide))) ev_c (rv_mod (by decide))) fun H5 e5 => ?_
    have b1 := emod_bd (c / 3) (n := 8) (by decide)
    obtain ⟨sz, hsz⟩ : ∃ sz : Nat, c / 3 % 8 = sz := ⟨(c / 3 % 8).toNat, by omega⟩
    rw [hsz] at b1 ⊢
    refine q_asg (ev_op (ev_op (ev_var rfl) ev_c (rv_div (by decide))) (ev_op (ev_var rfl) ev_c rv_addI) (rv_mod (by omega))) fun H6 e6 => ?_
    have b2 := emod_bd (c / 24) (n := (sz : Int) + 1) (by omega)
    obtain ⟨at_, hat⟩ : ∃ a : Nat, c / 24 % ((sz : Int) + 1) = a := ⟨(c / 24 % ((sz : Int) + 1)).toNat, by omega⟩
    rw [hat] at b2 ⊢
    refine q_asg (v := .str (SX.S (cs ++ cs))) (ev_is (ev_op (ev_var rfl) (ev_var rfl) (rv_addS (by rw [SX.S_len]; omega))) (by rw [SX.S_cat])) fun H7 e7 => ?_
    have sl2 : (SX.S (cs ++ cs)).length ≤ 100000 := by rw [SX.S_len, List.length_append]; omega
    refine q_asgL (xs := []) (el_lst ea_nil (by decide)) fun p H8 np e8 hp => ?_
    have np : H p = none := fresh_back (((((E3.trans e4).trans e5).trans e6).trans e7)) np
    have E8 := ((((E3.trans e4).trans e5).trans e6).trans e7).trans e8
    refine q_forR1 (n := 5) (ea_cons ev_c ea_nil) (by decide)
      (fun i σ H9 => ∃ (kv sg : Option V) (zs : List Str), σ = [some (.ref l), some (.int c), some (.str "abcdefghijklmnopqrstuvwxyz"), kv, some (.str (SX.S (cs ++ cs))), some (.int sz), some (.int at_), some (.ref p), sg] ∧ Ex H H9 ∧ H9 p = some (.lst (zs.map V.str)) ∧ zs.length = i ∧ ∀ z ∈ zs, isName z = true)
      (fun H9 e9 => ⟨_, _, [], rfl, E8.trans e9, e9 p _ hp, rfl, fun _ h => nomatch h⟩) ?_ ?_
    · rintro i σ H9 hi ⟨kv, sg, zs, rfl, e9, hp9, hz, hn⟩
      refine q_asg (ev_sign (ev_var rfl) (ev_op (ev_op (ev_op (ev_var rfl) ev_c (rv_div (by decide))) (ev_op ev_c (ev_var rfl) (rv_mulI (wide_mul (a := 20) (b := 20) (by omega) (by omega) (by decide) (by decide) (by decide)))) rv_addI) ev_c (rv_mod (by decide))) (by decide +kernel) (by decide) (by decide +kernel)) fun H10 e10 => ?_
      have hx := let_mem (c / 216 + 5 * (i : Int))
      have hw : ("abcdefghijklmnopqrstuvwxyz" : Str).cps.toList = lets := rfl
      rw [hw]
      generalize lets.getD ((c / 216 + 5 * (i : Int)) % 26).toNat 0 = x at hx
      have key : SX.S ((cs ++ cs).take at_) ++ ⟨#[x]⟩ ++ SX.S (((cs ++ cs).drop at_).take (sz - at_)) = SX.S ((cs ++ cs).take at_ ++ [x] ++ ((cs ++ cs).drop at_).take (sz - at_)) := by
        rw [← SX.S_cat, ← SX.S_cat]
      have lt : ∀ (n : Nat) (l : List Nat), (SX.S (l.take n)).length ≤ l.length := fun n l => by rw [SX.S_len, List.length_take]; omega
      have l1 := lt at_ (cs ++ cs)
      have l2 := lt (sz - at_) ((cs ++ cs).drop at_)
      rw [List.length_append] at l1
      rw [List.length_drop, List.length_append] at l2
      have lk : ((cs ++ cs).take at_ ++ [x] ++ ((cs ++ cs).drop at_).take (sz - at_)).length = sz + 1 := by
        simp only [List.length_append, List.length_take, List.length_drop, List.length_singleton]
        omega
      refine s_app (e10 _ _ hp9) (ev_var rfl) (ev_is (ev_op (ev_op (ev_is (ev_slS (ev_var rfl) eo_none (eo_some (ev_var rfl)) sl2) (by rw [cut_to])) (ev_var rfl) (rv_addS ?_)) (ev_is (ev_slS (ev_var rfl) (eo_some (ev_var rfl)) (eo_some (ev_var rfl)) sl2) (by rw [cut_mid _ _ _ (by rw [List.length_append]; omega)])) (rv_addS ?_)) (congrArg V.str key)) (by rw [List.length_map]; omega) fun H11 e11 => ?_
      · show _ + 1 ≤ _
        omega
      · rw [Str.length_append]
        show _ + 1 + _ ≤ _
        omega
      · refine ⟨_, _, zs ++ [SX.S ((cs ++ cs).take at_ ++ [x] ++ ((cs ++ cs).drop at_).take (sz - at_))], rfl, Ex.mut ((e9.trans e10).trans e11) np, by rw [List.map_append]; exact upd_same, by rw [List.length_append, hz]; rfl, fun z hz2 => ?_⟩
        rcases List.mem_append.mp hz2 with h | h
        · exact hn z h
        · rw [List.mem_singleton.mp h]
          refine name_of (by rw [lk]; omega) (by rw [lk]; omega) fun y hy => ?_
          have hcc : ∀ y ∈ cs ++ cs, y ∈ lets := fun y hy => (List.mem_append.mp hy).elim (hm y) (hm y)
          simp only [List.mem_append, List.mem_singleton] at hy
          rcases hy with (hy | rfl) | hy
          · exact hcc y (List.mem_of_mem_take hy)
          · exact hx
          · exact hcc y (List.mem_of_mem_drop (List.mem_of_mem_take hy))
    · rintro σ H9 ⟨kv, sg, zs, rfl, e9, hp9, hz, hn⟩
      exact s_ret (ev_var rfl) fun H10 e10 => k zs hz hn p H10 np (e9.trans e10) (e10 _ _ hp9)
/-! more statements -/
theorem atI_map {α β : Type} (f : α → β) (l : List α) (i : Int) : atI (l.map f) i = (atI l i).map f := by
  unfold atI
  rw [List.length_map]
  cases ixN l.length i with
  | none => rfl
  | some j =>
    show (l.map f)[j]? = (l[j]?).map f
    rw [List.getElem?_map]
theorem ev_cellB {l : Addr} {ns : List Int} {j : Nat} (ha : Ev ta σ H (.ref l)) (hb : Ev tb σ H (.int (j : Int))) (hl : SqL K H l (ns.map V.int)) (hj : j ≤ 100000) : Ev (tCall (sp_law_cell K) [] E0 (tCons ta (tCons tb tNil))) σ H (.int (cellV ns j)) :=
  ev_call (ea_cons ha (ea_cons hb ea_nil)) fun H1 e Q q E => ⟨l, ns, j, rfl, ex_l e hl, hj, fun H2 e2 => q H2 e2⟩
theorem q_asgDN {i : Nat} (k : ∀ p H1, H p = none → Ex H H1 → H1 p = some (.dK []) → tz D (σ.set i (some (.ref p))) H1) : tSeq (tAsg tDNewK (gName i)) tz D σ H :=
  fun p hp => k p _ hp (Ex.new hp) upd_same
theorem q_asgLcW {tas : TA} {i j : Nat} {n : Int} {ls : List Nat} (h : EvA tas σ H [.int n]) (hn : 0 ≤ n ∧ n ≤ 40000) (hw : ∀ x, wipe ((wipe σ ls).set j (some x)) ls = wipe σ ls)
    (he : ∀ (i : Nat) H1, Ex H H1 → (i : Int) < n → EvW te ((wipe σ ls).set j (some (.int (i : Int)))) H1) (k : ∀ p vs ds H1, H p = none → Ex H H1 → H1 p = some (.lst vs) → VtAll H1 vs ds → ds.length = n.toNat → ds.all isValueD = true → tz D (σ.set i (some (.ref p))) H1) :
    tSeq (tAsg (tLc (iRng1 tas) (gName j) tYes te ls) (gName i)) tz D σ H := el_lcW (Q := fun v H1 => tz D (σ.set i (some v)) H1) h hn hw he k
theorem q_setAD {l : Addr} {xs : List V} {j : Nat} {d : PyData} (hl : H l = some (.lst xs)) (h : EvD te σ H d) (ho : Ev ta σ H (.ref l)) (hi : Ev tb σ H (.int (j : Int))) (hj : j < xs.length) (k : ∀ v H1, Ex H H1 → Dt H1 v d → tz D σ (upd H1 l (.lst (xs.set j v)))) :
    tSeq (tAsg te (gSub ta tb rSetA)) tz D σ H := h H (Ex.refl H) _ fun v H1 e1 r => ho H1 e1 _ fun H2 e2 => hi H2 (e1.trans e2) _ fun H3 e3 =>
  .inl ⟨l, xs, (j : Int), j, rfl, rfl, ((e1.trans e2).trans e3) l _ hl, ixN_nat hj, k v H3 ((e1.trans e2).trans e3) ((r.ex e2).ex e3)⟩
end
/-! a table and a law's own dict beside it; B is what stood ahead -/
structure Pair (A : Cn → Addr) (B : Hp) (t h : Addr) (H : Hp) (F : List Addr) (b : Tb) (es : List Ent) : Prop where
  ex : Ex B H
  tab : TabAt A F H t b
  dict : DictOf H h es
  offF : ∀ a ∈ F, B a = none
  offD : ∀ a ∈ h :: es.map (·.l), B a = none ∧ a ∉ F
section
variable {A : Cn → Addr} {B H H' : Hp} {t h : Addr} {F F' : List Addr} {b b' : Tb} {es : List Ent}
theorem off_new {p : Addr} {o : HO} (n : ∀ a ∈ F', a ∈ F ∨ H a = none) (hp : p ∉ F) (ho : H p = some o) : p ∉ F' := fun w => (n p w).elim hp fun q => by rw [q] at ho; cases ho
theorem TabAt.tupFr (T : TabAt A F H t b) (f : Fr F H H') : Tup H H' := fun bb _ q => f bb _ q fun w => T.noTup w q
theorem DictOf.upd {p : Addr} {xs : List V} {o : HO} (T : DictOf H h es) (hp : p ∉ h :: es.map (·.l)) (hl : H p = some (.lst xs)) : DictOf (L2.upd H p o) h es :=
  T.keep (.upd hl) fun l hl o e => by rw [upd_ne (show l ≠ p from fun q => hp (by rw [← q]; exact hl))]; exact e
theorem Pair.mono (I : Pair A B t h H F b es) (e : Ex H H') : Pair A B t h H' F b es := ⟨I.ex.trans e, I.tab.ex' e, I.dict.ex e, I.offF, I.offD⟩
theorem Pair.fr (I : Pair A B t h H F b es) (T : TabAt A F' H' t b') (f : Fr F H H') (n : ∀ a ∈ F', a ∈ F ∨ H a = none) : Pair A B t h H' F' b' es :=
  ⟨fun bb o q => f bb o (I.ex _ _ q) fun w => (by rw [I.offF bb w] at q; cases q), T, I.dict.keep (I.tab.tupFr f) fun l hl o q => f l o q (I.offD l hl).2, fun a ha => (n a ha).elim (I.offF a) (fresh_back I.ex),
   fun a ha => ⟨(I.offD a ha).1, by obtain ⟨o, q⟩ := I.dict.there a ha; exact off_new n (I.offD a ha).2 q⟩⟩
theorem Pair.upd {p : Addr} {xs : List V} {o : HO} (I : Pair A B t h H F b es) (hB : B p = none) (h1 : p ∉ F) (h2 : p ∉ h :: es.map (·.l)) (hl : H p = some (.lst xs)) : Pair A B t h (L2.upd H p o) F b es :=
  ⟨I.ex.mut hB, I.tab.upd h1 hl, I.dict.upd h2 hl, I.offF, I.offD⟩
theorem Pair.tabD {u : HO} (I : Pair A B t h H F b es) : TabAt A F (L2.upd H h u) t b := by
  refine I.tab.keep (fun bb ys q => ?_) (fun l hl o q => ?_)
  · rw [upd_ne (fun w => by rw [w, I.dict.held] at q; cases q)]
    exact q
  · rw [upd_ne (show l ≠ h from fun w => (I.offD h (by simp)).2 (w ▸ hl))]
    exact q
theorem Pair.drop (I : Pair A B t h H F b es) (z : Str) : Pair A B t h (L2.upd H h (.dK (dropK (es.map kvE) (.inr z)))) F b (es.filter fun e => decide (e.n ≠ z)) := by
  have sub : (es.filter fun e => decide (e.n ≠ z)).Sublist es := List.filter_sublist
  refine ⟨I.ex.mut (I.offD h (by simp)).1, I.tabD, I.dict.drop z, I.offF, fun a ha => I.offD a ?_⟩
  rcases List.mem_cons.mp ha with q | q
  · exact List.mem_cons.mpr (.inl q)
  · exact List.mem_cons.mpr (.inr ((sub.map _).subset q))
theorem Pair.put {p : Addr} {xs : List V} {ds : List PyData} (I : Pair A B t h H F b es) (z : Str) (hB : B p = none) (h1 : p ∉ F) (h2 : p ∉ h :: es.map (·.l)) (hl : H p = some (.lst xs)) (hv : VtAll H xs ds) : Pair A B t h (L2.upd H h (.dK (putK (es.map kvE) (.inr z) (.ref p)))) F b (putE es z p ds) := by
  refine ⟨I.ex.mut (I.offD h (by simp)).1, I.tabD, I.dict.put z h2 hl hv, I.offF, fun a ha => ?_⟩
  rcases List.mem_cons.mp ha with q | q
  · exact I.offD a (List.mem_cons.mpr (.inl q))
  · obtain ⟨e, he, rfl⟩ := List.mem_map.mp q
    rcases putE_mem he with he | rfl
    · exact I.offD e.l (List.mem_cons.mpr (.inr (List.mem_map_of_mem he)))
    · exact ⟨hB, h1⟩
theorem any_has (q : b.cols = es.map cE) (z : Str) : hasC b (.str z) = es.any fun e => decide (e.n = z) := by
  show (b.cols.any fun c => decide (c.1 = z)) = _
  rw [q, any_es]
theorem names_few {zs : List Str} (D : DictOf H h es) (g : ∀ e ∈ es, e.n ∈ zs) : es.length ≤ zs.length := by
  have := nodup_len (l := es.map (·.n)) (m := zs) D.nn fun x hx => by
    obtain ⟨e, he, rfl⟩ := List.mem_map.mp hx
    exact g e he
  rw [List.length_map] at this
  exact this
end
end Z

set_option Elab.async false
set_option linter.all false
set_option autoImplicit false
set_option maxRecDepth 100000
set_option maxHeartbeats 4000000
/-! ev: what an expression comes to, by its form -/
local macro_rules | `(tactic| k_places) => `(tactic| (repeat' (first
  | (with_reducible exact ev_c)
  | (with_reducible exact ev_var rfl)
  | (with_reducible refine ev_chainLL ?_ ?_ ?_)
  | (with_reducible refine ev_chainLt ?_ ?_ ?_)
  | (with_reducible refine ev_op ?_ ?_ ?_)
  | (with_reducible refine ev_neg ?_)
  | (with_reducible refine et_test ?_)
  | (with_reducible refine et_B ?_)
  | (with_reducible refine et_not ?_)
  | (with_reducible refine et_and ?_ (fun _ => ?_))
  | (with_reducible refine et_or ?_ (fun _ => ?_))
  | (with_reducible refine ev_andV ?_ (fun _ => ?_))
  | (with_reducible refine ev_orV ?_ (fun _ => ?_))
  | (with_reducible refine ev_notV ?_)
  | (with_reducible exact rv_addI)
  | (with_reducible exact rv_subI)
  | (with_reducible exact rv_lt)
  | (with_reducible exact rv_le)
  | (with_reducible exact rv_gt)
  | (with_reducible exact rv_ge)
  | (with_reducible exact rv_isB)
  | (with_reducible exact rv_isnB)
  | (with_reducible exact rv_isN)
  | (with_reducible exact rv_isnN)
  | (with_reducible exact rv_eqS rfl)
  | (with_reducible exact rv_neS rfl)
  | (with_reducible exact rv_inStr)
  | (with_reducible exact rv_ninStr)
  | (with_reducible exact rv_mod (by first | decide | omega | assumption))
  | (with_reducible exact rv_div (by first | decide | omega | assumption))
  | (with_reducible exact rv_pow (by decide))
  | (with_reducible refine ed_i ?_; done)
  | (with_reducible exact ea_nil)
  | (with_reducible refine ea_cons ?_ ?_)
  | (with_reducible exact eds_nil)
  | (with_reducible refine eds_cons ?_ ?_)
  | (with_reducible exact ed_dnew)
  | (with_reducible refine ed_lst ?_ (by simp only [List.length_cons, List.length_nil]; omega))
  | (with_reducible refine ed_tup ?_ (by simp only [List.length_cons, List.length_nil]; omega)))))
namespace Z
open PySem PySem.Spec PyProof.Rows L2 Evl
/-! changes of a law's dict's lists; two pairs side by side -/
section
variable {K : PySem.W.Frag} {A : Cn → Addr} {B H H' : Hp} {t h : Addr} {F F' : List Addr} {b b' : Tb} {es es' : List Ent}
theorem DictOf.sameL (T : DictOf H h es) {e e' : Ent} (he : e ∈ es) (he' : e' ∈ es) (q : e.l = e'.l) : e = e' := by
  have nl := T.nd
  rw [List.nodup_cons] at nl
  obtain ⟨-, nl⟩ := nl
  clear T
  induction es with
  | nil => cases he
  | cons a s ih =>
    rw [List.map_cons, List.nodup_cons] at nl
    rcases List.mem_cons.mp he with h1 | h1 <;> rcases List.mem_cons.mp he' with h2 | h2
    · rw [h1, h2]
    · exact absurd (List.mem_map_of_mem (f := (·.l)) h2) (by show e'.l ∉ _; rw [← q, h1]; exact nl.1)
    · exact absurd (List.mem_map_of_mem (f := (·.l)) h1) (by show e.l ∉ _; rw [q, h2]; exact nl.1)
    · exact ih h1 h2 nl.2
theorem DictOf.sameN (T : DictOf H h es) {e e' : Ent} (he : e ∈ es) (he' : e' ∈ es) (q : e.n = e'.n) : e = e' := by
  have nl := T.nn
  clear T
  induction es with
  | nil => cases he
  | cons a s ih =>
    rw [List.map_cons, List.nodup_cons] at nl
    rcases List.mem_cons.mp he with h1 | h1 <;> rcases List.mem_cons.mp he' with h2 | h2
    · rw [h1, h2]
    · exact absurd (List.mem_map_of_mem (f := (·.n)) h2) (by show e'.n ∉ _; rw [← q, h1]; exact nl.1)
    · exact absurd (List.mem_map_of_mem (f := (·.n)) h1) (by show e.n ∉ _; rw [q, h2]; exact nl.1)
    · exact ih h1 h2 nl.2
/-- a list of the dict becomes another -/
theorem DictOf.chg (T : DictOf H h es) {e : Ent} (he : e ∈ es) {xs ys : List V} (hx : H e.l = some (.lst xs)) (f : List PyData → List PyData) (hy : VtAll H ys (f e.ds)) : DictOf (L2.upd H e.l (.lst ys)) h (onE f es e.n) := by
  have tup : Tup H (L2.upd H e.l (.lst ys)) := .upd hx
  have Le : (onE f es e.n).map (·.l) = es.map (·.l) := onE_same (·.l) (fun _ _ => rfl) _ _ _
  refine ⟨by rw [Le]; exact T.nd, by rw [onE_same (·.n) (fun _ _ => rfl)]; exact T.nn, by rw [upd_ne (T.ne he).symm, onE_same kvE (fun _ _ => rfl)]; exact T.held, fun e' h' => ?_⟩
  obtain ⟨e0, h0, rfl⟩ := List.mem_map.mp h'
  by_cases w : e0.n = e.n
  · rw [if_pos w]
    obtain rfl := T.sameN h0 he w
    exact ⟨ys, upd_same, hy.tup tup⟩
  · rw [if_neg w]
    refine (T.cell e0 h0).keep tup (upd_ne fun q => w ?_)
    rw [T.sameL h0 he q]
theorem Pair.chg (I : Pair A B t h H F b es) {e : Ent} (he : e ∈ es) {xs ys : List V} (hx : H e.l = some (.lst xs)) (f : List PyData → List PyData) (hy : VtAll H ys (f e.ds)) : Pair A B t h (L2.upd H e.l (.lst ys)) F b (onE f es e.n) := by
  have m : e.l ∈ h :: es.map (·.l) := List.mem_cons.mpr (.inr (List.mem_map_of_mem he))
  refine ⟨I.ex.mut (I.offD _ m).1, I.tab.upd (I.offD _ m).2 hx, I.dict.chg he hx f hy, I.offF, ?_⟩
  rw [onE_same (·.l) (fun _ _ => rfl)]
  exact I.offD
abbrev Foot (h : Addr) (F : List Addr) (es : List Ent) (a : Addr) : Prop := a ∈ F ∨ a ∈ h :: es.map (·.l)
theorem Pair.thereF (I : Pair A B t h H F b es) {a : Addr} (m : Foot h F es a) : ∃ o, H a = some o := m.elim (I.tab.there a) (I.dict.there a)
theorem Pair.offB (I : Pair A B t h H F b es) {a : Addr} (m : Foot h F es a) : B a = none := m.elim (I.offF a) fun q => (I.offD a q).1
theorem Pair.noTup (I : Pair A B t h H F b es) {a : Addr} (m : Foot h F es a) {xs : List V} : H a ≠ some (.tup xs) := by
  rcases m with m | m
  · exact I.tab.noTup m
  · rcases List.mem_cons.mp m with rfl | m
    · rw [I.dict.held]; exact fun z => nomatch z
    · obtain ⟨e, he, rfl⟩ := List.mem_map.mp m
      obtain ⟨vs, h1, -⟩ := I.dict.cell e he
      rw [h1]; exact fun z => nomatch z
/-- what is told elsewhere leaves a pair as it is -/
theorem Pair.keepFr (I : Pair A B t h H F b es) {G : Addr → Prop} (f : ∀ a o, H a = some o → ¬ G a → H' a = some o) (tup : Tup H H') (ex : Ex B H') (d : ∀ a, Foot h F es a → ¬ G a) : Pair A B t h H' F b es :=
  ⟨ex, I.tab.keep tup fun l hl o q => f l o q (d l (.inl hl)), I.dict.keep tup fun l hl o q => f l o q (d l (.inr hl)), I.offF, I.offD⟩
def up1 {α : Type} (f : Nat → α) (w : Nat) (x : α) : Nat → α := fun i => if i = w then x else f i
theorem up1_same {α : Type} (f : Nat → α) (w : Nat) (x : α) : up1 f w x w = x := if_pos rfl
theorem up1_ne {α : Type} (f : Nat → α) {w i : Nat} (x : α) (h : i ≠ w) : up1 f w x i = f i := if_neg h
/-- n pairs side by side -/
structure Pairs (A : Cn → Addr) (B : Hp) (n : Nat) (t h : Nat → Addr) (H : Hp) (F : Nat → List Addr) (b : Nat → Tb) (es : Nat → List Ent) : Prop where
  pr : ∀ i < n, Pair A B (t i) (h i) H (F i) (b i) (es i)
  dj : ∀ i < n, ∀ j < n, i ≠ j → ∀ a, Foot (h i) (F i) (es i) a → ¬ Foot (h j) (F j) (es j) a
section
variable {n : Nat} {ts hs : Nat → Addr} {Fs : Nat → List Addr} {bs : Nat → Tb} {ess : Nat → List Ent}
theorem Pairs.mono (I : Pairs A B n ts hs H Fs bs ess) (e : Ex H H') : Pairs A B n ts hs H' Fs bs ess := ⟨fun i hi => (I.pr i hi).mono e, I.dj⟩
theorem Pairs.fresh (I : Pairs A B n ts hs H Fs bs ess) {a : Addr} (h : H a = none) : ∀ j < n, ¬ Foot (hs j) (Fs j) (ess j) a := fun j hj q => by
  obtain ⟨o, z⟩ := (I.pr j hj).thereF q
  rw [h] at z
  cases z
/-- the w-th pair has changed -/
theorem Pairs.chg {w : Nat} (I : Pairs A B n ts hs H Fs bs ess) (hw : w < n) (P : Pair A B (ts w) (hs w) H' F' b' es') (f : ∀ a o, H a = some o → ¬ Foot (hs w) (Fs w) (ess w) a → H' a = some o) (nw : ∀ a, Foot (hs w) F' es' a → Foot (hs w) (Fs w) (ess w) a ∨ ∀ j < n, ¬ Foot (hs j) (Fs j) (ess j) a) :
    Pairs A B n ts hs H' (up1 Fs w F') (up1 bs w b') (up1 ess w es') := by
  have tup : Tup H H' := fun bb ys q => f bb _ q fun m => (I.pr w hw).noTup m q
  refine ⟨fun i hi => ?_, fun i hi j hj hij a => ?_⟩
  · by_cases e : i = w
    · subst e
      rw [up1_same, up1_same, up1_same]
      exact P
    · rw [up1_ne _ _ e, up1_ne _ _ e, up1_ne _ _ e]
      exact (I.pr i hi).keepFr f tup P.ex (I.dj i hi w hw e)
  · by_cases e : i = w
    · subst e
      rw [up1_same, up1_same, up1_ne _ _ (Ne.symm hij), up1_ne _ _ (Ne.symm hij)]
      intro m q
      rcases nw a m with m | m
      · exact I.dj i hi j hj hij a m q
      · exact m j hj q
    · rw [up1_ne _ _ e, up1_ne _ _ e]
      by_cases e2 : j = w
      · subst e2
        rw [up1_same, up1_same]
        intro m q
        rcases nw a q with q | q
        · exact I.dj i hi j hj hij a m q
        · exact q i hi m
      · rw [up1_ne _ _ e2, up1_ne _ _ e2]
        exact I.dj i hi j hj hij a
/-- its table has changed -/
theorem Pairs.fr {w : Nat} (I : Pairs A B n ts hs H Fs bs ess) (hw : w < n) (T : TabAt A F' H' (ts w) b') (f : Fr (Fs w) H H') (nw : ∀ a ∈ F', a ∈ Fs w ∨ H a = none) : Pairs A B n ts hs H' (up1 Fs w F') (up1 bs w b') (up1 ess w (ess w)) :=
  I.chg hw ((I.pr w hw).fr T f nw) (fun a o q m => f a o q fun z => m (.inl z)) fun a m => m.elim (fun m => (nw a m).imp .inl (I.fresh)) fun m => .inl (.inr m)
end
variable {Q : VK} {E : XK} {σ : L2.St} {ta te tx tb : TE} {D : Ends} {tz tu : TS} {Ex0 : L2.St → XK}
theorem q_setK {p : Addr} {kvs : List (Key × V)} {k : Key} {v : V} (h : H p = some (.dK kvs)) (hv : Ev te σ H v) (ho : Ev ta σ H (.ref p)) (hk : Ev tb σ H (kV k)) (hl : kvs.length < 100000) (kk : ∀ H1, Ex H H1 → tz D σ (L2.upd H1 p (.dK (putK kvs k v)))) : tSeq (tAsg te (gSub ta tb rSetA)) tz D σ H :=
  s_setK (D := { D with nx := tz D }) h hv ho hk hl kk
theorem q_setA {l : Addr} {xs : List V} {j : Nat} {v : V} (hl : H l = some (.lst xs)) (h : Ev te σ H v) (ho : Ev ta σ H (.ref l)) (hi : Ev tb σ H (.int (j : Int))) (hj : j < xs.length) (k : ∀ H1, Ex H H1 → tz D σ (L2.upd H1 l (.lst (xs.set j v)))) :
    tSeq (tAsg te (gSub ta tb rSetA)) tz D σ H := s_setA (D := { D with nx := tz D }) hl h ho hi hj k
theorem putE_has {z z' : Str} {p : Addr} {ds : List PyData} (h : z' = z ∨ ∃ e ∈ es, e.n = z') : ∃ e ∈ putE es z p ds, e.n = z' := by
  unfold putE
  split
  · rename_i q
    have : ∃ e ∈ es, e.n = z' := by
      rcases h with rfl | h
      · obtain ⟨e, he, hn⟩ := List.any_eq_true.mp q
        exact ⟨e, he, of_decide_eq_true hn⟩
      · exact h
    obtain ⟨e, he, rfl⟩ := this
    refine ⟨_, List.mem_map_of_mem he, ?_⟩
    show (if e.n = z then (⟨z, p, ds⟩ : Ent) else e).n = e.n
    split
    · rename_i w; exact w.symm
    · rfl
  · rcases h with rfl | ⟨e, he, rfl⟩
    · exact ⟨_, List.mem_append_right _ (List.mem_singleton.mpr rfl), rfl⟩
    · exact ⟨e, List.mem_append_left _ he, rfl⟩
theorem onE_has {z z' : Str} {f : List PyData → List PyData} (h : ∃ e ∈ es, e.n = z') : ∃ e ∈ onE f es z, e.n = z' := by
  obtain ⟨e, he, rfl⟩ := h
  refine ⟨_, List.mem_map_of_mem he, ?_⟩
  show (if e.n = z then { e with ds := f e.ds } else e).n = e.n
  split <;> rfl
theorem onE_mem {z : Str} {f : List PyData → List PyData} {e : Ent} (h : e ∈ onE f es z) : ∃ e0 ∈ es, e.n = e0.n ∧ e.l = e0.l ∧ (e.ds = e0.ds ∨ e.ds = f e0.ds) := by
  obtain ⟨e0, h0, rfl⟩ := List.mem_map.mp h
  refine ⟨e0, h0, ?_⟩
  split
  · exact ⟨rfl, rfl, .inr rfl⟩
  · exact ⟨rfl, rfl, .inl rfl⟩
theorem all_set {ds : List PyData} {d : PyData} {i : Nat} (h : ds.all isValueD = true) (hd : isValueD d = true) : (ds.set i d).all isValueD = true := by
  refine List.all_eq_true.mpr fun x hx => ?_
  rcases List.mem_or_eq_of_mem_set hx with q | q
  · exact List.all_eq_true.mp h x q
  · rw [q]; exact hd
/-- if t.m(..) is not None: .. -/
theorem q_tabNon {m : Str} {sp : Sp} {tas : TA} {ds : List PyData} (T : TabAt A F H t b) (hm : m ∉ tabF) (ho : Ev ta σ H (.ref t)) (h : EvDs tas σ H ds) (k : ∀ vs H1, Ex H H1 → DtAll H1 vs ds → TabAt A F H1 t b → ∀ Q : VK, (∀ H2, tz D σ H2 → Q .non H2) → sp (.ref t :: vs) H1 Q (Ex0 σ)) :
    tSeq (tIfS (tTest (tOp rIsnA (tMetS (A .Table) m sp Ex0 ta tas) (tC .non))) tu tNext) tz D σ H := by
  obtain ⟨dx, fs, hi, hf⟩ := T.ins
  exact ho H (Ex.refl H) _ fun H2 e2 => ⟨t, dx, fs, rfl, e2 _ _ hi, look_none hf hm, h H2 e2 _ fun vs H3 e3 r3 => k vs H3 (e2.trans e3) r3 (T.ex' (e2.trans e3)) _ fun H4 z => .inl ⟨rfl, false, rfl, z⟩⟩
theorem s_tabDrop {m : Str} {sp : Sp} {tas : TA} {ds : List PyData} (T : TabAt A F H t b) (hm : m ∉ tabF) (ho : Ev ta σ H (.ref t)) (h : EvDs tas σ H ds) (k : ∀ vs H1, Ex H H1 → DtAll H1 vs ds → TabAt A F H1 t b → sp (.ref t :: vs) H1 (fun _ H2 => D.nx σ H2) (Ex0 σ)) :
    tDrop (tMetS (A .Table) m sp Ex0 ta tas) D σ H := by
  obtain ⟨dx, fs, hi, hf⟩ := T.ins
  exact ho H (Ex.refl H) _ fun H2 e2 => ⟨t, dx, fs, rfl, e2 _ _ hi, look_none hf hm, h H2 e2 _ fun vs H3 e3 r3 => k vs H3 (e2.trans e3) r3 (T.ex' (e2.trans e3))⟩
end
end Z

set_option Elab.async false
set_option linter.all false
set_option autoImplicit false
set_option maxRecDepth 100000
set_option maxHeartbeats 4000000
/-! ev: what an expression comes to, by its form -/
local macro_rules | `(tactic| k_places) => `(tactic| (repeat' (first
  | (with_reducible exact ev_c)
  | (with_reducible exact ev_var rfl)
  | (with_reducible refine ev_chainLL ?_ ?_ ?_)
  | (with_reducible refine ev_chainLt ?_ ?_ ?_)
  | (with_reducible refine ev_op ?_ ?_ ?_)
  | (with_reducible refine ev_neg ?_)
  | (with_reducible refine et_test ?_)
  | (with_reducible refine et_B ?_)
  | (with_reducible refine et_not ?_)
  | (with_reducible refine et_and ?_ (fun _ => ?_))
  | (with_reducible refine et_or ?_ (fun _ => ?_))
  | (with_reducible refine ev_andV ?_ (fun _ => ?_))
  | (with_reducible refine ev_orV ?_ (fun _ => ?_))
  | (with_reducible refine ev_notV ?_)
  | (with_reducible exact rv_addI)
  | (with_reducible exact rv_subI)
  | (with_reducible exact rv_lt)
  | (with_reducible exact rv_le)
  | (with_reducible exact rv_gt)
  | (with_reducible exact rv_ge)
  | (with_reducible exact rv_isB)
  | (with_reducible exact rv_isnB)
  | (with_reducible exact rv_isN)
  | (with_reducible exact rv_isnN)
  | (with_reducible exact rv_eqS rfl)
  | (with_reducible exact rv_neS rfl)
  | (with_reducible exact rv_inStr)
  | (with_reducible exact rv_ninStr)
  | (with_reducible exact rv_mod (by first | decide | omega | assumption))
  | (with_reducible exact rv_div (by first | decide | omega | assumption))
  | (with_reducible exact rv_pow (by decide))
  | (with_reducible refine ed_i ?_; done)
  | (with_reducible exact ea_nil)
  | (with_reducible refine ea_cons ?_ ?_)
  | (with_reducible exact eds_nil)
  | (with_reducible refine eds_cons ?_ ?_)
  | (with_reducible exact ed_dnew)
  | (with_reducible refine ed_lst ?_ (by simp only [List.length_cons, List.length_nil]; omega))
  | (with_reducible refine ed_tup ?_ (by simp only [List.length_cons, List.length_nil]; omega)))))
namespace Z
open PySem PySem.Spec PyProof.Rows L2 Evl
/-! ### are_all, put_in, take_out -/
def isK : PyData → Str → Bool
  | .str y, z => decide (y = z)
  | _, _ => false
def dget (kvs : List (PyData × PyData)) (z : Str) : Option PyData := (kvs.find? fun kv => isK kv.1 z).map (·.2)
def valAt (kvs : List (PyData × PyData)) (z : Str) : Bool := match dget kvs z with
  | some x => isValueD x
  | none => false
def dictD : PyData → List (PyData × PyData)
  | .dict kvs => kvs
  | _ => []
def areAll (b : Tb) : PyData → Bool
  | .dict kvs => decide (kvs.length = b.cols.length) && b.cols.all fun c => valAt kvs c.1
  | _ => false
def insAt {α : Type} (i : Nat) (x : α) (l : List α) : List α := l.take i ++ [x] ++ l.drop i
def putInB (b : Tb) (p vs : PyData) : Except Cn Tb :=
  if isBelow (b.rows.length + 1) p then if 30 ≤ b.rows.length then .error .TooMuch else if areAll b vs then .ok ⟨insAt (intD p).toNat b.coming b.rows, b.coming + 1, b.cols.map fun c => (c.1, insAt (intD p).toNat ((dget (dictD vs) c.1).getD .none) c.2)⟩ else .error .NoValue else .error .NoPlace
def takeB (b : Tb) (p : PyData) : Except Cn Tb :=
  if isBelow b.rows.length p then .ok { b with rows := b.rows.eraseIdx (intD p).toNat, cols := b.cols.map fun c => (c.1, c.2.eraseIdx (intD p).toNat) } else .error .NoPlace
section
variable {K : PySem.W.Frag} {A : Cn → Addr} {H H' : Hp} {Q : VK} {E : XK} {vs : List V} {σ : L2.St} {ta te tx tb : TE} {D : Ends} {tz tu : TS} {F : List Addr} {t : Addr} {Ex0 : L2.St → XK} {b : Tb}
theorem dget_of : ∀ {kvs : List (Key × V)} {ds : List PyData}, DtAll H (kvs.map (·.2)) ds → ∀ z : Str,
    (valV kvs (.inr z) = none ∧ dget ((kvs.map fun kv => kD kv.1).zip ds) z = none) ∨ ∃ v d, valV kvs (.inr z) = some v ∧ dget ((kvs.map fun kv => kD kv.1).zip ds) z = some d ∧ Dt H v d
  | [], _, _, z => .inl ⟨rfl, rfl⟩
  | kv :: kvs, [], h, z => by cases h
  | (k, v) :: kvs, d :: ds, h, z => by
    cases h with
    | cons a r =>
    have ih := dget_of r z
    have e2 : dget (((((k, v) :: kvs).map fun kv => kD kv.1)).zip (d :: ds)) z = if isK (kD k) z = true then some d else dget ((kvs.map fun kv => kD kv.1).zip ds) z := by
      unfold dget
      rw [List.map_cons, List.zip_cons_cons, List.find?_cons]
      cases isK (kD k) z <;> rfl
    rw [e2]
    by_cases hk : k = .inr z
    · subst hk
      rw [if_pos (show isK (kD (.inr z)) z = true from decide_eq_true rfl), valV_pos (p := (Sum.inr z, v)) rfl]
      exact .inr ⟨v, d, rfl, rfl, a⟩
    · rw [valV_neg (p := (k, v)) hk, if_neg]
      · exact ih
      · cases k with
        | inl i => exact fun q => nomatch q
        | inr y =>
          show ¬ decide (y = z) = true
          intro q
          exact hk (by rw [of_decide_eq_true q])
theorem el_lcK {d : Addr} {kvs : List (Key × V)} {td : TE} {j : Nat} {ls : List Nat} (v : Nat → V) (hd : H d = some (.dK kvs)) (h : ∀ od, Ev td σ (upd H d (.frz od (.dK kvs))) (.ref d)) (hz : kvs.length ≤ 40000) (hw : ∀ x, wipe ((wipe σ ls).set j (some x)) ls = wipe σ ls)
    (he : ∀ od (i : Nat) kk x H1, Ex (upd H d (.frz od (.dK kvs))) H1 → kvs[i]? = some (kk, x) → Ev te ((wipe σ ls).set j (some (kV kk))) H1 (v i)) : EvL (tLockE (tLc (iKeys td) (gName j) tYes te ls)) σ H (given kvs.length (fun _ => true) v) := fun H1 e Q q => by
  refine ⟨d, .dK kvs, e _ _ hd, trivial, fun od => ?_⟩
  have E1 : Ex (upd H d (.frz od (.dK kvs))) (upd H1 d (.frz od (.dK kvs))) := fun a o w => by
    by_cases z : a = d
    · rw [z, upd_same] at w ⊢; exact w
    · rw [upd_ne z] at w ⊢; exact e _ _ w
  refine h od _ E1 _ fun H2 e2 => ⟨d, od, rfl, .inl ⟨kvs, e2 _ _ upd_same, fun Dl hD => ?_⟩⟩
  refine ⟨fun i m H' => m = kvs.length - i ∧ i ≤ kvs.length ∧ Cw H2 (fun _ => true) v Dl i H', ⟨kvs.length, by simp, Nat.zero_le _, hD, Ex.new hD, upd_same⟩, ?_⟩
  have hDd : Dl ≠ d := fun z => by rw [z, e2 _ _ upd_same] at hD; cases hD
  rintro i m H' ⟨rfl, hi, p⟩
  have hH : H' d = some (.frz od (.dK kvs)) := p.2.1 _ _ (e2 _ _ upd_same)
  by_cases hlt : i < kvs.length
  · refine .inr ⟨⟨hH, hlt⟩, fun H3 => Cw H2 (fun _ => true) v Dl (i + 1) H3, fun H3 p2 => ⟨kvs.length - (i + 1), by omega, rfl, hlt, p2⟩, ?_⟩
    rintro x2 H3 ⟨rfl, kk, x, hk, rfl⟩
    exact ⟨hw _, cw_turn p (by omega) (t := tYes) (fun H4 _ Q q => q H4 (Ex.refl H4)) fun _ => he od i kk x H2 (E1.trans e2) hk⟩
  · have e0 : i = kvs.length := by omega
    subst e0
    refine .inl ⟨⟨hH, Nat.le_refl _⟩, hH, q Dl _ ?_ (fun a o w => ?_) (by rw [upd_ne hDd]; exact p.2.2)⟩
    · cases z : H1 Dl with
      | none => rfl
      | some o => rw [e2 _ _ (by rw [upd_ne hDd]; exact z)] at hD; cases hD
    · by_cases z : a = d
      · rw [z, upd_same]
        rw [z, e _ _ hd] at w
        exact w
      · rw [upd_ne z]
        exact p.2.1 _ _ (e2 _ _ (by rw [upd_ne z]; exact w))
/-- data that stands beside the places F -/
def DtF (F : List Addr) (H : Hp) (v : V) (d : PyData) : Prop := ∀ H2, Fr F H H2 → Dt H2 v d
theorem DtF.dt {v : V} {d : PyData} (h : DtF F H v d) : Dt H v d := h H fun _ _ q _ => q
theorem DtF.ex {v : V} {d : PyData} (h : DtF F H v d) (e : Ex H H') : DtF F H' v d := fun H2 f => h H2 (Fr.trans (.of_ex e) f)
theorem DtF.fr {v : V} {d : PyData} (h : DtF F H v d) (e : Fr F H H') : DtF F H' v d := fun H2 f => h H2 (e.trans f)
theorem Dt.dictInv {v : V} {d : PyData} {L : List (PyData × PyData)} (r : Dt H v d) (e : d = .dict L) : ∃ a kvs ds, v = .ref a ∧ H a = some (.dK kvs) ∧ DtAll H (kvs.map (·.2)) ds ∧ L = (kvs.map fun kv => kD kv.1).zip ds := by
  cases r with
  | dct h r => cases e; exact ⟨_, _, _, rfl, h, r, rfl⟩
  | _ => cases e
theorem DtF.off {a : Addr} {L : List (PyData × PyData)} (h : DtF F H (.ref a) (.dict L)) : a ∉ F := fun m => by
  obtain ⟨a', kvs, ds, q, ha, -⟩ := (h (fun b => if b = a then none else H b) fun b o q n => (if_neg (show b ≠ a from fun z => n (z ▸ m))).trans q).dictInv rfl
  cases q
  rw [if_pos rfl] at ha
  cases ha
/-! are_all -/
def sp_Table_are_all (K : PySem.W.Frag) (A : Cn → Addr) : Sp := fun vs H Q _ => ∃ F t b v d, vs = [.ref t, v] ∧ TabAt A F H t b ∧ DtF F H v d ∧ (∀ kv ∈ dictD d, short2 kv.2) ∧ RetV (.bl (areAll b d)) H Q
def t_Table_are_all (K : PySem.W.Frag) (E : XK) : TS :=
  tSeq (tIfS (tOr (tNot (tB (tCB (rIsiA K) (tCons (tVar 1) (tCons (tC (.ty "dict")) tNil))))) (tTest (tOp (rNeA K) (tCB (rLenA K) (tCons (tVar 1) tNil)) (tCB (rLenA K) (tCons (tFld K (tVar 0) "held") tNil))))) (tRet (tC (.bl false))) tNext)
    (tRet (tCB (rAll K) (tCons (tLockE (tLc (iKeys (tFld K (tVar 0) "held")) (gName 2) tYes (tAndV (tOp (rInA K) (tVar 2) (tVar 1)) (tCall (sp_is_value K) [] E0 (tCons (tOp (rIxA K) (tVar 1) (tVar 2)) tNil))) [2])) tNil)))
theorem len_Table_are_all (vs : List V) (H : Hp) (Q : VK) (E : XK) (h : sp_Table_are_all K A vs H Q E) : vs.length = 2 := by obtain ⟨_, _, _, _, _, rfl, _⟩ := h; rfl
theorem dget_mem {kvs : List (PyData × PyData)} {z : Str} {d : PyData} (h : dget kvs z = some d) : ∃ k, (k, d) ∈ kvs := by
  unfold dget at h
  rw [Option.map_eq_some_iff] at h
  obtain ⟨⟨k, d'⟩, h1, h2⟩ := h
  exact ⟨k, by rw [← h2]; exact List.mem_of_find?_eq_some h1⟩
theorem r_Table_are_all (c : ClK K (A .Table) tabF) (vs : List V) (H : Hp) (Q : VK) (E : XK) (h : sp_Table_are_all K A vs H Q E) : t_Table_are_all K E { nx := fun _ H' => Q .non H', rt := Q } (L2.start ["self", "values", "column"] vs) H := by
  obtain ⟨F, t, b, v, d, rfl, T, rF, hs, k⟩ := h
  have rd := rF.dt
  obtain ⟨dx, r, hh, es, rfl, O⟩ := T.ex
  unfold t_Table_are_all
  have held : ∀ {H : Hp} {σ : L2.St}, TabOf A H t dx r hh es b → σ[0]? = some (some (V.ref t)) → Ev (tCB (rLenA K) (tCons (tFld K (tVar 0) "held") tNil)) σ H (.int b.cols.length) := fun O hσ => by
    have := ev_lenV (ev_held c O (ev_var hσ)) (rc_lenD (K := K) O.held)
    rw [len_es, ← List.length_map (f := cE), ← O.cols] at this
    exact this
  by_cases hd : ∃ kvs, d = .dict kvs
  · obtain ⟨kvs0, rfl⟩ := hd
    obtain ⟨a, kvs, ds, rfl, ha, rda, rfl⟩ := rd.dictInv rfl
    have oa := rF.off
    have ll : kvs.length = ds.length := by rw [← rda.length, List.length_map]
    have lz : ((kvs.map fun kv => kD kv.1).zip ds).length = kvs.length := by rw [List.length_zip, List.length_map, ← ll, Nat.min_self]
    refine q_when (b := !decide (kvs.length = b.cols.length)) (et_is (et_or (et_not (et_B (ev_isi (n := "dict") (ev_var rfl) (by show tyO (H a) = _; rw [ha]; rfl)))) fun _ => et_test (ev_op (ev_lenV (ev_var rfl) (rc_lenD ha)) (held O rfl) (rv_neS rfl))) (by
      show (false || !decide (V.int kvs.length = V.int b.cols.length)) = _
      rw [Bool.false_or]
      congr 1
      exact decide_eq_decide.mpr ⟨fun h => by have := V.int.inj h; omega, fun h => by rw [h]⟩)) (fun hb H1 e1 => ?_) (fun hb H1 e1 => ?_)
    · refine s_ret (v := .bl false) ev_c fun H2 e2 => ?_
      have : areAll b (.dict ((kvs.map fun kv => kD kv.1).zip ds)) = false := by
        show (decide (((kvs.map fun kv => kD kv.1).zip ds).length = b.cols.length) && _) = false
        rw [lz, not_eq_true_iff hb, Bool.false_and]
      rw [this] at k
      exact k H2 (e1.trans e2)
    · have hb := not_eq_false_iff hb
      let f : Ent → Bool := fun e => valAt ((kvs.map fun kv => kD kv.1).zip ds) e.n
      refine s_ret (v := .bl (areAll b (.dict ((kvs.map fun kv => kD kv.1).zip ds)))) ?_ fun H2 e2 => k H2 (e1.trans e2)
      have O1 := O.keep (.of_ex e1) fun l _ o q => e1 l o q
      refine ev_is (ev_all (bs := es.map f) ?_) ?_
      · have gm := given_map (xs := es.map fun _ => V.non) (bs := es.map f) (by rw [List.length_map, List.length_map]) (fun i => (es.map f).getD i false) (fun _ _ => rfl)
        rw [List.length_map, ← List.length_map (f := kvE)] at gm
        rw [← gm]
        have hne : hh ≠ t := O.ne3.2.1.symm
        refine el_lcK (fun i => .bl ((es.map f).getD i false)) O1.held (fun od => ev_fld (ev_var rfl) (by rw [upd_ne O.ne3.2.1]; exact O1.at_) c (by decide) rfl) (by rw [List.length_map]; have := O.few.2; omega) (fun _ => rfl) (fun od i kk x H2 e2 hx => ?_)
        obtain ⟨e, he, hkv⟩ : ∃ e, es[i]? = some e ∧ kvE e = (kk, x) := by
          rw [List.getElem?_map] at hx
          cases q : es[i]? with
          | none => rw [q] at hx; cases hx
          | some e => rw [q] at hx; exact ⟨e, rfl, Option.some.inj hx⟩
        obtain rfl : kk = .inr e.n := (congrArg Prod.fst hkv).symm
        have fr : Fr (t :: r :: hh :: es.map (·.l)) H H2 := fun bb o q n => e2 _ _ (by rw [upd_ne (fun z => n (by rw [z]; simp))]; exact e1 _ _ q)
        obtain ⟨a', kvs2, ds2, ea, ha2, rd2, eL⟩ := (rF H2 fr).dictInv rfl
        cases ea
        have hg : (es.map f).getD i false = f e := by
          rw [List.getD_eq_getElem?_getD, List.getElem?_map, he]
          rfl
        rw [hg]
        have fe : f e = valAt ((kvs.map fun kv => kD kv.1).zip ds) e.n := rfl
        rw [fe]
        rcases dget_of rd2 e.n with ⟨q1, q2⟩ | ⟨w, x, q1, q2, rx⟩
        · rw [← eL] at q2
          refine ev_is (v := .bl ((valV kvs2 (.inr e.n)).isSome && false)) (ev_andV (ev_op (ev_var rfl) (ev_var rfl) (rv_inDk (k := .inr e.n) ha2)) fun z => (by rw [q1] at z; cases z)) ?_
          rw [q1]
          unfold valAt
          rw [q2]
          rfl
        · rw [← eL] at q2
          obtain ⟨k0, hm⟩ := dget_mem q2
          have sh : short2 x := hs (k0, x) hm
          have ev_w : EvD (tOp (rIxA K) (tVar 1) (tVar 2)) ((wipe (L2.start ["self", "values", "column"] [V.ref t, V.ref a]) [2]).set 2 (some (kV (.inr e.n)))) H2 x := ed_ev (ev_op (ev_var rfl) (ev_var rfl) (rv_ixDk (k := .inr e.n) ha2 q1)) rx
          refine ev_is (ev_andV (ev_op (ev_var rfl) (ev_var rfl) (rv_inDk (k := .inr e.n) ha2)) fun _ => ev_spB2 (g := isValueD) (pre := short2) ev_w sh) ?_
          unfold valAt
          rw [q1, q2]
          rfl
      · show V.bl ((es.map f).all id) = V.bl (decide (((kvs.map fun kv => kD kv.1).zip ds).length = b.cols.length) && b.cols.all fun c => valAt ((kvs.map fun kv => kD kv.1).zip ds) c.1)
        rw [lz, hb, Bool.true_and, O.cols, List.all_map, List.all_map]
        rfl
  · have e1 : areAll b d = false := by
      cases d <;> first | rfl | exact absurd ⟨_, rfl⟩ hd
    have e2 : isiB (kindD d) "dict" = false := by
      cases d <;> first | rfl | exact absurd ⟨_, rfl⟩ hd
    refine q_when (b := true) (et_is (b := true) (a := !(isiB (kindD d) "dict") || true) (et_or (et_not (et_B (ev_isD (ed_var rfl rd)))) fun z => ?_) (by rw [e2]; rfl)) (fun hb H1 e1' => ?_) fun hb => nomatch hb
    · rw [e2] at z
      cases z
    · refine s_ret ev_c fun H2 e2 => ?_
      rw [e1] at k
      exact k H2 (e1'.trans e2)
/-! every list of the table changes -/
variable {dx r hh : Addr} {es : List Ent}
def chE (g : Ent → List PyData) (e : Ent) : Ent := { e with ds := g e }
theorem s_forCols (g : Ent → List PyData) {j : Nat} (hj : j < σ.length) (hd : H hh = some (.dK (es.map kvE))) (nn : (es.map (·.n)).Nodup) (nl : (hh :: es.map (·.l)).Nodup) (hc : ∀ e ∈ es, ColAt H e) (h : ∀ od, Ev ta σ (upd H hh (.frz od (.dK (es.map kvE)))) (.ref hh))
    (turn : ∀ od, ∀ e ∈ es, ∀ (σ' : L2.St) (H' : Hp) (xs : List V) (D : Ends), σ'.length = σ.length → (∀ i, i ≠ j → σ'[i]? = σ[i]?) → σ'[j]? = some (some (.str e.n)) → Fr (hh :: es.map (·.l)) H H' → H' hh = some (.frz od (.dK (es.map kvE))) → H' e.l = some (.lst xs) → VtAll H' xs e.ds →
      (∀ H1 ys, Ex H' H1 → VtAll H1 ys (g e) → D.nx σ' (upd H1 e.l (.lst ys))) → tu D σ' H')
    (k : ∀ σ' H', (∀ i, i ≠ j → σ'[i]? = σ[i]?) → Fr (es.map (·.l)) H H' → (∀ e ∈ es, ColAt H' (chE g e)) → D.nx σ' H') : tLock (tFor (iKeys ta) (gName j) tu) D σ H := by
  have hne : ∀ e ∈ es, e.l ≠ hh := fun e he q => by
    rw [List.nodup_cons] at nl
    exact nl.1 (q ▸ List.mem_map_of_mem he)
  refine s_forK hd h (fun od i σ' H' => σ'.length = σ.length ∧ (∀ q, q ≠ j → σ'[q]? = σ[q]?) ∧ Fr (hh :: es.map (·.l)) H H' ∧ H' hh = some (.frz od (.dK (es.map kvE))) ∧ ∀ q e, es[q]? = some e → ColAt H' (if q < i then chE g e else e)) ?_ (fun od i σ' H' p => p.2.2.2.1) ?_ ?_
  · intro od H1 e1
    refine ⟨rfl, fun _ _ => rfl, fun b o q n => e1 _ _ (by rw [upd_ne (fun z => n (by rw [z]; simp))]; exact q), e1 _ _ upd_same, fun q e he => ?_⟩
    rw [if_neg (Nat.not_lt_zero q)]
    have hm := List.mem_of_getElem? he
    refine (hc e hm).keep (fun b ys z => e1 _ _ ?_) ?_
    · rw [upd_ne (fun w => by rw [w, hd] at z; cases z)]
      exact z
    · obtain ⟨vs, h1, -⟩ := hc e hm
      rw [h1, e1 _ _ (by rw [upd_ne (hne e hm)]; exact h1)]
  · rintro od i kk v σ' H' hi ⟨hl, hs, fr, hf, cs⟩
    obtain ⟨e, he, hkv⟩ : ∃ e, es[i]? = some e ∧ kvE e = (kk, v) := by
      rw [List.getElem?_map] at hi
      cases q : es[i]? with
      | none => rw [q] at hi; cases hi
      | some e => rw [q] at hi; exact ⟨e, rfl, Option.some.inj hi⟩
    obtain rfl : kk = .inr e.n := (congrArg Prod.fst hkv).symm
    have hm := List.mem_of_getElem? he
    have ci := cs i e he
    rw [if_neg (Nat.lt_irrefl i)] at ci
    obtain ⟨xs, hx, vx⟩ := ci
    refine turn od e hm _ H' xs _ (by rw [List.length_set]; exact hl) (fun q hq => by rw [List.getElem?_set_ne (Ne.symm hq)]; exact hs q hq) (by rw [List.getElem?_set_self (by rw [hl]; exact hj)]; rfl) fr hf hx vx fun H1 ys e1 vy => ?_
    have tup : Tup H1 (upd H1 e.l (.lst ys)) := .upd (e1 _ _ hx)
    refine ⟨by rw [List.length_set]; exact hl, fun q hq => by rw [List.getElem?_set_ne (Ne.symm hq)]; exact hs q hq, fun b o q n => ?_, by rw [upd_ne (hne e hm).symm]; exact e1 _ _ hf, fun q e' he' => ?_⟩
    · rw [upd_ne (fun z => n (by rw [z]; exact List.mem_cons.mpr (.inr (List.mem_map_of_mem hm))))]
      exact e1 _ _ (fr _ _ q n)
    · by_cases z : q = i
      · subst z
        rw [he] at he'
        cases he'
        rw [if_pos (Nat.lt_succ_self q)]
        exact ⟨ys, upd_same, vy.tup tup⟩
      · have hm' := List.mem_of_getElem? he'
        have ne : e'.l ≠ e.l := by
          rw [List.nodup_cons] at nl
          have nl := nl.2
          unfold List.Nodup at nl
          rw [List.pairwise_map] at nl
          intro w
          rcases Nat.lt_or_gt_of_ne z with lt | lt
          · exact (List.pairwise_iff_getElem.mp nl q i (List.getElem?_eq_some_iff.mp he').1 (List.getElem?_eq_some_iff.mp he).1 lt) (by rw [(List.getElem?_eq_some_iff.mp he').2, (List.getElem?_eq_some_iff.mp he).2]; exact w)
          · exact (List.pairwise_iff_getElem.mp nl i q (List.getElem?_eq_some_iff.mp he).1 (List.getElem?_eq_some_iff.mp he').1 lt) (by rw [(List.getElem?_eq_some_iff.mp he').2, (List.getElem?_eq_some_iff.mp he).2]; exact w.symm)
        have cq := cs q e' he'
        have el : ∀ b : Bool, (if b = true then chE g e' else e').l = e'.l := fun b => by cases b <;> rfl
        have same : (if q < i + 1 then chE g e' else e') = if q < i then chE g e' else e' := by
          by_cases w : q < i
          · rw [if_pos w, if_pos (by omega)]
          · rw [if_neg w, if_neg (by omega)]
        rw [same]
        have ll : (if q < i then chE g e' else e').l = e'.l := by split <;> rfl
        obtain ⟨ws, w1, w2⟩ := cq
        refine ⟨ws, ?_, (w2.tup (.of_ex e1)).tup tup⟩
        rw [ll] at w1 ⊢
        rw [upd_ne ne]
        exact e1 _ _ w1
  · rintro od σ' H' ⟨hl, hs, fr, hf, cs⟩
    refine k σ' _ hs (fun b o q n => ?_) (fun e he => ?_)
    · by_cases z : b = hh
      · rw [z, upd_same]
        rw [z, hd] at q
        exact q
      · rw [upd_ne z]
        exact fr _ _ q (fun w => (List.mem_cons.mp w).elim z n)
    · obtain ⟨q, hq, rfl⟩ := List.getElem_of_mem he
      have cq := cs q _ (List.getElem?_eq_getElem hq)
      rw [if_pos (by rw [List.length_map]; exact hq)] at cq
      refine cq.keep (fun b ys w => ?_) (upd_ne (show (chE g es[q]).l ≠ hh from hne es[q] (List.getElem_mem hq)))
      rw [upd_ne (fun z => by rw [z, hf] at w; cases w)]
      exact w
theorem chE_same {β : Type} (g : Ent → List PyData) (p : Ent → β) (hp : ∀ e ds, p { e with ds := ds } = p e) : (es.map (chE g)).map p = es.map p := by
  rw [List.map_map]
  exact List.map_congr_left fun e _ => hp e _
theorem chE_c (g : Ent → List PyData) (f : Str × List PyData → Str × List PyData) (hf : ∀ e : Ent, cE (chE g e) = f (cE e)) : (es.map (chE g)).map cE = (es.map cE).map f := by
  rw [List.map_map, List.map_map]
  exact List.map_congr_left fun e _ => hf e
/-! take_out -/
def sp_Table_take_out (K : PySem.W.Frag) (A : Cn → Addr) : Sp := fun vs H Q E => ∃ F t b v d, vs = [.ref t, v] ∧ TabAt A F H t b ∧ Dt H v d ∧ Out A F t H Q E (takeB b d)
def t_Table_take_out (K : PySem.W.Frag) (A : Cn → Addr) (E : XK) : TS :=
  tSeq (tDrop (tMetS (A .Table) "look_at_place" (sp_Table_look_at_place K A) (WE (fun cls d _ H => E cls d H)) (tVar 0) (tCons (tVar 1) (tCons (tCB (rLenA K) (tCons (tFld K (tVar 0) "rows_now") tNil)) tNil))))
    (tSeq (tDrop (tBM K "list" rPopAt (tFld K (tVar 0) "rows_now") (tCons (tVar 1) tNil)))
    (tLock (tFor (iKeys (tFld K (tVar 0) "held")) (gName 2) (tDrop (tBM K "list" rPopAt (tOp (rIxA K) (tFld K (tVar 0) "held") (tVar 2)) (tCons (tVar 1) tNil))))))
theorem len_Table_take_out (vs : List V) (H : Hp) (Q : VK) (E : XK) (h : sp_Table_take_out K A vs H Q E) : vs.length = 2 := by obtain ⟨_, _, _, _, _, rfl, _⟩ := h; rfl
theorem seqIdx {i n : Nat} (h : i < n) : seqIndex? (i : Int) n = some i := by
  unfold seqIndex?
  have : ¬ ((i : Int) < 0) := by omega
  simp only [this, if_false]
  rw [if_pos (by simp; omega)]
  rfl
theorem s_popAt {l : Addr} {xs : List V} {i : Nat} (hl : H l = some (.lst xs)) (ha : Ev ta σ H (.ref l)) (h : Ev te σ H (.int (i : Int))) (hi : i < xs.length) (hz : xs.length ≤ 100000) (k : ∀ H1, Ex H H1 → D.nx σ (upd H1 l (.lst (xs.eraseIdx i)))) :
    tDrop (tBM K "list" rPopAt ta (tCons te tNil)) D σ H := ha H (Ex.refl H) _ fun H1 e1 =>
  ⟨Or.inl ⟨rfl, xs, sq_of (e1 l _ hl)⟩, h H1 e1 _ fun H2 e2 => ⟨l, xs, i, i, xs[i], rfl, rfl, e2 l _ (e1 l _ hl), by omega, by omega, seqIdx hi, by simp, k H2 (e1.trans e2)⟩⟩
theorem VtAll.erase : ∀ {H : Hp} {vs : List V} {ds : List PyData} (i : Nat), VtAll H vs ds → VtAll H (vs.eraseIdx i) (ds.eraseIdx i)
  | _, _, _, _, .nil => .nil
  | _, _, _, 0, .cons a r => r
  | _, _, _, i + 1, .cons a r => .cons a (r.erase i)
theorem VtAll.take : ∀ {H : Hp} {vs : List V} {ds : List PyData} (i : Nat), VtAll H vs ds → VtAll H (vs.take i) (ds.take i)
  | _, _, _, _, .nil => by simp; exact .nil
  | _, _, _, 0, .cons a r => .nil
  | _, _, _, i + 1, .cons a r => .cons a (r.take i)
theorem VtAll.drop : ∀ {H : Hp} {vs : List V} {ds : List PyData} (i : Nat), VtAll H vs ds → VtAll H (vs.drop i) (ds.drop i)
  | _, _, _, _, .nil => by simp; exact .nil
  | _, _, _, 0, .cons a r => .cons a r
  | _, _, _, i + 1, .cons a r => r.drop i
theorem VtAll.app : ∀ {H : Hp} {vs ws : List V} {ds es : List PyData}, VtAll H vs ds → VtAll H ws es → VtAll H (vs ++ ws) (ds ++ es)
  | _, _, _, _, _, .nil, s => s
  | _, _, _, _, _, .cons a r, s => .cons a (r.app s)
theorem VtAll.ins {v : V} {d : PyData} {vs : List V} {ds : List PyData} (h : VtAll H vs ds) (r : Vt H v d) (i : Nat) : VtAll H (insAt i v vs) (insAt i d ds) := ((h.take i).app (.cons r .nil)).app (h.drop i)
theorem map_ins {α β : Type} (f : α → β) (i : Nat) (x : α) (l : List α) : (insAt i x l).map f = insAt i (f x) (l.map f) := by
  unfold insAt
  rw [List.map_append, List.map_append, List.map_take, List.map_drop]
  rfl
theorem ins_len {α : Type} {i : Nat} {x : α} {l : List α} (h : i ≤ l.length) : (insAt i x l).length = l.length + 1 := by
  unfold insAt
  rw [List.length_append, List.length_append, List.length_take, List.length_drop, List.length_singleton]
  omega
theorem map_erase {α β : Type} (f : α → β) : ∀ (i : Nat) (l : List α), (l.eraseIdx i).map f = (l.map f).eraseIdx i
  | _, [] => rfl
  | 0, _ :: _ => rfl
  | i + 1, a :: l => by
    rw [List.eraseIdx_cons_succ, List.map_cons, List.map_cons, List.eraseIdx_cons_succ, map_erase f i l]
theorem s_ins {l : Addr} {xs : List V} {i : Nat} {v : V} (hl : H l = some (.lst xs)) (ha : Ev ta σ H (.ref l)) (h : Ev te σ H (.int (i : Int))) (hv : Ev tb σ H v) (hz : xs.length < 100000) (hi : i ≤ 100000) (k : ∀ H1, Ex H H1 → D.nx σ (upd H1 l (.lst (insAt i v xs)))) :
    tDrop (tBM K "list" rInsA ta (tCons te (tCons tb tNil))) D σ H := ha H (Ex.refl H) _ fun H1 e1 =>
  ⟨Or.inl ⟨rfl, xs, sq_of (e1 l _ hl)⟩, h H1 e1 _ fun H2 e2 => hv H2 (e1.trans e2) _ fun H3 e3 => ⟨l, xs, i, v, rfl, rfl, (e2.trans e3) l _ (e1 l _ hl), sz_lt hz, by omega, by omega, k H3 ((e1.trans e2).trans e3)⟩⟩
theorem chg_all {rows : List Int} {coming : Int} {H : Hp} {H' : Hp} {g : Ent → List PyData} {dx r hh : Addr} {es : List Ent} {b : Tb} {t : Addr} {cols : List (Str × List PyData)} (O : TabOf A H t dx r hh es b) (h1 : H' t = some (.ins (A .Table) dx [("rows_now", .ref r), ("coming", .int coming), ("held", .ref hh)])) (h2 : H' r = some (.lst (rows.map V.int))) (h3 : H' hh = some (.dK (es.map kvE)))
    (h4 : ∀ e ∈ es, ColAt H' (chE g e)) (h5 : cols = (es.map (chE g)).map cE) (h6 : ∀ e ∈ es, (g e).length = rows.length) (h7 : rows.length ≤ 30) : TabAt A (t :: r :: hh :: es.map (·.l)) H' t ⟨rows, coming, cols⟩ := by
  have Le : (es.map (chE g)).map (·.l) = es.map (·.l) := chE_same g (·.l) fun _ _ => rfl
  refine ⟨dx, r, hh, es.map (chE g), by rw [Le], ⟨by rw [Le]; exact O.nd, by rw [chE_same g (·.n) fun _ _ => rfl]; exact O.nn, h5, h1, h2, by rw [chE_same g kvE fun _ _ => rfl]; exact h3, fun e he => ?_, fun e he => ?_, ⟨h7, by rw [List.length_map]; exact O.few.2⟩⟩⟩
  · obtain ⟨e0, h0, rfl⟩ := List.mem_map.mp he
    exact h4 e0 h0
  · obtain ⟨e0, h0, rfl⟩ := List.mem_map.mp he
    exact h6 e0 h0
theorem TabOf.nl4 (O : TabOf A H t dx r hh es b) : (hh :: es.map (·.l)).Nodup := by
  have nd := O.nd
  rw [List.nodup_cons, List.nodup_cons] at nd
  exact nd.2.2
theorem r_Table_take_out (c : ClK K (A .Table) tabF) (vs : List V) (H : Hp) (Q : VK) (E : XK) (h : sp_Table_take_out K A vs H Q E) : t_Table_take_out K A E { nx := fun _ H' => Q .non H', rt := Q } (L2.start ["self", "place", "column"] vs) H := by
  obtain ⟨F, t, b, v, d, rfl, T, rd, k⟩ := h
  unfold t_Table_take_out
  unfold takeB at k
  refine q_lookP T (ev_var rfl) (ed_var rfl rd) (ev_rowsN c T (ev_var rfl)) (fun q H1 e1 => ?_) (fun q H1 e1 => by rw [if_neg (by rw [q]; decide)] at k; exact k H1 e1)
  rw [if_pos q] at k
  have k := Out.ex e1 k
  have T := T.ex' e1
  obtain ⟨dx, r, hh, es, rfl, O⟩ := T.ex
  obtain ⟨i, rfl, hi⟩ := below_nat q
  obtain rfl := rd.i
  -- self.rows_now.pop(place)
  refine s_popAt (D := { nx := fun σ' H' => (tLock (tFor (iKeys (tFld K (tVar 0) "held")) (gName 2) (tDrop (tBM K "list" rPopAt (tOp (rIxA K) (tFld K (tVar 0) "held") (tVar 2)) (tCons (tVar 1) tNil))))) { nx := fun _ H' => Q .non H', rt := Q } σ' H', rt := Q }) O.rows (ev_rown c O (ev_var rfl)) (ev_var rfl) (by rw [List.length_map]; exact hi) (by rw [List.length_map]; have := O.few.1; omega) fun H2 e2 => ?_
  have O2 := O.keep (.of_ex e2) fun l _ o q => e2 l o q
  obtain ⟨n1, n2, n3⟩ := O.ne3
  obtain ⟨H3, hH3⟩ : ∃ H3, H3 = upd H2 r (.lst ((b.rows.map V.int).eraseIdx i)) := ⟨_, rfl⟩
  rw [← hH3]
  have up : ∀ {l : Addr}, l ≠ r → H3 l = H2 l := fun w => by rw [hH3]; exact upd_ne w
  have tup : Tup H2 H3 := by rw [hH3]; exact .upd O2.rows
  have a3 : H3 t = some (.ins (A .Table) dx [("rows_now", .ref r), ("coming", .int b.coming), ("held", .ref hh)]) := by rw [up n1]; exact O2.at_
  have h3 : H3 hh = some (.dK (es.map kvE)) := by rw [up n3.symm]; exact O2.held
  refine s_forCols (fun e => e.ds.eraseIdx i) (show 2 < 3 by decide) h3 O.nn O.nl4 (fun e he => (O2.cell e he).keep tup (up (O.ne_es he).2.1)) (fun od => ev_fld (ev_var rfl) (by rw [upd_ne n2]; exact a3) c (by decide) rfl) ?_ ?_
  · intro od e he σ' H' xs D hl hs hj fr hf hx vx k2
    have at' := fr _ _ a3 (by
      have nd := O.nd
      simp only [List.nodup_cons, List.mem_cons, not_or] at nd ⊢
      exact ⟨n2, nd.1.2.2⟩)
    refine s_popAt hx (ev_op (ev_fld (ev_var (by rw [hs 0 (by decide)]; rfl)) at' c (by decide) rfl) (ev_var hj) (fun H7 e7 Q q => .inr ⟨hh, .ref e.l, rfl, .inl ⟨_, .inr e.n, .inr ⟨od, e7 _ _ hf⟩, rfl, ?_⟩, q H7 (Ex.refl H7)⟩)) (ev_var (by rw [hs 1 (by decide)]; rfl)) (by rw [vx.length, O.wide e he]; exact hi) (by rw [vx.length, O.wide e he]; have := O.few.1; omega) fun H1' e1' => k2 H1' _ e1' ((vx.tup (.of_ex e1')).erase i)
    obtain ⟨e', h', hn, hf'⟩ := find_es (es := es) (z := e.n) (List.any_eq_true.mpr ⟨e, he, decide_eq_true rfl⟩)
    rw [valV_es, hf', O.sameN h' he hn]
    rfl
  · intro σ' H4 _ fr cs
    have off : ∀ {l : Addr}, l ∈ [t, r, hh] → l ∉ es.map (·.l) := fun {l} hm w => by
      obtain ⟨e, he, rfl⟩ := List.mem_map.mp w
      have := O.ne_es he
      simp only [List.mem_cons, List.not_mem_nil, or_false] at hm
      rcases hm with q | q | q
      · exact this.1 q
      · exact this.2.1 q
      · exact this.2.2 q
    refine k H4 _ (chg_all (g := fun e => e.ds.eraseIdx i) O (fr _ _ a3 (off (by simp))) (fr _ _ (show H3 r = some (.lst ((b.rows.eraseIdx i).map V.int)) by rw [hH3, upd_same, map_erase]) (off (by simp))) (fr _ _ h3 (off (by simp))) cs ?_ (fun e he => ?_) ?_) (fun bb o q nf => fr _ _ (by rw [up (fun z => nf (by rw [z]; simp))]; exact e2 _ _ q) fun w => nf (by simp only [List.mem_cons]; exact .inr (.inr (.inr w)))) (fun _ h => .inl h)
    · rw [chE_c (fun e => e.ds.eraseIdx i) (fun c => (c.1, c.2.eraseIdx i)) fun e => rfl, ← O.cols]
      rfl
    · rw [List.length_eraseIdx, List.length_eraseIdx, O.wide e he]
      rfl
    · rw [List.length_eraseIdx]
      have := O.few.1
      split <;> omega
/-! put_in -/
def sp_Table_put_in (K : PySem.W.Frag) (A : Cn → Addr) : Sp := fun vs H Q E => ∃ F t b v1 d1 v2 d2, vs = [.ref t, v1, v2] ∧ TabAt A F H t b ∧ Dt H v1 d1 ∧ DtF F H v2 d2 ∧ (∀ kv ∈ dictD d2, short2 kv.2) ∧ Out A F t H Q E (putInB b d1 d2)
def t_Table_put_in (K : PySem.W.Frag) (A : Cn → Addr) (E : XK) : TS :=
  tSeq (tDrop (tMetS (A .Table) "look_at_place" (sp_Table_look_at_place K A) (WE (fun cls d _ H => E cls d H)) (tVar 0) (tCons (tVar 1) (tCons (tOp (rAddA K) (tCB (rLenA K) (tCons (tFld K (tVar 0) "rows_now") tNil)) (tC (.int 1))) tNil))))
    (tSeq (tIfS (tTest (tOp rGeA (tCB (rLenA K) (tCons (tFld K (tVar 0) "rows_now") tNil)) (tC (.int 30)))) (tRaiseA (fun cls d _ H => E cls d H) (A .TooMuch)) tNext)
    (tSeq (tIfS (tNot (tB (tMetS (A .Table) "are_all" (sp_Table_are_all K A) (WE (fun cls d _ H => E cls d H)) (tVar 0) (tCons (tVar 2) tNil)))) (tRaiseA (fun cls d _ H => E cls d H) (A .NoValue)) tNext)
    (tSeq (tDrop (tBM K "list" rInsA (tFld K (tVar 0) "rows_now") (tCons (tVar 1) (tCons (tFld K (tVar 0) "coming") tNil))))
    (tSeq (sFld K (tVar 0) (tOp (rAddA K) (tFld K (tVar 0) "coming") (tC (.int 1))) "coming")
    (tLock (tFor (iKeys (tFld K (tVar 0) "held")) (gName 3) (tDrop (tBM K "list" rInsA (tOp (rIxA K) (tFld K (tVar 0) "held") (tVar 3)) (tCons (tVar 1) (tCons (tOp (rIxA K) (tVar 2) (tVar 3)) tNil))))))))))
theorem len_Table_put_in (vs : List V) (H : Hp) (Q : VK) (E : XK) (h : sp_Table_put_in K A vs H Q E) : vs.length = 3 := by obtain ⟨_, _, _, _, _, _, _, rfl, _⟩ := h; rfl
theorem q_ins {l : Addr} {xs : List V} {i : Nat} {v : V} (hl : H l = some (.lst xs)) (ha : Ev ta σ H (.ref l)) (h : Ev te σ H (.int (i : Int))) (hv : Ev tb σ H v) (hz : xs.length < 100000) (hi : i ≤ 100000) (k : ∀ H1, Ex H H1 → tz D σ (upd H1 l (.lst (insAt i v xs)))) :
    tSeq (tDrop (tBM K "list" rInsA ta (tCons te (tCons tb tNil)))) tz D σ H := s_ins (D := { D with nx := tz D }) hl ha h hv hz hi k
theorem ev_areAll {d : PyData} {v : V} {te : TE} (T : TabAt A F H t b) (ho : Ev ta σ H (.ref t)) (h : Ev te σ H v) (hv : DtF F H v d) (hs : ∀ kv ∈ dictD d, short2 kv.2) : Ev (tMetS (A .Table) "are_all" (sp_Table_are_all K A) Ex0 ta (tCons te tNil)) σ H (.bl (areAll b d)) := by
  obtain ⟨dx, fs, h1, hf⟩ := T.ins
  exact ev_met ho h1 (look_none hf (by decide)) (ea_cons h ea_nil) fun H1 e Q q E => ⟨F, t, b, v, d, rfl, T.ex' e, hv.ex e, hs, fun H2 e2 => q H2 e2⟩
theorem r_Table_put_in (c : ClK K (A .Table) tabF) (vs : List V) (H : Hp) (Q : VK) (E : XK) (h : sp_Table_put_in K A vs H Q E) : t_Table_put_in K A E { nx := fun _ H' => Q .non H', rt := Q } (L2.start ["self", "place", "values", "column"] vs) H := by
  obtain ⟨F, t, b, v, d, v2, d2, rfl, T, rd, rF, hs, k⟩ := h
  unfold t_Table_put_in
  unfold putInB at k
  refine q_lookP T (ev_var rfl) (ed_var rfl rd) (ev_op (ev_rowsN c T (ev_var rfl)) ev_c rv_addI) (fun q H1 e1 => ?_) (fun q H1 e1 => by rw [if_neg (by rw [q]; decide)] at k; exact k H1 e1)
  rw [if_pos q] at k
  have T := T.ex' e1
  refine q_when (et_test (ev_op (ev_rowsN c T (ev_var rfl)) ev_c rv_ge)) (fun hb H2 e2 => ?_) (fun hb H2 e2 => ?_)
  · rw [if_pos (by have := of_decide_eq_true hb; omega)] at k
    exact k H2 (e1.trans e2)
  have h30 : ¬ 30 ≤ b.rows.length := by have := of_decide_eq_false hb; omega
  rw [if_neg h30] at k
  have T := T.ex' e2
  refine q_when (et_not (et_B (ev_areAll T (ev_var rfl) (ev_var rfl) (rF.ex (e1.trans e2)) hs))) (fun hb H3 e3 => ?_) (fun hb H3 e3 => ?_)
  · rw [if_neg (by rw [not_eq_true_iff hb]; decide)] at k
    exact k H3 ((e1.trans e2).trans e3)
  have hall := not_eq_false_iff hb
  rw [if_pos hall] at k
  have T := T.ex' e3
  have E3 := (e1.trans e2).trans e3
  have k := Out.ex E3 k
  have rF := rF.ex E3
  clear hb
  obtain ⟨dx, r, hh, es, rfl, O⟩ := T.ex
  obtain ⟨i, rfl, hi⟩ : ∃ i : Nat, d = .int i ∧ i < b.rows.length + 1 := by
    obtain ⟨i, e, h⟩ := below_nat (n := b.rows.length + 1) (d := d) q
    exact ⟨i, e, h⟩
  obtain rfl := rd.i
  have f30 := O.few.1
  obtain ⟨L, rfl⟩ : ∃ L, d2 = .dict L := by
    cases d2 <;> first | exact ⟨_, rfl⟩ | cases hall
  have hval : ∀ e ∈ es, valAt L e.n = true := fun e he => by
    have : (decide (L.length = b.cols.length) && b.cols.all fun c => valAt L c.1) = true := hall
    rw [Bool.and_eq_true] at this
    have := List.all_eq_true.mp this.2 (cE e) (by rw [O.cols]; exact List.mem_map_of_mem he)
    exact this
  -- self.rows_now.insert(place, self.coming)
  refine q_ins O.rows (ev_rown c O (ev_var rfl)) (ev_var rfl) (ev_fld (f := "coming") (ev_var rfl) O.at_ c (by decide) rfl) (by rw [List.length_map]; omega) (by omega) fun H4 e4 => ?_
  have O4 := O.keep (.of_ex e4) fun l _ o q => e4 l o q
  obtain ⟨n1, n2, n3⟩ := O.ne3
  have a4 : upd H4 r (.lst (insAt i (V.int b.coming) (b.rows.map V.int))) t = some (.ins (A .Table) dx [("rows_now", .ref r), ("coming", .int b.coming), ("held", .ref hh)]) := by rw [upd_ne n1]; exact O4.at_
  refine q_fld (v := .int (b.coming + 1)) (ev_op (ev_fld (f := "coming") (ev_var rfl) a4 c (by decide) rfl) ev_c rv_addI) (ev_var rfl) a4 c (by decide) (show 3 < 1000 by decide) fun H5 e5 => ?_
  have pf : putF "coming" (.int (b.coming + 1)) ([("rows_now", .ref r), ("coming", .int b.coming), ("held", .ref hh)] : List (Str × V)) = ([("rows_now", .ref r), ("coming", .int (b.coming + 1)), ("held", .ref hh)] : List (Str × V)) := rfl
  rw [pf]
  obtain ⟨H6, hH6⟩ : ∃ H6, H6 = upd H5 t (.ins (A .Table) dx [("rows_now", .ref r), ("coming", .int (b.coming + 1)), ("held", .ref hh)]) := ⟨_, rfl⟩
  rw [← hH6]
  have up : ∀ {l : Addr} {o : HO}, l ≠ r → l ≠ t → H4 l = some o → H6 l = some o := fun w1 w2 q => by rw [hH6, upd_ne w2]; exact e5 _ _ (by rw [upd_ne w1]; exact q)
  have a6 : H6 t = some (.ins (A .Table) dx [("rows_now", .ref r), ("coming", .int (b.coming + 1)), ("held", .ref hh)]) := by rw [hH6, upd_same]
  have r6 : H6 r = some (.lst ((insAt i b.coming b.rows).map V.int)) := by rw [hH6, upd_ne n1.symm, map_ins]; exact e5 _ _ upd_same
  have h6 : H6 hh = some (.dK (es.map kvE)) := up n3.symm n2.symm O4.held
  have tup : Tup H4 H6 := fun bb ys q => up (fun w => by rw [w, O4.rows] at q; cases q) (fun w => by rw [w, O4.at_] at q; cases q) q
  have c6 : ∀ e ∈ es, ColAt H6 e := fun e he => by
    obtain ⟨ws, w1, w2⟩ := O4.cell e he
    exact ⟨ws, up (O.ne_es he).2.1 (O.ne_es he).1 w1, w2.tup tup⟩
  have f6 : Fr (t :: r :: hh :: es.map (·.l)) H3 H6 := fun bb o q n => up (fun w => n (by rw [w]; simp)) (fun w => n (by rw [w]; simp)) (e4 _ _ q)
  have off : ∀ {l : Addr}, l ∈ [t, r, hh] → l ∉ es.map (·.l) := fun {l} hm w => by
    obtain ⟨e, he, rfl⟩ := List.mem_map.mp w
    have := O.ne_es he
    simp only [List.mem_cons, List.not_mem_nil, or_false] at hm
    rcases hm with q | q | q
    · exact this.1 q
    · exact this.2.1 q
    · exact this.2.2 q
  refine s_forCols (fun e => insAt i ((dget L e.n).getD .none) e.ds) (show 3 < 4 by decide) h6 O.nn O.nl4 c6 (fun od => ev_fld (ev_var rfl) (by rw [upd_ne n2]; exact a6) c (by decide) rfl) ?_ ?_
  · intro od e he σ' H' xs D hl hs' hj fr hf hx vx k2
    have at' := fr _ _ a6 (by rw [List.mem_cons, not_or]; exact ⟨n2, off (by simp)⟩)
    obtain ⟨a2, kvs2, ds2, ev2, ha2, rd2, eL⟩ := (rF H' (f6.trans fun bb o q n => fr _ _ q fun w => n (by simp only [List.mem_cons] at w ⊢; exact .inr (.inr w)))).dictInv rfl
    have hv := hval e he
    unfold valAt at hv
    rcases dget_of rd2 e.n with ⟨q1, q2⟩ | ⟨w, x, q1, q2, rx⟩
    · rw [← eL] at q2
      rw [q2] at hv
      cases hv
    · rw [← eL] at q2
      rw [q2] at hv
      have wx := vt_of rx hv
      refine s_ins hx (ev_op (ev_fld (ev_var (by rw [hs' 0 (by decide)]; rfl)) at' c (by decide) rfl) (ev_var hj) (fun H7 e7 Q q => .inr ⟨hh, .ref e.l, rfl, .inl ⟨_, .inr e.n, .inr ⟨od, e7 _ _ hf⟩, rfl, ?_⟩, q H7 (Ex.refl H7)⟩)) (ev_var (by rw [hs' 1 (by decide)]; rfl)) (ev_op (ev_var (by rw [hs' 2 (by decide)]; exact congrArg (fun z => some (some z)) ev2)) (ev_var hj) (rv_ixDk (k := .inr e.n) ha2 q1)) (by rw [vx.length, O.wide e he]; omega) (by omega) fun H1' e1' => k2 H1' _ e1' ?_
      · obtain ⟨e', h', hn, hf'⟩ := find_es (es := es) (z := e.n) (List.any_eq_true.mpr ⟨e, he, decide_eq_true rfl⟩)
        rw [valV_es, hf', O.sameN h' he hn]
        rfl
      · rw [q2]
        exact (vx.tup (.of_ex e1')).ins (wx.tup (.of_ex e1')) i
  · intro σ' H7 _ fr cs
    refine k H7 _ (chg_all (g := fun e => insAt i ((dget L e.n).getD .none) e.ds) O (fr _ _ a6 (off (by simp))) (fr _ _ r6 (off (by simp))) (fr _ _ h6 (off (by simp))) cs ?_ (fun e he => ?_) ?_) (fun bb o q nf => fr _ _ (f6 _ _ q nf) fun w => nf (by simp only [List.mem_cons]; exact .inr (.inr (.inr w)))) (fun _ h => .inl h)
    · rw [chE_c (fun e => insAt i ((dget L e.n).getD .none) e.ds) (fun c => (c.1, insAt i ((dget L c.1).getD .none) c.2)) fun e => rfl, ← O.cols]
      rfl
    · show (insAt i _ e.ds).length = (insAt i _ b.rows).length
      rw [ins_len (by rw [O.wide e he]; omega), ins_len (by omega), O.wide e he]
    · show (insAt i _ b.rows).length ≤ 30
      rw [ins_len (by omega)]
      omega
end
end Z

set_option Elab.async false
set_option linter.all false
set_option autoImplicit false
set_option maxRecDepth 100000
set_option maxHeartbeats 4000000
/-! ev: what an expression comes to, by its form -/
local macro_rules | `(tactic| k_places) => `(tactic| (repeat' (first
  | (with_reducible exact ev_c)
  | (with_reducible exact ev_var rfl)
  | (with_reducible refine ev_chainLL ?_ ?_ ?_)
  | (with_reducible refine ev_chainLt ?_ ?_ ?_)
  | (with_reducible refine ev_op ?_ ?_ ?_)
  | (with_reducible refine ev_neg ?_)
  | (with_reducible refine et_test ?_)
  | (with_reducible refine et_B ?_)
  | (with_reducible refine et_not ?_)
  | (with_reducible refine et_and ?_ (fun _ => ?_))
  | (with_reducible refine et_or ?_ (fun _ => ?_))
  | (with_reducible refine ev_andV ?_ (fun _ => ?_))
  | (with_reducible refine ev_orV ?_ (fun _ => ?_))
  | (with_reducible refine ev_notV ?_)
  | (with_reducible exact rv_addI)
  | (with_reducible exact rv_subI)
  | (with_reducible exact rv_lt)
  | (with_reducible exact rv_le)
  | (with_reducible exact rv_gt)
  | (with_reducible exact rv_ge)
  | (with_reducible exact rv_isB)
  | (with_reducible exact rv_isnB)
  | (with_reducible exact rv_isN)
  | (with_reducible exact rv_isnN)
  | (with_reducible exact rv_eqS rfl)
  | (with_reducible exact rv_neS rfl)
  | (with_reducible exact rv_inStr)
  | (with_reducible exact rv_ninStr)
  | (with_reducible exact rv_mod (by first | decide | omega | assumption))
  | (with_reducible exact rv_div (by first | decide | omega | assumption))
  | (with_reducible exact rv_pow (by decide))
  | (with_reducible refine ed_i ?_; done)
  | (with_reducible exact ea_nil)
  | (with_reducible refine ea_cons ?_ ?_)
  | (with_reducible exact eds_nil)
  | (with_reducible refine eds_cons ?_ ?_)
  | (with_reducible exact ed_dnew)
  | (with_reducible refine ed_lst ?_ (by simp only [List.length_cons, List.length_nil]; omega))
  | (with_reducible refine ed_tup ?_ (by simp only [List.length_cons, List.length_nil]; omega)))))
namespace Z
open PySem PySem.Spec PyProof.Rows L2 Evl
/-! a pair with own lists beside it -/
section
variable {K : PySem.W.Frag} {A : Cn → Addr} {B H H' : Hp} {t h : Addr} {F F' : List Addr} {b b' : Tb} {es es' : List Ent}
abbrev Cell := Addr × List V
structure Pc (A : Cn → Addr) (B : Hp) (t h : Addr) (H : Hp) (F : List Addr) (b : Tb) (es : List Ent) (cs : List Cell) : Prop extends Pair A B t h H F b es where
  cells : ∀ c ∈ cs, H c.1 = some (.lst c.2) ∧ B c.1 = none ∧ ¬ Foot h F es c.1
  cnd : (cs.map (·.1)).Nodup
variable {cs : List Cell}
theorem Pc.mono (I : Pc A B t h H F b es cs) (e : Ex H H') : Pc A B t h H' F b es cs := ⟨I.toPair.mono e, fun c hc => ⟨e _ _ (I.cells c hc).1, (I.cells c hc).2⟩, I.cnd⟩
/-- the pair has changed, and maybe some of the cells -/
theorem Pc.chg (I : Pc A B t h H F b es cs) (P : Pair A B t h H' F' b' es') (cs' : List Cell) (hm : cs'.map (·.1) = cs.map (·.1)) (hc : ∀ c ∈ cs', H' c.1 = some (.lst c.2)) (nw : ∀ a, Foot h F' es' a → Foot h F es a ∨ H a = none) : Pc A B t h H' F' b' es' cs' := by
  refine ⟨P, fun c hc' => ?_, by rw [hm]; exact I.cnd⟩
  have : c.1 ∈ cs.map (·.1) := by rw [← hm]; exact List.mem_map_of_mem hc'
  obtain ⟨c0, h0, e0⟩ := List.mem_map.mp this
  obtain ⟨q1, q2, q3⟩ := I.cells c0 h0
  rw [e0] at q1 q2 q3
  exact ⟨hc c hc', q2, fun q => (nw _ q).elim q3 fun z => by rw [z] at q1; cases q1⟩
theorem Pc.fr (I : Pc A B t h H F b es cs) (T : TabAt A F' H' t b') (f : Fr F H H') (n : ∀ a ∈ F', a ∈ F ∨ H a = none) : Pc A B t h H' F' b' es cs :=
  I.chg (I.toPair.fr T f n) cs rfl (fun c hc => f _ _ (I.cells c hc).1 fun z => (I.cells c hc).2.2 (.inl z)) fun a m => m.elim (fun m => (n a m).imp .inl id) fun m => .inl (.inr m)
theorem Pc.drop (I : Pc A B t h H F b es cs) (z : Str) : Pc A B t h (L2.upd H h (.dK (dropK (es.map kvE) (.inr z)))) F b (es.filter fun e => decide (e.n ≠ z)) cs :=
  I.chg (I.toPair.drop z) cs rfl (fun c hc => by rw [upd_ne (fun q => (I.cells c hc).2.2 (.inr (by rw [q]; simp)))]; exact (I.cells c hc).1) fun a m => m.elim (fun m => .inl (.inl m)) fun m => .inl (.inr (by
    rcases List.mem_cons.mp m with q | q
    · exact List.mem_cons.mpr (.inl q)
    · exact List.mem_cons.mpr (.inr ((List.filter_sublist.map _).subset q))))
/-- a cell's list becomes another -/
theorem Pc.set (I : Pc A B t h H F b es cs) {i : Nat} {p : Addr} {xs : List V} (hi : cs[i]? = some (p, xs)) (ys : List V) : Pc A B t h (L2.upd H p (.lst ys)) F b es (cs.set i (p, ys)) := by
  have hm := List.mem_of_getElem? hi
  obtain ⟨q1, q2, q3⟩ := I.cells _ hm
  obtain ⟨hlt, hie⟩ := List.getElem?_eq_some_iff.mp hi
  have em : (cs.set i (p, ys)).map (·.1) = cs.map (·.1) := by
    rw [List.map_set]
    refine List.ext_getElem? fun j => ?_
    rw [List.getElem?_set]
    split
    · rename_i e
      subst e
      rw [if_pos (by rw [List.length_map]; exact hlt), List.getElem?_map, hi]
      rfl
    · rfl
  refine ⟨I.toPair.upd q2 (fun z => q3 (.inl z)) (fun z => q3 (.inr z)) q1, fun c hc => ?_, by rw [em]; exact I.cnd⟩
  obtain ⟨j, hj, rfl⟩ := List.getElem_of_mem hc
  rw [List.length_set] at hj
  by_cases e : i = j
  · subst e
    rw [List.getElem_set_self]
    exact ⟨upd_same, q2, q3⟩
  · rw [List.getElem_set_ne e]
    have hjm := List.getElem_mem hj
    refine ⟨?_, (I.cells _ hjm).2⟩
    rw [upd_ne]
    · exact (I.cells _ hjm).1
    · intro q
      have nd := I.cnd
      unfold List.Nodup at nd
      rw [List.pairwise_map] at nd
      rcases Nat.lt_or_gt_of_ne e with lt | lt
      · exact (List.pairwise_iff_getElem.mp nd i j hlt hj lt) (by rw [hie]; exact q.symm)
      · exact (List.pairwise_iff_getElem.mp nd j i hj hlt lt) (by rw [hie]; exact q)
/-- what stands elsewhere becomes part of what stood ahead -/
theorem Pc.grow (I : Pc A B t h H F b es cs) {p : Addr} {o : HO} (hp : H p = some o) (nf : ¬ Foot h F es p) (nc : ∀ c ∈ cs, c.1 ≠ p) : Pc A (L2.upd B p o) t h H F b es cs := by
  refine ⟨⟨fun a u q => ?_, I.tab, I.dict, fun a ha => ?_, fun a ha => ⟨?_, (I.offD a ha).2⟩⟩, fun c hc => ⟨(I.cells c hc).1, ?_, (I.cells c hc).2.2⟩, I.cnd⟩
  · by_cases z : a = p
    · rw [z, upd_same] at q; rw [z, ← q]; exact hp
    · rw [upd_ne z] at q; exact I.ex _ _ q
  · rw [upd_ne (show a ≠ p from fun z => nf (.inl (by rw [← z]; exact ha)))]; exact I.offF a ha
  · rw [upd_ne (show a ≠ p from fun z => nf (.inr (by rw [← z]; exact ha)))]; exact (I.offD a ha).1
  · rw [upd_ne (nc c hc)]; exact (I.cells c hc).2.1
theorem Pc.offNone (I : Pc A B t h H F b es cs) {p : Addr} (hp : H p = none) : ¬ Foot h F es p ∧ ∀ c ∈ cs, c.1 ≠ p :=
  ⟨fun q => q.elim (I.tab.off hp) (I.dict.off hp), fun c hc q => by have := (I.cells c hc).1; rw [q, hp] at this; cases this⟩
/-! arguments of which the last is only known by what it is -/
variable {σ : L2.St} {ta te tx tb : TE} {D : Ends} {tz tu : TS} {Q : VK}
def EvPs (tas : TA) (σ : L2.St) (H : Hp) (R : List V → Hp → Prop) : Prop := ∀ H1, Ex H H1 → ∀ Q : List V → Hp → Prop, (∀ vs H2, Ex H1 H2 → R vs H2 → Q vs H2) → tas σ H1 Q
theorem ep_cons {tas : TA} {v : V} {R : List V → Hp → Prop} (h : Ev te σ H v) (r : EvPs tas σ H R) : EvPs (tCons te tas) σ H (fun vs H2 => ∃ ws, vs = v :: ws ∧ R ws H2) := fun H1 e Q q =>
  h H1 e _ fun H2 e2 => r H2 (e.trans e2) _ fun ws H3 e3 hr => q _ H3 (e2.trans e3) ⟨ws, rfl, hr⟩
theorem ep_last {R : V → Hp → Prop} (h : ∀ H1, Ex H H1 → ∀ Q : VK, (∀ v H2, Ex H1 H2 → R v H2 → Q v H2) → te σ H1 Q) : EvPs (tCons te tNil) σ H (fun vs H2 => ∃ v, vs = [v] ∧ R v H2) := fun H1 e Q q =>
  h H1 e _ fun v H2 e2 hr => q [v] H2 e2 ⟨v, rfl, hr⟩
theorem s_retP {sp : Sp} {R : List V → Hp → Prop} {E : L2.St → XK} {tas : TA} (h : EvPs tas σ H R) (k : ∀ vs H1, Ex H H1 → R vs H1 → sp vs H1 D.rt (E σ)) : tRet (tCallS sp E tas) D σ H := h H (Ex.refl H) _ fun vs H1 e1 r => k vs H1 e1 r
theorem q_metP {m : Str} {sp : Sp} {tas : TA} {R : List V → Hp → Prop} {Ex0 : L2.St → XK} (T : TabAt A F H t b) (hm : m ∉ tabF) (ho : Ev ta σ H (.ref t)) (h : EvPs tas σ H R) (k : ∀ vs H1, Ex H H1 → R vs H1 → TabAt A F H1 t b → sp (.ref t :: vs) H1 (fun _ H2 => tz D σ H2) (Ex0 σ)) :
    tSeq (tDrop (tMetS (A .Table) m sp Ex0 ta tas)) tz D σ H := by
  obtain ⟨dx, fs, hi, hf⟩ := T.ins
  exact ho H (Ex.refl H) _ fun H2 e2 => ⟨t, dx, fs, rfl, e2 _ _ hi, look_none hf hm, h H2 e2 _ fun vs H3 e3 r3 => k vs H3 (e2.trans e3) r3 (T.ex' (e2.trans e3))⟩
/-- {} -/
theorem x_dnew {F : List Addr} (hF : ∀ a ∈ F, ∃ o, H a = some o) : ∀ H1, Ex H H1 → ∀ Q : VK, (∀ v H2, Ex H1 H2 → DtF F H2 v (.dict []) → Q v H2) → tDNewK σ H1 Q := fun H1 e Q q p hp =>
  q _ _ (Ex.new hp) fun H2 f => .dct (kvs := []) (ds := []) (f _ _ upd_same fun z => by obtain ⟨o, w⟩ := hF p z; rw [e _ _ w] at hp; cases hp) .nil
/-- dict(d) -/
theorem x_dict {d : Addr} {kvs : List (Key × V)} {ds : List PyData} {F : List Addr} (h : Ev ta σ H (.ref d)) (hd : H d = some (.dK kvs)) (hF : ∀ a ∈ F, ∃ o, H a = some o) (hn : ∀ a ∈ F, ∀ xs, H a ≠ some (.tup xs)) (hv : VtAll H (kvs.map (·.2)) ds) : ∀ H1, Ex H H1 → ∀ Q : VK, (∀ v H2, Ex H1 H2 → DtF F H2 v (.dict ((kvs.map fun kv => kD kv.1).zip ds)) → Q v H2) → tCB rDictA (tCons ta tNil) σ H1 Q := fun H1 e Q q =>
  h H1 e _ fun H2 e2 => ⟨d, kvs, rfl, .inl ((e.trans e2) _ _ hd), fun p hp => q _ _ (e2.trans (Ex.new hp)) fun H3 f => .dct (f _ _ upd_same fun z => by
      obtain ⟨o, w⟩ := hF p z; rw [(e.trans e2) _ _ w] at hp; cases hp) (((hv.tup (.of_ex (e.trans e2))).tup (.of_ex (Ex.new hp))).tup fun bb xs w => f _ _ w fun z => by
      obtain ⟨o, w2⟩ := hF bb z
      have w3 := (Ex.new (o := HO.dK kvs) hp) _ _ ((e.trans e2) _ _ w2)
      rw [w] at w3
      cases w3
      exact hn bb z xs w2).dt⟩
theorem TabAt.hF (T : TabAt A F H t b) : (∀ a ∈ F, ∃ o, H a = some o) ∧ ∀ a ∈ F, ∀ xs, H a ≠ some (.tup xs) := ⟨T.there, fun _ ha _ => T.noTup ha⟩
/-! dicts of names and values in the making -/
def kvz (ns : List Str) (ws : List V) : List (Key × V) := (ns.zip ws).map fun q => (.inr q.1, q.2)
theorem kvz_none : ∀ {ns : List Str} {ws : List V} {z : Str}, z ∉ ns → valV (kvz ns ws) (.inr z) = none
  | [], _, _, _ => rfl
  | n :: ns, [], _, _ => rfl
  | n :: ns, w :: ws, z, h => by
    rw [List.mem_cons, not_or] at h
    show valV ((Sum.inr n, w) :: kvz ns ws) (.inr z) = none
    rw [valV_neg (fun q => h.1 (Sum.inr.inj q).symm)]
    exact kvz_none h.2
theorem kvz_some : ∀ {ns : List Str} {ws : List V} {z : Str}, z ∈ ns → ns.length = ws.length → ∃ w, valV (kvz ns ws) (.inr z) = some w
  | [], _, _, h, _ => by cases h
  | n :: ns, [], _, _, l => by cases l
  | n :: ns, w :: ws, z, h, l => by
    show ∃ x, valV ((Sum.inr n, w) :: kvz ns ws) (.inr z) = some x
    by_cases e : n = z
    · exact ⟨w, valV_pos (p := ((Sum.inr n : Key), w)) (by rw [e])⟩
    · rw [valV_neg (fun q => e (Sum.inr.inj q))]
      exact kvz_some ((List.mem_cons.mp h).resolve_left fun q => e q.symm) (by simpa using l)
theorem kvz_len {ns : List Str} {ws : List V} (h : ns.length = ws.length) : (kvz ns ws).length = ns.length := by
  unfold kvz
  rw [List.length_map, List.length_zip, ← h, Nat.min_self]
theorem kvz_snd {ns : List Str} {ws : List V} (h : ns.length = ws.length) : (kvz ns ws).map (·.2) = ws := by
  unfold kvz
  rw [List.map_map]
  exact List.map_snd_zip (by omega)
theorem kvz_snoc {ns : List Str} {ws : List V} {z : Str} {w : V} (h : ns.length = ws.length) (hz : z ∉ ns) : putK (kvz ns ws) (.inr z) w = kvz (ns ++ [z]) (ws ++ [w]) := by
  rw [putK_new w (kvz_none hz)]
  unfold kvz
  rw [List.zip_append h, List.map_append]
  rfl
theorem s_setKW {p : Addr} {kvs : List (Key × V)} {k : Key} (h : H p = some (.dK kvs)) (hv : EvW te σ H) (ho : Ev ta σ H (.ref p)) (hk : Ev tb σ H (kV k)) (hl : kvs.length < 100000) (kk : ∀ d v H1, isValueD d = true → Ex H H1 → Vt H1 v d → D.nx σ (L2.upd H1 p (.dK (putK kvs k v)))) : tAsg te (gSub ta tb rSetA) D σ H :=
  hv H (Ex.refl H) _ fun d v H1 hd e1 r => ho H1 e1 _ fun H2 e2 => hk H2 (e1.trans e2) _ fun H3 e3 => .inr ⟨p, _, rfl, DPut.k (((e1.trans e2).trans e3) _ _ h) (sz_lt hl), kk d v H3 hd ((e1.trans e2).trans e3) ((r.tup (.of_ex e2)).tup (.of_ex e3))⟩
theorem q_setAW {l : Addr} {xs : List V} {j : Nat} (hl : H l = some (.lst xs)) (h : EvW te σ H) (ho : Ev ta σ H (.ref l)) (hi : Ev tb σ H (.int (j : Int))) (hj : j < xs.length) (k : ∀ d v H1, isValueD d = true → Ex H H1 → Vt H1 v d → tz D σ (L2.upd H1 l (.lst (xs.set j v)))) :
    tSeq (tAsg te (gSub ta tb rSetA)) tz D σ H := h H (Ex.refl H) _ fun d v H1 hd e1 r => ho H1 e1 _ fun H2 e2 => hi H2 (e1.trans e2) _ fun H3 e3 =>
  .inl ⟨l, xs, (j : Int), j, rfl, rfl, ((e1.trans e2).trans e3) l _ hl, ixN_nat hj, k d v H3 hd ((e1.trans e2).trans e3) ((r.tup (.of_ex e2)).tup (.of_ex e3))⟩
theorem el_slL {tl th : TO} {xs : List V} {lo hi : Option Int} (h : EvL te σ H xs) (h1 : EvO tl σ H lo) (h2 : EvO th σ H hi) : EvL (tSl (rSlA K) te tl th) σ H (cutV xs lo hi) := fun H1 e _ q =>
  h H1 e _ fun a H2 ha e2 hx => h1 H2 (e.trans e2) _ fun H3 e3 => h2 H3 ((e.trans e2).trans e3) _ fun H4 e4 =>
    .inl ⟨a, xs, rfl, SqL.of (e4 _ _ (e3 _ _ hx)), fun p hp => q p _ (fresh_back ((e2.trans e3).trans e4) hp) (((e2.trans e3).trans e4).trans (Ex.new hp)) upd_same⟩
theorem cut_tail (xs : List V) : cutV xs (some 1) none = xs.drop 1 := by
  cases xs with
  | nil => rfl
  | cons a r =>
    have e : cutV (a :: r) (some 1) none = ((a :: r).drop 1).take ((a :: r).length - 1) := by
      show ((a :: r).drop (HT.sIx (a :: r).length 0 (some ((1 : Nat) : Int)))).take (HT.sIx (a :: r).length (a :: r).length none - HT.sIx (a :: r).length 0 (some ((1 : Nat) : Int))) = _
      rw [HT.sIx_nat, Nat.min_eq_left (by simp)]
      rfl
    rw [e, List.take_of_length_le]
    rw [List.length_drop]
    exact Nat.le_refl _
theorem el_cat {xs ys : List V} (h1 : EvL ta σ H xs) (h2 : EvL tb σ H ys) (hl : xs.length + ys.length ≤ 100000) : EvL (tOp (rAddA K) ta tb) σ H (xs ++ ys) := fun H1 e Q q =>
  h1 H1 e _ fun p H2 _ e2 hp => h2 H2 (e.trans e2) _ fun r H3 _ e3 hr => .inr (.inr (.inl ⟨p, r, xs, ys, rfl, rfl, e3 _ _ hp, hr, sz_of hl, fun u hu => q u _ (fresh_back (e2.trans e3) hu) ((e2.trans e3).trans (Ex.new hu)) upd_same⟩))
theorem nil_no {α : Type} {l : List α} {P : α → Prop} (h : l.length = ([] : List α).length) {x : α} (hx : x ∈ l) : P x := by
  rw [List.eq_nil_of_length_eq_zero h] at hx
  cases hx
/-- d == {} -/
theorem ev_eqE {d : Addr} {kvs : List (Key × V)} (h : Ev ta σ H (.ref d)) (hd : H d = some (.dK kvs)) : Ev (tOp (rEqA K) ta tDNewK) σ H (.bl (decide (kvs.length = 0))) := fun H1 e Q q =>
  h H1 e _ fun H2 e2 p hp => .inr (.inr (.inl ⟨d, p, kvs, [], rfl, rfl, (Ex.new hp) _ _ ((e.trans e2) _ _ hd), upd_same,
    (fun hl r hr => (nil_no (P := fun _ => False) hl hr).elim), q _ (e2.trans (Ex.new hp))⟩))
theorem s_forNLn {xs : List V} {tl : TE} {j : Nat} (h : EvL tl σ H xs) (Pv : Addr → Nat → L2.St → Hp → Prop) (h0 : ∀ p H1, H p = none → Ex H H1 → H1 p = some (.lst xs) → Pv p 0 σ H1) (hl : ∀ p i σ' H', i ≤ xs.length → Pv p i σ' H' → SqL K H' p xs)
    (hs : ∀ p i x σ' H', xs[i]? = some x → Pv p i σ' H' → tu { D with nx := Pv p (i + 1), ct := Pv p (i + 1), bk := D.nx } (σ'.set j (some x)) H') (hd : ∀ p σ' H', Pv p xs.length σ' H' → D.nx σ' H') : tFor (iList K tl) (gName j) tu D σ H := s_forNL h Pv h0 hl hs hd
theorem Pc.addCell {p : Addr} {xs : List V} (I : Pc A B t h H F b es cs) (hp : H p = some (.lst xs)) (nB : B p = none) (nf : ¬ Foot h F es p) (nc : ∀ c ∈ cs, c.1 ≠ p) : Pc A B t h H F b es (cs ++ [(p, xs)]) := by
  refine ⟨I.toPair, fun c hc => ?_, ?_⟩
  · rcases List.mem_append.mp hc with hc | hc
    · exact I.cells c hc
    · rw [List.mem_singleton.mp hc]
      exact ⟨hp, nB, nf⟩
  · rw [List.map_append, List.nodup_append]
    refine ⟨I.cnd, by simp, fun a ha b hb => ?_⟩
    obtain ⟨c, hc, rfl⟩ := List.mem_map.mp ha
    rw [List.mem_singleton.mp hb]
    exact nc c hc
end
end Z

set_option Elab.async false
set_option linter.all false
set_option autoImplicit false
set_option maxRecDepth 100000
set_option maxHeartbeats 4000000
/-! ev: what an expression comes to, by its form -/
local macro_rules | `(tactic| k_places) => `(tactic| (repeat' (first
  | (with_reducible exact ev_c)
  | (with_reducible exact ev_var rfl)
  | (with_reducible refine ev_chainLL ?_ ?_ ?_)
  | (with_reducible refine ev_chainLt ?_ ?_ ?_)
  | (with_reducible refine ev_op ?_ ?_ ?_)
  | (with_reducible refine ev_neg ?_)
  | (with_reducible refine et_test ?_)
  | (with_reducible refine et_B ?_)
  | (with_reducible refine et_not ?_)
  | (with_reducible refine et_and ?_ (fun _ => ?_))
  | (with_reducible refine et_or ?_ (fun _ => ?_))
  | (with_reducible refine ev_andV ?_ (fun _ => ?_))
  | (with_reducible refine ev_orV ?_ (fun _ => ?_))
  | (with_reducible refine ev_notV ?_)
  | (with_reducible exact rv_addI)
  | (with_reducible exact rv_subI)
  | (with_reducible exact rv_lt)
  | (with_reducible exact rv_le)
  | (with_reducible exact rv_gt)
  | (with_reducible exact rv_ge)
  | (with_reducible exact rv_isB)
  | (with_reducible exact rv_isnB)
  | (with_reducible exact rv_isN)
  | (with_reducible exact rv_isnN)
  | (with_reducible exact rv_eqS rfl)
  | (with_reducible exact rv_neS rfl)
  | (with_reducible exact rv_inStr)
  | (with_reducible exact rv_ninStr)
  | (with_reducible exact rv_mod (by first | decide | omega | assumption))
  | (with_reducible exact rv_div (by first | decide | omega | assumption))
  | (with_reducible exact rv_pow (by decide))
  | (with_reducible refine ed_i ?_; done)
  | (with_reducible exact ea_nil)
  | (with_reducible refine ea_cons ?_ ?_)
  | (with_reducible exact eds_nil)
  | (with_reducible refine eds_cons ?_ ?_)
  | (with_reducible exact ed_dnew)
  | (with_reducible refine ed_lst ?_ (by simp only [List.length_cons, List.length_nil]; omega))
  | (with_reducible refine ed_tup ?_ (by simp only [List.length_cons, List.length_nil]; omega)))))
namespace Z
open PySem PySem.Spec PyProof.Rows L2 Evl
/-! a law's own rows: a list of [number, dict] -/
structure Rec where
  rl : Addr
  dd : Addr
  n : Int
  kvs : List (Key × V)
structure RowsOk (H : Hp) (pr : Addr) (rs : List Rec) : Prop where
  nr : (rs.map (·.rl)).Nodup
  nd : (rs.map (·.dd)).Nodup
  at_ : H pr = some (.lst (rs.map fun r => V.ref r.rl))
  row : ∀ r ∈ rs, H r.rl = some (.lst [.int r.n, .ref r.dd]) ∧ H r.dd = some (.dK r.kvs)
/-- the places of the rows -/
def GF (pr : Addr) (rs : List Rec) (a : Addr) : Prop := a = pr ∨ ∃ r ∈ rs, a = r.rl ∨ a = r.dd
section
variable {H H' : Hp} {pr : Addr} {rs : List Rec}
theorem RowsOk.keep (R : RowsOk H pr rs) (k : ∀ a o, GF pr rs a → H a = some o → H' a = some o) : RowsOk H' pr rs :=
  ⟨R.nr, R.nd, k _ _ (.inl rfl) R.at_, fun r hr => ⟨k _ _ (.inr ⟨r, hr, .inl rfl⟩) (R.row r hr).1, k _ _ (.inr ⟨r, hr, .inr rfl⟩) (R.row r hr).2⟩⟩
theorem RowsOk.there (R : RowsOk H pr rs) {a : Addr} (h : GF pr rs a) : ∃ o, H a = some o := by
  rcases h with rfl | ⟨r, hr, rfl | rfl⟩
  · exact ⟨_, R.at_⟩
  · exact ⟨_, (R.row r hr).1⟩
  · exact ⟨_, (R.row r hr).2⟩
theorem RowsOk.noTup (R : RowsOk H pr rs) {a : Addr} (h : GF pr rs a) {xs : List V} : H a ≠ some (.tup xs) := by
  rcases h with rfl | ⟨r, hr, rfl | rfl⟩
  · rw [R.at_]; exact fun z => nomatch z
  · rw [(R.row r hr).1]; exact fun z => nomatch z
  · rw [(R.row r hr).2]; exact fun z => nomatch z
theorem RowsOk.pr_ne (R : RowsOk H pr rs) {r : Rec} (hr : r ∈ rs) : r.rl ≠ pr ∧ r.dd ≠ pr ∧ ∀ r' ∈ rs, r'.rl ≠ r.dd := by
  refine ⟨fun q => ?_, fun q => ?_, fun r' hr' q => ?_⟩
  · have h1 := (R.row r hr).1
    rw [q, R.at_] at h1
    have h1 := Option.some.inj h1
    have h1 : (rs.map fun r => V.ref r.rl) = [.int r.n, .ref r.dd] := by injection h1
    cases rs with
    | nil => cases h1
    | cons a s => rw [List.map_cons] at h1; injection h1 with h2; cases h2
  · have h1 := (R.row r hr).2
    rw [q, R.at_] at h1
    cases h1
  · have h1 := (R.row r hr).2
    rw [← q, (R.row r' hr').1] at h1
    cases h1
theorem nodup_at {α β : Type} {f : α → β} {l : List α} (nd : (l.map f).Nodup) {i j : Nat} {a b : α} (hi : l[i]? = some a) (hj : l[j]? = some b) (q : f a = f b) : i = j := by
  obtain ⟨h1, rfl⟩ := List.getElem?_eq_some_iff.mp hi
  obtain ⟨h2, rfl⟩ := List.getElem?_eq_some_iff.mp hj
  unfold List.Nodup at nd
  rw [List.pairwise_map] at nd
  rcases Nat.lt_trichotomy i j with lt | rfl | lt
  · exact absurd q (List.pairwise_iff_getElem.mp nd i j h1 h2 lt)
  · rfl
  · exact absurd q.symm (List.pairwise_iff_getElem.mp nd j i h2 h1 lt)
theorem map_set_same {α β : Type} (f : α → β) {l : List α} {i : Nat} {a a' : α} (hi : l[i]? = some a) (h : f a' = f a) : (l.set i a').map f = l.map f := by
  refine List.ext_getElem? fun j => ?_
  rw [List.getElem?_map, List.getElem?_map, List.getElem?_set]
  split
  · rename_i e
    subst e
    rw [if_pos (List.getElem?_eq_some_iff.mp hi).1, hi]
    exact congrArg some h
  · rfl
/-- one row's dict changes -/
theorem RowsOk.setKv (R : RowsOk H pr rs) {i : Nat} {r : Rec} (hi : rs[i]? = some r) (kvs : List (Key × V)) : RowsOk (upd H r.dd (.dK kvs)) pr (rs.set i { r with kvs := kvs }) := by
  have hm := List.mem_of_getElem? hi
  have ne := R.pr_ne hm
  refine ⟨by rw [map_set_same (a' := { r with kvs := kvs }) (·.rl) hi rfl]; exact R.nr, by rw [map_set_same (a' := { r with kvs := kvs }) (·.dd) hi rfl]; exact R.nd, by rw [upd_ne ne.2.1.symm, map_set_same (a' := { r with kvs := kvs }) (fun r => V.ref r.rl) hi rfl]; exact R.at_, fun r' hr' => ?_⟩
  obtain ⟨j, hj⟩ := List.mem_iff_getElem?.mp hr'
  rw [List.getElem?_set] at hj
  split at hj
  · rename_i e
    subst e
    rw [if_pos (List.getElem?_eq_some_iff.mp hi).1] at hj
    cases hj
    exact ⟨by rw [upd_ne (ne.2.2 r hm)]; exact (R.row r hm).1, upd_same⟩
  · rename_i e
    have hm' := List.mem_of_getElem? hj
    exact ⟨by rw [upd_ne (ne.2.2 r' hm')]; exact (R.row r' hm').1, by rw [upd_ne (fun q => e (nodup_at R.nd hi hj q.symm))]; exact (R.row r' hm').2⟩
/-- one row's number changes -/
theorem RowsOk.setN (R : RowsOk H pr rs) {i : Nat} {r : Rec} (hi : rs[i]? = some r) (n : Int) : RowsOk (upd H r.rl (.lst [.int n, .ref r.dd])) pr (rs.set i { r with n := n }) := by
  have hm := List.mem_of_getElem? hi
  have ne := R.pr_ne hm
  refine ⟨by rw [map_set_same (a' := { r with n := n }) (·.rl) hi rfl]; exact R.nr, by rw [map_set_same (a' := { r with n := n }) (·.dd) hi rfl]; exact R.nd, by rw [upd_ne ne.1.symm, map_set_same (a' := { r with n := n }) (fun r => V.ref r.rl) hi rfl]; exact R.at_, fun r' hr' => ?_⟩
  obtain ⟨j, hj⟩ := List.mem_iff_getElem?.mp hr'
  rw [List.getElem?_set] at hj
  split at hj
  · rename_i e
    subst e
    rw [if_pos (List.getElem?_eq_some_iff.mp hi).1] at hj
    cases hj
    exact ⟨upd_same, by rw [upd_ne (ne.2.2 r hm).symm]; exact (R.row r hm).2⟩
  · rename_i e
    have hm' := List.mem_of_getElem? hj
    exact ⟨by rw [upd_ne (fun q => e (nodup_at R.nr hi hj q.symm))]; exact (R.row r' hm').1, by rw [upd_ne ((R.pr_ne hm').2.2 r hm).symm]; exact (R.row r' hm').2⟩
theorem mem_insAt {α : Type} {i : Nat} {x y : α} {l : List α} : y ∈ insAt i x l ↔ y = x ∨ y ∈ l := by
  unfold insAt
  rw [List.mem_append, List.mem_append, List.mem_singleton]
  constructor
  · rintro ((h | h) | h)
    · exact .inr (List.mem_of_mem_take h)
    · exact .inl h
    · exact .inr (List.mem_of_mem_drop h)
  · rintro (h | h)
    · exact .inl (.inr h)
    · rw [← List.take_append_drop i l] at h
      exact (List.mem_append.mp h).imp .inl id
theorem nodup_insAt {α : Type} {i : Nat} {x : α} {l : List α} (h : l.Nodup) (hx : x ∉ l) : (insAt i x l).Nodup := by
  unfold insAt
  have e := List.take_append_drop i l
  rw [← e] at h hx
  rw [List.mem_append, not_or] at hx
  rw [List.nodup_append] at h ⊢
  refine ⟨?_, h.2.1, ?_⟩
  · rw [List.nodup_append]
    exact ⟨h.1, by simp, fun a ha b hb q => hx.1 (by rw [List.mem_singleton] at hb; rw [← hb, ← q]; exact ha)⟩
  · intro a ha b hb
    rcases List.mem_append.mp ha with ha | ha
    · exact h.2.2 a ha b hb
    · rw [List.mem_singleton] at ha
      exact fun q => hx.2 (by rw [← ha, q]; exact hb)
/-- a row is put in -/
theorem RowsOk.ins (R : RowsOk H pr rs) (i : Nat) {r : Rec} (h1 : H r.rl = some (.lst [.int r.n, .ref r.dd])) (h2 : H r.dd = some (.dK r.kvs)) (n1 : ¬ GF pr rs r.rl) (n2 : ¬ GF pr rs r.dd) : RowsOk (upd H pr (.lst (insAt i (.ref r.rl) (rs.map fun r => V.ref r.rl)))) pr (insAt i r rs) := by
  have a1 : r.rl ∉ rs.map (·.rl) := fun q => by
    obtain ⟨r0, h0, e⟩ := List.mem_map.mp q
    exact n1 (.inr ⟨r0, h0, .inl e.symm⟩)
  have a2 : r.dd ∉ rs.map (·.dd) := fun q => by
    obtain ⟨r0, h0, e⟩ := List.mem_map.mp q
    exact n2 (.inr ⟨r0, h0, .inr e.symm⟩)
  refine ⟨by rw [map_ins]; exact nodup_insAt R.nr a1, by rw [map_ins]; exact nodup_insAt R.nd a2, by rw [upd_same, map_ins], fun r' hr' => ?_⟩
  · rcases mem_insAt.mp hr' with rfl | hr'
    · exact ⟨by rw [upd_ne (fun q => n1 (.inl q))]; exact h1, by rw [upd_ne (fun q => n2 (.inl q))]; exact h2⟩
    · have ne := R.pr_ne hr'
      exact ⟨by rw [upd_ne ne.1]; exact (R.row r' hr').1, by rw [upd_ne ne.2.1]; exact (R.row r' hr').2⟩
/-- a row is taken out -/
theorem RowsOk.era (R : RowsOk H pr rs) (i : Nat) : RowsOk (upd H pr (.lst ((rs.map fun r => V.ref r.rl).eraseIdx i))) pr (rs.eraseIdx i) := by
  have sub : (rs.eraseIdx i).Sublist rs := List.eraseIdx_sublist _ _
  refine ⟨List.Pairwise.sublist (sub.map _) R.nr, List.Pairwise.sublist (sub.map _) R.nd, by rw [upd_same, map_erase], fun r hr => ?_⟩
  have hr := sub.subset hr
  have ne := R.pr_ne hr
  exact ⟨by rw [upd_ne ne.1]; exact (R.row r hr).1, by rw [upd_ne ne.2.1]; exact (R.row r hr).2⟩
end
/-- a table and a law's rows beside it; B is what stood ahead -/
structure Tw (A : Cn → Addr) (B : Hp) (t pr : Addr) (H : Hp) (F : List Addr) (b : Tb) (rs : List Rec) : Prop where
  ex : Ex B H
  tab : TabAt A F H t b
  rows : RowsOk H pr rs
  offF : ∀ a ∈ F, B a = none
  offG : ∀ a, GF pr rs a → B a = none ∧ a ∉ F
section
variable {A : Cn → Addr} {B H H' : Hp} {t pr : Addr} {F F' : List Addr} {b b' : Tb} {rs rs' : List Rec}
theorem Tw.mono (I : Tw A B t pr H F b rs) (e : Ex H H') : Tw A B t pr H' F b rs := ⟨I.ex.trans e, I.tab.ex' e, I.rows.keep fun a o _ q => e a o q, I.offF, I.offG⟩
theorem Tw.fr (I : Tw A B t pr H F b rs) (T : TabAt A F' H' t b') (f : Fr F H H') (n : ∀ a ∈ F', a ∈ F ∨ H a = none) : Tw A B t pr H' F' b' rs :=
  ⟨fun bb o q => f bb o (I.ex _ _ q) fun w => (by rw [I.offF bb w] at q; cases q), T, I.rows.keep fun a o g q => f a o q (I.offG a g).2, fun a ha => (n a ha).elim (I.offF a) (fresh_back I.ex),
   fun a g => ⟨(I.offG a g).1, by obtain ⟨o, q⟩ := I.rows.there g; exact off_new n (I.offG a g).2 q⟩⟩
/-- a change of the rows at one place of theirs -/
theorem Tw.chg (I : Tw A B t pr H F b rs) {p : Addr} {o : HO} (hp : GF pr rs p) (R : RowsOk (L2.upd H p o) pr rs') (g : ∀ a, GF pr rs' a → GF pr rs a ∨ (B a = none ∧ a ∉ F)) : Tw A B t pr (L2.upd H p o) F b rs' :=
  ⟨I.ex.mut (I.offG p hp).1, I.tab.keep (fun bb xs q => by rw [upd_ne (fun z => by rw [z] at q; exact I.rows.noTup hp q)]; exact q) fun l hl o' q => by rw [upd_ne (show l ≠ p from fun z => (I.offG p hp).2 (z ▸ hl))]; exact q, R, I.offF, fun a ga => (g a ga).elim (I.offG a) id⟩
/-- a change at a place of neither -/
theorem Tw.off {p : Addr} {kvs : List (Key × V)} (I : Tw A B t pr H F b rs) (f : ∀ a o, H a = some o → a ≠ p → H' a = some o) (hp : H p = some (.dK kvs)) (nB : B p = none) (nF : p ∉ F) (nG : ¬ GF pr rs p) : Tw A B t pr H' F b rs :=
  ⟨fun a o q => f a o (I.ex a o q) fun z => (by rw [z, nB] at q; cases q), I.tab.keep (fun bb xs q => f _ _ q fun z => by rw [z, hp] at q; cases q) fun l hl o q => f _ _ q fun z => nF (z ▸ hl), I.rows.keep fun a o g q => f a o q fun z => nG (z ▸ g), I.offF, I.offG⟩
theorem Tw.tupFr (I : Tw A B t pr H F b rs) {p : Addr} {o : HO} (hp : GF pr rs p) : Tup H (L2.upd H p o) := fun bb xs q => by
  rw [upd_ne (fun z => by rw [z] at q; exact I.rows.noTup hp q)]
  exact q
end
section
variable {H : Hp}
theorem okStrs {zs : List Str} (h : ∀ z ∈ zs, isName z = true) : okD (.list (zs.map PyData.str)) := by
  show okNs 9 _
  refine okNs_iff.mpr fun d hd => ?_
  obtain ⟨z, hz, rfl⟩ := List.mem_map.mp hd
  exact name_ok (h z hz)
theorem okI2 (n : List Int) : okD (.list (n.map PyData.int)) := by
  show okNs 9 _
  refine okNs_iff.mpr fun d hd => ?_
  obtain ⟨i, -, rfl⟩ := List.mem_map.mp hd
  trivial
theorem eqvI2 (n : List Int) : PyData.eqv (.list (n.map PyData.int)) (.list (n.map PyData.int)) = true := by
  rw [PyData.eqv]
  exact eqvAll_refl fun d hd => by
    obtain ⟨z, -, rfl⟩ := List.mem_map.mp hd
    simp [PyData.eqv]
theorem eqvStrs (zs : List Str) : PyData.eqv (.list (zs.map PyData.str)) (.list (zs.map PyData.str)) = true := by
  rw [PyData.eqv]
  exact eqvAll_refl fun d hd => by
    obtain ⟨z, -, rfl⟩ := List.mem_map.mp hd
    simp [PyData.eqv]
end
section
variable {K : PySem.W.Frag} {A : Cn → Addr} {H H' : Hp} {F : List Addr} {t : Addr} {b : Tb} {σ : L2.St} {Ex0 : L2.St → XK} {v : V}
theorem ev_callD {sp : Sp} {tas : TA} {ds : List PyData} (h : EvDs tas σ H ds) (k : ∀ vs H1, Ex H H1 → DtAll H1 vs ds → ∀ Q : VK, RetV v H1 Q → sp vs H1 Q (Ex0 σ)) : Ev (tCallS sp Ex0 tas) σ H v := fun H1 e Q q =>
  h H1 e _ fun vs H2 e2 r => k vs H2 (e.trans e2) r Q fun H3 e3 => q H3 (e2.trans e3)
def entOf (c : Str × List PyData) : Ent := ⟨c.1, 0, c.2⟩
theorem cols_ent (cs : List (Str × List PyData)) : cs = (cs.map entOf).map cE := by
  rw [List.map_map]
  exact (List.map_id cs).symm
theorem TabAt.wideC (T : TabAt A F H t b) {c : Str × List PyData} (hc : c ∈ b.cols) : c.2.length = b.rows.length :=
  T.wide (e := entOf c) (cols_ent _) (List.mem_map_of_mem hc)
theorem at_okC (T : TabAt A F H t b) {c : Str × List PyData} {i : Nat} (hc : c ∈ b.cols) (hi : i < b.rows.length) : atB b (.str c.1) (.int i) = .ok (c.2.getD i .none) :=
  at_ok (e := entOf c) T (cols_ent _) (List.mem_map_of_mem hc) hi
end
/-- the law's rows hold what the table holds -/
structure SameR (H : Hp) (b : Tb) (zs : List Str) (rs : List Rec) (m : Nat) : Prop where
  nums : b.rows = rs.map (·.n)
  cols : b.cols.map (·.1) = zs
  few : ∀ r ∈ rs, r.kvs.length ≤ m
  val : ∀ c ∈ b.cols, ∀ (i : Nat) r, rs[i]? = some r → ∃ w, valV r.kvs (.inr c.1) = some w ∧ isValueD (c.2.getD i .none) = true ∧ Vt H w (c.2.getD i .none)
theorem SameR.tup {H H' : Hp} {b : Tb} {zs : List Str} {rs : List Rec} {m : Nat} (S : SameR H b zs rs m) (e : Tup H H') : SameR H' b zs rs m :=
  ⟨S.nums, S.cols, S.few, fun c hc i r hi => by
    obtain ⟨w, h1, h2, h3⟩ := S.val c hc i r hi
    exact ⟨w, h1, h2, h3.tup e⟩⟩
theorem Vt.same {H : Hp} {v : V} {d : PyData} : Vt H v d → sameV v
  | .int i => .inl rfl
  | .flt (a := a) _ => .inr ⟨a, rfl⟩
theorem kvz_mem : ∀ {ns : List Str} {ws : List V}, ns.Nodup → ∀ p ∈ kvz ns ws, valV (kvz ns ws) p.1 = some p.2
  | [], _, _, p, hp => by cases hp
  | n :: ns, [], _, p, hp => by cases hp
  | n :: ns, w :: ws, nd, p, hp => by
    have nd' := List.nodup_cons.mp nd
    show valV ((Sum.inr n, w) :: kvz ns ws) p.1 = some p.2
    rcases List.mem_cons.mp (show p ∈ (Sum.inr n, w) :: kvz ns ws from hp) with q | q
    · rw [q]
      exact valV_pos (p := ((Sum.inr n : Key), w)) rfl
    · rw [valV_neg (fun e => by
        obtain ⟨x, hx, rfl⟩ := List.mem_map.mp q
        have := List.of_mem_zip hx
        exact nd'.1 (by rw [Sum.inr.inj e]; exact this.1))]
      exact kvz_mem nd'.2 p q
theorem kvz_same {H : Hp} {ns : List Str} {ws : List V} {ds : List PyData} (h : ns.length = ws.length) (v : VtAll H ws ds) : ∀ p ∈ kvz ns ws, sameV p.2 := fun p hp => by
  have hm : p.2 ∈ ws := by rw [← kvz_snd h]; exact List.mem_map_of_mem hp
  obtain ⟨i, hi, e⟩ := List.getElem_of_mem hm
  obtain ⟨w, h1, h2⟩ := v.get (i := i) (by rw [← v.length]; exact hi)
  rw [List.getElem?_eq_getElem hi, e] at h1
  cases h1
  exact h2.same
theorem put_len {kvs : List (Key × V)} {k : Key} {v : V} : (putK kvs k v).length ≤ kvs.length + 1 := by
  unfold putK
  split
  · rw [List.length_map]; omega
  · rw [List.length_append]; exact Nat.le_refl _
theorem ins_get {α : Type} {i : Nat} {x : α} {l : List α} (h : i ≤ l.length) (j : Nat) : (insAt i x l)[j]? = if j < i then l[j]? else if j = i then some x else l[j - 1]? := by
  unfold insAt
  rw [List.getElem?_append, List.getElem?_append, List.length_append, List.length_take, List.length_singleton, Nat.min_eq_left h]
  by_cases c : j < i
  · rw [if_pos (by omega), if_pos c, if_pos c, List.getElem?_take_of_lt c]
  · rw [if_neg c, if_neg c]
    by_cases d : j = i
    · rw [if_pos (by omega), if_pos d, d, Nat.sub_self]
      rfl
    · rw [if_neg (by omega), if_neg d, List.getElem?_drop]
      congr 1
      omega
theorem ins_set {α : Type} {i : Nat} {x y : α} {l : List α} (h : i ≤ l.length) : (insAt i x l).set i y = insAt i y l := by
  refine List.ext_getElem? fun j => ?_
  rw [List.getElem?_set, ins_get h, ins_get h, ins_len h]
  by_cases d : i = j
  · rw [if_pos d, if_pos (by omega), if_neg (by omega), if_pos d.symm]
  · rw [if_neg d]
    by_cases c : j < i
    · rw [if_pos c, if_pos c]
    · rw [if_neg c, if_neg c, if_neg (fun q => d q.symm), if_neg (fun q => d q.symm)]
section
variable {K : PySem.W.Frag} {A : Cn → Addr} {H H' : Hp} {F : List Addr} {t : Addr} {b : Tb} {σ : L2.St} {Ex0 : L2.St → XK} {v : V} {ta tb te : TE} {tt : TT} {D : Ends} {tz : TS}
theorem q_ifMidL {M : L2.St → Hp → Prop} {bb : Bool} {xs : List V} {i : Nat} (h : EvT tt σ H bb) (hl : EvL te σ H xs) (h1 : ∀ p H1, Ex H H1 → H1 p = some (.lst xs) → M (σ.set i (some (.ref p))) H1) (h2 : ∀ H1, Ex H H1 → M σ H1) (k : ∀ σ' H', M σ' H' → tz D σ' H') : tSeq (tIfS tt (tAsg te (gName i)) tNext) tz D σ H :=
  q_when h (fun _ H1 e1 => hl H1 e1 _ fun p H2 _ e2 hp => k _ _ (h1 p H2 (e1.trans e2) hp)) fun _ H1 e1 => k _ _ (h2 H1 e1)
theorem el_revL {p : Addr} {xs : List V} (h : Ev te σ H (.ref p)) (hx : SqL K H p xs) : EvL (tRevL K te) σ H xs.reverse := fun H1 e Q q =>
  h H1 e _ fun H2 e2 => ⟨p, xs, rfl, ex_l (e.trans e2) hx, fun a ha => q a _ (fresh_back e2 ha) (e2.trans (Ex.new ha)) upd_same⟩
theorem q_asgDC {d : Addr} {kvs : List (Key × V)} {i : Nat} (h : Ev ta σ H (.ref d)) (hd : H d = some (.dK kvs)) (k : ∀ p H1, H p = none → Ex H H1 → H1 p = some (.dK kvs) → tz D (σ.set i (some (.ref p))) H1) : tSeq (tAsg (tCB rDictA (tCons ta tNil)) (gName i)) tz D σ H :=
  h H (Ex.refl H) _ fun H2 e2 => ⟨d, kvs, rfl, .inl (e2 _ _ hd), fun p hp => k p _ (fresh_back e2 hp) (e2.trans (Ex.new hp)) upd_same⟩
theorem dtf_dict {p : Addr} {kvs : List (Key × V)} {ds : List PyData} (hd : H p = some (.dK kvs)) (hp : p ∉ F) (hn : ∀ a ∈ F, ∀ xs, H a ≠ some (.tup xs)) (hv : VtAll H (kvs.map (·.2)) ds) : DtF F H (.ref p) (.dict ((kvs.map fun kv => kD kv.1).zip ds)) := fun H3 f =>
  .dct (f _ _ hd hp) ((hv.tup fun bb xs w => f _ _ w fun z => hn bb z xs w).dt)
theorem q_tabAsgV {m : Str} {sp : Sp} {tas : TA} {vs : List V} {i : Nat} (T : TabAt A F H t b) (hm : m ∉ tabF) (ho : Ev ta σ H (.ref t)) (h : EvA tas σ H vs) (k : ∀ H1, Ex H H1 → TabAt A F H1 t b → sp (.ref t :: vs) H1 (fun v H2 => tz D (σ.set i (some v)) H2) (Ex0 σ)) :
    tSeq (tAsg (tMetS (A .Table) m sp Ex0 ta tas) (gName i)) tz D σ H := by
  obtain ⟨dx, fs, hi, hf⟩ := T.ins
  exact ho H (Ex.refl H) _ fun H2 e2 => ⟨t, dx, fs, rfl, e2 _ _ hi, look_none hf hm, h H2 e2 _ fun H3 e3 => k H3 (e2.trans e3) (T.ex' (e2.trans e3))⟩
theorem ev_neK {a c : Addr} {ks : List (Key × V)} (h1 : Ev ta σ H (.ref a)) (h2 : Ev tb σ H (.ref c)) (ha : H a = some (.dK ks)) (hc : H c = some (.dK ks)) (hs : ∀ p ∈ ks, valV ks p.1 = some p.2 ∧ sameV p.2) : Ev (tOp (rNeA K) ta tb) σ H (.bl false) := fun H1 e Q q =>
  h1 H1 e _ fun H2 e2 => h2 H2 (e.trans e2) _ fun H3 e3 => .inr (.inr (.inl ⟨a, c, ks, ks, rfl, rfl, (e.trans (e2.trans e3)) _ _ ha, (e.trans (e2.trans e3)) _ _ hc, fun _ => hs, by
    show Q (.bl (!decide (ks.length = ks.length))) H3
    rw [decide_eq_true rfl]
    exact q H3 (e2.trans e3)⟩))
theorem q_insL {l : Addr} {xs ys : List V} {i : Nat} (hl : H l = some (.lst xs)) (ha : Ev ta σ H (.ref l)) (h : Ev te σ H (.int (i : Int))) (hv : EvL tb σ H ys) (hz : xs.length < 100000) (hi : i ≤ 100000) (k : ∀ p H1, H p = none → Ex H H1 → H1 p = some (.lst ys) → tz D σ (L2.upd H1 l (.lst (insAt i (.ref p) xs)))) :
    tSeq (tDrop (tBM K "list" rInsA ta (tCons te (tCons tb tNil)))) tz D σ H := ha H (Ex.refl H) _ fun H1 e1 =>
  ⟨Or.inl ⟨rfl, xs, sq_of (e1 l _ hl)⟩, h H1 e1 _ fun H2 e2 => hv H2 (e1.trans e2) _ fun p H3 hp e3 hq => ⟨l, xs, i, .ref p, rfl, rfl, (e2.trans e3) l _ (e1 l _ hl), sz_lt hz, by omega, by omega, k p H3 (fresh_back (e1.trans e2) hp) ((e1.trans e2).trans e3) hq⟩⟩
end
theorem ins_end {α : Type} (x : α) (l : List α) : insAt l.length x l = l ++ [x] := by
  unfold insAt
  rw [List.take_of_length_le (Nat.le_refl _), List.drop_of_length_le (Nat.le_refl _), List.append_nil]
theorem upto_snoc (n : Nat) : upto (n + 1) = upto n ++ [(n : Int)] := by
  unfold upto
  rw [List.range_succ, List.map_append]
  rfl
/-- the rows in the making -/
def Cr (H : Hp) (Dl : Addr) (i : Nat) (H' : Hp) : Prop := H Dl = none ∧ Ex H H' ∧ ∃ rs, RowsOk H' Dl rs ∧ (∀ r ∈ rs, H r.rl = none ∧ H r.dd = none ∧ r.kvs = []) ∧ rs.map (·.n) = upto i
theorem cr_turn {σ : L2.St} {H H' : Hp} {Dl : Addr} {i j : Nat} (p : Cr H Dl i H') (hi : i < 50000) (hj : σ[j]? = some (some (V.int i))) :
    tLst (tCons (tVar j) (tCons tDNewK tNil)) σ H' fun y H4 => ∃ acc, H4 Dl = some (.lst acc) ∧ acc.length < sizeLine ∧ Cr H Dl (i + 1) (upd H4 Dl (.lst (acc ++ [y]))) := by
  obtain ⟨p1, p2, rs, R, hr, hn⟩ := p
  have hlen : rs.length = i := by
    have := congrArg List.length hn
    rw [List.length_map, upto_len] at this
    exact this
  unfold tLst tCons tNil
  refine ev_var hj H' (Ex.refl H') _ ?_
  intro H2 e2
  unfold tDNewK
  intro pd npd
  refine ⟨sz_of (show 2 ≤ 100000 by decide), ?_⟩
  intro pl npl
  have e3 : Ex H2 (upd H2 pd (.dK [])) := Ex.new npd
  have e4 := Ex.new (o := HO.lst [.int i, .ref pd]) npl
  have E4 := e2.trans (e3.trans e4)
  have R4 := R.keep (H' := upd (upd H2 pd (.dK [])) pl (.lst [.int i, .ref pd])) fun a o _ q => E4 a o q
  have n1 : ¬ GF Dl rs pl := fun g => by
    obtain ⟨o, q⟩ := R.there g
    have := (e2.trans e3) _ _ q
    rw [npl] at this
    cases this
  have n2 : ¬ GF Dl rs pd := fun g => by
    obtain ⟨o, q⟩ := R.there g
    have := e2 _ _ q
    rw [npd] at this
    cases this
  have R5 := R4.ins rs.length (r := ⟨pl, pd, i, []⟩) upd_same (e4 _ _ upd_same) n1 n2
  refine ⟨_, R4.at_, sz_lt (by rw [List.length_map]; omega), p1, Ex.mut (p2.trans E4) p1, rs ++ [⟨pl, pd, i, []⟩], ?_, ?_, ?_⟩
  · have h1 : insAt rs.length (V.ref pl) (rs.map fun r => V.ref r.rl) = (rs.map fun r => V.ref r.rl) ++ [.ref pl] := by
      have := ins_end (V.ref pl) (rs.map fun r => V.ref r.rl)
      rw [List.length_map] at this
      exact this
    have R5 : RowsOk (upd _ Dl (.lst (insAt rs.length (V.ref pl) (rs.map fun r => V.ref r.rl)))) Dl _ := R5
    rw [h1, ins_end] at R5
    exact R5
  · intro r hm
    rcases List.mem_append.mp hm with hm | hm
    · exact hr r hm
    · rw [List.mem_singleton.mp hm]
      exact ⟨fresh_back (p2.trans (e2.trans e3)) npl, fresh_back (p2.trans e2) npd, rfl⟩
  · rw [List.map_append, hn, upto_snoc]
    rfl
section
variable {K : PySem.W.Frag} {H H' : Hp} {σ : L2.St} {D : Ends} {tz : TS}
theorem q_asgRows {tas : TA} {j i : Nat} {n : Int} (h : EvA tas σ H [.int n]) (hn : 0 ≤ n ∧ n ≤ 40000) (hw : ∀ x, wipe ((wipe σ [j]).set j (some x)) [j] = wipe σ [j]) (hj : ∀ x, ((wipe σ [j]).set j (some x))[j]? = some (some x))
    (k : ∀ p rs H1, H p = none → Ex H H1 → RowsOk H1 p rs → (∀ r ∈ rs, H r.rl = none ∧ H r.dd = none ∧ r.kvs = []) → rs.map (·.n) = upto n.toNat → tz D (σ.set i (some (.ref p))) H1) : tSeq (tAsg (tLc (iRng1 tas) (gName j) tYes (tLst (tCons (tVar j) (tCons tDNewK tNil))) [j]) (gName i)) tz D σ H :=
  h H (Ex.refl H) _ fun H1 e1 => ⟨n, rfl, by omega, by omega, fun Dl hD =>
  lc_range (lo := 0) (n := n.toNat) (Cr H1 Dl) ⟨hD, Ex.new hD, [], ⟨.nil, .nil, upd_same, fun _ h => nomatch h⟩, fun _ h => (nomatch h), rfl⟩ (fun i H' hi p => by
    have e0 : (0 : Int) + (i : Int) = (i : Int) := Int.zero_add _
    show wipe ((wipe σ [j]).set j (some (.int ((0 : Int) + (i : Int))))) [j] = wipe σ [j] ∧ tLst (tCons (tVar j) (tCons tDNewK tNil)) ((wipe σ [j]).set j (some (.int ((0 : Int) + (i : Int))))) H' fun y H4 => ∃ acc, H4 Dl = some (.lst acc) ∧ acc.length < sizeLine ∧ Cr H1 Dl (i + 1) (upd H4 Dl (.lst (acc ++ [y])))
    rw [e0]
    exact ⟨hw _, cr_turn p (by omega) (hj _)⟩) (fun H' p => by
      obtain ⟨p1, p2, rs, R, hr, hn⟩ := p
      exact k Dl rs H' (fresh_back e1 p1) (e1.trans p2) R (fun r hm => ⟨fresh_back e1 (hr r hm).1, fresh_back e1 (hr r hm).2.1, (hr r hm).2.2⟩) hn)⟩
end
/-- a column's values are in the law's rows, as far as P says -/
def ValC (H : Hp) (c : Str × List PyData) (rs : List Rec) (P : Nat → Prop) : Prop := ∀ (i : Nat) r, P i → rs[i]? = some r → ∃ w, valV r.kvs (.inr c.1) = some w ∧ isValueD (c.2.getD i .none) = true ∧ Vt H w (c.2.getD i .none)
theorem ValC.tup {H H' : Hp} {c : Str × List PyData} {rs : List Rec} {P : Nat → Prop} (h : ValC H c rs P) (e : Tup H H') : ValC H' c rs P := fun i r p q => by
  obtain ⟨w, h1, h2, h3⟩ := h i r p q
  exact ⟨w, h1, h2, h3.tup e⟩
theorem ValC.other {H : Hp} {c : Str × List PyData} {rs : List Rec} {P : Nat → Prop} {k : Nat} {r0 : Rec} {z : Str} {v : V} (h : ValC H c rs P) (n : c.1 ≠ z) (hk : rs[k]? = some r0) : ValC H c (rs.set k { r0 with kvs := putK r0.kvs (.inr z) v }) P := fun i r p q => by
  rw [List.getElem?_set] at q
  split at q
  · rename_i e
    subst e
    rw [if_pos (List.getElem?_eq_some_iff.mp hk).1] at q
    cases q
    obtain ⟨w, h1, h2⟩ := h k r0 p hk
    exact ⟨w, by show valV (putK r0.kvs (.inr z) v) (.inr c.1) = some w; rw [valV_put, if_neg (fun q => n (Sum.inr.inj q))]; exact h1, h2⟩
  · exact h i r p q
theorem ValC.this {H : Hp} {z : Str} {ds ds' : List PyData} {rs : List Rec} {P P' : Nat → Prop} {k : Nat} {r0 : Rec} {v : V} (h : ValC H (z, ds) rs P) (hk : rs[k]? = some r0) (hv : isValueD (ds'.getD k .none) = true ∧ Vt H v (ds'.getD k .none)) (same : ∀ i, i ≠ k → ds'.getD i .none = ds.getD i .none) (hp : ∀ i, P' i → i = k ∨ P i) : ValC H (z, ds') (rs.set k { r0 with kvs := putK r0.kvs (.inr z) v }) P' := fun i r p q => by
  rw [List.getElem?_set] at q
  split at q
  · rename_i e
    subst e
    rw [if_pos (List.getElem?_eq_some_iff.mp hk).1] at q
    cases q
    exact ⟨v, by show valV (putK r0.kvs (.inr z) v) (.inr z) = some v; rw [valV_put, if_pos rfl], hv⟩
  · rename_i e
    obtain ⟨w, h1, h2⟩ := h i r ((hp i p).resolve_left fun q => e q.symm) q
    exact ⟨w, h1, by show isValueD (ds'.getD i .none) = true ∧ Vt H w (ds'.getD i .none); rw [same i fun q => e q.symm]; exact h2⟩
theorem q_mid {t u : TS} {D : Ends} {σ : L2.St} {H : Hp} (M : L2.St → Hp → Prop) (k : ∀ σ' H', M σ' H' → u D σ' H') (h : ∀ N : L2.St → Hp → Prop, (∀ σ' H', M σ' H' → N σ' H') → t { D with nx := N } σ H) : tSeq t u D σ H := h (u D) k
theorem gf_set {pr : Addr} {rs : List Rec} {i : Nat} {r r' : Rec} (hi : rs[i]? = some r) (h1 : r'.rl = r.rl) (h2 : r'.dd = r.dd) : ∀ a, GF pr (rs.set i r') a → GF pr rs a := fun a g => by
  rcases g with rfl | ⟨x, hx, q⟩
  · exact .inl rfl
  · rcases List.mem_or_eq_of_mem_set hx with hx | rfl
    · exact .inr ⟨x, hx, q⟩
    · rw [h1, h2] at q
      exact .inr ⟨r, List.mem_of_getElem? hi, q⟩
theorem set_few {rs : List Rec} {i m : Nat} {r r' : Rec} (h : ∀ r ∈ rs, r.kvs.length ≤ m) (h1 : r'.kvs.length ≤ m + 1) : ∀ r ∈ rs.set i r', r.kvs.length ≤ m + 1 := fun x hx => by
  rcases List.mem_or_eq_of_mem_set hx with hx | rfl
  · have := h x hx
    omega
  · exact h1
theorem putA_new {α : Type} {cs : List (Str × α)} {z : Str} {y : α} (h : z ∉ cs.map (·.1)) : putA cs z y = cs ++ [(z, y)] := by
  unfold putA
  rw [if_neg]
  intro q
  obtain ⟨c, hc, e⟩ := List.any_eq_true.mp q
  exact h (List.mem_map.mpr ⟨c, hc, of_decide_eq_true e⟩)
theorem cut_take {xs : List V} {j : Nat} (h : j ≤ 4) (hx : xs.length = 4) : cutV xs none (some (j : Int)) = xs.take j := by
  match xs, hx with
  | [a, b, c, d], _ =>
    match j, h with
    | 0, _ => rfl
    | 1, _ => rfl
    | 2, _ => rfl
    | 3, _ => rfl
    | 4, _ => rfl
theorem q_callYes {sp : Sp} {tas : TA} {vs : List V} {E : L2.St → XK} {tu tz : TS} {D : Ends} {σ : L2.St} {H : Hp} (h : EvA tas σ H vs) (k : ∀ H1, Ex H H1 → ∀ Q : VK, (∀ H2, tz D σ H2 → Q (.bl true) H2) → sp vs H1 Q (E σ)) : tSeq (tIfS (tNot (tB (tCallS sp E tas))) tu tNext) tz D σ H :=
  h H (Ex.refl H) _ fun H1 e1 => k H1 e1 _ fun H2 q => ⟨true, rfl, q⟩
/-- xs != [] -/
theorem ev_neNil {K : PySem.W.Frag} {ta : TE} {σ : L2.St} {H : Hp} {a : Addr} {xs : List V} (h : Ev ta σ H (.ref a)) (ha : H a = some (.lst xs)) : Ev (tOp (rNeA K) ta (tLst tNil)) σ H (.bl (!decide (xs.length = 0))) := fun H1 e Q q =>
  h H1 e _ fun H2 e2 => (el_lst (vs := []) ea_nil (Nat.zero_le _)) H2 (Ex.refl H2) _ fun p H3 hp e3 h3 => .inr (.inr (.inr ⟨a, p, xs, rfl, rfl, (e.trans (e2.trans e3)) _ _ ha, h3, q H3 (e2.trans e3)⟩))
theorem q_setKW {σ : L2.St} {H : Hp} {ta tb te : TE} {D : Ends} {tz : TS} {p : Addr} {kvs : List (Key × V)} {k : Key} (h : H p = some (.dK kvs)) (hv : EvW te σ H) (ho : Ev ta σ H (.ref p)) (hk : Ev tb σ H (kV k)) (hl : kvs.length < 100000) (kk : ∀ d v H1, isValueD d = true → Ex H H1 → Vt H1 v d → tz D σ (L2.upd H1 p (.dK (putK kvs k v)))) : tSeq (tAsg te (gSub ta tb rSetA)) tz D σ H := s_setKW (D := { D with nx := tz D }) h hv ho hk hl kk
theorem q_tabIsn {A : Cn → Addr} {F : List Addr} {t : Addr} {b : Tb} {σ : L2.St} {H : Hp} {ta : TE} {D : Ends} {tz tu : TS} {Ex0 : L2.St → XK} {m : Str} {sp : Sp} {tas : TA} {vs : List V} (T : TabAt A F H t b) (hm : m ∉ tabF) (ho : Ev ta σ H (.ref t)) (h : EvA tas σ H vs) (k : ∀ H1, Ex H H1 → TabAt A F H1 t b → ∀ Q : VK, (∀ H2, tz D σ H2 → Q .non H2) → sp (.ref t :: vs) H1 Q (Ex0 σ)) :
    tSeq (tIfS (tTest (tOp rIsnA (tMetS (A .Table) m sp Ex0 ta tas) (tC .non))) tu tNext) tz D σ H := by
  obtain ⟨dx, fs, hi, hf⟩ := T.ins
  exact ho H (Ex.refl H) _ fun H2 e2 => ⟨t, dx, fs, rfl, e2 _ _ hi, look_none hf hm, h H2 e2 _ fun H3 e3 => k H3 (e2.trans e3) (T.ex' (e2.trans e3)) _ fun H4 q => .inl ⟨rfl, false, rfl, q⟩⟩
end Z

set_option Elab.async false
set_option linter.all false
set_option autoImplicit false
set_option maxRecDepth 100000
set_option maxHeartbeats 4000000
/-! ev: what an expression comes to, by its form -/
local macro_rules | `(tactic| k_places) => `(tactic| (repeat' (first
  | (with_reducible exact ev_c)
  | (with_reducible exact ev_var rfl)
  | (with_reducible refine ev_chainLL ?_ ?_ ?_)
  | (with_reducible refine ev_chainLt ?_ ?_ ?_)
  | (with_reducible refine ev_op ?_ ?_ ?_)
  | (with_reducible refine ev_neg ?_)
  | (with_reducible refine et_test ?_)
  | (with_reducible refine et_B ?_)
  | (with_reducible refine et_not ?_)
  | (with_reducible refine et_and ?_ (fun _ => ?_))
  | (with_reducible refine et_or ?_ (fun _ => ?_))
  | (with_reducible refine ev_andV ?_ (fun _ => ?_))
  | (with_reducible refine ev_orV ?_ (fun _ => ?_))
  | (with_reducible refine ev_notV ?_)
  | (with_reducible exact rv_addI)
  | (with_reducible exact rv_subI)
  | (with_reducible exact rv_lt)
  | (with_reducible exact rv_le)
  | (with_reducible exact rv_gt)
  | (with_reducible exact rv_ge)
  | (with_reducible exact rv_isB)
  | (with_reducible exact rv_isnB)
  | (with_reducible exact rv_isN)
  | (with_reducible exact rv_isnN)
  | (with_reducible exact rv_eqS rfl)
  | (with_reducible exact rv_neS rfl)
  | (with_reducible exact rv_inStr)
  | (with_reducible exact rv_ninStr)
  | (with_reducible exact rv_mod (by first | decide | omega | assumption))
  | (with_reducible exact rv_div (by first | decide | omega | assumption))
  | (with_reducible exact rv_pow (by decide))
  | (with_reducible refine ed_i ?_; done)
  | (with_reducible exact ea_nil)
  | (with_reducible refine ea_cons ?_ ?_)
  | (with_reducible exact eds_nil)
  | (with_reducible refine eds_cons ?_ ?_)
  | (with_reducible exact ed_dnew)
  | (with_reducible refine ed_lst ?_ (by simp only [List.length_cons, List.length_nil]; omega))
  | (with_reducible refine ed_tup ?_ (by simp only [List.length_cons, List.length_nil]; omega)))))
--TDEFS _law_value _law_numbers _law_stands _law_put_in law
namespace Z
open PySem PySem.Spec PyProof.Rows L2 Evl
def sp_law_numbers (K : PySem.W.Frag) : Sp := fun vs H Q _ => ∃ (v w : V) (ns : List Int), vs = [v, w] ∧ Dt H v (.list (ns.map PyData.int)) ∧ Dt H w (.list (ns.map PyData.int)) ∧ RetV (.bl true) H Q
def sp_law_stands (K : PySem.W.Frag) (A : Cn → Addr) : Sp := fun vs H Q _ => ∃ (B : Hp) (F : List Addr) (t pn pr : Addr) (b : Tb) (rs : List Rec) (zs : List Str) (m : Nat), vs = [.ref t, .ref pn, .ref pr] ∧ Tw A B t pr H F b rs ∧ SameR H b zs rs m ∧ B pn = some (.lst (zs.map V.str)) ∧ (∀ z ∈ zs, isName z = true) ∧ RetV (.bl true) H Q
def sp_law_put_in (K : PySem.W.Frag) (A : Cn → Addr) : Sp := fun vs H Q _ => ∃ (B : Hp) (F : List Addr) (t pn pr l : Addr) (b : Tb) (rs : List Rec) (zs : List Str) (m p i : Nat) (ns : List Int), vs = [.ref t, .ref pr, .ref pn, .int p, .ref l, .int i] ∧ Tw A B t pr H F b rs ∧ SameR H b zs rs m ∧ B pn = some (.lst (zs.map V.str)) ∧ (∀ z ∈ zs, isName z = true) ∧ zs.Nodup ∧ zs.length ≤ 4 ∧ SqL K B l (ns.map V.int) ∧ p ≤ b.rows.length ∧ b.rows.length < 30 ∧ i ≤ 100 ∧
  ∀ H' F' b' r0, Tw A B t pr H' F' b' (insAt p r0 rs) → r0.n = 0 → b'.coming = b.coming + 1 → SameR H' b' zs (insAt p { r0 with n := b.coming } rs) (m + 10) → Q (.bl true) H'
def spLaw (K : PySem.W.Frag) : Sp := fun vs H Q _ => ∃ (a : Addr) (ns : List Int), vs = [.ref a] ∧ SqL K H a (ns.map V.int) ∧ ns.length ≤ 63 ∧ ∀ H', Q (.bl true) H'
def t_law_value (K : PySem.W.Frag) (E : XK) : TS :=
  tSeq (tAsg (tOp rSubA (tOp rPowA (tC (.int 10)) (tC (.int 60))) (tC (.int 1))) (gName 1))
    (tSeq (tIfS (tTest (tOp (rEqA K) (tOp rModA (tVar 0) (tC (.int 5))) (tC (.int 0)))) (tRet (tTup (tCons (tC (.str "fault")) (tCons (tOp (rMulA K) (tOp (rIxA K) (tC (.str "abcdefghijklmnopqrstuvwxyz")) (tOp rModA (tOp rDivA (tVar 0) (tC (.int 5))) (tC (.int 26)))) (tOp (rAddA K) (tC (.int 1)) (tOp rModA (tOp rDivA (tVar 0) (tC (.int 130))) (tC (.int 8))))) tNil)))) tNext)
    (tSeq (tIfS (tTest (tOp (rEqA K) (tOp rModA (tVar 0) (tC (.int 5))) (tC (.int 1)))) (tRet (tOp rSubA (tOp rModA (tOp rDivA (tVar 0) (tC (.int 5))) (tOp (rAddA K) (tOp (rMulA K) (tC (.int 2)) (tVar 1)) (tC (.int 1)))) (tVar 1))) tNext)
    (tRet (tOp rSubA (tOp rModA (tOp rDivA (tVar 0) (tC (.int 5))) (tC (.int 21))) (tC (.int 10))))))
def t_law_numbers (K : PySem.W.Frag) (E : XK) : TS :=
  tSeq (tIfS (tOr (tNot (tB (tCB (rIsiA K) (tCons (tVar 0) (tCons (tC (.ty "list")) tNil))))) (tTest (tOp (rNeA K) (tVar 0) (tVar 1)))) (tRet (tC (.bl false))) tNext)
    (tSeq (tFor (iList K (tVar 0)) (gName 2) (tIfS (tOr (tNot (tB (tCB (rIsiA K) (tCons (tVar 2) (tCons (tC (.ty "int")) tNil))))) (tB (tCB (rIsiA K) (tCons (tVar 2) (tCons (tC (.ty "bool")) tNil))))) (tRet (tC (.bl false))) tNext))
    (tRet (tC (.bl true))))
def t_law_stands (K : PySem.W.Frag) (A : Cn → Addr) (E : XK) : TS :=
  tSeq (tIfS (tOr (tTest (tOp (rNeA K) (tMetS (A .Table) "many" (sp_Table_many K A) (WE (fun cls d _ H => E cls d H)) (tVar 0) tNil) (tCB (rLenA K) (tCons (tVar 2) tNil)))) (tNot (tB (tCallS (sp_law_numbers K) (WE (fun cls d _ H => E cls d H)) (tCons (tMetS (A .Table) "numbers" (sp_Table_numbers K A) (WE (fun cls d _ H => E cls d H)) (tVar 0) tNil) (tCons (tLc (iList K (tVar 2)) (gName 6) tYes (tOp (rIxA K) (tVar 6) (tC (.int 0))) [6]) tNil)))))) (tRet (tC (.bl false))) tNext)
    (tSeq (tDrop (tBM K "list" rAppend (tMetS (A .Table) "numbers" (sp_Table_numbers K A) (WE (fun cls d _ H => E cls d H)) (tVar 0) tNil) (tCons (tC (.int 3)) tNil)))
    (tSeq (tFor (iRng1 (tCons (tCB (rLenA K) (tCons (tVar 2) tNil)) tNil)) (gName 3) (tFor (iList K (tVar 1)) (gName 4) (tSeq (tAsg (tMetS (A .Table) "at" (sp_Table_at K A) (WE (fun cls d _ H => E cls d H)) (tVar 0) (tCons (tVar 4) (tCons (tVar 3) tNil))) (gName 5))
    (tIfS (tOr (tB (tCB (rIsiA K) (tCons (tVar 5) (tCons (tC (.ty "bool")) tNil)))) (tTest (tOp (rNeA K) (tVar 5) (tOp (rIxA K) (tOp (rIxA K) (tOp (rIxA K) (tVar 2) (tVar 3)) (tC (.int 1))) (tVar 4))))) (tRet (tC (.bl false))) tNext))))
    (tRet (tOp (rEqA K) (tMetS (A .Table) "columns" (sp_Table_columns K A) (WE (fun cls d _ H => E cls d H)) (tVar 0) tNil) (tVar 1)))))
def t_law_put_in (K : PySem.W.Frag) (A : Cn → Addr) (E : XK) : TS :=
  tSeq (tAsg tDNewK (gName 6))
    (tSeq (tAsg (tVar 2) (gName 7))
    (tSeq (tIfS (tTest (tOp (rEqA K) (tOp rModA (tCallS (sp_law_cell K) (WE (fun cls d _ H => E cls d H)) (tCons (tVar 4) (tCons (tC (.int 3)) tNil))) (tC (.int 2))) (tC (.int 1)))) (tAsg (tRevL K (tVar 2)) (gName 7)) tNext)
    (tSeq (tFor (iRng1 (tCons (tCB (rLenA K) (tCons (tVar 7) tNil)) tNil)) (gName 8) (tAsg (tCallS (spW) (WE (fun cls d _ H => E cls d H)) (tCons (tCallS (sp_law_cell K) (WE (fun cls d _ H => E cls d H)) (tCons (tVar 4) (tCons (tOp (rAddA K) (tOp (rAddA K) (tC (.int 20)) (tOp (rMulA K) (tC (.int 5)) (tVar 5))) (tVar 8)) tNil))) tNil)) (gSub (tVar 6) (tOp (rIxA K) (tVar 7) (tVar 8)) rSetA)))
    (tSeq (tAsg (tCB rDictA (tCons (tVar 6) tNil)) (gName 9))
    (tSeq (tAsg (tMetS (A .Table) "put_in" (sp_Table_put_in K A) (WE (fun cls d _ H => E cls d H)) (tVar 0) (tCons (tVar 3) (tCons (tVar 9) tNil))) (gName 10))
    (tSeq (tIfS (tOr (tTest (tOp (rNeA K) (tVar 9) (tVar 6))) (tTest (tOp rIsnA (tVar 10) (tC .non)))) (tRet (tC (.bl false))) tNext)
    (tSeq (tAsg (tC (.int 1)) (gSub (tVar 9) (tC (.str "none")) rSetA))
    (tSeq (tFor (iList K (tVar 2)) (gName 11) (tAsg (tC (.int 77)) (gSub (tVar 9) (tVar 11) rSetA)))
    (tSeq (tDrop (tBM K "list" rInsA (tVar 1) (tCons (tVar 3) (tCons (tLst (tCons (tC (.int 0)) (tCons (tVar 6) tNil))) tNil))))
    (tRet (tC (.bl true))))))))))))
def t_law (K : PySem.W.Frag) (A : Cn → Addr) (E : XK) : TS :=
  tSeq (tAsg (tOp rModA (tCallS (sp_law_cell K) (WE (fun cls d _ H => E cls d H)) (tCons (tVar 0) (tCons (tC (.int 0)) tNil))) (tC (.int 6))) (gName 1))
    (tSeq (tIfS (tTest (tOp (rEqA K) (tOp rModA (tCallS (sp_law_cell K) (WE (fun cls d _ H => E cls d H)) (tCons (tVar 0) (tCons (tC (.int 2)) tNil))) (tC (.int 8))) (tC (.int 7)))) (tAsg (tOp (rAddA K) (tC (.int 20)) (tOp rModA (tCallS (sp_law_cell K) (WE (fun cls d _ H => E cls d H)) (tCons (tVar 0) (tCons (tC (.int 0)) tNil))) (tC (.int 11)))) (gName 1)) tNext)
    (tSeq (tAsg (tSl (rSlA K) (tLst (tCons (tC (.str "a")) (tCons (tC (.str "ab")) (tCons (tC (.str "zeta")) (tCons (tC (.str "b")) tNil))))) tNoPart (tPart (tOp rModA (tCallS (sp_law_cell K) (WE (fun cls d _ H => E cls d H)) (tCons (tVar 0) (tCons (tC (.int 1)) tNil))) (tC (.int 5))))) (gName 2))
    (tSeq (tAsg (tMakS (A .Table) (sp_Table_init K A) (WE (fun cls d _ H => E cls d H)) (tCons (tVar 1) tNil)) (gName 3))
    (tSeq (tAsg (tLc (iRng1 (tCons (tVar 1) tNil)) (gName 4) tYes (tLst (tCons (tVar 4) (tCons tDNewK tNil))) [4]) (gName 5))
    (tSeq (tFor (iRng1 (tCons (tCB (rLenA K) (tCons (tVar 2) tNil)) tNil)) (gName 6) (tSeq (tAsg (tLc (iRng1 (tCons (tVar 1) tNil)) (gName 4) tYes (tCall (spW) [] E0 (tCons (tCall (sp_law_cell K) [] E0 (tCons (tVar 0) (tCons (tOp (rAddA K) (tOp (rAddA K) (tC (.int 90)) (tOp (rMulA K) (tC (.int 31)) (tVar 6))) (tVar 4)) tNil))) tNil)) [4]) (gName 7))
    (tSeq (tDrop (tMetS (A .Table) "give" (sp_Table_give K A) (WE (fun cls d _ H => E cls d H)) (tVar 3) (tCons (tOp (rIxA K) (tVar 2) (tVar 6)) (tCons (tCB (rListA K) (tCons (tVar 7) tNil)) tNil))))
    (tFor (iRng1 (tCons (tVar 1) tNil)) (gName 4) (tAsg (tOp (rIxA K) (tVar 7) (tVar 4)) (gSub (tOp (rIxA K) (tOp (rIxA K) (tVar 5) (tVar 4)) (tC (.int 1))) (tOp (rIxA K) (tVar 2) (tVar 6)) rSetA))))))
    (tSeq (tAsg (tVar 1) (gName 8))
    (tSeq (tFor (iRng1 (tCons (tOp rModA (tCallS (sp_law_cell K) (WE (fun cls d _ H => E cls d H)) (tCons (tVar 0) (tCons (tC (.int 4)) tNil))) (tC (.int 13))) tNil)) (gName 4) (tSeq (tAsg (tCallS (sp_law_cell K) (WE (fun cls d _ H => E cls d H)) (tCons (tVar 0) (tCons (tOp (rAddA K) (tC (.int 5)) (tVar 4)) tNil))) (gName 9))
    (tSeq (tAsg (tOp rModA (tVar 9) (tC (.int 5))) (gName 10))
    (tSeq (tIfS (tAnd (tTest (tOp rLtA (tVar 10) (tC (.int 3)))) (tTest (tOp rLtA (tCB (rLenA K) (tCons (tVar 5) tNil)) (tC (.int 30))))) (tSeq (tAsg (tOp rModA (tOp rDivA (tVar 9) (tC (.int 5))) (tOp (rAddA K) (tCB (rLenA K) (tCons (tVar 5) tNil)) (tC (.int 1)))) (gName 11))
    (tSeq (tIfS (tNot (tB (tCallS (sp_law_put_in K A) (WE (fun cls d _ H => E cls d H)) (tCons (tVar 3) (tCons (tVar 5) (tCons (tVar 2) (tCons (tVar 11) (tCons (tVar 0) (tCons (tVar 4) tNil))))))))) (tRet (tC (.bl false))) tNext)
    (tSeq (tAsg (tVar 8) (gSub (tOp (rIxA K) (tVar 5) (tVar 11)) (tC (.int 0)) rSetA))
    (tAsg (tOp (rAddA K) (tVar 8) (tC (.int 1))) (gName 8))))) (tIfS (tAnd (tTest (tOp (rEqA K) (tVar 10) (tC (.int 3)))) (tAnd (tTest (tOp (rNeA K) (tVar 5) (tLst tNil))) (tTest (tOp (rNeA K) (tVar 2) (tLst tNil))))) (tSeq (tAsg (tOp rModA (tOp rDivA (tVar 9) (tC (.int 5))) (tCB (rLenA K) (tCons (tVar 5) tNil))) (gName 11))
    (tSeq (tAsg (tCallS (spW) (WE (fun cls d _ H => E cls d H)) (tCons (tOp rDivA (tVar 9) (tC (.int 150))) tNil)) (gSub (tOp (rIxA K) (tOp (rIxA K) (tVar 5) (tVar 11)) (tC (.int 1))) (tOp (rIxA K) (tVar 2) (tC (.int 0))) rSetA))
    (tDrop (tMetS (A .Table) "put" (sp_Table_put K A) (WE (fun cls d _ H => E cls d H)) (tVar 3) (tCons (tOp (rIxA K) (tVar 2) (tC (.int 0))) (tCons (tVar 11) (tCons (tOp (rIxA K) (tOp (rIxA K) (tOp (rIxA K) (tVar 5) (tVar 11)) (tC (.int 1))) (tOp (rIxA K) (tVar 2) (tC (.int 0)))) tNil))))))) (tIfS (tTest (tOp (rNeA K) (tVar 5) (tLst tNil))) (tSeq (tAsg (tOp rModA (tOp rDivA (tVar 9) (tC (.int 5))) (tCB (rLenA K) (tCons (tVar 5) tNil))) (gName 11))
    (tSeq (tIfS (tTest (tOp rIsnA (tMetS (A .Table) "take_out" (sp_Table_take_out K A) (WE (fun cls d _ H => E cls d H)) (tVar 3) (tCons (tVar 11) tNil)) (tC .non))) (tRet (tC (.bl false))) tNext)
    (tDrop (tBM K "list" rPopAt (tVar 5) (tCons (tVar 11) tNil))))) tNext)))
    (tIfS (tNot (tB (tCallS (sp_law_stands K A) (WE (fun cls d _ H => E cls d H)) (tCons (tVar 3) (tCons (tVar 2) (tCons (tVar 5) tNil)))))) (tRet (tC (.bl false))) tNext)))))
    (tRet (tCallS (sp_law_stands K A) (WE (fun cls d _ H => E cls d H)) (tCons (tVar 3) (tCons (tVar 2) (tCons (tVar 5) tNil))))))))))))

section
variable {K : PySem.W.Frag} {A : Cn → Addr}
theorem len_law_value (vs : List V) (H : Hp) (Q : VK) (E : XK) (h : spW vs H Q E) : vs.length = 1 := by obtain ⟨_, rfl, _⟩ := h; rfl
theorem len_law_numbers (vs : List V) (H : Hp) (Q : VK) (E : XK) (h : sp_law_numbers K vs H Q E) : vs.length = 2 := by obtain ⟨_, _, _, rfl, _⟩ := h; rfl
theorem len_law_stands (vs : List V) (H : Hp) (Q : VK) (E : XK) (h : sp_law_stands K A vs H Q E) : vs.length = 3 := by obtain ⟨_, _, _, _, _, _, _, _, _, rfl, _⟩ := h; rfl
theorem len_law_put_in (vs : List V) (H : Hp) (Q : VK) (E : XK) (h : sp_law_put_in K A vs H Q E) : vs.length = 6 := by obtain ⟨_, _, _, _, _, _, _, _, _, _, _, _, _, rfl, _⟩ := h; rfl
theorem len_law (vs : List V) (H : Hp) (Q : VK) (E : XK) (h : spLaw K vs H Q E) : vs.length = 1 := by obtain ⟨_, _, rfl, _⟩ := h; rfl
theorem r_law_value (vs : List V) (H : Hp) (Q : VK) (E : XK) (h : spW vs H Q E) : t_law_value K E { nx := fun _ H' => Q .non H', rt := Q } (L2.start ["cell", "far"] vs) H := by
  obtain ⟨c, rfl, k⟩ := h
  unfold t_law_value
  refine q_asg (v := .int (10 ^ 60 - 1)) (ev_is (ev_op (ev_op ev_c ev_c (rv_pow (by decide))) ev_c rv_subI) rfl) fun H1 e1 => ?_
  have k1 : ∀ {H2 : Hp}, Ex H1 H2 → RetW H2 Q := fun e d v H3 hd e3 r => k d v H3 hd (e1.trans (e.trans e3)) r
  refine q_when (et_test (ev_op (ev_op (ev_var rfl) ev_c (rv_mod (by decide))) ev_c (rv_eqS rfl))) (fun _ H2 e2 => ?_) (fun _ H2 e2 => ?_)
  · have b := emod_bd (c / 130) (n := 8) (by decide)
    refine s_retW (ew_d (ed_tup (eds_cons (ed_s ev_c) (eds_cons (ed_s (ev_op (ev_sign ev_c (ev_op (ev_op (ev_var rfl) ev_c (rv_div (by decide))) ev_c (rv_mod (by decide))) (by decide +kernel) (by decide) (by decide +kernel)) (ev_op ev_c (ev_op (ev_op (ev_var rfl) ev_c (rv_div (by decide))) ev_c (rv_mod (by decide))) rv_addI) (rv_rep (show 1 ≤ 4000 by decide) (by omega)))) eds_nil))) (val_flt (name_rep (let_mem _) (by omega)))) (k1 e2)
  refine q_when (et_test (ev_op (ev_op (ev_var rfl) ev_c (rv_mod (by decide))) ev_c (rv_eqS rfl))) (fun _ H3 e3 => ?_) (fun _ H3 e3 => ?_)
  · have b := emod_bd (c / 5) (n := 2 * (10 ^ 60 - 1) + 1) (by decide +kernel)
    exact s_retW (ew_d (ed_i (ev_op (ev_op (ev_op (ev_var rfl) ev_c (rv_div (by decide))) (ev_op (ev_op ev_c (ev_var rfl) (rv_mulI (wide_mul (a := 20) (b := 220) (by decide) (by decide +kernel) (by decide) (by decide) (by decide)))) ev_c rv_addI) (rv_mod (by decide +kernel))) (ev_var rfl) rv_subI)) (val_int (by omega))) (k1 (e2.trans e3))
  · have b := emod_bd (c / 5) (n := 21) (by decide)
    exact s_retW (ew_d (ed_i (ev_op (ev_op (ev_op (ev_var rfl) ev_c (rv_div (by decide))) ev_c (rv_mod (by decide))) ev_c rv_subI)) (val_int (by omega))) (k1 (e2.trans e3))
theorem r_law_numbers (vs : List V) (H : Hp) (Q : VK) (E : XK) (h : sp_law_numbers K vs H Q E) : t_law_numbers K E { nx := fun _ H' => Q .non H', rt := Q } (L2.start ["found", "due", "number"] vs) H := by
  obtain ⟨v, w, ns, rfl, r1, r2, k⟩ := h
  unfold t_law_numbers
  refine q_when (b := false) (et_is (et_or (et_not (et_B (ev_isD (ed_var rfl r1)))) fun _ => et_test (ev_neD (ed_var rfl r1) (ed_var rfl r2) (okI2 _) (okI2 _))) (by rw [eqvI2]; rfl)) (fun hb => nomatch hb) fun _ H1 e1 => ?_
  obtain ⟨p, xs, rfl, hp, hd⟩ : ∃ p xs, v = .ref p ∧ H p = some (.lst xs) ∧ DtAll H xs (ns.map PyData.int) := by
    cases r1 with
    | lst h1 h2 => exact ⟨_, _, rfl, h1, h2⟩
  have hx : ∀ {xs : List V} {ns : List Int}, DtAll H xs (ns.map PyData.int) → xs = ns.map V.int := fun {xs} => by
    induction xs with
    | nil => intro ns h; cases ns with
      | nil => rfl
      | cons a s => cases h
    | cons x s ih => intro ns h; cases ns with
      | nil => cases h
      | cons a s' =>
        cases h with
        | cons h1 h2 => cases h1; rw [ih h2]; rfl
  obtain rfl := hx hd
  refine q_forLn (ev_var rfl) (SqL.of (e1 _ _ hp)) (fun i σ H' => ∃ x2 : Option V, σ = [some (.ref p), some w, x2] ∧ Ex H1 H') (fun H2 e2 => ⟨_, rfl, e2⟩) (fun i σ H' _ ⟨_, _, e⟩ => SqL.of (e _ _ (e1 _ _ hp))) ?_ ?_
  · rintro i x σ H' hi ⟨x2, rfl, e2⟩
    rw [List.getElem?_map] at hi
    obtain ⟨n, -, rfl⟩ : ∃ n, ns[i]? = some n ∧ V.int n = x := by
      cases q : ns[i]? with
      | none => rw [q] at hi; cases hi
      | some n => rw [q] at hi; exact ⟨n, rfl, Option.some.inj hi⟩
    refine s_when (b := false) (et_is (et_or (et_not (et_B (ev_isD (ed_i (ev_var rfl))))) fun _ => et_B (ev_isD (ed_i (ev_var rfl)))) rfl) (fun hb => nomatch hb) fun _ H3 e3 => ⟨_, rfl, e2.trans e3⟩
  · rintro σ H' ⟨x2, rfl, e2⟩
    exact s_ret ev_c fun H3 e3 => k H3 ((e1.trans e2).trans e3)
theorem given_all {n : Nat} {v : Nat → V} : given n (fun _ => true) v = (List.range n).map v := by
  unfold given
  rw [List.filter_eq_self.mpr (fun _ _ => rfl)]
theorem range_get {α : Type} (l : List α) (f : α → V) (g : Nat → V) (h : ∀ i a, l[i]? = some a → g i = f a) : (List.range l.length).map g = l.map f := by
  refine List.ext_getElem (by simp) fun i h1 h2 => ?_
  rw [List.getElem_map, List.getElem_map, List.getElem_range]
  exact h i _ (List.getElem?_eq_getElem _)
theorem r_law_stands (vs : List V) (H : Hp) (Q : VK) (E : XK) (h : sp_law_stands K A vs H Q E) : t_law_stands K A E { nx := fun _ H' => Q .non H', rt := Q } (L2.start ["table", "names", "rows", "place", "column", "value", "row"] vs) H := by
  obtain ⟨B, F, t, pn, pr, b, rs, zs, m, rfl, P, S, hpn, hz, k⟩ := h
  unfold t_law_stands
  have T := P.tab
  have R := P.rows
  have rl : b.rows.length = rs.length := by rw [S.nums, List.length_map]
  have m30 : b.rows.length ≤ 30 := by
    obtain ⟨dx, r, hh, es2, rfl, O⟩ := T.ex
    exact O.few.1
  have lrow : ∀ {σ : L2.St} {H1 : Hp}, Ex H H1 → σ[2]? = some (some (V.ref pr)) → Ev (tCB (rLenA K) (tCons (tVar 2) tNil)) σ H1 (.int b.rows.length) := fun e hσ => by
    have := ev_lenV (K := K) (ev_var hσ) (rc_lenL (SqL.of (e _ _ R.at_)))
    rw [List.length_map, ← rl] at this
    exact this
  have lc : EvL (tLc (iList K (tVar 2)) (gName 6) tYes (tOp (rIxA K) (tVar 6) (tC (.int 0))) [6]) (L2.start ["table", "names", "rows", "place", "column", "value", "row"] [.ref t, .ref pn, .ref pr]) H (b.rows.map V.int) := by
    have := el_lcL (K := K) (t := tYes) (te := tOp (rIxA K) (tVar 6) (tC (.int 0))) (j := 6) (vs := [6]) (fun _ => true) (fun i => V.int (b.rows.getD i 0)) (tl := tVar 2) (σ := L2.start ["table", "names", "rows", "place", "column", "value", "row"] [.ref t, .ref pn, .ref pr]) (ev_var rfl) (SqL.of R.at_) (by rw [List.length_map]; omega) (fun _ => rfl) (fun i x H1 e1 _ => fun H2 _ Q q => q H2 (Ex.refl H2)) (fun i x H1 e1 hi _ => by
      rw [List.getElem?_map] at hi
      cases q : rs[i]? with
      | none => rw [q] at hi; cases hi
      | some r =>
        rw [q] at hi
        cases hi
        have hb : b.rows.getD i 0 = r.n := by rw [S.nums, List.getD, List.getElem?_map, q]; rfl
        rw [hb]
        exact ev_op (ev_var rfl) ev_c (rv_itL (SqL.of (e1 _ _ (R.row r (List.mem_of_getElem? q)).1)) rfl))
    rw [given_all, List.length_map, ← rl, range_get b.rows V.int _ (fun i a h => by rw [List.getD, h]; rfl)] at this
    exact this
  refine q_when (b := false) (et_is (et_or (et_test (ev_op (ev_many T (ev_var rfl)) (lrow (Ex.refl H) rfl) (rv_neS rfl))) fun _ => et_not (et_B (ev_callD (v := .bl true) (eds_cons (ed_L (el_numbers T (ev_var rfl)) fun _ _ => dt_ints _) (eds_cons (ed_L lc fun _ _ => dt_ints _) eds_nil)) fun ws H1 e1 r Q q => by
      obtain ⟨w1, w2, rfl, r1, r2⟩ := r.two
      exact ⟨w1, w2, b.rows, rfl, r1, r2, q⟩))) (by simp)) (fun hb => nomatch hb) fun _ H1 e1 => ?_
  refine q_appN (el_numbers (T.ex' e1) (ev_var rfl)) ev_c (by rw [List.length_map]; omega) fun p H2 hp e2 _ => ?_
  have e3 : Ex H (L2.upd H2 p (.lst (b.rows.map V.int ++ [.int 3]))) := e1.trans (Ex.mut e2 hp)
  obtain ⟨H3, hH3⟩ : ∃ H3, H3 = L2.upd H2 p (.lst (b.rows.map V.int ++ [.int 3])) := ⟨_, rfl⟩
  rw [← hH3] at e3 ⊢
  have P3 := P.mono e3
  refine q_forR1 (n := (b.rows.length : Int)) (ea_cons (lrow e3 rfl) ea_nil) (by omega) (fun i σ H' => ∃ x3 x4 x5 : Option V, σ = [some (.ref t), some (.ref pn), some (.ref pr), x3, x4, x5, none] ∧ Ex H3 H') (fun H4 e4 => ⟨_, _, _, rfl, e4⟩) ?_ ?_
  · rintro i σ H4 hi ⟨x3, x4, x5, rfl, e4⟩
    have hi : i < b.rows.length := by omega
    obtain ⟨r, hr⟩ : ∃ r, rs[i]? = some r := ⟨_, List.getElem?_eq_getElem (by omega)⟩
    have rm := List.mem_of_getElem? hr
    refine s_forLn (ev_var rfl) (SqL.of (((P.ex.trans e3).trans e4) _ _ hpn)) (fun j σ H' => ∃ x4 x5 : Option V, σ = [some (.ref t), some (.ref pn), some (.ref pr), some (.int i), x4, x5, none] ∧ Ex H4 H') (fun H5 e5 => ⟨_, _, rfl, e5⟩) (fun j σ H' _ ⟨_, _, _, e⟩ => SqL.of ((((P.ex.trans e3).trans e4).trans e) _ _ hpn)) ?_ ?_
    · rintro j x σ H5 hj ⟨x4, x5, rfl, e5⟩
      rw [List.getElem?_map] at hj
      obtain ⟨z, hzm, rfl⟩ : ∃ z ∈ zs, V.str z = x := by
        cases q : zs[j]? with
        | none => rw [q] at hj; cases hj
        | some z => rw [q] at hj; exact ⟨z, List.mem_of_getElem? q, Option.some.inj hj⟩
      rw [← S.cols] at hzm
      obtain ⟨c, hc, rfl⟩ := List.mem_map.mp hzm
      obtain ⟨w, g1, hd, g2⟩ := S.val c hc i r hr
      have E5 := (e3.trans e4).trans e5
      have T5 := T.ex' E5
      have vo := val_ok hd
      refine q_asgD (ed_at (K := K) T5 (ev_var rfl) (ed_s (ev_var rfl)) (ed_i (ev_var rfl)) (at_okC T5 hc hi)) fun v7 H7 e7 r7 => ?_
      have E7 := E5.trans e7
      have q2 : EvD (tOp (rIxA K) (tOp (rIxA K) (tOp (rIxA K) (tVar 2) (tVar 3)) (tC (.int 1))) (tVar 4)) [some (.ref t), some (.ref pn), some (.ref pr), some (.int i), some (.str c.1), some v7, none] H7 (c.2.getD i .none) :=
        ed_ev (ev_op (ev_op (ev_op (ev_var rfl) (ev_var rfl) (rv_itL (v := .ref r.rl) (SqL.of (E7 _ _ R.at_)) (atI_nat (by rw [List.getElem?_map, hr]; rfl)))) ev_c (rv_itL (v := .ref r.dd) (SqL.of (E7 _ _ (R.row r rm).1)) rfl)) (ev_var rfl) (rv_ixDk (k := .inr c.1) (E7 _ _ (R.row r rm).2) g1)) ((g2.tup (.of_ex E7)).dt)
      refine s_when (b := false) (et_is (et_or (et_B (ev_isD (ed_var rfl r7))) fun _ => et_test (ev_neD (ed_var rfl r7) q2 (val_okD hd) (val_okD hd))) (by rw [vo.2.2.2, vo.2.2.1]; rfl)) (fun hb => nomatch hb) fun _ H8 e8 => ⟨_, _, rfl, (e5.trans e7).trans e8⟩
    · rintro σ H5 ⟨x4, x5, rfl, e5⟩
      exact ⟨_, _, _, rfl, e4.trans e5⟩
  · rintro σ H4 ⟨x3, x4, x5, rfl, e4⟩
    have E4 := e3.trans e4
    have cols : EvD (tMetS (A .Table) "columns" (sp_Table_columns K A) (WE fun cls d _ H => E cls d H) (tVar 0) tNil) [some (.ref t), some (.ref pn), some (.ref pr), x3, x4, x5, none] H4 (.list (zs.map PyData.str)) := by
      have := el_columns (K := K) (Ex0 := WE fun cls d _ H => E cls d H) (T.ex' E4) (ta := tVar 0) (σ := [some (.ref t), some (.ref pn), some (.ref pr), x3, x4, x5, none]) (ev_var rfl)
      rw [S.cols] at this
      exact ed_L this fun _ _ => dt_strs _
    refine s_ret (v := .bl true) (ev_is (ev_eqD cols (ed_var rfl (.lst (E4 _ _ (P.ex _ _ hpn)) (dt_strs _))) (okStrs hz) (okStrs hz)) (by rw [eqvStrs])) fun H5 e5 => k H5 (E4.trans e5)
theorem r_law_put_in (vs : List V) (H : Hp) (Q : VK) (E : XK) (h : sp_law_put_in K A vs H Q E) : t_law_put_in K A E { nx := fun _ H' => Q .non H', rt := Q } (L2.start ["table", "rows", "names", "at", "script", "k", "values", "turned", "j", "handed", "told", "column"] vs) H := by
  obtain ⟨B, F, t, pn, pr, l, b, rs, zs, m, p, i0, ns, rfl, P, S, hpn, hz, nd, z4, hl, hp, h30, hi0, k⟩ := h
  unfold t_law_put_in
  have T := P.tab
  have R := P.rows
  have rl : b.rows.length = rs.length := by rw [S.nums, List.length_map]
  refine q_asgDN fun pv H1 npv e1 hpv => ?_
  have nBv := fresh_back P.ex npv
  refine q_asg (ev_var rfl) fun H2 e2 => ?_
  have E2 := e1.trans e2
  have hpn2 := E2 _ _ (P.ex _ _ hpn)
  refine q_ifMidL (M := fun σ H' => ∃ tn zs', σ = [some (.ref t), some (.ref pr), some (.ref pn), some (.int p), some (.ref l), some (.int i0), some (.ref pv), some (.ref tn), none, none, none, none] ∧ Ex H2 H' ∧ H' tn = some (.lst (zs'.map V.str)) ∧ zs'.Nodup ∧ zs'.length = zs.length ∧ (∀ z, z ∈ zs' ↔ z ∈ zs)) (et_test (ev_op (ev_op (ev_cell (j := 3) (ev_var rfl) ev_c (ex_l (P.ex.trans E2) hl) (by decide)) ev_c (rv_mod (by decide))) ev_c (rv_eqS rfl))) (el_revL (ev_var rfl) (SqL.of hpn2)) (fun q H3 e3 hq => ⟨q, zs.reverse, rfl, e3, by rw [hq, List.map_reverse], by unfold List.Nodup; rw [List.pairwise_reverse]; exact nd.imp fun h q => h q.symm, by simp, by simp⟩) (fun H3 e3 => ⟨pn, zs, rfl, e3, e3 _ _ hpn2, nd, rfl, fun _ => Iff.rfl⟩) ?_
  rintro σ H3 ⟨tn, zs', rfl, e3, htn, nd', len', mem'⟩
  have E3 := E2.trans e3
  have lt3 : Ev (tCB (rLenA K) (tCons (tVar 7) tNil)) [some (.ref t), some (.ref pr), some (.ref pn), some (.int p), some (.ref l), some (.int i0), some (.ref pv), some (.ref tn), none, none, none, none] H3 (.int zs'.length) := by
    have := ev_lenV (K := K) (ta := tVar 7) (σ := [some (.ref t), some (.ref pr), some (.ref pn), some (.int p), some (.ref l), some (.int i0), some (.ref pv), some (.ref tn), none, none, none, none]) (ev_var rfl) (rc_lenL (SqL.of htn))
    rw [List.length_map] at this
    exact this
  have npt : tn ≠ pv := fun q => by
    have := (e2.trans e3) _ _ hpv
    rw [← q, htn] at this
    cases this
  refine q_forR1 (n := (zs'.length : Int)) (ea_cons lt3 ea_nil) (by omega) (fun i σ H' => ∃ (x8 : Option V) (ws : List V) (ds : List PyData), σ = [some (.ref t), some (.ref pr), some (.ref pn), some (.int p), some (.ref l), some (.int i0), some (.ref pv), some (.ref tn), x8, none, none, none] ∧ Ex H H' ∧ H' tn = some (.lst (zs'.map V.str)) ∧ H' pv = some (.dK (kvz (zs'.take i) ws)) ∧ VtAll H' ws ds ∧ ds.all isValueD = true ∧ ws.length = i)
    (fun H4 e4 => ⟨_, [], [], rfl, E3.trans e4, e4 _ _ htn, e4 _ _ ((e2.trans e3) _ _ hpv), .nil, rfl, rfl⟩) ?_ ?_
  · rintro i σ H4 hi ⟨x8, ws, ds, rfl, e4, htn4, hv, vx, hall, hw⟩
    have hi : i < zs'.length := by omega
    obtain ⟨z, hzi⟩ : ∃ z, zs'[i]? = some z := ⟨_, List.getElem?_eq_getElem hi⟩
    have lt : (zs'.take i).length = ws.length := by rw [List.length_take, hw]; omega
    have hzn : z ∉ zs'.take i := fun q => by
      obtain ⟨j, hj, e⟩ := List.getElem_of_mem q
      rw [List.length_take] at hj
      rw [List.getElem_take] at e
      have := List.pairwise_iff_getElem.mp nd' j i (by omega) hi (by omega)
      exact this (by rw [e]; exact (List.getElem?_eq_some_iff.mp hzi).2.symm)
    refine s_setKW (k := .inr z) hv (ew_call (ev_cell (j := 20 + 5 * i0 + i) (ev_var rfl) (ev_is (ev_op (ev_op ev_c (ev_op ev_c (ev_var rfl) (rv_mulI (wide_mul (a := 20) (b := 20) (by omega) (by omega) (by decide) (by decide) (by decide)))) rv_addI) (ev_var rfl) rv_addI) rfl) (ex_l (P.ex.trans e4) hl) (by omega))) (ev_var rfl) (ev_op (ev_var rfl) (ev_var rfl) (rv_itL (v := .str z) (SqL.of htn4) (atI_nat (by rw [List.getElem?_map, hzi]; rfl)))) (by rw [kvz_len lt, lt]; omega) fun d v' H5 hd e5 rv => ?_
    have hv5 := e5 _ _ hv
    have et : zs'.take (i + 1) = zs'.take i ++ [z] := by
      rw [List.take_succ, hzi]
      rfl
    refine ⟨_, ws ++ [v'], ds ++ [d], rfl, Ex.mut (e4.trans e5) npv, ?_, ?_, ((vx.tup (.of_ex e5)).snoc rv).tup (fun bb ys q => by rw [upd_ne (fun z => by rw [z, hv5] at q; cases q)]; exact q), ?_, ?_⟩
    · rw [upd_ne npt]
      exact e5 _ _ htn4
    · rw [upd_same, et, kvz_snoc lt hzn]
    · rw [List.all_append, hall]
      show (d :: []).all isValueD = true
      rw [List.all_cons, hd]
      rfl
    · rw [List.length_append, hw]
      rfl
  rintro σ H4 ⟨x8, ws, ds, rfl, e4, htn4, hv, vx, hall, hw⟩
  have hw : ws.length = zs'.length := by omega
  rw [show ((zs'.length : Int)).toNat = zs'.length from rfl, List.take_of_length_le (Nat.le_refl _)] at hv
  have ln2 : zs'.length = ws.length := hw.symm
  have lds : ds.length = zs'.length := by rw [← vx.length, hw]
  refine q_asgDC (ev_var rfl) hv fun pd H5 npd e5 hpd => ?_
  have E5 := e4.trans e5
  have hv5 := e5 _ _ hv
  have vx5 := vx.tup (.of_ex e5)
  have nBd := fresh_back (P.ex.trans e4) npd
  have nHd := fresh_back e4 npd
  have P5 := P.mono E5
  have T5 := P5.tab
  have ovF : pv ∉ F := T.off npv
  have odF : pd ∉ F := T.off nHd
  have nvd : pv ≠ pd := fun q => by rw [← q, hv] at npd; cases npd
  let L := ((kvz zs' ws).map fun kv => kD kv.1).zip ds
  have hd2 : ∀ {H' : Hp}, VtAll H' ws ds → ∀ z ∈ zs, ∃ w x, valV (kvz zs' ws) (.inr z) = some w ∧ dget L z = some x ∧ isValueD x = true ∧ Vt H' w x := fun {H'} vx z hz' => by
    obtain ⟨w, hw⟩ := kvz_some ((mem' z).mpr hz') ln2
    have hda : DtAll H' ((kvz zs' ws).map (·.2)) ds := by rw [kvz_snd ln2]; exact vx.dt
    rcases dget_of hda z with ⟨q, _⟩ | ⟨w', x, q1, q2, q3⟩
    · rw [hw] at q; cases q
    · obtain ⟨k0, hm⟩ := dget_mem q2
      have hx : isValueD x = true := List.all_eq_true.mp hall x (List.of_mem_zip hm).2
      exact ⟨w', x, q1, q2, hx, vt_of q3 hx⟩
  have cz : ∀ c ∈ b.cols, c.1 ∈ zs := fun c hc => by rw [← S.cols]; exact List.mem_map_of_mem hc
  have g : putInB b (.int p) (.dict L) = .ok ⟨insAt p b.coming b.rows, b.coming + 1, b.cols.map fun c => (c.1, insAt p ((dget L c.1).getD .none) c.2)⟩ := by
    unfold putInB
    rw [if_pos (show isBelow (b.rows.length + 1) (.int p) = true from decide_eq_true (by omega)), if_neg (by omega), if_pos]
    · rfl
    · show (decide (L.length = b.cols.length) && b.cols.all fun c => valAt L c.1) = true
      have lL : L.length = b.cols.length := by
        show (((kvz zs' ws).map fun kv => kD kv.1).zip ds).length = _
        rw [List.length_zip, List.length_map, kvz_len ln2, lds, Nat.min_self, len', ← S.cols, List.length_map]
      rw [decide_eq_true lL, Bool.true_and]
      refine List.all_eq_true.mpr fun c hc => ?_
      obtain ⟨w, x, -, q2, q3, -⟩ := hd2 vx5 c.1 (cz c hc)
      unfold valAt
      rw [q2]
      exact q3
  refine q_tabAsgV (vs := [.int p, .ref pd]) T5 (by decide) (ev_var rfl) (ea_cons (ev_var rfl) (ea_cons (ev_var rfl) ea_nil)) fun H6 e6 T6 => ?_
  have hd6 := e6 _ _ hpd
  have vx6 := vx5.tup (.of_ex e6)
  refine ⟨F, t, b, .int p, .int p, .ref pd, .dict L, rfl, T6, .int p, dtf_dict hd6 odF T6.hF.2 (by rw [kvz_snd ln2]; exact vx6), fun kv hkv => (val_ok (List.all_eq_true.mp hall _ (List.of_mem_zip hkv).2)).1, ?_⟩
  rw [g]
  intro H7 F' T7 f7 n7
  have P7 := (P5.mono e6).fr T7 f7 n7
  have hv7 := f7 _ _ (e6 _ _ hv5) ovF
  have hd7 := f7 _ _ hd6 odF
  have vx7 : VtAll H7 ws ds := vx6.tup ((P5.mono e6).tab.tupFr f7)
  refine q_when (b := false) (et_is (et_or (et_test (ev_neK (ev_var rfl) (ev_var rfl) hd7 hv7 fun q hq => ⟨kvz_mem nd' q hq, kvz_same ln2 vx7 q hq⟩)) fun _ => et_test (ev_op (ev_var rfl) ev_c rv_isnN)) rfl) (fun hb => nomatch hb) fun _ H8 e8 => ?_
  have P8 := P7.mono e8
  have tn7 : tn ≠ pd := fun q => by rw [← q, htn4] at npd; cases npd
  have hv8 := e8 _ _ hv7
  have hd8 := e8 _ _ hd7
  have hpn8 := P8.ex _ _ hpn
  have nnd : pn ≠ pd := fun q => by rw [q, hd8] at hpn8; cases hpn8
  refine q_setK (k := .inr "none") (v := .int 1) hd8 ev_c (ev_var rfl) ev_c (by rw [kvz_len ln2]; omega) fun H9 e9 => ?_
  refine q_forLn (a := pn) (xs := zs.map V.str) (ev_var rfl) (SqL.of (by rw [upd_ne nnd]; exact e9 _ _ hpn8)) (fun i σ H' => ∃ (x11 : Option V) (kvs : List (Key × V)), σ = [some (.ref t), some (.ref pr), some (.ref pn), some (.int p), some (.ref l), some (.int i0), some (.ref pv), some (.ref tn), x8, some (.ref pd), some .non, x11] ∧ H' pd = some (.dK kvs) ∧ kvs.length ≤ 10 + i ∧ ∀ a o, H8 a = some o → a ≠ pd → H' a = some o)
    (fun H10 e10 => ⟨_, _, rfl, e10 _ _ upd_same, by have := put_len (kvs := kvz zs' ws) (k := .inr "none") (v := .int 1); rw [kvz_len ln2] at this; omega, fun a o q n => e10 _ _ (by rw [upd_ne n]; exact e9 _ _ q)⟩) (fun i σ H' _ ⟨_, _, _, _, _, f⟩ => SqL.of (f _ _ hpn8 nnd)) ?_ ?_
  · rintro i x σ H10 hi ⟨x11, kvs, rfl, hd10, hlen, f10⟩
    have hi2 := (List.getElem?_eq_some_iff.mp hi).1
    rw [List.length_map] at hi2
    rw [List.getElem?_map] at hi
    obtain ⟨z, -, rfl⟩ : ∃ z ∈ zs, V.str z = x := by
      cases q : zs[i]? with
      | none => rw [q] at hi; cases hi
      | some z => rw [q] at hi; exact ⟨z, List.mem_of_getElem? q, Option.some.inj hi⟩
    refine s_setK (k := .inr z) (v := .int 77) hd10 ev_c (ev_var rfl) (ev_var rfl) (by omega) fun H11 e11 => ⟨_, _, rfl, upd_same, by have := put_len (kvs := kvs) (k := .inr z) (v := .int 77); omega, fun a o q n => by rw [upd_ne n]; exact e11 _ _ (f10 a o q n)⟩
  rintro σ H10 ⟨x11, kvs, rfl, hd10, -, f10⟩
  have t10 : Tup H8 H10 := fun bb ys q => f10 _ _ q fun z => by rw [z, hd8] at q; cases q
  have P10 := P8.off f10 hd8 nBd (off_new n7 odF hd6) fun g => by
    obtain ⟨o, q⟩ := (P.mono e4).rows.there g
    rw [q] at npd
    cases npd
  have hv10 := f10 _ _ hv8 nvd
  have vx10 := (vx7.tup (.of_ex e8)).tup t10
  have S10 := ((((S.tup (.of_ex E5)).tup (.of_ex e6)).tup ((P5.mono e6).tab.tupFr f7)).tup (.of_ex e8)).tup t10
  refine q_insL P10.rows.at_ (ev_var rfl) (ev_var rfl) (ys := [.int 0, .ref pv]) (el_lst (ea_cons ev_c (ea_cons (ev_var rfl) ea_nil)) (show 2 ≤ 100000 by decide)) (by rw [List.length_map]; omega) (by omega) fun rp H11 nrp e11 hrp => ?_
  have P11 := P10.mono e11
  have nBr := fresh_back P10.ex nrp
  have ovF' : pv ∉ F' := off_new n7 ovF (e6 _ _ hv5)
  have P12 := P11.chg (p := pr) (.inl rfl) (P11.rows.ins p (r := ⟨rp, pv, 0, kvz zs' ws⟩) hrp (e11 _ _ hv10) (fun g => by
      obtain ⟨o, q⟩ := P10.rows.there g
      have q : H10 rp = some o := q
      rw [q] at nrp
      cases nrp) (fun g => by
      obtain ⟨o, q⟩ := R.there g
      have q : H pv = some o := q
      rw [q] at npv
      cases npv)) (fun a g => by
      rcases g with rfl | ⟨r, hr, hra⟩
      · exact .inl (.inl rfl)
      · rcases mem_insAt.mp hr with rfl | hr
        · rcases hra with rfl | rfl
          · exact .inr ⟨nBr, P10.tab.off nrp⟩
          · exact .inr ⟨nBv, ovF'⟩
        · exact .inl (.inr ⟨r, hr, hra⟩))
  refine s_ret (v := .bl true) ev_c fun H12 e12 => k _ F' _ _ (P12.mono e12) rfl rfl ⟨?_, ?_, ?_, ?_⟩
  · rw [map_ins, ← S.nums]
  · rw [List.map_map]
    exact S.cols
  · intro r hr
    rcases mem_insAt.mp hr with rfl | hr
    · show (kvz zs' ws).length ≤ m + 10
      rw [kvz_len ln2]
      omega
    · have := S.few r hr
      omega
  · intro c' hc' i r hr
    obtain ⟨c, hc, rfl⟩ := List.mem_map.mp hc'
    have S12 := (S10.tup (.of_ex e11)).tup (P11.tupFr (o := .lst (insAt p (.ref rp) (rs.map fun r => V.ref r.rl))) (p := pr) (.inl rfl))
    have S12 := S12.tup (.of_ex e12)
    have vx12 := ((vx10.tup (.of_ex e11)).tup (P11.tupFr (o := .lst (insAt p (.ref rp) (rs.map fun r => V.ref r.rl))) (p := pr) (.inl rfl))).tup (.of_ex e12)
    obtain ⟨w, x, q1, q2, q3, q4⟩ := hd2 vx12 c.1 (cz c hc)
    have wide := T.wideC hc
    rw [ins_get (by omega)] at hr
    show ∃ w, valV r.kvs (.inr c.1) = some w ∧ isValueD ((insAt p ((dget L c.1).getD .none) c.2).getD i .none) = true ∧ Vt H12 w ((insAt p ((dget L c.1).getD .none) c.2).getD i .none)
    rw [q2, List.getD_eq_getElem?_getD, ins_get (by omega)]
    by_cases h1 : i < p
    · rw [if_pos h1] at hr ⊢
      have := S12.val c hc i r hr
      rw [List.getD_eq_getElem?_getD] at this
      exact this
    · rw [if_neg h1] at hr ⊢
      by_cases h2 : i = p
      · rw [if_pos h2] at hr ⊢
        cases hr
        exact ⟨w, q1, q3, q4⟩
      · rw [if_neg h2] at hr ⊢
        have := S12.val c hc (i - 1) r hr
        rw [List.getD_eq_getElem?_getD] at this
        exact this
theorem r_law (vs : List V) (H : Hp) (Q : VK) (E : XK) (h : spLaw K vs H Q E) : t_law K A E { nx := fun _ H' => Q .non H', rt := Q } (L2.start ["script", "many", "names", "table", "k", "rows", "j", "values", "coming", "cell", "way", "at"] vs) H := by
  obtain ⟨l, ns, rfl, hl, -, k⟩ := h
  unfold t_law
  refine q_asg (ev_op (ev_cell (j := 0) (ev_var rfl) ev_c hl (by decide)) ev_c (rv_mod (by decide))) fun H1 e1 => ?_
  have b6 := emod_bd (cellV ns 0) (n := 6) (by decide)
  have b11 := emod_bd (cellV ns 0) (n := 11) (by decide)
  refine q_ifAsg (v := .int (if decide (V.int (cellV ns 2 % 8) = V.int 7) = true then 20 + cellV ns 0 % 11 else cellV ns 0 % 6)) (et_test (ev_op (ev_op (ev_cell (j := 2) (ev_var rfl) ev_c (ex_l e1 hl) (by decide)) ev_c (rv_mod (by decide))) ev_c (rv_eqS rfl))) (fun hp => ?_) (fun hp => ?_) fun H2 e2 => ?_
  · rw [if_pos hp]
    exact ev_op ev_c (ev_op (ev_cell (j := 0) (ev_var rfl) ev_c (ex_l e1 hl) (by decide)) ev_c (rv_mod (by decide))) rv_addI
  · rw [if_neg (by rw [hp]; decide)]
    rfl
  obtain ⟨m, hm, hm31⟩ : ∃ m : Nat, (if decide (V.int (cellV ns 2 % 8) = V.int 7) = true then 20 + cellV ns 0 % 11 else cellV ns 0 % 6) = m ∧ m < 31 := by
    refine ⟨(if decide (V.int (cellV ns 2 % 8) = V.int 7) = true then 20 + cellV ns 0 % 11 else cellV ns 0 % 6).toNat, ?_, ?_⟩ <;> split <;> omega
  rw [hm]
  have E2 := e1.trans e2
  have b5 := emod_bd (cellV ns 1) (n := 5) (by decide)
  obtain ⟨w, hw⟩ : ∃ w : Nat, cellV ns 1 % 5 = w := ⟨(cellV ns 1 % 5).toNat, by omega⟩
  rw [hw] at b5
  refine q_asgL (el_slL (K := K) (lo := none) (hi := some (w : Int)) (el_lst (vs := [.str "a", .str "ab", .str "zeta", .str "b"]) (ea_cons ev_c (ea_cons ev_c (ea_cons ev_c (ea_cons ev_c ea_nil)))) (by decide)) eo_none (eo_some (ev_is (ev_op (ev_cell (j := 1) (ev_var rfl) ev_c (ex_l E2 hl) (by decide)) ev_c (rv_mod (by decide))) (by rw [hw])))) fun pn B npn e3 hpn => ?_
  rw [cut_take (by omega) rfl] at hpn
  obtain ⟨zs, hzs⟩ : ∃ zs : List Str, zs = (["a", "ab", "zeta", "b"] : List Str).take w := ⟨_, rfl⟩
  have hpn : B pn = some (.lst (zs.map V.str)) := by rw [hpn, hzs, List.map_take]; rfl
  have hz : ∀ z ∈ zs, isName z = true := fun z hm => by
    rw [hzs] at hm
    have hm := List.mem_of_mem_take hm
    simp only [List.mem_cons, List.not_mem_nil, or_false] at hm
    rcases hm with rfl | rfl | rfl | rfl <;> decide +kernel
  have hnd : zs.Nodup := by rw [hzs]; exact List.Pairwise.sublist (List.take_sublist _ _) (by decide +kernel)
  have z4 : zs.length ≤ 4 := by rw [hzs, List.length_take]; exact Nat.min_le_right _ _
  clear hzs
  have hlB := ex_l (E2.trans e3) hl
  refine q_table (n := m) (ev_var rfl) hm31 fun t r hh H4 e4 nt nr nh T => ?_
  refine q_asgRows (n := (m : Int)) (ea_cons (ev_var rfl) ea_nil) (by omega) (fun _ => rfl) (fun _ => rfl) fun pr rs0 H5 npr e5 R hr0 hn0 => ?_
  have hn0 : rs0.map (·.n) = upto m := hn0
  have P0 : Tw A B t pr H5 [t, r, hh] ⟨upto m, m, []⟩ rs0 := ⟨e4.trans e5, T.ex' e5, R, fun a ha => (by
    simp only [List.mem_cons, List.not_mem_nil, or_false] at ha
    rcases ha with rfl | rfl | rfl <;> assumption), fun a g => by
    have na : H4 a = none := by
      rcases g with rfl | ⟨x, hx, rfl | rfl⟩
      · exact npr
      · exact (hr0 x hx).1
      · exact (hr0 x hx).2.1
    exact ⟨fresh_back e4 na, T.off na⟩⟩
  have S0 : SameR H5 ⟨upto m, m, []⟩ (zs.take 0) rs0 (31 * 0) := ⟨hn0.symm, rfl, fun r hr => by rw [(hr0 r hr).2.2]; exact Nat.zero_le _, fun c hc => nomatch hc⟩
  have ln : ∀ {σ : L2.St} {H' : Hp}, Ex B H' → σ[2]? = some (some (V.ref pn)) → Ev (tCB (rLenA K) (tCons (tVar 2) tNil)) σ H' (.int zs.length) := fun e hσ => by
    have := ev_lenV (K := K) (ev_var hσ) (rc_lenL (SqL.of (e _ _ hpn)))
    rw [List.length_map] at this
    exact this
  refine q_forR1 (n := (zs.length : Int)) (ea_cons (ln P0.ex rfl) ea_nil) (by omega) (fun j σ H' => ∃ (x4 x6 x7 : Option V) (F : List Addr) (b : Tb) (rs : List Rec), σ = [some (.ref l), some (.int m), some (.ref pn), some (.ref t), x4, some (.ref pr), x6, x7, none, none, none, none] ∧ Tw A B t pr H' F b rs ∧ SameR H' b (zs.take j) rs (31 * j) ∧ b.coming = m ∧ b.rows.length = m)
    (fun H6 e6 => ⟨_, _, _, _, _, _, rfl, P0.mono e6, S0.tup (.of_ex e6), rfl, upto_len m⟩) ?_ ?_
  · rintro j σ H6 hj ⟨x4, x6, x7, F, b, rs, rfl, P, S, hco, hbl⟩
    have hj : j < zs.length := by omega
    obtain ⟨z, hzj⟩ : ∃ z, zs[j]? = some z := ⟨_, List.getElem?_eq_getElem hj⟩
    have nz : isName z = true := hz z (List.mem_of_getElem? hzj)
    have et : zs.take (j + 1) = zs.take j ++ [z] := by
      rw [List.take_succ, hzj]
      rfl
    have hzn : z ∉ zs.take j := fun q => by
      obtain ⟨i, hi, e⟩ := List.getElem_of_mem q
      rw [List.length_take] at hi
      rw [List.getElem_take] at e
      exact List.pairwise_iff_getElem.mp hnd i j (by omega) hj (by omega) (by rw [e]; exact (List.getElem?_eq_some_iff.mp hzj).2.symm)
    have ixz : ∀ {σ : L2.St} {H' : Hp}, Ex B H' → σ[2]? = some (some (V.ref pn)) → σ[6]? = some (some (V.int j)) → Ev (tOp (rIxA K) (tVar 2) (tVar 6)) σ H' (.str z) := fun e h2 h6 => ev_op (ev_var h2) (ev_var h6) (rv_itL (v := .str z) (SqL.of (e _ _ hpn)) (atI_nat (by rw [List.getElem?_map, hzj]; rfl)))
    refine q_asgLcW (n := (m : Int)) (ea_cons (ev_var rfl) ea_nil) (by omega) (fun _ => rfl) (fun i H12 e12 hi => ew_callB (ev_cellB (j := 90 + 31 * j + i) (ev_var rfl) (ev_is (ev_op (ev_op ev_c (ev_op ev_c (ev_var rfl) (rv_mulI (wide_mul (a := 20) (b := 20) (by omega) (by omega) (by decide) (by decide) (by decide)))) rv_addI) (ev_var rfl) rv_addI) rfl) (ex_l (P.ex.trans e12) hlB) (by omega))) fun pv xs ds H7 npv e7 hpv vx hds hall => ?_
    have hds : ds.length = m := hds
    have o1 := P.tab.off npv
    have P7 := P.mono e7
    refine q_tabDrop (ds := [.str z, .list ds]) P7.tab (by decide) (ev_var rfl) (eds_cons (ed_s (ixz P7.ex rfl rfl)) (eds_cons (ed_L (el_listA (ev_var rfl) (SqL.of hpv)) fun H' e => (vx.tup (.of_ex e)).dt) eds_nil)) fun ws H8 e8 rw_ T8 => ?_
    obtain ⟨w1, w2, rfl, rz1, rz2⟩ := rw_.two
    have cl : b.cols.length = (zs.take j).length := by rw [← S.cols, List.length_map]
    have g : giveB b (.str z) (.list ds) = .ok { b with cols := putA b.cols z ds } := by
      unfold giveB
      rw [if_pos (show isNameD (.str z) = true from nz), if_neg (by
        rw [cl, List.length_take, decide_eq_false (show ¬ 8 ≤ min j zs.length by omega), Bool.and_false]
        decide), if_pos (by
        show (decide (ds.length = b.rows.length) && ds.all isValueD) = true
        rw [hall, decide_eq_true (by omega)]
        rfl)]
      rfl
    refine ⟨F, t, b, w1, .str z, w2, .list ds, rfl, T8, rz1, (name_ok nz).len, rz2, fun x hx => (val_ok (List.all_eq_true.mp hall x hx)).1, by show ds.length ≤ 40000; omega, ?_⟩
    rw [g, putA_new (by rw [S.cols]; exact hzn)]
    intro H9 F' T9 f9 n9
    have P9 := (P7.mono e8).fr T9 f9 n9
    have hpv9 := f9 _ _ (e8 _ _ hpv) o1
    have vx9 : VtAll H9 xs ds := (vx.tup (.of_ex e8)).tup ((P7.mono e8).tab.tupFr f9)
    have S9 := ((S.tup (.of_ex e7)).tup (.of_ex e8)).tup ((P7.mono e8).tab.tupFr f9)
    have rl0 : rs.length = m := by rw [← hbl, S.nums, List.length_map]
    refine s_forR1 (n := (m : Int)) (ea_cons (ev_var rfl) ea_nil) (by omega) (fun i σ H' => ∃ (x4 : Option V) (rs' : List Rec), σ = [some (.ref l), some (.int m), some (.ref pn), some (.ref t), x4, some (.ref pr), some (.int j), some (.ref pv), none, none, none, none] ∧ Tw A B t pr H' F' { b with cols := b.cols ++ [(z, ds)] } rs' ∧ H' pv = some (.lst xs) ∧ VtAll H' xs ds ∧ rs'.map (·.n) = rs.map (·.n) ∧ (∀ r ∈ rs', r.kvs.length ≤ 31 * j + i) ∧ (∀ c ∈ b.cols, ValC H' c rs' fun _ => True) ∧ ValC H' (z, ds) rs' (· < i))
      (fun H10 e10 => ⟨_, rs, rfl, P9.mono e10, e10 _ _ hpv9, vx9.tup (.of_ex e10), rfl, S.few, fun c hc i r _ hi => (S9.tup (.of_ex e10)).val c hc i r hi, fun i r hi => absurd hi (Nat.not_lt_zero _)⟩) ?_ ?_
    · rintro i σ H10 hi ⟨x4, rs', rfl, P10, hv10, vx10, hn10, few10, old10, new10⟩
      have hi : i < m := by omega
      have rl' : rs'.length = m := by rw [← rl0]; have := congrArg List.length hn10; rw [List.length_map, List.length_map] at this; exact this
      obtain ⟨r, hr⟩ : ∃ r, rs'[i]? = some r := ⟨_, List.getElem?_eq_getElem (by omega)⟩
      have rm := List.mem_of_getElem? hr
      obtain ⟨w, g1, g2⟩ := vx10.get (i := i) (by omega)
      have hd : isValueD (ds.getD i .none) = true := List.all_eq_true.mp hall _ (getD_mem (by omega))
      have hrow := P10.rows.row r rm
      refine s_setK (k := .inr z) (v := w) hrow.2 (ev_op (ev_var rfl) (ev_var rfl) (rv_itL (SqL.of hv10) (atI_nat g1))) (ev_op (ev_op (ev_var rfl) (ev_var rfl) (rv_itL (v := .ref r.rl) (SqL.of P10.rows.at_) (atI_nat (by rw [List.getElem?_map, hr]; rfl)))) ev_c (rv_itL (v := .ref r.dd) (SqL.of hrow.1) rfl)) (ixz P10.ex rfl rfl) (by have := few10 r rm; omega) fun H11 e11 => ?_
      have P11 := P10.mono e11
      have gd : GF pr rs' r.dd := .inr ⟨r, rm, .inr rfl⟩
      have tup := P11.tupFr (o := .dK (putK r.kvs (.inr z) w)) gd
      refine ⟨_, _, rfl, P11.chg gd (P11.rows.setKv hr _) fun a ga => .inl (gf_set (r' := { r with kvs := putK r.kvs (.inr z) w }) hr rfl rfl a ga), ?_, (vx10.tup (.of_ex e11)).tup tup, ?_, ?_, fun c hc => ?_, ?_⟩
      · rw [upd_ne (fun q => by have := hrow.2; rw [← q, hv10] at this; cases this)]
        exact e11 _ _ hv10
      · rw [map_set_same (a' := { r with kvs := putK r.kvs (.inr z) w }) (·.n) hr rfl, hn10]
      · exact set_few (r := r) few10 (by have := few10 r rm; have := put_len (kvs := r.kvs) (k := .inr z) (v := w); show (putK r.kvs (.inr z) w).length ≤ 31 * j + i + 1; omega)
      · exact (((old10 c hc).tup (.of_ex e11)).tup tup).other (fun q => hzn (by rw [← q, ← S.cols]; exact List.mem_map_of_mem hc)) hr
      · exact ((new10.tup (.of_ex e11)).tup tup).this (ds' := ds) hr ⟨hd, (g2.tup (.of_ex e11)).tup tup⟩ (fun _ _ => rfl) fun i' hi' => by omega
    · rintro σ H10 ⟨x4, rs', rfl, P10, hv10, vx10, hn10, few10, old10, new10⟩
      refine ⟨_, _, _, _, _, _, rfl, P10, ⟨?_, ?_, fun r hr => ?_, fun c hc i r hi => ?_⟩, hco, hbl⟩
      · rw [hn10]; exact S.nums
      · rw [List.map_append, S.cols, et]; rfl
      · have := few10 r hr
        omega
      · rcases List.mem_append.mp hc with hc | hc
        · exact old10 c hc i r trivial hi
        · rw [List.mem_singleton.mp hc]
          refine new10 i r ?_ hi
          have := (List.getElem?_eq_some_iff.mp hi).1
          have q := congrArg List.length hn10
          rw [List.length_map, List.length_map] at q
          omega
  · rintro σ H6 ⟨x4, x6, x7, F, b, rs, rfl, P, S, hco, hbl⟩
    have S : SameR H6 b (zs.take zs.length) rs (31 * zs.length) := S
    rw [List.take_of_length_le (Nat.le_refl _)] at S
    have S : SameR H6 b zs rs (124 + 10 * 0) := ⟨S.nums, S.cols, fun r hr => by have := S.few r hr; omega, S.val⟩
    have stands : ∀ {σ : L2.St} {H' : Hp} {F : List Addr} {b : Tb} {rs : List Rec} {q : Nat}, Tw A B t pr H' F b rs → SameR H' b zs rs q → σ[3]? = some (some (V.ref t)) → σ[2]? = some (some (V.ref pn)) → σ[5]? = some (some (V.ref pr)) → Ev (tCallS (sp_law_stands K A) (WE (fun cls d _ H => E cls d H)) (tCons (tVar 3) (tCons (tVar 2) (tCons (tVar 5) tNil)))) σ H' (.bl true) := fun {σ H' F b rs q} P S h3 h2 h5 => fun H1 e1 Q k =>
      (ea_cons (ev_var h3) (ea_cons (ev_var h2) (ea_cons (ev_var h5) ea_nil))) H1 e1 _ fun H2 e2 => ⟨B, F, t, pn, pr, b, rs, zs, q, rfl, P.mono (e1.trans e2), S.tup (.of_ex (e1.trans e2)), hpn, hz, fun H3 e3 => k H3 (e2.trans e3)⟩
    refine q_asg (ev_var rfl) fun H7 e7 => ?_
    have bk := emod_bd (cellV ns 4) (n := 13) (by decide)
    refine q_forR1 (n := cellV ns 4 % 13) (ea_cons (ev_op (ev_cell (j := 4) (ev_var rfl) ev_c (ex_l (P.ex.trans e7) hlB) (by decide)) ev_c (rv_mod (by decide))) ea_nil) (by omega) (fun i σ H' => ∃ (x4 x9 x10 x11 : Option V) (F : List Addr) (b : Tb) (rs : List Rec), σ = [some (.ref l), some (.int m), some (.ref pn), some (.ref t), x4, some (.ref pr), x6, x7, some (.int b.coming), x9, x10, x11] ∧ Tw A B t pr H' F b rs ∧ SameR H' b zs rs (124 + 10 * i))
      (fun H8 e8 => ⟨_, _, _, _, F, b, rs, by rw [hco]; rfl, (P.mono e7).mono e8, (S.tup (.of_ex e7)).tup (.of_ex e8)⟩) ?_ ?_
    · clear hbl hco S P
      rintro i σ H8 hi ⟨x4, x9, x10, x11, F, b, rs, rfl, P, S⟩
      refine q_asg (ev_cell (j := 5 + i) (ev_var rfl) (ev_is (ev_op ev_c (ev_var rfl) rv_addI) rfl) (ex_l P.ex hlB) (by omega)) fun H9 e9 => ?_
      refine q_asg (ev_op (ev_var rfl) ev_c (rv_mod (by decide))) fun H10 e10 => ?_
      have P := (P.mono e9).mono e10
      have S := (S.tup (.of_ex e9)).tup (.of_ex e10)
      generalize cellV ns (5 + i) = cell
      refine q_mid (fun σ' H' => ∃ (x9 x10 x11 : Option V) (F : List Addr) (b : Tb) (rs : List Rec), σ' = [some (.ref l), some (.int m), some (.ref pn), some (.ref t), some (.int i), some (.ref pr), x6, x7, some (.int b.coming), x9, x10, x11] ∧ Tw A B t pr H' F b rs ∧ SameR H' b zs rs (124 + 10 * (i + 1))) ?_ ?_
      · rintro σ' H' ⟨x9, x10, x11, F, b, rs, rfl, P, S⟩
        exact s_when (b := false) (et_is (et_not (et_B (stands P S rfl rfl rfl))) rfl) (fun hb => nomatch hb) fun _ H'' e'' => ⟨_, _, _, _, _, _, _, rfl, P.mono e'', S.tup (.of_ex e'')⟩
      · intro N hN
        have rl : b.rows.length = rs.length := by rw [S.nums, List.length_map]
        have b30 : b.rows.length ≤ 30 := by
          obtain ⟨dx, r, hh, es2, rfl, O⟩ := P.tab.ex
          exact O.few.1
        have lrow : ∀ {σ : L2.St} {H' : Hp}, Ex H10 H' → σ[5]? = some (some (V.ref pr)) → Ev (tCB (rLenA K) (tCons (tVar 5) tNil)) σ H' (.int rs.length) := fun e hσ => by
          have := ev_lenV (K := K) (ev_var hσ) (rc_lenL (SqL.of (e _ _ P.rows.at_)))
          rw [List.length_map] at this
          exact this
        refine s_if (et_and (et_test (ev_op (ev_var rfl) ev_c rv_lt)) fun _ => et_test (ev_op (lrow (Ex.refl _) rfl) ev_c rv_lt)) (fun hb H11 e11 => ?_) (fun hb H11 e11 => ?_)
        · have hlt : rs.length < 30 := by
            rw [Bool.and_eq_true] at hb
            have := of_decide_eq_true hb.2
            omega
          have ba := emod_bd (cell / 5) (n := (rs.length : Int) + 1) (by omega)
          obtain ⟨p, hp⟩ : ∃ p : Nat, cell / 5 % ((rs.length : Int) + 1) = p := ⟨(cell / 5 % ((rs.length : Int) + 1)).toNat, by omega⟩
          refine q_asg (v := .int p) (ev_is (ev_op (ev_op (ev_var rfl) ev_c (rv_div (by decide))) (ev_op (lrow e11 rfl) ev_c rv_addI) (rv_mod (by omega))) (by rw [hp])) fun H12 e12 => ?_
          have P := (P.mono e11).mono e12
          have S := (S.tup (.of_ex e11)).tup (.of_ex e12)
          refine q_callYes (vs := [.ref t, .ref pr, .ref pn, .int p, .ref l, .int i]) (ea_cons (ev_var rfl) (ea_cons (ev_var rfl) (ea_cons (ev_var rfl) (ea_cons (ev_var rfl) (ea_cons (ev_var rfl) (ea_cons (ev_var rfl) ea_nil)))))) fun H13 e13 Q hQ => ⟨B, F, t, pn, pr, l, b, rs, zs, 124 + 10 * i, p, i, ns, rfl, P.mono e13, S.tup (.of_ex e13), hpn, hz, hnd, z4, hlB, by omega, by omega, by omega, fun H14 F' b' r0 P' h0 hc S' => hQ H14 ?_⟩
          have gi : (insAt p r0 rs)[p]? = some r0 := by rw [ins_get (by omega), if_neg (by omega), if_pos rfl]
          have hm0 : r0 ∈ insAt p r0 rs := List.mem_of_getElem? gi
          refine q_setA (l := r0.rl) (xs := [.int r0.n, .ref r0.dd]) (j := 0) (v := .int b.coming) (P'.rows.row r0 hm0).1 (ev_var rfl) (ev_op (ev_var rfl) (ev_var rfl) (rv_itL (v := .ref r0.rl) (SqL.of P'.rows.at_) (atI_nat (by rw [List.getElem?_map, gi]; rfl)))) ev_c (Nat.zero_lt_succ _) fun H15 e15 => ?_
          have P15 := P'.mono e15
          have gd : GF pr (insAt p r0 rs) r0.rl := .inr ⟨r0, hm0, .inl rfl⟩
          have P16 := P15.chg gd (P15.rows.setN gi b.coming) fun a ga => .inl (gf_set (r' := { r0 with n := b.coming }) gi rfl rfl a ga)
          rw [ins_set (by omega)] at P16
          have S16 := (S'.tup (.of_ex e15)).tup (P15.tupFr (o := .lst [.int b.coming, .ref r0.dd]) gd)
          refine s_asg (ev_op (ev_var rfl) ev_c rv_addI) fun H17 e17 => hN _ _ ⟨_, _, _, F', b', _, by rw [hc]; rfl, P16.mono e17, S16.tup (.of_ex e17)⟩
        · refine s_if (et_and (et_test (ev_op (ev_var rfl) ev_c (rv_eqS rfl))) fun _ => et_and (et_test (ev_neNil (ev_var rfl) (e11 _ _ P.rows.at_))) fun _ => et_test (ev_neNil (ev_var rfl) ((P.ex.trans e11) _ _ hpn))) (fun hb2 H12 e12 => ?_) (fun hb2 H12 e12 => ?_)
          · rw [Bool.and_eq_true, Bool.and_eq_true, List.length_map, List.length_map] at hb2
            have hne : rs.length ≠ 0 := fun q => by have := hb2.2.1; rw [q] at this; cases this
            have hnz : zs.length ≠ 0 := fun q => by have := hb2.2.2; rw [q] at this; cases this
            obtain ⟨z, hz0⟩ : ∃ z, zs[0]? = some z := ⟨_, List.getElem?_eq_getElem (by omega)⟩
            have zm := List.mem_of_getElem? hz0
            have P := (P.mono e11).mono e12
            have S := (S.tup (.of_ex e11)).tup (.of_ex e12)
            have ba := emod_bd (cell / 5) (n := (rs.length : Int)) (by omega)
            obtain ⟨p, hp⟩ : ∃ p : Nat, cell / 5 % (rs.length : Int) = p := ⟨(cell / 5 % (rs.length : Int)).toNat, by omega⟩
            refine q_asg (v := .int p) (ev_is (ev_op (ev_op (ev_var rfl) ev_c (rv_div (by decide))) (lrow (e11.trans e12) rfl) (rv_mod (by omega))) (by rw [hp])) fun H14 e14 => ?_
            have P := P.mono e14
            have S := S.tup (.of_ex e14)
            obtain ⟨r, hr⟩ : ∃ r, rs[p]? = some r := ⟨_, List.getElem?_eq_getElem (by omega)⟩
            have rm := List.mem_of_getElem? hr
            have hrow := P.rows.row r rm
            have nm : ∀ {σ : L2.St} {H' : Hp}, Ex B H' → σ[2]? = some (some (V.ref pn)) → Ev (tOp (rIxA K) (tVar 2) (tC (.int 0))) σ H' (.str z) := fun e h2 => ev_op (ev_var h2) ev_c (rv_itL (v := .str z) (SqL.of (e _ _ hpn)) (atI_nat (j := 0) (by rw [List.getElem?_map, hz0]; rfl)))
            refine q_setKW (k := .inr z) hrow.2 (ew_call (ev_op (ev_var rfl) ev_c (rv_div (by decide)))) (ev_op (ev_op (ev_var rfl) (ev_var rfl) (rv_itL (v := .ref r.rl) (SqL.of P.rows.at_) (atI_nat (by rw [List.getElem?_map, hr]; rfl)))) ev_c (rv_itL (v := .ref r.dd) (SqL.of hrow.1) rfl)) (nm P.ex rfl) (by have := S.few r rm; omega) fun d v H15 hd e15 rv => ?_
            have P15 := P.mono e15
            have gd : GF pr rs r.dd := .inr ⟨r, rm, .inr rfl⟩
            have tup := P15.tupFr (o := .dK (putK r.kvs (.inr z) v)) gd
            have P16 := P15.chg gd (P15.rows.setKv hr (putK r.kvs (.inr z) v)) fun a ga => .inl (gf_set (r' := { r with kvs := putK r.kvs (.inr z) v }) hr rfl rfl a ga)
            have S16 := (S.tup (.of_ex e15)).tup tup
            have rv := rv.tup tup
            have hr2 : (rs.set p { r with kvs := putK r.kvs (.inr z) v })[p]? = some { r with kvs := putK r.kvs (.inr z) v } := by rw [List.getElem?_set, if_pos rfl, if_pos (by omega)]
            have rm2 := List.mem_of_getElem? hr2
            have hrow2 := P16.rows.row _ rm2
            obtain ⟨H16, hH⟩ : ∃ H16, H16 = L2.upd H15 r.dd (.dK (putK r.kvs (.inr z) v)) := ⟨_, rfl⟩
            rw [← hH] at P16 S16 rv hrow2 ⊢
            have g : putB b (.str z) (.int p) d = .ok { b with cols := onA (fun ds => ds.set p d) b.cols z } := by
              unfold putB
              rw [if_pos (show hasC b (.str z) = true from by
                rw [← S.cols] at zm
                obtain ⟨c, hc, e⟩ := List.mem_map.mp zm
                exact List.any_eq_true.mpr ⟨c, hc, decide_eq_true e⟩), if_pos (show isBelow b.rows.length (.int p) = true from decide_eq_true (by omega)), if_pos hd]
              rfl
            refine s_tabDrop (ds := [.str z, .int p, d]) P16.tab (by decide) (ev_var rfl) (eds_cons (ed_s (nm P16.ex rfl)) (eds_cons (ed_i (ev_var rfl)) (eds_cons (ed_ev (ev_op (ev_op (ev_op (ev_var rfl) (ev_var rfl) (rv_itL (v := .ref r.rl) (SqL.of P16.rows.at_) (atI_nat (by rw [List.getElem?_map, hr2]; rfl)))) ev_c (rv_itL (v := .ref r.dd) (SqL.of hrow2.1) rfl)) (nm P16.ex rfl) (rv_ixDk (k := .inr z) hrow2.2 (by rw [valV_put, if_pos rfl]))) rv.dt) eds_nil))) fun ws H17 e17 rw_ T17 => ?_
            obtain ⟨w1, ws', rfl, rz1, rw_⟩ : ∃ w1 ws', ws = w1 :: ws' ∧ Dt H17 w1 (.str z) ∧ DtAll H17 ws' [.int p, d] := by cases rw_ with | cons h1 h2 => exact ⟨_, _, rfl, h1, h2⟩
            obtain ⟨w2, w3, rfl, rz2, rz3⟩ := rw_.two
            refine ⟨F, t, b, w1, .str z, w2, .int p, w3, d, rfl, T17, rz1, rz2, rz3, (val_ok hd).1, ?_⟩
            rw [g]
            intro H18 F' T18 f18 n18
            have P18 := (P16.mono e17).fr T18 f18 n18
            have tf := (P16.mono e17).tab.tupFr f18
            have S18 := (S16.tup (.of_ex e17)).tup tf
            have rv18 := (rv.tup (.of_ex e17)).tup tf
            refine hN _ _ ⟨_, _, _, F', { b with cols := onA (fun ds => ds.set p d) b.cols z }, _, rfl, P18, ?_, ?_, fun x hx => ?_, ?_⟩
            · rw [map_set_same (a' := { r with kvs := putK r.kvs (.inr z) v }) (·.n) hr rfl]
              exact S.nums
            · rw [← S.cols]
              unfold onA
              rw [List.map_map]
              exact List.map_congr_left fun c _ => by show (if c.1 = z then (c.1, c.2.set p d) else c).1 = c.1; split <;> rfl
            · have := set_few (r := r) (i := p) (r' := { r with kvs := putK r.kvs (.inr z) v }) S.few (by have := S.few r rm; have := put_len (kvs := r.kvs) (k := .inr z) (v := v); show (putK r.kvs (.inr z) v).length ≤ 124 + 10 * i + 1; omega) x hx
              omega
            · intro c' hc' i' x hx
              obtain ⟨c, hc, rfl⟩ := List.mem_map.mp hc'
              have old : ValC H18 c rs fun _ => True := fun i r _ h => S18.val c hc i r h
              by_cases e : c.1 = z
              · have := ValC.this (z := z) (ds := c.2) (ds' := c.2.set p d) (P' := fun _ => True) (v := v) (by rw [← e]; exact old) hr (by
                  have wl := P18.tab
                  have wc := P.tab.wideC hc
                  rw [List.getD_eq_getElem?_getD, List.getElem?_set, if_pos rfl, if_pos (by omega)]
                  exact ⟨hd, rv18⟩) (fun i hi => by rw [List.getD_eq_getElem?_getD, List.getD_eq_getElem?_getD, List.getElem?_set, if_neg (fun q => hi q.symm)]) (fun _ _ => .inr trivial) i' x trivial hx
                rw [if_pos e, e]
                exact this
              · rw [if_neg e]
                exact old.other e hr i' x trivial hx
          · have P := (P.mono e11).mono e12
            have S := (S.tup (.of_ex e11)).tup (.of_ex e12)
            refine s_when (et_test (ev_neNil (ev_var rfl) P.rows.at_)) (fun hb3 H13 e13 => ?_) (fun hb3 H13 e13 => hN _ _ ⟨_, _, _, F, b, rs, rfl, P.mono e13, S.nums, S.cols, fun r hr => by have := S.few r hr; omega, (S.tup (.of_ex e13)).val⟩)
            have hne : rs.length ≠ 0 := fun q => by rw [List.length_map, q] at hb3; cases hb3
            have ba := emod_bd (cell / 5) (n := (rs.length : Int)) (by omega)
            obtain ⟨p, hp⟩ : ∃ p : Nat, cell / 5 % (rs.length : Int) = p := ⟨(cell / 5 % (rs.length : Int)).toNat, by omega⟩
            refine q_asg (v := .int p) (ev_is (ev_op (ev_op (ev_var rfl) ev_c (rv_div (by decide))) (lrow ((e11.trans e12).trans e13) rfl) (rv_mod (by omega))) (by rw [hp])) fun H14 e14 => ?_
            have P := (P.mono e13).mono e14
            have S := (S.tup (.of_ex e13)).tup (.of_ex e14)
            have g : takeB b (.int p) = .ok { b with rows := b.rows.eraseIdx p, cols := b.cols.map fun c => (c.1, c.2.eraseIdx p) } := by
              unfold takeB
              rw [if_pos (show isBelow b.rows.length (.int p) = true from decide_eq_true (by omega))]
              rfl
            refine q_tabIsn (vs := [.int p]) P.tab (by decide) (ev_var rfl) (ea_cons (ev_var rfl) ea_nil) fun H15 e15 T15 Q hQ => ⟨F, t, b, .int p, .int p, rfl, T15, .int p, ?_⟩
            rw [g]
            intro H16 F' T16 f16 n16
            refine hQ _ ?_
            have P16 := (P.mono e15).fr T16 f16 n16
            refine s_popAt P16.rows.at_ (ev_var rfl) (ev_var rfl) (by rw [List.length_map]; omega) (by rw [List.length_map]; omega) fun H17 e17 => hN _ _ ⟨_, _, _, F', { b with rows := b.rows.eraseIdx p, cols := b.cols.map fun c => (c.1, c.2.eraseIdx p) }, rs.eraseIdx p, rfl, (P16.mono e17).chg (.inl rfl) ((P16.mono e17).rows.era p) (fun a ga => .inl (ga.imp id fun ⟨x, hx, q⟩ => ⟨x, List.mem_of_mem_eraseIdx hx, q⟩)), ?_, ?_, fun r hr => ?_, ?_⟩
            · rw [map_erase, ← S.nums]
            · rw [List.map_map]
              exact S.cols
            · have := S.few r (List.mem_of_mem_eraseIdx hr)
              omega
            · intro c' hc' i' r hr
              obtain ⟨c, hc, rfl⟩ := List.mem_map.mp hc'
              have S17 := (((S.tup (.of_ex e15)).tup ((P.mono e15).tab.tupFr f16)).tup (.of_ex e17)).tup ((P16.mono e17).tupFr (o := .lst ((rs.map fun r => V.ref r.rl).eraseIdx p)) (p := pr) (.inl rfl))
              rw [List.getElem?_eraseIdx] at hr
              show ∃ w, valV r.kvs (.inr c.1) = some w ∧ isValueD ((c.2.eraseIdx p).getD i' .none) = true ∧ Vt _ w ((c.2.eraseIdx p).getD i' .none)
              rw [List.getD_eq_getElem?_getD, List.getElem?_eraseIdx]
              split at hr
              · rename_i h1
                have := S17.val c hc i' r hr
                rw [List.getD_eq_getElem?_getD] at this
                rw [if_pos h1]
                exact this
              · rename_i h1
                have := S17.val c hc (i' + 1) r hr
                rw [List.getD_eq_getElem?_getD] at this
                rw [if_neg h1]
                exact this
    · rintro σ H8 ⟨x4, x9, x10, x11, F, b, rs, rfl, P, S⟩
      exact s_ret (stands P S rfl rfl rfl) fun H9 e9 => k H9
end
end Z


set_option Elab.async false
set_option linter.all false
set_option autoImplicit false
set_option maxRecDepth 100000
set_option maxHeartbeats 4000000
namespace Z
open PySem PySem.Spec PyProof.Rows L2 Evl
def top (i : Nat) : Stmt := PySem.Challenge.pw_lazycols_k07_rows_in_and_out.main.body.getD i (.Pass ⟨0, 0, 0, 0⟩)
abbrev s_is_whole : Stmt := top 11
abbrev N_is_whole : List Str := ["thing"]
theorem sc_is_whole : FnScope N_is_whole ["thing"] (defScope s_is_whole) := ⟨rfl, rfl, rfl, by decide +kernel, rfl, by decide +kernel, by decide +kernel⟩
abbrev s_is_name : Stmt := top 12
abbrev N_is_name : List Str := ["thing", "sign"]
theorem sc_is_name : FnScope N_is_name ["thing"] (defScope s_is_name) := ⟨rfl, rfl, rfl, by decide +kernel, rfl, by decide +kernel, by decide +kernel⟩
abbrev s_is_fault : Stmt := top 13
abbrev N_is_fault : List Str := ["thing"]
theorem sc_is_fault : FnScope N_is_fault ["thing"] (defScope s_is_fault) := ⟨rfl, rfl, rfl, by decide +kernel, rfl, by decide +kernel, by decide +kernel⟩
abbrev s_is_number : Stmt := top 14
abbrev N_is_number : List Str := ["thing"]
theorem sc_is_number : FnScope N_is_number ["thing"] (defScope s_is_number) := ⟨rfl, rfl, rfl, by decide +kernel, rfl, by decide +kernel, by decide +kernel⟩
abbrev s_is_value : Stmt := top 15
abbrev N_is_value : List Str := ["thing"]
theorem sc_is_value : FnScope N_is_value ["thing"] (defScope s_is_value) := ⟨rfl, rfl, rfl, by decide +kernel, rfl, by decide +kernel, by decide +kernel⟩
abbrev s_is_below : Stmt := top 19
abbrev N_is_below : List Str := ["thing", "many"]
theorem sc_is_below : FnScope N_is_below ["thing", "many"] (defScope s_is_below) := ⟨rfl, rfl, rfl, by decide +kernel, rfl, by decide +kernel, by decide +kernel⟩
abbrev s_are_values : Stmt := top 20
abbrev N_are_values : List Str := ["thing", "many", "value"]
theorem sc_are_values : FnScope N_are_values ["thing", "many"] (defScope s_are_values) := ⟨rfl, rfl, rfl, by decide +kernel, rfl, by decide +kernel, by decide +kernel⟩
abbrev s_Table_init : Stmt := inClass (top 21) 0
abbrev N_Table_init : List Str := ["self", "many"]
theorem sc_Table_init : FnScope N_Table_init ["self", "many"] (defScope s_Table_init) := ⟨rfl, rfl, rfl, by decide +kernel, rfl, by decide +kernel, by decide +kernel⟩
abbrev s_Table_many : Stmt := inClass (top 21) 1
abbrev N_Table_many : List Str := ["self"]
theorem sc_Table_many : FnScope N_Table_many ["self"] (defScope s_Table_many) := ⟨rfl, rfl, rfl, by decide +kernel, rfl, by decide +kernel, by decide +kernel⟩
abbrev s_Table_numbers : Stmt := inClass (top 21) 2
abbrev N_Table_numbers : List Str := ["self"]
theorem sc_Table_numbers : FnScope N_Table_numbers ["self"] (defScope s_Table_numbers) := ⟨rfl, rfl, rfl, by decide +kernel, rfl, by decide +kernel, by decide +kernel⟩
abbrev s_Table_columns : Stmt := inClass (top 21) 3
abbrev N_Table_columns : List Str := ["self"]
theorem sc_Table_columns : FnScope N_Table_columns ["self"] (defScope s_Table_columns) := ⟨rfl, rfl, rfl, by decide +kernel, rfl, by decide +kernel, by decide +kernel⟩
abbrev s_Table_has : Stmt := inClass (top 21) 4
abbrev N_Table_has : List Str := ["self", "column"]
theorem sc_Table_has : FnScope N_Table_has ["self", "column"] (defScope s_Table_has) := ⟨rfl, rfl, rfl, by decide +kernel, rfl, by decide +kernel, by decide +kernel⟩
abbrev s_Table_give : Stmt := inClass (top 21) 5
abbrev N_Table_give : List Str := ["self", "column", "values"]
theorem sc_Table_give : FnScope N_Table_give ["self", "column", "values"] (defScope s_Table_give) := ⟨rfl, rfl, rfl, by decide +kernel, rfl, by decide +kernel, by decide +kernel⟩
abbrev s_Table_look_at : Stmt := inClass (top 21) 6
abbrev N_Table_look_at : List Str := ["self", "column"]
theorem sc_Table_look_at : FnScope N_Table_look_at ["self", "column"] (defScope s_Table_look_at) := ⟨rfl, rfl, rfl, by decide +kernel, rfl, by decide +kernel, by decide +kernel⟩
abbrev s_Table_look_at_place : Stmt := inClass (top 21) 7
abbrev N_Table_look_at_place : List Str := ["self", "place", "many"]
theorem sc_Table_look_at_place : FnScope N_Table_look_at_place ["self", "place", "many"] (defScope s_Table_look_at_place) := ⟨rfl, rfl, rfl, by decide +kernel, rfl, by decide +kernel, by decide +kernel⟩
abbrev s_Table_put : Stmt := inClass (top 21) 9
abbrev N_Table_put : List Str := ["self", "column", "place", "value"]
theorem sc_Table_put : FnScope N_Table_put ["self", "column", "place", "value"] (defScope s_Table_put) := ⟨rfl, rfl, rfl, by decide +kernel, rfl, by decide +kernel, by decide +kernel⟩
abbrev s_Table_at : Stmt := inClass (top 21) 10
abbrev N_Table_at : List Str := ["self", "column", "place"]
theorem sc_Table_at : FnScope N_Table_at ["self", "column", "place"] (defScope s_Table_at) := ⟨rfl, rfl, rfl, by decide +kernel, rfl, by decide +kernel, by decide +kernel⟩
abbrev s_Table_are_all : Stmt := inClass (top 21) 11
abbrev N_Table_are_all : List Str := ["self", "values", "column"]
theorem sc_Table_are_all : FnScope N_Table_are_all ["self", "values"] (defScope s_Table_are_all) := ⟨rfl, rfl, rfl, by decide +kernel, rfl, by decide +kernel, by decide +kernel⟩
abbrev s_Table_put_in : Stmt := inClass (top 21) 12
abbrev N_Table_put_in : List Str := ["self", "place", "values", "column"]
theorem sc_Table_put_in : FnScope N_Table_put_in ["self", "place", "values"] (defScope s_Table_put_in) := ⟨rfl, rfl, rfl, by decide +kernel, rfl, by decide +kernel, by decide +kernel⟩
abbrev s_Table_take_out : Stmt := inClass (top 21) 13
abbrev N_Table_take_out : List Str := ["self", "place", "column"]
theorem sc_Table_take_out : FnScope N_Table_take_out ["self", "place"] (defScope s_Table_take_out) := ⟨rfl, rfl, rfl, by decide +kernel, rfl, by decide +kernel, by decide +kernel⟩
abbrev s_law_cell : Stmt := top 23
abbrev N_law_cell : List Str := ["script", "k", "seed"]
theorem sc_law_cell : FnScope N_law_cell ["script", "k"] (defScope s_law_cell) := ⟨rfl, rfl, rfl, by decide +kernel, rfl, by decide +kernel, by decide +kernel⟩
abbrev s_law_value : Stmt := top 24
abbrev N_law_value : List Str := ["cell", "far"]
theorem sc_law_value : FnScope N_law_value ["cell"] (defScope s_law_value) := ⟨rfl, rfl, rfl, by decide +kernel, rfl, by decide +kernel, by decide +kernel⟩
abbrev s_law_numbers : Stmt := top 25
abbrev N_law_numbers : List Str := ["found", "due", "number"]
theorem sc_law_numbers : FnScope N_law_numbers ["found", "due"] (defScope s_law_numbers) := ⟨rfl, rfl, rfl, by decide +kernel, rfl, by decide +kernel, by decide +kernel⟩
abbrev s_law_stands : Stmt := top 26
abbrev N_law_stands : List Str := ["table", "names", "rows", "place", "column", "value", "row"]
theorem sc_law_stands : FnScope N_law_stands ["table", "names", "rows"] (defScope s_law_stands) := ⟨rfl, rfl, rfl, by decide +kernel, rfl, by decide +kernel, by decide +kernel⟩
abbrev s_law_put_in : Stmt := top 27
abbrev N_law_put_in : List Str := ["table", "rows", "names", "at", "script", "k", "values", "turned", "j", "handed", "told", "column"]
theorem sc_law_put_in : FnScope N_law_put_in ["table", "rows", "names", "at", "script", "k"] (defScope s_law_put_in) := ⟨rfl, rfl, rfl, by decide +kernel, rfl, by decide +kernel, by decide +kernel⟩
abbrev s_law : Stmt := top 28
abbrev N_law : List Str := ["script", "many", "names", "table", "k", "rows", "j", "values", "coming", "cell", "way", "at"]
theorem sc_law : FnScope N_law ["script"] (defScope s_law) := ⟨rfl, rfl, rfl, by decide +kernel, rfl, by decide +kernel, by decide +kernel⟩
structure Txt (K : PySem.W.Frag) (mg : Str → Option Value) (A : Cn → Addr) : Prop where
  n_abs : mg "abs" = none
  n_all : mg "all" = none
  n_bool : mg "bool" = none
  n_dict : mg "dict" = none
  n_int : mg "int" = none
  n_isinstance : mg "isinstance" = none
  n_len : mg "len" = none
  n_list : mg "list" = none
  n_range : mg "range" = none
  n_str : mg "str" = none
  n_tuple : mg "tuple" = none
  g_LETTERS : ∃ t, mg "LETTERS" = some (.str "abcdefghijklmnopqrstuvwxyz" t)
  g_MOST_ROWS : ∃ t, mg "MOST_ROWS" = some (.int 30 t)
  g_MOST_COLUMNS : ∃ t, mg "MOST_COLUMNS" = some (.int 8 t)
  g_ColsError : mg "ColsError" = some (.ref (A .ColsError))
  g_NoName : mg "NoName" = some (.ref (A .NoName))
  g_NoValue : mg "NoValue" = some (.ref (A .NoValue))
  g_NoColumn : mg "NoColumn" = some (.ref (A .NoColumn))
  g_NoPlace : mg "NoPlace" = some (.ref (A .NoPlace))
  g_NoSize : mg "NoSize" = some (.ref (A .NoSize))
  g_TooMuch : mg "TooMuch" = some (.ref (A .TooMuch))
  g_Table : mg "Table" = some (.ref (A .Table))
  fx_Table : ClK K (A .Table) ["rows_now", "coming", "held"]
  x_NoColumn : PySem.W.excIn K (A .NoColumn) [.type "ValueError", .type "Exception", .type "BaseException", .type "object"] "ValueError.__new__" = true
  k_NoColumn : PySem.W.keepIn K (.ref (A .NoColumn)) = true
  b_NoColumn : PySem.W.subIn K (.ref (A .NoColumn)) (.type "BaseException") = some true
  t_NoColumn : PySem.W.typeIn K (.ref (A .NoColumn)) = some (.type "type")
  x_NoName : PySem.W.excIn K (A .NoName) [.type "ValueError", .type "Exception", .type "BaseException", .type "object"] "ValueError.__new__" = true
  k_NoName : PySem.W.keepIn K (.ref (A .NoName)) = true
  b_NoName : PySem.W.subIn K (.ref (A .NoName)) (.type "BaseException") = some true
  t_NoName : PySem.W.typeIn K (.ref (A .NoName)) = some (.type "type")
  x_NoPlace : PySem.W.excIn K (A .NoPlace) [.type "ValueError", .type "Exception", .type "BaseException", .type "object"] "ValueError.__new__" = true
  k_NoPlace : PySem.W.keepIn K (.ref (A .NoPlace)) = true
  b_NoPlace : PySem.W.subIn K (.ref (A .NoPlace)) (.type "BaseException") = some true
  t_NoPlace : PySem.W.typeIn K (.ref (A .NoPlace)) = some (.type "type")
  x_NoSize : PySem.W.excIn K (A .NoSize) [.type "ValueError", .type "Exception", .type "BaseException", .type "object"] "ValueError.__new__" = true
  k_NoSize : PySem.W.keepIn K (.ref (A .NoSize)) = true
  b_NoSize : PySem.W.subIn K (.ref (A .NoSize)) (.type "BaseException") = some true
  t_NoSize : PySem.W.typeIn K (.ref (A .NoSize)) = some (.type "type")
  x_NoValue : PySem.W.excIn K (A .NoValue) [.type "ValueError", .type "Exception", .type "BaseException", .type "object"] "ValueError.__new__" = true
  k_NoValue : PySem.W.keepIn K (.ref (A .NoValue)) = true
  b_NoValue : PySem.W.subIn K (.ref (A .NoValue)) (.type "BaseException") = some true
  t_NoValue : PySem.W.typeIn K (.ref (A .NoValue)) = some (.type "type")
  x_TooMuch : PySem.W.excIn K (A .TooMuch) [.type "ValueError", .type "Exception", .type "BaseException", .type "object"] "ValueError.__new__" = true
  k_TooMuch : PySem.W.keepIn K (.ref (A .TooMuch)) = true
  b_TooMuch : PySem.W.subIn K (.ref (A .TooMuch)) (.type "BaseException") = some true
  t_TooMuch : PySem.W.typeIn K (.ref (A .TooMuch)) = some (.type "type")
section
variable {P : Program} {w : World} {K : PySem.W.Frag} {mg : Str → Option Value} {base : Heap} {A : Cn → Addr} {cdv : Value} {Ar : Around} {outer : List Env} {s : Shared} {H : Hp} {E : XK}
theorem d_is_whole (T : Txt K mg A) {f : Addr}  (hr : Room 0 (Ar.deeper (envOfC "is_whole" (defScope s_is_whole) s.heap.objs.size f cdv))) :
    PSs (cxOf (L2.CX P w) P w K mg base N_is_whole "is_whole" (defScope s_is_whole) f cdv Ar outer s H E) (defBody s_is_whole) (t_is_whole K E) := by
  have hu := hu65 hr
  exact pss_one (ps_ret (pe_and (pe_callB call_isiA (by rfl) T.n_isinstance (by decide +kernel) (pa_cons (pv 0) (pa_cons (pe_bltn (v := .ty "int") (by rfl) T.n_int (by decide +kernel) rfl) pa_nil))) (pe_one (pe_not (pe_callB call_isiA (by rfl) T.n_isinstance (by decide +kernel) (pa_cons (pv 0) (pa_cons (pe_bltn (v := .ty "bool") (by rfl) T.n_bool (by decide +kernel) rfl) pa_nil)))))))
theorem cal_is_whole (T : Txt K mg A) {f : Addr} {fd : FuncData}  (F : Fun K "is_whole" "is_whole" s_is_whole f fd) (hm : mg "is_whole" = some (.ref f)) (hb : Binds K fd ["thing"] []) :
    Cal P w K mg base 1 "is_whole" f ["thing"] (sp_is_whole K) := cal_of F sc_is_whole hm hb len_is_whole (t_is_whole K) (fun cdv Ar outer s H E hr => d_is_whole T  hr) (fun vs H Q E h => r_is_whole vs H Q E h)
theorem d_is_name (T : Txt K mg A) {f : Addr}  (hr : Room 0 (Ar.deeper (envOfC "is_name" (defScope s_is_name) s.heap.objs.size f cdv))) :
    PSs (cxOf (L2.CX P w) P w K mg base N_is_name "is_name" (defScope s_is_name) f cdv Ar outer s H E) (defBody s_is_name) (t_is_name K E) := by
  have hu := hu65 hr
  exact pss_cons (ps_if (PW.pt (pw_or (pt_not (pt_val (pe_callB call_isiA (by rfl) T.n_isinstance (by decide +kernel) (pa_cons (pv 0) (pa_cons (pe_bltn (v := .ty "str") (by rfl) T.n_str (by decide +kernel) rfl) pa_nil))))) (pw_or1 (pt_not (pt_chain op_le op_le pe_int (pe_callB call_lenA (by rfl) T.n_len (by decide +kernel) (pa_cons (pv 0) pa_nil)) pe_int))))) (pss_one (ps_ret pe_bl)) pss_nil)
    (pss_one (ps_ret (pe_callB (cr_all rfl) (by rfl) T.n_all (by decide +kernel) (pa_cons (pe_lc (own := [("sign", 1)]) (g := gName 1) (tt := tYes) rfl sc_is_name.nd (pi_str (pv 0)) (blkOk_by (own := [("sign", 1)]) (N := N_is_name) (sc := defScope s_is_name) (by decide +kernel)) (fun _ _ _ _ _ => pg_name (i := 1) sc_is_name.nd rfl (Or.inl rfl)) (fun _ _ _ _ _ => pts_nil) (fun _ _ _ _ _ => pe_cmpR (op_inA hu) (pv 1) (pe_glob (v := .str "abcdefghijklmnopqrstuvwxyz") rfl (Exists.choose_spec T.g_LETTERS) ⟨_, rfl⟩) (by rfl))) pa_nil))))
theorem cal_is_name (T : Txt K mg A) {f : Addr} {fd : FuncData}  (F : Fun K "is_name" "is_name" s_is_name f fd) (hm : mg "is_name" = some (.ref f)) (hb : Binds K fd ["thing"] []) :
    Cal P w K mg base 1 "is_name" f ["thing"] (sp_is_name K) := cal_of F sc_is_name hm hb len_is_name (t_is_name K) (fun cdv Ar outer s H E hr => d_is_name T  hr) (fun vs H Q E h => r_is_name vs H Q E h)
theorem d_is_fault (T : Txt K mg A) {f : Addr} {f_is_name : Addr} (G_is_name : Cal P w K mg base 1 "is_name" f_is_name ["thing"] (sp_is_name K)) (hr : Room 1 (Ar.deeper (envOfC "is_fault" (defScope s_is_fault) s.heap.objs.size f cdv))) :
    PSs (cxOf (L2.CX P w) P w K mg base N_is_fault "is_fault" (defScope s_is_fault) f cdv Ar outer s H E) (defBody s_is_fault) (t_is_fault K E) := by
  have hu := hu65 hr
  have tk : Takes (cxOf (L2.CX P w) P w K mg base N_is_fault "is_fault" (defScope s_is_fault) f cdv Ar outer s H E) (fun cls d _ H => E cls d H) := takes_of rfl rfl rfl rfl
  exact pss_cons (ps_if (PW.pt (pw_or (pt_not (pt_val (pe_callB call_isiA (by rfl) T.n_isinstance (by decide +kernel) (pa_cons (pv 0) (pa_cons (pe_bltn (v := .ty "tuple") (by rfl) T.n_tuple (by decide +kernel) rfl) pa_nil))))) (pw_or1 (pt_cmpR (op_neA hu) (pe_callB call_lenA (by rfl) T.n_len (by decide +kernel) (pa_cons (pv 0) pa_nil)) pe_int (nomark _))))) (pss_one (ps_ret pe_bl)) pss_nil)
    (pss_one (ps_ret (pe_and (pe_callB call_isiA (by rfl) T.n_isinstance (by decide +kernel) (pa_cons (pe_ix (ix_A hu) (pv 0) pe_int (fun _ _ => rfl)) (pa_cons (pe_bltn (v := .ty "str") (by rfl) T.n_str (by decide +kernel) rfl) pa_nil))) (pe_and (pe_cmpR (op_eqA hu) (pe_ix (ix_A hu) (pv 0) pe_int (fun _ _ => rfl)) pe_str (nomark _)) (pe_one (pe_cal G_is_name (hr.mono (by decide)) tk (pa_cons (pe_ix (ix_A hu) (pv 0) pe_int (fun _ _ => rfl)) pa_nil)))))))
theorem cal_is_fault (T : Txt K mg A) {f : Addr} {fd : FuncData} {f_is_name : Addr} (G_is_name : Cal P w K mg base 1 "is_name" f_is_name ["thing"] (sp_is_name K)) (F : Fun K "is_fault" "is_fault" s_is_fault f fd) (hm : mg "is_fault" = some (.ref f)) (hb : Binds K fd ["thing"] []) :
    Cal P w K mg base 2 "is_fault" f ["thing"] (sp_is_fault K) := cal_of F sc_is_fault hm hb len_is_fault (t_is_fault K) (fun cdv Ar outer s H E hr => d_is_fault T G_is_name hr) (fun vs H Q E h => r_is_fault vs H Q E h)
theorem d_is_number (T : Txt K mg A) {f : Addr} {f_is_whole : Addr} (G_is_whole : Cal P w K mg base 1 "is_whole" f_is_whole ["thing"] (sp_is_whole K)) (hr : Room 1 (Ar.deeper (envOfC "is_number" (defScope s_is_number) s.heap.objs.size f cdv))) :
    PSs (cxOf (L2.CX P w) P w K mg base N_is_number "is_number" (defScope s_is_number) f cdv Ar outer s H E) (defBody s_is_number) (t_is_number K E) := by
  have hu := hu65 hr
  have tk : Takes (cxOf (L2.CX P w) P w K mg base N_is_number "is_number" (defScope s_is_number) f cdv Ar outer s H E) (fun cls d _ H => E cls d H) := takes_of rfl rfl rfl rfl
  exact pss_one (ps_ret (pe_and (pe_cal G_is_whole (hr.mono (by decide)) tk (pa_cons (pv 0) pa_nil)) (pe_one (pe_cmpR op_lt (pe_callB call_abs (by rfl) T.n_abs (by decide +kernel) (pa_cons (pv 0) pa_nil)) (pe_op op_pow pe_int pe_int) (nomark _)))))
theorem cal_is_number (T : Txt K mg A) {f : Addr} {fd : FuncData} {f_is_whole : Addr} (G_is_whole : Cal P w K mg base 1 "is_whole" f_is_whole ["thing"] (sp_is_whole K)) (F : Fun K "is_number" "is_number" s_is_number f fd) (hm : mg "is_number" = some (.ref f)) (hb : Binds K fd ["thing"] []) :
    Cal P w K mg base 2 "is_number" f ["thing"] (sp_is_number K) := cal_of F sc_is_number hm hb len_is_number (t_is_number K) (fun cdv Ar outer s H E hr => d_is_number T G_is_whole hr) (fun vs H Q E h => r_is_number vs H Q E h)
theorem d_is_value (T : Txt K mg A) {f : Addr} {f_is_number : Addr} (G_is_number : Cal P w K mg base 2 "is_number" f_is_number ["thing"] (sp_is_number K)) {f_is_fault : Addr} (G_is_fault : Cal P w K mg base 2 "is_fault" f_is_fault ["thing"] (sp_is_fault K)) (hr : Room 2 (Ar.deeper (envOfC "is_value" (defScope s_is_value) s.heap.objs.size f cdv))) :
    PSs (cxOf (L2.CX P w) P w K mg base N_is_value "is_value" (defScope s_is_value) f cdv Ar outer s H E) (defBody s_is_value) (t_is_value K E) := by
  have hu := hu65 hr
  have tk : Takes (cxOf (L2.CX P w) P w K mg base N_is_value "is_value" (defScope s_is_value) f cdv Ar outer s H E) (fun cls d _ H => E cls d H) := takes_of rfl rfl rfl rfl
  exact pss_one (ps_ret (pe_or (pe_cal G_is_number (hr.mono (by decide)) tk (pa_cons (pv 0) pa_nil)) (pe_one (pe_cal G_is_fault (hr.mono (by decide)) tk (pa_cons (pv 0) pa_nil)))))
theorem cal_is_value (T : Txt K mg A) {f : Addr} {fd : FuncData} {f_is_number : Addr} (G_is_number : Cal P w K mg base 2 "is_number" f_is_number ["thing"] (sp_is_number K)) {f_is_fault : Addr} (G_is_fault : Cal P w K mg base 2 "is_fault" f_is_fault ["thing"] (sp_is_fault K)) (F : Fun K "is_value" "is_value" s_is_value f fd) (hm : mg "is_value" = some (.ref f)) (hb : Binds K fd ["thing"] []) :
    Cal P w K mg base 3 "is_value" f ["thing"] (sp_is_value K) := cal_of F sc_is_value hm hb len_is_value (t_is_value K) (fun cdv Ar outer s H E hr => d_is_value T G_is_number G_is_fault hr) (fun vs H Q E h => r_is_value vs H Q E h)
theorem d_is_below (T : Txt K mg A) {f : Addr} {f_is_whole : Addr} (G_is_whole : Cal P w K mg base 1 "is_whole" f_is_whole ["thing"] (sp_is_whole K)) (hr : Room 1 (Ar.deeper (envOfC "is_below" (defScope s_is_below) s.heap.objs.size f cdv))) :
    PSs (cxOf (L2.CX P w) P w K mg base N_is_below "is_below" (defScope s_is_below) f cdv Ar outer s H E) (defBody s_is_below) (t_is_below K E) := by
  have hu := hu65 hr
  have tk : Takes (cxOf (L2.CX P w) P w K mg base N_is_below "is_below" (defScope s_is_below) f cdv Ar outer s H E) (fun cls d _ H => E cls d H) := takes_of rfl rfl rfl rfl
  exact pss_one (ps_ret (pe_and (pe_cal G_is_whole (hr.mono (by decide)) tk (pa_cons (pv 0) pa_nil)) (pe_one (pe_chain op_le op_lt pe_int (pv 0) (pv 1)))))
theorem cal_is_below (T : Txt K mg A) {f : Addr} {fd : FuncData} {f_is_whole : Addr} (G_is_whole : Cal P w K mg base 1 "is_whole" f_is_whole ["thing"] (sp_is_whole K)) (F : Fun K "is_below" "is_below" s_is_below f fd) (hm : mg "is_below" = some (.ref f)) (hb : Binds K fd ["thing", "many"] []) :
    Cal P w K mg base 2 "is_below" f ["thing", "many"] (sp_is_below K) := cal_of F sc_is_below hm hb len_is_below (t_is_below K) (fun cdv Ar outer s H E hr => d_is_below T G_is_whole hr) (fun vs H Q E h => r_is_below vs H Q E h)
theorem d_are_values (T : Txt K mg A) {f : Addr} {f_is_value : Addr} (G_is_value : Cal P w K mg base 3 "is_value" f_is_value ["thing"] (sp_is_value K)) (hr : Room 3 (Ar.deeper (envOfC "are_values" (defScope s_are_values) s.heap.objs.size f cdv))) :
    PSs (cxOf (L2.CX P w) P w K mg base N_are_values "are_values" (defScope s_are_values) f cdv Ar outer s H E) (defBody s_are_values) (t_are_values K E) := by
  have hu := hu65 hr
  have tk : Takes (cxOf (L2.CX P w) P w K mg base N_are_values "are_values" (defScope s_are_values) f cdv Ar outer s H E) (fun cls d _ H => E cls d H) := takes_of rfl rfl rfl rfl
  exact pss_one (ps_ret (pe_and (pe_callB call_isiA (by rfl) T.n_isinstance (by decide +kernel) (pa_cons (pv 0) (pa_cons (pe_bltn (v := .ty "list") (by rfl) T.n_list (by decide +kernel) rfl) pa_nil))) (pe_and (pe_cmpR (op_eqA hu) (pe_callB call_lenA (by rfl) T.n_len (by decide +kernel) (pa_cons (pv 0) pa_nil)) (pv 1) (nomark _)) (pe_one (pe_callB (cr_all rfl) (by rfl) T.n_all (by decide +kernel) (pa_cons (pe_lc (own := [("value", 2)]) (g := gName 2) (tt := tYes) rfl sc_are_values.nd (pi_list (pv 0)) (blkOk_by (own := [("value", 2)]) (N := N_are_values) (sc := defScope s_are_values) (by decide +kernel)) (fun _ _ _ _ _ => pg_name (i := 2) sc_are_values.nd rfl (Or.inl rfl)) (fun _ _ _ _ _ => pts_nil) (fun _ _ _ _ _ => pe_calB G_is_value (hr.mono (by decide)) (pa_cons (pv 2) pa_nil))) pa_nil))))))
theorem cal_are_values (T : Txt K mg A) {f : Addr} {fd : FuncData} {f_is_value : Addr} (G_is_value : Cal P w K mg base 3 "is_value" f_is_value ["thing"] (sp_is_value K)) (F : Fun K "are_values" "are_values" s_are_values f fd) (hm : mg "are_values" = some (.ref f)) (hb : Binds K fd ["thing", "many"] []) :
    Cal P w K mg base 4 "are_values" f ["thing", "many"] (sp_are_values K) := cal_of F sc_are_values hm hb len_are_values (t_are_values K) (fun cdv Ar outer s H E hr => d_are_values T G_is_value hr) (fun vs H Q E h => r_are_values vs H Q E h)
theorem d_Table_init (T : Txt K mg A) {f : Addr} {f_is_below : Addr} (G_is_below : Cal P w K mg base 2 "is_below" f_is_below ["thing", "many"] (sp_is_below K)) (hr : Room 2 (Ar.deeper (envOfC "Table.__init__" (defScope s_Table_init) s.heap.objs.size f cdv))) :
    PSs (cxOf (L2.CX P w) P w K mg base N_Table_init "Table.__init__" (defScope s_Table_init) f cdv Ar outer s H E) (defBody s_Table_init) (t_Table_init K A E) := by
  have hu := hu65 hr
  have tk : Takes (cxOf (L2.CX P w) P w K mg base N_Table_init "Table.__init__" (defScope s_Table_init) f cdv Ar outer s H E) (fun cls d _ H => E cls d H) := takes_of rfl rfl rfl rfl
  exact pss_cons (ps_if (pt_not (pt_val (pe_cal G_is_below (hr.mono (by decide)) tk (pa_cons (pv 1) (pa_cons (pe_op op_addA (pe_glob (v := .int 30) rfl (Exists.choose_spec T.g_MOST_ROWS) ⟨_, rfl⟩) pe_int) pa_nil))))) (pss_one (ps_raise rfl tk (pmk_own PySem.F.excBase_ValueError T.x_NoSize T.g_NoSize T.k_NoSize (raises_own T.b_NoSize T.t_NoSize) rfl))) pss_nil)
    (pss_cons (ps_fld (pv 0) (pe_listRg rfl (by rfl) T.n_list (prg_1 (by rfl) T.n_range (pv 1))) rfl)
    (pss_cons (ps_fld (pv 0) (pv 1) rfl)
    (pss_one (ps_fld (pv 0) pe_dnewK rfl))))
theorem cal_Table_init (T : Txt K mg A) {f : Addr} {fd : FuncData} {f_is_below : Addr} (G_is_below : Cal P w K mg base 2 "is_below" f_is_below ["thing", "many"] (sp_is_below K)) (F : Fun K "__init__" "Table.__init__" s_Table_init f fd) (hm : Mk K (A .Table) f) (hg : mg "Table" = some (.ref (A .Table))) (hb : Binds K fd ["self", "many"] []) :
    Mak P w K mg base 3 (A .Table) "Table" f ["self", "many"] (sp_Table_init K A) := mak_of F sc_Table_init hm hg hb len_Table_init (t_Table_init K A) (fun cdv Ar outer s H E hr => d_Table_init T G_is_below hr) (fun vs H Q E h => r_Table_init T.fx_Table vs H Q E h)
theorem d_Table_many (T : Txt K mg A) {f : Addr}  (hr : Room 0 (Ar.deeper (envOfC "Table.many" (defScope s_Table_many) s.heap.objs.size f cdv))) :
    PSs (cxOf (L2.CX P w) P w K mg base N_Table_many "Table.many" (defScope s_Table_many) f cdv Ar outer s H E) (defBody s_Table_many) (t_Table_many K E) := by
  have hu := hu65 hr
  exact pss_one (ps_ret (pe_callB call_lenA (by rfl) T.n_len (by decide +kernel) (pa_cons (pe_fld (pv 0) rfl) pa_nil)))
theorem cal_Table_many (T : Txt K mg A) {f : Addr} {fd : FuncData}  (F : Fun K "many" "Table.many" s_Table_many f fd) (hm : Meth K (A .Table) "many" f) (hb : Binds K fd ["self"] []) :
    Met P w K mg base 1 (A .Table) "many" f ["self"] (sp_Table_many K A) := met_of F sc_Table_many hm T.fx_Table.cl hb len_Table_many (t_Table_many K) (fun cdv Ar outer s H E hr => d_Table_many T  hr) (fun vs H Q E h => r_Table_many T.fx_Table vs H Q E h)
theorem d_Table_numbers (T : Txt K mg A) {f : Addr}  (hr : Room 0 (Ar.deeper (envOfC "Table.numbers" (defScope s_Table_numbers) s.heap.objs.size f cdv))) :
    PSs (cxOf (L2.CX P w) P w K mg base N_Table_numbers "Table.numbers" (defScope s_Table_numbers) f cdv Ar outer s H E) (defBody s_Table_numbers) (t_Table_numbers K E) := by
  have hu := hu65 hr
  exact pss_one (ps_ret (pe_callTy (call_listA rfl) (by rfl) T.n_list (by decide +kernel) (pa_cons (pe_fld (pv 0) rfl) pa_nil)))
theorem cal_Table_numbers (T : Txt K mg A) {f : Addr} {fd : FuncData}  (F : Fun K "numbers" "Table.numbers" s_Table_numbers f fd) (hm : Meth K (A .Table) "numbers" f) (hb : Binds K fd ["self"] []) :
    Met P w K mg base 1 (A .Table) "numbers" f ["self"] (sp_Table_numbers K A) := met_of F sc_Table_numbers hm T.fx_Table.cl hb len_Table_numbers (t_Table_numbers K) (fun cdv Ar outer s H E hr => d_Table_numbers T  hr) (fun vs H Q E h => r_Table_numbers T.fx_Table vs H Q E h)
theorem d_Table_columns (T : Txt K mg A) {f : Addr}  (hr : Room 0 (Ar.deeper (envOfC "Table.columns" (defScope s_Table_columns) s.heap.objs.size f cdv))) :
    PSs (cxOf (L2.CX P w) P w K mg base N_Table_columns "Table.columns" (defScope s_Table_columns) f cdv Ar outer s H E) (defBody s_Table_columns) (t_Table_columns K E) := by
  have hu := hu65 hr
  exact pss_one (ps_ret (pe_callTy (call_listA rfl) (by rfl) T.n_list (by decide +kernel) (pa_cons (pe_fld (pv 0) rfl) pa_nil)))
theorem cal_Table_columns (T : Txt K mg A) {f : Addr} {fd : FuncData}  (F : Fun K "columns" "Table.columns" s_Table_columns f fd) (hm : Meth K (A .Table) "columns" f) (hb : Binds K fd ["self"] []) :
    Met P w K mg base 1 (A .Table) "columns" f ["self"] (sp_Table_columns K A) := met_of F sc_Table_columns hm T.fx_Table.cl hb len_Table_columns (t_Table_columns K) (fun cdv Ar outer s H E hr => d_Table_columns T  hr) (fun vs H Q E h => r_Table_columns T.fx_Table vs H Q E h)
theorem d_Table_has (T : Txt K mg A) {f : Addr}  (hr : Room 0 (Ar.deeper (envOfC "Table.has" (defScope s_Table_has) s.heap.objs.size f cdv))) :
    PSs (cxOf (L2.CX P w) P w K mg base N_Table_has "Table.has" (defScope s_Table_has) f cdv Ar outer s H E) (defBody s_Table_has) (t_Table_has K E) := by
  have hu := hu65 hr
  exact pss_one (ps_ret (pe_and (pe_callB call_isiA (by rfl) T.n_isinstance (by decide +kernel) (pa_cons (pv 1) (pa_cons (pe_bltn (v := .ty "str") (by rfl) T.n_str (by decide +kernel) rfl) pa_nil))) (pe_one (pe_cmpR (op_inA hu) (pv 1) (pe_fld (pv 0) rfl) (by rfl)))))
theorem cal_Table_has (T : Txt K mg A) {f : Addr} {fd : FuncData}  (F : Fun K "has" "Table.has" s_Table_has f fd) (hm : Meth K (A .Table) "has" f) (hb : Binds K fd ["self", "column"] []) :
    Met P w K mg base 1 (A .Table) "has" f ["self", "column"] (sp_Table_has K A) := met_of F sc_Table_has hm T.fx_Table.cl hb len_Table_has (t_Table_has K) (fun cdv Ar outer s H E hr => d_Table_has T  hr) (fun vs H Q E h => r_Table_has T.fx_Table vs H Q E h)
theorem d_Table_give (T : Txt K mg A) {f : Addr} {f_are_values : Addr} (G_are_values : Cal P w K mg base 4 "are_values" f_are_values ["thing", "many"] (sp_are_values K)) {f_is_name : Addr} (G_is_name : Cal P w K mg base 1 "is_name" f_is_name ["thing"] (sp_is_name K)) {f_Table_has : Addr} (G_Table_has : Met P w K mg base 1 (A .Table) "has" f_Table_has ["self", "column"] (sp_Table_has K A)) (hr : Room 4 (Ar.deeper (envOfC "Table.give" (defScope s_Table_give) s.heap.objs.size f cdv))) :
    PSs (cxOf (L2.CX P w) P w K mg base N_Table_give "Table.give" (defScope s_Table_give) f cdv Ar outer s H E) (defBody s_Table_give) (t_Table_give K A E) := by
  have hu := hu65 hr
  have tk : Takes (cxOf (L2.CX P w) P w K mg base N_Table_give "Table.give" (defScope s_Table_give) f cdv Ar outer s H E) (fun cls d _ H => E cls d H) := takes_of rfl rfl rfl rfl
  exact pss_cons (ps_if (pt_not (pt_val (pe_cal G_is_name (hr.mono (by decide)) tk (pa_cons (pv 1) pa_nil)))) (pss_one (ps_raise rfl tk (pmk_own PySem.F.excBase_ValueError T.x_NoName T.g_NoName T.k_NoName (raises_own T.b_NoName T.t_NoName) rfl))) pss_nil)
    (pss_cons (ps_if (PW.pt (pw_and (pt_not (pt_val (pe_met G_Table_has (pv 0) (hr.mono (by decide)) tk (pa_cons (pv 1) pa_nil)))) (pw_and1 (pt_cmpR op_ge (pe_callB call_lenA (by rfl) T.n_len (by decide +kernel) (pa_cons (pe_fld (pv 0) rfl) pa_nil)) (pe_glob (v := .int 8) rfl (Exists.choose_spec T.g_MOST_COLUMNS) ⟨_, rfl⟩) (nomark _))))) (pss_one (ps_raise rfl tk (pmk_own PySem.F.excBase_ValueError T.x_TooMuch T.g_TooMuch T.k_TooMuch (raises_own T.b_TooMuch T.t_TooMuch) rfl))) pss_nil)
    (pss_cons (ps_if (pt_not (pt_val (pe_cal G_are_values (hr.mono (by decide)) tk (pa_cons (pv 2) (pa_cons (pe_callB call_lenA (by rfl) T.n_len (by decide +kernel) (pa_cons (pe_fld (pv 0) rfl) pa_nil)) pa_nil))))) (pss_one (ps_raise rfl tk (pmk_own PySem.F.excBase_ValueError T.x_NoValue T.g_NoValue T.k_NoValue (raises_own T.b_NoValue T.t_NoValue) rfl))) pss_nil)
    (pss_one (ps_asg (pe_callTy (call_listA rfl) (by rfl) T.n_list (by decide +kernel) (pa_cons (pv 2) pa_nil)) (pg_sub (pe_fld (pv 0) rfl) (pv 1) (set_A hu))))))
theorem cal_Table_give (T : Txt K mg A) {f : Addr} {fd : FuncData} {f_are_values : Addr} (G_are_values : Cal P w K mg base 4 "are_values" f_are_values ["thing", "many"] (sp_are_values K)) {f_is_name : Addr} (G_is_name : Cal P w K mg base 1 "is_name" f_is_name ["thing"] (sp_is_name K)) {f_Table_has : Addr} (G_Table_has : Met P w K mg base 1 (A .Table) "has" f_Table_has ["self", "column"] (sp_Table_has K A)) (F : Fun K "give" "Table.give" s_Table_give f fd) (hm : Meth K (A .Table) "give" f) (hb : Binds K fd ["self", "column", "values"] []) :
    Met P w K mg base 5 (A .Table) "give" f ["self", "column", "values"] (sp_Table_give K A) := met_of F sc_Table_give hm T.fx_Table.cl hb len_Table_give (t_Table_give K A) (fun cdv Ar outer s H E hr => d_Table_give T G_are_values G_is_name G_Table_has hr) (fun vs H Q E h => r_Table_give T.fx_Table vs H Q E h)
theorem d_Table_look_at (T : Txt K mg A) {f : Addr} {f_Table_has : Addr} (G_Table_has : Met P w K mg base 1 (A .Table) "has" f_Table_has ["self", "column"] (sp_Table_has K A)) (hr : Room 1 (Ar.deeper (envOfC "Table.look_at" (defScope s_Table_look_at) s.heap.objs.size f cdv))) :
    PSs (cxOf (L2.CX P w) P w K mg base N_Table_look_at "Table.look_at" (defScope s_Table_look_at) f cdv Ar outer s H E) (defBody s_Table_look_at) (t_Table_look_at K A E) := by
  have hu := hu65 hr
  have tk : Takes (cxOf (L2.CX P w) P w K mg base N_Table_look_at "Table.look_at" (defScope s_Table_look_at) f cdv Ar outer s H E) (fun cls d _ H => E cls d H) := takes_of rfl rfl rfl rfl
  exact pss_one (ps_if (pt_not (pt_val (pe_met G_Table_has (pv 0) (hr.mono (by decide)) tk (pa_cons (pv 1) pa_nil)))) (pss_one (ps_raise rfl tk (pmk_own PySem.F.excBase_ValueError T.x_NoColumn T.g_NoColumn T.k_NoColumn (raises_own T.b_NoColumn T.t_NoColumn) rfl))) pss_nil)
theorem cal_Table_look_at (T : Txt K mg A) {f : Addr} {fd : FuncData} {f_Table_has : Addr} (G_Table_has : Met P w K mg base 1 (A .Table) "has" f_Table_has ["self", "column"] (sp_Table_has K A)) (F : Fun K "look_at" "Table.look_at" s_Table_look_at f fd) (hm : Meth K (A .Table) "look_at" f) (hb : Binds K fd ["self", "column"] []) :
    Met P w K mg base 2 (A .Table) "look_at" f ["self", "column"] (sp_Table_look_at K A) := met_of F sc_Table_look_at hm T.fx_Table.cl hb len_Table_look_at (t_Table_look_at K A) (fun cdv Ar outer s H E hr => d_Table_look_at T G_Table_has hr) (fun vs H Q E h => r_Table_look_at T.fx_Table vs H Q E h)
theorem d_Table_look_at_place (T : Txt K mg A) {f : Addr} {f_is_below : Addr} (G_is_below : Cal P w K mg base 2 "is_below" f_is_below ["thing", "many"] (sp_is_below K)) (hr : Room 2 (Ar.deeper (envOfC "Table.look_at_place" (defScope s_Table_look_at_place) s.heap.objs.size f cdv))) :
    PSs (cxOf (L2.CX P w) P w K mg base N_Table_look_at_place "Table.look_at_place" (defScope s_Table_look_at_place) f cdv Ar outer s H E) (defBody s_Table_look_at_place) (t_Table_look_at_place K A E) := by
  have hu := hu65 hr
  have tk : Takes (cxOf (L2.CX P w) P w K mg base N_Table_look_at_place "Table.look_at_place" (defScope s_Table_look_at_place) f cdv Ar outer s H E) (fun cls d _ H => E cls d H) := takes_of rfl rfl rfl rfl
  exact pss_one (ps_if (pt_not (pt_val (pe_cal G_is_below (hr.mono (by decide)) tk (pa_cons (pv 1) (pa_cons (pv 2) pa_nil))))) (pss_one (ps_raise rfl tk (pmk_own PySem.F.excBase_ValueError T.x_NoPlace T.g_NoPlace T.k_NoPlace (raises_own T.b_NoPlace T.t_NoPlace) rfl))) pss_nil)
theorem cal_Table_look_at_place (T : Txt K mg A) {f : Addr} {fd : FuncData} {f_is_below : Addr} (G_is_below : Cal P w K mg base 2 "is_below" f_is_below ["thing", "many"] (sp_is_below K)) (F : Fun K "look_at_place" "Table.look_at_place" s_Table_look_at_place f fd) (hm : Meth K (A .Table) "look_at_place" f) (hb : Binds K fd ["self", "place", "many"] []) :
    Met P w K mg base 3 (A .Table) "look_at_place" f ["self", "place", "many"] (sp_Table_look_at_place K A) := met_of F sc_Table_look_at_place hm T.fx_Table.cl hb len_Table_look_at_place (t_Table_look_at_place K A) (fun cdv Ar outer s H E hr => d_Table_look_at_place T G_is_below hr) (fun vs H Q E h => r_Table_look_at_place T.fx_Table vs H Q E h)
theorem d_Table_put (T : Txt K mg A) {f : Addr} {f_is_value : Addr} (G_is_value : Cal P w K mg base 3 "is_value" f_is_value ["thing"] (sp_is_value K)) {f_Table_look_at_place : Addr} (G_Table_look_at_place : Met P w K mg base 3 (A .Table) "look_at_place" f_Table_look_at_place ["self", "place", "many"] (sp_Table_look_at_place K A)) {f_Table_look_at : Addr} (G_Table_look_at : Met P w K mg base 2 (A .Table) "look_at" f_Table_look_at ["self", "column"] (sp_Table_look_at K A)) (hr : Room 3 (Ar.deeper (envOfC "Table.put" (defScope s_Table_put) s.heap.objs.size f cdv))) :
    PSs (cxOf (L2.CX P w) P w K mg base N_Table_put "Table.put" (defScope s_Table_put) f cdv Ar outer s H E) (defBody s_Table_put) (t_Table_put K A E) := by
  have hu := hu65 hr
  have tk : Takes (cxOf (L2.CX P w) P w K mg base N_Table_put "Table.put" (defScope s_Table_put) f cdv Ar outer s H E) (fun cls d _ H => E cls d H) := takes_of rfl rfl rfl rfl
  exact pss_cons (ps_expr (pe_met G_Table_look_at (pv 0) (hr.mono (by decide)) tk (pa_cons (pv 1) pa_nil)))
    (pss_cons (ps_expr (pe_met G_Table_look_at_place (pv 0) (hr.mono (by decide)) tk (pa_cons (pv 2) (pa_cons (pe_callB call_lenA (by rfl) T.n_len (by decide +kernel) (pa_cons (pe_fld (pv 0) rfl) pa_nil)) pa_nil))))
    (pss_cons (ps_if (pt_not (pt_val (pe_cal G_is_value (hr.mono (by decide)) tk (pa_cons (pv 3) pa_nil)))) (pss_one (ps_raise rfl tk (pmk_own PySem.F.excBase_ValueError T.x_NoValue T.g_NoValue T.k_NoValue (raises_own T.b_NoValue T.t_NoValue) rfl))) pss_nil)
    (pss_one (ps_asg (pv 3) (pg_sub (pe_ix (ix_A hu) (pe_fld (pv 0) rfl) (pv 1) (fun _ _ => rfl)) (pv 2) (set_A hu))))))
theorem cal_Table_put (T : Txt K mg A) {f : Addr} {fd : FuncData} {f_is_value : Addr} (G_is_value : Cal P w K mg base 3 "is_value" f_is_value ["thing"] (sp_is_value K)) {f_Table_look_at_place : Addr} (G_Table_look_at_place : Met P w K mg base 3 (A .Table) "look_at_place" f_Table_look_at_place ["self", "place", "many"] (sp_Table_look_at_place K A)) {f_Table_look_at : Addr} (G_Table_look_at : Met P w K mg base 2 (A .Table) "look_at" f_Table_look_at ["self", "column"] (sp_Table_look_at K A)) (F : Fun K "put" "Table.put" s_Table_put f fd) (hm : Meth K (A .Table) "put" f) (hb : Binds K fd ["self", "column", "place", "value"] []) :
    Met P w K mg base 4 (A .Table) "put" f ["self", "column", "place", "value"] (sp_Table_put K A) := met_of F sc_Table_put hm T.fx_Table.cl hb len_Table_put (t_Table_put K A) (fun cdv Ar outer s H E hr => d_Table_put T G_is_value G_Table_look_at_place G_Table_look_at hr) (fun vs H Q E h => r_Table_put T.fx_Table vs H Q E h)
theorem d_Table_at (T : Txt K mg A) {f : Addr} {f_Table_look_at_place : Addr} (G_Table_look_at_place : Met P w K mg base 3 (A .Table) "look_at_place" f_Table_look_at_place ["self", "place", "many"] (sp_Table_look_at_place K A)) {f_Table_look_at : Addr} (G_Table_look_at : Met P w K mg base 2 (A .Table) "look_at" f_Table_look_at ["self", "column"] (sp_Table_look_at K A)) (hr : Room 3 (Ar.deeper (envOfC "Table.at" (defScope s_Table_at) s.heap.objs.size f cdv))) :
    PSs (cxOf (L2.CX P w) P w K mg base N_Table_at "Table.at" (defScope s_Table_at) f cdv Ar outer s H E) (defBody s_Table_at) (t_Table_at K A E) := by
  have hu := hu65 hr
  have tk : Takes (cxOf (L2.CX P w) P w K mg base N_Table_at "Table.at" (defScope s_Table_at) f cdv Ar outer s H E) (fun cls d _ H => E cls d H) := takes_of rfl rfl rfl rfl
  exact pss_cons (ps_expr (pe_met G_Table_look_at (pv 0) (hr.mono (by decide)) tk (pa_cons (pv 1) pa_nil)))
    (pss_cons (ps_expr (pe_met G_Table_look_at_place (pv 0) (hr.mono (by decide)) tk (pa_cons (pv 2) (pa_cons (pe_callB call_lenA (by rfl) T.n_len (by decide +kernel) (pa_cons (pe_fld (pv 0) rfl) pa_nil)) pa_nil))))
    (pss_one (ps_ret (pe_ix (ix_A hu) (pe_ix (ix_A hu) (pe_fld (pv 0) rfl) (pv 1) (fun _ _ => rfl)) (pv 2) (fun _ _ => rfl)))))
theorem cal_Table_at (T : Txt K mg A) {f : Addr} {fd : FuncData} {f_Table_look_at_place : Addr} (G_Table_look_at_place : Met P w K mg base 3 (A .Table) "look_at_place" f_Table_look_at_place ["self", "place", "many"] (sp_Table_look_at_place K A)) {f_Table_look_at : Addr} (G_Table_look_at : Met P w K mg base 2 (A .Table) "look_at" f_Table_look_at ["self", "column"] (sp_Table_look_at K A)) (F : Fun K "at" "Table.at" s_Table_at f fd) (hm : Meth K (A .Table) "at" f) (hb : Binds K fd ["self", "column", "place"] []) :
    Met P w K mg base 4 (A .Table) "at" f ["self", "column", "place"] (sp_Table_at K A) := met_of F sc_Table_at hm T.fx_Table.cl hb len_Table_at (t_Table_at K A) (fun cdv Ar outer s H E hr => d_Table_at T G_Table_look_at_place G_Table_look_at hr) (fun vs H Q E h => r_Table_at T.fx_Table vs H Q E h)
theorem d_Table_are_all (T : Txt K mg A) {f : Addr} {f_is_value : Addr} (G_is_value : Cal P w K mg base 3 "is_value" f_is_value ["thing"] (sp_is_value K)) (hr : Room 3 (Ar.deeper (envOfC "Table.are_all" (defScope s_Table_are_all) s.heap.objs.size f cdv))) :
    PSs (cxOf (L2.CX P w) P w K mg base N_Table_are_all "Table.are_all" (defScope s_Table_are_all) f cdv Ar outer s H E) (defBody s_Table_are_all) (t_Table_are_all K E) := by
  have hu := hu65 hr
  have tk : Takes (cxOf (L2.CX P w) P w K mg base N_Table_are_all "Table.are_all" (defScope s_Table_are_all) f cdv Ar outer s H E) (fun cls d _ H => E cls d H) := takes_of rfl rfl rfl rfl
  exact pss_cons (ps_if (PW.pt (pw_or (pt_not (pt_val (pe_callB call_isiA (by rfl) T.n_isinstance (by decide +kernel) (pa_cons (pv 1) (pa_cons (pe_bltn (v := .ty "dict") (by rfl) T.n_dict (by decide +kernel) rfl) pa_nil))))) (pw_or1 (pt_cmpR (op_neA hu) (pe_callB call_lenA (by rfl) T.n_len (by decide +kernel) (pa_cons (pv 1) pa_nil)) (pe_callB call_lenA (by rfl) T.n_len (by decide +kernel) (pa_cons (pe_fld (pv 0) rfl) pa_nil)) (nomark _))))) (pss_one (ps_ret pe_bl)) pss_nil)
    (pss_one (ps_ret (pe_callB (cr_all rfl) (by rfl) T.n_all (by decide +kernel) (pa_cons (pe_lock (pe_lc (own := [("column", 2)]) (g := gName 2) (tt := tYes) rfl sc_Table_are_all.nd (pi_keys (pe_fld (pv 0) rfl)) (blkOk_by (own := [("column", 2)]) (N := N_Table_are_all) (sc := defScope s_Table_are_all) (by decide +kernel)) (fun _ _ _ _ _ => pg_name (i := 2) sc_Table_are_all.nd rfl (Or.inl rfl)) (fun _ _ _ _ _ => pts_nil) (fun _ _ _ _ _ => pe_and (pe_cmpR (op_inA hu) (pv 2) (pv 1) (by rfl)) (pe_one (pe_calB G_is_value (hr.mono (by decide)) (pa_cons (pe_ix (ix_A hu) (pv 1) (pv 2) (fun _ _ => rfl)) pa_nil)))))) pa_nil))))
theorem cal_Table_are_all (T : Txt K mg A) {f : Addr} {fd : FuncData} {f_is_value : Addr} (G_is_value : Cal P w K mg base 3 "is_value" f_is_value ["thing"] (sp_is_value K)) (F : Fun K "are_all" "Table.are_all" s_Table_are_all f fd) (hm : Meth K (A .Table) "are_all" f) (hb : Binds K fd ["self", "values"] []) :
    Met P w K mg base 4 (A .Table) "are_all" f ["self", "values"] (sp_Table_are_all K A) := met_of F sc_Table_are_all hm T.fx_Table.cl hb len_Table_are_all (t_Table_are_all K) (fun cdv Ar outer s H E hr => d_Table_are_all T G_is_value hr) (fun vs H Q E h => r_Table_are_all T.fx_Table vs H Q E h)
theorem d_Table_put_in (T : Txt K mg A) {f : Addr} {f_Table_are_all : Addr} (G_Table_are_all : Met P w K mg base 4 (A .Table) "are_all" f_Table_are_all ["self", "values"] (sp_Table_are_all K A)) {f_Table_look_at_place : Addr} (G_Table_look_at_place : Met P w K mg base 3 (A .Table) "look_at_place" f_Table_look_at_place ["self", "place", "many"] (sp_Table_look_at_place K A)) (hr : Room 4 (Ar.deeper (envOfC "Table.put_in" (defScope s_Table_put_in) s.heap.objs.size f cdv))) :
    PSs (cxOf (L2.CX P w) P w K mg base N_Table_put_in "Table.put_in" (defScope s_Table_put_in) f cdv Ar outer s H E) (defBody s_Table_put_in) (t_Table_put_in K A E) := by
  have hu := hu65 hr
  have tk : Takes (cxOf (L2.CX P w) P w K mg base N_Table_put_in "Table.put_in" (defScope s_Table_put_in) f cdv Ar outer s H E) (fun cls d _ H => E cls d H) := takes_of rfl rfl rfl rfl
  exact pss_cons (ps_expr (pe_met G_Table_look_at_place (pv 0) (hr.mono (by decide)) tk (pa_cons (pv 1) (pa_cons (pe_op op_addA (pe_callB call_lenA (by rfl) T.n_len (by decide +kernel) (pa_cons (pe_fld (pv 0) rfl) pa_nil)) pe_int) pa_nil))))
    (pss_cons (ps_if (pt_cmpR op_ge (pe_callB call_lenA (by rfl) T.n_len (by decide +kernel) (pa_cons (pe_fld (pv 0) rfl) pa_nil)) (pe_glob (v := .int 30) rfl (Exists.choose_spec T.g_MOST_ROWS) ⟨_, rfl⟩) (nomark _)) (pss_one (ps_raise rfl tk (pmk_own PySem.F.excBase_ValueError T.x_TooMuch T.g_TooMuch T.k_TooMuch (raises_own T.b_TooMuch T.t_TooMuch) rfl))) pss_nil)
    (pss_cons (ps_if (pt_not (pt_val (pe_met G_Table_are_all (pv 0) (hr.mono (by decide)) tk (pa_cons (pv 2) pa_nil)))) (pss_one (ps_raise rfl tk (pmk_own PySem.F.excBase_ValueError T.x_NoValue T.g_NoValue T.k_NoValue (raises_own T.b_NoValue T.t_NoValue) rfl))) pss_nil)
    (pss_cons (ps_expr (pe_bm PySem.F.plainAttrs_list PySem.F.slot_list_insert PySem.F.type_list_insert mt_insert (pe_fld (pv 0) rfl) (pa_cons (pv 1) (pa_cons (pe_fld (pv 0) rfl) pa_nil))))
    (pss_cons (ps_fld (pv 0) (pe_op op_addA (pe_fld (pv 0) rfl) pe_int) rfl)
    (pss_one (ps_lock (ps_for (passes_of rfl) rfl (pi_keys (pe_fld (pv 0) rfl)) (pg_name (i := 3) sc_Table_put_in.nd rfl (Or.inl rfl)) (pss_one (ps_expr (pe_bm PySem.F.plainAttrs_list PySem.F.slot_list_insert PySem.F.type_list_insert mt_insert (pe_ix (ix_A hu) (pe_fld (pv 0) rfl) (pv 3) (fun _ _ => rfl)) (pa_cons (pv 1) (pa_cons (pe_ix (ix_A hu) (pv 2) (pv 3) (fun _ _ => rfl)) pa_nil))))))))))))
theorem cal_Table_put_in (T : Txt K mg A) {f : Addr} {fd : FuncData} {f_Table_are_all : Addr} (G_Table_are_all : Met P w K mg base 4 (A .Table) "are_all" f_Table_are_all ["self", "values"] (sp_Table_are_all K A)) {f_Table_look_at_place : Addr} (G_Table_look_at_place : Met P w K mg base 3 (A .Table) "look_at_place" f_Table_look_at_place ["self", "place", "many"] (sp_Table_look_at_place K A)) (F : Fun K "put_in" "Table.put_in" s_Table_put_in f fd) (hm : Meth K (A .Table) "put_in" f) (hb : Binds K fd ["self", "place", "values"] []) :
    Met P w K mg base 5 (A .Table) "put_in" f ["self", "place", "values"] (sp_Table_put_in K A) := met_of F sc_Table_put_in hm T.fx_Table.cl hb len_Table_put_in (t_Table_put_in K A) (fun cdv Ar outer s H E hr => d_Table_put_in T G_Table_are_all G_Table_look_at_place hr) (fun vs H Q E h => r_Table_put_in T.fx_Table vs H Q E h)
theorem d_Table_take_out (T : Txt K mg A) {f : Addr} {f_Table_look_at_place : Addr} (G_Table_look_at_place : Met P w K mg base 3 (A .Table) "look_at_place" f_Table_look_at_place ["self", "place", "many"] (sp_Table_look_at_place K A)) (hr : Room 3 (Ar.deeper (envOfC "Table.take_out" (defScope s_Table_take_out) s.heap.objs.size f cdv))) :
    PSs (cxOf (L2.CX P w) P w K mg base N_Table_take_out "Table.take_out" (defScope s_Table_take_out) f cdv Ar outer s H E) (defBody s_Table_take_out) (t_Table_take_out K A E) := by
  have hu := hu65 hr
  have tk : Takes (cxOf (L2.CX P w) P w K mg base N_Table_take_out "Table.take_out" (defScope s_Table_take_out) f cdv Ar outer s H E) (fun cls d _ H => E cls d H) := takes_of rfl rfl rfl rfl
  exact pss_cons (ps_expr (pe_met G_Table_look_at_place (pv 0) (hr.mono (by decide)) tk (pa_cons (pv 1) (pa_cons (pe_callB call_lenA (by rfl) T.n_len (by decide +kernel) (pa_cons (pe_fld (pv 0) rfl) pa_nil)) pa_nil))))
    (pss_cons (ps_expr (pe_bm PySem.F.plainAttrs_list PySem.F.slot_list_pop PySem.F.type_list_pop mt_popAt (pe_fld (pv 0) rfl) (pa_cons (pv 1) pa_nil)))
    (pss_one (ps_lock (ps_for (passes_of rfl) rfl (pi_keys (pe_fld (pv 0) rfl)) (pg_name (i := 2) sc_Table_take_out.nd rfl (Or.inl rfl)) (pss_one (ps_expr (pe_bm PySem.F.plainAttrs_list PySem.F.slot_list_pop PySem.F.type_list_pop mt_popAt (pe_ix (ix_A hu) (pe_fld (pv 0) rfl) (pv 2) (fun _ _ => rfl)) (pa_cons (pv 1) pa_nil))))))))
theorem cal_Table_take_out (T : Txt K mg A) {f : Addr} {fd : FuncData} {f_Table_look_at_place : Addr} (G_Table_look_at_place : Met P w K mg base 3 (A .Table) "look_at_place" f_Table_look_at_place ["self", "place", "many"] (sp_Table_look_at_place K A)) (F : Fun K "take_out" "Table.take_out" s_Table_take_out f fd) (hm : Meth K (A .Table) "take_out" f) (hb : Binds K fd ["self", "place"] []) :
    Met P w K mg base 4 (A .Table) "take_out" f ["self", "place"] (sp_Table_take_out K A) := met_of F sc_Table_take_out hm T.fx_Table.cl hb len_Table_take_out (t_Table_take_out K A) (fun cdv Ar outer s H E hr => d_Table_take_out T G_Table_look_at_place hr) (fun vs H Q E h => r_Table_take_out T.fx_Table vs H Q E h)
theorem d_law_cell (T : Txt K mg A) {f : Addr}  (hr : Room 0 (Ar.deeper (envOfC "_law_cell" (defScope s_law_cell) s.heap.objs.size f cdv))) :
    PSs (cxOf (L2.CX P w) P w K mg base N_law_cell "_law_cell" (defScope s_law_cell) f cdv Ar outer s H E) (defBody s_law_cell) (t_law_cell K E) := by
  have hu := hu65 hr
  exact pss_cons (ps_if (pt_cmpR op_lt (pv 1) (pe_callB call_lenA (by rfl) T.n_len (by decide +kernel) (pa_cons (pv 0) pa_nil)) (nomark _)) (pss_one (ps_ret (pe_ix (ix_A hu) (pv 0) (pv 1) (fun _ _ => rfl)))) pss_nil)
    (pss_cons (ps_set (i := 2) sc_law_cell.nd rfl (Or.inl rfl) pe_int)
    (pss_cons (ps_if (pt_cmpR op_gt (pe_callB call_lenA (by rfl) T.n_len (by decide +kernel) (pa_cons (pv 0) pa_nil)) pe_int (nomark _)) (pss_one (ps_set (i := 2) sc_law_cell.nd rfl (Or.inl rfl) (pe_op op_modN (pe_ix (ix_A hu) (pv 0) (pe_op op_modN (pv 1) (pe_callB call_lenA (by rfl) T.n_len (by decide +kernel) (pa_cons (pv 0) pa_nil))) (fun _ _ => rfl)) pe_int))) pss_nil)
    (pss_one (ps_ret (pe_op op_modN (pe_op op_mulA (pe_op op_addA (pe_op op_addA (pv 2) (pe_op op_mulA (pv 1) (pv 1))) pe_int) (pe_op op_addA pe_int (pe_op op_mulA pe_int (pv 1)))) pe_int)))))
theorem cal_law_cell (T : Txt K mg A) {f : Addr} {fd : FuncData}  (F : Fun K "_law_cell" "_law_cell" s_law_cell f fd) (hm : mg "_law_cell" = some (.ref f)) (hb : Binds K fd ["script", "k"] []) :
    Cal P w K mg base 1 "_law_cell" f ["script", "k"] (sp_law_cell K) := cal_of F sc_law_cell hm hb len_law_cell (t_law_cell K) (fun cdv Ar outer s H E hr => d_law_cell T  hr) (fun vs H Q E h => r_law_cell vs H Q E h)
theorem d_law_value (T : Txt K mg A) {f : Addr}  (hr : Room 0 (Ar.deeper (envOfC "_law_value" (defScope s_law_value) s.heap.objs.size f cdv))) :
    PSs (cxOf (L2.CX P w) P w K mg base N_law_value "_law_value" (defScope s_law_value) f cdv Ar outer s H E) (defBody s_law_value) (t_law_value K E) := by
  have hu := hu65 hr
  exact pss_cons (ps_set (i := 1) sc_law_value.nd rfl (Or.inl rfl) (pe_op op_sub (pe_op op_pow pe_int pe_int) pe_int))
    (pss_cons (ps_if (pt_cmpR (op_eqA hu) (pe_op op_modN (pv 0) pe_int) pe_int (nomark _)) (pss_one (ps_ret (pe_tup (pa_cons pe_str (pa_cons (pe_op op_mulA (pe_ix (ix_A hu) pe_str (pe_op op_modN (pe_op op_fdivA (pv 0) pe_int) pe_int) (fun _ _ => rfl)) (pe_op op_addA pe_int (pe_op op_modN (pe_op op_fdivA (pv 0) pe_int) pe_int))) pa_nil))))) pss_nil)
    (pss_cons (ps_if (pt_cmpR (op_eqA hu) (pe_op op_modN (pv 0) pe_int) pe_int (nomark _)) (pss_one (ps_ret (pe_op op_sub (pe_op op_modN (pe_op op_fdivA (pv 0) pe_int) (pe_op op_addA (pe_op op_mulA pe_int (pv 1)) pe_int)) (pv 1)))) pss_nil)
    (pss_one (ps_ret (pe_op op_sub (pe_op op_modN (pe_op op_fdivA (pv 0) pe_int) pe_int) pe_int)))))
theorem cal_law_value (T : Txt K mg A) {f : Addr} {fd : FuncData}  (F : Fun K "_law_value" "_law_value" s_law_value f fd) (hm : mg "_law_value" = some (.ref f)) (hb : Binds K fd ["cell"] []) :
    Cal P w K mg base 1 "_law_value" f ["cell"] (spW) := cal_of F sc_law_value hm hb len_law_value (t_law_value K) (fun cdv Ar outer s H E hr => d_law_value T  hr) (fun vs H Q E h => r_law_value vs H Q E h)
theorem d_law_numbers (T : Txt K mg A) {f : Addr}  (hr : Room 0 (Ar.deeper (envOfC "_law_numbers" (defScope s_law_numbers) s.heap.objs.size f cdv))) :
    PSs (cxOf (L2.CX P w) P w K mg base N_law_numbers "_law_numbers" (defScope s_law_numbers) f cdv Ar outer s H E) (defBody s_law_numbers) (t_law_numbers K E) := by
  have hu := hu65 hr
  exact pss_cons (ps_if (PW.pt (pw_or (pt_not (pt_val (pe_callB call_isiA (by rfl) T.n_isinstance (by decide +kernel) (pa_cons (pv 0) (pa_cons (pe_bltn (v := .ty "list") (by rfl) T.n_list (by decide +kernel) rfl) pa_nil))))) (pw_or1 (pt_cmpR (op_neA hu) (pv 0) (pv 1) (nomark _))))) (pss_one (ps_ret pe_bl)) pss_nil)
    (pss_cons (ps_for (passes_of rfl) rfl (pi_list (pv 0)) (pg_name (i := 2) sc_law_numbers.nd rfl (Or.inl rfl)) (pss_one (ps_if (PW.pt (pw_or (pt_not (pt_val (pe_callB call_isiA (by rfl) T.n_isinstance (by decide +kernel) (pa_cons (pv 2) (pa_cons (pe_bltn (v := .ty "int") (by rfl) T.n_int (by decide +kernel) rfl) pa_nil))))) (pw_or1 (pt_val (pe_callB call_isiA (by rfl) T.n_isinstance (by decide +kernel) (pa_cons (pv 2) (pa_cons (pe_bltn (v := .ty "bool") (by rfl) T.n_bool (by decide +kernel) rfl) pa_nil))))))) (pss_one (ps_ret pe_bl)) pss_nil)))
    (pss_one (ps_ret pe_bl)))
theorem cal_law_numbers (T : Txt K mg A) {f : Addr} {fd : FuncData}  (F : Fun K "_law_numbers" "_law_numbers" s_law_numbers f fd) (hm : mg "_law_numbers" = some (.ref f)) (hb : Binds K fd ["found", "due"] []) :
    Cal P w K mg base 1 "_law_numbers" f ["found", "due"] (sp_law_numbers K) := cal_of F sc_law_numbers hm hb len_law_numbers (t_law_numbers K) (fun cdv Ar outer s H E hr => d_law_numbers T  hr) (fun vs H Q E h => r_law_numbers vs H Q E h)
theorem d_law_stands (T : Txt K mg A) {f : Addr} {f_law_numbers : Addr} (G_law_numbers : Cal P w K mg base 1 "_law_numbers" f_law_numbers ["found", "due"] (sp_law_numbers K)) {f_Table_columns : Addr} (G_Table_columns : Met P w K mg base 1 (A .Table) "columns" f_Table_columns ["self"] (sp_Table_columns K A)) {f_Table_at : Addr} (G_Table_at : Met P w K mg base 4 (A .Table) "at" f_Table_at ["self", "column", "place"] (sp_Table_at K A)) {f_Table_numbers : Addr} (G_Table_numbers : Met P w K mg base 1 (A .Table) "numbers" f_Table_numbers ["self"] (sp_Table_numbers K A)) {f_Table_many : Addr} (G_Table_many : Met P w K mg base 1 (A .Table) "many" f_Table_many ["self"] (sp_Table_many K A)) (hr : Room 4 (Ar.deeper (envOfC "_law_stands" (defScope s_law_stands) s.heap.objs.size f cdv))) :
    PSs (cxOf (L2.CX P w) P w K mg base N_law_stands "_law_stands" (defScope s_law_stands) f cdv Ar outer s H E) (defBody s_law_stands) (t_law_stands K A E) := by
  have hu := hu65 hr
  have tk : Takes (cxOf (L2.CX P w) P w K mg base N_law_stands "_law_stands" (defScope s_law_stands) f cdv Ar outer s H E) (fun cls d _ H => E cls d H) := takes_of rfl rfl rfl rfl
  exact pss_cons (ps_if (PW.pt (pw_or (pt_cmpR (op_neA hu) (pe_met0 G_Table_many (pv 0) (hr.mono (by decide)) tk) (pe_callB call_lenA (by rfl) T.n_len (by decide +kernel) (pa_cons (pv 2) pa_nil)) (nomark _)) (pw_or1 (pt_not (pt_val (pe_cal G_law_numbers (hr.mono (by decide)) tk (pa_cons (pe_met0 G_Table_numbers (pv 0) (hr.mono (by decide)) tk) (pa_cons (pe_lc (own := [("row", 6)]) (g := gName 6) (tt := tYes) rfl sc_law_stands.nd (pi_list (pv 2)) (blkOk_by (own := [("row", 6)]) (N := N_law_stands) (sc := defScope s_law_stands) (by decide +kernel)) (fun _ _ _ _ _ => pg_name (i := 6) sc_law_stands.nd rfl (Or.inl rfl)) (fun _ _ _ _ _ => pts_nil) (fun _ _ _ _ _ => pe_ix (ix_A hu) (pv 6) pe_int (fun _ _ => rfl))) pa_nil)))))))) (pss_one (ps_ret pe_bl)) pss_nil)
    (pss_cons (ps_expr (pe_bm PySem.F.plainAttrs_list PySem.F.slot_list_append PySem.F.type_list_append mt_append (pe_met0 G_Table_numbers (pv 0) (hr.mono (by decide)) tk) (pa_cons pe_int pa_nil)))
    (pss_cons (ps_for (passes_of rfl) rfl (pi_range1 (by rfl) T.n_range (pa_cons (pe_callB call_lenA (by rfl) T.n_len (by decide +kernel) (pa_cons (pv 2) pa_nil)) pa_nil)) (pg_name (i := 3) sc_law_stands.nd rfl (Or.inl rfl)) (pss_one (ps_for (passes_of rfl) rfl (pi_list (pv 1)) (pg_name (i := 4) sc_law_stands.nd rfl (Or.inl rfl)) (pss_cons (ps_set (i := 5) sc_law_stands.nd rfl (Or.inl rfl) (pe_met G_Table_at (pv 0) (hr.mono (by decide)) tk (pa_cons (pv 4) (pa_cons (pv 3) pa_nil))))
    (pss_one (ps_if (PW.pt (pw_or (pt_val (pe_callB call_isiA (by rfl) T.n_isinstance (by decide +kernel) (pa_cons (pv 5) (pa_cons (pe_bltn (v := .ty "bool") (by rfl) T.n_bool (by decide +kernel) rfl) pa_nil)))) (pw_or1 (pt_cmpR (op_neA hu) (pv 5) (pe_ix (ix_A hu) (pe_ix (ix_A hu) (pe_ix (ix_A hu) (pv 2) (pv 3) (fun _ _ => rfl)) pe_int (fun _ _ => rfl)) (pv 4) (fun _ _ => rfl)) (nomark _))))) (pss_one (ps_ret pe_bl)) pss_nil))))))
    (pss_one (ps_ret (pe_cmpR (op_eqA hu) (pe_met0 G_Table_columns (pv 0) (hr.mono (by decide)) tk) (pv 1) (nomark _))))))
theorem cal_law_stands (T : Txt K mg A) {f : Addr} {fd : FuncData} {f_law_numbers : Addr} (G_law_numbers : Cal P w K mg base 1 "_law_numbers" f_law_numbers ["found", "due"] (sp_law_numbers K)) {f_Table_columns : Addr} (G_Table_columns : Met P w K mg base 1 (A .Table) "columns" f_Table_columns ["self"] (sp_Table_columns K A)) {f_Table_at : Addr} (G_Table_at : Met P w K mg base 4 (A .Table) "at" f_Table_at ["self", "column", "place"] (sp_Table_at K A)) {f_Table_numbers : Addr} (G_Table_numbers : Met P w K mg base 1 (A .Table) "numbers" f_Table_numbers ["self"] (sp_Table_numbers K A)) {f_Table_many : Addr} (G_Table_many : Met P w K mg base 1 (A .Table) "many" f_Table_many ["self"] (sp_Table_many K A)) (F : Fun K "_law_stands" "_law_stands" s_law_stands f fd) (hm : mg "_law_stands" = some (.ref f)) (hb : Binds K fd ["table", "names", "rows"] []) :
    Cal P w K mg base 5 "_law_stands" f ["table", "names", "rows"] (sp_law_stands K A) := cal_of F sc_law_stands hm hb len_law_stands (t_law_stands K A) (fun cdv Ar outer s H E hr => d_law_stands T G_law_numbers G_Table_columns G_Table_at G_Table_numbers G_Table_many hr) (fun vs H Q E h => r_law_stands vs H Q E h)
theorem d_law_put_in (T : Txt K mg A) {f : Addr} {f_law_cell : Addr} (G_law_cell : Cal P w K mg base 1 "_law_cell" f_law_cell ["script", "k"] (sp_law_cell K)) {f_law_value : Addr} (G_law_value : Cal P w K mg base 1 "_law_value" f_law_value ["cell"] (spW)) {f_Table_put_in : Addr} (G_Table_put_in : Met P w K mg base 5 (A .Table) "put_in" f_Table_put_in ["self", "place", "values"] (sp_Table_put_in K A)) (hr : Room 5 (Ar.deeper (envOfC "_law_put_in" (defScope s_law_put_in) s.heap.objs.size f cdv))) :
    PSs (cxOf (L2.CX P w) P w K mg base N_law_put_in "_law_put_in" (defScope s_law_put_in) f cdv Ar outer s H E) (defBody s_law_put_in) (t_law_put_in K A E) := by
  have hu := hu65 hr
  have tk : Takes (cxOf (L2.CX P w) P w K mg base N_law_put_in "_law_put_in" (defScope s_law_put_in) f cdv Ar outer s H E) (fun cls d _ H => E cls d H) := takes_of rfl rfl rfl rfl
  exact pss_cons (ps_set (i := 6) sc_law_put_in.nd rfl (Or.inl rfl) pe_dnewK)
    (pss_cons (ps_set (i := 7) sc_law_put_in.nd rfl (Or.inl rfl) (pv 2))
    (pss_cons (ps_if (pt_cmpR (op_eqA hu) (pe_op op_modN (pe_cal G_law_cell (hr.mono (by decide)) tk (pa_cons (pv 4) (pa_cons pe_int pa_nil))) pe_int) pe_int (nomark _)) (pss_one (ps_set (i := 7) sc_law_put_in.nd rfl (Or.inl rfl) (pe_revL (pv 2)))) pss_nil)
    (pss_cons (ps_for (passes_of rfl) rfl (pi_range1 (by rfl) T.n_range (pa_cons (pe_callB call_lenA (by rfl) T.n_len (by decide +kernel) (pa_cons (pv 7) pa_nil)) pa_nil)) (pg_name (i := 8) sc_law_put_in.nd rfl (Or.inl rfl)) (pss_one (ps_asg (pe_cal G_law_value (hr.mono (by decide)) tk (pa_cons (pe_cal G_law_cell (hr.mono (by decide)) tk (pa_cons (pv 4) (pa_cons (pe_op op_addA (pe_op op_addA pe_int (pe_op op_mulA pe_int (pv 5))) (pv 8)) pa_nil))) pa_nil)) (pg_sub (pv 6) (pe_ix (ix_A hu) (pv 7) (pv 8) (fun _ _ => rfl)) (set_A hu)))))
    (pss_cons (ps_set (i := 9) sc_law_put_in.nd rfl (Or.inl rfl) (pe_callTy (call_dictA rfl) (by rfl) T.n_dict (by decide +kernel) (pa_cons (pv 6) pa_nil)))
    (pss_cons (ps_set (i := 10) sc_law_put_in.nd rfl (Or.inl rfl) (pe_met G_Table_put_in (pv 0) (hr.mono (by decide)) tk (pa_cons (pv 3) (pa_cons (pv 9) pa_nil))))
    (pss_cons (ps_if (PW.pt (pw_or (pt_cmpR (op_neA hu) (pv 9) (pv 6) (nomark _)) (pw_or1 (pt_cmpR op_isnA (pv 10) pe_non (nomark _))))) (pss_one (ps_ret pe_bl)) pss_nil)
    (pss_cons (ps_asg pe_int (pg_sub (pv 9) pe_str (set_A hu)))
    (pss_cons (ps_for (passes_of rfl) rfl (pi_list (pv 2)) (pg_name (i := 11) sc_law_put_in.nd rfl (Or.inl rfl)) (pss_one (ps_asg pe_int (pg_sub (pv 9) (pv 11) (set_A hu)))))
    (pss_cons (ps_expr (pe_bm PySem.F.plainAttrs_list PySem.F.slot_list_insert PySem.F.type_list_insert mt_insert (pv 1) (pa_cons (pv 3) (pa_cons (pe_lst (pa_cons pe_int (pa_cons (pv 6) pa_nil))) pa_nil))))
    (pss_one (ps_ret pe_bl)))))))))))
theorem cal_law_put_in (T : Txt K mg A) {f : Addr} {fd : FuncData} {f_law_cell : Addr} (G_law_cell : Cal P w K mg base 1 "_law_cell" f_law_cell ["script", "k"] (sp_law_cell K)) {f_law_value : Addr} (G_law_value : Cal P w K mg base 1 "_law_value" f_law_value ["cell"] (spW)) {f_Table_put_in : Addr} (G_Table_put_in : Met P w K mg base 5 (A .Table) "put_in" f_Table_put_in ["self", "place", "values"] (sp_Table_put_in K A)) (F : Fun K "_law_put_in" "_law_put_in" s_law_put_in f fd) (hm : mg "_law_put_in" = some (.ref f)) (hb : Binds K fd ["table", "rows", "names", "at", "script", "k"] []) :
    Cal P w K mg base 6 "_law_put_in" f ["table", "rows", "names", "at", "script", "k"] (sp_law_put_in K A) := cal_of F sc_law_put_in hm hb len_law_put_in (t_law_put_in K A) (fun cdv Ar outer s H E hr => d_law_put_in T G_law_cell G_law_value G_Table_put_in hr) (fun vs H Q E h => r_law_put_in vs H Q E h)
theorem d_law (T : Txt K mg A) {f : Addr} {f_law_stands : Addr} (G_law_stands : Cal P w K mg base 5 "_law_stands" f_law_stands ["table", "names", "rows"] (sp_law_stands K A)) {f_law_cell : Addr} (G_law_cell : Cal P w K mg base 1 "_law_cell" f_law_cell ["script", "k"] (sp_law_cell K)) {f_law_put_in : Addr} (G_law_put_in : Cal P w K mg base 6 "_law_put_in" f_law_put_in ["table", "rows", "names", "at", "script", "k"] (sp_law_put_in K A)) {f_law_value : Addr} (G_law_value : Cal P w K mg base 1 "_law_value" f_law_value ["cell"] (spW)) {f_Table_put : Addr} (G_Table_put : Met P w K mg base 4 (A .Table) "put" f_Table_put ["self", "column", "place", "value"] (sp_Table_put K A)) {f_Table_take_out : Addr} (G_Table_take_out : Met P w K mg base 4 (A .Table) "take_out" f_Table_take_out ["self", "place"] (sp_Table_take_out K A)) {f_Table_give : Addr} (G_Table_give : Met P w K mg base 5 (A .Table) "give" f_Table_give ["self", "column", "values"] (sp_Table_give K A)) {f_Table_init : Addr} (G_Table_init : Mak P w K mg base 3 (A .Table) "Table" f_Table_init ["self", "many"] (sp_Table_init K A)) (hr : Room 6 (Ar.deeper (envOfC "law" (defScope s_law) s.heap.objs.size f cdv))) :
    PSs (cxOf (L2.CX P w) P w K mg base N_law "law" (defScope s_law) f cdv Ar outer s H E) (defBody s_law) (t_law K A E) := by
  have hu := hu65 hr
  have tk : Takes (cxOf (L2.CX P w) P w K mg base N_law "law" (defScope s_law) f cdv Ar outer s H E) (fun cls d _ H => E cls d H) := takes_of rfl rfl rfl rfl
  exact pss_cons (ps_set (i := 1) sc_law.nd rfl (Or.inl rfl) (pe_op op_modN (pe_cal G_law_cell (hr.mono (by decide)) tk (pa_cons (pv 0) (pa_cons pe_int pa_nil))) pe_int))
    (pss_cons (ps_if (pt_cmpR (op_eqA hu) (pe_op op_modN (pe_cal G_law_cell (hr.mono (by decide)) tk (pa_cons (pv 0) (pa_cons pe_int pa_nil))) pe_int) pe_int (nomark _)) (pss_one (ps_set (i := 1) sc_law.nd rfl (Or.inl rfl) (pe_op op_addA pe_int (pe_op op_modN (pe_cal G_law_cell (hr.mono (by decide)) tk (pa_cons (pv 0) (pa_cons pe_int pa_nil))) pe_int)))) pss_nil)
    (pss_cons (ps_set (i := 2) sc_law.nd rfl (Or.inl rfl) (pe_slice sl_A (pe_lst (pa_cons pe_str (pa_cons pe_str (pa_cons pe_str (pa_cons pe_str pa_nil))))) po_none (po_some (pe_op op_modN (pe_cal G_law_cell (hr.mono (by decide)) tk (pa_cons (pv 0) (pa_cons pe_int pa_nil))) pe_int))))
    (pss_cons (ps_set (i := 3) sc_law.nd rfl (Or.inl rfl) (pe_mak G_Table_init (hr.mono (by decide)) tk (pa_cons (pv 1) pa_nil)))
    (pss_cons (ps_setLc (i := 5) (own := [("k", 4)]) (g := gName 4) (tt := tYes) rfl sc_law.nd rfl rfl (sw_true rfl rfl rfl (by decide +kernel)) (pi_range1 (by rfl) T.n_range (pa_cons (pv 1) pa_nil)) (blkOk_by (own := [("k", 4)]) (N := N_law) (sc := defScope s_law) (by decide +kernel)) (fun _ _ _ _ _ => pg_name (i := 4) sc_law.nd rfl (Or.inl rfl)) (fun _ _ _ _ _ => pts_nil) (fun _ _ _ _ _ => pe_lst (pa_cons (pv 4) (pa_cons pe_dnewK pa_nil))))
    (pss_cons (ps_for (passes_of rfl) rfl (pi_range1 (by rfl) T.n_range (pa_cons (pe_callB call_lenA (by rfl) T.n_len (by decide +kernel) (pa_cons (pv 2) pa_nil)) pa_nil)) (pg_name (i := 6) sc_law.nd rfl (Or.inr rfl)) (pss_cons (ps_setLc (i := 7) (own := [("k", 4)]) (g := gName 4) (tt := tYes) rfl sc_law.nd rfl rfl (sw_true rfl rfl rfl (by decide +kernel)) (pi_range1 (by rfl) T.n_range (pa_cons (pv 1) pa_nil)) (blkOk_by (own := [("k", 4)]) (N := N_law) (sc := defScope s_law) (by decide +kernel)) (fun _ _ _ _ _ => pg_name (i := 4) sc_law.nd rfl (Or.inl rfl)) (fun _ _ _ _ _ => pts_nil) (fun _ _ _ _ _ => pe_calB G_law_value (hr.mono (by decide)) (pa_cons (pe_calB G_law_cell (hr.mono (by decide)) (pa_cons (pv 0) (pa_cons (pe_op op_addA (pe_op op_addA pe_int (pe_op op_mulA pe_int (pv 6))) (pv 4)) pa_nil))) pa_nil)))
    (pss_cons (ps_expr (pe_met G_Table_give (pv 3) (hr.mono (by decide)) tk (pa_cons (pe_ix (ix_A hu) (pv 2) (pv 6) (fun _ _ => rfl)) (pa_cons (pe_callTy (call_listA rfl) (by rfl) T.n_list (by decide +kernel) (pa_cons (pv 7) pa_nil)) pa_nil))))
    (pss_one (ps_for (passes_of rfl) rfl (pi_range1 (by rfl) T.n_range (pa_cons (pv 1) pa_nil)) (pg_name (i := 4) sc_law.nd rfl (Or.inl rfl)) (pss_one (ps_asg (pe_ix (ix_A hu) (pv 7) (pv 4) (fun _ _ => rfl)) (pg_sub (pe_ix (ix_A hu) (pe_ix (ix_A hu) (pv 5) (pv 4) (fun _ _ => rfl)) pe_int (fun _ _ => rfl)) (pe_ix (ix_A hu) (pv 2) (pv 6) (fun _ _ => rfl)) (set_A hu)))))))))
    (pss_cons (ps_set (i := 8) sc_law.nd rfl (Or.inl rfl) (pv 1))
    (pss_cons (ps_for (passes_of rfl) rfl (pi_range1 (by rfl) T.n_range (pa_cons (pe_op op_modN (pe_cal G_law_cell (hr.mono (by decide)) tk (pa_cons (pv 0) (pa_cons pe_int pa_nil))) pe_int) pa_nil)) (pg_name (i := 4) sc_law.nd rfl (Or.inl rfl)) (pss_cons (ps_set (i := 9) sc_law.nd rfl (Or.inl rfl) (pe_cal G_law_cell (hr.mono (by decide)) tk (pa_cons (pv 0) (pa_cons (pe_op op_addA pe_int (pv 4)) pa_nil))))
    (pss_cons (ps_set (i := 10) sc_law.nd rfl (Or.inl rfl) (pe_op op_modN (pv 9) pe_int))
    (pss_cons (ps_if (PW.pt (pw_and (pt_cmpR op_lt (pv 10) pe_int (nomark _)) (pw_and1 (pt_cmpR op_lt (pe_callB call_lenA (by rfl) T.n_len (by decide +kernel) (pa_cons (pv 5) pa_nil)) pe_int (nomark _))))) (pss_cons (ps_set (i := 11) sc_law.nd rfl (Or.inl rfl) (pe_op op_modN (pe_op op_fdivA (pv 9) pe_int) (pe_op op_addA (pe_callB call_lenA (by rfl) T.n_len (by decide +kernel) (pa_cons (pv 5) pa_nil)) pe_int)))
    (pss_cons (ps_if (pt_not (pt_val (pe_cal G_law_put_in (hr.mono (by decide)) tk (pa_cons (pv 3) (pa_cons (pv 5) (pa_cons (pv 2) (pa_cons (pv 11) (pa_cons (pv 0) (pa_cons (pv 4) pa_nil))))))))) (pss_one (ps_ret pe_bl)) pss_nil)
    (pss_cons (ps_asg (pv 8) (pg_sub (pe_ix (ix_A hu) (pv 5) (pv 11) (fun _ _ => rfl)) pe_int (set_A hu)))
    (pss_one (ps_set (i := 8) sc_law.nd rfl (Or.inl rfl) (pe_op op_addA (pv 8) pe_int)))))) (pss_one (ps_if (PW.pt (pw_and (pt_cmpR (op_eqA hu) (pv 10) pe_int (nomark _)) (pw_and (pt_cmpR (op_neA hu) (pv 5) (pe_lst pa_nil) (nomark _)) (pw_and1 (pt_cmpR (op_neA hu) (pv 2) (pe_lst pa_nil) (nomark _)))))) (pss_cons (ps_set (i := 11) sc_law.nd rfl (Or.inl rfl) (pe_op op_modN (pe_op op_fdivA (pv 9) pe_int) (pe_callB call_lenA (by rfl) T.n_len (by decide +kernel) (pa_cons (pv 5) pa_nil))))
    (pss_cons (ps_asg (pe_cal G_law_value (hr.mono (by decide)) tk (pa_cons (pe_op op_fdivA (pv 9) pe_int) pa_nil)) (pg_sub (pe_ix (ix_A hu) (pe_ix (ix_A hu) (pv 5) (pv 11) (fun _ _ => rfl)) pe_int (fun _ _ => rfl)) (pe_ix (ix_A hu) (pv 2) pe_int (fun _ _ => rfl)) (set_A hu)))
    (pss_one (ps_expr (pe_met G_Table_put (pv 3) (hr.mono (by decide)) tk (pa_cons (pe_ix (ix_A hu) (pv 2) pe_int (fun _ _ => rfl)) (pa_cons (pv 11) (pa_cons (pe_ix (ix_A hu) (pe_ix (ix_A hu) (pe_ix (ix_A hu) (pv 5) (pv 11) (fun _ _ => rfl)) pe_int (fun _ _ => rfl)) (pe_ix (ix_A hu) (pv 2) pe_int (fun _ _ => rfl)) (fun _ _ => rfl)) pa_nil)))))))) (pss_one (ps_if (pt_cmpR (op_neA hu) (pv 5) (pe_lst pa_nil) (nomark _)) (pss_cons (ps_set (i := 11) sc_law.nd rfl (Or.inl rfl) (pe_op op_modN (pe_op op_fdivA (pv 9) pe_int) (pe_callB call_lenA (by rfl) T.n_len (by decide +kernel) (pa_cons (pv 5) pa_nil))))
    (pss_cons (ps_if (pt_cmpR op_isnA (pe_met G_Table_take_out (pv 3) (hr.mono (by decide)) tk (pa_cons (pv 11) pa_nil)) pe_non (nomark _)) (pss_one (ps_ret pe_bl)) pss_nil)
    (pss_one (ps_expr (pe_bm PySem.F.plainAttrs_list PySem.F.slot_list_pop PySem.F.type_list_pop mt_popAt (pv 5) (pa_cons (pv 11) pa_nil)))))) pss_nil)))))
    (pss_one (ps_if (pt_not (pt_val (pe_cal G_law_stands (hr.mono (by decide)) tk (pa_cons (pv 3) (pa_cons (pv 2) (pa_cons (pv 5) pa_nil)))))) (pss_one (ps_ret pe_bl)) pss_nil))))))
    (pss_one (ps_ret (pe_cal G_law_stands (hr.mono (by decide)) tk (pa_cons (pv 3) (pa_cons (pv 2) (pa_cons (pv 5) pa_nil)))))))))))))
theorem fn_law (T : Txt K mg A) {f : Addr} {fd : FuncData} {f_law_stands : Addr} (G_law_stands : Cal P w K mg base 5 "_law_stands" f_law_stands ["table", "names", "rows"] (sp_law_stands K A)) {f_law_cell : Addr} (G_law_cell : Cal P w K mg base 1 "_law_cell" f_law_cell ["script", "k"] (sp_law_cell K)) {f_law_put_in : Addr} (G_law_put_in : Cal P w K mg base 6 "_law_put_in" f_law_put_in ["table", "rows", "names", "at", "script", "k"] (sp_law_put_in K A)) {f_law_value : Addr} (G_law_value : Cal P w K mg base 1 "_law_value" f_law_value ["cell"] (spW)) {f_Table_put : Addr} (G_Table_put : Met P w K mg base 4 (A .Table) "put" f_Table_put ["self", "column", "place", "value"] (sp_Table_put K A)) {f_Table_take_out : Addr} (G_Table_take_out : Met P w K mg base 4 (A .Table) "take_out" f_Table_take_out ["self", "place"] (sp_Table_take_out K A)) {f_Table_give : Addr} (G_Table_give : Met P w K mg base 5 (A .Table) "give" f_Table_give ["self", "column", "values"] (sp_Table_give K A)) {f_Table_init : Addr} (G_Table_init : Mak P w K mg base 3 (A .Table) "Table" f_Table_init ["self", "many"] (sp_Table_init K A)) (F : Fun K "law" "law" s_law f fd) : FnOk P w K mg base (L2.CX P w) 7 f fd ["script"] (spLaw K) :=
  fnx_of F sc_law len_law (t_law K A) (fun cdv Ar outer s H E hr => d_law T G_law_stands G_law_cell G_law_put_in G_law_value G_Table_put G_Table_take_out G_Table_give G_Table_init hr) (fun vs H Q E h => r_law vs H Q E h)
end
theorem all_mk {l : PySem.W.OpenLaw} {w : World} {K : PySem.W.Frag} {h : Heap} {mg : Str → Option Value} {fa : Addr} {C_ColsError C_NoName C_NoValue C_NoColumn C_NoPlace C_NoSize C_TooMuch C_Table : Addr} {f_is_whole f_is_name f_is_fault f_is_number f_is_value f_is_below f_are_values f_Table_init f_Table_many f_Table_numbers f_Table_columns f_Table_has f_Table_give f_Table_look_at f_Table_look_at_place f_Table_put f_Table_at f_Table_are_all f_Table_put_in f_Table_take_out f_law_cell f_law_value f_law_numbers f_law_stands f_law_put_in f_law : Addr} {od_is_whole an_is_whole od_is_name an_is_name od_is_fault an_is_fault od_is_number an_is_number od_is_value an_is_value od_is_below an_is_below od_are_values an_are_values od_Table_init an_Table_init od_Table_many an_Table_many od_Table_numbers an_Table_numbers od_Table_columns an_Table_columns od_Table_has an_Table_has od_Table_give an_Table_give od_Table_look_at an_Table_look_at od_Table_look_at_place an_Table_look_at_place od_Table_put an_Table_put od_Table_at an_Table_at od_Table_are_all an_Table_are_all od_Table_put_in an_Table_put_in od_Table_take_out an_Table_take_out od_law_cell an_law_cell od_law_value an_law_value od_law_numbers an_law_numbers od_law_stands an_law_stands od_law_put_in an_law_put_in od_law an_law : Option Addr} {sl_is_whole sl_is_name sl_is_fault sl_is_number sl_is_value sl_is_below sl_are_values sl_Table_init sl_Table_many sl_Table_numbers sl_Table_columns sl_Table_has sl_Table_give sl_Table_look_at sl_Table_look_at_place sl_Table_put sl_Table_at sl_Table_are_all sl_Table_put_in sl_Table_take_out sl_law_cell sl_law_value sl_law_numbers sl_law_stands sl_law_put_in sl_law : Array (Option Value)} {oc_is_whole kV_is_whole dc_is_whole pm_is_whole cd_is_whole ct_is_whole oc_is_name kV_is_name dc_is_name pm_is_name cd_is_name ct_is_name oc_is_fault kV_is_fault dc_is_fault pm_is_fault cd_is_fault ct_is_fault oc_is_number kV_is_number dc_is_number pm_is_number cd_is_number ct_is_number oc_is_value kV_is_value dc_is_value pm_is_value cd_is_value ct_is_value oc_is_below kV_is_below dc_is_below pm_is_below cd_is_below ct_is_below oc_are_values kV_are_values dc_are_values pm_are_values cd_are_values ct_are_values oc_Table_init kV_Table_init dc_Table_init pm_Table_init cd_Table_init ct_Table_init oc_Table_many kV_Table_many dc_Table_many pm_Table_many cd_Table_many ct_Table_many oc_Table_numbers kV_Table_numbers dc_Table_numbers pm_Table_numbers cd_Table_numbers ct_Table_numbers oc_Table_columns kV_Table_columns dc_Table_columns pm_Table_columns cd_Table_columns ct_Table_columns oc_Table_has kV_Table_has dc_Table_has pm_Table_has cd_Table_has ct_Table_has oc_Table_give kV_Table_give dc_Table_give pm_Table_give cd_Table_give ct_Table_give oc_Table_look_at kV_Table_look_at dc_Table_look_at pm_Table_look_at cd_Table_look_at ct_Table_look_at oc_Table_look_at_place kV_Table_look_at_place dc_Table_look_at_place pm_Table_look_at_place cd_Table_look_at_place ct_Table_look_at_place oc_Table_put kV_Table_put dc_Table_put pm_Table_put cd_Table_put ct_Table_put oc_Table_at kV_Table_at dc_Table_at pm_Table_at cd_Table_at ct_Table_at oc_Table_are_all kV_Table_are_all dc_Table_are_all pm_Table_are_all cd_Table_are_all ct_Table_are_all oc_Table_put_in kV_Table_put_in dc_Table_put_in pm_Table_put_in cd_Table_put_in ct_Table_put_in oc_Table_take_out kV_Table_take_out dc_Table_take_out pm_Table_take_out cd_Table_take_out ct_Table_take_out oc_law_cell kV_law_cell dc_law_cell pm_law_cell cd_law_cell ct_law_cell oc_law_value kV_law_value dc_law_value pm_law_value cd_law_value ct_law_value oc_law_numbers kV_law_numbers dc_law_numbers pm_law_numbers cd_law_numbers ct_law_numbers oc_law_stands kV_law_stands dc_law_stands pm_law_stands cd_law_stands ct_law_stands oc_law_put_in kV_law_put_in dc_law_put_in pm_law_put_in cd_law_put_in ct_law_put_in oc_law kV_law dc_law pm_law cd_law ct_law : Value} {tk_LETTERS tk_MOST_ROWS tk_MOST_COLUMNS : Tok} (X : K.In h) (G : h.Ns mainGlobals mg) (hfa : mg "law" = some (.ref fa))
    (a_ColsError : PySem.W.nsIn K mainGlobals "ColsError" = some (some (.ref C_ColsError)))
    (a_NoName : PySem.W.nsIn K mainGlobals "NoName" = some (some (.ref C_NoName)))
    (a_NoValue : PySem.W.nsIn K mainGlobals "NoValue" = some (some (.ref C_NoValue)))
    (a_NoColumn : PySem.W.nsIn K mainGlobals "NoColumn" = some (some (.ref C_NoColumn)))
    (a_NoPlace : PySem.W.nsIn K mainGlobals "NoPlace" = some (some (.ref C_NoPlace)))
    (a_NoSize : PySem.W.nsIn K mainGlobals "NoSize" = some (some (.ref C_NoSize)))
    (a_TooMuch : PySem.W.nsIn K mainGlobals "TooMuch" = some (some (.ref C_TooMuch)))
    (a_Table : PySem.W.nsIn K mainGlobals "Table" = some (some (.ref C_Table)))
    (a_is_whole : PySem.W.nsIn K mainGlobals "is_whole" = some (some (.ref f_is_whole)))
    (l_is_whole : K.lookup f_is_whole = some ⟨oc_is_whole, od_is_whole, .func (PySem.W.fnOf "is_whole" "is_whole" (defArgs s_is_whole) (defBody s_is_whole) (defScope s_is_whole) .none kV_is_whole dc_is_whole pm_is_whole an_is_whole cd_is_whole ct_is_whole), sl_is_whole⟩)
    (c_is_whole : PySem.W.codeIn K cd_is_whole "is_whole" = true)
    (k_is_whole : PySem.W.keepIn K (.ref f_is_whole) = true)
    (a_is_name : PySem.W.nsIn K mainGlobals "is_name" = some (some (.ref f_is_name)))
    (l_is_name : K.lookup f_is_name = some ⟨oc_is_name, od_is_name, .func (PySem.W.fnOf "is_name" "is_name" (defArgs s_is_name) (defBody s_is_name) (defScope s_is_name) .none kV_is_name dc_is_name pm_is_name an_is_name cd_is_name ct_is_name), sl_is_name⟩)
    (c_is_name : PySem.W.codeIn K cd_is_name "is_name" = true)
    (k_is_name : PySem.W.keepIn K (.ref f_is_name) = true)
    (a_is_fault : PySem.W.nsIn K mainGlobals "is_fault" = some (some (.ref f_is_fault)))
    (l_is_fault : K.lookup f_is_fault = some ⟨oc_is_fault, od_is_fault, .func (PySem.W.fnOf "is_fault" "is_fault" (defArgs s_is_fault) (defBody s_is_fault) (defScope s_is_fault) .none kV_is_fault dc_is_fault pm_is_fault an_is_fault cd_is_fault ct_is_fault), sl_is_fault⟩)
    (c_is_fault : PySem.W.codeIn K cd_is_fault "is_fault" = true)
    (k_is_fault : PySem.W.keepIn K (.ref f_is_fault) = true)
    (a_is_number : PySem.W.nsIn K mainGlobals "is_number" = some (some (.ref f_is_number)))
    (l_is_number : K.lookup f_is_number = some ⟨oc_is_number, od_is_number, .func (PySem.W.fnOf "is_number" "is_number" (defArgs s_is_number) (defBody s_is_number) (defScope s_is_number) .none kV_is_number dc_is_number pm_is_number an_is_number cd_is_number ct_is_number), sl_is_number⟩)
    (c_is_number : PySem.W.codeIn K cd_is_number "is_number" = true)
    (k_is_number : PySem.W.keepIn K (.ref f_is_number) = true)
    (a_is_value : PySem.W.nsIn K mainGlobals "is_value" = some (some (.ref f_is_value)))
    (l_is_value : K.lookup f_is_value = some ⟨oc_is_value, od_is_value, .func (PySem.W.fnOf "is_value" "is_value" (defArgs s_is_value) (defBody s_is_value) (defScope s_is_value) .none kV_is_value dc_is_value pm_is_value an_is_value cd_is_value ct_is_value), sl_is_value⟩)
    (c_is_value : PySem.W.codeIn K cd_is_value "is_value" = true)
    (k_is_value : PySem.W.keepIn K (.ref f_is_value) = true)
    (a_is_below : PySem.W.nsIn K mainGlobals "is_below" = some (some (.ref f_is_below)))
    (l_is_below : K.lookup f_is_below = some ⟨oc_is_below, od_is_below, .func (PySem.W.fnOf "is_below" "is_below" (defArgs s_is_below) (defBody s_is_below) (defScope s_is_below) .none kV_is_below dc_is_below pm_is_below an_is_below cd_is_below ct_is_below), sl_is_below⟩)
    (c_is_below : PySem.W.codeIn K cd_is_below "is_below" = true)
    (k_is_below : PySem.W.keepIn K (.ref f_is_below) = true)
    (a_are_values : PySem.W.nsIn K mainGlobals "are_values" = some (some (.ref f_are_values)))
    (l_are_values : K.lookup f_are_values = some ⟨oc_are_values, od_are_values, .func (PySem.W.fnOf "are_values" "are_values" (defArgs s_are_values) (defBody s_are_values) (defScope s_are_values) .none kV_are_values dc_are_values pm_are_values an_are_values cd_are_values ct_are_values), sl_are_values⟩)
    (c_are_values : PySem.W.codeIn K cd_are_values "are_values" = true)
    (k_are_values : PySem.W.keepIn K (.ref f_are_values) = true)
    (a_Table_init : PySem.W.findIn K (.ref C_Table) "__init__" = some (some (.ref f_Table_init)))
    (i_Table_init : PySem.W.isFn K (.ref f_Table_init) = true)
    (mkk_Table : PySem.W.makesIn K C_Table = true)
    (kc_Table : PySem.W.keepIn K (.ref C_Table) = true)
    (l_Table_init : K.lookup f_Table_init = some ⟨oc_Table_init, od_Table_init, .func (PySem.W.fnOf "__init__" "Table.__init__" (defArgs s_Table_init) (defBody s_Table_init) (defScope s_Table_init) .none kV_Table_init dc_Table_init pm_Table_init an_Table_init cd_Table_init ct_Table_init), sl_Table_init⟩)
    (c_Table_init : PySem.W.codeIn K cd_Table_init "Table.__init__" = true)
    (k_Table_init : PySem.W.keepIn K (.ref f_Table_init) = true)
    (a_Table_many : PySem.W.findIn K (.ref C_Table) "many" = some (some (.ref f_Table_many)))
    (i_Table_many : PySem.W.isFn K (.ref f_Table_many) = true)
    (l_Table_many : K.lookup f_Table_many = some ⟨oc_Table_many, od_Table_many, .func (PySem.W.fnOf "many" "Table.many" (defArgs s_Table_many) (defBody s_Table_many) (defScope s_Table_many) .none kV_Table_many dc_Table_many pm_Table_many an_Table_many cd_Table_many ct_Table_many), sl_Table_many⟩)
    (c_Table_many : PySem.W.codeIn K cd_Table_many "Table.many" = true)
    (k_Table_many : PySem.W.keepIn K (.ref f_Table_many) = true)
    (a_Table_numbers : PySem.W.findIn K (.ref C_Table) "numbers" = some (some (.ref f_Table_numbers)))
    (i_Table_numbers : PySem.W.isFn K (.ref f_Table_numbers) = true)
    (l_Table_numbers : K.lookup f_Table_numbers = some ⟨oc_Table_numbers, od_Table_numbers, .func (PySem.W.fnOf "numbers" "Table.numbers" (defArgs s_Table_numbers) (defBody s_Table_numbers) (defScope s_Table_numbers) .none kV_Table_numbers dc_Table_numbers pm_Table_numbers an_Table_numbers cd_Table_numbers ct_Table_numbers), sl_Table_numbers⟩)
    (c_Table_numbers : PySem.W.codeIn K cd_Table_numbers "Table.numbers" = true)
    (k_Table_numbers : PySem.W.keepIn K (.ref f_Table_numbers) = true)
    (a_Table_columns : PySem.W.findIn K (.ref C_Table) "columns" = some (some (.ref f_Table_columns)))
    (i_Table_columns : PySem.W.isFn K (.ref f_Table_columns) = true)
    (l_Table_columns : K.lookup f_Table_columns = some ⟨oc_Table_columns, od_Table_columns, .func (PySem.W.fnOf "columns" "Table.columns" (defArgs s_Table_columns) (defBody s_Table_columns) (defScope s_Table_columns) .none kV_Table_columns dc_Table_columns pm_Table_columns an_Table_columns cd_Table_columns ct_Table_columns), sl_Table_columns⟩)
    (c_Table_columns : PySem.W.codeIn K cd_Table_columns "Table.columns" = true)
    (k_Table_columns : PySem.W.keepIn K (.ref f_Table_columns) = true)
    (a_Table_has : PySem.W.findIn K (.ref C_Table) "has" = some (some (.ref f_Table_has)))
    (i_Table_has : PySem.W.isFn K (.ref f_Table_has) = true)
    (l_Table_has : K.lookup f_Table_has = some ⟨oc_Table_has, od_Table_has, .func (PySem.W.fnOf "has" "Table.has" (defArgs s_Table_has) (defBody s_Table_has) (defScope s_Table_has) .none kV_Table_has dc_Table_has pm_Table_has an_Table_has cd_Table_has ct_Table_has), sl_Table_has⟩)
    (c_Table_has : PySem.W.codeIn K cd_Table_has "Table.has" = true)
    (k_Table_has : PySem.W.keepIn K (.ref f_Table_has) = true)
    (a_Table_give : PySem.W.findIn K (.ref C_Table) "give" = some (some (.ref f_Table_give)))
    (i_Table_give : PySem.W.isFn K (.ref f_Table_give) = true)
    (l_Table_give : K.lookup f_Table_give = some ⟨oc_Table_give, od_Table_give, .func (PySem.W.fnOf "give" "Table.give" (defArgs s_Table_give) (defBody s_Table_give) (defScope s_Table_give) .none kV_Table_give dc_Table_give pm_Table_give an_Table_give cd_Table_give ct_Table_give), sl_Table_give⟩)
    (c_Table_give : PySem.W.codeIn K cd_Table_give "Table.give" = true)
    (k_Table_give : PySem.W.keepIn K (.ref f_Table_give) = true)
    (a_Table_look_at : PySem.W.findIn K (.ref C_Table) "look_at" = some (some (.ref f_Table_look_at)))
    (i_Table_look_at : PySem.W.isFn K (.ref f_Table_look_at) = true)
    (l_Table_look_at : K.lookup f_Table_look_at = some ⟨oc_Table_look_at, od_Table_look_at, .func (PySem.W.fnOf "look_at" "Table.look_at" (defArgs s_Table_look_at) (defBody s_Table_look_at) (defScope s_Table_look_at) .none kV_Table_look_at dc_Table_look_at pm_Table_look_at an_Table_look_at cd_Table_look_at ct_Table_look_at), sl_Table_look_at⟩)
    (c_Table_look_at : PySem.W.codeIn K cd_Table_look_at "Table.look_at" = true)
    (k_Table_look_at : PySem.W.keepIn K (.ref f_Table_look_at) = true)
    (a_Table_look_at_place : PySem.W.findIn K (.ref C_Table) "look_at_place" = some (some (.ref f_Table_look_at_place)))
    (i_Table_look_at_place : PySem.W.isFn K (.ref f_Table_look_at_place) = true)
    (l_Table_look_at_place : K.lookup f_Table_look_at_place = some ⟨oc_Table_look_at_place, od_Table_look_at_place, .func (PySem.W.fnOf "look_at_place" "Table.look_at_place" (defArgs s_Table_look_at_place) (defBody s_Table_look_at_place) (defScope s_Table_look_at_place) .none kV_Table_look_at_place dc_Table_look_at_place pm_Table_look_at_place an_Table_look_at_place cd_Table_look_at_place ct_Table_look_at_place), sl_Table_look_at_place⟩)
    (c_Table_look_at_place : PySem.W.codeIn K cd_Table_look_at_place "Table.look_at_place" = true)
    (k_Table_look_at_place : PySem.W.keepIn K (.ref f_Table_look_at_place) = true)
    (a_Table_put : PySem.W.findIn K (.ref C_Table) "put" = some (some (.ref f_Table_put)))
    (i_Table_put : PySem.W.isFn K (.ref f_Table_put) = true)
    (l_Table_put : K.lookup f_Table_put = some ⟨oc_Table_put, od_Table_put, .func (PySem.W.fnOf "put" "Table.put" (defArgs s_Table_put) (defBody s_Table_put) (defScope s_Table_put) .none kV_Table_put dc_Table_put pm_Table_put an_Table_put cd_Table_put ct_Table_put), sl_Table_put⟩)
    (c_Table_put : PySem.W.codeIn K cd_Table_put "Table.put" = true)
    (k_Table_put : PySem.W.keepIn K (.ref f_Table_put) = true)
    (a_Table_at : PySem.W.findIn K (.ref C_Table) "at" = some (some (.ref f_Table_at)))
    (i_Table_at : PySem.W.isFn K (.ref f_Table_at) = true)
    (l_Table_at : K.lookup f_Table_at = some ⟨oc_Table_at, od_Table_at, .func (PySem.W.fnOf "at" "Table.at" (defArgs s_Table_at) (defBody s_Table_at) (defScope s_Table_at) .none kV_Table_at dc_Table_at pm_Table_at an_Table_at cd_Table_at ct_Table_at), sl_Table_at⟩)
    (c_Table_at : PySem.W.codeIn K cd_Table_at "Table.at" = true)
    (k_Table_at : PySem.W.keepIn K (.ref f_Table_at) = true)
    (a_Table_are_all : PySem.W.findIn K (.ref C_Table) "are_all" = some (some (.ref f_Table_are_all)))
    (i_Table_are_all : PySem.W.isFn K (.ref f_Table_are_all) = true)
    (l_Table_are_all : K.lookup f_Table_are_all = some ⟨oc_Table_are_all, od_Table_are_all, .func (PySem.W.fnOf "are_all" "Table.are_all" (defArgs s_Table_are_all) (defBody s_Table_are_all) (defScope s_Table_are_all) .none kV_Table_are_all dc_Table_are_all pm_Table_are_all an_Table_are_all cd_Table_are_all ct_Table_are_all), sl_Table_are_all⟩)
    (c_Table_are_all : PySem.W.codeIn K cd_Table_are_all "Table.are_all" = true)
    (k_Table_are_all : PySem.W.keepIn K (.ref f_Table_are_all) = true)
    (a_Table_put_in : PySem.W.findIn K (.ref C_Table) "put_in" = some (some (.ref f_Table_put_in)))
    (i_Table_put_in : PySem.W.isFn K (.ref f_Table_put_in) = true)
    (l_Table_put_in : K.lookup f_Table_put_in = some ⟨oc_Table_put_in, od_Table_put_in, .func (PySem.W.fnOf "put_in" "Table.put_in" (defArgs s_Table_put_in) (defBody s_Table_put_in) (defScope s_Table_put_in) .none kV_Table_put_in dc_Table_put_in pm_Table_put_in an_Table_put_in cd_Table_put_in ct_Table_put_in), sl_Table_put_in⟩)
    (c_Table_put_in : PySem.W.codeIn K cd_Table_put_in "Table.put_in" = true)
    (k_Table_put_in : PySem.W.keepIn K (.ref f_Table_put_in) = true)
    (a_Table_take_out : PySem.W.findIn K (.ref C_Table) "take_out" = some (some (.ref f_Table_take_out)))
    (i_Table_take_out : PySem.W.isFn K (.ref f_Table_take_out) = true)
    (l_Table_take_out : K.lookup f_Table_take_out = some ⟨oc_Table_take_out, od_Table_take_out, .func (PySem.W.fnOf "take_out" "Table.take_out" (defArgs s_Table_take_out) (defBody s_Table_take_out) (defScope s_Table_take_out) .none kV_Table_take_out dc_Table_take_out pm_Table_take_out an_Table_take_out cd_Table_take_out ct_Table_take_out), sl_Table_take_out⟩)
    (c_Table_take_out : PySem.W.codeIn K cd_Table_take_out "Table.take_out" = true)
    (k_Table_take_out : PySem.W.keepIn K (.ref f_Table_take_out) = true)
    (a_law_cell : PySem.W.nsIn K mainGlobals "_law_cell" = some (some (.ref f_law_cell)))
    (l_law_cell : K.lookup f_law_cell = some ⟨oc_law_cell, od_law_cell, .func (PySem.W.fnOf "_law_cell" "_law_cell" (defArgs s_law_cell) (defBody s_law_cell) (defScope s_law_cell) .none kV_law_cell dc_law_cell pm_law_cell an_law_cell cd_law_cell ct_law_cell), sl_law_cell⟩)
    (c_law_cell : PySem.W.codeIn K cd_law_cell "_law_cell" = true)
    (k_law_cell : PySem.W.keepIn K (.ref f_law_cell) = true)
    (a_law_value : PySem.W.nsIn K mainGlobals "_law_value" = some (some (.ref f_law_value)))
    (l_law_value : K.lookup f_law_value = some ⟨oc_law_value, od_law_value, .func (PySem.W.fnOf "_law_value" "_law_value" (defArgs s_law_value) (defBody s_law_value) (defScope s_law_value) .none kV_law_value dc_law_value pm_law_value an_law_value cd_law_value ct_law_value), sl_law_value⟩)
    (c_law_value : PySem.W.codeIn K cd_law_value "_law_value" = true)
    (k_law_value : PySem.W.keepIn K (.ref f_law_value) = true)
    (a_law_numbers : PySem.W.nsIn K mainGlobals "_law_numbers" = some (some (.ref f_law_numbers)))
    (l_law_numbers : K.lookup f_law_numbers = some ⟨oc_law_numbers, od_law_numbers, .func (PySem.W.fnOf "_law_numbers" "_law_numbers" (defArgs s_law_numbers) (defBody s_law_numbers) (defScope s_law_numbers) .none kV_law_numbers dc_law_numbers pm_law_numbers an_law_numbers cd_law_numbers ct_law_numbers), sl_law_numbers⟩)
    (c_law_numbers : PySem.W.codeIn K cd_law_numbers "_law_numbers" = true)
    (k_law_numbers : PySem.W.keepIn K (.ref f_law_numbers) = true)
    (a_law_stands : PySem.W.nsIn K mainGlobals "_law_stands" = some (some (.ref f_law_stands)))
    (l_law_stands : K.lookup f_law_stands = some ⟨oc_law_stands, od_law_stands, .func (PySem.W.fnOf "_law_stands" "_law_stands" (defArgs s_law_stands) (defBody s_law_stands) (defScope s_law_stands) .none kV_law_stands dc_law_stands pm_law_stands an_law_stands cd_law_stands ct_law_stands), sl_law_stands⟩)
    (c_law_stands : PySem.W.codeIn K cd_law_stands "_law_stands" = true)
    (k_law_stands : PySem.W.keepIn K (.ref f_law_stands) = true)
    (a_law_put_in : PySem.W.nsIn K mainGlobals "_law_put_in" = some (some (.ref f_law_put_in)))
    (l_law_put_in : K.lookup f_law_put_in = some ⟨oc_law_put_in, od_law_put_in, .func (PySem.W.fnOf "_law_put_in" "_law_put_in" (defArgs s_law_put_in) (defBody s_law_put_in) (defScope s_law_put_in) .none kV_law_put_in dc_law_put_in pm_law_put_in an_law_put_in cd_law_put_in ct_law_put_in), sl_law_put_in⟩)
    (c_law_put_in : PySem.W.codeIn K cd_law_put_in "_law_put_in" = true)
    (k_law_put_in : PySem.W.keepIn K (.ref f_law_put_in) = true)
    (a_law : PySem.W.nsIn K mainGlobals "law" = some (some (.ref f_law)))
    (l_law : K.lookup f_law = some ⟨oc_law, od_law, .func (PySem.W.fnOf "law" "law" (defArgs s_law) (defBody s_law) (defScope s_law) .none kV_law dc_law pm_law an_law cd_law ct_law), sl_law⟩)
    (c_law : PySem.W.codeIn K cd_law "law" = true)
    (k_law : PySem.W.keepIn K (.ref f_law) = true)
    (n_abs : PySem.W.nsIn K mainGlobals "abs" = some none)
    (n_all : PySem.W.nsIn K mainGlobals "all" = some none)
    (n_bool : PySem.W.nsIn K mainGlobals "bool" = some none)
    (n_dict : PySem.W.nsIn K mainGlobals "dict" = some none)
    (n_int : PySem.W.nsIn K mainGlobals "int" = some none)
    (n_isinstance : PySem.W.nsIn K mainGlobals "isinstance" = some none)
    (n_len : PySem.W.nsIn K mainGlobals "len" = some none)
    (n_list : PySem.W.nsIn K mainGlobals "list" = some none)
    (n_range : PySem.W.nsIn K mainGlobals "range" = some none)
    (n_str : PySem.W.nsIn K mainGlobals "str" = some none)
    (n_tuple : PySem.W.nsIn K mainGlobals "tuple" = some none)
    (g_LETTERS : PySem.W.nsIn K mainGlobals "LETTERS" = some (some (.str "abcdefghijklmnopqrstuvwxyz" tk_LETTERS)))
    (g_MOST_ROWS : PySem.W.nsIn K mainGlobals "MOST_ROWS" = some (some (.int 30 tk_MOST_ROWS)))
    (g_MOST_COLUMNS : PySem.W.nsIn K mainGlobals "MOST_COLUMNS" = some (some (.int 8 tk_MOST_COLUMNS)))
    (pg_Table : PySem.W.plainGet K C_Table Str.empty = true)
    (hd_Table : PySem.W.hasDictIn K C_Table = true)
    (po_Table : PySem.W.plainOver K C_Table = true)
    (sa_Table : PySem.W.findIn K (.ref C_Table) "__setattr__" = some (some (.builtin "object.__setattr__")))
    (na_Table_held : PySem.W.findIn K (.ref C_Table) "held" = some none)
    (na_Table_coming : PySem.W.findIn K (.ref C_Table) "coming" = some none)
    (na_Table_rows_now : PySem.W.findIn K (.ref C_Table) "rows_now" = some none)
    (xx_NoColumn : PySem.W.excIn K C_NoColumn [.type "ValueError", .type "Exception", .type "BaseException", .type "object"] "ValueError.__new__" = true)
    (xk_NoColumn : PySem.W.keepIn K (.ref C_NoColumn) = true)
    (xb_NoColumn : PySem.W.subIn K (.ref C_NoColumn) (.type "BaseException") = some true)
    (xt_NoColumn : PySem.W.typeIn K (.ref C_NoColumn) = some (.type "type"))
    (xx_NoName : PySem.W.excIn K C_NoName [.type "ValueError", .type "Exception", .type "BaseException", .type "object"] "ValueError.__new__" = true)
    (xk_NoName : PySem.W.keepIn K (.ref C_NoName) = true)
    (xb_NoName : PySem.W.subIn K (.ref C_NoName) (.type "BaseException") = some true)
    (xt_NoName : PySem.W.typeIn K (.ref C_NoName) = some (.type "type"))
    (xx_NoPlace : PySem.W.excIn K C_NoPlace [.type "ValueError", .type "Exception", .type "BaseException", .type "object"] "ValueError.__new__" = true)
    (xk_NoPlace : PySem.W.keepIn K (.ref C_NoPlace) = true)
    (xb_NoPlace : PySem.W.subIn K (.ref C_NoPlace) (.type "BaseException") = some true)
    (xt_NoPlace : PySem.W.typeIn K (.ref C_NoPlace) = some (.type "type"))
    (xx_NoSize : PySem.W.excIn K C_NoSize [.type "ValueError", .type "Exception", .type "BaseException", .type "object"] "ValueError.__new__" = true)
    (xk_NoSize : PySem.W.keepIn K (.ref C_NoSize) = true)
    (xb_NoSize : PySem.W.subIn K (.ref C_NoSize) (.type "BaseException") = some true)
    (xt_NoSize : PySem.W.typeIn K (.ref C_NoSize) = some (.type "type"))
    (xx_NoValue : PySem.W.excIn K C_NoValue [.type "ValueError", .type "Exception", .type "BaseException", .type "object"] "ValueError.__new__" = true)
    (xk_NoValue : PySem.W.keepIn K (.ref C_NoValue) = true)
    (xb_NoValue : PySem.W.subIn K (.ref C_NoValue) (.type "BaseException") = some true)
    (xt_NoValue : PySem.W.typeIn K (.ref C_NoValue) = some (.type "type"))
    (xx_TooMuch : PySem.W.excIn K C_TooMuch [.type "ValueError", .type "Exception", .type "BaseException", .type "object"] "ValueError.__new__" = true)
    (xk_TooMuch : PySem.W.keepIn K (.ref C_TooMuch) = true)
    (xb_TooMuch : PySem.W.subIn K (.ref C_TooMuch) (.type "BaseException") = some true)
    (xt_TooMuch : PySem.W.typeIn K (.ref C_TooMuch) = some (.type "type")) :
    ∃ fd : FuncData, (∀ (s : Shared) (v : Value), BindsTo s fd ⟨[v], []⟩ [("script", v)]) ∧ ∀ base : Heap, K.In base → base.Ns mainGlobals mg → FnOk l.prog w K mg base (L2.CX l.prog w) 7 fa fd ["script"] (spLaw K) := by
  have e := hfa.symm.trans (PySem.W.mg_of X G a_law)
  cases e
  let A : Cn → Addr := fun | .ColsError => C_ColsError | .NoName => C_NoName | .NoValue => C_NoValue | .NoColumn => C_NoColumn | .NoPlace => C_NoPlace | .NoSize => C_NoSize | .TooMuch => C_TooMuch | .Table => C_Table | _ => 0
  have T : Txt K mg A := { n_abs := PySem.W.mg_none_of X G n_abs, n_all := PySem.W.mg_none_of X G n_all, n_bool := PySem.W.mg_none_of X G n_bool, n_dict := PySem.W.mg_none_of X G n_dict, n_int := PySem.W.mg_none_of X G n_int, n_isinstance := PySem.W.mg_none_of X G n_isinstance, n_len := PySem.W.mg_none_of X G n_len, n_list := PySem.W.mg_none_of X G n_list, n_range := PySem.W.mg_none_of X G n_range, n_str := PySem.W.mg_none_of X G n_str, n_tuple := PySem.W.mg_none_of X G n_tuple, g_LETTERS := ⟨_, PySem.W.mg_of X G g_LETTERS⟩, g_MOST_ROWS := ⟨_, PySem.W.mg_of X G g_MOST_ROWS⟩, g_MOST_COLUMNS := ⟨_, PySem.W.mg_of X G g_MOST_COLUMNS⟩, g_ColsError := PySem.W.mg_of X G a_ColsError, g_NoName := PySem.W.mg_of X G a_NoName, g_NoValue := PySem.W.mg_of X G a_NoValue, g_NoColumn := PySem.W.mg_of X G a_NoColumn, g_NoPlace := PySem.W.mg_of X G a_NoPlace, g_NoSize := PySem.W.mg_of X G a_NoSize, g_TooMuch := PySem.W.mg_of X G a_TooMuch, g_Table := PySem.W.mg_of X G a_Table, fx_Table := ⟨⟨pg_Table, hd_Table, po_Table, sa_Table⟩, List.forall_mem_cons.mpr ⟨na_Table_rows_now, List.forall_mem_cons.mpr ⟨na_Table_coming, List.forall_mem_cons.mpr ⟨na_Table_held, List.forall_mem_nil _⟩⟩⟩⟩, x_NoColumn := xx_NoColumn, k_NoColumn := xk_NoColumn, b_NoColumn := xb_NoColumn, t_NoColumn := xt_NoColumn, x_NoName := xx_NoName, k_NoName := xk_NoName, b_NoName := xb_NoName, t_NoName := xt_NoName, x_NoPlace := xx_NoPlace, k_NoPlace := xk_NoPlace, b_NoPlace := xb_NoPlace, t_NoPlace := xt_NoPlace, x_NoSize := xx_NoSize, k_NoSize := xk_NoSize, b_NoSize := xb_NoSize, t_NoSize := xt_NoSize, x_NoValue := xx_NoValue, k_NoValue := xk_NoValue, b_NoValue := xb_NoValue, t_NoValue := xt_NoValue, x_TooMuch := xx_TooMuch, k_TooMuch := xk_TooMuch, b_TooMuch := xb_TooMuch, t_TooMuch := xt_TooMuch }
  have F_is_whole := fun_mk (st := s_is_whole) l_is_whole c_is_whole k_is_whole
  have b_is_whole := F_is_whole.binds (ps := ["thing"]) fun _ _ _ _ _ _ us hl => match us, hl with | [_], _ => rfl
  have F_is_name := fun_mk (st := s_is_name) l_is_name c_is_name k_is_name
  have b_is_name := F_is_name.binds (ps := ["thing"]) fun _ _ _ _ _ _ us hl => match us, hl with | [_], _ => rfl
  have F_is_fault := fun_mk (st := s_is_fault) l_is_fault c_is_fault k_is_fault
  have b_is_fault := F_is_fault.binds (ps := ["thing"]) fun _ _ _ _ _ _ us hl => match us, hl with | [_], _ => rfl
  have F_is_number := fun_mk (st := s_is_number) l_is_number c_is_number k_is_number
  have b_is_number := F_is_number.binds (ps := ["thing"]) fun _ _ _ _ _ _ us hl => match us, hl with | [_], _ => rfl
  have F_is_value := fun_mk (st := s_is_value) l_is_value c_is_value k_is_value
  have b_is_value := F_is_value.binds (ps := ["thing"]) fun _ _ _ _ _ _ us hl => match us, hl with | [_], _ => rfl
  have F_is_below := fun_mk (st := s_is_below) l_is_below c_is_below k_is_below
  have b_is_below := F_is_below.binds (ps := ["thing", "many"]) fun _ _ _ _ _ _ us hl => match us, hl with | [_, _], _ => rfl
  have F_are_values := fun_mk (st := s_are_values) l_are_values c_are_values k_are_values
  have b_are_values := F_are_values.binds (ps := ["thing", "many"]) fun _ _ _ _ _ _ us hl => match us, hl with | [_, _], _ => rfl
  have F_Table_init := fun_mk (st := s_Table_init) l_Table_init c_Table_init k_Table_init
  have b_Table_init := F_Table_init.binds (ps := ["self", "many"]) fun _ _ _ _ _ _ us hl => match us, hl with | [_, _], _ => rfl
  have F_Table_many := fun_mk (st := s_Table_many) l_Table_many c_Table_many k_Table_many
  have b_Table_many := F_Table_many.binds (ps := ["self"]) fun _ _ _ _ _ _ us hl => match us, hl with | [_], _ => rfl
  have F_Table_numbers := fun_mk (st := s_Table_numbers) l_Table_numbers c_Table_numbers k_Table_numbers
  have b_Table_numbers := F_Table_numbers.binds (ps := ["self"]) fun _ _ _ _ _ _ us hl => match us, hl with | [_], _ => rfl
  have F_Table_columns := fun_mk (st := s_Table_columns) l_Table_columns c_Table_columns k_Table_columns
  have b_Table_columns := F_Table_columns.binds (ps := ["self"]) fun _ _ _ _ _ _ us hl => match us, hl with | [_], _ => rfl
  have F_Table_has := fun_mk (st := s_Table_has) l_Table_has c_Table_has k_Table_has
  have b_Table_has := F_Table_has.binds (ps := ["self", "column"]) fun _ _ _ _ _ _ us hl => match us, hl with | [_, _], _ => rfl
  have F_Table_give := fun_mk (st := s_Table_give) l_Table_give c_Table_give k_Table_give
  have b_Table_give := F_Table_give.binds (ps := ["self", "column", "values"]) fun _ _ _ _ _ _ us hl => match us, hl with | [_, _, _], _ => rfl
  have F_Table_look_at := fun_mk (st := s_Table_look_at) l_Table_look_at c_Table_look_at k_Table_look_at
  have b_Table_look_at := F_Table_look_at.binds (ps := ["self", "column"]) fun _ _ _ _ _ _ us hl => match us, hl with | [_, _], _ => rfl
  have F_Table_look_at_place := fun_mk (st := s_Table_look_at_place) l_Table_look_at_place c_Table_look_at_place k_Table_look_at_place
  have b_Table_look_at_place := F_Table_look_at_place.binds (ps := ["self", "place", "many"]) fun _ _ _ _ _ _ us hl => match us, hl with | [_, _, _], _ => rfl
  have F_Table_put := fun_mk (st := s_Table_put) l_Table_put c_Table_put k_Table_put
  have b_Table_put := F_Table_put.binds (ps := ["self", "column", "place", "value"]) fun _ _ _ _ _ _ us hl => match us, hl with | [_, _, _, _], _ => rfl
  have F_Table_at := fun_mk (st := s_Table_at) l_Table_at c_Table_at k_Table_at
  have b_Table_at := F_Table_at.binds (ps := ["self", "column", "place"]) fun _ _ _ _ _ _ us hl => match us, hl with | [_, _, _], _ => rfl
  have F_Table_are_all := fun_mk (st := s_Table_are_all) l_Table_are_all c_Table_are_all k_Table_are_all
  have b_Table_are_all := F_Table_are_all.binds (ps := ["self", "values"]) fun _ _ _ _ _ _ us hl => match us, hl with | [_, _], _ => rfl
  have F_Table_put_in := fun_mk (st := s_Table_put_in) l_Table_put_in c_Table_put_in k_Table_put_in
  have b_Table_put_in := F_Table_put_in.binds (ps := ["self", "place", "values"]) fun _ _ _ _ _ _ us hl => match us, hl with | [_, _, _], _ => rfl
  have F_Table_take_out := fun_mk (st := s_Table_take_out) l_Table_take_out c_Table_take_out k_Table_take_out
  have b_Table_take_out := F_Table_take_out.binds (ps := ["self", "place"]) fun _ _ _ _ _ _ us hl => match us, hl with | [_, _], _ => rfl
  have F_law_cell := fun_mk (st := s_law_cell) l_law_cell c_law_cell k_law_cell
  have b_law_cell := F_law_cell.binds (ps := ["script", "k"]) fun _ _ _ _ _ _ us hl => match us, hl with | [_, _], _ => rfl
  have F_law_value := fun_mk (st := s_law_value) l_law_value c_law_value k_law_value
  have b_law_value := F_law_value.binds (ps := ["cell"]) fun _ _ _ _ _ _ us hl => match us, hl with | [_], _ => rfl
  have F_law_numbers := fun_mk (st := s_law_numbers) l_law_numbers c_law_numbers k_law_numbers
  have b_law_numbers := F_law_numbers.binds (ps := ["found", "due"]) fun _ _ _ _ _ _ us hl => match us, hl with | [_, _], _ => rfl
  have F_law_stands := fun_mk (st := s_law_stands) l_law_stands c_law_stands k_law_stands
  have b_law_stands := F_law_stands.binds (ps := ["table", "names", "rows"]) fun _ _ _ _ _ _ us hl => match us, hl with | [_, _, _], _ => rfl
  have F_law_put_in := fun_mk (st := s_law_put_in) l_law_put_in c_law_put_in k_law_put_in
  have b_law_put_in := F_law_put_in.binds (ps := ["table", "rows", "names", "at", "script", "k"]) fun _ _ _ _ _ _ us hl => match us, hl with | [_, _, _, _, _, _], _ => rfl
  have F_law := fun_mk (st := s_law) l_law c_law k_law
  have b_law := F_law.binds (ps := ["script"]) fun _ _ _ _ _ _ us hl => match us, hl with | [_], _ => rfl
  refine ⟨PySem.W.fnOf "law" "law" (defArgs s_law) (defBody s_law) (defScope s_law) .none kV_law dc_law pm_law an_law cd_law ct_law, fun s v => .of_eq rfl, fun base _ _ => ?_⟩
  have G_is_whole := cal_is_whole (P := l.prog) (w := w) (base := base) T  F_is_whole (PySem.W.mg_of X G a_is_whole) b_is_whole
  have G_is_name := cal_is_name (P := l.prog) (w := w) (base := base) T  F_is_name (PySem.W.mg_of X G a_is_name) b_is_name
  have G_is_fault := cal_is_fault (P := l.prog) (w := w) (base := base) T G_is_name F_is_fault (PySem.W.mg_of X G a_is_fault) b_is_fault
  have G_is_number := cal_is_number (P := l.prog) (w := w) (base := base) T G_is_whole F_is_number (PySem.W.mg_of X G a_is_number) b_is_number
  have G_is_value := cal_is_value (P := l.prog) (w := w) (base := base) T G_is_number G_is_fault F_is_value (PySem.W.mg_of X G a_is_value) b_is_value
  have G_is_below := cal_is_below (P := l.prog) (w := w) (base := base) T G_is_whole F_is_below (PySem.W.mg_of X G a_is_below) b_is_below
  have G_are_values := cal_are_values (P := l.prog) (w := w) (base := base) T G_is_value F_are_values (PySem.W.mg_of X G a_are_values) b_are_values
  have G_Table_init := cal_Table_init (P := l.prog) (w := w) (base := base) T G_is_below F_Table_init ⟨mkk_Table, a_Table_init, i_Table_init, kc_Table⟩ T.g_Table b_Table_init
  have G_Table_many := cal_Table_many (P := l.prog) (w := w) (base := base) T  F_Table_many ⟨a_Table_many, i_Table_many, k_Table_many⟩ b_Table_many
  have G_Table_numbers := cal_Table_numbers (P := l.prog) (w := w) (base := base) T  F_Table_numbers ⟨a_Table_numbers, i_Table_numbers, k_Table_numbers⟩ b_Table_numbers
  have G_Table_columns := cal_Table_columns (P := l.prog) (w := w) (base := base) T  F_Table_columns ⟨a_Table_columns, i_Table_columns, k_Table_columns⟩ b_Table_columns
  have G_Table_has := cal_Table_has (P := l.prog) (w := w) (base := base) T  F_Table_has ⟨a_Table_has, i_Table_has, k_Table_has⟩ b_Table_has
  have G_Table_give := cal_Table_give (P := l.prog) (w := w) (base := base) T G_are_values G_is_name G_Table_has F_Table_give ⟨a_Table_give, i_Table_give, k_Table_give⟩ b_Table_give
  have G_Table_look_at := cal_Table_look_at (P := l.prog) (w := w) (base := base) T G_Table_has F_Table_look_at ⟨a_Table_look_at, i_Table_look_at, k_Table_look_at⟩ b_Table_look_at
  have G_Table_look_at_place := cal_Table_look_at_place (P := l.prog) (w := w) (base := base) T G_is_below F_Table_look_at_place ⟨a_Table_look_at_place, i_Table_look_at_place, k_Table_look_at_place⟩ b_Table_look_at_place
  have G_Table_put := cal_Table_put (P := l.prog) (w := w) (base := base) T G_is_value G_Table_look_at_place G_Table_look_at F_Table_put ⟨a_Table_put, i_Table_put, k_Table_put⟩ b_Table_put
  have G_Table_at := cal_Table_at (P := l.prog) (w := w) (base := base) T G_Table_look_at_place G_Table_look_at F_Table_at ⟨a_Table_at, i_Table_at, k_Table_at⟩ b_Table_at
  have G_Table_are_all := cal_Table_are_all (P := l.prog) (w := w) (base := base) T G_is_value F_Table_are_all ⟨a_Table_are_all, i_Table_are_all, k_Table_are_all⟩ b_Table_are_all
  have G_Table_put_in := cal_Table_put_in (P := l.prog) (w := w) (base := base) T G_Table_are_all G_Table_look_at_place F_Table_put_in ⟨a_Table_put_in, i_Table_put_in, k_Table_put_in⟩ b_Table_put_in
  have G_Table_take_out := cal_Table_take_out (P := l.prog) (w := w) (base := base) T G_Table_look_at_place F_Table_take_out ⟨a_Table_take_out, i_Table_take_out, k_Table_take_out⟩ b_Table_take_out
  have G_law_cell := cal_law_cell (P := l.prog) (w := w) (base := base) T  F_law_cell (PySem.W.mg_of X G a_law_cell) b_law_cell
  have G_law_value := cal_law_value (P := l.prog) (w := w) (base := base) T  F_law_value (PySem.W.mg_of X G a_law_value) b_law_value
  have G_law_numbers := cal_law_numbers (P := l.prog) (w := w) (base := base) T  F_law_numbers (PySem.W.mg_of X G a_law_numbers) b_law_numbers
  have G_law_stands := cal_law_stands (P := l.prog) (w := w) (base := base) T G_law_numbers G_Table_columns G_Table_at G_Table_numbers G_Table_many F_law_stands (PySem.W.mg_of X G a_law_stands) b_law_stands
  have G_law_put_in := cal_law_put_in (P := l.prog) (w := w) (base := base) T G_law_cell G_law_value G_Table_put_in F_law_put_in (PySem.W.mg_of X G a_law_put_in) b_law_put_in
  exact fn_law (P := l.prog) (w := w) (base := base) T G_law_stands G_law_cell G_law_put_in G_law_value G_Table_put G_Table_take_out G_Table_give G_Table_init F_law
theorem walk {l : PySem.W.OpenLaw} {q : Program} {loose : List Str} {XP : (Str → Option Value) → Heap → Prop} {YP : World → Heap → Prop} {d : DefRec} {K : Params → PySem.W.Frag} (hn : l.most = some 63) (hdf : d.params.defaults = [])
    (hY : ∀ (w : World) (h : Heap), YP w h → (K w.params).In h)
    (F : ∀ (w : World) (mg : Str → Option Value) (fa : Addr) (h : Heap), (K w.params).In h → h.Ns mainGlobals mg → mg d.name = some (.ref fa) →
      ∃ fd : FuncData, (∀ (s : Shared) (u : Value), BindsTo s fd ⟨[u], []⟩ [("script", u)]) ∧ ∀ base : Heap, (K w.params).In base → base.Ns mainGlobals mg → FnOk l.prog w (K w.params) mg base (L2.CX l.prog w) 7 fa fd ["script"] (spLaw (K w.params))) :
    PySem.W.WalkO q loose XP YP l.row.toRowW d [] (fun f vs => PySem.call f vs) :=
  L2.walk_of (n := 63) (k := 7) (x := "script") (CX := fun w => L2.CX l.prog w) (sp := fun w => spLaw (K w.params)) hn (by decide) hdf ⟨rfl, by decide, by decide⟩ hY F (fun _ _ a ns hl _ hS => ⟨a, ns, rfl, hS, hl, fun _ => rfl⟩) (fun _ _ _ _ _ z => cx_no z)
end Z
open PySem PySem.W PyProof.Rows
set_option maxRecDepth 100000 in
set_option maxHeartbeats 0 in
theorem PySem.Challenge.cw_lazycols_k07_rows_in_and_out_holds : PySem.Challenge.rw_lazycols_k07_rows_in_and_out.Holds := by
  w_on; o_law; k_head; (case hw => w_witness2)
  k_fill
  refine Z.walk (l := PySem.Challenge.rw_lazycols_k07_rows_in_and_out) rfl rfl (fun w h Y => PySem.W.kIn_of Y) ?F
  case F =>
    intro w mg fa h KX G hmg
    refine' Z.all_mk KX G hmg ?a_ColsError ?a_NoName ?a_NoValue ?a_NoColumn ?a_NoPlace ?a_NoSize ?a_TooMuch ?a_Table ?a_is_whole ?l_is_whole ?c_is_whole ?k_is_whole ?a_is_name ?l_is_name ?c_is_name ?k_is_name ?a_is_fault ?l_is_fault ?c_is_fault ?k_is_fault ?a_is_number ?l_is_number ?c_is_number ?k_is_number ?a_is_value ?l_is_value ?c_is_value ?k_is_value ?a_is_below ?l_is_below ?c_is_below ?k_is_below ?a_are_values ?l_are_values ?c_are_values ?k_are_values ?a_Table_init ?i_Table_init ?mkk_Table ?kc_Table ?l_Table_init ?c_Table_init ?k_Table_init ?a_Table_many ?i_Table_many ?l_Table_many ?c_Table_many ?k_Table_many ?a_Table_numbers ?i_Table_numbers ?l_Table_numbers ?c_Table_numbers ?k_Table_numbers ?a_Table_columns ?i_Table_columns ?l_Table_columns ?c_Table_columns ?k_Table_columns ?a_Table_has ?i_Table_has ?l_Table_has ?c_Table_has ?k_Table_has ?a_Table_give ?i_Table_give ?l_Table_give ?c_Table_give ?k_Table_give ?a_Table_look_at ?i_Table_look_at ?l_Table_look_at ?c_Table_look_at ?k_Table_look_at ?a_Table_look_at_place ?i_Table_look_at_place ?l_Table_look_at_place ?c_Table_look_at_place ?k_Table_look_at_place ?a_Table_put ?i_Table_put ?l_Table_put ?c_Table_put ?k_Table_put ?a_Table_at ?i_Table_at ?l_Table_at ?c_Table_at ?k_Table_at ?a_Table_are_all ?i_Table_are_all ?l_Table_are_all ?c_Table_are_all ?k_Table_are_all ?a_Table_put_in ?i_Table_put_in ?l_Table_put_in ?c_Table_put_in ?k_Table_put_in ?a_Table_take_out ?i_Table_take_out ?l_Table_take_out ?c_Table_take_out ?k_Table_take_out ?a_law_cell ?l_law_cell ?c_law_cell ?k_law_cell ?a_law_value ?l_law_value ?c_law_value ?k_law_value ?a_law_numbers ?l_law_numbers ?c_law_numbers ?k_law_numbers ?a_law_stands ?l_law_stands ?c_law_stands ?k_law_stands ?a_law_put_in ?l_law_put_in ?c_law_put_in ?k_law_put_in ?a_law ?l_law ?c_law ?k_law ?n_abs ?n_all ?n_bool ?n_dict ?n_int ?n_isinstance ?n_len ?n_list ?n_range ?n_str ?n_tuple ?g_LETTERS ?g_MOST_ROWS ?g_MOST_COLUMNS ?pg_Table ?hd_Table ?po_Table ?sa_Table ?na_Table_held ?na_Table_coming ?na_Table_rows_now ?xx_NoColumn ?xk_NoColumn ?xb_NoColumn ?xt_NoColumn ?xx_NoName ?xk_NoName ?xb_NoName ?xt_NoName ?xx_NoPlace ?xk_NoPlace ?xb_NoPlace ?xt_NoPlace ?xx_NoSize ?xk_NoSize ?xb_NoSize ?xt_NoSize ?xx_NoValue ?xk_NoValue ?xb_NoValue ?xt_NoValue ?xx_TooMuch ?xk_TooMuch ?xb_TooMuch ?xt_TooMuch
    (case a_ColsError => k_is)
    (case a_NoName => k_is)
    (case a_NoValue => k_is)
    (case a_NoColumn => k_is)
    (case a_NoPlace => k_is)
    (case a_NoSize => k_is)
    (case a_TooMuch => k_is)
    (case a_Table => k_is)
    (case a_is_whole => k_is)
    (case l_is_whole => k_is)
    (case c_is_whole => k_is)
    (case k_is_whole => k_is)
    (case a_is_name => k_is)
    (case l_is_name => k_is)
    (case c_is_name => k_is)
    (case k_is_name => k_is)
    (case a_is_fault => k_is)
    (case l_is_fault => k_is)
    (case c_is_fault => k_is)
    (case k_is_fault => k_is)
    (case a_is_number => k_is)
    (case l_is_number => k_is)
    (case c_is_number => k_is)
    (case k_is_number => k_is)
    (case a_is_value => k_is)
    (case l_is_value => k_is)
    (case c_is_value => k_is)
    (case k_is_value => k_is)
    (case a_is_below => k_is)
    (case l_is_below => k_is)
    (case c_is_below => k_is)
    (case k_is_below => k_is)
    (case a_are_values => k_is)
    (case l_are_values => k_is)
    (case c_are_values => k_is)
    (case k_are_values => k_is)
    (case a_Table_init => k_is)
    (case i_Table_init => k_is)
    (case mkk_Table => k_is)
    (case kc_Table => k_is)
    (case l_Table_init => k_is)
    (case c_Table_init => k_is)
    (case k_Table_init => k_is)
    (case a_Table_many => k_is)
    (case i_Table_many => k_is)
    (case l_Table_many => k_is)
    (case c_Table_many => k_is)
    (case k_Table_many => k_is)
    (case a_Table_numbers => k_is)
    (case i_Table_numbers => k_is)
    (case l_Table_numbers => k_is)
    (case c_Table_numbers => k_is)
    (case k_Table_numbers => k_is)
    (case a_Table_columns => k_is)
    (case i_Table_columns => k_is)
    (case l_Table_columns => k_is)
    (case c_Table_columns => k_is)
    (case k_Table_columns => k_is)
    (case a_Table_has => k_is)
    (case i_Table_has => k_is)
    (case l_Table_has => k_is)
    (case c_Table_has => k_is)
    (case k_Table_has => k_is)
    (case a_Table_give => k_is)
    (case i_Table_give => k_is)
    (case l_Table_give => k_is)
    (case c_Table_give => k_is)
    (case k_Table_give => k_is)
    (case a_Table_look_at => k_is)
    (case i_Table_look_at => k_is)
    (case l_Table_look_at => k_is)
    (case c_Table_look_at => k_is)
    (case k_Table_look_at => k_is)
    (case a_Table_look_at_place => k_is)
    (case i_Table_look_at_place => k_is)
    (case l_Table_look_at_place => k_is)
    (case c_Table_look_at_place => k_is)
    (case k_Table_look_at_place => k_is)
    (case a_Table_put => k_is)
    (case i_Table_put => k_is)
    (case l_Table_put => k_is)
    (case c_Table_put => k_is)
    (case k_Table_put => k_is)
    (case a_Table_at => k_is)
    (case i_Table_at => k_is)
    (case l_Table_at => k_is)
    (case c_Table_at => k_is)
    (case k_Table_at => k_is)
    (case a_Table_are_all => k_is)
    (case i_Table_are_all => k_is)
    (case l_Table_are_all => k_is)
    (case c_Table_are_all => k_is)
    (case k_Table_are_all => k_is)
    (case a_Table_put_in => k_is)
    (case i_Table_put_in => k_is)
    (case l_Table_put_in => k_is)
    (case c_Table_put_in => k_is)
    (case k_Table_put_in => k_is)
    (case a_Table_take_out => k_is)
    (case i_Table_take_out => k_is)
    (case l_Table_take_out => k_is)
    (case c_Table_take_out => k_is)
    (case k_Table_take_out => k_is)
    (case a_law_cell => k_is)
    (case l_law_cell => k_is)
    (case c_law_cell => k_is)
    (case k_law_cell => k_is)
    (case a_law_value => k_is)
    (case l_law_value => k_is)
    (case c_law_value => k_is)
    (case k_law_value => k_is)
    (case a_law_numbers => k_is)
    (case l_law_numbers => k_is)
    (case c_law_numbers => k_is)
    (case k_law_numbers => k_is)
    (case a_law_stands => k_is)
    (case l_law_stands => k_is)
    (case c_law_stands => k_is)
    (case k_law_stands => k_is)
    (case a_law_put_in => k_is)
    (case l_law_put_in => k_is)
    (case c_law_put_in => k_is)
    (case k_law_put_in => k_is)
    (case a_law => k_is)
    (case l_law => k_is)
    (case c_law => k_is)
    (case k_law => k_is)
    (case n_abs => k_is)
    (case n_all => k_is)
    (case n_bool => k_is)
    (case n_dict => k_is)
    (case n_int => k_is)
    (case n_isinstance => k_is)
    (case n_len => k_is)
    (case n_list => k_is)
    (case n_range => k_is)
    (case n_str => k_is)
    (case n_tuple => k_is)
    (case g_LETTERS => k_is)
    (case g_MOST_ROWS => k_is)
    (case g_MOST_COLUMNS => k_is)
    (case pg_Table => k_is)
    (case hd_Table => k_is)
    (case po_Table => k_is)
    (case sa_Table => k_is)
    (case na_Table_held => k_is)
    (case na_Table_coming => k_is)
    (case na_Table_rows_now => k_is)
    (case xx_NoColumn => k_exc)
    (case xk_NoColumn => k_is)
    (case xb_NoColumn => k_is)
    (case xt_NoColumn => k_is)
    (case xx_NoName => k_exc)
    (case xk_NoName => k_is)
    (case xb_NoName => k_is)
    (case xt_NoName => k_is)
    (case xx_NoPlace => k_exc)
    (case xk_NoPlace => k_is)
    (case xb_NoPlace => k_is)
    (case xt_NoPlace => k_is)
    (case xx_NoSize => k_exc)
    (case xk_NoSize => k_is)
    (case xb_NoSize => k_is)
    (case xt_NoSize => k_is)
    (case xx_NoValue => k_exc)
    (case xk_NoValue => k_is)
    (case xb_NoValue => k_is)
    (case xt_NoValue => k_is)
    (case xx_TooMuch => k_exc)
    (case xk_TooMuch => k_is)
    (case xb_TooMuch => k_is)
    (case xt_TooMuch => k_is)
