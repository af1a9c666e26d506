import PyProof.Rows.All
import Wide.All
import OpenK.AllK
import Wide.FinOn
import HandS.ForMost
import HandS.ForExc
import HandS.Style
import HandS.IsInst
import HandS.Evl
import HandS.More
import HandS.Deep
import HandS.Wide
import HandS.Conv
import HandS.TupLen
import HandS.Text
import HandS.WordsExc
import HandS.WordsDict
import HandS.Codes
import PyProof.StrBlock2
import HandS.SortInts
import HandS.ExcIs
import HandS.Lambda
import HandS.Nested
import HandS.Replace
import KE.KNestM
import KE.KLam
import HandS.EndTab
import PySem.Challenge.RW_lazycols_k19_whole_looks_where_it_leans
set_option Elab.async false
set_option linter.all false
set_option autoImplicit false
set_option maxRecDepth 100000
set_option maxHeartbeats 4000000
namespace Z
open PySem PySem.Spec PyProof.Rows L2 Evl

/-! ### one rule for each operator, whatever the kinds -/
def rSubA : R2 := rI0 fun i j => .int (i - j)
def rLtA : R2 := rI0 fun i j => .bl (decide (i < j))
def rLeA : R2 := rI0 fun i j => .bl (decide (i ≤ j))
def rGtA : R2 := rI0 fun i j => .bl (decide (j < i))
def rGeA : R2 := rI0 fun i j => .bl (decide (j ≤ i))
def rModA : R2 := rI (fun _ j => j ≠ 0) fun i j => .int (i.fmod j)
def rPowA : R2 := rI CPow fun i j => .int (i ^ j.toNat)
def rNegA : V → Hp → VK → Prop := rU fun i => .int (-i)
def rAddI : R2 := rI0 fun i j => .int (i + j)
def rAddS : R2 := fun x y H Q => ∃ i j, x = .str i ∧ y = .str j ∧ i.length + j.length ≤ sizeLine ∧ Q (.str (i ++ j)) H
def rAddA (K : PySem.W.Frag) : R2 := fun x y H Q => rAddI x y H Q ∨ rAddS x y H Q ∨ rCat x y H Q ∨ rCatT K x y H Q
/-- a text n times -/
def repS (a : Str) (n : Int) : Str := SX.S (List.replicate n.toNat a.cps.toList).flatten
def rRepS : R2 := fun x y H Q => ∃ (a : Str) (n : Int), x = .str a ∧ y = .int n ∧ a.length ≤ 4000 ∧ -1000 ≤ n ∧ n ≤ 4000 ∧ Q (.str (repS a n)) H
def rMulA (K : PySem.W.Frag) : R2 := fun x y H Q => rI CMulW (fun i j => .int (i * j)) x y H Q ∨ rRep x y H Q ∨ rRepS x y H Q
def rDivA : R2 := fun x y H Q => rI CDivN (fun i j => .int (i.fdiv j)) x y H Q ∨ rI CDivW (fun i j => .int (i / j)) x y H Q
/-- two dicts: of unlike sizes, or with the same things at the same keys -/
def sameV (x : V) : Prop := flatB x = true ∨ ∃ a, x = .ref a
def rEqKn (neg : Bool) : R2 := fun x y H Q => ∃ a b ks ls, x = .ref a ∧ y = .ref b ∧ H a = some (.dK ks) ∧ H b = some (.dK ls) ∧ (ks.length = ls.length → ∀ p ∈ ks, valV ls p.1 = some p.2 ∧ sameV p.2) ∧ Q (.bl (if neg then !decide (ks.length = ls.length) else decide (ks.length = ls.length))) H
/-- a list and an empty list -/
def rEqLn (neg : Bool) : R2 := fun x y H Q => ∃ a b xs, x = .ref a ∧ y = .ref b ∧ H a = some (.lst xs) ∧ H b = some (.lst []) ∧ Q (.bl (if neg then !decide (xs.length = 0) else decide (xs.length = 0))) H
def rEqA (K : PySem.W.Frag) : R2 := fun x y H Q => rEq x y H Q ∨ rEqD K x y H Q ∨ rEqKn false x y H Q ∨ rEqLn false x y H Q
def rNeA (K : PySem.W.Frag) : R2 := fun x y H Q => rNe x y H Q ∨ rNeD K x y H Q ∨ rEqKn true x y H Q ∨ rEqLn true x y H Q
def rInDict (neg : Bool) : R2 := fun x y H Q => ∃ a o, y = .ref a ∧ DGet H a x o ∧ Q (.bl (if neg then !o.isSome else o.isSome)) H
def rInStr (neg : Bool) : R2 := fun x y H Q => ∃ (c : Nat) (z : Str), x = .str ⟨#[c]⟩ ∧ y = .str z ∧ Q (.bl (if neg then !decide (c ∈ z.cps.toList) else decide (c ∈ z.cps.toList))) H
def rInA (K : PySem.W.Frag) : R2 := fun x y H Q => rInStr false x y H Q ∨ rInDict false x y H Q ∨ rIn K false x y H Q ∨ rInD K x y H Q
def rNinA (K : PySem.W.Frag) : R2 := fun x y H Q => rInStr true x y H Q ∨ rInDict true x y H Q ∨ rIn K true x y H Q ∨ rNotInD K x y H Q
def rIsA : R2 := fun x y H Q => (y = .non ∧ Q (.bl (decide (x = .non))) H) ∨ rIsB x y H Q
def rIsnA : R2 := fun x y H Q => (y = .non ∧ Q (.bl (!decide (x = .non))) H) ∨ rNotB x y H Q
def rIxD : R2 := fun x y H Q => ∃ a v, x = .ref a ∧ DGet H a y (some v) ∧ Q v H
def rIxA (K : PySem.W.Frag) : R2 := fun x y H Q => rIx K x y H Q ∨ rIxD x y H Q
def rSetA : V → V → V → Hp → (Hp → Prop) → Prop := fun o i v H Q => rSetL o i v H Q ∨ ∃ a H', o = .ref a ∧ DPut H a i v H' ∧ Q H'
def rSlS : V → Option Int → Option Int → Hp → VK → Prop := fun x lo hi H Q => ∃ z, x = .str z ∧ z.length ≤ sizeLine ∧ Q (.str (cutS z lo hi)) H
def rSlA (K : PySem.W.Frag) : V → Option Int → Option Int → Hp → VK → Prop := fun x lo hi H Q => rSlL K x lo hi H Q ∨ rSlT K x lo hi H Q ∨ rSlS x lo hi H Q
def rLenD : List V → Hp → VK → Prop := fun xs H Q => ∃ a kvs, xs = [V.ref a] ∧ H a = some (.dK kvs) ∧ Q (.int kvs.length) H
def rLenA (K : PySem.W.Frag) : List V → Hp → VK → Prop := fun xs H Q => rLen K xs H Q ∨ rLenD xs H Q ∨ rLenT xs H Q
def rAbsA : List V → Hp → VK → Prop := fun xs H Q => ∃ i, xs = [V.int i] ∧ Q (.int (if i < 0 then -i else i)) H
def rStrA : List V → Hp → VK → Prop := fun xs H Q => ∃ i : Int, xs = [V.int i] ∧ i.natAbs.log2 < 1920 ∧ Q (.str (toString i)) H
def rIsiA (K : PySem.W.Frag) : List V → Hp → VK → Prop := fun xs H Q => rIsi K xs H Q ∨ rIsiT K xs H Q
def rListA (K : PySem.W.Frag) : List V → Hp → VK → Prop := fun xs H Q => (∃ p ys, xs = [V.ref p] ∧ (SqL K H p ys ∨ SqT K H p ys) ∧ ∀ l, H l = none → Q (.ref l) (upd H l (.lst ys))) ∨
  ∃ (a : Addr) (kvs : List (Key × V)), xs = [V.ref a] ∧ Rd H a (.dK kvs) ∧ ∀ p, H p = none → Q (.ref p) (upd H p (.lst (kvs.map fun kv => kV kv.1)))
def rDictA : List V → Hp → VK → Prop := fun xs H Q => ∃ (a : Addr) (kvs : List (Key × V)), xs = [V.ref a] ∧ Rd H a (.dK kvs) ∧ ∀ p, H p = none → Q (.ref p) (upd H p (.dK kvs))
def rInsA : V → List V → Hp → VK → Prop := fun x vs H Q => ∃ (l : Addr) (xs : List V) (i : Int) (y : V), x = .ref l ∧ vs = [.int i, y] ∧ H l = some (.lst xs) ∧ xs.length < sizeLine ∧ 0 ≤ i ∧ i < 2 ^ 63 ∧ Q .non (upd H l (.lst (xs.take i.toNat ++ [y] ++ xs.drop i.toNat)))
def rIntA : List V → Hp → VK → Prop := fun xs H Q => (∃ i, xs = [V.int i] ∧ Q (.int i) H) ∨ (∃ k, xs = [V.bl k] ∧ Q (.int (if k then 1 else 0)) H) ∨ ∃ a n, xs = [V.str a] ∧ PySem.intText? a = some n ∧ a.length ≤ 640 ∧ Q (.int n) H
section
variable {X : Cx}
theorem op_addA : OpR X (binaryOp .Add) (rAddA X.K) := op_add.or (op_add_str.or (op_cat.or op_catT))
theorem foldl_cps (l : List (Array Nat)) (acc : Array Nat) : (l.foldl (· ++ ·) acc).toList = acc.toList ++ (l.map (·.toList)).flatten := by
  induction l generalizing acc with
  | nil => simp
  | cons a r ih => rw [List.foldl_cons, ih, Array.toList_append, List.map_cons, List.flatten_cons, List.append_assoc]
theorem mul_repS (a : Str) (n : Int) : Txt.mul a n = repS a n := by
  have g : ∀ x y : Str, x.cps.toList = y.cps.toList → x = y := fun x y h => by
    obtain ⟨⟨x⟩⟩ := x
    obtain ⟨⟨y⟩⟩ := y
    have h : x = y := h
    rw [h]
  refine g _ _ ?_
  unfold Txt.mul repS
  by_cases h1 : n < 1
  · rw [if_pos h1, show n.toNat = 0 by omega]
    rfl
  · rw [if_neg h1]
    by_cases h2 : (n == 1 || a.length == 0) = true
    · rw [if_pos h2]
      rcases Bool.or_eq_true_iff.mp h2 with h | h
      · have h : n = 1 := by simpa using h
        subst h
        simp
      · have h : a.length = 0 := by simpa using h
        have e : a.cps.toList = [] := by
          have h : a.cps.size = 0 := h
          have : a.cps.toList.length = 0 := by simpa using h
          exact List.eq_nil_of_length_eq_zero this
        rw [e]
        simp
    · rw [if_neg h2]
      show (List.foldl (· ++ ·) #[] (List.replicate n.toNat a.cps)).toList = _
      rw [foldl_cps, List.map_replicate]
      simp
theorem op_repS : OpR X (binaryOp .Mult) rRepS := by
  intro pins s σ H x y v u Q I rx ry h
  obtain ⟨a, n, rfl, rfl, ha, hn, hm, q⟩ := h
  obtain ⟨t, rfl⟩ := rx
  obtain ⟨t', rfl⟩ := ry
  have hb : a.length * n.toNat ≤ 16000000 := Nat.le_trans (Nat.mul_le_mul ha (show n.toNat ≤ 4000 by omega)) (by decide)
  refine SB.mul ⟨?_, fun h1 _ => ?_, fun _ _ => ?_⟩ fun t2 k => ⟨.str (repS a n), H, I.tok k, ⟨t2, by rw [mul_repS]⟩, q⟩
  · rw [decide_eq_false (by omega), decide_eq_false (by omega)]
    rfl
  · have h2 : (9223372036854775807 : Int) / 4000 ≤ 9223372036854775807 / n := by
      refine (Int.le_ediv_iff_mul_le (by omega)).mpr ?_
      omega
    have h3 : (2 ^ 63 - 1 : Int) = 9223372036854775807 := rfl
    rw [h3]
    omega
  · unfold Builtin.Str.tooLong
    refine decide_eq_false ?_
    have : sizeLine = 16777216 := sizeLine_eq
    omega
theorem op_mulA : OpR X (binaryOp .Mult) (rMulA X.K) := op_mulW.or (op_rep.or op_repS)
theorem op_fdivA : OpR X (binaryOp .FloorDiv) rDivA := op_fdivN.or op_fdivW
theorem K_sq {K : PySem.W.Frag} {H : Hp} {a : Addr} {xs : List V} (h : H a = some (.lst xs)) : SqL K H a xs := sq_of h
theorem hits_same {A : Around} {s : Shared} {kvs : List (Key × V)} {vb : List (Key × Value)} (rb : KV kvs vb) {ks : List (Key × V)} {va : List (Key × Value)} (ra : KV ks va) :
    (∀ p ∈ ks, valV kvs p.1 = some p.2 ∧ sameV p.2) → PySem.W.KeqHits A s vb va true := by
  unfold KV at ra
  induction ra with
  | nil => intro _; exact .nil
  | @cons p q ps qs h t ih =>
    intro hp
    obtain ⟨h1, h2⟩ := h
    obtain ⟨e, f⟩ := hp p List.mem_cons_self
    have rr : RelO (some p.2) (valueAt vb p.1) := by rw [← e]; exact rb.val p.1
    obtain ⟨y, hy, ry⟩ := rr.some_of
    obtain ⟨k, v⟩ := q
    have h1' : p.1 = k := h1
    rw [h1'] at hy
    show PySem.W.KeqHits A s vb ((k, v) :: qs) (true && true)
    refine .hit hy ?_ (ih fun p' hm => hp p' (List.mem_cons_of_mem _ hm))
    rcases f with f | ⟨a, ea⟩
    · exact eqAt_same h2 ry f
    · have h2 : RelV p.2 v := h2
      rw [ea] at h2 ry
      cases (show v = Value.ref a from h2)
      cases (show y = Value.ref a from ry)
      exact SeqAt.EqAt.same _
theorem op_eqKn (hu : X.A.units < cLine) : OpR X (compareOp .Eq) (rEqKn false) := by
  intro pins s σ H x y v u Q I rx ry h
  obtain ⟨a, b, ks, ls, rfl, rfl, ea, eb, hp, q⟩ := h
  obtain rfl : v = Value.ref a := rx
  obtain rfl : u = Value.ref b := ry
  obtain ⟨_, ya, va, ra, da⟩ := (show ObjOk X.prog X.w H s.heap a (.dK ks) from I.hok a _ ea)
  obtain ⟨_, yb, vb, rb, db⟩ := (show ObjOk X.prog X.w H s.heap b (.dK ls) from I.hok b _ eb)
  have la : ks.length = va.length := ra.length
  have lb : ls.length = vb.length := rb.length
  exact PySem.W.keq_eq (knd := mixKind X.prog X.w) (r := true) ya yb da db hu (fun e => hits_same rb ra (hp (by omega))) (fin_bl I q (by rw [la, lb]; simp only [Bool.and_true, Bool.false_eq_true, if_false, if_true]; rfl))
theorem op_neKn (hu : X.A.units < cLine) : OpR X (compareOp .NotEq) (rEqKn true) := by
  intro pins s σ H x y v u Q I rx ry h
  obtain ⟨a, b, ks, ls, rfl, rfl, ea, eb, hp, q⟩ := h
  obtain rfl : v = Value.ref a := rx
  obtain rfl : u = Value.ref b := ry
  obtain ⟨_, ya, va, ra, da⟩ := (show ObjOk X.prog X.w H s.heap a (.dK ks) from I.hok a _ ea)
  obtain ⟨_, yb, vb, rb, db⟩ := (show ObjOk X.prog X.w H s.heap b (.dK ls) from I.hok b _ eb)
  have la : ks.length = va.length := ra.length
  have lb : ls.length = vb.length := rb.length
  exact PySem.W.keq_ne (knd := mixKind X.prog X.w) (r := true) ya yb da db hu (fun e => hits_same rb ra (hp (by omega))) (fin_bl I q (by rw [la, lb]; simp only [Bool.and_true, Bool.false_eq_true, if_false, if_true]; rfl))
theorem op_eqLn (hu : X.A.units < cLine) : OpR X (compareOp .Eq) (rEqLn false) := by
  intro pins s σ H x y v u Q I rx ry h
  obtain ⟨a, b, xs, rfl, rfl, ha, hb, q⟩ := h
  obtain rfl : v = Value.ref a := rx
  obtain rfl : u = Value.ref b := ry
  obtain ⟨us, r1, p1, _⟩ := I.list (K_sq ha)
  obtain ⟨ws, r2, p2, _⟩ := I.list (K_sq hb)
  have l1 := r1.length
  have l2 := r2.length
  rw [List.length_nil] at l2
  by_cases hz : xs.length = 0
  · have hsz : us.toArray.size = ws.toArray.size := by rw [List.size_toArray, List.size_toArray]; omega
    refine SeqAt.RcAt.lists (e := fun _ => true) p1.isList p2.isList hsz hu (fun j h1 _ => absurd h1 (by rw [List.size_toArray]; omega)) _ _ _ _ ⟨.bl true, H, I, ?_, ?_⟩
    · show Value.bool ((List.range us.toArray.size).all fun _ => true) = Value.bool true
      congr 1
      exact List.all_eq_true.mpr fun _ _ => rfl
    · rw [show (if false = true then !decide (xs.length = 0) else decide (xs.length = 0)) = true from decide_eq_true hz] at q
      exact q
  · refine SeqAt.RcAt.lists_lengths p1.isList p2.isList (by rw [List.size_toArray, List.size_toArray, ← l2, ← l1]; simpa using hz) hu _ _ _ _ ⟨.bl false, H, I, rfl, ?_⟩
    rw [show (if false = true then !decide (xs.length = 0) else decide (xs.length = 0)) = false from decide_eq_false hz] at q
    exact q
theorem op_neLn (hu : X.A.units < cLine) : OpR X (compareOp .NotEq) (rEqLn true) := by
  intro pins s σ H x y v u Q I rx ry h
  obtain ⟨a, b, xs, rfl, rfl, ha, hb, q⟩ := h
  obtain rfl : v = Value.ref a := rx
  obtain rfl : u = Value.ref b := ry
  obtain ⟨us, r1, p1, _⟩ := I.list (K_sq ha)
  obtain ⟨ws, r2, p2, _⟩ := I.list (K_sq hb)
  have l1 := r1.length
  have l2 := r2.length
  rw [List.length_nil] at l2
  by_cases hz : xs.length = 0
  · have hsz : us.toArray.size = ws.toArray.size := by rw [List.size_toArray, List.size_toArray]; omega
    refine SeqAt.RcNeAt.lists (e := fun _ => true) p1.isList p2.isList hsz hu (fun j h1 _ => absurd h1 (by rw [List.size_toArray]; omega)) _ _ _ _ ⟨.bl false, H, I, ?_, ?_⟩
    · show Value.bool (!(List.range us.toArray.size).all fun _ => true) = Value.bool false
      congr 1
      rw [show ((List.range us.toArray.size).all fun _ => true) = true from List.all_eq_true.mpr fun _ _ => rfl]
      rfl
    · rw [show (if true = true then !decide (xs.length = 0) else decide (xs.length = 0)) = false from by rw [if_pos rfl, decide_eq_true hz]; rfl] at q
      exact q
  · refine SeqAt.RcNeAt.lists_lengths p1.isList p2.isList (by rw [List.size_toArray, List.size_toArray, ← l2, ← l1]; simpa using hz) hu _ _ _ _ ⟨.bl true, H, I, rfl, ?_⟩
    rw [show (if true = true then !decide (xs.length = 0) else decide (xs.length = 0)) = true from by rw [if_pos rfl, decide_eq_false hz]; rfl] at q
    exact q
theorem op_eqA (hu : X.A.units + 65 < cLine) : OpR X (compareOp .Eq) (rEqA X.K) := op_eq.or ((op_eqD (by omega)).or ((op_eqKn (by omega)).or (op_eqLn (by omega))))
theorem op_neA (hu : X.A.units + 65 < cLine) : OpR X (compareOp .NotEq) (rNeA X.K) := op_ne.or ((op_neD (by omega)).or ((op_neKn (by omega)).or (op_neLn (by omega))))
theorem op_inDict (hu : X.A.units + 65 < cLine) : OpR X (compareOp .In) (rInDict false) := by
  intro pins s σ H x y v u Q I rx ry h
  obtain ⟨a, o, rfl, g, q⟩ := h
  cases ry
  exact d_in (by omega) I g rx fun s' I' => ⟨.bl o.isSome, H, I', rfl, q⟩
theorem op_ninDict (hu : X.A.units + 65 < cLine) : OpR X (compareOp .NotIn) (rInDict true) := by
  intro pins s σ H x y v u Q I rx ry h
  obtain ⟨a, o, rfl, g, q⟩ := h
  cases ry
  exact d_notIn (by omega) I g rx fun s' I' => ⟨.bl (!o.isSome), H, I', rfl, q⟩
theorem op_inStr : OpR X (compareOp .In) (rInStr false) := op_in_sign
theorem op_ninStr : OpR X (compareOp .NotIn) (rInStr true) := op_notIn_sign
theorem op_inA (hu : X.A.units + 65 < cLine) : OpR X (compareOp .In) (rInA X.K) := op_inStr.or ((op_inDict hu).or (op_in_seq.or (op_inD hu)))
theorem op_ninA (hu : X.A.units + 65 < cLine) : OpR X (compareOp .NotIn) (rNinA X.K) := op_ninStr.or ((op_ninDict hu).or (op_notIn_seq.or (op_notInD hu)))
theorem op_isA : OpR X (compareOp .Is) rIsA := op_isN.or op_isBl
theorem op_isnA : OpR X (compareOp .IsNot) rIsnA := op_notN.or op_notBl
theorem ix_dict (hu : X.A.units + 65 < cLine) : IxR X rIxD := by
  intro value slice pins s σ H x y v u Q I rx ry h hs
  obtain ⟨a, w, rfl, g, q⟩ := h
  cases rx
  refine tail_any (dict_typeIs I g) PySem.F.slot_dict_getitem.lookup (d_getItem (by omega) I g ry fun w' s' I' r' => ⟨w, H, I', r', q⟩) hs
theorem ix_A (hu : X.A.units + 65 < cLine) : IxR X (rIxA X.K) := ix_seq.or (ix_dict hu)
theorem set_A (hu : X.A.units + 65 < cLine) : PSet X rSetA := by
  intro pins s σ H o i v ov iv u Q I ro ri rv h
  rcases h with h | ⟨a, H', rfl, g, q⟩
  · exact set_list pins s σ H o i v ov iv u Q I ro ri rv h
  · cases ro
    exact d_setItem (by omega) I g ri rv fun s' I' => ⟨H', I', q⟩
theorem sl_A : SlR X (rSlA X.K) := sl_list.or (sl_tup.or sl_str)
theorem call_lenA : CallR X (.builtin "len") (rLenA X.K) := call_len.or (call_lenD.or call_len_dT)
theorem call_isiA : CallR X (.builtin "isinstance") (rIsiA X.K) := call_isi.or call_isiT
theorem call_listA (hc : X.calm = true) : CallR X (.type "list") (rListA X.K) := call_list_of.or (call_listD hc)
theorem call_dictA (hc : X.calm = true) : CallR X (.type "dict") rDictA := call_dictD
theorem call_intA : CallR X (.type "int") rIntA := by
  intro pins s σ H xs us Q I r h
  rcases h with h | h | h
  · exact call_int1 pins s σ H xs us Q I r (.inl h)
  · exact call_int1 pins s σ H xs us Q I r (.inr h)
  · exact call_int_str pins s σ H xs us Q I r h
end
/-! ### built-in types of values -/
def tyO : Option HO → Option String
  | some (.lst _) => some "list"
  | some (.tup _) => some "tuple"
  | some (.dK _) => some "dict"
  | some (.dT _) => some "dict"
  | some (.frz _ (.lst _)) => some "list"
  | _ => none
def tyN (H : Hp) : V → Option String
  | .non => some "NoneType"
  | .bl _ => some "bool"
  | .int _ => some "int"
  | .str _ => some "str"
  | .ref a => tyO (H a)
  | _ => none
def kinds : List String := ["NoneType", "bool", "int", "str", "list", "tuple", "dict"]
def asked : List String := ["bool", "int", "str", "list", "tuple", "dict"]
def isiB (n c : String) : Bool := n == c || (n == "bool" && c == "int")
theorem tyN_ex {H H' : Hp} {x : V} {n : String} (e : Ex H H') (h : tyN H x = some n) : tyN H' x = some n := by
  cases x with
  | ref a =>
    have h : tyO (H a) = some n := h
    show tyO (H' a) = some n
    cases q : H a with
    | none => rw [q] at h; cases h
    | some o => rw [e a o q, ← q]; exact h
  | _ => exact h
theorem tyX_of {K : PySem.W.Frag} {H : Hp} {x : V} {n : String} (h : tyN H x = some n) : TyX K H x (.type n) := by
  cases x with
  | non => cases h; exact .base .non
  | bl b => cases h; exact .base (.bl b)
  | int i => cases h; exact .base (.int i)
  | str z => cases h; exact .base (.str z)
  | ref a =>
    have h : tyO (H a) = some n := h
    cases q : H a with
    | none => rw [q] at h; cases h
    | some o =>
      rw [q] at h
      unfold tyO at h
      split at h
      · rename_i w; cases w; cases h; exact .base (.lst q)
      · rename_i w; cases w; cases h; exact .base (.tup q)
      · rename_i w; cases w; cases h; exact .base (.dK q)
      · rename_i w; cases w; cases h; exact .base (.dT q)
      · rename_i w; cases w; cases h; exact .base (.frz q)
      · cases h
  | _ => cases h
theorem tyO_mem {o : Option HO} {n : String} (h : tyO o = some n) : n ∈ kinds := by
  unfold tyO at h
  split at h <;> first | (cases h; decide) | cases h
theorem tyN_mem {H : Hp} {x : V} {n : String} (h : tyN H x = some n) : n ∈ kinds := by
  cases x with
  | ref a => exact tyO_mem h
  | _ => first | (cases h; decide) | cases h
theorem kit_all : ∀ n ∈ kinds, ∀ c ∈ asked, kitB n c = some (isiB n c) := by decide +kernel

section
variable {K : PySem.W.Frag} {σ : L2.St} {H H' : Hp} {ta tb te tx : TE} {t u : TT} {x y z v : V} {r r' : R2}
theorem rc_isi {n c : String} (h : tyN H x = some n) (hc : c ∈ asked := by decide) : RC (rIsiA K) [x, .ty c] H (.bl (isiB n c)) := fun H1 e Q q =>
  .inl ⟨x, .ty c, .type n, .type c, isiB n c, rfl, .ty c, tyX_of (tyN_ex e h), kit_ty (kit_all n (tyN_mem h) c hc), q H1 (Ex.refl H1)⟩
theorem ev_cb {r : List V → Hp → VK → Prop} {ta : TA} {vs : List V} (ha : EvA ta σ H vs) (hr : RC r vs H z) : Ev (tCB r ta) σ H z := fun H1 e Q q =>
  ha H1 e _ fun H2 e2 => hr H2 (e.trans e2) Q fun H3 e3 => q H3 (e2.trans e3)
theorem ev_isi {n c : String} (ha : Ev ta σ H x) (h : tyN H x = some n) (hc : c ∈ asked := by decide) : Ev (tCB (rIsiA K) (tCons ta (tCons (tC (.ty c)) tNil))) σ H (.bl (isiB n c)) :=
  ev_cb (ea_cons ha (ea_cons ev_c ea_nil)) (rc_isi h hc)
/-- a op b op' c -/
theorem ev_chain {k : Bool} {w : V} (ha : Ev ta σ H x) (hb : Ev tb σ H y) (hr : RV r x y H (.bl k)) (h0 : k = false → w = .bl false) (h1 : k = true → ∃ z, Ev tx σ H z ∧ RV r' y z H w) : Ev (tChain r r' ta tb tx) σ H w := fun H1 e Q q =>
  ha H1 e _ fun H2 e2 => hb H2 (e.trans e2) _ fun H3 e3 => hr H3 ((e.trans e2).trans e3) _ fun H4 e4 => ⟨k, rfl, by
    have E4 : Ex H H4 := ((e.trans e2).trans e3).trans e4
    have F4 : Ex H1 H4 := (e2.trans e3).trans e4
    cases k with
    | true =>
      obtain ⟨z, hz, hw⟩ := h1 rfl
      show tx σ H4 _
      exact hz H4 E4 _ fun H5 e5 => hw H5 (E4.trans e5) Q fun H6 e6 => q H6 ((F4.trans e5).trans e6)
    | false =>
      show Q (.bl false) H4
      rw [← h0 rfl]
      exact q H4 F4⟩
/-- two comparisons of ints -/
theorem ev_chainI {g g' : Int → Int → Bool} {i j k : Int} (ha : Ev ta σ H (.int i)) (hb : Ev tb σ H (.int j)) (hc : Ev tx σ H (.int k)) :
    Ev (tChain (rI0 fun a b => .bl (g a b)) (rI0 fun a b => .bl (g' a b)) ta tb tx) σ H (.bl (g i j && g' j k)) :=
  ev_chain (k := g i j) ha hb rv_I0 (fun h => by rw [h]; rfl) fun h => ⟨.int k, hc, by rw [h]; exact rv_I0⟩
theorem rc_lenS {w : Str} (h : w.length ≤ 100000) : RC (rLenA K) [.str w] H (.int w.length) := fun H1 _ _ q => .inl ⟨.str w, w.length, rfl, ⟨sz_of h, rfl⟩, q H1 (Ex.refl H1)⟩
theorem rc_lenL {p : Addr} {xs : List V} (h : SqL K H p xs) : RC (rLenA K) [.ref p] H (.int xs.length) := fun H1 e _ q => .inl ⟨.ref p, xs.length, rfl, .inl ⟨xs, ex_l e h, rfl⟩, q H1 (Ex.refl H1)⟩
theorem rc_lenT {p : Addr} {xs : List V} (h : SqT K H p xs) : RC (rLenA K) [.ref p] H (.int xs.length) := fun H1 e _ q => .inl ⟨.ref p, xs.length, rfl, .inr ⟨xs, ex_t e h, rfl⟩, q H1 (Ex.refl H1)⟩
theorem ev_lenV {n : Nat} (ha : Ev ta σ H x) (hr : RC (rLenA K) [x] H (.int n)) : Ev (tCB (rLenA K) (tCons ta tNil)) σ H (.int n) := ev_cb (ea_cons ha ea_nil) hr
/-- all(..) of a list of truths that is made on the way -/
theorem ev_all {bs : List Bool} (ha : EvL ta σ H (bs.map V.bl)) : Ev (tCB (rAll K) (tCons ta tNil)) σ H (.bl (bs.all id)) := fun H1 e Q q =>
  ha H1 e _ fun p H2 _ e2 h2 => ⟨p, bs, rfl, sq_of h2, q H2 e2⟩
/-- a comprehension over a text -/
theorem el_lcS {a : Str} {tl : TE} {j : Nat} {vs : List Nat} (f : Nat → Bool) (v : Nat → V) (h : Ev tl σ H (.str a)) (hz : a.cps.size ≤ 40000) (hw : ∀ x, wipe ((wipe σ vs).set j (some x)) vs = wipe σ vs)
    (ht : ∀ (i : Nat) (c : Nat) H1, Ex H H1 → a.cps[i]? = some c → EvT t ((wipe σ vs).set j (some (.str ⟨#[c]⟩))) H1 (f i)) (he : ∀ (i : Nat) (c : Nat) H1, Ex H H1 → a.cps[i]? = some c → f i = true → Ev te ((wipe σ vs).set j (some (.str ⟨#[c]⟩))) H1 (v i)) :
    EvL (tLc (iStr tl) (gName j) t te vs) σ H (given a.cps.size f v) := fun H0 e Q q => h H0 e _ fun H1 e1 => ⟨a, rfl, fun Dl hD => by
  refine ⟨fun i m H' => m = a.cps.size - i ∧ i ≤ a.cps.size ∧ Cw H1 f v Dl i H', ⟨a.cps.size, by simp, Nat.zero_le _, hD, Ex.new hD, upd_same⟩, ?_⟩
  rintro i m H' ⟨rfl, hi, p⟩
  by_cases hlt : i < a.cps.size
  · refine .inr ⟨hlt, fun H2 => Cw H1 f v Dl (i + 1) H2, fun H2 p2 => ⟨a.cps.size - (i + 1), by omega, rfl, hlt, p2⟩, ?_⟩
    rintro x2 H2 ⟨rfl, c, hc, rfl⟩
    exact ⟨hw _, cw_turn p (by omega) (ht i c H1 (e.trans e1) hc) (fun hf => he i c H1 (e.trans e1) hc hf)⟩
  · have e0 : i = a.cps.size := by omega
    subst e0
    exact .inl ⟨Nat.le_refl _, q Dl H' (fresh_back e1 p.1) (e1.trans p.2.1) p.2.2⟩⟩
end
end Z

set_option Elab.async false
set_option linter.all false
set_option autoImplicit false
set_option maxRecDepth 100000
set_option maxHeartbeats 4000000
namespace Z
open PySem PySem.Spec PyProof.Rows L2 Evl
/-! ### a def that may be called: its promise, its name, its place -/
structure Cal (P : Program) (w : World) (K : PySem.W.Frag) (mg : Str → Option Value) (base : Heap) (k : Nat) (x : Str) (f : Addr) (ps : List Str) (sp : Sp) : Prop where
  ex : ∃ fd, FnOk P w K mg base (L2.CX P w) k f fd ps sp ∧ Binds K fd ps []
  mg : mg x = some (.ref f)
  kp : PySem.W.keepIn K (.ref f) = true
section
variable {X : Cx} {W : WX} {k : Nat} {f : Addr} {ps : List Str} {sp : Sp} {x : Str} {p pos : Pos} {e : Expr} {es : List Expr} {t : TA}
theorem pe_cal (C : Cal X.prog X.w X.K X.mg X.base k x f ps sp) (hr : Room k X.A) (tk : Takes X W) (ha : PA X (e :: es) t) (hg : Gl X x := by rfl) (hdb : (x == ("__debug__" : Str)) = false := by decide)
    (he : starEach (e :: es) X.env = (false, eval e X.env) :: starEach es X.env := by rfl) (hpl : (backTo pos (starEach es X.env)).any (·.1) = false := by rfl) :
    PE X (.Call (.Name x p) (e :: es) [] pos) (tCallS sp (WE W) t) := by
  obtain ⟨fd, F, b⟩ := C.ex
  exact pe_callS F hr hg C.mg C.kp b (fun σ => passAt tk σ) ha hdb he hpl
theorem pe_calB (C : Cal X.prog X.w X.K X.mg X.base k x f ps sp) (hr : Room k X.A) (ha : PA X (e :: es) t) (hg : Gl X x := by rfl) (hdb : (x == ("__debug__" : Str)) = false := by decide)
    (he : starEach (e :: es) X.env = (false, eval e X.env) :: starEach es X.env := by rfl) (hpl : (backTo pos (starEach es X.env)).any (·.1) = false := by rfl) :
    PE X (.Call (.Name x p) (e :: es) [] pos) (tCall sp [] E0 t) := by
  obtain ⟨fd, F, b⟩ := C.ex
  exact pe_call F hr hg C.mg C.kp b .nil passL ha hdb he hpl
end
theorem pe_cal0 {X : Cx} {W : WX} {k : Nat} {f : Addr} {ps : List Str} {sp : Sp} {x : Str} {p pos : Pos} (C : Cal X.prog X.w X.K X.mg X.base k x f ps sp) (hr : Room k X.A) (tk : Takes X W) (hg : Gl X x := by rfl) (hdb : (x == ("__debug__" : Str)) = false := by decide) :
    PE X (.Call (.Name x p) [] [] pos) (tCallS sp (WE W) tNil) := by
  obtain ⟨fd, F, b⟩ := C.ex
  refine ⟨fun pins s σ H Q J h => ?_⟩
  refine wpAny_Call_Name_kw (ld_glob J hg C.mg ?_ hdb)
  exact PySem.W.callWith_K0 J.kIn C.kp (run_fnS (us := []) (vs := []) F hr b (passAt tk σ) J .nil h)
theorem hu65 {A : Around} {k : Nat} (hr : Room k A) : A.units + 65 < cLine := by have := hr.un; omega
/-- a body and its reading make a def's promise -/
theorem cal_of {P : Program} {w : World} {K : PySem.W.Frag} {mg : Str → Option Value} {base : Heap} {st : Stmt} {x : Str} {f : Addr} {fd : FuncData} {N ps : List Str} {k : Nat} {sp : Sp} (F : Fun K x x st f fd) (S : FnScope N ps (defScope st)) (hm : mg x = some (.ref f)) (hb : Binds K fd ps [])
    (len : ∀ vs H Q E, sp vs H Q E → vs.length = ps.length) (t : XK → TS)
    (d : ∀ (cdv : Value) (A : Around) (outer : List Env) (s : Shared) (H : Hp) (E : XK), Room k (A.deeper (envOfC x (defScope st) s.heap.objs.size f cdv)) → PSs (cxOf (L2.CX P w) P w K mg base N x (defScope st) f cdv A outer s H E) (defBody st) (t E))
    (r : ∀ (vs : List V) (H : Hp) (Q : VK) (E : XK), sp vs H Q E → t E { nx := fun _ H' => Q .non H', rt := Q } (L2.start N vs) H) : Cal P w K mg base (k + 1) x f ps sp :=
  ⟨⟨fd, F.okX S len fun cdv A outer s H vs Q E hr h => ⟨t E, d cdv A outer s H E hr, r vs H Q E h⟩, hb⟩, hm, F.kp⟩

/-- the law itself -/
theorem fnx_of {P : Program} {w : World} {K : PySem.W.Frag} {mg : Str → Option Value} {base : Heap} {st : Stmt} {x : Str} {f : Addr} {fd : FuncData} {N ps : List Str} {k : Nat} {sp : Sp} (F : Fun K x x st f fd) (S : FnScope N ps (defScope st))
    (len : ∀ vs H Q E, sp vs H Q E → vs.length = ps.length) (t : XK → TS)
    (d : ∀ (cdv : Value) (A : Around) (outer : List Env) (s : Shared) (H : Hp) (E : XK), Room k (A.deeper (envOfC x (defScope st) s.heap.objs.size f cdv)) → PSs (cxOf (L2.CX P w) P w K mg base N x (defScope st) f cdv A outer s H E) (defBody st) (t E))
    (r : ∀ (vs : List V) (H : Hp) (Q : VK) (E : XK), sp vs H Q E → t E { nx := fun _ H' => Q .non H', rt := Q } (L2.start N vs) H) : FnOk P w K mg base (L2.CX P w) (k + 1) f fd ps sp :=
  F.okX S len fun cdv A outer s H vs Q E hr h => ⟨t E, d cdv A outer s H E hr, r vs H Q E h⟩
theorem cx_no {P : Program} {w : World} {H : Hp} {s : Shared} {e : Value} {s' : Shared} (h : L2.CX P w [] H s (fun _ _ _ => False) e s') : False := by
  obtain ⟨_, _, _, _, _, _, _, _, _, _, _, _, z⟩ := h
  exact z
section
variable {K : PySem.W.Frag} {σ : L2.St} {H H' : Hp} {ta tb te tx : TE} {t u : TT} {x y z v : V} {r r' : R2} {D : Ends}
/-! ### what the operators give -/
theorem rv_addI {i j : Int} : RV (rAddA K) (.int i) (.int j) H (.int (i + j)) := fun H1 _ _ q => .inl ⟨i, j, rfl, rfl, q H1 (Ex.refl H1)⟩
theorem rv_addS {i j : Str} (h : i.length + j.length ≤ 100000) : RV (rAddA K) (.str i) (.str j) H (.str (i ++ j)) := fun H1 _ _ q => .inr (.inl ⟨i, j, rfl, rfl, sz_of h, q H1 (Ex.refl H1)⟩)
theorem rv_subI {i j : Int} : RV rSubA (.int i) (.int j) H (.int (i - j)) := fun H1 _ _ q => ⟨i, j, rfl, rfl, q H1 (Ex.refl H1)⟩
theorem rv_lt {i j : Int} : RV rLtA (.int i) (.int j) H (.bl (decide (i < j))) := fun H1 _ _ q => ⟨i, j, rfl, rfl, q H1 (Ex.refl H1)⟩
theorem rv_le {i j : Int} : RV rLeA (.int i) (.int j) H (.bl (decide (i ≤ j))) := fun H1 _ _ q => ⟨i, j, rfl, rfl, q H1 (Ex.refl H1)⟩
theorem rv_gt {i j : Int} : RV rGtA (.int i) (.int j) H (.bl (decide (j < i))) := fun H1 _ _ q => ⟨i, j, rfl, rfl, q H1 (Ex.refl H1)⟩
theorem rv_ge {i j : Int} : RV rGeA (.int i) (.int j) H (.bl (decide (j ≤ i))) := fun H1 _ _ q => ⟨i, j, rfl, rfl, q H1 (Ex.refl H1)⟩
theorem rv_mod {i j : Int} (h : 0 < j) : RV rModA (.int i) (.int j) H (.int (i % j)) := fun H1 _ Q q => ⟨i, j, rfl, rfl, by omega, by
  show Q (.int (i.fmod j)) H1
  rw [Int.fmod_eq_emod_of_nonneg i (by omega)]
  exact q H1 (Ex.refl H1)⟩
theorem rv_div {i j : Int} (h : 0 < j ∧ j < 1073741824) : RV rDivA (.int i) (.int j) H (.int (i / j)) := fun H1 _ Q q => .inl ⟨i, j, rfl, rfl, ⟨by omega, by omega⟩, by
  show Q (.int (i.fdiv j)) H1
  rw [Int.fdiv_eq_ediv_of_nonneg i (by omega)]
  exact q H1 (Ex.refl H1)⟩
theorem rv_mulI {i j : Int} (h : CMulW i j) : RV (rMulA K) (.int i) (.int j) H (.int (i * j)) := fun H1 _ _ q => .inl ⟨i, j, rfl, rfl, h, q H1 (Ex.refl H1)⟩
theorem rv_rep {a : Str} {n : Int} (ha : a.length ≤ 4000) (hn : -1000 ≤ n ∧ n ≤ 4000) : RV (rMulA K) (.str a) (.int n) H (.str (repS a n)) := fun H1 _ _ q => .inr (.inr ⟨a, n, rfl, rfl, ha, hn.1, hn.2, q H1 (Ex.refl H1)⟩)
theorem rv_pow {i j : Int} (h : 0 ≤ j ∧ j ≤ 1000000 ∧ i.natAbs < 2 ^ 64) : RV rPowA (.int i) (.int j) H (.int (i ^ j.toNat)) := fun H1 _ _ q => ⟨i, j, rfl, rfl, h, q H1 (Ex.refl H1)⟩
theorem rv_eqS (h : scal x y = true) : RV (rEqA K) x y H (.bl (decide (x = y))) := fun H1 _ _ q => .inl ⟨h, q H1 (Ex.refl H1)⟩
theorem rv_neS (h : scal x y = true) : RV (rNeA K) x y H (.bl (!decide (x = y))) := fun H1 _ _ q => .inl ⟨h, q H1 (Ex.refl H1)⟩
theorem rv_isN : RV rIsA x .non H (.bl (decide (x = .non))) := fun H1 _ _ q => .inl ⟨rfl, q H1 (Ex.refl H1)⟩
theorem rv_isnN : RV rIsnA x .non H (.bl (!decide (x = .non))) := fun H1 _ _ q => .inl ⟨rfl, q H1 (Ex.refl H1)⟩
theorem rv_isB {a b : Bool} : RV rIsA (.bl a) (.bl b) H (.bl (decide (a = b))) := fun H1 _ _ q => .inr ⟨a, b, rfl, rfl, q H1 (Ex.refl H1)⟩
theorem rv_isnB {a b : Bool} : RV rIsnA (.bl a) (.bl b) H (.bl (!decide (a = b))) := fun H1 _ _ q => .inr ⟨a, b, rfl, rfl, q H1 (Ex.refl H1)⟩
theorem rv_inStr {c : Nat} {w : Str} : RV (rInA K) (.str ⟨#[c]⟩) (.str w) H (.bl (decide (c ∈ w.cps.toList))) := fun H1 _ _ q => .inl ⟨c, w, rfl, rfl, q H1 (Ex.refl H1)⟩
theorem rv_ninStr {c : Nat} {w : Str} : RV (rNinA K) (.str ⟨#[c]⟩) (.str w) H (.bl (!decide (c ∈ w.cps.toList))) := fun H1 _ _ q => .inl ⟨c, w, rfl, rfl, q H1 (Ex.refl H1)⟩
theorem rv_itL {p : Addr} {xs : List V} {i : Int} (h : SqL K H p xs) (ha : atI xs i = some v) : RV (rIxA K) (.ref p) (.int i) H v := fun H1 e _ q => .inl (.inl ⟨p, xs, i, v, rfl, rfl, ex_l e h, ha, q H1 (Ex.refl H1)⟩)
theorem rv_itT {p : Addr} {xs : List V} {i : Int} (h : SqT K H p xs) (ha : atI xs i = some v) : RV (rIxA K) (.ref p) (.int i) H v := fun H1 e _ q => .inl (.inr (.inl ⟨p, xs, i, v, rfl, rfl, ex_t e h, ha, q H1 (Ex.refl H1)⟩))
theorem rv_itS {w : Str} {i : Int} {c : Nat} (h : w.length ≤ 100000) (ha : atI w.cps.toList i = some c) : RV (rIxA K) (.str w) (.int i) H (.str ⟨#[c]⟩) := fun H1 _ _ q => .inl (.inr (.inr ⟨w, i, c, rfl, rfl, sz_of h, ha, q H1 (Ex.refl H1)⟩))
theorem rc_str {i : Int} (h : i.natAbs.log2 < 1920) : RC rStrA [.int i] H (.str (Str.ofString (toString i))) := fun H1 _ _ q => ⟨i, rfl, h, q H1 (Ex.refl H1)⟩
theorem rc_abs {i : Int} : RC rAbsA [.int i] H (.int (if i < 0 then -i else i)) := fun H1 _ _ q => ⟨i, rfl, q H1 (Ex.refl H1)⟩
theorem ev_callS {sp : Sp} {vs : List V} {E : L2.St → XK} {ta : TA} (h : EvA ta σ H vs) (hs : SpV sp vs H z) : Ev (tCallS sp E ta) σ H z := fun H1 e Q q =>
  h H1 e _ fun H2 e2 => hs H2 (e.trans e2) Q (fun H3 e3 => q H3 (e2.trans e3)) (E σ)
/-- a word between a statement and what follows -/
theorem q_cut2 {tu tz : TS} {M : L2.St → Hp → Prop} (h : ∀ nx : L2.St → Hp → Prop, (∀ σ' H', M σ' H' → nx σ' H') → tu { D with nx := nx } σ H) (k : ∀ σ' H', M σ' H' → tz D σ' H') : tSeq tu tz D σ H := h _ k
/-- a call, by its promise -/
theorem q_callS {sp : Sp} {vs : List V} {E : L2.St → XK} {ta : TA} {i : Nat} {tz : TS} (h : EvA ta σ H vs) (k : ∀ H1, Ex H H1 → sp vs H1 (fun v H2 => tz D (σ.set i (some v)) H2) (E σ)) : tSeq (tAsg (tCallS sp E ta) (gName i)) tz D σ H := h H (Ex.refl H) _ k
theorem s_callS {sp : Sp} {vs : List V} {E : L2.St → XK} {ta : TA} {i : Nat} (h : EvA ta σ H vs) (k : ∀ H1, Ex H H1 → sp vs H1 (fun v H2 => D.nx (σ.set i (some v)) H2) (E σ)) : tAsg (tCallS sp E ta) (gName i) D σ H := h H (Ex.refl H) _ k
theorem s_retS {sp : Sp} {vs : List V} {E : L2.St → XK} {ta : TA} (h : EvA ta σ H vs) (k : ∀ H1, Ex H H1 → sp vs H1 D.rt (E σ)) : tRet (tCallS sp E ta) D σ H := h H (Ex.refl H) _ k
theorem q_dropS {sp : Sp} {vs : List V} {E : L2.St → XK} {ta : TA} {tz : TS} (h : EvA ta σ H vs) (k : ∀ H1, Ex H H1 → sp vs H1 (fun _ H2 => tz D σ H2) (E σ)) : tSeq (tDrop (tCallS sp E ta)) tz D σ H := h H (Ex.refl H) _ k
theorem ev_neg {i : Int} (h : Ev ta σ H (.int i)) : Ev (tUn rNegA ta) σ H (.int (-i)) := ev_un h ru_neg
theorem ev_chainLL {i j k : Int} (ha : Ev ta σ H (.int i)) (hb : Ev tb σ H (.int j)) (hc : Ev tx σ H (.int k)) : Ev (tChain rLeA rLeA ta tb tx) σ H (.bl (decide (i ≤ j) && decide (j ≤ k))) :=
  ev_chainI (g := fun a b => decide (a ≤ b)) (g' := fun a b => decide (a ≤ b)) ha hb hc
theorem ev_chainLt {i j k : Int} (ha : Ev ta σ H (.int i)) (hb : Ev tb σ H (.int j)) (hc : Ev tx σ H (.int k)) : Ev (tChain rLeA rLtA ta tb tx) σ H (.bl (decide (i ≤ j) && decide (j < k))) :=
  ev_chainI (g := fun a b => decide (a ≤ b)) (g' := fun a b => decide (a < b)) ha hb hc
end
end Z

set_option Elab.async false
set_option linter.all false
set_option autoImplicit false
set_option maxRecDepth 100000
set_option maxHeartbeats 4000000
namespace Z
open PySem PySem.Spec PyProof.Rows L2 Evl
/-! ### data: what stands at a value, through and through -/
def kD : Key → PyData
  | .inl i => .int i
  | .inr x => .str x
mutual
inductive Dt (H : Hp) : V → PyData → Prop
  | non : Dt H .non .none
  | bl (b : Bool) : Dt H (.bl b) (.bool b)
  | int (i : Int) : Dt H (.int i) (.int i)
  | str (x : Str) : Dt H (.str x) (.str x)
  | lst {a : Addr} {xs : List V} {ds : List PyData} : H a = some (.lst xs) → DtAll H xs ds → Dt H (.ref a) (.list ds)
  | tup {a : Addr} {xs : List V} {ds : List PyData} : H a = some (.tup xs) → DtAll H xs ds → Dt H (.ref a) (.tuple ds)
  | dct {a : Addr} {kvs : List (Key × V)} {ds : List PyData} : H a = some (.dK kvs) → DtAll H (kvs.map (·.2)) ds → Dt H (.ref a) (.dict ((kvs.map fun kv => kD kv.1).zip ds))
inductive DtAll (H : Hp) : List V → List PyData → Prop
  | nil : DtAll H [] []
  | cons {v : V} {vs : List V} {d : PyData} {ds : List PyData} : Dt H v d → DtAll H vs ds → DtAll H (v :: vs) (d :: ds)
end
mutual
theorem Dt.ex {H H' : Hp} (e : Ex H H') : ∀ {v : V} {d : PyData}, Dt H v d → Dt H' v d
  | _, _, .non => .non
  | _, _, .bl b => .bl b
  | _, _, .int i => .int i
  | _, _, .str x => .str x
  | _, _, .lst h r => .lst (e _ _ h) (DtAll.ex e r)
  | _, _, .tup h r => .tup (e _ _ h) (DtAll.ex e r)
  | _, _, .dct h r => .dct (e _ _ h) (DtAll.ex e r)
theorem DtAll.ex {H H' : Hp} (e : Ex H H') : ∀ {vs : List V} {ds : List PyData}, DtAll H vs ds → DtAll H' vs ds
  | _, _, .nil => .nil
  | _, _, .cons a r => .cons (Dt.ex e a) (DtAll.ex e r)
end
mutual
def noDict : PyData → Bool
  | .list ds => noDicts ds
  | .tuple ds => noDicts ds
  | .dict _ => false
  | _ => true
def noDicts : List PyData → Bool
  | [] => true
  | d :: ds => noDict d && noDicts ds
end
mutual
theorem Dt.dp {K : PySem.W.Frag} {H : Hp} : ∀ {v : V} {d : PyData}, Dt H v d → noDict d = true → Dp K H v d
  | _, _, .non, _ => .non
  | _, _, .bl b, _ => .bl b
  | _, _, .int i, _ => .int i
  | _, _, .str x, _ => .str x
  | _, _, .lst h r, n => .lst (SqL.of h) (DtAll.dp r (by simpa [noDict] using n))
  | _, _, .tup h r, n => .tup (SqT.of h) (DtAll.dp r (by simpa [noDict] using n))
  | _, _, .dct h r, n => by simp [noDict] at n
theorem DtAll.dp {K : PySem.W.Frag} {H : Hp} : ∀ {vs : List V} {ds : List PyData}, DtAll H vs ds → noDicts ds = true → DpAll K H vs ds
  | _, _, .nil, _ => .nil
  | _, _, .cons a r, n => by
    simp only [noDicts, Bool.and_eq_true] at n
    exact .cons (Dt.dp a n.1) (DtAll.dp r n.2)
end
theorem DtAll.length {H : Hp} : ∀ {vs : List V} {ds : List PyData}, DtAll H vs ds → vs.length = ds.length
  | _, _, .nil => rfl
  | _, _, .cons _ r => by rw [List.length_cons, List.length_cons, r.length]
theorem DtAll.get {H : Hp} : ∀ {vs : List V} {ds : List PyData} {i : Nat} {d : PyData}, DtAll H vs ds → ds[i]? = some d → ∃ v, vs[i]? = some v ∧ Dt H v d
  | _, _, i, d, .nil, h => by simp at h
  | _, _, 0, d, .cons (v := v) a r, h => by
    rw [List.getElem?_cons_zero] at h
    cases h
    exact ⟨v, rfl, a⟩
  | _, _, i + 1, d, .cons a r, h => by
    obtain ⟨v, h1, h2⟩ := r.get (i := i) (d := d) (by simpa using h)
    exact ⟨v, by simpa using h1, h2⟩
theorem DtAll.getV {H : Hp} : ∀ {vs : List V} {ds : List PyData} {i : Nat} {v : V}, DtAll H vs ds → vs[i]? = some v → ∃ d, ds[i]? = some d ∧ Dt H v d
  | _, _, i, d, .nil, h => by simp at h
  | _, _, 0, v, .cons (d := d) a r, h => by
    rw [List.getElem?_cons_zero] at h
    cases h
    exact ⟨d, rfl, a⟩
  | _, _, i + 1, v, .cons a r, h => by
    obtain ⟨d, h1, h2⟩ := r.getV (i := i) (v := v) (by simpa using h)
    exact ⟨d, by simpa using h1, h2⟩
theorem DtAll.append {H : Hp} : ∀ {vs ws : List V} {ds es : List PyData}, DtAll H vs ds → DtAll H ws es → DtAll H (vs ++ ws) (ds ++ es)
  | _, _, _, _, .nil, s => s
  | _, _, _, _, .cons a r, s => .cons a (r.append s)
theorem atI_dt {H : Hp} {vs : List V} {ds : List PyData} {i : Int} {d : PyData} (h : DtAll H vs ds) (a : atI ds i = some d) : ∃ v, atI vs i = some v ∧ Dt H v d := by
  unfold atI at a ⊢
  rw [h.length]
  cases q : ixN ds.length i with
  | none => rw [q] at a; cases a
  | some j =>
    rw [q] at a
    exact h.get (show ds[j]? = some d from a)
/-! ### data of a size and depth that is compared -/
structure okS (z : Str) : Prop where
  len : z.length ≤ 30000
  cps : z.cps.all (· < 1114112) = true
theorem okS.app {x y : Str} (hx : okS x) (hy : okS y) (h : x.length + y.length ≤ 30000) : okS (x ++ y) := by
  refine ⟨by rw [Str.length_append]; exact h, ?_⟩
  show (x.cps ++ y.cps).all (· < 1114112) = true
  rw [Array.all_append, hx.cps, hy.cps]
  rfl
theorem okS_S {l : List Nat} (h : l.length ≤ 30000) (hc : ∀ c ∈ l, c < 128) : okS (SX.S l) := by
  refine ⟨by rw [SX.S_len]; exact h, ?_⟩
  show l.toArray.all (· < 1114112) = true
  rw [List.all_toArray]
  exact List.all_eq_true.mpr fun c h => decide_eq_true (by have := hc c h; omega)
theorem S_of (z : Str) : SX.S z.cps.toList = z := SX.S_tl z
theorem okS_of {z : Str} (h : z.length ≤ 30000) (hc : ∀ c ∈ z.cps.toList, c < 128) : okS z := by
  have q : z.cps.toList.length ≤ 30000 := by
    have e : z.cps.toList.length = z.length := by simp [Str.length]
    omega
  have := okS_S q hc
  rw [S_of] at this
  exact this
mutual
def okN : Nat → PyData → Prop
  | _, .str z => okS z
  | n + 1, .list ds => okNs n ds
  | n + 1, .tuple ds => okNs n ds
  | 0, .list _ => False
  | 0, .tuple _ => False
  | _, .dict _ => False
  | _, .none => True
  | _, .bool _ => True
  | _, .int _ => True
def okNs : Nat → List PyData → Prop
  | _, [] => True
  | n, d :: ds => okN n d ∧ okNs n ds
end
theorem okNs_iff {n : Nat} : ∀ {ds : List PyData}, okNs n ds ↔ ∀ d ∈ ds, okN n d
  | [] => by simp [okNs]
  | d :: ds => by
    rw [okNs, okNs_iff]
    simp
mutual
theorem okN_lay : ∀ (n : Nat) (d : PyData), okN n d → d.canLay0 = true ∧ d.depth ≤ n + 1 ∧ noDict d = true
  | n, .str z, h => by
    rw [okN] at h
    refine ⟨?_, by simp [PyData.depth], by simp [noDict]⟩
    simp only [PyData.canLay0]
    exact h.cps
  | n + 1, .list ds, h => by
    rw [okN] at h
    have := okNs_lay n ds h
    refine ⟨by simp only [PyData.canLay0]; exact this.1, ?_, by simp only [noDict]; exact this.2.2⟩
    have := this.2.1
    simp only [PyData.depth]
    omega
  | n + 1, .tuple ds, h => by
    rw [okN] at h
    have := okNs_lay n ds h
    refine ⟨by simp only [PyData.canLay0]; exact this.1, ?_, by simp only [noDict]; exact this.2.2⟩
    have := this.2.1
    simp only [PyData.depth]
    omega
  | 0, .list _, h => by rw [okN] at h; exact h.elim
  | 0, .tuple _, h => by rw [okN] at h; exact h.elim
  | _, .dict _, h => by rw [okN] at h; exact h.elim
  | _, .none, _ => ⟨by simp [PyData.canLay0], by simp [PyData.depth], by simp [noDict]⟩
  | _, .bool _, _ => ⟨by simp [PyData.canLay0], by simp [PyData.depth], by simp [noDict]⟩
  | _, .int _, _ => ⟨by simp [PyData.canLay0], by simp [PyData.depth], by simp [noDict]⟩
theorem okNs_lay : ∀ (n : Nat) (ds : List PyData), okNs n ds → PyData.canLayAll0 ds = true ∧ PyData.depthAll ds ≤ n + 1 ∧ noDicts ds = true
  | _, [], _ => ⟨by simp [PyData.canLayAll0], by simp [PyData.depthAll], by simp [noDicts]⟩
  | n, d :: ds, h => by
    rw [okNs] at h
    have h1 := okN_lay n d h.1
    have h2 := okNs_lay n ds h.2
    refine ⟨by simp only [PyData.canLayAll0, h1.1, h2.1, Bool.and_self], ?_, by simp only [noDicts, h1.2.2, h2.2.2, Bool.and_self]⟩
    have := h1.2.1
    have := h2.2.1
    simp only [PyData.depthAll]
    omega
end
/-- at most ten deep, no dict, texts of at most 30,000 signs -/
def okD (d : PyData) : Prop := okN 10 d
theorem okD.shaped {d : PyData} (h : okD d) : SeqAt.shaped d = true := by
  have := okN_lay 10 d h
  unfold SeqAt.shaped
  rw [this.1, Bool.true_and]
  exact decide_eq_true (by omega)
theorem okD.nd {d : PyData} (h : okD d) : noDict d = true := (okN_lay 10 d h).2.2
/-- the built-in type of data -/
def kindD : PyData → String
  | .none => "NoneType"
  | .bool _ => "bool"
  | .int _ => "int"
  | .str _ => "str"
  | .list _ => "list"
  | .tuple _ => "tuple"
  | .dict _ => "dict"
theorem Dt.ty {H : Hp} {v : V} {d : PyData} (h : Dt H v d) : tyN H v = some (kindD d) := by
  cases h with
  | non => rfl
  | bl b => rfl
  | int i => rfl
  | str x => rfl
  | lst e r => show tyO (H _) = _; rw [e]; rfl
  | tup e r => show tyO (H _) = _; rw [e]; rfl
  | dct e r => show tyO (H _) = _; rw [e]; rfl

/-! ### expressions that evaluate to data -/
def EvD (te : TE) (σ : L2.St) (H : Hp) (d : PyData) : Prop := ∀ H1, Ex H H1 → ∀ Q : VK, (∀ v H2, Ex H1 H2 → Dt H2 v d → Q v H2) → te σ H1 Q
def EvDs (ta : TA) (σ : L2.St) (H : Hp) (ds : List PyData) : Prop := ∀ H1, Ex H H1 → ∀ Q : List V → Hp → Prop, (∀ vs H2, Ex H1 H2 → DtAll H2 vs ds → Q vs H2) → ta σ H1 Q
section
variable {K : PySem.W.Frag} {σ : L2.St} {H H' : Hp} {ta tb te tx : TE} {tas : TA} {t u : TT} {x y z v : V} {d e : PyData} {ds es : List PyData} {D : Ends} {tu tw tz : TS}
theorem EvD.mono (e0 : Ex H H') (h : EvD te σ H d) : EvD te σ H' d := fun H1 a Q q => h H1 (e0.trans a) Q q
theorem ed_ev (h : Ev te σ H v) (r : Dt H v d) : EvD te σ H d := fun H1 e0 Q q => h H1 e0 _ fun H2 e2 => q v H2 e2 (r.ex (e0.trans e2))
theorem ed_i {i : Int} (h : Ev te σ H (.int i)) : EvD te σ H (.int i) := ed_ev h (.int i)
theorem ed_s {i : Str} (h : Ev te σ H (.str i)) : EvD te σ H (.str i) := ed_ev h (.str i)
theorem ed_b {i : Bool} (h : Ev te σ H (.bl i)) : EvD te σ H (.bool i) := ed_ev h (.bl i)
theorem ed_n (h : Ev te σ H .non) : EvD te σ H .none := ed_ev h .non
theorem ed_var {i : Nat} (h : σ[i]? = some (some v)) (r : Dt H v d) : EvD (tVar i) σ H d := ed_ev (ev_var h) r
theorem eds_nil : EvDs tNil σ H [] := fun H1 _ _ q => q [] H1 (Ex.refl H1) .nil
theorem eds_cons (h : EvD ta σ H d) (r : EvDs tas σ H ds) : EvDs (tCons ta tas) σ H (d :: ds) := fun H1 e0 Q q =>
  h H1 e0 _ fun v H2 e2 hv => r H2 (e0.trans e2) _ fun vs H3 e3 hvs => q _ H3 (e2.trans e3) (.cons (hv.ex e3) hvs)
theorem ed_lst (h : EvDs tas σ H ds) (hl : ds.length ≤ 100000 := by simp only [List.length_cons, List.length_nil, List.length_append]; omega) : EvD (tLst tas) σ H (.list ds) := fun H1 e0 Q q =>
  h H1 e0 _ fun vs H2 e2 hvs => ⟨sz_of (by rw [hvs.length]; exact hl), fun p hp => q _ _ (e2.trans (Ex.new hp)) (.lst upd_same (hvs.ex (Ex.new hp)))⟩
theorem ed_tup (h : EvDs tas σ H ds) (hl : ds.length ≤ 100000 := by simp only [List.length_cons, List.length_nil, List.length_append]; omega) : EvD (tTup tas) σ H (.tuple ds) := fun H1 e0 Q q =>
  h H1 e0 _ fun vs H2 e2 hvs => ⟨sz_of (by rw [hvs.length]; exact hl), fun p hp => q _ _ (e2.trans (Ex.new hp)) (.tup upd_same (hvs.ex (Ex.new hp)))⟩
theorem ed_dnew : EvD tDNewK σ H (.dict []) := fun H1 _ Q q p hp => q _ _ (Ex.new hp) (.dct (kvs := []) (ds := []) upd_same .nil)
theorem ed_ixL {i : Int} (h : EvD ta σ H (.list ds)) (hi : Ev tb σ H (.int i)) (a : atI ds i = some d) : EvD (tOp (rIxA K) ta tb) σ H d := fun H1 e0 Q q =>
  h H1 e0 _ fun v H2 e2 hv => hi H2 (e0.trans e2) _ fun H3 e3 => by
    cases hv with
    | lst hl r =>
      obtain ⟨w, h1, h2⟩ := atI_dt r a
      exact .inl (.inl ⟨_, _, i, w, rfl, rfl, SqL.of (e3 _ _ hl), h1, q w H3 (e2.trans e3) (h2.ex e3)⟩)
theorem ed_ixT {i : Int} (h : EvD ta σ H (.tuple ds)) (hi : Ev tb σ H (.int i)) (a : atI ds i = some d) : EvD (tOp (rIxA K) ta tb) σ H d := fun H1 e0 Q q =>
  h H1 e0 _ fun v H2 e2 hv => hi H2 (e0.trans e2) _ fun H3 e3 => by
    cases hv with
    | tup hl r =>
      obtain ⟨w, h1, h2⟩ := atI_dt r a
      exact .inl (.inr (.inl ⟨_, _, i, w, rfl, rfl, SqT.of (e3 _ _ hl), h1, q w H3 (e2.trans e3) (h2.ex e3)⟩))
theorem ed_catL (h : EvD ta σ H (.list ds)) (h2 : EvD tb σ H (.list es)) (hl : ds.length + es.length ≤ 100000 := by simp only [List.length_cons, List.length_nil, List.length_append]; omega) : EvD (tOp (rAddA K) ta tb) σ H (.list (ds ++ es)) := fun H1 e0 Q q =>
  h H1 e0 _ fun v H2 e2 hv => h2 H2 (e0.trans e2) _ fun w H3 e3 hw => by
    cases hv with
    | lst hv r =>
      cases hw with
      | lst hw r2 => exact .inr (.inr (.inl ⟨_, _, _, _, rfl, rfl, e3 _ _ hv, hw, sz_of (by rw [r.length, r2.length]; exact hl), fun p hp => q _ _ ((e2.trans e3).trans (Ex.new hp)) (.lst upd_same (((r.ex e3).append r2).ex (Ex.new hp)))⟩))
theorem ev_eqD (h : EvD ta σ H d) (h2 : EvD tb σ H e) (od : okD d) (oe : okD e) : Ev (tOp (rEqA K) ta tb) σ H (.bl (PyData.eqv d e)) := fun H1 e0 Q q =>
  h H1 e0 _ fun v H2 e2 hv => h2 H2 (e0.trans e2) _ fun w H3 e3 hw => .inr (.inl ⟨d, e, (hv.ex e3).dp od.nd, hw.dp oe.nd, od.shaped, oe.shaped, q H3 (e2.trans e3)⟩)
theorem ev_neD (h : EvD ta σ H d) (h2 : EvD tb σ H e) (od : okD d) (oe : okD e) : Ev (tOp (rNeA K) ta tb) σ H (.bl (!PyData.eqv d e)) := fun H1 e0 Q q =>
  h H1 e0 _ fun v H2 e2 hv => h2 H2 (e0.trans e2) _ fun w H3 e3 hw => .inr (.inl ⟨d, e, (hv.ex e3).dp od.nd, hw.dp oe.nd, od.shaped, oe.shaped, q H3 (e2.trans e3)⟩)
theorem ev_isD {c : String} (ha : EvD ta σ H d) (hc : c ∈ asked := by decide) : Ev (tCB (rIsiA K) (tCons ta (tCons (tC (.ty c)) tNil))) σ H (.bl (isiB (kindD d) c)) := fun H1 e0 Q q =>
  ha H1 e0 _ fun v H2 e2 hv => rc_isi (hv.ty) hc H2 (Ex.refl H2) Q fun H3 e3 => q H3 (e2.trans e3)
theorem s_asgD {i : Nat} (h : EvD te σ H d) (k : ∀ v H1, Ex H H1 → Dt H1 v d → D.nx (σ.set i (some v)) H1) : tAsg te (gName i) D σ H := h H (Ex.refl H) _ fun v H1 e1 hv => k v H1 e1 hv
theorem q_asgD {i : Nat} (h : EvD te σ H d) (k : ∀ v H1, Ex H H1 → Dt H1 v d → tz D (σ.set i (some v)) H1) : tSeq (tAsg te (gName i)) tz D σ H := s_asgD (D := { D with nx := tz D }) h k
theorem s_retD (h : EvD te σ H d) (k : ∀ v H1, Ex H H1 → Dt H1 v d → D.rt v H1) : tRet te D σ H := h H (Ex.refl H) _ k
/-- promises about data: arguments ds in, d out -/
def RetD (d : PyData) (H : Hp) (Q : VK) : Prop := ∀ v H2, Ex H H2 → Dt H2 v d → Q v H2
/-- a def from data to data, by a function -/
def spD (n : Nat) (pre : List PyData → Prop) (f : List PyData → PyData) : Sp := fun vs H Q _ => ∃ ds, ds.length = n ∧ DtAll H vs ds ∧ pre ds ∧ RetD (f ds) H Q
theorem ed_callS {n : Nat} {pre : List PyData → Prop} {f : List PyData → PyData} {E : L2.St → XK} {ta : TA} (h : EvDs ta σ H ds) (hn : ds.length = n) (hp : pre ds) : EvD (tCallS (spD n pre f) E ta) σ H (f ds) := fun H1 e0 Q q =>
  h H1 e0 _ fun vs H2 e2 hvs => ⟨ds, hn, hvs, hp, fun v H3 e3 hv => q v H3 (e2.trans e3) hv⟩
theorem ed_call {n : Nat} {pre : List PyData → Prop} {f : List PyData → PyData} {E : XK} {ta : TA} (h : EvDs ta σ H ds) (hn : ds.length = n) (hp : pre ds) : EvD (tCall (spD n pre f) [] E ta) σ H (f ds) := fun H1 e0 Q q =>
  h H1 e0 _ fun vs H2 e2 hvs => ⟨ds, hn, by rw [List.append_nil]; exact hvs, hp, fun v H3 e3 hv => q v H3 (e2.trans e3) hv⟩
theorem Dt.i {v : V} {i : Int} (h : Dt H v (.int i)) : v = .int i := by cases h; rfl
theorem Dt.s {v : V} {i : Str} (h : Dt H v (.str i)) : v = .str i := by cases h; rfl
theorem Dt.b {v : V} {i : Bool} (h : Dt H v (.bool i)) : v = .bl i := by cases h; rfl
theorem Dt.n {v : V} (h : Dt H v .none) : v = .non := by cases h; rfl
theorem ev_i {i : Int} (h : EvD te σ H (.int i)) : Ev te σ H (.int i) := fun H1 e0 Q q => h H1 e0 _ fun v H2 e2 hv => by rw [hv.i]; exact q H2 e2
theorem ev_s {i : Str} (h : EvD te σ H (.str i)) : Ev te σ H (.str i) := fun H1 e0 Q q => h H1 e0 _ fun v H2 e2 hv => by rw [hv.s]; exact q H2 e2
theorem ev_b {i : Bool} (h : EvD te σ H (.bool i)) : Ev te σ H (.bl i) := fun H1 e0 Q q => h H1 e0 _ fun v H2 e2 hv => by rw [hv.b]; exact q H2 e2
theorem ev_n (h : EvD te σ H .none) : Ev te σ H .non := fun H1 e0 Q q => h H1 e0 _ fun v H2 e2 hv => by rw [hv.n]; exact q H2 e2
end
end Z

set_option Elab.async false
set_option linter.all false
set_option autoImplicit false
set_option maxRecDepth 100000
set_option maxHeartbeats 4000000
/-! ev: what an expression comes to, by its form -/
local macro_rules | `(tactic| k_places) => `(tactic| (repeat' (first
  | (with_reducible exact ev_c)
  | (with_reducible exact ev_var rfl)
  | (with_reducible refine ev_chainLL ?_ ?_ ?_)
  | (with_reducible refine ev_chainLt ?_ ?_ ?_)
  | (with_reducible refine ev_op ?_ ?_ ?_)
  | (with_reducible refine ev_neg ?_)
  | (with_reducible refine et_test ?_)
  | (with_reducible refine et_B ?_)
  | (with_reducible refine et_not ?_)
  | (with_reducible refine et_and ?_ (fun _ => ?_))
  | (with_reducible refine et_or ?_ (fun _ => ?_))
  | (with_reducible refine ev_andV ?_ (fun _ => ?_))
  | (with_reducible refine ev_orV ?_ (fun _ => ?_))
  | (with_reducible refine ev_notV ?_)
  | (with_reducible exact rv_addI)
  | (with_reducible exact rv_subI)
  | (with_reducible exact rv_lt)
  | (with_reducible exact rv_le)
  | (with_reducible exact rv_gt)
  | (with_reducible exact rv_ge)
  | (with_reducible exact rv_isB)
  | (with_reducible exact rv_isnB)
  | (with_reducible exact rv_isN)
  | (with_reducible exact rv_isnN)
  | (with_reducible exact rv_eqS rfl)
  | (with_reducible exact rv_neS rfl)
  | (with_reducible exact rv_inStr)
  | (with_reducible exact rv_ninStr)
  | (with_reducible exact rv_mod (by first | decide | omega | assumption))
  | (with_reducible exact rv_div (by first | decide | omega | assumption))
  | (with_reducible exact rv_pow (by decide))
  | (with_reducible refine ed_i ?_; done)
  | (with_reducible exact ea_nil)
  | (with_reducible refine ea_cons ?_ ?_)
  | (with_reducible exact eds_nil)
  | (with_reducible refine eds_cons ?_ ?_)
  | (with_reducible exact ed_dnew)
  | (with_reducible refine ed_lst ?_ (by simp only [List.length_cons, List.length_nil]; omega))
  | (with_reducible refine ed_tup ?_ (by simp only [List.length_cons, List.length_nil]; omega)))))
namespace Z
open PySem PySem.Spec PyProof.Rows L2 Evl
/-! ### values.py -/
def lets : List Nat := ("abcdefghijklmnopqrstuvwxyz" : Str).cps.toList
def isName (z : Str) : Bool := decide (1 ≤ z.length ∧ z.length ≤ 8) && z.cps.toList.all fun c => decide (c ∈ lets)
def isWholeD (d : PyData) : Bool := kindD d == "int"
def isNameD : PyData → Bool
  | .str z => isName z
  | _ => false
def isFaultD : PyData → Bool
  | .tuple [.str f, w] => decide (f = ("fault" : Str)) && isNameD w
  | _ => false
def isNumD : PyData → Bool
  | .int i => decide (-(10 ^ 60) < i ∧ i < 10 ^ 60)
  | _ => false
def isValueD (d : PyData) : Bool := isNumD d || isFaultD d
def short : PyData → Prop
  | .str z => z.length ≤ 30000
  | _ => True
def short2 : PyData → Prop
  | .tuple [_, w] => short w
  | _ => True
/-- a def of one argument -/
def sp1 (pre : PyData → Prop) (f : PyData → PyData) : Sp := spD 1 (fun ds => pre (ds.getD 0 .none)) (fun ds => f (ds.getD 0 .none))
theorem sp1_open {pre : PyData → Prop} {f : PyData → PyData} {vs : List V} {H : Hp} {Q : VK} {E : XK} (h : sp1 pre f vs H Q E) : ∃ v d, vs = [v] ∧ Dt H v d ∧ pre d ∧ RetD (f d) H Q := by
  obtain ⟨ds, hn, ha, hp, k⟩ := h
  cases ha with
  | nil => cases hn
  | cons a r =>
    cases r with
    | nil => exact ⟨_, _, rfl, a, hp, k⟩
    | cons _ _ => simp at hn
def sp_is_whole (K : PySem.W.Frag) : Sp := sp1 (fun _ => True) fun d => .bool (isWholeD d)
def sp_is_name (K : PySem.W.Frag) : Sp := sp1 short fun d => .bool (isNameD d)
def sp_is_fault (K : PySem.W.Frag) : Sp := sp1 short2 fun d => .bool (isFaultD d)
def sp_is_number (K : PySem.W.Frag) : Sp := sp1 (fun _ => True) fun d => .bool (isNumD d)
def sp_is_value (K : PySem.W.Frag) : Sp := sp1 short2 fun d => .bool (isValueD d)
def t_is_whole (K : PySem.W.Frag) (E : XK) : TS :=
  tRet (tAndV (tCB (rIsiA K) (tCons (tVar 0) (tCons (tC (.ty "int")) tNil))) (tNotV (tCB (rIsiA K) (tCons (tVar 0) (tCons (tC (.ty "bool")) tNil)))))
def t_is_name (K : PySem.W.Frag) (E : XK) : TS :=
  tSeq (tIfS (tOr (tNot (tB (tCB (rIsiA K) (tCons (tVar 0) (tCons (tC (.ty "str")) tNil))))) (tNot (tTest (tChain rLeA rLeA (tC (.int 1)) (tCB (rLenA K) (tCons (tVar 0) tNil)) (tC (.int 8)))))) (tRet (tC (.bl false))) tNext)
    (tRet (tCB (rAll K) (tCons (tLc (iStr (tVar 0)) (gName 1) tYes (tOp (rInA K) (tVar 1) (tC (.str "abcdefghijklmnopqrstuvwxyz"))) [1]) tNil)))
def t_is_fault (K : PySem.W.Frag) (E : XK) : TS :=
  tSeq (tIfS (tOr (tNot (tB (tCB (rIsiA K) (tCons (tVar 0) (tCons (tC (.ty "tuple")) tNil))))) (tTest (tOp (rNeA K) (tCB (rLenA K) (tCons (tVar 0) tNil)) (tC (.int 2))))) (tRet (tC (.bl false))) tNext)
    (tRet (tAndV (tCB (rIsiA K) (tCons (tOp (rIxA K) (tVar 0) (tC (.int 0))) (tCons (tC (.ty "str")) tNil))) (tAndV (tOp (rEqA K) (tOp (rIxA K) (tVar 0) (tC (.int 0))) (tC (.str "fault"))) (tCallS (sp_is_name K) (WE fun cls d _ H => E cls d H) (tCons (tOp (rIxA K) (tVar 0) (tC (.int 1))) tNil)))))
def t_is_number (K : PySem.W.Frag) (E : XK) : TS :=
  tRet (tAndV (tCallS (sp_is_whole K) (WE fun cls d _ H => E cls d H) (tCons (tVar 0) tNil)) (tOp rLtA (tCB rAbsA (tCons (tVar 0) tNil)) (tOp rPowA (tC (.int 10)) (tC (.int 60)))))
def t_is_value (K : PySem.W.Frag) (E : XK) : TS :=
  tRet (tOrV (tCallS (sp_is_number K) (WE fun cls d _ H => E cls d H) (tCons (tVar 0) tNil)) (tCallS (sp_is_fault K) (WE fun cls d _ H => E cls d H) (tCons (tVar 0) tNil)))
section
variable {K : PySem.W.Frag} {σ : L2.St} {H H' : Hp} {te : TE} {d : PyData} {E : L2.St → XK}
theorem ed_sp1 {pre : PyData → Prop} {f : PyData → PyData} (h : EvD te σ H d) (hp : pre d) : EvD (tCallS (sp1 pre f) E (tCons te tNil)) σ H (f d) := ed_callS (ds := [d]) (eds_cons h eds_nil) rfl hp
theorem ev_spB {pre : PyData → Prop} {g : PyData → Bool} (h : EvD te σ H d) (hp : pre d) : Ev (tCallS (sp1 pre fun d => .bool (g d)) E (tCons te tNil)) σ H (.bl (g d)) := ev_b (ed_sp1 h hp)
end
theorem r_is_whole {K : PySem.W.Frag} (vs : List V) (H : Hp) (Q : VK) (E : XK) (h : sp_is_whole K vs H Q E) : t_is_whole K E { nx := fun _ H' => Q .non H', rt := Q } (L2.start ["thing"] vs) H := by
  obtain ⟨v, d, rfl, r, -, k⟩ := sp1_open h
  unfold t_is_whole
  refine s_ret (v := .bl (isWholeD d)) (ev_is (ev_andV (ev_isD (ed_var rfl r)) fun _ => ev_notV (ev_isD (ed_var rfl r))) ?_) fun H1 e1 => k _ H1 e1 (.bl _)
  cases d <;> rfl
theorem r_is_number {K : PySem.W.Frag} (vs : List V) (H : Hp) (Q : VK) (E : XK) (h : sp_is_number K vs H Q E) : t_is_number K E { nx := fun _ H' => Q .non H', rt := Q } (L2.start ["thing"] vs) H := by
  obtain ⟨v, d, rfl, r, -, k⟩ := sp1_open h
  unfold t_is_number
  refine s_ret (v := .bl (isNumD d)) ?_ fun H1 e1 => k _ H1 e1 (.bl _)
  by_cases hi : ∃ i, d = .int i
  · obtain ⟨i, rfl⟩ := hi
    obtain rfl := r.i
    refine ev_is (ev_andV (ev_spB (ed_var rfl r) trivial) fun _ => ev_op (ev_cb (ea_cons (ev_var rfl) ea_nil) rc_abs) (ev_op ev_c ev_c (rv_pow (by decide))) rv_lt) ?_
    have e : ((10 : Int) ^ (60 : Int).toNat) = 10 ^ 60 := rfl
    rw [e]
    show V.bl (true && decide ((if i < 0 then -i else i) < 10 ^ 60)) = V.bl (decide (-(10 ^ 60) < i ∧ i < 10 ^ 60))
    rw [Bool.true_and]
    congr 1
    refine decide_eq_decide.mpr ?_
    split <;> omega
  · have e1 : isNumD d = false := by
      cases d <;> first | rfl | exact absurd ⟨_, rfl⟩ hi
    have e2 : isWholeD d = false := by
      cases d <;> first | rfl | exact absurd ⟨_, rfl⟩ hi
    rw [e1]
    refine ev_is (v := .bl (isWholeD d && false)) (ev_andV (ev_spB (ed_var rfl r) trivial) fun z => ?_) (by rw [e2]; rfl)
    rw [e2] at z
    cases z
theorem r_is_name {K : PySem.W.Frag} (vs : List V) (H : Hp) (Q : VK) (E : XK) (h : sp_is_name K vs H Q E) : t_is_name K E { nx := fun _ H' => Q .non H', rt := Q } (L2.start ["thing", "sign"] vs) H := by
  obtain ⟨v, d, rfl, r, hs, k⟩ := sp1_open h
  unfold t_is_name
  by_cases hz : ∃ z, d = .str z
  · obtain ⟨z, rfl⟩ := hz
    obtain rfl := r.s
    have hs : z.length ≤ 30000 := hs
    refine q_when (b := !(decide ((1 : Int) ≤ z.length) && decide ((z.length : Int) ≤ 8))) (et_is (et_or (et_not (et_B (ev_isD (ed_var rfl r)))) fun _ => et_not (et_test (ev_chainLL ev_c (ev_lenV (ev_var rfl) (rc_lenS (by omega))) ev_c))) (by rfl)) (fun hb H1 e1 => ?_) fun hb H1 e1 => ?_
    · refine s_ret ev_c fun H2 e2 => ?_
      have : isNameD (.str z) = false := by
        show (decide (1 ≤ z.length ∧ z.length ≤ 8) && _) = false
        have h1 : ¬ (1 ≤ z.length ∧ z.length ≤ 8) := by
          intro hh
          rw [decide_eq_true (by omega : (1 : Int) ≤ z.length), decide_eq_true (by omega : (z.length : Int) ≤ 8)] at hb
          cases hb
        rw [decide_eq_false h1, Bool.false_and]
      rw [this] at k
      exact k _ H2 (e1.trans e2) (.bl _)
    · have h1 : 1 ≤ z.length ∧ z.length ≤ 8 := by
        cases q1 : decide ((1 : Int) ≤ z.length) with
        | false => rw [q1] at hb; cases hb
        | true =>
          cases q2 : decide ((z.length : Int) ≤ 8) with
          | false => rw [q1, q2] at hb; cases hb
          | true =>
            have := of_decide_eq_true q1
            have := of_decide_eq_true q2
            omega
      have zl : z.length = z.cps.size := rfl
      have E1 : given z.cps.size (fun _ => true) (fun i => .bl (decide (z.cps.toList.getD i 0 ∈ lets))) = (z.cps.toList.map fun c => decide (c ∈ lets)).map V.bl := by
        unfold given
        rw [List.filter_eq_self.mpr (fun _ _ => rfl), List.map_map]
        apply List.ext_getElem?
        intro i
        rw [List.getElem?_map, List.getElem?_map]
        by_cases hi : i < z.cps.size
        · have hi2 : i < z.cps.toList.length := by simpa using hi
          have e : z.cps.toList[i]? = some (z.cps.toList.getD i 0) := by
            rw [List.getD_eq_getElem?_getD, List.getElem?_eq_getElem hi2]
            rfl
          rw [List.getElem?_range hi, e]
          rfl
        · rw [List.getElem?_eq_none (by simpa using hi), List.getElem?_eq_none (by simpa using hi)]
          rfl
      refine s_ret (v := .bl (isNameD (.str z))) (ev_is (ev_all (bs := z.cps.toList.map fun c => decide (c ∈ lets)) ?_) ?_) fun H2 e2 => k _ H2 (e1.trans e2) (.bl _)
      · rw [← E1]
        refine el_lcS (fun _ => true) _ (ev_var rfl) (by omega) (fun _ => rfl) (fun i c H2 e2 hc => ?_) (fun i c H2 e2 hc _ => ?_)
        · exact fun H3 _ Q q => q H3 (Ex.refl H3)
        · refine ev_is (ev_op (ev_var rfl) ev_c rv_inStr) ?_
          have : z.cps.toList.getD i 0 = c := by
            rw [List.getD_eq_getElem?_getD, Array.getElem?_toList, hc]
            rfl
          rw [this]
          rfl
      · show V.bl ((z.cps.toList.map fun c => decide (c ∈ lets)).all id) = V.bl (decide (1 ≤ z.length ∧ z.length ≤ 8) && z.cps.toList.all fun c => decide (c ∈ lets))
        rw [decide_eq_true h1, Bool.true_and, List.all_map]
        rfl
  · have e1 : isNameD d = false := by
      cases d <;> first | rfl | exact absurd ⟨_, rfl⟩ hz
    have e2 : isiB (kindD d) "str" = false := by
      cases d <;> first | rfl | exact absurd ⟨_, rfl⟩ hz
    refine q_when (b := true) (et_is (b := true) (a := !(isiB (kindD d) "str") || true) (et_or (et_not (et_B (ev_isD (ed_var rfl r)))) fun z => ?_) (by rw [e2]; rfl)) (fun hb H1 e1' => ?_) fun hb => nomatch hb
    · rw [e2] at z
      cases z
    · refine s_ret ev_c fun H2 e2 => ?_
      rw [e1] at k
      exact k _ H2 (e1'.trans e2) (.bl _)
theorem r_is_fault {K : PySem.W.Frag} (vs : List V) (H : Hp) (Q : VK) (E : XK) (h : sp_is_fault K vs H Q E) : t_is_fault K E { nx := fun _ H' => Q .non H', rt := Q } (L2.start ["thing"] vs) H := by
  obtain ⟨v, d, rfl, r, hs, k⟩ := sp1_open h
  unfold t_is_fault
  by_cases hz : ∃ ds, d = .tuple ds
  · obtain ⟨ds, rfl⟩ := hz
    cases r with
    | @tup a xs _ ha r =>
    have el := r.length
    have hl : Ev (tCB (rLenA K) (tCons (tVar 0) tNil)) [some (V.ref a)] H (.int ds.length) := by
      rw [← el]
      exact ev_lenV (ev_var rfl) (rc_lenT (SqT.of ha))
    refine q_when (b := !decide ((ds.length : Int) = 2)) (et_is (et_or (et_not (et_B (ev_isi (n := "tuple") (ev_var rfl) (by show tyO (H a) = _; rw [ha]; rfl)))) fun _ => et_test (ev_op hl ev_c (rv_neS rfl))) ?_) (fun hb H1 e1 => ?_) fun hb H1 e1 => ?_
    · show (false || !decide (V.int ds.length = V.int 2)) = _
      rw [Bool.false_or]
      congr 1
      exact decide_eq_decide.mpr ⟨fun h => V.int.inj h, fun h => by rw [h]⟩
    · refine s_ret ev_c fun H2 e2 => ?_
      have : isFaultD (.tuple ds) = false := by
        unfold isFaultD
        split
        · rename_i q
          cases q
          cases hb
        · rfl
      rw [this] at k
      exact k _ H2 (e1.trans e2) (.bl _)
    · have h2 : ds.length = 2 := by
        cases q : decide ((ds.length : Int) = 2) with
        | false => rw [q] at hb; cases hb
        | true =>
          have := of_decide_eq_true q
          omega
      obtain ⟨f, w, rfl⟩ : ∃ f w, ds = [f, w] := by
        match ds, h2 with
        | [f, w], _ => exact ⟨f, w, rfl⟩
      have D0 : Dt H (.ref a) (.tuple [f, w]) := .tup ha r
      have i0 : EvD (tOp (rIxA K) (tVar 0) (tC (.int 0))) [some (V.ref a)] H f := ed_ixT (ed_var rfl D0) ev_c rfl
      have i1 : EvD (tOp (rIxA K) (tVar 0) (tC (.int 1))) [some (V.ref a)] H w := ed_ixT (ed_var rfl D0) ev_c rfl
      refine s_ret (v := .bl (isFaultD (.tuple [f, w]))) ?_ fun H2 e2 => k _ H2 (e1.trans e2) (.bl _)
      refine Ev.mono e1 ?_
      by_cases hf : ∃ z, f = .str z
      · obtain ⟨z, rfl⟩ := hf
        refine ev_is (ev_andV (ev_isD i0) fun _ => ev_andV (ev_op (ev_s i0) ev_c (rv_eqS rfl)) fun _ => ev_spB i1 hs) ?_
        show V.bl (true && (decide (V.str z = V.str "fault") && isNameD w)) = V.bl (decide (z = ("fault" : Str)) && isNameD w)
        rw [Bool.true_and]
        congr 2
        exact decide_eq_decide.mpr ⟨fun h => V.str.inj h, fun h => by rw [h]⟩
      · have e2 : isiB (kindD f) "str" = false := by
          cases f <;> first | rfl | exact absurd ⟨_, rfl⟩ hf
        refine ev_is (v := .bl (isiB (kindD f) "str" && false)) (ev_andV (ev_isD i0) fun z => ?_) ?_
        · rw [e2] at z
          cases z
        · rw [e2]
          cases f <;> first | rfl | exact absurd ⟨_, rfl⟩ hf
  · have e1 : isFaultD d = false := by
      cases d <;> first | rfl | exact absurd ⟨_, rfl⟩ hz
    have e2 : isiB (kindD d) "tuple" = false := by
      cases d <;> first | rfl | exact absurd ⟨_, rfl⟩ hz
    refine q_when (b := true) (et_is (b := true) (a := !(isiB (kindD d) "tuple") || true) (et_or (et_not (et_B (ev_isD (ed_var rfl r)))) fun z => ?_) (by rw [e2]; rfl)) (fun hb H1 e1' => ?_) fun hb => nomatch hb
    · rw [e2] at z
      cases z
    · refine s_ret ev_c fun H2 e2 => ?_
      rw [e1] at k
      exact k _ H2 (e1'.trans e2) (.bl _)
theorem r_is_value {K : PySem.W.Frag} (vs : List V) (H : Hp) (Q : VK) (E : XK) (h : sp_is_value K vs H Q E) : t_is_value K E { nx := fun _ H' => Q .non H', rt := Q } (L2.start ["thing"] vs) H := by
  obtain ⟨v, d, rfl, r, hs, k⟩ := sp1_open h
  unfold t_is_value
  exact s_ret (v := .bl (isValueD d)) (ev_orV (ev_spB (ed_var rfl r) trivial) fun _ => ev_spB (ed_var rfl r) hs) fun H1 e1 => k _ H1 e1 (.bl _)
end Z

set_option Elab.async false
set_option linter.all false
set_option autoImplicit false
set_option maxRecDepth 100000
set_option maxHeartbeats 4000000
/-! ev: what an expression comes to, by its form -/
local macro_rules | `(tactic| k_places) => `(tactic| (repeat' (first
  | (with_reducible exact ev_c)
  | (with_reducible exact ev_var rfl)
  | (with_reducible refine ev_chainLL ?_ ?_ ?_)
  | (with_reducible refine ev_chainLt ?_ ?_ ?_)
  | (with_reducible refine ev_op ?_ ?_ ?_)
  | (with_reducible refine ev_neg ?_)
  | (with_reducible refine et_test ?_)
  | (with_reducible refine et_B ?_)
  | (with_reducible refine et_not ?_)
  | (with_reducible refine et_and ?_ (fun _ => ?_))
  | (with_reducible refine et_or ?_ (fun _ => ?_))
  | (with_reducible refine ev_andV ?_ (fun _ => ?_))
  | (with_reducible refine ev_orV ?_ (fun _ => ?_))
  | (with_reducible refine ev_notV ?_)
  | (with_reducible exact rv_addI)
  | (with_reducible exact rv_subI)
  | (with_reducible exact rv_lt)
  | (with_reducible exact rv_le)
  | (with_reducible exact rv_gt)
  | (with_reducible exact rv_ge)
  | (with_reducible exact rv_isB)
  | (with_reducible exact rv_isnB)
  | (with_reducible exact rv_isN)
  | (with_reducible exact rv_isnN)
  | (with_reducible exact rv_eqS rfl)
  | (with_reducible exact rv_neS rfl)
  | (with_reducible exact rv_inStr)
  | (with_reducible exact rv_ninStr)
  | (with_reducible exact rv_mod (by first | decide | omega | assumption))
  | (with_reducible exact rv_div (by first | decide | omega | assumption))
  | (with_reducible exact rv_pow (by decide))
  | (with_reducible refine ed_i ?_; done)
  | (with_reducible exact ea_nil)
  | (with_reducible refine ea_cons ?_ ?_)
  | (with_reducible exact eds_nil)
  | (with_reducible refine eds_cons ?_ ?_)
  | (with_reducible exact ed_dnew)
  | (with_reducible refine ed_lst ?_ (by simp only [List.length_cons, List.length_nil]; omega))
  | (with_reducible refine ed_tup ?_ (by simp only [List.length_cons, List.length_nil]; omega)))))
namespace Z
open PySem PySem.Spec PyProof.Rows L2 Evl
/-! ### texts and draws -/
def tJoin (K : PySem.W.Frag) : TE → TE → TE := tM1 (fun x xs H Q => ∃ a p, ∃ ys : List Str, x = .str a ∧ xs = [.ref p] ∧ (SqL K H p (ys.map V.str) ∨ SqT K H p (ys.map V.str)) ∧
      (ys.map (·.length)).sum + ys.length * a.length ≤ 16777216 ∧ Q (.str (Txt.join a ys)) H)
theorem toL_joinL0 : ∀ l : List Nat, TL.joinL [] (l.map fun c => [c]) = l
  | [] => rfl
  | [c] => rfl
  | c :: d :: r => by
    have ih := toL_joinL0 (d :: r)
    show [c] ++ ([] ++ TL.joinL [] ((d :: r).map fun c => [c])) = c :: d :: r
    rw [ih]
    rfl
theorem join_signs (l : List Nat) : Txt.join (SX.S []) (l.map fun c => SX.S [c]) = SX.S l := by
  have h := SX.join_S [] (l.map fun c => [c])
  rw [List.map_map] at h
  rw [toL_joinL0] at h
  exact h
theorem sum_ones (l : List Nat) : ((l.map fun c => SX.S [c]).map (·.length)).sum = l.length := by
  induction l with
  | nil => rfl
  | cons a r ih =>
    rw [List.map_cons, List.map_cons, List.sum_cons, ih, List.length_cons]
    show 1 + r.length = r.length + 1
    omega
theorem atI_emod {α : Type} (l : List α) (x : Int) (d : α) {n : Int} (hn : n = l.length) (h : 0 < n) : atI l (x % n) = some (l.getD (x % n).toNat d) := by
  have h1 := Int.emod_nonneg x (show n ≠ 0 by omega)
  have h2 := Int.emod_lt_of_pos x h
  have hl : (x % n).toNat < l.length := by omega
  have e : x % n = (((x % n).toNat : Nat) : Int) := by omega
  have g : l[(x % n).toNat]? = some (l.getD (x % n).toNat d) := by
    rw [List.getD_eq_getElem?_getD, List.getElem?_eq_getElem hl]
    rfl
  have q := atI_nat g
  rw [← e] at q
  exact q
theorem getD_mem {α : Type} {l : List α} {i : Nat} {d : α} (h : i < l.length) : l.getD i d ∈ l := by
  rw [List.getD_eq_getElem?_getD, List.getElem?_eq_getElem h]
  exact List.getElem_mem h
theorem emod_lt_len {α : Type} {l : List α} (x : Int) {n : Int} (hn : n = l.length) (h : 0 < n) : (x % n).toNat < l.length := by
  have h1 := Int.emod_nonneg x (show n ≠ 0 by omega)
  have h2 := Int.emod_lt_of_pos x h
  omega
theorem emod_bd (x : Int) {n : Int} (h : 0 < n) : 0 ≤ x % n ∧ x % n < n := ⟨Int.emod_nonneg x (by omega), Int.emod_lt_of_pos x h⟩
theorem map_str_S (l : List Nat) : (l.map fun c => SX.S [c]).map V.str = l.map fun c => V.str ⟨#[c]⟩ := by
  rw [List.map_map]
  rfl
section
variable {K : PySem.W.Frag} {σ : L2.St} {H H' : Hp} {ta tb te tx : TE} {D : Ends}
theorem ev_joinP {a : Str} {ys : List Str} {p : Addr} (ha : Ev ta σ H (.str a)) (hb : Ev tb σ H (.ref p)) (hs : H p = some (.lst (ys.map V.str))) (hl : (ys.map (·.length)).sum + ys.length * a.length ≤ 16777216) : Ev (tJoin K ta tb) σ H (.str (Txt.join a ys)) := fun H1 e Q q =>
  ha H1 e _ fun H2 e2 => ⟨⟨a, rfl⟩, hb H2 (e.trans e2) _ fun H3 e3 => ⟨a, p, ys, rfl, rfl, .inl (SqL.of (((e.trans e2).trans e3) _ _ hs)), hl, q H3 (e2.trans e3)⟩⟩
/-- "".join of a list of signs -/
theorem ev_joinSigns {l : List Nat} {p : Addr} (hb : Ev tb σ H (.ref p)) (hs : H p = some (.lst (l.map fun c => V.str ⟨#[c]⟩))) (hl : l.length ≤ 1000000) : Ev (tJoin K (tC (.str "")) tb) σ H (.str (SX.S l)) := by
  refine ev_is (ev_joinP (a := SX.S []) (ys := l.map fun c => SX.S [c]) (ev_is ev_c rfl) hb (by rw [map_str_S]; exact hs) ?_) (by rw [join_signs])
  rw [sum_ones, List.length_map]
  show l.length + l.length * 0 ≤ 16777216
  omega
/-- "abc"[x % n] -/
theorem ev_sign {w : Str} {x n : Int} (ha : Ev ta σ H (.str w)) (hb : Ev tb σ H (.int (x % n))) (hn : n = w.cps.toList.length) (h : 0 < n) (hw : w.length ≤ 100000) : Ev (tOp (rIxA K) ta tb) σ H (.str ⟨#[w.cps.toList.getD (x % n).toNat 0]⟩) :=
  ev_op ha hb (rv_itS hw (atI_emod _ x 0 hn h))
end
section
variable {K : PySem.W.Frag} {σ : L2.St} {H H' : Hp} {ta tb te tx : TE} {tl : TE} {D : Ends} {tu tz : TS}
/-- for c in a text -/
theorem s_forS {a : Str} {j : Nat} (h : Ev tl σ H (.str a)) (Pv : Nat → L2.St → Hp → Prop) (h0 : ∀ H1, Ex H H1 → Pv 0 σ H1)
    (hs : ∀ i c σ' H', a.cps.toList[i]? = some c → Pv i σ' H' → tu { D with nx := Pv (i + 1), ct := Pv (i + 1), bk := D.nx } (σ'.set j (some (.str ⟨#[c]⟩))) H') (hd : ∀ σ' H', Pv a.cps.toList.length σ' H' → D.nx σ' H') : tFor (iStr tl) (gName j) tu D σ H := by
  refine h H (Ex.refl H) _ fun H1 e => ⟨a, rfl, ?_⟩
  refine ⟨fun i m σ' H' => m = a.cps.toList.length - i ∧ i ≤ a.cps.toList.length ∧ Pv i σ' H', ⟨a.cps.toList.length, by simp, Nat.zero_le _, h0 H1 e⟩, ?_⟩
  rintro i m σ' H' ⟨rfl, hi, p⟩
  by_cases hlt : i < a.cps.toList.length
  · refine .inr ⟨show i < a.cps.size by simpa using hlt, fun σ2 H2 => Pv (i + 1) σ2 H2, fun σ2 H2 p2 => ⟨a.cps.toList.length - (i + 1), by omega, rfl, hlt, p2⟩, ?_⟩
    rintro x2 H2 ⟨rfl, c, hc, rfl⟩
    exact hs i c σ' _ (by rw [Array.getElem?_toList]; exact hc) p
  · have e0 : i = a.cps.toList.length := by omega
    subst e0
    exact .inl ⟨show a.cps.size ≤ a.cps.toList.length by simp, hd σ' H' p⟩
theorem q_forS {a : Str} {j : Nat} (h : Ev tl σ H (.str a)) (Pv : Nat → L2.St → Hp → Prop) (h0 : ∀ H1, Ex H H1 → Pv 0 σ H1)
    (hs : ∀ i c σ' H', a.cps.toList[i]? = some c → Pv i σ' H' → tu { D with nx := Pv (i + 1), ct := Pv (i + 1), bk := tz D } (σ'.set j (some (.str ⟨#[c]⟩))) H') (hd : ∀ σ' H', Pv a.cps.toList.length σ' H' → tz D σ' H') : tSeq (tFor (iStr tl) (gName j) tu) tz D σ H := s_forS (D := { D with nx := tz D }) h Pv h0 hs hd
/-- {i: v}, v no object -/
theorem ed_disp1 {i : Int} {v : V} {d : PyData} (hk : Ev ta σ H (.int i)) (hv : Ev tb σ H v) (hd : ∀ H, Dt H v d) : EvD (tDisp ((ta, tb) :: [])) σ H (.dict [(.int i, d)]) := fun H1 e0 Q q p hp => by
  show ta σ (upd H1 p (.dK [])) _
  have e1 : Ex H1 (upd H1 p (.dK [])) := Ex.new hp
  refine hk _ (e0.trans e1) _ fun H2 e2 => hv H2 ((e0.trans e1).trans e2) _ fun H3 e3 => ⟨(e2.trans e3) _ _ upd_same, [(.inl i, v)], rfl, (show 1 ≤ 15 by decide), ?_⟩
  refine q _ _ (Ex.mut ((e1.trans e2).trans e3) hp) ?_
  exact .dct (kvs := [(.inl i, v)]) (ds := [d]) upd_same (.cons (hd _) .nil)
/-- xs[i] = v -/
theorem s_setA {l : Addr} {xs : List V} {j : Nat} {v : V} (hl : H l = some (.lst xs)) (h : Ev te σ H v) (ho : Ev ta σ H (.ref l)) (hi : Ev tb σ H (.int (j : Int))) (hj : j < xs.length) (k : ∀ H1, Ex H H1 → D.nx σ (upd H1 l (.lst (xs.set j v)))) :
    tAsg te (gSub ta tb rSetA) D σ H := h H (Ex.refl H) _ fun H1 e1 => ho H1 e1 _ fun H2 e2 => hi H2 (e1.trans e2) _ fun H3 e3 =>
  .inl ⟨l, xs, (j : Int), j, rfl, rfl, ((e1.trans e2).trans e3) l _ hl, ixN_nat hj, k H3 ((e1.trans e2).trans e3)⟩
end
/-! ### _law_cell -/
def cellV (ns : List Int) (k : Nat) : Int :=
  if k < ns.length then ns.getD k 0
  else ((if 0 < ns.length then ns.getD (k % ns.length) 0 % 2147483647 else 41) + (k : Int) * k + 5) * (48271 + 16807 * (k : Int)) % 2147483629
def sp_law_cell (K : PySem.W.Frag) : Sp := fun vs H Q _ => ∃ (l : Addr) (ns : List Int) (j : Nat), vs = [.ref l, .int (j : Int)] ∧ SqL K H l (ns.map V.int) ∧ j ≤ 100000 ∧ RetV (.int (cellV ns j)) H Q
def t_law_cell (K : PySem.W.Frag) (E : XK) : TS :=
  tSeq (tIfS (tTest (tOp rLtA (tVar 1) (tCB (rLenA K) (tCons (tVar 0) tNil)))) (tRet (tOp (rIxA K) (tVar 0) (tVar 1))) tNext)
    (tSeq (tAsg (tC (.int 41)) (gName 2))
    (tSeq (tIfS (tTest (tOp rGtA (tCB (rLenA K) (tCons (tVar 0) tNil)) (tC (.int 0)))) (tAsg (tOp rModA (tOp (rIxA K) (tVar 0) (tOp rModA (tVar 1) (tCB (rLenA K) (tCons (tVar 0) tNil)))) (tC (.int 2147483647))) (gName 2)) tNext)
    (tRet (tOp rModA (tOp (rMulA K) (tOp (rAddA K) (tOp (rAddA K) (tVar 2) (tOp (rMulA K) (tVar 1) (tVar 1))) (tC (.int 5))) (tOp (rAddA K) (tC (.int 48271)) (tOp (rMulA K) (tC (.int 16807)) (tVar 1)))) (tC (.int 2147483629))))))
theorem ints_at {ns : List Int} {k : Nat} (h : k < ns.length) : atI (ns.map V.int) (k : Int) = some (.int (ns.getD k 0)) := by
  refine atI_nat ?_
  rw [List.getElem?_map, List.getElem?_eq_getElem h, List.getD_eq_getElem?_getD, List.getElem?_eq_getElem h]
  rfl
theorem r_law_cell {K : PySem.W.Frag} (vs : List V) (H : Hp) (Q : VK) (E : XK) (h : sp_law_cell K vs H Q E) : t_law_cell K E { nx := fun _ H' => Q .non H', rt := Q } (L2.start ["script", "k", "seed"] vs) H := by
  obtain ⟨l, ns, j, rfl, hl, hj, k⟩ := h
  unfold t_law_cell
  have hlen : ∀ {σ : L2.St} {H1 : Hp}, σ[0]? = some (some (V.ref l)) → Ex H H1 → Ev (tCB (rLenA K) (tCons (tVar 0) tNil)) σ H1 (.int ns.length) := fun h0 e => by
    have := ev_lenV (ta := tVar 0) (ev_var h0) (rc_lenL (K := K) (ex_l e hl))
    rw [List.length_map] at this
    exact this
  refine q_when (et_test (ev_op (ev_var rfl) (hlen rfl (Ex.refl H)) rv_lt)) (fun hb H1 e1 => ?_) (fun hb H1 e1 => ?_)
  · have hb := of_decide_eq_true hb
    refine s_ret (ev_op (ev_var rfl) (ev_var rfl) (rv_itL (ex_l e1 hl) (ints_at (show j < ns.length by omega)))) fun H2 e2 => ?_
    unfold RetV cellV at k
    rw [if_pos (by omega)] at k
    exact k H2 (e1.trans e2)
  · have hb := of_decide_eq_false hb
    refine q_asg ev_c fun H2 e2 => ?_
    refine q_ifAsg (v := .int (if 0 < ns.length then ns.getD (j % ns.length) 0 % 2147483647 else 41)) (et_test (ev_op (hlen rfl (e1.trans e2)) ev_c rv_gt)) (fun hp => ?_) (fun hp => ?_) fun H3 e3 => ?_
    · have hp := of_decide_eq_true hp
      have hp : 0 < ns.length := by omega
      rw [if_pos hp]
      refine ev_op (ev_op (ev_var rfl) (ev_is (ev_op (ev_var rfl) (hlen rfl (e1.trans e2)) (rv_mod (by omega))) (by rw [← Int.natCast_emod])) (rv_itL (ex_l (e1.trans e2) hl) (ints_at (Nat.mod_lt _ hp)))) ev_c (rv_mod (by decide))
    · have hp := of_decide_eq_false hp
      rw [if_neg (by omega)]
      rfl
    · generalize hs : (if 0 < ns.length then ns.getD (j % ns.length) 0 % 2147483647 else 41) = sd at *
      have b : 0 ≤ sd ∧ sd < 2147483647 := by
        rw [← hs]
        split
        · exact emod_bd _ (by decide)
        · decide
      have j2 : (j : Int) * j < 2 ^ 40 ∧ 0 ≤ (j : Int) * j := by
        have h1 : j * j ≤ 100000 * 100000 := Nat.mul_le_mul hj hj
        have h2 : ((j * j : Nat) : Int) = (j : Int) * j := Int.natCast_mul j j
        rw [← h2]
        omega
      refine s_ret (ev_op (ev_op (ev_op (ev_op (ev_var rfl) (ev_op (ev_var rfl) (ev_var rfl) (rv_mulI (wide_mul (a := 20) (b := 20) (by omega) (by omega) (by decide) (by decide) (by decide)))) rv_addI) ev_c rv_addI) (ev_op ev_c (ev_op ev_c (ev_var rfl) (rv_mulI (wide_mul (a := 20) (b := 20) (by omega) (by omega) (by decide) (by decide) (by decide)))) rv_addI) (rv_mulI (wide_mul (a := 50) (b := 50) (by omega) (by omega) (by decide) (by decide) (by decide)))) ev_c (rv_mod (by decide))) fun H4 e4 => ?_
      unfold RetV cellV at k
      rw [if_neg (by omega), hs] at k
      exact k H4 (((e1.trans e2).trans e3).trans e4)
section
variable {K : PySem.W.Frag} {σ : L2.St} {H H' : Hp} {ta tb te tx : TE} {E : L2.St → XK}
theorem ev_cell {l : Addr} {ns : List Int} {j : Nat} (ha : Ev ta σ H (.ref l)) (hb : Ev tb σ H (.int (j : Int))) (hl : SqL K H l (ns.map V.int)) (hj : j ≤ 100000) : Ev (tCallS (sp_law_cell K) E (tCons ta (tCons tb tNil))) σ H (.int (cellV ns j)) :=
  ev_callS (ea_cons ha (ea_cons hb ea_nil)) fun H1 e Q q E => ⟨l, ns, j, rfl, ex_l e hl, hj, fun H2 e2 => q H2 e2⟩
end
/-! ### often wanted -/
theorem lt60 {i : Int} (h : -(10 ^ 62) < i) (h2 : i < 10 ^ 62) : i.natAbs.log2 < 1000 := by
  refine PySem.Flt.log2_lt_of (by decide) (Nat.lt_trans (m := 10 ^ 62) (by omega) (by decide +kernel))
theorem name_of {l : List Nat} (h1 : 1 ≤ l.length) (h2 : l.length ≤ 8) (h : ∀ c ∈ l, c ∈ lets) : isName (SX.S l) = true := by
  unfold isName
  rw [decide_eq_true (by rw [SX.S_len]; exact ⟨h1, h2⟩), Bool.true_and]
  exact List.all_eq_true.mpr fun c hc => decide_eq_true (h c hc)
theorem name_len {z : Str} (h : isName z = true) : 1 ≤ z.length ∧ z.length ≤ 8 := by
  unfold isName at h
  exact of_decide_eq_true (Bool.and_eq_true_iff.mp h).1
theorem isFault_pair (f : Str) (w : PyData) : isFaultD (.tuple [.str f, w]) = (decide (f = ("fault" : Str)) && isNameD w) := rfl
theorem lets_lt : ∀ c ∈ lets, c < 128 := by decide +kernel
theorem name_ok {z : Str} (h : isName z = true) : okS z := by
  have := name_len h
  unfold isName at h
  refine okS_of (by omega) fun c hc => lets_lt c ?_
  exact of_decide_eq_true (List.all_eq_true.mp (Bool.and_eq_true_iff.mp h).2 c hc)
theorem okF : okS "fault" := ⟨by decide +kernel, by decide +kernel⟩
theorem okS_rep {z : Str} (h : okS z) {n : Int} (hn : z.length * n.toNat ≤ 30000) : okS (repS z n) := by
  unfold repS
  have e : z.cps.toList.length = z.length := by simp [Str.length]
  refine ⟨?_, ?_⟩
  · rw [SX.S_len, List.length_flatten, List.map_replicate, e]
    have : ∀ n : Nat, (List.replicate n z.length).sum = z.length * n := fun n => by
      induction n with
      | zero => rfl
      | succ n ih => rw [List.replicate_succ, List.sum_cons, ih, Nat.mul_succ, Nat.add_comm]
    rw [this]
    exact hn
  · show ((List.replicate n.toNat z.cps.toList).flatten).toArray.all (· < 1114112) = true
    rw [List.all_toArray]
    refine List.all_eq_true.mpr fun c hc => ?_
    obtain ⟨l, h1, h2⟩ := List.mem_flatten.mp hc
    rw [List.eq_of_mem_replicate h1] at h2
    have h3 := h.cps
    rw [← Array.all_toList] at h3
    exact List.all_eq_true.mp h3 c h2
theorem isNum_iff (x : Int) : isNumD (.int x) = decide (-(10 ^ 60) < x ∧ x < 10 ^ 60) := rfl
theorem ev_chainT {K : PySem.W.Frag} {σ : L2.St} {H : Hp} {ta tb tx : TE} {i j k : Int} (ha : Ev ta σ H (.int i)) (hb : Ev tb σ H (.int j)) (hc : Ev tx σ H (.int k)) : Ev (tChain rLtA rLtA ta tb tx) σ H (.bl (decide (i < j) && decide (j < k))) :=
  ev_chainI (g := fun a b => decide (a < b)) (g' := fun a b => decide (a < b)) ha hb hc
theorem len_is_whole {K : PySem.W.Frag} (vs : List V) (H : Hp) (Q : VK) (E : XK) (h : sp_is_whole K vs H Q E) : vs.length = 1 := by obtain ⟨_, _, rfl, _⟩ := sp1_open h; rfl
theorem len_is_name {K : PySem.W.Frag} (vs : List V) (H : Hp) (Q : VK) (E : XK) (h : sp_is_name K vs H Q E) : vs.length = 1 := by obtain ⟨_, _, rfl, _⟩ := sp1_open h; rfl
theorem len_is_fault {K : PySem.W.Frag} (vs : List V) (H : Hp) (Q : VK) (E : XK) (h : sp_is_fault K vs H Q E) : vs.length = 1 := by obtain ⟨_, _, rfl, _⟩ := sp1_open h; rfl
theorem len_is_number {K : PySem.W.Frag} (vs : List V) (H : Hp) (Q : VK) (E : XK) (h : sp_is_number K vs H Q E) : vs.length = 1 := by obtain ⟨_, _, rfl, _⟩ := sp1_open h; rfl
theorem len_is_value {K : PySem.W.Frag} (vs : List V) (H : Hp) (Q : VK) (E : XK) (h : sp_is_value K vs H Q E) : vs.length = 1 := by obtain ⟨_, _, rfl, _⟩ := sp1_open h; rfl
theorem len_law_cell {K : PySem.W.Frag} (vs : List V) (H : Hp) (Q : VK) (E : XK) (h : sp_law_cell K vs H Q E) : vs.length = 2 := by obtain ⟨_, _, _, rfl, _⟩ := h; rfl
end Z

set_option Elab.async false
set_option linter.all false
set_option autoImplicit false
set_option maxRecDepth 100000
set_option maxHeartbeats 4000000
/-! ev: what an expression comes to, by its form -/
local macro_rules | `(tactic| k_places) => `(tactic| (repeat' (first
  | (with_reducible exact ev_c)
  | (with_reducible exact ev_var rfl)
  | (with_reducible refine ev_chainLL ?_ ?_ ?_)
  | (with_reducible refine ev_chainLt ?_ ?_ ?_)
  | (with_reducible refine ev_op ?_ ?_ ?_)
  | (with_reducible refine ev_neg ?_)
  | (with_reducible refine et_test ?_)
  | (with_reducible refine et_B ?_)
  | (with_reducible refine et_not ?_)
  | (with_reducible refine et_and ?_ (fun _ => ?_))
  | (with_reducible refine et_or ?_ (fun _ => ?_))
  | (with_reducible refine ev_andV ?_ (fun _ => ?_))
  | (with_reducible refine ev_orV ?_ (fun _ => ?_))
  | (with_reducible refine ev_notV ?_)
  | (with_reducible exact rv_addI)
  | (with_reducible exact rv_subI)
  | (with_reducible exact rv_lt)
  | (with_reducible exact rv_le)
  | (with_reducible exact rv_gt)
  | (with_reducible exact rv_ge)
  | (with_reducible exact rv_isB)
  | (with_reducible exact rv_isnB)
  | (with_reducible exact rv_isN)
  | (with_reducible exact rv_isnN)
  | (with_reducible exact rv_eqS rfl)
  | (with_reducible exact rv_neS rfl)
  | (with_reducible exact rv_inStr)
  | (with_reducible exact rv_ninStr)
  | (with_reducible exact rv_mod (by first | decide | omega | assumption))
  | (with_reducible exact rv_div (by first | decide | omega | assumption))
  | (with_reducible exact rv_pow (by decide))
  | (with_reducible refine ed_i ?_; done)
  | (with_reducible exact ea_nil)
  | (with_reducible refine ea_cons ?_ ?_)
  | (with_reducible exact eds_nil)
  | (with_reducible refine eds_cons ?_ ?_)
  | (with_reducible exact ed_dnew)
  | (with_reducible refine ed_lst ?_ (by simp only [List.length_cons, List.length_nil]; omega))
  | (with_reducible refine ed_tup ?_ (by simp only [List.length_cons, List.length_nil]; omega)))))
namespace Z
open PySem PySem.Spec PyProof.Rows L2 Evl
/-! ### a caught exception that is kept by a name -/
def exA (a : Addr) (cls : Value) (d : Option Addr) : HO := .ext fun h => ∃ o : Obj, h.get? a = some o ∧ o.cls = cls ∧ o.dict = d ∧ ∃ vs, o.data = .fields vs
theorem exA_ok {P : Program} {w : World} {H : Hp} {h : Heap} {a : Addr} {cls : Value} {d : Option Addr} {o : Obj} (e : h.get? a = some o) (z : Zc cls d o) (f : ∃ vs, o.data = .fields vs) : ObjOk P w H h a (exA a cls d) :=
  ⟨⟨o, e, z.1, z.2, f⟩, ⟨o, e⟩, fun _ _ ⟨o, e, r⟩ k => ⟨o, k o e, r⟩⟩
theorem exA_at {P : Program} {w : World} {H : Hp} {h : Heap} {a : Addr} {cls : Value} {d : Option Addr} (ok : HOk P w H h) (e : H a = some (exA a cls d)) : ∃ o : Obj, h.get? a = some o ∧ o.cls = cls ∧ o.dict = d ∧ ∃ vs, o.data = .fields vs := by
  have x := ok a _ e
  exact x.1
section
variable {X : Cx} {pins : List (Addr × Obj)} {σ : L2.St} {H : Hp} {s : Shared}
/-- an object that was only known by its place is written into the heap that is told -/
theorem inv_track {a : Addr} {oe : Obj} {cls : Value} {d : Option Addr} (I : Inv X ((a, oe) :: pins) σ H s) (z : Zc cls d oe) (f : ∃ vs, oe.data = .fields vs) (h0 : X.s_0.heap.get? a = none) (hp : ∀ p ∈ X.pn ++ pins, p.1 ≠ a) : Inv X pins σ (upd H a (exA a cls d)) s := by
  obtain ⟨ga, na, nL, nF, nC⟩ := I.pin (a, oe) (List.mem_append_right _ List.mem_cons_self)
  have ga : s.heap.get? a = some oe := ga
  have na : H a = none := na
  have nL : a ≠ X.env.locals := nL
  refine ⟨I.ok, I.os, I.bare, ⟨I.base.keep, I.base.slot, fun b o e n hx => ?_, I.base.there, fun b xs e => ?_, fun b o u e => ?_, fun b ps e => ?_⟩, I.loc, I.cell, ?_, fun x c e => ?_, fun p hq => ?_, fun b o e => ?_, I.len⟩
  · have hb : b ≠ a := fun q => by rw [q, h0] at e; cases e
    rw [upd_ne hb]
    exact I.base.free b o e n hx
  · have q := I.base.tups b xs e
    rw [upd_ne (ne_of_none q na)]
    exact q
  · have q := I.base.frzs b o u e
    rw [upd_ne (ne_of_none q na)]
    exact q
  · obtain ⟨m, q⟩ := I.base.tbls b ps e
    exact ⟨m, by rw [upd_ne (ne_of_none q na)]; exact q⟩
  · rw [upd_ne (Ne.symm nL)]
    exact I.free
  · have hc : c ≠ a := fun q => by
      obtain ⟨v, o, ho, hd⟩ := I.cell x c e
      rw [q, ga] at ho
      cases ho
      obtain ⟨vs, hv⟩ := f
      rw [hv] at hd
      cases hd
    rw [upd_ne hc]
    exact I.freeC x c e
  · obtain ⟨g, n, l1, l2, l3⟩ := I.pin p (by
      rcases List.mem_append.mp hq with q | q
      · exact List.mem_append_left _ q
      · exact List.mem_append_right _ (List.mem_cons_of_mem _ q))
    refine ⟨g, ?_, l1, l2, l3⟩
    rw [upd_ne (hp p hq)]
    exact n
  · by_cases hb : b = a
    · subst hb
      rw [upd_same] at e
      cases e
      exact exA_ok ga z f
    · rw [upd_ne hb] at e
      refine (I.hok b o e).stay (fun _ _ _ q => q) (fun c q => ?_) fun c xs q => ?_
      · rw [upd_ne (ne_of_none q na)]
        exact q
      · rw [upd_ne (ne_of_none q na)]
        exact q
end
/-- what «except x as n: y = n» wishes of an exception of the body: slots i of n, j of y -/
def wKeep (K : PySem.W.Frag) (c : Value) (i j : Nat) (Wout : WX) (D : Ends) : WX := fun cls d σ H =>
  ∃ b, PySem.W.exmOne K cls c = some b ∧ (b = true → ∀ a, H a = none → D.nx (((σ.set i (some (.ref a))).set j (some (.ref a))).set i none) (upd H a (exA a cls d))) ∧ (b = false → Wout cls d σ H)
def tTryK (K : PySem.W.Frag) (c : Value) (i j : Nat) (Wout : WX) (tb : WX → TS) : TS := fun D σ H => tb (wKeep K c i j Wout D) D σ H
section
variable {X : Cx} {x n y : Str} {c : Value} {i j : Nat} {body : List Stmt} {np pos pos' py pn' pa : Pos} {tb : WX → TS} {Wout : WX}
theorem ps_try_keep (hs : X.stack = X.env :: X.outer) (hf : X.env.frame = some X.env.locals) (hex : X.ex = []) (hN : X.N.Nodup) (hi : X.N[i]? = some n) (hln : X.env.scope.names.lookup n = some .local) (hj : X.N[j]? = some y) (hly : X.env.scope.names.lookup y = some .local) (hc : Names X x c) (tk : Takes X Wout)
    (hb : ∀ (W : WX) (pn : List (Addr × Obj)) (xe : Value → Shared → Prop), Takes (X.tr pn xe) W → PassesOwn (model X.prog X.w) X.A X.env xe → PSs (X.tr pn xe) body (tb W))
    (hd1 : (n == ("__debug__" : Str)) = false := by decide) (hd2 : (n == ("__classdict__" : Str)) = false := by decide) (hsw : swapsWith (.Name n pn') (some (.Name y py)) pa.line X.env = pure false := by rfl) :
    PS X (.Try body [.ExceptHandler (some (.Name x np)) (some n) [.Assign [.Name y py] (.Name n pn') pa] pos'] [] [] pos) (tTryK X.K c i j Wout tb) := by
  refine ⟨fun pins s σ H D I h => ?_⟩
  have ok := I.ok
  have ih : i < σ.length := by rw [I.len]; exact (List.getElem?_eq_some_iff.mp hi).1
  have stk : X.A.frames = some (X.env :: X.outer) := by rw [ok.frames, hs]
  refine wpAny_Try_except (wpAny_mono ((hb (wKeep X.K c i j Wout D) (X.pn ++ pins) _ (fun u s' xx => ?caught) PassesOwn.looking).run [] s σ H D (I.toTry _) h) (fun f s1 hsp => ?thru) (fun e s1 he => he))
  case thru =>
    cases f with
    | next =>
      obtain ⟨σ', H', J, q⟩ := hsp
      exact wpAny_execs_nil ⟨σ', H', J.ofTry ok, q⟩
    | brk =>
      obtain ⟨σ', H', J, q⟩ := hsp
      exact ⟨σ', H', J.ofTry ok, q⟩
    | cont =>
      obtain ⟨σ', H', J, q⟩ := hsp
      exact ⟨σ', H', J.ofTry ok, q⟩
    | ret u =>
      obtain ⟨v, σ', H', J, r, q⟩ := hsp
      exact ⟨v, σ', H', J.ofTry ok, r, q⟩
  case caught =>
    obtain ⟨a, B, sI, pins', σ', H', cls, d, rfl, J', nb, up, sky, na, os, ag, b, hb1, hyes, hno⟩ := xx
    have J : Inv X pins σ' H' sI := J'.ofTry ok
    rw [hs] at sky nb
    show wpAny (model X.prog X.w) X.A (noteFrame (.ref a) X.env) _ _ _
    refine Sky.land Zc.steady stk hf sky fun h3 fl3 up3 => ?_
    have J3 : Inv X pins σ' H' { s' with heap := h3 } := J.landed (by rw [hs]; exact nb) fl3.1 (up.trans up3) os ag
    obtain ⟨oe3, vs3, he3, hz3, hd3⟩ := fl3.there
    have off : a ∉ frs (X.env :: X.outer) := fun hm => by
      obtain ⟨_, o', e', hnf⟩ := fl3.2.2.1.mem hm
      rw [he3] at e'
      cases e'
      exact hnf _ hd3
    have nL : a ≠ X.env.locals := fun q => off (List.mem_filterMap.mpr ⟨X.env, List.mem_cons_self, by rw [hf, q]⟩)
    have nF : a ∉ X.fs := fun hm => by
      obtain ⟨e, he, q⟩ := List.mem_filterMap.mp hm
      exact off (List.mem_filterMap.mpr ⟨e, List.mem_cons_of_mem _ he, q⟩)
    have newI : sI.heap.get? a = none := by
      cases q : sI.heap.get? a with
      | none => rfl
      | some o =>
        have z := nb a o q off
        rw [fl3.2.1] at z
        cases z
    have new0 : X.s_0.heap.get? a = none := by
      cases q : X.s_0.heap.get? a with
      | none => rfl
      | some o =>
        obtain ⟨o', e'⟩ := J.base.there a o q (by rw [hex]; simp)
        rw [newI] at e'
        cases e'
    have pinsNe : ∀ p ∈ X.pn ++ pins, p.1 ≠ a := fun p hp q => by
      have z := (J.pin p hp).1
      rw [q, newI] at z
      cases z
    have S3 := J3.suite he3 hd3 na nL nF
    refine wpAny_handleBy_cons (codeAny_handlers_test ?_) (by intro q; cases q)
    have LT : PySem.W.Looks (model X.prog X.w) h3 (typeOf (.ref a)) cls := fun A Q E s k q => wpAny_typeOf_ref (k _ _ he3) (by rw [hz3.1]; exact q)
    have LM := PySem.W.exm_one (M := model X.prog X.w) J3.kIn LT hb1
    have test : ∀ {Q : Value → Shared → Prop} {E : Value → Shared → Prop}, Q c { s' with heap := h3 } → wpAny (model X.prog X.w) (X.A.mark (some (.ref a))) (eval (.Name x np) X.env) Q E { s' with heap := h3 } := fun {Q E} q => by
      obtain ⟨hg, hdb, hm | ⟨hm, hv, hnn⟩⟩ := hc
      · exact ld_glob (X := X.suite a ((a, oe3) :: (X.pn ++ pins))) S3 hg hm q hdb
      · exact ld_blt (X := X.suite a ((a, oe3) :: (X.pn ++ pins))) S3 hg hm hv q hnn hdb
    refine test (LM.here ?_)
    cases b with
    | false =>
      show wpAny _ X.A (handleBy (.ref a) X.env []) _ _ _
      refine wpAny_handleBy_nil ?_
      obtain ⟨k1, k2, k3, oe, vs, T, oT, ts', he, hz, hd, h1, hr⟩ := id fl3
      unfold PySem.passOn
      refine wpAny_bind (wpAny_field he hd h1 ?_)
      rw [if_neg (show ¬ ((Value.ref T == Value.none) = true) from by simp)]
      have fin : wpAny (model X.prog X.w) X.A (setFlight (.ref a) X.env.frame) (fun _ s4 => wpAny (model X.prog X.w) X.A (throw (.ref a) : Sem Flow) (SP X pins D) X.xe s4) X.xe { s' with heap := h3 } := by
        rw [hf]
        refine HandSPX.setFlight_upZ fl3 fun h4 hh4 up4 => wpAny_throw (tk _ _ ?_)
        exact ⟨a, B, sI, pins, σ', H', cls, d, rfl, J, by rw [hs]; exact nb, (up.trans up3).trans up4, .inr (.inr (by rw [hs]; exact hh4)), na, os, ag, hno rfl⟩
      first
        | exact wpAny_bind (wpAny_pure (wpAny_bind fin))
        | exact wpAny_bind fin
    | true =>
      refine codeAny_handlers_suite_as (HandSPX.lands_againZ fl3 fun h4 fl4 up4 => ?_)
      have J4 : Inv X pins σ' H' { s' with heap := h4 } := J.landed (by rw [hs]; exact nb) fl4.1 ((up.trans up3).trans up4) os ag
      obtain ⟨oe4, vs4, he4, hz4, hd4⟩ := fl4.there
      have S4 := J4.suite he4 hd4 na nL nF
      refine store_ok (X := X.suite a ((a, oe4) :: (X.pn ++ pins))) (v := .ref a) S4 hN hi (.inl hln) rfl (fun s5 S5 => ?_) (.inr hln)
      have body1 : PSs (X.suite a ((a, oe4) :: (X.pn ++ pins))) [.Assign [.Name y py] (.Name n pn') pa] (tAsg (tVar i) (gName j)) :=
        pss_one (ps_set (X := X.suite a ((a, oe4) :: (X.pn ++ pins))) (i := j) hN hj (.inl hly) (pe_var hi (.inl hln) hd1 hd2) hsw (.inr hly))
      have ih' : i < σ'.length := by rw [J.len]; exact (List.getElem?_eq_some_iff.mp hi).1
      refine wpAny_mono (body1.run [] s5 _ H' { nx := fun σ6 H6 => σ6 = (σ'.set i (some (.ref a))).set j (some (.ref a)) ∧ H6 = H', rt := fun _ _ => False } S5 ⟨.ref a, by rw [List.getElem?_set_self ih'], rfl, rfl⟩) (fun f s6 hsp => ?_) (fun _ _ z => False.elim z)
      cases f with
      | next =>
        obtain ⟨σ6, H6, S6, e6, eH⟩ := hsp
        subst e6 eH
        have pa6 := S6.pin (a, oe4) (List.mem_append_left _ List.mem_cons_self)
        have K6 : Inv X ((a, oe4) :: pins) ((σ'.set i (some (.ref a))).set j (some (.ref a))) H6 s6 := by
          refine (S6.unsuite ok).pins_of fun p hp => ?_
          rcases List.mem_cons.mp hp with e | hp
          · rw [e]
            exact pa6
          · exact S6.pin p (List.mem_append_left _ (List.mem_cons_of_mem _ (List.mem_append_right _ hp)))
        refine gone_ok K6 hN hi hln fun s7 J7 => ⟨_, _, inv_track J7 hz4 ⟨_, hd4⟩ new0 pinsNe, hyes rfl a na⟩
      | brk =>
        obtain ⟨_, _, _, z⟩ := hsp
        exact False.elim z
      | cont =>
        obtain ⟨_, _, _, z⟩ := hsp
        exact False.elim z
      | ret u =>
        obtain ⟨_, _, _, _, _, z⟩ := hsp
        exact False.elim z
end
/-! ### isinstance of a kept exception -/
def rIsX (K : PySem.W.Frag) : List V → Hp → VK → Prop := fun xs H Q => ∃ (a D : Addr) (c : V) (u : Value) (b : Bool), xs = [.ref a, c] ∧ H a = some (exA a (.ref D) none) ∧ ExcC K D ∧ ClsV c u ∧ PySem.W.kitOne K (.ref D) u = some b ∧ Q (.bl b) H
theorem call_isX {X : Cx} : CallR X (.builtin "isinstance") (rIsX X.K) := by
  intro pins s σ H xs us Q I r h
  obtain ⟨a, D, c, u, b, rfl, ha, C, k, e, q⟩ := h
  obtain ⟨u1, u2, rfl, r1, r2⟩ := vals2 r
  have e2 := k.eq r2
  subst e2
  cases (show u1 = Value.ref a from r1)
  obtain ⟨⟨oc, od, oda, osl⟩, g, h1, h2, vs, h3⟩ := exA_at I.hok ha
  dsimp only at h1 h2 h3
  subst h1 h2 h3
  have J : PySem.W.InstAt s.heap a ⟨.ref D, none, .fields vs, osl⟩ D none := ⟨g, rfl, rfl, trivial⟩
  exact PySem.W.kia_one (PySem.W.handS_kitx_exc C.hg C.hk C.hs C.hd C.ha C.hn C.ht C.hm) I.kIn J e (fun z => nomatch z) fun tk => ⟨.bl b, H, I.tok tk, rfl, q⟩
/-! ### the program's classes -/
inductive Cn
  | ColsError | NoName | NoValue | NoTable | NoColumn | NoPlace | NoSize | NoText | NoRow | NoBack | TooMuch | Ruled | Ring | Nobody | Several
  | Table | Rule | Cells | Above | Group | Lookup | Mend | Sheet | View | Some | Ordered | Cut | Together | Beside | Desk | Shelf | Changes | Kept | Other
  deriving DecidableEq
/-- is D the class X, or below it: errors -/
def subE (D X : Cn) : Bool := D == X || X == .ColsError
/-- what is known of an error's class D, asked of the classes in L -/
structure ExK (K : PySem.W.Frag) (A : Cn → Addr) (L : List Cn) (D : Cn) : Prop where
  cc : ExcC K (A D)
  em : PySem.W.exmOne K (.ref (A D)) (.ref (A .ColsError)) = some true
  kt : ∀ X ∈ L, PySem.W.kitOne K (.ref (A D)) (.ref (A X)) = some (subE D X)
  kv : PySem.W.kitOne K (.ref (A D)) (.type "ValueError") = some true
theorem kit_of {K : PySem.W.Frag} {D X : Addr} {b : Bool} (i : PySem.W.isClsIn K X = true) (t : PySem.W.typeIn K (.ref X) = some (.type "type")) (s : PySem.W.subIn K (.ref D) (.ref X) = some b) (r : PySem.W.subIn K (.ref D) (.ref D) = some true) : PySem.W.kitOne K (.ref D) (.ref X) = some b := by
  unfold PySem.W.kitOne
  split
  · rename_i h
    have h : Value.ref D = Value.ref X := by simpa using h
    cases h
    rw [r] at s
    exact s
  · have e2 : ((PySem.W.clsIn K X).isSome && PySem.W.typeIn K (.ref X) == some (.type "type")) = true := by
      have h2' : (PySem.W.clsIn K X).isSome = true := i
      rw [h2', t] <;> rfl
    show (if ((PySem.W.clsIn K X).isSome && PySem.W.typeIn K (.ref X) == some (.type "type")) = true then PySem.W.subIn K (.ref D) (.ref X) else none) = some b
    rw [if_pos e2]
    exact s
theorem exm_of {K : PySem.W.Frag} {D X : Addr} {b : Bool} (h1 : PySem.W.subIn K (.ref X) (.type "BaseException") = some true) (i : PySem.W.isClsIn K X = true) (t : PySem.W.typeIn K (.ref X) = some (.type "type")) (s : PySem.W.subIn K (.ref D) (.ref X) = some b) : PySem.W.exmOne K (.ref D) (.ref X) = some b := by
  have e1 : (PySem.W.subIn K (.ref X) (.type "BaseException") == some true) = true := by rw [h1] <;> rfl
  have e2 : ((PySem.W.clsIn K X).isSome && PySem.W.typeIn K (.ref X) == some (.type "type")) = true := by
    have h2' : (PySem.W.clsIn K X).isSome = true := i
    rw [h2', t] <;> rfl
  show (if (PySem.W.subIn K (.ref X) (.type "BaseException") == some true) = true then (if ((PySem.W.clsIn K X).isSome && PySem.W.typeIn K (.ref X) == some (.type "type")) = true then PySem.W.subIn K (.ref D) (.ref X) else none) else none) = some b
  rw [if_pos e1, if_pos e2]
  exact s
theorem kitv_of {K : PySem.W.Frag} {D : Addr} (s : PySem.W.subIn K (.ref D) (.type "ValueError") = some true) : PySem.W.kitOne K (.ref D) (.type "ValueError") = some true := by
  unfold PySem.W.kitOne
  rw [if_neg (fun h => nomatch (show Value.ref D = Value.type "ValueError" by simpa using h))]
  show (if PySem.W.kitMeta "ValueError" = true then PySem.W.subIn K (.ref D) (.type "ValueError") else none) = some true
  rw [if_pos (by decide +kernel)]
  exact s
/-- raise X('..') -/
def tRaiseA (W : WX) (C : Addr) : TS := fun _ σ H => W (.ref C) none σ H
section
variable {K : PySem.W.Frag} {σ : L2.St} {H H' : Hp} {ta tb : TE} {D : Ends} {tz : TS} {A : Cn → Addr} {L : List Cn} {Dn X : Cn}
theorem rc_isX {a : Addr} (h : H a = some (exA a (.ref (A Dn)) none)) (E : ExK K A L Dn) (hX : X ∈ L) : RC (rIsX K) [.ref a, .ref (A X)] H (.bl (subE Dn X)) := fun H1 e Q q =>
  ⟨a, A Dn, .ref (A X), .ref (A X), subE Dn X, rfl, e a _ h, E.cc, .own _, E.kt X hX, q H1 (Ex.refl H1)⟩
theorem rc_isXV {a : Addr} (h : H a = some (exA a (.ref (A Dn)) none)) (E : ExK K A L Dn) : RC (rIsX K) [.ref a, .ty "ValueError"] H (.bl true) := fun H1 e Q q =>
  ⟨a, A Dn, .ty "ValueError", .type "ValueError", true, rfl, e a _ h, E.cc, .ty _, E.kv, q H1 (Ex.refl H1)⟩
theorem ev_isX {a : Addr} (ha : Ev ta σ H (.ref a)) (h : H a = some (exA a (.ref (A Dn)) none)) (E : ExK K A L Dn) (hX : X ∈ L) : Ev (tCB (rIsX K) (tCons ta (tCons (tC (.ref (A X))) tNil))) σ H (.bl (subE Dn X)) :=
  ev_cb (ea_cons ha (ea_cons ev_c ea_nil)) (rc_isX h E hX)
theorem ev_isXV {a : Addr} (ha : Ev ta σ H (.ref a)) (h : H a = some (exA a (.ref (A Dn)) none)) (E : ExK K A L Dn) : Ev (tCB (rIsX K) (tCons ta (tCons (tC (.ty "ValueError")) tNil))) σ H (.bl true) :=
  ev_cb (ea_cons ha (ea_cons ev_c ea_nil)) (rc_isXV h E)
/-- the try suite: what its body does is told for every wish W that the caught error's way on fulfils -/
theorem q_try {i j : Nat} {Wout : WX} {tbb : WX → TS} (h : ∀ W : WX, (∀ Dn : Cn, (∃ L, ExK K A L Dn) → ∀ H1, Ex H H1 → (∀ a, H1 a = none → tz D (((σ.set i (some (.ref a))).set j (some (.ref a))).set i none) (upd H1 a (exA a (.ref (A Dn)) none))) → W (.ref (A Dn)) none σ H1) → tbb W { D with nx := tz D } σ H) :
    tSeq (tTryK K (.ref (A .ColsError)) i j Wout tbb) tz D σ H :=
  h _ fun Dn ⟨L, E⟩ H1 _ k => ⟨true, E.em, fun _ a ha => k a ha, fun q => nomatch q⟩
end
end Z

set_option Elab.async false
set_option linter.all false
set_option autoImplicit false
set_option maxRecDepth 100000
set_option maxHeartbeats 4000000
/-! ev: what an expression comes to, by its form -/
local macro_rules | `(tactic| k_places) => `(tactic| (repeat' (first
  | (with_reducible exact ev_c)
  | (with_reducible exact ev_var rfl)
  | (with_reducible refine ev_chainLL ?_ ?_ ?_)
  | (with_reducible refine ev_chainLt ?_ ?_ ?_)
  | (with_reducible refine ev_op ?_ ?_ ?_)
  | (with_reducible refine ev_neg ?_)
  | (with_reducible refine et_test ?_)
  | (with_reducible refine et_B ?_)
  | (with_reducible refine et_not ?_)
  | (with_reducible refine et_and ?_ (fun _ => ?_))
  | (with_reducible refine et_or ?_ (fun _ => ?_))
  | (with_reducible refine ev_andV ?_ (fun _ => ?_))
  | (with_reducible refine ev_orV ?_ (fun _ => ?_))
  | (with_reducible refine ev_notV ?_)
  | (with_reducible exact rv_addI)
  | (with_reducible exact rv_subI)
  | (with_reducible exact rv_lt)
  | (with_reducible exact rv_le)
  | (with_reducible exact rv_gt)
  | (with_reducible exact rv_ge)
  | (with_reducible exact rv_isB)
  | (with_reducible exact rv_isnB)
  | (with_reducible exact rv_isN)
  | (with_reducible exact rv_isnN)
  | (with_reducible exact rv_eqS rfl)
  | (with_reducible exact rv_neS rfl)
  | (with_reducible exact rv_inStr)
  | (with_reducible exact rv_ninStr)
  | (with_reducible exact rv_mod (by first | decide | omega | assumption))
  | (with_reducible exact rv_div (by first | decide | omega | assumption))
  | (with_reducible exact rv_pow (by decide))
  | (with_reducible refine ed_i ?_; done)
  | (with_reducible exact ea_nil)
  | (with_reducible refine ea_cons ?_ ?_)
  | (with_reducible exact eds_nil)
  | (with_reducible refine eds_cons ?_ ?_)
  | (with_reducible exact ed_dnew)
  | (with_reducible refine ed_lst ?_ (by simp only [List.length_cons, List.length_nil]; omega))
  | (with_reducible refine ed_tup ?_ (by simp only [List.length_cons, List.length_nil]; omega)))))
namespace Z
open PySem PySem.Spec PyProof.Rows L2 Evl
/-! ### texts, faults -/
section
variable {K : PySem.W.Frag} {σ : L2.St} {H H' : Hp} {ta tb te tx : TE} {tl th : TO} {D : Ends} {tz : TS} {A : Cn → Addr}
theorem ev_slS {z : Str} {lo hi : Option Int} (h : Ev te σ H (.str z)) (h1 : EvO tl σ H lo) (h2 : EvO th σ H hi) (hz : z.length ≤ 100000) : Ev (tSl (rSlA K) te tl th) σ H (.str (cutS z lo hi)) := fun H1 e Q q =>
  h H1 e _ fun H2 e2 => h1 H2 (e.trans e2) _ fun H3 e3 => h2 H3 ((e.trans e2).trans e3) _ fun H4 e4 => .inr (.inr ⟨z, rfl, sz_of hz, q H4 ((e2.trans e3).trans e4)⟩)
theorem s_dropS {sp : Sp} {vs : List V} {E : L2.St → XK} {tas : TA} (h : EvA tas σ H vs) (k : ∀ H1, Ex H H1 → sp vs H1 (fun _ H2 => D.nx σ H2) (E σ)) : tDrop (tCallS sp E tas) D σ H := h H (Ex.refl H) _ k
theorem not_name {z : Str} {c : Nat} (h : c ∈ z.cps.toList) (hc : c ∉ lets) : isName z = false := by
  unfold isName
  have : (z.cps.toList.all fun c => decide (c ∈ lets)) = false := by
    rw [← Bool.not_eq_true]
    intro q
    exact hc (of_decide_eq_true (List.all_eq_true.mp q c h))
  rw [this, Bool.and_false]
theorem not_name_len {z : Str} (h : ¬ (1 ≤ z.length ∧ z.length ≤ 8)) : isName z = false := by
  unfold isName
  rw [decide_eq_false h, Bool.false_and]
theorem app_mem {x y : Str} {c : Nat} : c ∈ (x ++ y).cps.toList ↔ c ∈ x.cps.toList ∨ c ∈ y.cps.toList := by
  show c ∈ (x.cps ++ y.cps).toList ↔ _
  rw [Array.toList_append, List.mem_append]
theorem repS_len (z : Str) (n : Int) : (repS z n).length = z.length * n.toNat := by
  unfold repS
  have e : z.cps.toList.length = z.length := by simp [Str.length]
  rw [SX.S_len, List.length_flatten, List.map_replicate, e]
  have : ∀ n : Nat, (List.replicate n z.length).sum = z.length * n := fun n => by
    induction n with
    | zero => rfl
    | succ n ih => rw [List.replicate_succ, List.sum_cons, ih, Nat.mul_succ, Nat.add_comm]
  rw [this]
theorem okS_cut {z : Str} (h : okS z) (lo hi : Option Int) : okS (cutS z lo hi) := by
  refine ⟨Nat.le_trans (cutS_length z lo hi) h.len, ?_⟩
  have h3 := h.cps
  rw [← Array.all_toList] at h3
  show (((z.cps.toList.drop _).take _).toArray).all _ = true
  rw [List.all_toArray]
  exact List.all_eq_true.mpr fun c hc => List.all_eq_true.mp h3 c (List.mem_of_mem_drop (List.mem_of_mem_take hc))
/-- fault(word) -/
def faultD (d : PyData) : PyData := .tuple [.str "fault", d]
def sp_fault (K : PySem.W.Frag) (A : Cn → Addr) : Sp := fun vs H Q E => ∃ v d, vs = [v] ∧ Dt H v d ∧ short d ∧ (isNameD d = true → RetD (faultD d) H Q) ∧ (isNameD d = false → ∀ H1, Ex H H1 → E (.ref (A .NoName)) none H1)
def t_fault (K : PySem.W.Frag) (A : Cn → Addr) (E : XK) : TS :=
  tSeq (tIfS (tNot (tB (tCallS (sp_is_name K) (WE (fun cls d _ H => E cls d H)) (tCons (tVar 0) tNil)))) (tRaiseA (fun cls d _ H => E cls d H) (A .NoName)) tNext)
    (tRet (tTup (tCons (tC (.str "fault")) (tCons (tVar 0) tNil))))
theorem len_fault (vs : List V) (H : Hp) (Q : VK) (E : XK) (h : sp_fault K A vs H Q E) : vs.length = 1 := by obtain ⟨_, _, rfl, _⟩ := h; rfl
theorem r_fault (vs : List V) (H : Hp) (Q : VK) (E : XK) (h : sp_fault K A vs H Q E) : t_fault K A E { nx := fun _ H' => Q .non H', rt := Q } (L2.start ["word"] vs) H := by
  obtain ⟨v, d, rfl, r, hs, k1, k2⟩ := h
  unfold t_fault
  refine q_when (et_not (et_B (ev_spB (g := isNameD) (pre := short) (ed_var rfl r) hs))) (fun hb H1 e1 => k2 ?_ H1 e1) (fun hb H1 e1 => ?_)
  · cases q : isNameD d with
    | false => rfl
    | true => rw [q] at hb; cases hb
  · refine s_retD (ed_tup (eds_cons (ed_s ev_c) (eds_cons (ed_var rfl (r.ex e1)) eds_nil))) fun v2 H2 e2 r2 => k1 ?_ v2 H2 (e1.trans e2) r2
    cases q : isNameD d with
    | true => rfl
    | false => rw [q] at hb; cases hb
theorem ed_fault {d : PyData} {E : L2.St → XK} (h : EvD te σ H d) (hs : short d) (hn : isNameD d = true) : EvD (tCallS (sp_fault K A) E (tCons te tNil)) σ H (faultD d) := fun H1 e Q q =>
  h H1 e _ fun v H2 e2 r => ⟨v, d, rfl, r, hs, fun _ v3 H3 e3 r3 => q v3 H3 (e2.trans e3) r3, fun z => by rw [hn] at z; cases z⟩
/-! ### what a law asks of a caught error -/
def tIsE (K : PySem.W.Frag) (A : Cn → Addr) (j : Nat) (X : Cn) : TE := tCB (rIsX K) (tCons (tVar j) (tCons (tC (.ref (A X))) tNil))
theorem q_not3 {j : Nat} {a : Addr} {L : List Cn} {Dn X1 X2 X3 : Cn} (hv : σ[j]? = some (some (.ref a))) (h : H a = some (exA a (.ref (A Dn)) none)) (E : ExK K A L Dn) (m : X1 ∈ L ∧ X2 ∈ L ∧ X3 ∈ L) (s : (subE Dn X1 || (subE Dn X2 || subE Dn X3)) = false) (k : ∀ H1, Ex H H1 → tz D σ H1) :
    tSeq (tIfS (tOr (tB (tIsE K A j X1)) (tOr (tB (tIsE K A j X2)) (tB (tIsE K A j X3)))) (tRet (tC (.bl false))) tNext) tz D σ H :=
  q_when (b := false) (et_is (et_or (et_B (ev_isX (ev_var hv) h E m.1)) fun _ => et_or (et_B (ev_isX (ev_var hv) h E m.2.1)) fun _ => et_B (ev_isX (ev_var hv) h E m.2.2)) s) (fun q => nomatch q) fun _ H1 e1 => k H1 e1
theorem s_isE {j : Nat} {a : Addr} {L : List Cn} {Dn Y : Cn} (hv : σ[j]? = some (some (.ref a))) (h : H a = some (exA a (.ref (A Dn)) none)) (E : ExK K A L Dn) (m : Dn ∈ L ∧ Y ∈ L) (s : subE Dn Y = false) (k : ∀ H1, Ex H H1 → D.rt (.bl true) H1) :
    tRet (tAndV (tIsE K A j Dn) (tAndV (tCB (rIsX K) (tCons (tVar j) (tCons (tC (.ty "ValueError")) tNil))) (tNotV (tIsE K A j Y)))) D σ H :=
  s_ret (ev_is (ev_andV (ev_isX (ev_var hv) h E m.1) fun _ => ev_andV (ev_isXV (ev_var hv) h E) fun _ => ev_notV (ev_isX (ev_var hv) h E m.2)) (by rw [s, show subE Dn Dn = true by unfold subE; simp]; rfl)) k
/-- the whole of it -/
theorem q_tail {j : Nat} {a : Addr} {L : List Cn} {Dn X1 X2 X3 X4 X5 X6 X7 X8 X9 X10 X11 X12 Y : Cn} (hv : σ[j]? = some (some (.ref a))) (h : H a = some (exA a (.ref (A Dn)) none)) (E : ExK K A L Dn) (m : ∀ X ∈ [X1, X2, X3, X4, X5, X6, X7, X8, X9, X10, X11, X12, Dn, Y], X ∈ L)
    (s : ∀ X ∈ [X1, X2, X3, X4, X5, X6, X7, X8, X9, X10, X11, X12, Y], subE Dn X = false) (k : ∀ H1, Ex H H1 → D.rt (.bl true) H1) :
    tSeq (tIfS (tOr (tB (tIsE K A j X1)) (tOr (tB (tIsE K A j X2)) (tB (tIsE K A j X3)))) (tRet (tC (.bl false))) tNext)
    (tSeq (tIfS (tOr (tB (tIsE K A j X4)) (tOr (tB (tIsE K A j X5)) (tB (tIsE K A j X6)))) (tRet (tC (.bl false))) tNext)
    (tSeq (tIfS (tOr (tB (tIsE K A j X7)) (tOr (tB (tIsE K A j X8)) (tB (tIsE K A j X9)))) (tRet (tC (.bl false))) tNext)
    (tSeq (tIfS (tOr (tB (tIsE K A j X10)) (tOr (tB (tIsE K A j X11)) (tB (tIsE K A j X12)))) (tRet (tC (.bl false))) tNext)
    (tRet (tAndV (tIsE K A j Dn) (tAndV (tCB (rIsX K) (tCons (tVar j) (tCons (tC (.ty "ValueError")) tNil))) (tNotV (tIsE K A j Y)))))))) D σ H := by
  refine q_not3 hv h E ⟨m _ (by simp), m _ (by simp), m _ (by simp)⟩ (by rw [s _ (by simp), s _ (by simp), s _ (by simp)]; rfl) fun H1 e1 => ?_
  refine q_not3 hv (e1 a _ h) E ⟨m _ (by simp), m _ (by simp), m _ (by simp)⟩ (by rw [s _ (by simp), s _ (by simp), s _ (by simp)]; rfl) fun H2 e2 => ?_
  refine q_not3 hv ((e1.trans e2) a _ h) E ⟨m _ (by simp), m _ (by simp), m _ (by simp)⟩ (by rw [s _ (by simp), s _ (by simp), s _ (by simp)]; rfl) fun H3 e3 => ?_
  refine q_not3 hv (((e1.trans e2).trans e3) a _ h) E ⟨m _ (by simp), m _ (by simp), m _ (by simp)⟩ (by rw [s _ (by simp), s _ (by simp), s _ (by simp)]; rfl) fun H4 e4 => ?_
  exact s_isE hv ((((e1.trans e2).trans e3).trans e4) a _ h) E ⟨m _ (by simp), m _ (by simp)⟩ (s _ (by simp)) fun H5 e5 => k H5 ((((e1.trans e2).trans e3).trans e4).trans e5)
end
end Z

set_option Elab.async false
set_option linter.all false
set_option autoImplicit false
set_option maxRecDepth 100000
set_option maxHeartbeats 4000000
/-! ev: what an expression comes to, by its form -/
local macro_rules | `(tactic| k_places) => `(tactic| (repeat' (first
  | (with_reducible exact ev_c)
  | (with_reducible exact ev_var rfl)
  | (with_reducible refine ev_chainLL ?_ ?_ ?_)
  | (with_reducible refine ev_chainLt ?_ ?_ ?_)
  | (with_reducible refine ev_op ?_ ?_ ?_)
  | (with_reducible refine ev_neg ?_)
  | (with_reducible refine et_test ?_)
  | (with_reducible refine et_B ?_)
  | (with_reducible refine et_not ?_)
  | (with_reducible refine et_and ?_ (fun _ => ?_))
  | (with_reducible refine et_or ?_ (fun _ => ?_))
  | (with_reducible refine ev_andV ?_ (fun _ => ?_))
  | (with_reducible refine ev_orV ?_ (fun _ => ?_))
  | (with_reducible refine ev_notV ?_)
  | (with_reducible exact rv_addI)
  | (with_reducible exact rv_subI)
  | (with_reducible exact rv_lt)
  | (with_reducible exact rv_le)
  | (with_reducible exact rv_gt)
  | (with_reducible exact rv_ge)
  | (with_reducible exact rv_isB)
  | (with_reducible exact rv_isnB)
  | (with_reducible exact rv_isN)
  | (with_reducible exact rv_isnN)
  | (with_reducible exact rv_eqS rfl)
  | (with_reducible exact rv_neS rfl)
  | (with_reducible exact rv_inStr)
  | (with_reducible exact rv_ninStr)
  | (with_reducible exact rv_mod (by first | decide | omega | assumption))
  | (with_reducible exact rv_div (by first | decide | omega | assumption))
  | (with_reducible exact rv_pow (by decide))
  | (with_reducible refine ed_i ?_; done)
  | (with_reducible exact ea_nil)
  | (with_reducible refine ea_cons ?_ ?_)
  | (with_reducible exact eds_nil)
  | (with_reducible refine eds_cons ?_ ?_)
  | (with_reducible exact ed_dnew)
  | (with_reducible refine ed_lst ?_ (by simp only [List.length_cons, List.length_nil]; omega))
  | (with_reducible refine ed_tup ?_ (by simp only [List.length_cons, List.length_nil]; omega)))))
namespace Z
open PySem PySem.Spec PyProof.Rows L2 Evl
/-! ### methods and classes -/
def tMetS (C : Addr) (m : Str) (sp : Sp) (E : L2.St → XK) (ta : TE) (t : TA) : TE := fun σ H Q => ta σ H fun x H1 => ∃ a dx fs, x = .ref a ∧ H1 a = some (.ins C dx fs) ∧ fs.lookup m = none ∧ t σ H1 fun vs H2 => sp (x :: vs) H2 Q (E σ)
def tMakS (C : Addr) (sp : Sp) (E : L2.St → XK) (t : TA) : TE := fun σ H Q => t σ H fun vs H1 => ∀ x dx, H1 x = none → H1 dx = none → dx ≠ x →
  sp (.ref x :: vs) (upd (upd H1 dx (.own x)) x (.ins C dx [])) (fun v H2 => v = .non ∧ Q (.ref x) H2) (E σ)
/-- a method of a class -/
structure Met (P : Program) (w : World) (K : PySem.W.Frag) (mg : Str → Option Value) (base : Heap) (k : Nat) (C : Addr) (m : Str) (f : Addr) (ps : List Str) (sp : Sp) : Prop where
  ex : ∃ fd, FnOk P w K mg base (L2.CX P w) k f fd ps sp ∧ Binds K fd ps []
  mt : Meth K C m f
  cl : Cls K C
/-- a class that may be made -/
structure Mak (P : Program) (w : World) (K : PySem.W.Frag) (mg : Str → Option Value) (base : Heap) (k : Nat) (C : Addr) (c : Str) (f : Addr) (ps : List Str) (sp : Sp) : Prop where
  ex : ∃ fd, FnOk P w K mg base (L2.CX P w) k f fd ps sp ∧ Binds K fd ps []
  mak : Mk K C f
  mg : mg c = some (.ref C)
section
variable {X : Cx} {W : WX} {k : Nat} {f C : Addr} {ps : List Str} {sp : Sp} {x m : Str} {p pos apos : Pos} {e o : Expr} {es : List Expr} {t : TA} {ta : TE} {pl : Sem Bool}
theorem pe_metX {E : L2.St → XK} (M : Met X.prog X.w X.K X.mg X.base k C m f ps sp) (he : PE X o ta) (hr : Room k X.A) (hx : ∀ σ, PassesAt (L2.CX X.prog X.w) X σ (E σ)) (ha : PA X (e :: es) t)
    (hst : starEach (e :: es) X.env = (false, eval e X.env) :: starEach es X.env := by rfl) (hpl : (backTo pos (starEach es X.env)).any (·.1) = false := by rfl)
    (ht : eval (.Call (.Attribute o m apos) (e :: es) [] pos) X.env = (do
      let ov ← eval o X.env
      standAt apos.atName
      let (f, first) ← holding [ov] (getMethod ov m pl)
      callWith pos f first (backTo pos (starEach (e :: es) X.env)) (backToKw pos (keywordEach [] X.env))) := by rfl) :
    PE X (.Call (.Attribute o m apos) (e :: es) [] pos) (tMetS C m sp E ta t) := by
  obtain ⟨fd, F, b⟩ := M.ex
  refine ⟨fun pins s σ H Q I h => ?_⟩
  refine PySem.W.methodCall_KW (pl := pl) (thn (he.run pins s σ H _ I h) fun u s1 ⟨x, H1, I1, rx, a, dx, fs, ex, ea, l, q⟩ => ?_) ht
  subst ex
  obtain rfl : u = Value.ref a := rx
  refine getmeth_ok I1 ea M.cl M.mt l ?_
  refine PySem.W.callWith_K (first := [.ref a]) (h₀ := X.base) I.ok.mod.kin M.mt.kp (thn (ha.run pos pins s1 σ H1 _ I1 q) fun us s2 ⟨vs, H2, I2, r, q2⟩ => ⟨I2.kIn, ?_⟩) hst hpl
  exact run_fnS (us := .ref a :: us) (vs := .ref a :: vs) F hr b (hx σ) I2 (.cons rfl r) q2
theorem pe_met0X {E : L2.St → XK} (M : Met X.prog X.w X.K X.mg X.base k C m f ps sp) (he : PE X o ta) (hr : Room k X.A) (hx : ∀ σ, PassesAt (L2.CX X.prog X.w) X σ (E σ))
    (ht : eval (.Call (.Attribute o m apos) [] [] pos) X.env = (do
      let ov ← eval o X.env
      standAt apos.atName
      let (f, first) ← holding [ov] (getMethod ov m pl)
      callWith pos f first (backTo pos (starEach [] X.env)) (backToKw pos (keywordEach [] X.env))) := by rfl) :
    PE X (.Call (.Attribute o m apos) [] [] pos) (tMetS C m sp E ta tNil) := by
  obtain ⟨fd, F, b⟩ := M.ex
  refine ⟨fun pins s σ H Q I h => ?_⟩
  refine PySem.W.methodCall_KW (pl := pl) (thn (he.run pins s σ H _ I h) fun u s1 ⟨x, H1, I1, rx, a, dx, fs, ex, ea, l, q⟩ => ?_) ht
  subst ex
  obtain rfl : u = Value.ref a := rx
  refine getmeth_ok I1 ea M.cl M.mt l ?_
  exact PySem.W.callWith_K0 (first := [.ref a]) I1.kIn M.mt.kp (run_fnS (us := [.ref a]) (vs := [.ref a]) F hr b (hx σ) I1 (.cons rfl .nil) q)
theorem pe_met (M : Met X.prog X.w X.K X.mg X.base k C m f ps sp) (he : PE X o ta) (hr : Room k X.A) (tk : Takes X W) (ha : PA X (e :: es) t)
    (hst : starEach (e :: es) X.env = (false, eval e X.env) :: starEach es X.env := by rfl) (hpl : (backTo pos (starEach es X.env)).any (·.1) = false := by rfl)
    (ht : eval (.Call (.Attribute o m apos) (e :: es) [] pos) X.env = (do
      let ov ← eval o X.env
      standAt apos.atName
      let (f, first) ← holding [ov] (getMethod ov m pl)
      callWith pos f first (backTo pos (starEach (e :: es) X.env)) (backToKw pos (keywordEach [] X.env))) := by rfl) :
    PE X (.Call (.Attribute o m apos) (e :: es) [] pos) (tMetS C m sp (WE W) ta t) := pe_metX M he hr (fun σ => passAt tk σ) ha hst hpl ht
theorem pe_met0 (M : Met X.prog X.w X.K X.mg X.base k C m f ps sp) (he : PE X o ta) (hr : Room k X.A) (tk : Takes X W)
    (ht : eval (.Call (.Attribute o m apos) [] [] pos) X.env = (do
      let ov ← eval o X.env
      standAt apos.atName
      let (f, first) ← holding [ov] (getMethod ov m pl)
      callWith pos f first (backTo pos (starEach [] X.env)) (backToKw pos (keywordEach [] X.env))) := by rfl) :
    PE X (.Call (.Attribute o m apos) [] [] pos) (tMetS C m sp (WE W) ta tNil) := pe_met0X M he hr (fun σ => passAt tk σ) ht
theorem passB {X : Cx} (σ : L2.St) : PassesAt (L2.CX X.prog X.w) X σ E0 := fun pins H s e s' _ c => by
  obtain ⟨_, _, _, _, _, _, _, _, _, _, _, _, z⟩ := c
  exact z.elim
theorem pe_metB (M : Met X.prog X.w X.K X.mg X.base k C m f ps sp) (he : PE X o ta) (hr : Room k X.A) (ha : PA X (e :: es) t)
    (hst : starEach (e :: es) X.env = (false, eval e X.env) :: starEach es X.env := by rfl) (hpl : (backTo pos (starEach es X.env)).any (·.1) = false := by rfl)
    (ht : eval (.Call (.Attribute o m apos) (e :: es) [] pos) X.env = (do
      let ov ← eval o X.env
      standAt apos.atName
      let (f, first) ← holding [ov] (getMethod ov m pl)
      callWith pos f first (backTo pos (starEach (e :: es) X.env)) (backToKw pos (keywordEach [] X.env))) := by rfl) :
    PE X (.Call (.Attribute o m apos) (e :: es) [] pos) (tMetS C m sp (fun _ => E0) ta t) := pe_metX M he hr passB ha hst hpl ht
theorem pe_metB0 (M : Met X.prog X.w X.K X.mg X.base k C m f ps sp) (he : PE X o ta) (hr : Room k X.A)
    (ht : eval (.Call (.Attribute o m apos) [] [] pos) X.env = (do
      let ov ← eval o X.env
      standAt apos.atName
      let (f, first) ← holding [ov] (getMethod ov m pl)
      callWith pos f first (backTo pos (starEach [] X.env)) (backToKw pos (keywordEach [] X.env))) := by rfl) :
    PE X (.Call (.Attribute o m apos) [] [] pos) (tMetS C m sp (fun _ => E0) ta tNil) := pe_met0X M he hr passB ht
theorem run_mak {pins : List (Addr × Obj)} {σ : L2.St} {H : Hp} {s : Shared} {Q : VK} {us : List Value} {vs : List V} {fd : FuncData} {E : XK} (M : Mk X.K C f) (F : FnOk X.prog X.w X.K X.mg X.base (L2.CX X.prog X.w) k f fd ps sp) (hr : Room (k + 1) X.A) (hb : Binds X.K fd ps [])
    (hx : PassesAt (L2.CX X.prog X.w) X σ E) (I : Inv X pins σ H s) (r : Vals vs us)
    (h : ∀ x dx, H x = none → H dx = none → dx ≠ x → sp (.ref x :: vs) (upd (upd H dx (.own x)) x (.ins C dx [])) (fun v H2 => v = .non ∧ Q (.ref x) H2) E) :
    wpAny (model X.prog X.w) X.A (call (.ref C) us) (EP X pins σ Q) X.xe s := by
  have hq := h (s.heap.objs.size + 1) s.heap.objs.size (I.hok.fresh (Nat.le_succ _)) (I.hok.fresh (Nat.le_refl _)) (Nat.ne_of_lt (Nat.lt_succ_self _))
  have I2 := Inv.made (C := C) I
  have r2 : Vals (V.ref (s.heap.objs.size + 1) :: vs) (Value.ref (s.heap.objs.size + 1) :: us) := .cons rfl r
  have hl : (Value.ref (s.heap.objs.size + 1) :: us ++ []).length = ps.length := by
    have e := r2.length
    rw [F.len _ _ _ _ hq] at e
    rw [List.append_nil]
    exact e.symm
  have b := hb _ (Value.ref (s.heap.objs.size + 1) :: us) I2.kIn hl
  rw [List.append_nil] at b
  refine wpAny_call (make_map (f := f) I.kIn M.makes M.init (beq_iff_eq.mp M.fn) (codeAny_mono (F.run _ X.stack _ _ ⟨Value.ref (s.heap.objs.size + 1) :: us, []⟩ (Value.ref (s.heap.objs.size + 1) :: us) _ _ E (hr.make C us [])
    (I2.env0.make C us []) b r2 hq) fun r s' hq' => ?_))
  cases r with
  | error e => exact hx pins _ _ e s' I2 hq'
  | ok fl =>
    cases fl with
    | ret u =>
      obtain ⟨v, H', I3, rv, ev, q3⟩ := I2.after hq'
      subst ev
      exact ⟨rv, ⟨V.ref (s.heap.objs.size + 1), H', I3, rfl, q3⟩⟩
    | next => exact False.elim hq'
    | brk => exact False.elim hq'
    | cont => exact False.elim hq'
theorem pe_mak (M : Mak X.prog X.w X.K X.mg X.base k C x f ps sp) (hr : Room (k + 1) X.A) (tk : Takes X W) (ha : PA X (e :: es) t) (hg : Gl X x := by rfl) (hdb : (x == ("__debug__" : Str)) = false := by decide)
    (he : starEach (e :: es) X.env = (false, eval e X.env) :: starEach es X.env := by rfl) (hpl : (backTo pos (starEach es X.env)).any (·.1) = false := by rfl) :
    PE X (.Call (.Name x p) (e :: es) [] pos) (tMakS C sp (WE W) t) := by
  obtain ⟨fd, F, b⟩ := M.ex
  refine ⟨fun pins s σ H Q I h => ?_⟩
  refine wpAny_Call_Name_kw (ld_glob I hg M.mg ?_ hdb)
  refine PySem.W.callWith_K (h₀ := X.base) I.ok.mod.kin M.mak.kp (thn (ha.run pos pins s σ H _ I h) fun us s1 ⟨vs, H1, I1, r, q⟩ => ⟨I1.kIn, ?_⟩) he hpl
  exact run_mak M.mak F hr b (passAt tk σ) I1 r q
theorem pe_mak0 (M : Mak X.prog X.w X.K X.mg X.base k C x f ps sp) (hr : Room (k + 1) X.A) (tk : Takes X W) (hg : Gl X x := by rfl) (hdb : (x == ("__debug__" : Str)) = false := by decide) : PE X (.Call (.Name x p) [] [] pos) (tMakS C sp (WE W) tNil) := by
  obtain ⟨fd, F, b⟩ := M.ex
  refine ⟨fun pins s σ H Q I h => ?_⟩
  refine wpAny_Call_Name_kw (ld_glob I hg M.mg ?_ hdb)
  exact PySem.W.callWith_K0 I.kIn M.mak.kp (run_mak (us := []) M.mak F hr b (passAt tk σ) I .nil h)
end
theorem met_of {P : Program} {w : World} {K : PySem.W.Frag} {mg : Str → Option Value} {base : Heap} {st : Stmt} {x qual : Str} {f C : Addr} {fd : FuncData} {N ps : List Str} {k : Nat} {sp : Sp} (F : Fun K x qual st f fd) (S : FnScope N ps (defScope st)) (hm : Meth K C x f) (hc : Cls K C) (hb : Binds K fd ps [])
    (len : ∀ vs H Q E, sp vs H Q E → vs.length = ps.length) (t : XK → TS)
    (d : ∀ (cdv : Value) (A : Around) (outer : List Env) (s : Shared) (H : Hp) (E : XK), Room k (A.deeper (envOfC qual (defScope st) s.heap.objs.size f cdv)) → PSs (cxOf (L2.CX P w) P w K mg base N qual (defScope st) f cdv A outer s H E) (defBody st) (t E))
    (r : ∀ (vs : List V) (H : Hp) (Q : VK) (E : XK), sp vs H Q E → t E { nx := fun _ H' => Q .non H', rt := Q } (L2.start N vs) H) : Met P w K mg base (k + 1) C x f ps sp :=
  ⟨⟨fd, F.okX S len fun cdv A outer s H vs Q E hr h => ⟨t E, d cdv A outer s H E hr, r vs H Q E h⟩, hb⟩, hm, hc⟩
theorem mak_of {P : Program} {w : World} {K : PySem.W.Frag} {mg : Str → Option Value} {base : Heap} {st : Stmt} {c qual : Str} {f C : Addr} {fd : FuncData} {N ps : List Str} {k : Nat} {sp : Sp} (F : Fun K "__init__" qual st f fd) (S : FnScope N ps (defScope st)) (hm : Mk K C f) (hg : mg c = some (.ref C)) (hb : Binds K fd ps [])
    (len : ∀ vs H Q E, sp vs H Q E → vs.length = ps.length) (t : XK → TS)
    (d : ∀ (cdv : Value) (A : Around) (outer : List Env) (s : Shared) (H : Hp) (E : XK), Room k (A.deeper (envOfC qual (defScope st) s.heap.objs.size f cdv)) → PSs (cxOf (L2.CX P w) P w K mg base N qual (defScope st) f cdv A outer s H E) (defBody st) (t E))
    (r : ∀ (vs : List V) (H : Hp) (Q : VK) (E : XK), sp vs H Q E → t E { nx := fun _ H' => Q .non H', rt := Q } (L2.start N vs) H) : Mak P w K mg base (k + 1) C c f ps sp :=
  ⟨⟨fd, F.okX S len fun cdv A outer s H vs Q E hr h => ⟨t E, d cdv A outer s H E hr, r vs H Q E h⟩, hb⟩, hm, hg⟩
/-! ### fields -/
structure ClK (K : PySem.W.Frag) (C : Addr) (fs : List Str) : Prop where
  cl : Cls K C
  na : ∀ f ∈ fs, NoAttr K C f
theorem putF_len (f : Str) (v : V) : ∀ fs : List (Str × V), (putF f v fs).length ≤ fs.length + 1
  | [] => Nat.le_refl _
  | (g, x) :: r => by
    show (if g = f then (g, v) :: r else (g, x) :: putF f v r).length ≤ _
    split
    · exact Nat.le_succ _
    · exact Nat.succ_le_succ (putF_len f v r)
theorem putF_lt {f : Str} {v : V} {fs : List (Str × V)} {n m : Nat} (h : fs.length < n) (e : n + 1 = m) : (putF f v fs).length < m := by
  have := putF_len f v fs
  omega
section
variable {K : PySem.W.Frag} {σ : L2.St} {H H' : Hp} {ta tb tv : TE} {D : Ends} {tz : TS} {C a dx : Addr} {fs : List (Str × V)} {ns : List Str} {f : Str} {v : V}
theorem ev_fld (ha : Ev ta σ H (.ref a)) (hi : H a = some (.ins C dx fs)) (c : ClK K C ns) (hf : f ∈ ns) (l : fs.lookup f = some v) : Ev (tFld K ta f) σ H v := fun H1 e Q q =>
  ha H1 e _ fun H2 e2 => ⟨a, C, dx, fs, v, rfl, (e.trans e2) _ _ hi, c.cl, c.na f hf, l, q H2 e2⟩
theorem s_fld (hv : Ev tv σ H v) (ha : Ev ta σ H (.ref a)) (hi : H a = some (.ins C dx fs)) (c : ClK K C ns) (hf : f ∈ ns) (hl : fs.length < 1000) (k : ∀ H1, Ex H H1 → D.nx σ (upd H1 a (.ins C dx (putF f v fs)))) : sFld K ta tv f D σ H :=
  hv H (Ex.refl H) _ fun H1 e1 => ha H1 e1 _ fun H2 e2 => ⟨a, C, dx, fs, rfl, (e1.trans e2) _ _ hi, c.cl, c.na f hf, hl, k H2 (e1.trans e2)⟩
theorem q_fld (hv : Ev tv σ H v) (ha : Ev ta σ H (.ref a)) (hi : H a = some (.ins C dx fs)) (c : ClK K C ns) (hf : f ∈ ns) (hl : fs.length < 1000) (k : ∀ H1, Ex H H1 → tz D σ (upd H1 a (.ins C dx (putF f v fs)))) : tSeq (sFld K ta tv f) tz D σ H :=
  s_fld (D := { D with nx := tz D }) hv ha hi c hf hl k
theorem q_fldL {xs : List V} (hv : EvL tv σ H xs) (ha : Ev ta σ H (.ref a)) (hi : H a = some (.ins C dx fs)) (c : ClK K C ns) (hf : f ∈ ns) (hl : fs.length < 1000) (k : ∀ p H1, H p = none → Ex H H1 → H1 p = some (.lst xs) → tz D σ (upd H1 a (.ins C dx (putF f (.ref p) fs)))) : tSeq (sFld K ta tv f) tz D σ H :=
  hv H (Ex.refl H) _ fun p H1 hp e1 h1 => ha H1 e1 _ fun H2 e2 => ⟨a, C, dx, fs, rfl, (e1.trans e2) _ _ hi, c.cl, c.na f hf, hl, k p H2 hp (e1.trans e2) (e2 _ _ h1)⟩
/-- a method without change: a value -/
theorem ev_met {m : Str} {sp : Sp} {vs : List V} {E : L2.St → XK} {tas : TA} {z : V} (ho : Ev ta σ H (.ref a)) (hi : H a = some (.ins C dx fs)) (l : fs.lookup m = none) (h : EvA tas σ H vs) (hs : SpV sp (.ref a :: vs) H z) : Ev (tMetS C m sp E ta tas) σ H z := fun H1 e Q q =>
  ho H1 e _ fun H2 e2 => ⟨a, dx, fs, rfl, (e.trans e2) _ _ hi, l, h H2 (e.trans e2) _ fun H3 e3 => hs H3 ((e.trans e2).trans e3) Q (fun H4 e4 => q H4 ((e2.trans e3).trans e4)) (E σ)⟩
theorem el_met {m : Str} {sp : Sp} {vs : List V} {E : L2.St → XK} {tas : TA} {xs : List V} (ho : Ev ta σ H (.ref a)) (hi : H a = some (.ins C dx fs)) (l : fs.lookup m = none) (h : EvA tas σ H vs) (hs : SpL sp (.ref a :: vs) H xs) : EvL (tMetS C m sp E ta tas) σ H xs := fun H1 e Q q =>
  ho H1 e _ fun H2 e2 => ⟨a, dx, fs, rfl, (e.trans e2) _ _ hi, l, h H2 (e.trans e2) _ fun H3 e3 => hs H3 ((e.trans e2).trans e3) Q (fun p H4 hp e4 h4 => q p H4 (fresh_back (e2.trans e3) hp) ((e2.trans e3).trans e4) h4) (E σ)⟩
/-- a method, by its promise -/
theorem s_metS {m : Str} {sp : Sp} {vs : List V} {E : L2.St → XK} {tas : TA} (ho : Ev ta σ H (.ref a)) (hi : H a = some (.ins C dx fs)) (l : fs.lookup m = none) (h : EvA tas σ H vs) (k : ∀ H1, Ex H H1 → sp (.ref a :: vs) H1 (fun _ H2 => D.nx σ H2) (E σ)) : tDrop (tMetS C m sp E ta tas) D σ H :=
  ho H (Ex.refl H) _ fun H2 e2 => ⟨a, dx, fs, rfl, e2 _ _ hi, l, h H2 e2 _ fun H3 e3 => k H3 (e2.trans e3)⟩
theorem q_metS {m : Str} {sp : Sp} {vs : List V} {E : L2.St → XK} {tas : TA} (ho : Ev ta σ H (.ref a)) (hi : H a = some (.ins C dx fs)) (l : fs.lookup m = none) (h : EvA tas σ H vs) (k : ∀ H1, Ex H H1 → sp (.ref a :: vs) H1 (fun _ H2 => tz D σ H2) (E σ)) : tSeq (tDrop (tMetS C m sp E ta tas)) tz D σ H :=
  s_metS (D := { D with nx := tz D }) ho hi l h k
theorem s_metAsg {m : Str} {sp : Sp} {vs : List V} {E : L2.St → XK} {tas : TA} {i : Nat} (ho : Ev ta σ H (.ref a)) (hi : H a = some (.ins C dx fs)) (l : fs.lookup m = none) (h : EvA tas σ H vs) (k : ∀ H1, Ex H H1 → sp (.ref a :: vs) H1 (fun v H2 => D.nx (σ.set i (some v)) H2) (E σ)) : tAsg (tMetS C m sp E ta tas) (gName i) D σ H :=
  ho H (Ex.refl H) _ fun H2 e2 => ⟨a, dx, fs, rfl, e2 _ _ hi, l, h H2 e2 _ fun H3 e3 => k H3 (e2.trans e3)⟩
theorem q_metAsg {m : Str} {sp : Sp} {vs : List V} {E : L2.St → XK} {tas : TA} {i : Nat} (ho : Ev ta σ H (.ref a)) (hi : H a = some (.ins C dx fs)) (l : fs.lookup m = none) (h : EvA tas σ H vs) (k : ∀ H1, Ex H H1 → sp (.ref a :: vs) H1 (fun v H2 => tz D (σ.set i (some v)) H2) (E σ)) : tSeq (tAsg (tMetS C m sp E ta tas) (gName i)) tz D σ H :=
  s_metAsg (D := { D with nx := tz D }) ho hi l h k
theorem q_makS {sp : Sp} {vs : List V} {E : L2.St → XK} {tas : TA} {i : Nat} (h : EvA tas σ H vs) (k : ∀ H1, Ex H H1 → ∀ x dx, H1 x = none → H1 dx = none → dx ≠ x → sp (.ref x :: vs) (upd (upd H1 dx (.own x)) x (.ins C dx [])) (fun v H2 => v = .non ∧ tz D (σ.set i (some (.ref x))) H2) (E σ)) :
    tSeq (tAsg (tMakS C sp E tas) (gName i)) tz D σ H := h H (Ex.refl H) _ fun H1 e1 x dx h1 h2 h3 => k H1 e1 x dx h1 h2 h3
theorem x_makS {sp : Sp} {vs : List V} {E : L2.St → XK} {tas : TA} {Q : VK} (h : EvA tas σ H vs) (k : ∀ H1, Ex H H1 → ∀ x dx, H1 x = none → H1 dx = none → dx ≠ x → sp (.ref x :: vs) (upd (upd H1 dx (.own x)) x (.ins C dx [])) (fun v H2 => v = .non ∧ Q (.ref x) H2) (E σ)) :
    tMakS C sp E tas σ H Q := h H (Ex.refl H) _ fun H1 e1 x dx h1 h2 h3 => k H1 e1 x dx h1 h2 h3
theorem s_makDrop {sp : Sp} {vs : List V} {E : L2.St → XK} {tas : TA} (h : EvA tas σ H vs) (k : ∀ H1, Ex H H1 → ∀ x dx, H1 x = none → H1 dx = none → dx ≠ x → sp (.ref x :: vs) (upd (upd H1 dx (.own x)) x (.ins C dx [])) (fun v H2 => v = .non ∧ D.nx σ H2) (E σ)) :
    tDrop (tMakS C sp E tas) D σ H := h H (Ex.refl H) _ fun H1 e1 x dx h1 h2 h3 => k H1 e1 x dx h1 h2 h3
end
end Z

set_option Elab.async false
set_option linter.all false
set_option autoImplicit false
set_option maxRecDepth 100000
set_option maxHeartbeats 4000000
/-! ev: what an expression comes to, by its form -/
local macro_rules | `(tactic| k_places) => `(tactic| (repeat' (first
  | (with_reducible exact ev_c)
  | (with_reducible exact ev_var rfl)
  | (with_reducible refine ev_chainLL ?_ ?_ ?_)
  | (with_reducible refine ev_chainLt ?_ ?_ ?_)
  | (with_reducible refine ev_op ?_ ?_ ?_)
  | (with_reducible refine ev_neg ?_)
  | (with_reducible refine et_test ?_)
  | (with_reducible refine et_B ?_)
  | (with_reducible refine et_not ?_)
  | (with_reducible refine et_and ?_ (fun _ => ?_))
  | (with_reducible refine et_or ?_ (fun _ => ?_))
  | (with_reducible refine ev_andV ?_ (fun _ => ?_))
  | (with_reducible refine ev_orV ?_ (fun _ => ?_))
  | (with_reducible refine ev_notV ?_)
  | (with_reducible exact rv_addI)
  | (with_reducible exact rv_subI)
  | (with_reducible exact rv_lt)
  | (with_reducible exact rv_le)
  | (with_reducible exact rv_gt)
  | (with_reducible exact rv_ge)
  | (with_reducible exact rv_isB)
  | (with_reducible exact rv_isnB)
  | (with_reducible exact rv_isN)
  | (with_reducible exact rv_isnN)
  | (with_reducible exact rv_eqS rfl)
  | (with_reducible exact rv_neS rfl)
  | (with_reducible exact rv_inStr)
  | (with_reducible exact rv_ninStr)
  | (with_reducible exact rv_mod (by first | decide | omega | assumption))
  | (with_reducible exact rv_div (by first | decide | omega | assumption))
  | (with_reducible exact rv_pow (by decide))
  | (with_reducible refine ed_i ?_; done)
  | (with_reducible exact ea_nil)
  | (with_reducible refine ea_cons ?_ ?_)
  | (with_reducible exact eds_nil)
  | (with_reducible refine eds_cons ?_ ?_)
  | (with_reducible exact ed_dnew)
  | (with_reducible refine ed_lst ?_ (by simp only [List.length_cons, List.length_nil]; omega))
  | (with_reducible refine ed_tup ?_ (by simp only [List.length_cons, List.length_nil]; omega)))))
namespace Z
open PySem PySem.Spec PyProof.Rows L2 Evl
/-! ### tables.py -/
section
variable {K : PySem.W.Frag} {σ : L2.St} {H H' : Hp} {ta tb te tx : TE} {D : Ends} {tz : TS}
theorem ed_L {xs : List V} {ds : List PyData} (h : EvL te σ H xs) (r : ∀ H', Ex H H' → DtAll H' xs ds) : EvD te σ H (.list ds) := fun H1 e Q q =>
  h H1 e _ fun p H2 _ e2 hp => q _ H2 e2 (.lst hp (r H2 (e.trans e2)))
theorem dt_ints : ∀ (ns : List Int), DtAll H (ns.map V.int) (ns.map PyData.int)
  | [] => .nil
  | n :: ns => .cons (.int n) (dt_ints ns)
theorem dt_strs : ∀ (ns : List Str), DtAll H (ns.map V.str) (ns.map PyData.str)
  | [] => .nil
  | n :: ns => .cons (.str n) (dt_strs ns)
/-- 0, 1, .. -/
def upto (n : Nat) : List Int := (List.range n).map Int.ofNat
theorem upto_len (n : Nat) : (upto n).length = n := by unfold upto; rw [List.length_map, List.length_range]
theorem el_listRg {n : Int} (h : Ev te σ H (.int n)) (hn : 0 ≤ n ∧ n ≤ 100000) : EvL (tLstRg (tRg1 te)) σ H ((upto n.toNat).map V.int) := fun H1 e Q q =>
  h H1 e _ fun H2 e2 => ⟨n, rfl, .of_le (by omega) (by omega) (by omega) (by omega), fun p hp => q p _ (fresh_back e2 hp) (e2.trans (Ex.new hp)) (by
    rw [upd_same]
    unfold rgV upto
    rw [List.map_map, Int.sub_zero]
    congr 2
    exact List.map_congr_left fun i _ => by show V.int (0 + (i : Int)) = V.int (i : Int); rw [Int.zero_add])⟩
/-- [k for k in range(n)] -/
theorem el_upto {tas : TA} {n : Int} {j : Nat} (h : EvA tas σ H [.int n]) (hn : 0 ≤ n ∧ n ≤ 40000) (hw : ∀ x, wipe ((wipe σ [j]).set j (some x)) [j] = wipe σ [j]) (hj : ∀ x, ((wipe σ [j]).set j (some x))[j]? = some (some x)) : EvL (tLc (iRng1 tas) (gName j) tYes (tVar j) [j]) σ H ((upto n.toNat).map V.int) := by
  have := el_lcR1 (t := tYes) (te := tVar j) (fun _ => true) (fun i => V.int i) h hn hw (fun i H1 _ _ => fun H2 _ Q q => q H2 (Ex.refl H2)) (fun i H1 _ _ _ => ev_var (hj _))
  refine fun H1 e Q q => this H1 e Q fun p H2 hp e2 h2 => q p H2 hp e2 ?_
  rw [h2]
  unfold given upto
  rw [List.filter_eq_self.mpr (fun _ _ => rfl), List.map_map]
  rfl
theorem el_listA {p : Addr} {xs : List V} (ha : Ev ta σ H (.ref p)) (h : SqL K H p xs) : EvL (tCB (rListA K) (tCons ta tNil)) σ H xs := fun H1 e Q q =>
  ha H1 e _ fun H2 e2 => .inl ⟨p, xs, rfl, .inl (ex_l (e.trans e2) h), fun l hl => q l _ (fresh_back e2 hl) (e2.trans (Ex.new hl)) upd_same⟩
theorem el_listK {p : Addr} {kvs : List (Key × V)} (ha : Ev ta σ H (.ref p)) (h : H p = some (.dK kvs)) : EvL (tCB (rListA K) (tCons ta tNil)) σ H (kvs.map fun kv => kV kv.1) := fun H1 e Q q =>
  ha H1 e _ fun H2 e2 => .inr ⟨p, kvs, rfl, .inl ((e.trans e2) _ _ h), fun l hl => q l _ (fresh_back e2 hl) (e2.trans (Ex.new hl)) upd_same⟩
theorem rc_lenD {p : Addr} {kvs : List (Key × V)} (h : H p = some (.dK kvs)) : RC (rLenA K) [.ref p] H (.int kvs.length) := fun H1 e _ q => .inr (.inl ⟨p, kvs, rfl, e _ _ h, q H1 (Ex.refl H1)⟩)
/-- made(..).append(v) -/
theorem q_appN {v : V} {xs : List V} (ha : EvL ta σ H xs) (h : Ev te σ H v) (hz : xs.length < 100000) (k : ∀ p H1, H p = none → Ex H H1 → H1 p = some (.lst xs) → tz D σ (upd H1 p (.lst (xs ++ [v])))) :
    tSeq (tDrop (tBM K "list" rAppend ta (tCons te tNil))) tz D σ H := ha H (Ex.refl H) _ fun p H1 hp e1 h1 =>
  ⟨Or.inl ⟨rfl, xs, sq_of h1⟩, h H1 e1 _ fun H2 e2 => ⟨p, xs, v, rfl, rfl, e2 _ _ h1, sz_lt hz, k p H2 hp (e1.trans e2) (e2 _ _ h1)⟩⟩
end
/-! is_below -/
def isBelow (n : Int) : PyData → Bool
  | .int i => decide (0 ≤ i ∧ i < n)
  | _ => false
def sp_is_below (K : PySem.W.Frag) : Sp := fun vs H Q _ => ∃ (v : V) (d : PyData) (n : Int), vs = [v, .int n] ∧ Dt H v d ∧ RetV (.bl (isBelow n d)) H Q
def t_is_below (K : PySem.W.Frag) (E : XK) : TS :=
  tRet (tAndV (tCallS (sp_is_whole K) (WE (fun cls d _ H => E cls d H)) (tCons (tVar 0) tNil)) (tChain rLeA rLtA (tC (.int 0)) (tVar 0) (tVar 1)))
theorem len_is_below {K : PySem.W.Frag} (vs : List V) (H : Hp) (Q : VK) (E : XK) (h : sp_is_below K vs H Q E) : vs.length = 2 := by obtain ⟨_, _, _, rfl, _⟩ := h; rfl
theorem r_is_below {K : PySem.W.Frag} (vs : List V) (H : Hp) (Q : VK) (E : XK) (h : sp_is_below K vs H Q E) : t_is_below K E { nx := fun _ H' => Q .non H', rt := Q } (L2.start ["thing", "many"] vs) H := by
  obtain ⟨v, d, n, rfl, r, k⟩ := h
  unfold t_is_below
  refine s_ret (v := .bl (isBelow n d)) ?_ k
  by_cases hi : ∃ i, d = .int i
  · obtain ⟨i, rfl⟩ := hi
    obtain rfl := r.i
    refine ev_is (ev_andV (ev_spB (g := isWholeD) (ed_var rfl r) trivial) fun _ => ev_chainLt ev_c (ev_var rfl) (ev_var rfl)) ?_
    show V.bl (true && (decide (0 ≤ i) && decide (i < n))) = V.bl (decide (0 ≤ i ∧ i < n))
    rw [Bool.true_and, Bool.decide_and]
  · have e1 : isBelow n d = false := by
      cases d <;> first | rfl | exact absurd ⟨_, rfl⟩ hi
    have e2 : isWholeD d = false := by
      cases d <;> first | rfl | exact absurd ⟨_, rfl⟩ hi
    rw [e1]
    refine ev_is (v := .bl (isWholeD d && false)) (ev_andV (ev_spB (ed_var rfl r) trivial) fun z => ?_) (by rw [e2]; rfl)
    rw [e2] at z
    cases z
theorem ev_below {K : PySem.W.Frag} {σ : L2.St} {H : Hp} {ta tb : TE} {E : L2.St → XK} {d : PyData} {n : Int} (h : EvD ta σ H d) (hb : Ev tb σ H (.int n)) : Ev (tCallS (sp_is_below K) E (tCons ta (tCons tb tNil))) σ H (.bl (isBelow n d)) := fun H1 e Q q =>
  h H1 e _ fun v H2 e2 r => hb H2 (e.trans e2) _ fun H3 e3 => ⟨v, d, n, rfl, r.ex e3, fun H4 e4 => q H4 ((e2.trans e3).trans e4)⟩
/-! the object -/
structure Tb where
  rows : List Int
  coming : Int
  cols : List (Str × List PyData)
/-- values: numbers and faults -/
inductive Vt (H : Hp) : V → PyData → Prop
  | int (i : Int) : Vt H (.int i) (.int i)
  | flt {a : Addr} {f w : Str} : H a = some (.tup [.str f, .str w]) → Vt H (.ref a) (.tuple [.str f, .str w])
inductive VtAll (H : Hp) : List V → List PyData → Prop
  | nil : VtAll H [] []
  | cons {v : V} {vs : List V} {d : PyData} {ds : List PyData} : Vt H v d → VtAll H vs ds → VtAll H (v :: vs) (d :: ds)
def Tup (H H' : Hp) : Prop := ∀ b xs, H b = some (.tup xs) → H' b = some (.tup xs)
theorem Vt.tup {H H' : Hp} (e : Tup H H') {v : V} {d : PyData} : Vt H v d → Vt H' v d
  | .int i => .int i
  | .flt h => .flt (e _ _ h)
theorem VtAll.tup {H H' : Hp} (e : Tup H H') : ∀ {vs : List V} {ds : List PyData}, VtAll H vs ds → VtAll H' vs ds
  | _, _, .nil => .nil
  | _, _, .cons a r => .cons (a.tup e) (r.tup e)
theorem Vt.dt {H : Hp} {v : V} {d : PyData} : Vt H v d → Dt H v d
  | .int i => .int i
  | .flt h => .tup h (.cons (.str _) (.cons (.str _) .nil))
theorem VtAll.dt {H : Hp} : ∀ {vs : List V} {ds : List PyData}, VtAll H vs ds → DtAll H vs ds
  | _, _, .nil => .nil
  | _, _, .cons a r => .cons a.dt r.dt
theorem vt_of {H : Hp} {v : V} {d : PyData} (r : Dt H v d) (h : isValueD d = true) : Vt H v d := by
  cases r with
  | int i => exact .int i
  | @tup a xs ds e r =>
    have h : (false || isFaultD (.tuple ds)) = true := h
    rw [Bool.false_or] at h
    unfold isFaultD at h
    split at h
    · rename_i f w q
      cases q
      cases r with
      | cons r1 r2 =>
        cases r2 with
        | cons r2 r3 =>
          cases r3
          cases r1
          cases w with
          | str z =>
            cases r2
            exact .flt e
          | _ => exact absurd h (by show ¬ ((decide _ && false) = true); rw [Bool.and_false]; decide)
    · cases h
  | non => cases h
  | bl b => cases h
  | str x => cases h
  | lst e r => cases h
  | dct e r => cases h
theorem VtAll.length {H : Hp} {vs : List V} {ds : List PyData} (h : VtAll H vs ds) : vs.length = ds.length := h.dt.length
/-- a column: its name, its list's place, its values -/
structure Ent where
  n : Str
  l : Addr
  ds : List PyData
def kvE (e : Ent) : Key × V := (.inr e.n, .ref e.l)
def cE (e : Ent) : Str × List PyData := (e.n, e.ds)
def ColAt (H : Hp) (e : Ent) : Prop := ∃ vs, H e.l = some (.lst vs) ∧ VtAll H vs e.ds
/-- the table tb stands at t: its dict dx, its lists and dict r, h, its columns es -/
structure TabOf (A : Cn → Addr) (H : Hp) (t dx r h : Addr) (es : List Ent) (tb : Tb) : Prop where
  nd : (t :: r :: h :: es.map (·.l)).Nodup
  nn : (es.map (·.n)).Nodup
  cols : tb.cols = es.map cE
  at_ : H t = some (.ins (A .Table) dx [("rows_now", .ref r), ("coming", .int tb.coming), ("held", .ref h)])
  rows : H r = some (.lst (tb.rows.map V.int))
  held : H h = some (.dK (es.map kvE))
  cell : ∀ e ∈ es, ColAt H e
  wide : ∀ e ∈ es, e.ds.length = tb.rows.length
  few : tb.rows.length ≤ 30 ∧ es.length ≤ 8
/-- the table tb stands at t, its places F -/
structure TabAt (A : Cn → Addr) (F : List Addr) (H : Hp) (t : Addr) (tb : Tb) : Prop where
  ex : ∃ (dx r h : Addr) (es : List Ent), F = t :: r :: h :: es.map (·.l) ∧ TabOf A H t dx r h es tb
theorem keys_es (es : List Ent) : ((es.map kvE).map fun kv => kV kv.1) = ((es.map cE).map (·.1)).map V.str := by
  rw [List.map_map, List.map_map, List.map_map]
  rfl
theorem Tup.of_ex {H H' : Hp} (e : Ex H H') : Tup H H' := fun b xs h => e b _ h
theorem ColAt.keep {H H' : Hp} {e : Ent} (h : ColAt H e) (t : Tup H H') (k : H' e.l = H e.l) : ColAt H' e := by
  obtain ⟨vs, h1, h2⟩ := h
  exact ⟨vs, by rw [k]; exact h1, h2.tup t⟩
theorem TabOf.keep {A : Cn → Addr} {H H' : Hp} {t dx r h : Addr} {es : List Ent} {tb : Tb} (T : TabOf A H t dx r h es tb) (e : Tup H H') (k : ∀ l ∈ t :: r :: h :: es.map (·.l), ∀ o, H l = some o → H' l = some o) : TabOf A H' t dx r h es tb :=
  ⟨T.nd, T.nn, T.cols, k _ (by simp) _ T.at_, k _ (by simp) _ T.rows, k _ (by simp) _ T.held, fun en hen => by
    obtain ⟨vs, h1, h2⟩ := T.cell en hen
    exact ⟨vs, k en.l (by simp only [List.mem_cons]; exact .inr (.inr (.inr (List.mem_map_of_mem hen)))) _ h1, h2.tup e⟩, T.wide, T.few⟩
theorem TabAt.keep {A : Cn → Addr} {F : List Addr} {H H' : Hp} {t : Addr} {tb : Tb} (h : TabAt A F H t tb) (e : Tup H H') (k : ∀ l ∈ F, ∀ o, H l = some o → H' l = some o) : TabAt A F H' t tb := by
  obtain ⟨dx, r, hh, es, rfl, T⟩ := h.ex
  exact ⟨dx, r, hh, es, rfl, T.keep e k⟩
theorem TabAt.ex' {A : Cn → Addr} {F : List Addr} {H H' : Hp} {t : Addr} {tb : Tb} (h : TabAt A F H t tb) (e : Ex H H') : TabAt A F H' t tb := h.keep (.of_ex e) fun l _ o => e l o
theorem TabAt.there {A : Cn → Addr} {F : List Addr} {H : Hp} {t : Addr} {tb : Tb} (h : TabAt A F H t tb) : ∀ l ∈ F, ∃ o, H l = some o := by
  obtain ⟨dx, r, hh, es, rfl, T⟩ := h.ex
  intro l hl
  simp only [List.mem_cons] at hl
  rcases hl with rfl | rfl | rfl | hl
  · exact ⟨_, T.at_⟩
  · exact ⟨_, T.rows⟩
  · exact ⟨_, T.held⟩
  · obtain ⟨e, he, rfl⟩ := List.mem_map.mp hl
    obtain ⟨vs, h1, -⟩ := T.cell e he
    exact ⟨_, h1⟩
/-- no place of a table holds a tuple -/
theorem TabAt.noTup {A : Cn → Addr} {F : List Addr} {H : Hp} {t : Addr} {tb : Tb} (h : TabAt A F H t tb) {l : Addr} (hl : l ∈ F) {xs : List V} : H l ≠ some (.tup xs) := by
  obtain ⟨dx, r, hh, es, rfl, T⟩ := h.ex
  simp only [List.mem_cons] at hl
  rcases hl with rfl | rfl | rfl | hl
  · rw [T.at_]; exact fun z => nomatch z
  · rw [T.rows]; exact fun z => nomatch z
  · rw [T.held]; exact fun z => nomatch z
  · obtain ⟨e, he, rfl⟩ := List.mem_map.mp hl
    obtain ⟨vs, h1, -⟩ := T.cell e he
    rw [h1]; exact fun z => nomatch z
/-- all but F stays -/
def Fr (F : List Addr) (H H' : Hp) : Prop := ∀ b o, H b = some o → b ∉ F → H' b = some o
theorem Fr.of_ex {F : List Addr} {H H' : Hp} (e : Ex H H') : Fr F H H' := fun b o h _ => e b o h
theorem Fr.trans {F : List Addr} {H H1 H2 : Hp} (a : Fr F H H1) (b : Fr F H1 H2) : Fr F H H2 := fun x o h n => b x o (a x o h n) n
theorem TabAt.off {A : Cn → Addr} {F : List Addr} {H : Hp} {t : Addr} {tb : Tb} (h : TabAt A F H t tb) {p : Addr} (hp : H p = none) : p ∉ F := fun q => by
  obtain ⟨o, e⟩ := h.there p q
  rw [hp] at e
  cases e
theorem Tup.upd {H : Hp} {p : Addr} {xs : List V} {o : HO} (h : H p = some (.lst xs)) : Tup H (upd H p o) := fun b ys e => by
  rw [upd_ne (fun q => by rw [q, h] at e; cases e)]
  exact e
theorem TabAt.upd {A : Cn → Addr} {F : List Addr} {H : Hp} {t : Addr} {tb : Tb} (h : TabAt A F H t tb) {p : Addr} {xs : List V} {o : HO} (hp : p ∉ F) (hl : H p = some (.lst xs)) : TabAt A F (L2.upd H p o) t tb :=
  h.keep (.upd hl) fun l hl o e => by rw [upd_ne (show l ≠ p from fun q => hp (by rw [← q]; exact hl))]; exact e
abbrev tabF : List Str := ["rows_now", "coming", "held"]
/-! __init__, many, numbers, columns -/
def sp_Table_init (K : PySem.W.Frag) (A : Cn → Addr) : Sp := fun vs H Q E => ∃ (x dx : Addr) (v : V) (d : PyData), vs = [.ref x, v] ∧ H x = some (.ins (A .Table) dx []) ∧ Dt H v d ∧
  (∀ n : Nat, d = .int n → n < 31 → ∀ H' r h, Fr [x] H H' → H r = none → H h = none → TabAt A [x, r, h] H' x ⟨upto n, n, []⟩ → Q .non H') ∧ (isBelow 31 d = false → ∀ H1, Ex H H1 → E (.ref (A .NoSize)) none H1)
def t_Table_init (K : PySem.W.Frag) (A : Cn → Addr) (E : XK) : TS :=
  tSeq (tIfS (tNot (tB (tCallS (sp_is_below K) (WE (fun cls d _ H => E cls d H)) (tCons (tVar 1) (tCons (tOp (rAddA K) (tC (.int 30)) (tC (.int 1))) tNil))))) (tRaiseA (fun cls d _ H => E cls d H) (A .NoSize)) tNext)
    (tSeq (sFld K (tVar 0) (tLstRg (tRg1 (tVar 1))) "rows_now")
    (tSeq (sFld K (tVar 0) (tVar 1) "coming")
    (sFld K (tVar 0) tDNewK "held")))
section
variable {K : PySem.W.Frag} {A : Cn → Addr} {H H' : Hp} {Q : VK} {E : XK} {vs : List V}
theorem len_Table_init (vs : List V) (H : Hp) (Q : VK) (E : XK) (h : sp_Table_init K A vs H Q E) : vs.length = 2 := by obtain ⟨_, _, _, _, rfl, _⟩ := h; rfl
theorem r_Table_init (c : ClK K (A .Table) tabF) (vs : List V) (H : Hp) (Q : VK) (E : XK) (h : sp_Table_init K A vs H Q E) : t_Table_init K A E { nx := fun _ H' => Q .non H', rt := Q } (L2.start ["self", "many"] vs) H := by
  obtain ⟨x, dx, v, d, rfl, hx, r, k1, k2⟩ := h
  unfold t_Table_init
  refine q_when (et_not (et_B (ev_below (ed_var rfl r) (ev_is (ev_op ev_c ev_c rv_addI) rfl)))) (fun hb H1 e1 => k2 ?_ H1 e1) (fun hb H1 e1 => ?_)
  · cases q : isBelow 31 d with
    | false => rfl
    | true => rw [show (30 + 1 : Int) = 31 from rfl, q] at hb; cases hb
  · have hb : isBelow 31 d = true := by
      cases q : isBelow 31 d with
      | true => rfl
      | false => rw [show (30 + 1 : Int) = 31 from rfl, q] at hb; cases hb
    obtain ⟨i, rfl, hi⟩ : ∃ i, d = .int i ∧ 0 ≤ i ∧ i < 31 := by
      cases d <;> first | (simp [isBelow] at hb; done) | exact ⟨_, rfl, of_decide_eq_true hb⟩
    obtain rfl := r.i
    obtain ⟨n, rfl⟩ : ∃ n : Nat, i = n := ⟨i.toNat, by omega⟩
    -- self.rows_now
    refine q_fldL (el_listRg (n := (n : Int)) (ev_var rfl) (by omega)) (ev_var rfl) (e1 _ _ hx) c (by decide) (by decide) fun rw_ H2 nr e2 hr => ?_
    have xr : x ≠ rw_ := fun q => by rw [← q, e1 _ _ hx] at nr; cases nr
    -- self.coming
    refine q_fld (v := .int n) (ev_var rfl) (ev_var rfl) upd_same c (by decide) (putF_lt (n := 999) (by decide) rfl) fun H3 e3 => ?_
    -- self.held
    show tDNewK _ _ _
    intro hd nh
    have nh1 : H3 hd = none := by
      cases q : H3 hd with
      | none => rfl
      | some o =>
        by_cases hx' : hd = x
        · rw [hx', upd_same] at nh; cases nh
        · rw [upd_ne hx', q] at nh; cases nh
    have hne : hd ≠ x := fun q => by rw [q, upd_same] at nh; cases nh
    refine ⟨_, rfl, x, A .Table, dx, _, rfl, (by rw [upd_ne hne.symm, upd_same]), c.cl, c.na _ (by decide), (putF_lt (putF_lt (n := 998) (by decide) rfl) rfl), ?_⟩
    have f1 : Fr [x] H H3 := fun b o h n => e3 b o (by rw [upd_ne (by simpa using n)]; exact e2 b o (e1 b o h))
    have nh0 : H hd = none := by
      cases q : H hd with
      | none => rfl
      | some o => rw [f1 hd o q (by simpa using hne)] at nh1; cases nh1
    have hr2 : H3 rw_ = some (.lst ((upto n).map V.int)) := e3 _ _ (by rw [upd_ne xr.symm]; exact hr)
    have rh : rw_ ≠ hd := fun q => by rw [q, nh1] at hr2; cases hr2
    refine k1 n rfl (by omega) _ rw_ hd (fun b o h nb => ?_) (fresh_back e1 nr) nh0 ⟨dx, rw_, hd, [], rfl, ⟨?_, .nil, rfl, ?_, ?_, ?_, fun _ h => (nomatch h), fun _ h => (nomatch h), ⟨?_, by decide⟩⟩⟩
    · have nb' : b ≠ x := by simpa using nb
      have bh : b ≠ hd := fun q => by rw [q, nh0] at h; cases h
      rw [upd_ne nb', upd_ne bh, upd_ne nb']
      exact f1 b o h nb
    · simp [xr, hne.symm, rh]
    · rw [upd_same]
      rfl
    · rw [upd_ne xr.symm, upd_ne rh, upd_ne xr.symm]
      exact hr2
    · rw [upd_ne hne, upd_same]
      rfl
    · show (upto n).length ≤ 30
      rw [upto_len]
      omega
def sp_Table_many (K : PySem.W.Frag) (A : Cn → Addr) : Sp := fun vs H Q _ => ∃ F t tb, vs = [.ref t] ∧ TabAt A F H t tb ∧ RetV (.int tb.rows.length) H Q
def sp_Table_numbers (K : PySem.W.Frag) (A : Cn → Addr) : Sp := fun vs H Q _ => ∃ F t tb, vs = [.ref t] ∧ TabAt A F H t tb ∧ RetL (tb.rows.map V.int) H Q
def sp_Table_columns (K : PySem.W.Frag) (A : Cn → Addr) : Sp := fun vs H Q _ => ∃ F t tb, vs = [.ref t] ∧ TabAt A F H t tb ∧ RetL ((tb.cols.map (·.1)).map V.str) H Q
def t_Table_many (K : PySem.W.Frag) (E : XK) : TS := tRet (tCB (rLenA K) (tCons (tFld K (tVar 0) "rows_now") tNil))
def t_Table_numbers (K : PySem.W.Frag) (E : XK) : TS := tRet (tCB (rListA K) (tCons (tFld K (tVar 0) "rows_now") tNil))
def t_Table_columns (K : PySem.W.Frag) (E : XK) : TS := tRet (tCB (rListA K) (tCons (tFld K (tVar 0) "held") tNil))
theorem len_Table_many (vs : List V) (H : Hp) (Q : VK) (E : XK) (h : sp_Table_many K A vs H Q E) : vs.length = 1 := by obtain ⟨_, _, _, rfl, _⟩ := h; rfl
theorem len_Table_numbers (vs : List V) (H : Hp) (Q : VK) (E : XK) (h : sp_Table_numbers K A vs H Q E) : vs.length = 1 := by obtain ⟨_, _, _, rfl, _⟩ := h; rfl
theorem len_Table_columns (vs : List V) (H : Hp) (Q : VK) (E : XK) (h : sp_Table_columns K A vs H Q E) : vs.length = 1 := by obtain ⟨_, _, _, rfl, _⟩ := h; rfl
theorem r_Table_many (c : ClK K (A .Table) tabF) (vs : List V) (H : Hp) (Q : VK) (E : XK) (h : sp_Table_many K A vs H Q E) : t_Table_many K E { nx := fun _ H' => Q .non H', rt := Q } (L2.start ["self"] vs) H := by
  obtain ⟨F, t, tb, rfl, T, k⟩ := h
  obtain ⟨dx, r, hh, es, rfl, O⟩ := T.ex
  have := rc_lenL (K := K) (SqL.of O.rows)
  rw [List.length_map] at this
  exact s_ret (ev_lenV (ev_fld (ev_var rfl) O.at_ c (by decide) rfl) this) k
theorem r_Table_numbers (c : ClK K (A .Table) tabF) (vs : List V) (H : Hp) (Q : VK) (E : XK) (h : sp_Table_numbers K A vs H Q E) : t_Table_numbers K E { nx := fun _ H' => Q .non H', rt := Q } (L2.start ["self"] vs) H := by
  obtain ⟨F, t, tb, rfl, T, k⟩ := h
  obtain ⟨dx, r, hh, es, rfl, O⟩ := T.ex
  exact s_retL (el_listA (ev_fld (ev_var rfl) O.at_ c (by decide) rfl) (SqL.of O.rows)) fun p H2 hp e2 hl => k p H2 hp e2 hl
theorem r_Table_columns (c : ClK K (A .Table) tabF) (vs : List V) (H : Hp) (Q : VK) (E : XK) (h : sp_Table_columns K A vs H Q E) : t_Table_columns K E { nx := fun _ H' => Q .non H', rt := Q } (L2.start ["self"] vs) H := by
  obtain ⟨F, t, tb, rfl, T, k⟩ := h
  obtain ⟨dx, r, hh, es, rfl, O⟩ := T.ex
  have := el_listK (K := K) (ta := tFld K (tVar 0) "held") (σ := L2.start ["self"] [.ref t]) (ev_fld (ev_var rfl) O.at_ c (by decide) rfl) O.held
  rw [keys_es, ← O.cols] at this
  exact s_retL this fun p H2 hp e2 hl => k p H2 hp e2 hl
/-! their calls -/
variable {σ : L2.St} {ta : TE} {F : List Addr} {t : Addr} {tb : Tb} {Ex0 : L2.St → XK}
theorem TabAt.ins (T : TabAt A F H t tb) : ∃ dx fs, H t = some (.ins (A .Table) dx fs) ∧ fs.map (·.1) = tabF := by
  obtain ⟨dx, r, hh, es, rfl, O⟩ := T.ex
  exact ⟨dx, _, O.at_, rfl⟩
theorem look_none {fs : List (Str × V)} {m : Str} (h : fs.map (·.1) = tabF) (hm : m ∉ tabF) : fs.lookup m = none := by
  have : ∀ fs : List (Str × V), m ∉ fs.map (·.1) → fs.lookup m = none := by
    intro fs
    induction fs with
    | nil => intro _; rfl
    | cons a r ih =>
      intro h
      rw [List.map_cons, List.mem_cons, not_or] at h
      obtain ⟨n, v⟩ := a
      rw [List.lookup_cons, show (m == n) = false from beq_eq_false_iff_ne.mpr h.1]
      exact ih h.2
  exact this fs (by rw [h]; exact hm)
theorem ev_many (T : TabAt A F H t tb) (ho : Ev ta σ H (.ref t)) : Ev (tMetS (A .Table) "many" (sp_Table_many K A) Ex0 ta tNil) σ H (.int tb.rows.length) := by
  obtain ⟨dx, fs, h1, hf⟩ := T.ins
  exact ev_met ho h1 (look_none hf (by decide)) ea_nil fun H1 e Q q E => ⟨F, t, tb, rfl, T.ex' e, fun H2 e2 => q H2 e2⟩
theorem el_numbers (T : TabAt A F H t tb) (ho : Ev ta σ H (.ref t)) : EvL (tMetS (A .Table) "numbers" (sp_Table_numbers K A) Ex0 ta tNil) σ H (tb.rows.map V.int) := by
  obtain ⟨dx, fs, h1, hf⟩ := T.ins
  exact el_met ho h1 (look_none hf (by decide)) ea_nil fun H1 e Q q E => ⟨F, t, tb, rfl, T.ex' e, fun p H2 hp e2 h => q p H2 hp e2 h⟩
theorem el_columns (T : TabAt A F H t tb) (ho : Ev ta σ H (.ref t)) : EvL (tMetS (A .Table) "columns" (sp_Table_columns K A) Ex0 ta tNil) σ H ((tb.cols.map (·.1)).map V.str) := by
  obtain ⟨dx, fs, h1, hf⟩ := T.ins
  exact el_met ho h1 (look_none hf (by decide)) ea_nil fun H1 e Q q E => ⟨F, t, tb, rfl, T.ex' e, fun p H2 hp e2 h => q p H2 hp e2 h⟩
/-- x = Table(n) -/
theorem x_table {n : Nat} (ha : Ev ta σ H (.int n)) (hn : n < 31) (k : ∀ x r h H2, Ex H H2 → H x = none → H r = none → H h = none → TabAt A [x, r, h] H2 x ⟨upto n, n, []⟩ → Q (.ref x) H2) :
    tMakS (A .Table) (sp_Table_init K A) Ex0 (tCons ta tNil) σ H Q := by
  refine x_makS (ea_cons ha ea_nil) fun H1 e1 x dx nx nd ne => ?_
  refine ⟨x, dx, .int n, .int n, rfl, upd_same, .int _, fun m hm _ H' r h fr hr hh T => ⟨rfl, ?_⟩, fun hb => ?_⟩
  · have e : (n : Int) = m := by
      have := PyData.int.inj hm
      exact this
    have e : n = m := by omega
    subst e
    have back : ∀ {b : Addr}, upd (upd H1 dx (.own x)) x (.ins (A .Table) dx []) b = none → H1 b = none := fun {b} q => by
      by_cases q1 : b = x
      · rw [q1]; exact nx
      · by_cases q2 : b = dx
        · rw [q2]; exact nd
        · rw [upd_ne q1, upd_ne q2] at q
          exact q
    refine k x r h H' (fun b o hb => fr b o ?_ ?_) (fresh_back e1 nx) (fresh_back e1 (back hr)) (fresh_back e1 (back hh)) T
    · have h1 := e1 b o hb
      have b1 : b ≠ x := fun q => by rw [q, nx] at h1; cases h1
      have b2 : b ≠ dx := fun q => by rw [q, nd] at h1; cases h1
      rw [upd_ne b1, upd_ne b2]
      exact h1
    · intro q
      have h1 := e1 b o hb
      rw [List.mem_singleton.mp q, nx] at h1
      cases h1
  · exfalso
    have : isBelow 31 (.int n) = true := decide_eq_true (by omega)
    rw [this] at hb
    cases hb
theorem q_table {D : Ends} {tz : TS} {n : Nat} {i : Nat} (ha : Ev ta σ H (.int n)) (hn : n < 31) (k : ∀ x r h H2, Ex H H2 → H x = none → H r = none → H h = none → TabAt A [x, r, h] H2 x ⟨upto n, n, []⟩ → tz D (σ.set i (some (.ref x))) H2) :
    tSeq (tAsg (tMakS (A .Table) (sp_Table_init K A) Ex0 (tCons ta tNil)) (gName i)) tz D σ H := x_table (Q := fun v H1 => tz D (σ.set i (some v)) H1) ha hn k
/-- [Table(n), Table(n)] -/
theorem q_table2 {D : Ends} {tz : TS} {n : Nat} {i : Nat} (ha : Ev ta σ H (.int n)) (hn : n < 31) (k : ∀ x r h x' r' h' p H2, Ex H H2 → (∀ a ∈ [x, r, h], H a = none) → (∀ a ∈ [x', r', h'], H a = none ∧ a ∉ [x, r, h]) → TabAt A [x, r, h] H2 x ⟨upto n, n, []⟩ → TabAt A [x', r', h'] H2 x' ⟨upto n, n, []⟩ → H p = none → H2 p = some (.lst [.ref x, .ref x']) → p ∉ [x, r, h] → p ∉ [x', r', h'] → tz D (σ.set i (some (.ref p))) H2) :
    tSeq (tAsg (tLst (tCons (tMakS (A .Table) (sp_Table_init K A) Ex0 (tCons ta tNil)) (tCons (tMakS (A .Table) (sp_Table_init K A) Ex0 (tCons ta tNil)) tNil))) (gName i)) tz D σ H := by
  refine x_table (Q := fun v H1 => tMakS (A .Table) (sp_Table_init K A) Ex0 (tCons ta tNil) σ H1 fun w H2 => ([v, w].length ≤ sizeLine ∧ ∀ p, H2 p = none → tz D (σ.set i (some (.ref p))) (upd H2 p (.lst [v, w])))) ha hn fun x r h H1 e1 n1 n2 n3 T1 => ?_
  refine x_table (Ev.mono e1 ha) hn fun x' r' h' H2 e2 n4 n5 n6 T2 => ⟨sz_of (show 2 ≤ 100000 by decide), fun p hp => ?_⟩
  refine k x r h x' r' h' p _ ((e1.trans e2).trans (Ex.new hp)) ?_ ?_ ((T1.ex' e2).ex' (Ex.new hp)) (T2.ex' (Ex.new hp)) (fresh_back (e1.trans e2) hp) upd_same ((T1.ex' e2).off hp) (T2.off hp)
  · intro a ha
    simp only [List.mem_cons, List.not_mem_nil, or_false] at ha
    rcases ha with rfl | rfl | rfl <;> assumption
  · intro a ha
    simp only [List.mem_cons, List.not_mem_nil, or_false] at ha
    rcases ha with rfl | rfl | rfl
    · exact ⟨fresh_back e1 n4, T1.off n4⟩
    · exact ⟨fresh_back e1 n5, T1.off n5⟩
    · exact ⟨fresh_back e1 n6, T1.off n6⟩
/-- [{}, {}] -/
theorem q_dict2 {D : Ends} {tz : TS} {i : Nat} (k : ∀ h h' p H2, Ex H H2 → H h = none → H h' = none → h ≠ h' → H p = none → H2 h = some (.dK []) → H2 h' = some (.dK []) → H2 p = some (.lst [.ref h, .ref h']) → p ≠ h → p ≠ h' → tz D (σ.set i (some (.ref p))) H2) : tSeq (tAsg (tLst (tCons tDNewK (tCons tDNewK tNil))) (gName i)) tz D σ H := by
  intro h hh h' hh' 
  refine ⟨sz_of (show 2 ≤ 100000 by decide), fun p hp => ?_⟩
  have e1 : Ex H (upd H h (.dK [])) := Ex.new hh
  have e2 := Ex.new (o := HO.dK []) hh'
  have ne : h ≠ h' := fun q => by rw [← q, upd_same] at hh'; cases hh'
  exact k h h' p _ ((e1.trans e2).trans (Ex.new hp)) hh (fresh_back e1 hh') ne (fresh_back (e1.trans e2) hp) (Ex.new hp _ _ (e2 _ _ upd_same)) (Ex.new hp _ _ upd_same) upd_same (fun q => by subst q; rw [e2 _ _ upd_same] at hp; cases hp) (fun q => by rw [q, upd_same] at hp; cases hp)
end
end Z

set_option Elab.async false
set_option linter.all false
set_option autoImplicit false
set_option maxRecDepth 100000
set_option maxHeartbeats 4000000
/-! ev: what an expression comes to, by its form -/
local macro_rules | `(tactic| k_places) => `(tactic| (repeat' (first
  | (with_reducible exact ev_c)
  | (with_reducible exact ev_var rfl)
  | (with_reducible refine ev_chainLL ?_ ?_ ?_)
  | (with_reducible refine ev_chainLt ?_ ?_ ?_)
  | (with_reducible refine ev_op ?_ ?_ ?_)
  | (with_reducible refine ev_neg ?_)
  | (with_reducible refine et_test ?_)
  | (with_reducible refine et_B ?_)
  | (with_reducible refine et_not ?_)
  | (with_reducible refine et_and ?_ (fun _ => ?_))
  | (with_reducible refine et_or ?_ (fun _ => ?_))
  | (with_reducible refine ev_andV ?_ (fun _ => ?_))
  | (with_reducible refine ev_orV ?_ (fun _ => ?_))
  | (with_reducible refine ev_notV ?_)
  | (with_reducible exact rv_addI)
  | (with_reducible exact rv_subI)
  | (with_reducible exact rv_lt)
  | (with_reducible exact rv_le)
  | (with_reducible exact rv_gt)
  | (with_reducible exact rv_ge)
  | (with_reducible exact rv_isB)
  | (with_reducible exact rv_isnB)
  | (with_reducible exact rv_isN)
  | (with_reducible exact rv_isnN)
  | (with_reducible exact rv_eqS rfl)
  | (with_reducible exact rv_neS rfl)
  | (with_reducible exact rv_inStr)
  | (with_reducible exact rv_ninStr)
  | (with_reducible exact rv_mod (by first | decide | omega | assumption))
  | (with_reducible exact rv_div (by first | decide | omega | assumption))
  | (with_reducible exact rv_pow (by decide))
  | (with_reducible refine ed_i ?_; done)
  | (with_reducible exact ea_nil)
  | (with_reducible refine ea_cons ?_ ?_)
  | (with_reducible exact eds_nil)
  | (with_reducible refine eds_cons ?_ ?_)
  | (with_reducible exact ed_dnew)
  | (with_reducible refine ed_lst ?_ (by simp only [List.length_cons, List.length_nil]; omega))
  | (with_reducible refine ed_tup ?_ (by simp only [List.length_cons, List.length_nil]; omega)))))
namespace Z
open PySem PySem.Spec PyProof.Rows L2 Evl
/-! ### the table's other methods -/
section
variable {α : Type}
def getA (cs : List (Str × α)) (z : Str) : Option α := (cs.find? fun c => decide (c.1 = z)).map (·.2)
def putA (cs : List (Str × α)) (z : Str) (y : α) : List (Str × α) := if (cs.any fun c => decide (c.1 = z)) = true then cs.map (fun c => if c.1 = z then (c.1, y) else c) else cs ++ [(z, y)]
def dropA (cs : List (Str × α)) (z : Str) : List (Str × α) := cs.filter fun c => decide (c.1 ≠ z)
def onA (f : α → α) (cs : List (Str × α)) (z : Str) : List (Str × α) := cs.map fun c => if c.1 = z then (c.1, f c.2) else c
end
def hasC (tb : Tb) : PyData → Bool
  | .str z => tb.cols.any fun c => decide (c.1 = z)
  | _ => false
def areVals (n : Nat) : PyData → Bool
  | .list ds => decide (ds.length = n) && ds.all isValueD
  | _ => false
def nameD : PyData → Str
  | .str z => z
  | _ => ""
def listD : PyData → List PyData
  | .list ds => ds
  | _ => []
def intD : PyData → Int
  | .int i => i
  | _ => 0
def giveB (tb : Tb) (c vs : PyData) : Except Cn Tb :=
  if isNameD c then if !hasC tb c && decide (8 ≤ tb.cols.length) then .error .TooMuch else if areVals tb.rows.length vs then .ok { tb with cols := putA tb.cols (nameD c) (listD vs) } else .error .NoValue else .error .NoName
def dropB (tb : Tb) (c : PyData) : Except Cn Tb := if hasC tb c then .ok { tb with cols := dropA tb.cols (nameD c) } else .error .NoColumn
def putB (tb : Tb) (c p v : PyData) : Except Cn Tb :=
  if hasC tb c then if isBelow tb.rows.length p then if isValueD v then .ok { tb with cols := onA (fun ds => ds.set (intD p).toNat v) tb.cols (nameD c) } else .error .NoValue else .error .NoPlace else .error .NoColumn
def atB (tb : Tb) (c p : PyData) : Except Cn PyData :=
  if hasC tb c then if isBelow tb.rows.length p then .ok (((getA tb.cols (nameD c)).getD []).getD (intD p).toNat .none) else .error .NoPlace else .error .NoColumn
/-- what a change of a table comes to -/
def Out (A : Cn → Addr) (F : List Addr) (t : Addr) (H : Hp) (Q : VK) (E : XK) : Except Cn Tb → Prop
  | .error c => ∀ H1, Ex H H1 → E (.ref (A c)) none H1
  | .ok tb => ∀ H' F', TabAt A F' H' t tb → Fr F H H' → (∀ b ∈ F', b ∈ F ∨ H b = none) → Q .non H'
theorem Out.ex {A : Cn → Addr} {F : List Addr} {t : Addr} {H H' : Hp} {Q : VK} {E : XK} {r : Except Cn Tb} (e : Ex H H') (h : Out A F t H Q E r) : Out A F t H' Q E r := by
  cases r with
  | error c => exact fun H1 e1 => h H1 (e.trans e1)
  | ok tb => exact fun H1 F' T f n => h H1 F' T (Fr.trans (.of_ex e) f) fun b hb => (n b hb).imp_right (fresh_back e)
/-! entries -/
theorem valV_es (es : List Ent) (z : Str) : valV (es.map kvE) (.inr z) = (es.find? fun e => decide (e.n = z)).map fun e => V.ref e.l := by
  unfold valV
  rw [List.find?_map, Option.map_map]
  have : ((fun kv : Key × V => decide (kv.1 = .inr z)) ∘ kvE) = fun e : Ent => decide (e.n = z) := by
    funext e
    show decide ((Sum.inr e.n : Key) = .inr z) = _
    exact decide_eq_decide.mpr ⟨fun h => Sum.inr.inj h, fun h => by rw [h]⟩
  rw [this]
  rfl
theorem any_es (es : List Ent) (z : Str) : ((es.map cE).any fun c => decide (c.1 = z)) = es.any fun e => decide (e.n = z) := by
  rw [List.any_map]
  rfl
theorem getA_es (es : List Ent) (z : Str) : getA (es.map cE) z = (es.find? fun e => decide (e.n = z)).map (·.ds) := by
  unfold getA
  rw [List.find?_map, Option.map_map]
  rfl
theorem find_es {es : List Ent} {z : Str} (h : (es.any fun e => decide (e.n = z)) = true) : ∃ e ∈ es, e.n = z ∧ (es.find? fun e => decide (e.n = z)) = some e := by
  obtain ⟨e, he⟩ := Option.isSome_iff_exists.mp (List.find?_isSome.mpr (List.any_eq_true.mp h))
  exact ⟨e, List.mem_of_find?_eq_some he, of_decide_eq_true (List.find?_some (p := fun e : Ent => decide (e.n = z)) he), he⟩
theorem hasC_es {A : Cn → Addr} {H : Hp} {t dx r h : Addr} {es : List Ent} {tb : Tb} (T : TabOf A H t dx r h es tb) (z : Str) : hasC tb (.str z) = es.any fun e => decide (e.n = z) := by
  show (tb.cols.any fun c => decide (c.1 = z)) = _
  rw [T.cols, any_es]
section
variable {K : PySem.W.Frag} {A : Cn → Addr} {H H' : Hp} {Q : VK} {E : XK} {vs : List V} {σ : L2.St} {ta tb te tx : TE} {D : Ends} {tz : TS} {F : List Addr} {t : Addr} {Ex0 : L2.St → XK}
theorem rv_inDk {p : Addr} {kvs : List (Key × V)} {k : Key} (h : H p = some (.dK kvs)) : RV (rInA K) (kV k) (.ref p) H (.bl (valV kvs k).isSome) := fun H1 e _ q => .inr (.inl ⟨p, _, rfl, DGet.k (e _ _ h), q H1 (Ex.refl H1)⟩)
theorem rv_ixDk {p : Addr} {kvs : List (Key × V)} {k : Key} {v : V} (h : H p = some (.dK kvs)) (hv : valV kvs k = some v) : RV (rIxA K) (.ref p) (kV k) H v := fun H1 e _ q => .inr ⟨p, v, rfl, hv ▸ DGet.k (e _ _ h), q H1 (Ex.refl H1)⟩
theorem len_es (es : List Ent) : (es.map kvE).length = es.length := List.length_map _
/-! are_values -/
def sp_are_values (K : PySem.W.Frag) : Sp := fun vs H Q _ => ∃ (v : V) (d : PyData) (n : Nat), vs = [v, .int n] ∧ Dt H v d ∧ (∀ x ∈ listD d, short2 x) ∧ (listD d).length ≤ 40000 ∧ RetV (.bl (areVals n d)) H Q
def t_are_values (K : PySem.W.Frag) (E : XK) : TS :=
  tRet (tAndV (tCB (rIsiA K) (tCons (tVar 0) (tCons (tC (.ty "list")) tNil))) (tAndV (tOp (rEqA K) (tCB (rLenA K) (tCons (tVar 0) tNil)) (tVar 1)) (tCB (rAll K) (tCons (tLc (iList K (tVar 0)) (gName 2) tYes (tCall (sp_is_value K) [] E0 (tCons (tVar 2) tNil)) [2]) tNil))))
theorem len_are_values (vs : List V) (H : Hp) (Q : VK) (E : XK) (h : sp_are_values K vs H Q E) : vs.length = 2 := by obtain ⟨_, _, _, rfl, _⟩ := h; rfl
theorem given_map {xs : List V} {bs : List Bool} (h : xs.length = bs.length) (f : Nat → Bool) (hf : ∀ i, i < xs.length → f i = bs.getD i false) : given xs.length (fun _ => true) (fun i => .bl (f i)) = bs.map V.bl := by
  unfold given
  rw [List.filter_eq_self.mpr (fun _ _ => rfl)]
  apply List.ext_getElem?
  intro i
  rw [List.getElem?_map, List.getElem?_map]
  by_cases hi : i < xs.length
  · rw [List.getElem?_range hi, List.getElem?_eq_getElem (by omega : i < bs.length)]
    show some (V.bl (f i)) = some (V.bl bs[i])
    rw [hf i hi, List.getD_eq_getElem?_getD, List.getElem?_eq_getElem (by omega : i < bs.length)]
    rfl
  · rw [List.getElem?_eq_none (by simpa using hi), List.getElem?_eq_none (by omega)]
    rfl
theorem ev_spB2 {pre : PyData → Prop} {g : PyData → Bool} {d : PyData} (h : EvD te σ H d) (hp : pre d) : Ev (tCall (sp1 pre fun d => .bool (g d)) [] E0 (tCons te tNil)) σ H (.bl (g d)) := ev_b (ed_call (ds := [d]) (eds_cons h eds_nil) rfl hp)
theorem r_are_values (vs : List V) (H : Hp) (Q : VK) (E : XK) (h : sp_are_values K vs H Q E) : t_are_values K E { nx := fun _ H' => Q .non H', rt := Q } (L2.start ["thing", "many", "value"] vs) H := by
  obtain ⟨v, d, n, rfl, r, hs, hz, k⟩ := h
  unfold t_are_values
  refine s_ret (v := .bl (areVals n d)) ?_ k
  by_cases hi : ∃ ds, d = .list ds
  · obtain ⟨ds, rfl⟩ := hi
    have hs : ∀ x ∈ ds, short2 x := hs
    have hz : ds.length ≤ 40000 := hz
    cases r with
    | @lst a xs _ ha r =>
    have el := r.length
    have hl : Ev (tCB (rLenA K) (tCons (tVar 0) tNil)) (L2.start ["thing", "many", "value"] [V.ref a, .int n]) H (.int ds.length) := by
      rw [← el]
      exact ev_lenV (ev_var rfl) (rc_lenL (SqL.of ha))
    have D0 : Dt H (.ref a) (.list ds) := .lst ha r
    refine ev_is (ev_andV (ev_isD (ed_var rfl D0)) fun _ => ev_andV (ev_op hl (ev_var rfl) (rv_eqS rfl)) fun _ => ev_all (bs := ds.map isValueD) ?_) ?_
    · rw [← given_map (xs := xs) (bs := ds.map isValueD) (by rw [List.length_map, el]) (fun i => (ds.map isValueD).getD i false) (fun _ _ => rfl)]
      refine el_lcL (fun _ => true) _ (ev_var rfl) (SqL.of ha) (by omega) (fun _ => rfl) (fun i x H1 _ _ => fun H2 _ Q q => q H2 (Ex.refl H2)) (fun i x H1 e1 hx _ => ?_)
      obtain ⟨d, hd, rx⟩ := r.getV hx
      refine ev_is (ev_spB2 (g := isValueD) (pre := short2) (ed_var rfl (rx.ex e1)) (hs d (List.mem_of_getElem? hd))) ?_
      rw [List.getD_eq_getElem?_getD, List.getElem?_map, hd]
      rfl
    · show V.bl (true && (decide (V.int ds.length = V.int n) && (ds.map isValueD).all id)) = V.bl (decide (ds.length = n) && ds.all isValueD)
      rw [Bool.true_and, List.all_map]
      congr 2
      exact decide_eq_decide.mpr ⟨fun h => by have := V.int.inj h; omega, fun h => by rw [h]⟩
  · have e1 : areVals n d = false := by
      cases d <;> first | rfl | exact absurd ⟨_, rfl⟩ hi
    have e2 : isiB (kindD d) "list" = false := by
      cases d <;> first | rfl | exact absurd ⟨_, rfl⟩ hi
    rw [e1]
    refine ev_is (v := .bl (isiB (kindD d) "list" && false)) (ev_andV (ev_isD (ed_var rfl r)) fun z => ?_) (by rw [e2]; rfl)
    rw [e2] at z
    cases z
theorem ev_areV {d : PyData} {n : Nat} (h : EvD ta σ H d) (hb : Ev tb σ H (.int n)) (hs : ∀ x ∈ listD d, short2 x) (hz : (listD d).length ≤ 40000) : Ev (tCallS (sp_are_values K) Ex0 (tCons ta (tCons tb tNil))) σ H (.bl (areVals n d)) := fun H1 e Q q =>
  h H1 e _ fun v H2 e2 r => hb H2 (e.trans e2) _ fun H3 e3 => ⟨v, d, n, rfl, r.ex e3, hs, hz, fun H4 e4 => q H4 ((e2.trans e3).trans e4)⟩
/-! has -/
def sp_Table_has (K : PySem.W.Frag) (A : Cn → Addr) : Sp := fun vs H Q _ => ∃ F t b v d, vs = [.ref t, v] ∧ TabAt A F H t b ∧ Dt H v d ∧ RetV (.bl (hasC b d)) H Q
def t_Table_has (K : PySem.W.Frag) (E : XK) : TS :=
  tRet (tAndV (tCB (rIsiA K) (tCons (tVar 1) (tCons (tC (.ty "str")) tNil))) (tOp (rInA K) (tVar 1) (tFld K (tVar 0) "held")))
theorem len_Table_has (vs : List V) (H : Hp) (Q : VK) (E : XK) (h : sp_Table_has K A vs H Q E) : vs.length = 2 := by obtain ⟨_, _, _, _, _, rfl, _⟩ := h; rfl
theorem r_Table_has (c : ClK K (A .Table) tabF) (vs : List V) (H : Hp) (Q : VK) (E : XK) (h : sp_Table_has K A vs H Q E) : t_Table_has K E { nx := fun _ H' => Q .non H', rt := Q } (L2.start ["self", "column"] vs) H := by
  obtain ⟨F, t, b, v, d, rfl, T, rd, k⟩ := h
  obtain ⟨dx, r, hh, es, rfl, O⟩ := T.ex
  unfold t_Table_has
  refine s_ret (v := .bl (hasC b d)) ?_ k
  by_cases hi : ∃ z, d = .str z
  · obtain ⟨z, rfl⟩ := hi
    obtain rfl := rd.s
    refine ev_is (ev_andV (ev_isD (ed_var rfl rd)) fun _ => ev_op (ev_var rfl) (ev_fld (ev_var rfl) O.at_ c (by decide) rfl) (rv_inDk (k := .inr z) O.held)) ?_
    rw [hasC_es O, valV_es, Option.isSome_map]
    show V.bl (true && _) = _
    rw [Bool.true_and, List.isSome_find?]
  · have e1 : hasC b d = false := by
      cases d <;> first | rfl | exact absurd ⟨_, rfl⟩ hi
    have e2 : isiB (kindD d) "str" = false := by
      cases d <;> first | rfl | exact absurd ⟨_, rfl⟩ hi
    rw [e1]
    refine ev_is (v := .bl (isiB (kindD d) "str" && false)) (ev_andV (ev_isD (ed_var rfl rd)) fun z => ?_) (by rw [e2]; rfl)
    rw [e2] at z
    cases z
theorem ev_has {d : PyData} {b : Tb} (T : TabAt A F H t b) (ho : Ev ta σ H (.ref t)) (h : EvD te σ H d) : Ev (tMetS (A .Table) "has" (sp_Table_has K A) Ex0 ta (tCons te tNil)) σ H (.bl (hasC b d)) := fun H1 e Q q => by
  obtain ⟨dx, fs, h1, hf⟩ := T.ins
  exact ho H1 e _ fun H2 e2 => ⟨t, dx, fs, rfl, (e.trans e2) _ _ h1, look_none hf (by decide), h H2 (e.trans e2) _ fun v H3 e3 r => ⟨F, t, b, v, d, rfl, T.ex' ((e.trans e2).trans e3), r, fun H4 e4 => q H4 ((e2.trans e3).trans e4)⟩⟩
/-! look_at, look_at_place -/
def Go (A : Cn → Addr) (ok : Bool) (c : Cn) (H : Hp) (Q : VK) (E : XK) : Prop := (ok = true → RetV .non H Q) ∧ (ok = false → ∀ H1, Ex H H1 → E (.ref (A c)) none H1)
def sp_Table_look_at (K : PySem.W.Frag) (A : Cn → Addr) : Sp := fun vs H Q E => ∃ F t b v d, vs = [.ref t, v] ∧ TabAt A F H t b ∧ Dt H v d ∧ Go A (hasC b d) .NoColumn H Q E
def sp_Table_look_at_place (K : PySem.W.Frag) (A : Cn → Addr) : Sp := fun vs H Q E => ∃ (t : Addr) (v : V) (d : PyData) (n : Int), vs = [.ref t, v, .int n] ∧ Dt H v d ∧ Go A (isBelow n d) .NoPlace H Q E
def t_Table_look_at (K : PySem.W.Frag) (A : Cn → Addr) (E : XK) : TS :=
  tIfS (tNot (tB (tMetS (A .Table) "has" (sp_Table_has K A) (WE (fun cls d _ H => E cls d H)) (tVar 0) (tCons (tVar 1) tNil)))) (tRaiseA (fun cls d _ H => E cls d H) (A .NoColumn)) tNext
def t_Table_look_at_place (K : PySem.W.Frag) (A : Cn → Addr) (E : XK) : TS :=
  tIfS (tNot (tB (tCallS (sp_is_below K) (WE (fun cls d _ H => E cls d H)) (tCons (tVar 1) (tCons (tVar 2) tNil))))) (tRaiseA (fun cls d _ H => E cls d H) (A .NoPlace)) tNext
theorem len_Table_look_at (vs : List V) (H : Hp) (Q : VK) (E : XK) (h : sp_Table_look_at K A vs H Q E) : vs.length = 2 := by obtain ⟨_, _, _, _, _, rfl, _⟩ := h; rfl
theorem len_Table_look_at_place (vs : List V) (H : Hp) (Q : VK) (E : XK) (h : sp_Table_look_at_place K A vs H Q E) : vs.length = 3 := by obtain ⟨_, _, _, _, rfl, _⟩ := h; rfl
theorem not_eq_true_iff {b : Bool} (h : (!b) = true) : b = false := by cases b <;> simp_all
theorem not_eq_false_iff {b : Bool} (h : (!b) = false) : b = true := by cases b <;> simp_all
theorem r_Table_look_at (c : ClK K (A .Table) tabF) (vs : List V) (H : Hp) (Q : VK) (E : XK) (h : sp_Table_look_at K A vs H Q E) : t_Table_look_at K A E { nx := fun _ H' => Q .non H', rt := Q } (L2.start ["self", "column"] vs) H := by
  obtain ⟨F, t, b, v, d, rfl, T, rd, k1, k2⟩ := h
  exact s_when (et_not (et_B (ev_has T (ev_var rfl) (ed_var rfl rd)))) (fun hb H1 e1 => k2 (not_eq_true_iff hb) H1 e1) fun hb H1 e1 => k1 (not_eq_false_iff hb) H1 e1
theorem r_Table_look_at_place (c : ClK K (A .Table) tabF) (vs : List V) (H : Hp) (Q : VK) (E : XK) (h : sp_Table_look_at_place K A vs H Q E) : t_Table_look_at_place K A E { nx := fun _ H' => Q .non H', rt := Q } (L2.start ["self", "place", "many"] vs) H := by
  obtain ⟨t, v, d, n, rfl, rd, k1, k2⟩ := h
  exact s_when (et_not (et_B (ev_below (ed_var rfl rd) (ev_var rfl)))) (fun hb H1 e1 => k2 (not_eq_true_iff hb) H1 e1) fun hb H1 e1 => k1 (not_eq_false_iff hb) H1 e1
theorem q_look {d : PyData} {b : Tb} (T : TabAt A F H t b) (ho : Ev ta σ H (.ref t)) (h : EvD te σ H d) (k1 : hasC b d = true → ∀ H1, Ex H H1 → tz D σ H1) (k2 : hasC b d = false → ∀ H1, Ex H H1 → (Ex0 σ) (.ref (A .NoColumn)) none H1) :
    tSeq (tDrop (tMetS (A .Table) "look_at" (sp_Table_look_at K A) Ex0 ta (tCons te tNil))) tz D σ H := by
  obtain ⟨dx, fs, h1, hf⟩ := T.ins
  exact ho H (Ex.refl H) _ fun H2 e2 => ⟨t, dx, fs, rfl, e2 _ _ h1, look_none hf (by decide), h H2 e2 _ fun v H3 e3 r => ⟨F, t, b, v, d, rfl, T.ex' (e2.trans e3), r, fun q H4 e4 => k1 q H4 ((e2.trans e3).trans e4), fun q H4 e4 => k2 q H4 ((e2.trans e3).trans e4)⟩⟩
theorem q_lookP {d : PyData} {n : Int} {b : Tb} (T : TabAt A F H t b) (ho : Ev ta σ H (.ref t)) (h : EvD te σ H d) (hn : Ev tb σ H (.int n)) (k1 : isBelow n d = true → ∀ H1, Ex H H1 → tz D σ H1) (k2 : isBelow n d = false → ∀ H1, Ex H H1 → (Ex0 σ) (.ref (A .NoPlace)) none H1) :
    tSeq (tDrop (tMetS (A .Table) "look_at_place" (sp_Table_look_at_place K A) Ex0 ta (tCons te (tCons tb tNil)))) tz D σ H := by
  obtain ⟨dx, fs, h1, hf⟩ := T.ins
  exact ho H (Ex.refl H) _ fun H2 e2 => ⟨t, dx, fs, rfl, e2 _ _ h1, look_none hf (by decide), h H2 e2 _ fun v H3 e3 r => hn H3 (e2.trans e3) _ fun H4 e4 => ⟨t, v, d, n, rfl, r.ex e4, fun q H5 e5 => k1 q H5 (((e2.trans e3).trans e4).trans e5), fun q H5 e5 => k2 q H5 (((e2.trans e3).trans e4).trans e5)⟩⟩
end
end Z

set_option Elab.async false
set_option linter.all false
set_option autoImplicit false
set_option maxRecDepth 100000
set_option maxHeartbeats 4000000
/-! ev: what an expression comes to, by its form -/
local macro_rules | `(tactic| k_places) => `(tactic| (repeat' (first
  | (with_reducible exact ev_c)
  | (with_reducible exact ev_var rfl)
  | (with_reducible refine ev_chainLL ?_ ?_ ?_)
  | (with_reducible refine ev_chainLt ?_ ?_ ?_)
  | (with_reducible refine ev_op ?_ ?_ ?_)
  | (with_reducible refine ev_neg ?_)
  | (with_reducible refine et_test ?_)
  | (with_reducible refine et_B ?_)
  | (with_reducible refine et_not ?_)
  | (with_reducible refine et_and ?_ (fun _ => ?_))
  | (with_reducible refine et_or ?_ (fun _ => ?_))
  | (with_reducible refine ev_andV ?_ (fun _ => ?_))
  | (with_reducible refine ev_orV ?_ (fun _ => ?_))
  | (with_reducible refine ev_notV ?_)
  | (with_reducible exact rv_addI)
  | (with_reducible exact rv_subI)
  | (with_reducible exact rv_lt)
  | (with_reducible exact rv_le)
  | (with_reducible exact rv_gt)
  | (with_reducible exact rv_ge)
  | (with_reducible exact rv_isB)
  | (with_reducible exact rv_isnB)
  | (with_reducible exact rv_isN)
  | (with_reducible exact rv_isnN)
  | (with_reducible exact rv_eqS rfl)
  | (with_reducible exact rv_neS rfl)
  | (with_reducible exact rv_inStr)
  | (with_reducible exact rv_ninStr)
  | (with_reducible exact rv_mod (by first | decide | omega | assumption))
  | (with_reducible exact rv_div (by first | decide | omega | assumption))
  | (with_reducible exact rv_pow (by decide))
  | (with_reducible refine ed_i ?_; done)
  | (with_reducible exact ea_nil)
  | (with_reducible refine ea_cons ?_ ?_)
  | (with_reducible exact eds_nil)
  | (with_reducible refine eds_cons ?_ ?_)
  | (with_reducible exact ed_dnew)
  | (with_reducible refine ed_lst ?_ (by simp only [List.length_cons, List.length_nil]; omega))
  | (with_reducible refine ed_tup ?_ (by simp only [List.length_cons, List.length_nil]; omega)))))
namespace Z
open PySem PySem.Spec PyProof.Rows L2 Evl
/-! ### give, drop, put, at -/
def putE (es : List Ent) (z : Str) (p : Addr) (ds : List PyData) : List Ent := if (es.any fun e => decide (e.n = z)) = true then es.map (fun e => if e.n = z then ⟨z, p, ds⟩ else e) else es ++ [⟨z, p, ds⟩]
theorem putE_kv (es : List Ent) (z : Str) (p : Addr) (ds : List PyData) : (putE es z p ds).map kvE = putK (es.map kvE) (.inr z) (.ref p) := by
  unfold putE putK
  rw [List.any_map]
  have : ((fun kv : Key × V => decide (kv.1 = .inr z)) ∘ kvE) = fun e : Ent => decide (e.n = z) := by
    funext e
    show decide ((Sum.inr e.n : Key) = .inr z) = _
    exact decide_eq_decide.mpr ⟨fun h => Sum.inr.inj h, fun h => by rw [h]⟩
  rw [this]
  split
  · rw [List.map_map, List.map_map]
    refine List.map_congr_left fun e _ => ?_
    show kvE (if e.n = z then ⟨z, p, ds⟩ else e) = if (Sum.inr e.n : Key) = .inr z then (Sum.inr e.n, V.ref p) else kvE e
    by_cases h : e.n = z
    · rw [if_pos h, if_pos (by rw [h]), h]
      rfl
    · rw [if_neg h, if_neg (fun q => h (Sum.inr.inj q))]
  · rw [List.map_append]
    rfl
theorem putE_c (es : List Ent) (z : Str) (p : Addr) (ds : List PyData) : (putE es z p ds).map cE = putA (es.map cE) z ds := by
  unfold putE putA
  rw [any_es]
  split
  · rw [List.map_map, List.map_map]
    refine List.map_congr_left fun e _ => ?_
    show cE (if e.n = z then ⟨z, p, ds⟩ else e) = if e.n = z then (e.n, ds) else cE e
    by_cases h : e.n = z
    · rw [if_pos h, if_pos h, h]
      rfl
    · rw [if_neg h, if_neg h]
  · rw [List.map_append]
    rfl
theorem putE_mem {es : List Ent} {z : Str} {p : Addr} {ds : List PyData} {e : Ent} (h : e ∈ putE es z p ds) : e ∈ es ∨ e = ⟨z, p, ds⟩ := by
  unfold putE at h
  split at h
  · obtain ⟨e0, h0, rfl⟩ := List.mem_map.mp h
    split
    · exact .inr rfl
    · exact .inl h0
  · rcases List.mem_append.mp h with h | h
    · exact .inl h
    · exact .inr (List.mem_singleton.mp h)
theorem putE_n {es : List Ent} {z : Str} {p : Addr} {ds : List PyData} (nn : (es.map (·.n)).Nodup) : ((putE es z p ds).map (·.n)).Nodup := by
  unfold putE
  split
  · have : (es.map (fun e => if e.n = z then (⟨z, p, ds⟩ : Ent) else e)).map (·.n) = es.map (·.n) := by
      rw [List.map_map]
      refine List.map_congr_left fun e _ => ?_
      show (if e.n = z then (⟨z, p, ds⟩ : Ent) else e).n = e.n
      split
      · rename_i h; exact h.symm
      · rfl
    rw [this]
    exact nn
  · rename_i h
    rw [List.map_append, List.nodup_append]
    refine ⟨nn, by simp, fun a ha b hb => ?_⟩
    obtain ⟨e, he, rfl⟩ := List.mem_map.mp ha
    have hb : b = z := by simpa using hb
    subst hb
    intro q
    exact h (List.any_eq_true.mpr ⟨e, he, decide_eq_true q⟩)
theorem putE_l {es : List Ent} {z : Str} {p : Addr} {ds : List PyData} (nn : (es.map (·.n)).Nodup) (nl : (es.map (·.l)).Nodup) (hp : ∀ e ∈ es, e.l ≠ p) : ((putE es z p ds).map (·.l)).Nodup := by
  unfold putE
  split
  · rw [List.map_map]
    unfold List.Nodup at nn nl ⊢
    rw [List.pairwise_map] at nn nl ⊢
    refine List.Pairwise.imp_of_mem (fun {a b} ha hb hab => ?_) (nn.and nl)
    show (if a.n = z then (⟨z, p, ds⟩ : Ent) else a).l ≠ (if b.n = z then (⟨z, p, ds⟩ : Ent) else b).l
    by_cases h1 : a.n = z <;> by_cases h2 : b.n = z
    · exact absurd (h1.trans h2.symm) hab.1
    · rw [if_pos h1, if_neg h2]; exact (hp b hb).symm
    · rw [if_neg h1, if_pos h2]; exact hp a ha
    · rw [if_neg h1, if_neg h2]; exact hab.2
  · rw [List.map_append, List.nodup_append]
    refine ⟨nl, by simp, fun a ha b hb => ?_⟩
    obtain ⟨e, he, rfl⟩ := List.mem_map.mp ha
    have hb : b = p := by simpa using hb
    subst hb
    exact hp e he
theorem nodup3 {t r h : Addr} {ls ls' : List Addr} (nd : (t :: r :: h :: ls).Nodup) (n' : ls'.Nodup) (m : ∀ l ∈ ls', l ∈ ls ∨ (l ≠ t ∧ l ≠ r ∧ l ≠ h)) : (t :: r :: h :: ls').Nodup := by
  simp only [List.nodup_cons, List.mem_cons, not_or] at nd ⊢
  obtain ⟨⟨a1, a2, a3⟩, ⟨b1, b2⟩, c1, _⟩ := nd
  refine ⟨⟨a1, a2, fun q => ?_⟩, ⟨b1, fun q => ?_⟩, fun q => ?_, n'⟩
  · rcases m _ q with q | q
    · exact a3 q
    · exact q.1 rfl
  · rcases m _ q with q | q
    · exact b2 q
    · exact q.2.1 rfl
  · rcases m _ q with q | q
    · exact c1 q
    · exact q.2.2 rfl
section
variable {K : PySem.W.Frag} {A : Cn → Addr} {H H' : Hp} {Q : VK} {E : XK} {vs : List V} {σ : L2.St} {ta te tx tb : TE} {D : Ends} {tz : TS} {F : List Addr} {t : Addr} {Ex0 : L2.St → XK} {dx r h : Addr} {es : List Ent} {b : Tb}
theorem TabOf.ne_es (T : TabOf A H t dx r h es b) {e : Ent} (he : e ∈ es) : e.l ≠ t ∧ e.l ≠ r ∧ e.l ≠ h := by
  have nd := T.nd
  simp only [List.nodup_cons, List.mem_cons, not_or] at nd
  have m : e.l ∈ es.map (·.l) := List.mem_map_of_mem he
  exact ⟨fun q => nd.1.2.2 (q ▸ m), fun q => nd.2.1.2 (q ▸ m), fun q => nd.2.2.1 (q ▸ m)⟩
theorem TabOf.ne3 (T : TabOf A H t dx r h es b) : t ≠ r ∧ t ≠ h ∧ r ≠ h := by
  have nd := T.nd
  simp only [List.nodup_cons, List.mem_cons, not_or] at nd
  exact ⟨nd.1.1, nd.1.2.1, nd.2.1.1⟩
theorem TabOf.nl (T : TabOf A H t dx r h es b) : (es.map (·.l)).Nodup := by
  have nd := T.nd
  simp only [List.nodup_cons] at nd
  exact nd.2.2.2
theorem TabOf.sameL (T : TabOf A H t dx r h es b) {e e' : Ent} (he : e ∈ es) (he' : e' ∈ es) (q : e.l = e'.l) : e = e' := by
  have nl := T.nl
  clear T
  induction es with
  | nil => cases he
  | cons a s ih =>
    rw [List.map_cons, List.nodup_cons] at nl
    rcases List.mem_cons.mp he with h1 | h1 <;> rcases List.mem_cons.mp he' with h2 | h2
    · rw [h1, h2]
    · exact absurd (List.mem_map_of_mem (f := (·.l)) h2) (by show e'.l ∉ _; rw [← q, h1]; exact nl.1)
    · exact absurd (List.mem_map_of_mem (f := (·.l)) h1) (by show e.l ∉ _; rw [q, h2]; exact nl.1)
    · exact ih h1 h2 nl.2
theorem TabOf.sameN (T : TabOf A H t dx r h es b) {e e' : Ent} (he : e ∈ es) (he' : e' ∈ es) (q : e.n = e'.n) : e = e' := by
  have nl := T.nn
  clear T
  induction es with
  | nil => cases he
  | cons a s ih =>
    rw [List.map_cons, List.nodup_cons] at nl
    rcases List.mem_cons.mp he with h1 | h1 <;> rcases List.mem_cons.mp he' with h2 | h2
    · rw [h1, h2]
    · exact absurd (List.mem_map_of_mem (f := (·.n)) h2) (by show e'.n ∉ _; rw [← q, h1]; exact nl.1)
    · exact absurd (List.mem_map_of_mem (f := (·.n)) h1) (by show e.n ∉ _; rw [q, h2]; exact nl.1)
    · exact ih h1 h2 nl.2
/-- the column named is there -/
theorem TabOf.find (T : TabOf A H t dx r h es b) {d : PyData} (q : hasC b d = true) : ∃ z e, d = .str z ∧ e ∈ es ∧ e.n = z ∧ valV (es.map kvE) (.inr z) = some (.ref e.l) ∧ getA b.cols z = some e.ds := by
  obtain ⟨z, rfl⟩ : ∃ z, d = .str z := by
    cases d <;> first | exact ⟨_, rfl⟩ | cases q
  rw [hasC_es T] at q
  obtain ⟨e, he, hn, hf⟩ := find_es q
  exact ⟨z, e, rfl, he, hn, by rw [valV_es, hf]; rfl, by rw [T.cols, getA_es, hf]; rfl⟩
/-! give -/
def sp_Table_give (K : PySem.W.Frag) (A : Cn → Addr) : Sp := fun vs H Q E => ∃ F t b v1 d1 v2 d2, vs = [.ref t, v1, v2] ∧ TabAt A F H t b ∧ Dt H v1 d1 ∧ short d1 ∧ Dt H v2 d2 ∧ (∀ x ∈ listD d2, short2 x) ∧ (listD d2).length ≤ 40000 ∧ Out A F t H Q E (giveB b d1 d2)
def t_Table_give (K : PySem.W.Frag) (A : Cn → Addr) (E : XK) : TS :=
  tSeq (tIfS (tNot (tB (tCallS (sp_is_name K) (WE (fun cls d _ H => E cls d H)) (tCons (tVar 1) tNil)))) (tRaiseA (fun cls d _ H => E cls d H) (A .NoName)) tNext)
    (tSeq (tIfS (tAnd (tNot (tB (tMetS (A .Table) "has" (sp_Table_has K A) (WE (fun cls d _ H => E cls d H)) (tVar 0) (tCons (tVar 1) tNil)))) (tTest (tOp rGeA (tCB (rLenA K) (tCons (tFld K (tVar 0) "held") tNil)) (tC (.int 8))))) (tRaiseA (fun cls d _ H => E cls d H) (A .TooMuch)) tNext)
    (tSeq (tIfS (tNot (tB (tCallS (sp_are_values K) (WE (fun cls d _ H => E cls d H)) (tCons (tVar 2) (tCons (tCB (rLenA K) (tCons (tFld K (tVar 0) "rows_now") tNil)) tNil))))) (tRaiseA (fun cls d _ H => E cls d H) (A .NoValue)) tNext)
    (tAsg (tCB (rListA K) (tCons (tVar 2) tNil)) (gSub (tFld K (tVar 0) "held") (tVar 1) rSetA))))
theorem len_Table_give (vs : List V) (H : Hp) (Q : VK) (E : XK) (h : sp_Table_give K A vs H Q E) : vs.length = 3 := by obtain ⟨_, _, _, _, _, _, _, rfl, _⟩ := h; rfl
theorem vtAll_of : ∀ {H : Hp} {vs : List V} {ds : List PyData}, DtAll H vs ds → ds.all isValueD = true → VtAll H vs ds
  | _, _, _, .nil, _ => .nil
  | _, _, _, .cons a r, h => by
    rw [List.all_cons, Bool.and_eq_true] at h
    exact .cons (vt_of a h.1) (vtAll_of r h.2)
theorem r_Table_give (c : ClK K (A .Table) tabF) (vs : List V) (H : Hp) (Q : VK) (E : XK) (h : sp_Table_give K A vs H Q E) : t_Table_give K A E { nx := fun _ H' => Q .non H', rt := Q } (L2.start ["self", "column", "values"] vs) H := by
  obtain ⟨F, t, b, v1, d1, v2, d2, rfl, T, r1, hs, r2, hs2, hz, k⟩ := h
  unfold t_Table_give
  refine q_when (et_not (et_B (ev_spB (g := isNameD) (pre := short) (ed_var rfl r1) hs))) (fun hb H1 e1 => ?_) (fun hb H1 e1 => ?_)
  · unfold giveB at k
    rw [if_neg (by rw [not_eq_true_iff hb]; decide)] at k
    exact k H1 e1
  have hb := not_eq_false_iff hb
  obtain ⟨z, rfl⟩ : ∃ z, d1 = .str z := by
    cases d1 <;> first | exact ⟨_, rfl⟩ | cases hb
  obtain rfl := r1.s
  have T := T.ex' e1
  have r1 := r1.ex e1
  have r2 := r2.ex e1
  have k := Out.ex e1 k
  unfold giveB at k
  rw [if_pos hb] at k
  have held : ∀ {F : List Addr} {H : Hp} {σ : L2.St}, TabAt A F H t b → σ[0]? = some (some (V.ref t)) → Ev (tCB (rLenA K) (tCons (tFld K (tVar 0) "held") tNil)) σ H (.int b.cols.length) := fun T hσ => by
    obtain ⟨dx, r, hh, es, rfl, O⟩ := T.ex
    have := ev_lenV (K := K) (ev_fld (f := "held") (ev_var hσ) O.at_ c (by decide) rfl) (rc_lenD O.held)
    rw [len_es, ← List.length_map (f := cE), ← O.cols] at this
    exact this
  have rown : ∀ {F : List Addr} {H : Hp} {σ : L2.St}, TabAt A F H t b → σ[0]? = some (some (V.ref t)) → Ev (tCB (rLenA K) (tCons (tFld K (tVar 0) "rows_now") tNil)) σ H (.int b.rows.length) := fun T hσ => by
    obtain ⟨dx, r, hh, es, rfl, O⟩ := T.ex
    have := ev_lenV (K := K) (ev_fld (f := "rows_now") (ev_var hσ) O.at_ c (by decide) rfl) (rc_lenL (SqL.of O.rows))
    rw [List.length_map] at this
    exact this
  refine q_when (et_and (et_not (et_B (ev_has T (ev_var rfl) (ed_var rfl r1)))) fun _ => et_test (ev_op (held T rfl) ev_c rv_ge)) (fun hb2 H2 e2 => ?_) (fun hb2 H2 e2 => ?_)
  · rw [if_pos (by rw [← hb2]; congr 1; exact decide_eq_decide.mpr (by omega))] at k
    exact k H2 e2
  have T := T.ex' e2
  have r1 := r1.ex e2
  have r2 := r2.ex e2
  have k := Out.ex e2 k
  have hb3 : (!hasC b (.str z) && decide (8 ≤ b.cols.length)) = false := by
    rw [← hb2]; congr 1; exact decide_eq_decide.mpr (by omega)
  rw [if_neg (by rw [hb3]; decide)] at k
  refine q_when (et_not (et_B (ev_areV (ed_var rfl r2) (rown T rfl) hs2 hz))) (fun hb4 H3 e3 => ?_) (fun hb4 H3 e3 => ?_)
  · rw [if_neg (by rw [not_eq_true_iff hb4]; decide)] at k
    exact k H3 e3
  have hb4 := not_eq_false_iff hb4
  rw [if_pos hb4] at k
  obtain ⟨ds, rfl⟩ : ∃ ds, d2 = .list ds := by
    cases d2 <;> first | exact ⟨_, rfl⟩ | cases hb4
  have hv : ds.length = b.rows.length ∧ ds.all isValueD = true := by
    have : (decide (ds.length = b.rows.length) && ds.all isValueD) = true := hb4
    rw [Bool.and_eq_true] at this
    exact ⟨of_decide_eq_true this.1, this.2⟩
  have T := T.ex' e3
  have r2 := r2.ex e3
  have k := Out.ex e3 k
  cases r2 with
  | @lst a xs _ ha r2 =>
  -- list(values)
  refine el_listA (ev_var rfl) (SqL.of ha) H3 (Ex.refl H3) _ fun p H4 np e4 hp => ?_
  obtain ⟨dx, r, hh, es, rfl, O⟩ := T.ex
  have O4 := O.keep (.of_ex e4) fun l _ o q => e4 l o q
  have hne : ∀ l ∈ t :: r :: hh :: es.map (·.l), l ≠ p := fun l hl q => T.off np (q ▸ hl)
  have hpe : ∀ e ∈ es, e.l ≠ p := fun e he => hne _ (by simp only [List.mem_cons]; exact .inr (.inr (.inr (List.mem_map_of_mem he))))
  have el : es.length = b.cols.length := by rw [O.cols, List.length_map]
  refine ev_fld (ev_var rfl) O4.at_ c (by decide) rfl H4 (Ex.refl H4) _ fun H5 e5 => ⟨_, rfl, .inr ⟨hh, _, rfl, DPut.k (k := .inr z) (e5 _ _ O4.held) (by rw [len_es]; have := O.few.2; exact sz_lt (by omega)), ?_⟩⟩
  have O5 := O4.keep (.of_ex e5) fun l _ o q => e5 l o q
  have hp5 := e5 _ _ hp
  have vx : VtAll H5 xs ds := vtAll_of ((r2.ex e4).ex e5) hv.2
  have tup : Tup H5 (upd H5 hh (.dK (putK (es.map kvE) (.inr z) (.ref p)))) := fun bb ys q => by
    rw [upd_ne (fun w => by rw [w, O5.held] at q; cases q)]
    exact q
  have nh : ∀ {l : Addr}, l ≠ hh → upd H5 hh (.dK (putK (es.map kvE) (.inr z) (.ref p))) l = H5 l := fun w => upd_ne w
  have hp4 : ∀ {l : Addr} {o : HO}, H3 l = some o → H5 l = some o := fun q => e5 _ _ (e4 _ _ q)
  refine k _ (t :: r :: hh :: (putE es z p ds).map (·.l)) ⟨dx, r, hh, putE es z p ds, rfl, ⟨?_, putE_n O.nn, ?_, ?_, ?_, ?_, ?_, ?_, ?_⟩⟩ ?_ ?_
  · refine nodup3 O.nd (putE_l O.nn O.nl hpe) fun l hl => ?_
    obtain ⟨e, he, rfl⟩ := List.mem_map.mp hl
    rcases putE_mem he with he | rfl
    · exact .inl (List.mem_map_of_mem he)
    · exact .inr ⟨(hne _ (by simp)).symm, (hne _ (by simp)).symm, (hne _ (by simp)).symm⟩
  · show putA b.cols z ds = _
    rw [putE_c, O.cols]
  · rw [nh O.ne3.2.1]
    exact O5.at_
  · rw [nh O.ne3.2.2]
    exact O5.rows
  · rw [upd_same, putE_kv]
  · intro e he
    rcases putE_mem he with he | rfl
    · exact (O5.cell e he).keep tup (nh (O.ne_es he).2.2)
    · exact ⟨xs, by rw [nh (hne _ (by simp)).symm]; exact hp5, vx.tup tup⟩
  · intro e he
    rcases putE_mem he with he | rfl
    · exact O.wide e he
    · exact hv.1
  · refine ⟨O.few.1, ?_⟩
    unfold putE
    split
    · rw [List.length_map]; exact O.few.2
    · rename_i q
      rw [List.length_append, List.length_singleton]
      have q : hasC b (.str z) = false := by rw [hasC_es O]; simpa using q
      rw [q] at hb3
      have : ¬ 8 ≤ b.cols.length := of_decide_eq_false (by simpa using hb3)
      omega
  · intro bb o q nf
    rw [nh (fun w => nf (by rw [w]; simp))]
    exact hp4 q
  · intro bb hb
    simp only [List.mem_cons] at hb ⊢
    rcases hb with hb | hb | hb | hb
    · exact .inl (.inl hb)
    · exact .inl (.inr (.inl hb))
    · exact .inl (.inr (.inr (.inl hb)))
    · obtain ⟨e, he, rfl⟩ := List.mem_map.mp hb
      rcases putE_mem he with he | rfl
      · exact .inl (.inr (.inr (.inr (List.mem_map_of_mem he))))
      · exact .inr np
end
end Z

set_option Elab.async false
set_option linter.all false
set_option autoImplicit false
set_option maxRecDepth 100000
set_option maxHeartbeats 4000000
/-! ev: what an expression comes to, by its form -/
local macro_rules | `(tactic| k_places) => `(tactic| (repeat' (first
  | (with_reducible exact ev_c)
  | (with_reducible exact ev_var rfl)
  | (with_reducible refine ev_chainLL ?_ ?_ ?_)
  | (with_reducible refine ev_chainLt ?_ ?_ ?_)
  | (with_reducible refine ev_op ?_ ?_ ?_)
  | (with_reducible refine ev_neg ?_)
  | (with_reducible refine et_test ?_)
  | (with_reducible refine et_B ?_)
  | (with_reducible refine et_not ?_)
  | (with_reducible refine et_and ?_ (fun _ => ?_))
  | (with_reducible refine et_or ?_ (fun _ => ?_))
  | (with_reducible refine ev_andV ?_ (fun _ => ?_))
  | (with_reducible refine ev_orV ?_ (fun _ => ?_))
  | (with_reducible refine ev_notV ?_)
  | (with_reducible exact rv_addI)
  | (with_reducible exact rv_subI)
  | (with_reducible exact rv_lt)
  | (with_reducible exact rv_le)
  | (with_reducible exact rv_gt)
  | (with_reducible exact rv_ge)
  | (with_reducible exact rv_isB)
  | (with_reducible exact rv_isnB)
  | (with_reducible exact rv_isN)
  | (with_reducible exact rv_isnN)
  | (with_reducible exact rv_eqS rfl)
  | (with_reducible exact rv_neS rfl)
  | (with_reducible exact rv_inStr)
  | (with_reducible exact rv_ninStr)
  | (with_reducible exact rv_mod (by first | decide | omega | assumption))
  | (with_reducible exact rv_div (by first | decide | omega | assumption))
  | (with_reducible exact rv_pow (by decide))
  | (with_reducible refine ed_i ?_; done)
  | (with_reducible exact ea_nil)
  | (with_reducible refine ea_cons ?_ ?_)
  | (with_reducible exact eds_nil)
  | (with_reducible refine eds_cons ?_ ?_)
  | (with_reducible exact ed_dnew)
  | (with_reducible refine ed_lst ?_ (by simp only [List.length_cons, List.length_nil]; omega))
  | (with_reducible refine ed_tup ?_ (by simp only [List.length_cons, List.length_nil]; omega)))))
namespace Z
open PySem PySem.Spec PyProof.Rows L2 Evl
section
variable {K : PySem.W.Frag} {A : Cn → Addr} {H H' : Hp} {Q : VK} {E : XK} {vs : List V} {σ : L2.St} {ta te tx tb : TE} {D : Ends} {tz : TS} {F : List Addr} {t : Addr} {Ex0 : L2.St → XK} {dx r h : Addr} {es : List Ent} {b : Tb}
theorem ev_held (c : ClK K (A .Table) tabF) (O : TabOf A H t dx r h es b) (hσ : Ev ta σ H (.ref t)) : Ev (tFld K ta "held") σ H (.ref h) := ev_fld hσ O.at_ c (by decide) rfl
theorem ev_rown (c : ClK K (A .Table) tabF) (O : TabOf A H t dx r h es b) (hσ : Ev ta σ H (.ref t)) : Ev (tFld K ta "rows_now") σ H (.ref r) := ev_fld hσ O.at_ c (by decide) rfl
theorem ev_rowsN (c : ClK K (A .Table) tabF) (T : TabAt A F H t b) (hσ : Ev ta σ H (.ref t)) : Ev (tCB (rLenA K) (tCons (tFld K ta "rows_now") tNil)) σ H (.int b.rows.length) := by
  obtain ⟨dx, r, hh, es, rfl, O⟩ := T.ex
  have := ev_lenV (ev_rown c O hσ) (rc_lenL (K := K) (SqL.of O.rows))
  rw [List.length_map] at this
  exact this
theorem nodup_sub {ls ls' : List Addr} (h : ls'.Sublist ls) (n : ls.Nodup) : ls'.Nodup := List.Pairwise.sublist h n
theorem s_dpop {p : Addr} {kvs : List (Key × V)} {k : Key} {v : V} (ho : Ev ta σ H (.ref p)) (hk : Ev te σ H (kV k)) (h : H p = some (.dK kvs)) (hv : valV kvs k = some v) (kk : ∀ H1, Ex H H1 → D.nx σ (upd H1 p (.dK (dropK kvs k)))) : tDrop (tDPop1 ta te) D σ H :=
  ho H (Ex.refl H) _ fun H2 e2 => ⟨p, rfl, .inl ⟨_, .inl (e2 _ _ h)⟩, hk H2 e2 _ fun H3 e3 => ⟨kvs, k, v, (e2.trans e3) _ _ h, rfl, hv, kk H3 (e2.trans e3)⟩⟩
/-! drop -/
def sp_Table_drop (K : PySem.W.Frag) (A : Cn → Addr) : Sp := fun vs H Q E => ∃ F t b v d, vs = [.ref t, v] ∧ TabAt A F H t b ∧ Dt H v d ∧ Out A F t H Q E (dropB b d)
def t_Table_drop (K : PySem.W.Frag) (A : Cn → Addr) (E : XK) : TS :=
  tSeq (tDrop (tMetS (A .Table) "look_at" (sp_Table_look_at K A) (WE (fun cls d _ H => E cls d H)) (tVar 0) (tCons (tVar 1) tNil)))
    (tDrop (tDPop1 (tFld K (tVar 0) "held") (tVar 1)))
theorem len_Table_drop (vs : List V) (H : Hp) (Q : VK) (E : XK) (h : sp_Table_drop K A vs H Q E) : vs.length = 2 := by obtain ⟨_, _, _, _, _, rfl, _⟩ := h; rfl
theorem dropK_es (es : List Ent) (z : Str) : dropK (es.map kvE) (.inr z) = (es.filter fun e => decide (e.n ≠ z)).map kvE := by
  unfold dropK
  rw [List.filter_map]
  congr 2
  funext e
  exact decide_eq_decide.mpr ⟨fun h q => h (show (Sum.inr e.n : Key) = _ by rw [q]), fun h q => h (Sum.inr.inj q)⟩
theorem dropA_es (es : List Ent) (z : Str) : dropA (es.map cE) z = (es.filter fun e => decide (e.n ≠ z)).map cE := by
  unfold dropA
  rw [List.filter_map]
  rfl
theorem r_Table_drop (c : ClK K (A .Table) tabF) (vs : List V) (H : Hp) (Q : VK) (E : XK) (h : sp_Table_drop K A vs H Q E) : t_Table_drop K A E { nx := fun _ H' => Q .non H', rt := Q } (L2.start ["self", "column"] vs) H := by
  obtain ⟨F, t, b, v, d, rfl, T, rd, k⟩ := h
  unfold t_Table_drop
  unfold dropB at k
  refine q_look T (ev_var rfl) (ed_var rfl rd) (fun q H1 e1 => ?_) (fun q H1 e1 => ?_)
  · rw [if_pos q] at k
    obtain ⟨dx, r, hh, es, rfl, O⟩ := (T.ex' e1).ex
    obtain ⟨z, e, rfl, he, hn, hv, hg⟩ := O.find q
    obtain rfl := rd.s
    have k := Out.ex e1 k
    refine s_dpop (k := .inr z) (ev_held c O (ev_var rfl)) (ev_var rfl) O.held hv fun H2 e2 => ?_
    have k := Out.ex e2 k
    have O2 := O.keep (.of_ex e2) fun l _ o q => e2 l o q
    have tup : Tup H2 (upd H2 hh (.dK (dropK (es.map kvE) (.inr z)))) := fun bb ys q => by
      rw [upd_ne (fun w => by rw [w, O2.held] at q; cases q)]
      exact q
    have nh : ∀ {l : Addr}, l ≠ hh → upd H2 hh (.dK (dropK (es.map kvE) (.inr z))) l = H2 l := fun w => upd_ne w
    have sub : (es.filter fun e => decide (e.n ≠ z)).Sublist es := List.filter_sublist
    refine k _ (t :: r :: hh :: (es.filter fun e => decide (e.n ≠ z)).map (·.l)) ⟨dx, r, hh, _, rfl, ⟨?_, ?_, ?_, ?_, ?_, ?_, ?_, ?_, ?_⟩⟩ ?_ ?_
    · exact nodup_sub (.cons₂ _ (.cons₂ _ (.cons₂ _ (sub.map _)))) O.nd
    · exact List.Pairwise.sublist (sub.map _) O.nn
    · show dropA b.cols z = _
      rw [O.cols, dropA_es]
    · rw [nh O.ne3.2.1]; exact O2.at_
    · rw [nh O.ne3.2.2]; exact O2.rows
    · rw [upd_same, dropK_es]
    · exact fun e he => (O2.cell e (sub.subset he)).keep tup (nh (O.ne_es (sub.subset he)).2.2)
    · exact fun e he => O.wide e (sub.subset he)
    · exact ⟨O.few.1, Nat.le_trans sub.length_le O.few.2⟩
    · intro bb o q nf
      rw [nh (fun w => nf (by rw [w]; simp))]
      exact q
    · intro bb hb
      refine .inl ?_
      simp only [List.mem_cons] at hb ⊢
      rcases hb with hb | hb | hb | hb
      · exact .inl hb
      · exact .inr (.inl hb)
      · exact .inr (.inr (.inl hb))
      · exact .inr (.inr (.inr ((sub.map _).subset hb)))
  · rw [if_neg (by rw [q]; decide)] at k
    exact k H1 e1
/-! at -/
def sp_Table_at (K : PySem.W.Frag) (A : Cn → Addr) : Sp := fun vs H Q E => ∃ F t b v1 d1 v2 d2, vs = [.ref t, v1, v2] ∧ TabAt A F H t b ∧ Dt H v1 d1 ∧ Dt H v2 d2 ∧
  (∀ c, atB b d1 d2 = .error c → ∀ H1, Ex H H1 → E (.ref (A c)) none H1) ∧ (∀ d, atB b d1 d2 = .ok d → ∀ v H1, Ex H H1 → Vt H1 v d → Q v H1)
def t_Table_at (K : PySem.W.Frag) (A : Cn → Addr) (E : XK) : TS :=
  tSeq (tDrop (tMetS (A .Table) "look_at" (sp_Table_look_at K A) (WE (fun cls d _ H => E cls d H)) (tVar 0) (tCons (tVar 1) tNil)))
    (tSeq (tDrop (tMetS (A .Table) "look_at_place" (sp_Table_look_at_place K A) (WE (fun cls d _ H => E cls d H)) (tVar 0) (tCons (tVar 2) (tCons (tCB (rLenA K) (tCons (tFld K (tVar 0) "rows_now") tNil)) tNil))))
    (tRet (tOp (rIxA K) (tOp (rIxA K) (tFld K (tVar 0) "held") (tVar 1)) (tVar 2))))
theorem len_Table_at (vs : List V) (H : Hp) (Q : VK) (E : XK) (h : sp_Table_at K A vs H Q E) : vs.length = 3 := by obtain ⟨_, _, _, _, _, _, _, rfl, _⟩ := h; rfl
theorem VtAll.get {H : Hp} : ∀ {vs : List V} {ds : List PyData} {i : Nat}, VtAll H vs ds → i < ds.length → ∃ v, vs[i]? = some v ∧ Vt H v (ds.getD i .none)
  | _, _, i, .nil, h => by cases h
  | _, _, 0, .cons a r, h => ⟨_, rfl, a⟩
  | _, _, i + 1, .cons a r, h => by
    obtain ⟨v, h1, h2⟩ := r.get (i := i) (by simpa using h)
    exact ⟨v, by simpa using h1, by simpa using h2⟩
theorem below_nat {n : Nat} {d : PyData} (h : isBelow n d = true) : ∃ i : Nat, d = .int i ∧ i < n := by
  obtain ⟨i, rfl, hi⟩ : ∃ i, d = .int i ∧ 0 ≤ i ∧ i < n := by
    cases d <;> first | (simp [isBelow] at h; done) | exact ⟨_, rfl, of_decide_eq_true h⟩
  exact ⟨i.toNat, by congr 1; omega, by omega⟩
theorem r_Table_at (c : ClK K (A .Table) tabF) (vs : List V) (H : Hp) (Q : VK) (E : XK) (h : sp_Table_at K A vs H Q E) : t_Table_at K A E { nx := fun _ H' => Q .non H', rt := Q } (L2.start ["self", "column", "place"] vs) H := by
  obtain ⟨F, t, b, v1, d1, v2, d2, rfl, T, r1, r2, k1, k2⟩ := h
  unfold t_Table_at
  unfold atB at k1 k2
  refine q_look T (ev_var rfl) (ed_var rfl r1) (fun q H1 e1 => ?_) (fun q H1 e1 => k1 _ (by rw [if_neg (by rw [q]; decide)]) H1 e1)
  rw [if_pos q] at k1 k2
  have T := T.ex' e1
  refine q_lookP T (ev_var rfl) (ed_var rfl (r2.ex e1)) (ev_rowsN c T (ev_var rfl)) (fun q2 H2 e2 => ?_) (fun q2 H2 e2 => k1 _ (by rw [if_neg (by rw [q2]; decide)]) H2 (e1.trans e2))
  rw [if_pos q2] at k2
  have T := T.ex' e2
  obtain ⟨dx, r, hh, es, rfl, O⟩ := T.ex
  obtain ⟨z, e, rfl, he, hn, hv, hg⟩ := O.find q
  obtain rfl := r1.s
  obtain ⟨i, rfl, hi⟩ := below_nat q2
  obtain rfl := r2.i
  obtain ⟨xs, hx, vx⟩ := O.cell e he
  obtain ⟨v, g1, g2⟩ := vx.get (i := i) (by rw [O.wide e he]; exact hi)
  refine s_ret (ev_op (ev_op (ev_held c O (ev_var rfl)) (ev_var rfl) (rv_ixDk (k := .inr z) O.held hv)) (ev_var rfl) (rv_itL (SqL.of hx) (atI_nat g1))) fun H3 e3 => ?_
  refine k2 _ rfl v H3 ((e1.trans e2).trans e3) ?_
  show Vt H3 v (((getA b.cols z).getD []).getD i .none)
  rw [hg]
  exact g2.tup (.of_ex e3)
/-! put -/
def sp_Table_put (K : PySem.W.Frag) (A : Cn → Addr) : Sp := fun vs H Q E => ∃ F t b v1 d1 v2 d2 v3 d3, vs = [.ref t, v1, v2, v3] ∧ TabAt A F H t b ∧ Dt H v1 d1 ∧ Dt H v2 d2 ∧ Dt H v3 d3 ∧ short2 d3 ∧ Out A F t H Q E (putB b d1 d2 d3)
def t_Table_put (K : PySem.W.Frag) (A : Cn → Addr) (E : XK) : TS :=
  tSeq (tDrop (tMetS (A .Table) "look_at" (sp_Table_look_at K A) (WE (fun cls d _ H => E cls d H)) (tVar 0) (tCons (tVar 1) tNil)))
    (tSeq (tDrop (tMetS (A .Table) "look_at_place" (sp_Table_look_at_place K A) (WE (fun cls d _ H => E cls d H)) (tVar 0) (tCons (tVar 2) (tCons (tCB (rLenA K) (tCons (tFld K (tVar 0) "rows_now") tNil)) tNil))))
    (tSeq (tIfS (tNot (tB (tCallS (sp_is_value K) (WE (fun cls d _ H => E cls d H)) (tCons (tVar 3) tNil)))) (tRaiseA (fun cls d _ H => E cls d H) (A .NoValue)) tNext)
    (tAsg (tVar 3) (gSub (tOp (rIxA K) (tFld K (tVar 0) "held") (tVar 1)) (tVar 2) rSetA))))
theorem len_Table_put (vs : List V) (H : Hp) (Q : VK) (E : XK) (h : sp_Table_put K A vs H Q E) : vs.length = 4 := by obtain ⟨_, _, _, _, _, _, _, _, _, rfl, _⟩ := h; rfl
def onE (f : List PyData → List PyData) (es : List Ent) (z : Str) : List Ent := es.map fun e => if e.n = z then { e with ds := f e.ds } else e
theorem onE_same {β : Type} (g : Ent → β) (hg : ∀ e ds, g { e with ds := ds } = g e) (f : List PyData → List PyData) (es : List Ent) (z : Str) : (onE f es z).map g = es.map g := by
  unfold onE
  rw [List.map_map]
  refine List.map_congr_left fun e _ => ?_
  show g (if e.n = z then { e with ds := f e.ds } else e) = g e
  split
  · exact hg _ _
  · rfl
theorem onE_c (f : List PyData → List PyData) (es : List Ent) (z : Str) : (onE f es z).map cE = onA f (es.map cE) z := by
  unfold onE onA
  rw [List.map_map, List.map_map]
  refine List.map_congr_left fun e _ => ?_
  show cE (if e.n = z then { e with ds := f e.ds } else e) = if e.n = z then (e.n, f e.ds) else cE e
  split <;> rfl
theorem VtAll.set {H : Hp} {v : V} {d : PyData} (h : Vt H v d) : ∀ {vs : List V} {ds : List PyData} (i : Nat), VtAll H vs ds → VtAll H (vs.set i v) (ds.set i d)
  | _, _, _, .nil => .nil
  | _, _, 0, .cons a r => .cons h r
  | _, _, i + 1, .cons a r => .cons a (r.set h i)
theorem Fr.set {F : List Addr} {l : Addr} {o : HO} (h : l ∈ F) (e : Ex H H') : Fr F H (upd H' l o) := fun b u q n => by
  rw [upd_ne (fun w => n (by rw [w]; exact h))]
  exact e b u q
theorem r_Table_put (c : ClK K (A .Table) tabF) (vs : List V) (H : Hp) (Q : VK) (E : XK) (h : sp_Table_put K A vs H Q E) : t_Table_put K A E { nx := fun _ H' => Q .non H', rt := Q } (L2.start ["self", "column", "place", "value"] vs) H := by
  obtain ⟨F, t, b, v1, d1, v2, d2, v3, d3, rfl, T, r1, r2, r3, hs, k⟩ := h
  unfold t_Table_put
  unfold putB at k
  refine q_look T (ev_var rfl) (ed_var rfl r1) (fun q H1 e1 => ?_) (fun q H1 e1 => by rw [if_neg (by rw [q]; decide)] at k; exact k H1 e1)
  rw [if_pos q] at k
  have T := T.ex' e1
  refine q_lookP T (ev_var rfl) (ed_var rfl (r2.ex e1)) (ev_rowsN c T (ev_var rfl)) (fun q2 H2 e2 => ?_) (fun q2 H2 e2 => by rw [if_neg (by rw [q2]; decide)] at k; exact k H2 (e1.trans e2))
  rw [if_pos q2] at k
  have T := T.ex' e2
  refine q_when (et_not (et_B (ev_spB (g := isValueD) (pre := short2) (ed_var rfl ((r3.ex e1).ex e2)) hs))) (fun hb H3 e3 => by rw [if_neg (by rw [not_eq_true_iff hb]; decide)] at k; exact k H3 ((e1.trans e2).trans e3)) fun hb H3 e3 => ?_
  have hb := not_eq_false_iff hb
  rw [if_pos hb] at k
  have T := T.ex' e3
  have E3 := (e1.trans e2).trans e3
  obtain ⟨dx, r, hh, es, rfl, O⟩ := T.ex
  obtain ⟨z, e, rfl, he, hn, hv, hg⟩ := O.find q
  obtain rfl := r1.s
  obtain ⟨i, rfl, hi⟩ := below_nat q2
  obtain rfl := r2.i
  obtain ⟨xs, hx, vx⟩ := O.cell e he
  have w3 := vt_of (r3.ex E3) hb
  refine s_setA hx (ev_var rfl) (ev_op (ev_held c O (ev_var rfl)) (ev_var rfl) (rv_ixDk (k := .inr z) O.held hv)) (ev_var rfl) (by rw [vx.length, O.wide e he]; exact hi) fun H4 e4 => ?_
  have O4 := O.keep (.of_ex e4) fun l _ o q => e4 l o q
  have hx4 := e4 _ _ hx
  have tup : Tup H4 (upd H4 e.l (.lst (xs.set i v3))) := .upd hx4
  have nl : ∀ {l : Addr} {o : HO}, l ≠ e.l → upd H4 e.l o l = H4 l := fun w => upd_ne w
  have k := Out.ex (E3.trans e4) k
  have Le : (onE (fun ds => ds.set i d3) es z).map (·.l) = es.map (·.l) := onE_same (·.l) (fun _ _ => rfl) _ _ _
  have ne := O.ne_es he
  have mem : ∀ e' ∈ onE (fun ds => ds.set i d3) es z, ∃ e0 ∈ es, e' = if e0.n = z then { e0 with ds := e0.ds.set i d3 } else e0 := fun e' h' => by
    obtain ⟨e0, h0, rfl⟩ := List.mem_map.mp h'
    exact ⟨e0, h0, rfl⟩
  refine k _ (t :: r :: hh :: es.map (·.l)) ⟨dx, r, hh, onE (fun ds => ds.set i d3) es z, by rw [Le], ⟨by rw [Le]; exact O.nd, by rw [onE_same (·.n) (fun _ _ => rfl)]; exact O.nn, ?_, by rw [nl ne.1.symm]; exact O4.at_, by rw [nl ne.2.1.symm]; exact O4.rows, by rw [nl ne.2.2.symm, onE_same kvE (fun _ _ => rfl)]; exact O4.held, ?_, ?_, ⟨O.few.1, by unfold onE; rw [List.length_map]; exact O.few.2⟩⟩⟩ (.set (by simp only [List.mem_cons]; exact .inr (.inr (.inr (List.mem_map_of_mem he)))) (Ex.refl _)) (fun _ h => .inl h)
  · rw [onE_c, ← O.cols]
    rfl
  · intro e' h'
    obtain ⟨e0, h0, rfl⟩ := mem e' h'
    by_cases w : e0.n = z
    · rw [if_pos w]
      obtain rfl := O.sameN h0 he (w.trans hn.symm)
      exact ⟨_, upd_same, ((vx.tup (.of_ex e4)).set (w3.tup (.of_ex e4)) i).tup tup⟩
    · rw [if_neg w]
      refine (O4.cell e0 h0).keep tup (nl fun q => w ?_)
      rw [O.sameL h0 he q]
      exact hn
  · intro e' h'
    obtain ⟨e0, h0, rfl⟩ := mem e' h'
    by_cases w : e0.n = z
    · rw [if_pos w]
      show (e0.ds.set i d3).length = _
      rw [List.length_set]
      exact O.wide e0 h0
    · rw [if_neg w]
      exact O.wide e0 h0
end
end Z

set_option Elab.async false
set_option linter.all false
set_option autoImplicit false
set_option maxRecDepth 100000
set_option maxHeartbeats 4000000
/-! ev: what an expression comes to, by its form -/
local macro_rules | `(tactic| k_places) => `(tactic| (repeat' (first
  | (with_reducible exact ev_c)
  | (with_reducible exact ev_var rfl)
  | (with_reducible refine ev_chainLL ?_ ?_ ?_)
  | (with_reducible refine ev_chainLt ?_ ?_ ?_)
  | (with_reducible refine ev_op ?_ ?_ ?_)
  | (with_reducible refine ev_neg ?_)
  | (with_reducible refine et_test ?_)
  | (with_reducible refine et_B ?_)
  | (with_reducible refine et_not ?_)
  | (with_reducible refine et_and ?_ (fun _ => ?_))
  | (with_reducible refine et_or ?_ (fun _ => ?_))
  | (with_reducible refine ev_andV ?_ (fun _ => ?_))
  | (with_reducible refine ev_orV ?_ (fun _ => ?_))
  | (with_reducible refine ev_notV ?_)
  | (with_reducible exact rv_addI)
  | (with_reducible exact rv_subI)
  | (with_reducible exact rv_lt)
  | (with_reducible exact rv_le)
  | (with_reducible exact rv_gt)
  | (with_reducible exact rv_ge)
  | (with_reducible exact rv_isB)
  | (with_reducible exact rv_isnB)
  | (with_reducible exact rv_isN)
  | (with_reducible exact rv_isnN)
  | (with_reducible exact rv_eqS rfl)
  | (with_reducible exact rv_neS rfl)
  | (with_reducible exact rv_inStr)
  | (with_reducible exact rv_ninStr)
  | (with_reducible exact rv_mod (by first | decide | omega | assumption))
  | (with_reducible exact rv_div (by first | decide | omega | assumption))
  | (with_reducible exact rv_pow (by decide))
  | (with_reducible refine ed_i ?_; done)
  | (with_reducible exact ea_nil)
  | (with_reducible refine ea_cons ?_ ?_)
  | (with_reducible exact eds_nil)
  | (with_reducible refine eds_cons ?_ ?_)
  | (with_reducible exact ed_dnew)
  | (with_reducible refine ed_lst ?_ (by simp only [List.length_cons, List.length_nil]; omega))
  | (with_reducible refine ed_tup ?_ (by simp only [List.length_cons, List.length_nil]; omega)))))
namespace Z
open PySem PySem.Spec PyProof.Rows L2 Evl
/-! ### values that are only known to be values -/
theorem val_cases {d : PyData} (h : isValueD d = true) : (∃ i, d = .int i ∧ -(10 ^ 60) < i ∧ i < 10 ^ 60) ∨ ∃ w, d = .tuple [.str "fault", .str w] ∧ isName w = true := by
  cases d with
  | int i =>
    have h : (decide (-(10 ^ 60) < i ∧ i < 10 ^ 60) || false) = true := h
    rw [Bool.or_false] at h
    exact .inl ⟨i, rfl, of_decide_eq_true h⟩
  | tuple ds =>
    have h0 : (false || isFaultD (.tuple ds)) = true := h
    clear h
    rw [Bool.false_or] at h0
    unfold isFaultD at h0
    split at h0
    · rename_i f w q
      cases q
      rw [Bool.and_eq_true] at h0
      obtain ⟨h1, h2⟩ := h0
      cases w with
      | str z => exact .inr ⟨z, by rw [of_decide_eq_true h1], h2⟩
      | _ => cases h2
    · cases h0
  | _ => cases h
theorem val_ok {d : PyData} (h : isValueD d = true) : short2 d ∧ okN 1 d ∧ PyData.eqv d d = true ∧ isiB (kindD d) "bool" = false := by
  rcases val_cases h with ⟨i, rfl, -⟩ | ⟨w, rfl, hw⟩
  · exact ⟨trivial, trivial, by simp [PyData.eqv], rfl⟩
  · exact ⟨(name_ok hw).len, ⟨okF, name_ok hw, trivial⟩, by simp [PyData.eqv, PyData.eqvAll], rfl⟩
theorem val_int {i : Int} (h : -(10 ^ 60) < i ∧ i < 10 ^ 60) : isValueD (.int i) = true := by
  show (decide (-(10 ^ 60) < i ∧ i < 10 ^ 60) || false) = true
  rw [decide_eq_true h]
  rfl
theorem val_flt {w : Str} (h : isName w = true) : isValueD (.tuple [.str "fault", .str w]) = true := by
  show (false || isFaultD (.tuple [.str "fault", .str w])) = true
  rw [isFault_pair, show isNameD (.str w) = true from h, Bool.and_true]
  decide +kernel
mutual
theorem okN_up : ∀ {n : Nat} {d : PyData}, okN n d → ∀ m, n ≤ m → okN m d
  | _, .str z, h, m, _ => by cases m <;> (unfold okN at *; exact h)
  | n + 1, .list ds, h, m + 1, e => by unfold okN at *; exact okNs_up h m (by omega)
  | n + 1, .tuple ds, h, m + 1, e => by unfold okN at *; exact okNs_up h m (by omega)
  | 0, .list _, h, _, _ => by unfold okN at h; exact h.elim
  | 0, .tuple _, h, _, _ => by unfold okN at h; exact h.elim
  | _, .dict _, h, _, _ => by unfold okN at h; exact h.elim
  | _, .none, _, m, _ => by cases m <;> (unfold okN; trivial)
  | _, .bool _, _, m, _ => by cases m <;> (unfold okN; trivial)
  | _, .int _, _, m, _ => by cases m <;> (unfold okN; trivial)
theorem okNs_up : ∀ {n : Nat} {ds : List PyData}, okNs n ds → ∀ m, n ≤ m → okNs m ds
  | _, [], _, _, _ => by unfold okNs; trivial
  | n, d :: ds, h, m, e => by
    unfold okNs at *
    exact ⟨okN_up h.1 m e, okNs_up h.2 m e⟩
end
theorem val_okD {d : PyData} (h : isValueD d = true) : okD d := okN_up (val_ok h).2.1 10 (by decide)
theorem vals_okD {ds : List PyData} (h : ds.all isValueD = true) : okD (.list ds) := by
  show okNs 9 ds
  exact okNs_iff.mpr fun d hd => okN_up (val_ok (List.all_eq_true.mp h d hd)).2.1 9 (by decide)
theorem eqvAll_refl : ∀ {ds : List PyData}, (∀ d ∈ ds, PyData.eqv d d = true) → PyData.eqvAll ds ds = true
  | [], _ => by simp [PyData.eqvAll]
  | d :: ds, h => by
    rw [PyData.eqvAll, h d List.mem_cons_self, eqvAll_refl fun x hx => h x (List.mem_cons_of_mem _ hx)]
    rfl
theorem vals_eqv {ds : List PyData} (h : ds.all isValueD = true) : PyData.eqv (.list ds) (.list ds) = true := by
  rw [PyData.eqv]
  exact eqvAll_refl fun d hd => (val_ok (List.all_eq_true.mp h d hd)).2.2.1
/-- an expression that comes to a value -/
def EvW (te : TE) (σ : L2.St) (H : Hp) : Prop := ∀ H1, Ex H H1 → ∀ Q : VK, (∀ d v H2, isValueD d = true → Ex H1 H2 → Vt H2 v d → Q v H2) → te σ H1 Q
/-- a value is told, of which nothing else is known -/
def RetW (H : Hp) (Q : VK) : Prop := ∀ d v H2, isValueD d = true → Ex H H2 → Vt H2 v d → Q v H2
section
variable {K : PySem.W.Frag} {A : Cn → Addr} {H H' : Hp} {Q : VK} {E : XK} {vs : List V} {σ : L2.St} {ta te tx tb : TE} {t : TT} {D : Ends} {tz tu : TS}
theorem ew_d {d : PyData} (h : EvD te σ H d) (hd : isValueD d = true) : EvW te σ H := fun H1 e Q q => h H1 e _ fun v H2 e2 r => q d v H2 hd e2 (vt_of r hd)
theorem s_retW (h : EvW te σ H) (k : RetW H D.rt) : tRet te D σ H := h H (Ex.refl H) _ fun d v H1 hd e1 r => k d v H1 hd e1 r
theorem s_asgW {i : Nat} (h : EvW te σ H) (k : ∀ d v H1, isValueD d = true → Ex H H1 → Vt H1 v d → D.nx (σ.set i (some v)) H1) : tAsg te (gName i) D σ H := h H (Ex.refl H) _ fun d v H1 hd e1 r => k d v H1 hd e1 r
theorem q_asgW {i : Nat} (h : EvW te σ H) (k : ∀ d v H1, isValueD d = true → Ex H H1 → Vt H1 v d → tz D (σ.set i (some v)) H1) : tSeq (tAsg te (gName i)) tz D σ H := s_asgW (D := { D with nx := tz D }) h k
/-- a def of one number that tells a value -/
def spW : Sp := fun vs H Q _ => ∃ c : Int, vs = [.int c] ∧ RetW H Q
theorem ew_call {c : Int} {E : L2.St → XK} (h : Ev te σ H (.int c)) : EvW (tCallS spW E (tCons te tNil)) σ H := fun H1 e Q q => h H1 e _ fun H2 e2 => ⟨c, rfl, fun d v H3 hd e3 r => q d v H3 hd (e2.trans e3) r⟩
theorem ew_callB {c : Int} (h : Ev te σ H (.int c)) : EvW (tCall spW [] E0 (tCons te tNil)) σ H := fun H1 e Q q => h H1 e _ fun H2 e2 => ⟨c, rfl, fun d v H3 hd e3 r => q d v H3 hd (e2.trans e3) r⟩
/-- the values in the making -/
def CwW (H : Hp) (Dl : Addr) (i : Nat) (H' : Hp) : Prop := H Dl = none ∧ Ex H H' ∧ ∃ vs ds, H' Dl = some (.lst vs) ∧ VtAll H' vs ds ∧ ds.length = i ∧ ds.all isValueD = true
theorem VtAll.snoc {v : V} {d : PyData} : ∀ {vs : List V} {ds : List PyData}, VtAll H vs ds → Vt H v d → VtAll H (vs ++ [v]) (ds ++ [d])
  | _, _, .nil, h => .cons h .nil
  | _, _, .cons a r, h => .cons a (r.snoc h)
theorem cwW_turn {Dl : Addr} {i : Nat} {σ2 : L2.St} (p : CwW H Dl i H') (hi : i < 50000) (he : EvW te σ2 H) :
    te σ2 H' fun y H4 => ∃ acc, H4 Dl = some (.lst acc) ∧ acc.length < sizeLine ∧ CwW H Dl (i + 1) (upd H4 Dl (.lst (acc ++ [y]))) := by
  obtain ⟨p1, p2, vs, ds, p3, p4, p5, p6⟩ := p
  refine he H' p2 _ fun d v H4 hd e4 r => ⟨vs, e4 Dl _ p3, sz_lt (by rw [p4.length]; omega), p1, Ex.mut (p2.trans e4) p1, vs ++ [v], ds ++ [d], upd_same, ((p4.tup (.of_ex e4)).snoc r).tup (.upd (e4 _ _ p3)), by rw [List.length_append, p5]; rfl, ?_⟩
  rw [List.all_append, p6]
  show (d :: []).all isValueD = true
  rw [List.all_cons, hd]
  rfl
/-- [value(..) for k in range(n)] -/
theorem el_lcW {tas : TA} {j : Nat} {n : Int} {ls : List Nat} (h : EvA tas σ H [.int n]) (hn : 0 ≤ n ∧ n ≤ 40000) (hw : ∀ x, wipe ((wipe σ ls).set j (some x)) ls = wipe σ ls)
    (he : ∀ (i : Nat) H1, Ex H H1 → (i : Int) < n → EvW te ((wipe σ ls).set j (some (.int (i : Int)))) H1) (k : ∀ p vs ds H1, H p = none → Ex H H1 → H1 p = some (.lst vs) → VtAll H1 vs ds → ds.length = n.toNat → ds.all isValueD = true → Q (.ref p) H1) : tLc (iRng1 tas) (gName j) tYes te ls σ H Q :=
  h H (Ex.refl H) _ fun H1 e1 => ⟨n, rfl, by omega, by omega, fun Dl hD =>
  lc_range (lo := 0) (n := n.toNat) (CwW H1 Dl) ⟨hD, Ex.new hD, [], [], upd_same, .nil, rfl, rfl⟩ (fun i H' hi p => by
    have e0 : (0 : Int) + (i : Int) = (i : Int) := Int.zero_add _
    show wipe ((wipe σ ls).set j (some (.int ((0 : Int) + (i : Int))))) ls = wipe σ ls ∧ te ((wipe σ ls).set j (some (.int ((0 : Int) + (i : Int))))) H' fun y H4 => ∃ acc, H4 Dl = some (.lst acc) ∧ acc.length < sizeLine ∧ CwW H1 Dl (i + 1) (upd H4 Dl (.lst (acc ++ [y])))
    rw [e0]
    exact ⟨hw _, cwW_turn p (by omega) (he i H1 e1 (by omega))⟩) (fun H' p => by
      obtain ⟨p1, p2, vs, ds, p3, p4, p5, p6⟩ := p
      exact k Dl vs ds H' (fresh_back e1 p1) (e1.trans p2) p3 p4 p5 p6)⟩
/-- for k in a dict -/
theorem s_forK {d : Addr} {kvs : List (Key × V)} {td : TE} {j : Nat} (hd : H d = some (.dK kvs)) (h : ∀ od, Ev td σ (upd H d (.frz od (.dK kvs))) (.ref d)) (Pv : Obj → Nat → L2.St → Hp → Prop) (h0 : ∀ od H1, Ex (upd H d (.frz od (.dK kvs))) H1 → Pv od 0 σ H1)
    (hl : ∀ od i σ' H', Pv od i σ' H' → H' d = some (.frz od (.dK kvs)))
    (hs : ∀ od i kk v σ' H', kvs[i]? = some (kk, v) → Pv od i σ' H' → tu { nx := Pv od (i + 1), ct := Pv od (i + 1), bk := fun σ' H' => H' d = some (.frz od (.dK kvs)) ∧ D.nx σ' (upd H' d (.dK kvs)), rt := fun v H' => H' d = some (.frz od (.dK kvs)) ∧ D.rt v (upd H' d (.dK kvs)) } (σ'.set j (some (kV kk))) H')
    (hf : ∀ od σ' H', Pv od kvs.length σ' H' → D.nx σ' (upd H' d (.dK kvs))) : tLock (tFor (iKeys td) (gName j) tu) D σ H := by
  refine ⟨d, .dK kvs, hd, trivial, fun od => ?_⟩
  refine h od _ (Ex.refl _) _ fun H1 e1 => ⟨d, od, rfl, .inl ⟨kvs, e1 _ _ upd_same, ?_⟩⟩
  refine ⟨fun i m σ' H' => m = kvs.length - i ∧ i ≤ kvs.length ∧ Pv od i σ' H', ⟨kvs.length, by simp, Nat.zero_le _, h0 od H1 e1⟩, ?_⟩
  rintro i m σ' H' ⟨rfl, hi, p⟩
  by_cases hlt : i < kvs.length
  · refine .inr ⟨⟨hl od i σ' H' p, hlt⟩, fun σ2 H2 => Pv od (i + 1) σ2 H2, fun σ2 H2 p2 => ⟨kvs.length - (i + 1), by omega, rfl, hlt, p2⟩, ?_⟩
    rintro x2 H2 ⟨rfl, kk, v, hk, rfl⟩
    exact hs od i kk v σ' _ hk p
  · have e0 : i = kvs.length := by omega
    subst e0
    exact .inl ⟨⟨hl od _ σ' H' p, Nat.le_refl _⟩, hl od _ σ' H' p, hf od σ' H' p⟩
theorem q_forK {d : Addr} {kvs : List (Key × V)} {td : TE} {j : Nat} (hd : H d = some (.dK kvs)) (h : ∀ od, Ev td σ (upd H d (.frz od (.dK kvs))) (.ref d)) (Pv : Obj → Nat → L2.St → Hp → Prop) (h0 : ∀ od H1, Ex (upd H d (.frz od (.dK kvs))) H1 → Pv od 0 σ H1)
    (hl : ∀ od i σ' H', Pv od i σ' H' → H' d = some (.frz od (.dK kvs)))
    (hs : ∀ od i kk v σ' H', kvs[i]? = some (kk, v) → Pv od i σ' H' → tu { nx := Pv od (i + 1), ct := Pv od (i + 1), bk := fun σ' H' => H' d = some (.frz od (.dK kvs)) ∧ tz D σ' (upd H' d (.dK kvs)), rt := fun v H' => H' d = some (.frz od (.dK kvs)) ∧ D.rt v (upd H' d (.dK kvs)) } (σ'.set j (some (kV kk))) H')
    (hf : ∀ od σ' H', Pv od kvs.length σ' H' → tz D σ' (upd H' d (.dK kvs))) : tSeq (tLock (tFor (iKeys td) (gName j) tu)) tz D σ H := s_forK (D := { D with nx := tz D }) hd h Pv h0 hl hs hf
/-! a law's own dict of lists of values -/
structure DictOf (H : Hp) (h : Addr) (es : List Ent) : Prop where
  nd : (h :: es.map (·.l)).Nodup
  nn : (es.map (·.n)).Nodup
  held : H h = some (.dK (es.map kvE))
  cell : ∀ e ∈ es, ColAt H e
theorem DictOf.keep {h : Addr} {es : List Ent} (T : DictOf H h es) (e : Tup H H') (k : ∀ l ∈ h :: es.map (·.l), ∀ o, H l = some o → H' l = some o) : DictOf H' h es :=
  ⟨T.nd, T.nn, k _ (by simp) _ T.held, fun en hen => by
    obtain ⟨vs, h1, h2⟩ := T.cell en hen
    exact ⟨vs, k en.l (by simp only [List.mem_cons]; exact .inr (List.mem_map_of_mem hen)) _ h1, h2.tup e⟩⟩
theorem DictOf.ex {h : Addr} {es : List Ent} (T : DictOf H h es) (e : Ex H H') : DictOf H' h es := T.keep (.of_ex e) fun l _ o => e l o
theorem DictOf.there {h : Addr} {es : List Ent} (T : DictOf H h es) : ∀ l ∈ h :: es.map (·.l), ∃ o, H l = some o := by
  intro l hl
  rcases List.mem_cons.mp hl with rfl | hl
  · exact ⟨_, T.held⟩
  · obtain ⟨e, he, rfl⟩ := List.mem_map.mp hl
    obtain ⟨vs, h1, -⟩ := T.cell e he
    exact ⟨_, h1⟩
theorem DictOf.off {h : Addr} {es : List Ent} (T : DictOf H h es) {p : Addr} (hp : H p = none) : p ∉ h :: es.map (·.l) := fun q => by
  obtain ⟨o, e⟩ := T.there p q
  rw [hp] at e
  cases e
theorem DictOf.ne {h : Addr} {es : List Ent} (T : DictOf H h es) {e : Ent} (he : e ∈ es) : e.l ≠ h := by
  have nd := T.nd
  rw [List.nodup_cons] at nd
  exact fun q => nd.1 (q ▸ List.mem_map_of_mem he)
/-- d.pop(z) -/
theorem DictOf.drop {h : Addr} {es : List Ent} (T : DictOf H h es) (z : Str) : DictOf (upd H h (.dK (dropK (es.map kvE) (.inr z)))) h (es.filter fun e => decide (e.n ≠ z)) := by
  have sub : (es.filter fun e => decide (e.n ≠ z)).Sublist es := List.filter_sublist
  refine ⟨nodup_sub (.cons₂ _ (sub.map _)) T.nd, List.Pairwise.sublist (sub.map _) T.nn, by rw [upd_same, dropK_es], fun e he => (T.cell e (sub.subset he)).keep (fun bb ys q => ?_) (upd_ne (T.ne (sub.subset he)))⟩
  rw [upd_ne (fun w => by rw [w, T.held] at q; cases q)]
  exact q
/-- d[z] = p -/
theorem DictOf.put {h p : Addr} {es : List Ent} {xs : List V} {ds : List PyData} (T : DictOf H h es) (z : Str) (hp : p ∉ h :: es.map (·.l)) (hx : H p = some (.lst xs)) (hv : VtAll H xs ds) : DictOf (upd H h (.dK (putK (es.map kvE) (.inr z) (.ref p)))) h (putE es z p ds) := by
  have tup : Tup H (upd H h (.dK (putK (es.map kvE) (.inr z) (.ref p)))) := fun bb ys q => by
    rw [upd_ne (fun w => by rw [w, T.held] at q; cases q)]
    exact q
  have nd := T.nd
  rw [List.mem_cons, not_or] at hp
  rw [List.nodup_cons] at nd
  refine ⟨?_, putE_n T.nn, by rw [upd_same, putE_kv], fun e he => ?_⟩
  · rw [List.nodup_cons]
    refine ⟨fun q => ?_, putE_l T.nn nd.2 fun e he q => hp.2 (q ▸ List.mem_map_of_mem he)⟩
    obtain ⟨e, he, q⟩ := List.mem_map.mp q
    rcases putE_mem he with he | rfl
    · exact T.ne he q
    · exact hp.1 q
  · rcases putE_mem he with he | rfl
    · exact (T.cell e he).keep tup (upd_ne (T.ne he))
    · exact ⟨xs, by rw [upd_ne hp.1]; exact hx, hv.tup tup⟩
theorem DictOf.find {h : Addr} {es : List Ent} (T : DictOf H h es) {e : Ent} (he : e ∈ es) : valV (es.map kvE) (.inr e.n) = some (.ref e.l) := by
  have q : (es.any fun x => decide (x.n = e.n)) = true := List.any_eq_true.mpr ⟨e, he, decide_eq_true rfl⟩
  obtain ⟨e', h', hn, hf⟩ := find_es q
  have : e' = e := by
    have nl := T.nn
    clear q hf T
    induction es with
    | nil => cases he
    | cons a s ih =>
      rw [List.map_cons, List.nodup_cons] at nl
      rcases List.mem_cons.mp h' with h1 | h1 <;> rcases List.mem_cons.mp he with h2 | h2
      · rw [h1, h2]
      · exact absurd (List.mem_map_of_mem (f := (·.n)) h2) (by show e.n ∉ _; rw [← hn, h1]; exact nl.1)
      · exact absurd (List.mem_map_of_mem (f := (·.n)) h1) (by show e'.n ∉ _; rw [hn, h2]; exact nl.1)
      · exact ih h2 h1 nl.2
  rw [valV_es, hf, this]
  rfl
/-! calls of the table's methods -/
variable {F : List Addr} {t0 : Addr} {b : Tb} {Ex0 : L2.St → XK}
theorem ed_at {d1 d2 d : PyData} (T : TabAt A F H t0 b) (ho : Ev ta σ H (.ref t0)) (h1 : EvD te σ H d1) (h2 : EvD tx σ H d2) (q : atB b d1 d2 = .ok d) : EvD (tMetS (A .Table) "at" (sp_Table_at K A) Ex0 ta (tCons te (tCons tx tNil))) σ H d := fun H1 e Q k => by
  obtain ⟨dx, fs, hi, hf⟩ := T.ins
  refine ho H1 e _ fun H2 e2 => ⟨t0, dx, fs, rfl, (e.trans e2) _ _ hi, look_none hf (by decide), h1 H2 (e.trans e2) _ fun v H3 e3 r3 => h2 H3 ((e.trans e2).trans e3) _ fun w H4 e4 r4 => ?_⟩
  refine ⟨F, t0, b, v, d1, w, d2, rfl, T.ex' (((e.trans e2).trans e3).trans e4), r3.ex e4, r4, fun c hc => (by rw [q] at hc; cases hc), fun d' hd v' H5 e5 r5 => ?_⟩
  rw [q] at hd
  cases hd
  exact k v' H5 (((e2.trans e3).trans e4).trans e5) r5.dt
/-- a change by a method of the table, all arguments data -/
theorem q_tabAsg {m : Str} {sp : Sp} {tas : TA} {i : Nat} {ds : List PyData} (T : TabAt A F H t0 b) (hm : m ∉ tabF) (ho : Ev ta σ H (.ref t0)) (h : EvDs tas σ H ds) (k : ∀ vs H1, Ex H H1 → DtAll H1 vs ds → TabAt A F H1 t0 b → sp (.ref t0 :: vs) H1 (fun v H2 => tz D (σ.set i (some v)) H2) (Ex0 σ)) :
    tSeq (tAsg (tMetS (A .Table) m sp Ex0 ta tas) (gName i)) tz D σ H := by
  obtain ⟨dx, fs, hi, hf⟩ := T.ins
  exact ho H (Ex.refl H) _ fun H2 e2 => ⟨t0, dx, fs, rfl, e2 _ _ hi, look_none hf hm, h H2 e2 _ fun vs H3 e3 r3 => k vs H3 (e2.trans e3) r3 (T.ex' (e2.trans e3))⟩
theorem q_tabDrop {m : Str} {sp : Sp} {tas : TA} {ds : List PyData} (T : TabAt A F H t0 b) (hm : m ∉ tabF) (ho : Ev ta σ H (.ref t0)) (h : EvDs tas σ H ds) (k : ∀ vs H1, Ex H H1 → DtAll H1 vs ds → TabAt A F H1 t0 b → sp (.ref t0 :: vs) H1 (fun _ H2 => tz D σ H2) (Ex0 σ)) :
    tSeq (tDrop (tMetS (A .Table) m sp Ex0 ta tas)) tz D σ H := by
  obtain ⟨dx, fs, hi, hf⟩ := T.ins
  exact ho H (Ex.refl H) _ fun H2 e2 => ⟨t0, dx, fs, rfl, e2 _ _ hi, look_none hf hm, h H2 e2 _ fun vs H3 e3 r3 => k vs H3 (e2.trans e3) r3 (T.ex' (e2.trans e3))⟩
theorem DtAll.one {vs : List V} {d : PyData} (h : DtAll H vs [d]) : ∃ v, vs = [v] ∧ Dt H v d := by
  cases h with
  | cons a r => cases r; exact ⟨_, rfl, a⟩
theorem DtAll.two {vs : List V} {d e : PyData} (h : DtAll H vs [d, e]) : ∃ v w, vs = [v, w] ∧ Dt H v d ∧ Dt H w e := by
  cases h with
  | cons a r => obtain ⟨w, rfl, q⟩ := r.one; exact ⟨_, w, rfl, a, q⟩
theorem DtAll.three {vs : List V} {d e f : PyData} (h : DtAll H vs [d, e, f]) : ∃ v w x, vs = [v, w, x] ∧ Dt H v d ∧ Dt H w e ∧ Dt H x f := by
  cases h with
  | cons a r => obtain ⟨w, x, rfl, q, q2⟩ := r.two; exact ⟨_, w, x, rfl, a, q, q2⟩
/-- d[k] = v -/
theorem s_setK {p : Addr} {kvs : List (Key × V)} {k : Key} {v : V} (h : H p = some (.dK kvs)) (hv : Ev te σ H v) (ho : Ev ta σ H (.ref p)) (hk : Ev tb σ H (kV k)) (hl : kvs.length < 100000) (kk : ∀ H1, Ex H H1 → D.nx σ (upd H1 p (.dK (putK kvs k v)))) : tAsg te (gSub ta tb rSetA) D σ H :=
  hv H (Ex.refl H) _ fun H1 e1 => ho H1 e1 _ fun H2 e2 => hk H2 (e1.trans e2) _ fun H3 e3 => .inr ⟨p, _, rfl, DPut.k (((e1.trans e2).trans e3) _ _ h) (sz_lt hl), kk H3 ((e1.trans e2).trans e3)⟩
theorem nodup_len {α : Type} [DecidableEq α] : ∀ {l m : List α}, l.Nodup → (∀ x ∈ l, x ∈ m) → l.length ≤ m.length
  | [], _, _, _ => Nat.zero_le _
  | a :: l, m, hn, hs => by
    rw [List.nodup_cons] at hn
    have ha := hs a List.mem_cons_self
    have := nodup_len (l := l) (m := m.erase a) hn.2 fun x hx => by
      have hne : x ≠ a := fun q => hn.1 (q ▸ hx)
      exact (List.mem_erase_of_ne hne).mpr (hs x (List.mem_cons_of_mem _ hx))
    rw [List.length_erase_of_mem ha] at this
    have : 0 < m.length := List.length_pos_of_mem ha
    rw [List.length_cons]
    omega
theorem cols_find {es es2 : List Ent} {e : Ent} (q : es2.map cE = es.map cE) (he : e ∈ es) : ∃ e2 ∈ es2, e2.n = e.n ∧ e2.ds = e.ds := by
  have : cE e ∈ es2.map cE := by rw [q]; exact List.mem_map_of_mem he
  obtain ⟨e2, h2, w⟩ := List.mem_map.mp this
  exact ⟨e2, h2, congrArg Prod.fst w, congrArg Prod.snd w⟩
theorem TabAt.wide {e : Ent} {es : List Ent} (T : TabAt A F H t0 b) (q : b.cols = es.map cE) (he : e ∈ es) : e.ds.length = b.rows.length := by
  obtain ⟨dx, r, hh, es2, rfl, O⟩ := T.ex
  obtain ⟨e2, h2, -, w⟩ := cols_find (O.cols.symm.trans q) he
  rw [← w]
  exact O.wide e2 h2
theorem nn_of {es : List Ent} (q : b.cols = es.map cE) (T : TabAt A F H t0 b) : (es.map (·.n)).Nodup := by
  obtain ⟨dx, r, hh, es2, rfl, O⟩ := T.ex
  have : es.map (·.n) = es2.map (·.n) := by
    have := congrArg (List.map Prod.fst) (O.cols.symm.trans q)
    rw [List.map_map, List.map_map] at this
    exact this.symm
  rw [this]
  exact O.nn
theorem getA_mem {es : List Ent} {e : Ent} (nn : (es.map (·.n)).Nodup) (he : e ∈ es) : getA (es.map cE) e.n = some e.ds ∧ ((es.map cE).any fun c => decide (c.1 = e.n)) = true := by
  have q : (es.any fun x => decide (x.n = e.n)) = true := List.any_eq_true.mpr ⟨e, he, decide_eq_true rfl⟩
  refine ⟨?_, by rw [any_es]; exact q⟩
  obtain ⟨e', h', hn, hf⟩ := find_es q
  have : e' = e := by
    clear q hf
    induction es with
    | nil => cases he
    | cons a s ih =>
      rw [List.map_cons, List.nodup_cons] at nn
      rcases List.mem_cons.mp h' with h1 | h1 <;> rcases List.mem_cons.mp he with h2 | h2
      · rw [h1, h2]
      · exact absurd (List.mem_map_of_mem (f := (·.n)) h2) (by show e.n ∉ _; rw [← hn, h1]; exact nn.1)
      · exact absurd (List.mem_map_of_mem (f := (·.n)) h1) (by show e'.n ∉ _; rw [hn, h2]; exact nn.1)
      · exact ih nn.2 h2 h1
  rw [getA_es, hf, this]
  rfl
theorem at_ok {es : List Ent} {e : Ent} {i : Nat} (T : TabAt A F H t0 b) (q : b.cols = es.map cE) (he : e ∈ es) (hi : i < b.rows.length) : atB b (.str e.n) (.int i) = .ok (e.ds.getD i .none) := by
  have g := getA_mem (nn_of q T) he
  have h : hasC b (.str e.n) = true := by
    show (b.cols.any fun c => decide (c.1 = e.n)) = true
    rw [q]
    exact g.2
  unfold atB
  rw [if_pos h, if_pos (show isBelow b.rows.length (.int i) = true from decide_eq_true (by omega))]
  show Except.ok (((getA b.cols e.n).getD []).getD i .none) = _
  rw [q, g.1]
  rfl
end
end Z

set_option Elab.async false
set_option linter.all false
set_option autoImplicit false
set_option maxRecDepth 100000
set_option maxHeartbeats 4000000
/-! ev: what an expression comes to, by its form -/
local macro_rules | `(tactic| k_places) => `(tactic| (repeat' (first
  | (with_reducible exact ev_c)
  | (with_reducible exact ev_var rfl)
  | (with_reducible refine ev_chainLL ?_ ?_ ?_)
  | (with_reducible refine ev_chainLt ?_ ?_ ?_)
  | (with_reducible refine ev_op ?_ ?_ ?_)
  | (with_reducible refine ev_neg ?_)
  | (with_reducible refine et_test ?_)
  | (with_reducible refine et_B ?_)
  | (with_reducible refine et_not ?_)
  | (with_reducible refine et_and ?_ (fun _ => ?_))
  | (with_reducible refine et_or ?_ (fun _ => ?_))
  | (with_reducible refine ev_andV ?_ (fun _ => ?_))
  | (with_reducible refine ev_orV ?_ (fun _ => ?_))
  | (with_reducible refine ev_notV ?_)
  | (with_reducible exact rv_addI)
  | (with_reducible exact rv_subI)
  | (with_reducible exact rv_lt)
  | (with_reducible exact rv_le)
  | (with_reducible exact rv_gt)
  | (with_reducible exact rv_ge)
  | (with_reducible exact rv_isB)
  | (with_reducible exact rv_isnB)
  | (with_reducible exact rv_isN)
  | (with_reducible exact rv_isnN)
  | (with_reducible exact rv_eqS rfl)
  | (with_reducible exact rv_neS rfl)
  | (with_reducible exact rv_inStr)
  | (with_reducible exact rv_ninStr)
  | (with_reducible exact rv_mod (by first | decide | omega | assumption))
  | (with_reducible exact rv_div (by first | decide | omega | assumption))
  | (with_reducible exact rv_pow (by decide))
  | (with_reducible refine ed_i ?_; done)
  | (with_reducible exact ea_nil)
  | (with_reducible refine ea_cons ?_ ?_)
  | (with_reducible exact eds_nil)
  | (with_reducible refine eds_cons ?_ ?_)
  | (with_reducible exact ed_dnew)
  | (with_reducible refine ed_lst ?_ (by simp only [List.length_cons, List.length_nil]; omega))
  | (with_reducible refine ed_tup ?_ (by simp only [List.length_cons, List.length_nil]; omega)))))
namespace Z
open PySem PySem.Spec PyProof.Rows L2 Evl NdefX LamX
/-! ### lambdas: words, what is known of a made one -/
structure LF where
  qual : Str
  params : Arguments
  body : Expr
  scope : Scope
  cl : List (Str × Addr)
  c : Addr
/-- for the frames of NdefX: a def of the same names -/
def LF.nf (F : LF) : NF := ⟨"<lambda>", F.qual, F.params, [], F.scope, F.cl, F.c⟩
def FnL (f : Addr) (F : LF) : HO := .ext fun h => ∃ pm ctv : Value, h.get? f = some (PySem.W.kla_obj "<lambda>" F.qual F.params F.body F.scope F.cl pm F.c ctv)
theorem fnL_ne {f : Addr} {F : LF} (ps : Array Value) : FnL f F ≠ .tbl ps := fun z => by unfold FnL at z; cases z
theorem fnL_frz {f : Addr} {F : LF} (o : Obj) (u : HO) : FnL f F ≠ .frz o u := fun z => by unfold FnL at z; cases z
theorem codeO_frz {c : Addr} {q : Str} (o : Obj) (u : HO) : CodeO c q ≠ .frz o u := fun z => by unfold CodeO at z; cases z
theorem fnL_at {P : Program} {w : World} {H : Hp} {h : Heap} {f : Addr} {F : LF} (ok : HOk P w H h) (e : H f = some (FnL f F)) : ∃ pm ctv : Value, h.get? f = some (PySem.W.kla_obj "<lambda>" F.qual F.params F.body F.scope F.cl pm F.c ctv) := (ok f _ e).1
/-- all but the tables stay, nothing that is tracked goes, the tables stand -/
structure ExT (T : List (Addr × Str)) (H H' : Hp) : Prop where
  e : ExtN H H'
  n : ∀ b, H' b = none → H b = none
  t : Tabs T H'
theorem upd_no {H : Hp} {a b : Addr} {o : HO} (e : L2.upd H a o b = none) : H b = none := by
  unfold L2.upd at e
  split at e
  · cases e
  · exact e
theorem upd_keep {H : Hp} {a : Addr} {o : HO} (n : H a = none) : ∀ b u, H b = some u → L2.upd H a o b = some u := fun b u e => (upd_ne (ne_of_none e n)).trans e
section
variable {X : Cx} {pins : List (Addr × Obj)} {σ : L2.St} {H : Hp} {s : Shared}
theorem inv_lam {F : LF} {tk' : Nat} {pm ctv : Value} (J : Inv X pins σ H s) :
    Inv X pins σ (L2.upd H s.heap.objs.size (FnL s.heap.objs.size F)) { s with heap := s.heap.push (PySem.W.kla_obj "<lambda>" F.qual F.params F.body F.scope F.cl pm F.c ctv), toks := tk' } := by
  refine J.laid (fun b u e => Heap.get?_push_of_some _ e) (Nat.le_refl _) ?_
  have e : (s.heap.push (PySem.W.kla_obj "<lambda>" F.qual F.params F.body F.scope F.cl pm F.c ctv)).get? s.heap.objs.size = some (PySem.W.kla_obj "<lambda>" F.qual F.params F.body F.scope F.cl pm F.c ctv) := Heap.get?_push_size _ rfl
  exact ⟨⟨pm, ctv, e⟩, ⟨_, e⟩, fun _ _ ⟨p, q, z⟩ st => ⟨p, q, st _ z⟩⟩
/-- a lambda is made -/
theorem lam_mk {T : List (Addr × Str)} {c P : Addr} {params : Arguments} {body : Expr} {scope : Scope} {pos : Pos} {E Q : Value → Shared → Prop} (J : Inv X pins σ H s) (TB : TabB X.base X.mg c P) (hc : X.env.code = .ref c)
    (hm : (P, X.env.qual ++ "<lambda>") ∈ T) (hu : ∀ p ∈ T, p.1 = P → p.2 = X.env.qual ++ "<lambda>") (hT : Tabs T H) (hd : defaultsOf params X.env = ([], [])) (hfr : ∀ y ∈ scope.names, y.2 = .free → ∃ c, X.env.cells.lookup y.1 = some c)
    (k : ∀ (f c' : Addr) (H1 : Hp) (s' : Shared), Inv X pins σ H1 s' → ExT T H H1 → H f = none → H1 f = some (FnL f ⟨X.env.qual ++ "<lambda>", params, body, scope, cloFrom X.env.cells scope.names [], c'⟩) → H1 c' = some (CodeO c' (X.env.qual ++ "<lambda>")) → Q (.ref f) s') :
    wpAny (model X.prog X.w) X.A (eval (.Lambda params body scope pos) X.env) Q E s := by
  obtain ⟨ps, hP, ht, ha⟩ := hT _ hm
  refine PySem.W.kla_eval hd ?_
  have bP := TB.bm.keeps J.bk
  have gP : s.heap.get? P = some { cls := .none, data := .fields ps } := J.hok P _ hP
  cases q : codeAmong pos ps.toList with
  | none =>
    refine PySem.W.kla_makeFunction (closure_ok hfr) J.ok.glob (J.mod.glob.keeps J.bk) hc (TB.code.keeps J.bk) gP ht q TB.gP bP fun c' ctv h' tk hx ge lt hrec htb => ?_
    obtain ⟨c2, oc, vs, t, e2, hoc, hdc, hvc⟩ := hrec
    cases e2
    have nC : H c' = none := J.hok.fresh ge
    have J1 := inv_table (t' := tk) (more := #[rawInt pos.line, rawInt pos.col, .ref c']) (h' := h') J hP (fun b o n e => hx b o n e) htb ge ⟨oc, vs, t, hoc, hdc, hvc⟩
    have hE : ExtN H (L2.upd (L2.upd H P (.tbl (ps ++ #[rawInt pos.line, rawInt pos.col, .ref c']))) c' (CodeO c' (X.env.qual ++ "<lambda>"))) := fun b o e n =>
      upd_keep (a := c') ((upd_ne (Ne.symm (ne_of_none hP nC))).trans nC) b o ((upd_ne fun z => n ps (Option.some.inj (e.symm.trans (by rw [z]; exact hP)))).trans e)
    have T1 : Tabs T (L2.upd (L2.upd H P (.tbl (ps ++ #[rawInt pos.line, rawInt pos.col, .ref c']))) c' (CodeO c' (X.env.qual ++ "<lambda>"))) := fun p hp => by
      by_cases hb : p.1 = P
      · have eL : (ps ++ #[rawInt pos.line, rawInt pos.col, .ref c']).toList = ps.toList ++ [rawInt pos.line, rawInt pos.col, .ref c'] := by simp
        rw [hu p hp hb, hb]
        refine ⟨_, (upd_ne (ne_of_none hP nC)).trans upd_same, by rw [eL]; exact PySem.TriplesOk_snoc _ _ _ _ ht, fun p' cv hcv => ?_⟩
        rw [eL] at hcv
        rcases among_app _ ht hcv with z | z
        · obtain ⟨c0, e1, e2⟩ := ha p' cv z
          exact ⟨c0, e1, hE _ _ e2 codeO_ne⟩
        · exact ⟨c', z, upd_same⟩
      · obtain ⟨ps', a1, a2, a3⟩ := hT p hp
        refine ⟨ps', (upd_ne (ne_of_none a1 nC)).trans ((upd_ne hb).trans a1), a2, fun p' cv hcv => ?_⟩
        obtain ⟨c0, e1, e2⟩ := a3 p' cv hcv
        exact ⟨c0, e1, hE _ _ e2 codeO_ne⟩
    have nF := J1.hok.fresh (Nat.le_refl _)
    have J2 := inv_lam (F := ⟨X.env.qual ++ "<lambda>", params, body, scope, cloFrom X.env.cells scope.names [], c'⟩) (tk' := tk) (pm := (X.mg "__name__").getD .none) (ctv := ctv) J1
    exact k _ c' _ _ J2 ⟨fun b o e n => upd_keep nF b o (hE b o e n), fun b e => upd_no (upd_no (upd_no e)), T1.ext (upd_keep nF)⟩ (J.hok.fresh (Nat.le_trans ge (Nat.le_of_lt lt))) upd_same ((upd_ne (Nat.ne_of_lt lt)).trans upd_same)
  | some cv =>
    obtain ⟨c', rfl, hco⟩ := ha pos cv q
    refine PySem.W.kla_makeFunctionHit (closure_ok hfr) J.ok.glob (J.mod.glob.keeps J.bk) hc (TB.code.keeps J.bk) gP ht q bP fun ctv h' tk hx hsz => ?_
    have J1 : Inv X pins σ H { s with heap := h', toks := tk } := J.kept hx
    have nF := J1.hok.fresh (Nat.le_refl _)
    have J2 := inv_lam (F := ⟨X.env.qual ++ "<lambda>", params, body, scope, cloFrom X.env.cells scope.names [], c'⟩) (tk' := tk) (pm := (X.mg "__name__").getD .none) (ctv := ctv) J1
    exact k _ c' _ _ J2 ⟨fun b o e _ => upd_keep nF b o e, fun b e => upd_no e, hT.ext (upd_keep nF)⟩ nF upd_same (upd_keep nF _ _ hco)
end
/-- the reading of a lambda -/
def tLamE (T : List (Addr × Str)) (mk : Addr → LF) : TE := fun _ H Q => Tabs T H ∧ ∀ f c' H1, ExT T H H1 → H f = none → H1 f = some (FnL f (mk c')) → H1 c' = some (CodeO c' (mk c').qual) → Q (.ref f) H1
theorem pe_lam {X : Cx} {T : List (Addr × Str)} {c P : Addr} {params : Arguments} {body : Expr} {scope : Scope} {pos : Pos} {cl : List (Str × Addr)} (TB : TabB X.base X.mg c P) (hc : X.env.code = .ref c) (hm : (P, X.env.qual ++ "<lambda>") ∈ T) (hu : ∀ p ∈ T, p.1 = P → p.2 = X.env.qual ++ "<lambda>")
    (hcl : X.env.cells = cl) (hn : ndefB X.env.scope scope [] = true) (hd : defaultsOf params X.env = ([], []) := by rfl) : PE X (.Lambda params body scope pos) (tLamE T fun c' => ⟨X.env.qual ++ "<lambda>", params, body, scope, cloFrom cl scope.names [], c'⟩) := by
  refine ⟨fun pins s σ H Q J ⟨hT, k⟩ => ?_⟩
  subst hcl
  refine lam_mk J TB hc hm hu hT hd (fun y hy e => (ndef_free hn y hy e).elim (fun z => J.ok.has _ (.inl z)) fun z => J.ok.has _ (.inr z)) fun f c' H1 s' J1 eT h0 h1 h2 => ⟨.ref f, H1, J1, rfl, k f c' H1 eT h0 h1 h2⟩
/-! ### the body -/
section
variable {P : Program} {w : World} {K : PySem.W.Frag} {mg : Str → Option Value} {base : Heap} {N ps fr : List Str} {F : LF} {f : Addr} {k j : Nat} {sp : List (Option V) → Sp}
/-- what a lambda promises: at a call, from what its cells hold -/
structure LOk (P : Program) (w : World) (K : PySem.W.Frag) (mg : Str → Option Value) (base : Heap) (k : Nat) (f : Addr) (F : LF) (ps fr : List Str) (sp : List (Option V) → Sp) : Prop where
  len : ∀ ws vs H Q E, sp ws vs H Q E → vs.length = ps.length
  run : ∀ (A : Around) (outer : List Env) (s : Shared) (H : Hp) (us : List Value) (vs : List V) (ws : List (Option V)) (Q : VK), Room k A → Env0 P w K mg base A outer s H → H f = some (FnL f F) → H F.c = some (CodeO F.c F.qual) →
    CellsAt F.cl fr ws s.heap H → Vals vs us → sp ws vs H Q E0 → codeAny (model P w) A (.call (.ref f) ⟨us, []⟩) (CR (L2.CX P w) outer P w H s Q E0) s
theorem lok_of (S : NScope N ps fr F.scope) (hb : ∀ (pm ctv : Value) (us : List Value), us.length = ps.length → bindArgs (PySem.W.kla_fn "<lambda>" F.qual F.params F.body F.scope F.cl pm (.ref F.c) ctv) ⟨us, []⟩ = pure (ps.zip us)) (len : ∀ ws vs H Q E, sp ws vs H Q E → vs.length = ps.length)
    (hbody : ∀ (A : Around) (outer : List Env) (s : Shared) (H : Hp) (vs : List V) (ws : List (Option V)) (Q : VK), Room k (A.deeper (envF F.nf f s.heap.objs.size)) → ws.length = fr.length → sp ws vs H Q E0 →
      ∃ t : TE, PE (ncx (L2.CX P w) P w K mg base N F.nf f A outer s H E0) F.body t ∧ t (startF N vs ws) H Q) : LOk P w K mg base (k + 1) f F ps fr sp := by
  refine ⟨len, fun A outer s H us vs ws Q hr e0 hf hc C r hsp => ?_⟩
  have hl := len _ _ _ _ _ hsp
  have lim : s.heap.NoLimit := e0.mod.nolimit.keeps fun b o e => (e0.bs b o e).1
  obtain ⟨pm, ctv, ho⟩ := fnL_at e0.hok hf
  refine PySem.W.kla_callFunE hr.depth ho rfl S.co S.gen rfl (codeO_at e0.hok hc) ?_
  rw [hb pm ctv us (by rw [← r.length]; exact hl)]
  refine wpAny_pure (wpAny_newFunctionEnv S.nocell (fun ⟨n, _⟩ hy => S.par n (List.of_mem_zip hy).1) (fun h₁ hns hsb => ⟨lim.fresh _ hsb, ?_⟩) S.kind)
  show codeAny _ _ (.expr F.body (envF F.nf f s.heap.objs.size)) _ _
  have kp : ∀ b o, s.heap.get? b = some o → h₁.get? b = some o := fun b o e => hsb.extBut b o (Nat.ne_of_lt (Heap.lt_size e)) (Heap.get?_push_of_some _ e)
  obtain ⟨t, ht, hq⟩ := hbody A outer s H vs ws Q (hr.deeper _) C.len hsp
  have J : Inv (ncx (L2.CX P w) P w K mg base N F.nf f A outer s H E0) [] (startF N vs ws) H { s with heap := h₁, toks := s.toks + (ps.zip us).length } := inv_startN (F := F.nf) S hr.hd e0 hl r C hns kp
  refine PySem.W.kla_codeExpr (wpAny_mono (ht.run [] _ (startF N vs ws) H _ J hq) (fun u s' hs => ?_) fun e s' hs => hs)
  obtain ⟨v, H', J', rv, q⟩ := hs
  exact ⟨v, H', J'.os, J'.bare, J'.base, J'.hok, rv, q⟩
end
/-! ### cells that are told by the abstract heap: lent to a callee, or left behind by a def that is gone -/
/-- an object that is written there, and holds the value -/
def CellT (H : Hp) (c : Addr) (v : V) : Prop := ∃ o u, H c = some (.frz o (.own 0)) ∧ o.data = .cell (some u) ∧ L2.RelV v u
structure Caught (H : Hp) (cl : List (Str × Addr)) (fr : List Str) (ws : List (Option V)) : Prop where
  len : ws.length = fr.length
  all : ∀ y c, cl.lookup y = some c → ∃ o u, H c = some (.frz o (.own 0)) ∧ o.data = .cell u
  inj : ∀ x y c, cl.lookup x = some c → cl.lookup y = some c → x = y
  has : ∀ (i : Nat) (y : Str), fr[i]? = some y → ∃ c, cl.lookup y = some c ∧ ∀ v, ws[i]? = some (some v) → CellT H c v
open Classical in
/-- the heap without these cells; with them again -/
noncomputable def hidC (cl : List (Str × Addr)) (H : Hp) : Hp := fun b => if ∃ y, cl.lookup y = some b then none else H b
open Classical in
noncomputable def shwC (cl : List (Str × Addr)) (H H' : Hp) : Hp := fun b => if ∃ y, cl.lookup y = some b then H b else H' b
theorem hidC_at {cl : List (Str × Addr)} {H : Hp} {b : Addr} (h : ∃ y, cl.lookup y = some b) : hidC cl H b = none := by unfold hidC; rw [if_pos h]
theorem hidC_ne {cl : List (Str × Addr)} {H : Hp} {b : Addr} (h : ¬ ∃ y, cl.lookup y = some b) : hidC cl H b = H b := by unfold hidC; rw [if_neg h]
theorem shwC_at {cl : List (Str × Addr)} {H H' : Hp} {b : Addr} (h : ∃ y, cl.lookup y = some b) : shwC cl H H' b = H b := by unfold shwC; rw [if_pos h]
theorem shwC_ne {cl : List (Str × Addr)} {H H' : Hp} {b : Addr} (h : ¬ ∃ y, cl.lookup y = some b) : shwC cl H H' b = H' b := by unfold shwC; rw [if_neg h]
/-- the cells are written objects there -/
def Cells (cl : List (Str × Addr)) (H : Hp) : Prop := ∀ y c, cl.lookup y = some c → ∃ o u, H c = some (.frz o (.own 0)) ∧ o.data = .cell u
section
variable {P : Program} {w : World} {cl : List (Str × Addr)} {H H' H2 : Hp} {h h' : Heap} {fs : List Addr}
theorem Cells.no (C : Cells cl H) {b : Addr} {o : HO} (e : H b = some o) (n : ∀ ob u, o ≠ .frz ob u) : ¬ ∃ y, cl.lookup y = some b := fun ⟨y, hy⟩ => by
  obtain ⟨ob, u, q, _⟩ := C y b hy
  rw [e] at q
  exact n _ _ (Option.some.inj q)
theorem HOk.hid (ok : HOk P w H h) (C : Cells cl H) : HOk P w (hidC cl H) h := fun b o e => by
  have nb : ¬ ∃ y, cl.lookup y = some b := fun z => by rw [hidC_at z] at e; cases e
  rw [hidC_ne nb] at e
  exact (ok b o e).stay (fun _ _ _ q => q) (fun c q => (hidC_ne (C.no q fun _ _ z => by cases z)).trans q) fun c xs q => (hidC_ne (C.no q fun _ _ z => by cases z)).trans q
/-- back: the cells that were hidden are as they were -/
theorem un_shw (ok : HOk P w H h) (C : Cells cl H) (nf : ∀ b ∈ fs, H b = none) (u : Un fs [] (hidC cl H) H2 h h') (ok2 : HOk P w H2 h') : Un fs [] H (shwC cl H H2) h h' ∧ HOk P w (shwC cl H H2) h' := by
  have kc : ∀ y c, cl.lookup y = some c → ∃ o u, H c = some (.frz o (.own 0)) ∧ h.get? c = some o ∧ h'.get? c = some o ∧ H2 c = none := fun y c e => by
    obtain ⟨o, d, q, _⟩ := C y c e
    have ho : h.get? c = some o := (ok c _ q).1
    have n : hidC cl H c = none := hidC_at ⟨y, e⟩
    refine ⟨o, d, q, ho, u.keep c o ho n (fun z => ?_) (by simp), u.free c o ho n (by simp)⟩
    rw [nf c z] at q
    cases q
  refine ⟨⟨fun b o e n hb hx => ?_, fun b o e n hb hx => ?_, fun b o e n hx => ?_, fun b o e hx => u.there b o e hx, fun b xs e => ?_, fun b o x e => ?_, fun b ps e => ?_⟩, fun b o e => ?_⟩
  · have nb : ¬ ∃ y, cl.lookup y = some b := fun ⟨y, z⟩ => by obtain ⟨_, _, q, _⟩ := kc y b z; rw [n] at q; cases q
    exact u.keep b o e ((hidC_ne nb).trans n) hb hx
  · have nb : ¬ ∃ y, cl.lookup y = some b := fun ⟨y, z⟩ => by obtain ⟨_, _, q, _⟩ := kc y b z; rw [n] at q; cases q
    exact u.slot b o e ((hidC_ne nb).trans n) hb hx
  · have nb : ¬ ∃ y, cl.lookup y = some b := fun ⟨y, z⟩ => by obtain ⟨_, _, q, _⟩ := kc y b z; rw [n] at q; cases q
    exact (shwC_ne nb).trans (u.free b o e ((hidC_ne nb).trans n) hx)
  · have nb := C.no e fun _ _ z => by cases z
    exact (shwC_ne nb).trans (u.tups b xs ((hidC_ne nb).trans e))
  · by_cases nb : ∃ y, cl.lookup y = some b
    · exact (shwC_at nb).trans e
    · exact (shwC_ne nb).trans (u.frzs b o x ((hidC_ne nb).trans e))
  · have nb := C.no e fun _ _ z => by cases z
    obtain ⟨m, q⟩ := u.tbls b ps ((hidC_ne nb).trans e)
    exact ⟨m, (shwC_ne nb).trans q⟩
  · by_cases nb : ∃ y, cl.lookup y = some b
    · rw [shwC_at nb] at e
      obtain ⟨y, hy⟩ := nb
      obtain ⟨o', d, q, _, h2, _⟩ := kc y b hy
      rw [q] at e
      cases e
      exact ⟨h2, o', h2⟩
    · rw [shwC_ne nb] at e
      have nn : ∀ c x, H2 c = some x → ¬ ∃ y, cl.lookup y = some c := fun c x q ⟨y, hy⟩ => by
        obtain ⟨_, _, _, _, _, z⟩ := kc y c hy
        rw [z] at q
        cases q
      exact (ok2 b o e).stay (fun _ _ _ q => q) (fun c q => (shwC_ne (nn c _ q)).trans q) fun c xs q => (shwC_ne (nn c _ q)).trans q
theorem env0_hid {K : PySem.W.Frag} {mg : Str → Option Value} {base : Heap} {A : Around} {outer : List Env} {s : Shared} (e : Env0 P w K mg base A outer s H) (C : Cells cl H) : Env0 P w K mg base A outer s (hidC cl H) := by
  have nn : ∀ b, H b = none → hidC cl H b = none := fun b n => by
    by_cases nb : ∃ y, cl.lookup y = some b
    · exact hidC_at nb
    · exact (hidC_ne nb).trans n
  exact ⟨e.frames, e.mod, fun b o q => ⟨(e.bs b o q).1, nn b (e.bs b o q).2⟩, e.bsz, e.funs, fun b hb => nn b (e.frf b hb), HOk.hid e.hok C, e.bare⟩
end
theorem Caught.cells {H : Hp} {cl : List (Str × Addr)} {fr : List Str} {ws : List (Option V)} (C : Caught H cl fr ws) : Cells cl H := C.all
theorem caught_at {P : Program} {w : World} {H : Hp} {h : Heap} {cl : List (Str × Addr)} {fr : List Str} {ws : List (Option V)} (ok : HOk P w H h) (C : Caught H cl fr ws) : CellsAt cl fr ws h (hidC cl H) := by
  refine ⟨C.len, fun y c e => ⟨hidC_at ⟨y, e⟩, ?_⟩, C.inj, fun i y e => ?_⟩
  · obtain ⟨o, u, q, d⟩ := C.all y c e
    exact ⟨u, o, (ok c _ q).1, d⟩
  · obtain ⟨c, hc, k⟩ := C.has i y e
    refine ⟨c, hc, fun v hv => ?_⟩
    obtain ⟨o, u, q, d, r⟩ := k v hv
    exact ⟨u, r, o, (ok c _ q).1, d⟩
/-! ### what may be called: f is a lambda that promises sp -/
/-- kept between two heaps: lambdas, code objects, written cells -/
def Fix : HO → Prop
  | .ext _ => True
  | .frz _ _ => True
  | _ => False
def Kp (H H' : Hp) : Prop := ∀ a o, H a = some o → Fix o → H' a = some o
theorem Kp.refl (H : Hp) : Kp H H := fun _ _ e _ => e
theorem Kp.trans {H H1 H2 : Hp} (a : Kp H H1) (b : Kp H1 H2) : Kp H H2 := fun x o e f => b x o (a x o e f) f
theorem Kp.of {H H' : Hp} (e : Ex H H') : Kp H H' := fun a o q _ => e a o q
theorem Kp.extN {H H' : Hp} (e : ExtN H H') : Kp H H' := fun a o q f => e a o q fun ps z => by rw [z] at f; exact f
section
variable (P : Program) (w : World) (K : PySem.W.Frag) (mg : Str → Option Value) (base : Heap) (k : Nat)
def CloAt (H : Hp) (f : Addr) (sp : Sp) : Prop := ∃ (F : LF) (ps fr : List Str) (ws : List (Option V)) (sp0 : List (Option V) → Sp), LOk P w K mg base k f F ps fr sp0 ∧ H f = some (FnL f F) ∧ H F.c = some (CodeO F.c F.qual) ∧ Caught H F.cl fr ws ∧
  ∀ vs H' Q, Kp H H' → sp vs H' Q E0 → sp0 ws vs (hidC F.cl H') (fun v H2 => (∀ y c, F.cl.lookup y = some c → H2 c = none) → Q v (shwC F.cl H' H2)) E0
end
section
variable {P : Program} {w : World} {K : PySem.W.Frag} {mg : Str → Option Value} {base : Heap} {k j : Nat} {H H' : Hp} {f : Addr} {sp : Sp}
theorem Caught.kp {cl : List (Str × Addr)} {fr : List Str} {ws : List (Option V)} (e : Kp H H') (C : Caught H cl fr ws) : Caught H' cl fr ws := by
  refine ⟨C.len, fun y c q => ?_, C.inj, fun i y q => ?_⟩
  · obtain ⟨o, u, a, b⟩ := C.all y c q
    exact ⟨o, u, e _ _ a True.intro, b⟩
  · obtain ⟨c, a, b⟩ := C.has i y q
    refine ⟨c, a, fun v hv => ?_⟩
    obtain ⟨o, u, z, r⟩ := b v hv
    exact ⟨o, u, e _ _ z True.intro, r⟩
theorem CloAt.kp (e : Kp H H') (c : CloAt P w K mg base k H f sp) : CloAt P w K mg base k H' f sp := by
  obtain ⟨F, ps, fr, ws, sp0, a, b, d, C, i⟩ := c
  exact ⟨F, ps, fr, ws, sp0, a, e _ _ b True.intro, e _ _ d True.intro, C.kp e, fun vs H2 Q e2 => i vs H2 Q (e.trans e2)⟩
theorem CloAt.mono (h : j ≤ k) (c : CloAt P w K mg base j H f sp) : CloAt P w K mg base k H f sp := by
  obtain ⟨F, ps, fr, ws, sp0, a, r⟩ := c
  exact ⟨F, ps, fr, ws, sp0, ⟨a.len, fun A outer s H us vs ws Q hr => a.run A outer s H us vs ws Q (hr.mono h)⟩, r⟩
theorem CloAt.fnAt {h : Heap} (ok : HOk P w H h) (c : CloAt P w K mg base k H f sp) : PySem.W.FnAt f h := by
  obtain ⟨F, _, _, _, _, _, b, _⟩ := c
  obtain ⟨pm, ctv, e⟩ := fnL_at ok b
  exact ⟨_, none, _, _, e⟩
theorem run_clo {X : Cx} {pins : List (Addr × Obj)} {σ : L2.St} {H : Hp} {s : Shared} {Q : VK} {us : List Value} {vs : List V} (c : CloAt X.prog X.w X.K X.mg X.base k H f sp) (hr : Room k X.A) (J : Inv X pins σ H s) (r : Vals vs us) (q : sp vs H Q E0) :
    wpAny (model X.prog X.w) X.A (call (.ref f) us) (EP X pins σ Q) X.xe s := by
  obtain ⟨F, ps, fr, ws, sp0, L, hf, hc, C, i⟩ := c
  have e1 := env0_hid J.env0 C.cells
  have nf : ¬ ∃ y, F.cl.lookup y = some f := C.cells.no hf fun _ _ z => fnL_frz _ _ z
  have nc : ¬ ∃ y, F.cl.lookup y = some F.c := C.cells.no hc fun _ _ z => codeO_frz _ _ z
  refine wpAny_call (codeAny_mono (L.run X.A X.stack s _ us vs ws _ hr e1 ((hidC_ne nf).trans hf) ((hidC_ne nc).trans hc) (caught_at J.hok C) r (i vs H Q (Kp.refl H) q)) fun rr s' hq => ?_)
  cases rr with
  | error e =>
    obtain ⟨_, _, _, _, _, _, _, _, _, _, _, _, z⟩ := hq
    exact z.elim
  | ok fl =>
    cases fl with
    | ret u =>
      obtain ⟨v, H2, os, bare, un, ok2, rv, q2⟩ := hq
      obtain ⟨un', ok'⟩ := un_shw J.hok C.cells J.stkFree un ok2
      refine J.after ⟨v, _, os, bare, un', ok', rv, q2 fun y c hy => ?_⟩
      obtain ⟨o, d, q3, _⟩ := C.all y c hy
      exact un.free c o (J.hok c _ q3).1 (hidC_at ⟨y, hy⟩) (by simp)
    | next => exact False.elim hq
    | brk => exact False.elim hq
    | cont => exact False.elim hq
end
/-- f(..), f a name -/
def tCallC (CA : Hp → Addr → Sp → Prop) (i : Nat) (t : TA) : TE := fun σ H Q => ∃ f sp, σ[i]? = some (some (.ref f)) ∧ CA H f sp ∧ t σ H fun vs H1 => CA H1 f sp ∧ sp vs H1 Q E0
/-- o.f(..), f an attribute of the instance -/
def tCallF (K : PySem.W.Frag) (CA : Hp → Addr → Sp → Prop) (x : Str) (ta : TE) (t : TA) : TE := fun σ H Q => ta σ H fun v H1 => ∃ a C dx fs f sp, v = .ref a ∧ H1 a = some (.ins C dx fs) ∧ Cls K C ∧ NoAttr K C x ∧ fs.lookup x = some (.ref f) ∧ CA H1 f sp ∧ t σ H1 fun vs H2 => CA H2 f sp ∧ sp vs H2 Q E0
section
variable {X : Cx} {k i : Nat} {x : Str} {p pos apos : Pos} {e o : Expr} {es : List Expr} {t : TA} {ta : TE} {pl : Sem Bool}
theorem pe_callC (hr : Room k X.A) (hN : X.N[i]? = some x) (hv : Vis X.env.scope x) (ha : PA X (e :: es) t) (hd : (x == ("__debug__" : Str)) = false := by decide) (hcd : (x == ("__classdict__" : Str)) = false := by decide)
    (he : starEach (e :: es) X.env = (false, eval e X.env) :: starEach es X.env := by rfl) (hpl : (backTo pos (starEach es X.env)).any (·.1) = false := by rfl) :
    PE X (.Call (.Name x p) (e :: es) [] pos) (tCallC (CloAt X.prog X.w X.K X.mg X.base k) i t) := by
  refine ⟨fun pins s σ H Q J h => ?_⟩
  obtain ⟨f, sp, hs, c, ht⟩ := h
  refine wpAny_Call_Name_kw (thn ((pe_var (pos := p) hN hv hd hcd).run pins s σ H (fun v H1 => v = .ref f ∧ H1 = H) J ⟨.ref f, hs, rfl, rfl⟩) fun u s1 ⟨v, H1, J1, r1, q1, q2⟩ => ?_)
  subst q1 q2
  obtain rfl : u = Value.ref f := r1
  exact PySem.W.callWith_F (first := []) (c.fnAt J1.hok) (thn (ha.run pos pins s1 σ _ _ J1 ht) fun us s2 ⟨vs, H2, J2, r, c2, q⟩ => ⟨c2.fnAt J2.hok, run_clo c2 hr J2 r q⟩) he hpl
theorem pe_callF (hr : Room k X.A) (ho : PE X o ta) (ha : PA X (e :: es) t) (he : starEach (e :: es) X.env = (false, eval e X.env) :: starEach es X.env := by rfl) (hpl : (backTo pos (starEach es X.env)).any (·.1) = false := by rfl)
    (ht : eval (.Call (.Attribute o x apos) (e :: es) [] pos) X.env = (do
      let ov ← eval o X.env
      standAt apos.atName
      let (f, first) ← holding [ov] (getMethod ov x pl)
      callWith pos f first (backTo pos (starEach (e :: es) X.env)) (backToKw pos (keywordEach [] X.env))) := by rfl) :
    PE X (.Call (.Attribute o x apos) (e :: es) [] pos) (tCallF X.K (CloAt X.prog X.w X.K X.mg X.base k) x ta t) := by
  refine ⟨fun pins s σ H Q J h => ?_⟩
  refine PySem.W.methodCall_KW (pl := pl) (thn (ho.run pins s σ H _ J h) fun u s1 ⟨v, H1, J1, rx, a, C, dx, fs, f, sp, ev, ea, c, n, l, ca, q⟩ => ?_) ht
  subst ev
  obtain rfl : u = Value.ref a := rx
  obtain ⟨mA, O, _⟩ := ins_get J1.hok ea
  obtain ⟨od, Il, _⟩ := O.look
  have g := PySem.W.plainGet_of (c.get x)
  refine PySem.W.method_usual J1.kIn Il g.1 g.2 (show PySem.W.findIn X.K (.ref C) x = some none from n) rfl (getattr_ok J1 ea c n l fun u2 s2 J2 r2 => ?_)
  obtain rfl : u2 = Value.ref f := r2
  exact PySem.W.callWith_F (first := []) (ca.fnAt J2.hok) (thn (ha.run pos pins s2 σ _ _ J2 q) fun us s3 ⟨vs, H2, J3, r, c2, q⟩ => ⟨c2.fnAt J3.hok, run_clo c2 hr J3 r q⟩) he hpl
end
end Z

set_option Elab.async false
set_option linter.all false
set_option autoImplicit false
set_option maxRecDepth 100000
set_option maxHeartbeats 4000000
/-! ev: what an expression comes to, by its form -/
local macro_rules | `(tactic| k_places) => `(tactic| (repeat' (first
  | (with_reducible exact ev_c)
  | (with_reducible exact ev_var rfl)
  | (with_reducible refine ev_chainLL ?_ ?_ ?_)
  | (with_reducible refine ev_chainLt ?_ ?_ ?_)
  | (with_reducible refine ev_op ?_ ?_ ?_)
  | (with_reducible refine ev_neg ?_)
  | (with_reducible refine et_test ?_)
  | (with_reducible refine et_B ?_)
  | (with_reducible refine et_not ?_)
  | (with_reducible refine et_and ?_ (fun _ => ?_))
  | (with_reducible refine et_or ?_ (fun _ => ?_))
  | (with_reducible refine ev_andV ?_ (fun _ => ?_))
  | (with_reducible refine ev_orV ?_ (fun _ => ?_))
  | (with_reducible refine ev_notV ?_)
  | (with_reducible exact rv_addI)
  | (with_reducible exact rv_subI)
  | (with_reducible exact rv_lt)
  | (with_reducible exact rv_le)
  | (with_reducible exact rv_gt)
  | (with_reducible exact rv_ge)
  | (with_reducible exact rv_isB)
  | (with_reducible exact rv_isnB)
  | (with_reducible exact rv_isN)
  | (with_reducible exact rv_isnN)
  | (with_reducible exact rv_eqS rfl)
  | (with_reducible exact rv_neS rfl)
  | (with_reducible exact rv_inStr)
  | (with_reducible exact rv_ninStr)
  | (with_reducible exact rv_mod (by first | decide | omega | assumption))
  | (with_reducible exact rv_div (by first | decide | omega | assumption))
  | (with_reducible exact rv_pow (by decide))
  | (with_reducible refine ed_i ?_; done)
  | (with_reducible exact ea_nil)
  | (with_reducible refine ea_cons ?_ ?_)
  | (with_reducible exact eds_nil)
  | (with_reducible refine eds_cons ?_ ?_)
  | (with_reducible exact ed_dnew)
  | (with_reducible refine ed_lst ?_ (by simp only [List.length_cons, List.length_nil]; omega))
  | (with_reducible refine ed_tup ?_ (by simp only [List.length_cons, List.length_nil]; omega)))))
namespace Z
open PySem PySem.Spec PyProof.Rows L2 Evl NdefX LamX
/-! ### a def lends its cells to a callee -/
/-- N: the def's names, ns: those that stand in cells, cl: the cells -/
structure Lent (N ns : List Str) (cl : List (Str × Addr)) (σ : L2.St) (H H' : Hp) : Prop where
  out : ∀ b, (¬ ∃ y, cl.lookup y = some b) → H' b = H b
  was : ∀ y c, cl.lookup y = some c → H c = none
  inj : ∀ x y c, cl.lookup x = some c → cl.lookup y = some c → x = y
  all : Cells cl H'
  at_ : ∀ y ∈ ns, ∃ c, cl.lookup y = some c
  has : ∀ (i : Nat) (y : Str) (v : V) (c : Addr), N[i]? = some y → σ[i]? = some (some v) → y ∈ ns → cl.lookup y = some c → CellT H' c v
section
variable {N ns : List Str} {cl : List (Str × Addr)} {σ : L2.St} {H H' H2 : Hp}
theorem Lent.ex (L : Lent N ns cl σ H H') : Ex H H' := fun a o e => by
  rw [L.out a fun ⟨y, hy⟩ => by rw [L.was y a hy] at e; cases e]
  exact e
theorem Lent.free (L : Lent N ns cl σ H H') {b : Addr} (e : H' b = none) : H b = none := by
  rw [← L.out b fun ⟨y, hy⟩ => by obtain ⟨_, _, q, _⟩ := L.all y b hy; rw [e] at q; cases q]
  exact e
/-- what stood ahead of the loan and stands behind the call stands when the cells are hidden again -/
theorem Lent.hid (L : Lent N ns cl σ H H') {a : Addr} {o : HO} (h0 : (H a).isSome) (e : H2 a = some o) : hidC cl H2 a = some o := by
  rw [hidC_ne fun ⟨y, hy⟩ => by rw [L.was y a hy] at h0; cases h0]
  exact e
theorem Lent.caught {names : List (Str × NameKind)} {fr : List Str} {js : List Nat} (L : Lent N ns cl σ H H') (hf : ∀ y ∈ names, y.2 = .free → y.1 ∈ ns) (hfr : ∀ y ∈ fr, (y, NameKind.free) ∈ names) (hjs : js.map (fun j => N[j]?) = fr.map some) :
    Caught H' (cloFrom cl names []) fr (js.map (slotAt σ)) := by
  have hfree : ∀ y ∈ names, y.2 = .free → ∃ c, cl.lookup y.1 = some c := fun y hy e => L.at_ _ (hf y hy e)
  refine ⟨?_, fun y c e => L.all y c (clo_cm hfree e), fun x y c e1 e2 => L.inj x y c (clo_cm hfree e1) (clo_cm hfree e2), fun i y e => ?_⟩
  · have q := congrArg List.length hjs
    simpa using q
  · have hy := List.mem_of_getElem? e
    obtain ⟨c, hc⟩ := hfree _ (hfr y hy) rfl
    refine ⟨c, clo_has hfree (hfr y hy) hc, fun v hv => ?_⟩
    have e2 : (js.map fun j => N[j]?)[i]? = some (some y) := by rw [hjs, List.getElem?_map, e]; rfl
    rw [List.getElem?_map] at e2 hv
    cases ej : js[i]? with
    | none => rw [ej] at e2; cases e2
    | some j =>
      rw [ej] at e2 hv
      exact L.has j y v c (Option.some.inj e2) (slotAt_some (Option.some.inj hv)) (hf _ (hfr y hy) rfl) hc
end
section
variable {X : Cx} {pins : List (Addr × Obj)} {σ : L2.St} {H : Hp} {s : Shared} {ns : List Str}
def cellB (sc : Scope) (ns : List Str) : Bool := ns.all fun y => decide (sc.names.lookup y = some .cell)
open Classical in
theorem lend (J : Inv X pins σ H s) (hn : cellB X.env.scope ns = true) : ∃ H', Lent X.N ns X.env.cells σ H H' ∧ HOk X.prog X.w H' s.heap := by
  have kd : ∀ y ∈ ns, X.env.scope.names.lookup y = some .cell := fun y hy => by simpa using List.all_eq_true.mp hn y hy
  refine ⟨fun b => if ∃ y, X.env.cells.lookup y = some b then (s.heap.get? b).map fun o => .frz o (.own 0) else H b, ?_⟩
  have lay : ∀ b, (∃ y, X.env.cells.lookup y = some b) → ∃ o u, s.heap.get? b = some o ∧ o.data = .cell u ∧ (if ∃ y, X.env.cells.lookup y = some b then (s.heap.get? b).map fun o => HO.frz o (.own 0) else H b) = some (.frz o (.own 0)) := fun b z => by
    obtain ⟨y, hy⟩ := z
    obtain ⟨v, o, ho, hd⟩ := J.cell y b hy
    exact ⟨o, v, ho, hd, by rw [if_pos ⟨y, hy⟩, ho]; rfl⟩
  refine ⟨⟨fun b nb => if_neg nb, J.freeC, J.ok.inj, fun y c e => ?_, fun y hy => J.ok.has y (.inl (kd y hy)), fun i y v c hi hv hy hc => ?_⟩, fun b o e => ?_⟩
  · obtain ⟨o, u, _, hd, q⟩ := lay c ⟨y, e⟩
    exact ⟨o, u, q, hd⟩
  · obtain ⟨m, _, hl⟩ := J.loc
    obtain ⟨u, r, l⟩ := hl i y v hi hv (.inr (.inl (kd y hy)))
    obtain ⟨o, u', ho, hd, q⟩ := lay c ⟨y, hc⟩
    rcases l with ⟨z, _⟩ | ⟨_, c2, hc2, o2, ho2, hd2⟩
    · rw [show X.env.kindOf y = some .cell from kd y hy] at z
      cases z
    · rw [hc] at hc2
      cases hc2
      rw [ho] at ho2
      cases ho2
      exact ⟨o, u, q, hd2, r⟩
  · have nn : ∀ c x, H c = some x → ¬ ∃ y, X.env.cells.lookup y = some c := fun c x q ⟨y, hy⟩ => by rw [J.freeC y c hy] at q; cases q
    by_cases nb : ∃ y, X.env.cells.lookup y = some b
    · obtain ⟨ob, _, ho, _, q⟩ := lay b nb
      have e := q.symm.trans e
      cases e
      exact ⟨ho, ob, ho⟩
    · have e := (if_neg nb).symm.trans e
      exact (J.hok b o e).stay (fun _ _ _ q => q) (fun c q => (if_neg (nn c _ q)).trans q) fun c xs q => (if_neg (nn c _ q)).trans q
theorem lend_env (J : Inv X pins σ H s) {H' : Hp} (L : Lent X.N ns X.env.cells σ H H') (ok : HOk X.prog X.w H' s.heap) (hfn : ∀ x, X.fn x = true) : Env0 X.prog X.w X.K X.mg X.base X.A X.stack s H' := by
  have e := J.env0
  have up : ∀ b y, X.env.cells.lookup y = some b → X.s_0.heap.objs.size ≤ b := fun b y z => J.ok.cab y b (hfn y) z
  refine ⟨e.frames, e.mod, fun b o q => ⟨(e.bs b o q).1, ?_⟩, e.bsz, e.funs, fun b hb => ?_, ok, e.bare⟩
  · rw [L.out b fun ⟨y, hy⟩ => absurd (Nat.lt_of_lt_of_le (Heap.lt_size q) (Nat.le_trans J.ok.bsz (up b y hy))) (Nat.lt_irrefl _)]
    exact (e.bs b o q).2
  · rw [L.out b fun ⟨y, hy⟩ => ?_]
    · exact e.frf b hb
    · rcases List.mem_cons.mp (J.stkSub b hb) with z | z
      · exact J.cne y b hy z
      · obtain ⟨_, o, ho, _⟩ := J.ok.funs.mem z
        exact absurd (Nat.lt_of_lt_of_le (Heap.lt_size ho) (up b y hy)) (Nat.lt_irrefl _)
/-- the cells are the def's own again -/
theorem lend_back (J : Inv X pins σ H s) {H' H4 : Hp} {h' : Heap} {fs : List Addr} (L : Lent X.N ns X.env.cells σ H H') (ok : HOk X.prog X.w H' s.heap) (nf : ∀ b ∈ fs, H' b = none) (u : Un fs [] H' H4 s.heap h') (ok4 : HOk X.prog X.w H4 h') :
    Un fs [] H (hidC X.env.cells H4) s.heap h' ∧ HOk X.prog X.w (hidC X.env.cells H4) h' := by
  have C4 : Cells X.env.cells H4 := fun y c e => by
    obtain ⟨o, d, q, hd⟩ := L.all y c e
    exact ⟨o, d, u.frzs c o _ q, hd⟩
  have nt : ∀ b, H' b = none → ¬ ∃ y, X.env.cells.lookup y = some b := fun b n ⟨y, hy⟩ => by obtain ⟨_, _, q, _⟩ := L.all y b hy; rw [n] at q; cases q
  have nn : ∀ b x, H b = some x → ¬ ∃ y, X.env.cells.lookup y = some b := fun b x q ⟨y, hy⟩ => by rw [L.was y b hy] at q; cases q
  have cl : ∀ b, (∃ y, X.env.cells.lookup y = some b) → ∃ o, s.heap.get? b = some o ∧ h'.get? b = some o := fun b ⟨y, hy⟩ => by
    obtain ⟨o, d, q, _⟩ := L.all y b hy
    exact ⟨o, (ok b _ q).1, (ok4 b _ (u.frzs b o _ q)).1⟩
  refine ⟨⟨fun b o e n hb hx => ?_, fun b o e n hb hx => ?_, fun b o e n hx => ?_, u.there, fun b xs e => ?_, fun b o x e => ?_, fun b ps e => ?_⟩, HOk.hid ok4 C4⟩
  · by_cases nb : ∃ y, X.env.cells.lookup y = some b
    · obtain ⟨o', h1, h2⟩ := cl b nb
      rw [e] at h1
      cases h1
      exact h2
    · exact u.keep b o e ((L.out b nb).trans n) hb hx
  · exact u.slot b o e (nf b hb) hb hx
  · by_cases nb : ∃ y, X.env.cells.lookup y = some b
    · exact hidC_at nb
    · exact (hidC_ne nb).trans (u.free b o e ((L.out b nb).trans n) hx)
  · exact (hidC_ne (nn b _ e)).trans (u.tups b xs ((L.out b (nn b _ e)).trans e))
  · exact (hidC_ne (nn b _ e)).trans (u.frzs b o x ((L.out b (nn b _ e)).trans e))
  · obtain ⟨m, q⟩ := u.tbls b ps ((L.out b (nn b _ e)).trans e)
    exact ⟨m, (hidC_ne (nn b _ e)).trans q⟩
end
/-- a call to which the cells are lent: a def, a method -/
def tCallL (N ns : List Str) (cl : List (Str × Addr)) (sp : Sp) (t : TA) : TE := fun σ H Q => t σ H fun vs H1 => ∀ H2, Lent N ns cl σ H1 H2 → sp vs H2 (fun v H3 => Q v (hidC cl H3)) E0
def tMetL (C : Addr) (m : Str) (N ns : List Str) (cl : List (Str × Addr)) (sp : Sp) (ta : TE) (t : TA) : TE := fun σ H Q => ta σ H fun x H1 => ∃ a dx fs, x = .ref a ∧ H1 a = some (.ins C dx fs) ∧ fs.lookup m = none ∧
  t σ H1 fun vs H2 => ∀ H3, Lent N ns cl σ H2 H3 → sp (x :: vs) H3 (fun v H4 => Q v (hidC cl H4)) E0
section
variable {X : Cx} {k : Nat} {f C : Addr} {ps ns N : List Str} {sp : Sp} {x m : Str} {p pos apos : Pos} {e o : Expr} {es : List Expr} {t : TA} {ta : TE} {pl : Sem Bool} {cl : List (Str × Addr)}
theorem run_lend {pins : List (Addr × Obj)} {σ : L2.St} {H : Hp} {s : Shared} {Q : VK} {us : List Value} {vs : List V} {fd : FuncData} (F : FnOk X.prog X.w X.K X.mg X.base (L2.CX X.prog X.w) k f fd ps sp) (b : Binds X.K fd ps []) (hr : Room k X.A) (hfn : ∀ x, X.fn x = true) (hn : cellB X.env.scope ns = true)
    (J : Inv X pins σ H s) (r : Vals vs us) (h : ∀ H2, Lent X.N ns X.env.cells σ H H2 → sp vs H2 (fun v H3 => Q v (hidC X.env.cells H3)) E0) : wpAny (model X.prog X.w) X.A (call (.ref f) us) (EP X pins σ Q) X.xe s := by
  obtain ⟨H', L, ok⟩ := lend J hn
  have q := h H' L
  have e0 := lend_env J L ok hfn
  have hl : (us ++ []).length = ps.length := by rw [List.append_nil, ← r.length]; exact F.len _ _ _ _ q
  have bb := b s us J.kIn hl
  rw [List.append_nil] at bb
  refine wpAny_call (codeAny_mono (F.run X.A X.stack s H' ⟨us, []⟩ us vs _ E0 hr e0 bb r q) fun rr s' hq => ?_)
  cases rr with
  | error e =>
    obtain ⟨_, _, _, _, _, _, _, _, _, _, _, _, z⟩ := hq
    exact z.elim
  | ok fl =>
    cases fl with
    | ret u =>
      obtain ⟨v, H4, os, bare, un, ok4, rv, q4⟩ := hq
      obtain ⟨un2, ok2⟩ := lend_back J L ok e0.frf un ok4
      exact J.after ⟨v, _, os, bare, un2, ok2, rv, q4⟩
    | next => exact False.elim hq
    | brk => exact False.elim hq
    | cont => exact False.elim hq
theorem pe_calL (C : Cal X.prog X.w X.K X.mg X.base k x f ps sp) (hr : Room k X.A) (hN : X.N = N) (hcl : X.env.cells = cl) (hn : cellB X.env.scope ns = true) (hfn : ∀ x, X.fn x = true) (ha : PA X (e :: es) t) (hg : Gl X x := by rfl) (hdb : (x == ("__debug__" : Str)) = false := by decide)
    (he : starEach (e :: es) X.env = (false, eval e X.env) :: starEach es X.env := by rfl) (hpl : (backTo pos (starEach es X.env)).any (·.1) = false := by rfl) : PE X (.Call (.Name x p) (e :: es) [] pos) (tCallL N ns cl sp t) := by
  obtain ⟨fd, F, b⟩ := C.ex
  subst hN hcl
  refine ⟨fun pins s σ H Q J h => ?_⟩
  refine wpAny_Call_Name_kw (ld_glob J hg C.mg ?_ hdb)
  refine PySem.W.callWith_K (h₀ := X.base) J.ok.mod.kin C.kp (thn (ha.run pos pins s σ H _ J h) fun us s1 ⟨vs, H1, J1, r, q⟩ => ⟨J1.kIn, ?_⟩) he hpl
  exact run_lend F b hr hfn hn J1 r q
theorem pe_metL (M : Met X.prog X.w X.K X.mg X.base k C m f ps sp) (he : PE X o ta) (hr : Room k X.A) (hN : X.N = N) (hcl : X.env.cells = cl) (hn : cellB X.env.scope ns = true) (hfn : ∀ x, X.fn x = true) (ha : PA X (e :: es) t)
    (hst : starEach (e :: es) X.env = (false, eval e X.env) :: starEach es X.env := by rfl) (hpl : (backTo pos (starEach es X.env)).any (·.1) = false := by rfl)
    (ht : eval (.Call (.Attribute o m apos) (e :: es) [] pos) X.env = (do
      let ov ← eval o X.env
      standAt apos.atName
      let (f, first) ← holding [ov] (getMethod ov m pl)
      callWith pos f first (backTo pos (starEach (e :: es) X.env)) (backToKw pos (keywordEach [] X.env))) := by rfl) :
    PE X (.Call (.Attribute o m apos) (e :: es) [] pos) (tMetL C m N ns cl sp ta t) := by
  obtain ⟨fd, F, b⟩ := M.ex
  subst hN hcl
  refine ⟨fun pins s σ H Q J h => ?_⟩
  refine PySem.W.methodCall_KW (pl := pl) (thn (he.run pins s σ H _ J h) fun u s1 ⟨x, H1, J1, rx, a, dx, fs, ex, ea, l, q⟩ => ?_) ht
  subst ex
  obtain rfl : u = Value.ref a := rx
  refine getmeth_ok J1 ea M.cl M.mt l ?_
  refine PySem.W.callWith_K (first := [.ref a]) (h₀ := X.base) J1.ok.mod.kin M.mt.kp (thn (ha.run pos pins s1 σ H1 _ J1 q) fun us s2 ⟨vs, H2, J2, r, q2⟩ => ⟨J2.kIn, ?_⟩) hst hpl
  exact run_lend (us := .ref a :: us) (vs := .ref a :: vs) F b hr hfn hn J2 (.cons rfl r) q2
end
/-! ### a def that leaves its cells behind -/
abbrev RK := L2.St → V → Hp → Prop
/-- a body that ends by return: the slots are told at the end -/
structure PSr (X : Cx) (st : List Stmt) (t : RK → L2.St → Hp → Prop) : Prop where
  run : ∀ (pins : List (Addr × Obj)) (s : Shared) (σ : L2.St) (H : Hp) (R : RK), Inv X pins σ H s → t R σ H →
    wpAny (model X.prog X.w) X.A (execs st X.env) (fun fl s' => ∃ u v σ' H', fl = .ret u ∧ Inv X pins σ' H' s' ∧ L2.RelV v u ∧ R σ' v H') X.xe s
section
variable {X : Cx} {st : Stmt} {rest a : List Stmt} {t1 : TS} {t2 ta : RK → L2.St → Hp → Prop} {te : TE} {tc : TT} {e c : Expr} {pos : Pos}
def tSeqR (t1 : TS) (t2 : RK → L2.St → Hp → Prop) : RK → L2.St → Hp → Prop := fun R σ H => t1 { nx := t2 R, rt := fun _ _ => False } σ H
def tRetR (te : TE) : RK → L2.St → Hp → Prop := fun R σ H => te σ H fun v H' => R σ v H'
def tIfR (tc : TT) (ta t2 : RK → L2.St → Hp → Prop) : RK → L2.St → Hp → Prop := fun R σ H => tc σ H fun b H' => if b = true then ta R σ H' else t2 R σ H'
theorem psr_seq (h1 : PS X st t1) (h2 : PSr X rest t2) : PSr X (st :: rest) (tSeqR t1 t2) := by
  refine ⟨fun pins s σ H R J h => ?_⟩
  refine wpAny_execs_cons (thn (h1.run pins s σ H _ J h) fun f s1 q => ?_)
  cases f with
  | next =>
    obtain ⟨σ', H', J', q⟩ := q
    exact h2.run pins s1 σ' H' R J' q
  | ret v => obtain ⟨_, _, _, _, _, z⟩ := q; exact z.elim
  | brk => obtain ⟨_, _, _, z⟩ := q; exact z.elim
  | cont => obtain ⟨_, _, _, z⟩ := q; exact z.elim
theorem psr_ret (h : PE X e te) : PSr X [.Return (some e) pos] (tRetR te) := by
  refine ⟨fun pins s σ H R J q => ?_⟩
  refine wpAny_execs_cons (wpAny_Return_some (thn (h.run pins s σ H _ J q) fun u s1 ⟨v, H1, J1, r1, q1⟩ => ?_))
  exact ⟨u, v, σ, H1, rfl, J1, r1, q1⟩
theorem psr_if (hc : PT X c tc) (ha : PSr X a ta) (hr : PSr X rest t2) : PSr X (.If c a [] pos :: rest) (tIfR tc ta t2) := by
  refine ⟨fun pins s σ H R J q => ?_⟩
  refine wpAny_execs_cons (wpAny_If (thn (hc.run pins s σ H _ J q) fun d s1 ⟨H1, J1, q1⟩ => ?_))
  cases d with
  | true =>
    refine thn (ha.run pins s1 σ H1 R J1 q1) fun fl s2 ⟨u, v, σ', H', e1, z⟩ => ?_
    subst e1
    exact ⟨u, v, σ', H', rfl, z⟩
  | false => exact wpAny_execs_nil (hr.run pins s1 σ H1 R J1 q1)
end
section
variable {P : Program} {w : World} {K : PySem.W.Frag} {mg : Str → Option Value} {base : Heap} {x name qual : Str} {f c : Addr} {N ps ns : List Str} {k : Nat} {sp : Sp} {st : Stmt} {oc kV doc pm ct : Value} {od an : Option Addr} {osl : Array (Option Value)}
abbrev fdT (x qual : Str) (st : Stmt) (kV doc pm : Value) (an : Option Addr) (c : Addr) (ct : Value) : FuncData := PySem.W.fnOf x qual (defArgs st) (defBody st) (defScope st) .none kV doc pm an (.ref c) ct
abbrev clT (st : Stmt) (s : Shared) : List (Str × Addr) := cellsFrom (s.heap.objs.size + 1) (defScope st).names []
theorem fnT_of (lk : K.lookup f = some ⟨oc, od, .func (fdT x qual st kV doc pm an c ct), osl⟩) (hcd : PySem.W.codeIn K (.ref c) qual = true) (S : FnScope N ps (defScope st)) (len : ∀ vs H Q E, sp vs H Q E → vs.length = ps.length) (t : List (Str × Addr) → XK → TS)
    (d : ∀ (A : Around) (outer : List Env) (s : Shared) (H : Hp) (E : XK), Room k (A.deeper (envOfC qual (defScope st) s.heap.objs.size f (.ref c))) → PSs (cxOf (L2.CX P w) P w K mg base N qual (defScope st) f (.ref c) A outer s H E) (defBody st) (t (clT st s) E))
    (r : ∀ (cl : List (Str × Addr)) (vs : List V) (H : Hp) (Q : VK) (E : XK), sp vs H Q E → t cl E { nx := fun _ H' => Q .non H', rt := Q } (L2.start N vs) H) : FnOk P w K mg base (L2.CX P w) (k + 1) f (fdT x qual st kV doc pm an c ct) ps sp :=
  fn_of lk hcd S len fun A outer s H vs Q E hr h => ⟨t (clT st s) E, d A outer s H E hr, r _ vs H Q E h⟩
/-- .. that leaves its cells behind, told by the abstract heap from then on -/
theorem fnR_of (lk : K.lookup f = some ⟨oc, od, .func (fdT x qual st kV doc pm an c ct), osl⟩) (hcd : PySem.W.codeIn K (.ref c) qual = true) (S : FnScope N ps (defScope st)) (len : ∀ vs H Q E, sp vs H Q E → vs.length = ps.length) (hn : cellB (defScope st) ns = true) (t : List (Str × Addr) → XK → RK → L2.St → Hp → Prop)
    (d : ∀ (A : Around) (outer : List Env) (s : Shared) (H : Hp) (E : XK), Room k (A.deeper (envOfC qual (defScope st) s.heap.objs.size f (.ref c))) → PSr (cxOf (L2.CX P w) P w K mg base N qual (defScope st) f (.ref c) A outer s H E) (defBody st) (t (clT st s) E))
    (r : ∀ (cl : List (Str × Addr)) (vs : List V) (H : Hp) (Q : VK) (E : XK), sp vs H Q E → t cl E (fun σ' v H' => ∀ H2, Lent N ns cl σ' H' H2 → Q v H2) (L2.start N vs) H) : FnOk P w K mg base (L2.CX P w) (k + 1) f (fdT x qual st kV doc pm an c ct) ps sp := by
  refine ⟨len, fun A outer s H args us vs Q E hr e0 hb rv hsp => ?_⟩
  have hl := len _ _ _ _ hsp
  have KX : K.In s.heap := e0.mod.kin.keeps fun b o e => (e0.bs b o e).1
  have lim : s.heap.NoLimit := e0.mod.nolimit.keeps fun b o e => (e0.bs b o e).1
  have hkind : ∀ y ∈ ps.zip us, (defScope st).names.lookup y.1 = some .local ∨ ((defScope st).names.lookup y.1 = some .cell ∧ ((cellsFrom (s.heap.objs.size + 1) (defScope st).names []).lookup y.1).isSome = true) := fun ⟨n, v⟩ hy =>
    (S.par n (List.of_mem_zip hy).1).elim .inl fun q => .inr ⟨q, PySem.W.cellsFrom_some _ _ _ (.inl q)⟩
  refine codeAny_call_function hr.depth (KX _ _ lk) rfl S.co S.gen rfl (PySem.W.codeRec_of KX hcd) (hb _ _ _ _ ?_)
  refine wpAny_newFunctionEnv_cells S.kind hkind fun env he s1 x => ?_
  subst he
  refine ⟨lim.keeps x.toInCall.keep, codeAny_func ?_⟩
  have J : Inv (cxOf (L2.CX P w) P w K mg base N qual (defScope st) f (.ref c) A outer s H E) [] (L2.start N vs) H s1 := inv_start S hr.hd e0 hl rv x
  refine wpAny_mono ((d A outer s H E (hr.deeper _)).run [] s1 (L2.start N vs) H _ J (r _ vs H Q E hsp)) (fun fl s' hs => ?_) fun e s' hs => hs
  obtain ⟨u, v, σ', H', rfl, J', ru, q⟩ := hs
  obtain ⟨H2, L, ok⟩ := lend J' hn
  have old : ∀ b o, s.heap.get? b = some o → ¬ ∃ y, (cxOf (L2.CX P w) P w K mg base N qual (defScope st) f (.ref c) A outer s H E).env.cells.lookup y = some b := fun b o e ⟨y, hy⟩ => by
    have h1 := J'.ok.cab y b rfl hy
    exact absurd (Nat.lt_of_lt_of_le (Heap.lt_size e) h1) (Nat.lt_irrefl _)
  have nn : ∀ b x, H' b = some x → H2 b = some x := fun b x e => L.ex b x e
  have B := J'.base
  refine ⟨v, H2, J'.os, J'.bare, ⟨B.keep, B.slot, fun b o e n hx => (L.out b (old b o e)).trans (B.free b o e n hx), B.there, fun b xs e => nn b _ (B.tups b xs e), fun b o x e => nn b _ (B.frzs b o x e), fun b ps e => ?_⟩, ok, ru, q H2 L⟩
  obtain ⟨m, z⟩ := B.tbls b ps e
  exact ⟨m, nn b _ z⟩
theorem calT {g : FuncData} (F : FnOk P w K mg base (L2.CX P w) k f g ps sp) (hm : mg x = some (.ref f)) (kp : PySem.W.keepIn K (.ref f) = true) (hb : Binds K g ps []) : Cal P w K mg base k x f ps sp := ⟨⟨g, F, hb⟩, hm, kp⟩
theorem metT {g : FuncData} {C : Addr} (F : FnOk P w K mg base (L2.CX P w) k f g ps sp) (hm : Meth K C x f) (hc : Cls K C) (hb : Binds K g ps []) : Met P w K mg base k C x f ps sp := ⟨⟨g, F, hb⟩, hm, hc⟩
end
/-! ### a function of a class, called by the class's name; methods of one of several classes -/
structure CFn (P : Program) (w : World) (K : PySem.W.Frag) (mg : Str → Option Value) (base : Heap) (k : Nat) (C : Addr) (c m : Str) (f : Addr) (ps : List Str) (sp : Sp) : Prop where
  ex : ∃ fd, FnOk P w K mg base (L2.CX P w) k f fd ps sp ∧ Binds K fd ps []
  mg : mg c = some (.ref C)
  rd : PySem.W.readsIn K C (.type "type") = true
  fc : PySem.W.findCls K (.ref C) (.type "type") m = some (.val (.ref f))
  ga : PySem.W.specialIn K (.ref C) "__getattribute__" = some (some (.builtin "type.__getattribute__"))
  kp : PySem.W.keepIn K (.ref f) = true
def tMetD (L : List (Addr × Sp)) (m : Str) (E : L2.St → XK) (ta : TE) (t : TA) : TE := fun σ H Q => ta σ H fun x H1 => ∃ a C dx fs sp, x = .ref a ∧ (C, sp) ∈ L ∧ H1 a = some (.ins C dx fs) ∧ fs.lookup m = none ∧ t σ H1 fun vs H2 => sp (x :: vs) H2 Q (E σ)
def tMetLD (L : List (Addr × Sp)) (m : Str) (N ns : List Str) (cl : List (Str × Addr)) (ta : TE) (t : TA) : TE := fun σ H Q => ta σ H fun x H1 => ∃ a C dx fs sp, x = .ref a ∧ (C, sp) ∈ L ∧ H1 a = some (.ins C dx fs) ∧ fs.lookup m = none ∧
  t σ H1 fun vs H2 => ∀ H3, Lent N ns cl σ H2 H3 → sp (x :: vs) H3 (fun v H4 => Q v (hidC cl H4)) E0
section
variable {X : Cx} {W : WX} {k : Nat} {f C : Addr} {ps ns N : List Str} {sp : Sp} {x m : Str} {p pos apos : Pos} {e o : Expr} {es : List Expr} {t : TA} {ta : TE} {pl : Sem Bool} {cl : List (Str × Addr)} {L : List (Addr × Sp)}
theorem pe_clsF (M : CFn X.prog X.w X.K X.mg X.base k C x m f ps sp) (hr : Room k X.A) (tk : Takes X W) (ha : PA X (e :: es) t) (hg : Gl X x := by rfl) (hdb : (x == ("__debug__" : Str)) = false := by decide)
    (hst : starEach (e :: es) X.env = (false, eval e X.env) :: starEach es X.env := by rfl) (hpl : (backTo pos (starEach es X.env)).any (·.1) = false := by rfl)
    (ht : eval (.Call (.Attribute (.Name x p) m apos) (e :: es) [] pos) X.env = (do
      let ov ← eval (.Name x p) X.env
      standAt apos.atName
      let (f, first) ← holding [ov] (getMethod ov m pl)
      callWith pos f first (backTo pos (starEach (e :: es) X.env)) (backToKw pos (keywordEach [] X.env))) := by rfl) :
    PE X (.Call (.Attribute (.Name x p) m apos) (e :: es) [] pos) (tCallS sp (WE W) t) := by
  obtain ⟨fd, F, b⟩ := M.ex
  refine ⟨fun pins s σ H Q J h => ?_⟩
  refine PySem.W.methodCall_KW (pl := pl) (ld_glob J hg M.mg ?_ hdb) ht
  refine PySem.W.method_cls J.kIn M.ga (PySem.W.cls_value J.kIn M.rd M.fc rfl ?_)
  have J1 := J.tok (s.toks + 1)
  refine PySem.W.callWith_K (first := []) (h₀ := X.base) J.ok.mod.kin M.kp (thn (ha.run pos pins _ σ H _ J1 h) fun us s2 ⟨vs, H2, J2, r, q2⟩ => ⟨J2.kIn, ?_⟩) hst hpl
  exact run_fnS F hr b (passAt tk σ) J2 r q2
theorem pe_metDX {E : L2.St → XK} (M : ∀ C sp, (C, sp) ∈ L → ∃ f ps, Met X.prog X.w X.K X.mg X.base k C m f ps sp) (he : PE X o ta) (hr : Room k X.A) (hx : ∀ σ, PassesAt (L2.CX X.prog X.w) X σ (E σ)) (ha : PA X (e :: es) t)
    (hst : starEach (e :: es) X.env = (false, eval e X.env) :: starEach es X.env := by rfl) (hpl : (backTo pos (starEach es X.env)).any (·.1) = false := by rfl)
    (ht : eval (.Call (.Attribute o m apos) (e :: es) [] pos) X.env = (do
      let ov ← eval o X.env
      standAt apos.atName
      let (f, first) ← holding [ov] (getMethod ov m pl)
      callWith pos f first (backTo pos (starEach (e :: es) X.env)) (backToKw pos (keywordEach [] X.env))) := by rfl) :
    PE X (.Call (.Attribute o m apos) (e :: es) [] pos) (tMetD L m E ta t) := by
  refine ⟨fun pins s σ H Q J h => ?_⟩
  refine PySem.W.methodCall_KW (pl := pl) (thn (he.run pins s σ H _ J h) fun u s1 ⟨x, H1, J1, rx, a, C, dx, fs, sp, ex, mem, ea, l, q⟩ => ?_) ht
  subst ex
  obtain rfl : u = Value.ref a := rx
  obtain ⟨f, ps, M⟩ := M C sp mem
  obtain ⟨fd, F, b⟩ := M.ex
  refine getmeth_ok J1 ea M.cl M.mt l ?_
  refine PySem.W.callWith_K (first := [.ref a]) (h₀ := X.base) J1.ok.mod.kin M.mt.kp (thn (ha.run pos pins s1 σ H1 _ J1 q) fun us s2 ⟨vs, H2, J2, r, q2⟩ => ⟨J2.kIn, ?_⟩) hst hpl
  exact run_fnS (us := .ref a :: us) (vs := .ref a :: vs) F hr b (hx σ) J2 (.cons rfl r) q2
theorem pe_metD (M : ∀ C sp, (C, sp) ∈ L → ∃ f ps, Met X.prog X.w X.K X.mg X.base k C m f ps sp) (he : PE X o ta) (hr : Room k X.A) (tk : Takes X W) (ha : PA X (e :: es) t)
    (hst : starEach (e :: es) X.env = (false, eval e X.env) :: starEach es X.env := by rfl) (hpl : (backTo pos (starEach es X.env)).any (·.1) = false := by rfl)
    (ht : eval (.Call (.Attribute o m apos) (e :: es) [] pos) X.env = (do
      let ov ← eval o X.env
      standAt apos.atName
      let (f, first) ← holding [ov] (getMethod ov m pl)
      callWith pos f first (backTo pos (starEach (e :: es) X.env)) (backToKw pos (keywordEach [] X.env))) := by rfl) :
    PE X (.Call (.Attribute o m apos) (e :: es) [] pos) (tMetD L m (WE W) ta t) := pe_metDX M he hr (fun σ => passAt tk σ) ha hst hpl ht
theorem pe_metLD (M : ∀ C sp, (C, sp) ∈ L → ∃ f ps, Met X.prog X.w X.K X.mg X.base k C m f ps sp) (he : PE X o ta) (hr : Room k X.A) (hN : X.N = N) (hcl : X.env.cells = cl) (hn : cellB X.env.scope ns = true) (hfn : ∀ x, X.fn x = true) (ha : PA X (e :: es) t)
    (hst : starEach (e :: es) X.env = (false, eval e X.env) :: starEach es X.env := by rfl) (hpl : (backTo pos (starEach es X.env)).any (·.1) = false := by rfl)
    (ht : eval (.Call (.Attribute o m apos) (e :: es) [] pos) X.env = (do
      let ov ← eval o X.env
      standAt apos.atName
      let (f, first) ← holding [ov] (getMethod ov m pl)
      callWith pos f first (backTo pos (starEach (e :: es) X.env)) (backToKw pos (keywordEach [] X.env))) := by rfl) :
    PE X (.Call (.Attribute o m apos) (e :: es) [] pos) (tMetLD L m N ns cl ta t) := by
  subst hN hcl
  refine ⟨fun pins s σ H Q J h => ?_⟩
  refine PySem.W.methodCall_KW (pl := pl) (thn (he.run pins s σ H _ J h) fun u s1 ⟨x, H1, J1, rx, a, C, dx, fs, sp, ex, mem, ea, l, q⟩ => ?_) ht
  subst ex
  obtain rfl : u = Value.ref a := rx
  obtain ⟨f, ps, M⟩ := M C sp mem
  obtain ⟨fd, F, b⟩ := M.ex
  refine getmeth_ok J1 ea M.cl M.mt l ?_
  refine PySem.W.callWith_K (first := [.ref a]) (h₀ := X.base) J1.ok.mod.kin M.mt.kp (thn (ha.run pos pins s1 σ H1 _ J1 q) fun us s2 ⟨vs, H2, J2, r, q2⟩ => ⟨J2.kIn, ?_⟩) hst hpl
  exact run_lend (us := .ref a :: us) (vs := .ref a :: vs) F b hr hfn hn J2 (.cons rfl r) q2
end
/-! ### a lambda of the text: what its making gives -/
def noE : Expr := .Constant .none 0 ⟨0, 0, 0, 0⟩
def noSt : Stmt := .Pass ⟨0, 0, 0, 0⟩
def stX : Stmt → Expr
  | .Assign _ v _ => v
  | .Return (some v) _ => v
  | .Expr v _ => v
  | .If c _ _ _ => c
  | .While c _ _ _ => c
  | .For _ i _ _ _ => i
  | _ => noE
def stB : Stmt → Nat → Stmt
  | .FunctionDef _ _ b _ _ _ _ _ _ _, i => b.getD i noSt
  | .If _ b _ _, i => b.getD i noSt
  | .While _ b _ _, i => b.getD i noSt
  | .For _ _ b _ _, i => b.getD i noSt
  | _, _ => noSt
def stE : Stmt → Nat → Stmt
  | .If _ _ b _, i => b.getD i noSt
  | _, _ => noSt
def exC : Expr → Nat → Expr
  | .Call f _ _ _, 0 => f
  | .Call _ as _ _, i + 1 => as.getD i noE
  | .List es _, i => es.getD i noE
  | .Tuple es _ _, i => es.getD i noE
  | .IfExp c _ _ _, 0 => c
  | .IfExp _ a _ _, 1 => a
  | .IfExp _ _ b _, _ => b
  | .Dict _ vs _, i => vs.getD i noE
  | .Subscript a _ _, 0 => a
  | .Subscript _ b _, _ => b
  | _, _ => noE
def lamP : Expr → Arguments
  | .Lambda a _ _ _ => a
  | _ => { posonlyargs := [], args := [], vararg := none, kwonlyargs := [], kw_defaults := [], kwarg := none, defaults := [] }
def lamB : Expr → Expr
  | .Lambda _ b _ _ => b
  | _ => noE
def lamS : Expr → Scope
  | .Lambda _ _ sc _ => sc
  | _ => { kind := .function, names := [], isGenerator := false, isCoroutine := false }
abbrev lamF (qual : Str) (e : Expr) (cl : List (Str × Addr)) (c : Addr) : LF := ⟨qual ++ ".<locals>." ++ "<lambda>", lamP e, lamB e, lamS e, cloFrom cl (lamS e).names [], c⟩
structure LamI (CA : Hp → Addr → Sp → Prop) (mk : List (Str × Addr) → Addr → LF) (nm : List (Str × NameKind)) (fr : List Str) (spl : List (Option V) → Sp) : Prop where
  cl : ∀ cl c, (mk cl c).cl = cloFrom cl nm [] ∧ (mk cl c).c = c
  sub : ∀ y ∈ nm, y.2 = .free → y.1 ∈ fr
  frk : ∀ y ∈ fr, (y, NameKind.free) ∈ nm
  ca : ∀ cl c f H ws sp, H f = some (FnL f (mk cl c)) → H c = some (CodeO c (mk cl c).qual) → Caught H (cloFrom cl nm []) fr ws →
    (∀ vs H' Q, Kp H H' → sp vs H' Q E0 → spl ws vs (hidC (cloFrom cl nm []) H') (fun v H2 => (∀ y c, (cloFrom cl nm []).lookup y = some c → H2 c = none) → Q v (shwC (cloFrom cl nm []) H' H2)) E0) → CA H f sp
/-- what may be called stays so -/
def CAst (CA : Hp → Addr → Sp → Prop) : Prop := ∀ H H' f sp, CA H f sp → Kp H H' → CA H' f sp
theorem clo_st {P : Program} {w : World} {K : PySem.W.Frag} {mg : Str → Option Value} {base : Heap} {k : Nat} : CAst (CloAt P w K mg base k) := fun _ _ _ _ c e => c.kp e
def tabOf (K : PySem.W.Frag) (c : Addr) : Option Addr := match K.lookup c with
  | some ⟨_, _, .fields vs, _⟩ => (match (vs[11]? : Option Value) with | some (.ref P) => some P | _ => none)
  | _ => none
end Z

set_option Elab.async false
set_option linter.all false
set_option autoImplicit false
set_option maxRecDepth 100000
set_option maxHeartbeats 4000000
/-! ev: what an expression comes to, by its form -/
local macro_rules | `(tactic| k_places) => `(tactic| (repeat' (first
  | (with_reducible exact ev_c)
  | (with_reducible exact ev_var rfl)
  | (with_reducible refine ev_chainLL ?_ ?_ ?_)
  | (with_reducible refine ev_chainLt ?_ ?_ ?_)
  | (with_reducible refine ev_op ?_ ?_ ?_)
  | (with_reducible refine ev_neg ?_)
  | (with_reducible refine et_test ?_)
  | (with_reducible refine et_B ?_)
  | (with_reducible refine et_not ?_)
  | (with_reducible refine et_and ?_ (fun _ => ?_))
  | (with_reducible refine et_or ?_ (fun _ => ?_))
  | (with_reducible refine ev_andV ?_ (fun _ => ?_))
  | (with_reducible refine ev_orV ?_ (fun _ => ?_))
  | (with_reducible refine ev_notV ?_)
  | (with_reducible exact rv_addI)
  | (with_reducible exact rv_subI)
  | (with_reducible exact rv_lt)
  | (with_reducible exact rv_le)
  | (with_reducible exact rv_gt)
  | (with_reducible exact rv_ge)
  | (with_reducible exact rv_isB)
  | (with_reducible exact rv_isnB)
  | (with_reducible exact rv_isN)
  | (with_reducible exact rv_isnN)
  | (with_reducible exact rv_eqS rfl)
  | (with_reducible exact rv_neS rfl)
  | (with_reducible exact rv_inStr)
  | (with_reducible exact rv_ninStr)
  | (with_reducible exact rv_mod (by first | decide | omega | assumption))
  | (with_reducible exact rv_div (by first | decide | omega | assumption))
  | (with_reducible exact rv_pow (by decide))
  | (with_reducible refine ed_i ?_; done)
  | (with_reducible exact ea_nil)
  | (with_reducible refine ea_cons ?_ ?_)
  | (with_reducible exact eds_nil)
  | (with_reducible refine eds_cons ?_ ?_)
  | (with_reducible exact ed_dnew)
  | (with_reducible refine ed_lst ?_ (by simp only [List.length_cons, List.length_nil]; omega))
  | (with_reducible refine ed_tup ?_ (by simp only [List.length_cons, List.length_nil]; omega)))))
namespace Z
open PySem PySem.Spec PyProof.Rows L2 Evl NdefX LamX
/-! ### what a call may change -/
def Imm : HO → Prop
  | .tup _ => True
  | .ext _ => True
  | .frz _ _ => True
  | _ => False
/-- what never changes is there still -/
def Imk (H H' : Hp) : Prop := ∀ a o, H a = some o → Imm o → H' a = some o
theorem Imk.tup {H H' : Hp} (e : Imk H H') : Tup H H' := fun b xs q => e b _ q True.intro
theorem Imk.kp {H H' : Hp} (e : Imk H H') : Kp H H' := fun a o q f => e a o q (by cases o <;> first | exact True.intro | exact f.elim)
theorem Imk.of {H H' : Hp} (e : Ex H H') : Imk H H' := fun a o q _ => e a o q
theorem Imk.trans {H H1 H2 : Hp} (a : Imk H H1) (b : Imk H1 H2) : Imk H H2 := fun x o q i => b x o (a x o q i) i
/-- T: the tables of lambdas; F: what may be changed -/
structure XB (T : List (Addr × Str)) (F : List Addr) (H H' : Hp) : Prop where
  k : ∀ a o, H a = some o → a ∉ F → (∀ ps, o ≠ .tbl ps) → H' a = some o
  i : Imk H H'
  n : ∀ a, H' a = none → H a = none
  t : Tabs T H → Tabs T H'
/-- F' is F behind it: what is new in it was not there -/
structure Step (T : List (Addr × Str)) (F : List Addr) (H : Hp) (F' : List Addr) (H' : Hp) : Prop where
  x : XB T F H H'
  f : ∀ a ∈ F', a ∈ F ∨ H a = none
section
variable {T : List (Addr × Str)} {F F1 F2 : List Addr} {H H1 H2 : Hp}
theorem XB.of (e : Ex H H1) : XB T F H H1 := ⟨fun a o q _ _ => e a o q, .of e, fun a q => fresh_back e q, fun t => t.ext fun b o q => e b o q⟩
theorem XB.ofT (e : ExT T H H1) : XB T F H H1 := ⟨fun a o q _ n => e.e a o q n, fun a o q i => e.e a o q fun ps z => by rw [z] at i; exact i, e.n, fun _ => e.t⟩
theorem XB.trans (a : XB T F H H1) (b : XB T F H1 H2) : XB T F H H2 := ⟨fun x o q n t => b.k x o (a.k x o q n t) n t, a.i.trans b.i, fun x q => a.n x (b.n x q), fun t => b.t (a.t t)⟩
theorem XB.mono (a : XB T F H H1) (h : ∀ x ∈ F, x ∈ F1) : XB T F1 H H1 := ⟨fun x o q n t => a.k x o q (fun z => n (h x z)) t, a.i, a.n, a.t⟩
theorem Step.refl : Step T F H F H := ⟨.of (Ex.refl H), fun _ h => .inl h⟩
theorem Step.of (e : Ex H H1) : Step T F H F H1 := ⟨.of e, fun _ h => .inl h⟩
theorem Step.trans (a : Step T F H F1 H1) (b : Step T F1 H1 F2 H2) : Step T F H F2 H2 := by
  refine ⟨⟨fun x o q n t => b.x.k x o (a.x.k x o q n t) (fun z => ?_) t, a.x.i.trans b.x.i, fun x q => a.x.n x (b.x.n x q), fun t => b.x.t (a.x.t t)⟩, fun x h => ?_⟩
  · rcases a.f x z with z | z
    · exact n z
    · rw [q] at z; cases z
  · rcases b.f x h with z | z
    · exact a.f x z
    · exact .inr (a.x.n x z)
/-- a list or dict of one's own, written -/
theorem XB.upd {p : Addr} {o u : HO} (h : H p = some o) (hi : ¬ Imm o) (ht : ∀ ps, o ≠ .tbl ps) (hp : p ∈ F) : XB T F H (L2.upd H p u) := by
  refine ⟨fun a o q n _ => (upd_ne fun z => n (by rw [z]; exact hp)).trans q, fun a o' q i => (upd_ne fun z => ?_).trans q, fun a q => upd_no q, fun t => ?_⟩
  · rw [z, h] at q
    cases q
    exact hi i
  · intro x hx
    obtain ⟨ps, a1, a2, a3⟩ := t x hx
    refine ⟨ps, (upd_ne fun z => ?_).trans a1, a2, fun pos cv hc => ?_⟩
    · rw [z, h] at a1
      exact ht _ (Option.some.inj a1)
    · obtain ⟨c, e1, e2⟩ := a3 pos cv hc
      refine ⟨c, e1, (upd_ne fun z => ?_).trans e2⟩
      rw [z, h] at e2
      refine hi ?_
      rw [Option.some.inj e2]
      exact True.intro
theorem Imk.upd {p : Addr} {o u : HO} (h : H p = some o) (hi : ¬ Imm o) : Imk H (L2.upd H p u) := fun a o' q i => (upd_ne fun z => by rw [z, h] at q; cases q; exact hi i).trans q
/-- .. that was not there at the outset -/
theorem XB.updN {p : Addr} {o u : HO} (a : XB T F H H1) (h0 : H p = none) (h : H1 p = some o) (hi : ¬ Imm o) (ht : ∀ ps, o ≠ .tbl ps) : XB T F H (L2.upd H1 p u) :=
  ⟨fun x o q n t => (upd_ne (ne_of_none q h0)).trans (a.k x o q n t), a.i.trans (.upd h hi), fun x q => a.n x (upd_no q), fun t => (XB.upd (F := [p]) h hi ht (List.mem_singleton.mpr rfl)).t (a.t t)⟩
theorem Step.updN {p : Addr} {o u : HO} (a : Step T F H F1 H1) (h0 : H p = none) (h : H1 p = some o) (hi : ¬ Imm o) (ht : ∀ ps, o ≠ .tbl ps) : Step T F H F1 (L2.upd H1 p u) := ⟨a.x.updN h0 h hi ht, a.f⟩
/-- cells hidden ahead of a call and shown behind -/
theorem XB.shw {cl : List (Str × Addr)} (C : Cells cl H) (h0 : ∀ y c, cl.lookup y = some c → H1 c = none) (x : XB T F (hidC cl H) H1) : XB T F H (shwC cl H H1) := by
  have nn : ∀ a o, H1 a = some o → shwC cl H H1 a = some o := fun a o e => (shwC_ne fun ⟨y, hy⟩ => by rw [h0 y a hy] at e; cases e).trans e
  have nt : ∀ a o, H a = some o → (∀ ob u, o ≠ .frz ob u) → hidC cl H a = some o := fun a o q n => (hidC_ne (C.no q n)).trans q
  refine ⟨fun a o q n t => ?_, fun a o q i => ?_, fun a q => ?_, fun t p hp => ?_⟩
  · by_cases z : ∃ y, cl.lookup y = some a
    · exact (shwC_at z).trans q
    · exact nn a o (x.k a o ((hidC_ne z).trans q) n t)
  · by_cases z : ∃ y, cl.lookup y = some a
    · exact (shwC_at z).trans q
    · exact nn a o (x.i a o ((hidC_ne z).trans q) i)
  · by_cases z : ∃ y, cl.lookup y = some a
    · exact (shwC_at z).symm.trans q
    · exact (hidC_ne z).symm.trans (x.n a ((shwC_ne z).symm.trans q))
  · obtain ⟨ps, a1, a2, a3⟩ := x.t (fun p hp => by
      obtain ⟨ps, a1, a2, a3⟩ := t p hp
      refine ⟨ps, nt _ _ a1 fun _ _ z => (by cases z), a2, fun pos cv hc => ?_⟩
      obtain ⟨c, e1, e2⟩ := a3 pos cv hc
      exact ⟨c, e1, nt _ _ e2 fun _ _ z => codeO_frz _ _ z⟩) p hp
    refine ⟨ps, nn _ _ a1, a2, fun pos cv hc => ?_⟩
    obtain ⟨c, e1, e2⟩ := a3 pos cv hc
    exact ⟨c, e1, nn _ _ e2⟩
/-- cells lent to a call -/
theorem XB.lent {N ns : List Str} {cl : List (Str × Addr)} {σ : L2.St} (L : Lent N ns cl σ H H1) (x : XB T F H1 H2) : XB T F H (hidC cl H2) := by
  have nn : ∀ a o, H a = some o → ∀ u, H2 a = some u → hidC cl H2 a = some u := fun a o q u e => L.hid (by rw [q]; rfl) e
  refine ⟨fun a o q n t => nn a o q o (x.k a o (L.ex a o q) n t), fun a o q i => nn a o q o (x.i a o (L.ex a o q) i), fun a q => ?_, fun t p hp => ?_⟩
  · by_cases z : ∃ y, cl.lookup y = some a
    · obtain ⟨y, hy⟩ := z
      exact L.was y a hy
    · exact L.free (x.n a ((hidC_ne z).symm.trans q))
  · have nc : ∀ a u, H2 a = some u → (∀ ob v, u ≠ .frz ob v) → hidC cl H2 a = some u := fun a u e n => (hidC_ne fun ⟨y, hy⟩ => by
      obtain ⟨o, d, q, _⟩ := L.all y a hy
      rw [x.i a _ q True.intro] at e
      exact n _ _ (Option.some.inj e).symm).trans e
    obtain ⟨ps, a1, a2, a3⟩ := x.t (t.ext fun b o e => L.ex b o e) p hp
    refine ⟨ps, nc _ _ a1 fun _ _ z => (by cases z), a2, fun pos cv hc => ?_⟩
    obtain ⟨c, e1, e2⟩ := a3 pos cv hc
    exact ⟨c, e1, nc _ _ e2 fun _ _ z => codeO_frz _ _ z⟩
end
/-! ### values, spots, what is told at them -/
/-- a value: a number, a fault's word -/
abbrev Val := Sum Int Str
def dV : Val → PyData
  | .inl i => .int i
  | .inr w => .tuple [.str "fault", .str w]
def okV : Val → Prop
  | .inl i => -(10 ^ 60) < i ∧ i < 10 ^ 60
  | .inr w => isName w = true
theorem okV.val {x : Val} (h : okV x) : isValueD (dV x) = true := by
  cases x with
  | inl i => exact val_int h
  | inr w => exact val_flt h
def isFltV : Val → Bool
  | .inl _ => false
  | .inr _ => true
theorem okV.flt {x : Val} (h : okV x) : isFaultD (dV x) = isFltV x := by
  cases x with
  | inl i => rfl
  | inr w =>
    have h : isName w = true := h
    show (decide ((("fault" : Str)) = ("fault" : Str)) && isName w) = true
    rw [h]
    rfl
theorem eqv_dV {x y : Val} (hx : okV x) (hy : okV y) : PyData.eqv (dV x) (dV y) = decide (x = y) := by
  cases x with
  | inl i =>
    cases y with
    | inl j =>
      show decide (i = j) = _
      exact decide_eq_decide.mpr ⟨fun e => by rw [e], fun e => Sum.inl.inj e⟩
    | inr v => exact (decide_eq_false (fun z => nomatch z)).symm
  | inr w =>
    cases y with
    | inl j => exact (decide_eq_false (fun z => nomatch z)).symm
    | inr v =>
      show (decide ((("fault" : Str)) = ("fault" : Str)) && (decide (w = v) && true)) = _
      rw [Bool.and_true]
      show (true && decide (w = v)) = _
      rw [Bool.true_and]
      exact decide_eq_decide.mpr ⟨fun e => by rw [e], fun e => Sum.inr.inj e⟩
abbrev Spot := Str × Str × Int
def dSp (s : Spot) : PyData := .tuple [.str s.1, .str s.2.1, .int s.2.2]
def AtS (H : Hp) (v : V) (s : Spot) : Prop := ∃ a, v = .ref a ∧ H a = some (.tup [.str s.1, .str s.2.1, .int s.2.2])
/-- a list's items: spots -/
def AtSs (H : Hp) (vs : List V) (ss : List Spot) : Prop := vs.length = ss.length ∧ ∀ (i : Nat) (s : Spot), ss[i]? = some s → ∃ v, vs[i]? = some v ∧ AtS H v s
theorem AtS.tup {H H' : Hp} {v : V} {s : Spot} (e : Tup H H') (h : AtS H v s) : AtS H' v s := let ⟨a, e1, e2⟩ := h; ⟨a, e1, e a _ e2⟩
theorem AtSs.tup {H H' : Hp} {vs : List V} {ss : List Spot} (e : Tup H H') (h : AtSs H vs ss) : AtSs H' vs ss := ⟨h.1, fun i s q => let ⟨v, a, b⟩ := h.2 i s q; ⟨v, a, b.tup e⟩⟩
theorem AtSs.snoc {H : Hp} {vs : List V} {ss : List Spot} {v : V} {s : Spot} (h : AtSs H vs ss) (k : AtS H v s) : AtSs H (vs ++ [v]) (ss ++ [s]) := by
  refine ⟨by simp [h.1], fun i t q => ?_⟩
  by_cases hi : i < ss.length
  · rw [List.getElem?_append_left hi] at q
    obtain ⟨w, a, b⟩ := h.2 i t q
    exact ⟨w, (List.getElem?_append_left (by rw [h.1]; exact hi)).trans a, b⟩
  · rw [List.getElem?_append_right (by omega)] at q
    have e : i = ss.length := by
      have := (List.getElem?_eq_some_iff.mp q).1
      simp at this
      omega
    subst e
    rw [Nat.sub_self] at q
    cases q
    exact ⟨v, by rw [← h.1, List.getElem?_append_right (Nat.le_refl _), Nat.sub_self]; rfl, k⟩
theorem AtSs.at {H : Hp} {vs : List V} {ss : List Spot} {i : Nat} {v : V} (h : AtSs H vs ss) (q : vs[i]? = some v) : ∃ s, ss[i]? = some s ∧ AtS H v s := by
  have hi : i < ss.length := by rw [← h.1]; exact (List.getElem?_eq_some_iff.mp q).1
  obtain ⟨s, hs⟩ : ∃ s, ss[i]? = some s := ⟨_, List.getElem?_eq_getElem hi⟩
  obtain ⟨w, a, b⟩ := h.2 i s hs
  rw [q] at a
  cases a
  exact ⟨s, hs, b⟩
/-- what is told of a cell; where one has looked so far -/
structure Ask (T : List (Addr × Str)) (Rv : List Addr) (J : List Addr → List Spot → Hp → Prop) (W : Spot → Val) (Dom : Spot → Prop) : Prop where
  st : ∀ F l H H', J F l H → (∀ a, a ∈ F ∨ a ∈ Rv → ∀ o, H a = some o → H' a = some o) → Imk H H' → (Tabs T H → Tabs T H') → J F l H'
  rv : ∀ F l H a, J F l H → a ∈ Rv → ∃ o, H a = some o
  th : ∀ F l H a, J F l H → a ∈ F → ∃ o, H a = some o ∧ ¬ Imm o ∧ ∀ ps, o ≠ .tbl ps
  ok : ∀ s, Dom s → okV (W s)
section
variable {T : List (Addr × Str)} {Rv : List Addr} {J : List Addr → List Spot → Hp → Prop} {W : Spot → Val} {Dom : Spot → Prop} {F : List Addr} {l : List Spot} {H H' : Hp}
theorem Ask.ex (K : Ask T Rv J W Dom) (j : J F l H) (e : Ex H H') : J F l H' := K.st F l H H' j (fun a _ o q => e a o q) (.of e) fun t => t.ext fun b o q => e b o q
theorem Ask.offR (K : Ask T Rv J W Dom) (j : J F l H) {p : Addr} (h : H p = none) : p ∉ Rv := fun z => by
  obtain ⟨o, q⟩ := K.rv F l H p j z
  rw [h] at q
  cases q
theorem Ask.off (K : Ask T Rv J W Dom) (j : J F l H) {p : Addr} (h : H p = none) : p ∉ F := fun z => by
  obtain ⟨o, q, _⟩ := K.th F l H p j z
  rw [h] at q
  cases q
theorem Ask.upd (K : Ask T Rv J W Dom) (j : J F l H) {p : Addr} {o u : HO} (hp : p ∉ F) (hr : p ∉ Rv) (h : H p = some o) (hi : ¬ Imm o) (ht : ∀ ps, o ≠ .tbl ps) : J F l (L2.upd H p u) :=
  K.st F l _ _ j (fun a ha o q => (upd_ne fun z => ha.elim (fun ha => hp (by rw [← z]; exact ha)) fun ha => hr (by rw [← z]; exact ha)).trans q) (.upd h hi) (XB.upd (F := [p]) h hi ht (List.mem_singleton.mpr rfl)).t
theorem Step.off {F' : List Addr} {p : Addr} {o : HO} (hp : p ∉ F) (h : H p = some o) (s : Step T F H F' H') : p ∉ F' := fun z => (s.f p z).elim hp fun q => by rw [h] at q; cases q
end
def spLook (T : List (Addr × Str)) (J : List Addr → List Spot → Hp → Prop) (W : Spot → Val) (Dom : Spot → Prop) : Sp := fun vs H Q _ => ∃ (s : Spot) (F : List Addr) (l : List Spot), vs = [.str s.1, .str s.2.1, .int s.2.2] ∧ Dom s ∧ l.length < 1000 ∧ J F l H ∧
  ∀ v F' H', Step T F H F' H' → Vt H' v (dV (W s)) → J F' (l ++ [s]) H' → Q v H'
def spMany (J : List Addr → List Spot → Hp → Prop) (R : Str → Nat) (Tm : Str → Prop) : Sp := fun vs H Q _ => ∃ (t : Str) (F : List Addr) (l : List Spot), vs = [.str t] ∧ Tm t ∧ J F l H ∧ RetV (.int (R t)) H Q
/-- what gathering tells: a value, or a list for a call -/
inductive Res where
  | val (x : Val)
  | call (is : List Int)
def Got (H H' : Hp) (v : V) : Res → Prop
  | .val x => ∃ a u, v = .ref a ∧ H' a = some (.tup [.str "value", u]) ∧ Vt H' u (dV x)
  | .call is => ∃ a p, v = .ref a ∧ H' a = some (.tup [.str "call", .ref p]) ∧ H' p = some (.lst (is.map V.int)) ∧ H p = none
def turn (W : Spot → Val) : List Spot → Res × List Spot
  | [] => (.call [], [])
  | s :: r => match W s with
    | .inr w => (.val (.inr w), [s])
    | .inl i => match turn W r with
      | (.call is, l) => (.call (i :: is), s :: l)
      | (.val x, l) => (.val x, s :: l)
theorem turn_pre {W : Spot → Val} {r : List Spot} : ∀ {pre : List Spot} {is : List Int}, pre.map W = is.map Sum.inl → turn W (pre ++ r) = ((match (turn W r).1 with | .call js => .call (is ++ js) | .val x => .val x), pre ++ (turn W r).2)
  | [], [], _ => by cases h : turn W r with | mk a b => cases a <;> simp [h]
  | [], _ :: _, h => by cases h
  | _ :: _, [], h => by cases h
  | s :: pre, i :: is, h => by
    rw [List.map_cons, List.map_cons] at h
    injection h with h1 h2
    rw [List.cons_append, turn, h1]
    dsimp only
    rw [turn_pre h2]
    cases h : turn W r with
    | mk a b => cases a <;> simp
theorem turn_len {W : Spot → Val} : ∀ ss : List Spot, (turn W ss).2.length ≤ ss.length
  | [] => Nat.le_refl _
  | s :: r => by
    rw [turn]
    cases h : W s with
    | inr w => simp
    | inl i =>
      have := turn_len (W := W) r
      cases q : turn W r with
      | mk a b =>
        rw [q] at this
        cases a <;> simpa using this
theorem turn_all {W : Spot → Val} {ss : List Spot} {is : List Int} (h : ss.map W = is.map Sum.inl) : turn W ss = (.call is, ss) := by
  have := turn_pre (r := []) h
  rw [List.append_nil] at this
  rw [this]
  simp [turn]
theorem turn_flt {W : Spot → Val} {ss : List Spot} {k : Nat} {s : Spot} {w : Str} {is : List Int} (h : (ss.take k).map W = is.map Sum.inl) (hs : ss[k]? = some s) (hw : W s = .inr w) : turn W ss = (.val (.inr w), ss.take k ++ [s]) := by
  obtain ⟨hk, e⟩ := List.getElem?_eq_some_iff.mp hs
  have q : ss = ss.take k ++ (s :: ss.drop (k + 1)) := by
    rw [← e, List.getElem_cons_drop, List.take_append_drop]
  have := turn_pre (W := W) (r := s :: ss.drop (k + 1)) h
  rw [← q] at this
  rw [this, turn, hw]
/-! ### readings of calls by names -/
section
variable {K : PySem.W.Frag} {CA : Hp → Addr → Sp → Prop} {σ : L2.St} {H : Hp} {D : Ends} {tz : TS} {T : List (Addr × Str)} {Rv : List Addr} {J : List Addr → List Spot → Hp → Prop} {W : Spot → Val} {Dom : Spot → Prop} {i : Nat} {f : Addr} {F : List Addr} {l : List Spot} {s : Spot} {tas : TA}
/-- a look -/
theorem x_lookC {Q : VK} (hc : CAst CA) (A : Ask T Rv J W Dom) (hv : σ[i]? = some (some (.ref f))) (c : CA H f (spLook T J W Dom)) (h : EvA tas σ H [.str s.1, .str s.2.1, .int s.2.2]) (hd : Dom s) (hl : l.length < 1000) (j : J F l H)
    (k : ∀ v F' H', Step T F H F' H' → Vt H' v (dV (W s)) → J F' (l ++ [s]) H' → Q v H') : tCallC CA i tas σ H Q :=
  ⟨f, _, hv, c, h H (Ex.refl H) _ fun H1 e1 => ⟨hc _ _ _ _ c (.of e1), s, F, l, rfl, hd, hl, A.ex j e1, fun v F' H' st r jj => k v F' H' ((Step.of e1).trans st) r jj⟩⟩
theorem q_lookC {i2 : Nat} (hc : CAst CA) (A : Ask T Rv J W Dom) (hv : σ[i]? = some (some (.ref f))) (c : CA H f (spLook T J W Dom)) (h : EvA tas σ H [.str s.1, .str s.2.1, .int s.2.2]) (hd : Dom s) (hl : l.length < 1000) (j : J F l H)
    (k : ∀ v F' H', Step T F H F' H' → Vt H' v (dV (W s)) → J F' (l ++ [s]) H' → tz D (σ.set i2 (some v)) H') : tSeq (tAsg (tCallC CA i tas) (gName i2)) tz D σ H :=
  x_lookC (Q := fun v H' => tz D (σ.set i2 (some v)) H') hc A hv c h hd hl j k
theorem ev_manyC {R : Str → Nat} {Tm : Str → Prop} {t : Str} (hc : CAst CA) (A : Ask T Rv J W Dom) (hv : σ[i]? = some (some (.ref f))) (c : CA H f (spMany J R Tm)) (h : EvA tas σ H [.str t]) (ht : Tm t) (j : J F l H) : Ev (tCallC CA i tas) σ H (.int (R t)) := fun H1 e Q q =>
  ⟨f, _, hv, hc _ _ _ _ c (.of e), h H1 e _ fun H2 e2 => ⟨hc _ _ _ _ c (.of (e.trans e2)), t, F, l, rfl, ht, A.ex j (e.trans e2), fun H3 e3 => q H3 (e2.trans e3)⟩⟩
theorem dt_val {H : Hp} {v : V} {x : Val} (h : Vt H v (dV x)) : Dt H v (dV x) := h.dt
theorem ev_isflt {te : TE} {x : Val} {v : V} {E : L2.St → XK} (h : Ev te σ H v) (r : Vt H v (dV x)) (o : okV x) : Ev (tCallS (sp_is_fault K) E (tCons te tNil)) σ H (.bl (isFltV x)) := by
  rw [← o.flt]
  exact ev_spB (ed_ev h r.dt) (val_ok o.val).1
/-- == of two values that stand there -/
theorem x_eqV {Q : Bool → Hp → Prop} {v u : V} {x y : Val} (r1 : Vt H v (dV x)) (r2 : Vt H u (dV y)) (o1 : okV x) (o2 : okV y) (k : ∀ H1, Ex H H1 → Q (decide (x = y)) H1) : rEqA K v u H fun z H1 => ∃ b, z = .bl b ∧ Q b H1 := by
  have := ev_eqD (K := K) (σ := []) (ta := tC v) (tb := tC u) (H := H) (ed_ev ev_c r1.dt) (ed_ev ev_c r2.dt) (val_okD o1.val) (val_okD o2.val)
  exact this H (Ex.refl H) _ fun H1 e1 => ⟨_, rfl, by rw [eqv_dV o1 o2]; exact k H1 e1⟩
end
end Z

set_option Elab.async false
set_option linter.all false
set_option autoImplicit false
set_option maxRecDepth 100000
set_option maxHeartbeats 4000000
/-! ev: what an expression comes to, by its form -/
local macro_rules | `(tactic| k_places) => `(tactic| (repeat' (first
  | (with_reducible exact ev_c)
  | (with_reducible exact ev_var rfl)
  | (with_reducible refine ev_chainLL ?_ ?_ ?_)
  | (with_reducible refine ev_chainLt ?_ ?_ ?_)
  | (with_reducible refine ev_op ?_ ?_ ?_)
  | (with_reducible refine ev_neg ?_)
  | (with_reducible refine et_test ?_)
  | (with_reducible refine et_B ?_)
  | (with_reducible refine et_not ?_)
  | (with_reducible refine et_and ?_ (fun _ => ?_))
  | (with_reducible refine et_or ?_ (fun _ => ?_))
  | (with_reducible refine ev_andV ?_ (fun _ => ?_))
  | (with_reducible refine ev_orV ?_ (fun _ => ?_))
  | (with_reducible refine ev_notV ?_)
  | (with_reducible exact rv_addI)
  | (with_reducible exact rv_subI)
  | (with_reducible exact rv_lt)
  | (with_reducible exact rv_le)
  | (with_reducible exact rv_gt)
  | (with_reducible exact rv_ge)
  | (with_reducible exact rv_isB)
  | (with_reducible exact rv_isnB)
  | (with_reducible exact rv_isN)
  | (with_reducible exact rv_isnN)
  | (with_reducible exact rv_eqS rfl)
  | (with_reducible exact rv_neS rfl)
  | (with_reducible exact rv_inStr)
  | (with_reducible exact rv_ninStr)
  | (with_reducible exact rv_mod (by first | decide | omega | assumption))
  | (with_reducible exact rv_div (by first | decide | omega | assumption))
  | (with_reducible exact rv_pow (by decide))
  | (with_reducible refine ed_i ?_; done)
  | (with_reducible exact ea_nil)
  | (with_reducible refine ea_cons ?_ ?_)
  | (with_reducible exact eds_nil)
  | (with_reducible refine eds_cons ?_ ?_)
  | (with_reducible exact ed_dnew)
  | (with_reducible refine ed_lst ?_ (by simp only [List.length_cons, List.length_nil]; omega))
  | (with_reducible refine ed_tup ?_ (by simp only [List.length_cons, List.length_nil]; omega)))))
namespace Z
open PySem PySem.Spec PyProof.Rows L2 Evl NdefX LamX
/-! ### an expression whose value stands in a relation; comprehensions of such -/
def EvR (te : TE) (σ : L2.St) (H : Hp) (R : V → Hp → Prop) : Prop := ∀ H1, Ex H H1 → ∀ Q : VK, (∀ v H2, Ex H1 H2 → R v H2 → Q v H2) → te σ H1 Q
def CwR (R : Nat → V → Hp → Prop) (H : Hp) (Dl : Addr) (i : Nat) (H' : Hp) : Prop := H Dl = none ∧ Ex H H' ∧ ∃ vs, H' Dl = some (.lst vs) ∧ vs.length = i ∧ ∀ j v, vs[j]? = some v → R j v H'
section
variable {K : PySem.W.Frag} {σ σ2 : L2.St} {H H' : Hp} {te tl : TE} {D : Ends} {tz : TS} {R : Nat → V → Hp → Prop} {Q : VK}
theorem cwR_turn {Dl : Addr} {i : Nat} (hR : ∀ i v H H', R i v H → Imk H H' → R i v H') (p : CwR R H Dl i H') (hi : i < 50000) (he : EvR te σ2 H (R i)) :
    te σ2 H' fun y H4 => ∃ acc, H4 Dl = some (.lst acc) ∧ acc.length < sizeLine ∧ CwR R H Dl (i + 1) (L2.upd H4 Dl (.lst (acc ++ [y]))) := by
  obtain ⟨p1, p2, vs, p3, p4, p5⟩ := p
  refine he H' p2 _ fun v H4 e4 r => ⟨vs, e4 Dl _ p3, sz_lt (by omega), p1, Ex.mut (p2.trans e4) p1, vs ++ [v], upd_same, by rw [List.length_append, p4]; rfl, fun j w hj => ?_⟩
  have im : Imk H4 (L2.upd H4 Dl (.lst (vs ++ [v]))) := .upd (e4 _ _ p3) fun z => z
  by_cases hl : j < vs.length
  · rw [List.getElem?_append_left hl] at hj
    exact hR _ _ _ _ (p5 j w hj) ((Imk.of e4).trans im)
  · rw [List.getElem?_append_right (by omega)] at hj
    have e : j = vs.length := by
      have := (List.getElem?_eq_some_iff.mp hj).1
      simp at this
      omega
    subst e
    rw [Nat.sub_self] at hj
    cases hj
    rw [p4]
    exact hR _ _ _ _ r im
theorem er_lcL {a : Addr} {xs : List V} {j : Nat} {ls : List Nat} (hR : ∀ i v H H', R i v H → Imk H H' → R i v H') (h : Ev tl σ H (.ref a)) (hx : SqL K H a xs) (hz : xs.length ≤ 40000) (hw : ∀ x, wipe ((wipe σ ls).set j (some x)) ls = wipe σ ls)
    (he : ∀ (i : Nat) (x : V) H1, Ex H H1 → xs[i]? = some x → EvR te ((wipe σ ls).set j (some x)) H1 (R i))
    (k : ∀ p ys H1, H p = none → Ex H H1 → H1 p = some (.lst ys) → ys.length = xs.length → (∀ i y, ys[i]? = some y → R i y H1) → Q (.ref p) H1) : tLc (iList K tl) (gName j) tYes te ls σ H Q :=
  h H (Ex.refl H) _ fun H1 e1 => ⟨a, rfl, ⟨xs, ex_l e1 hx⟩, fun Dl hD =>
  lc_list (xs := xs) (CwR R H1 Dl) ⟨hD, Ex.new hD, [], upd_same, rfl, fun j v hj => by simp at hj⟩ (fun i H' _ p => ex_l (e1.trans p.2.1) hx) (fun i x H' hi p => ⟨hw x, cwR_turn hR p (by have := (List.getElem?_eq_some_iff.mp hi).1; omega) (he i x H1 e1 hi)⟩)
  (fun H' p => by
    obtain ⟨p1, p2, vs, p3, p4, p5⟩ := p
    exact k Dl vs H' (fresh_back e1 p1) (e1.trans p2) p3 p4 p5)⟩
theorem er_lcR {tas : TA} {n : Int} {j : Nat} {ls : List Nat} (hR : ∀ i v H H', R i v H → Imk H H' → R i v H') (h : EvA tas σ H [.int n]) (hn : 0 ≤ n ∧ n ≤ 40000) (hw : ∀ x, wipe ((wipe σ ls).set j (some x)) ls = wipe σ ls)
    (he : ∀ (i : Nat) H1, Ex H H1 → (i : Int) < n → EvR te ((wipe σ ls).set j (some (.int (i : Int)))) H1 (R i))
    (k : ∀ p ys H1, H p = none → Ex H H1 → H1 p = some (.lst ys) → ys.length = n.toNat → (∀ i y, ys[i]? = some y → R i y H1) → Q (.ref p) H1) : tLc (iRng1 tas) (gName j) tYes te ls σ H Q :=
  h H (Ex.refl H) _ fun H1 e1 => ⟨n, rfl, by omega, by omega, fun Dl hD =>
  lc_range (lo := 0) (n := n.toNat) (CwR R H1 Dl) ⟨hD, Ex.new hD, [], upd_same, rfl, fun j v hj => by simp at hj⟩ (fun i H' hi p => by
    have e0 : (0 : Int) + (i : Int) = (i : Int) := Int.zero_add _
    show wipe ((wipe σ ls).set j (some (.int ((0 : Int) + (i : Int))))) ls = wipe σ ls ∧ te ((wipe σ ls).set j (some (.int ((0 : Int) + (i : Int))))) H' fun y H4 => ∃ acc, H4 Dl = some (.lst acc) ∧ acc.length < sizeLine ∧ CwR R H1 Dl (i + 1) (L2.upd H4 Dl (.lst (acc ++ [y])))
    rw [e0]
    exact ⟨hw _, cwR_turn hR p (by omega) (he i H1 e1 (by omega))⟩) (fun H' p => by
      obtain ⟨p1, p2, vs, p3, p4, p5⟩ := p
      exact k Dl vs H' (fresh_back e1 p1) (e1.trans p2) p3 p4 p5)⟩
/-- a new list of spots -/
def EvSs (te : TE) (σ : L2.St) (H : Hp) (ss : List Spot) : Prop := ∀ H1, Ex H H1 → ∀ Q : VK, (∀ p xs H2, H1 p = none → Ex H1 H2 → H2 p = some (.lst xs) → AtSs H2 xs ss → Q (.ref p) H2) → te σ H1 Q
theorem er_spot {t1 t2 t3 : TE} {s : Spot} (h1 : Ev t1 σ H (.str s.1)) (h2 : Ev t2 σ H (.str s.2.1)) (h3 : Ev t3 σ H (.int s.2.2)) : EvR (tTup (tCons t1 (tCons t2 (tCons t3 tNil)))) σ H (fun v H => AtS H v s) := fun H1 e Q q =>
  eu_tup (ea_cons h1 (ea_cons h2 (ea_cons h3 ea_nil))) (show 3 ≤ 100000 by decide) H1 e Q fun p H2 _ e2 h2 => q _ H2 e2 ⟨p, rfl, h2⟩
theorem atSs_of {vs : List V} {ss : List Spot} (hl : vs.length = ss.length) (h : ∀ (i : Nat) (v : V), vs[i]? = some v → ∃ s, ss[i]? = some s ∧ AtS H v s) : AtSs H vs ss := ⟨hl, fun i s q => by
  obtain ⟨v, hv⟩ : ∃ v, vs[i]? = some v := ⟨_, List.getElem?_eq_getElem (by rw [hl]; exact (List.getElem?_eq_some_iff.mp q).1)⟩
  obtain ⟨s', a, b⟩ := h i v hv
  rw [q] at a
  cases a
  exact ⟨v, hv, b⟩⟩
/-- [(.., name, ..) for name in a list of texts] -/
theorem es_lc {a : Addr} {zs : List Str} {j : Nat} {ls : List Nat} (f : Str → Spot) (h : Ev tl σ H (.ref a)) (hx : SqL K H a (zs.map V.str)) (hz : zs.length ≤ 40000) (hw : ∀ x, wipe ((wipe σ ls).set j (some x)) ls = wipe σ ls)
    (he : ∀ (z : Str) H1, Ex H H1 → z ∈ zs → EvR te ((wipe σ ls).set j (some (.str z))) H1 (fun v H => AtS H v (f z))) : EvSs (tLc (iList K tl) (gName j) tYes te ls) σ H (zs.map f) := fun H0 e Q q => by
  refine er_lcL (R := fun i v H => ∃ z, zs[i]? = some z ∧ AtS H v (f z)) (fun i v H H' ⟨z, a, b⟩ im => ⟨z, a, b.tup im.tup⟩) (h.mono e) (ex_l e hx) (by rw [List.length_map]; exact hz) hw (fun i x H1 e1 hi => ?_) fun p ys H1 hp e1 h1 hl hr => q p ys H1 hp e1 h1 (atSs_of (by rw [hl, List.length_map, List.length_map]) fun i v hv => ?_)
  · rw [List.getElem?_map] at hi
    cases hz' : zs[i]? with
    | none => rw [hz'] at hi; cases hi
    | some z =>
      rw [hz'] at hi
      cases hi
      intro H2 e2 Q2 q2
      exact he z H1 (e.trans e1) (List.mem_of_getElem? hz') H2 e2 Q2 fun v H3 e3 r => q2 v H3 e3 ⟨z, rfl, r⟩
  · obtain ⟨z, a, b⟩ := hr i v hv
    exact ⟨f z, by rw [List.getElem?_map, a]; rfl, b⟩
/-- a tuple of two, of three taken apart -/
theorem g_spot {a b c : Nat} {v : V} {s : Spot} {Q : L2.St → Hp → Prop} (h : AtS H v s) (k : Q (((σ.set a (some (.str s.1))).set b (some (.str s.2.1))).set c (some (.int s.2.2))) H) : gTup K 3 (gCons (gName a) (gCons (gName b) (gCons (gName c) gNil))) v σ H Q := by
  obtain ⟨p, e1, e2⟩ := h
  exact ⟨p, _, e1, SqT.of e2, rfl, _, _, rfl, _, _, rfl, _, _, rfl, rfl, k⟩
theorem g_two {a b : Nat} {v x y : V} {p : Addr} {Q : L2.St → Hp → Prop} (e1 : v = .ref p) (e2 : H p = some (.tup [x, y])) (k : Q ((σ.set a (some x)).set b (some y)) H) : gTup K 2 (gCons (gName a) (gCons (gName b) gNil)) v σ H Q := ⟨p, _, e1, SqT.of e2, rfl, _, _, rfl, _, _, rfl, rfl, k⟩
end
/-! ### rules.py: names, looks in turn -/
def sp_name_told (K : PySem.W.Frag) (A : Cn → Addr) : Sp := fun vs H Q _ => ∃ z : Str, vs = [.str z] ∧ isName z = true ∧ RetV (.str z) H Q
def sp_names_told (K : PySem.W.Frag) (A : Cn → Addr) : Sp := fun vs H Q _ => ∃ (p : Addr) (zs : List Str), vs = [.ref p] ∧ H p = some (.lst (zs.map V.str)) ∧ zs.length ≤ 6 ∧ (∀ z ∈ zs, isName z = true) ∧ RetL (zs.map V.str) H Q
def sp_looked (K : PySem.W.Frag) (CA : Hp → Addr → Sp → Prop) : Sp := fun vs H Q _ => ∃ (f c : Addr) (xs : List V) (ss : List Spot) (T : List (Addr × Str)) (Rv : List Addr) (J : List Addr → List Spot → Hp → Prop) (W : Spot → Val) (Dom : Spot → Prop) (F : List Addr) (l : List Spot),
  vs = [.ref f, .ref c] ∧ CA H f (spLook T J W Dom) ∧ Ask T Rv J W Dom ∧ H c = some (.lst xs) ∧ c ∉ F ∧ AtSs H xs ss ∧ (∀ s ∈ ss, Dom s) ∧ J F l H ∧ l.length + ss.length ≤ 1000 ∧
  ∀ v F' H', Step T F H F' H' → J F' (l ++ (turn W ss).2) H' → Got H H' v (turn W ss).1 → Q v H'
def t_name_told (K : PySem.W.Frag) (A : Cn → Addr) (E : XK) : TS :=
  tSeq (tIfS (tNot (tB (tCallS (sp_is_name K) (WE (fun cls d _ H => E cls d H)) (tCons (tVar 0) tNil)))) (tRaiseA (fun cls d _ H => E cls d H) (A .NoName)) tNext)
    (tRet (tVar 0))
def t_names_told (K : PySem.W.Frag) (A : Cn → Addr) (E : XK) : TS :=
  tSeq (tIfS (tOr (tNot (tB (tCB (rIsiA K) (tCons (tVar 0) (tCons (tC (.ty "list")) tNil))))) (tTest (tOp rGtA (tCB (rLenA K) (tCons (tVar 0) tNil)) (tC (.int 6))))) (tRaiseA (fun cls d _ H => E cls d H) (A .NoName)) tNext)
    (tRet (tLc (iList K (tVar 0)) (gName 1) tYes (tCall (sp_name_told K A) [] E0 (tCons (tVar 1) tNil)) [1]))
def t_looked (K : PySem.W.Frag) (CA : Hp → Addr → Sp → Prop) (E : XK) : TS :=
  tSeq (tAsg (tLst tNil) (gName 2))
    (tSeq (tFor (iList K (tVar 1)) (gTup K 3 (gCons (gName 3) (gCons (gName 4) (gCons (gName 5) gNil)))) (tSeq (tAsg (tCallC CA 0 (tCons (tVar 3) (tCons (tVar 4) (tCons (tVar 5) tNil)))) (gName 6))
    (tSeq (tIfS (tB (tCallS (sp_is_fault K) (WE (fun cls d _ H => E cls d H)) (tCons (tVar 6) tNil))) (tRet (tTup (tCons (tC (.str "value")) (tCons (tVar 6) tNil)))) tNext)
    (tDrop (tBM K "list" rAppend (tVar 2) (tCons (tVar 6) tNil))))))
    (tRet (tTup (tCons (tC (.str "call")) (tCons (tVar 2) tNil)))))
section
variable {K : PySem.W.Frag} {A : Cn → Addr} {CA : Hp → Addr → Sp → Prop}
theorem len_name_told (vs : List V) (H : Hp) (Q : VK) (E : XK) (h : sp_name_told K A vs H Q E) : vs.length = 1 := by obtain ⟨_, rfl, _⟩ := h; rfl
theorem len_names_told (vs : List V) (H : Hp) (Q : VK) (E : XK) (h : sp_names_told K A vs H Q E) : vs.length = 1 := by obtain ⟨_, _, rfl, _⟩ := h; rfl
theorem len_looked (vs : List V) (H : Hp) (Q : VK) (E : XK) (h : sp_looked K CA vs H Q E) : vs.length = 2 := by obtain ⟨_, _, _, _, _, _, _, _, _, _, _, rfl, _⟩ := h; rfl
theorem name_short {z : Str} (h : isName z = true) : short (.str z) := (name_ok h).len
theorem r_name_told (vs : List V) (H : Hp) (Q : VK) (E : XK) (h : sp_name_told K A vs H Q E) : t_name_told K A E { nx := fun _ H' => Q .non H', rt := Q } (L2.start ["name"] vs) H := by
  obtain ⟨z, rfl, hz, k⟩ := h
  unfold t_name_told
  refine q_when (b := false) (et_is (et_not (et_B (ev_spB (g := isNameD) (pre := short) (ed_s (ev_var rfl)) (name_short hz)))) (by show (!isName z) = false; rw [hz]; rfl)) (fun hb => nomatch hb) fun _ H1 e1 => ?_
  exact s_ret (ev_var rfl) fun H2 e2 => k H2 (e1.trans e2)
theorem r_names_told (vs : List V) (H : Hp) (Q : VK) (E : XK) (h : sp_names_told K A vs H Q E) : t_names_told K A E { nx := fun _ H' => Q .non H', rt := Q } (L2.start ["names", "name"] vs) H := by
  obtain ⟨p, zs, rfl, hp, hl, hz, k⟩ := h
  unfold t_names_told
  have ln : Ev (tCB (rLenA K) (tCons (tVar 0) tNil)) (L2.start ["names", "name"] [.ref p]) H (.int (zs.length : Int)) := by
    have := ev_lenV (K := K) (ta := tVar 0) (σ := L2.start ["names", "name"] [.ref p]) (H := H) (ev_var rfl) (rc_lenL (SqL.of hp))
    rwa [List.length_map] at this
  refine q_when (b := false) (et_is (et_or (et_not (et_B (ev_isi (ev_var rfl) (n := "list") (by show tyO (H p) = _; rw [hp]; rfl)))) fun _ => et_test (ev_op ln ev_c rv_gt)) (by
    show (!(isiB "list" "list") || decide ((6 : Int) < (zs.length : Int))) = false
    rw [decide_eq_false (by omega)]
    rfl)) (fun hb => nomatch hb) fun _ H1 e1 => ?_
  have el := el_lcL (K := K) (t := tYes) (te := tCall (sp_name_told K A) [] E0 (tCons (tVar 1) tNil)) (j := 1) (vs := [1]) (fun _ => true) (fun i => (zs.map V.str).getD i .non) (tl := tVar 0) (σ := L2.start ["names", "name"] [.ref p]) (H := H1) (ev_var rfl) (SqL.of (e1 _ _ hp)) (by rw [List.length_map]; omega) (fun _ => rfl)
    (fun _ _ _ _ _ => fun H2 _ Q q => q H2 (Ex.refl H2)) (fun i x H2 e2 hi _ => by
      have e : (zs.map V.str).getD i .non = x := by rw [List.getD, hi]; rfl
      rw [e]
      rw [List.getElem?_map] at hi
      cases hq : zs[i]? with
      | none => rw [hq] at hi; cases hi
      | some z =>
        rw [hq] at hi
        cases hi
        exact ev_call (vs := [.str z]) (ea_cons (ev_var rfl) ea_nil) fun H3 e3 Q q E => ⟨z, rfl, hz z (List.mem_of_getElem? hq), fun H4 e4 => q H4 e4⟩)
  have eg : given (zs.map V.str).length (fun _ => true) (fun i => (zs.map V.str).getD i .non) = zs.map V.str := by
    unfold given
    rw [List.filter_eq_self.mpr (fun _ _ => rfl)]
    refine List.ext_getElem (by simp) fun i h1 h2 => ?_
    rw [List.getElem_map, List.getElem_range, List.getD, List.getElem?_eq_getElem h2]
    rfl
  rw [eg] at el
  exact s_retL el fun p2 H2 hp2 e2 h2 => k p2 H2 (fresh_back e1 hp2) (e1.trans e2) h2
theorem r_looked (hc : CAst CA) (vs : List V) (H : Hp) (Q : VK) (E : XK) (h : sp_looked K CA vs H Q E) : t_looked K CA E { nx := fun _ H' => Q .non H', rt := Q } (L2.start ["look", "cells", "found", "table", "column", "place", "value"] vs) H := by
  obtain ⟨f, c, xs, ss, T, Rv, J, W, Dom, F, l, rfl, ca, AK, hx, hcF, hs, hd, j0, hl, k⟩ := h
  unfold t_looked
  refine q_asgL (el_lst ea_nil (by decide)) fun p H1 hp e1 h1 => ?_
  have pF : p ∉ F := AK.off j0 hp
  have pR : p ∉ Rv := AK.offR j0 hp
  refine q_forL (ev_var rfl) (SqL.of (e1 _ _ hx)) (fun i σ H' => ∃ (x3 x4 x5 x6 : Option V) (F' : List Addr) (is : List Int), σ = [some (.ref f), some (.ref c), some (.ref p), x3, x4, x5, x6] ∧ Step T F H F' H' ∧ J F' (l ++ ss.take i) H' ∧ (ss.take i).map W = is.map Sum.inl ∧ H' p = some (.lst (is.map V.int)) ∧ p ∉ F' ∧ c ∉ F')
    (fun H2 e2 => ⟨_, _, _, _, F, [], rfl, Step.of (e1.trans e2), by rw [List.take_zero, List.append_nil]; exact AK.ex j0 (e1.trans e2), rfl, e2 _ _ h1, pF, hcF⟩) (fun i σ H' _ ⟨_, _, _, _, F', _, _, st, _, _, _, _, cF⟩ => SqL.of (st.x.k c _ hx hcF fun _ z => nomatch z)) ?_ ?_
  · rintro i x σ H2 hi ⟨x3, x4, x5, x6, F2, is, rfl, st, j2, hW, hp2, pF2, cF2⟩
    obtain ⟨s, hsi, hat⟩ := (hs.tup st.x.i.tup).at hi
    refine g_spot hat ?_
    have ds := hd s (List.mem_of_getElem? hsi)
    have hlen : i < ss.length := (List.getElem?_eq_some_iff.mp hsi).1
    have tk : ss.take (i + 1) = ss.take i ++ [s] := by rw [List.take_add_one, hsi]; rfl
    have lis : is.length = i := by
      have := congrArg List.length hW
      rw [List.length_map, List.length_map, List.length_take] at this
      omega
    refine q_lookC hc AK rfl (hc _ _ _ _ ca st.x.i.kp) (ea_cons (ev_var rfl) (ea_cons (ev_var rfl) (ea_cons (ev_var rfl) ea_nil))) ds (by rw [List.length_append, List.length_take]; omega) j2 fun v F3 H3 st3 rv j3 => ?_
    have ok := AK.ok s ds
    have st13 := st.trans st3
    have hp3 : H3 p = some (.lst (is.map V.int)) := st3.x.k p _ hp2 pF2 fun _ z => nomatch z
    have pF3 := Step.off pF2 hp2 st3
    have cF3 : c ∉ F3 := fun z => (st13.f c z).elim hcF fun q => by rw [hx] at q; cases q
    refine q_when (et_B (ev_isflt (ev_var rfl) rv ok)) (fun hb H4 e4 => ?_) (fun hb H4 e4 => ?_)
    · obtain ⟨w, hw⟩ : ∃ w, W s = .inr w := by
        cases q : W s with
        | inl i => rw [q] at hb; cases hb
        | inr w => exact ⟨w, rfl⟩
      have tf := turn_flt hW hsi hw
      refine s_retU (eu_tup (ea_cons ev_c (ea_cons (ev_var rfl) ea_nil)) (show 2 ≤ 100000 by decide)) fun a H5 _ e5 h5 => ?_
      refine k _ F3 H5 (st13.trans (Step.of (e4.trans e5))) ?_ ?_
      · rw [tf]
        have := AK.ex j3 (e4.trans e5)
        rwa [List.append_assoc] at this
      · rw [tf]
        rw [hw] at rv
        exact ⟨a, v, rfl, h5, rv.tup (.of_ex (e4.trans e5))⟩
    · obtain ⟨n, hw⟩ : ∃ n, W s = .inl n := by
        cases q : W s with
        | inl i => exact ⟨i, rfl⟩
        | inr w => rw [q] at hb; cases hb
      rw [hw] at rv
      obtain rfl : v = .int n := by cases rv; rfl
      refine s_app (e4 _ _ hp3) (ev_var rfl) (ev_var rfl) (by rw [List.length_map]; omega) fun H5 e5 => ?_
      have e45 := e4.trans e5
      refine ⟨_, _, _, _, F3, is ++ [n], rfl, (st13.trans (Step.of e45)).updN hp (e45 _ _ hp3) (fun z => z) (fun _ z => nomatch z), ?_, ?_, ?_, pF3, cF3⟩
      · rw [tk, ← List.append_assoc]
        exact AK.upd (AK.ex j3 e45) pF3 pR (e45 _ _ hp3) (fun z => z) fun _ z => nomatch z
      · rw [tk, List.map_append, List.map_append, hW, List.map_cons, hw]
        rfl
      · rw [List.map_append]
        exact upd_same
  · rintro σ H2 ⟨x3, x4, x5, x6, F2, is, rfl, st, j2, hW, hp2, pF2, cF2⟩
    rw [hs.1, List.take_length] at j2 hW
    have ta := turn_all hW
    refine s_retU (eu_tup (ea_cons ev_c (ea_cons (ev_var rfl) ea_nil)) (show 2 ≤ 100000 by decide)) fun a H3 _ e3 h3 => ?_
    refine k _ F2 H3 (st.trans (Step.of e3)) ?_ ?_
    · rw [ta]
      exact AK.ex j2 e3
    · rw [ta]
      exact ⟨a, p, rfl, h3, e3 _ _ hp2, hp⟩
end
end Z

set_option Elab.async false
set_option linter.all false
set_option autoImplicit false
set_option maxRecDepth 100000
set_option maxHeartbeats 4000000
/-! ev: what an expression comes to, by its form -/
local macro_rules | `(tactic| k_places) => `(tactic| (repeat' (first
  | (with_reducible exact ev_c)
  | (with_reducible exact ev_var rfl)
  | (with_reducible refine ev_chainLL ?_ ?_ ?_)
  | (with_reducible refine ev_chainLt ?_ ?_ ?_)
  | (with_reducible refine ev_op ?_ ?_ ?_)
  | (with_reducible refine ev_neg ?_)
  | (with_reducible refine et_test ?_)
  | (with_reducible refine et_B ?_)
  | (with_reducible refine et_not ?_)
  | (with_reducible refine et_and ?_ (fun _ => ?_))
  | (with_reducible refine et_or ?_ (fun _ => ?_))
  | (with_reducible refine ev_andV ?_ (fun _ => ?_))
  | (with_reducible refine ev_orV ?_ (fun _ => ?_))
  | (with_reducible refine ev_notV ?_)
  | (with_reducible exact rv_addI)
  | (with_reducible exact rv_subI)
  | (with_reducible exact rv_lt)
  | (with_reducible exact rv_le)
  | (with_reducible exact rv_gt)
  | (with_reducible exact rv_ge)
  | (with_reducible exact rv_isB)
  | (with_reducible exact rv_isnB)
  | (with_reducible exact rv_isN)
  | (with_reducible exact rv_isnN)
  | (with_reducible exact rv_eqS rfl)
  | (with_reducible exact rv_neS rfl)
  | (with_reducible exact rv_inStr)
  | (with_reducible exact rv_ninStr)
  | (with_reducible exact rv_mod (by first | decide | omega | assumption))
  | (with_reducible exact rv_div (by first | decide | omega | assumption))
  | (with_reducible exact rv_pow (by decide))
  | (with_reducible refine ed_i ?_; done)
  | (with_reducible exact ea_nil)
  | (with_reducible refine ea_cons ?_ ?_)
  | (with_reducible exact eds_nil)
  | (with_reducible refine eds_cons ?_ ?_)
  | (with_reducible exact ed_dnew)
  | (with_reducible refine ed_lst ?_ (by simp only [List.length_cons, List.length_nil]; omega))
  | (with_reducible refine ed_tup ?_ (by simp only [List.length_cons, List.length_nil]; omega)))))
namespace Z
open PySem PySem.Spec PyProof.Rows L2 Evl NdefX LamX
/-! ### rules.py: the kinds of rules -/
def sp_Rule_init (K : PySem.W.Frag) : Sp := fun vs H Q _ => ∃ (a C dx : Addr) (fs : List (Str × V)) (v : V), vs = [.ref a, v] ∧ H a = some (.ins C dx fs) ∧ Cls K C ∧ NoAttr K C "function" ∧ fs.length < 900 ∧ ∀ H1, Ex H H1 → Q .non (L2.upd H1 a (.ins C dx (putF "function" v fs)))
def t_Rule_init (K : PySem.W.Frag) (E : XK) : TS := sFld K (tVar 0) (tVar 1) "function"
theorem len_Rule_init {K : PySem.W.Frag} (vs : List V) (H : Hp) (Q : VK) (E : XK) (h : sp_Rule_init K vs H Q E) : vs.length = 2 := by obtain ⟨_, _, _, _, _, rfl, _⟩ := h; rfl
theorem r_Rule_init {K : PySem.W.Frag} (vs : List V) (H : Hp) (Q : VK) (E : XK) (h : sp_Rule_init K vs H Q E) : t_Rule_init K E { nx := fun _ H' => Q .non H', rt := Q } (L2.start ["self", "function"] vs) H := by
  obtain ⟨a, C, dx, fs, v, rfl, ha, c, n, hl, k⟩ := h
  unfold t_Rule_init
  exact ev_var rfl H (Ex.refl H) _ fun H1 e1 => ev_var rfl H1 (Ex.refl H1) _ fun H2 e2 => ⟨a, C, dx, fs, rfl, (e1.trans e2) _ _ ha, c, n, by omega, k H2 (e1.trans e2)⟩
section
variable {K : PySem.W.Frag} {A : Cn → Addr} {CA : Hp → Addr → Sp → Prop} {σ : L2.St} {H : Hp} {D : Ends} {tz : TS} {ta tb tv te : TE} {a dx C : Addr} {fs : List (Str × V)} {ns : List Str} {v : V}
theorem q_ruleInit {E : L2.St → XK} (h1 : Ev ta σ H (.ref a)) (h2 : Ev tb σ H v) (hi : H a = some (.ins C dx fs)) (c : ClK K C ns) (hf : ("function" : Str) ∈ ns) (hl : fs.length < 900) (k : ∀ H1, Ex H H1 → tz D σ (L2.upd H1 a (.ins C dx (putF "function" v fs)))) :
    tSeq (tDrop (tCallS (sp_Rule_init K) E (tCons ta (tCons tb tNil)))) tz D σ H :=
  h1 H (Ex.refl H) _ fun H1 e1 => h2 H1 e1 _ fun H2 e2 => ⟨a, C, dx, fs, v, rfl, (e1.trans e2) _ _ hi, c.cl, c.na _ hf, hl, fun H3 e3 => k H3 ((e1.trans e2).trans e3)⟩
theorem ev_nameTold {z : Str} {E : L2.St → XK} (h : Ev te σ H (.str z)) (hz : isName z = true) : Ev (tCallS (sp_name_told K A) E (tCons te tNil)) σ H (.str z) := ev_callS (ea_cons h ea_nil) fun H1 _ Q q E => ⟨z, rfl, hz, fun H2 e2 => q H2 e2⟩
theorem el_namesTold {p : Addr} {zs : List Str} {E : L2.St → XK} (h : Ev te σ H (.ref p)) (hp : H p = some (.lst (zs.map V.str))) (hl : zs.length ≤ 6) (hz : ∀ z ∈ zs, isName z = true) : EvL (tCallS (sp_names_told K A) E (tCons te tNil)) σ H (zs.map V.str) := fun H1 e Q q =>
  h H1 e _ fun H2 e2 => ⟨p, zs, rfl, (e.trans e2) _ _ hp, hl, hz, fun p2 H3 hp2 e3 h3 => q p2 H3 (fresh_back e2 hp2) (e2.trans e3) h3⟩
theorem s_fldL {xs : List V} (hv : EvL tv σ H xs) (ha : Ev ta σ H (.ref a)) (hi : H a = some (.ins C dx fs)) (c : ClK K C ns) {f : Str} (hf : f ∈ ns) (hl : fs.length < 1000) (k : ∀ p H1, H p = none → Ex H H1 → H1 p = some (.lst xs) → D.nx σ (L2.upd H1 a (.ins C dx (putF f (.ref p) fs)))) : sFld K ta tv f D σ H :=
  hv H (Ex.refl H) _ fun p H1 hp e1 h1 => ha H1 e1 _ fun H2 e2 => ⟨a, C, dx, fs, rfl, (e1.trans e2) _ _ hi, c.cl, c.na f hf, hl, k p H2 hp (e1.trans e2) (e2 _ _ h1)⟩
end
/-- a new instance of a kind of rule: its attributes, all else as it was -/
def Made (H : Hp) (a : Addr) (Q : VK) (P : Hp → Prop) : Prop := ∀ H', (∀ T, XB T [a] H H') → P H' → Q .non H'
def sp_Cells_init (K : PySem.W.Frag) (A : Cn → Addr) : Sp := fun vs H Q _ => ∃ (a dx p : Addr) (zs : List Str) (v : V), vs = [.ref a, .ref p, v] ∧ H a = some (.ins (A .Cells) dx []) ∧ H p = some (.lst (zs.map V.str)) ∧ zs.length ≤ 6 ∧ (∀ z ∈ zs, isName z = true) ∧
  Made H a Q fun H' => ∃ np, H np = none ∧ H' np = some (.lst (zs.map V.str)) ∧ H' a = some (.ins (A .Cells) dx [("function", v), ("names", .ref np)])
def sp_Above_init (K : PySem.W.Frag) (A : Cn → Addr) : Sp := fun vs H Q _ => ∃ (a dx p : Addr) (zs : List Str) (v : V) (i : Int), vs = [.ref a, .int i, .ref p, v] ∧ H a = some (.ins (A .Above) dx []) ∧ H p = some (.lst (zs.map V.str)) ∧ zs.length ≤ 6 ∧ (∀ z ∈ zs, isName z = true) ∧ (-(10 ^ 60) < i ∧ i < 10 ^ 60) ∧
  Made H a Q fun H' => ∃ np, H np = none ∧ H' np = some (.lst (zs.map V.str)) ∧ H' a = some (.ins (A .Above) dx [("function", v), ("names", .ref np), ("first", .int i)])
def sp_Group_init (K : PySem.W.Frag) (A : Cn → Addr) : Sp := fun vs H Q _ => ∃ (a dx : Addr) (y z : Str) (v : V), vs = [.ref a, .str y, .str z, v] ∧ H a = some (.ins (A .Group) dx []) ∧ isName y = true ∧ isName z = true ∧
  Made H a Q fun H' => H' a = some (.ins (A .Group) dx [("function", v), ("key", .str y), ("name", .str z)])
def sp_Lookup_init (K : PySem.W.Frag) (A : Cn → Addr) : Sp := fun vs H Q _ => ∃ (a dx p : Addr) (zs : List Str) (x y z : Str) (v : V), vs = [.ref a, .str x, .str y, .str z, .ref p, v] ∧ H a = some (.ins (A .Lookup) dx []) ∧ H p = some (.lst (zs.map V.str)) ∧ zs.length ≤ 6 ∧ (∀ z ∈ zs, isName z = true) ∧ (isName x = true ∧ isName y = true ∧ isName z = true) ∧
  Made H a Q fun H' => ∃ np, H np = none ∧ H' np = some (.lst (zs.map V.str)) ∧ H' a = some (.ins (A .Lookup) dx [("function", v), ("key", .str x), ("other", .str y), ("theirs", .str z), ("names", .ref np)])
def sp_Mend_init (K : PySem.W.Frag) (A : Cn → Addr) : Sp := fun vs H Q _ => ∃ (a dx : Addr) (z : Str) (v : V), vs = [.ref a, .str z, v] ∧ H a = some (.ins (A .Mend) dx []) ∧ isName z = true ∧
  Made H a Q fun H' => H' a = some (.ins (A .Mend) dx [("function", v), ("name", .str z)])
def t_Cells_init (K : PySem.W.Frag) (A : Cn → Addr) (E : XK) : TS :=
  tSeq (tDrop (tCallS (sp_Rule_init K) (WE (fun cls d _ H => E cls d H)) (tCons (tVar 0) (tCons (tVar 2) tNil))))
    (sFld K (tVar 0) (tCallS (sp_names_told K A) (WE (fun cls d _ H => E cls d H)) (tCons (tVar 1) tNil)) "names")
def t_Above_init (K : PySem.W.Frag) (A : Cn → Addr) (E : XK) : TS :=
  tSeq (tDrop (tCallS (sp_Rule_init K) (WE (fun cls d _ H => E cls d H)) (tCons (tVar 0) (tCons (tVar 3) tNil))))
    (tSeq (sFld K (tVar 0) (tCallS (sp_names_told K A) (WE (fun cls d _ H => E cls d H)) (tCons (tVar 2) tNil)) "names")
    (tSeq (tIfS (tNot (tB (tCallS (sp_is_number K) (WE (fun cls d _ H => E cls d H)) (tCons (tVar 1) tNil)))) (tRaiseA (fun cls d _ H => E cls d H) (A .NoValue)) tNext)
    (sFld K (tVar 0) (tVar 1) "first")))
def t_Group_init (K : PySem.W.Frag) (A : Cn → Addr) (E : XK) : TS :=
  tSeq (tDrop (tCallS (sp_Rule_init K) (WE (fun cls d _ H => E cls d H)) (tCons (tVar 0) (tCons (tVar 3) tNil))))
    (tSeq (sFld K (tVar 0) (tCallS (sp_name_told K A) (WE (fun cls d _ H => E cls d H)) (tCons (tVar 1) tNil)) "key")
    (sFld K (tVar 0) (tCallS (sp_name_told K A) (WE (fun cls d _ H => E cls d H)) (tCons (tVar 2) tNil)) "name"))
def t_Lookup_init (K : PySem.W.Frag) (A : Cn → Addr) (E : XK) : TS :=
  tSeq (tDrop (tCallS (sp_Rule_init K) (WE (fun cls d _ H => E cls d H)) (tCons (tVar 0) (tCons (tVar 5) tNil))))
    (tSeq (sFld K (tVar 0) (tCallS (sp_name_told K A) (WE (fun cls d _ H => E cls d H)) (tCons (tVar 1) tNil)) "key")
    (tSeq (sFld K (tVar 0) (tCallS (sp_name_told K A) (WE (fun cls d _ H => E cls d H)) (tCons (tVar 2) tNil)) "other")
    (tSeq (sFld K (tVar 0) (tCallS (sp_name_told K A) (WE (fun cls d _ H => E cls d H)) (tCons (tVar 3) tNil)) "theirs")
    (sFld K (tVar 0) (tCallS (sp_names_told K A) (WE (fun cls d _ H => E cls d H)) (tCons (tVar 4) tNil)) "names"))))
def t_Mend_init (K : PySem.W.Frag) (A : Cn → Addr) (E : XK) : TS :=
  tSeq (tDrop (tCallS (sp_Rule_init K) (WE (fun cls d _ H => E cls d H)) (tCons (tVar 0) (tCons (tVar 2) tNil))))
    (sFld K (tVar 0) (tCallS (sp_name_told K A) (WE (fun cls d _ H => E cls d H)) (tCons (tVar 1) tNil)) "name")
section
variable {K : PySem.W.Frag} {A : Cn → Addr}
theorem len_Cells_init (vs : List V) (H : Hp) (Q : VK) (E : XK) (h : sp_Cells_init K A vs H Q E) : vs.length = 3 := by obtain ⟨_, _, _, _, _, rfl, _⟩ := h; rfl
theorem len_Above_init (vs : List V) (H : Hp) (Q : VK) (E : XK) (h : sp_Above_init K A vs H Q E) : vs.length = 4 := by obtain ⟨_, _, _, _, _, _, rfl, _⟩ := h; rfl
theorem len_Group_init (vs : List V) (H : Hp) (Q : VK) (E : XK) (h : sp_Group_init K A vs H Q E) : vs.length = 4 := by obtain ⟨_, _, _, _, _, rfl, _⟩ := h; rfl
theorem len_Lookup_init (vs : List V) (H : Hp) (Q : VK) (E : XK) (h : sp_Lookup_init K A vs H Q E) : vs.length = 6 := by obtain ⟨_, _, _, _, _, _, _, _, rfl, _⟩ := h; rfl
theorem len_Mend_init (vs : List V) (H : Hp) (Q : VK) (E : XK) (h : sp_Mend_init K A vs H Q E) : vs.length = 3 := by obtain ⟨_, _, _, _, rfl, _⟩ := h; rfl
theorem XB.ins {T : List (Addr × Str)} {H H1 H2 : Hp} {a C dx : Addr} {fs : List (Str × V)} {u : HO} (x : XB T [a] H H1) (e : Ex H1 H2) (h : H1 a = some (.ins C dx fs)) : XB T [a] H (L2.upd H2 a u) :=
  (x.trans (XB.of e)).trans (XB.upd (e _ _ h) (fun z => z) (fun _ z => nomatch z) (List.mem_singleton.mpr rfl))
theorem r_Cells_init (fx : ClK K (A .Cells) ["function", "names"]) (vs : List V) (H : Hp) (Q : VK) (E : XK) (h : sp_Cells_init K A vs H Q E) : t_Cells_init K A E { nx := fun _ H' => Q .non H', rt := Q } (L2.start ["self", "names", "function"] vs) H := by
  obtain ⟨a, dx, p, zs, v, rfl, ha, hp, hl, hz, k⟩ := h
  unfold t_Cells_init
  have pa : p ≠ a := ne_of hp ha fun z => nomatch z
  refine q_ruleInit (ev_var rfl) (ev_var rfl) ha fx (by decide) (show 0 < 900 by decide) fun H1 e1 => ?_
  refine s_fldL (el_namesTold (ev_var rfl) ((upd_ne pa).trans (e1 _ _ hp)) hl hz) (ev_var rfl) upd_same fx (by decide) (show 1 < 1000 by decide) fun np H2 hn e2 h2 => ?_
  have na : np ≠ a := fun z => by rw [z, upd_same] at hn; cases hn
  exact k _ (fun T => (XB.ins (.of (Ex.refl H)) e1 ha).ins e2 upd_same) ⟨np, fresh_back e1 ((upd_ne na).symm.trans hn), (upd_ne na).trans h2, upd_same⟩
theorem r_Above_init (fx : ClK K (A .Above) ["function", "names", "first"]) (vs : List V) (H : Hp) (Q : VK) (E : XK) (h : sp_Above_init K A vs H Q E) : t_Above_init K A E { nx := fun _ H' => Q .non H', rt := Q } (L2.start ["self", "first", "names", "function"] vs) H := by
  obtain ⟨a, dx, p, zs, v, i, rfl, ha, hp, hl, hz, hi, k⟩ := h
  unfold t_Above_init
  have pa : p ≠ a := ne_of hp ha fun z => nomatch z
  refine q_ruleInit (ev_var rfl) (ev_var rfl) ha fx (by decide) (show 0 < 900 by decide) fun H1 e1 => ?_
  refine s_fldL (D := { nx := _, rt := Q }) (el_namesTold (ev_var rfl) ((upd_ne pa).trans (e1 _ _ hp)) hl hz) (ev_var rfl) upd_same fx (by decide) (show 1 < 1000 by decide) fun np H2 hn e2 h2 => ?_
  have na : np ≠ a := fun z => by rw [z, upd_same] at hn; cases hn
  refine q_when (b := false) (et_is (et_not (et_B (ev_spB (g := isNumD) (pre := fun _ => True) (ed_i (ev_var rfl)) True.intro))) (by rw [isNum_iff, decide_eq_true hi]; rfl)) (fun hb => nomatch hb) fun _ H3 e3 => ?_
  refine s_fld (ev_var rfl) (ev_var rfl) (e3 _ _ upd_same) fx (by decide) (show 2 < 1000 by decide) fun H4 e4 => ?_
  exact k _ (fun T => ((XB.ins (.of (Ex.refl H)) e1 ha).ins e2 upd_same).ins (e3.trans e4) upd_same) ⟨np, fresh_back e1 ((upd_ne na).symm.trans hn), (upd_ne na).trans ((e3.trans e4) _ _ ((upd_ne na).trans h2)), upd_same⟩
theorem r_Group_init (fx : ClK K (A .Group) ["function", "key", "name"]) (vs : List V) (H : Hp) (Q : VK) (E : XK) (h : sp_Group_init K A vs H Q E) : t_Group_init K A E { nx := fun _ H' => Q .non H', rt := Q } (L2.start ["self", "key", "name", "function"] vs) H := by
  obtain ⟨a, dx, y, z, v, rfl, ha, hy, hz, k⟩ := h
  unfold t_Group_init
  refine q_ruleInit (ev_var rfl) (ev_var rfl) ha fx (by decide) (show 0 < 900 by decide) fun H1 e1 => ?_
  refine q_fld (ev_nameTold (ev_var rfl) hy) (ev_var rfl) upd_same fx (by decide) (show 1 < 1000 by decide) fun H2 e2 => ?_
  refine s_fld (ev_nameTold (ev_var rfl) hz) (ev_var rfl) upd_same fx (by decide) (show 2 < 1000 by decide) fun H3 e3 => ?_
  exact k _ (fun T => ((XB.ins (.of (Ex.refl H)) e1 ha).ins e2 upd_same).ins e3 upd_same) upd_same
theorem r_Lookup_init (fx : ClK K (A .Lookup) ["function", "key", "other", "theirs", "names"]) (vs : List V) (H : Hp) (Q : VK) (E : XK) (h : sp_Lookup_init K A vs H Q E) :
    t_Lookup_init K A E { nx := fun _ H' => Q .non H', rt := Q } (L2.start ["self", "key", "other", "theirs", "names", "function"] vs) H := by
  obtain ⟨a, dx, p, zs, x, y, z, v, rfl, ha, hp, hl, hz, ⟨n1, n2, n3⟩, k⟩ := h
  unfold t_Lookup_init
  have pa : p ≠ a := ne_of hp ha fun z => nomatch z
  refine q_ruleInit (ev_var rfl) (ev_var rfl) ha fx (by decide) (show 0 < 900 by decide) fun H1 e1 => ?_
  refine q_fld (ev_nameTold (ev_var rfl) n1) (ev_var rfl) upd_same fx (by decide) (show 1 < 1000 by decide) fun H2 e2 => ?_
  refine q_fld (ev_nameTold (ev_var rfl) n2) (ev_var rfl) upd_same fx (by decide) (show 2 < 1000 by decide) fun H3 e3 => ?_
  refine q_fld (ev_nameTold (ev_var rfl) n3) (ev_var rfl) upd_same fx (by decide) (show 3 < 1000 by decide) fun H4 e4 => ?_
  have x4 := fun T => ((XB.ins (T := T) (.of (Ex.refl H)) e1 ha).ins (u := .ins (A .Lookup) dx [("function", v), ("key", .str x)]) e2 upd_same).ins (u := .ins (A .Lookup) dx [("function", v), ("key", .str x), ("other", .str y)]) e3 upd_same
  have x5 := fun T => (x4 T).ins (u := .ins (A .Lookup) dx [("function", v), ("key", .str x), ("other", .str y), ("theirs", .str z)]) e4 upd_same
  refine s_fldL (el_namesTold (ev_var rfl) ((x5 []).k p _ hp (by simpa using pa) fun _ z => nomatch z) hl hz) (ev_var rfl) upd_same fx (by decide) (show 4 < 1000 by decide) fun np H5 hn e5 h5 => ?_
  have na : np ≠ a := fun z => by rw [z, upd_same] at hn; cases hn
  exact k _ (fun T => (x5 T).ins e5 upd_same) ⟨np, (x5 []).n _ hn, (upd_ne na).trans h5, upd_same⟩
theorem r_Mend_init (fx : ClK K (A .Mend) ["function", "name"]) (vs : List V) (H : Hp) (Q : VK) (E : XK) (h : sp_Mend_init K A vs H Q E) : t_Mend_init K A E { nx := fun _ H' => Q .non H', rt := Q } (L2.start ["self", "name", "function"] vs) H := by
  obtain ⟨a, dx, z, v, rfl, ha, hz, k⟩ := h
  unfold t_Mend_init
  refine q_ruleInit (ev_var rfl) (ev_var rfl) ha fx (by decide) (show 0 < 900 by decide) fun H1 e1 => ?_
  refine s_fld (ev_nameTold (ev_var rfl) hz) (ev_var rfl) upd_same fx (by decide) (show 1 < 1000 by decide) fun H2 e2 => ?_
  exact k _ (fun T => (XB.ins (.of (Ex.refl H)) e1 ha).ins e2 upd_same) upd_same
end
end Z

set_option Elab.async false
set_option linter.all false
set_option autoImplicit false
set_option maxRecDepth 100000
set_option maxHeartbeats 4000000
/-! ev: what an expression comes to, by its form -/
local macro_rules | `(tactic| k_places) => `(tactic| (repeat' (first
  | (with_reducible exact ev_c)
  | (with_reducible exact ev_var rfl)
  | (with_reducible refine ev_chainLL ?_ ?_ ?_)
  | (with_reducible refine ev_chainLt ?_ ?_ ?_)
  | (with_reducible refine ev_op ?_ ?_ ?_)
  | (with_reducible refine ev_neg ?_)
  | (with_reducible refine et_test ?_)
  | (with_reducible refine et_B ?_)
  | (with_reducible refine et_not ?_)
  | (with_reducible refine et_and ?_ (fun _ => ?_))
  | (with_reducible refine et_or ?_ (fun _ => ?_))
  | (with_reducible refine ev_andV ?_ (fun _ => ?_))
  | (with_reducible refine ev_orV ?_ (fun _ => ?_))
  | (with_reducible refine ev_notV ?_)
  | (with_reducible exact rv_addI)
  | (with_reducible exact rv_subI)
  | (with_reducible exact rv_lt)
  | (with_reducible exact rv_le)
  | (with_reducible exact rv_gt)
  | (with_reducible exact rv_ge)
  | (with_reducible exact rv_isB)
  | (with_reducible exact rv_isnB)
  | (with_reducible exact rv_isN)
  | (with_reducible exact rv_isnN)
  | (with_reducible exact rv_eqS rfl)
  | (with_reducible exact rv_neS rfl)
  | (with_reducible exact rv_inStr)
  | (with_reducible exact rv_ninStr)
  | (with_reducible exact rv_mod (by first | decide | omega | assumption))
  | (with_reducible exact rv_div (by first | decide | omega | assumption))
  | (with_reducible exact rv_pow (by decide))
  | (with_reducible refine ed_i ?_; done)
  | (with_reducible exact ea_nil)
  | (with_reducible refine ea_cons ?_ ?_)
  | (with_reducible exact eds_nil)
  | (with_reducible refine eds_cons ?_ ?_)
  | (with_reducible exact ed_dnew)
  | (with_reducible refine ed_lst ?_ (by simp only [List.length_cons, List.length_nil]; omega))
  | (with_reducible refine ed_tup ?_ (by simp only [List.length_cons, List.length_nil]; omega)))))
namespace Z
open PySem PySem.Spec PyProof.Rows L2 Evl NdefX LamX
/-! ### what the kinds of rules gather -/
def pre (is : List Int) (sp : List Spot) (r : Res × List Spot) : Res × List Spot := (match r.1 with | .call js => .call (is ++ js) | .val x => .val x, sp ++ r.2)
theorem pre_pre {is js : List Int} {sp tp : List Spot} {r : Res × List Spot} : pre is sp (pre js tp r) = pre (is ++ js) (sp ++ tp) r := by
  obtain ⟨a, b⟩ := r
  cases a <;> simp [pre]
theorem pre_nil {r : Res × List Spot} : pre [] [] r = r := by
  obtain ⟨a, b⟩ := r
  cases a <;> simp [pre]
theorem pre_end {is : List Int} {sp : List Spot} : pre is sp (.call [], []) = (.call is, sp) := by simp [pre]
theorem pre_val {is : List Int} {sp l : List Spot} {x : Val} : pre is sp (.val x, l) = (.val x, sp ++ l) := rfl
def gCells (W : Spot → Val) (t : Str) (zs : List Str) (p : Int) : Res × List Spot := turn W (zs.map fun z => (t, z, p))
def gAbove (W : Spot → Val) (first : Int) (t c : Str) (zs : List Str) (p : Int) : Res × List Spot := if 0 < p then turn W ((t, c, p - 1) :: zs.map fun z => (t, z, p)) else pre [first] [] (turn W (zs.map fun z => (t, z, p)))
def grp (W : Spot → Val) (t key name : Str) (m : Int) : List Nat → Res × List Spot
  | [] => (.call [], [])
  | i :: r => if W (t, key, (i : Int)) = .inl m then (match W (t, name, (i : Int)) with
      | .inr w => (.val (.inr w), [(t, key, (i : Int)), (t, name, (i : Int))])
      | .inl x => pre [x] [(t, key, (i : Int)), (t, name, (i : Int))] (grp W t key name m r)) else pre [] [(t, key, (i : Int))] (grp W t key name m r)
def gGroup (W : Spot → Val) (R : Str → Nat) (t key name : Str) (p : Int) : Res × List Spot := match W (t, key, p) with
  | .inr w => (.val (.inr w), [(t, key, p)])
  | .inl m => pre [] [(t, key, p)] (grp W t key name m (List.range (R t)))
def lkp (W : Spot → Val) (o theirs : Str) (zs : List Str) (m : Int) : List Nat → Res × List Spot
  | [] => (.val (.inr "lacks"), [])
  | i :: r => pre [] [(o, theirs, (i : Int))] (if W (o, theirs, (i : Int)) = .inl m then turn W (zs.map fun z => (o, z, (i : Int))) else lkp W o theirs zs m r)
def gLookup (W : Spot → Val) (R : Str → Nat) (t key o theirs : Str) (zs : List Str) (p : Int) : Res × List Spot := match W (t, key, p) with
  | .inr w => (.val (.inr w), [(t, key, p)])
  | .inl m => pre [] [(t, key, p)] (lkp W o theirs zs m (List.range (R o)))
def gMend (W : Spot → Val) (t name : Str) (p : Int) : Res × List Spot := match W (t, name, p) with
  | .inr _ => (.call [], [(t, name, p)])
  | .inl i => (.val (.inl i), [(t, name, p)])
/-- the attribute of an instance -/
def Fld (H : Hp) (C a : Addr) (f : Str) (v : V) : Prop := ∃ dx fs, H a = some (.ins C dx fs) ∧ fs.lookup f = some v
theorem Fld.ex {H H' : Hp} {C a : Addr} {f : Str} {v : V} (h : Fld H C a f v) (e : Ex H H') : Fld H' C a f v := let ⟨dx, fs, a1, b⟩ := h; ⟨dx, fs, e _ _ a1, b⟩
theorem Fld.step {T : List (Addr × Str)} {F F' : List Addr} {H H' : Hp} {C a : Addr} {f : Str} {v : V} (h : Fld H C a f v) (n : a ∉ F) (s : Step T F H F' H') : Fld H' C a f v := let ⟨dx, fs, a1, b⟩ := h; ⟨dx, fs, s.x.k _ _ a1 n (fun _ z => nomatch z), b⟩
theorem Fld.upd {H : Hp} {C a p : Addr} {f : Str} {v : V} {xs : List V} {u : HO} (h : Fld H C a f v) (hp : H p = some (.lst xs)) : Fld (L2.upd H p u) C a f v := let ⟨dx, fs, a1, b⟩ := h; ⟨dx, fs, (upd_ne (ne_of a1 hp fun z => nomatch z)).trans a1, b⟩
def gOut (T : List (Addr × Str)) (J : List Addr → List Spot → Hp → Prop) (F : List Addr) (l : List Spot) (H : Hp) (Q : VK) (r : Res × List Spot) : Prop := ∀ v F' H', Step T F H F' H' → J F' (l ++ r.2) H' → Got H H' v r.1 → Q v H'
/-- the callables, the looker's own, the names and places -/
structure GIn (CA : Hp → Addr → Sp → Prop) (T : List (Addr × Str)) (Rv : List Addr) (J : List Addr → List Spot → Hp → Prop) (W : Spot → Val) (Dom : Spot → Prop) (R : Str → Nat) (Tm : Str → Prop) (F : List Addr) (l : List Spot) (H : Hp) (a f m : Addr) : Prop where
  ca : CA H f (spLook T J W Dom)
  cm : CA H m (spMany J R Tm)
  ask : Ask T Rv J W Dom
  few : ∀ t, Tm t → R t ≤ 30
  j : J F l H
  len : l.length ≤ 900
  aF : a ∉ F
def sp_Cells_gather (K : PySem.W.Frag) (A : Cn → Addr) (CA : Hp → Addr → Sp → Prop) : Sp := fun vs H Q _ => ∃ (a f m np : Addr) (zs : List Str) (t c : Str) (p : Int) (T : List (Addr × Str)) (Rv : List Addr) (J : List Addr → List Spot → Hp → Prop) (W : Spot → Val) (Dom : Spot → Prop) (R : Str → Nat) (Tm : Str → Prop) (F : List Addr) (l : List Spot),
  vs = [.ref a, .ref f, .ref m, .str t, .str c, .int p] ∧ Fld H (A .Cells) a "names" (.ref np) ∧ H np = some (.lst (zs.map V.str)) ∧ zs.length ≤ 6 ∧ GIn CA T Rv J W Dom R Tm F l H a f m ∧ (∀ z ∈ zs, Dom (t, z, p)) ∧ gOut T J F l H Q (gCells W t zs p)
def sp_Above_gather (K : PySem.W.Frag) (A : Cn → Addr) (CA : Hp → Addr → Sp → Prop) : Sp := fun vs H Q _ => ∃ (a f m np : Addr) (zs : List Str) (t c : Str) (p first : Int) (T : List (Addr × Str)) (Rv : List Addr) (J : List Addr → List Spot → Hp → Prop) (W : Spot → Val) (Dom : Spot → Prop) (R : Str → Nat) (Tm : Str → Prop) (F : List Addr) (l : List Spot),
  vs = [.ref a, .ref f, .ref m, .str t, .str c, .int p] ∧ Fld H (A .Above) a "names" (.ref np) ∧ Fld H (A .Above) a "first" (.int first) ∧ H np = some (.lst (zs.map V.str)) ∧ zs.length ≤ 6 ∧ GIn CA T Rv J W Dom R Tm F l H a f m ∧ (∀ z ∈ zs, Dom (t, z, p)) ∧ (0 < p → Dom (t, c, p - 1)) ∧ gOut T J F l H Q (gAbove W first t c zs p)
def sp_Group_gather (K : PySem.W.Frag) (A : Cn → Addr) (CA : Hp → Addr → Sp → Prop) : Sp := fun vs H Q _ => ∃ (a f m : Addr) (t c key name : Str) (p : Int) (T : List (Addr × Str)) (Rv : List Addr) (J : List Addr → List Spot → Hp → Prop) (W : Spot → Val) (Dom : Spot → Prop) (R : Str → Nat) (Tm : Str → Prop) (F : List Addr) (l : List Spot),
  vs = [.ref a, .ref f, .ref m, .str t, .str c, .int p] ∧ Fld H (A .Group) a "key" (.str key) ∧ Fld H (A .Group) a "name" (.str name) ∧ GIn CA T Rv J W Dom R Tm F l H a f m ∧ Tm t ∧ Dom (t, key, p) ∧ (∀ i : Nat, i < R t → Dom (t, key, (i : Int)) ∧ Dom (t, name, (i : Int))) ∧ gOut T J F l H Q (gGroup W R t key name p)
def sp_Lookup_gather (K : PySem.W.Frag) (A : Cn → Addr) (CA : Hp → Addr → Sp → Prop) : Sp := fun vs H Q _ => ∃ (a f m np : Addr) (zs : List Str) (t c key o theirs : Str) (p : Int) (T : List (Addr × Str)) (Rv : List Addr) (J : List Addr → List Spot → Hp → Prop) (W : Spot → Val) (Dom : Spot → Prop) (R : Str → Nat) (Tm : Str → Prop) (F : List Addr) (l : List Spot),
  vs = [.ref a, .ref f, .ref m, .str t, .str c, .int p] ∧ Fld H (A .Lookup) a "key" (.str key) ∧ Fld H (A .Lookup) a "other" (.str o) ∧ Fld H (A .Lookup) a "theirs" (.str theirs) ∧ Fld H (A .Lookup) a "names" (.ref np) ∧ np ∉ F ∧ H np = some (.lst (zs.map V.str)) ∧ zs.length ≤ 6 ∧
  GIn CA T Rv J W Dom R Tm F l H a f m ∧ Tm o ∧ Dom (t, key, p) ∧ (∀ i : Nat, i < R o → Dom (o, theirs, (i : Int)) ∧ ∀ z ∈ zs, Dom (o, z, (i : Int))) ∧ gOut T J F l H Q (gLookup W R t key o theirs zs p)
def sp_Mend_gather (K : PySem.W.Frag) (A : Cn → Addr) (CA : Hp → Addr → Sp → Prop) : Sp := fun vs H Q _ => ∃ (a f m : Addr) (t c name : Str) (p : Int) (T : List (Addr × Str)) (Rv : List Addr) (J : List Addr → List Spot → Hp → Prop) (W : Spot → Val) (Dom : Spot → Prop) (R : Str → Nat) (Tm : Str → Prop) (F : List Addr) (l : List Spot),
  vs = [.ref a, .ref f, .ref m, .str t, .str c, .int p] ∧ Fld H (A .Mend) a "name" (.str name) ∧ GIn CA T Rv J W Dom R Tm F l H a f m ∧ Dom (t, name, p) ∧ gOut T J F l H Q (gMend W t name p)
def t_Cells_gather (K : PySem.W.Frag) (CA : Hp → Addr → Sp → Prop) (E : XK) : TS :=
  tRet (tCallS (sp_looked K CA) (WE (fun cls d _ H => E cls d H)) (tCons (tVar 1) (tCons (tLc (iList K (tFld K (tVar 0) "names")) (gName 6) tYes (tTup (tCons (tVar 3) (tCons (tVar 6) (tCons (tVar 5) tNil)))) [6]) tNil)))
def t_Above_gather (K : PySem.W.Frag) (CA : Hp → Addr → Sp → Prop) (E : XK) : TS :=
  tSeq (tAsg (tLc (iList K (tFld K (tVar 0) "names")) (gName 9) tYes (tTup (tCons (tVar 3) (tCons (tVar 9) (tCons (tVar 5) tNil)))) [9]) (gName 6))
    (tSeq (tIfS (tTest (tOp rGtA (tVar 5) (tC (.int 0)))) (tRet (tCallS (sp_looked K CA) (WE (fun cls d _ H => E cls d H)) (tCons (tVar 1) (tCons (tOp (rAddA K) (tLst (tCons (tTup (tCons (tVar 3) (tCons (tVar 4) (tCons (tOp rSubA (tVar 5) (tC (.int 1))) tNil)))) tNil)) (tVar 6)) tNil)))) tNext)
    (tSeq (tAsg (tCallS (sp_looked K CA) (WE (fun cls d _ H => E cls d H)) (tCons (tVar 1) (tCons (tVar 6) tNil))) (gTup K 2 (gCons (gName 7) (gCons (gName 8) gNil))))
    (tSeq (tIfS (tTest (tOp (rEqA K) (tVar 7) (tC (.str "call")))) (tRet (tTup (tCons (tC (.str "call")) (tCons (tOp (rAddA K) (tLst (tCons (tFld K (tVar 0) "first") tNil)) (tVar 8)) tNil)))) tNext)
    (tRet (tTup (tCons (tVar 7) (tCons (tVar 8) tNil)))))))
def t_Group_gather (K : PySem.W.Frag) (CA : Hp → Addr → Sp → Prop) (E : XK) : TS :=
  tSeq (tAsg (tCallC CA 1 (tCons (tVar 3) (tCons (tFld K (tVar 0) "key") (tCons (tVar 5) tNil)))) (gName 6))
    (tSeq (tIfS (tB (tCallS (sp_is_fault K) (WE (fun cls d _ H => E cls d H)) (tCons (tVar 6) tNil))) (tRet (tTup (tCons (tC (.str "value")) (tCons (tVar 6) tNil)))) tNext)
    (tSeq (tAsg (tLst tNil) (gName 7))
    (tSeq (tFor (iRng1 (tCons (tCallC CA 2 (tCons (tVar 3) tNil)) tNil)) (gName 8) (tIfS (tTest (tOp (rEqA K) (tCallC CA 1 (tCons (tVar 3) (tCons (tFld K (tVar 0) "key") (tCons (tVar 8) tNil)))) (tVar 6))) (tSeq (tAsg (tCallC CA 1 (tCons (tVar 3) (tCons (tFld K (tVar 0) "name") (tCons (tVar 8) tNil)))) (gName 9))
    (tSeq (tIfS (tB (tCallS (sp_is_fault K) (WE (fun cls d _ H => E cls d H)) (tCons (tVar 9) tNil))) (tRet (tTup (tCons (tC (.str "value")) (tCons (tVar 9) tNil)))) tNext)
    (tDrop (tBM K "list" rAppend (tVar 7) (tCons (tVar 9) tNil))))) tNext))
    (tRet (tTup (tCons (tC (.str "call")) (tCons (tVar 7) tNil)))))))
def t_Lookup_gather (K : PySem.W.Frag) (A : Cn → Addr) (CA : Hp → Addr → Sp → Prop) (E : XK) : TS :=
  tSeq (tAsg (tCallC CA 1 (tCons (tVar 3) (tCons (tFld K (tVar 0) "key") (tCons (tVar 5) tNil)))) (gName 6))
    (tSeq (tIfS (tB (tCallS (sp_is_fault K) (WE (fun cls d _ H => E cls d H)) (tCons (tVar 6) tNil))) (tRet (tTup (tCons (tC (.str "value")) (tCons (tVar 6) tNil)))) tNext)
    (tSeq (tFor (iRng1 (tCons (tCallC CA 2 (tCons (tFld K (tVar 0) "other") tNil)) tNil)) (gName 7) (tIfS (tTest (tOp (rEqA K) (tCallC CA 1 (tCons (tFld K (tVar 0) "other") (tCons (tFld K (tVar 0) "theirs") (tCons (tVar 7) tNil)))) (tVar 6))) (tRet (tCallS (sp_looked K CA) (WE (fun cls d _ H => E cls d H)) (tCons (tVar 1) (tCons (tLc (iList K (tFld K (tVar 0) "names")) (gName 8) tYes (tTup (tCons (tFld K (tVar 0) "other") (tCons (tVar 8) (tCons (tVar 7) tNil)))) [8]) tNil)))) tNext))
    (tRet (tTup (tCons (tC (.str "value")) (tCons (tCallS (sp_fault K A) (WE (fun cls d _ H => E cls d H)) (tCons (tC (.str "lacks")) tNil)) tNil))))))
def t_Mend_gather (K : PySem.W.Frag) (CA : Hp → Addr → Sp → Prop) (E : XK) : TS :=
  tSeq (tAsg (tCallC CA 1 (tCons (tVar 3) (tCons (tFld K (tVar 0) "name") (tCons (tVar 5) tNil)))) (gName 6))
    (tSeq (tIfS (tB (tCallS (sp_is_fault K) (WE (fun cls d _ H => E cls d H)) (tCons (tVar 6) tNil))) (tRet (tTup (tCons (tC (.str "call")) (tCons (tLst tNil) tNil)))) tNext)
    (tRet (tTup (tCons (tC (.str "value")) (tCons (tVar 6) tNil)))))
section
variable {K : PySem.W.Frag} {A : Cn → Addr} {CA : Hp → Addr → Sp → Prop} {σ : L2.St} {H : Hp} {D : Ends} {tu tw tz : TS} {te ta : TE} {T : List (Addr × Str)} {Rv : List Addr} {J : List Addr → List Spot → Hp → Prop} {W : Spot → Val} {Dom : Spot → Prop} {R : Str → Nat} {Tm : Str → Prop} {F : List Addr} {l : List Spot} {a f m : Addr}
theorem len_Cells_gather (vs : List V) (H : Hp) (Q : VK) (E : XK) (h : sp_Cells_gather K A CA vs H Q E) : vs.length = 6 := by obtain ⟨_, _, _, _, _, _, _, _, _, _, _, _, _, _, _, _, _, rfl, _⟩ := h; rfl
theorem len_Above_gather (vs : List V) (H : Hp) (Q : VK) (E : XK) (h : sp_Above_gather K A CA vs H Q E) : vs.length = 6 := by obtain ⟨_, _, _, _, _, _, _, _, _, _, _, _, _, _, _, _, _, _, rfl, _⟩ := h; rfl
theorem len_Group_gather (vs : List V) (H : Hp) (Q : VK) (E : XK) (h : sp_Group_gather K A CA vs H Q E) : vs.length = 6 := by obtain ⟨_, _, _, _, _, _, _, _, _, _, _, _, _, _, _, _, _, rfl, _⟩ := h; rfl
theorem len_Lookup_gather (vs : List V) (H : Hp) (Q : VK) (E : XK) (h : sp_Lookup_gather K A CA vs H Q E) : vs.length = 6 := by obtain ⟨_, _, _, _, _, _, _, _, _, _, _, _, _, _, _, _, _, _, _, _, rfl, _⟩ := h; rfl
theorem len_Mend_gather (vs : List V) (H : Hp) (Q : VK) (E : XK) (h : sp_Mend_gather K A CA vs H Q E) : vs.length = 6 := by obtain ⟨_, _, _, _, _, _, _, _, _, _, _, _, _, _, _, _, rfl, _⟩ := h; rfl
theorem ev_Fld {C : Addr} {ns : List Str} {x : Str} {v : V} (h : Fld H C a x v) (c : ClK K C ns) (hf : x ∈ ns) (ha : Ev ta σ H (.ref a)) : Ev (tFld K ta x) σ H v := by
  obtain ⟨dx, fs, h1, h2⟩ := h
  exact ev_fld ha h1 c hf h2
/-- look(..) == x, as a test -/
theorem s_ifLook {i j : Nat} {s : Spot} {tas : TA} {v : V} {y : Val} (hc : CAst CA) (AK : Ask T Rv J W Dom) (hv : σ[i]? = some (some (.ref f))) (ca : CA H f (spLook T J W Dom)) (h : EvA tas σ H [.str s.1, .str s.2.1, .int s.2.2]) (hd : Dom s) (hl : l.length < 1000) (j0 : J F l H)
    (hw : σ[j]? = some (some v)) (rv : Vt H v (dV y)) (oy : okV y) (k1 : ∀ F' H', Step T F H F' H' → J F' (l ++ [s]) H' → W s = y → tu D σ H') (k2 : ∀ F' H', Step T F H F' H' → J F' (l ++ [s]) H' → W s ≠ y → tw D σ H') : tIfS (tTest (tOp (rEqA K) (tCallC CA i tas) (tVar j))) tu tw D σ H :=
  x_lookC (Q := fun u H1 => tVar j σ H1 fun w H2 => rEqA K u w H2 fun z H3 => ∃ b, z = .bl b ∧ if b = true then tu D σ H3 else tw D σ H3) hc AK hv ca h hd hl j0 fun u F' H' st ru j1 => ⟨v, hw, x_eqV (Q := fun b H3 => if b = true then tu D σ H3 else tw D σ H3) ru (rv.tup st.x.i.tup) (AK.ok s hd) oy fun H3 e3 => by
    by_cases e : W s = y
    · rw [decide_eq_true e, if_pos rfl]
      exact k1 F' H3 (st.trans (.of e3)) (AK.ex j1 e3) e
    · rw [decide_eq_false e, if_neg Bool.false_ne_true]
      exact k2 F' H3 (st.trans (.of e3)) (AK.ex j1 e3) e⟩
/-- [a spot] + a list of spots -/
theorem es_cons {tb : TE} {s : Spot} {ss : List Spot} {q : Addr} {xs : List V} (h : EvR te σ H (fun v H => AtS H v s)) (hb : Ev tb σ H (.ref q)) (hq : H q = some (.lst xs)) (r : AtSs H xs ss) (hl : ss.length ≤ 10000) : EvSs (tOp (rAddA K) (tLst (tCons te tNil)) tb) σ H (s :: ss) := fun H1 e Q k =>
  h H1 e _ fun u H2 e2 hu => ⟨sz_of (show 1 ≤ 100000 by decide), fun b hn => hb _ (e.trans (e2.trans (Ex.new hn))) _ fun H3 e3 => .inr (.inr (.inl ⟨b, q, [u], xs, rfl, rfl, e3 _ _ upd_same, (e.trans ((e2.trans (Ex.new hn)).trans e3)) _ _ hq, sz_of (by rw [r.1]; show 1 + ss.length ≤ 100000; omega), fun d hd => by
    have e5 : Ex H1 (L2.upd H3 d (.lst ([u] ++ xs))) := ((e2.trans (Ex.new hn)).trans e3).trans (Ex.new hd)
    refine k d _ _ (fresh_back ((e2.trans (Ex.new hn)).trans e3) hd) e5 upd_same ⟨by simp [r.1], fun i s' hs => ?_⟩
    cases i with
    | zero =>
      cases hs
      exact ⟨u, rfl, hu.tup (.of_ex (((Ex.new hn).trans e3).trans (Ex.new hd)))⟩
    | succ i =>
      obtain ⟨v, v1, v2⟩ := (r.tup (.of_ex (e.trans e5))).2 i s' (by simpa using hs)
      exact ⟨v, by simpa using v1, v2⟩⟩))⟩
theorem q_asgSs {i : Nat} {ss : List Spot} (h : EvSs te σ H ss) (k : ∀ p xs H1, H p = none → Ex H H1 → H1 p = some (.lst xs) → AtSs H1 xs ss → tz D (σ.set i (some (.ref p))) H1) : tSeq (tAsg te (gName i)) tz D σ H := h H (Ex.refl H) _ k
/-- return ("call", a new list) -/
theorem s_retCallL {xs : List V} (h : EvL te σ H xs) (k : ∀ a p H1, H p = none → Ex H H1 → H1 a = some (.tup [.str "call", .ref p]) → H1 p = some (.lst xs) → D.rt (.ref a) H1) : tRet (tTup (tCons (tC (.str "call")) (tCons te tNil))) D σ H :=
  h H (Ex.refl H) _ fun p H1 hp e1 h1 => ⟨sz_of (show 2 ≤ 100000 by decide), fun a ha => k a p _ hp (e1.trans (Ex.new ha)) upd_same ((upd_ne (ne_of_none h1 ha)).trans h1)⟩
/-- return ("value", a value that stands there) -/
theorem s_retVal {v : V} {x : Val} {Q : VK} (hQ : D.rt = Q) (h : Ev te σ H v) (r : Vt H v (dV x)) (H0 : Hp) (k : ∀ u H1, Ex H H1 → Got H0 H1 u (.val x) → Q u H1) : tRet (tTup (tCons (tC (.str "value")) (tCons te tNil))) D σ H :=
  s_retU (eu_tup (ea_cons ev_c (ea_cons h ea_nil)) (show 2 ≤ 100000 by decide)) fun a H1 _ e1 h1 => by
    rw [hQ]
    exact k _ H1 e1 ⟨a, v, rfl, h1, r.tup (.of_ex e1)⟩
/-- return looked(look, a new list of spots) -/
theorem s_retLooked {i : Nat} {E : L2.St → XK} {ss : List Spot} (hc : CAst CA) (AK : Ask T Rv J W Dom) (hv : σ[i]? = some (some (.ref f))) (ca : CA H f (spLook T J W Dom)) (h : EvSs te σ H ss) (hd : ∀ s ∈ ss, Dom s) (hl : l.length + ss.length ≤ 1000) (j0 : J F l H)
    (k : ∀ v F' H', Step T F H F' H' → J F' (l ++ (turn W ss).2) H' → Got H H' v (turn W ss).1 → D.rt v H') : tRet (tCallS (sp_looked K CA) E (tCons (tVar i) (tCons te tNil))) D σ H :=
  ⟨_, hv, h H (Ex.refl H) _ fun p xs H1 hp e1 h1 r => ⟨f, p, xs, ss, T, Rv, J, W, Dom, F, l, rfl, hc _ _ _ _ ca (.of e1), AK, h1, AK.off j0 hp, r, hd, AK.ex j0 e1, hl, fun v F' H' st j1 g => k v F' H' ((Step.of e1).trans st) j1 (by
    cases hr : (turn W ss).1 with
    | val x => rw [hr] at g; exact g
    | call is =>
      rw [hr] at g
      obtain ⟨a, q, g1, g2, g3, g4⟩ := g
      exact ⟨a, q, g1, g2, g3, fresh_back e1 g4⟩)⟩⟩
theorem Got.back {H H0 H' : Hp} {v : V} {r : Res} (g : Got H H' v r) (n : ∀ a, H a = none → H0 a = none) : Got H0 H' v r := by
  cases r with
  | val x => exact g
  | call is =>
    obtain ⟨a, p, g1, g2, g3, g4⟩ := g
    exact ⟨a, p, g1, g2, g3, n _ g4⟩
theorem Got.ex {H H0 H' : Hp} {v : V} {r : Res} (g : Got H H0 v r) (e : Ex H0 H') : Got H H' v r := by
  cases r with
  | val x =>
    obtain ⟨a, u, g1, g2, g3⟩ := g
    exact ⟨a, u, g1, e _ _ g2, g3.tup (.of_ex e)⟩
  | call is =>
    obtain ⟨a, p, g1, g2, g3, g4⟩ := g
    exact ⟨a, p, g1, e _ _ g2, e _ _ g3, g4⟩
theorem r_Cells_gather (hc : CAst CA) (fx : ClK K (A .Cells) ["function", "names"]) (vs : List V) (H : Hp) (Q : VK) (E : XK) (h : sp_Cells_gather K A CA vs H Q E) : t_Cells_gather K CA E { nx := fun _ H' => Q .non H', rt := Q } (L2.start ["self", "look", "many", "table", "column", "place", "name"] vs) H := by
  obtain ⟨a, f, m, np, zs, t, c, p, T, Rv, J, W, Dom, R, Tm, F, l, rfl, fn, hn, hz, G, hd, k⟩ := h
  unfold t_Cells_gather
  have hlen := G.len
  refine s_retLooked hc G.ask rfl G.ca (es_lc (fun z => (t, z, p)) (ev_Fld fn fx (by decide) (ev_var rfl)) (SqL.of hn) (by omega) (fun _ => rfl) fun z H1 e1 _ => er_spot (ev_var rfl) (ev_var rfl) (ev_var rfl)) (fun s hs => ?_) (by rw [List.length_map]; omega) G.j k
  obtain ⟨z, hz, rfl⟩ := List.mem_map.mp hs
  exact hd z hz
theorem r_Mend_gather (hc : CAst CA) (fx : ClK K (A .Mend) ["function", "name"]) (vs : List V) (H : Hp) (Q : VK) (E : XK) (h : sp_Mend_gather K A CA vs H Q E) : t_Mend_gather K CA E { nx := fun _ H' => Q .non H', rt := Q } (L2.start ["self", "look", "many", "table", "column", "place", "value"] vs) H := by
  obtain ⟨a, f, m, t, c, name, p, T, Rv, J, W, Dom, R, Tm, F, l, rfl, fn, G, hd, k⟩ := h
  unfold t_Mend_gather
  have hlen := G.len
  unfold gMend at k
  refine q_lookC (s := (t, name, p)) hc G.ask rfl G.ca (ea_cons (ev_var rfl) (ea_cons (ev_Fld fn fx (by decide) (ev_var rfl)) (ea_cons (ev_var rfl) ea_nil))) hd (by omega) G.j fun v F1 H1 st rv j1 => ?_
  refine q_when (et_B (ev_isflt (ev_var rfl) rv (G.ask.ok _ hd))) (fun hb H2 e2 => ?_) (fun hb H2 e2 => ?_)
  · cases hw : W (t, name, p) with
    | inl i => rw [hw] at hb; cases hb
    | inr w =>
      rw [hw] at k
      exact s_retCallL (el_lst ea_nil (by decide)) fun a q H3 hq e3 h3 h4 => k _ F1 H3 (st.trans (.of (e2.trans e3))) (G.ask.ex j1 (e2.trans e3)) ⟨a, q, rfl, h3, h4, st.x.n q (fresh_back e2 hq)⟩
  · cases hw : W (t, name, p) with
    | inr w => rw [hw] at hb; cases hb
    | inl i =>
      rw [hw] at k rv
      exact s_retVal rfl (ev_var rfl) (rv.tup (.of_ex e2)) H fun u H3 e3 g => k _ F1 H3 (st.trans (.of (e2.trans e3))) (G.ask.ex j1 (e2.trans e3)) g
theorem r_Group_gather (hc : CAst CA) (fx : ClK K (A .Group) ["function", "key", "name"]) (vs : List V) (H : Hp) (Q : VK) (E : XK) (h : sp_Group_gather K A CA vs H Q E) :
    t_Group_gather K CA E { nx := fun _ H' => Q .non H', rt := Q } (L2.start ["self", "look", "many", "table", "column", "place", "mine", "found", "at", "value"] vs) H := by
  obtain ⟨a, f, m, t, c, key, name, p, T, Rv, J, W, Dom, R, Tm, F, l, rfl, fk, fn, G, ht, hd, hds, k⟩ := h
  unfold t_Group_gather
  have hlen := G.len
  have few := G.few t ht
  unfold gGroup at k
  refine q_lookC (s := (t, key, p)) hc G.ask rfl G.ca (ea_cons (ev_var rfl) (ea_cons (ev_Fld fk fx (by decide) (ev_var rfl)) (ea_cons (ev_var rfl) ea_nil))) hd (by omega) G.j fun v F1 H1 st rv j1 => ?_
  refine q_when (et_B (ev_isflt (ev_var rfl) rv (G.ask.ok _ hd))) (fun hb H2 e2 => ?_) (fun hb H2 e2 => ?_)
  · cases hw : W (t, key, p) with
    | inl i => rw [hw] at hb; cases hb
    | inr w =>
      rw [hw] at k rv
      exact s_retVal rfl (ev_var rfl) (rv.tup (.of_ex e2)) H fun u H3 e3 g => k _ F1 H3 (st.trans (.of (e2.trans e3))) (G.ask.ex j1 (e2.trans e3)) g
  cases hw : W (t, key, p) with
  | inr w => rw [hw] at hb; cases hb
  | inl mine =>
  rw [hw] at k rv
  dsimp only at k
  obtain rfl : v = .int mine := by cases rv; rfl
  have om : okV (.inl mine) := by rw [← hw]; exact G.ask.ok _ hd
  have st2 : Step T F H F1 H2 := st.trans (.of e2)
  have j2 := G.ask.ex j1 e2
  have aF1 : a ∉ F1 := fun z => (st2.f a z).elim G.aF fun q => by obtain ⟨_, _, q2, _⟩ := fk; rw [q] at q2; cases q2
  refine q_asgL (el_lst ea_nil (by decide)) fun q H3 hq e3 h3 => ?_
  have qF : q ∉ F1 := G.ask.off j2 hq
  have qR : q ∉ Rv := G.ask.offR j2 hq
  have st3 : Step T F H F1 H3 := st2.trans (.of e3)
  refine q_forR1 (n := (R t : Int)) (ea_cons (ev_manyC hc G.ask rfl (hc _ _ _ _ G.cm st3.x.i.kp) (ea_cons (ev_var rfl) ea_nil) ht (G.ask.ex j2 e3)) ea_nil) (by omega)
    (fun i σ H' => ∃ (x8 x9 : Option V) (F' : List Addr) (is : List Int) (sp : List Spot), σ = [some (.ref a), some (.ref f), some (.ref m), some (.str t), some (.str c), some (.int p), some (.int mine), some (.ref q), x8, x9] ∧ Step T F H F' H' ∧ J F' (l ++ sp) H' ∧ H' q = some (.lst (is.map V.int)) ∧ q ∉ F' ∧ sp.length ≤ 1 + 2 * i ∧ is.length ≤ i ∧
      pre [] [(t, key, p)] (grp W t key name mine (List.range (R t))) = pre is sp (grp W t key name mine ((List.range (R t)).drop i)))
    (fun H4 e4 => ⟨_, _, F1, [], [(t, key, p)], rfl, st3.trans (.of e4), G.ask.ex j2 (e3.trans e4), e4 _ _ h3, qF, by simp, by simp, by rw [List.drop_zero]⟩) ?_ ?_
  · rintro i σ H4 hi ⟨x8, x9, F4, is, sp, rfl, st4, j4, hq4, qF4, hsp, his, hpre⟩
    have hi' : i < R t := by omega
    have dr : (List.range (R t)).drop i = i :: (List.range (R t)).drop (i + 1) := by
      rw [List.drop_eq_getElem_cons (by simpa using hi'), List.getElem_range]
    rw [dr] at hpre
    have fk4 := fk.step G.aF st4
    have fn4 := fn.step G.aF st4
    refine s_ifLook (s := (t, key, (i : Int))) hc G.ask rfl (hc _ _ _ _ G.ca st4.x.i.kp) (ea_cons (ev_var rfl) (ea_cons (ev_Fld fk4 fx (by decide) (ev_var rfl)) (ea_cons (ev_var rfl) ea_nil))) (hds i hi').1 (by rw [List.length_append]; omega) j4 rfl (.int mine) om (fun F5 H5 st5 j5 e => ?_) (fun F5 H5 st5 j5 e => ?_)
    · have st45 := st4.trans st5
      have hq5 : H5 q = some (.lst (is.map V.int)) := st5.x.k q _ hq4 qF4 fun _ z => nomatch z
      have qF5 := Step.off qF4 hq4 st5
      refine q_lookC (s := (t, name, (i : Int))) hc G.ask rfl (hc _ _ _ _ G.ca st45.x.i.kp) (ea_cons (ev_var rfl) (ea_cons (ev_Fld (fn.step G.aF st45) fx (by decide) (ev_var rfl)) (ea_cons (ev_var rfl) ea_nil))) (hds i hi').2 (by simp only [List.length_append, List.length_cons, List.length_nil]; omega) j5 fun v6 F6 H6 st6 rv6 j6 => ?_
      have st46 := st45.trans st6
      have hq6 : H6 q = some (.lst (is.map V.int)) := st6.x.k q _ hq5 qF5 fun _ z => nomatch z
      have qF6 := Step.off qF5 hq5 st6
      have g1 : grp W t key name mine (i :: (List.range (R t)).drop (i + 1)) = (match W (t, name, (i : Int)) with
          | .inr w => (.val (.inr w), [(t, key, (i : Int)), (t, name, (i : Int))])
          | .inl x => pre [x] [(t, key, (i : Int)), (t, name, (i : Int))] (grp W t key name mine ((List.range (R t)).drop (i + 1)))) := by
        rw [grp, if_pos e]
      rw [List.append_assoc, List.append_assoc] at j6
      refine q_when (et_B (ev_isflt (ev_var rfl) rv6 (G.ask.ok _ (hds i hi').2))) (fun hb H7 e7 => ?_) (fun hb H7 e7 => ?_)
      · cases hw6 : W (t, name, (i : Int)) with
        | inl i => rw [hw6] at hb; cases hb
        | inr w =>
          rw [hw6] at rv6 g1
          dsimp only at g1
          rw [hpre, g1, pre_val] at k
          exact s_retVal rfl (ev_var rfl) (rv6.tup (.of_ex e7)) H fun u H8 e8 g => k _ F6 H8 (st46.trans (.of (e7.trans e8))) (G.ask.ex j6 (e7.trans e8)) g
      · cases hw6 : W (t, name, (i : Int)) with
        | inr w => rw [hw6] at hb; cases hb
        | inl x =>
          rw [hw6] at rv6 g1
          dsimp only at g1
          obtain rfl : v6 = .int x := by cases rv6; rfl
          refine s_app (e7 _ _ hq6) (ev_var rfl) (ev_var rfl) (by rw [List.length_map]; omega) fun H8 e8 => ?_
          have e78 := e7.trans e8
          refine ⟨_, _, F6, is ++ [x], sp ++ [(t, key, (i : Int)), (t, name, (i : Int))], rfl, (st46.trans (.of e78)).updN (st2.x.n q hq) (e78 _ _ hq6) (fun z => z) (fun _ z => nomatch z), G.ask.upd (G.ask.ex j6 e78) qF6 qR (e78 _ _ hq6) (fun z => z) (fun _ z => nomatch z), ?_, qF6, ?_, ?_, ?_⟩
          · rw [List.map_append]
            exact upd_same
          · simp only [List.length_append, List.length_cons, List.length_nil]; omega
          · simp only [List.length_append, List.length_cons, List.length_nil]; omega
          · rw [hpre, g1, pre_pre]
    · have g1 : grp W t key name mine (i :: (List.range (R t)).drop (i + 1)) = pre [] [(t, key, (i : Int))] (grp W t key name mine ((List.range (R t)).drop (i + 1))) := by
        rw [grp, if_neg e]
      rw [List.append_assoc] at j5
      refine ⟨_, _, F5, is, sp ++ [(t, key, (i : Int))], rfl, st4.trans st5, j5, st5.x.k q _ hq4 qF4 (fun _ z => nomatch z), Step.off qF4 hq4 st5, ?_, by omega, ?_⟩
      · simp only [List.length_append, List.length_cons, List.length_nil]; omega
      · rw [hpre, g1, pre_pre, List.append_nil]
  · rintro σ H4 ⟨x8, x9, F4, is, sp, rfl, st4, j4, hq4, qF4, hsp, his, hpre⟩
    have dr : (List.range (R t)).drop (R t : Int).toNat = [] := by
      rw [List.drop_eq_nil_iff]
      simp
    rw [dr, grp, pre_end] at hpre
    rw [hpre] at k
    refine s_retU (eu_tup (ea_cons ev_c (ea_cons (ev_var rfl) ea_nil)) (show 2 ≤ 100000 by decide)) fun b H5 _ e5 h5 => ?_
    exact k _ F4 H5 (st4.trans (.of e5)) (G.ask.ex j4 e5) ⟨b, q, rfl, h5, e5 _ _ hq4, st2.x.n q hq⟩
theorem r_Lookup_gather (hc : CAst CA) (fx : ClK K (A .Lookup) ["function", "key", "other", "theirs", "names"]) (vs : List V) (H : Hp) (Q : VK) (E : XK) (h : sp_Lookup_gather K A CA vs H Q E) :
    t_Lookup_gather K A CA E { nx := fun _ H' => Q .non H', rt := Q } (L2.start ["self", "look", "many", "table", "column", "place", "mine", "at", "name"] vs) H := by
  obtain ⟨a, f, m, np, zs, t, c, key, o, theirs, p, T, Rv, J, W, Dom, R, Tm, F, l, rfl, fk, fo, ft, fn, npF, hn, hz, G, ht, hd, hds, k⟩ := h
  unfold t_Lookup_gather
  have hlen := G.len
  have few := G.few o ht
  unfold gLookup at k
  refine q_lookC (s := (t, key, p)) hc G.ask rfl G.ca (ea_cons (ev_var rfl) (ea_cons (ev_Fld fk fx (by decide) (ev_var rfl)) (ea_cons (ev_var rfl) ea_nil))) hd (by omega) G.j fun v F1 H1 st rv j1 => ?_
  refine q_when (et_B (ev_isflt (ev_var rfl) rv (G.ask.ok _ hd))) (fun hb H2 e2 => ?_) (fun hb H2 e2 => ?_)
  · cases hw : W (t, key, p) with
    | inl i => rw [hw] at hb; cases hb
    | inr w =>
      rw [hw] at k rv
      exact s_retVal rfl (ev_var rfl) (rv.tup (.of_ex e2)) H fun u H3 e3 g => k _ F1 H3 (st.trans (.of (e2.trans e3))) (G.ask.ex j1 (e2.trans e3)) g
  cases hw : W (t, key, p) with
  | inr w => rw [hw] at hb; cases hb
  | inl mine =>
  rw [hw] at k rv
  dsimp only at k
  obtain rfl : v = .int mine := by cases rv; rfl
  have om : okV (.inl mine) := by rw [← hw]; exact G.ask.ok _ hd
  have st2 : Step T F H F1 H2 := st.trans (.of e2)
  have j2 := G.ask.ex j1 e2
  have fo2 := fo.step G.aF st2
  refine q_forR1 (n := (R o : Int)) (ea_cons (ev_manyC hc G.ask rfl (hc _ _ _ _ G.cm st2.x.i.kp) (ea_cons (ev_Fld fo2 fx (by decide) (ev_var rfl)) ea_nil) ht j2) ea_nil) (by omega)
    (fun i σ H' => ∃ (x7 : Option V) (F' : List Addr) (sp : List Spot), σ = [some (.ref a), some (.ref f), some (.ref m), some (.str t), some (.str c), some (.int p), some (.int mine), x7, none] ∧ Step T F H F' H' ∧ J F' (l ++ sp) H' ∧ sp.length ≤ 1 + i ∧
      pre [] [(t, key, p)] (lkp W o theirs zs mine (List.range (R o))) = pre [] sp (lkp W o theirs zs mine ((List.range (R o)).drop i)))
    (fun H4 e4 => ⟨_, F1, [(t, key, p)], rfl, st2.trans (.of e4), G.ask.ex j2 e4, by simp, by rw [List.drop_zero]⟩) ?_ ?_
  · rintro i σ H4 hi ⟨x7, F4, sp, rfl, st4, j4, hsp, hpre⟩
    have hi' : i < R o := by omega
    have dr : (List.range (R o)).drop i = i :: (List.range (R o)).drop (i + 1) := by
      rw [List.drop_eq_getElem_cons (by simpa using hi'), List.getElem_range]
    rw [dr] at hpre
    refine s_ifLook (s := (o, theirs, (i : Int))) hc G.ask rfl (hc _ _ _ _ G.ca st4.x.i.kp) (ea_cons (ev_Fld (fo.step G.aF st4) fx (by decide) (ev_var rfl)) (ea_cons (ev_Fld (ft.step G.aF st4) fx (by decide) (ev_var rfl)) (ea_cons (ev_var rfl) ea_nil))) (hds i hi').1 (by rw [List.length_append]; omega) j4 rfl (.int mine) om (fun F5 H5 st5 j5 e => ?_) (fun F5 H5 st5 j5 e => ?_)
    · have st45 := st4.trans st5
      have g1 : lkp W o theirs zs mine (i :: (List.range (R o)).drop (i + 1)) = pre [] [(o, theirs, (i : Int))] (turn W (zs.map fun z => (o, z, (i : Int)))) := by
        rw [lkp, if_pos e]
      rw [hpre, g1, pre_pre] at k
      refine s_retLooked hc G.ask rfl (hc _ _ _ _ G.ca st45.x.i.kp) (es_lc (fun z => (o, z, (i : Int))) (ev_Fld (fn.step G.aF st45) fx (by decide) (ev_var rfl)) (SqL.of (st45.x.k _ _ hn npF fun _ z => nomatch z)) (by omega) (fun _ => rfl) fun z H6 e6 _ =>
        er_spot (ev_Fld ((fo.step G.aF st45).ex e6) fx (by decide) (ev_var rfl)) (ev_var rfl) (ev_var rfl)) (fun s hs => ?_) (by simp only [List.length_append, List.length_cons, List.length_nil, List.length_map]; omega) j5 fun v F6 H6 st6 j6 g => k v F6 H6 (st45.trans st6) ?_ ?_
      · obtain ⟨z, hz, rfl⟩ := List.mem_map.mp hs
        exact (hds i hi').2 z hz
      · rw [List.append_assoc, List.append_assoc] at j6
        simpa [pre] using j6
      · have g2 := g.back (H0 := H) fun x hx => st45.x.n x hx
        simp only [pre]
        cases hr : (turn W (zs.map fun z => (o, z, (i : Int)))).1 with
        | val x => rw [hr] at g2; exact g2
        | call is => rw [hr] at g2; simpa using g2
    · have g1 : lkp W o theirs zs mine (i :: (List.range (R o)).drop (i + 1)) = pre [] [(o, theirs, (i : Int))] (lkp W o theirs zs mine ((List.range (R o)).drop (i + 1))) := by
        rw [lkp, if_neg e]
      rw [List.append_assoc] at j5
      refine ⟨_, F5, sp ++ [(o, theirs, (i : Int))], rfl, st4.trans st5, j5, ?_, ?_⟩
      · simp only [List.length_append, List.length_cons, List.length_nil]; omega
      · rw [hpre, g1, pre_pre]
        rfl
  · rintro σ H4 ⟨x7, F4, sp, rfl, st4, j4, hsp, hpre⟩
    have dr : (List.range (R o)).drop (R o : Int).toNat = [] := by
      rw [List.drop_eq_nil_iff]
      simp
    rw [dr, lkp, pre_val, List.append_nil] at hpre
    rw [hpre] at k
    exact ed_fault (K := K) (A := A) (d := .str "lacks") (ed_s ev_c) (show ("lacks" : Str).length ≤ 30000 by decide +kernel) (by decide +kernel) H4 (Ex.refl H4) _ fun u H5 e5 r5 => ⟨sz_of (show 2 ≤ 100000 by decide), fun b hb => k _ F4 _ (st4.trans (.of (e5.trans (Ex.new hb)))) (G.ask.ex j4 (e5.trans (Ex.new hb))) ⟨b, u, rfl, upd_same, (vt_of r5 (by decide +kernel)).tup (.of_ex (Ex.new hb))⟩⟩
theorem r_Above_gather (hc : CAst CA) (fx : ClK K (A .Above) ["function", "names", "first"]) (vs : List V) (H : Hp) (Q : VK) (E : XK) (h : sp_Above_gather K A CA vs H Q E) :
    t_Above_gather K CA E { nx := fun _ H' => Q .non H', rt := Q } (L2.start ["self", "look", "many", "table", "column", "place", "cells", "kind", "told", "name"] vs) H := by
  obtain ⟨a, f, m, np, zs, t, c, p, first, T, Rv, J, W, Dom, R, Tm, F, l, rfl, fn, ff, hn, hz, G, hd, hd2, k⟩ := h
  unfold t_Above_gather
  have hlen := G.len
  unfold gAbove at k
  have hdz : ∀ s ∈ zs.map (fun z => ((t, z, p) : Spot)), Dom s := fun s hs => by
    obtain ⟨z, hz, rfl⟩ := List.mem_map.mp hs
    exact hd z hz
  refine q_asgSs (es_lc (fun z => (t, z, p)) (ev_Fld fn fx (by decide) (ev_var rfl)) (SqL.of hn) (by omega) (fun _ => rfl) fun z H1 e1 _ => er_spot (ev_var rfl) (ev_var rfl) (ev_var rfl)) fun q xs H1 hq e1 h1 r1 => ?_
  have j1 := G.ask.ex G.j e1
  refine q_when (et_test (ev_op (ev_var rfl) ev_c rv_gt)) (fun hb H2 e2 => ?_) (fun hb H2 e2 => ?_)
  · have hp : 0 < p := by simpa using hb
    rw [if_pos hp] at k
    refine s_retLooked (ss := (t, c, p - 1) :: zs.map fun z => (t, z, p)) hc G.ask rfl (hc _ _ _ _ G.ca (.of (e1.trans e2))) (fun H3 e3 Q3 q3 => ?_) (fun s hs => ?_) (by simp only [List.length_cons, List.length_map]; omega) (G.ask.ex j1 e2) fun v F6 H6 st6 j6 g => k v F6 H6 ((Step.of (e1.trans e2)).trans st6) j6 (g.back fun x hx => fresh_back (e1.trans e2) hx)
    · exact es_cons (er_spot (s := (t, c, p - 1)) (ev_var rfl) (ev_var rfl) (ev_op (ev_var rfl) ev_c rv_subI)) (ev_var rfl) ((e2.trans e3) _ _ h1) (r1.tup (.of_ex (e2.trans e3))) (by rw [List.length_map]; omega) H3 (Ex.refl H3) Q3 q3
    · rcases List.mem_cons.mp hs with z | z
      · rw [z]
        exact hd2 hp
      · exact hdz s z
  · have hp : ¬ 0 < p := by simpa using hb
    rw [if_neg hp] at k
    have e12 := e1.trans e2
    refine ⟨_, rfl, _, rfl, f, q, xs, zs.map fun z => (t, z, p), T, Rv, J, W, Dom, F, l, rfl, hc _ _ _ _ G.ca (.of e12), G.ask, e2 _ _ h1, G.ask.off G.j hq, r1.tup (.of_ex e2), hdz, G.ask.ex j1 e2, by rw [List.length_map]; omega, fun v F3 H3 st3 j3 g => ?_⟩
    have st := (Step.of (T := T) (F := F) e12).trans st3
    have aF3 : a ∉ F3 := fun z => (st.f a z).elim G.aF fun q => by obtain ⟨_, _, q2, _⟩ := fn; rw [q] at q2; cases q2
    cases hr : turn W (zs.map fun z => (t, z, p)) with
    | mk res asked =>
    rw [hr] at g j3 k
    cases res with
    | val x =>
      obtain ⟨b, u, rfl, g1, g2⟩ := g
      refine g_two rfl g1 ?_
      refine q_when (b := false) (et_is (et_test (ev_op (ev_var rfl) ev_c (rv_eqS rfl))) (by decide +kernel)) (fun hb => nomatch hb) fun _ H4 e4 => ?_
      refine s_retU (eu_tup (ea_cons (ev_var rfl) (ea_cons (ev_var rfl) ea_nil)) (show 2 ≤ 100000 by decide)) fun d H5 _ e5 h5 => ?_
      exact k _ F3 H5 (st.trans (.of (e4.trans e5))) (G.ask.ex j3 (e4.trans e5)) ⟨d, u, rfl, h5, g2.tup (.of_ex (e4.trans e5))⟩
    | call is =>
      obtain ⟨b, u, rfl, g1, g2, g3⟩ := g
      refine g_two rfl g1 ?_
      refine q_when (b := true) (et_is (et_test (ev_op (ev_var rfl) ev_c (rv_eqS rfl))) (by decide +kernel)) (fun _ H4 e4 => ?_) (fun hb => nomatch hb)
      have lis : is.length ≤ 6 := by
        have : ∀ ss : List Spot, ∀ js l, turn W ss = (.call js, l) → js.length ≤ ss.length := by
          intro ss
          induction ss with
          | nil => intro js l h; cases h; exact Nat.le_refl _
          | cons s r ih =>
            intro js l h
            rw [turn] at h
            cases hs : W s with
            | inr w => rw [hs] at h; cases h
            | inl i =>
              rw [hs] at h
              cases hq : turn W r with
              | mk a b =>
                rw [hq] at h
                cases a with
                | val x => cases h
                | call ks =>
                  cases h
                  have := ih ks _ hq
                  simpa using this
        have := this _ _ _ hr
        rw [List.length_map] at this
        omega
      refine s_retCallL (xs := (first :: is).map V.int) (fun H5 e5 Q5 q5 => ?_) fun d y H6 hy e6 h6 h7 => ?_
      · refine (el_lst (ea_cons (ev_Fld (((ff.step G.aF st).ex e4)) fx (by decide) (ev_var rfl)) ea_nil) (show 1 ≤ 100000 by decide)) H5 e5 _ fun d H6 hd6 e6 h6 => ⟨_, rfl, .inr (.inr (.inl ⟨d, u, _, _, rfl, rfl, h6, ((e4.trans e5).trans e6) _ _ g2, sz_of (by rw [List.length_map]; show 1 + is.length ≤ 100000; omega), fun w hw => ?_⟩))⟩
        exact q5 w _ (fresh_back e6 hw) (e6.trans (Ex.new hw)) upd_same
      · refine k _ F3 H6 (st.trans (.of (e4.trans e6))) (by simpa [pre] using G.ask.ex j3 (e4.trans e6)) ?_
        refine ⟨d, y, rfl, h6, ?_, st.x.n y (fresh_back e4 hy)⟩
        simpa [pre] using h7
end
end Z

set_option Elab.async false
set_option linter.all false
set_option autoImplicit false
set_option maxRecDepth 100000
set_option maxHeartbeats 4000000
/-! ev: what an expression comes to, by its form -/
local macro_rules | `(tactic| k_places) => `(tactic| (repeat' (first
  | (with_reducible exact ev_c)
  | (with_reducible exact ev_var rfl)
  | (with_reducible refine ev_chainLL ?_ ?_ ?_)
  | (with_reducible refine ev_chainLt ?_ ?_ ?_)
  | (with_reducible refine ev_op ?_ ?_ ?_)
  | (with_reducible refine ev_neg ?_)
  | (with_reducible refine et_test ?_)
  | (with_reducible refine et_B ?_)
  | (with_reducible refine et_not ?_)
  | (with_reducible refine et_and ?_ (fun _ => ?_))
  | (with_reducible refine et_or ?_ (fun _ => ?_))
  | (with_reducible refine ev_andV ?_ (fun _ => ?_))
  | (with_reducible refine ev_orV ?_ (fun _ => ?_))
  | (with_reducible refine ev_notV ?_)
  | (with_reducible exact rv_addI)
  | (with_reducible exact rv_subI)
  | (with_reducible exact rv_lt)
  | (with_reducible exact rv_le)
  | (with_reducible exact rv_gt)
  | (with_reducible exact rv_ge)
  | (with_reducible exact rv_isB)
  | (with_reducible exact rv_isnB)
  | (with_reducible exact rv_isN)
  | (with_reducible exact rv_isnN)
  | (with_reducible exact rv_eqS rfl)
  | (with_reducible exact rv_neS rfl)
  | (with_reducible exact rv_inStr)
  | (with_reducible exact rv_ninStr)
  | (with_reducible exact rv_mod (by first | decide | omega | assumption))
  | (with_reducible exact rv_div (by first | decide | omega | assumption))
  | (with_reducible exact rv_pow (by decide))
  | (with_reducible refine ed_i ?_; done)
  | (with_reducible exact ea_nil)
  | (with_reducible refine ea_cons ?_ ?_)
  | (with_reducible exact eds_nil)
  | (with_reducible refine eds_cons ?_ ?_)
  | (with_reducible exact ed_dnew)
  | (with_reducible refine ed_lst ?_ (by simp only [List.length_cons, List.length_nil]; omega))
  | (with_reducible refine ed_tup ?_ (by simp only [List.length_cons, List.length_nil]; omega)))))
namespace Z
open PySem PySem.Spec PyProof.Rows L2 Evl NdefX LamX
/-! ### drawn numbers -/
def drawn (ns : List Int) (k : Nat) (size : Int) : Int :=
  (104729 * (k : Int) * k + 48271 + (if 0 < ns.length then ns.getD (k % ns.length) 0 % 10 ^ 40 * (2 * (k : Int) + 69621) else 0)) % 2147483647 / 3 % size
theorem drawn_bd (ns : List Int) (k : Nat) {size : Int} (h : 0 < size) : 0 ≤ drawn ns k size ∧ drawn ns k size < size := emod_bd _ h
def sp_law_drawn (K : PySem.W.Frag) : Sp := fun vs H Q _ => ∃ (l : Addr) (ns : List Int) (j : Nat) (size : Int), vs = [.ref l, .int (j : Int), .int size] ∧ SqL K H l (ns.map V.int) ∧ j ≤ 100000 ∧ 0 < size ∧ RetV (.int (drawn ns j size)) H Q
def t_law_drawn (K : PySem.W.Frag) (E : XK) : TS :=
  tSeq (tAsg (tOp (rAddA K) (tOp (rMulA K) (tOp (rMulA K) (tC (.int 104729)) (tVar 1)) (tVar 1)) (tC (.int 48271))) (gName 3))
    (tSeq (tIfS (tTest (tOp rGtA (tCB (rLenA K) (tCons (tVar 0) tNil)) (tC (.int 0)))) (tAsg (tOp (rAddA K) (tVar 3) (tOp (rMulA K) (tOp rModA (tOp (rIxA K) (tVar 0) (tOp rModA (tVar 1) (tCB (rLenA K) (tCons (tVar 0) tNil)))) (tOp rPowA (tC (.int 10)) (tC (.int 40)))) (tOp (rAddA K) (tOp (rMulA K) (tC (.int 2)) (tVar 1)) (tC (.int 69621))))) (gName 3)) tNext)
    (tRet (tOp rModA (tOp rDivA (tOp rModA (tVar 3) (tC (.int 2147483647))) (tC (.int 3))) (tVar 2))))
section
variable {K : PySem.W.Frag} {σ : L2.St} {H H' : Hp} {ta tb tc te tx : TE} {D : Ends} {tz : TS} {E : L2.St → XK}
theorem len_law_drawn (vs : List V) (H : Hp) (Q : VK) (E : XK) (h : sp_law_drawn K vs H Q E) : vs.length = 3 := by obtain ⟨_, _, _, _, rfl, _⟩ := h; rfl
theorem r_law_drawn (vs : List V) (H : Hp) (Q : VK) (E : XK) (h : sp_law_drawn K vs H Q E) : t_law_drawn K E { nx := fun _ H' => Q .non H', rt := Q } (L2.start ["script", "k", "size", "number"] vs) H := by
  obtain ⟨l, ns, j, size, rfl, hl, hj, hs, k⟩ := h
  unfold t_law_drawn
  have j2 : (104729 * (j : Int)) < 2 ^ 40 ∧ 0 ≤ 104729 * (j : Int) := by omega
  refine q_asg (v := .int (104729 * (j : Int) * j + 48271)) (ev_op (ev_op (ev_op ev_c (ev_var rfl) (rv_mulI (wide_mul (a := 20) (b := 20) (by decide) (by omega) (by decide) (by decide) (by decide)))) (ev_var rfl) (rv_mulI (wide_mul (a := 40) (b := 20) (by omega) (by omega) (by decide) (by decide) (by decide)))) ev_c rv_addI) fun H1 e1 => ?_
  have ln : ∀ {σ : L2.St} {H1 : Hp}, σ[0]? = some (some (V.ref l)) → Ex H H1 → Ev (tCB (rLenA K) (tCons (tVar 0) tNil)) σ H1 (.int ns.length) := fun h0 e => by
    have := ev_lenV (ta := tVar 0) (ev_var h0) (rc_lenL (K := K) (ex_l e hl))
    rwa [List.length_map] at this
  refine q_ifAsg (v := .int (104729 * (j : Int) * j + 48271 + (if 0 < ns.length then ns.getD (j % ns.length) 0 % 10 ^ 40 * (2 * (j : Int) + 69621) else 0))) (et_test (ev_op (ln rfl e1) ev_c rv_gt)) (fun hp => ?_) (fun hp => ?_) fun H2 e2 => ?_
  · have hp : 0 < ns.length := by simpa using hp
    rw [if_pos hp]
    have b := emod_bd (ns.getD (j % ns.length) 0) (n := 10 ^ 40) (by decide +kernel)
    refine ev_op (ev_var rfl) (ev_op (ev_op (ev_op (ev_var rfl) (ev_is (ev_op (ev_var rfl) (ln rfl e1) (rv_mod (by omega))) (by rw [← Int.natCast_emod])) (rv_itL (ex_l e1 hl) (ints_at (Nat.mod_lt _ hp)))) (ev_op ev_c ev_c (rv_pow (by decide))) (rv_mod (by decide +kernel))) (ev_op (ev_op ev_c (ev_var rfl) (rv_mulI (wide_mul (a := 20) (b := 20) (by decide) (by omega) (by decide) (by decide) (by decide)))) ev_c rv_addI) (rv_mulI (wide_mul (a := 140) (b := 40) ?_ (by omega) (by decide) (by decide) (by decide)))) rv_addI
    have h40 : (10 : Int) ^ (40 : Int).toNat < 2 ^ 140 := by decide +kernel
    have b2 : 0 ≤ ns.getD (j % ns.length) 0 % 10 ^ (40 : Int).toNat ∧ ns.getD (j % ns.length) 0 % 10 ^ (40 : Int).toNat < 10 ^ (40 : Int).toNat := emod_bd _ (by decide +kernel)
    omega
  · have hp : ¬ 0 < ns.length := by simpa using hp
    rw [if_neg hp, Int.add_zero]
    rfl
  · exact s_ret (ev_op (ev_op (ev_op (ev_var rfl) ev_c (rv_mod (by decide))) ev_c (rv_div (by decide))) (ev_var rfl) (rv_mod hs)) fun H3 e3 => k H3 ((e1.trans e2).trans e3)
theorem ev_drawn {l : Addr} {ns : List Int} {j : Nat} {size : Int} (hl : SqL K H l (ns.map V.int)) (ha : Ev ta σ H (.ref l)) (hb : Ev tb σ H (.int (j : Int))) (hc : Ev tc σ H (.int size)) (hj : j ≤ 100000) (hs : 0 < size) : Ev (tCallS (sp_law_drawn K) E (tCons ta (tCons tb (tCons tc tNil)))) σ H (.int (drawn ns j size)) :=
  ev_callS (ea_cons ha (ea_cons hb (ea_cons hc ea_nil))) fun H1 e Q q E => ⟨l, ns, j, size, rfl, ex_l e hl, hj, hs, fun H2 e2 => q H2 e2⟩
theorem ev_drawnB {l : Addr} {ns : List Int} {j : Nat} {size : Int} (hl : SqL K H l (ns.map V.int)) (ha : Ev ta σ H (.ref l)) (hb : Ev tb σ H (.int (j : Int))) (hc : Ev tc σ H (.int size)) (hj : j ≤ 100000) (hs : 0 < size) : Ev (tCall (sp_law_drawn K) [] E0 (tCons ta (tCons tb (tCons tc tNil)))) σ H (.int (drawn ns j size)) :=
  ev_call (ea_cons ha (ea_cons hb (ea_cons hc ea_nil))) fun H1 e Q q E => ⟨l, ns, j, size, rfl, ex_l e hl, hj, hs, fun H2 e2 => q H2 e2⟩
/-- a drawn place of a list, of a text -/
theorem atI_drawn {α : Type} {xs : List α} (ns : List Int) (j : Nat) (d : α) {n : Int} (hn : n = xs.length) (h : 0 < n) : atI xs (drawn ns j n) = some (xs.getD (drawn ns j n).toNat d) := by
  have b := drawn_bd ns j h
  have e : drawn ns j n = ((drawn ns j n).toNat : Int) := (Int.toNat_of_nonneg b.1).symm
  rw [e]
  refine atI_nat ?_
  rw [Int.toNat_natCast, List.getD_eq_getElem?_getD, List.getElem?_eq_getElem (by omega)]
  rfl
theorem drawn_lt {α : Type} {xs : List α} (ns : List Int) (j : Nat) {n : Int} (hn : n = xs.length) (h : 0 < n) : (drawn ns j n).toNat < xs.length := by
  have b := drawn_bd ns j h
  omega
/-! ### drawn names -/
def rSIndex : V → List V → Hp → VK → Prop := fun x xs H Q => ∃ a b i rest, x = .str a ∧ xs = [.str b] ∧ Builtin.Str.occurrences a b 0 a.length 1 = i :: rest ∧ Q (.int (i : Nat)) H
def occ (c : Nat) : List Nat := Builtin.Str.occurrences ("abcdefghijklmnopqrstuvwxyz" : Str) ⟨#[c]⟩ 0 ("abcdefghijklmnopqrstuvwxyz" : Str).length 1
def posL (c : Nat) : Nat := (occ c).headD 0
theorem occ_ok : ∀ c ∈ lets, occ c = posL c :: (occ c).tail ∧ posL c < 26 ∧ lets[posL c]? = some c := by decide +kernel
theorem ev_sindex {c : Nat} (ha : Ev ta σ H (.str "abcdefghijklmnopqrstuvwxyz")) (hb : Ev tb σ H (.str ⟨#[c]⟩)) (hc : c ∈ lets) : Ev (tM1 rSIndex ta tb) σ H (.int (posL c : Int)) := fun H1 e Q q =>
  ha H1 e _ fun H2 e2 => ⟨⟨_, rfl⟩, hb H2 (e.trans e2) _ fun H3 e3 => ⟨_, _, _, _, rfl, rfl, (occ_ok c hc).1, q H3 (e2.trans e3)⟩⟩
theorem cut_from (l : List Nat) (j : Nat) : cutS (SX.S l) (some (j : Int)) none = SX.S (l.drop j) := by
  have e : (SX.S l).length = l.length := SX.S_len l
  unfold cutS
  rw [HT.sIx_nat, e, show HT.sIx l.length l.length none = l.length from rfl]
  show SX.S ((l.drop (min j l.length)).take (l.length - min j l.length)) = SX.S (l.drop j)
  congr 1
  by_cases h : j ≤ l.length
  · rw [Nat.min_eq_left h, List.take_of_length_le (by rw [List.length_drop]; omega)]
  · rw [Nat.min_eq_right (by omega), List.drop_of_length_le (by omega), List.drop_of_length_le (by omega)]
    simp
theorem cutTo (l : List Nat) (j : Nat) : cutS (SX.S l) none (some (j : Int)) = SX.S (l.take j) := by
  have e : (SX.S l).length = l.length := SX.S_len l
  unfold cutS
  rw [HT.sIx_nat, e, show HT.sIx l.length 0 none = 0 from rfl, List.drop_zero, Nat.sub_zero]
  show SX.S (l.take (min j l.length)) = SX.S (l.take j)
  congr 1
  by_cases h : j ≤ l.length
  · rw [Nat.min_eq_left h]
  · rw [Nat.min_eq_right (by omega), List.take_of_length_le (Nat.le_refl _), List.take_of_length_le (by omega)]
theorem S_app (a b : List Nat) : SX.S a ++ SX.S b = SX.S (a ++ b) := by
  show (⟨a.toArray ++ b.toArray⟩ : Str) = ⟨(a ++ b).toArray⟩
  rw [List.append_toArray]
theorem S_inj {a b : List Nat} (h : SX.S a = SX.S b) : a = b := by
  have h2 : a.toArray = b.toArray := congrArg Str.cps h
  simpa using congrArg Array.toList h2
theorem S_one (c : Nat) : (⟨#[c]⟩ : Str) = SX.S [c] := rfl
def sp_law_names (K : PySem.W.Frag) : Sp := fun vs H Q _ => ∃ (l : Addr) (ns : List Int) (m : Nat), vs = [.ref l, .int (m : Int)] ∧ SqL K H l (ns.map V.int) ∧ m ≤ 26 ∧ ∀ zs : List Str, zs.length = m → zs.Nodup → (∀ z ∈ zs, isName z = true) → RetL (zs.map V.str) H Q
def t_law_names (K : PySem.W.Frag) (E : XK) : TS :=
  tSeq (tAsg (tC (.str "abcdefghijklmnopqrstuvwxyz")) (gName 2))
    (tSeq (tAsg (tC (.str "")) (gName 3))
    (tSeq (tFor (iRng1 (tCons (tOp (rAddA K) (tC (.int 1)) (tCallS (sp_law_drawn K) (WE (fun cls d _ H => E cls d H)) (tCons (tVar 0) (tCons (tC (.int 1)) (tCons (tC (.int 8)) tNil))))) tNil)) (gName 4) (tAsg (tOp (rAddA K) (tVar 3) (tOp (rIxA K) (tVar 2) (tCallS (sp_law_drawn K) (WE (fun cls d _ H => E cls d H)) (tCons (tVar 0) (tCons (tOp (rAddA K) (tC (.int 2)) (tVar 4)) (tCons (tC (.int 26)) tNil)))))) (gName 3)))
    (tSeq (tAsg (tCallS (sp_law_drawn K) (WE (fun cls d _ H => E cls d H)) (tCons (tVar 0) (tCons (tC (.int 10)) (tCons (tCB (rLenA K) (tCons (tVar 3) tNil)) tNil)))) (gName 5))
    (tSeq (tAsg (tLst tNil) (gName 6))
    (tSeq (tFor (iRng1 (tCons (tVar 1) tNil)) (gName 4) (tSeq (tAsg (tOp (rIxA K) (tVar 2) (tOp rModA (tOp (rAddA K) (tM1 rSIndex (tVar 2) (tOp (rIxA K) (tVar 3) (tVar 5))) (tVar 4)) (tC (.int 26)))) (gName 7))
    (tDrop (tBM K "list" rAppend (tVar 6) (tCons (tOp (rAddA K) (tOp (rAddA K) (tSl (rSlA K) (tVar 3) tNoPart (tPart (tVar 5))) (tVar 7)) (tSl (rSlA K) (tVar 3) (tPart (tOp (rAddA K) (tVar 5) (tC (.int 1)))) tNoPart)) tNil)))))
    (tRet (tVar 6)))))))
theorem len_law_names (vs : List V) (H : Hp) (Q : VK) (E : XK) (h : sp_law_names K vs H Q E) : vs.length = 2 := by obtain ⟨_, _, _, rfl, _⟩ := h; rfl
theorem let_at {j : Nat} (h : j < lets.length) : lets[j]? = some (lets.getD j 0) := by
  rw [List.getD_eq_getElem?_getD, List.getElem?_eq_getElem h]
  rfl
theorem lets_nd : lets.Nodup := by decide +kernel
theorem let_inj {i j : Nat} (hi : i < lets.length) (hj : j < lets.length) (h : lets.getD i 0 = lets.getD j 0) : i = j := by
  rw [List.getD_eq_getElem?_getD, List.getD_eq_getElem?_getD, List.getElem?_eq_getElem hi, List.getElem?_eq_getElem hj] at h
  have h : lets[i]'hi = lets[j]'hj := h
  exact (List.getElem_inj lets_nd).mp h
/-- the k-th of the names: the sign at a place moved on -/
def nameAt (cs : List Nat) (a k : Nat) : List Nat := cs.take a ++ [lets.getD ((posL (cs.getD a 0) + k) % 26) 0] ++ cs.drop (a + 1)
theorem r_law_names (vs : List V) (H : Hp) (Q : VK) (E : XK) (h : sp_law_names K vs H Q E) : t_law_names K E { nx := fun _ H' => Q .non H', rt := Q } (L2.start ["script", "many", "letters", "word", "k", "at", "names", "sign"] vs) H := by
  obtain ⟨l, ns, m, rfl, hl, hm, k⟩ := h
  unfold t_law_names
  refine q_asg ev_c fun H1 e1 => q_asg ev_c fun H2 e2 => ?_
  have e12 := e1.trans e2
  have b8 := drawn_bd ns 1 (size := 8) (by decide)
  refine q_forR1 (n := 1 + drawn ns 1 8) (ea_cons (ev_op ev_c (ev_drawn (j := 1) (ex_l e12 hl) (ev_var rfl) ev_c ev_c (by decide) (by decide)) rv_addI) ea_nil) (by omega)
    (fun i σ H' => ∃ (x4 : Option V) (cs : List Nat), σ = [some (.ref l), some (.int (m : Int)), some (.str "abcdefghijklmnopqrstuvwxyz"), some (.str (SX.S cs)), x4, none, none, none] ∧ Ex H H' ∧ cs.length = i ∧ ∀ c ∈ cs, c ∈ lets)
    (fun H3 e3 => ⟨_, [], rfl, e12.trans e3, rfl, fun c hc => by simp at hc⟩) ?_ ?_
  · rintro i σ H3 hi ⟨x4, cs, rfl, e3, hcs, hl2⟩
    have b26 := drawn_bd ns (2 + i) (size := 26) (by decide)
    have e26 : ((2 : Int) + (i : Int)) = ((2 + i : Nat) : Int) := by omega
    refine s_asg (v := .str (SX.S (cs ++ [lets.getD (drawn ns (2 + i) 26).toNat 0]))) (ev_is (ev_op (ev_var rfl) (ev_op (ev_var rfl) (ev_drawn (j := 2 + i) (ex_l e3 hl) (ev_var rfl) (ev_is (ev_op ev_c (ev_var rfl) rv_addI) (by rw [e26])) ev_c (by omega) (by decide)) (rv_itS (by decide +kernel) (atI_drawn (xs := lets) ns (2 + i) 0 (by decide +kernel) (by decide)))) (rv_addS ?_)) ?_) fun H4 e4 => ?_
    · rw [SX.S_len]
      show cs.length + 1 ≤ 100000
      omega
    · rw [S_one, S_app]
    · refine ⟨_, _, rfl, e3.trans e4, by rw [List.length_append, hcs]; rfl, fun c hc => ?_⟩
      rcases List.mem_append.mp hc with z | z
      · exact hl2 c z
      · rw [List.mem_singleton.mp z]
        exact getD_mem (drawn_lt ns (2 + i) (by decide +kernel) (by decide))
  · rintro σ H3 ⟨x4, cs, rfl, e3, hcs, hl2⟩
    have h1 : 1 ≤ cs.length ∧ cs.length ≤ 8 := by omega
    have ba := drawn_bd ns 10 (size := (cs.length : Int)) (by omega)
    obtain ⟨a, ha⟩ : ∃ a : Nat, drawn ns 10 (cs.length : Int) = (a : Int) := ⟨(drawn ns 10 (cs.length : Int)).toNat, (Int.toNat_of_nonneg ba.1).symm⟩
    refine q_asg (v := .int (a : Int)) (ev_is (ev_drawn (j := 10) (ex_l e3 hl) (ev_var rfl) ev_c (ev_is (ev_lenV (ev_var rfl) (rc_lenS (by rw [SX.S_len]; omega))) (by rw [SX.S_len])) (by decide) (by omega)) (by rw [ha])) fun H4 e4 => ?_
    have hal : a < cs.length := by omega
    refine q_asgL (el_lst ea_nil (by decide)) fun p H5 hp e5 h5 => ?_
    have ca : cs.getD a 0 ∈ lets := hl2 _ (getD_mem hal)
    have pc := occ_ok _ ca
    have e34 := e3.trans e4
    refine q_forR1 (n := (m : Int)) (ea_cons (ev_var rfl) ea_nil) (by omega)
      (fun i σ H' => ∃ (x4 x7 : Option V), σ = [some (.ref l), some (.int (m : Int)), some (.str "abcdefghijklmnopqrstuvwxyz"), some (.str (SX.S cs)), x4, some (.int (a : Int)), some (.ref p), x7] ∧ Ex H4 H' ∧ H' p = some (.lst (((List.range i).map fun k => SX.S (nameAt cs a k)).map V.str)))
      (fun H6 e6 => ⟨_, _, rfl, e5.trans e6, e6 _ _ h5⟩) ?_ ?_
    · rintro i σ H6 hi ⟨x4, x7, rfl, e6, h6⟩
      refine q_asg (v := .str ⟨#[lets.getD ((posL (cs.getD a 0) + i) % 26) 0]⟩) (ev_is (ev_op (ev_var rfl) (ev_op (ev_op (ev_sindex (c := cs.getD a 0) (ev_var rfl) (ev_op (ev_var rfl) (ev_var rfl) (rv_itS (by rw [SX.S_len]; omega) (atI_nat (show cs[a]? = some (cs.getD a 0) by rw [List.getD_eq_getElem?_getD, List.getElem?_eq_getElem hal]; rfl)))) ca) (ev_var rfl) rv_addI) ev_c (rv_mod (by decide))) (rv_itS (c := lets.getD ((posL (cs.getD a 0) + i) % 26) 0) (by decide +kernel) ?_)) rfl) fun H7 e7 => ?_
      · have e : ((posL (cs.getD a 0) : Int) + (i : Int)) % 26 = (((posL (cs.getD a 0) + i) % 26 : Nat) : Int) := by omega
        rw [e]
        refine atI_nat ?_
        have hlt : (posL (cs.getD a 0) + i) % 26 < lets.length := Nat.lt_of_lt_of_eq (Nat.mod_lt _ (by decide)) (by decide +kernel)
        exact let_at hlt
      · refine s_app (v := .str (SX.S (nameAt cs a i))) (e7 _ _ h6) (ev_var rfl) (ev_is (ev_op (ev_op (ev_slS (ev_var rfl) eo_none (eo_some (ev_var rfl)) (by rw [SX.S_len]; omega)) (ev_var rfl) (rv_addS ?_)) (ev_slS (ev_var rfl) (eo_some (ev_op (ev_var rfl) ev_c rv_addI)) eo_none (by rw [SX.S_len]; omega)) (rv_addS ?_)) ?_) (by rw [List.length_map, List.length_map, List.length_range]; omega) fun H8 e8 => ?_
        · rw [cutTo, SX.S_len, List.length_take]
          show _ + 1 ≤ _
          omega
        · rw [show ((a : Int) + 1) = ((a + 1 : Nat) : Int) by omega, cutTo, cut_from, S_one, S_app, SX.S_len, SX.S_len, List.length_append, List.length_take, List.length_drop]
          show _ + 1 + _ ≤ _
          omega
        · rw [show ((a : Int) + 1) = ((a + 1 : Nat) : Int) by omega, cutTo, cut_from, S_one, S_app, S_app]
          rfl
        · refine ⟨_, _, rfl, Ex.mut ((e6.trans e7).trans e8) hp, ?_⟩
          rw [List.range_succ, List.map_append, List.map_append]
          exact upd_same
    · rintro σ H6 ⟨x4, x7, rfl, e6, h6⟩
      have hlen : ∀ k, (nameAt cs a k).length = cs.length := fun k => by
        unfold nameAt
        rw [List.length_append, List.length_append, List.length_take, List.length_drop]
        show min a cs.length + 1 + _ = _
        omega
      have hlet : ∀ k, (posL (cs.getD a 0) + k) % 26 < lets.length := fun k => Nat.lt_of_lt_of_eq (Nat.mod_lt _ (by decide)) (by decide +kernel)
      refine s_ret (ev_var rfl) fun H7 e7 => k ((List.range m).map fun k => SX.S (nameAt cs a k)) (by rw [List.length_map, List.length_range]) ?_ (fun z hz => ?_) p H7 (fresh_back e34 hp) ((e34.trans e6).trans e7) (e7 _ _ ?_)
      · refine List.Pairwise.map _ (R := fun x y => x < y ∧ y < m) ?_ ?_
        · intro x y ⟨hxy, hy⟩ e
          have e := S_inj e
          have q : (nameAt cs a x)[a]? = (nameAt cs a y)[a]? := by rw [e]
          have g : ∀ k, (nameAt cs a k)[a]? = some (lets.getD ((posL (cs.getD a 0) + k) % 26) 0) := fun k => by
            unfold nameAt
            rw [List.append_assoc, List.getElem?_append_right (by rw [List.length_take]; omega), List.length_take, Nat.min_eq_left (by omega), Nat.sub_self]
            rfl
          rw [g, g] at q
          have q := Option.some.inj q
          have := let_inj (hlet x) (hlet y) q
          omega
        · have : ∀ n, (List.range n).Pairwise fun x y => x < y ∧ y < n := fun n => List.pairwise_iff_getElem.mpr fun i j hi hj hij => by
            rw [List.getElem_range, List.getElem_range]
            rw [List.length_range] at hj
            exact ⟨hij, hj⟩
          exact this m
      · obtain ⟨k, hk, rfl⟩ := List.mem_map.mp hz
        refine name_of (by rw [hlen]; omega) (by rw [hlen]; omega) fun c hc => ?_
        unfold nameAt at hc
        rcases List.mem_append.mp hc with z | z
        · rcases List.mem_append.mp z with z | z
          · exact hl2 c (List.mem_of_mem_take z)
          · rw [List.mem_singleton.mp z]
            exact getD_mem (hlet k)
        · exact hl2 c (List.mem_of_mem_drop z)
      · rw [h6]
        simp
end
end Z

set_option Elab.async false
set_option linter.all false
set_option autoImplicit false
set_option maxRecDepth 100000
set_option maxHeartbeats 4000000
/-! ev: what an expression comes to, by its form -/
local macro_rules | `(tactic| k_places) => `(tactic| (repeat' (first
  | (with_reducible exact ev_c)
  | (with_reducible exact ev_var rfl)
  | (with_reducible refine ev_chainLL ?_ ?_ ?_)
  | (with_reducible refine ev_chainLt ?_ ?_ ?_)
  | (with_reducible refine ev_op ?_ ?_ ?_)
  | (with_reducible refine ev_neg ?_)
  | (with_reducible refine et_test ?_)
  | (with_reducible refine et_B ?_)
  | (with_reducible refine et_not ?_)
  | (with_reducible refine et_and ?_ (fun _ => ?_))
  | (with_reducible refine et_or ?_ (fun _ => ?_))
  | (with_reducible refine ev_andV ?_ (fun _ => ?_))
  | (with_reducible refine ev_orV ?_ (fun _ => ?_))
  | (with_reducible refine ev_notV ?_)
  | (with_reducible exact rv_addI)
  | (with_reducible exact rv_subI)
  | (with_reducible exact rv_lt)
  | (with_reducible exact rv_le)
  | (with_reducible exact rv_gt)
  | (with_reducible exact rv_ge)
  | (with_reducible exact rv_isB)
  | (with_reducible exact rv_isnB)
  | (with_reducible exact rv_isN)
  | (with_reducible exact rv_isnN)
  | (with_reducible exact rv_eqS rfl)
  | (with_reducible exact rv_neS rfl)
  | (with_reducible exact rv_inStr)
  | (with_reducible exact rv_ninStr)
  | (with_reducible exact rv_mod (by first | decide | omega | assumption))
  | (with_reducible exact rv_div (by first | decide | omega | assumption))
  | (with_reducible exact rv_pow (by decide))
  | (with_reducible refine ed_i ?_; done)
  | (with_reducible exact ea_nil)
  | (with_reducible refine ea_cons ?_ ?_)
  | (with_reducible exact eds_nil)
  | (with_reducible refine eds_cons ?_ ?_)
  | (with_reducible exact ed_dnew)
  | (with_reducible refine ed_lst ?_ (by simp only [List.length_cons, List.length_nil]; omega))
  | (with_reducible refine ed_tup ?_ (by simp only [List.length_cons, List.length_nil]; omega)))))
namespace Z
open PySem PySem.Spec PyProof.Rows L2 Evl NdefX LamX
/-! ### worlds: what is told of cells, kept in a dict -/
theorem eqv_self {d : PyData} (h : okD d) : PyData.eqv d d = true := PySem.SeqAt.eqv_refl d (okN_lay 10 d h).1
theorem okI2 (n : List Int) : okD (.list (n.map PyData.int)) := by
  show okN 10 (.list _)
  rw [okN, okNs_iff]
  intro d hd
  obtain ⟨i, _, rfl⟩ := List.mem_map.mp hd
  simp [okN]
def keyS (s : Spot) : List Key := [.inr s.1, .inr s.2.1, .inl s.2.2]
theorem keyS_inj {s t : Spot} (h : keyS s = keyS t) : s = t := by
  obtain ⟨a, b, c⟩ := s
  obtain ⟨x, y, z⟩ := t
  simp only [keyS, List.cons.injEq, Sum.inr.injEq, Sum.inl.injEq, and_true] at h
  obtain ⟨rfl, rfl, rfl⟩ := h
  rfl
def WAt (H : Hp) (wd : Addr) (W : Spot → Val) (Dom : Spot → Prop) : Prop := ∃ kvs, H wd = some (.dT kvs) ∧ ∀ s, Dom s → ∃ v, valV kvs (keyS s) = some v ∧ Vt H v (dV (W s))
def RAt (H : Hp) (rw : Addr) (R : Str → Nat) (Tm : Str → Prop) : Prop := ∃ rvs, H rw = some (.dK rvs) ∧ ∀ t, Tm t → valV rvs (.inr t) = some (.int (R t))
/-- the tables ts, the columns zs: the values W of all cells, R rows -/
def domW (ts zs : List Str) (R : Str → Nat) : Spot → Prop := fun s => s.1 ∈ ts ∧ s.2.1 ∈ zs ∧ ∃ i : Nat, s.2.2 = (i : Int) ∧ i < R s.1
structure World (H : Hp) (wd rw : Addr) (ts zs : List Str) (W : Spot → Val) (R : Str → Nat) : Prop where
  w : WAt H wd W (domW ts zs R)
  r : RAt H rw R (· ∈ ts)
  ok : ∀ s, okV (W s)
  few : ∀ t, t ∈ ts → R t ≤ 30
theorem WAt.imk {H H' : Hp} {wd : Addr} {W : Spot → Val} {Dom : Spot → Prop} (h : WAt H wd W Dom) (k : ∀ o, H wd = some o → H' wd = some o) (i : Imk H H') : WAt H' wd W Dom := let ⟨kvs, a, b⟩ := h; ⟨kvs, k _ a, fun s d => let ⟨v, c, e⟩ := b s d; ⟨v, c, e.tup i.tup⟩⟩
theorem RAt.imk {H H' : Hp} {rw : Addr} {R : Str → Nat} {Tm : Str → Prop} (h : RAt H rw R Tm) (k : ∀ o, H rw = some o → H' rw = some o) : RAt H' rw R Tm := let ⟨rvs, a, b⟩ := h; ⟨rvs, k _ a, b⟩
theorem World.imk {H H' : Hp} {wd rw : Addr} {ts zs : List Str} {W : Spot → Val} {R : Str → Nat} (h : World H wd rw ts zs W R) (k1 : ∀ o, H wd = some o → H' wd = some o) (k2 : ∀ o, H rw = some o → H' rw = some o) (i : Imk H H') : World H' wd rw ts zs W R := ⟨h.w.imk k1 i, h.r.imk k2, h.ok, h.few⟩
theorem World.ex {H H' : Hp} {wd rw : Addr} {ts zs : List Str} {W : Spot → Val} {R : Str → Nat} (h : World H wd rw ts zs W R) (e : Ex H H') : World H' wd rw ts zs W R := h.imk (e _) (e _) (.of e)
/-! ### the law's helpers -/
def RetX (H : Hp) (Q : VK) : Prop := ∀ (x : Val) v H', okV x → Ex H H' → Vt H' v (dV x) → Q v H'
def sp_law_value (K : PySem.W.Frag) : Sp := fun vs H Q _ => ∃ (l : Addr) (ns : List Int) (j : Nat) (fl : Int), vs = [.ref l, .int (j : Int), .int fl] ∧ SqL K H l (ns.map V.int) ∧ j ≤ 90000 ∧ RetX H Q
def sp_law_world (K : PySem.W.Frag) : Sp := fun vs H Q _ => ∃ (l np tp : Addr) (ns : List Int) (zs : List Str) (t1 t2 : Str) (fl : Int) (j : Nat), vs = [.ref l, .ref np, .ref tp, .int fl, .int (j : Int)] ∧ SqL K H l (ns.map V.int) ∧ H np = some (.lst (zs.map V.str)) ∧ zs.length ≤ 6 ∧ H tp = some (.lst [.str t1, .str t2]) ∧ t1 ≠ t2 ∧ j ≤ 2000 ∧
  ∀ a wd rw H' W R, Ex H H' → H' a = some (.tup [.ref wd, .ref rw]) → World H' wd rw [t1, t2] zs W R → 1 ≤ R t1 → Q (.ref a) H'
def sp_law_table (K : PySem.W.Frag) : Sp := fun vs H Q _ => ∃ (l rw tp : Addr) (ns : List Int) (t1 t2 : Str) (j : Nat) (R : Str → Nat), vs = [.ref l, .int (j : Int), .ref rw, .ref tp] ∧ SqL K H l (ns.map V.int) ∧ H tp = some (.lst [.str t1, .str t2]) ∧ RAt H rw R (· ∈ [t1, t2]) ∧ 1 ≤ R t1 ∧ j ≤ 2000 ∧
  ∀ t, t ∈ [t1, t2] → 1 ≤ R t → RetV (.str t) H Q
def sp_law_look (K : PySem.W.Frag) : Sp := fun vs H Q _ => ∃ (wd pn : Addr) (xs : List V) (s : Spot) (kvs : List (List Key × V)) (v : V), vs = [.ref wd, .ref pn, .str s.1, .str s.2.1, .int s.2.2] ∧ H wd = some (.dT kvs) ∧ valV kvs (keyS s) = some v ∧ H pn = some (.lst xs) ∧ xs.length < 1000 ∧
  ∀ b H', (∀ T, XB T [pn] H H') → H' pn = some (.lst (xs ++ [b])) → AtS H' b s → Q v H'
def t_law_value (K : PySem.W.Frag) (E : XK) : TS :=
  tSeq (tAsg (tCallS (sp_law_drawn K) (WE (fun cls d _ H => E cls d H)) (tCons (tVar 0) (tCons (tVar 1) (tCons (tC (.int 16)) tNil)))) (gName 3))
    (tSeq (tIfS (tTest (tOp rLtA (tVar 3) (tVar 2))) (tRet (tTup (tCons (tC (.str "fault")) (tCons (tOp (rIxA K) (tLst (tCons (tC (.str "odd")) (tCons (tC (.str "lacks")) (tCons (tC (.str "a")) (tCons (tC (.str "zzzzzzzz")) tNil))))) (tCallS (sp_law_drawn K) (WE (fun cls d _ H => E cls d H)) (tCons (tVar 0) (tCons (tOp (rAddA K) (tVar 1) (tC (.int 1))) (tCons (tC (.int 4)) tNil))))) tNil)))) tNext)
    (tSeq (tIfS (tTest (tOp (rEqA K) (tVar 3) (tC (.int 15)))) (tRet (tOp (rMulA K) (tOp rPowA (tOp (rAddA K) (tCallS (sp_law_drawn K) (WE (fun cls d _ H => E cls d H)) (tCons (tVar 0) (tCons (tOp (rAddA K) (tVar 1) (tC (.int 1))) (tCons (tC (.int 999983)) tNil)))) (tC (.int 1))) (tC (.int 9))) (tOp (rIxA K) (tLst (tCons (tC (.int 1)) (tCons (tUn rNegA (tC (.int 1))) tNil))) (tCallS (sp_law_drawn K) (WE (fun cls d _ H => E cls d H)) (tCons (tVar 0) (tCons (tOp (rAddA K) (tVar 1) (tC (.int 2))) (tCons (tC (.int 2)) tNil))))))) tNext)
    (tRet (tOp rSubA (tCallS (sp_law_drawn K) (WE (fun cls d _ H => E cls d H)) (tCons (tVar 0) (tCons (tOp (rAddA K) (tVar 1) (tC (.int 1))) (tCons (tC (.int 4)) tNil)))) (tC (.int 1))))))
def t_law_world (K : PySem.W.Frag) (E : XK) : TS :=
  tSeq (tAsg tDNewT (gName 5))
    (tSeq (tAsg tDNewK (gName 6))
    (tSeq (tFor (iList K (tVar 2)) (gName 7) (tSeq (tAsg (tCallS (sp_law_drawn K) (WE (fun cls d _ H => E cls d H)) (tCons (tVar 0) (tCons (tVar 4) (tCons (tC (.int 7)) tNil)))) (gSub (tVar 6) (tVar 7) rSetA))
    (tSeq (tIfS (tTest (tOp (rEqA K) (tCallS (sp_law_drawn K) (WE (fun cls d _ H => E cls d H)) (tCons (tVar 0) (tCons (tOp (rAddA K) (tVar 4) (tC (.int 1))) (tCons (tC (.int 16)) tNil)))) (tC (.int 5)))) (tAsg (tC (.int 30)) (gSub (tVar 6) (tVar 7) rSetA)) tNext)
    (tSeq (tIfS (tTest (tOp (rEqA K) (tVar 7) (tOp (rIxA K) (tVar 2) (tC (.int 0))))) (tAsg (tCB rMax2 (tCons (tC (.int 1)) (tCons (tOp (rIxA K) (tVar 6) (tVar 7)) tNil))) (gSub (tVar 6) (tVar 7) rSetA)) tNext)
    (tFor (iList K (tVar 1)) (gName 8) (tFor (iRng1 (tCons (tOp (rIxA K) (tVar 6) (tVar 7)) tNil)) (gName 9) (tSeq (tAsg (tOp (rAddA K) (tVar 4) (tC (.int 3))) (gName 4))
    (tAsg (tCallS (sp_law_value K) (WE (fun cls d _ H => E cls d H)) (tCons (tVar 0) (tCons (tVar 4) (tCons (tVar 3) tNil)))) (gSub (tVar 5) (tTup (tCons (tVar 7) (tCons (tVar 8) (tCons (tVar 9) tNil)))) rSetA)))))))))
    (tRet (tTup (tCons (tVar 5) (tCons (tVar 6) tNil))))))
def t_law_table (K : PySem.W.Frag) (E : XK) : TS :=
  tSeq (tAsg (tOp (rIxA K) (tVar 3) (tCallS (sp_law_drawn K) (WE (fun cls d _ H => E cls d H)) (tCons (tVar 0) (tCons (tVar 1) (tCons (tC (.int 2)) tNil))))) (gName 4))
    (tSeq (tIfS (tTest (tOp (rEqA K) (tOp (rIxA K) (tVar 2) (tVar 4)) (tC (.int 0)))) (tRet (tOp (rIxA K) (tVar 3) (tC (.int 0)))) tNext)
    (tRet (tVar 4)))
def t_law_look (K : PySem.W.Frag) (E : XK) : TS :=
  tSeq (tDrop (tBM K "list" rAppend (tVar 1) (tCons (tTup (tCons (tVar 2) (tCons (tVar 3) (tCons (tVar 4) tNil)))) tNil)))
    (tRet (tOp (rIxA K) (tVar 0) (tTup (tCons (tVar 2) (tCons (tVar 3) (tCons (tVar 4) tNil))))))
section
variable {K : PySem.W.Frag} {σ : L2.St} {H H' : Hp} {ta tb tc te tx : TE} {D : Ends} {tz : TS} {E : L2.St → XK}
theorem len_law_value (vs : List V) (H : Hp) (Q : VK) (E : XK) (h : sp_law_value K vs H Q E) : vs.length = 3 := by obtain ⟨_, _, _, _, rfl, _⟩ := h; rfl
theorem len_law_world (vs : List V) (H : Hp) (Q : VK) (E : XK) (h : sp_law_world K vs H Q E) : vs.length = 5 := by obtain ⟨_, _, _, _, _, _, _, _, _, rfl, _⟩ := h; rfl
theorem len_law_table (vs : List V) (H : Hp) (Q : VK) (E : XK) (h : sp_law_table K vs H Q E) : vs.length = 4 := by obtain ⟨_, _, _, _, _, _, _, _, rfl, _⟩ := h; rfl
theorem len_law_look (vs : List V) (H : Hp) (Q : VK) (E : XK) (h : sp_law_look K vs H Q E) : vs.length = 5 := by obtain ⟨_, _, _, _, _, _, rfl, _⟩ := h; rfl
/-- an item of a new list -/
theorem ev_ixN {xs : List V} {i : Int} {v : V} (h : EvL ta σ H xs) (hi : Ev tb σ H (.int i)) (a : atI xs i = some v) : Ev (tOp (rIxA K) ta tb) σ H v := ev_opL1 h (fun H1 e1 => hi.mono e1) fun p H1 hp _ => rv_itL (SqL.of hp) a
theorem r_law_value (vs : List V) (H : Hp) (Q : VK) (E : XK) (h : sp_law_value K vs H Q E) : t_law_value K E { nx := fun _ H' => Q .non H', rt := Q } (L2.start ["script", "k", "faults", "way"] vs) H := by
  obtain ⟨l, ns, j, fl, rfl, hl, hj, k⟩ := h
  unfold t_law_value
  have kk : ∀ {te : TE} {σ : L2.St} {H1 : Hp} {D : Ends} {i : Int}, D.rt = Q → Ex H H1 → Ev te σ H1 (.int i) → (-(10 ^ 60) < i ∧ i < 10 ^ 60) → tRet te D σ H1 := fun hD e ht hi => s_ret ht fun H2 e2 => by rw [hD]; exact k (.inl _) _ _ hi (e.trans e2) (.int _)
  refine q_asg (ev_drawn (j := j) hl (ev_var rfl) (ev_var rfl) ev_c (by omega) (by decide)) fun H1 e1 => ?_
  have dr : ∀ {σ : L2.St} {H1 : Hp} {i : Nat} {n : Int}, σ[0]? = some (some (V.ref l)) → σ[1]? = some (some (V.int (j : Int))) → Ex H H1 → i ≤ 10 → 0 < n → Ev (tCallS (sp_law_drawn K) (WE (fun cls d _ H => E cls d H)) (tCons (tVar 0) (tCons (tOp (rAddA K) (tVar 1) (tC (.int (i : Int)))) (tCons (tC (.int n)) tNil)))) σ H1 (.int (drawn ns (j + i) n)) := fun h0 h1 e hi hn =>
    ev_drawn (j := _) (ex_l e hl) (ev_var h0) (ev_is (ev_op (ev_var h1) ev_c rv_addI) (by rw [Int.natCast_add])) ev_c (by omega) hn
  refine q_when (et_test (ev_op (ev_var rfl) (ev_var rfl) rv_lt)) (fun _ H2 e2 => ?_) (fun _ H2 e2 => ?_)
  · have e12 := e1.trans e2
    have dd := dr (σ := [some (.ref l), some (.int (j : Int)), some (.int fl), some (.int (drawn ns j 16))]) (i := 1) (n := 4) rfl rfl e12 (by decide) (by decide)
    have ix := ev_ixN (K := K) (el_lst (ea_cons (ev_c (v := .str "odd")) (ea_cons (ev_c (v := .str "lacks")) (ea_cons (ev_c (v := .str "a")) (ea_cons (ev_c (v := .str "zzzzzzzz")) ea_nil)))) (show 4 ≤ 100000 by decide)) dd (atI_drawn ns (j + 1) .non (by rfl) (by decide))
    have hm : (["odd", "lacks", "a", "zzzzzzzz"] : List Str).map V.str = [V.str "odd", V.str "lacks", V.str "a", V.str "zzzzzzzz"] := rfl
    obtain ⟨w, hw, ew⟩ : ∃ w ∈ (["odd", "lacks", "a", "zzzzzzzz"] : List Str), [V.str "odd", V.str "lacks", V.str "a", V.str "zzzzzzzz"].getD (drawn ns (j + 1) 4).toNat .non = V.str w := by
      have := getD_mem (d := V.non) (drawn_lt (xs := [V.str "odd", V.str "lacks", V.str "a", V.str "zzzzzzzz"]) ns (j + 1) (n := 4) rfl (by decide))
      rw [← hm] at this
      obtain ⟨w, a, b⟩ := List.mem_map.mp this
      exact ⟨w, a, b.symm⟩
    rw [ew] at ix
    refine s_retU (eu_tup (ea_cons ev_c (ea_cons ix ea_nil)) (show 2 ≤ 100000 by decide)) fun a H3 _ e3 h3 => k (.inr w) _ _ ?_ (e12.trans e3) (.flt h3)
    have : ∀ w ∈ (["odd", "lacks", "a", "zzzzzzzz"] : List Str), isName w = true := by decide +kernel
    exact this w hw
  refine q_when (et_test (ev_op (ev_var rfl) ev_c (rv_eqS rfl))) (fun _ H3 e3 => ?_) (fun _ H3 e3 => ?_)
  · have e13 := (e1.trans e2).trans e3
    have b1 := drawn_bd ns (j + 1) (size := 999983) (by decide)
    have d1 := dr (σ := [some (.ref l), some (.int (j : Int)), some (.int fl), some (.int (drawn ns j 16))]) (i := 1) (n := 999983) rfl rfl e13 (by decide) (by decide)
    have d2 := dr (σ := [some (.ref l), some (.int (j : Int)), some (.int fl), some (.int (drawn ns j 16))]) (i := 2) (n := 2) rfl rfl e13 (by decide) (by decide)
    obtain ⟨x, hx⟩ : ∃ x, x = drawn ns (j + 1) 999983 + 1 := ⟨_, rfl⟩
    have bx : 0 < x ∧ x < 1000000 := by omega
    have px : 0 < x ^ 9 ∧ x ^ 9 < 10 ^ 54 := by
      refine ⟨Int.pow_pos bx.1, ?_⟩
      have : x.toNat ^ 9 < 1000000 ^ 9 := Nat.pow_lt_pow_left (by omega) (by decide)
      have e : x ^ 9 = ((x.toNat ^ 9 : Nat) : Int) := by rw [Int.natCast_pow, Int.toNat_of_nonneg (by omega)]
      have e9 : (1000000 ^ 9 : Nat) = 10 ^ 54 := by decide +kernel
      rw [e9] at this
      rw [e]
      have e5 : ((10 : Int) ^ 54) = ((10 ^ 54 : Nat) : Int) := by decide +kernel
      rw [e5]
      exact Int.ofNat_lt.mpr this
    obtain ⟨y, hy, ey⟩ : ∃ y : Int, (y = 1 ∨ y = -1) ∧ [V.int 1, V.int (-1)].getD (drawn ns (j + 2) 2).toNat .non = V.int y := by
      have := getD_mem (d := V.non) (drawn_lt (xs := [V.int 1, V.int (-1)]) ns (j + 2) (n := 2) rfl (by decide))
      rcases List.mem_cons.mp this with z | z
      · exact ⟨1, .inl rfl, z⟩
      · exact ⟨-1, .inr rfl, List.mem_singleton.mp z⟩
    have ix := ev_ixN (K := K) (el_lst (ea_cons (ev_c (v := .int 1)) (ea_cons (ev_neg (i := 1) ev_c) ea_nil)) (show 2 ≤ 100000 by decide)) d2 (atI_drawn ns (j + 2) .non (by rfl) (by decide))
    rw [ey] at ix
    refine kk (i := x ^ (9 : Int).toNat * y) rfl e13 (ev_op (ev_is (ev_op (ev_op d1 ev_c rv_addI) ev_c (rv_pow (by omega))) (by rw [hx])) ix (rv_mulI (wide_mul (a := 200) (b := 2) ?_ (by omega) (by decide) (by decide) (by decide)))) ?_
    · have h54 : (10 : Int) ^ 54 < 2 ^ 200 := by decide +kernel
      show (x ^ 9).natAbs < _
      omega
    · have h54 : (10 : Int) ^ 54 < 10 ^ 60 := by decide +kernel
      show -(10 ^ 60) < x ^ 9 * y ∧ x ^ 9 * y < 10 ^ 60
      rcases hy with rfl | rfl <;> omega
  · have e13 := (e1.trans e2).trans e3
    have b1 := drawn_bd ns (j + 1) (size := 4) (by decide)
    have d1 := dr (σ := [some (.ref l), some (.int (j : Int)), some (.int fl), some (.int (drawn ns j 16))]) (i := 1) (n := 4) rfl rfl e13 (by decide) (by decide)
    exact kk rfl e13 (ev_op d1 ev_c rv_subI) (by omega)
theorem r_law_table (vs : List V) (H : Hp) (Q : VK) (E : XK) (h : sp_law_table K vs H Q E) : t_law_table K E { nx := fun _ H' => Q .non H', rt := Q } (L2.start ["script", "k", "rows", "tables", "table"] vs) H := by
  obtain ⟨l, rw, tp, ns, t1, t2, j, R, rfl, hl, ht, ⟨rvs, hr, hv⟩, h1, hj, k⟩ := h
  unfold t_law_table
  obtain ⟨t, mt, et⟩ : ∃ t ∈ [t1, t2], [V.str t1, V.str t2].getD (drawn ns j 2).toNat .non = V.str t := by
    have := getD_mem (d := V.non) (drawn_lt (xs := [V.str t1, V.str t2]) ns j (n := 2) rfl (by decide))
    rcases List.mem_cons.mp this with z | z
    · exact ⟨t1, List.mem_cons_self, z⟩
    · exact ⟨t2, by simp, List.mem_singleton.mp z⟩
  refine q_asg (v := .str t) (ev_is (ev_op (ev_var rfl) (ev_drawn (j := j) hl (ev_var rfl) (ev_var rfl) ev_c (by omega) (by decide)) (rv_itL (SqL.of ht) (atI_drawn ns j .non (by rfl) (by decide)))) et) fun H1 e1 => ?_
  refine q_when (et_test (ev_op (ev_op (ev_var rfl) (ev_var rfl) (rv_ixDk (k := .inr t) (e1 _ _ hr) (hv t mt))) ev_c (rv_eqS rfl))) (fun hb H2 e2 => ?_) (fun hb H2 e2 => ?_)
  · refine s_ret (v := .str t1) (ev_op (ev_var rfl) ev_c (rv_itL (SqL.of ((e1.trans e2) _ _ ht)) rfl)) fun H3 e3 => k t1 (by simp) h1 H3 ((e1.trans e2).trans e3)
  · refine s_ret (ev_var rfl) fun H3 e3 => k t mt ?_ H3 ((e1.trans e2).trans e3)
    have : ¬ (V.int (R t) = V.int 0) := of_decide_eq_false hb
    have : (R t : Int) ≠ 0 := fun z => this (by rw [z])
    omega
theorem r_law_look (vs : List V) (H : Hp) (Q : VK) (E : XK) (h : sp_law_look K vs H Q E) : t_law_look K E { nx := fun _ H' => Q .non H', rt := Q } (L2.start ["world", "notes", "table", "column", "place"] vs) H := by
  obtain ⟨wd, pn, xs, s, kvs, v, rfl, hw, hv, hp, hl, k⟩ := h
  unfold t_law_look
  refine q_appU hp (ev_var rfl) (eu_tup (ea_cons (ev_var rfl) (ea_cons (ev_var rfl) (ea_cons (ev_var rfl) ea_nil))) (show 3 ≤ 100000 by decide)) (by omega) fun b H1 hb e1 h1 => ?_
  have wp : wd ≠ pn := ne_of hw hp fun z => nomatch z
  have bp : b ≠ pn := fun z => by rw [z] at hb; rw [hp] at hb; cases hb
  have tb : ∀ (σ : L2.St) (H2 : Hp), σ = [some (.ref wd), some (.ref pn), some (.str s.1), some (.str s.2.1), some (.int s.2.2)] → EvU (tTup (tCons (tVar 2) (tCons (tVar 3) (tCons (tVar 4) tNil)))) σ H2 ((keyS s).map kV) := fun σ H2 e => by
    subst e
    exact eu_tup (ea_cons (ev_var rfl) (ea_cons (ev_var rfl) (ea_cons (ev_var rfl) ea_nil))) (show 3 ≤ 100000 by decide)
  refine s_ret (v := v) (ev_opU (ev_var rfl) (tb _ _ rfl) fun p H3 h3 e3 H4 e4 Q4 q4 => .inr ⟨wd, v, rfl, ?_, q4 H4 (Ex.refl H4)⟩) fun H3 e3 => ?_
  · rw [← hv]
    exact DGet.t (e4 _ _ (e3 _ _ ((upd_ne wp).trans (e1 _ _ hw)))) (e4 _ _ h3)
  · refine k (.ref b) H3 (fun T => ?_) (e3 _ _ upd_same) ⟨b, rfl, e3 _ _ ((upd_ne bp).trans h1)⟩
    exact ((XB.of e1).trans (XB.upd (e1 _ _ hp) (fun z => z) (fun _ z => nomatch z) (List.mem_singleton.mpr rfl))).trans (XB.of e3)
end
end Z

set_option Elab.async false
set_option linter.all false
set_option autoImplicit false
set_option maxRecDepth 100000
set_option maxHeartbeats 4000000
/-! ev: what an expression comes to, by its form -/
local macro_rules | `(tactic| k_places) => `(tactic| (repeat' (first
  | (with_reducible exact ev_c)
  | (with_reducible exact ev_var rfl)
  | (with_reducible refine ev_chainLL ?_ ?_ ?_)
  | (with_reducible refine ev_chainLt ?_ ?_ ?_)
  | (with_reducible refine ev_op ?_ ?_ ?_)
  | (with_reducible refine ev_neg ?_)
  | (with_reducible refine et_test ?_)
  | (with_reducible refine et_B ?_)
  | (with_reducible refine et_not ?_)
  | (with_reducible refine et_and ?_ (fun _ => ?_))
  | (with_reducible refine et_or ?_ (fun _ => ?_))
  | (with_reducible refine ev_andV ?_ (fun _ => ?_))
  | (with_reducible refine ev_orV ?_ (fun _ => ?_))
  | (with_reducible refine ev_notV ?_)
  | (with_reducible exact rv_addI)
  | (with_reducible exact rv_subI)
  | (with_reducible exact rv_lt)
  | (with_reducible exact rv_le)
  | (with_reducible exact rv_gt)
  | (with_reducible exact rv_ge)
  | (with_reducible exact rv_isB)
  | (with_reducible exact rv_isnB)
  | (with_reducible exact rv_isN)
  | (with_reducible exact rv_isnN)
  | (with_reducible exact rv_eqS rfl)
  | (with_reducible exact rv_neS rfl)
  | (with_reducible exact rv_inStr)
  | (with_reducible exact rv_ninStr)
  | (with_reducible exact rv_mod (by first | decide | omega | assumption))
  | (with_reducible exact rv_div (by first | decide | omega | assumption))
  | (with_reducible exact rv_pow (by decide))
  | (with_reducible refine ed_i ?_; done)
  | (with_reducible exact ea_nil)
  | (with_reducible refine ea_cons ?_ ?_)
  | (with_reducible exact eds_nil)
  | (with_reducible refine eds_cons ?_ ?_)
  | (with_reducible exact ed_dnew)
  | (with_reducible refine ed_lst ?_ (by simp only [List.length_cons, List.length_nil]; omega))
  | (with_reducible refine ed_tup ?_ (by simp only [List.length_cons, List.length_nil]; omega)))))
namespace Z
open PySem PySem.Spec PyProof.Rows L2 Evl NdefX LamX
def GoodC (kvs : List (List Key × V)) (H : Hp) (s : Spot) : Prop := ∃ v x, valV kvs (keyS s) = some v ∧ okV x ∧ Vt H v (dV x)
theorem GoodC.imk {kvs : List (List Key × V)} {H H' : Hp} {s : Spot} (g : GoodC kvs H s) (i : Imk H H') : GoodC kvs H' s := let ⟨v, x, a, b, c⟩ := g; ⟨v, x, a, b, c.tup i.tup⟩
theorem GoodC.put {kvs : List (List Key × V)} {H : Hp} {s t : Spot} {v : V} {x : Val} (g : GoodC kvs H s) (o : okV x) (r : Vt H v (dV x)) : GoodC (putK kvs (keyS t) v) H s := by
  obtain ⟨w, y, a, b, c⟩ := g
  by_cases e : keyS s = keyS t
  · exact ⟨v, x, by rw [valV_put, if_pos e], o, r⟩
  · exact ⟨w, y, by rw [valV_put, if_neg e]; exact a, b, c⟩
/-- the tables ts are told: their rows, their cells -/
def Dn (t1 : Str) (zs ts : List Str) (kvs : List (List Key × V)) (rvs : List (Key × V)) (H : Hp) : Prop := ∀ t ∈ ts, ∃ r : Nat, valV rvs (.inr t) = some (.int (r : Int)) ∧ r ≤ 30 ∧ (t = t1 → 1 ≤ r) ∧ ∀ z ∈ zs, ∀ p : Nat, p < r → GoodC kvs H (t, z, (p : Int))
section
variable {K : PySem.W.Frag} {σ : L2.St} {H H' : Hp} {ta tb tc te tx : TE} {D : Ends} {tz tu tw : TS} {E : L2.St → XK} {t1 : Str} {zs ts : List Str} {kvs : List (List Key × V)} {rvs rvs' : List (Key × V)}
theorem Dn.imk (d : Dn t1 zs ts kvs rvs H) (i : Imk H H') : Dn t1 zs ts kvs rvs H' := fun t ht => let ⟨r, a, b, c, e⟩ := d t ht; ⟨r, a, b, c, fun z hz p hp => (e z hz p hp).imk i⟩
theorem Dn.put {s : Spot} {v : V} {x : Val} (d : Dn t1 zs ts kvs rvs H) (o : okV x) (w : Vt H v (dV x)) : Dn t1 zs ts (putK kvs (keyS s) v) rvs H := fun t ht => let ⟨r, a, b, c, e⟩ := d t ht; ⟨r, a, b, c, fun z hz p hp => (e z hz p hp).put o w⟩
theorem Dn.rows (d : Dn t1 zs ts kvs rvs H) (h : ∀ t ∈ ts, valV rvs' (.inr t) = valV rvs (.inr t)) : Dn t1 zs ts kvs rvs' H := fun t ht => let ⟨r, a, b, c, e⟩ := d t ht; ⟨r, (h t ht).trans a, b, c, e⟩
theorem ImkT {p : Addr} (h : H p = some (.dT kvs)) {u : HO} : Imk H (L2.upd H p u) := .upd h fun z => z
theorem ImkK {p : Addr} (h : H p = some (.dK rvs)) {u : HO} : Imk H (L2.upd H p u) := .upd h fun z => z
theorem q_asgDT {i : Nat} (k : ∀ p H1, H p = none → Ex H H1 → H1 p = some (.dT []) → tz D (σ.set i (some (.ref p))) H1) : tSeq (tAsg tDNewT (gName i)) tz D σ H := fun p hp => k p _ hp (Ex.new hp) upd_same
/-- d[(a, b, c)] = value(..) -/
theorem s_setCellA {l wd : Addr} {ns : List Int} {j : Nat} {fl : Int} {s : Spot} {tas tbs : TA} (hl : SqL K H l (ns.map V.int)) (h : EvA tas σ H [.ref l, .int (j : Int), .int fl]) (hj : j ≤ 90000) (hw : H wd = some (.dT kvs)) (hk : kvs.length < 100000) (ho : Ev te σ H (.ref wd))
    (hb : EvA tbs σ H [.str s.1, .str s.2.1, .int s.2.2]) (k : ∀ x v H1, okV x → Ex H H1 → Vt H1 v (dV x) → D.nx σ (L2.upd H1 wd (.dT (putK kvs (keyS s) v)))) :
    tAsg (tCallS (sp_law_value K) E tas) (gSub te (tTup tbs) rSetA) D σ H :=
  h H (Ex.refl H) _ fun H1 e1 => ⟨l, ns, j, fl, rfl, ex_l e1 hl, hj, fun x v H2 o e2 r => ho H2 (e1.trans e2) _ fun H3 e3 =>
    eu_tup hb (show 3 ≤ 100000 by decide) H3 ((e1.trans e2).trans e3) _ fun b H4 _ e4 h4 => by
      have E4 := ((e1.trans e2).trans e3).trans e4
      exact .inr ⟨wd, _, rfl, DPut.t (k := keyS s) (E4 _ _ hw) h4 (sz_lt hk), k x v H4 o E4 (r.tup (.of_ex (e3.trans e4)))⟩⟩
theorem s_setCell {l wd : Addr} {ns : List Int} {j : Nat} {fl : Int} {s : Spot} {t2 t3 t4 : TE} (hl : SqL K H l (ns.map V.int)) (h1 : Ev ta σ H (.ref l)) (h2 : Ev tb σ H (.int (j : Int))) (h3 : Ev tc σ H (.int fl)) (hj : j ≤ 90000) (hw : H wd = some (.dT kvs)) (hk : kvs.length < 100000) (ho : Ev te σ H (.ref wd))
    (k1 : Ev t2 σ H (.str s.1)) (k2 : Ev t3 σ H (.str s.2.1)) (k3 : Ev t4 σ H (.int s.2.2)) (k : ∀ x v H1, okV x → Ex H H1 → Vt H1 v (dV x) → D.nx σ (L2.upd H1 wd (.dT (putK kvs (keyS s) v)))) :
    tAsg (tCallS (sp_law_value K) E (tCons ta (tCons tb (tCons tc tNil)))) (gSub te (tTup (tCons t2 (tCons t3 (tCons t4 tNil)))) rSetA) D σ H :=
  s_setCellA hl (ea_cons h1 (ea_cons h2 (ea_cons h3 ea_nil))) hj hw hk ho (ea_cons k1 (ea_cons k2 (ea_cons k3 ea_nil))) k
theorem q_asgDK {i : Nat} (k : ∀ p H1, H p = none → Ex H H1 → H1 p = some (.dK []) → tz D (σ.set i (some (.ref p))) H1) : tSeq (tAsg tDNewK (gName i)) tz D σ H := fun p hp => k p _ hp (Ex.new hp) upd_same
theorem putLen {κ : Type} [DecidableEq κ] (c : List (κ × V)) (k : κ) (x : V) : (putK c k x).length ≤ c.length + 1 := by
  unfold putK
  split <;> simp
theorem q_setK {p : Addr} {k : Key} {v : V} (h : H p = some (.dK rvs)) (hv : Ev te σ H v) (ho : Ev ta σ H (.ref p)) (hk : Ev tb σ H (kV k)) (hl : rvs.length < 100000) (kk : ∀ H1, Ex H H1 → tz D σ (L2.upd H1 p (.dK (putK rvs k v)))) : tSeq (tAsg te (gSub ta tb rSetA)) tz D σ H :=
  s_setK (D := { D with nx := tz D }) h hv ho hk hl kk
/-- if ..: d[k] = v -/
theorem q_ifSetK {bb : Bool} {tt : TT} {p : Addr} {k : Key} {v : V} (ht : EvT tt σ H bb) (h : H p = some (.dK rvs)) (hv : bb = true → Ev te σ H v) (ho : Ev ta σ H (.ref p)) (hk : Ev tb σ H (kV k)) (hl : rvs.length < 100000) (k1 : bb = true → ∀ H1, Ex H H1 → tz D σ (L2.upd H1 p (.dK (putK rvs k v)))) (k2 : bb = false → ∀ H1, Ex H H1 → tz D σ H1) :
    tSeq (tIfS tt (tAsg te (gSub ta tb rSetA)) tNext) tz D σ H :=
  q_when ht (fun hb H1 e1 => s_setK (D := { D with nx := tz D }) (e1 _ _ h) ((hv hb).mono e1) (ho.mono e1) (hk.mono e1) hl fun H2 e2 => k1 hb H2 (e1.trans e2)) fun hb H1 e1 => k2 hb H1 e1
theorem r_law_world (vs : List V) (H : Hp) (Q : VK) (E : XK) (h : sp_law_world K vs H Q E) : t_law_world K E { nx := fun _ H' => Q .non H', rt := Q } (L2.start ["script", "names", "tables", "faults", "k", "world", "rows", "table", "name", "place"] vs) H := by
  obtain ⟨l, np, tp, ns, zs, t1, t2, fl, j, rfl, hl, hn, hz, ht, hne, hj, k⟩ := h
  unfold t_law_world
  refine q_asgDT fun wd H1 w0 e1 w1 => q_asgDK fun rw H2 r0 e2 r1 => ?_
  have r00 : H rw = none := fresh_back e1 r0
  have wr : wd ≠ rw := ne_of_none w1 r0
  have nw : ∀ {H' : Hp} {kvs : List (List Key × V)} {rvs : List (Key × V)}, H' wd = some (.dT kvs) → H' rw = some (.dK rvs) → wd ≠ rw := fun _ _ => wr
  have htl : ∀ i : Nat, i < 2 → ∃ t, [V.str t1, V.str t2][i]? = some (.str t) ∧ [t1, t2][i]? = some t := fun i hi => by
    match i, hi with
    | 0, _ => exact ⟨t1, rfl, rfl⟩
    | 1, _ => exact ⟨t2, rfl, rfl⟩
  have nd : ∀ {i : Nat} {t : Str}, [t1, t2][i]? = some t → t ∉ [t1, t2].take i := fun {i t} hi => by
    match i, hi with
    | 0, _ => simp
    | 1, h => cases h; simpa using Ne.symm hne
    | i + 2, h => simp at h
  refine q_forLn (ev_var rfl) (SqL.of ((e1.trans e2) _ _ ht)) (fun i σ H' => ∃ (x7 x8 x9 : Option V) (kvs : List (List Key × V)) (rvs : List (Key × V)) (cnt : Nat), σ = [some (.ref l), some (.ref np), some (.ref tp), some (.int fl), some (.int ((j + 3 * cnt : Nat) : Int)), some (.ref wd), some (.ref rw), x7, x8, x9] ∧
      Ex H H' ∧ H' wd = some (.dT kvs) ∧ H' rw = some (.dK rvs) ∧ kvs.length ≤ cnt ∧ cnt ≤ 180 * i ∧ rvs.length ≤ 3 * i ∧ Dn t1 zs ([t1, t2].take i) kvs rvs H')
    (fun H3 e3 => ⟨_, _, _, [], [], 0, rfl, (e1.trans e2).trans e3, e3 _ _ (e2 _ _ w1), e3 _ _ r1, by simp, by simp, by simp, fun t ht => by simp at ht⟩) (fun i σ H' _ ⟨_, _, _, _, _, _, _, e, _⟩ => SqL.of (e _ _ ht)) ?_ ?_
  · rintro i x σ H3 hi ⟨x7, x8, x9, kvs, rvs, cnt, rfl, e3, hw3, hr3, hk3, hc3, hv3, dn⟩
    have hi2 : i < 2 := (List.getElem?_eq_some_iff.mp hi).1
    obtain ⟨t, ht1, ht2⟩ := htl i hi2
    rw [hi] at ht1
    cases ht1
    have tn := nd ht2
    -- the rows of the table
    have dr : ∀ {σ : L2.St} {H4 : Hp} {a : Nat} {n : Int}, σ[0]? = some (some (V.ref l)) → σ[4]? = some (some (V.int ((j + 3 * cnt : Nat) : Int))) → Ex H H4 → a ≤ 10 → 0 < n → Ev (tCallS (sp_law_drawn K) (WE (fun cls d _ H => E cls d H)) (tCons (tVar 0) (tCons (tOp (rAddA K) (tVar 4) (tC (.int (a : Int)))) (tCons (tC (.int n)) tNil)))) σ H4 (.int (drawn ns (j + 3 * cnt + a) n)) := fun h0 h1 e hi hn =>
      ev_drawn (j := _) (ex_l e hl) (ev_var h0) (ev_is (ev_op (ev_var h1) ev_c rv_addI) (by rw [← Int.natCast_add])) ev_c (by omega) hn
    have b7 := drawn_bd ns (j + 3 * cnt) (size := 7) (by decide)
    refine q_setK (k := .inr t) (v := .int (drawn ns (j + 3 * cnt) 7)) hr3 (ev_drawn (j := j + 3 * cnt) (ex_l e3 hl) (ev_var rfl) (ev_var rfl) ev_c (by omega) (by decide)) (ev_var rfl) (ev_var rfl) (by omega) fun H4 e4 => ?_
    obtain ⟨n7, h7⟩ : ∃ n7 : Nat, drawn ns (j + 3 * cnt) 7 = (n7 : Int) := ⟨_, (Int.toNat_of_nonneg b7.1).symm⟩
    rw [h7]
    -- what stands behind each of the three: rows r of the table, all else as it was
    have keep : ∀ (rv : List (Key × V)) (v : V), (∀ t' ∈ [t1, t2].take i, valV rv (.inr t') = valV rvs (.inr t')) → ∀ t' ∈ [t1, t2].take i, valV (putK rv (.inr t) v) (.inr t') = valV rvs (.inr t') := fun rv v h t' ht' => by
      rw [valV_put, if_neg fun e => tn (by cases e; exact ht')]
      exact h t' ht'
    have pl : ∀ (rv : List (Key × V)) (v : V), (putK rv (.inr t) v).length ≤ rv.length + 1 := fun rv v => putLen rv _ v
    have loops : ∀ (rv : List (Key × V)) (r : Nat) (H5 : Hp) (D : Ends), D.rt = Q → Ex H H5 → H5 wd = some (.dT kvs) → H5 rw = some (.dK rv) → rv.length ≤ 3 * (i + 1) → valV rv (.inr t) = some (.int (r : Int)) → r ≤ 30 → (t = t1 → 1 ≤ r) → Dn t1 zs ([t1, t2].take i) kvs rv H5 →
        (∀ (x8 x9 : Option V) (kvs' : List (List Key × V)) (cnt' : Nat) (H6 : Hp), Ex H H6 → H6 wd = some (.dT kvs') → H6 rw = some (.dK rv) → kvs'.length ≤ cnt' → cnt' ≤ 180 * (i + 1) → Dn t1 zs ([t1, t2].take (i + 1)) kvs' rv H6 →
          D.nx [some (.ref l), some (.ref np), some (.ref tp), some (.int fl), some (.int ((j + 3 * cnt' : Nat) : Int)), some (.ref wd), some (.ref rw), some (.str t), x8, x9] H6) →
        tFor (iList K (tVar 1)) (gName 8) (tFor (iRng1 (tCons (tOp (rIxA K) (tVar 6) (tVar 7)) tNil)) (gName 9) (tSeq (tAsg (tOp (rAddA K) (tVar 4) (tC (.int 3))) (gName 4))
          (tAsg (tCallS (sp_law_value K) (WE (fun cls d _ H => E cls d H)) (tCons (tVar 0) (tCons (tVar 4) (tCons (tVar 3) tNil)))) (gSub (tVar 5) (tTup (tCons (tVar 7) (tCons (tVar 8) (tCons (tVar 9) tNil)))) rSetA)))) D
          [some (.ref l), some (.ref np), some (.ref tp), some (.int fl), some (.int ((j + 3 * cnt : Nat) : Int)), some (.ref wd), some (.ref rw), some (.str t), x8, x9] H5 := by
      intro rv r H5 D hD e5 hw5 hr5 hv5 hvt hr30 hr1 dn5 kD
      refine s_forLn (ev_var rfl) (SqL.of (e5 _ _ hn)) (fun a σ H' => ∃ (x8 x9 : Option V) (kvs' : List (List Key × V)) (cnt' : Nat), σ = [some (.ref l), some (.ref np), some (.ref tp), some (.int fl), some (.int ((j + 3 * cnt' : Nat) : Int)), some (.ref wd), some (.ref rw), some (.str t), x8, x9] ∧
          Ex H H' ∧ H' wd = some (.dT kvs') ∧ H' rw = some (.dK rv) ∧ kvs'.length ≤ cnt' ∧ cnt' ≤ cnt + 30 * a ∧ Dn t1 zs ([t1, t2].take i) kvs' rv H' ∧ ∀ z ∈ zs.take a, ∀ p : Nat, p < r → GoodC kvs' H' (t, z, (p : Int)))
        (fun H6 e6 => ⟨_, _, kvs, cnt, rfl, e5.trans e6, e6 _ _ hw5, e6 _ _ hr5, hk3, by simp, dn5.imk (.of e6), fun z hz => by simp at hz⟩) (fun a σ H' _ ⟨_, _, _, _, _, e, _⟩ => SqL.of (e _ _ hn)) ?_ ?_
      · rintro a y σ H6 ha ⟨x8, x9, kvs', cnt', rfl, e6, hw6, hr6, hk6, hc6, dn6, gd6⟩
        rw [List.getElem?_map] at ha
        cases hza : zs[a]? with
        | none => rw [hza] at ha; cases ha
        | some z =>
        rw [hza] at ha
        cases ha
        have za : a < zs.length := (List.getElem?_eq_some_iff.mp hza).1
        have tk : zs.take (a + 1) = zs.take a ++ [z] := by rw [List.take_add_one, hza]; rfl
        refine s_forR1 (n := (r : Int)) (ea_cons (ev_op (ev_var rfl) (ev_var rfl) (rv_ixDk (k := .inr t) hr6 hvt)) ea_nil) (by omega) (fun b σ H' => ∃ (x9 : Option V) (kvs' : List (List Key × V)) (cnt' : Nat), σ = [some (.ref l), some (.ref np), some (.ref tp), some (.int fl), some (.int ((j + 3 * cnt' : Nat) : Int)), some (.ref wd), some (.ref rw), some (.str t), some (.str z), x9] ∧
            Ex H H' ∧ H' wd = some (.dT kvs') ∧ H' rw = some (.dK rv) ∧ kvs'.length ≤ cnt' ∧ cnt' ≤ cnt + 30 * a + b ∧ Dn t1 zs ([t1, t2].take i) kvs' rv H' ∧ (∀ z ∈ zs.take a, ∀ p : Nat, p < r → GoodC kvs' H' (t, z, (p : Int))) ∧ ∀ p : Nat, p < b → GoodC kvs' H' (t, z, (p : Int)))
          (fun H7 e7 => ⟨_, kvs', cnt', rfl, e6.trans e7, e7 _ _ hw6, e7 _ _ hr6, hk6, by simpa using hc6, dn6.imk (.of e7), fun z hz p hp => (gd6 z hz p hp).imk (.of e7), fun p hp => by omega⟩) ?_ ?_
        · rintro b σ H7 hb ⟨x9, kvs7, cnt7, rfl, e7, hw7, hr7, hk7, hc7, dn7, gd7, gz7⟩
          refine q_asg (v := .int ((j + 3 * (cnt7 + 1) : Nat) : Int)) (ev_is (ev_op (ev_var rfl) ev_c rv_addI) (by congr 1 <;> omega)) fun H8 e8 => ?_
          refine s_setCell (kvs := kvs7) (s := (t, z, (b : Int))) (j := j + 3 * (cnt7 + 1)) (ex_l (e7.trans e8) hl) (ev_var rfl) (ev_var rfl) (ev_var rfl) (by omega) (e8 _ _ hw7) (by omega) (ev_var rfl) (ev_var rfl) (ev_var rfl) (ev_var rfl) fun x v H9 ox e9 rv9 => ?_
          have e89 := e8.trans e9
          have im : Imk H7 (L2.upd H9 wd (.dT (putK kvs7 (keyS (t, z, (b : Int))) v))) := (Imk.of e89).trans (ImkT (e89 _ _ hw7))
          have rvU : Vt (L2.upd H9 wd (.dT (putK kvs7 (keyS (t, z, (b : Int))) v))) v (dV x) := rv9.tup (ImkT (e89 _ _ hw7)).tup
          refine ⟨_, putK kvs7 (keyS (t, z, (b : Int))) v, cnt7 + 1, rfl, Ex.mut (e7.trans e89) w0, upd_same, (upd_ne (Ne.symm wr)).trans (e89 _ _ hr7), ?_, by omega, (dn7.imk im).put ox rvU, fun z' hz' p hp => ((gd7 z' hz' p hp).imk im).put ox rvU, fun p hp => ?_⟩
          · have := putLen kvs7 (keyS (t, z, (b : Int))) v
            omega
          · by_cases hpb : p < b
            · exact ((gz7 p hpb).imk im).put ox rvU
            · have : p = b := by omega
              subst this
              exact ⟨v, x, by rw [valV_put, if_pos rfl], ox, rvU⟩
        · rintro σ H7 ⟨x9, kvs7, cnt7, rfl, e7, hw7, hr7, hk7, hc7, dn7, gd7, gz7⟩
          refine ⟨_, _, kvs7, cnt7, rfl, e7, hw7, hr7, hk7, by omega, dn7, fun z' hz' p hp => ?_⟩
          rw [tk] at hz'
          rcases List.mem_append.mp hz' with q | q
          · exact gd7 z' q p hp
          · rw [List.mem_singleton.mp q]
            exact gz7 p (by omega)
      · rintro σ H6 ⟨x8, x9, kvs', cnt', rfl, e6, hw6, hr6, hk6, hc6, dn6, gd6⟩
        rw [List.length_map] at hc6 gd6
        rw [List.take_length] at gd6
        refine kD _ _ kvs' cnt' H6 e6 hw6 hr6 hk6 (by omega) fun t' ht' => ?_
        rw [List.take_add_one, ht2] at ht'
        rcases List.mem_append.mp ht' with q | q
        · exact dn6 t' q
        · have : t' = t := by simpa using q
          subst this
          exact ⟨r, hvt, hr30, hr1, gd6⟩
    -- the three statements
    have s4 : Ex H (L2.upd H4 rw (.dK (putK rvs (.inr t) (.int (n7 : Int))))) := Ex.mut (e3.trans e4) r00
    have v4 : valV (putK rvs (.inr t) (.int (n7 : Int))) (.inr t) = some (.int (n7 : Int)) := by rw [valV_put, if_pos rfl]
    have d4 := ((dn.imk (.of e4)).imk (ImkK (e4 _ _ hr3) (u := .dK (putK rvs (.inr t) (.int (n7 : Int)))))).rows (keep rvs (.int (n7 : Int)) fun _ _ => rfl)
    have w4 := (upd_ne (H := H4) (o := .dK (putK rvs (.inr t) (.int (n7 : Int)))) wr).trans (e4 _ _ hw3)
    have l4 := pl rvs (.int (n7 : Int))
    have last : ∀ (rv : List (Key × V)) (r : Nat) (H5 : Hp) (D : Ends), D.rt = Q → Ex H H5 → H5 wd = some (.dT kvs) → H5 rw = some (.dK rv) → rv.length ≤ 3 * i + 2 → valV rv (.inr t) = some (.int (r : Int)) → r ≤ 30 → Dn t1 zs ([t1, t2].take i) kvs rv H5 → (∀ t' ∈ [t1, t2].take i, valV rv (.inr t') = valV rvs (.inr t')) →
        (∀ (x8 x9 : Option V) (kvs' : List (List Key × V)) (rv : List (Key × V)) (cnt' : Nat) (H6 : Hp), Ex H H6 → H6 wd = some (.dT kvs') → H6 rw = some (.dK rv) → kvs'.length ≤ cnt' → cnt' ≤ 180 * (i + 1) → rv.length ≤ 3 * (i + 1) → Dn t1 zs ([t1, t2].take (i + 1)) kvs' rv H6 →
          D.nx [some (.ref l), some (.ref np), some (.ref tp), some (.int fl), some (.int ((j + 3 * cnt' : Nat) : Int)), some (.ref wd), some (.ref rw), some (.str t), x8, x9] H6) →
        tSeq (tIfS (tTest (tOp (rEqA K) (tVar 7) (tOp (rIxA K) (tVar 2) (tC (.int 0))))) (tAsg (tCB rMax2 (tCons (tC (.int 1)) (tCons (tOp (rIxA K) (tVar 6) (tVar 7)) tNil))) (gSub (tVar 6) (tVar 7) rSetA)) tNext)
          (tFor (iList K (tVar 1)) (gName 8) (tFor (iRng1 (tCons (tOp (rIxA K) (tVar 6) (tVar 7)) tNil)) (gName 9) (tSeq (tAsg (tOp (rAddA K) (tVar 4) (tC (.int 3))) (gName 4))
          (tAsg (tCallS (sp_law_value K) (WE (fun cls d _ H => E cls d H)) (tCons (tVar 0) (tCons (tVar 4) (tCons (tVar 3) tNil)))) (gSub (tVar 5) (tTup (tCons (tVar 7) (tCons (tVar 8) (tCons (tVar 9) tNil)))) rSetA))))) D
          [some (.ref l), some (.ref np), some (.ref tp), some (.int fl), some (.int ((j + 3 * cnt : Nat) : Int)), some (.ref wd), some (.ref rw), some (.str t), x8, x9] H5 := by
      intro rv r H5 D hD e5 hw5 hr5 hl5 hv5 h30 dn5 ks kD
      refine q_ifSetK (k := .inr t) (v := .int (if (r : Int) > 1 then (r : Int) else 1)) (et_test (ev_op (ev_var rfl) (ev_op (ev_var rfl) ev_c (rv_itL (v := .str t1) (SqL.of (e5 _ _ ht)) rfl)) (rv_eqS rfl))) hr5 (fun _ => ev_max2 ev_c (ev_op (ev_var rfl) (ev_var rfl) (rv_ixDk (k := .inr t) hr5 hv5))) (ev_var rfl) (ev_var rfl) (by omega) (fun hb H6 e6 => ?_) (fun hb H6 e6 => ?_)
      · have em : (if (r : Int) > 1 then (r : Int) else 1) = ((max r 1 : Nat) : Int) := by
          split <;> omega
        rw [em]
        refine loops (putK rv (.inr t) (.int ((max r 1 : Nat) : Int))) (max r 1) _ D hD (Ex.mut (e5.trans e6) r00) ((upd_ne wr).trans (e6 _ _ hw5)) upd_same (by have := pl rv (.int ((max r 1 : Nat) : Int)); omega) (by rw [valV_put, if_pos rfl]) (by omega) (fun _ => by omega)
          (((dn5.imk (.of e6)).imk (ImkK (e6 _ _ hr5))).rows fun t' ht' => ?_) fun x8 x9 kvs' cnt' H7 a b c d e f => kD x8 x9 kvs' _ cnt' H7 a b c d e (by have := pl rv (.int ((max r 1 : Nat) : Int)); omega) f
        rw [keep rv _ ks t' ht', ks t' ht']
      · exact loops rv r H6 D hD (e5.trans e6) (e6 _ _ hw5) (e6 _ _ hr5) (by omega) hv5 h30 (fun e => absurd (by rw [e] : (V.str t = V.str t1)) (of_decide_eq_false hb)) (dn5.imk (.of e6)) fun x8 x9 kvs' cnt' H7 a b c d e f => kD x8 x9 kvs' _ cnt' H7 a b c d e (by omega) f
    refine q_ifSetK (k := .inr t) (v := .int 30) (et_test (ev_op (dr (a := 1) rfl rfl s4 (by decide) (by decide)) ev_c (rv_eqS rfl))) upd_same (fun _ => ev_c) (ev_var rfl) (ev_var rfl) (by omega) (fun _ H5 e5 => ?_) (fun _ H5 e5 => ?_)
    · exact last (putK (putK rvs (.inr t) (.int (n7 : Int))) (.inr t) (.int 30)) 30 _ _ rfl (Ex.mut (s4.trans e5) r00) ((upd_ne wr).trans (e5 _ _ w4)) upd_same (by have := pl (putK rvs (.inr t) (.int (n7 : Int))) (.int 30); omega) (by rw [valV_put, if_pos rfl]; rfl) (by decide)
        (((d4.imk (.of e5)).imk (ImkK (e5 _ _ upd_same))).rows fun t' ht' => by rw [keep _ _ (keep rvs (.int (n7 : Int)) fun _ _ => rfl) t' ht', keep rvs (.int (n7 : Int)) (fun _ _ => rfl) t' ht']) (keep _ _ (keep rvs (.int (n7 : Int)) fun _ _ => rfl)) (fun x8 x9 kvs' rv cnt' H6 a b c d e f g => ⟨_, x8, x9, kvs', rv, cnt', rfl, a, b, c, d, e, f, g⟩)
    · exact last (putK rvs (.inr t) (.int (n7 : Int))) n7 _ _ rfl (s4.trans e5) (e5 _ _ w4) (e5 _ _ upd_same) (by omega) v4 (by omega) (d4.imk (.of e5)) (keep rvs (.int (n7 : Int)) fun _ _ => rfl) (fun x8 x9 kvs' rv cnt' H6 a b c d e f g => ⟨_, x8, x9, kvs', rv, cnt', rfl, a, b, c, d, e, f, g⟩)
  · rintro σ H3 ⟨x7, x8, x9, kvs, rvs, cnt, rfl, e3, hw3, hr3, hk3, hc3, hv3, dn⟩
    have dn : Dn t1 zs [t1, t2] kvs rvs H3 := dn
    refine s_retU (eu_tup (ea_cons (ev_var rfl) (ea_cons (ev_var rfl) ea_nil)) (show 2 ≤ 100000 by decide)) fun a H4 _ e4 h4 => ?_
    have E4 := e3.trans e4
    classical
    -- the values and rows, read off
    refine k a wd rw H4 (fun s => if g : GoodC kvs H3 s then (Classical.choose (Classical.choose_spec g)) else .inl 0) (fun t => if g : ∃ r : Nat, valV rvs (.inr t) = some (.int (r : Int)) ∧ r ≤ 30 then Classical.choose g else 0) E4 h4 ⟨⟨kvs, e4 _ _ hw3, fun s ⟨d1, d2, p, hp, hlt⟩ => ?_⟩, ⟨rvs, e4 _ _ hr3, fun t mt => ?_⟩, fun s => ?_, fun t mt => ?_⟩ ?_
    · obtain ⟨r, hr, h30, _, gd⟩ := dn s.1 d1
      have g0 : ∃ r : Nat, valV rvs (.inr s.1) = some (.int (r : Int)) ∧ r ≤ 30 := ⟨r, hr, h30⟩
      dsimp only at hlt
      rw [dif_pos g0] at hlt
      have er : Classical.choose g0 = r := by
        have := hr.symm.trans (Classical.choose_spec g0).1
        injection this with this
        injection this with this
        omega
      rw [er] at hlt
      have gs : GoodC kvs H3 s := by
        have := gd s.2.1 d2 p hlt
        rw [← hp] at this
        exact this
      try dsimp only
      rw [dif_pos gs]
      obtain ⟨q1, q2, q3⟩ := Classical.choose_spec (Classical.choose_spec gs)
      exact ⟨_, q1, q3.tup (.of_ex e4)⟩
    · obtain ⟨r, hr, h30, _⟩ := dn t mt
      have g0 : ∃ r : Nat, valV rvs (.inr t) = some (.int (r : Int)) ∧ r ≤ 30 := ⟨r, hr, h30⟩
      try dsimp only
      rw [dif_pos g0]
      exact (Classical.choose_spec g0).1
    · try dsimp only
      split
      · rename_i gs
        exact (Classical.choose_spec (Classical.choose_spec gs)).2.1
      · exact ⟨by decide, by decide⟩
    · try dsimp only
      split
      · rename_i g0
        exact (Classical.choose_spec g0).2
      · omega
    · obtain ⟨r, hr, h30, h1, _⟩ := dn t1 (by simp)
      have g0 : ∃ r : Nat, valV rvs (.inr t1) = some (.int (r : Int)) ∧ r ≤ 30 := ⟨r, hr, h30⟩
      try dsimp only
      rw [dif_pos g0]
      have := hr.symm.trans (Classical.choose_spec g0).1
      injection this with this
      injection this with this
      have := h1 rfl
      omega
end
end Z

set_option Elab.async false
set_option linter.all false
set_option autoImplicit false
set_option maxRecDepth 100000
set_option maxHeartbeats 4000000
/-! ev: what an expression comes to, by its form -/
local macro_rules | `(tactic| k_places) => `(tactic| (repeat' (first
  | (with_reducible exact ev_c)
  | (with_reducible exact ev_var rfl)
  | (with_reducible refine ev_chainLL ?_ ?_ ?_)
  | (with_reducible refine ev_chainLt ?_ ?_ ?_)
  | (with_reducible refine ev_op ?_ ?_ ?_)
  | (with_reducible refine ev_neg ?_)
  | (with_reducible refine et_test ?_)
  | (with_reducible refine et_B ?_)
  | (with_reducible refine et_not ?_)
  | (with_reducible refine et_and ?_ (fun _ => ?_))
  | (with_reducible refine et_or ?_ (fun _ => ?_))
  | (with_reducible refine ev_andV ?_ (fun _ => ?_))
  | (with_reducible refine ev_orV ?_ (fun _ => ?_))
  | (with_reducible refine ev_notV ?_)
  | (with_reducible exact rv_addI)
  | (with_reducible exact rv_subI)
  | (with_reducible exact rv_lt)
  | (with_reducible exact rv_le)
  | (with_reducible exact rv_gt)
  | (with_reducible exact rv_ge)
  | (with_reducible exact rv_isB)
  | (with_reducible exact rv_isnB)
  | (with_reducible exact rv_isN)
  | (with_reducible exact rv_isnN)
  | (with_reducible exact rv_eqS rfl)
  | (with_reducible exact rv_neS rfl)
  | (with_reducible exact rv_inStr)
  | (with_reducible exact rv_ninStr)
  | (with_reducible exact rv_mod (by first | decide | omega | assumption))
  | (with_reducible exact rv_div (by first | decide | omega | assumption))
  | (with_reducible exact rv_pow (by decide))
  | (with_reducible refine ed_i ?_; done)
  | (with_reducible exact ea_nil)
  | (with_reducible refine ea_cons ?_ ?_)
  | (with_reducible exact eds_nil)
  | (with_reducible refine eds_cons ?_ ?_)
  | (with_reducible exact ed_dnew)
  | (with_reducible refine ed_lst ?_ (by simp only [List.length_cons, List.length_nil]; omega))
  | (with_reducible refine ed_tup ?_ (by simp only [List.length_cons, List.length_nil]; omega)))))
namespace Z
open PySem PySem.Spec PyProof.Rows L2 Evl NdefX LamX
/-! ### spots compared; lists of them in which each stands once -/
def okSp (s : Spot) : Prop := okS s.1 ∧ okS s.2.1
theorem eqv_dSp (s t : Spot) : PyData.eqv (dSp s) (dSp t) = decide (s = t) := by
  show ((s.1 == t.1) && ((s.2.1 == t.2.1) && ((s.2.2 == t.2.2) && true))) = _
  rw [Bool.and_true]
  by_cases h : s = t
  · subst h
    simp
  · rw [decide_eq_false h]
    cases q : ((s.1 == t.1) && ((s.2.1 == t.2.1) && (s.2.2 == t.2.2))) with
    | false => rfl
    | true =>
      simp only [Bool.and_eq_true, beq_iff_eq] at q
      exact (h (Prod.ext q.1 (Prod.ext q.2.1 q.2.2))).elim
theorem any_dSp (s : Spot) (ss : List Spot) : ((ss.map dSp).any fun z => PyData.eqv z (dSp s)) = decide (s ∈ ss) := by
  induction ss with
  | nil => rfl
  | cons x r ih =>
    rw [List.map_cons, List.any_cons, ih, eqv_dSp]
    by_cases h : x = s
    · subst h; simp
    · have : ¬ s = x := fun e => h e.symm
      simp [h, this]
theorem okD_dSp {s : Spot} (h : okSp s) : okD (dSp s) := by
  show okN 10 (.tuple _)
  simp only [okN, okNs, and_true]
  exact ⟨h.1, h.2⟩
theorem okN_dSp {s : Spot} (h : okSp s) : okN 9 (dSp s) := by
  show okN 9 (.tuple _)
  simp only [okN, okNs, and_true]
  exact ⟨h.1, h.2⟩
theorem okD_dSps {ss : List Spot} (h : ∀ s ∈ ss, okSp s) : okD (.list (ss.map dSp)) := by
  show okN 10 (.list _)
  rw [okN, okNs_iff]
  intro d hd
  obtain ⟨s, hs, rfl⟩ := List.mem_map.mp hd
  exact okN_dSp (h s hs)
theorem AtS.dt {H : Hp} {v : V} {s : Spot} (h : AtS H v s) : Dt H v (dSp s) := by
  obtain ⟨a, rfl, h⟩ := h
  exact .tup h (.cons (.str _) (.cons (.str _) (.cons (.int _) .nil)))
theorem AtSs.dt {H : Hp} : ∀ {vs : List V} {ss : List Spot}, AtSs H vs ss → DtAll H vs (ss.map dSp)
  | [], [], _ => .nil
  | [], _ :: _, h => by have := h.1; simp at this
  | _ :: _, [], h => by have := h.1; simp at this
  | v :: vs, s :: ss, h => by
    obtain ⟨w, a, b⟩ := h.2 0 s rfl
    cases a
    exact .cons b.dt (AtSs.dt ⟨by have := h.1; simpa using this, fun i t ht => by
      obtain ⟨w, a, b⟩ := h.2 (i + 1) t (by simpa using ht)
      exact ⟨w, by simpa using a, b⟩⟩)
/-- in the order of their first coming -/
def once (l : List Spot) : List Spot := l.foldl (fun acc s => if s ∈ acc then acc else acc ++ [s]) []
theorem once_snoc (l : List Spot) (s : Spot) : once (l ++ [s]) = if s ∈ once l then once l else once l ++ [s] := by
  unfold once
  rw [List.foldl_append]
  rfl
theorem once_mem {l : List Spot} {s : Spot} (h : s ∈ once l) : s ∈ l := by
  have : ∀ (l : List Spot) (acc : List Spot), s ∈ l.foldl (fun acc s => if s ∈ acc then acc else acc ++ [s]) acc → s ∈ acc ∨ s ∈ l := by
    intro l
    induction l with
    | nil => intro acc h; exact .inl h
    | cons x r ih =>
      intro acc h
      rcases ih _ h with z | z
      · dsimp only at z
        split at z
        · exact .inl z
        · rcases List.mem_append.mp z with z | z
          · exact .inl z
          · exact .inr (by rw [List.mem_singleton.mp z]; exact List.mem_cons_self)
      · exact .inr (List.mem_cons_of_mem _ z)
  rcases this l [] h with z | z
  · simp at z
  · exact z
theorem once_len (l : List Spot) : (once l).length ≤ l.length := by
  have : ∀ (l : List Spot) (acc : List Spot), (l.foldl (fun acc s => if s ∈ acc then acc else acc ++ [s]) acc).length ≤ acc.length + l.length := by
    intro l
    induction l with
    | nil => intro acc; simp
    | cons x r ih =>
      intro acc
      have := ih (if x ∈ acc then acc else acc ++ [x])
      rw [List.foldl_cons, List.length_cons]
      refine Nat.le_trans this ?_
      split
      · omega
      · rw [List.length_append]
        simp only [List.length_cons, List.length_nil]
        omega
  have h2 := this l []
  rw [List.length_nil, Nat.zero_add] at h2
  exact h2
section
variable {K : PySem.W.Frag} {σ : L2.St} {H H' : Hp} {ta tb tc te tx : TE} {D : Ends} {tz : TS} {E : L2.St → XK}
theorem ev_ninS {v : V} {s : Spot} {ss : List Spot} {p : Addr} {xs : List V} (h1 : Ev ta σ H v) (r1 : AtS H v s) (h2 : Ev tb σ H (.ref p)) (hp : H p = some (.lst xs)) (r2 : AtSs H xs ss) (o1 : okSp s) (o2 : ∀ x ∈ ss, okSp x) : Ev (tOp (rNinA K) ta tb) σ H (.bl (!decide (s ∈ ss))) := fun H1 e Q q =>
  h1 H1 e _ fun H2 e2 => h2 H2 (e.trans e2) _ fun H3 e3 => by
    have E := (e.trans e2).trans e3
    refine .inr (.inr (.inr ⟨dSp s, ss.map dSp, ((r1.tup (.of_ex E)).dt).dp (okD_dSp o1).nd, (Dt.lst (E _ _ hp) (r2.tup (.of_ex E)).dt).dp (okD_dSps o2).nd, (okD_dSp o1).shaped, (okD_dSps o2).shaped, ?_⟩))
    rw [any_dSp]
    exact q H3 (e2.trans e3)
theorem ev_neSs {ss : List Spot} (h1 : EvD ta σ H (.list (ss.map dSp))) (h2 : EvD tb σ H (.list (ss.map dSp))) (o : ∀ x ∈ ss, okSp x) : Ev (tOp (rNeA K) ta tb) σ H (.bl false) :=
  ev_is (ev_neD h1 h2 (okD_dSps o) (okD_dSps o)) (by rw [eqv_self (okD_dSps o)]; rfl)
theorem ed_spots {p : Addr} {xs : List V} {ss : List Spot} (h : Ev ta σ H (.ref p)) (hp : H p = some (.lst xs)) (r : AtSs H xs ss) : EvD ta σ H (.list (ss.map dSp)) := ed_ev h (.lst hp r.dt)
end
theorem World.keep {H H' : Hp} {wd rw : Addr} {ts zs : List Str} {W : Spot → Val} {R : Str → Nat} (h : World H wd rw ts zs W R) (k1 : ∀ o, H wd = some o → H' wd = some o) (k2 : ∀ o, H rw = some o → H' rw = some o) (i : Tup H H') : World H' wd rw ts zs W R := by
  obtain ⟨⟨kvs, a, b⟩, ⟨rvs, c, d⟩, e, f⟩ := h
  refine ⟨⟨kvs, k1 _ a, fun s q => ?_⟩, ⟨rvs, k2 _ c, d⟩, e, f⟩
  obtain ⟨v, x, y⟩ := b s q
  exact ⟨v, x, y.tup i⟩
theorem hid_tup {cl : List (Str × Addr)} {H : Hp} (C : Cells cl H) : Tup H (hidC cl H) := fun b xs e => (hidC_ne (C.no e fun _ _ z => by cases z)).trans e
theorem hid_at {cl : List (Str × Addr)} {H : Hp} (C : Cells cl H) {b : Addr} {o : HO} (e : H b = some o) (n : ∀ ob u, o ≠ .frz ob u) : hidC cl H b = some o := (hidC_ne (C.no e n)).trans e
/-! ### the law's function that is told what is asked -/
abbrev ND : List Str := ["world", "rows", "rule", "table", "column", "place", "look", "many", "found", "once", "spot", "notes"]
def tG (K : PySem.W.Frag) (CA : Hp → Addr → Sp → Prop) (Tb : List (Addr × Str)) (mk0 mk1 : List (Str × Addr) → Addr → LF) (cl : List (Str × Addr)) (C : Addr) (spg : Sp) (E : XK) : TS :=
  tSeq (tAsg (tLst tNil) (gName 11))
    (tSeq (tAsg (tLamE Tb (mk1 cl)) (gName 6))
    (tSeq (tAsg (tLamE Tb (mk0 cl)) (gName 7))
    (tSeq (tAsg (tMetL C "gather" ND ["world", "rows", "notes"] cl spg (tVar 2) (tCons (tVar 6) (tCons (tVar 7) (tCons (tVar 3) (tCons (tVar 4) (tCons (tVar 5) tNil)))))) (gName 8))
    (tSeq (tAsg (tLst tNil) (gName 9))
    (tSeq (tFor (iList K (tVar 11)) (gName 10) (tIfS (tTest (tOp (rNinA K) (tVar 10) (tVar 9))) (tDrop (tBM K "list" rAppend (tVar 9) (tCons (tVar 10) tNil))) tNext))
    (tRet (tTup (tCons (tVar 8) (tCons (tVar 9) tNil)))))))))
/-- the lambdas' promises: many = lambda t: rows[t]; look = lambda t, c, p: _law_look(world, notes, t, c, p) -/
def splM (K : PySem.W.Frag) : List (Option V) → Sp := fun ws vs H Q _ => ∃ (rw : Addr) (t : Str) (rvs : List (Key × V)) (v : V), ws = [some (.ref rw)] ∧ vs = [.str t] ∧ H rw = some (.dK rvs) ∧ valV rvs (.inr t) = some v ∧ RetV v H Q
def splL (K : PySem.W.Frag) : List (Option V) → Sp := fun ws vs H Q E => ∃ (pn wd : Addr) (t c p : V), ws = [some (.ref pn), some (.ref wd)] ∧ vs = [t, c, p] ∧ sp_law_look K [.ref wd, .ref pn, t, c, p] H Q E0
def tlM (K : PySem.W.Frag) : TE := tOp (rIxA K) (tVar 1) (tVar 0)
def tlL (K : PySem.W.Frag) : TE := tCall (sp_law_look K) [] E0 (tCons (tVar 4) (tCons (tVar 3) (tCons (tVar 0) (tCons (tVar 1) (tCons (tVar 2) tNil)))))
theorem lenlM {K : PySem.W.Frag} (ws : List (Option V)) (vs : List V) (H : Hp) (Q : VK) (E : XK) (h : splM K ws vs H Q E) : vs.length = 1 := by obtain ⟨_, _, _, _, _, rfl, _⟩ := h; rfl
theorem lenlL {K : PySem.W.Frag} (ws : List (Option V)) (vs : List V) (H : Hp) (Q : VK) (E : XK) (h : splL K ws vs H Q E) : vs.length = 3 := by obtain ⟨_, _, _, _, _, _, rfl, _⟩ := h; rfl
theorem rlM {K : PySem.W.Frag} (ws : List (Option V)) (vs : List V) (H : Hp) (Q : VK) (h : splM K ws vs H Q E0) : tlM K (startF ["t", "rows"] vs ws) H Q := by
  obtain ⟨rw, t, rvs, v, rfl, rfl, h1, h2, k⟩ := h
  exact ev_op (r := rIxA K) (ta := tVar 1) (tb := tVar 0) (σ := [some (.str t), some (.ref rw)]) (ev_var rfl) (ev_var rfl) (rv_ixDk (k := .inr t) h1 h2) H (Ex.refl H) Q fun H1 e1 => k H1 e1
theorem rlL {K : PySem.W.Frag} (ws : List (Option V)) (vs : List V) (H : Hp) (Q : VK) (h : splL K ws vs H Q E0) : tlL K (startF ["t", "c", "p", "notes", "world"] vs ws) H Q := by
  obtain ⟨pn, wd, t, c, p, rfl, rfl, h⟩ := h
  exact ⟨_, rfl, _, rfl, _, rfl, _, rfl, _, rfl, h⟩
/-- where one has looked: the notes; the world -/
def JW (pn wd rw : Addr) (kvs : List (List Key × V)) (rvs : List (Key × V)) (ts zs : List Str) (W : Spot → Val) (R : Str → Nat) : List Addr → List Spot → Hp → Prop := fun F l H => F = [pn, wd, rw] ∧ (∃ xs, H pn = some (.lst xs) ∧ AtSs H xs l) ∧ World H wd rw ts zs W R ∧ (∀ s ∈ l, domW ts zs R s) ∧ H wd = some (.dT kvs) ∧ H rw = some (.dK rvs)
theorem ask_jw {T : List (Addr × Str)} {pn wd rw : Addr} {kvs : List (List Key × V)} {rvs : List (Key × V)} {ts zs : List Str} {W : Spot → Val} {R : Str → Nat} (ok : ∀ s, okV (W s)) : Ask T [] (JW pn wd rw kvs rvs ts zs W R) W (domW ts zs R) := by
  refine ⟨fun F l H H' ⟨hF, ⟨xs, a, b⟩, w, d, u1, u2⟩ k i _ => ?_, (fun _ _ _ _ _ z => nomatch z), fun F l H a ⟨hF, ⟨xs, h, _⟩, w, _, hw, hr⟩ ha => ?_, fun s _ => ok s⟩
  · subst hF
    exact ⟨rfl, ⟨xs, k pn (.inl (by simp)) _ a, b.tup i.tup⟩, w.keep (k wd (.inl (by simp))) (k rw (.inl (by simp))) i.tup, d, k wd (.inl (by simp)) _ u1, k rw (.inl (by simp)) _ u2⟩
  · subst hF
    simp only [List.mem_cons, List.mem_nil_iff, or_false] at ha
    rcases ha with rfl | rfl | rfl
    · exact ⟨_, h, fun z => z, fun _ z => nomatch z⟩
    · exact ⟨_, hw, fun z => z, fun _ z => nomatch z⟩
    · exact ⟨_, hr, fun z => z, fun _ z => nomatch z⟩
/-- what the rule at ru tells of a cell, in the world -/
abbrev PRule := Hp → Addr → Str → Str → Int → (Spot → Val) → (Str → Nat) → List Str → List Str → Res × List Spot → Prop
def spG (Tb : List (Addr × Str)) (PR : PRule) : Sp := fun vs H Q _ => ∃ (wd rw ru : Addr) (t c : Str) (p : Int) (ts zs : List Str) (W : Spot → Val) (R : Str → Nat) (r : Res × List Spot), vs = [.ref wd, .ref rw, .ref ru, .str t, .str c, .int p] ∧ Tabs Tb H ∧ World H wd rw ts zs W R ∧ (∀ z ∈ zs, isName z = true) ∧ (∀ t ∈ ts, isName t = true) ∧
  PR H ru t c p W R ts zs r ∧ r.2.length ≤ 900 ∧ ∀ a v q xs H', XB Tb [] H H' → H' a = some (.tup [v, .ref q]) → Got H H' v r.1 → H' q = some (.lst xs) → AtSs H' xs (once r.2) → (∀ s ∈ once r.2, okSp s) → Q (.ref a) H'
/-- the rule's class, and what its gather promises -/
structure PROk (CA : Hp → Addr → Sp → Prop) (Tb : List (Addr × Str)) (PR : PRule) (C : Addr) (spg : Sp) : Prop where
  ins : ∀ {H ru t c p W R ts zs r}, PR H ru t c p W R ts zs r → ∃ dx fs, H ru = some (.ins C dx fs) ∧ fs.lookup ("gather" : Str) = none
  run : ∀ {H ru t c p W R ts zs r}, PR H ru t c p W R ts zs r → ∀ H3 J F f m Q, XB Tb [] H H3 → (∀ a ∈ F, H a = none ∨ (∃ kvs, H a = some (.dT kvs)) ∨ ∃ kvs, H a = some (.dK kvs)) → GIn CA Tb [] J W (domW ts zs R) R (· ∈ ts) F [] H3 ru f m → gOut Tb J F [] H3 Q r → spg [.ref ru, .ref f, .ref m, .str t, .str c, .int p] H3 Q E0
theorem lenG {Tb : List (Addr × Str)} {PR : PRule} (vs : List V) (H : Hp) (Q : VK) (E : XK) (h : spG Tb PR vs H Q E) : vs.length = 6 := by obtain ⟨_, _, _, _, _, _, _, _, _, _, _, rfl, _⟩ := h; rfl
theorem q_lam {Tb : List (Addr × Str)} {mk : Addr → LF} {σ : L2.St} {H : Hp} {D : Ends} {tz : TS} {i : Nat} (ht : Tabs Tb H) (k : ∀ f c H1, ExT Tb H H1 → H f = none → H1 f = some (FnL f (mk c)) → H1 c = some (CodeO c (mk c).qual) → tz D (σ.set i (some (.ref f))) H1) : tSeq (tAsg (tLamE Tb mk) (gName i)) tz D σ H := ⟨ht, k⟩
theorem rG {K : PySem.W.Frag} {CA : Hp → Addr → Sp → Prop} {Tb : List (Addr × Str)} {PR : PRule} {mk0 mk1 : List (Str × Addr) → Addr → LF} {nm0 nm1 : List (Str × NameKind)} {cl : List (Str × Addr)} {C : Addr} {spg : Sp} (I0 : LamI CA mk0 nm0 ["rows"] (splM K)) (I1 : LamI CA mk1 nm1 ["notes", "world"] (splL K)) (G : PROk CA Tb PR C spg) (hc : CAst CA)
    (vs : List V) (H : Hp) (Q : VK) (E : XK) (h : spG Tb PR vs H Q E) : tG K CA Tb mk0 mk1 cl C spg E { nx := fun _ H' => Q .non H', rt := Q } (L2.start ND vs) H := by
  obtain ⟨wd, rw, ru, t, c, p, ts, zs, W, R, r, rfl, hT, hw, hz, hts, pr, hr, k⟩ := h
  unfold tG
  obtain ⟨kvs, w1, _⟩ := hw.w
  obtain ⟨rvs, r1, _⟩ := hw.r
  obtain ⟨dx, fs, u1, u2⟩ := G.ins pr
  refine q_asgL (el_lst ea_nil (by decide)) fun pn H1 hp e1 h1 => ?_
  have t1 : Tabs Tb H1 := hT.ext fun b o e => e1 b o e
  refine q_lam t1 fun f c1 H2 e2 f0 f1 g1 => ?_
  refine q_lam e2.t fun m c2 H3 e3 m0 m1 g2 => ?_
  have x3 : XB Tb [] H H3 := ((XB.of e1).trans (XB.ofT e2)).trans (XB.ofT e3)
  have keep3 : ∀ {a : Addr} {o : HO}, H a = some o → (∀ ps, o ≠ .tbl ps) → H3 a = some o := fun e n => x3.k _ _ e (by simp) n
  have pn3 : H3 pn = some (.lst []) := ((XB.ofT (F := []) e2).trans (XB.ofT e3)).k pn _ h1 (by simp) fun _ z => nomatch z
  have f3 : H3 f = some (FnL f (mk1 cl c1)) := e3.e f _ f1 fun ps => fnL_ne ps
  have g3 : H3 c1 = some (CodeO c1 (mk1 cl c1).qual) := e3.e c1 _ g1 fun ps => codeO_ne ps
  have w3 : World H3 wd rw ts zs W R := hw.keep (fun o e => x3.k _ _ e (by simp) fun ps z => by rw [w1] at e; cases e; cases z) (fun o e => x3.k _ _ e (by simp) fun ps z => by rw [r1] at e; cases e; cases z) x3.i.tup
  have wp : wd ≠ pn := ne_of_none w1 hp
  have rp : rw ≠ pn := ne_of_none r1 hp
  have AK : Ask Tb [] (JW pn wd rw kvs rvs ts zs W R) W (domW ts zs R) := ask_jw hw.ok
  refine ⟨_, rfl, ru, dx, fs, rfl, keep3 u1 (fun _ z => nomatch z), u2, _, rfl, _, rfl, _, rfl, _, rfl, _, rfl, fun H4 L => ?_⟩
  have e4 := L.ex
  have x4 : XB Tb [] H H4 := x3.trans (XB.of e4)
  -- what may be called
  have F4 : ∀ a ∈ [pn, wd, rw], H a = none ∨ (∃ kvs, H a = some (.dT kvs)) ∨ ∃ kvs, H a = some (.dK kvs) := fun a ha => by
    simp only [List.mem_cons, List.mem_nil_iff, or_false] at ha
    rcases ha with rfl | rfl | rfl
    · exact .inl hp
    · exact .inr (.inl ⟨_, w1⟩)
    · exact .inr (.inr ⟨_, r1⟩)
  have ruF : ru ∉ [pn, wd, rw] := fun z => by
    rcases F4 ru z with q | ⟨_, q⟩ | ⟨_, q⟩ <;> rw [u1] at q <;> cases q
  have C1 := L.caught (names := nm1) (fr := ["notes", "world"]) (js := [11, 0]) (fun y hy e => by have := I1.sub y hy e; simp at this ⊢; rcases this with z | z <;> simp [z]) I1.frk rfl
  have C0 := L.caught (names := nm0) (fr := ["rows"]) (js := [1]) (fun y hy e => by have := I0.sub y hy e; simp at this ⊢; simp [this]) I0.frk rfl
  have ca1 : CA H4 f (spLook Tb (JW pn wd rw kvs rvs ts zs W R) W (domW ts zs R)) := by
    refine I1.ca cl c1 f H4 _ _ (e4 _ _ f3) (e4 _ _ g3) C1 fun vs H' Q' kp ⟨s, F, l, hvs, hd, hl, ⟨hF, ⟨xs, a1, a2⟩, w, dl, u1, u2⟩, kk⟩ => ?_
    subst hF hvs
    have CC := (C1.kp kp).cells
    obtain ⟨kvs', b1, b2⟩ := w.w
    obtain ⟨v, c1', c2'⟩ := b2 s hd
    have lx : xs.length = l.length := a2.1
    refine ⟨pn, wd, .str s.1, .str s.2.1, .int s.2.2, rfl, rfl, wd, pn, xs, s, kvs', v, rfl, hid_at CC b1 (fun _ _ z => nomatch z), c1', hid_at CC a1 (fun _ _ z => nomatch z), by omega, fun b H2 xb p2 s2 hn => ?_⟩
    have xs' := (xb Tb).shw CC hn
    have at2 : ∀ {a : Addr} {o : HO}, H2 a = some o → shwC (cloFrom cl nm1 []) H' H2 a = some o := fun {a o} e => (shwC_ne fun ⟨y, hy⟩ => by rw [hn y a hy] at e; cases e).trans e
    refine kk v [pn, wd, rw] _ ⟨xs'.mono (by simp), fun a ha => .inl ha⟩ (c2'.tup xs'.i.tup) ⟨rfl, ⟨xs ++ [b], at2 p2, ?_⟩, ?_, fun s' hs' => ?_, ?_⟩
    · refine (a2.tup xs'.i.tup).snoc ?_
      obtain ⟨x, y1, y2⟩ := s2
      exact ⟨x, y1, at2 y2⟩
    · obtain ⟨rvs', d1, _⟩ := w.r
      exact w.keep (fun o e => xs'.k _ _ e (by simpa using wp) fun ps z => by rw [b1] at e; cases e; cases z) (fun o e => xs'.k _ _ e (by simpa using rp) fun ps z => by rw [d1] at e; cases e; cases z) xs'.i.tup
    · rcases List.mem_append.mp hs' with z | z
      · exact dl s' z
      · rw [List.mem_singleton.mp z]
        exact hd
    · exact ⟨xs'.k _ _ u1 (by simpa using wp) (fun _ z => nomatch z), xs'.k _ _ u2 (by simpa using rp) (fun _ z => nomatch z)⟩
  have ca0 : CA H4 m (spMany (JW pn wd rw kvs rvs ts zs W R) R (· ∈ ts)) := by
    refine I0.ca cl c2 m H4 _ _ (e4 _ _ m1) (e4 _ _ g2) C0 fun vs H' Q' kp ⟨t', F, l, hvs, ht', ⟨hF, _, w, _, _, _⟩, kk⟩ => ?_
    subst hF hvs
    have CC := (C0.kp kp).cells
    obtain ⟨rvs', b1, b2⟩ := w.r
    refine ⟨rw, t', rvs', _, rfl, rfl, hid_at CC b1 (fun _ _ z => nomatch z), b2 t' ht', fun H2 e2 hn => kk _ fun a o e => ?_⟩
    by_cases z : ∃ y, (cloFrom cl nm0 []).lookup y = some a
    · exact (shwC_at z).trans e
    · exact (shwC_ne z).trans (e2 _ _ ((hidC_ne z).trans e))
  refine G.run pr H4 (JW pn wd rw kvs rvs ts zs W R) [pn, wd, rw] f m _ x4 F4 ⟨ca1, ca0, AK, hw.few, ⟨rfl, ⟨[], e4 _ _ pn3, rfl, fun i s q => by simp at q⟩, w3.ex e4, fun s q => by simp at q, e4 _ _ (keep3 w1 fun _ z => nomatch z), e4 _ _ (keep3 r1 fun _ z => nomatch z)⟩, by simp, ruF⟩ fun v F5 H5 st5 j5 got5 => ?_
  obtain ⟨hF5, ⟨xs5, n5, s5⟩, w5, d5, y5, z5⟩ := j5
  rw [List.nil_append] at s5 d5
  -- behind the call the cells are hidden again
  have C5 : Cells cl H5 := fun y a e => by
    obtain ⟨o, u, q1, q2⟩ := L.all y a e
    exact ⟨o, u, st5.x.i _ _ q1 True.intro, q2⟩
  have x6 : XB Tb [pn, wd, rw] H3 (hidC cl H5) := st5.x.lent L
  have x06 : XB Tb [] H (hidC cl H5) := by
    refine ⟨fun a o e n t => ?_, x3.i.trans x6.i, fun a q => x3.n a (x6.n a q), fun t => x6.t (x3.t t)⟩
    by_cases z : a ∈ [pn, wd, rw]
    · simp only [List.mem_cons, List.mem_nil_iff, or_false] at z
      rcases z with rfl | rfl | rfl
      · rw [hp] at e; cases e
      · rw [w1] at e; cases e
        exact hid_at C5 y5 fun _ _ z => nomatch z
      · rw [r1] at e; cases e
        exact hid_at C5 z5 fun _ _ z => nomatch z
    · exact x6.k a o (keep3 e t) z t
  have n6 : hidC cl H5 pn = some (.lst xs5) := hid_at C5 n5 fun _ _ z => nomatch z
  have s6 : AtSs (hidC cl H5) xs5 r.2 := s5.tup (hid_tup C5)
  have got6 : Got H (hidC cl H5) v r.1 := by
    have g := got5.back (H0 := H) fun a q => x4.n a q
    cases hr1 : r.1 with
    | val x =>
      rw [hr1] at g
      obtain ⟨a, u, g1, g2, g3⟩ := g
      exact ⟨a, u, g1, hid_at C5 g2 (fun _ _ z => nomatch z), g3.tup (hid_tup C5)⟩
    | call is =>
      rw [hr1] at g
      obtain ⟨a, q, g1, g2, g3, g4⟩ := g
      exact ⟨a, q, g1, hid_at C5 g2 (fun _ _ z => nomatch z), hid_at C5 g3 (fun _ _ z => nomatch z), g4⟩
  have okr : ∀ s ∈ r.2, okSp s := fun s hs => by
    obtain ⟨q1, q2, _⟩ := d5 s hs
    exact ⟨name_ok (hts _ q1), name_ok (hz _ q2)⟩
  show tSeq _ _ _ _ _
  refine q_asgL (el_lst ea_nil (by decide)) fun q H7 hq e7 h7 => ?_
  refine q_forLn (ev_var rfl) (SqL.of (e7 _ _ n6)) (fun i σ H' => ∃ (x10 : Option V) (ys : List V), σ = [some (.ref wd), some (.ref rw), some (.ref ru), some (.str t), some (.str c), some (.int p), some (.ref f), some (.ref m), some v, some (.ref q), x10, some (.ref pn)] ∧ Ex (hidC cl H5) H' ∧ H' q = some (.lst ys) ∧ AtSs H' ys (once (r.2.take i)))
    (fun H8 e8 => ⟨_, [], rfl, e7.trans e8, e8 _ _ h7, rfl, fun i s z => by simp [once] at z⟩) (fun i σ H' _ ⟨_, _, _, e, _⟩ => SqL.of (e _ _ n6)) ?_ ?_
  · rintro i x σ H8 hi ⟨x10, ys, rfl, e8, hq8, a8⟩
    obtain ⟨s, hs, as⟩ := (s6.tup (.of_ex e8)).at hi
    have il : i < r.2.length := (List.getElem?_eq_some_iff.mp hs).1
    have tk : r.2.take (i + 1) = r.2.take i ++ [s] := by rw [List.take_add_one, hs]; rfl
    have o2 : ∀ x ∈ once (r.2.take i), okSp x := fun x hx => okr x (List.mem_of_mem_take (once_mem hx))
    have ly : ys.length ≤ 900 := by
      have := once_len (r.2.take i)
      rw [List.length_take] at this
      have := a8.1
      omega
    refine s_when (et_test (ev_ninS (ev_var rfl) as (ev_var rfl) hq8 a8 (okr s (List.mem_of_getElem? hs)) o2)) (fun hb H9 e9 => ?_) (fun hb H9 e9 => ?_)
    · have hn : s ∉ once (r.2.take i) := by simpa using hb
      refine s_app (e9 _ _ hq8) (ev_var rfl) (ev_var rfl) (by omega) fun H10 e10 => ?_
      have e910 := e9.trans e10
      refine ⟨_, _, rfl, Ex.mut (e8.trans e910) hq, upd_same, ?_⟩
      rw [tk, once_snoc, if_neg hn]
      have tt : Tup H8 (L2.upd H10 q (.lst (ys ++ [x]))) := ((Imk.of e910).trans (Imk.upd (e910 _ _ hq8) fun z => z)).tup
      exact (a8.tup tt).snoc (as.tup tt)
    · have hn : s ∈ once (r.2.take i) := by simpa using hb
      refine ⟨_, ys, rfl, e8.trans e9, e9 _ _ hq8, ?_⟩
      rw [tk, once_snoc, if_pos hn]
      exact a8.tup (.of_ex e9)
  · rintro σ H8 ⟨x10, ys, rfl, e8, hq8, a8⟩
    rw [s6.1, List.take_length] at a8
    refine s_retU (eu_tup (ea_cons (ev_var rfl) (ea_cons (ev_var rfl) ea_nil)) (show 2 ≤ 100000 by decide)) fun a H9 _ e9 h9 => ?_
    have e89 := e8.trans e9
    exact k a v q ys H9 (x06.trans (XB.of e89)) h9 (got6.ex e89) (e9 _ _ hq8) (a8.tup (.of_ex e9)) fun s hs => okr s (once_mem hs)
end Z

set_option Elab.async false
set_option linter.all false
set_option autoImplicit false
set_option maxRecDepth 100000
set_option maxHeartbeats 4000000
/-! ev: what an expression comes to, by its form -/
local macro_rules | `(tactic| k_places) => `(tactic| (repeat' (first
  | (with_reducible exact ev_c)
  | (with_reducible exact ev_var rfl)
  | (with_reducible refine ev_chainLL ?_ ?_ ?_)
  | (with_reducible refine ev_chainLt ?_ ?_ ?_)
  | (with_reducible refine ev_op ?_ ?_ ?_)
  | (with_reducible refine ev_neg ?_)
  | (with_reducible refine et_test ?_)
  | (with_reducible refine et_B ?_)
  | (with_reducible refine et_not ?_)
  | (with_reducible refine et_and ?_ (fun _ => ?_))
  | (with_reducible refine et_or ?_ (fun _ => ?_))
  | (with_reducible refine ev_andV ?_ (fun _ => ?_))
  | (with_reducible refine ev_orV ?_ (fun _ => ?_))
  | (with_reducible refine ev_notV ?_)
  | (with_reducible exact rv_addI)
  | (with_reducible exact rv_subI)
  | (with_reducible exact rv_lt)
  | (with_reducible exact rv_le)
  | (with_reducible exact rv_gt)
  | (with_reducible exact rv_ge)
  | (with_reducible exact rv_isB)
  | (with_reducible exact rv_isnB)
  | (with_reducible exact rv_isN)
  | (with_reducible exact rv_isnN)
  | (with_reducible exact rv_eqS rfl)
  | (with_reducible exact rv_neS rfl)
  | (with_reducible exact rv_inStr)
  | (with_reducible exact rv_ninStr)
  | (with_reducible exact rv_mod (by first | decide | omega | assumption))
  | (with_reducible exact rv_div (by first | decide | omega | assumption))
  | (with_reducible exact rv_pow (by decide))
  | (with_reducible refine ed_i ?_; done)
  | (with_reducible exact ea_nil)
  | (with_reducible refine ea_cons ?_ ?_)
  | (with_reducible exact eds_nil)
  | (with_reducible refine eds_cons ?_ ?_)
  | (with_reducible exact ed_dnew)
  | (with_reducible refine ed_lst ?_ (by simp only [List.length_cons, List.length_nil]; omega))
  | (with_reducible refine ed_tup ?_ (by simp only [List.length_cons, List.length_nil]; omega)))))
namespace Z
open PySem PySem.Spec PyProof.Rows L2 Evl NdefX LamX
/-! ### what was told, against what is due -/
def Told (H : Hp) (v : V) : Res → Prop
  | .val x => ∃ a u, v = .ref a ∧ H a = some (.tup [.str "value", u]) ∧ Vt H u (dV x)
  | .call is => ∃ a p, v = .ref a ∧ H a = some (.tup [.str "call", .ref p]) ∧ H p = some (.lst (is.map V.int))
theorem Got.told {H H' : Hp} {v : V} {r : Res} (g : Got H H' v r) : Told H' v r := by
  cases r with
  | val x => exact g
  | call is => obtain ⟨a, p, g1, g2, g3, _⟩ := g; exact ⟨a, p, g1, g2, g3⟩
theorem Told.ex {H H' : Hp} {v : V} {r : Res} (g : Told H v r) (e : Ex H H') : Told H' v r := by
  cases r with
  | val x => obtain ⟨a, u, g1, g2, g3⟩ := g; exact ⟨a, u, g1, e _ _ g2, g3.tup (.of_ex e)⟩
  | call is => obtain ⟨a, p, g1, g2, g3⟩ := g; exact ⟨a, p, g1, e _ _ g2, e _ _ g3⟩
theorem Told.xb {T : List (Addr × Str)} {F : List Addr} {H H' : Hp} {v : V} {r : Res} (g : Told H v r) (x : XB T F H H') (hF : ∀ a ∈ F, (∃ kvs, H a = some (.dT kvs)) ∨ ∃ kvs, H a = some (.dK kvs)) : Told H' v r := by
  cases r with
  | val y => obtain ⟨a, u, g1, g2, g3⟩ := g; exact ⟨a, u, g1, x.i _ _ g2 True.intro, g3.tup x.i.tup⟩
  | call is =>
    obtain ⟨a, p, g1, g2, g3⟩ := g
    exact ⟨a, p, g1, x.i _ _ g2 True.intro, x.k _ _ g3 (fun z => by rcases hF p z with ⟨_, q⟩ | ⟨_, q⟩ <;> rw [g3] at q <;> cases q) fun _ z => nomatch z⟩
def okRes : Res → Prop
  | .val x => okV x
  | .call is => is.length ≤ 1000
def sp_law_whole (K : PySem.W.Frag) : Sp := sp1 (fun _ => True) fun d => .bool (isWholeD d)
def sp_law_alike (K : PySem.W.Frag) : Sp := fun vs H Q _ => ∃ (v u : V) (r : Res), vs = [v, u] ∧ Told H v r ∧ Told H u r ∧ okRes r ∧ RetV (.bl true) H Q
def sp_law_in_turn (K : PySem.W.Frag) : Sp := fun vs H Q _ => ∃ (wd sp : Addr) (xs : List V) (ss : List Spot) (W : Spot → Val) (Dom : Spot → Prop), vs = [.ref wd, .ref sp] ∧ WAt H wd W Dom ∧ H sp = some (.lst xs) ∧ AtSs H xs ss ∧ (∀ s ∈ ss, Dom s ∧ okSp s) ∧ (∀ s, okV (W s)) ∧ ss.length ≤ 100 ∧
  ∀ a u q ys H', Ex H H' → H' a = some (.tup [u, .ref q]) → Told H' u (turn W ss).1 → H' q = some (.lst ys) → AtSs H' ys (once (turn W ss).2) → Q (.ref a) H'
def sp_law_picked (K : PySem.W.Frag) : Sp := fun vs H Q _ => ∃ (l np : Addr) (ns : List Int) (zs : List Str) (j : Nat), vs = [.ref l, .int (j : Int), .ref np] ∧ SqL K H l (ns.map V.int) ∧ H np = some (.lst (zs.map V.str)) ∧ 1 ≤ zs.length ∧ zs.length ≤ 1000 ∧ j ≤ 90000 ∧
  ∀ ws : List Str, ws.length ≤ 6 → (∀ w ∈ ws, w ∈ zs) → RetL (ws.map V.str) H Q
def t_law_whole (K : PySem.W.Frag) (E : XK) : TS :=
  tRet (tAndV (tCB (rIsiA K) (tCons (tVar 0) (tCons (tC (.ty "int")) tNil))) (tNotV (tCB (rIsiA K) (tCons (tVar 0) (tCons (tC (.ty "bool")) tNil)))))
def t_law_alike (K : PySem.W.Frag) (E : XK) : TS :=
  tSeq (tIfS (tOr (tNot (tB (tCB (rIsiA K) (tCons (tVar 0) (tCons (tC (.ty "tuple")) tNil))))) (tOr (tTest (tOp (rNeA K) (tCB (rLenA K) (tCons (tVar 0) tNil)) (tC (.int 2)))) (tOr (tNot (tB (tCB (rIsiA K) (tCons (tOp (rIxA K) (tVar 0) (tC (.int 0))) (tCons (tC (.ty "str")) tNil))))) (tTest (tOp (rNeA K) (tOp (rIxA K) (tVar 0) (tC (.int 0))) (tOp (rIxA K) (tVar 1) (tC (.int 0)))))))) (tRet (tC (.bl false))) tNext)
    (tSeq (tIfS (tB (tCB (rIsiA K) (tCons (tOp (rIxA K) (tVar 1) (tC (.int 1))) (tCons (tC (.ty "int")) tNil)))) (tRet (tAndV (tCallS (sp_law_whole K) (WE (fun cls d _ H => E cls d H)) (tCons (tOp (rIxA K) (tVar 0) (tC (.int 1))) tNil)) (tOp (rEqA K) (tOp (rIxA K) (tVar 0) (tC (.int 1))) (tOp (rIxA K) (tVar 1) (tC (.int 1)))))) tNext)
    (tSeq (tIfS (tB (tCB (rIsiA K) (tCons (tOp (rIxA K) (tVar 1) (tC (.int 1))) (tCons (tC (.ty "tuple")) tNil)))) (tRet (tAndV (tCB (rIsiA K) (tCons (tOp (rIxA K) (tVar 0) (tC (.int 1))) (tCons (tC (.ty "tuple")) tNil))) (tOp (rEqA K) (tOp (rIxA K) (tVar 0) (tC (.int 1))) (tOp (rIxA K) (tVar 1) (tC (.int 1)))))) tNext)
    (tSeq (tIfS (tOr (tNot (tB (tCB (rIsiA K) (tCons (tOp (rIxA K) (tVar 0) (tC (.int 1))) (tCons (tC (.ty "list")) tNil))))) (tTest (tOp (rNeA K) (tLc (iList K (tOp (rIxA K) (tVar 0) (tC (.int 1)))) (gName 2) (tNot (tB (tCall (sp_law_whole K) [] E0 (tCons (tVar 2) tNil)))) (tVar 2) [2]) (tLst tNil)))) (tRet (tC (.bl false))) tNext)
    (tRet (tOp (rEqA K) (tOp (rIxA K) (tVar 0) (tC (.int 1))) (tOp (rIxA K) (tVar 1) (tC (.int 1))))))))
def t_law_in_turn (K : PySem.W.Frag) (E : XK) : TS :=
  tSeq (tAsg (tLst tNil) (gName 2))
    (tSeq (tAsg (tLst tNil) (gName 3))
    (tSeq (tFor (iList K (tVar 1)) (gName 4) (tSeq (tIfS (tTest (tOp (rNinA K) (tVar 4) (tVar 3))) (tDrop (tBM K "list" rAppend (tVar 3) (tCons (tVar 4) tNil))) tNext)
    (tSeq (tIfS (tB (tCB (rIsiA K) (tCons (tOp (rIxA K) (tVar 0) (tVar 4)) (tCons (tC (.ty "tuple")) tNil)))) (tRet (tTup (tCons (tTup (tCons (tC (.str "value")) (tCons (tOp (rIxA K) (tVar 0) (tVar 4)) tNil))) (tCons (tVar 3) tNil)))) tNext)
    (tDrop (tBM K "list" rAppend (tVar 2) (tCons (tOp (rIxA K) (tVar 0) (tVar 4)) tNil))))))
    (tRet (tTup (tCons (tTup (tCons (tC (.str "call")) (tCons (tVar 2) tNil))) (tCons (tVar 3) tNil))))))
def t_law_picked (K : PySem.W.Frag) (E : XK) : TS :=
  tRet (tLc (iRng1 (tCons (tCallS (sp_law_drawn K) (WE (fun cls d _ H => E cls d H)) (tCons (tVar 0) (tCons (tOp (rAddA K) (tVar 1) (tC (.int 9))) (tCons (tC (.int 7)) tNil)))) tNil)) (gName 3) tYes (tOp (rIxA K) (tVar 2) (tCall (sp_law_drawn K) [] E0 (tCons (tVar 0) (tCons (tOp (rAddA K) (tVar 1) (tVar 3)) (tCons (tCB (rLenA K) (tCons (tVar 2) tNil)) tNil))))) [3])
section
variable {K : PySem.W.Frag} {σ : L2.St} {H H' : Hp} {ta tb tc te tx : TE} {D : Ends} {tz : TS} {E : L2.St → XK}
theorem len_law_whole (vs : List V) (H : Hp) (Q : VK) (E : XK) (h : sp_law_whole K vs H Q E) : vs.length = 1 := by obtain ⟨_, _, rfl, _⟩ := sp1_open h; rfl
theorem len_law_alike (vs : List V) (H : Hp) (Q : VK) (E : XK) (h : sp_law_alike K vs H Q E) : vs.length = 2 := by obtain ⟨_, _, _, rfl, _⟩ := h; rfl
theorem len_law_in_turn (vs : List V) (H : Hp) (Q : VK) (E : XK) (h : sp_law_in_turn K vs H Q E) : vs.length = 2 := by obtain ⟨_, _, _, _, _, _, rfl, _⟩ := h; rfl
theorem len_law_picked (vs : List V) (H : Hp) (Q : VK) (E : XK) (h : sp_law_picked K vs H Q E) : vs.length = 3 := by obtain ⟨_, _, _, _, _, rfl, _⟩ := h; rfl
theorem r_law_whole (vs : List V) (H : Hp) (Q : VK) (E : XK) (h : sp_law_whole K vs H Q E) : t_law_whole K E { nx := fun _ H' => Q .non H', rt := Q } (L2.start ["found"] vs) H := r_is_whole vs H Q E h
def kindR : Res → Str
  | .val _ => "value"
  | .call _ => "call"
def tyVal : Val → String
  | .inl _ => "int"
  | .inr _ => "tuple"
/-- the two parts of what is told -/
theorem told_parts {v : V} {r : Res} (h : Told H v r) : ∃ a k x, v = .ref a ∧ H a = some (.tup [.str k, x]) ∧ k = kindR r := by
  cases r with
  | val x => obtain ⟨a, u, g1, g2, _⟩ := h; exact ⟨a, _, u, g1, g2, rfl⟩
  | call is => obtain ⟨a, p, g1, g2, _⟩ := h; exact ⟨a, _, _, g1, g2, rfl⟩
theorem ev_pt {a : Addr} {x y : V} (h : Ev ta σ H (.ref a)) (g : H a = some (.tup [x, y])) : Ev (tOp (rIxA K) ta (tC (.int 0))) σ H x ∧ Ev (tOp (rIxA K) ta (tC (.int 1))) σ H y :=
  ⟨ev_op h ev_c (rv_itT (SqT.of g) rfl), ev_op h ev_c (rv_itT (SqT.of g) rfl)⟩
theorem vt_ty {v : V} {x : Val} (h : Vt H v (dV x)) : tyN H v = some (tyVal x) := by
  cases x with
  | inl i => cases h; rfl
  | inr w => cases h with | flt h => show tyO (H _) = _; rw [h]; rfl
theorem r_law_alike (vs : List V) (H : Hp) (Q : VK) (E : XK) (h : sp_law_alike K vs H Q E) : t_law_alike K E { nx := fun _ H' => Q .non H', rt := Q } (L2.start ["found", "due", "one"] vs) H := by
  obtain ⟨v, u, r, rfl, h1, h2, ok, k⟩ := h
  unfold t_law_alike
  obtain ⟨a, k1, x, rfl, a1, ek1⟩ := told_parts h1
  obtain ⟨b, k2, y, rfl, b1, ek2⟩ := told_parts h2
  have ek : k1 = k2 := ek1.trans ek2.symm
  subst ek
  refine q_when (b := false) (et_is (et_or (et_not (et_B (ev_isi (ev_var rfl) (n := "tuple") (by show tyO (H a) = _; rw [a1]; rfl)))) fun _ => et_or (et_test (ev_op (ev_lenV (ev_var rfl) (rc_lenT (SqT.of a1))) ev_c (rv_neS rfl))) fun _ => et_or (et_not (et_B (ev_isi (ev_pt (ev_var rfl) a1).1 (n := "str") rfl))) fun _ => et_test (ev_op (ev_pt (ev_var rfl) a1).1 (ev_pt (ev_var rfl) b1).1 (rv_neS rfl))) (by
      rw [decide_eq_true rfl]
      rfl)) (fun hb => nomatch hb) fun _ H1 e1 => ?_
  have a2 := e1 _ _ a1
  have b2 := e1 _ _ b1
  cases r with
  | val z =>
    obtain ⟨a', x', q1, q2, vx⟩ := h1
    cases q1
    rw [a1] at q2
    cases q2
    obtain ⟨b', y', q1, q2, vy⟩ := h2
    cases q1
    rw [b1] at q2
    cases q2
    have eq : ∀ {σ : L2.St} {H2 : Hp}, Ex H H2 → σ[0]? = some (some (V.ref a)) → σ[1]? = some (some (V.ref b)) → Ev (tOp (rEqA K) (tOp (rIxA K) (tVar 0) (tC (.int 1))) (tOp (rIxA K) (tVar 1) (tC (.int 1)))) σ H2 (.bl true) := fun e h0 h1 =>
      ev_is (ev_eqD (ed_ev (ev_pt (ev_var h0) (e _ _ a1)).2 (vx.tup (.of_ex e)).dt) (ed_ev (ev_pt (ev_var h1) (e _ _ b1)).2 (vy.tup (.of_ex e)).dt) (val_okD (okV.val ok)) (val_okD (okV.val ok))) (by rw [eqv_self (val_okD (okV.val ok))])
    cases z with
    | inl i =>
      refine q_when (b := true) (et_is (et_B (ev_isi (ev_pt (ev_var rfl) b2).2 (vt_ty (vy.tup (.of_ex e1))))) rfl) (fun _ H2 e2 => ?_) (fun hb => nomatch hb)
      refine s_ret (v := .bl true) (ev_is (ev_andV (ev_spB (g := isWholeD) (pre := fun _ => True) (ed_ev (ev_pt (ev_var rfl) (e2 _ _ a2)).2 (vx.tup (.of_ex (e1.trans e2))).dt) True.intro) fun _ => eq (e1.trans e2) rfl rfl) rfl) fun H3 e3 => k H3 ((e1.trans e2).trans e3)
    | inr w =>
      refine q_when (b := false) (et_is (et_B (ev_isi (ev_pt (ev_var rfl) b2).2 (vt_ty (vy.tup (.of_ex e1))))) rfl) (fun hb => nomatch hb) fun _ H2 e2 => ?_
      refine q_when (b := true) (et_is (et_B (ev_isi (ev_pt (ev_var rfl) (e2 _ _ b2)).2 (vt_ty (vy.tup (.of_ex (e1.trans e2)))))) rfl) (fun _ H3 e3 => ?_) (fun hb => nomatch hb)
      have e13 := (e1.trans e2).trans e3
      refine s_ret (v := .bl true) (ev_is (ev_andV (ev_isi (ev_pt (ev_var rfl) (e13 _ _ a1)).2 (vt_ty (vx.tup (.of_ex e13)))) fun _ => eq e13 rfl rfl) rfl) fun H4 e4 => k H4 (e13.trans e4)
  | call is =>
    obtain ⟨a', p, q1, q2, px⟩ := h1
    cases q1
    rw [a1] at q2
    cases q2
    obtain ⟨b', q, q1, q2, py⟩ := h2
    cases q1
    rw [b1] at q2
    cases q2
    have tl : ∀ {H2 : Hp} {c : Addr}, H2 c = some (.lst (is.map V.int)) → tyN H2 (.ref c) = some "list" := fun h => by show tyO _ = _; rw [h]; rfl
    refine q_when (b := false) (et_is (et_B (ev_isi (ev_pt (ev_var rfl) b2).2 (tl (e1 _ _ py)))) rfl) (fun hb => nomatch hb) fun _ H2 e2 => ?_
    have e12 := e1.trans e2
    refine q_when (b := false) (et_is (et_B (ev_isi (ev_pt (ev_var rfl) (e12 _ _ b1)).2 (tl (e12 _ _ py)))) rfl) (fun hb => nomatch hb) fun _ H3 e3 => ?_
    have e13 := e12.trans e3
    have lis : is.length ≤ 1000 := ok
    have el : EvL (tLc (iList K (tOp (rIxA K) (tVar 0) (tC (.int 1)))) (gName 2) (tNot (tB (tCall (sp_law_whole K) [] E0 (tCons (tVar 2) tNil)))) (tVar 2) [2]) [some (.ref a), some (.ref b), none] H3 [] := by
      have := el_lcL (K := K) (t := tNot (tB (tCall (sp_law_whole K) [] E0 (tCons (tVar 2) tNil)))) (te := tVar 2) (j := 2) (vs := [2]) (fun _ => false) (fun _ => .non) (tl := tOp (rIxA K) (tVar 0) (tC (.int 1))) (σ := [some (.ref a), some (.ref b), none]) (H := H3) (ev_pt (ev_var rfl) (e13 _ _ a1)).2 (SqL.of (e13 _ _ px)) (by rw [List.length_map]; omega) (fun _ => rfl)
        (fun i x H4 e4 hi => by
          rw [List.getElem?_map] at hi
          cases hq : is[i]? with
          | none => rw [hq] at hi; cases hi
          | some n =>
            rw [hq] at hi
            cases hi
            exact et_is (et_not (et_B (ev_b (ed_call (ds := [.int n]) (eds_cons (ed_i (ev_var rfl)) eds_nil) rfl True.intro)))) rfl) (fun i x H4 e4 hi hf => nomatch hf)
      have eg : given (is.map V.int).length (fun _ => false) (fun _ => V.non) = [] := by
        unfold given
        rw [List.filter_eq_nil_iff.mpr (by simp)]
        rfl
      rwa [eg] at this
    refine q_when (b := false) (et_is (et_or (et_not (et_B (ev_isi (ev_pt (ev_var rfl) (e13 _ _ a1)).2 (tl (e13 _ _ px))))) fun _ => et_test (ev_opLL (z := .bl false) el (el_lst ea_nil (by decide)) fun c d H4 hc hd _ => fun H5 e5 Q5 q5 => .inr (.inr (.inr ⟨c, d, [], rfl, rfl, e5 _ _ hc, e5 _ _ hd, q5 H5 (Ex.refl H5)⟩)))) rfl) (fun hb => nomatch hb) fun _ H4 e4 => ?_
    have e14 := e13.trans e4
    refine s_ret (v := .bl true) (ev_is (ev_eqD (ed_ev (ev_pt (ev_var rfl) (e14 _ _ a1)).2 (.lst (e14 _ _ px) (dt_ints is))) (ed_ev (ev_pt (ev_var rfl) (e14 _ _ b1)).2 (.lst (e14 _ _ py) (dt_ints is))) (okI2 is) (okI2 is)) (by rw [eqv_self (okI2 is)])) fun H5 e5 => k H5 (e14.trans e5)
/-- world[spot] -/
theorem ev_world {wd : Addr} {W : Spot → Val} {Dom : Spot → Prop} {v : V} {s : Spot} (h : WAt H wd W Dom) (hd : Dom s) (ha : Ev ta σ H (.ref wd)) (hb : Ev tb σ H v) (r : AtS H v s) : ∃ u, Ev (tOp (rIxA K) ta tb) σ H u ∧ Vt H u (dV (W s)) := by
  obtain ⟨kvs, a1, a2⟩ := h
  obtain ⟨u, b1, b2⟩ := a2 s hd
  obtain ⟨p, rfl, c1⟩ := r
  refine ⟨u, ev_op ha hb fun H1 e Q q => .inr ⟨wd, u, rfl, ?_, q H1 (Ex.refl H1)⟩, b2⟩
  rw [← b1]
  exact DGet.t (e _ _ a1) (e _ _ c1)
theorem r_law_in_turn (vs : List V) (H : Hp) (Q : VK) (E : XK) (h : sp_law_in_turn K vs H Q E) : t_law_in_turn K E { nx := fun _ H' => Q .non H', rt := Q } (L2.start ["world", "spots", "found", "seen", "spot"] vs) H := by
  obtain ⟨wd, sp, xs, ss, W, Dom, rfl, hw, hs, ha, hd, ok, hl, k⟩ := h
  unfold t_law_in_turn
  refine q_asgL (el_lst ea_nil (by decide)) fun p H1 hp e1 h1 => q_asgL (el_lst ea_nil (by decide)) fun q H2 hq e2 h2 => ?_
  have pq : p ≠ q := ne_of_none h1 hq
  have q0 : H q = none := fresh_back e1 hq
  refine q_forLn (ev_var rfl) (SqL.of ((e1.trans e2) _ _ hs)) (fun i σ H' => ∃ (x4 : Option V) (is : List Int) (ys : List V), σ = [some (.ref wd), some (.ref sp), some (.ref p), some (.ref q), x4] ∧ Ex H H' ∧ H' p = some (.lst (is.map V.int)) ∧ H' q = some (.lst ys) ∧ AtSs H' ys (once (ss.take i)) ∧ (ss.take i).map W = is.map Sum.inl)
    (fun H3 e3 => ⟨_, [], [], rfl, (e1.trans e2).trans e3, e3 _ _ (e2 _ _ h1), e3 _ _ h2, ⟨rfl, fun i s z => by simp [once] at z⟩, rfl⟩) (fun i σ H' _ ⟨_, _, _, _, e, _⟩ => SqL.of (e _ _ hs)) ?_ ?_
  · rintro i x σ H3 hi ⟨x4, is, ys, rfl, e3, hp3, hq3, a3, hW⟩
    obtain ⟨s, hsi, as⟩ := (ha.tup (.of_ex e3)).at hi
    have il : i < ss.length := (List.getElem?_eq_some_iff.mp hsi).1
    have ms := List.mem_of_getElem? hsi
    have tk : ss.take (i + 1) = ss.take i ++ [s] := by rw [List.take_add_one, hsi]; rfl
    have o2 : ∀ x ∈ once (ss.take i), okSp x := fun x hx => (hd x (List.mem_of_mem_take (once_mem hx))).2
    have ly : ys.length ≤ 100 := by
      have := once_len (ss.take i)
      rw [List.length_take] at this
      have := a3.1
      omega
    have lis : is.length = i := by
      have := congrArg List.length hW
      rw [List.length_map, List.length_map, List.length_take] at this
      omega
    refine q_cut2 (M := fun σ' H' => ∃ ys', σ' = [some (.ref wd), some (.ref sp), some (.ref p), some (.ref q), some x] ∧ Ex H H' ∧ Tup H3 H' ∧ H' p = some (.lst (is.map V.int)) ∧ H' q = some (.lst ys') ∧ AtSs H' ys' (once (ss.take (i + 1)))) (fun nx hnx => ?_) ?_
    · refine s_when (et_test (ev_ninS (ev_var rfl) as (ev_var rfl) hq3 a3 (hd s ms).2 o2)) (fun hb H4 e4 => ?_) (fun hb H4 e4 => ?_)
      · have hn : s ∉ once (ss.take i) := by simpa using hb
        refine s_app (e4 _ _ hq3) (ev_var rfl) (ev_var rfl) (by omega) fun H5 e5 => ?_
        have e45 := e4.trans e5
        have im : Imk H3 (L2.upd H5 q (.lst (ys ++ [x]))) := (Imk.of e45).trans (Imk.upd (e45 _ _ hq3) fun z => z)
        refine hnx _ _ ⟨_, rfl, Ex.mut (e3.trans e45) q0, im.tup, (upd_ne pq).trans (e45 _ _ hp3), upd_same, ?_⟩
        rw [tk, once_snoc, if_neg hn]
        exact (a3.tup im.tup).snoc (as.tup im.tup)
      · have hn : s ∈ once (ss.take i) := by simpa using hb
        refine hnx _ _ ⟨ys, rfl, e3.trans e4, .of_ex e4, e4 _ _ hp3, e4 _ _ hq3, ?_⟩
        rw [tk, once_snoc, if_pos hn]
        exact a3.tup (.of_ex e4)
    · rintro σ4 H4 ⟨ys', rfl, e4, tt, hp4, hq4, a4⟩
      have hw4 : WAt H4 wd W Dom := hw.imk (e4 _) (.of e4)
      obtain ⟨u, ev, rv⟩ := ev_world (K := K) (ta := tVar 0) (tb := tVar 4) (σ := [some (.ref wd), some (.ref sp), some (.ref p), some (.ref q), some x]) hw4 (hd s ms).1 (ev_var rfl) (ev_var rfl) (as.tup tt)
      refine q_when (et_B (ev_isi ev (vt_ty rv))) (fun hb H5 e5 => ?_) (fun hb H5 e5 => ?_)
      · obtain ⟨w, hWs⟩ : ∃ w, W s = .inr w := by
          cases z : W s with
          | inl i =>
            rw [z, show isiB (tyVal (Sum.inl i)) "tuple" = false from by show isiB "int" "tuple" = false; decide] at hb
            cases hb
          | inr w => exact ⟨w, rfl⟩
        have tf := turn_flt hW hsi hWs
        rw [hWs] at rv
        refine (ev.mono e5) H5 (Ex.refl H5) _ fun H6 e6 => ⟨sz_of (show 2 ≤ 100000 by decide), fun b hb6 => ⟨_, rfl, sz_of (show 2 ≤ 100000 by decide), fun a ha7 => ?_⟩⟩
        have E56 : Ex H4 H6 := e5.trans e6
        have E67 : Ex H6 (L2.upd (L2.upd H6 b (.tup [.str "value", u])) a (.tup [.ref b, .ref q])) := (Ex.new hb6).trans (Ex.new ha7)
        refine k a (.ref b) q ys' _ ((e4.trans E56).trans E67) upd_same ?_ ((E56.trans E67) _ _ hq4) ?_
        · rw [tf]
          exact ⟨b, u, rfl, (upd_ne (ne_of_none upd_same ha7)).trans upd_same, rv.tup (.of_ex (E56.trans E67))⟩
        · rw [tf, ← tk]
          exact a4.tup (.of_ex (E56.trans E67))
      · obtain ⟨n, hWs⟩ : ∃ n, W s = .inl n := by
          cases z : W s with
          | inl i => exact ⟨i, rfl⟩
          | inr w =>
            rw [z, show isiB (tyVal (Sum.inr w)) "tuple" = true from by show isiB "tuple" "tuple" = true; decide] at hb
            cases hb
        rw [hWs] at rv
        obtain rfl : u = .int n := by cases rv; rfl
        refine s_app (e5 _ _ hp4) (ev_var rfl) (ev.mono e5) (by rw [List.length_map]; omega) fun H6 e6 => ?_
        have e56 := e5.trans e6
        have im : Imk H4 (L2.upd H6 p (.lst (is.map V.int ++ [V.int n]))) := (Imk.of e56).trans (Imk.upd (e56 _ _ hp4) fun z => z)
        refine ⟨_, is ++ [n], ys', rfl, Ex.mut (e4.trans e56) hp, ?_, (upd_ne (Ne.symm pq)).trans (e56 _ _ hq4), a4.tup im.tup, ?_⟩
        · rw [List.map_append]
          exact upd_same
        · rw [tk, List.map_append, List.map_append, hW, List.map_cons, hWs]
          rfl
  · rintro σ H3 ⟨x4, is, ys, rfl, e3, hp3, hq3, a3, hW⟩
    rw [ha.1, List.take_length] at a3 hW
    have tf := turn_all hW
    refine ⟨_, rfl, sz_of (show 2 ≤ 100000 by decide), fun b hb6 => ⟨_, rfl, sz_of (show 2 ≤ 100000 by decide), fun a ha7 => ?_⟩⟩
    have E67 : Ex H3 (L2.upd (L2.upd H3 b (.tup [.str "call", .ref p])) a (.tup [.ref b, .ref q])) := (Ex.new hb6).trans (Ex.new ha7)
    refine k a (.ref b) q ys _ (e3.trans E67) upd_same ?_ (E67 _ _ hq3) ?_
    · rw [tf]
      exact ⟨b, p, rfl, (upd_ne (ne_of_none upd_same ha7)).trans upd_same, E67 _ _ hp3⟩
    · rw [tf]
      exact a3.tup (.of_ex E67)
theorem s_retLcR {R : Nat → V → Hp → Prop} {tas : TA} {n : Int} {j : Nat} {ls : List Nat} (hR : ∀ i v H H', R i v H → Imk H H' → R i v H') (h : EvA tas σ H [.int n]) (hn : 0 ≤ n ∧ n ≤ 40000) (hw : ∀ x, wipe ((wipe σ ls).set j (some x)) ls = wipe σ ls)
    (he : ∀ (i : Nat) H1, Ex H H1 → (i : Int) < n → EvR te ((wipe σ ls).set j (some (.int (i : Int)))) H1 (R i))
    (k : ∀ p ys H1, H p = none → Ex H H1 → H1 p = some (.lst ys) → ys.length = n.toNat → (∀ i y, ys[i]? = some y → R i y H1) → D.rt (.ref p) H1) : tRet (tLc (iRng1 tas) (gName j) tYes te ls) D σ H := er_lcR hR h hn hw he k
theorem r_law_picked (vs : List V) (H : Hp) (Q : VK) (E : XK) (h : sp_law_picked K vs H Q E) : t_law_picked K E { nx := fun _ H' => Q .non H', rt := Q } (L2.start ["script", "k", "names", "j"] vs) H := by
  obtain ⟨l, np, ns, zs, j, rfl, hl, hn, h1, h2, hj, k⟩ := h
  unfold t_law_picked
  have b7 := drawn_bd ns (j + 9) (size := 7) (by decide)
  have len : ∀ {σ : L2.St} {H1 : Hp}, σ[2]? = some (some (V.ref np)) → Ex H H1 → Ev (tCB (rLenA K) (tCons (tVar 2) tNil)) σ H1 (.int zs.length) := fun h0 e => by
    have := ev_lenV (ta := tVar 2) (ev_var h0) (rc_lenL (K := K) (SqL.of (e _ _ hn)))
    rwa [List.length_map] at this
  refine s_retLcR (n := drawn ns (j + 9) 7) (R := fun i v _ => ∃ z ∈ zs, v = .str z) (fun i v H H' h _ => h) (ea_cons (ev_drawn (j := j + 9) hl (ev_var rfl) (ev_is (ev_op (ev_var rfl) ev_c rv_addI) (by rw [Int.natCast_add]; rfl)) ev_c (by omega) (by decide)) ea_nil) (by omega) (fun _ => rfl) (fun i H1 e1 hi => ?_) fun p ys H1 hp e1 h1 hl2 hr => ?_
  · intro H2 e2 Q2 q2
    have E := e1.trans e2
    refine ev_op (r := rIxA K) (ta := tVar 2) (ev_var rfl) (ev_drawnB (K := K) (j := j + i) (size := (zs.length : Int)) (ex_l E hl) (ev_var rfl) (ev_is (ev_op (ev_var rfl) (ev_var rfl) rv_addI) (by rw [Int.natCast_add])) (len rfl E) (by omega) (by omega)) (rv_itL (SqL.of (E _ _ hn)) (atI_drawn ns (j + i) .non (by rw [List.length_map]) (by omega))) H2 (Ex.refl H2) _ fun H3 e3 => q2 _ H3 e3 ?_
    have := getD_mem (d := V.non) (drawn_lt (xs := zs.map V.str) ns (j + i) (n := (zs.length : Int)) (by rw [List.length_map]) (by omega))
    obtain ⟨z, a, b⟩ := List.mem_map.mp this
    exact ⟨z, a, b.symm⟩
  · obtain ⟨ws, hw1, hw2⟩ : ∃ ws : List Str, ys = ws.map V.str ∧ ∀ w ∈ ws, w ∈ zs := by
      have : ∀ ys : List V, (∀ y ∈ ys, ∃ z ∈ zs, y = .str z) → ∃ ws : List Str, ys = ws.map V.str ∧ ∀ w ∈ ws, w ∈ zs := by
        intro ys
        induction ys with
        | nil => intro _; exact ⟨[], rfl, fun w hw => by simp at hw⟩
        | cons y r ih =>
          intro h
          obtain ⟨z, hz, rfl⟩ := h y List.mem_cons_self
          obtain ⟨ws, a, b⟩ := ih fun y hy => h y (List.mem_cons_of_mem _ hy)
          refine ⟨z :: ws, by rw [a]; rfl, fun w hw => ?_⟩
          rcases List.mem_cons.mp hw with q | q
          · rw [q]; exact hz
          · exact b w q
      refine this ys fun y hy => ?_
      obtain ⟨i, hi⟩ := List.mem_iff_getElem?.mp hy
      exact hr i y hi
    subst hw1
    rw [List.length_map] at hl2
    exact k ws (by omega) hw2 p H1 hp e1 h1
end
end Z

set_option Elab.async false
set_option linter.all false
set_option autoImplicit false
set_option maxRecDepth 100000
set_option maxHeartbeats 4000000
/-! ev: what an expression comes to, by its form -/
local macro_rules | `(tactic| k_places) => `(tactic| (repeat' (first
  | (with_reducible exact ev_c)
  | (with_reducible exact ev_var rfl)
  | (with_reducible refine ev_chainLL ?_ ?_ ?_)
  | (with_reducible refine ev_chainLt ?_ ?_ ?_)
  | (with_reducible refine ev_op ?_ ?_ ?_)
  | (with_reducible refine ev_neg ?_)
  | (with_reducible refine et_test ?_)
  | (with_reducible refine et_B ?_)
  | (with_reducible refine et_not ?_)
  | (with_reducible refine et_and ?_ (fun _ => ?_))
  | (with_reducible refine et_or ?_ (fun _ => ?_))
  | (with_reducible refine ev_andV ?_ (fun _ => ?_))
  | (with_reducible refine ev_orV ?_ (fun _ => ?_))
  | (with_reducible refine ev_notV ?_)
  | (with_reducible exact rv_addI)
  | (with_reducible exact rv_subI)
  | (with_reducible exact rv_lt)
  | (with_reducible exact rv_le)
  | (with_reducible exact rv_gt)
  | (with_reducible exact rv_ge)
  | (with_reducible exact rv_isB)
  | (with_reducible exact rv_isnB)
  | (with_reducible exact rv_isN)
  | (with_reducible exact rv_isnN)
  | (with_reducible exact rv_eqS rfl)
  | (with_reducible exact rv_neS rfl)
  | (with_reducible exact rv_inStr)
  | (with_reducible exact rv_ninStr)
  | (with_reducible exact rv_mod (by first | decide | omega | assumption))
  | (with_reducible exact rv_div (by first | decide | omega | assumption))
  | (with_reducible exact rv_pow (by decide))
  | (with_reducible refine ed_i ?_; done)
  | (with_reducible exact ea_nil)
  | (with_reducible refine ea_cons ?_ ?_)
  | (with_reducible exact eds_nil)
  | (with_reducible refine eds_cons ?_ ?_)
  | (with_reducible exact ed_dnew)
  | (with_reducible refine ed_lst ?_ (by simp only [List.length_cons, List.length_nil]; omega))
  | (with_reducible refine ed_tup ?_ (by simp only [List.length_cons, List.length_nil]; omega)))))
namespace Z
open PySem PySem.Spec PyProof.Rows L2 Evl NdefX LamX
/-! ### what the laws of rules do alike -/
theorem sqL_xb {K : PySem.W.Frag} {T : List (Addr × Str)} {H H' : Hp} {a : Addr} {xs : List V} (x : XB T [] H H') (h : SqL K H a xs) : SqL K H' a xs := by
  rcases h with (h | ⟨o, h⟩) | h
  · exact .inl (.inl (x.k _ _ h (by simp) fun _ z => nomatch z))
  · exact .inl (.inr ⟨o, x.i _ _ h True.intro⟩)
  · exact .inr h
/-- something new is written on -/
theorem XB.newF {T : List (Addr × Str)} {H H1 H2 : Hp} {a : Addr} (x : XB T [] H H1) (y : XB T [a] H1 H2) (h : H a = none) : XB T [] H H2 :=
  ⟨fun b o e n t => y.k b o (x.k b o e n t) (by simpa using (ne_of_none e h)) t, x.i.trans y.i, fun b q => x.n b (y.n b q), fun t => y.t (x.t t)⟩
theorem XB.lst {T : List (Addr × Str)} {H H' : Hp} {a : Addr} {xs : List V} (x : XB T [] H H') (h : H a = some (.lst xs)) : H' a = some (.lst xs) := x.k _ _ h (by simp) fun _ z => nomatch z
/-- a comprehension over a new list, its items standing whatever lists are changed -/
def Nl (H H' : Hp) : Prop := ∀ a o, H a = some o → (∀ xs, o ≠ .lst xs) → H' a = some o
section
variable {K : PySem.W.Frag} {σ σ2 : L2.St} {H H' : Hp} {te tl ta tb tr ts to : TE} {D : Ends} {tz : TS} {R : Nat → V → Hp → Prop} {Q : VK} {E : L2.St → XK}
theorem cwR_turn2 {Dl : Addr} {i : Nat} (hR : ∀ i v H H', R i v H → Nl H H' → R i v H') (p : CwR R H Dl i H') (hi : i < 50000) (he : EvR te σ2 H (R i)) :
    te σ2 H' fun y H4 => ∃ acc, H4 Dl = some (.lst acc) ∧ acc.length < sizeLine ∧ CwR R H Dl (i + 1) (L2.upd H4 Dl (.lst (acc ++ [y]))) := by
  obtain ⟨p1, p2, vs, p3, p4, p5⟩ := p
  refine he H' p2 _ fun v H4 e4 r => ⟨vs, e4 Dl _ p3, sz_lt (by omega), p1, Ex.mut (p2.trans e4) p1, vs ++ [v], upd_same, by rw [List.length_append, p4]; rfl, fun j w hj => ?_⟩
  have im : Nl H4 (L2.upd H4 Dl (.lst (vs ++ [v]))) := fun a o e n => (upd_ne fun z => by rw [z, e4 _ _ p3] at e; exact n _ (Option.some.inj e).symm).trans e
  by_cases hl : j < vs.length
  · rw [List.getElem?_append_left hl] at hj
    exact hR _ _ _ _ (hR _ _ _ _ (p5 j w hj) fun a o e _ => e4 a o e) im
  · rw [List.getElem?_append_right (by omega)] at hj
    have e : j = vs.length := by
      have := (List.getElem?_eq_some_iff.mp hj).1
      simp at this
      omega
    subst e
    rw [Nat.sub_self] at hj
    cases hj
    rw [p4]
    exact hR _ _ _ _ r im
theorem er_lcNL {xs : List V} {j : Nat} {ls : List Nat} (hR : ∀ i v H H', R i v H → Nl H H' → R i v H') (h : EvL tl σ H xs) (hz : xs.length ≤ 40000) (hw : ∀ x, wipe ((wipe σ ls).set j (some x)) ls = wipe σ ls)
    (he : ∀ (i : Nat) (x : V) H1, Ex H H1 → xs[i]? = some x → EvR te ((wipe σ ls).set j (some x)) H1 (R i))
    (k : ∀ p ys H1, H p = none → Ex H H1 → H1 p = some (.lst ys) → ys.length = xs.length → (∀ i y, ys[i]? = some y → R i y H1) → Q (.ref p) H1) : tLc (iList K tl) (gName j) tYes te ls σ H Q :=
  h H (Ex.refl H) _ fun a H1 _ e1 h1 => ⟨a, rfl, ⟨xs, SqL.of h1⟩, fun Dl hD =>
  lc_list (xs := xs) (CwR R H1 Dl) ⟨hD, Ex.new hD, [], upd_same, rfl, fun j v hj => by simp at hj⟩ (fun i H' _ p => SqL.of (p.2.1 _ _ h1)) (fun i x H' hi p => ⟨hw x, cwR_turn2 hR p (by have := (List.getElem?_eq_some_iff.mp hi).1; omega) (he i x H1 e1 hi)⟩)
  (fun H' p => by
    obtain ⟨p1, p2, vs, p3, p4, p5⟩ := p
    exact k Dl vs H' (fresh_back e1 p1) (e1.trans p2) p3 p4 p5)⟩
theorem el_slA {tl th : TO} {a : Addr} {xs : List V} {lo hi : Option Int} (h : Ev te σ H (.ref a)) (h1 : EvO tl σ H lo) (h2 : EvO th σ H hi) (hs : SqL K H a xs) : EvL (tSl (rSlA K) te tl th) σ H (cutV xs lo hi) := fun H1 e _ q =>
  h H1 e _ fun H2 e2 => h1 H2 (e.trans e2) _ fun H3 e3 => h2 H3 ((e.trans e2).trans e3) _ fun H4 e4 =>
    .inl ⟨a, xs, rfl, ex_l (((e.trans e2).trans e3).trans e4) hs, fun p hp => q p _ (fresh_back ((e2.trans e3).trans e4) hp) (((e2.trans e3).trans e4).trans (Ex.new hp)) upd_same⟩
theorem cut_l {as bs : List V} : cutV (as ++ bs) none (some (as.length : Int)) = as := by
  unfold cutV
  rw [HT.sIx_nat, show HT.sIx (as ++ bs).length 0 none = 0 from rfl, List.drop_zero, List.length_append, Nat.min_eq_left (by omega), Nat.sub_zero, List.take_left]
theorem cut_r {as bs : List V} : cutV (as ++ bs) (some (as.length : Int)) none = bs := by
  unfold cutV
  rw [HT.sIx_nat, show HT.sIx (as ++ bs).length (as ++ bs).length none = (as ++ bs).length from rfl, List.length_append, Nat.min_eq_left (by omega), List.drop_left, List.take_of_length_le (by omega)]
theorem atI_in {α : Type} {xs : List α} {i : Int} (d : α) (h0 : 0 ≤ i) (h : i < xs.length) : atI xs i = some (xs.getD i.toNat d) := by
  rw [show i = (i.toNat : Int) from (Int.toNat_of_nonneg h0).symm]
  refine atI_nat ?_
  rw [Int.toNat_natCast, List.getD_eq_getElem?_getD, List.getElem?_eq_getElem (by omega)]
  rfl
/-- names[a drawn number below so many] -/
theorem ev_name {np : Addr} {zs ts : List Str} {i : Int} (hn : H np = some (.lst ((zs ++ ts).map V.str))) (ha : Ev ta σ H (.ref np)) (hb : Ev tb σ H (.int i)) (h0 : 0 ≤ i) (h : i < zs.length) : ∃ z ∈ zs, Ev (tOp (rIxA K) ta tb) σ H (.str z) := by
  have hl : i.toNat < zs.length := by omega
  refine ⟨zs[i.toNat], List.getElem_mem hl, ev_op ha hb (rv_itL (SqL.of hn) ?_)⟩
  rw [atI_in .non h0 (by rw [List.length_map, List.length_append]; omega), List.getD_eq_getElem?_getD, List.getElem?_map, List.getElem?_append_left hl, List.getElem?_eq_getElem hl]
  rfl
theorem q_names {l : Addr} {ns : List Int} {i m : Nat} (hl : SqL K H l (ns.map V.int)) (ha : Ev ta σ H (.ref l)) (hb : Ev tb σ H (.int (m : Int))) (hm : m ≤ 26) (k : ∀ (p : Addr) (zs : List Str) (H1 : Hp), zs.length = m → zs.Nodup → (∀ z ∈ zs, isName z = true) → H p = none → Ex H H1 → H1 p = some (.lst (zs.map V.str)) → tz D (σ.set i (some (.ref p))) H1) :
    tSeq (tAsg (tCallS (sp_law_names K) E (tCons ta (tCons tb tNil))) (gName i)) tz D σ H :=
  ha H (Ex.refl H) _ fun H1 e1 => hb H1 e1 _ fun H2 e2 => ⟨l, ns, m, rfl, ex_l (e1.trans e2) hl, hm, fun zs h1 h2 h3 p H3 hp e3 h4 => k p zs H3 h1 h2 h3 (fresh_back (e1.trans e2) hp) ((e1.trans e2).trans e3) h4⟩
/-- a world with its rows -/
def WT (t1 t2 : Str) (zs : List Str) (v : V) (H : Hp) : Prop := ∃ a wd rw W R, v = .ref a ∧ H a = some (.tup [.ref wd, .ref rw]) ∧ World H wd rw [t1, t2] zs W R ∧ 1 ≤ R t1
theorem World.nl {wd rw : Addr} {tt zs : List Str} {W : Spot → Val} {R : Str → Nat} (w : World H wd rw tt zs W R) (n : ∀ a o, H a = some o → (∀ xs, o ≠ .lst xs) → (∀ ps, o ≠ .tbl ps) → H' a = some o) : World H' wd rw tt zs W R := by
  obtain ⟨kvs, a, _⟩ := w.w
  obtain ⟨rvs, b, _⟩ := w.r
  exact w.keep (fun o e => n _ _ e (fun xs z => by rw [a] at e; cases e; cases z) fun xs z => by rw [a] at e; cases e; cases z) (fun o e => n _ _ e (fun xs z => by rw [b] at e; cases e; cases z) fun xs z => by rw [b] at e; cases e; cases z) fun b xs e => n _ _ e (fun _ z => nomatch z) fun _ z => nomatch z
theorem World.xb {T : List (Addr × Str)} {wd rw : Addr} {tt zs : List Str} {W : Spot → Val} {R : Str → Nat} (w : World H wd rw tt zs W R) (x : XB T [] H H') : World H' wd rw tt zs W R := w.nl fun a o e _ t => x.k a o e (by simp) t
theorem WT.xb {T : List (Addr × Str)} {t1 t2 : Str} {zs : List Str} {v : V} (w : WT t1 t2 zs v H) (x : XB T [] H H') : WT t1 t2 zs v H' := let ⟨a, wd, rw, W, R, h1, h2, h3, h4⟩ := w; ⟨a, wd, rw, W, R, h1, x.i _ _ h2 True.intro, h3.xb x, h4⟩
theorem q_worlds {l np : Addr} {ns : List Int} {zs : List Str} {t1 t2 : Str} {fl : Int} {i j : Nat} {tf : TE} (hl : SqL K H l (ns.map V.int)) (hn : H np = some (.lst ((zs ++ [t1, t2]).map V.str))) (hz : zs.length = 6) (ht : t1 ≠ t2) (hw : ∀ x, wipe ((wipe σ [j]).set j (some x)) [j] = wipe σ [j])
    (h0 : ∀ x, ((wipe σ [j]).set j (some x))[0]? = some (some (.ref l))) (h1 : ∀ x, ((wipe σ [j]).set j (some x))[1]? = some (some (.ref np))) (h2 : ∀ x H1, Ex H H1 → Ev tf ((wipe σ [j]).set j (some x)) H1 (.int fl)) (hj : ∀ x, ((wipe σ [j]).set j (some x))[j]? = some (some x))
    (k : ∀ p v1 v2 H1, H p = none → Ex H H1 → H1 p = some (.lst [v1, v2]) → WT t1 t2 zs v1 H1 → WT t1 t2 zs v2 H1 → tz D (σ.set i (some (.ref p))) H1) :
    tSeq (tAsg (tLc (iList K (tLst (tCons (tC (.int 100)) (tCons (tC (.int 1500)) tNil)))) (gName j) tYes (tCall (sp_law_world K) [] E0 (tCons (tVar 0) (tCons (tSl (rSlA K) (tVar 1) tNoPart (tPart (tC (.int 6)))) (tCons (tSl (rSlA K) (tVar 1) (tPart (tC (.int 6))) tNoPart) (tCons tf (tCons (tVar j) tNil)))))) [j]) (gName i)) tz D σ H := by
  refine er_lcNL (K := K) (Q := fun v H1 => tz D (σ.set i (some v)) H1) (R := fun _ v H => WT t1 t2 zs v H) (fun i v H H' ⟨a, wd, rw, W, R, h1, h2, h3, h4⟩ n => ⟨a, wd, rw, W, R, h1, n _ _ h2 (fun _ z => nomatch z), h3.nl (fun a o e q _ => n a o e q), h4⟩) (el_lst (ea_cons (ev_c (v := .int 100)) (ea_cons (ev_c (v := .int 1500)) ea_nil)) (show 2 ≤ 100000 by decide)) (show 2 ≤ 40000 by decide) hw (fun a x H1 e1 hx => ?_) fun p ys H1 hp e1 h1 hlen hr => ?_
  · obtain ⟨jn, rfl, hjn⟩ : ∃ jn : Nat, x = .int (jn : Int) ∧ jn ≤ 2000 := by
      match a, hx with
      | 0, h => cases h; exact ⟨100, rfl, by decide⟩
      | 1, h => cases h; exact ⟨1500, rfl, by decide⟩
      | a + 2, h => simp at h
    intro H2 e2 Q2 q2
    have E2 := e1.trans e2
    have hn2 := E2 _ _ hn
    refine ⟨_, h0 _, el_slA (K := K) (ev_var (h1 _)) eo_none (eo_some (ev_c (v := .int 6))) (SqL.of hn2) H2 (Ex.refl H2) _ fun pz H3 _ e3 g3 => el_slA (K := K) (ev_var (h1 _)) (eo_some (ev_c (v := .int 6))) eo_none (SqL.of (e3 _ _ hn2)) H3 (Ex.refl H3) _ fun pt H4 _ e4 g4 => (h2 _ _ E2) H4 (e3.trans e4) _ fun H5 e5 => ⟨_, hj _, ?_⟩⟩
    have c1 : cutV ((zs ++ [t1, t2]).map V.str) none (some 6) = zs.map V.str := by
      have := cut_l (as := zs.map V.str) (bs := [t1, t2].map V.str)
      rw [List.length_map, hz, ← List.map_append] at this
      exact this
    have c2 : cutV ((zs ++ [t1, t2]).map V.str) (some 6) none = [.str t1, .str t2] := by
      have := cut_r (as := zs.map V.str) (bs := [t1, t2].map V.str)
      rw [List.length_map, hz, ← List.map_append] at this
      exact this
    rw [c1] at g3
    rw [c2] at g4
    exact ⟨l, pz, pt, ns, zs, t1, t2, fl, jn, rfl, ex_l (((E2.trans e3).trans e4).trans e5) hl, (e4.trans e5) _ _ g3, by omega, e5 _ _ g4, ht, hjn, fun a wd rw H' W R e6 h6 w6 r6 => q2 _ H' (((e3.trans e4).trans e5).trans e6) ⟨a, wd, rw, W, R, rfl, h6, w6, r6⟩⟩
  · obtain ⟨v1, v2, rfl⟩ : ∃ v1 v2, ys = [v1, v2] := by
      match ys, hlen with
      | [a, b], _ => exact ⟨a, b, rfl⟩
    exact k p v1 v2 H1 hp e1 h1 (hr 0 v1 rfl) (hr 1 v2 rfl)
theorem q_tab {l rw : Addr} {ns : List Int} {t1 t2 : Str} {i j : Nat} {Rw : Str → Nat} (hl : SqL K H l (ns.map V.int)) (ha : Ev ta σ H (.ref l)) (hb : Ev tb σ H (.int (j : Int))) (hr : Ev tr σ H (.ref rw)) (hs : EvL ts σ H [.str t1, .str t2]) (w : RAt H rw Rw (· ∈ [t1, t2])) (h1 : 1 ≤ Rw t1) (hj : j ≤ 2000)
    (k : ∀ t H1, t ∈ [t1, t2] → 1 ≤ Rw t → Ex H H1 → tz D (σ.set i (some (.str t))) H1) : tSeq (tAsg (tCallS (sp_law_table K) E (tCons ta (tCons tb (tCons tr (tCons ts tNil))))) (gName i)) tz D σ H :=
  ha H (Ex.refl H) _ fun H1 e1 => hb H1 e1 _ fun H2 e2 => hr H2 (e1.trans e2) _ fun H3 e3 => hs H3 ((e1.trans e2).trans e3) _ fun p H4 _ e4 h4 => ⟨l, rw, p, ns, t1, t2, j, Rw, rfl, ex_l (((e1.trans e2).trans e3).trans e4) hl, h4, w.imk ((((e1.trans e2).trans e3).trans e4) _), h1, hj, fun t mt ht H5 e5 => k t H5 mt ht ((((e1.trans e2).trans e3).trans e4).trans e5)⟩
/-- the cut of the names: the tables -/
theorem el_tabs {np : Addr} {zs : List Str} {t1 t2 : Str} (hn : H np = some (.lst ((zs ++ [t1, t2]).map V.str))) (hz : zs.length = 6) (ha : Ev ta σ H (.ref np)) : EvL (tSl (rSlA K) ta (tPart (tC (.int 6))) tNoPart) σ H [.str t1, .str t2] := by
  have := el_slA (K := K) ha (eo_some (ev_c (v := .int 6))) eo_none (SqL.of hn)
  have c2 := cut_r (as := zs.map V.str) (bs := [t1, t2].map V.str)
  rw [List.length_map, hz, ← List.map_append] at c2
  rw [show cutV ((zs ++ [t1, t2]).map V.str) (some 6) none = [.str t1, .str t2] from c2] at this
  exact this
theorem el_cols {np : Addr} {zs : List Str} {t1 t2 : Str} (hn : H np = some (.lst ((zs ++ [t1, t2]).map V.str))) (hz : zs.length = 6) (ha : Ev ta σ H (.ref np)) : EvL (tSl (rSlA K) ta tNoPart (tPart (tC (.int 6)))) σ H (zs.map V.str) := by
  have := el_slA (K := K) ha eo_none (eo_some (ev_c (v := .int 6))) (SqL.of hn)
  have c2 := cut_l (as := zs.map V.str) (bs := [t1, t2].map V.str)
  rw [List.length_map, hz, ← List.map_append] at c2
  rw [show cutV ((zs ++ [t1, t2]).map V.str) none (some 6) = zs.map V.str from c2] at this
  exact this
theorem q_gath {Tb : List (Addr × Str)} {PR : PRule} {tas : TA} {wd rw ru : Addr} {t c : Str} {p : Int} {tt zs : List Str} {W : Spot → Val} {Rw : Str → Nat} {r : Res × List Spot} {a b : Nat} (h : EvA tas σ H [.ref wd, .ref rw, .ref ru, .str t, .str c, .int p]) (hT : Tabs Tb H) (w : World H wd rw tt zs W Rw) (hz : ∀ z ∈ zs, isName z = true) (ht : ∀ t ∈ tt, isName t = true)
    (pr : ∀ H1, Ex H H1 → PR H1 ru t c p W Rw tt zs r) (hr : r.2.length ≤ 900) (k : ∀ v q xs H1, XB Tb [] H H1 → Got H H1 v r.1 → H1 q = some (.lst xs) → AtSs H1 xs (once r.2) → (∀ s ∈ once r.2, okSp s) → tz D ((σ.set a (some v)).set b (some (.ref q))) H1) :
    tSeq (tAsg (tCallS (spG Tb PR) E tas) (gTup K 2 (gCons (gName a) (gCons (gName b) gNil)))) tz D σ H :=
  h H (Ex.refl H) _ fun H1 e1 => ⟨wd, rw, ru, t, c, p, tt, zs, W, Rw, r, rfl, hT.ext fun b o e => e1 b o e, w.ex e1, hz, ht, pr H1 e1, hr, fun x v q xs H2 x2 h1 h2 h3 h4 h5 => g_two (K := K) rfl h1 (k v q xs H2 ((XB.of e1).trans x2) (h2.back fun y hy => fresh_back e1 hy) h3 h4 h5)⟩
theorem s_check {Tb : List (Addr × Str)} {H0 : Hp} {f d : Nat} {v u : V} {r : Res} {ss : List Spot} (x0 : XB Tb [] H0 H) (hf : σ[f]? = some (some v)) (hd : σ[d]? = some (some u)) (g : Got H0 H v r) (g2 : Told H u r) (ok : okRes r) (h1 : EvD to σ H (.list (ss.map dSp))) (h2 : EvD ts σ H (.list (ss.map dSp))) (oS : ∀ s ∈ ss, okSp s)
    (k : ∀ H', XB Tb [] H0 H' → D.nx σ H') :
    tSeq (tIfS (tOr (tNot (tB (tCallS (sp_law_alike K) E (tCons (tVar f) (tCons (tVar d) tNil))))) (tTest (tOp (rNeA K) to ts))) (tRet (tC (.bl false))) tNext)
      (tIfS (tTest (tOp (rEqA K) (tOp (rIxA K) (tVar d) (tC (.int 0))) (tC (.str "call")))) (tDrop (tBM K "list" rAppend (tOp (rIxA K) (tVar f) (tC (.int 1))) (tCons (tC (.int 7)) tNil))) tNext) D σ H := by
  refine q_when (b := false) (et_is (et_or (et_not (et_B (ev_callS (ea_cons (ev_var hf) (ea_cons (ev_var hd) ea_nil)) fun H1 e Q q E => ⟨v, u, r, rfl, g.told.ex e, g2.ex e, ok, fun H2 e2 => q H2 e2⟩))) fun _ => et_test (ev_neSs h1 h2 oS)) rfl) (fun hb => nomatch hb) fun _ H1 e1 => ?_
  have x1 := x0.trans (XB.of e1)
  obtain ⟨a, kk, x, rfl, a1, ek⟩ := told_parts (g2.ex e1)
  refine s_when (et_test (ev_op (ev_pt (ev_var hd) a1).1 ev_c (rv_eqS rfl))) (fun hb H2 e2 => ?_) (fun hb H2 e2 => k H2 (x1.trans (XB.of e2)))
  cases r with
  | val y =>
    rw [ek] at hb
    exact absurd hb (by show ¬ decide (V.str (kindR (.val y)) = V.str "call") = true; show ¬ decide (V.str "value" = V.str "call") = true; decide +kernel)
  | call is =>
    obtain ⟨b, p, rfl, b1, b2, b3⟩ := g
    have lis : is.length ≤ 1000 := ok
    refine s_app ((e1.trans e2) _ _ b2) (ev_pt (ev_var hf) ((e1.trans e2) _ _ b1)).2 ev_c (by rw [List.length_map]; omega) fun H3 e3 => ?_
    exact k _ ((x1.trans (XB.of (e2.trans e3))).updN b3 (((e1.trans e2).trans e3) _ _ b2) (fun z => z) fun _ z => nomatch z)
def spLawT (K : PySem.W.Frag) (Tb : List (Addr × Str)) : Sp := fun vs H Q _ => ∃ (a : Addr) (ns : List Int), vs = [.ref a] ∧ SqL K H a (ns.map V.int) ∧ ns.length ≤ 63 ∧ Tabs Tb H ∧ ∀ H', Q (.bl true) H'
theorem len_lawT {Tb : List (Addr × Str)} (vs : List V) (H : Hp) (Q : VK) (E : XK) (h : spLawT K Tb vs H Q E) : vs.length = 1 := by obtain ⟨_, _, rfl, _⟩ := h; rfl
/-- for world, rows in worlds + worlds[:1] -/
theorem s_forWorlds {Tb : List (Addr × Str)} {t1 t2 : Str} {zs : List Str} {p : Addr} {v1 v2 : V} {a b c : Nat} {tu : TS} (Sh : L2.St → Prop) (hc : σ[c]? = some (some (.ref p))) (hp : H p = some (.lst [v1, v2])) (w1 : WT t1 t2 zs v1 H) (w2 : WT t1 t2 zs v2 H) (h0 : Sh σ)
    (hs : ∀ wd rw W R σ' H', Sh σ' → XB Tb [] H H' → World H' wd rw [t1, t2] zs W R → 1 ≤ R t1 → ∀ nx bk, (∀ σ2 H2, Sh σ2 → XB Tb [] H' H2 → nx σ2 H2) → tu { D with nx := nx, ct := nx, bk := bk } ((σ'.set a (some (.ref wd))).set b (some (.ref rw))) H') (hd : ∀ σ' H', Sh σ' → XB Tb [] H H' → D.nx σ' H') :
    tFor (iList K (tOp (rAddA K) (tVar c) (tSl (rSlA K) (tVar c) tNoPart (tPart (tC (.int 1)))))) (gTup K 2 (gCons (gName a) (gCons (gName b) gNil))) tu D σ H := by
  have hcat : EvL (tOp (rAddA K) (tVar c) (tSl (rSlA K) (tVar c) tNoPart (tPart (tC (.int 1))))) σ H [v1, v2, v1] := fun H1 e1 Q q =>
    ⟨_, hc, el_slA (K := K) (ev_var hc) eo_none (eo_some (ev_c (v := .int 1))) (SqL.of (e1 _ _ hp)) H1 (Ex.refl H1) _ fun d H2 _ e2 h2 => .inr (.inr (.inl ⟨p, d, [v1, v2], _, rfl, rfl, (e1.trans e2) _ _ hp, h2, sz_of (show 2 + 1 ≤ 100000 by decide), fun y hy => q y _ (fresh_back e2 hy) (e2.trans (Ex.new hy)) upd_same⟩))⟩
  refine s_forNL hcat (fun y i σ' H' => Sh σ' ∧ XB Tb [] H H' ∧ H' y = some (.lst [v1, v2, v1])) (fun y H1 hy e1 h1 => ⟨h0, XB.of e1, h1⟩) (fun y i σ' H' _ ⟨_, _, h⟩ => SqL.of h) (fun y i x σ' H' hi ⟨sh, x', hy⟩ => ?_) fun y σ' H' ⟨sh, x', _⟩ => hd σ' H' sh x'
  have wx : WT t1 t2 zs x H' := by
    match i, hi with
    | 0, h => cases h; exact w1.xb x'
    | 1, h => cases h; exact w2.xb x'
    | 2, h => cases h; exact w1.xb x'
    | i + 3, h => simp at h
  obtain ⟨q, wd, rw, W, R, rfl, h2, w, hr⟩ := wx
  exact g_two (K := K) rfl h2 (hs wd rw W R σ' H' sh x' w hr _ _ fun σ2 H2 s2 y2 => ⟨s2, x'.trans y2, y2.lst hy⟩)
end
end Z

set_option Elab.async false
set_option linter.all false
set_option autoImplicit false
set_option maxRecDepth 100000
set_option maxHeartbeats 4000000
/-! ev: what an expression comes to, by its form -/
local macro_rules | `(tactic| k_places) => `(tactic| (repeat' (first
  | (with_reducible exact ev_c)
  | (with_reducible exact ev_var rfl)
  | (with_reducible refine ev_chainLL ?_ ?_ ?_)
  | (with_reducible refine ev_chainLt ?_ ?_ ?_)
  | (with_reducible refine ev_op ?_ ?_ ?_)
  | (with_reducible refine ev_neg ?_)
  | (with_reducible refine et_test ?_)
  | (with_reducible refine et_B ?_)
  | (with_reducible refine et_not ?_)
  | (with_reducible refine et_and ?_ (fun _ => ?_))
  | (with_reducible refine et_or ?_ (fun _ => ?_))
  | (with_reducible refine ev_andV ?_ (fun _ => ?_))
  | (with_reducible refine ev_orV ?_ (fun _ => ?_))
  | (with_reducible refine ev_notV ?_)
  | (with_reducible exact rv_addI)
  | (with_reducible exact rv_subI)
  | (with_reducible exact rv_lt)
  | (with_reducible exact rv_le)
  | (with_reducible exact rv_gt)
  | (with_reducible exact rv_ge)
  | (with_reducible exact rv_isB)
  | (with_reducible exact rv_isnB)
  | (with_reducible exact rv_isN)
  | (with_reducible exact rv_isnN)
  | (with_reducible exact rv_eqS rfl)
  | (with_reducible exact rv_neS rfl)
  | (with_reducible exact rv_inStr)
  | (with_reducible exact rv_ninStr)
  | (with_reducible exact rv_mod (by first | decide | omega | assumption))
  | (with_reducible exact rv_div (by first | decide | omega | assumption))
  | (with_reducible exact rv_pow (by decide))
  | (with_reducible refine ed_i ?_; done)
  | (with_reducible exact ea_nil)
  | (with_reducible refine ea_cons ?_ ?_)
  | (with_reducible exact eds_nil)
  | (with_reducible refine eds_cons ?_ ?_)
  | (with_reducible exact ed_dnew)
  | (with_reducible refine ed_lst ?_ (by simp only [List.length_cons, List.length_nil]; omega))
  | (with_reducible refine ed_tup ?_ (by simp only [List.length_cons, List.length_nil]; omega)))))
namespace Z
open PySem PySem.Spec PyProof.Rows L2 Evl NdefX LamX
/-! ### the rules in the laws' worlds -/
theorem hu_of {Tb : List (Addr × Str)} {tp : Addr} {q : Str} (nd : (Tb.map (·.1)).Nodup) (hm : (tp, q) ∈ Tb) : ∀ p ∈ Tb, p.1 = tp → p.2 = q := by
  induction Tb with
  | nil => simp at hm
  | cons x r ih =>
    rw [List.map_cons, List.nodup_cons] at nd
    intro p hp e
    rcases List.mem_cons.mp hm with h | h
    · rcases List.mem_cons.mp hp with z | z
      · rw [z, ← h]
      · refine absurd (List.mem_map.mpr ⟨p, z, ?_⟩) nd.1
        rw [e, ← h]
    · rcases List.mem_cons.mp hp with z | z
      · refine absurd (List.mem_map.mpr ⟨_, h, ?_⟩) nd.1
        rw [← z, e]
      · exact ih nd.2 h p z e
theorem cfn_of {P : Program} {w : PySem.World} {K : PySem.W.Frag} {mg : Str → Option Value} {base : Heap} {st : Stmt} {c x qual : Str} {f C : Addr} {fd : FuncData} {N ps : List Str} {k : Nat} {sp : Sp} (F : Fun K x qual st f fd) (S : FnScope N ps (defScope st))
    (len : ∀ vs H Q E, sp vs H Q E → vs.length = ps.length) (t : XK → TS)
    (d : ∀ (cdv : Value) (A : Around) (outer : List Env) (s : Shared) (H : Hp) (E : XK), Room k (A.deeper (envOfC qual (defScope st) s.heap.objs.size f cdv)) → PSs (cxOf (L2.CX P w) P w K mg base N qual (defScope st) f cdv A outer s H E) (defBody st) (t E))
    (r : ∀ (vs : List V) (H : Hp) (Q : VK) (E : XK), sp vs H Q E → t E { nx := fun _ H' => Q .non H', rt := Q } (L2.start N vs) H) (hb : Binds K fd ps []) (hg : mg c = some (.ref C)) (rd : PySem.W.readsIn K C (.type "type") = true)
    (fc : PySem.W.findCls K (.ref C) (.type "type") x = some (.val (.ref f))) (ga : PySem.W.specialIn K (.ref C) "__getattribute__" = some (some (.builtin "type.__getattribute__"))) (kp : PySem.W.keepIn K (.ref f) = true) : CFn P w K mg base (k + 1) C c x f ps sp :=
  ⟨⟨fd, F.okX S len fun cdv A outer s H vs Q E hr h => ⟨t E, d cdv A outer s H E hr, r vs H Q E h⟩, hb⟩, hg, rd, fc, ga, kp⟩
theorem lok_mono {P : Program} {w : PySem.World} {K : PySem.W.Frag} {mg : Str → Option Value} {base : Heap} {j k : Nat} {f : Addr} {F : LF} {ps fr : List Str} {sp : List (Option V) → Sp} (h : j ≤ k) (a : LOk P w K mg base j f F ps fr sp) : LOk P w K mg base k f F ps fr sp := ⟨a.len, fun A outer s H us vs ws Q hr => a.run A outer s H us vs ws Q (hr.mono h)⟩
theorem lamI_of {P : Program} {w : PySem.World} {K : PySem.W.Frag} {mg : Str → Option Value} {base : Heap} {k : Nat} {mk : List (Str × Addr) → Addr → LF} {nm : List (Str × NameKind)} {ps fr : List Str} {spl : List (Option V) → Sp} (h1 : ∀ cl c, (mk cl c).cl = cloFrom cl nm [] ∧ (mk cl c).c = c) (h2 : ∀ y ∈ nm, y.2 = .free → y.1 ∈ fr) (h3 : ∀ y ∈ fr, (y, NameKind.free) ∈ nm)
    (h : ∀ cl c f, LOk P w K mg base k f (mk cl c) ps fr spl) : LamI (CloAt P w K mg base k) mk nm fr spl :=
  ⟨h1, h2, h3, fun cl c f H ws sp hf hc C i => ⟨mk cl c, ps, fr, ws, spl, h cl c f, hf, by rw [(h1 cl c).2]; exact hc, by rw [(h1 cl c).1]; exact C, by rw [(h1 cl c).1]; exact i⟩⟩
theorem names8 {zs : List Str} (h : zs.length = 8) (nd : zs.Nodup) (hn : ∀ z ∈ zs, isName z = true) : ∃ ys t1 t2, zs = ys ++ [t1, t2] ∧ ys.length = 6 ∧ t1 ≠ t2 ∧ (∀ z ∈ ys, isName z = true) ∧ ∀ t ∈ [t1, t2], isName t = true := by
  obtain ⟨a, b, c, d, e, f, t1, t2, rfl⟩ : ∃ a b c d e f g h, zs = [a, b, c, d, e, f, g, h] := by
    match zs, h with
    | [a, b, c, d, e, f, g, h], _ => exact ⟨_, _, _, _, _, _, _, _, rfl⟩
  refine ⟨[a, b, c, d, e, f], t1, t2, rfl, rfl, ?_, fun z hz => hn z (List.mem_append.mpr (.inl hz) : z ∈ [a, b, c, d, e, f] ++ [t1, t2]), fun z hz => hn z (List.mem_append.mpr (.inr hz) : z ∈ [a, b, c, d, e, f] ++ [t1, t2])⟩
  rintro rfl
  simp at nd
theorem name_at {zs : List Str} {ts : List Str} {i : Int} {n : Nat} (hz : zs.length = n) (h0 : 0 ≤ i) (h : i < n) : ∃ z ∈ zs, atI ((zs ++ ts).map V.str) i = some (.str z) := by
  have hl : i.toNat < zs.length := by omega
  refine ⟨zs[i.toNat], List.getElem_mem hl, ?_⟩
  rw [atI_in .non h0 (by rw [List.length_map, List.length_append]; omega), List.getD_eq_getElem?_getD, List.getElem?_map, List.getElem?_append_left hl, List.getElem?_eq_getElem hl]
  rfl
def resN (n : Nat) : Res → Prop
  | .val x => okV x
  | .call is => is.length ≤ n
theorem turn_res {W : Spot → Val} (ok : ∀ s, okV (W s)) : ∀ ss : List Spot, resN ss.length (turn W ss).1
  | [] => Nat.le_refl 0
  | s :: r => by
    have h := turn_res ok r
    have o := ok s
    rw [turn]
    cases e : W s with
    | inr w => rw [e] at o; exact o
    | inl i =>
      dsimp only
      cases q : turn W r with
      | mk a b =>
        rw [q] at h
        cases a with
        | val x => exact h
        | call is => exact Nat.succ_le_succ h
theorem turn_okR {W : Spot → Val} (ok : ∀ s, okV (W s)) {ss : List Spot} (h : ss.length ≤ 1000) : okRes (turn W ss).1 := by
  have := turn_res ok ss
  cases q : (turn W ss).1 with
  | val x => rw [q] at this; exact this
  | call is => rw [q] at this; exact Nat.le_trans this h
section
variable {K : PySem.W.Frag} {σ : L2.St} {H H' : Hp} {te tl ta tb tr ts to : TE} {D : Ends} {tz : TS} {E : L2.St → XK} {Tb : List (Addr × Str)}
theorem q_picked {l : Addr} {ns : List Int} {zs : List Str} {i j : Nat} {x : Int} (hx : x = (j : Int)) (hl : SqL K H l (ns.map V.int)) (ha : Ev ta σ H (.ref l)) (hb : Ev tb σ H (.int x)) (hs : EvL ts σ H (zs.map V.str)) (h1 : 1 ≤ zs.length) (h2 : zs.length ≤ 1000) (hj : j ≤ 90000)
    (k : ∀ (p : Addr) (ws : List Str) (H1 : Hp), ws.length ≤ 6 → (∀ w ∈ ws, w ∈ zs) → H p = none → Ex H H1 → H1 p = some (.lst (ws.map V.str)) → tz D (σ.set i (some (.ref p))) H1) :
    tSeq (tAsg (tCallS (sp_law_picked K) E (tCons ta (tCons tb (tCons ts tNil)))) (gName i)) tz D σ H := by
  subst hx
  exact ha H (Ex.refl H) _ fun H1 e1 => hb H1 e1 _ fun H2 e2 => hs H2 (e1.trans e2) _ fun p H3 _ e3 h3 => ⟨l, p, ns, zs, j, rfl, ex_l ((e1.trans e2).trans e3) hl, h3, h1, h2, hj, fun ws w1 w2 q H4 hq e4 h4 => k q ws H4 w1 w2 (fresh_back ((e1.trans e2).trans e3) hq) (((e1.trans e2).trans e3).trans e4) h4⟩
/-- due, seen = _law_in_turn(world, spots) -/
theorem q_inTurn {wd : Addr} {ss : List Spot} {W : Spot → Val} {Dom : Spot → Prop} {a b : Nat} (ha : Ev ta σ H (.ref wd)) (hs : EvSs ts σ H ss) (w : WAt H wd W Dom) (hd : ∀ s ∈ ss, Dom s ∧ okSp s) (ok : ∀ s, okV (W s)) (hl : ss.length ≤ 100)
    (k : ∀ u q ys H1, Ex H H1 → Told H1 u (turn W ss).1 → H1 q = some (.lst ys) → AtSs H1 ys (once (turn W ss).2) → tz D ((σ.set a (some u)).set b (some (.ref q))) H1) :
    tSeq (tAsg (tCallS (sp_law_in_turn K) E (tCons ta (tCons ts tNil))) (gTup K 2 (gCons (gName a) (gCons (gName b) gNil)))) tz D σ H :=
  ha H (Ex.refl H) _ fun H1 e1 => hs H1 e1 _ fun p xs H2 _ e2 h2 s2 => ⟨wd, p, xs, ss, W, Dom, rfl, w.imk ((e1.trans e2) _) (.of (e1.trans e2)), h2, s2, hd, ok, hl, fun x u q ys H3 e3 h3 t3 h4 s4 => g_two (K := K) rfl h3 (k u q ys H3 ((e1.trans e2).trans e3) t3 h4 s4)⟩
/-- an object is there, and what its class does at the outset is done -/
theorem xb_made {C x dx : Addr} {H : Hp} {P : Hp → Prop} {Q : VK} (h1 : H x = none) (h2 : H dx = none) (h3 : dx ≠ x) (k : ∀ H', XB Tb [] H H' → P H' → Q .non H') : Made (upd (upd H dx (.own x)) x (.ins C dx [])) x Q P := fun H' xb p => by
  have e1 : Ex H (upd H dx (.own x)) := Ex.new h2
  refine k H' ⟨fun b o e n t => ?_, fun b o e i => ?_, fun b q => ?_, fun t => ?_⟩ p
  · exact (xb Tb).k b o ((upd_ne (ne_of_none e h1)).trans (e1 _ _ e)) (by simpa using ne_of_none e h1) t
  · exact (xb Tb).i b o ((upd_ne (ne_of_none e h1)).trans (e1 _ _ e)) i
  · exact fresh_back e1 (upd_no ((xb Tb).n b q))
  · exact (xb Tb).t ((t.ext fun b o e => (upd_ne (ne_of_none e h1)).trans (e1 _ _ e)))
end
/-! ### what the rules' objects hold -/
def Pl (R : Str → Nat) (ts : List Str) (t : Str) (p : Int) : Prop := t ∈ ts ∧ ∃ i : Nat, p = (i : Int) ∧ i < R t
theorem Pl.dom {R : Str → Nat} {ts zs : List Str} {t z : Str} {p : Int} (h : Pl R ts t p) (hz : z ∈ zs) : domW ts zs R (t, z, p) := ⟨h.1, hz, h.2⟩
def PRCells (A : Cn → Addr) : PRule := fun H ru t _ p W R ts zs r => ∃ (np dx : Addr) (v : V) (ws : List Str), H ru = some (.ins (A .Cells) dx [("function", v), ("names", .ref np)]) ∧ H np = some (.lst (ws.map V.str)) ∧ ws.length ≤ 6 ∧ (∀ w ∈ ws, w ∈ zs) ∧ Pl R ts t p ∧ r = gCells W t ws p
def PRAbove (A : Cn → Addr) : PRule := fun H ru t c p W R ts zs r => ∃ (np dx : Addr) (v : V) (ws : List Str) (first : Int), H ru = some (.ins (A .Above) dx [("function", v), ("names", .ref np), ("first", .int first)]) ∧ H np = some (.lst (ws.map V.str)) ∧ ws.length ≤ 6 ∧ (∀ w ∈ ws, w ∈ zs) ∧ c ∈ zs ∧ Pl R ts t p ∧ r = gAbove W first t c ws p
def PRGroup (A : Cn → Addr) : PRule := fun H ru t _ p W R ts zs r => ∃ (dx : Addr) (v : V) (y z : Str), H ru = some (.ins (A .Group) dx [("function", v), ("key", .str y), ("name", .str z)]) ∧ y ∈ zs ∧ z ∈ zs ∧ Pl R ts t p ∧ r = gGroup W R t y z p
def PRLookup (A : Cn → Addr) : PRule := fun H ru t _ p W R ts zs r => ∃ (np dx : Addr) (v : V) (x y z : Str) (ws : List Str), H ru = some (.ins (A .Lookup) dx [("function", v), ("key", .str x), ("other", .str y), ("theirs", .str z), ("names", .ref np)]) ∧ H np = some (.lst (ws.map V.str)) ∧ ws.length ≤ 6 ∧ (∀ w ∈ ws, w ∈ zs) ∧ x ∈ zs ∧ y ∈ ts ∧ z ∈ zs ∧ Pl R ts t p ∧ r = gLookup W R t x y z ws p
def PRMend (A : Cn → Addr) : PRule := fun H ru t _ p W R ts zs r => ∃ (dx : Addr) (v : V) (z : Str), H ru = some (.ins (A .Mend) dx [("function", v), ("name", .str z)]) ∧ z ∈ zs ∧ Pl R ts t p ∧ r = gMend W t z p
section
variable {K : PySem.W.Frag} {A : Cn → Addr} {CA : Hp → Addr → Sp → Prop} {Tb : List (Addr × Str)} {H H3 : Hp} {F : List Addr}
theorem offF {a : Addr} {xs : List V} (hF : ∀ a ∈ F, H a = none ∨ (∃ kvs, H a = some (.dT kvs)) ∨ ∃ kvs, H a = some (.dK kvs)) (h : H a = some (.lst xs)) : a ∉ F := fun z => by
  rcases hF a z with q | ⟨_, q⟩ | ⟨_, q⟩ <;> rw [h] at q <;> cases q
theorem prCells : PROk CA Tb (PRCells A) (A .Cells) (sp_Cells_gather K A CA) where
  ins := fun ⟨_, _, _, _, h, _⟩ => ⟨_, _, h, rfl⟩
  run := fun ⟨np, dx, v, ws, h1, h2, h3, h4, h5, hr⟩ H3 J F f m Q x _ I k => by
    subst hr
    exact ⟨_, f, m, np, ws, _, _, _, Tb, [], J, _, _, _, _, F, [], rfl, ⟨dx, _, x.k _ _ h1 (by simp) (fun _ z => nomatch z), rfl⟩, x.lst h2, h3, I, fun z hz => h5.dom (h4 z hz), k⟩
theorem prAbove : PROk CA Tb (PRAbove A) (A .Above) (sp_Above_gather K A CA) where
  ins := fun ⟨_, _, _, _, _, h, _⟩ => ⟨_, _, h, rfl⟩
  run := fun ⟨np, dx, v, ws, first, h1, h2, h3, h4, hc, h5, hr⟩ H3 J F f m Q x _ I k => by
    subst hr
    have h1' := x.k _ _ h1 (by simp) (fun _ z => nomatch z)
    refine ⟨_, f, m, np, ws, _, _, _, first, Tb, [], J, _, _, _, _, F, [], rfl, ⟨dx, _, h1', rfl⟩, ⟨dx, _, h1', rfl⟩, x.lst h2, h3, I, fun z hz => h5.dom (h4 z hz), fun hp => ?_, k⟩
    obtain ⟨ht, i, rfl, hi⟩ := h5
    exact ⟨ht, hc, i - 1, by show (i : Int) - 1 = _; omega, Nat.lt_of_le_of_lt (Nat.sub_le i 1) hi⟩
theorem prGroup : PROk CA Tb (PRGroup A) (A .Group) (sp_Group_gather K A CA) where
  ins := fun ⟨_, _, _, _, h, _⟩ => ⟨_, _, h, rfl⟩
  run := fun ⟨dx, v, y, z, h1, hy, hz, h5, hr⟩ H3 J F f m Q x _ I k => by
    subst hr
    have h1' := x.k _ _ h1 (by simp) (fun _ z => nomatch z)
    exact ⟨_, f, m, _, _, y, z, _, Tb, [], J, _, _, _, _, F, [], rfl, ⟨dx, _, h1', rfl⟩, ⟨dx, _, h1', rfl⟩, I, h5.1, h5.dom hy, fun i hi => ⟨⟨h5.1, hy, i, rfl, hi⟩, ⟨h5.1, hz, i, rfl, hi⟩⟩, k⟩
theorem prLookup : PROk CA Tb (PRLookup A) (A .Lookup) (sp_Lookup_gather K A CA) where
  ins := fun ⟨_, _, _, _, _, _, _, h, _⟩ => ⟨_, _, h, rfl⟩
  run := fun ⟨np, dx, v, y, o, z, ws, h1, h2, h3, h4, hy, ho, hz, h5, hr⟩ H3 J F f m Q x hF I k => by
    subst hr
    have h1' := x.k _ _ h1 (by simp) (fun _ z => nomatch z)
    exact ⟨_, f, m, np, ws, _, _, y, o, z, _, Tb, [], J, _, _, _, _, F, [], rfl, ⟨dx, _, h1', rfl⟩, ⟨dx, _, h1', rfl⟩, ⟨dx, _, h1', rfl⟩, ⟨dx, _, h1', rfl⟩, offF hF h2, x.lst h2, h3, I, ho, h5.dom hy, fun i hi => ⟨⟨ho, hz, i, rfl, hi⟩, fun w hw => ⟨ho, h4 w hw, i, rfl, hi⟩⟩, k⟩
theorem prMend : PROk CA Tb (PRMend A) (A .Mend) (sp_Mend_gather K A CA) where
  ins := fun ⟨_, _, _, h, _⟩ => ⟨_, _, h, rfl⟩
  run := fun ⟨dx, v, z, h1, hz, h5, hr⟩ H3 J F f m Q x _ I k => by
    subst hr
    exact ⟨_, f, m, _, _, z, _, Tb, [], J, _, _, _, _, F, [], rfl, ⟨dx, _, x.k _ _ h1 (by simp) (fun _ z => nomatch z), rfl⟩, I, h5.dom hz, k⟩
end
end Z

set_option Elab.async false
set_option linter.all false
set_option autoImplicit false
set_option maxRecDepth 100000
set_option maxHeartbeats 4000000
/-! ev: what an expression comes to, by its form -/
local macro_rules | `(tactic| k_places) => `(tactic| (repeat' (first
  | (with_reducible exact ev_c)
  | (with_reducible exact ev_var rfl)
  | (with_reducible refine ev_chainLL ?_ ?_ ?_)
  | (with_reducible refine ev_chainLt ?_ ?_ ?_)
  | (with_reducible refine ev_op ?_ ?_ ?_)
  | (with_reducible refine ev_neg ?_)
  | (with_reducible refine et_test ?_)
  | (with_reducible refine et_B ?_)
  | (with_reducible refine et_not ?_)
  | (with_reducible refine et_and ?_ (fun _ => ?_))
  | (with_reducible refine et_or ?_ (fun _ => ?_))
  | (with_reducible refine ev_andV ?_ (fun _ => ?_))
  | (with_reducible refine ev_orV ?_ (fun _ => ?_))
  | (with_reducible refine ev_notV ?_)
  | (with_reducible exact rv_addI)
  | (with_reducible exact rv_subI)
  | (with_reducible exact rv_lt)
  | (with_reducible exact rv_le)
  | (with_reducible exact rv_gt)
  | (with_reducible exact rv_ge)
  | (with_reducible exact rv_isB)
  | (with_reducible exact rv_isnB)
  | (with_reducible exact rv_isN)
  | (with_reducible exact rv_isnN)
  | (with_reducible exact rv_eqS rfl)
  | (with_reducible exact rv_neS rfl)
  | (with_reducible exact rv_inStr)
  | (with_reducible exact rv_ninStr)
  | (with_reducible exact rv_mod (by first | decide | omega | assumption))
  | (with_reducible exact rv_div (by first | decide | omega | assumption))
  | (with_reducible exact rv_pow (by decide))
  | (with_reducible refine ed_i ?_; done)
  | (with_reducible exact ea_nil)
  | (with_reducible refine ea_cons ?_ ?_)
  | (with_reducible exact eds_nil)
  | (with_reducible refine eds_cons ?_ ?_)
  | (with_reducible exact ed_dnew)
  | (with_reducible refine ed_lst ?_ (by simp only [List.length_cons, List.length_nil]; omega))
  | (with_reducible refine ed_tup ?_ (by simp only [List.length_cons, List.length_nil]; omega)))))
namespace Z
open PySem PySem.Spec PyProof.Rows L2 Evl NdefX LamX
/-! ### what the laws of rules expect -/
theorem set_self {σ : L2.St} {i : Nat} {v : Option V} (h : σ[i]? = some v) : σ.set i v = σ := by
  apply List.ext_getElem?
  intro j
  by_cases e : i = j
  · subst e
    rw [List.getElem?_set_self (List.getElem?_eq_some_iff.mp h).1, h]
  · rw [List.getElem?_set_ne e]
theorem pre_nilL {sp : List Spot} {r : Res × List Spot} : pre [] sp r = (r.1, sp ++ r.2) := by
  obtain ⟨a, b⟩ := r
  cases a <;> simp [pre]
theorem tab_at {zs : List Str} {t1 t2 : Str} {d : Int} (hz : zs.length = 6) (h0 : 0 ≤ d) (h : d < 2) : ∃ o ∈ [t1, t2], atI ((zs ++ [t1, t2]).map V.str) (6 + d) = some (.str o) := by
  obtain ⟨a, b, c, e, f, g, rfl⟩ : ∃ a b c d e f, zs = [a, b, c, d, e, f] := by
    match zs, hz with
    | [a, b, c, d, e, f], _ => exact ⟨_, _, _, _, _, _, rfl⟩
  obtain rfl | rfl : d = 0 ∨ d = 1 := by omega
  · exact ⟨t1, by simp, rfl⟩
  · exact ⟨t2, by simp, rfl⟩
theorem once_all {l : List Spot} {s : Spot} (h : s ∈ l) : s ∈ once l := by
  have keep : ∀ (l : List Spot) (acc : List Spot), s ∈ acc → s ∈ l.foldl (fun acc s => if s ∈ acc then acc else acc ++ [s]) acc := by
    intro l
    induction l with
    | nil => intro acc h; exact h
    | cons x r ih =>
      intro acc h
      refine ih _ ?_
      dsimp only
      split
      · exact h
      · exact List.mem_append.mpr (.inl h)
  have : ∀ (l : List Spot) (acc : List Spot), s ∈ l → s ∈ l.foldl (fun acc s => if s ∈ acc then acc else acc ++ [s]) acc := by
    intro l
    induction l with
    | nil => intro acc h; cases h
    | cons x r ih =>
      intro acc h
      rcases List.mem_cons.mp h with z | z
      · subst z
        refine keep r _ ?_
        dsimp only
        split
        · assumption
        · exact List.mem_append.mpr (.inr List.mem_cons_self)
      · exact ih _ z
  exact this l [] h
theorem once_app (a : List Spot) : ∀ b : List Spot, once (a ++ once b) = once (a ++ b) := by
  suffices h : ∀ n (b : List Spot), b.length = n → once (a ++ once b) = once (a ++ b) from fun b => h _ b rfl
  intro n
  induction n with
  | zero => intro b hb; rw [List.eq_nil_of_length_eq_zero hb]; rfl
  | succ n ih =>
    intro b hb
    obtain ⟨c, s, rfl⟩ : ∃ c s, b = c ++ [s] := ⟨b.dropLast, b.getLast (by intro z; rw [z] at hb; cases hb), (List.dropLast_concat_getLast _).symm⟩
    have hc : c.length = n := by rw [List.length_append] at hb; simpa using hb
    rw [once_snoc, ← List.append_assoc, once_snoc]
    by_cases h : s ∈ once c
    · rw [if_pos h, ih c hc, if_pos (once_all (List.mem_append.mpr (.inr (once_mem h))))]
    · rw [if_neg h, ← List.append_assoc, once_snoc, ih c hc]
section
variable {K : PySem.W.Frag} {σ : L2.St} {H H' : Hp} {te tl ta tb tr ts to t1 t2 t3 : TE} {D : Ends} {tz : TS} {E : L2.St → XK} {Tb : List (Addr × Str)}
theorem ev_worldT {wd : Addr} {W : Spot → Val} {Dom : Spot → Prop} {s : Spot} (h : WAt H wd W Dom) (hd : Dom s) (ha : Ev ta σ H (.ref wd)) (h1 : Ev t1 σ H (.str s.1)) (h2 : Ev t2 σ H (.str s.2.1)) (h3 : Ev t3 σ H (.int s.2.2)) :
    ∃ u, Ev (tOp (rIxA K) ta (tTup (tCons t1 (tCons t2 (tCons t3 tNil))))) σ H u ∧ Vt H u (dV (W s)) := by
  obtain ⟨kvs, a1, a2⟩ := h
  obtain ⟨u, b1, b2⟩ := a2 s hd
  refine ⟨u, ev_opU ha (eu_tup (ea_cons h1 (ea_cons h2 (ea_cons h3 ea_nil))) (show 3 ≤ 100000 by decide)) fun p H3 g3 e3 H4 e4 Q4 q4 => .inr ⟨wd, u, rfl, ?_, q4 H4 (Ex.refl H4)⟩, b2⟩
  rw [← b1]
  exact DGet.t (k := keyS s) (e4 _ _ (e3 _ _ a1)) (e4 _ _ g3)
/-- names[_law_drawn(script, x, 6)] -/
theorem ev_nameAt {l np : Addr} {ns : List Int} {zs ts' : List Str} {j : Nat} {x n : Int} (hx : x = (j : Int)) (hl : SqL K H l (ns.map V.int)) (hn : H np = some (.lst ((zs ++ ts').map V.str))) (hz : (zs.length : Int) = n) (h0 : 0 < n) (ha : Ev ta σ H (.ref np)) (hr : Ev tr σ H (.ref l)) (hb : Ev tb σ H (.int x)) (hj : j ≤ 100000) :
    ∃ z ∈ zs, Ev (tOp (rIxA K) ta (tCallS (sp_law_drawn K) E (tCons tr (tCons tb (tCons (tC (.int n)) tNil))))) σ H (.str z) := by
  subst hx
  have b := drawn_bd ns j (size := n) h0
  obtain ⟨z, h, ix⟩ := name_at (zs := zs) (ts := ts') (n := zs.length) rfl b.1 (by omega)
  exact ⟨z, h, ev_op ha (ev_drawn hl hr hb ev_c hj h0) (rv_itL (SqL.of hn) ix)⟩
theorem q_nameAt {l np : Addr} {ns : List Int} {zs ts' : List Str} {i j : Nat} {x n : Int} (hx : x = (j : Int)) (hl : SqL K H l (ns.map V.int)) (hn : H np = some (.lst ((zs ++ ts').map V.str))) (hz : (zs.length : Int) = n) (h0 : 0 < n) (ha : Ev ta σ H (.ref np)) (hr : Ev tr σ H (.ref l)) (hb : Ev tb σ H (.int x)) (hj : j ≤ 100000)
    (k : ∀ z H1, z ∈ zs → Ex H H1 → tz D (σ.set i (some (.str z))) H1) : tSeq (tAsg (tOp (rIxA K) ta (tCallS (sp_law_drawn K) E (tCons tr (tCons tb (tCons (tC (.int n)) tNil))))) (gName i)) tz D σ H := by
  obtain ⟨z, h, ev⟩ := ev_nameAt (K := K) (E := E) (ts' := ts') hx hl hn hz h0 ha hr hb hj
  exact q_asg ev fun H1 e => k z H1 h e
/-- ("call", a new list) -/
theorem x_dueL {w : Str} {xs : List V} {Q : VK} (h : EvL tl σ H xs) (k : ∀ a p H1, Ex H H1 → H p = none → H1 a = some (.tup [.str w, .ref p]) → H1 p = some (.lst xs) → Q (.ref a) H1) : tTup (tCons (tC (.str w)) (tCons tl tNil)) σ H Q :=
  h H (Ex.refl H) _ fun p H1 hp e1 h1 => ⟨sz_of (show 2 ≤ 100000 by decide), fun a ha => k a p _ (e1.trans (Ex.new ha)) hp upd_same ((Ex.new ha) _ _ h1)⟩
theorem s_dueL {w : Str} {xs : List V} {i : Nat} (h : EvL tl σ H xs) (k : ∀ a p H1, Ex H H1 → H p = none → H1 a = some (.tup [.str w, .ref p]) → H1 p = some (.lst xs) → D.nx (σ.set i (some (.ref a))) H1) : tAsg (tTup (tCons (tC (.str w)) (tCons tl tNil))) (gName i) D σ H :=
  x_dueL (Q := fun v H1 => D.nx (σ.set i (some v)) H1) h k
/-- a list of one spot, written out -/
theorem ed_spot1 {s : Spot} (h1 : Ev t1 σ H (.str s.1)) (h2 : Ev t2 σ H (.str s.2.1)) (h3 : Ev t3 σ H (.int s.2.2)) : EvD (tLst (tCons (tTup (tCons t1 (tCons t2 (tCons t3 tNil)))) tNil)) σ H (.list ([s].map dSp)) :=
  ed_lst (eds_cons (ed_tup (eds_cons (ed_ev h1 (.str _)) (eds_cons (ed_ev h2 (.str _)) (eds_cons (ed_ev h3 (.int _)) eds_nil))) (show 3 ≤ 100000 by decide)) eds_nil) (show 1 ≤ 100000 by decide)
theorem mend_ok {W : Spot → Val} (ok : ∀ s, okV (W s)) {t z : Str} {p : Int} : okRes (gMend W t z p).1 := by
  have o := ok (t, z, p)
  unfold gMend
  cases e : W (t, z, p) with
  | inr w => exact Nat.zero_le 1000
  | inl i => rw [e] at o; exact o
/-- if isinstance(due[1], tuple): due = ("call", []) -/
theorem q_ifMend {W : Spot → Val} {t z : Str} {p : Int} {a : Addr} {i : Nat} {u : V} (ha : H a = some (.tup [.str "value", u])) (vu : Vt H u (dV (W (t, z, p)))) (hi : σ[i]? = some (some (.ref a)))
    (k : ∀ d H1, Ex H H1 → Told H1 d (gMend W t z p).1 → tz D (σ.set i (some d)) H1) :
    tSeq (tIfS (tB (tCB (rIsiA K) (tCons (tOp (rIxA K) (tVar i) (tC (.int 1))) (tCons (tC (.ty "tuple")) tNil)))) (tAsg (tTup (tCons (tC (.str "call")) (tCons (tLst tNil) tNil))) (gName i)) tNext) tz D σ H := by
  unfold gMend at k
  cases e : W (t, z, p) with
  | inr w =>
    rw [e] at vu k
    exact q_if (b := true) (et_is (et_B (ev_isi (ev_pt (ev_var hi) ha).2 (vt_ty vu))) rfl) (fun _ H2 e2 => s_dueL (el_lst ea_nil (by decide)) fun b q H3 e3 _ h3 h4 => k _ H3 (e2.trans e3) ⟨b, q, rfl, h3, h4⟩) (fun hb => nomatch hb)
  | inl n =>
    rw [e] at vu k
    refine q_when (b := false) (et_is (et_B (ev_isi (ev_pt (ev_var hi) ha).2 (vt_ty vu))) rfl) (fun hb => nomatch hb) fun _ H2 e2 => ?_
    have := k (.ref a) H2 e2 ⟨a, u, rfl, e2 _ _ ha, vu.tup (.of_ex e2)⟩
    rwa [set_self hi] at this
/-- a new list behind which one stands that is there already -/
theorem el_catR {xs ys : List V} {q : Addr} (h1 : EvL ta σ H xs) (h2 : Ev tb σ H (.ref q)) (hq : H q = some (.lst ys)) (hl : xs.length + ys.length ≤ 100000) : EvL (tOp (rAddA K) ta tb) σ H (xs ++ ys) := fun H1 e Q k =>
  h1 H1 e _ fun p H2 _ e2 hp => h2 H2 (e.trans e2) _ fun H3 e3 => .inr (.inr (.inl ⟨p, q, xs, ys, rfl, rfl, e3 _ _ hp, ((e.trans e2).trans e3) _ _ hq, sz_of hl, fun u hu => k u _ (fresh_back (e2.trans e3) hu) ((e2.trans e3).trans (Ex.new hu)) upd_same⟩))
theorem x_op {r : R2} {Q : VK} (h : ta σ H fun x H1 => tb σ H1 fun y H2 => r x y H2 Q) : tOp r ta tb σ H Q := h
theorem x_lst1 {Q : VK} (h : ta σ H fun x H1 => [x].length ≤ sizeLine ∧ ∀ p, H1 p = none → Q (.ref p) (upd H1 p (.lst [x]))) : tLst (tCons ta tNil) σ H Q := h
/-- [a spot] + spots -/
theorem x_spotCat {s : Spot} {q : Addr} {xs : List V} {i : Nat} {Q : VK} (h1 : Ev t1 σ H (.str s.1)) (h2 : Ev t2 σ H (.str s.2.1)) (h3 : Ev t3 σ H (.int s.2.2)) (hv : σ[i]? = some (some (.ref q))) (hq : H q = some (.lst xs)) (hl : xs.length ≤ 90000)
    (k : ∀ a y H1, Ex H H1 → AtS H1 a s → H1 y = some (.lst (a :: xs)) → Q (.ref y) H1) : tOp (rAddA K) (tLst (tCons (tTup (tCons t1 (tCons t2 (tCons t3 tNil)))) tNil)) (tVar i) σ H Q :=
  x_op <| x_lst1 <| eu_tup (ea_cons h1 (ea_cons h2 (ea_cons h3 ea_nil))) (show 3 ≤ 100000 by decide) H (Ex.refl H) _ fun a H1 _ e1 g1 => ⟨sz_of (show 1 ≤ 100000 by decide), fun p hp => ⟨_, hv, .inr (.inr (.inl ⟨p, q, [.ref a], xs, rfl, rfl, upd_same, (Ex.new hp) _ _ (e1 _ _ hq), sz_of (show 1 + xs.length ≤ 100000 by omega), fun y hy =>
    k (.ref a) y _ ((e1.trans (Ex.new hp)).trans (Ex.new hy)) ⟨a, rfl, (Ex.new hy) _ _ ((Ex.new hp) _ _ g1)⟩ upd_same⟩))⟩⟩
theorem q_inTurnV {wd sp : Addr} {xs : List V} {ss : List Spot} {W : Spot → Val} {Dom : Spot → Prop} {a b : Nat} (ha : Ev ta σ H (.ref wd)) (hs : Ev ts σ H (.ref sp)) (h2 : H sp = some (.lst xs)) (s2 : AtSs H xs ss) (w : WAt H wd W Dom) (hd : ∀ s ∈ ss, Dom s ∧ okSp s) (ok : ∀ s, okV (W s)) (hl : ss.length ≤ 100)
    (k : ∀ u q ys H1, Ex H H1 → Told H1 u (turn W ss).1 → H1 q = some (.lst ys) → AtSs H1 ys (once (turn W ss).2) → tz D ((σ.set a (some u)).set b (some (.ref q))) H1) :
    tSeq (tAsg (tCallS (sp_law_in_turn K) E (tCons ta (tCons ts tNil))) (gTup K 2 (gCons (gName a) (gCons (gName b) gNil)))) tz D σ H :=
  ha H (Ex.refl H) _ fun H1 e1 => hs H1 e1 _ fun H2 e2 => ⟨wd, sp, xs, ss, W, Dom, rfl, w.imk ((e1.trans e2) _) (.of (e1.trans e2)), (e1.trans e2) _ _ h2, s2.tup (.of_ex (e1.trans e2)), hd, ok, hl, fun x u q ys H3 e3 h3 t3 h4 s4 => g_two (K := K) rfl h3 (k u q ys H3 ((e1.trans e2).trans e3) t3 h4 s4)⟩
theorem cut_take {xs : List V} {i : Nat} : cutV xs none (some (i : Int)) = xs.take i := by
  unfold cutV
  rw [HT.sIx_nat, show HT.sIx xs.length 0 none = 0 from rfl, List.drop_zero, Nat.sub_zero]
  by_cases h : i ≤ xs.length
  · rw [Nat.min_eq_left h]
  · rw [Nat.min_eq_right (by omega), List.take_of_length_le (Nat.le_refl _), List.take_of_length_le (by omega)]
theorem AtSs.take {vs : List V} {ss : List Spot} (r : AtSs H vs ss) (i : Nat) : AtSs H (vs.take i) (ss.take i) := ⟨by rw [List.length_take, List.length_take, r.1], fun j s hs => by
  rw [List.getElem?_take] at hs ⊢
  split at hs
  · rename_i h
    rw [if_pos h]
    exact r.2 j s hs
  · cases hs⟩
theorem ev_ninSL {v : V} {s : Spot} {ss : List Spot} {xs : List V} (h1 : Ev ta σ H v) (r1 : AtS H v s) (h2 : EvL tb σ H xs) (r2 : AtSs H xs ss) (o1 : okSp s) (o2 : ∀ x ∈ ss, okSp x) : Ev (tOp (rNinA K) ta tb) σ H (.bl (!decide (s ∈ ss))) := fun H1 e Q q =>
  h1 H1 e _ fun H2 e2 => h2 H2 (e.trans e2) _ fun p H3 _ e3 hp => by
    have E := (e.trans e2).trans e3
    refine .inr (.inr (.inr ⟨dSp s, ss.map dSp, ((r1.tup (.of_ex E)).dt).dp (okD_dSp o1).nd, (Dt.lst hp (r2.tup (.of_ex E)).dt).dp (okD_dSps o2).nd, (okD_dSp o1).shaped, (okD_dSps o2).shaped, ?_⟩))
    rw [any_dSp]
    exact q H3 (e2.trans e3)
/-- [seen[k] for k in range(len(seen)) if seen[k] not in seen[:k]] -/
theorem es_once {q : Addr} {xs : List V} {ss : List Spot} {i j : Nat} {tas : TA} (h0 : EvA tas σ H [.int (xs.length : Int)]) (hi : ∀ x, ((wipe σ [j]).set j (some x))[i]? = some (some (.ref q))) (hj : ∀ x, ((wipe σ [j]).set j (some x))[j]? = some (some x)) (hw : ∀ x, wipe ((wipe σ [j]).set j (some x)) [j] = wipe σ [j])
    (hq : H q = some (.lst xs)) (r : AtSs H xs ss) (ok : ∀ s ∈ ss, okSp s) (hl : ss.length ≤ 1000) :
    EvSs (tLc (iRng1 tas) (gName j) (tTest (tOp (rNinA K) (tOp (rIxA K) (tVar i) (tVar j)) (tSl (rSlA K) (tVar i) tNoPart (tPart (tVar j))))) (tOp (rIxA K) (tVar i) (tVar j)) [j]) σ H (once ss) := fun H0 e Q k => by
  refine h0 H0 e _ fun H1 e1 => ⟨(xs.length : Int), rfl, by rw [r.1]; omega, by rw [r.1]; omega, fun Dl hD => ?_⟩
  have E1 := e.trans e1
  refine lc_range (lo := 0) (n := xs.length) (fun m H' => Ex H1 H' ∧ ∃ vs, H' Dl = some (.lst vs) ∧ AtSs H' vs (once (ss.take m))) ⟨Ex.new hD, [], upd_same, rfl, fun i s z => by simp [once] at z⟩ (fun m H' hm p => ?_) fun H' ⟨p1, vs, p2, p3⟩ => ?_
  · obtain ⟨p1, vs, p2, p3⟩ := p
    show wipe ((wipe σ [j]).set j (some (.int ((0 : Int) + (m : Int))))) [j] = wipe σ [j] ∧ _
    rw [Int.zero_add]
    have E2 := E1.trans p1
    have hm' : m < xs.length := hm
    obtain ⟨s, hs, as⟩ := (r.tup (.of_ex E2)).at (List.getElem?_eq_getElem hm')
    have okm : ∀ x ∈ ss.take m, okSp x := fun x hx => ok x (List.mem_of_mem_take hx)
    have ix : Ev (tOp (rIxA K) (tVar i) (tVar j)) ((wipe σ [j]).set j (some (.int (m : Int)))) H' xs[m] := ev_op (ev_var (hi _)) (ev_var (hj _)) (rv_itL (SqL.of (E2 _ _ hq)) (atI_nat (List.getElem?_eq_getElem hm')))
    have sl : EvL (tSl (rSlA K) (tVar i) tNoPart (tPart (tVar j))) ((wipe σ [j]).set j (some (.int (m : Int)))) H' (xs.take m) := by
      have := el_slA (K := K) (σ := (wipe σ [j]).set j (some (.int (m : Int)))) (H := H') (ev_var (hi _)) eo_none (eo_some (ev_var (hj _))) (SqL.of (E2 _ _ hq))
      rwa [cut_take] at this
    have tk : ss.take (m + 1) = ss.take m ++ [s] := by rw [List.take_add_one, hs]; rfl
    have lv : vs.length ≤ 1000 := by
      have := once_len (ss.take m)
      rw [List.length_take] at this
      have := p3.1
      omega
    refine ⟨hw _, et_test (ev_ninSL ix as sl ((r.tup (.of_ex E2)).take m) (ok s (List.mem_of_getElem? hs)) okm) H' (Ex.refl H') _ fun H3 e3 => ?_⟩
    by_cases hn : s ∈ once (ss.take m)
    · have hn' := once_mem hn
      rw [decide_eq_true hn']
      refine (if_neg (by decide)).mpr ⟨p1.trans e3, vs, e3 _ _ p2, ?_⟩
      rw [tk, once_snoc, if_pos hn]
      exact p3.tup (.of_ex e3)
    · have hn' : s ∉ ss.take m := fun z => hn (once_all z)
      rw [decide_eq_false hn']
      refine (if_pos rfl).mpr (ix.mono e3 H3 (Ex.refl H3) _ fun H4 e4 => ⟨vs, (e3.trans e4) _ _ p2, sz_lt (by omega), Ex.mut (p1.trans (e3.trans e4)) hD, _, upd_same, ?_⟩)
      rw [tk, once_snoc, if_neg hn]
      have tt : Tup H' (L2.upd H4 Dl (.lst (vs ++ [xs[m]]))) := ((Imk.of (e3.trans e4)).trans (Imk.upd ((e3.trans e4) _ _ p2) fun z => z)).tup
      exact (p3.tup tt).snoc (as.tup tt)
  · rw [r.1, List.take_length] at p3
    exact k Dl vs H' (fresh_back e1 hD) (e1.trans p1) p2 p3
theorem q_call2 {sp : Sp} {tas : TA} {vs : List V} {a b : Nat} (h : EvA tas σ H vs) (k : ∀ H1, Ex H H1 → sp vs H1 (fun v H2 => gTup K 2 (gCons (gName a) (gCons (gName b) gNil)) v σ H2 fun σ2 H3 => tz D σ2 H3) (E σ)) :
    tSeq (tAsg (tCallS sp E tas) (gTup K 2 (gCons (gName a) (gCons (gName b) gNil)))) tz D σ H := h H (Ex.refl H) _ k
theorem x_tupU {Q : VK} (h : ta σ H fun x H1 => tb σ H1 fun y H2 => [x, y].length ≤ sizeLine ∧ ∀ p, H2 p = none → Q (.ref p) (upd H2 p (.tup [x, y]))) : tTup (tCons ta (tCons tb tNil)) σ H Q := h
theorem x_c {v : V} {Q : VK} (h : Q v H) : tC v σ H Q := h
/-- return ((x, y), z) -/
theorem s_ret2 {x y z : V} (h1 : Ev t1 σ H x) (h2 : Ev t2 σ H y) (h3 : Ev t3 σ H z) (k : ∀ a b H1, Ex H H1 → H1 a = some (.tup [.ref b, z]) → H1 b = some (.tup [x, y]) → D.rt (.ref a) H1) : tRet (tTup (tCons (tTup (tCons t1 (tCons t2 tNil))) (tCons t3 tNil))) D σ H :=
  x_tupU (Q := D.rt) <| eu_tup (ea_cons h1 (ea_cons h2 ea_nil)) (show 2 ≤ 100000 by decide) H (Ex.refl H) _ fun b H1 _ e1 g1 => h3 H1 e1 _ fun H2 e2 => ⟨sz_of (show 2 ≤ 100000 by decide), fun a ha => k a b _ ((e1.trans e2).trans (Ex.new ha)) upd_same ((Ex.new ha) _ _ (e2 _ _ g1))⟩
/-- a test of what stands in the world -/
theorem ev_eqW {u v : V} {x y : Val} (h1 : Ev ta σ H u) (r1 : Vt H u (dV x)) (h2 : Ev tb σ H v) (r2 : Vt H v (dV y)) (o1 : okV x) (o2 : okV y) : Ev (tOp (rEqA K) ta tb) σ H (.bl (decide (x = y))) :=
  ev_is (ev_eqD (ed_ev h1 r1.dt) (ed_ev h2 r2.dt) (val_okD o1.val) (val_okD o2.val)) (by rw [eqv_dV o1 o2])
theorem et_tupW {u : V} {x : Val} (h : Ev ta σ H u) (r : Vt H u (dV x)) : EvT (tB (tCB (rIsiA K) (tCons ta (tCons (tC (.ty "tuple")) tNil)))) σ H (isFltV x) :=
  et_is (et_B (ev_isi h (vt_ty r))) (by cases x <;> rfl)
theorem atSs1 {x : V} {s : Spot} (h : AtS H x s) : AtSs H [x] [s] := ⟨rfl, fun i s' hs => by
  cases i with
  | zero => cases hs; exact ⟨x, rfl, h⟩
  | succ i => simp at hs⟩
/-- seen = [a spot] -/
theorem q_spot1 {s : Spot} {i : Nat} (h1 : Ev t1 σ H (.str s.1)) (h2 : Ev t2 σ H (.str s.2.1)) (h3 : Ev t3 σ H (.int s.2.2)) (k : ∀ p x H1, H p = none → Ex H H1 → H1 p = some (.lst [x]) → AtS H1 x s → tz D (σ.set i (some (.ref p))) H1) :
    tSeq (tAsg (tLst (tCons (tTup (tCons t1 (tCons t2 (tCons t3 tNil)))) tNil)) (gName i)) tz D σ H :=
  x_lst1 (Q := fun v H1 => tz D (σ.set i (some v)) H1) <| eu_tup (ea_cons h1 (ea_cons h2 (ea_cons h3 ea_nil))) (show 3 ≤ 100000 by decide) H (Ex.refl H) _ fun a H1 _ e1 g1 => ⟨sz_of (show 1 ≤ 100000 by decide), fun p hp => k p (.ref a) _ (fresh_back e1 hp) (e1.trans (Ex.new hp)) upd_same ⟨a, rfl, (Ex.new hp) _ _ g1⟩⟩
/-- return (u, seen + more) -/
theorem s_retApp {u : V} {q q2 : Addr} {xs ys : List V} (h1 : Ev t1 σ H u) (h2 : Ev t2 σ H (.ref q)) (hq : H q = some (.lst xs)) (h3 : Ev t3 σ H (.ref q2)) (hq2 : H q2 = some (.lst ys)) (hl : xs.length + ys.length ≤ 100000)
    (k : ∀ a y H1, Ex H H1 → H1 a = some (.tup [u, .ref y]) → H1 y = some (.lst (xs ++ ys)) → D.rt (.ref a) H1) : tRet (tTup (tCons t1 (tCons (tOp (rAddA K) t2 t3) tNil))) D σ H :=
  x_tupU (Q := D.rt) <| h1 H (Ex.refl H) _ fun H1 e1 => x_op <| h2 H1 e1 _ fun H2 e2 => h3 H2 (e1.trans e2) _ fun H3 e3 => .inr (.inr (.inl ⟨q, q2, xs, ys, rfl, rfl, ((e1.trans e2).trans e3) _ _ hq, ((e1.trans e2).trans e3) _ _ hq2, sz_of hl, fun y hy => ⟨sz_of (show 2 ≤ 100000 by decide), fun a ha =>
    k a y _ ((((e1.trans e2).trans e3).trans (Ex.new hy)).trans (Ex.new ha)) upd_same ((Ex.new ha) _ _ upd_same)⟩⟩))
/-- return (("value", ("fault", "lacks")), z) -/
theorem s_retLacks {z : V} {w : Str} (h3 : Ev t3 σ H z) (k : ∀ a b H1, Ex H H1 → H1 a = some (.tup [.ref b, z]) → Told H1 (.ref b) (.val (.inr w)) → D.rt (.ref a) H1) :
    tRet (tTup (tCons (tTup (tCons (tC (.str "value")) (tCons (tTup (tCons (tC (.str "fault")) (tCons (tC (.str w)) tNil))) tNil))) (tCons t3 tNil))) D σ H :=
  x_tupU (Q := D.rt) <| x_tupU (ta := tC (.str "value")) <| x_c <| eu_tup (ea_cons ev_c (ea_cons ev_c ea_nil)) (show 2 ≤ 100000 by decide) H (Ex.refl H) _ fun c H1 _ e1 g1 => ⟨sz_of (show 2 ≤ 100000 by decide), fun b hb => h3 _ (e1.trans (Ex.new hb)) _ fun H2 e2 => ⟨sz_of (show 2 ≤ 100000 by decide), fun a ha =>
    k a b _ (((e1.trans (Ex.new hb)).trans e2).trans (Ex.new ha)) upd_same ⟨b, .ref c, rfl, (Ex.new ha) _ _ (e2 _ _ upd_same), .flt ((Ex.new ha) _ _ (e2 _ _ ((Ex.new hb) _ _ g1)))⟩⟩⟩
theorem atSs_app {xs ys : List V} {ss tt : List Spot} (h : AtSs H xs ss) (g : AtSs H ys tt) : AtSs H (xs ++ ys) (ss ++ tt) := ⟨by rw [List.length_append, List.length_append, h.1, g.1], fun i s hs => by
  by_cases hl : i < ss.length
  · rw [List.getElem?_append_left hl] at hs
    rw [List.getElem?_append_left (by rw [h.1]; exact hl)]
    exact h.2 i s hs
  · rw [List.getElem?_append_right (by omega)] at hs
    rw [List.getElem?_append_right (by rw [h.1]; omega), h.1]
    exact g.2 _ s hs⟩
end
end Z

set_option Elab.async false
set_option linter.all false
set_option autoImplicit false
set_option maxRecDepth 100000
set_option maxHeartbeats 4000000
/-! ev: what an expression comes to, by its form -/
local macro_rules | `(tactic| k_places) => `(tactic| (repeat' (first
  | (with_reducible exact ev_c)
  | (with_reducible exact ev_var rfl)
  | (with_reducible refine ev_chainLL ?_ ?_ ?_)
  | (with_reducible refine ev_chainLt ?_ ?_ ?_)
  | (with_reducible refine ev_op ?_ ?_ ?_)
  | (with_reducible refine ev_neg ?_)
  | (with_reducible refine et_test ?_)
  | (with_reducible refine et_B ?_)
  | (with_reducible refine et_not ?_)
  | (with_reducible refine et_and ?_ (fun _ => ?_))
  | (with_reducible refine et_or ?_ (fun _ => ?_))
  | (with_reducible refine ev_andV ?_ (fun _ => ?_))
  | (with_reducible refine ev_orV ?_ (fun _ => ?_))
  | (with_reducible refine ev_notV ?_)
  | (with_reducible exact rv_addI)
  | (with_reducible exact rv_subI)
  | (with_reducible exact rv_lt)
  | (with_reducible exact rv_le)
  | (with_reducible exact rv_gt)
  | (with_reducible exact rv_ge)
  | (with_reducible exact rv_isB)
  | (with_reducible exact rv_isnB)
  | (with_reducible exact rv_isN)
  | (with_reducible exact rv_isnN)
  | (with_reducible exact rv_eqS rfl)
  | (with_reducible exact rv_neS rfl)
  | (with_reducible exact rv_inStr)
  | (with_reducible exact rv_ninStr)
  | (with_reducible exact rv_mod (by first | decide | omega | assumption))
  | (with_reducible exact rv_div (by first | decide | omega | assumption))
  | (with_reducible exact rv_pow (by decide))
  | (with_reducible refine ed_i ?_; done)
  | (with_reducible exact ea_nil)
  | (with_reducible refine ea_cons ?_ ?_)
  | (with_reducible exact eds_nil)
  | (with_reducible refine eds_cons ?_ ?_)
  | (with_reducible exact ed_dnew)
  | (with_reducible refine ed_lst ?_ (by simp only [List.length_cons, List.length_nil]; omega))
  | (with_reducible refine ed_tup ?_ (by simp only [List.length_cons, List.length_nil]; omega)))))
namespace Z
open PySem PySem.Spec PyProof.Rows L2 Evl NdefX LamX
/-! ### pairs of texts -/
abbrev Pt := Str × Str
def dP (s : Pt) : PyData := .tuple [.str s.1, .str s.2]
def AtP (H : Hp) (v : V) (s : Pt) : Prop := ∃ a, v = .ref a ∧ H a = some (.tup [.str s.1, .str s.2])
def AtPs (H : Hp) (vs : List V) (ss : List Pt) : Prop := vs.length = ss.length ∧ ∀ (i : Nat) (s : Pt), ss[i]? = some s → ∃ v, vs[i]? = some v ∧ AtP H v s
theorem AtP.tup {H H' : Hp} {v : V} {s : Pt} (e : Tup H H') (h : AtP H v s) : AtP H' v s := let ⟨a, e1, e2⟩ := h; ⟨a, e1, e a _ e2⟩
theorem AtPs.tup {H H' : Hp} {vs : List V} {ss : List Pt} (e : Tup H H') (h : AtPs H vs ss) : AtPs H' vs ss := ⟨h.1, fun i s q => let ⟨v, a, b⟩ := h.2 i s q; ⟨v, a, b.tup e⟩⟩
theorem AtPs.snoc {H : Hp} {vs : List V} {ss : List Pt} {v : V} {s : Pt} (h : AtPs H vs ss) (k : AtP H v s) : AtPs H (vs ++ [v]) (ss ++ [s]) := by
  refine ⟨by simp [h.1], fun i t q => ?_⟩
  by_cases hi : i < ss.length
  · rw [List.getElem?_append_left hi] at q
    obtain ⟨w, a, b⟩ := h.2 i t q
    exact ⟨w, (List.getElem?_append_left (by rw [h.1]; exact hi)).trans a, b⟩
  · rw [List.getElem?_append_right (by omega)] at q
    have e : i = ss.length := by
      have := (List.getElem?_eq_some_iff.mp q).1
      simp at this
      omega
    subst e
    rw [Nat.sub_self] at q
    cases q
    exact ⟨v, by rw [← h.1, List.getElem?_append_right (Nat.le_refl _), Nat.sub_self]; rfl, k⟩
theorem AtPs.at {H : Hp} {vs : List V} {ss : List Pt} {i : Nat} {v : V} (h : AtPs H vs ss) (q : vs[i]? = some v) : ∃ s, ss[i]? = some s ∧ AtP H v s := by
  have hi : i < ss.length := by rw [← h.1]; exact (List.getElem?_eq_some_iff.mp q).1
  obtain ⟨s, hs⟩ : ∃ s, ss[i]? = some s := ⟨_, List.getElem?_eq_getElem hi⟩
  obtain ⟨w, a, b⟩ := h.2 i s hs
  rw [q] at a
  cases a
  exact ⟨s, hs, b⟩

def okP (s : Pt) : Prop := okS s.1 ∧ okS s.2
theorem eqv_dP (s t : Pt) : PyData.eqv (dP s) (dP t) = decide (s = t) := by
  show ((s.1 == t.1) && ((s.2 == t.2) && true)) = _
  rw [Bool.and_true]
  by_cases h : s = t
  · subst h
    simp
  · rw [decide_eq_false h]
    cases q : ((s.1 == t.1) && (s.2 == t.2)) with
    | false => rfl
    | true =>
      simp only [Bool.and_eq_true, beq_iff_eq] at q
      exact (h (Prod.ext q.1 q.2)).elim
theorem any_dP (s : Pt) (ss : List Pt) : ((ss.map dP).any fun z => PyData.eqv z (dP s)) = decide (s ∈ ss) := by
  induction ss with
  | nil => rfl
  | cons x r ih =>
    rw [List.map_cons, List.any_cons, ih, eqv_dP]
    by_cases h : x = s
    · subst h; simp
    · have : ¬ s = x := fun e => h e.symm
      simp [h, this]
theorem okD_dP {s : Pt} (h : okP s) : okD (dP s) := by
  show okN 10 (.tuple _)
  simp only [okN, okNs, and_true]
  exact ⟨h.1, h.2⟩
theorem okN_dP {s : Pt} (h : okP s) : okN 9 (dP s) := by
  show okN 9 (.tuple _)
  simp only [okN, okNs, and_true]
  exact ⟨h.1, h.2⟩
theorem okD_dPs {ss : List Pt} (h : ∀ s ∈ ss, okP s) : okD (.list (ss.map dP)) := by
  show okN 10 (.list _)
  rw [okN, okNs_iff]
  intro d hd
  obtain ⟨s, hs, rfl⟩ := List.mem_map.mp hd
  exact okN_dP (h s hs)
theorem AtP.dt {H : Hp} {v : V} {s : Pt} (h : AtP H v s) : Dt H v (dP s) := by
  obtain ⟨a, rfl, h⟩ := h
  exact .tup h (.cons (.str _) (.cons (.str _) .nil))
theorem AtPs.dt {H : Hp} : ∀ {vs : List V} {ss : List Pt}, AtPs H vs ss → DtAll H vs (ss.map dP)
  | [], [], _ => .nil
  | [], _ :: _, h => by have := h.1; simp at this
  | _ :: _, [], h => by have := h.1; simp at this
  | v :: vs, s :: ss, h => by
    obtain ⟨w, a, b⟩ := h.2 0 s rfl
    cases a
    exact .cons b.dt (AtPs.dt ⟨by have := h.1; simpa using this, fun i t ht => by
      obtain ⟨w, a, b⟩ := h.2 (i + 1) t (by simpa using ht)
      exact ⟨w, by simpa using a, b⟩⟩)
/-- in the order of their first coming -/
def onceP (l : List Pt) : List Pt := l.foldl (fun acc s => if s ∈ acc then acc else acc ++ [s]) []
theorem onceP_snoc (l : List Pt) (s : Pt) : onceP (l ++ [s]) = if s ∈ onceP l then onceP l else onceP l ++ [s] := by
  unfold onceP
  rw [List.foldl_append]
  rfl
theorem onceP_mem {l : List Pt} {s : Pt} (h : s ∈ onceP l) : s ∈ l := by
  have : ∀ (l : List Pt) (acc : List Pt), s ∈ l.foldl (fun acc s => if s ∈ acc then acc else acc ++ [s]) acc → s ∈ acc ∨ s ∈ l := by
    intro l
    induction l with
    | nil => intro acc h; exact .inl h
    | cons x r ih =>
      intro acc h
      rcases ih _ h with z | z
      · dsimp only at z
        split at z
        · exact .inl z
        · rcases List.mem_append.mp z with z | z
          · exact .inl z
          · exact .inr (by rw [List.mem_singleton.mp z]; exact List.mem_cons_self)
      · exact .inr (List.mem_cons_of_mem _ z)
  rcases this l [] h with z | z
  · simp at z
  · exact z
theorem onceP_len (l : List Pt) : (onceP l).length ≤ l.length := by
  have : ∀ (l : List Pt) (acc : List Pt), (l.foldl (fun acc s => if s ∈ acc then acc else acc ++ [s]) acc).length ≤ acc.length + l.length := by
    intro l
    induction l with
    | nil => intro acc; simp
    | cons x r ih =>
      intro acc
      have := ih (if x ∈ acc then acc else acc ++ [x])
      rw [List.foldl_cons, List.length_cons]
      refine Nat.le_trans this ?_
      split
      · omega
      · rw [List.length_append]
        simp only [List.length_cons, List.length_nil]
        omega
  have h2 := this l []
  rw [List.length_nil, Nat.zero_add] at h2
  exact h2

theorem onceP_all {l : List Pt} {s : Pt} (h : s ∈ l) : s ∈ onceP l := by
  have keep : ∀ (l : List Pt) (acc : List Pt), s ∈ acc → s ∈ l.foldl (fun acc s => if s ∈ acc then acc else acc ++ [s]) acc := by
    intro l
    induction l with
    | nil => intro acc h; exact h
    | cons x r ih =>
      intro acc h
      refine ih _ ?_
      dsimp only
      split
      · exact h
      · exact List.mem_append.mpr (.inl h)
  have : ∀ (l : List Pt) (acc : List Pt), s ∈ l → s ∈ l.foldl (fun acc s => if s ∈ acc then acc else acc ++ [s]) acc := by
    intro l
    induction l with
    | nil => intro acc h; cases h
    | cons x r ih =>
      intro acc h
      rcases List.mem_cons.mp h with z | z
      · subst z
        refine keep r _ ?_
        dsimp only
        split
        · assumption
        · exact List.mem_append.mpr (.inr List.mem_cons_self)
      · exact ih _ z
  exact this l [] h
section
variable {K : PySem.W.Frag} {σ : L2.St} {H H' : Hp} {te tl ta tb tc tx t1 t2 t3 : TE} {D : Ends} {tz : TS} {E : L2.St → XK} {Q : VK}
theorem ev_ninP {v : V} {s : Pt} {ss : List Pt} {p : Addr} {xs : List V} (h1 : Ev ta σ H v) (r1 : AtP H v s) (h2 : Ev tb σ H (.ref p)) (hp : H p = some (.lst xs)) (r2 : AtPs H xs ss) (o1 : okP s) (o2 : ∀ x ∈ ss, okP x) : Ev (tOp (rNinA K) ta tb) σ H (.bl (!decide (s ∈ ss))) := fun H1 e Q q =>
  h1 H1 e _ fun H2 e2 => h2 H2 (e.trans e2) _ fun H3 e3 => by
    have E := (e.trans e2).trans e3
    refine .inr (.inr (.inr ⟨dP s, ss.map dP, ((r1.tup (.of_ex E)).dt).dp (okD_dP o1).nd, (Dt.lst (E _ _ hp) (r2.tup (.of_ex E)).dt).dp (okD_dPs o2).nd, (okD_dP o1).shaped, (okD_dPs o2).shaped, ?_⟩))
    rw [any_dP]
    exact q H3 (e2.trans e3)
theorem ev_nePs {ss : List Pt} (h1 : EvD ta σ H (.list (ss.map dP))) (h2 : EvD tb σ H (.list (ss.map dP))) (o : ∀ x ∈ ss, okP x) : Ev (tOp (rNeA K) ta tb) σ H (.bl false) :=
  ev_is (ev_neD h1 h2 (okD_dPs o) (okD_dPs o)) (by rw [eqv_self (okD_dPs o)]; rfl)
theorem ed_pts {p : Addr} {xs : List V} {ss : List Pt} (h : Ev ta σ H (.ref p)) (hp : H p = some (.lst xs)) (r : AtPs H xs ss) : EvD ta σ H (.list (ss.map dP)) := ed_ev h (.lst hp r.dt)

def EvPs (te : TE) (σ : L2.St) (H : Hp) (ss : List Pt) : Prop := ∀ H1, Ex H H1 → ∀ Q : VK, (∀ p xs H2, H1 p = none → Ex H1 H2 → H2 p = some (.lst xs) → AtPs H2 xs ss → Q (.ref p) H2) → te σ H1 Q

theorem er_pt {t1 t2 : TE} {s : Pt} (h1 : Ev t1 σ H (.str s.1)) (h2 : Ev t2 σ H (.str s.2)) : EvR (tTup (tCons t1 (tCons t2 tNil))) σ H (fun v H => AtP H v s) := fun H1 e Q q =>
  eu_tup (ea_cons h1 (ea_cons h2 ea_nil)) (show 2 ≤ 100000 by decide) H1 e Q fun p H2 _ e2 h2 => q _ H2 e2 ⟨p, rfl, h2⟩
theorem atPs_of {vs : List V} {ss : List Pt} (hl : vs.length = ss.length) (h : ∀ (i : Nat) (v : V), vs[i]? = some v → ∃ s, ss[i]? = some s ∧ AtP H v s) : AtPs H vs ss := ⟨hl, fun i s q => by
  obtain ⟨v, hv⟩ : ∃ v, vs[i]? = some v := ⟨_, List.getElem?_eq_getElem (by rw [hl]; exact (List.getElem?_eq_some_iff.mp q).1)⟩
  obtain ⟨s', a, b⟩ := h i v hv
  rw [q] at a
  cases a
  exact ⟨v, hv, b⟩⟩
/-- [(.., name, ..) for name in a list of texts] -/
theorem es_lcP {a : Addr} {zs : List Str} {j : Nat} {ls : List Nat} (f : Str → Pt) (h : Ev tl σ H (.ref a)) (hx : SqL K H a (zs.map V.str)) (hz : zs.length ≤ 40000) (hw : ∀ x, wipe ((wipe σ ls).set j (some x)) ls = wipe σ ls)
    (he : ∀ (z : Str) H1, Ex H H1 → z ∈ zs → EvR te ((wipe σ ls).set j (some (.str z))) H1 (fun v H => AtP H v (f z))) : EvPs (tLc (iList K tl) (gName j) tYes te ls) σ H (zs.map f) := fun H0 e Q q => by
  refine er_lcL (R := fun i v H => ∃ z, zs[i]? = some z ∧ AtP H v (f z)) (fun i v H H' ⟨z, a, b⟩ im => ⟨z, a, b.tup im.tup⟩) (h.mono e) (ex_l e hx) (by rw [List.length_map]; exact hz) hw (fun i x H1 e1 hi => ?_) fun p ys H1 hp e1 h1 hl hr => q p ys H1 hp e1 h1 (atPs_of (by rw [hl, List.length_map, List.length_map]) fun i v hv => ?_)
  · rw [List.getElem?_map] at hi
    cases hz' : zs[i]? with
    | none => rw [hz'] at hi; cases hi
    | some z =>
      rw [hz'] at hi
      cases hi
      intro H2 e2 Q2 q2
      exact he z H1 (e.trans e1) (List.mem_of_getElem? hz') H2 e2 Q2 fun v H3 e3 r => q2 v H3 e3 ⟨z, rfl, r⟩
  · obtain ⟨z, a, b⟩ := hr i v hv
    exact ⟨f z, by rw [List.getElem?_map, a]; rfl, b⟩

/-- [a spot] + a list of spots -/
theorem es_consP {tb : TE} {s : Pt} {ss : List Pt} {q : Addr} {xs : List V} (h : EvR te σ H (fun v H => AtP H v s)) (hb : Ev tb σ H (.ref q)) (hq : H q = some (.lst xs)) (r : AtPs H xs ss) (hl : ss.length ≤ 10000) : EvPs (tOp (rAddA K) (tLst (tCons te tNil)) tb) σ H (s :: ss) := fun H1 e Q k =>
  h H1 e _ fun u H2 e2 hu => ⟨sz_of (show 1 ≤ 100000 by decide), fun b hn => hb _ (e.trans (e2.trans (Ex.new hn))) _ fun H3 e3 => .inr (.inr (.inl ⟨b, q, [u], xs, rfl, rfl, e3 _ _ upd_same, (e.trans ((e2.trans (Ex.new hn)).trans e3)) _ _ hq, sz_of (by rw [r.1]; show 1 + ss.length ≤ 100000; omega), fun d hd => by
    have e5 : Ex H1 (L2.upd H3 d (.lst ([u] ++ xs))) := ((e2.trans (Ex.new hn)).trans e3).trans (Ex.new hd)
    refine k d _ _ (fresh_back ((e2.trans (Ex.new hn)).trans e3) hd) e5 upd_same ⟨by simp [r.1], fun i s' hs => ?_⟩
    cases i with
    | zero =>
      cases hs
      exact ⟨u, rfl, hu.tup (.of_ex (((Ex.new hn).trans e3).trans (Ex.new hd)))⟩
    | succ i =>
      obtain ⟨v, v1, v2⟩ := (r.tup (.of_ex (e.trans e5))).2 i s' (by simpa using hs)
      exact ⟨v, by simpa using v1, v2⟩⟩))⟩
theorem q_asgPs {i : Nat} {ss : List Pt} (h : EvPs te σ H ss) (k : ∀ p xs H1, H p = none → Ex H H1 → H1 p = some (.lst xs) → AtPs H1 xs ss → tz D (σ.set i (some (.ref p))) H1) : tSeq (tAsg te (gName i)) tz D σ H := h H (Ex.refl H) _ k

theorem AtPs.take {vs : List V} {ss : List Pt} (r : AtPs H vs ss) (i : Nat) : AtPs H (vs.take i) (ss.take i) := ⟨by rw [List.length_take, List.length_take, r.1], fun j s hs => by
  rw [List.getElem?_take] at hs ⊢
  split at hs
  · rename_i h
    rw [if_pos h]
    exact r.2 j s hs
  · cases hs⟩
theorem ev_ninPL {v : V} {s : Pt} {ss : List Pt} {xs : List V} (h1 : Ev ta σ H v) (r1 : AtP H v s) (h2 : EvL tb σ H xs) (r2 : AtPs H xs ss) (o1 : okP s) (o2 : ∀ x ∈ ss, okP x) : Ev (tOp (rNinA K) ta tb) σ H (.bl (!decide (s ∈ ss))) := fun H1 e Q q =>
  h1 H1 e _ fun H2 e2 => h2 H2 (e.trans e2) _ fun p H3 _ e3 hp => by
    have E := (e.trans e2).trans e3
    refine .inr (.inr (.inr ⟨dP s, ss.map dP, ((r1.tup (.of_ex E)).dt).dp (okD_dP o1).nd, (Dt.lst hp (r2.tup (.of_ex E)).dt).dp (okD_dPs o2).nd, (okD_dP o1).shaped, (okD_dPs o2).shaped, ?_⟩))
    rw [any_dP]
    exact q H3 (e2.trans e3)
/-- [seen[k] for k in range(len(seen)) if seen[k] not in seen[:k]] -/
theorem es_onceP {q : Addr} {xs : List V} {ss : List Pt} {i j : Nat} {tas : TA} (h0 : EvA tas σ H [.int (xs.length : Int)]) (hi : ∀ x, ((wipe σ [j]).set j (some x))[i]? = some (some (.ref q))) (hj : ∀ x, ((wipe σ [j]).set j (some x))[j]? = some (some x)) (hw : ∀ x, wipe ((wipe σ [j]).set j (some x)) [j] = wipe σ [j])
    (hq : H q = some (.lst xs)) (r : AtPs H xs ss) (ok : ∀ s ∈ ss, okP s) (hl : ss.length ≤ 1000) :
    EvPs (tLc (iRng1 tas) (gName j) (tTest (tOp (rNinA K) (tOp (rIxA K) (tVar i) (tVar j)) (tSl (rSlA K) (tVar i) tNoPart (tPart (tVar j))))) (tOp (rIxA K) (tVar i) (tVar j)) [j]) σ H (onceP ss) := fun H0 e Q k => by
  refine h0 H0 e _ fun H1 e1 => ⟨(xs.length : Int), rfl, by rw [r.1]; omega, by rw [r.1]; omega, fun Dl hD => ?_⟩
  have E1 := e.trans e1
  refine lc_range (lo := 0) (n := xs.length) (fun m H' => Ex H1 H' ∧ ∃ vs, H' Dl = some (.lst vs) ∧ AtPs H' vs (onceP (ss.take m))) ⟨Ex.new hD, [], upd_same, rfl, fun i s z => by simp [onceP] at z⟩ (fun m H' hm p => ?_) fun H' ⟨p1, vs, p2, p3⟩ => ?_
  · obtain ⟨p1, vs, p2, p3⟩ := p
    show wipe ((wipe σ [j]).set j (some (.int ((0 : Int) + (m : Int))))) [j] = wipe σ [j] ∧ _
    rw [Int.zero_add]
    have E2 := E1.trans p1
    have hm' : m < xs.length := hm
    obtain ⟨s, hs, as⟩ := (r.tup (.of_ex E2)).at (List.getElem?_eq_getElem hm')
    have okm : ∀ x ∈ ss.take m, okP x := fun x hx => ok x (List.mem_of_mem_take hx)
    have ix : Ev (tOp (rIxA K) (tVar i) (tVar j)) ((wipe σ [j]).set j (some (.int (m : Int)))) H' xs[m] := ev_op (ev_var (hi _)) (ev_var (hj _)) (rv_itL (SqL.of (E2 _ _ hq)) (atI_nat (List.getElem?_eq_getElem hm')))
    have sl : EvL (tSl (rSlA K) (tVar i) tNoPart (tPart (tVar j))) ((wipe σ [j]).set j (some (.int (m : Int)))) H' (xs.take m) := by
      have := el_slA (K := K) (σ := (wipe σ [j]).set j (some (.int (m : Int)))) (H := H') (ev_var (hi _)) eo_none (eo_some (ev_var (hj _))) (SqL.of (E2 _ _ hq))
      rwa [cut_take] at this
    have tk : ss.take (m + 1) = ss.take m ++ [s] := by rw [List.take_add_one, hs]; rfl
    have lv : vs.length ≤ 1000 := by
      have := onceP_len (ss.take m)
      rw [List.length_take] at this
      have := p3.1
      omega
    refine ⟨hw _, et_test (ev_ninPL ix as sl ((r.tup (.of_ex E2)).take m) (ok s (List.mem_of_getElem? hs)) okm) H' (Ex.refl H') _ fun H3 e3 => ?_⟩
    by_cases hn : s ∈ onceP (ss.take m)
    · have hn' := onceP_mem hn
      rw [decide_eq_true hn']
      refine (if_neg (by decide)).mpr ⟨p1.trans e3, vs, e3 _ _ p2, ?_⟩
      rw [tk, onceP_snoc, if_pos hn]
      exact p3.tup (.of_ex e3)
    · have hn' : s ∉ ss.take m := fun z => hn (onceP_all z)
      rw [decide_eq_false hn']
      refine (if_pos rfl).mpr (ix.mono e3 H3 (Ex.refl H3) _ fun H4 e4 => ⟨vs, (e3.trans e4) _ _ p2, sz_lt (by omega), Ex.mut (p1.trans (e3.trans e4)) hD, _, upd_same, ?_⟩)
      rw [tk, onceP_snoc, if_neg hn]
      have tt : Tup H' (L2.upd H4 Dl (.lst (vs ++ [xs[m]]))) := ((Imk.of (e3.trans e4)).trans (Imk.upd ((e3.trans e4) _ _ p2) fun z => z)).tup
      exact (p3.tup tt).snoc (as.tup tt)
  · rw [r.1, List.take_length] at p3
    exact k Dl vs H' (fresh_back e1 hD) (e1.trans p1) p2 p3

theorem atPs_app {xs ys : List V} {ss tt : List Pt} (h : AtPs H xs ss) (g : AtPs H ys tt) : AtPs H (xs ++ ys) (ss ++ tt) := ⟨by rw [List.length_append, List.length_append, h.1, g.1], fun i s hs => by
  by_cases hl : i < ss.length
  · rw [List.getElem?_append_left hl] at hs
    rw [List.getElem?_append_left (by rw [h.1]; exact hl)]
    exact h.2 i s hs
  · rw [List.getElem?_append_right (by omega)] at hs
    rw [List.getElem?_append_right (by rw [h.1]; omega), h.1]
    exact g.2 _ s hs⟩

theorem atPs1 {x : V} {s : Pt} (h : AtP H x s) : AtPs H [x] [s] := ⟨rfl, fun i s' hs => by
  cases i with
  | zero => cases hs; exact ⟨x, rfl, h⟩
  | succ i => simp at hs⟩

end
end Z

set_option Elab.async false
set_option linter.all false
set_option autoImplicit false
set_option maxRecDepth 100000
set_option maxHeartbeats 4000000
/-! ev: what an expression comes to, by its form -/
local macro_rules | `(tactic| k_places) => `(tactic| (repeat' (first
  | (with_reducible exact ev_c)
  | (with_reducible exact ev_var rfl)
  | (with_reducible refine ev_chainLL ?_ ?_ ?_)
  | (with_reducible refine ev_chainLt ?_ ?_ ?_)
  | (with_reducible refine ev_op ?_ ?_ ?_)
  | (with_reducible refine ev_neg ?_)
  | (with_reducible refine et_test ?_)
  | (with_reducible refine et_B ?_)
  | (with_reducible refine et_not ?_)
  | (with_reducible refine et_and ?_ (fun _ => ?_))
  | (with_reducible refine et_or ?_ (fun _ => ?_))
  | (with_reducible refine ev_andV ?_ (fun _ => ?_))
  | (with_reducible refine ev_orV ?_ (fun _ => ?_))
  | (with_reducible refine ev_notV ?_)
  | (with_reducible exact rv_addI)
  | (with_reducible exact rv_subI)
  | (with_reducible exact rv_lt)
  | (with_reducible exact rv_le)
  | (with_reducible exact rv_gt)
  | (with_reducible exact rv_ge)
  | (with_reducible exact rv_isB)
  | (with_reducible exact rv_isnB)
  | (with_reducible exact rv_isN)
  | (with_reducible exact rv_isnN)
  | (with_reducible exact rv_eqS rfl)
  | (with_reducible exact rv_neS rfl)
  | (with_reducible exact rv_inStr)
  | (with_reducible exact rv_ninStr)
  | (with_reducible exact rv_mod (by first | decide | omega | assumption))
  | (with_reducible exact rv_div (by first | decide | omega | assumption))
  | (with_reducible exact rv_pow (by decide))
  | (with_reducible refine ed_i ?_; done)
  | (with_reducible exact ea_nil)
  | (with_reducible refine ea_cons ?_ ?_)
  | (with_reducible exact eds_nil)
  | (with_reducible refine eds_cons ?_ ?_)
  | (with_reducible exact ed_dnew)
  | (with_reducible refine ed_lst ?_ (by simp only [List.length_cons, List.length_nil]; omega))
  | (with_reducible refine ed_tup ?_ (by simp only [List.length_cons, List.length_nil]; omega)))))
namespace Z
open PySem PySem.Spec PyProof.Rows L2 Evl NdefX LamX
/-! ### what rules lean on -/
theorem strs_of {zs : List Str} : ∀ ys : List V, (∀ y ∈ ys, ∃ z ∈ zs, y = .str z) → ∃ ws : List Str, ys = ws.map V.str ∧ ∀ w ∈ ws, w ∈ zs
  | [], _ => ⟨[], rfl, fun w hw => by simp at hw⟩
  | y :: r, h => by
    obtain ⟨z, hz, rfl⟩ := h y List.mem_cons_self
    obtain ⟨ws, a, b⟩ := strs_of r fun y hy => h y (List.mem_cons_of_mem _ hy)
    refine ⟨z :: ws, by rw [a]; rfl, fun w hw => ?_⟩
    rcases List.mem_cons.mp hw with q | q
    · rw [q]; exact hz
    · exact b w q
theorem md_nil {P : Addr → Sp → Prop} : ∀ C sp, (C, sp) ∈ ([] : List (Addr × Sp)) → P C sp := fun _ _ h => by cases h
theorem md_cons {P : Addr → Sp → Prop} {C1 : Addr} {s1 : Sp} {L : List (Addr × Sp)} (h : P C1 s1) (r : ∀ C sp, (C, sp) ∈ L → P C sp) : ∀ C sp, (C, sp) ∈ (C1, s1) :: L → P C sp := fun C sp m => by
  rcases List.mem_cons.mp m with z | z
  · cases z; exact h
  · exact r C sp z
/-- a new list of pairs -/
def RetPs (ps : List Pt) (H : Hp) (Q : VK) : Prop := ∀ p xs H', Ex H H' → H p = none → H' p = some (.lst xs) → AtPs H' xs ps → Q (.ref p) H'
def sp_each_once (K : PySem.W.Frag) : Sp := fun vs H Q _ => ∃ (sp : Addr) (xs : List V) (ps : List Pt), vs = [.ref sp] ∧ H sp = some (.lst xs) ∧ AtPs H xs ps ∧ (∀ s ∈ ps, okP s) ∧ ps.length ≤ 100 ∧ RetPs (onceP ps) H Q
def sp_Cells_leans (K : PySem.W.Frag) (A : Cn → Addr) : Sp := fun vs H Q _ => ∃ (a np : Addr) (zs : List Str) (t : Str), vs = [.ref a, .str t] ∧ Fld H (A .Cells) a "names" (.ref np) ∧ H np = some (.lst (zs.map V.str)) ∧ zs.length ≤ 6 ∧ isName t = true ∧ (∀ z ∈ zs, isName z = true) ∧ RetPs (onceP (zs.map fun z => (t, z))) H Q
def sp_Above_leans (K : PySem.W.Frag) (A : Cn → Addr) : Sp := fun vs H Q _ => ∃ (a np : Addr) (zs : List Str) (t : Str), vs = [.ref a, .str t] ∧ Fld H (A .Above) a "names" (.ref np) ∧ H np = some (.lst (zs.map V.str)) ∧ zs.length ≤ 6 ∧ isName t = true ∧ (∀ z ∈ zs, isName z = true) ∧ RetPs (onceP (zs.map fun z => (t, z))) H Q
def sp_Group_leans (K : PySem.W.Frag) (A : Cn → Addr) : Sp := fun vs H Q _ => ∃ (a : Addr) (t y z : Str), vs = [.ref a, .str t] ∧ Fld H (A .Group) a "key" (.str y) ∧ Fld H (A .Group) a "name" (.str z) ∧ isName t = true ∧ isName y = true ∧ isName z = true ∧ RetPs (onceP [(t, y), (t, z)]) H Q
def sp_Lookup_leans (K : PySem.W.Frag) (A : Cn → Addr) : Sp := fun vs H Q _ => ∃ (a np : Addr) (t x y z : Str) (zs : List Str), vs = [.ref a, .str t] ∧ Fld H (A .Lookup) a "key" (.str x) ∧ Fld H (A .Lookup) a "other" (.str y) ∧ Fld H (A .Lookup) a "theirs" (.str z) ∧ Fld H (A .Lookup) a "names" (.ref np) ∧ H np = some (.lst (zs.map V.str)) ∧ zs.length ≤ 6 ∧
  (isName t = true ∧ isName x = true ∧ isName y = true ∧ isName z = true) ∧ (∀ z ∈ zs, isName z = true) ∧ RetPs (onceP ((t, x) :: (z :: zs).map fun n => (y, n))) H Q
def sp_Mend_leans (K : PySem.W.Frag) (A : Cn → Addr) : Sp := fun vs H Q _ => ∃ (a : Addr) (t z : Str), vs = [.ref a, .str t] ∧ Fld H (A .Mend) a "name" (.str z) ∧ isName t = true ∧ isName z = true ∧ RetPs [(t, z)] H Q
/-- names: "spots", "found", "spot" -/
def t_each_once (K : PySem.W.Frag) (E : XK) : TS :=
  tSeq (tAsg (tLst tNil) (gName 1))
    (tSeq (tFor (iList K (tVar 0)) (gName 2) (tIfS (tTest (tOp (rNinA K) (tVar 2) (tVar 1))) (tDrop (tBM K "list" rAppend (tVar 1) (tCons (tVar 2) tNil))) tNext))
    (tRet (tVar 1)))
/-- names: "self", "table", "name" -/
def t_Cells_leans (K : PySem.W.Frag) (E : XK) : TS :=
  tRet (tCallS (sp_each_once K) (WE (fun cls d _ H => E cls d H)) (tCons (tLc (iList K (tFld K (tVar 0) "names")) (gName 2) tYes (tTup (tCons (tVar 1) (tCons (tVar 2) tNil))) [2]) tNil))
/-- names: "self", "table", "name" -/
def t_Above_leans (K : PySem.W.Frag) (E : XK) : TS :=
  tRet (tCallS (sp_each_once K) (WE (fun cls d _ H => E cls d H)) (tCons (tLc (iList K (tFld K (tVar 0) "names")) (gName 2) tYes (tTup (tCons (tVar 1) (tCons (tVar 2) tNil))) [2]) tNil))
/-- names: "self", "table" -/
def t_Group_leans (K : PySem.W.Frag) (E : XK) : TS :=
  tRet (tCallS (sp_each_once K) (WE (fun cls d _ H => E cls d H)) (tCons (tLst (tCons (tTup (tCons (tVar 1) (tCons (tFld K (tVar 0) "key") tNil))) (tCons (tTup (tCons (tVar 1) (tCons (tFld K (tVar 0) "name") tNil))) tNil))) tNil))
/-- names: "self", "table", "behind", "name" -/
def t_Lookup_leans (K : PySem.W.Frag) (E : XK) : TS :=
  tSeq (tAsg (tLc (iList K (tOp (rAddA K) (tLst (tCons (tFld K (tVar 0) "theirs") tNil)) (tFld K (tVar 0) "names"))) (gName 3) tYes (tTup (tCons (tFld K (tVar 0) "other") (tCons (tVar 3) tNil))) [3]) (gName 2))
    (tRet (tCallS (sp_each_once K) (WE (fun cls d _ H => E cls d H)) (tCons (tOp (rAddA K) (tLst (tCons (tTup (tCons (tVar 1) (tCons (tFld K (tVar 0) "key") tNil))) tNil)) (tVar 2)) tNil)))
/-- names: "self", "table" -/
def t_Mend_leans (K : PySem.W.Frag) (E : XK) : TS :=
  tRet (tLst (tCons (tTup (tCons (tVar 1) (tCons (tFld K (tVar 0) "name") tNil))) tNil))
section
variable {K : PySem.W.Frag} {A : Cn → Addr} {σ : L2.St} {H H' : Hp} {te tl ta tb t1 t2 : TE} {D : Ends} {tz : TS} {E : L2.St → XK}
theorem len_each_once (vs : List V) (H : Hp) (Q : VK) (E : XK) (h : sp_each_once K vs H Q E) : vs.length = 1 := by obtain ⟨_, _, _, rfl, _⟩ := h; rfl
theorem len_Cells_leans (vs : List V) (H : Hp) (Q : VK) (E : XK) (h : sp_Cells_leans K A vs H Q E) : vs.length = 2 := by obtain ⟨_, _, _, _, rfl, _⟩ := h; rfl
theorem len_Above_leans (vs : List V) (H : Hp) (Q : VK) (E : XK) (h : sp_Above_leans K A vs H Q E) : vs.length = 2 := by obtain ⟨_, _, _, _, rfl, _⟩ := h; rfl
theorem len_Group_leans (vs : List V) (H : Hp) (Q : VK) (E : XK) (h : sp_Group_leans K A vs H Q E) : vs.length = 2 := by obtain ⟨_, _, _, _, rfl, _⟩ := h; rfl
theorem len_Lookup_leans (vs : List V) (H : Hp) (Q : VK) (E : XK) (h : sp_Lookup_leans K A vs H Q E) : vs.length = 2 := by obtain ⟨_, _, _, _, _, _, _, rfl, _⟩ := h; rfl
theorem len_Mend_leans (vs : List V) (H : Hp) (Q : VK) (E : XK) (h : sp_Mend_leans K A vs H Q E) : vs.length = 2 := by obtain ⟨_, _, _, rfl, _⟩ := h; rfl
theorem r_each_once (vs : List V) (H : Hp) (Q : VK) (E : XK) (h : sp_each_once K vs H Q E) : t_each_once K E { nx := fun _ H' => Q .non H', rt := Q } (L2.start ["spots", "found", "spot"] vs) H := by
  obtain ⟨sp, xs, ps, rfl, h0, a0, ok, hl, k⟩ := h
  unfold t_each_once
  refine q_asgL (el_lst ea_nil (by decide)) fun q H1 hq e1 h1 => ?_
  refine q_forLn (ev_var rfl) (SqL.of (e1 _ _ h0)) (fun i σ H' => ∃ (x2 : Option V) (ys : List V), σ = [some (.ref sp), some (.ref q), x2] ∧ Ex H H' ∧ H' q = some (.lst ys) ∧ AtPs H' ys (onceP (ps.take i)))
    (fun H2 e2 => ⟨_, [], rfl, e1.trans e2, e2 _ _ h1, rfl, fun i s z => by simp [onceP] at z⟩) (fun i σ H' _ ⟨_, _, _, e, _⟩ => SqL.of (e _ _ h0)) ?_ ?_
  · rintro i x σ H2 hi ⟨x2, ys, rfl, e2, hq2, a2⟩
    obtain ⟨s, hs, as⟩ := (a0.tup (.of_ex e2)).at hi
    have tk : ps.take (i + 1) = ps.take i ++ [s] := by rw [List.take_add_one, hs]; rfl
    have o2 : ∀ x ∈ onceP (ps.take i), okP x := fun x hx => ok x (List.mem_of_mem_take (onceP_mem hx))
    have ly : ys.length ≤ 100 := by
      have := onceP_len (ps.take i)
      rw [List.length_take] at this
      have := a2.1
      omega
    refine s_when (et_test (ev_ninP (ev_var rfl) as (ev_var rfl) hq2 a2 (ok s (List.mem_of_getElem? hs)) o2)) (fun hb H3 e3 => ?_) (fun hb H3 e3 => ?_)
    · have hn : s ∉ onceP (ps.take i) := by simpa using hb
      refine s_app (e3 _ _ hq2) (ev_var rfl) (ev_var rfl) (by omega) fun H4 e4 => ?_
      have e34 := e3.trans e4
      refine ⟨_, _, rfl, Ex.mut (e2.trans e34) hq, upd_same, ?_⟩
      rw [tk, onceP_snoc, if_neg hn]
      have tt : Tup H2 (L2.upd H4 q (.lst (ys ++ [x]))) := ((Imk.of e34).trans (Imk.upd (e34 _ _ hq2) fun z => z)).tup
      exact (a2.tup tt).snoc (as.tup tt)
    · have hn : s ∈ onceP (ps.take i) := by simpa using hb
      refine ⟨_, ys, rfl, e2.trans e3, e3 _ _ hq2, ?_⟩
      rw [tk, onceP_snoc, if_pos hn]
      exact a2.tup (.of_ex e3)
  · rintro σ H2 ⟨x2, ys, rfl, e2, hq2, a2⟩
    rw [a0.1, List.take_length] at a2
    exact s_ret (ev_var rfl) fun H3 e3 => k q ys H3 (e2.trans e3) hq (e3 _ _ hq2) (a2.tup (.of_ex e3))
/-- return each_once(pairs) -/
theorem s_retOnce {ps : List Pt} {Q : VK} (hQ : D.rt = Q) (h : EvPs te σ H ps) (ok : ∀ s ∈ ps, okP s) (hl : ps.length ≤ 100) (k : RetPs (onceP ps) H Q) : tRet (tCallS (sp_each_once K) E (tCons te tNil)) D σ H := by
  subst hQ
  exact h H (Ex.refl H) _ fun p xs H1 _ e1 h1 a1 => ⟨p, xs, ps, rfl, h1, a1, ok, hl, fun q ys H2 e2 hq h2 a2 => k q ys H2 (e1.trans e2) (fresh_back e1 hq) h2 a2⟩
theorem es_lst1P {s : Pt} (h : EvR ta σ H (fun v H => AtP H v s)) : EvPs (tLst (tCons ta tNil)) σ H [s] := fun H1 e Q k =>
  x_lst1 <| h H1 e _ fun v H2 e2 r => ⟨sz_of (show 1 ≤ 100000 by decide), fun p hp => k p [v] _ (fresh_back e2 hp) (e2.trans (Ex.new hp)) upd_same (atPs1 (r.tup (.of_ex (Ex.new hp))))⟩
theorem x_lst2 {Q : VK} (h : ta σ H fun x H1 => tb σ H1 fun y H2 => [x, y].length ≤ sizeLine ∧ ∀ p, H2 p = none → Q (.ref p) (upd H2 p (.lst [x, y]))) : tLst (tCons ta (tCons tb tNil)) σ H Q := h
theorem es_lst2P {s t : Pt} (h1 : EvR ta σ H (fun v H => AtP H v s)) (h2 : EvR tb σ H (fun v H => AtP H v t)) : EvPs (tLst (tCons ta (tCons tb tNil))) σ H [s, t] := fun H1 e Q k =>
  x_lst2 <| h1 H1 e _ fun v H2 e2 r1 => h2 H2 (e.trans e2) _ fun w H3 e3 r2 => ⟨sz_of (show 2 ≤ 100000 by decide), fun p hp => k p [v, w] _ (fresh_back (e2.trans e3) hp) ((e2.trans e3).trans (Ex.new hp)) upd_same ((atPs1 (r1.tup (.of_ex (e3.trans (Ex.new hp))))).snoc (r2.tup (.of_ex (Ex.new hp))))⟩
/-- [(.., name) for name in a new list of texts] -/
theorem es_lcPN {zs : List Str} {j : Nat} {ls : List Nat} (f : Str → Pt) (h : EvL tl σ H (zs.map V.str)) (hz : zs.length ≤ 40000) (hw : ∀ x, wipe ((wipe σ ls).set j (some x)) ls = wipe σ ls)
    (he : ∀ (z : Str) H1, Ex H H1 → z ∈ zs → EvR te ((wipe σ ls).set j (some (.str z))) H1 (fun v H => AtP H v (f z))) : EvPs (tLc (iList K tl) (gName j) tYes te ls) σ H (zs.map f) := fun H0 e Q q => by
  refine er_lcNL (R := fun i v H => ∃ z, zs[i]? = some z ∧ AtP H v (f z)) (fun i v H H' ⟨z, a, b⟩ n => ⟨z, a, b.tup fun x xs e => n _ _ e fun _ z => nomatch z⟩) (fun H1 e1 => h H1 (e.trans e1)) (by rw [List.length_map]; exact hz) hw (fun i x H1 e1 hi => ?_) fun p ys H1 hp e1 h1 hl hr => q p ys H1 hp e1 h1 (atPs_of (by rw [hl, List.length_map, List.length_map]) fun i v hv => ?_)
  · rw [List.getElem?_map] at hi
    cases hz' : zs[i]? with
    | none => rw [hz'] at hi; cases hi
    | some z =>
      rw [hz'] at hi
      cases hi
      intro H2 e2 Q2 q2
      exact he z H1 (e.trans e1) (List.mem_of_getElem? hz') H2 e2 Q2 fun v H3 e3 r => q2 v H3 e3 ⟨z, rfl, r⟩
  · obtain ⟨z, a, b⟩ := hr i v hv
    exact ⟨f z, by rw [List.getElem?_map, a]; rfl, b⟩
theorem okP_map {t : Str} {zs : List Str} (ht : isName t = true) (hz : ∀ z ∈ zs, isName z = true) : ∀ s ∈ zs.map (fun z => (t, z)), okP s := fun s hs => by
  obtain ⟨z, h, rfl⟩ := List.mem_map.mp hs
  exact ⟨name_ok ht, name_ok (hz z h)⟩
theorem r_Cells_leans (fx : ClK K (A .Cells) ["function", "names"]) (vs : List V) (H : Hp) (Q : VK) (E : XK) (h : sp_Cells_leans K A vs H Q E) : t_Cells_leans K E { nx := fun _ H' => Q .non H', rt := Q } (L2.start ["self", "table", "name"] vs) H := by
  obtain ⟨a, np, zs, t, rfl, f1, h1, hl, ht, hz, k⟩ := h
  unfold t_Cells_leans
  exact s_retOnce rfl (es_lcP (fun z => (t, z)) (ev_Fld f1 fx (by decide) (ev_var rfl)) (SqL.of h1) (by omega) (fun _ => rfl) fun z H1 e1 hz => er_pt (s := (t, z)) (ev_var rfl) (ev_var rfl)) (okP_map ht hz) (by rw [List.length_map]; omega) k
theorem r_Above_leans (fx : ClK K (A .Above) ["function", "names", "first"]) (vs : List V) (H : Hp) (Q : VK) (E : XK) (h : sp_Above_leans K A vs H Q E) : t_Above_leans K E { nx := fun _ H' => Q .non H', rt := Q } (L2.start ["self", "table", "name"] vs) H := by
  obtain ⟨a, np, zs, t, rfl, f1, h1, hl, ht, hz, k⟩ := h
  unfold t_Above_leans
  exact s_retOnce rfl (es_lcP (fun z => (t, z)) (ev_Fld f1 fx (by decide) (ev_var rfl)) (SqL.of h1) (by omega) (fun _ => rfl) fun z H1 e1 hz => er_pt (s := (t, z)) (ev_var rfl) (ev_var rfl)) (okP_map ht hz) (by rw [List.length_map]; omega) k
theorem r_Group_leans (fx : ClK K (A .Group) ["function", "key", "name"]) (vs : List V) (H : Hp) (Q : VK) (E : XK) (h : sp_Group_leans K A vs H Q E) : t_Group_leans K E { nx := fun _ H' => Q .non H', rt := Q } (L2.start ["self", "table"] vs) H := by
  obtain ⟨a, t, y, z, rfl, f1, f2, ht, hy, hz, k⟩ := h
  unfold t_Group_leans
  exact s_retOnce rfl (es_lst2P (er_pt (s := (t, y)) (ev_var rfl) (ev_Fld f1 fx (by decide) (ev_var rfl))) (er_pt (s := (t, z)) (ev_var rfl) (ev_Fld f2 fx (by decide) (ev_var rfl)))) (fun s hs => by
    simp only [List.mem_cons, List.mem_nil_iff, or_false] at hs
    rcases hs with rfl | rfl
    · exact ⟨name_ok ht, name_ok hy⟩
    · exact ⟨name_ok ht, name_ok hz⟩) (show 2 ≤ 100 by decide) k
theorem r_Lookup_leans (fx : ClK K (A .Lookup) ["function", "key", "other", "theirs", "names"]) (vs : List V) (H : Hp) (Q : VK) (E : XK) (h : sp_Lookup_leans K A vs H Q E) : t_Lookup_leans K E { nx := fun _ H' => Q .non H', rt := Q } (L2.start ["self", "table", "behind", "name"] vs) H := by
  obtain ⟨a, np, t, x, y, z, zs, rfl, f1, f2, f3, f4, h1, hl, ⟨ht, hx, hy, hz⟩, hzs, k⟩ := h
  unfold t_Lookup_leans
  refine q_asgPs (es_lcPN (zs := z :: zs) (fun n => (y, n)) (el_catR (xs := [.str z]) (ys := zs.map V.str) (el_lst (ea_cons (ev_Fld f3 fx (by decide) (ev_var rfl)) ea_nil) (show 1 ≤ 100000 by decide)) (ev_Fld f4 fx (by decide) (ev_var rfl)) h1 (by rw [List.length_map]; show 1 + zs.length ≤ 100000; omega)) (by show zs.length + 1 ≤ 40000; omega) (fun _ => rfl) fun n H1 e1 hn => er_pt (s := (y, n)) (ev_Fld (f2.ex e1) fx (by decide) (ev_var rfl)) (ev_var rfl)) fun p xs H1 _ e1 p1 a1 => ?_
  refine s_retOnce rfl (es_consP (er_pt (s := (t, x)) (ev_var rfl) (ev_Fld (f1.ex e1) fx (by decide) (ev_var rfl))) (ev_var rfl) p1 a1 (by rw [List.length_map]; show zs.length + 1 ≤ 10000; omega)) (fun s hs => ?_) (by rw [List.length_cons, List.length_map]; show zs.length + 1 + 1 ≤ 100; omega) fun q ys H2 e2 hq h2 a2 => k q ys H2 (e1.trans e2) (fresh_back e1 hq) h2 a2
  rcases List.mem_cons.mp hs with rfl | hs
  · exact ⟨name_ok ht, name_ok hx⟩
  · exact okP_map hy (fun n hn => (List.mem_cons.mp hn).elim (fun e => e ▸ hz) (hzs n)) s hs
theorem r_Mend_leans (fx : ClK K (A .Mend) ["function", "name"]) (vs : List V) (H : Hp) (Q : VK) (E : XK) (h : sp_Mend_leans K A vs H Q E) : t_Mend_leans K E { nx := fun _ H' => Q .non H', rt := Q } (L2.start ["self", "table"] vs) H := by
  obtain ⟨a, t, z, rfl, f1, ht, hz, k⟩ := h
  unfold t_Mend_leans
  exact es_lst1P (er_pt (s := (t, z)) (ev_var rfl) (ev_Fld f1 fx (by decide) (ev_var rfl))) H (Ex.refl H) _ fun p xs H1 hp e1 h1 a1 => k p xs H1 e1 hp h1 a1
/-! ### a rule of one of the five kinds -/
def LR (A : Cn → Addr) (H0 H : Hp) (ru : Addr) (kind : Int) (n0 n1 n2 : Str) (ws : List Str) : Prop :=
  (kind = 0 ∧ ∃ (np dx : Addr) (v : V), H ru = some (.ins (A .Cells) dx [("function", v), ("names", .ref np)]) ∧ H0 np = none ∧ H np = some (.lst (ws.map V.str))) ∨
  (kind = 1 ∧ ∃ (np dx : Addr) (v : V), H ru = some (.ins (A .Above) dx [("function", v), ("names", .ref np), ("first", .int 5)]) ∧ H0 np = none ∧ H np = some (.lst (ws.map V.str))) ∨
  (kind = 2 ∧ ∃ (dx : Addr) (v : V), H ru = some (.ins (A .Group) dx [("function", v), ("key", .str n0), ("name", .str n1)])) ∨
  (kind = 3 ∧ ∃ (np dx : Addr) (v : V), H ru = some (.ins (A .Lookup) dx [("function", v), ("key", .str n0), ("other", .str n1), ("theirs", .str n2), ("names", .ref np)]) ∧ H0 np = none ∧ H np = some (.lst (ws.map V.str))) ∨
  (kind = 4 ∧ ∃ (dx : Addr) (v : V), H ru = some (.ins (A .Mend) dx [("function", v), ("name", .str n0)]))
theorem LR.keep {H0 H1 : Hp} {ru : Addr} {kind : Int} {n0 n1 n2 : Str} {ws : List Str} (h : LR A H0 H ru kind n0 n1 n2 ws) (k : ∀ a o, H a = some o → (H0 a = none ∨ ∀ xs, o ≠ .lst xs) → (∀ ps, o ≠ .tbl ps) → H1 a = some o) : LR A H0 H1 ru kind n0 n1 n2 ws := by
  rcases h with ⟨e, np, dx, v, a, b, c⟩ | ⟨e, np, dx, v, a, b, c⟩ | ⟨e, dx, v, a⟩ | ⟨e, np, dx, v, a, b, c⟩ | ⟨e, dx, v, a⟩
  · exact .inl ⟨e, np, dx, v, k _ _ a (.inr fun _ z => nomatch z) (fun _ z => nomatch z), b, k _ _ c (.inl b) fun _ z => nomatch z⟩
  · exact .inr (.inl ⟨e, np, dx, v, k _ _ a (.inr fun _ z => nomatch z) (fun _ z => nomatch z), b, k _ _ c (.inl b) fun _ z => nomatch z⟩)
  · exact .inr (.inr (.inl ⟨e, dx, v, k _ _ a (.inr fun _ z => nomatch z) (fun _ z => nomatch z)⟩))
  · exact .inr (.inr (.inr (.inl ⟨e, np, dx, v, k _ _ a (.inr fun _ z => nomatch z) (fun _ z => nomatch z), b, k _ _ c (.inl b) fun _ z => nomatch z⟩)))
  · exact .inr (.inr (.inr (.inr ⟨e, dx, v, k _ _ a (.inr fun _ z => nomatch z) (fun _ z => nomatch z)⟩)))
theorem LR.xb {T : List (Addr × Str)} {H0 H1 : Hp} {ru : Addr} {kind : Int} {n0 n1 n2 : Str} {ws : List Str} (h : LR A H0 H ru kind n0 n1 n2 ws) (x : XB T [] H H1) : LR A H0 H1 ru kind n0 n1 n2 ws := h.keep fun a o e _ t => x.k a o e (by simp) t
def dueP (kind : Int) (n0 n1 n2 : Str) (ws : List Str) (t : Str) : List Pt := if kind < 2 then ws.map fun z => (t, z) else if kind = 2 then [(t, n0), (t, n1)] else if kind = 3 then (t, n0) :: (n2 :: ws).map fun z => (n1, z) else [(t, n0)]
theorem duePs {kind : Int} {n0 n1 n2 : Str} {ws : List Str} {t : Str} (ht : isName t = true) (h0 : isName n0 = true) (h1 : isName n1 = true) (h2 : isName n2 = true) (hw : ∀ z ∈ ws, isName z = true) (w6 : ws.length ≤ 6) : (∀ s ∈ dueP kind n0 n1 n2 ws t, okP s) ∧ (dueP kind n0 n1 n2 ws t).length ≤ 8 := by
  unfold dueP
  split
  · exact ⟨okP_map ht hw, by rw [List.length_map]; omega⟩
  · split
    · refine ⟨fun s hs => ?_, show 2 ≤ 8 by decide⟩
      simp only [List.mem_cons, List.mem_nil_iff, or_false] at hs
      rcases hs with rfl | rfl
      · exact ⟨name_ok ht, name_ok h0⟩
      · exact ⟨name_ok ht, name_ok h1⟩
    · split
      · refine ⟨fun s hs => ?_, by rw [List.length_cons, List.length_map]; show ws.length + 1 + 1 ≤ 8; omega⟩
        rcases List.mem_cons.mp hs with rfl | hs
        · exact ⟨name_ok ht, name_ok h0⟩
        · exact okP_map h1 (fun n hn => (List.mem_cons.mp hn).elim (fun e => e ▸ h2) (hw n)) s hs
      · refine ⟨fun s hs => ?_, show 1 ≤ 8 by decide⟩
        rw [List.mem_singleton.mp hs]
        exact ⟨name_ok ht, name_ok h0⟩
abbrev ldL (K : PySem.W.Frag) (A : Cn → Addr) : List (Addr × Sp) := [(A .Cells, sp_Cells_leans K A), (A .Above, sp_Above_leans K A), (A .Group, sp_Group_leans K A), (A .Lookup, sp_Lookup_leans K A), (A .Mend, sp_Mend_leans K A)]
/-- found = rule.leans(table) -/
theorem x_leans {H0 : Hp} {ru : Addr} {kind : Int} {n0 n1 n2 : Str} {ws : List Str} {t : Str} {i j : Nat} {Q : VK} (h : LR A H0 H ru kind n0 n1 n2 ws) (hi : σ[i]? = some (some (.ref ru))) (hj : σ[j]? = some (some (.str t))) (ht : isName t = true) (h0 : isName n0 = true) (h1 : isName n1 = true) (h2 : isName n2 = true) (hw : ∀ z ∈ ws, isName z = true) (w6 : ws.length ≤ 6)
    (k : RetPs (onceP (dueP kind n0 n1 n2 ws t)) H Q) : tMetD (ldL K A) "leans" E (tVar i) (tCons (tVar j) tNil) σ H Q := by
  refine ⟨_, hi, ?_⟩
  rcases h with ⟨rfl, np, dx, v, a, b, c⟩ | ⟨rfl, np, dx, v, a, b, c⟩ | ⟨rfl, dx, v, a⟩ | ⟨rfl, np, dx, v, a, b, c⟩ | ⟨rfl, dx, v, a⟩
  · exact ⟨ru, _, dx, _, _, rfl, .head _, a, rfl, _, hj, ru, np, ws, t, rfl, ⟨dx, _, a, rfl⟩, c, w6, ht, hw, k⟩
  · exact ⟨ru, _, dx, _, _, rfl, .tail _ (.head _), a, rfl, _, hj, ru, np, ws, t, rfl, ⟨dx, _, a, rfl⟩, c, w6, ht, hw, k⟩
  · exact ⟨ru, _, dx, _, _, rfl, .tail _ (.tail _ (.head _)), a, rfl, _, hj, ru, t, n0, n1, rfl, ⟨dx, _, a, rfl⟩, ⟨dx, _, a, rfl⟩, ht, h0, h1, k⟩
  · exact ⟨ru, _, dx, _, _, rfl, .tail _ (.tail _ (.tail _ (.head _))), a, rfl, _, hj, ru, np, t, n0, n1, n2, ws, rfl, ⟨dx, _, a, rfl⟩, ⟨dx, _, a, rfl⟩, ⟨dx, _, a, rfl⟩, ⟨dx, _, a, rfl⟩, c, w6, ⟨ht, h0, h1, h2⟩, hw, k⟩
  · exact ⟨ru, _, dx, _, _, rfl, .tail _ (.tail _ (.tail _ (.tail _ (.head _)))), a, rfl, _, hj, ru, t, n0, rfl, ⟨dx, _, a, rfl⟩, ht, h0, k⟩
end
end Z

set_option Elab.async false
set_option linter.all false
set_option autoImplicit false
set_option maxRecDepth 100000
set_option maxHeartbeats 4000000
/-! ev: what an expression comes to, by its form -/
local macro_rules | `(tactic| k_places) => `(tactic| (repeat' (first
  | (with_reducible exact ev_c)
  | (with_reducible exact ev_var rfl)
  | (with_reducible refine ev_chainLL ?_ ?_ ?_)
  | (with_reducible refine ev_chainLt ?_ ?_ ?_)
  | (with_reducible refine ev_op ?_ ?_ ?_)
  | (with_reducible refine ev_neg ?_)
  | (with_reducible refine et_test ?_)
  | (with_reducible refine et_B ?_)
  | (with_reducible refine et_not ?_)
  | (with_reducible refine et_and ?_ (fun _ => ?_))
  | (with_reducible refine et_or ?_ (fun _ => ?_))
  | (with_reducible refine ev_andV ?_ (fun _ => ?_))
  | (with_reducible refine ev_orV ?_ (fun _ => ?_))
  | (with_reducible refine ev_notV ?_)
  | (with_reducible exact rv_addI)
  | (with_reducible exact rv_subI)
  | (with_reducible exact rv_lt)
  | (with_reducible exact rv_le)
  | (with_reducible exact rv_gt)
  | (with_reducible exact rv_ge)
  | (with_reducible exact rv_isB)
  | (with_reducible exact rv_isnB)
  | (with_reducible exact rv_isN)
  | (with_reducible exact rv_isnN)
  | (with_reducible exact rv_eqS rfl)
  | (with_reducible exact rv_neS rfl)
  | (with_reducible exact rv_inStr)
  | (with_reducible exact rv_ninStr)
  | (with_reducible exact rv_mod (by first | decide | omega | assumption))
  | (with_reducible exact rv_div (by first | decide | omega | assumption))
  | (with_reducible exact rv_pow (by decide))
  | (with_reducible refine ed_i ?_; done)
  | (with_reducible exact ea_nil)
  | (with_reducible refine ea_cons ?_ ?_)
  | (with_reducible exact eds_nil)
  | (with_reducible refine eds_cons ?_ ?_)
  | (with_reducible exact ed_dnew)
  | (with_reducible refine ed_lst ?_ (by simp only [List.length_cons, List.length_nil]; omega))
  | (with_reducible refine ed_tup ?_ (by simp only [List.length_cons, List.length_nil]; omega)))))
namespace Z
open PySem PySem.Spec PyProof.Rows L2 Evl NdefX LamX
/-! ### rules are made -/
section
variable {K : PySem.W.Frag} {A : Cn → Addr} {σ : L2.St} {H H' : Hp} {te tl ta tb tc td t1 t2 : TE} {D : Ends} {tz : TS} {E : L2.St → XK} {Tb : List (Addr × Str)} {mk : Addr → LF} {Q : VK} {sp : Addr} {ws : List Str} {n0 n1 n2 : Str}
theorem back2 {H H1 H2 : Hp} {ru dx np : Addr} {C : Addr} (e1 : Ex H H1) (e2 : ExT Tb H1 H2) (n : upd (upd H2 dx (.own ru)) ru (.ins C dx []) np = none) : H np = none := fresh_back e1 (e2.n _ (upd_no (upd_no n)))
theorem x_mkCells (h : Ev ta σ H (.ref sp)) (hT : Tabs Tb H) (hs : H sp = some (.lst (ws.map V.str))) (hl : ws.length ≤ 6) (hz : ∀ z ∈ ws, isName z = true) (k : ∀ ru H', XB Tb [] H H' → LR A H H' ru 0 n0 n1 n2 ws → Q (.ref ru) H') :
    tMakS (A .Cells) (sp_Cells_init K A) E (tCons ta (tCons (tLamE Tb mk) tNil)) σ H Q :=
  h H (Ex.refl H) _ fun H1 e1 => ⟨hT.ext fun b o e => e1 b o e, fun f c H2 e2 _ _ _ => fun ru dx m1 m2 m3 => by
    have h2 : H2 sp = some (.lst (ws.map V.str)) := e2.e _ _ (e1 _ _ hs) fun _ z => nomatch z
    exact ⟨ru, dx, sp, ws, _, rfl, upd_same, (upd_ne (ne_of_none h2 m1)).trans ((upd_ne (ne_of_none h2 m2)).trans h2), hl, hz, xb_made (Tb := Tb) m1 m2 m3 fun H8 x ⟨rp, r0, r1, r2⟩ => ⟨rfl, k ru H8 (((XB.of e1).trans (XB.ofT e2)).trans x) (.inl ⟨rfl, rp, dx, _, r2, back2 e1 e2 r0, r1⟩)⟩⟩⟩
theorem x_mkAbove (h : Ev ta σ H (.ref sp)) (hT : Tabs Tb H) (hs : H sp = some (.lst (ws.map V.str))) (hl : ws.length ≤ 6) (hz : ∀ z ∈ ws, isName z = true) (k : ∀ ru H', XB Tb [] H H' → LR A H H' ru 1 n0 n1 n2 ws → Q (.ref ru) H') :
    tMakS (A .Above) (sp_Above_init K A) E (tCons (tC (.int 5)) (tCons ta (tCons (tLamE Tb mk) tNil))) σ H Q :=
  h H (Ex.refl H) _ fun H1 e1 => ⟨hT.ext fun b o e => e1 b o e, fun f c H2 e2 _ _ _ => fun ru dx m1 m2 m3 => by
    have h2 : H2 sp = some (.lst (ws.map V.str)) := e2.e _ _ (e1 _ _ hs) fun _ z => nomatch z
    exact ⟨ru, dx, sp, ws, _, 5, rfl, upd_same, (upd_ne (ne_of_none h2 m1)).trans ((upd_ne (ne_of_none h2 m2)).trans h2), hl, hz, by decide +kernel, xb_made (Tb := Tb) m1 m2 m3 fun H8 x ⟨rp, r0, r1, r2⟩ => ⟨rfl, k ru H8 (((XB.of e1).trans (XB.ofT e2)).trans x) (.inr (.inl ⟨rfl, rp, dx, _, r2, back2 e1 e2 r0, r1⟩))⟩⟩⟩
theorem x_mkGroup (h1 : Ev ta σ H (.str n0)) (h2 : Ev tb σ H (.str n1)) (hT : Tabs Tb H) (y1 : isName n0 = true) (y2 : isName n1 = true) (k : ∀ ru H', XB Tb [] H H' → LR A H H' ru 2 n0 n1 n2 ws → Q (.ref ru) H') :
    tMakS (A .Group) (sp_Group_init K A) E (tCons ta (tCons tb (tCons (tLamE Tb mk) tNil))) σ H Q :=
  h1 H (Ex.refl H) _ fun H1 e1 => h2 H1 e1 _ fun H1b e1b => ⟨hT.ext fun b o e => (e1.trans e1b) b o e, fun f c H2 e2 _ _ _ => fun ru dx m1 m2 m3 =>
    ⟨ru, dx, n0, n1, _, rfl, upd_same, y1, y2, xb_made (Tb := Tb) m1 m2 m3 fun H8 x r2 => ⟨rfl, k ru H8 (((XB.of (e1.trans e1b)).trans (XB.ofT e2)).trans x) (.inr (.inr (.inl ⟨rfl, dx, _, r2⟩)))⟩⟩⟩
theorem x_mkLookup (h1 : Ev ta σ H (.str n0)) (h2 : Ev tb σ H (.str n1)) (h3 : Ev tc σ H (.str n2)) (h : Ev td σ H (.ref sp)) (hT : Tabs Tb H) (y1 : isName n0 = true) (y2 : isName n1 = true) (y3 : isName n2 = true) (hs : H sp = some (.lst (ws.map V.str))) (hl : ws.length ≤ 6) (hz : ∀ z ∈ ws, isName z = true)
    (k : ∀ ru H', XB Tb [] H H' → LR A H H' ru 3 n0 n1 n2 ws → Q (.ref ru) H') : tMakS (A .Lookup) (sp_Lookup_init K A) E (tCons ta (tCons tb (tCons tc (tCons td (tCons (tLamE Tb mk) tNil))))) σ H Q :=
  h1 H (Ex.refl H) _ fun Ha ea => h2 Ha ea _ fun Hb eb => h3 Hb (ea.trans eb) _ fun Hc ec => h Hc ((ea.trans eb).trans ec) _ fun H1 ed => by
    have e1 := ((ea.trans eb).trans ec).trans ed
    refine ⟨hT.ext fun b o e => e1 b o e, fun f c H2 e2 _ _ _ => fun ru dx m1 m2 m3 => ?_⟩
    have h2 : H2 sp = some (.lst (ws.map V.str)) := e2.e _ _ (e1 _ _ hs) fun _ z => nomatch z
    exact ⟨ru, dx, sp, ws, n0, n1, n2, _, rfl, upd_same, (upd_ne (ne_of_none h2 m1)).trans ((upd_ne (ne_of_none h2 m2)).trans h2), hl, hz, ⟨y1, y2, y3⟩, xb_made (Tb := Tb) m1 m2 m3 fun H8 x ⟨rp, r0, r1, r2⟩ => ⟨rfl, k ru H8 (((XB.of e1).trans (XB.ofT e2)).trans x) (.inr (.inr (.inr (.inl ⟨rfl, rp, dx, _, r2, back2 e1 e2 r0, r1⟩))))⟩⟩
theorem x_mkMend (h1 : Ev ta σ H (.str n0)) (hT : Tabs Tb H) (y1 : isName n0 = true) (k : ∀ ru H', XB Tb [] H H' → LR A H H' ru 4 n0 n1 n2 ws → Q (.ref ru) H') : tMakS (A .Mend) (sp_Mend_init K A) E (tCons ta (tCons (tLamE Tb mk) tNil)) σ H Q :=
  h1 H (Ex.refl H) _ fun H1 e1 => ⟨hT.ext fun b o e => e1 b o e, fun f c H2 e2 _ _ _ => fun ru dx m1 m2 m3 =>
    ⟨ru, dx, n0, _, rfl, upd_same, y1, xb_made (Tb := Tb) m1 m2 m3 fun H8 x r2 => ⟨rfl, k ru H8 (((XB.of e1).trans (XB.ofT e2)).trans x) (.inr (.inr (.inr (.inr ⟨rfl, dx, _, r2⟩))))⟩⟩⟩
/-- [words[a drawn one] for j in range(n)] -/
theorem q_drawnNames {tas : TA} {n : Int} {zs : List Str} {i j : Nat} {ls : List Nat} (h : EvA tas σ H [.int n]) (hn : 0 ≤ n ∧ n ≤ 40000) (hw : ∀ x, wipe ((wipe σ ls).set j (some x)) ls = wipe σ ls)
    (he : ∀ (m : Nat) H1, Ex H H1 → (m : Int) < n → ∃ z ∈ zs, Ev te ((wipe σ ls).set j (some (.int (m : Int)))) H1 (.str z))
    (k : ∀ (p : Addr) (ts : List Str) (H1 : Hp), H p = none → Ex H H1 → H1 p = some (.lst (ts.map V.str)) → ts.length = n.toNat → (∀ t ∈ ts, t ∈ zs) → tz D (σ.set i (some (.ref p))) H1) : tSeq (tAsg (tLc (iRng1 tas) (gName j) tYes te ls) (gName i)) tz D σ H := by
  refine er_lcR (Q := fun v H1 => tz D (σ.set i (some v)) H1) (R := fun _ v _ => ∃ z ∈ zs, v = .str z) (fun i v H H' h _ => h) h hn hw (fun m H1 e1 hm => ?_) fun p ys H1 hp e1 h1 hl hr => ?_
  · obtain ⟨z, hz, ev⟩ := he m H1 e1 hm
    intro H2 e2 Q2 q2
    exact ev H2 e2 Q2 fun H3 e3 => q2 _ H3 e3 ⟨z, hz, rfl⟩
  · obtain ⟨ts, rfl, hts⟩ := strs_of ys fun y hy => by
      obtain ⟨i, hi⟩ := List.mem_iff_getElem?.mp hy
      exact hr i y hi
    rw [List.length_map] at hl
    exact k p ts H1 hp e1 h1 hl hts
/-- words[lo + a drawn one] -/
theorem name_rng {zs : List Str} {i : Int} (h0 : 0 ≤ i) (h : i < zs.length) : ∃ z ∈ zs, atI (zs.map V.str) i = some (.str z) := by
  have hl : i.toNat < zs.length := by omega
  refine ⟨zs[i.toNat], List.getElem_mem hl, ?_⟩
  rw [atI_in .non h0 (by rw [List.length_map]; omega), List.getD_eq_getElem?_getD, List.getElem?_map, List.getElem?_eq_getElem hl]
  rfl
theorem tyLst {l : Addr} {xs : List V} (h : H l = some (.lst xs)) : tyV K "list" (.ref l) H := .inl ⟨rfl, xs, SqL.of h⟩
theorem q_clear {l : Addr} {xs : List V} {i : Nat} (hi : σ[i]? = some (some (.ref l))) (h : H l = some (.lst xs)) (k : tz D σ (upd H l (.lst []))) : tSeq (tDrop (tBM0 K "list" rClear (tVar i))) tz D σ H :=
  ⟨_, hi, tyLst h, l, xs, rfl, rfl, h, k⟩
theorem es_cat {ss tt : List Pt} (h1 : EvPs ta σ H ss) (h2 : EvPs tb σ H tt) (hl : ss.length + tt.length ≤ 100000) : EvPs (tOp (rAddA K) ta tb) σ H (ss ++ tt) := fun H1 e Q k =>
  h1 H1 e _ fun p xs H2 _ e2 g2 a2 => h2 H2 (e.trans e2) _ fun q ys H3 _ e3 g3 a3 => .inr (.inr (.inl ⟨p, q, xs, ys, rfl, rfl, e3 _ _ g2, g3, sz_of (by rw [a2.1, a3.1]; exact hl), fun u hu => k u _ _ (fresh_back (e2.trans e3) hu) ((e2.trans e3).trans (Ex.new hu)) upd_same (atPs_app (a2.tup (.of_ex (e3.trans (Ex.new hu)))) (a3.tup (.of_ex (Ex.new hu))))⟩))
theorem LR.fresh {H0 H1 : Hp} {ru : Addr} {kind : Int} (h : LR A H1 H ru kind n0 n1 n2 ws) (n : ∀ a, H1 a = none → H0 a = none) : LR A H0 H ru kind n0 n1 n2 ws := by
  rcases h with ⟨e, np, dx, v, a, b, c⟩ | ⟨e, np, dx, v, a, b, c⟩ | ⟨e, dx, v, a⟩ | ⟨e, np, dx, v, a, b, c⟩ | ⟨e, dx, v, a⟩
  · exact .inl ⟨e, np, dx, v, a, n _ b, c⟩
  · exact .inr (.inl ⟨e, np, dx, v, a, n _ b, c⟩)
  · exact .inr (.inr (.inl ⟨e, dx, v, a⟩))
  · exact .inr (.inr (.inr (.inl ⟨e, np, dx, v, a, n _ b, c⟩)))
  · exact .inr (.inr (.inr (.inr ⟨e, dx, v, a⟩)))
theorem ed_ofPs {ps : List Pt} (h : EvPs te σ H ps) : EvD te σ H (.list (ps.map dP)) := fun H1 e Q q => h H1 e Q fun p xs H2 _ e2 h2 a2 => q _ H2 e2 (.lst h2 a2.dt)
theorem q_ifMid {tt : TT} {tu : TS} {b : Bool} (M : Hp → Prop) (h : EvT tt σ H b) (h1 : ∀ H1, Ex H H1 → ∀ Qn : L2.St → Hp → Prop, (∀ H', M H' → Qn σ H') → tu { D with nx := Qn } σ H1) (h2 : ∀ H1, Ex H H1 → M H1) (k : ∀ H', M H' → tz D σ H') : tSeq (tIfS tt tu tNext) tz D σ H :=
  q_if h (fun _ H1 e => h1 H1 e _ k) fun _ H1 e => k H1 (h2 H1 e)
theorem s_setLA {l : Addr} {xs : List V} {v : V} {j : Nat} (hl : H l = some (.lst xs)) (h : Ev te σ H v) (ho : Ev ta σ H (.ref l)) (hi : Ev tb σ H (.int (j : Int))) (hj : j < xs.length) (k : ∀ H1, Ex H H1 → D.nx σ (upd H1 l (.lst (xs.set j v)))) : tAsg te (gSub ta tb rSetA) D σ H :=
  h H (Ex.refl H) _ fun H1 e1 => ho H1 e1 _ fun H2 e2 => hi H2 (e1.trans e2) _ fun H3 e3 => .inl ⟨l, xs, j, j, rfl, rfl, ((e1.trans e2).trans e3) _ _ hl, ixN_nat hj, k H3 ((e1.trans e2).trans e3)⟩
theorem q_call1 {sp : Sp} {tas : TA} {vs : List V} {i : Nat} (h : EvA tas σ H vs) (k : ∀ H1, Ex H H1 → sp vs H1 (fun v H2 => tz D (σ.set i (some v)) H2) (E σ)) : tSeq (tAsg (tCallS sp E tas) (gName i)) tz D σ H := h H (Ex.refl H) _ k
theorem el_more {p : Addr} {v1 v2 : V} {c : Nat} (hc : σ[c]? = some (some (.ref p))) (hp : H p = some (.lst [v1, v2])) : EvL (tOp (rAddA K) (tVar c) (tSl (rSlA K) (tVar c) tNoPart (tPart (tC (.int 1))))) σ H [v1, v2, v1] := fun H1 e1 Q q =>
  ⟨_, hc, el_slA (K := K) (ev_var hc) eo_none (eo_some (ev_c (v := .int 1))) (SqL.of (e1 _ _ hp)) H1 (Ex.refl H1) _ fun d H2 _ e2 h2 => .inr (.inr (.inl ⟨p, d, [v1, v2], _, rfl, rfl, (e1.trans e2) _ _ hp, h2, sz_of (show 2 + 1 ≤ 100000 by decide), fun y hy => q y _ (fresh_back e2 hy) (e2.trans (Ex.new hy)) upd_same⟩))⟩
theorem s_forNLv {xs : List V} {tl : TE} {tu : TS} {j : Nat} (h : EvL tl σ H xs) (Pv : Addr → Nat → L2.St → Hp → Prop) (h0 : ∀ p H1, H p = none → Ex H H1 → H1 p = some (.lst xs) → Pv p 0 σ H1) (hl : ∀ p i σ' H', i ≤ xs.length → Pv p i σ' H' → SqL K H' p xs)
    (hs : ∀ p i x σ' H', xs[i]? = some x → Pv p i σ' H' → tu { D with nx := Pv p (i + 1), ct := Pv p (i + 1), bk := D.nx } (σ'.set j (some x)) H') (hd : ∀ p σ' H', Pv p xs.length σ' H' → D.nx σ' H') : tFor (iList K tl) (gName j) tu D σ H := s_forNL h Pv h0 hl hs hd
end
end Z

set_option Elab.async false
set_option linter.all false
set_option autoImplicit false
set_option maxRecDepth 100000
set_option maxHeartbeats 4000000
/-! ev: what an expression comes to, by its form -/
local macro_rules | `(tactic| k_places) => `(tactic| (repeat' (first
  | (with_reducible exact ev_c)
  | (with_reducible exact ev_var rfl)
  | (with_reducible refine ev_chainLL ?_ ?_ ?_)
  | (with_reducible refine ev_chainLt ?_ ?_ ?_)
  | (with_reducible refine ev_op ?_ ?_ ?_)
  | (with_reducible refine ev_neg ?_)
  | (with_reducible refine et_test ?_)
  | (with_reducible refine et_B ?_)
  | (with_reducible refine et_not ?_)
  | (with_reducible refine et_and ?_ (fun _ => ?_))
  | (with_reducible refine et_or ?_ (fun _ => ?_))
  | (with_reducible refine ev_andV ?_ (fun _ => ?_))
  | (with_reducible refine ev_orV ?_ (fun _ => ?_))
  | (with_reducible refine ev_notV ?_)
  | (with_reducible exact rv_addI)
  | (with_reducible exact rv_subI)
  | (with_reducible exact rv_lt)
  | (with_reducible exact rv_le)
  | (with_reducible exact rv_gt)
  | (with_reducible exact rv_ge)
  | (with_reducible exact rv_isB)
  | (with_reducible exact rv_isnB)
  | (with_reducible exact rv_isN)
  | (with_reducible exact rv_isnN)
  | (with_reducible exact rv_eqS rfl)
  | (with_reducible exact rv_neS rfl)
  | (with_reducible exact rv_inStr)
  | (with_reducible exact rv_ninStr)
  | (with_reducible exact rv_mod (by first | decide | omega | assumption))
  | (with_reducible exact rv_div (by first | decide | omega | assumption))
  | (with_reducible exact rv_pow (by decide))
  | (with_reducible refine ed_i ?_; done)
  | (with_reducible exact ea_nil)
  | (with_reducible refine ea_cons ?_ ?_)
  | (with_reducible exact eds_nil)
  | (with_reducible refine eds_cons ?_ ?_)
  | (with_reducible exact ed_dnew)
  | (with_reducible refine ed_lst ?_ (by simp only [List.length_cons, List.length_nil]; omega))
  | (with_reducible refine ed_tup ?_ (by simp only [List.length_cons, List.length_nil]; omega)))))
namespace Z
open PySem PySem.Spec PyProof.Rows L2 Evl NdefX LamX
/-! ### functions that note what they are called with; reckoning -/
theorem XB.newP {T : List (Addr × Str)} {F : List Addr} {H H1 H2 : Hp} {a : Addr} (x : XB T F H H1) (y : XB T (a :: F) H1 H2) (h : H a = none) : XB T F H H2 :=
  ⟨fun b o e n t => y.k b o (x.k b o e n t) (by simp [n, ne_of_none e h]) t, x.i.trans y.i, fun b q => x.n b (y.n b q), fun t => y.t (x.t t)⟩
/-- a thing: a scalar, a tuple, a list -/
def ThV (H : Hp) (v : V) (d : PyData) : Prop := (∀ H', Dt H' v d) ∨ (∃ a xs, v = .ref a ∧ H a = some (.tup xs) ∧ ∀ H' : Hp, H' a = some (.tup xs) → Dt H' v d) ∨ ∃ a xs, v = .ref a ∧ H a = some (.lst xs) ∧ ∀ H' : Hp, H' a = some (.lst xs) → Dt H' v d
theorem ThV.dt {H : Hp} {v : V} {d : PyData} (h : ThV H v d) : Dt H v d := by
  rcases h with h | ⟨a, xs, _, b, c⟩ | ⟨a, xs, _, b, c⟩
  · exact h H
  · exact c H b
  · exact c H b
theorem ThV.xb {T : List (Addr × Str)} {F : List Addr} {H H' : Hp} {v : V} {d : PyData} (x : XB T F H H') (n : ∀ a ∈ F, v ≠ .ref a) (h : ThV H v d) : ThV H' v d := by
  rcases h with h | ⟨a, xs, e, b, c⟩ | ⟨a, xs, e, b, c⟩
  · exact .inl h
  · exact .inr (.inl ⟨a, xs, e, x.i _ _ b True.intro, c⟩)
  · exact .inr (.inr ⟨a, xs, e, x.k _ _ b (fun z => n a z e) (fun _ z => nomatch z), c⟩)
theorem ThV.ex {H H' : Hp} {v : V} {d : PyData} (e : Ex H H') (h : ThV H v d) : ThV H' v d := h.xb (T := []) (F := []) (XB.of e) (fun a z => by cases z)
def settledD (d : PyData) : PyData := if isValueD d = true then d else .tuple [.str "fault", .str "odd"]
def sp_settled (K : PySem.W.Frag) : Sp := sp1 short2 settledD
/-- the function of a rule: it notes a copy of the list, changes the list, tells a thing -/
def spT (Tb : List (Addr × Str)) (pn : Addr) (v : V) : Sp := fun vs H Q _ => ∃ (p : Addr) (ns : List Int) (xs : List V), vs = [.ref p] ∧ H p = some (.lst (ns.map V.int)) ∧ H pn = some (.lst xs) ∧ p ≠ pn ∧ xs.length < 1000 ∧ ns.length < 1000 ∧
  ∀ b H', XB Tb [p, pn] H H' → H b = none → H' b = some (.lst (ns.map V.int)) → H' pn = some (.lst (xs ++ [.ref b])) → Q v H'
def sp_law_told (K : PySem.W.Frag) : Sp := fun vs H Q _ => ∃ (p pn : Addr) (v : V) (ns : List Int) (xs : List V), vs = [.ref pn, .ref p, v] ∧ H p = some (.lst (ns.map V.int)) ∧ H pn = some (.lst xs) ∧ p ≠ pn ∧ xs.length < 1000 ∧ ns.length < 1000 ∧
  ∀ b H', (∀ T, XB T [p, pn] H H') → H b = none → H' b = some (.lst (ns.map V.int)) → H' pn = some (.lst (xs ++ [.ref b])) → Q v H'
def sp_Rule_reckon (K : PySem.W.Frag) (CA : Hp → Addr → Sp → Prop) (Tb : List (Addr × Str)) : Sp := fun vs H Q _ => ∃ (a C dx f p pn : Addr) (fs : List (Str × V)) (v : V) (d : PyData) (ns : List Int) (xs : List V), vs = [.ref a, .ref p] ∧ H a = some (.ins C dx fs) ∧ Cls K C ∧ NoAttr K C "function" ∧ fs.lookup ("function" : Str) = some (.ref f) ∧ CA H f (spT Tb pn v) ∧
  H p = some (.lst (ns.map V.int)) ∧ H pn = some (.lst xs) ∧ xs.length < 1000 ∧ ns.length < 1000 ∧ short2 d ∧ ThV H v d ∧ v ≠ .ref pn ∧
  ∀ b w H', XB Tb [pn] H H' → H b = none → H' b = some (.lst (ns.map V.int)) → H' pn = some (.lst (xs ++ [.ref b])) → Dt H' w (settledD d) → Q w H'
/-- names: "thing" -/
def t_settled (K : PySem.W.Frag) (E : XK) : TS :=
  tSeq (tIfS (tB (tCallS (sp_is_value K) (WE (fun cls d _ H => E cls d H)) (tCons (tVar 0) tNil))) (tRet (tVar 0)) tNext)
    (tRet (tTup (tCons (tC (.str "fault")) (tCons (tC (.str "odd")) tNil))))
/-- names: "self", "some" -/
def t_Rule_reckon (K : PySem.W.Frag) (CA : Hp → Addr → Sp → Prop) (E : XK) : TS :=
  tRet (tCallS (sp_settled K) (WE (fun cls d _ H => E cls d H)) (tCons (tCallF K CA "function" (tVar 0) (tCons (tCB (rListA K) (tCons (tVar 1) tNil)) tNil)) tNil))
/-- names: "notes", "xs", "thing" -/
def t_law_told (K : PySem.W.Frag) (E : XK) : TS :=
  tSeq (tDrop (tBM K "list" rAppend (tVar 0) (tCons (tCB (rListA K) (tCons (tVar 1) tNil)) tNil)))
    (tSeq (tDrop (tBM K "list" rAppend (tVar 1) (tCons (tC (.int 5)) tNil)))
    (tRet (tVar 2)))
section
variable {K : PySem.W.Frag} {A : Cn → Addr} {CA : Hp → Addr → Sp → Prop} {Tb : List (Addr × Str)} {σ : L2.St} {H H' : Hp} {te tl ta tb t1 t2 : TE} {D : Ends} {tz : TS} {E : L2.St → XK}
theorem len_settled (vs : List V) (H : Hp) (Q : VK) (E : XK) (h : sp_settled K vs H Q E) : vs.length = 1 := by obtain ⟨_, _, rfl, _⟩ := sp1_open h; rfl
theorem len_law_told (vs : List V) (H : Hp) (Q : VK) (E : XK) (h : sp_law_told K vs H Q E) : vs.length = 3 := by obtain ⟨_, _, _, _, _, rfl, _⟩ := h; rfl
theorem len_Rule_reckon (vs : List V) (H : Hp) (Q : VK) (E : XK) (h : sp_Rule_reckon K CA Tb vs H Q E) : vs.length = 2 := by obtain ⟨_, _, _, _, _, _, _, _, _, _, _, rfl, _⟩ := h; rfl
theorem r_settled (vs : List V) (H : Hp) (Q : VK) (E : XK) (h : sp_settled K vs H Q E) : t_settled K E { nx := fun _ H' => Q .non H', rt := Q } (L2.start ["thing"] vs) H := by
  obtain ⟨v, d, rfl, r, hs, k⟩ := sp1_open h
  unfold t_settled
  unfold settledD at k
  refine q_when (et_B (ev_spB (g := isValueD) (pre := short2) (ed_var rfl r) hs)) (fun hb H1 e1 => ?_) (fun hb H1 e1 => ?_)
  · rw [if_pos hb] at k
    exact s_retD (ed_var rfl (r.ex e1)) fun v2 H2 e2 r2 => k v2 H2 (e1.trans e2) r2
  · rw [if_neg (by rw [hb]; decide)] at k
    exact s_retD (ed_tup (eds_cons (ed_s ev_c) (eds_cons (ed_s ev_c) eds_nil))) fun v2 H2 e2 r2 => k v2 H2 (e1.trans e2) r2
theorem r_law_told (vs : List V) (H : Hp) (Q : VK) (E : XK) (h : sp_law_told K vs H Q E) : t_law_told K E { nx := fun _ H' => Q .non H', rt := Q } (L2.start ["notes", "xs", "thing"] vs) H := by
  obtain ⟨p, pn, v, ns, xs, rfl, h1, h2, ne, l1, l2, k⟩ := h
  unfold t_law_told
  refine q_appL h2 (ev_var rfl) (el_listA (ev_var rfl) (SqL.of h1)) (by omega) fun b H1 hb e1 g1 => ?_
  have bn : b ≠ pn := fun z => by rw [z, h2] at hb; cases hb
  have bp : b ≠ p := fun z => by rw [z, h1] at hb; cases hb
  have p1 : upd H1 pn (.lst (xs ++ [.ref b])) p = some (.lst (ns.map V.int)) := (upd_ne ne).trans (e1 _ _ h1)
  refine q_app p1 (ev_var rfl) (ev_c (v := .int 5)) (by rw [List.length_map]; omega) fun H2 e2 => ?_
  refine s_ret (ev_var rfl) fun H3 e3 => k b H3 (fun T => ?_) hb (e3 _ _ ((upd_ne bp).trans (e2 _ _ ((upd_ne bn).trans g1)))) (e3 _ _ ((upd_ne ne.symm).trans (e2 _ _ upd_same)))
  have x1 : XB T [p, pn] H (upd H1 pn (.lst (xs ++ [.ref b]))) := (XB.of e1).trans (XB.upd (e1 _ _ h2) (fun z => z) (fun _ z => nomatch z) (by simp))
  exact (x1.trans ((XB.of e2).trans (XB.upd (e2 _ _ p1) (fun z => z) (fun _ z => nomatch z) (by simp)))).trans (XB.of e3)
theorem r_Rule_reckon (hc : CAst CA) (vs : List V) (H : Hp) (Q : VK) (E : XK) (h : sp_Rule_reckon K CA Tb vs H Q E) : t_Rule_reckon K CA E { nx := fun _ H' => Q .non H', rt := Q } (L2.start ["self", "some"] vs) H := by
  obtain ⟨a, C, dx, f, p, pn, fs, v, d, ns, xs, rfl, ha, cl, na, lk, ca, hp, hn, l1, l2, sd, th, vn, k⟩ := h
  unfold t_Rule_reckon
  refine ⟨_, rfl, a, C, dx, fs, f, spT Tb pn v, rfl, ha, cl, na, lk, ca, el_listA (K := K) (ev_var rfl) (SqL.of hp) H (Ex.refl H) _ fun p' H1 hp' e1 h1 => ⟨hc _ _ _ _ ca (.of e1), p', ns, xs, rfl, h1, e1 _ _ hn, (ne_of_none hn hp').symm, l1, l2, fun b H2 x2 hb hb2 hpn => ?_⟩⟩
  have vp : v ≠ .ref p' := fun z => by
    rcases th with t | ⟨a, xs, e, b, _⟩ | ⟨a, xs, e, b, _⟩
    · have := t (fun _ => none)
      rw [z] at this
      cases this <;> rename_i q _ <;> cases q
    · rw [e] at z; cases z; rw [hp'] at b; cases b
    · rw [e] at z; cases z; rw [hp'] at b; cases b
  have x02 : XB Tb [pn] H H2 := (XB.of e1).newP x2 hp'
  have th2 : ThV H2 v d := th.xb x02 fun a ha => by rw [List.mem_singleton.mp ha]; exact vn
  exact ⟨[d], rfl, .cons th2.dt .nil, sd, fun w H3 e3 r => k b w H3 (x02.trans (XB.of e3)) (fresh_back e1 hb) (e3 _ _ hb2) (e3 _ _ hpn) r⟩
end
end Z

set_option Elab.async false
set_option linter.all false
set_option autoImplicit false
set_option maxRecDepth 100000
set_option maxHeartbeats 4000000
/-! ev: what an expression comes to, by its form -/
local macro_rules | `(tactic| k_places) => `(tactic| (repeat' (first
  | (with_reducible exact ev_c)
  | (with_reducible exact ev_var rfl)
  | (with_reducible refine ev_chainLL ?_ ?_ ?_)
  | (with_reducible refine ev_chainLt ?_ ?_ ?_)
  | (with_reducible refine ev_op ?_ ?_ ?_)
  | (with_reducible refine ev_neg ?_)
  | (with_reducible refine et_test ?_)
  | (with_reducible refine et_B ?_)
  | (with_reducible refine et_not ?_)
  | (with_reducible refine et_and ?_ (fun _ => ?_))
  | (with_reducible refine et_or ?_ (fun _ => ?_))
  | (with_reducible refine ev_andV ?_ (fun _ => ?_))
  | (with_reducible refine ev_orV ?_ (fun _ => ?_))
  | (with_reducible refine ev_notV ?_)
  | (with_reducible exact rv_addI)
  | (with_reducible exact rv_subI)
  | (with_reducible exact rv_lt)
  | (with_reducible exact rv_le)
  | (with_reducible exact rv_gt)
  | (with_reducible exact rv_ge)
  | (with_reducible exact rv_isB)
  | (with_reducible exact rv_isnB)
  | (with_reducible exact rv_isN)
  | (with_reducible exact rv_isnN)
  | (with_reducible exact rv_eqS rfl)
  | (with_reducible exact rv_neS rfl)
  | (with_reducible exact rv_inStr)
  | (with_reducible exact rv_ninStr)
  | (with_reducible exact rv_mod (by first | decide | omega | assumption))
  | (with_reducible exact rv_div (by first | decide | omega | assumption))
  | (with_reducible exact rv_pow (by decide))
  | (with_reducible refine ed_i ?_; done)
  | (with_reducible exact ea_nil)
  | (with_reducible refine ea_cons ?_ ?_)
  | (with_reducible exact eds_nil)
  | (with_reducible refine eds_cons ?_ ?_)
  | (with_reducible exact ed_dnew)
  | (with_reducible refine ed_lst ?_ (by simp only [List.length_cons, List.length_nil]; omega))
  | (with_reducible refine ed_tup ?_ (by simp only [List.length_cons, List.length_nil]; omega)))))
namespace Z
open PySem PySem.Spec PyProof.Rows L2 Evl NdefX LamX
/-! ### rules whose function notes: the lambda, the makers, reckon of one of the five kinds -/
def splT (K : PySem.W.Frag) : List (Option V) → Sp := fun ws vs H Q _ => ∃ (pn : Addr) (v x : V), ws = [some (.ref pn), some v] ∧ vs = [x] ∧ sp_law_told K [.ref pn, x, v] H Q E0
def tlT (K : PySem.W.Frag) : TE := tCall (sp_law_told K) [] E0 (tCons (tVar 1) (tCons (tVar 0) (tCons (tVar 2) tNil)))
theorem lenlT {K : PySem.W.Frag} (ws : List (Option V)) (vs : List V) (H : Hp) (Q : VK) (E : XK) (h : splT K ws vs H Q E) : vs.length = 1 := by obtain ⟨_, _, _, _, rfl, _⟩ := h; rfl
theorem rlT {K : PySem.W.Frag} (ws : List (Option V)) (vs : List V) (H : Hp) (Q : VK) (h : splT K ws vs H Q E0) : tlT K (startF ["xs", "notes", "thing"] vs ws) H Q := by
  obtain ⟨pn, v, x, rfl, rfl, h⟩ := h
  exact ⟨_, rfl, _, rfl, _, rfl, h⟩
abbrev five : List Cn := [.Cells, .Above, .Group, .Lookup, .Mend]
def RKd (A : Cn → Addr) (CA : Hp → Addr → Sp → Prop) (H : Hp) (ru : Addr) (sp : Sp) : Prop := ∃ (k : Cn) (dx f : Addr) (fs : List (Str × V)), k ∈ five ∧ H ru = some (.ins (A k) dx fs) ∧ fs.lookup ("function" : Str) = some (.ref f) ∧ fs.lookup ("reckon" : Str) = none ∧ CA H f sp
theorem RKd.xb {A : Cn → Addr} {CA : Hp → Addr → Sp → Prop} {H H' : Hp} {ru : Addr} {sp : Sp} {T : List (Addr × Str)} {F : List Addr} (hc : CAst CA) (h : RKd A CA H ru sp) (x : XB T F H H') (n : ∀ a ∈ F, ∃ xs, H a = some (.lst xs)) : RKd A CA H' ru sp := by
  obtain ⟨k, dx, f, fs, m, a, b, c, d⟩ := h
  exact ⟨k, dx, f, fs, m, x.k _ _ a (fun z => by obtain ⟨xs, q⟩ := n _ z; rw [a] at q; cases q) (fun _ z => nomatch z), b, c, hc _ _ _ _ d x.i.kp⟩
structure InsK (K : PySem.W.Frag) (C : Addr) : Prop where
  a : PySem.W.findIn K (.ref C) "__class__" = some (some (.builtin "object.__class__"))
  n : PySem.W.specialIn K (.builtin "object.__class__") "__get__" = some (some (.builtin "getset_descriptor.__get__"))
  t : PySem.W.takesIn K (.builtin "object.__class__") = some true
  m : PySem.W.mroIn K C (.type "object") = some true
def FxR (K : PySem.W.Frag) (A : Cn → Addr) : Prop := ∀ k ∈ five, Cls K (A k) ∧ NoAttr K (A k) "function"
def IsR (K : PySem.W.Frag) (A : Cn → Addr) : Prop := ∀ k ∈ five, InsK K (A k) ∧ PySem.W.kitOne K (.ref (A k)) (.ref (A .Rule)) = some true
theorem fxR {K : PySem.W.Frag} {A : Cn → Addr} (a : ClK K (A .Cells) ["function", "names"]) (b : ClK K (A .Above) ["function", "names", "first"]) (c : ClK K (A .Group) ["function", "key", "name"]) (d : ClK K (A .Lookup) ["function", "key", "other", "theirs", "names"]) (e : ClK K (A .Mend) ["function", "name"]) : FxR K A := fun k hk => by
  simp only [List.mem_cons, List.mem_nil_iff, or_false] at hk
  rcases hk with rfl | rfl | rfl | rfl | rfl
  · exact ⟨a.cl, a.na _ (by decide)⟩
  · exact ⟨b.cl, b.na _ (by decide)⟩
  · exact ⟨c.cl, c.na _ (by decide)⟩
  · exact ⟨d.cl, d.na _ (by decide)⟩
  · exact ⟨e.cl, e.na _ (by decide)⟩
theorem isR {K : PySem.W.Frag} {A : Cn → Addr} (a : InsK K (A .Cells)) (a' : PySem.W.kitOne K (.ref (A .Cells)) (.ref (A .Rule)) = some true) (b : InsK K (A .Above)) (b' : PySem.W.kitOne K (.ref (A .Above)) (.ref (A .Rule)) = some true) (c : InsK K (A .Group)) (c' : PySem.W.kitOne K (.ref (A .Group)) (.ref (A .Rule)) = some true)
    (d : InsK K (A .Lookup)) (d' : PySem.W.kitOne K (.ref (A .Lookup)) (.ref (A .Rule)) = some true) (e : InsK K (A .Mend)) (e' : PySem.W.kitOne K (.ref (A .Mend)) (.ref (A .Rule)) = some true) : IsR K A := fun k hk => by
  simp only [List.mem_cons, List.mem_nil_iff, or_false] at hk
  rcases hk with rfl | rfl | rfl | rfl | rfl
  · exact ⟨a, a'⟩
  · exact ⟨b, b'⟩
  · exact ⟨c, c'⟩
  · exact ⟨d, d'⟩
  · exact ⟨e, e'⟩
/-- a list of numbers, there or new -/
def EvPl (te : TE) (σ : L2.St) (H : Hp) (xs : List V) : Prop := ∀ H1, Ex H H1 → ∀ Q : VK, (∀ p H2, Ex H1 H2 → H2 p = some (.lst xs) → Q (.ref p) H2) → te σ H1 Q
section
variable {K : PySem.W.Frag} {A : Cn → Addr} {CA : Hp → Addr → Sp → Prop} {Tb : List (Addr × Str)} {σ : L2.St} {H H' : Hp} {te tl ta tb t1 t2 : TE} {D : Ends} {tz : TS} {E : L2.St → XK} {ru pn : Addr} {v : V}
theorem epl_v {p : Addr} {xs : List V} (h : Ev te σ H (.ref p)) (hp : H p = some (.lst xs)) : EvPl te σ H xs := fun H1 e Q q => h H1 e _ fun H2 e2 => q p H2 e2 ((e.trans e2) _ _ hp)
theorem epl_l {xs : List V} (h : EvL te σ H xs) : EvPl te σ H xs := fun H1 e Q q => h H1 e _ fun p H2 _ e2 hp => q p H2 e2 hp
abbrev ldR (K : PySem.W.Frag) (A : Cn → Addr) (CA : Hp → Addr → Sp → Prop) (Tb : List (Addr × Str)) : List (Addr × Sp) := [(A .Cells, sp_Rule_reckon K CA Tb), (A .Above, sp_Rule_reckon K CA Tb), (A .Group, sp_Rule_reckon K CA Tb), (A .Lookup, sp_Rule_reckon K CA Tb), (A .Mend, sp_Rule_reckon K CA Tb)]
theorem ldR_mem {k : Cn} (h : k ∈ five) : (A k, sp_Rule_reckon K CA Tb) ∈ ldR K A CA Tb := by
  simp only [List.mem_cons, List.mem_nil_iff, or_false] at h
  rcases h with rfl | rfl | rfl | rfl | rfl <;> simp
theorem ev_isRule {i : Nat} {sp : Sp} (hi : σ[i]? = some (some (.ref ru))) (rk : RKd A CA H ru sp) (fx : FxR K A) (ir : IsR K A) : Ev (tCB (rIsi K) (tCons (tVar i) (tCons (tC (.ref (A .Rule))) tNil))) σ H (.bl true) := by
  obtain ⟨k, dx, f, fs, m, a, _, _, _⟩ := rk
  obtain ⟨i1, i2⟩ := ir k m
  exact ev_cb (ea_cons (ev_var hi) (ea_cons ev_c ea_nil)) fun H1 e Q q => ⟨.ref ru, .ref (A .Rule), .ref (A k), .ref (A .Rule), true, rfl, .own _, .base (.ins (e _ _ a) (fx k m).1 i1.a i1.n i1.t i1.m), i2, q H1 (Ex.refl H1)⟩
/-- rule.reckon(a list) -/
theorem x_reckon {i : Nat} {d : PyData} {ns : List Int} {xs : List V} {Q : VK} (hi : σ[i]? = some (some (.ref ru))) (rk : RKd A CA H ru (spT Tb pn v)) (fx : FxR K A) (hc : CAst CA) (ha : EvPl ta σ H (ns.map V.int)) (hn : H pn = some (.lst xs)) (l1 : xs.length < 1000) (l2 : ns.length < 1000) (sd : short2 d) (th : ThV H v d) (vn : v ≠ .ref pn)
    (k : ∀ b w H', XB Tb [pn] H H' → H b = none → H' b = some (.lst (ns.map V.int)) → H' pn = some (.lst (xs ++ [.ref b])) → Dt H' w (settledD d) → Q w H') : tMetD (ldR K A CA Tb) "reckon" E (tVar i) (tCons ta tNil) σ H Q := by
  obtain ⟨kk, dx, f, fs, m, a, b, c, e⟩ := rk
  refine ⟨_, hi, ru, A kk, dx, fs, _, rfl, ldR_mem m, a, c, ha H (Ex.refl H) _ fun p H1 e1 h1 => ?_⟩
  exact ⟨ru, A kk, dx, f, p, pn, fs, v, d, ns, xs, rfl, e1 _ _ a, (fx kk m).1, (fx kk m).2, b, hc _ _ _ _ e (.of e1), h1, e1 _ _ hn, l1, l2, sd, th.ex e1, vn, fun b w H2 x2 hb => k b w H2 ((XB.of e1).trans x2) (fresh_back e1 hb)⟩
/-! ### the makers -/
def sp_law_rule (_ : PySem.W.Frag) (A : Cn → Addr) (CA : Hp → Addr → Sp → Prop) (Tb : List (Addr × Str)) : Sp := fun vs H Q _ => ∃ (kind : Int) (pn : Addr) (v : V), vs = [.int kind, .ref pn, v] ∧ 0 ≤ kind ∧ kind < 5 ∧ Tabs Tb H ∧ ∀ ru H', XB Tb [] H H' → RKd A CA H' ru (spT Tb pn v) → Q (.ref ru) H'
theorem len_law_rule (vs : List V) (H : Hp) (Q : VK) (E : XK) (h : sp_law_rule K A CA Tb vs H Q E) : vs.length = 3 := by obtain ⟨_, _, _, rfl, _⟩ := h; rfl
theorem qr_if {tt : TT} {ta t2 : RK → L2.St → Hp → Prop} {R : RK} {b : Bool} (h : EvT tt σ H b) (h1 : b = true → ∀ H1, Ex H H1 → ta R σ H1) (h2 : b = false → ∀ H1, Ex H H1 → t2 R σ H1) : tIfR tt ta t2 R σ H := h H (Ex.refl H) _ fun H1 e => by
  cases b with
  | true => exact (if_pos rfl).mpr (h1 rfl H1 e)
  | false => exact (if_neg (by decide)).mpr (h2 rfl H1 e)
/-- what is made: an object with the function -/
def MkR (A : Cn → Addr) (Tb : List (Addr × Str)) (H : Hp) (u : V) (Q : VK) : Prop := ∀ (k : Cn) (ru dx : Addr) (fs : List (Str × V)) (H' : Hp), k ∈ five → XB Tb [] H H' → H' ru = some (.ins (A k) dx fs) → fs.lookup ("function" : Str) = some u → fs.lookup ("reckon" : Str) = none → Q (.ref ru) H'
theorem y_mkCells {ws : List Str} {j : Nat} {u : V} {Q : VK} (h : EvL ta σ H (ws.map V.str)) (hj : σ[j]? = some (some u)) (hl : ws.length ≤ 6) (hz : ∀ z ∈ ws, isName z = true) (k : MkR A Tb H u Q) : tMakS (A .Cells) (sp_Cells_init K A) E (tCons ta (tCons (tVar j) tNil)) σ H Q :=
  h H (Ex.refl H) _ fun p H1 _ e1 h1 => ⟨_, hj, fun ru dx m1 m2 m3 => ⟨ru, dx, p, ws, u, rfl, upd_same, (upd_ne (ne_of_none h1 m1)).trans ((upd_ne (ne_of_none h1 m2)).trans h1), hl, hz, xb_made (Tb := Tb) m1 m2 m3 fun H8 x ⟨rp, r0, r1, r2⟩ => ⟨rfl, k .Cells ru dx _ H8 (by simp) ((XB.of e1).trans x) r2 rfl rfl⟩⟩⟩
theorem y_mkAbove {ws : List Str} {j : Nat} {u : V} {Q : VK} (h : EvL ta σ H (ws.map V.str)) (hj : σ[j]? = some (some u)) (hl : ws.length ≤ 6) (hz : ∀ z ∈ ws, isName z = true) (k : MkR A Tb H u Q) : tMakS (A .Above) (sp_Above_init K A) E (tCons (tC (.int 3)) (tCons ta (tCons (tVar j) tNil))) σ H Q :=
  h H (Ex.refl H) _ fun p H1 _ e1 h1 => ⟨_, hj, fun ru dx m1 m2 m3 => ⟨ru, dx, p, ws, u, 3, rfl, upd_same, (upd_ne (ne_of_none h1 m1)).trans ((upd_ne (ne_of_none h1 m2)).trans h1), hl, hz, by decide +kernel, xb_made (Tb := Tb) m1 m2 m3 fun H8 x ⟨rp, r0, r1, r2⟩ => ⟨rfl, k .Above ru dx _ H8 (by simp) ((XB.of e1).trans x) r2 rfl rfl⟩⟩⟩
theorem y_mkGroup {y z : Str} {j : Nat} {u : V} {Q : VK} (hj : σ[j]? = some (some u)) (h1 : isName y = true) (h2 : isName z = true) (k : MkR A Tb H u Q) : tMakS (A .Group) (sp_Group_init K A) E (tCons (tC (.str y)) (tCons (tC (.str z)) (tCons (tVar j) tNil))) σ H Q :=
  ⟨_, hj, fun ru dx m1 m2 m3 => ⟨ru, dx, y, z, u, rfl, upd_same, h1, h2, xb_made (Tb := Tb) m1 m2 m3 fun H8 x r2 => ⟨rfl, k .Group ru dx _ H8 (by simp) x r2 rfl rfl⟩⟩⟩
theorem y_mkLookup {x y z : Str} {ws : List Str} {j : Nat} {u : V} {Q : VK} (h : EvL ta σ H (ws.map V.str)) (hj : σ[j]? = some (some u)) (hl : ws.length ≤ 6) (hz : ∀ z ∈ ws, isName z = true) (h1 : isName x = true) (h2 : isName y = true) (h3 : isName z = true) (k : MkR A Tb H u Q) :
    tMakS (A .Lookup) (sp_Lookup_init K A) E (tCons (tC (.str x)) (tCons (tC (.str y)) (tCons (tC (.str z)) (tCons ta (tCons (tVar j) tNil))))) σ H Q :=
  h H (Ex.refl H) _ fun p H1 _ e1 g1 => ⟨_, hj, fun ru dx m1 m2 m3 => ⟨ru, dx, p, ws, x, y, z, u, rfl, upd_same, (upd_ne (ne_of_none g1 m1)).trans ((upd_ne (ne_of_none g1 m2)).trans g1), hl, hz, ⟨h1, h2, h3⟩, xb_made (Tb := Tb) m1 m2 m3 fun H8 xx ⟨rp, r0, r1, r2⟩ => ⟨rfl, k .Lookup ru dx _ H8 (by simp) ((XB.of e1).trans xx) r2 rfl rfl⟩⟩⟩
theorem y_mkMend {y : Str} {j : Nat} {u : V} {Q : VK} (hj : σ[j]? = some (some u)) (h1 : isName y = true) (k : MkR A Tb H u Q) : tMakS (A .Mend) (sp_Mend_init K A) E (tCons (tC (.str y)) (tCons (tVar j) tNil)) σ H Q :=
  ⟨_, hj, fun ru dx m1 m2 m3 => ⟨ru, dx, y, u, rfl, upd_same, h1, xb_made (Tb := Tb) m1 m2 m3 fun H8 x r2 => ⟨rfl, k .Mend ru dx _ H8 (by simp) x r2 rfl rfl⟩⟩⟩
end
end Z

set_option Elab.async false
set_option linter.all false
set_option autoImplicit false
set_option maxRecDepth 100000
set_option maxHeartbeats 4000000
/-! ev: what an expression comes to, by its form -/
local macro_rules | `(tactic| k_places) => `(tactic| (repeat' (first
  | (with_reducible exact ev_c)
  | (with_reducible exact ev_var rfl)
  | (with_reducible refine ev_chainLL ?_ ?_ ?_)
  | (with_reducible refine ev_chainLt ?_ ?_ ?_)
  | (with_reducible refine ev_op ?_ ?_ ?_)
  | (with_reducible refine ev_neg ?_)
  | (with_reducible refine et_test ?_)
  | (with_reducible refine et_B ?_)
  | (with_reducible refine et_not ?_)
  | (with_reducible refine et_and ?_ (fun _ => ?_))
  | (with_reducible refine et_or ?_ (fun _ => ?_))
  | (with_reducible refine ev_andV ?_ (fun _ => ?_))
  | (with_reducible refine ev_orV ?_ (fun _ => ?_))
  | (with_reducible refine ev_notV ?_)
  | (with_reducible exact rv_addI)
  | (with_reducible exact rv_subI)
  | (with_reducible exact rv_lt)
  | (with_reducible exact rv_le)
  | (with_reducible exact rv_gt)
  | (with_reducible exact rv_ge)
  | (with_reducible exact rv_isB)
  | (with_reducible exact rv_isnB)
  | (with_reducible exact rv_isN)
  | (with_reducible exact rv_isnN)
  | (with_reducible exact rv_eqS rfl)
  | (with_reducible exact rv_neS rfl)
  | (with_reducible exact rv_inStr)
  | (with_reducible exact rv_ninStr)
  | (with_reducible exact rv_mod (by first | decide | omega | assumption))
  | (with_reducible exact rv_div (by first | decide | omega | assumption))
  | (with_reducible exact rv_pow (by decide))
  | (with_reducible refine ed_i ?_; done)
  | (with_reducible exact ea_nil)
  | (with_reducible refine ea_cons ?_ ?_)
  | (with_reducible exact eds_nil)
  | (with_reducible refine eds_cons ?_ ?_)
  | (with_reducible exact ed_dnew)
  | (with_reducible refine ed_lst ?_ (by simp only [List.length_cons, List.length_nil]; omega))
  | (with_reducible refine ed_tup ?_ (by simp only [List.length_cons, List.length_nil]; omega)))))
namespace Z
open PySem PySem.Spec PyProof.Rows L2 Evl NdefX LamX
/-! ### the keys of a world -/
def KS (kvs : List (List Key × V)) : Prop := ∀ p ∈ kvs, ∀ z : Str, (.inr z : Key) ∈ p.1 → okS z
def KL (kvs : List (List Key × V)) (n : Nat) : Prop := kvs.length ≤ n ∧ KS kvs
theorem KL.nil : KL [] 0 := ⟨Nat.le_refl _, fun _ h => by simp at h⟩
theorem putK_mem {kvs : List (List Key × V)} {k : List Key} {v : V} {p : List Key × V} (h : p ∈ putK kvs k v) : p.1 = k ∨ ∃ q ∈ kvs, q.1 = p.1 := by
  unfold putK at h
  split at h
  · obtain ⟨q, hq, e⟩ := List.mem_map.mp h
    split at e
    · rename_i e'; exact .inl (by rw [← e]; exact e')
    · exact .inr ⟨q, hq, by rw [← e]⟩
  · rcases List.mem_append.mp h with h | h
    · exact .inr ⟨p, h, rfl⟩
    · exact .inl (by rw [List.mem_singleton.mp h])
theorem KS.put {kvs : List (List Key × V)} {k : List Key} {v : V} (h : KS kvs) (o : ∀ z : Str, (.inr z : Key) ∈ k → okS z) : KS (putK kvs k v) := fun p hp z hz => by
  rcases putK_mem hp with e | ⟨q, hq, e⟩
  · exact o z (by rw [← e]; exact hz)
  · exact h q hq z (by rw [e]; exact hz)
theorem okS_key {s : Spot} (o : okSp s) (z : Str) (hz : (.inr z : Key) ∈ keyS s) : okS z := by
  unfold keyS at hz
  simp only [List.mem_cons, List.mem_nil_iff, or_false, Sum.inr.injEq, reduceCtorEq] at hz
  rcases hz with e | e
  · rw [e]; exact o.1
  · rw [e]; exact o.2
theorem KL.put {kvs : List (List Key × V)} {n : Nat} {s : Spot} {v : V} (h : KL kvs n) (o : okSp s) : KL (putK kvs (keyS s) v) (n + 1) :=
  ⟨by have := putLen kvs (keyS s) v; have := h.1; omega, h.2.put (okS_key o)⟩
def KW (H : Hp) (wd : Addr) : Prop := ∃ kvs, H wd = some (.dT kvs) ∧ KS kvs ∧ kvs.length ≤ 360
def sp_law_world19 (K : PySem.W.Frag) : Sp := fun vs H Q _ => ∃ (l np tp : Addr) (ns : List Int) (zs : List Str) (t1 t2 : Str) (fl : Int) (j : Nat), vs = [.ref l, .ref np, .ref tp, .int fl, .int (j : Int)] ∧ SqL K H l (ns.map V.int) ∧ H np = some (.lst (zs.map V.str)) ∧ zs.length ≤ 6 ∧ H tp = some (.lst [.str t1, .str t2]) ∧ t1 ≠ t2 ∧ j ≤ 2000 ∧ (∀ z ∈ zs, okS z) ∧ okS t1 ∧ okS t2 ∧
  ∀ a wd rw H' W R, Ex H H' → H' a = some (.tup [.ref wd, .ref rw]) → KW H' wd → World H' wd rw [t1, t2] zs W R → 1 ≤ R t1 → Q (.ref a) H'
theorem len_law_world19 {K : PySem.W.Frag} (vs : List V) (H : Hp) (Q : VK) (E : XK) (h : sp_law_world19 K vs H Q E) : vs.length = 5 := by obtain ⟨_, _, _, _, _, _, _, _, _, rfl, _⟩ := h; rfl
section
variable {K : PySem.W.Frag} {t1 : Str} {zs ts : List Str} {kvs : List (List Key × V)} {rvs rvs' : List (Key × V)}
theorem r_law_world19 (vs : List V) (H : Hp) (Q : VK) (E : XK) (h : sp_law_world19 K vs H Q E) : t_law_world K E { nx := fun _ H' => Q .non H', rt := Q } (L2.start ["script", "names", "tables", "faults", "k", "world", "rows", "table", "name", "place"] vs) H := by
  obtain ⟨l, np, tp, ns, zs, t1, t2, fl, j, rfl, hl, hn, hz, ht, hne, hj, nzs, n1, n2, k⟩ := h
  unfold t_law_world
  refine q_asgDT fun wd H1 w0 e1 w1 => q_asgDK fun rw H2 r0 e2 r1 => ?_
  have r00 : H rw = none := fresh_back e1 r0
  have wr : wd ≠ rw := ne_of_none w1 r0
  have nw : ∀ {H' : Hp} {kvs : List (List Key × V)} {rvs : List (Key × V)}, H' wd = some (.dT kvs) → H' rw = some (.dK rvs) → wd ≠ rw := fun _ _ => wr
  have htl : ∀ i : Nat, i < 2 → ∃ t, [V.str t1, V.str t2][i]? = some (.str t) ∧ [t1, t2][i]? = some t := fun i hi => by
    match i, hi with
    | 0, _ => exact ⟨t1, rfl, rfl⟩
    | 1, _ => exact ⟨t2, rfl, rfl⟩
  have nd : ∀ {i : Nat} {t : Str}, [t1, t2][i]? = some t → t ∉ [t1, t2].take i := fun {i t} hi => by
    match i, hi with
    | 0, _ => simp
    | 1, h => cases h; simpa using Ne.symm hne
    | i + 2, h => simp at h
  refine q_forLn (ev_var rfl) (SqL.of ((e1.trans e2) _ _ ht)) (fun i σ H' => ∃ (x7 x8 x9 : Option V) (kvs : List (List Key × V)) (rvs : List (Key × V)) (cnt : Nat), σ = [some (.ref l), some (.ref np), some (.ref tp), some (.int fl), some (.int ((j + 3 * cnt : Nat) : Int)), some (.ref wd), some (.ref rw), x7, x8, x9] ∧
      Ex H H' ∧ H' wd = some (.dT kvs) ∧ H' rw = some (.dK rvs) ∧ KL kvs cnt ∧ cnt ≤ 180 * i ∧ rvs.length ≤ 3 * i ∧ Dn t1 zs ([t1, t2].take i) kvs rvs H')
    (fun H3 e3 => ⟨_, _, _, [], [], 0, rfl, (e1.trans e2).trans e3, e3 _ _ (e2 _ _ w1), e3 _ _ r1, KL.nil, by simp, by simp, fun t ht => by simp at ht⟩) (fun i σ H' _ ⟨_, _, _, _, _, _, _, e, _⟩ => SqL.of (e _ _ ht)) ?_ ?_
  · rintro i x σ H3 hi ⟨x7, x8, x9, kvs, rvs, cnt, rfl, e3, hw3, hr3, hk3, hc3, hv3, dn⟩
    have hi2 : i < 2 := (List.getElem?_eq_some_iff.mp hi).1
    obtain ⟨t, ht1, ht2⟩ := htl i hi2
    rw [hi] at ht1
    cases ht1
    have tn := nd ht2
    have tOk : ∀ t ∈ [t1, t2], okS t := fun t h => (List.mem_cons.mp h).elim (fun e => e ▸ n1) fun h => by rw [List.mem_singleton.mp h]; exact n2
    -- the rows of the table
    have dr : ∀ {σ : L2.St} {H4 : Hp} {a : Nat} {n : Int}, σ[0]? = some (some (V.ref l)) → σ[4]? = some (some (V.int ((j + 3 * cnt : Nat) : Int))) → Ex H H4 → a ≤ 10 → 0 < n → Ev (tCallS (sp_law_drawn K) (WE (fun cls d _ H => E cls d H)) (tCons (tVar 0) (tCons (tOp (rAddA K) (tVar 4) (tC (.int (a : Int)))) (tCons (tC (.int n)) tNil)))) σ H4 (.int (drawn ns (j + 3 * cnt + a) n)) := fun h0 h1 e hi hn =>
      ev_drawn (j := _) (ex_l e hl) (ev_var h0) (ev_is (ev_op (ev_var h1) ev_c rv_addI) (by rw [← Int.natCast_add])) ev_c (by omega) hn
    have b7 := drawn_bd ns (j + 3 * cnt) (size := 7) (by decide)
    refine q_setK (k := .inr t) (v := .int (drawn ns (j + 3 * cnt) 7)) hr3 (ev_drawn (j := j + 3 * cnt) (ex_l e3 hl) (ev_var rfl) (ev_var rfl) ev_c (by omega) (by decide)) (ev_var rfl) (ev_var rfl) (by omega) fun H4 e4 => ?_
    obtain ⟨n7, h7⟩ : ∃ n7 : Nat, drawn ns (j + 3 * cnt) 7 = (n7 : Int) := ⟨_, (Int.toNat_of_nonneg b7.1).symm⟩
    rw [h7]
    -- what stands behind each of the three: rows r of the table, all else as it was
    have keep : ∀ (rv : List (Key × V)) (v : V), (∀ t' ∈ [t1, t2].take i, valV rv (.inr t') = valV rvs (.inr t')) → ∀ t' ∈ [t1, t2].take i, valV (putK rv (.inr t) v) (.inr t') = valV rvs (.inr t') := fun rv v h t' ht' => by
      rw [valV_put, if_neg fun e => tn (by cases e; exact ht')]
      exact h t' ht'
    have pl : ∀ (rv : List (Key × V)) (v : V), (putK rv (.inr t) v).length ≤ rv.length + 1 := fun rv v => putLen rv _ v
    have loops : ∀ (rv : List (Key × V)) (r : Nat) (H5 : Hp) (D : Ends), D.rt = Q → Ex H H5 → H5 wd = some (.dT kvs) → H5 rw = some (.dK rv) → rv.length ≤ 3 * (i + 1) → valV rv (.inr t) = some (.int (r : Int)) → r ≤ 30 → (t = t1 → 1 ≤ r) → Dn t1 zs ([t1, t2].take i) kvs rv H5 →
        (∀ (x8 x9 : Option V) (kvs' : List (List Key × V)) (cnt' : Nat) (H6 : Hp), Ex H H6 → H6 wd = some (.dT kvs') → H6 rw = some (.dK rv) → KL kvs' cnt' → cnt' ≤ 180 * (i + 1) → Dn t1 zs ([t1, t2].take (i + 1)) kvs' rv H6 →
          D.nx [some (.ref l), some (.ref np), some (.ref tp), some (.int fl), some (.int ((j + 3 * cnt' : Nat) : Int)), some (.ref wd), some (.ref rw), some (.str t), x8, x9] H6) →
        tFor (iList K (tVar 1)) (gName 8) (tFor (iRng1 (tCons (tOp (rIxA K) (tVar 6) (tVar 7)) tNil)) (gName 9) (tSeq (tAsg (tOp (rAddA K) (tVar 4) (tC (.int 3))) (gName 4))
          (tAsg (tCallS (sp_law_value K) (WE (fun cls d _ H => E cls d H)) (tCons (tVar 0) (tCons (tVar 4) (tCons (tVar 3) tNil)))) (gSub (tVar 5) (tTup (tCons (tVar 7) (tCons (tVar 8) (tCons (tVar 9) tNil)))) rSetA)))) D
          [some (.ref l), some (.ref np), some (.ref tp), some (.int fl), some (.int ((j + 3 * cnt : Nat) : Int)), some (.ref wd), some (.ref rw), some (.str t), x8, x9] H5 := by
      intro rv r H5 D hD e5 hw5 hr5 hv5 hvt hr30 hr1 dn5 kD
      refine s_forLn (ev_var rfl) (SqL.of (e5 _ _ hn)) (fun a σ H' => ∃ (x8 x9 : Option V) (kvs' : List (List Key × V)) (cnt' : Nat), σ = [some (.ref l), some (.ref np), some (.ref tp), some (.int fl), some (.int ((j + 3 * cnt' : Nat) : Int)), some (.ref wd), some (.ref rw), some (.str t), x8, x9] ∧
          Ex H H' ∧ H' wd = some (.dT kvs') ∧ H' rw = some (.dK rv) ∧ KL kvs' cnt' ∧ cnt' ≤ cnt + 30 * a ∧ Dn t1 zs ([t1, t2].take i) kvs' rv H' ∧ ∀ z ∈ zs.take a, ∀ p : Nat, p < r → GoodC kvs' H' (t, z, (p : Int)))
        (fun H6 e6 => ⟨_, _, kvs, cnt, rfl, e5.trans e6, e6 _ _ hw5, e6 _ _ hr5, hk3, by simp, dn5.imk (.of e6), fun z hz => by simp at hz⟩) (fun a σ H' _ ⟨_, _, _, _, _, e, _⟩ => SqL.of (e _ _ hn)) ?_ ?_
      · rintro a y σ H6 ha ⟨x8, x9, kvs', cnt', rfl, e6, hw6, hr6, hk6, hc6, dn6, gd6⟩
        rw [List.getElem?_map] at ha
        cases hza : zs[a]? with
        | none => rw [hza] at ha; cases ha
        | some z =>
        rw [hza] at ha
        cases ha
        have za : a < zs.length := (List.getElem?_eq_some_iff.mp hza).1
        have tk : zs.take (a + 1) = zs.take a ++ [z] := by rw [List.take_add_one, hza]; rfl
        refine s_forR1 (n := (r : Int)) (ea_cons (ev_op (ev_var rfl) (ev_var rfl) (rv_ixDk (k := .inr t) hr6 hvt)) ea_nil) (by omega) (fun b σ H' => ∃ (x9 : Option V) (kvs' : List (List Key × V)) (cnt' : Nat), σ = [some (.ref l), some (.ref np), some (.ref tp), some (.int fl), some (.int ((j + 3 * cnt' : Nat) : Int)), some (.ref wd), some (.ref rw), some (.str t), some (.str z), x9] ∧
            Ex H H' ∧ H' wd = some (.dT kvs') ∧ H' rw = some (.dK rv) ∧ KL kvs' cnt' ∧ cnt' ≤ cnt + 30 * a + b ∧ Dn t1 zs ([t1, t2].take i) kvs' rv H' ∧ (∀ z ∈ zs.take a, ∀ p : Nat, p < r → GoodC kvs' H' (t, z, (p : Int))) ∧ ∀ p : Nat, p < b → GoodC kvs' H' (t, z, (p : Int)))
          (fun H7 e7 => ⟨_, kvs', cnt', rfl, e6.trans e7, e7 _ _ hw6, e7 _ _ hr6, hk6, by simpa using hc6, dn6.imk (.of e7), fun z hz p hp => (gd6 z hz p hp).imk (.of e7), fun p hp => by omega⟩) ?_ ?_
        · rintro b σ H7 hb ⟨x9, kvs7, cnt7, rfl, e7, hw7, hr7, hk7, hc7, dn7, gd7, gz7⟩
          have hk7' := hk7.1
          refine q_asg (v := .int ((j + 3 * (cnt7 + 1) : Nat) : Int)) (ev_is (ev_op (ev_var rfl) ev_c rv_addI) (by congr 1 <;> omega)) fun H8 e8 => ?_
          refine s_setCell (kvs := kvs7) (s := (t, z, (b : Int))) (j := j + 3 * (cnt7 + 1)) (ex_l (e7.trans e8) hl) (ev_var rfl) (ev_var rfl) (ev_var rfl) (by omega) (e8 _ _ hw7) (by omega) (ev_var rfl) (ev_var rfl) (ev_var rfl) (ev_var rfl) fun x v H9 ox e9 rv9 => ?_
          have e89 := e8.trans e9
          have im : Imk H7 (L2.upd H9 wd (.dT (putK kvs7 (keyS (t, z, (b : Int))) v))) := (Imk.of e89).trans (ImkT (e89 _ _ hw7))
          have rvU : Vt (L2.upd H9 wd (.dT (putK kvs7 (keyS (t, z, (b : Int))) v))) v (dV x) := rv9.tup (ImkT (e89 _ _ hw7)).tup
          refine ⟨_, putK kvs7 (keyS (t, z, (b : Int))) v, cnt7 + 1, rfl, Ex.mut (e7.trans e89) w0, upd_same, (upd_ne (Ne.symm wr)).trans (e89 _ _ hr7), ?_, by omega, (dn7.imk im).put ox rvU, fun z' hz' p hp => ((gd7 z' hz' p hp).imk im).put ox rvU, fun p hp => ?_⟩
          · exact hk7.put ⟨tOk t (List.mem_of_getElem? ht2), nzs z (List.mem_of_getElem? hza)⟩
          · by_cases hpb : p < b
            · exact ((gz7 p hpb).imk im).put ox rvU
            · have : p = b := by omega
              subst this
              exact ⟨v, x, by rw [valV_put, if_pos rfl], ox, rvU⟩
        · rintro σ H7 ⟨x9, kvs7, cnt7, rfl, e7, hw7, hr7, hk7, hc7, dn7, gd7, gz7⟩
          refine ⟨_, _, kvs7, cnt7, rfl, e7, hw7, hr7, hk7, by omega, dn7, fun z' hz' p hp => ?_⟩
          rw [tk] at hz'
          rcases List.mem_append.mp hz' with q | q
          · exact gd7 z' q p hp
          · rw [List.mem_singleton.mp q]
            exact gz7 p (by omega)
      · rintro σ H6 ⟨x8, x9, kvs', cnt', rfl, e6, hw6, hr6, hk6, hc6, dn6, gd6⟩
        rw [List.length_map] at hc6 gd6
        rw [List.take_length] at gd6
        refine kD _ _ kvs' cnt' H6 e6 hw6 hr6 hk6 (by omega) fun t' ht' => ?_
        rw [List.take_add_one, ht2] at ht'
        rcases List.mem_append.mp ht' with q | q
        · exact dn6 t' q
        · have : t' = t := by simpa using q
          subst this
          exact ⟨r, hvt, hr30, hr1, gd6⟩
    -- the three statements
    have s4 : Ex H (L2.upd H4 rw (.dK (putK rvs (.inr t) (.int (n7 : Int))))) := Ex.mut (e3.trans e4) r00
    have v4 : valV (putK rvs (.inr t) (.int (n7 : Int))) (.inr t) = some (.int (n7 : Int)) := by rw [valV_put, if_pos rfl]
    have d4 := ((dn.imk (.of e4)).imk (ImkK (e4 _ _ hr3) (u := .dK (putK rvs (.inr t) (.int (n7 : Int)))))).rows (keep rvs (.int (n7 : Int)) fun _ _ => rfl)
    have w4 := (upd_ne (H := H4) (o := .dK (putK rvs (.inr t) (.int (n7 : Int)))) wr).trans (e4 _ _ hw3)
    have l4 := pl rvs (.int (n7 : Int))
    have last : ∀ (rv : List (Key × V)) (r : Nat) (H5 : Hp) (D : Ends), D.rt = Q → Ex H H5 → H5 wd = some (.dT kvs) → H5 rw = some (.dK rv) → rv.length ≤ 3 * i + 2 → valV rv (.inr t) = some (.int (r : Int)) → r ≤ 30 → Dn t1 zs ([t1, t2].take i) kvs rv H5 → (∀ t' ∈ [t1, t2].take i, valV rv (.inr t') = valV rvs (.inr t')) →
        (∀ (x8 x9 : Option V) (kvs' : List (List Key × V)) (rv : List (Key × V)) (cnt' : Nat) (H6 : Hp), Ex H H6 → H6 wd = some (.dT kvs') → H6 rw = some (.dK rv) → KL kvs' cnt' → cnt' ≤ 180 * (i + 1) → rv.length ≤ 3 * (i + 1) → Dn t1 zs ([t1, t2].take (i + 1)) kvs' rv H6 →
          D.nx [some (.ref l), some (.ref np), some (.ref tp), some (.int fl), some (.int ((j + 3 * cnt' : Nat) : Int)), some (.ref wd), some (.ref rw), some (.str t), x8, x9] H6) →
        tSeq (tIfS (tTest (tOp (rEqA K) (tVar 7) (tOp (rIxA K) (tVar 2) (tC (.int 0))))) (tAsg (tCB rMax2 (tCons (tC (.int 1)) (tCons (tOp (rIxA K) (tVar 6) (tVar 7)) tNil))) (gSub (tVar 6) (tVar 7) rSetA)) tNext)
          (tFor (iList K (tVar 1)) (gName 8) (tFor (iRng1 (tCons (tOp (rIxA K) (tVar 6) (tVar 7)) tNil)) (gName 9) (tSeq (tAsg (tOp (rAddA K) (tVar 4) (tC (.int 3))) (gName 4))
          (tAsg (tCallS (sp_law_value K) (WE (fun cls d _ H => E cls d H)) (tCons (tVar 0) (tCons (tVar 4) (tCons (tVar 3) tNil)))) (gSub (tVar 5) (tTup (tCons (tVar 7) (tCons (tVar 8) (tCons (tVar 9) tNil)))) rSetA))))) D
          [some (.ref l), some (.ref np), some (.ref tp), some (.int fl), some (.int ((j + 3 * cnt : Nat) : Int)), some (.ref wd), some (.ref rw), some (.str t), x8, x9] H5 := by
      intro rv r H5 D hD e5 hw5 hr5 hl5 hv5 h30 dn5 ks kD
      refine q_ifSetK (k := .inr t) (v := .int (if (r : Int) > 1 then (r : Int) else 1)) (et_test (ev_op (ev_var rfl) (ev_op (ev_var rfl) ev_c (rv_itL (v := .str t1) (SqL.of (e5 _ _ ht)) rfl)) (rv_eqS rfl))) hr5 (fun _ => ev_max2 ev_c (ev_op (ev_var rfl) (ev_var rfl) (rv_ixDk (k := .inr t) hr5 hv5))) (ev_var rfl) (ev_var rfl) (by omega) (fun hb H6 e6 => ?_) (fun hb H6 e6 => ?_)
      · have em : (if (r : Int) > 1 then (r : Int) else 1) = ((max r 1 : Nat) : Int) := by
          split <;> omega
        rw [em]
        refine loops (putK rv (.inr t) (.int ((max r 1 : Nat) : Int))) (max r 1) _ D hD (Ex.mut (e5.trans e6) r00) ((upd_ne wr).trans (e6 _ _ hw5)) upd_same (by have := pl rv (.int ((max r 1 : Nat) : Int)); omega) (by rw [valV_put, if_pos rfl]) (by omega) (fun _ => by omega)
          (((dn5.imk (.of e6)).imk (ImkK (e6 _ _ hr5))).rows fun t' ht' => ?_) fun x8 x9 kvs' cnt' H7 a b c d e f => kD x8 x9 kvs' _ cnt' H7 a b c d e (by have := pl rv (.int ((max r 1 : Nat) : Int)); omega) f
        rw [keep rv _ ks t' ht', ks t' ht']
      · exact loops rv r H6 D hD (e5.trans e6) (e6 _ _ hw5) (e6 _ _ hr5) (by omega) hv5 h30 (fun e => absurd (by rw [e] : (V.str t = V.str t1)) (of_decide_eq_false hb)) (dn5.imk (.of e6)) fun x8 x9 kvs' cnt' H7 a b c d e f => kD x8 x9 kvs' _ cnt' H7 a b c d e (by omega) f
    refine q_ifSetK (k := .inr t) (v := .int 30) (et_test (ev_op (dr (a := 1) rfl rfl s4 (by decide) (by decide)) ev_c (rv_eqS rfl))) upd_same (fun _ => ev_c) (ev_var rfl) (ev_var rfl) (by omega) (fun _ H5 e5 => ?_) (fun _ H5 e5 => ?_)
    · exact last (putK (putK rvs (.inr t) (.int (n7 : Int))) (.inr t) (.int 30)) 30 _ _ rfl (Ex.mut (s4.trans e5) r00) ((upd_ne wr).trans (e5 _ _ w4)) upd_same (by have := pl (putK rvs (.inr t) (.int (n7 : Int))) (.int 30); omega) (by rw [valV_put, if_pos rfl]; rfl) (by decide)
        (((d4.imk (.of e5)).imk (ImkK (e5 _ _ upd_same))).rows fun t' ht' => by rw [keep _ _ (keep rvs (.int (n7 : Int)) fun _ _ => rfl) t' ht', keep rvs (.int (n7 : Int)) (fun _ _ => rfl) t' ht']) (keep _ _ (keep rvs (.int (n7 : Int)) fun _ _ => rfl)) (fun x8 x9 kvs' rv cnt' H6 a b c d e f g => ⟨_, x8, x9, kvs', rv, cnt', rfl, a, b, c, d, e, f, g⟩)
    · exact last (putK rvs (.inr t) (.int (n7 : Int))) n7 _ _ rfl (s4.trans e5) (e5 _ _ w4) (e5 _ _ upd_same) (by omega) v4 (by omega) (d4.imk (.of e5)) (keep rvs (.int (n7 : Int)) fun _ _ => rfl) (fun x8 x9 kvs' rv cnt' H6 a b c d e f g => ⟨_, x8, x9, kvs', rv, cnt', rfl, a, b, c, d, e, f, g⟩)
  · rintro σ H3 ⟨x7, x8, x9, kvs, rvs, cnt, rfl, e3, hw3, hr3, hk3, hc3, hv3, dn⟩
    have dn : Dn t1 zs [t1, t2] kvs rvs H3 := dn
    refine s_retU (eu_tup (ea_cons (ev_var rfl) (ea_cons (ev_var rfl) ea_nil)) (show 2 ≤ 100000 by decide)) fun a H4 _ e4 h4 => ?_
    have E4 := e3.trans e4
    classical
    -- the values and rows, read off
    refine k a wd rw H4 (fun s => if g : GoodC kvs H3 s then (Classical.choose (Classical.choose_spec g)) else .inl 0) (fun t => if g : ∃ r : Nat, valV rvs (.inr t) = some (.int (r : Int)) ∧ r ≤ 30 then Classical.choose g else 0) E4 h4 ⟨kvs, e4 _ _ hw3, hk3.2, by have := hk3.1; have hc3 : cnt ≤ 180 * 2 := hc3; omega⟩ ⟨⟨kvs, e4 _ _ hw3, fun s ⟨d1, d2, p, hp, hlt⟩ => ?_⟩, ⟨rvs, e4 _ _ hr3, fun t mt => ?_⟩, fun s => ?_, fun t mt => ?_⟩ ?_
    · obtain ⟨r, hr, h30, _, gd⟩ := dn s.1 d1
      have g0 : ∃ r : Nat, valV rvs (.inr s.1) = some (.int (r : Int)) ∧ r ≤ 30 := ⟨r, hr, h30⟩
      dsimp only at hlt
      rw [dif_pos g0] at hlt
      have er : Classical.choose g0 = r := by
        have := hr.symm.trans (Classical.choose_spec g0).1
        injection this with this
        injection this with this
        omega
      rw [er] at hlt
      have gs : GoodC kvs H3 s := by
        have := gd s.2.1 d2 p hlt
        rw [← hp] at this
        exact this
      try dsimp only
      rw [dif_pos gs]
      obtain ⟨q1, q2, q3⟩ := Classical.choose_spec (Classical.choose_spec gs)
      exact ⟨_, q1, q3.tup (.of_ex e4)⟩
    · obtain ⟨r, hr, h30, _⟩ := dn t mt
      have g0 : ∃ r : Nat, valV rvs (.inr t) = some (.int (r : Int)) ∧ r ≤ 30 := ⟨r, hr, h30⟩
      try dsimp only
      rw [dif_pos g0]
      exact (Classical.choose_spec g0).1
    · try dsimp only
      split
      · rename_i gs
        exact (Classical.choose_spec (Classical.choose_spec gs)).2.1
      · exact ⟨by decide, by decide⟩
    · try dsimp only
      split
      · rename_i g0
        exact (Classical.choose_spec g0).2
      · omega
    · obtain ⟨r, hr, h30, h1, _⟩ := dn t1 (by simp)
      have g0 : ∃ r : Nat, valV rvs (.inr t1) = some (.int (r : Int)) ∧ r ≤ 30 := ⟨r, hr, h30⟩
      try dsimp only
      rw [dif_pos g0]
      have := hr.symm.trans (Classical.choose_spec g0).1
      injection this with this
      injection this with this
      have := h1 rfl
      omega
end
end Z
namespace Z
open PySem PySem.Spec PyProof.Rows L2 Evl NdefX LamX
/-! ### the plain law: what is asked decides what is told -/
theorem turn_sub {W : Spot → Val} : ∀ {ss : List Spot} {s : Spot}, s ∈ (turn W ss).2 → s ∈ ss
  | [], s, h => by cases h
  | x :: r, s, h => by
    rw [turn] at h
    cases hw : W x with
    | inr z =>
      rw [hw] at h
      rw [List.mem_singleton.mp h]
      exact List.mem_cons_self
    | inl n =>
      rw [hw] at h
      dsimp only at h
      have ih := @turn_sub W r s
      cases q : turn W r with
      | mk a b =>
        rw [q] at h ih
        cases a <;> (dsimp only at h ih; rcases List.mem_cons.mp h with z | z; exact z ▸ List.mem_cons_self; exact List.mem_cons_of_mem _ (ih z))
theorem turn_cons {W : Spot → Val} {x : Spot} {r : List Spot} : turn W (x :: r) = match W x with | .inr w => (.val (.inr w), [x]) | .inl i => pre [i] [x] (turn W r) := by
  rw [turn]
  cases W x with
  | inr w => rfl
  | inl i =>
    dsimp only
    cases q : turn W r with
    | mk a b => cases a <;> rfl
theorem pre_2 {is : List Int} {sp : List Spot} {r : Res × List Spot} : (pre is sp r).2 = sp ++ r.2 := rfl
theorem pre_val1 {is : List Int} {sp : List Spot} {r : Res × List Spot} {x : Val} (h : (pre is sp r).1 = .val x) : r.1 = .val x := by
  obtain ⟨a, b⟩ := r
  cases a with
  | val y => exact h
  | call js => cases h
theorem turn_cg {W W' : Spot → Val} : ∀ {ss : List Spot}, (∀ s ∈ (turn W ss).2, W s = W' s) → turn W' ss = turn W ss
  | [], _ => rfl
  | x :: r, h => by
    rw [turn_cons] at h
    rw [turn_cons, turn_cons]
    cases hw : W x with
    | inr w =>
      rw [hw] at h
      rw [← h x (by dsimp only; simp), hw]
    | inl i =>
      rw [hw] at h
      dsimp only at h
      rw [pre_2] at h
      rw [← h x (by simp), hw]
      dsimp only
      rw [turn_cg fun s hs => h s (by simp [hs])]
theorem grp_cons {W : Spot → Val} {t key name : Str} {m : Int} {i : Nat} {r : List Nat} : grp W t key name m (i :: r) = if W (t, key, (i : Int)) = .inl m then (match W (t, name, (i : Int)) with
      | .inr w => (.val (.inr w), [(t, key, (i : Int)), (t, name, (i : Int))])
      | .inl x => pre [x] [(t, key, (i : Int)), (t, name, (i : Int))] (grp W t key name m r)) else pre [] [(t, key, (i : Int))] (grp W t key name m r) := by first | (rw [grp]; done) | (rw [grp]; rfl)
theorem grp_cg {W W' : Spot → Val} {t key name : Str} {m : Int} : ∀ {l : List Nat}, (∀ s ∈ (grp W t key name m l).2, W s = W' s) → grp W' t key name m l = grp W t key name m l
  | [], _ => rfl
  | i :: r, h => by
    rw [grp_cons] at h
    rw [grp_cons, grp_cons]
    by_cases e : W (t, key, (i : Int)) = .inl m
    · rw [if_pos e] at h
      have e1 : W (t, key, (i : Int)) = W' (t, key, (i : Int)) := h _ (by cases W (t, name, (i : Int)) <;> (dsimp only; simp [pre_2]))
      have e2 : W (t, name, (i : Int)) = W' (t, name, (i : Int)) := h _ (by cases W (t, name, (i : Int)) <;> (dsimp only; simp [pre_2]))
      rw [← e1, ← e2, if_pos e, if_pos e]
      cases hw : W (t, name, (i : Int)) with
      | inr w => rfl
      | inl x =>
        rw [hw] at h
        dsimp only at h ⊢
        rw [pre_2] at h
        rw [grp_cg fun s hs => h s (by simp [hs])]
    · rw [if_neg e, pre_2] at h
      have e1 : W (t, key, (i : Int)) = W' (t, key, (i : Int)) := h _ (by simp)
      rw [← e1, if_neg e, if_neg e, grp_cg fun s hs => h s (by simp [hs])]
theorem lkp_cons {W : Spot → Val} {o th : Str} {zs : List Str} {m : Int} {i : Nat} {r : List Nat} : lkp W o th zs m (i :: r) = pre [] [(o, th, (i : Int))] (if W (o, th, (i : Int)) = .inl m then turn W (zs.map fun z => (o, z, (i : Int))) else lkp W o th zs m r) := by first | (rw [lkp]; done) | (rw [lkp]; rfl)
theorem lkp_cg {W W' : Spot → Val} {o th : Str} {zs : List Str} {m : Int} : ∀ {l : List Nat}, (∀ s ∈ (lkp W o th zs m l).2, W s = W' s) → lkp W' o th zs m l = lkp W o th zs m l
  | [], _ => rfl
  | i :: r, h => by
    rw [lkp_cons, pre_2] at h
    rw [lkp_cons, lkp_cons]
    have e1 : W (o, th, (i : Int)) = W' (o, th, (i : Int)) := h _ (by simp)
    rw [← e1]
    by_cases e : W (o, th, (i : Int)) = .inl m
    · rw [if_pos e] at h ⊢
      rw [if_pos e, turn_cg fun s hs => h s (List.mem_append_right _ hs)]
    · rw [if_neg e] at h ⊢
      rw [if_neg e, lkp_cg fun s hs => h s (List.mem_append_right _ hs)]
/-- what a rule of a kind gathers -/
def gK (kind : Int) (W : Spot → Val) (R : Str → Nat) (t own n0 n1 n2 : Str) (ws : List Str) (p : Int) : Res × List Spot :=
  if kind = 0 then gCells W t ws p else if kind = 1 then gAbove W 5 t own ws p else if kind = 2 then gGroup W R t n0 n1 p else if kind = 3 then gLookup W R t n0 n1 n2 ws p else gMend W t n0 p
section
variable {W W' : Spot → Val} {R : Str → Nat} {t own n0 n1 n2 : Str} {ws : List Str} {p kind : Int}
theorem gK_cg (h : ∀ s ∈ (gK kind W R t own n0 n1 n2 ws p).2, W s = W' s) : gK kind W' R t own n0 n1 n2 ws p = gK kind W R t own n0 n1 n2 ws p := by
  unfold gK at h ⊢
  split
  · rename_i e
    rw [if_pos e] at h
    exact turn_cg h
  rename_i e
  rw [if_neg e] at h
  split
  · rename_i e1
    rw [if_pos e1] at h
    unfold gAbove at h ⊢
    split
    · rename_i hp
      rw [if_pos hp] at h
      exact turn_cg h
    · rename_i hp
      rw [if_neg hp, pre_2] at h
      rw [turn_cg fun s hs => h s (List.mem_append_right _ hs)]
  rename_i e1
  rw [if_neg e1] at h
  split
  · rename_i e2
    rw [if_pos e2] at h
    unfold gGroup at h ⊢
    cases hw : W (t, n0, p) with
    | inr w =>
      rw [hw] at h
      rw [← h (t, n0, p) (by dsimp only; simp), hw]
    | inl m =>
      rw [hw] at h
      dsimp only at h
      rw [pre_2] at h
      rw [← h (t, n0, p) (by simp), hw]
      dsimp only
      rw [grp_cg fun s hs => h s (List.mem_append_right _ hs)]
  rename_i e2
  rw [if_neg e2] at h
  split
  · rename_i e3
    rw [if_pos e3] at h
    unfold gLookup at h ⊢
    cases hw : W (t, n0, p) with
    | inr w =>
      rw [hw] at h
      rw [← h (t, n0, p) (by dsimp only; simp), hw]
    | inl m =>
      rw [hw] at h
      dsimp only at h
      rw [pre_2] at h
      rw [← h (t, n0, p) (by simp), hw]
      dsimp only
      rw [lkp_cg fun s hs => h s (List.mem_append_right _ hs)]
  rename_i e3
  rw [if_neg e3] at h
  have e := h (t, n0, p) (by unfold gMend; cases W (t, n0, p) <;> (dsimp only; simp))
  unfold gMend
  rw [← e]
/-- where it looks -/
theorem grp_at {t key name : Str} {m : Int} : ∀ {l : List Nat} {s : Spot}, s ∈ (grp W t key name m l).2 → s.1 = t ∧ (s.2.1 = key ∨ s.2.1 = name) ∧ ∃ i ∈ l, s.2.2 = (i : Int)
  | [], s, h => by cases h
  | i :: r, s, h => by
    rw [grp_cons] at h
    have ih := fun h => @grp_at t key name m r s h
    have rest : s ∈ (grp W t key name m r).2 → s.1 = t ∧ (s.2.1 = key ∨ s.2.1 = name) ∧ ∃ j ∈ i :: r, s.2.2 = (j : Int) := fun h => let ⟨a, b, j, c, d⟩ := ih h; ⟨a, b, j, List.mem_cons_of_mem _ c, d⟩
    have two : s ∈ [(t, key, (i : Int)), (t, name, (i : Int))] → s.1 = t ∧ (s.2.1 = key ∨ s.2.1 = name) ∧ ∃ j ∈ i :: r, s.2.2 = (j : Int) := fun h => by
      rcases List.mem_cons.mp h with e | h
      · rw [e]; exact ⟨rfl, .inl rfl, i, List.mem_cons_self, rfl⟩
      · rw [List.mem_singleton.mp h]; exact ⟨rfl, .inr rfl, i, List.mem_cons_self, rfl⟩
    split at h
    · cases hw : W (t, name, (i : Int)) with
      | inr w => rw [hw] at h; exact two h
      | inl x =>
        rw [hw] at h
        dsimp only at h
        rw [pre_2] at h
        rcases List.mem_append.mp h with h | h
        · exact two h
        · exact rest h
    · rw [pre_2] at h
      rcases List.mem_append.mp h with h | h
      · rw [List.mem_singleton.mp h]; exact ⟨rfl, .inl rfl, i, List.mem_cons_self, rfl⟩
      · exact rest h
theorem lkp_at {o th : Str} {zs : List Str} {m : Int} : ∀ {l : List Nat} {s : Spot}, s ∈ (lkp W o th zs m l).2 → s.1 = o ∧ (s.2.1 = th ∨ s.2.1 ∈ zs) ∧ ∃ i ∈ l, s.2.2 = (i : Int)
  | [], s, h => by cases h
  | i :: r, s, h => by
    rw [lkp_cons, pre_2] at h
    rcases List.mem_append.mp h with h | h
    · rw [List.mem_singleton.mp h]; exact ⟨rfl, .inl rfl, i, List.mem_cons_self, rfl⟩
    · split at h
      · obtain ⟨z, hz, e⟩ := List.mem_map.mp (turn_sub h)
        rw [← e]
        exact ⟨rfl, .inr hz, i, List.mem_cons_self, rfl⟩
      · obtain ⟨a, b, j, c, d⟩ := lkp_at h
        exact ⟨a, b, j, List.mem_cons_of_mem _ c, d⟩
theorem gK_lean {s : Spot} (h0 : 0 ≤ kind) (h : s ∈ (gK kind W R t own n0 n1 n2 ws p).2) : (s.1, s.2.1) ∈ dueP kind n0 n1 n2 ws t ∨ (kind = 1 ∧ 0 < p ∧ s = (t, own, p - 1)) := by
  unfold gK at h
  unfold dueP
  have ofm : s ∈ ws.map (fun z => ((t, z, p) : Spot)) → (s.1, s.2.1) ∈ ws.map (fun z => ((t, z) : Pt)) := fun h => by
    obtain ⟨z, hz, rfl⟩ := List.mem_map.mp h
    exact List.mem_map.mpr ⟨z, hz, rfl⟩
  split at h
  · rename_i e
    rw [if_pos (by omega)]
    exact .inl (ofm (turn_sub h))
  rename_i e
  split at h
  · rename_i e1
    rw [if_pos (by omega)]
    unfold gAbove at h
    split at h
    · rename_i hp
      rcases List.mem_cons.mp (turn_sub h) with z | z
      · exact .inr ⟨e1, hp, z⟩
      · exact .inl (ofm z)
    · rw [pre_2] at h
      exact .inl (ofm (turn_sub (by simpa using h)))
  rename_i e1
  rw [if_neg (show ¬ kind < 2 by omega) ] at *
  left
  split at h
  · rename_i e2
    rw [if_pos e2]
    unfold gGroup at h
    cases hw : W (t, n0, p) with
    | inr w =>
      rw [hw] at h
      rw [List.mem_singleton.mp h]
      exact List.mem_cons_self
    | inl m =>
      rw [hw] at h
      dsimp only at h
      rw [pre_2] at h
      rcases List.mem_append.mp h with h | h
      · rw [List.mem_singleton.mp h]
        exact List.mem_cons_self
      · obtain ⟨a, b, _⟩ := grp_at h
        rw [a]
        rcases b with b | b
        · rw [b]; exact List.mem_cons_self
        · rw [b]; exact List.mem_cons_of_mem _ (List.mem_singleton_self _)
  rename_i e2
  rw [if_neg e2]
  split at h
  · rename_i e3
    rw [if_pos e3]
    unfold gLookup at h
    cases hw : W (t, n0, p) with
    | inr w =>
      rw [hw] at h
      rw [List.mem_singleton.mp h]
      exact List.mem_cons_self
    | inl m =>
      rw [hw] at h
      dsimp only at h
      rw [pre_2] at h
      rcases List.mem_append.mp h with h | h
      · rw [List.mem_singleton.mp h]
        exact List.mem_cons_self
      · obtain ⟨a, b, _⟩ := lkp_at h
        rw [a]
        refine List.mem_cons_of_mem _ (List.mem_map.mpr ⟨s.2.1, ?_, rfl⟩)
        rcases b with b | b
        · rw [b]; exact List.mem_cons_self
        · exact List.mem_cons_of_mem _ b
  rename_i e3
  rw [if_neg e3]
  unfold gMend at h
  cases hw : W (t, n0, p) <;> (rw [hw] at h; rw [List.mem_singleton.mp h]; exact List.mem_singleton_self _)
/-- a fault that is told is that of the cell asked last, for the first time -/
def Last (W : Spot → Val) (r : Res × List Spot) (w : Str) : Prop := ∃ l s, r.2 = l ++ [s] ∧ s ∉ l ∧ W s = .inr w
theorem turn_last : ∀ {ss : List Spot} {x : Val}, (turn W ss).1 = .val x → ∃ w, x = .inr w ∧ ∃ l s, (turn W ss).2 = l ++ [s] ∧ (∀ q ∈ l, ∃ i, W q = .inl i) ∧ W s = .inr w
  | [], x, h => by cases h
  | y :: r, x, h => by
    rw [turn_cons] at h ⊢
    cases hw : W y with
    | inr w =>
      rw [hw] at h
      cases h
      exact ⟨w, rfl, [], y, rfl, (fun q hq => by simp at hq), hw⟩
    | inl i =>
      rw [hw] at h
      dsimp only at h ⊢
      obtain ⟨w, e, l, s, h1, h2, h3⟩ := turn_last (pre_val1 h)
      refine ⟨w, e, y :: l, s, by rw [pre_2, h1]; rfl, fun q hq => ?_, h3⟩
      rcases List.mem_cons.mp hq with e | hq
      · rw [e]; exact ⟨i, hw⟩
      · exact h2 q hq
theorem notin_num {l : List Spot} {s : Spot} {w : Str} (h : ∀ q ∈ l, ∃ i, W q = .inl i) (hs : W s = .inr w) : s ∉ l := fun hm => by
  obtain ⟨i, e⟩ := h s hm
  rw [hs] at e
  cases e
theorem grp_last {t key name : Str} {m : Int} : ∀ {l : List Nat} {x : Val}, l.Nodup → (grp W t key name m l).1 = .val x → ∃ w, x = .inr w ∧ Last W (grp W t key name m l) w
  | [], x, _, h => by cases h
  | i :: r, x, nd, h => by
    rw [List.nodup_cons] at nd
    rw [grp_cons] at h ⊢
    by_cases e : W (t, key, (i : Int)) = .inl m
    · rw [if_pos e] at h ⊢
      cases hw : W (t, name, (i : Int)) with
      | inr w =>
        rw [hw] at h
        cases h
        refine ⟨w, rfl, [(t, key, (i : Int))], _, rfl, fun hm => ?_, hw⟩
        rw [List.mem_singleton.mp hm, e] at hw
        cases hw
      | inl y =>
        rw [hw] at h
        dsimp only at h ⊢
        obtain ⟨w, e1, l, s, h1, h2, h3⟩ := grp_last nd.2 (pre_val1 h)
        obtain ⟨_, _, j, hj, ej⟩ := grp_at (W := W) (t := t) (key := key) (name := name) (m := m) (l := r) (s := s) (by rw [h1]; simp)
        refine ⟨w, e1, (t, key, (i : Int)) :: (t, name, (i : Int)) :: l, s, by rw [pre_2, h1]; rfl, fun hm => ?_, h3⟩
        have ne : s.2.2 ≠ (i : Int) := fun z => nd.1 (by rw [ej] at z; have : j = i := by omega
                                                         rw [← this]; exact hj)
        rcases List.mem_cons.mp hm with z | hm
        · exact ne (by rw [z])
        rcases List.mem_cons.mp hm with z | hm
        · exact ne (by rw [z])
        · exact h2 hm
    · rw [if_neg e] at h ⊢
      obtain ⟨w, e1, l, s, h1, h2, h3⟩ := grp_last nd.2 (pre_val1 h)
      obtain ⟨_, _, j, hj, ej⟩ := grp_at (W := W) (t := t) (key := key) (name := name) (m := m) (l := r) (s := s) (by rw [h1]; simp)
      refine ⟨w, e1, (t, key, (i : Int)) :: l, s, by rw [pre_2, h1]; rfl, fun hm => ?_, h3⟩
      rcases List.mem_cons.mp hm with z | hm
      · refine nd.1 ?_
        have : s.2.2 = (i : Int) := by rw [z]
        rw [ej] at this
        have : j = i := by omega
        rw [← this]; exact hj
      · exact h2 hm
theorem lkp_last {o th : Str} {zs : List Str} {m : Int} : ∀ {l : List Nat} {x : Val}, l.Nodup → (lkp W o th zs m l).1 = .val x → ∃ w, x = .inr w ∧ (w = "lacks" ∨ Last W (lkp W o th zs m l) w)
  | [], x, _, h => by cases h; exact ⟨_, rfl, .inl rfl⟩
  | i :: r, x, nd, h => by
    rw [List.nodup_cons] at nd
    rw [lkp_cons] at h ⊢
    have h' := pre_val1 h
    by_cases e : W (o, th, (i : Int)) = .inl m
    · rw [if_pos e] at h' ⊢
      obtain ⟨w, e1, l, s, h1, h2, h3⟩ := turn_last h'
      refine ⟨w, e1, .inr ⟨(o, th, (i : Int)) :: l, s, by rw [pre_2, h1]; rfl, notin_num (W := W) (w := w) (fun q hq => ?_) h3, h3⟩⟩
      rcases List.mem_cons.mp hq with z | hq
      · rw [z]; exact ⟨m, e⟩
      · exact h2 q hq
    · rw [if_neg e] at h' ⊢
      obtain ⟨w, e1, z | ⟨l, s, h1, h2, h3⟩⟩ := lkp_last nd.2 h'
      · exact ⟨w, e1, .inl z⟩
      obtain ⟨_, _, j, hj, ej⟩ := lkp_at (W := W) (o := o) (th := th) (zs := zs) (m := m) (l := r) (s := s) (by rw [h1]; simp)
      refine ⟨w, e1, .inr ⟨(o, th, (i : Int)) :: l, s, by rw [pre_2, h1]; rfl, fun hm => ?_, h3⟩⟩
      rcases List.mem_cons.mp hm with z | hm
      · refine nd.1 ?_
        have : s.2.2 = (i : Int) := by rw [z]
        rw [ej] at this
        have : j = i := by omega
        rw [← this]; exact hj
      · exact h2 hm
theorem Last.cons {r : Res × List Spot} {w : Str} {q : Spot} {i : Int} {is : List Int} (h : Last W r w) (hq : W q = .inl i) : Last W (pre is [q] r) w := by
  obtain ⟨l, s, h1, h2, h3⟩ := h
  refine ⟨q :: l, s, by rw [pre_2, h1]; rfl, fun hm => ?_, h3⟩
  rcases List.mem_cons.mp hm with z | hm
  · rw [z, hq] at h3; cases h3
  · exact h2 hm
theorem gK_val {x : Val} (h : (gK kind W R t own n0 n1 n2 ws p).1 = .val x) : ((kind ≠ 0 ∧ kind ≠ 1 ∧ kind ≠ 2 ∧ kind ≠ 3) ∧ ∃ i, x = .inl i) ∨ ∃ w, x = .inr w ∧ ((kind = 3 ∧ w = "lacks") ∨ Last W (gK kind W R t own n0 n1 n2 ws p) w) := by
  have tl : ∀ {ss : List Spot}, (turn W ss).1 = .val x → ∃ w, x = .inr w ∧ Last W (turn W ss) w := fun h => let ⟨w, e, l, s, a, b, c⟩ := turn_last h; ⟨w, e, l, s, a, notin_num b c, c⟩
  unfold gK at h ⊢
  split at h
  · rename_i e
    rw [if_pos e]
    obtain ⟨w, e, L⟩ := tl h
    exact .inr ⟨w, e, .inr L⟩
  rename_i e
  rw [if_neg e]
  split at h
  · rename_i e1
    rw [if_pos e1]
    unfold gAbove at h ⊢
    split at h
    · rename_i hp
      rw [if_pos hp]
      obtain ⟨w, e, L⟩ := tl h
      exact .inr ⟨w, e, .inr L⟩
    · rename_i hp
      rw [if_neg hp]
      obtain ⟨w, e, l, s, a, b, c⟩ := tl (pre_val1 h)
      exact .inr ⟨w, e, .inr ⟨l, s, by rw [pre_2, a]; rfl, b, c⟩⟩
  rename_i e1
  rw [if_neg e1]
  split at h
  · rename_i e2
    rw [if_pos e2]
    unfold gGroup at h ⊢
    cases hw : W (t, n0, p) with
    | inr w =>
      rw [hw] at h
      cases h
      exact .inr ⟨w, rfl, .inr ⟨[], _, rfl, (fun z => by simp at z), hw⟩⟩
    | inl m =>
      rw [hw] at h
      dsimp only at h ⊢
      obtain ⟨w, e, L⟩ := grp_last List.nodup_range (pre_val1 h)
      exact .inr ⟨w, e, .inr (L.cons hw)⟩
  rename_i e2
  rw [if_neg e2]
  split at h
  · rename_i e3
    rw [if_pos e3]
    unfold gLookup at h ⊢
    cases hw : W (t, n0, p) with
    | inr w =>
      rw [hw] at h
      cases h
      exact .inr ⟨w, rfl, .inr ⟨[], _, rfl, (fun z => by simp at z), hw⟩⟩
    | inl m =>
      rw [hw] at h
      dsimp only at h ⊢
      obtain ⟨w, e, z | L⟩ := lkp_last List.nodup_range (pre_val1 h)
      · exact .inr ⟨w, e, .inl ⟨e3, z⟩⟩
      · exact .inr ⟨w, e, .inr (L.cons hw)⟩
  rename_i e3
  rw [if_neg e3]
  unfold gMend at h
  cases hw : W (t, n0, p) with
  | inr w => rw [hw] at h; cases h
  | inl i => rw [hw] at h; cases h; exact .inl ⟨⟨e, e1, e2, e3⟩, i, rfl⟩
theorem turn_empty : ∀ {ss : List Spot}, (turn W ss).2 = [] → turn W ss = (.call [], [])
  | [], _ => rfl
  | x :: r, h => by
    rw [turn_cons] at h
    cases hw : W x with
    | inr w => rw [hw] at h; cases h
    | inl i => rw [hw] at h; cases h
theorem gK_empty (h : (gK kind W R t own n0 n1 n2 ws p).2 = []) : (gK kind W R t own n0 n1 n2 ws p).1 = .call [] ∨ (gK kind W R t own n0 n1 n2 ws p).1 = .call [5] := by
  unfold gK at h ⊢
  split at h
  · rename_i e
    rw [if_pos e]
    left
    show (turn W _).1 = _
    rw [turn_empty h]
  rename_i e
  rw [if_neg e]
  split at h
  · rename_i e1
    rw [if_pos e1]
    unfold gAbove at h ⊢
    split at h
    · rename_i hp
      rw [if_pos hp]
      left
      rw [turn_empty h]
    · rename_i hp
      rw [if_neg hp]
      right
      rw [turn_empty (by simpa [pre_2] using h)]
      rfl
  rename_i e1
  rw [if_neg e1]
  exfalso
  split at h
  · unfold gGroup at h
    cases hw : W (t, n0, p) <;> (rw [hw] at h; cases h)
  split at h
  · unfold gLookup at h
    cases hw : W (t, n0, p) <;> (rw [hw] at h; cases h)
  unfold gMend at h
  cases hw : W (t, n0, p) <;> (rw [hw] at h; cases h)
theorem once_nil {l : List Spot} (h : once l = []) : l = [] := by
  cases l with
  | nil => rfl
  | cons x r =>
    have := once_all (l := x :: r) (s := x) List.mem_cons_self
    rw [h] at this
    cases this
theorem once_last {l : List Spot} {s : Spot} (h : s ∉ l) : once (l ++ [s]) = once l ++ [s] := by
  rw [once_snoc, if_neg fun z => h (once_mem z)]
end
end Z
namespace Z
open PySem PySem.Spec PyProof.Rows L2 Evl NdefX LamX
theorem above_ok {W : Spot → Val} (ok : ∀ s, okV (W s)) {f : Int} {t c : Str} {zs : List Str} {p : Int} (hz : zs.length ≤ 6) : okRes (gAbove W f t c zs p).1 := by
  unfold gAbove
  split
  · exact turn_okR ok (by rw [List.length_cons, List.length_map]; omega)
  · have := turn_res ok (zs.map fun z => (t, z, p))
    unfold pre
    cases r : (turn W (zs.map fun z => (t, z, p))).1 with
    | val v => rw [r] at this; exact this
    | call is =>
      rw [r] at this
      have this : is.length ≤ (zs.map fun z => (t, z, p)).length := this
      rw [List.length_map] at this
      show ([f] ++ is).length ≤ 1000
      rw [List.length_append]
      show 1 + is.length ≤ 1000
      omega
theorem group_ok {W : Spot → Val} (ok : ∀ s, okV (W s)) {R : Str → Nat} {t key name : Str} {p : Int} (few : R t ≤ 30) : okRes (gGroup W R t key name p).1 ∧ (gGroup W R t key name p).2.length ≤ 100 := by
  have hg : ∀ (m : Int) (l : List Nat), resN l.length (grp W t key name m l).1 ∧ (grp W t key name m l).2.length ≤ 2 * l.length := by
    intro m l
    induction l with
    | nil => exact ⟨Nat.le_refl _, Nat.le_refl _⟩
    | cons i r ih =>
      rw [grp]
      split
      · cases hw : W (t, name, (i : Int)) with
        | inr z => exact ⟨by have := ok (t, name, (i : Int)); rw [hw] at this; exact this, by show 2 ≤ 2 * (r.length + 1); omega⟩
        | inl x =>
          obtain ⟨h1, h2⟩ := ih
          refine ⟨?_, by simp only [pre, List.cons_append, List.nil_append, List.length_cons]; omega⟩
          unfold pre
          cases q : (grp W t key name m r).1 with
          | val x => rw [q] at h1; exact h1
          | call is => rw [q] at h1; exact Nat.succ_le_succ h1
      · obtain ⟨h1, h2⟩ := ih
        refine ⟨?_, by simp only [pre, List.cons_append, List.nil_append, List.length_cons]; omega⟩
        unfold pre
        cases q : (grp W t key name m r).1 with
        | val x => rw [q] at h1; exact h1
        | call is => rw [q] at h1; exact Nat.le_succ_of_le h1
  unfold gGroup
  cases hw : W (t, key, p) with
  | inr z => exact ⟨by have := ok (t, key, p); rw [hw] at this; exact this, by show 1 ≤ 100; decide⟩
  | inl m =>
    obtain ⟨h1, h2⟩ := hg m (List.range (R t))
    rw [List.length_range] at h1 h2
    refine ⟨?_, by simp only [pre, List.cons_append, List.nil_append, List.length_cons]; omega⟩
    dsimp only
    unfold pre
    cases q : (grp W t key name m (List.range (R t))).1 with
    | val x => rw [q] at h1; exact h1
    | call is => rw [q] at h1; exact Nat.le_trans h1 (show R t ≤ 1000 by omega)
theorem lookup_ok {W : Spot → Val} (ok : ∀ s, okV (W s)) {R : Str → Nat} {t key o theirs : Str} {ws : List Str} {p : Int} (few : R o ≤ 30) (w6 : ws.length ≤ 6) : okRes (gLookup W R t key o theirs ws p).1 ∧ (gLookup W R t key o theirs ws p).2.length ≤ 100 := by
  have hg : ∀ (m : Int) (l : List Nat), okRes (lkp W o theirs ws m l).1 ∧ (lkp W o theirs ws m l).2.length ≤ l.length + 6 := by
    intro m l
    induction l with
    | nil => exact ⟨show isName "lacks" = true by decide +kernel, Nat.zero_le _⟩
    | cons i r ih =>
      rw [lkp, pre_nilL]
      split
      · have a := turn_okR ok (ss := ws.map fun z => (o, z, (i : Int))) (by rw [List.length_map]; omega)
        have b := turn_len (W := W) (ws.map fun z => (o, z, (i : Int)))
        rw [List.length_map] at b
        exact ⟨a, by simp only [List.length_append, List.length_cons, List.length_nil]; omega⟩
      · exact ⟨ih.1, by have := ih.2; simp only [List.length_append, List.length_cons, List.length_nil]; omega⟩
  unfold gLookup
  cases hw : W (t, key, p) with
  | inr z => exact ⟨by have := ok (t, key, p); rw [hw] at this; exact this, by show 1 ≤ 100; decide⟩
  | inl m =>
    obtain ⟨h1, h2⟩ := hg m (List.range (R o))
    rw [List.length_range] at h2
    dsimp only
    rw [pre_nilL]
    exact ⟨h1, by simp only [List.length_append, List.length_cons, List.length_nil]; omega⟩
theorem gK_ok {W : Spot → Val} (ok : ∀ s, okV (W s)) {R : Str → Nat} {t own n0 n1 n2 : Str} {ws : List Str} {p kind : Int} (f1 : R t ≤ 30) (f2 : kind = 3 → R n1 ≤ 30) (w6 : ws.length ≤ 6) : okRes (gK kind W R t own n0 n1 n2 ws p).1 ∧ (gK kind W R t own n0 n1 n2 ws p).2.length ≤ 100 := by
  unfold gK
  split
  · have := turn_len (W := W) (ws.map fun z => (t, z, p))
    rw [List.length_map] at this
    exact ⟨turn_okR ok (by rw [List.length_map]; omega), by show (turn W _).2.length ≤ 100; omega⟩
  split
  · refine ⟨above_ok ok w6, ?_⟩
    have a := turn_len (W := W) (ws.map fun z => (t, z, p))
    have b := turn_len (W := W) ((t, own, p - 1) :: ws.map fun z => (t, z, p))
    rw [List.length_cons, List.length_map] at b
    rw [List.length_map] at a
    unfold gAbove
    split
    · omega
    · rw [pre_2, List.nil_append]; omega
  split
  · exact group_ok ok f1
  split
  · rename_i e
    exact lookup_ok ok (f2 e) w6
  · refine ⟨mend_ok ok, ?_⟩
    unfold gMend
    cases W (t, n0, p) <;> (show 1 ≤ 100; decide)
/-! ### a rule of any kind -/
def PR19 (A : Cn → Addr) : PRule := fun H ru t c p W R ts zs r => PRCells A H ru t c p W R ts zs r ∨ PRAbove A H ru t c p W R ts zs r ∨ PRGroup A H ru t c p W R ts zs r ∨ PRLookup A H ru t c p W R ts zs r ∨ PRMend A H ru t c p W R ts zs r
abbrev nmO (kind : Int) (o n1 : Str) : Str := if kind = 3 then o else n1
structure IsK (K : PySem.W.Frag) (A : Cn → Addr) : Prop where
  ins : ∀ k ∈ five, InsK K (A k)
  kit : ∀ k ∈ five, ∀ x ∈ ([.Above, .Mend, .Lookup] : List Cn), PySem.W.kitOne K (.ref (A k)) (.ref (A x)) = some (decide (k = x))
theorem isK {K : PySem.W.Frag} {A : Cn → Addr} (i0 : InsK K (A .Cells)) (i1 : InsK K (A .Above)) (i2 : InsK K (A .Group)) (i3 : InsK K (A .Lookup)) (i4 : InsK K (A .Mend))
    (k00 : PySem.W.kitOne K (.ref (A .Cells)) (.ref (A .Above)) = some false) (k01 : PySem.W.kitOne K (.ref (A .Cells)) (.ref (A .Mend)) = some false) (k02 : PySem.W.kitOne K (.ref (A .Cells)) (.ref (A .Lookup)) = some false) (k10 : PySem.W.kitOne K (.ref (A .Above)) (.ref (A .Above)) = some true) (k11 : PySem.W.kitOne K (.ref (A .Above)) (.ref (A .Mend)) = some false) (k12 : PySem.W.kitOne K (.ref (A .Above)) (.ref (A .Lookup)) = some false) (k20 : PySem.W.kitOne K (.ref (A .Group)) (.ref (A .Above)) = some false) (k21 : PySem.W.kitOne K (.ref (A .Group)) (.ref (A .Mend)) = some false) (k22 : PySem.W.kitOne K (.ref (A .Group)) (.ref (A .Lookup)) = some false) (k30 : PySem.W.kitOne K (.ref (A .Lookup)) (.ref (A .Above)) = some false) (k31 : PySem.W.kitOne K (.ref (A .Lookup)) (.ref (A .Mend)) = some false) (k32 : PySem.W.kitOne K (.ref (A .Lookup)) (.ref (A .Lookup)) = some true) (k40 : PySem.W.kitOne K (.ref (A .Mend)) (.ref (A .Above)) = some false) (k41 : PySem.W.kitOne K (.ref (A .Mend)) (.ref (A .Mend)) = some true) (k42 : PySem.W.kitOne K (.ref (A .Mend)) (.ref (A .Lookup)) = some false) : IsK K A := by
  refine ⟨fun k hk => ?_, fun k hk x hx => ?_⟩
  · simp only [List.mem_cons, List.mem_nil_iff, or_false] at hk
    rcases hk with rfl | rfl | rfl | rfl | rfl <;> assumption
  · simp only [List.mem_cons, List.mem_nil_iff, or_false] at hk hx
    rcases hk with rfl | rfl | rfl | rfl | rfl <;> rcases hx with rfl | rfl | rfl <;> assumption
def kno : Cn → Int
  | .Cells => 0
  | .Above => 1
  | .Group => 2
  | .Lookup => 3
  | .Mend => 4
  | _ => 9
theorem lr_cls {A : Cn → Addr} {H0 H : Hp} {ru : Addr} {kind : Int} {n0 n1 n2 : Str} {ws : List Str} (h : LR A H0 H ru kind n0 n1 n2 ws) : ∃ k ∈ five, ∃ dx fs, H ru = some (.ins (A k) dx fs) ∧ kind = kno k := by
  rcases h with ⟨e, np, dx, v, a, b, c⟩ | ⟨e, np, dx, v, a, b, c⟩ | ⟨e, dx, v, a⟩ | ⟨e, np, dx, v, a, b, c⟩ | ⟨e, dx, v, a⟩
  · exact ⟨_, .head _, dx, _, a, e⟩
  · exact ⟨_, .tail _ (.head _), dx, _, a, e⟩
  · exact ⟨_, .tail _ (.tail _ (.head _)), dx, _, a, e⟩
  · exact ⟨_, .tail _ (.tail _ (.tail _ (.head _))), dx, _, a, e⟩
  · exact ⟨_, .tail _ (.tail _ (.tail _ (.tail _ (.head _)))), dx, _, a, e⟩
theorem lr_rng {A : Cn → Addr} {H0 H : Hp} {ru : Addr} {kind : Int} {n0 n1 n2 : Str} {ws : List Str} (h : LR A H0 H ru kind n0 n1 n2 ws) : 0 ≤ kind ∧ kind < 5 := by
  rcases h with ⟨e, _⟩ | ⟨e, _⟩ | ⟨e, _⟩ | ⟨e, _⟩ | ⟨e, _⟩ <;> omega
theorem kno_eq {k x : Cn} (hk : k ∈ five) (hx : x ∈ ([.Above, .Mend, .Lookup] : List Cn)) : decide (k = x) = decide (kno k = kno x) := by
  simp only [List.mem_cons, List.mem_nil_iff, or_false] at hk hx
  rcases hk with rfl | rfl | rfl | rfl | rfl <;> rcases hx with rfl | rfl | rfl <;> rfl
section
variable {K : PySem.W.Frag} {A : Cn → Addr} {CA : Hp → Addr → Sp → Prop} {Tb : List (Addr × Str)} {σ : L2.St} {H H0 : Hp} {ru : Addr} {kind : Int} {t own n0 n1 n2 : Str} {ws zs ts : List Str} {p : Int} {W : Spot → Val} {R : Str → Nat}
theorem ev_isK {i : Nat} {x : Cn} (hi : σ[i]? = some (some (.ref ru))) (lr : LR A H0 H ru kind n0 n1 n2 ws) (fx : FxR K A) (ir : IsK K A) (hx : x ∈ ([.Above, .Mend, .Lookup] : List Cn)) : Ev (tCB (rIsi K) (tCons (tVar i) (tCons (tC (.ref (A x))) tNil))) σ H (.bl (decide (kind = kno x))) := by
  obtain ⟨k, m, dx, fs, a, e⟩ := lr_cls lr
  have i1 := ir.ins k m
  have i2 := ir.kit k m x hx
  rw [kno_eq m hx, ← e] at i2
  exact ev_cb (ea_cons (ev_var hi) (ea_cons ev_c ea_nil)) fun H1 e Q q => ⟨.ref ru, .ref (A x), .ref (A k), .ref (A x), _, rfl, .own _, .base (.ins (e _ _ a) (fx k m).1 i1.a i1.n i1.t i1.m), i2, q H1 (Ex.refl H1)⟩
theorem pr_of (lr : LR A H0 H ru kind n0 n1 n2 ws) (pl : Pl R ts t p) (w6 : ws.length ≤ 6) (wz : ∀ w ∈ ws, w ∈ zs) (m0 : n0 ∈ zs) (mo : own ∈ zs) (m1 : kind = 2 → n1 ∈ zs) (m1' : kind = 3 → n1 ∈ ts) (m2 : n2 ∈ zs) : PR19 A H ru t own p W R ts zs (gK kind W R t own n0 n1 n2 ws p) := by
  rcases lr with ⟨e, np, dx, v, a, b, c⟩ | ⟨e, np, dx, v, a, b, c⟩ | ⟨e, dx, v, a⟩ | ⟨e, np, dx, v, a, b, c⟩ | ⟨e, dx, v, a⟩ <;> subst e
  · exact .inl ⟨np, dx, v, ws, a, c, w6, wz, pl, rfl⟩
  · exact .inr (.inl ⟨np, dx, v, ws, 5, a, c, w6, wz, mo, pl, rfl⟩)
  · exact .inr (.inr (.inl ⟨dx, v, n0, n1, a, m0, m1 rfl, pl, rfl⟩))
  · exact .inr (.inr (.inr (.inl ⟨np, dx, v, n0, n1, n2, ws, a, c, w6, wz, m0, m1' rfl, m2, pl, rfl⟩)))
  · exact .inr (.inr (.inr (.inr ⟨dx, v, n0, a, m0, pl, rfl⟩)))
end
abbrev sp_law_gathered (_ : PySem.W.Frag) (A : Cn → Addr) (_ : Hp → Addr → Sp → Prop) (Tb : List (Addr × Str)) : Sp := spG Tb (PR19 A)
def sp_law_made (_ : PySem.W.Frag) (A : Cn → Addr) (Tb : List (Addr × Str)) : Sp := fun vs H Q _ => ∃ (np sp : Addr) (kind : Int) (n0 n1 n2 o : Str) (ws : List Str), vs = [.int kind, .ref np, .ref sp, .str o] ∧ 0 ≤ kind ∧ kind < 5 ∧ H np = some (.lst [.str n0, .str n1, .str n2]) ∧ H sp = some (.lst (ws.map V.str)) ∧ ws.length ≤ 6 ∧
  (isName n0 = true ∧ isName n1 = true ∧ isName n2 = true ∧ isName o = true) ∧ (∀ z ∈ ws, isName z = true) ∧ Tabs Tb H ∧ ∀ ru H', XB Tb [] H H' → LR A H H' ru kind n0 (nmO kind o n1) n2 ws → Q (.ref ru) H'
def sp_law_leans (_ : PySem.W.Frag) (A : Cn → Addr) : Sp := fun vs H Q _ => ∃ (ru oq : Addr) (t own : Str) (p : Int) (H0 : Hp) (kind : Int) (n0 n1 n2 : Str) (ws : List Str) (xs : List V) (ss : List Spot), vs = [.ref ru, .str t, .str own, .int p, .ref oq] ∧ LR A H0 H ru kind n0 n1 n2 ws ∧ (isName t = true ∧ isName own = true ∧ isName n0 = true ∧ isName n1 = true ∧ isName n2 = true) ∧ (∀ z ∈ ws, isName z = true) ∧ ws.length ≤ 6 ∧
  H oq = some (.lst xs) ∧ AtSs H xs ss ∧ (∀ s ∈ ss, okSp s) ∧ (∀ s ∈ ss, (s.1, s.2.1) ∈ dueP kind n0 n1 n2 ws t ∨ (kind = 1 ∧ 0 < p ∧ s = (t, own, p - 1))) ∧ RetV (.bl true) H Q
def sp_law_fault (_ : PySem.W.Frag) (A : Cn → Addr) : Sp := fun vs H Q _ => ∃ (wd rw ru oq : Addr) (v : V) (tt zs : List Str) (W : Spot → Val) (R : Str → Nat) (H0 : Hp) (kind : Int) (n0 n1 n2 : Str) (ws : List Str) (r : Res × List Spot) (xs : List V), vs = [.ref wd, .ref ru, v, .ref oq] ∧ World H wd rw tt zs W R ∧ LR A H0 H ru kind n0 n1 n2 ws ∧ Told H v r.1 ∧ okRes r.1 ∧ H oq = some (.lst xs) ∧ AtSs H xs (once r.2) ∧ (∀ s ∈ r.2, okSp s ∧ domW tt zs R s) ∧
  (r.2 = [] → r.1 = .call [] ∨ r.1 = .call [5]) ∧ (∀ x, r.1 = .val x → (kind = 4 ∧ ∃ i, x = .inl i) ∨ ∃ w, x = .inr w ∧ ((kind = 3 ∧ w = "lacks") ∨ Last W r w)) ∧ RetV (.bl true) H Q
def sp_law_changed (K : PySem.W.Frag) : Sp := fun vs H Q _ => ∃ (l wd rw oq : Addr) (ns : List Int) (tt zs : List Str) (W : Spot → Val) (R : Str → Nat) (ss : List Spot) (xs : List V), vs = [.ref l, .ref wd, .ref oq] ∧ SqL K H l (ns.map V.int) ∧ KW H wd ∧ World H wd rw tt zs W R ∧ H oq = some (.lst xs) ∧ AtSs H xs ss ∧ (∀ s ∈ ss, okSp s) ∧
  ∀ a W' H', Ex H H' → World H' a rw tt zs W' R → (∀ s ∈ ss, W s = W' s) → Q (.ref a) H'
/-- names: "t", "rows" -/
def tl_law_gathered_0 (K : PySem.W.Frag) : TE := tOp (rIxA K) (tVar 1) (tVar 0)
/-- names: "t", "c", "p", "notes", "world" -/
def tl_law_gathered_1 (K : PySem.W.Frag) : TE := tCall (sp_law_look K) [] E0 (tCons (tVar 4) (tCons (tVar 3) (tCons (tVar 0) (tCons (tVar 1) (tCons (tVar 2) tNil)))))
/-- names: "world", "rows", "rule", "table", "column", "place", "look", "many", "found", "once", "spot", "notes" -/
def t_law_gathered (K : PySem.W.Frag) (A : Cn → Addr) (CA : Hp → Addr → Sp → Prop) (Tb : List (Addr × Str)) (mk_law_gathered_0 : List (Str × Addr) → Addr → LF) (mk_law_gathered_1 : List (Str × Addr) → Addr → LF) (cl : List (Str × Addr)) (E : XK) : TS :=
  tSeq (tAsg (tLst tNil) (gName 11))
    (tSeq (tAsg (tLamE Tb (mk_law_gathered_1 cl)) (gName 6))
    (tSeq (tAsg (tLamE Tb (mk_law_gathered_0 cl)) (gName 7))
    (tSeq (tAsg (tMetLD [(A .Cells, sp_Cells_gather K A CA), (A .Above, sp_Above_gather K A CA), (A .Group, sp_Group_gather K A CA), (A .Lookup, sp_Lookup_gather K A CA), (A .Mend, sp_Mend_gather K A CA)] "gather" ["world", "rows", "rule", "table", "column", "place", "look", "many", "found", "once", "spot", "notes"] ["world", "rows", "notes"] cl (tVar 2) (tCons (tVar 6) (tCons (tVar 7) (tCons (tVar 3) (tCons (tVar 4) (tCons (tVar 5) tNil)))))) (gName 8))
    (tSeq (tAsg (tLst tNil) (gName 9))
    (tSeq (tFor (iList K (tVar 11)) (gName 10) (tIfS (tTest (tOp (rNinA K) (tVar 10) (tVar 9))) (tDrop (tBM K "list" rAppend (tVar 9) (tCons (tVar 10) tNil))) tNext))
    (tRet (tTup (tCons (tVar 8) (tCons (tVar 9) tNil)))))))))
/-- names: "xs" -/
def tl_law_made_0 (K : PySem.W.Frag) : TE := tC (.int 0)
/-- names: "xs" -/
def tl_law_made_1 (K : PySem.W.Frag) : TE := tC (.int 0)
/-- names: "xs" -/
def tl_law_made_2 (K : PySem.W.Frag) : TE := tC (.int 0)
/-- names: "xs" -/
def tl_law_made_3 (K : PySem.W.Frag) : TE := tC (.int 0)
/-- names: "xs" -/
def tl_law_made_4 (K : PySem.W.Frag) : TE := tC (.int 0)
/-- names: "kind", "names", "some", "other" -/
def t_law_made (K : PySem.W.Frag) (A : Cn → Addr) (Tb : List (Addr × Str)) (mk_law_made_0 : List (Str × Addr) → Addr → LF) (mk_law_made_1 : List (Str × Addr) → Addr → LF) (mk_law_made_2 : List (Str × Addr) → Addr → LF) (mk_law_made_3 : List (Str × Addr) → Addr → LF) (mk_law_made_4 : List (Str × Addr) → Addr → LF) (cl : List (Str × Addr)) (E : XK) : TS :=
  tSeq (tIfS (tTest (tOp (rEqA K) (tVar 0) (tC (.int 0)))) (tRet (tMakS (A .Cells) (sp_Cells_init K A) (WE (fun cls d _ H => E cls d H)) (tCons (tVar 2) (tCons (tLamE Tb (mk_law_made_4 cl)) tNil)))) tNext)
    (tSeq (tIfS (tTest (tOp (rEqA K) (tVar 0) (tC (.int 1)))) (tRet (tMakS (A .Above) (sp_Above_init K A) (WE (fun cls d _ H => E cls d H)) (tCons (tC (.int 5)) (tCons (tVar 2) (tCons (tLamE Tb (mk_law_made_3 cl)) tNil))))) tNext)
    (tSeq (tIfS (tTest (tOp (rEqA K) (tVar 0) (tC (.int 2)))) (tRet (tMakS (A .Group) (sp_Group_init K A) (WE (fun cls d _ H => E cls d H)) (tCons (tOp (rIxA K) (tVar 1) (tC (.int 0))) (tCons (tOp (rIxA K) (tVar 1) (tC (.int 1))) (tCons (tLamE Tb (mk_law_made_2 cl)) tNil))))) tNext)
    (tSeq (tIfS (tTest (tOp (rEqA K) (tVar 0) (tC (.int 3)))) (tRet (tMakS (A .Lookup) (sp_Lookup_init K A) (WE (fun cls d _ H => E cls d H)) (tCons (tOp (rIxA K) (tVar 1) (tC (.int 0))) (tCons (tVar 3) (tCons (tOp (rIxA K) (tVar 1) (tC (.int 2))) (tCons (tVar 2) (tCons (tLamE Tb (mk_law_made_1 cl)) tNil))))))) tNext)
    (tRet (tMakS (A .Mend) (sp_Mend_init K A) (WE (fun cls d _ H => E cls d H)) (tCons (tOp (rIxA K) (tVar 1) (tC (.int 0))) (tCons (tLamE Tb (mk_law_made_0 cl)) tNil)))))))
/-- names: "script", "world", "once", "made", "k", "spot" -/
def t_law_changed (K : PySem.W.Frag) (E : XK) : TS :=
  tSeq (tAsg tDNewT (gName 3))
    (tSeq (tAsg (tC (.int 2000)) (gName 4))
    (tSeq (tLock (tFor (iKeys (tVar 1)) (gName 5) (tSeq (tAsg (tOp (rAddA K) (tVar 4) (tC (.int 3))) (gName 4))
    (tSeq (tAsg (tOp (rIxA K) (tVar 1) (tVar 5)) (gSub (tVar 3) (tVar 5) rSetA))
    (tIfS (tTest (tOp (rNinA K) (tVar 5) (tVar 2))) (tAsg (tCallS (sp_law_value K) (WE (fun cls d _ H => E cls d H)) (tCons (tVar 0) (tCons (tVar 4) (tCons (tC (.int 6)) tNil)))) (gSub (tVar 3) (tVar 5) rSetA)) tNext)))))
    (tRet (tVar 3))))
/-- names: "rule", "table", "own", "place", "once", "known", "spot", "above" -/
def t_law_leans (K : PySem.W.Frag) (A : Cn → Addr) (E : XK) : TS :=
  tSeq (tAsg (tMetD [(A .Cells, sp_Cells_leans K A), (A .Above, sp_Above_leans K A), (A .Group, sp_Group_leans K A), (A .Lookup, sp_Lookup_leans K A), (A .Mend, sp_Mend_leans K A)] "leans" (WE (fun cls d _ H => E cls d H)) (tVar 0) (tCons (tVar 1) tNil)) (gName 5))
    (tSeq (tFor (iList K (tVar 4)) (gName 6) (tSeq (tAsg (tAndV (tOp rGtA (tVar 3) (tC (.int 0))) (tAndV (tOp (rEqA K) (tVar 6) (tTup (tCons (tVar 1) (tCons (tVar 2) (tCons (tOp rSubA (tVar 3) (tC (.int 1))) tNil))))) (tCB (rIsi K) (tCons (tVar 0) (tCons (tC (.ref (A .Above))) tNil))))) (gName 7))
    (tIfS (tAnd (tTest (tOp (rNinA K) (tTup (tCons (tOp (rIxA K) (tVar 6) (tC (.int 0))) (tCons (tOp (rIxA K) (tVar 6) (tC (.int 1))) tNil))) (tVar 5))) (tNot (tB (tVar 7)))) (tRet (tC (.bl false))) tNext)))
    (tRet (tC (.bl true))))
/-- names: "world", "rule", "found", "once", "one" -/
def t_law_fault (K : PySem.W.Frag) (A : Cn → Addr) (E : XK) : TS :=
  tSeq (tIfS (tOr (tNot (tB (tCB (rIsiA K) (tCons (tVar 2) (tCons (tC (.ty "tuple")) tNil))))) (tOr (tTest (tOp (rNeA K) (tCB (rLenA K) (tCons (tVar 2) tNil)) (tC (.int 2)))) (tTest (tOp (rEqA K) (tVar 3) (tLst tNil))))) (tRet (tOrV (tOp (rEqA K) (tVar 2) (tTup (tCons (tC (.str "call")) (tCons (tLst tNil) tNil)))) (tOp (rEqA K) (tVar 2) (tTup (tCons (tC (.str "call")) (tCons (tLst (tCons (tC (.int 5)) tNil)) tNil)))))) tNext)
    (tSeq (tIfS (tTest (tOp (rEqA K) (tOp (rIxA K) (tVar 2) (tC (.int 0))) (tC (.str "call")))) (tRet (tOp (rEqA K) (tLc (iList K (tOp (rIxA K) (tVar 2) (tC (.int 1)))) (gName 4) (tNot (tB (tCall (sp_law_whole K) [] E0 (tCons (tVar 4) tNil)))) (tVar 4) [4]) (tLst tNil))) tNext)
    (tSeq (tIfS (tB (tCB (rIsiA K) (tCons (tOp (rIxA K) (tVar 2) (tC (.int 1))) (tCons (tC (.ty "int")) tNil)))) (tRet (tCB (rIsi K) (tCons (tVar 1) (tCons (tC (.ref (A .Mend))) tNil)))) tNext)
    (tSeq (tIfS (tAnd (tTest (tOp (rEqA K) (tOp (rIxA K) (tVar 2) (tC (.int 1))) (tTup (tCons (tC (.str "fault")) (tCons (tC (.str "lacks")) tNil))))) (tB (tCB (rIsi K) (tCons (tVar 1) (tCons (tC (.ref (A .Lookup))) tNil))))) (tRet (tC (.bl true))) tNext)
    (tRet (tOp (rEqA K) (tOp (rIxA K) (tVar 2) (tC (.int 1))) (tOp (rIxA K) (tVar 0) (tOp (rIxA K) (tVar 3) (tUn rNegA (tC (.int 1))))))))))
/-- names: "script", "words", "world", "rows", "turn", "at", "table", "other", "place", "own", "names", "some", "kind", "rule", "found", "once", "changed", "again", "same", "j" -/
def t_law (K : PySem.W.Frag) (A : Cn → Addr) (CA : Hp → Addr → Sp → Prop) (Tb : List (Addr × Str)) (E : XK) : TS :=
  tSeq (tAsg (tCallS (sp_law_names K) (WE (fun cls d _ H => E cls d H)) (tCons (tVar 0) (tCons (tC (.int 8)) tNil))) (gName 1))
    (tSeq (tAsg (tCallS (sp_law_world19 K) (WE (fun cls d _ H => E cls d H)) (tCons (tVar 0) (tCons (tSl (rSlA K) (tVar 1) tNoPart (tPart (tC (.int 6)))) (tCons (tSl (rSlA K) (tVar 1) (tPart (tC (.int 6))) tNoPart) (tCons (tCallS (sp_law_drawn K) (WE (fun cls d _ H => E cls d H)) (tCons (tVar 0) (tCons (tC (.int 11)) (tCons (tC (.int 4)) tNil)))) (tCons (tC (.int 100)) tNil)))))) (gTup K 2 (gCons (gName 2) (gCons (gName 3) gNil))))
    (tSeq (tFor (iRng1 (tCons (tC (.int 4)) tNil)) (gName 4) (tSeq (tAsg (tOp (rAddA K) (tOp (rMulA K) (tC (.int 30)) (tVar 4)) (tC (.int 1500))) (gName 5))
    (tSeq (tAsg (tCallS (sp_law_table K) (WE (fun cls d _ H => E cls d H)) (tCons (tVar 0) (tCons (tVar 5) (tCons (tVar 3) (tCons (tSl (rSlA K) (tVar 1) (tPart (tC (.int 6))) tNoPart) tNil))))) (gName 6))
    (tSeq (tAsg (tOp (rIxA K) (tVar 1) (tOp (rAddA K) (tC (.int 6)) (tCallS (sp_law_drawn K) (WE (fun cls d _ H => E cls d H)) (tCons (tVar 0) (tCons (tOp (rAddA K) (tVar 5) (tC (.int 1))) (tCons (tC (.int 2)) tNil)))))) (gName 7))
    (tSeq (tAsg (tCallS (sp_law_drawn K) (WE (fun cls d _ H => E cls d H)) (tCons (tVar 0) (tCons (tOp (rAddA K) (tVar 5) (tC (.int 2))) (tCons (tOp (rIxA K) (tVar 3) (tVar 6)) tNil)))) (gName 8))
    (tSeq (tAsg (tOp (rIxA K) (tVar 1) (tCallS (sp_law_drawn K) (WE (fun cls d _ H => E cls d H)) (tCons (tVar 0) (tCons (tOp (rAddA K) (tVar 5) (tC (.int 3))) (tCons (tC (.int 6)) tNil))))) (gName 9))
    (tSeq (tAsg (tLc (iRng1 (tCons (tC (.int 3)) tNil)) (gName 19) tYes (tOp (rIxA K) (tVar 1) (tCall (sp_law_drawn K) [] E0 (tCons (tVar 0) (tCons (tOp (rAddA K) (tOp (rAddA K) (tVar 5) (tC (.int 4))) (tVar 19)) (tCons (tC (.int 6)) tNil))))) [19]) (gName 10))
    (tSeq (tAsg (tCallS (sp_law_picked K) (WE (fun cls d _ H => E cls d H)) (tCons (tVar 0) (tCons (tOp (rAddA K) (tVar 5) (tC (.int 8))) (tCons (tSl (rSlA K) (tVar 1) tNoPart (tPart (tC (.int 6)))) tNil)))) (gName 11))
    (tSeq (tAsg (tCallS (sp_law_drawn K) (WE (fun cls d _ H => E cls d H)) (tCons (tVar 0) (tCons (tOp (rAddA K) (tVar 5) (tC (.int 20))) (tCons (tC (.int 5)) tNil)))) (gName 12))
    (tSeq (tAsg (tCallS (sp_law_made K A Tb) (WE (fun cls d _ H => E cls d H)) (tCons (tVar 12) (tCons (tVar 10) (tCons (tVar 11) (tCons (tVar 7) tNil))))) (gName 13))
    (tSeq (tDrop (tBM K "list" rAppend (tVar 11) (tCons (tOp (rIxA K) (tVar 1) (tC (.int 0))) tNil)))
    (tSeq (tDrop (tCallS (sp_law_made K A Tb) (WE (fun cls d _ H => E cls d H)) (tCons (tCallS (sp_law_drawn K) (WE (fun cls d _ H => E cls d H)) (tCons (tVar 0) (tCons (tOp (rAddA K) (tVar 5) (tC (.int 21))) (tCons (tC (.int 5)) tNil)))) (tCons (tVar 10) (tCons (tSl (rSlA K) (tVar 11) tNoPart (tPart (tC (.int 2)))) (tCons (tVar 6) tNil))))))
    (tSeq (tAsg (tCallS (sp_law_gathered K A CA Tb) (WE (fun cls d _ H => E cls d H)) (tCons (tVar 2) (tCons (tVar 3) (tCons (tVar 13) (tCons (tVar 6) (tCons (tVar 9) (tCons (tVar 8) tNil))))))) (gTup K 2 (gCons (gName 14) (gCons (gName 15) gNil))))
    (tSeq (tIfS (tOr (tNot (tB (tCallS (sp_law_leans K A) (WE (fun cls d _ H => E cls d H)) (tCons (tVar 13) (tCons (tVar 6) (tCons (tVar 9) (tCons (tVar 8) (tCons (tVar 15) tNil)))))))) (tNot (tB (tCallS (sp_law_fault K A) (WE (fun cls d _ H => E cls d H)) (tCons (tVar 2) (tCons (tVar 13) (tCons (tVar 14) (tCons (tVar 15) tNil)))))))) (tRet (tC (.bl false))) tNext)
    (tSeq (tAsg (tCallS (sp_law_changed K) (WE (fun cls d _ H => E cls d H)) (tCons (tVar 0) (tCons (tVar 2) (tCons (tVar 15) tNil)))) (gName 16))
    (tSeq (tAsg (tCallS (sp_law_gathered K A CA Tb) (WE (fun cls d _ H => E cls d H)) (tCons (tVar 16) (tCons (tVar 3) (tCons (tVar 13) (tCons (tVar 6) (tCons (tVar 9) (tCons (tVar 8) tNil))))))) (gTup K 2 (gCons (gName 17) (gCons (gName 18) gNil))))
    (tIfS (tOr (tNot (tB (tCallS (sp_law_alike K) (WE (fun cls d _ H => E cls d H)) (tCons (tVar 17) (tCons (tVar 14) tNil))))) (tTest (tOp (rNeA K) (tVar 18) (tVar 15)))) (tRet (tC (.bl false))) tNext)))))))))))))))))
    (tRet (tC (.bl true)))))

end Z
namespace Z
open PySem PySem.Spec PyProof.Rows L2 Evl NdefX LamX
section
variable {K : PySem.W.Frag} {A : Cn → Addr} {CA : Hp → Addr → Sp → Prop} {Tb : List (Addr × Str)} {σ : L2.St} {H : Hp} {D : Ends} {tz : TS} {E : L2.St → XK} {ta tb te : TE}
theorem len_law_made (vs : List V) (H : Hp) (Q : VK) (E : XK) (h : sp_law_made K A Tb vs H Q E) : vs.length = 4 := by obtain ⟨_, _, _, _, _, _, _, _, rfl, _⟩ := h; rfl
theorem len_law_leans (vs : List V) (H : Hp) (Q : VK) (E : XK) (h : sp_law_leans K A vs H Q E) : vs.length = 5 := by obtain ⟨_, _, _, _, _, _, _, _, _, _, _, _, _, rfl, _⟩ := h; rfl
theorem len_law_fault (vs : List V) (H : Hp) (Q : VK) (E : XK) (h : sp_law_fault K A vs H Q E) : vs.length = 4 := by obtain ⟨_, _, _, _, _, _, _, _, _, _, _, _, _, _, _, _, _, rfl, _⟩ := h; rfl
theorem len_law_changed (vs : List V) (H : Hp) (Q : VK) (E : XK) (h : sp_law_changed K vs H Q E) : vs.length = 3 := by obtain ⟨_, _, _, _, _, _, _, _, _, _, _, rfl, _⟩ := h; rfl
theorem len_law (vs : List V) (H : Hp) (Q : VK) (E : XK) (h : spLawT K Tb vs H Q E) : vs.length = 1 := len_lawT vs H Q E h
theorem r_law_gathered {mk0 mk1 : List (Str × Addr) → Addr → LF} {nm0 nm1 : List (Str × NameKind)} {cl : List (Str × Addr)} (I0 : LamI CA mk0 nm0 ["rows"] (splM K)) (I1 : LamI CA mk1 nm1 ["notes", "world"] (splL K)) (hc : CAst CA)
    (vs : List V) (H : Hp) (Q : VK) (E : XK) (h : sp_law_gathered K A CA Tb vs H Q E) : t_law_gathered K A CA Tb mk0 mk1 cl E { nx := fun _ H' => Q .non H', rt := Q } (L2.start ["world", "rows", "rule", "table", "column", "place", "look", "many", "found", "once", "spot", "notes"] vs) H := by
  have weak : ∀ {C : Addr} {spg : Sp}, (C, spg) ∈ [(A .Cells, sp_Cells_gather K A CA), (A .Above, sp_Above_gather K A CA), (A .Group, sp_Group_gather K A CA), (A .Lookup, sp_Lookup_gather K A CA), (A .Mend, sp_Mend_gather K A CA)] → tG K CA Tb mk0 mk1 cl C spg E { nx := fun _ H' => Q .non H', rt := Q } (L2.start ND vs) H → t_law_gathered K A CA Tb mk0 mk1 cl E { nx := fun _ H' => Q .non H', rt := Q } (L2.start ND vs) H := fun {C spg} m h => by
    unfold tG at h
    unfold t_law_gathered
    refine ⟨h.1, fun p hp => ?_⟩
    have h1 := h.2 p hp
    refine ⟨h1.1, fun f c H1 e f0 g1 g2 => ?_⟩
    have h2 := h1.2 f c H1 e f0 g1 g2
    refine ⟨h2.1, fun f2 c2 H2 e2 f02 g12 g22 => ?_⟩
    obtain ⟨x, hx, a, dx, fs, e1, i1, l1, k1⟩ := h2.2 f2 c2 H2 e2 f02 g12 g22
    exact ⟨x, hx, a, C, dx, fs, spg, e1, m, i1, l1, k1⟩
  obtain ⟨wd, rw, ru, t, c, p, ts, zs, W, R, r, hv, hT, hw, hz, hts, pr, hr, k⟩ := h
  have go : ∀ {PR : PRule}, PR H ru t c p W R ts zs r → spG Tb PR vs H Q E := fun pr => ⟨wd, rw, ru, t, c, p, ts, zs, W, R, r, hv, hT, hw, hz, hts, pr, hr, k⟩
  rcases pr with pr | pr | pr | pr | pr
  · exact weak (.head _) (rG I0 I1 (prCells (K := K)) hc vs H Q E (go pr))
  · exact weak (.tail _ (.head _)) (rG I0 I1 (prAbove (K := K)) hc vs H Q E (go pr))
  · exact weak (.tail _ (.tail _ (.head _))) (rG I0 I1 (prGroup (K := K)) hc vs H Q E (go pr))
  · exact weak (.tail _ (.tail _ (.tail _ (.head _)))) (rG I0 I1 (prLookup (K := K)) hc vs H Q E (go pr))
  · exact weak (.tail _ (.tail _ (.tail _ (.tail _ (.head _))))) (rG I0 I1 (prMend (K := K)) hc vs H Q E (go pr))
theorem r_law_made {mk0 mk1 mk2 mk3 mk4 : List (Str × Addr) → Addr → LF} {cl : List (Str × Addr)} (vs : List V) (H : Hp) (Q : VK) (E : XK) (h : sp_law_made K A Tb vs H Q E) : t_law_made K A Tb mk0 mk1 mk2 mk3 mk4 cl E { nx := fun _ H' => Q .non H', rt := Q } (L2.start ["kind", "names", "some", "other"] vs) H := by
  obtain ⟨np, sp, kind, n0, n1, n2, o, ws, rfl, h0, h5, h1, h2, hl, ⟨y0, y1, y2, yo⟩, hz, hT, k⟩ := h
  unfold t_law_made
  have ix : ∀ {σ : L2.St} {H1 : Hp}, Ex H H1 → σ[1]? = some (some (V.ref np)) → Ev (tOp (rIxA K) (tVar 1) (tC (.int 0))) σ H1 (.str n0) ∧ Ev (tOp (rIxA K) (tVar 1) (tC (.int 1))) σ H1 (.str n1) ∧ Ev (tOp (rIxA K) (tVar 1) (tC (.int 2))) σ H1 (.str n2) := fun e h =>
    ⟨ev_op (ev_var h) ev_c (rv_itL (SqL.of (e _ _ h1)) rfl), ev_op (ev_var h) ev_c (rv_itL (SqL.of (e _ _ h1)) rfl), ev_op (ev_var h) ev_c (rv_itL (SqL.of (e _ _ h1)) rfl)⟩
  have tT : ∀ {H1 : Hp}, Ex H H1 → Tabs Tb H1 := fun e => hT.ext fun b o e' => e b o e'
  have fin : ∀ {H1 : Hp} {q : Int}, Ex H H1 → kind = q → ∀ ru H', XB Tb [] H1 H' → LR A H1 H' ru q n0 (nmO q o n1) n2 ws → Q (.ref ru) H' := fun e hk ru H' x lr => by
    subst hk
    exact k ru H' ((XB.of e).trans x) (lr.fresh fun a q => fresh_back e q)
  refine q_when (et_test (ev_op (ev_var rfl) ev_c (rv_eqS rfl))) (fun hb H1 e1 => ?_) (fun hb H1 e1 => ?_)
  · exact x_mkCells (n0 := n0) (n1 := nmO 0 o n1) (n2 := n2) (ev_var rfl) (tT e1) (e1 _ _ h2) hl hz (fin e1 (by have := of_decide_eq_true hb; cases this; rfl))
  have q0 : ¬ kind = 0 := fun z => by subst z; exact absurd rfl (of_decide_eq_false hb)
  refine q_when (et_test (ev_op (ev_var rfl) ev_c (rv_eqS rfl))) (fun hb H2 e2 => ?_) (fun hb H2 e2 => ?_)
  · exact x_mkAbove (n0 := n0) (n1 := nmO 1 o n1) (n2 := n2) (ev_var rfl) (tT (e1.trans e2)) ((e1.trans e2) _ _ h2) hl hz (fin (e1.trans e2) (by have := of_decide_eq_true hb; cases this; rfl))
  have q1 : ¬ kind = 1 := fun z => by subst z; exact absurd rfl (of_decide_eq_false hb)
  have e12 := e1.trans e2
  refine q_when (et_test (ev_op (ev_var rfl) ev_c (rv_eqS rfl))) (fun hb H3 e3 => ?_) (fun hb H3 e3 => ?_)
  · exact x_mkGroup (n1 := nmO 2 o n1) (n2 := n2) (ws := ws) (ix (e12.trans e3) rfl).1 (ix (e12.trans e3) rfl).2.1 (tT (e12.trans e3)) y0 y1 (fin (e12.trans e3) (by have := of_decide_eq_true hb; cases this; rfl))
  have q2 : ¬ kind = 2 := fun z => by subst z; exact absurd rfl (of_decide_eq_false hb)
  have e13 := e12.trans e3
  refine q_when (et_test (ev_op (ev_var rfl) ev_c (rv_eqS rfl))) (fun hb H4 e4 => ?_) (fun hb H4 e4 => ?_)
  · exact x_mkLookup (n1 := nmO 3 o n1) (ix (e13.trans e4) rfl).1 (ev_var rfl) (ix (e13.trans e4) rfl).2.2 (ev_var rfl) (tT (e13.trans e4)) y0 yo y2 ((e13.trans e4) _ _ h2) hl hz (fin (e13.trans e4) (by have := of_decide_eq_true hb; cases this; rfl))
  have q3 : ¬ kind = 3 := fun z => by subst z; exact absurd rfl (of_decide_eq_false hb)
  exact x_mkMend (n1 := nmO 4 o n1) (n2 := n2) (ws := ws) (ix (e13.trans e4) rfl).1 (tT (e13.trans e4)) y0 (fin (e13.trans e4) (by omega))
/-- (x, y) not in a list of such -/
theorem ev_ninPT {s : Pt} {ss : List Pt} {p : Addr} {xs : List V} (hu : EvU ta σ H [.str s.1, .str s.2]) (h2 : Ev tb σ H (.ref p)) (hp : H p = some (.lst xs)) (r2 : AtPs H xs ss) (o1 : okP s) (o2 : ∀ x ∈ ss, okP x) : Ev (tOp (rNinA K) ta tb) σ H (.bl (!decide (s ∈ ss))) := fun H1 e Q q =>
  hu H1 e _ fun b H2 _ e2 g2 => by
    have E2 := e.trans e2
    exact ev_ninP (K := K) (ta := tC (.ref b)) (tb := tb) (σ := σ) ev_c ⟨b, rfl, g2⟩ (h2.mono E2) (E2 _ _ hp) (r2.tup (.of_ex E2)) o1 o2 H2 (Ex.refl H2) Q fun H3 e3 => q H3 (e2.trans e3)
theorem r_law_leans (fx : FxR K A) (ir : IsK K A) (vs : List V) (H : Hp) (Q : VK) (E : XK) (h : sp_law_leans K A vs H Q E) : t_law_leans K A E { nx := fun _ H' => Q .non H', rt := Q } (L2.start ["rule", "table", "own", "place", "once", "known", "spot", "above"] vs) H := by
  obtain ⟨ru, oq, t, own, p, H0, kind, n0, n1, n2, ws, xs, ss, rfl, lr, ⟨nt, no, m0, m1, m2⟩, mw, w6, hq, aq, ok, law, k⟩ := h
  unfold t_law_leans
  have dps := duePs (kind := kind) nt m0 m1 m2 mw w6
  have o2 : ∀ s ∈ onceP (dueP kind n0 n1 n2 ws t), okP s := fun s hs => dps.1 s (onceP_mem hs)
  refine x_leans (Q := fun v H1 => tSeq _ _ _ (_ : L2.St) H1) lr rfl rfl nt m0 m1 m2 mw w6 fun fp ks H1 e1 hfp h1 a1 => ?_
  refine q_forLn (ev_var rfl) (SqL.of (e1 _ _ hq)) (fun i σ H' => ∃ x6 x7 : Option V, σ = [some (.ref ru), some (.str t), some (.str own), some (.int p), some (.ref oq), some (.ref fp), x6, x7] ∧ Ex H1 H')
    (fun H2 e2 => ⟨_, _, rfl, e2⟩) (fun i σ H' _ ⟨_, _, _, e⟩ => SqL.of ((e1.trans e) _ _ hq)) ?_ ?_
  · rintro i x σ H2 hi ⟨x6, x7, rfl, e2⟩
    have E2 := e1.trans e2
    obtain ⟨s, hs, as⟩ := (aq.tup (.of_ex E2)).at hi
    have sm := List.mem_of_getElem? hs
    have os := ok s sm
    have ea : Ev (tAndV (tOp rGtA (tVar 3) (tC (.int 0))) (tAndV (tOp (rEqA K) (tVar 6) (tTup (tCons (tVar 1) (tCons (tVar 2) (tCons (tOp rSubA (tVar 3) (tC (.int 1))) tNil))))) (tCB (rIsi K) (tCons (tVar 0) (tCons (tC (.ref (A .Above))) tNil))))) [some (.ref ru), some (.str t), some (.str own), some (.int p), some (.ref oq), some (.ref fp), some x, x7] H2 (.bl (decide (p > 0) && (decide (s = (t, own, p - 1)) && decide (kind = 1)))) := by
      have e6 := ev_eqD (K := K) (ta := tVar 6) (tb := tTup (tCons (tVar 1) (tCons (tVar 2) (tCons (tOp rSubA (tVar 3) (tC (.int 1))) tNil)))) (σ := [some (.ref ru), some (.str t), some (.str own), some (.int p), some (.ref oq), some (.ref fp), some x, x7]) (H := H2) (ed_ev (ev_var rfl) as.dt) (ed_tup (eds_cons (ed_s (ev_var rfl)) (eds_cons (ed_s (ev_var rfl)) (eds_cons (ed_i (ev_op (ev_var rfl) ev_c rv_subI)) eds_nil))) (show 3 ≤ 100000 by decide)) (okD_dSp os) (okD_dSp (s := (t, own, p - 1)) ⟨name_ok nt, name_ok no⟩)
      rw [show PyData.tuple [.str t, .str own, .int (p - 1)] = dSp (t, own, p - 1) from rfl, eqv_dSp] at e6
      exact ev_andV (ev_op (ev_var rfl) ev_c rv_gt) fun _ => ev_andV e6 fun _ => ev_isK rfl (lr.keep fun a o e _ _ => E2 _ _ e) fx ir (.head _)
    refine q_asg ea fun H3 e3 => ?_
    have E3 := E2.trans e3
    obtain ⟨b, rfl, hb⟩ := as
    have tn := ev_ninPT (K := K) (ta := tTup (tCons (tOp (rIxA K) (tVar 6) (tC (.int 0))) (tCons (tOp (rIxA K) (tVar 6) (tC (.int 1))) tNil))) (tb := tVar 5) (s := (s.1, s.2.1)) (σ := [some (.ref ru), some (.str t), some (.str own), some (.int p), some (.ref oq), some (.ref fp), some (.ref b), some (.bl (decide (p > 0) && (decide (s = (t, own, p - 1)) && decide (kind = 1))))]) (H := H3) (eu_tup (ea_cons (ev_op (ev_var rfl) ev_c (rv_itT (SqT.of (e3 _ _ hb)) rfl)) (ea_cons (ev_op (ev_var rfl) ev_c (rv_itT (SqT.of (e3 _ _ hb)) rfl)) ea_nil)) (show 2 ≤ 100000 by decide)) (ev_var rfl) ((e2.trans e3) _ _ h1) (a1.tup (.of_ex (e2.trans e3))) os o2
    refine s_when (b := false) (et_is (et_and (et_test tn) fun _ => et_not (et_B (ev_var rfl))) ?_) (fun hb => nomatch hb) fun _ H4 e4 => ⟨_, _, rfl, (e2.trans e3).trans e4⟩
    rcases law s sm with z | ⟨z1, z2, z3⟩
    · rw [decide_eq_true (onceP_all z)]
      rfl
    · rw [decide_eq_true (show p > 0 from z2), decide_eq_true z3, decide_eq_true z1]
      simp
  · rintro σ H2 ⟨x6, x7, rfl, e2⟩
    exact s_ret ev_c fun H3 e3 => k H3 ((e1.trans e2).trans e3)
end
end Z
namespace Z
open PySem PySem.Spec PyProof.Rows L2 Evl NdefX LamX
section
variable {σ : L2.St} {H : Hp} {td : TE} {tu : TS} {tz : TS} {D : Ends}
/-- for k in a dict whose keys are tuples: each key's own tuple -/
theorem s_forKT {d : Addr} {kvs : List (List Key × V)} {j : Nat} (hd : H d = some (.dT kvs)) (h : ∀ od, Ev td σ (upd H d (.frz od (.dT kvs))) (.ref d)) (Pv : Obj → Nat → L2.St → Hp → Prop) (h0 : ∀ od H1, Ex (upd H d (.frz od (.dT kvs))) H1 → Pv od 0 σ H1)
    (hl : ∀ od i σ' H', Pv od i σ' H' → H' d = some (.frz od (.dT kvs)))
    (hs : ∀ od i kk v q σ' H', kvs[i]? = some (kk, v) → H' q = some (.tup (kk.map kV)) → Pv od i σ' H' → tu { nx := Pv od (i + 1), ct := Pv od (i + 1), bk := fun σ' H' => H' d = some (.frz od (.dT kvs)) ∧ D.nx σ' (upd H' d (.dT kvs)), rt := fun v H' => H' d = some (.frz od (.dT kvs)) ∧ D.rt v (upd H' d (.dT kvs)) } (σ'.set j (some (.ref q))) H')
    (hf : ∀ od σ' H', Pv od kvs.length σ' H' → D.nx σ' (upd H' d (.dT kvs))) : tLock (tFor (iKeys td) (gName j) tu) D σ H := by
  refine ⟨d, .dT kvs, hd, trivial, fun od => ?_⟩
  refine h od _ (Ex.refl _) _ fun H1 e1 => ⟨d, od, rfl, .inr ⟨kvs, e1 _ _ upd_same, ?_⟩⟩
  refine ⟨fun i m σ' H' => m = kvs.length - i ∧ i ≤ kvs.length ∧ Pv od i σ' H', ⟨kvs.length, by simp, Nat.zero_le _, h0 od H1 e1⟩, ?_⟩
  rintro i m σ' H' ⟨rfl, hi, p⟩
  by_cases hlt : i < kvs.length
  · refine .inr ⟨⟨hl od i σ' H' p, hlt⟩, fun σ2 H2 => Pv od (i + 1) σ2 H2, fun σ2 H2 p2 => ⟨kvs.length - (i + 1), by omega, rfl, hlt, p2⟩, ?_⟩
    rintro x2 H2 ⟨rfl, kk, v, q, hk, rfl, hq⟩
    exact hs od i kk v q σ' _ hk hq p
  · have e0 : i = kvs.length := by omega
    subst e0
    exact .inl ⟨⟨hl od _ σ' H' p, Nat.le_refl _⟩, hl od _ σ' H' p, hf od σ' H' p⟩
theorem q_forKT {d : Addr} {kvs : List (List Key × V)} {j : Nat} (hd : H d = some (.dT kvs)) (h : ∀ od, Ev td σ (upd H d (.frz od (.dT kvs))) (.ref d)) (Pv : Obj → Nat → L2.St → Hp → Prop) (h0 : ∀ od H1, Ex (upd H d (.frz od (.dT kvs))) H1 → Pv od 0 σ H1)
    (hl : ∀ od i σ' H', Pv od i σ' H' → H' d = some (.frz od (.dT kvs)))
    (hs : ∀ od i kk v q σ' H', kvs[i]? = some (kk, v) → H' q = some (.tup (kk.map kV)) → Pv od i σ' H' → tu { nx := Pv od (i + 1), ct := Pv od (i + 1), bk := fun σ' H' => H' d = some (.frz od (.dT kvs)) ∧ tz D σ' (upd H' d (.dT kvs)), rt := fun v H' => H' d = some (.frz od (.dT kvs)) ∧ D.rt v (upd H' d (.dT kvs)) } (σ'.set j (some (.ref q))) H')
    (hf : ∀ od σ' H', Pv od kvs.length σ' H' → tz D σ' (upd H' d (.dT kvs))) : tSeq (tLock (tFor (iKeys td) (gName j) tu)) tz D σ H := s_forKT (D := { D with nx := tz D }) hd h Pv h0 hl hs hf
end
theorem valV_at {κ : Type} [DecidableEq κ] {kvs : List (κ × V)} {k : κ} {v : V} (h : valV kvs k = some v) : ∃ j : Nat, kvs[j]? = some (k, v) := by
  unfold valV at h
  cases e : kvs.find? fun kv => decide (kv.1 = k) with
  | none => rw [e] at h; cases h
  | some p =>
    rw [e] at h
    have h2 : p.2 = v := Option.some.inj h
    have h1 : p.1 = k := by have := List.find?_some e; exact of_decide_eq_true this
    obtain ⟨j, hj⟩ := List.mem_iff_getElem?.mp (List.mem_of_find?_eq_some e)
    exact ⟨j, by rw [hj, ← h1, ← h2]⟩
theorem valV_ex {κ : Type} [DecidableEq κ] {kvs : List (κ × V)} {i : Nat} {k : κ} {v : V} (h : kvs[i]? = some (k, v)) : ∃ w, valV kvs k = some w := by
  unfold valV
  cases e : kvs.find? fun kv => decide (kv.1 = k) with
  | none =>
    have := List.find?_eq_none.mp e _ (List.mem_of_getElem? h)
    simp at this
  | some p => exact ⟨p.2, rfl⟩
theorem rv_ixTF {K : PySem.W.Frag} {p b : Addr} {kvs : List (List Key × V)} {k : List Key} {v : V} {H : Hp} {od : Obj} (h : H p = some (.frz od (.dT kvs))) (hb : H b = some (.tup (k.map kV))) (hv : valV kvs k = some v) : RV (rIxA K) (.ref p) (.ref b) H v := fun H1 e _ q => .inr ⟨p, v, rfl, .inr ⟨kvs, k, b, .inr ⟨od, e _ _ h⟩, rfl, e _ _ hb, hv.symm⟩, q H1 (Ex.refl H1)⟩
section
variable {K : PySem.W.Frag} {A : Cn → Addr} {CA : Hp → Addr → Sp → Prop} {Tb : List (Addr × Str)} {σ : L2.St} {H H' : Hp} {D : Ends} {tz : TS} {E : L2.St → XK} {ta tb te : TE}
theorem s_setT {p b : Addr} {kvs : List (List Key × V)} {k : List Key} {v : V} (h : H p = some (.dT kvs)) (hv : Ev te σ H v) (ho : Ev ta σ H (.ref p)) (hk : Ev tb σ H (.ref b)) (hb : H b = some (.tup (k.map kV))) (hl : kvs.length < 100000) (kk : ∀ H1, Ex H H1 → tz D σ (upd H1 p (.dT (putK kvs k v)))) : tSeq (tAsg te (gSub ta tb rSetA)) tz D σ H :=
  hv H (Ex.refl H) _ fun H1 e1 => ho H1 e1 _ fun H2 e2 => hk H2 (e1.trans e2) _ fun H3 e3 => .inr ⟨p, _, rfl, DPut.t (((e1.trans e2).trans e3) _ _ h) (((e1.trans e2).trans e3) _ _ hb) (sz_lt hl), kk H3 ((e1.trans e2).trans e3)⟩
theorem s_setTval {l p b : Addr} {ns : List Int} {j : Nat} {fl : Int} {kvs : List (List Key × V)} {k : List Key} {tas : TA} (hl : SqL K H l (ns.map V.int)) (h : EvA tas σ H [.ref l, .int (j : Int), .int fl]) (hj : j ≤ 90000) (hw : H p = some (.dT kvs)) (hk : kvs.length < 100000) (ho : Ev ta σ H (.ref p)) (hb : Ev tb σ H (.ref b)) (g : H b = some (.tup (k.map kV)))
    (kk : ∀ x v H1, okV x → Ex H H1 → Vt H1 v (dV x) → D.nx σ (L2.upd H1 p (.dT (putK kvs k v)))) : tAsg (tCallS (sp_law_value K) E tas) (gSub ta tb rSetA) D σ H :=
  h H (Ex.refl H) _ fun H1 e1 => ⟨l, ns, j, fl, rfl, ex_l e1 hl, hj, fun x v H2 o e2 r => ho H2 (e1.trans e2) _ fun H3 e3 => hb H3 ((e1.trans e2).trans e3) _ fun H4 e4 => by
    have E4 := ((e1.trans e2).trans e3).trans e4
    exact .inr ⟨p, _, rfl, DPut.t (k := k) (E4 _ _ hw) (E4 _ _ g) (sz_lt hk), kk x v H4 o E4 (r.tup (.of_ex (e3.trans e4)))⟩⟩
theorem keys_dt : ∀ (kk : List Key), DtAll H (kk.map kV) (kk.map kD)
  | [] => .nil
  | .inl i :: r => .cons (.int i) (keys_dt r)
  | .inr z :: r => .cons (.str z) (keys_dt r)
theorem okD_keys {kk : List Key} (h : ∀ z : Str, (.inr z : Key) ∈ kk → okS z) : okD (.tuple (kk.map kD)) := by
  show okN 10 _
  rw [okN, okNs_iff]
  intro d hd
  obtain ⟨k, hk, rfl⟩ := List.mem_map.mp hd
  cases k with
  | inl i => show okN 9 (.int i); rw [okN]; trivial
  | inr z => show okN 9 (.str z); rw [okN]; exact h z hk
theorem dSp_key (s : Spot) : dSp s = .tuple ((keyS s).map kD) := rfl
theorem ev_ninG {v : V} {d : PyData} {ss : List Spot} {p : Addr} {xs : List V} (h1 : Ev ta σ H v) (r1 : Dt H v d) (h2 : Ev tb σ H (.ref p)) (hp : H p = some (.lst xs)) (r2 : AtSs H xs ss) (o1 : okD d) (o2 : ∀ x ∈ ss, okSp x) : Ev (tOp (rNinA K) ta tb) σ H (.bl (!((ss.map dSp).any fun z => PyData.eqv z d))) := fun H1 e Q q =>
  h1 H1 e _ fun H2 e2 => h2 H2 (e.trans e2) _ fun H3 e3 => by
    have E := (e.trans e2).trans e3
    exact .inr (.inr (.inr ⟨d, ss.map dSp, (r1.ex E).dp o1.nd, (Dt.lst (E _ _ hp) (r2.tup (.of_ex E)).dt).dp (okD_dSps o2).nd, o1.shaped, (okD_dSps o2).shaped, q H3 (e2.trans e3)⟩))
/-- what stands in the changed world, by a key of the first -/
def G2 (kvs kvs2 : List (List Key × V)) (ss : List Spot) (H : Hp) (kk : List Key) : Prop := ∃ v', valV kvs2 kk = some v' ∧ ∀ s, kk = keyS s → (s ∈ ss → valV kvs kk = some v') ∧ (s ∉ ss → ∃ x, okV x ∧ Vt H v' (dV x))
theorem G2.step {kvs kvs2 : List (List Key × V)} {ss : List Spot} {kk kk' : List Key} {v : V} (h : G2 kvs kvs2 ss H kk') (t : Tup H H') (n : G2 kvs (putK kvs2 kk v) ss H' kk) : G2 kvs (putK kvs2 kk v) ss H' kk' := by
  by_cases e : kk' = kk
  · rw [e]; exact n
  · obtain ⟨v', a, b⟩ := h
    refine ⟨v', by rw [valV_put, if_neg e]; exact a, fun s hs => ⟨(b s hs).1, fun m => ?_⟩⟩
    obtain ⟨x, o, r⟩ := (b s hs).2 m
    exact ⟨x, o, r.tup t⟩
theorem G2.tup {kvs kvs2 : List (List Key × V)} {ss : List Spot} {kk : List Key} (h : G2 kvs kvs2 ss H kk) (t : Tup H H') : G2 kvs kvs2 ss H' kk := by
  obtain ⟨v', a, b⟩ := h
  refine ⟨v', a, fun s hs => ⟨(b s hs).1, fun m => ?_⟩⟩
  obtain ⟨x, o, r⟩ := (b s hs).2 m
  exact ⟨x, o, r.tup t⟩
theorem r_law_changed (vs : List V) (H : Hp) (Q : VK) (E : XK) (h : sp_law_changed K vs H Q E) : t_law_changed K E { nx := fun _ H' => Q .non H', rt := Q } (L2.start ["script", "world", "once", "made", "k", "spot"] vs) H := by
  obtain ⟨l, wd, rw, oq, ns, tt, zs, W, R, ss, xs, rfl, hl, ⟨kvs, hwd, ks, kl⟩, w, hq, aq, ok, k⟩ := h
  unfold t_law_changed
  refine q_asgDT fun md H1 hmd e1 h1 => ?_
  refine q_asg (v := .int ((2000 + 3 * 0 : Nat) : Int)) ev_c fun H2 e2 => ?_
  have E2 := e1.trans e2
  have ne : md ≠ wd := fun z => by rw [z, hwd] at hmd; cases hmd
  refine q_forKT (d := wd) (kvs := kvs) (E2 _ _ hwd) (fun od => ev_var rfl) (fun od i σ' H' => ∃ x5, σ' = [some (.ref l), some (.ref wd), some (.ref oq), some (.ref md), some (.int ((2000 + 3 * i : Nat) : Int)), x5] ∧ H' wd = some (.frz od (.dT kvs)) ∧ (∀ a o, a ≠ wd → H a = some o → H' a = some o) ∧ ∃ kvs2, H' md = some (.dT kvs2) ∧ kvs2.length ≤ 2 * i ∧ ∀ (j : Nat) kk v, j < i → kvs[j]? = some (kk, v) → G2 kvs kvs2 ss H' kk)
    (fun od H3 e3 => ⟨_, rfl, e3 _ _ upd_same, fun a o na h => e3 _ _ ((upd_ne na).trans (E2 _ _ h)), [], e3 _ _ ((upd_ne ne).trans (e2 _ _ h1)), Nat.zero_le _, fun j kk v hj => absurd hj (Nat.not_lt_zero j)⟩) (fun od i σ' H' ⟨_, _, h, _⟩ => h) (fun od i kk v q σ' H' hi hqk ⟨x5, hσ, g1, g2, kvs2, g3, g4, g5⟩ => ?_) fun od σ' H' ⟨x5, hσ, g1, g2, kvs2, g3, g4, g5⟩ => ?_
  · subst hσ
    have il : i < kvs.length := (List.getElem?_eq_some_iff.mp hi).1
    have o1 := okD_keys (fun z hz => ks _ (List.mem_of_getElem? hi) z hz)
    obtain ⟨v0, hv0⟩ := valV_ex hi
    refine q_asg (v := .int ((2000 + 3 * (i + 1) : Nat) : Int)) (ev_is (ev_op (ev_var rfl) ev_c rv_addI) (by congr 1 <;> omega)) fun H3 e3 => ?_
    refine s_setT (k := kk) (e3 _ _ g3) (ev_op (ev_var rfl) (ev_var rfl) (rv_ixTF (e3 _ _ g1) (e3 _ _ hqk) hv0)) (ev_var rfl) (ev_var rfl) (e3 _ _ hqk) (by omega) fun H4 e4 => ?_
    have E4 := e3.trans e4
    have t5 : Tup H' (upd H4 md (.dT (putK kvs2 kk v0))) := fun a ys e => (upd_ne fun z => by rw [z, g3] at e; cases e).trans (E4 _ _ e)
    have k5 : ∀ {a : Addr} {o : HO}, H' a = some o → a ≠ md → (upd H4 md (.dT (putK kvs2 kk v0))) a = some o := fun e n => (upd_ne n).trans (E4 _ _ e)
    have m5 : (upd H4 md (.dT (putK kvs2 kk v0))) md = some (.dT (putK kvs2 kk v0)) := upd_same
    have q5 := k5 hqk (fun z => by rw [z, g3] at hqk; cases hqk)
    have w5 := k5 g1 (fun z => ne z.symm)
    have off : ∀ a o, a ≠ wd → H a = some o → (upd H4 md (.dT (putK kvs2 kk v0))) a = some o := fun a o n e => k5 (g2 a o n e) (fun z => by rw [z, hmd] at e; cases e)
    generalize (upd H4 md (.dT (putK kvs2 kk v0))) = H5 at *
    have l5 := putLen kvs2 kk v0
    have nl : ∀ {a : Addr} {ys : List V}, H a = some (.lst ys) → a ≠ wd := fun e z => by rw [z, hwd] at e; cases e
    have hl5 : SqL K H5 l (ns.map V.int) := by
      rcases hl with (h | ⟨o, h⟩) | h
      · exact .inl (.inl (off _ _ (nl h) h))
      · exact .inl (.inr ⟨o, off _ _ (fun z => by rw [z, hwd] at h; cases h) h⟩)
      · exact .inr h
    have hq5 : H5 oq = some (.lst xs) := off _ _ (nl hq) hq
    have aq5 : AtSs H5 xs ss := aq.tup fun a ys e => off _ _ (fun z => by rw [z, hwd] at e; cases e) e
    have nin := ev_ninG (K := K) (ta := tVar 5) (tb := tVar 2) (σ := [some (.ref l), some (.ref wd), some (.ref oq), some (.ref md), some (.int ((2000 + 3 * (i + 1) : Nat) : Int)), some (.ref q)]) (ev_var rfl) (Dt.tup q5 (keys_dt kk)) (ev_var rfl) hq5 aq5 o1 ok
    have anyS : ∀ s, kk = keyS s → ((ss.map dSp).any fun z => PyData.eqv z (.tuple (kk.map kD))) = decide (s ∈ ss) := fun s e => by rw [e, ← dSp_key]; exact any_dSp s ss
    refine s_when (et_test nin) (fun hb H6 e6 => ?_) (fun hb H6 e6 => ?_)
    · refine s_setTval (j := 2000 + 3 * (i + 1)) (k := kk) (ex_l e6 hl5) (ea_cons (ev_var rfl) (ea_cons (ev_var rfl) (ea_cons ev_c ea_nil))) (by omega) (e6 _ _ m5) (by omega) (ev_var rfl) (ev_var rfl) (e6 _ _ q5) fun x v1 H7 ox e7 rx => ?_
      have E7 := e6.trans e7
      have t8 : Tup H5 (upd H7 md (.dT (putK (putK kvs2 kk v0) kk v1))) := fun a ys e => (upd_ne fun z => by rw [z, m5] at e; cases e).trans (E7 _ _ e)
      have rx8 : Vt (upd H7 md (.dT (putK (putK kvs2 kk v0) kk v1))) v1 (dV x) := rx.tup fun a ys e => (upd_ne fun z => by rw [z, E7 _ _ m5] at e; cases e).trans e
      have new : G2 kvs (putK (putK kvs2 kk v0) kk v1) ss (upd H7 md (.dT (putK (putK kvs2 kk v0) kk v1))) kk := ⟨v1, by rw [valV_put, if_pos rfl], fun s hs => ⟨fun m => (by
        rw [anyS s hs, decide_eq_true m] at hb
        cases hb), fun _ => ⟨x, ox, rx8⟩⟩⟩
      have l8 := putLen (putK kvs2 kk v0) kk v1
      refine ⟨_, rfl, (upd_ne ne.symm).trans (E7 _ _ w5), fun a o n e => (upd_ne fun z => by rw [z, hmd] at e; cases e).trans (E7 _ _ (off a o n e)), _, upd_same, by omega, fun j kk' v' hj hk => ?_⟩
      by_cases z : j = i
      · rw [z, hi] at hk
        cases hk
        exact new
      · have old := g5 j kk' v' (by omega) hk
        by_cases e : kk' = kk
        · rw [e]; exact new
        · obtain ⟨u, a, b⟩ := old
          refine ⟨u, by rw [valV_put, if_neg e, valV_put, if_neg e]; exact a, fun s hs => ⟨(b s hs).1, fun m => ?_⟩⟩
          obtain ⟨x', o', r'⟩ := (b s hs).2 m
          exact ⟨x', o', (r'.tup t5).tup t8⟩
    · have t6 : Tup H' H6 := fun a ys e => e6 _ _ (t5 a ys e)
      have new : G2 kvs (putK kvs2 kk v0) ss H6 kk := ⟨v0, by rw [valV_put, if_pos rfl], fun s hs => ⟨fun _ => hv0, fun m => by
        rw [anyS s hs, decide_eq_false m] at hb
        cases hb⟩⟩
      refine ⟨_, rfl, e6 _ _ w5, fun a o n e => e6 _ _ (off a o n e), _, e6 _ _ m5, by omega, fun j kk' v' hj hk => ?_⟩
      by_cases z : j = i
      · rw [z, hi] at hk
        cases hk
        exact new
      · exact (g5 j kk' v' (by omega) hk).step t6 new
  · subst hσ
    have exH : Ex H (upd H' wd (.dT kvs)) := fun a o e => by
      by_cases n : a = wd
      · rw [n, hwd] at e; rw [n, upd_same]; exact e
      · exact (upd_ne n).trans (g2 a o n e)
    have tt' : Tup H' (upd H' wd (.dT kvs)) := fun a ys e => (upd_ne fun z => by rw [z, g1] at e; cases e).trans e
    have g3' : (upd H' wd (.dT kvs)) md = some (.dT kvs2) := (upd_ne ne).trans g3
    have g5' : ∀ (j : Nat) kk v, kvs[j]? = some (kk, v) → G2 kvs kvs2 ss (upd H' wd (.dT kvs)) kk := fun j kk v hj => (g5 j kk v (List.getElem?_eq_some_iff.mp hj).1 hj).tup tt'
    generalize (upd H' wd (.dT kvs)) = H9 at *
    refine s_ret (ev_var rfl) fun H10 e10 => ?_
    classical
    refine k md (fun s => if s ∈ ss then W s else if g : GoodC kvs2 H9 s then Classical.choose (Classical.choose_spec g) else .inl 0) H10 (exH.trans e10) ⟨⟨kvs2, e10 _ _ g3', fun s ds => ?_⟩, (w.r).imk (fun o e => (exH.trans e10) _ _ e), fun s => ?_, w.few⟩ fun s hs => (if_pos hs).symm
    · obtain ⟨kvs', a1, a2⟩ := w.w
      rw [hwd] at a1
      cases a1
      obtain ⟨v, b1, b2⟩ := a2 s ds
      obtain ⟨j, hj⟩ := valV_at b1
      obtain ⟨v', c1, c2⟩ := g5' j _ _ hj
      obtain ⟨c3, c4⟩ := c2 s rfl
      by_cases m : s ∈ ss
      · have e := c3 m
        rw [b1] at e
        cases e
        refine ⟨v, c1, ?_⟩
        dsimp only
        rw [if_pos m]
        exact b2.tup (.of_ex (exH.trans e10))
      · obtain ⟨x, ox, rx⟩ := c4 m
        have g : GoodC kvs2 H9 s := ⟨v', x, c1, ox, rx⟩
        obtain ⟨q1, q2, q3⟩ := Classical.choose_spec (Classical.choose_spec g)
        refine ⟨_, q1, ?_⟩
        dsimp only
        rw [if_neg m, dif_pos g]
        exact q3.tup (.of_ex e10)
    · try dsimp only
      split
      · exact w.ok s
      · split
        · rename_i g
          exact (Classical.choose_spec (Classical.choose_spec g)).2.1
        · exact ⟨by decide, by decide⟩
end
end Z
namespace Z
open PySem PySem.Spec PyProof.Rows L2 Evl NdefX LamX
def resD : Res → PyData
  | .val x => .tuple [.str "value", dV x]
  | .call is => .tuple [.str "call", .list (is.map PyData.int)]
theorem Told.dt {H : Hp} {v : V} {r : Res} (h : Told H v r) : Dt H v (resD r) := by
  cases r with
  | val x => obtain ⟨a, u, rfl, g, d⟩ := h; exact .tup g (.cons (.str _) (.cons d.dt .nil))
  | call is => obtain ⟨a, p, rfl, g1, g2⟩ := h; exact .tup g1 (.cons (.str _) (.cons (.lst g2 (dt_ints is)) .nil))
theorem okD_call (is : List Int) : okD (.tuple [.str "call", .list (is.map PyData.int)]) := by
  show okN 10 _
  rw [okN, okNs_iff]
  intro d hd
  rcases List.mem_cons.mp hd with e | hd
  · rw [e]; show okN 9 (.str "call"); rw [okN]; exact name_ok (z := "call") (by decide +kernel)
  · rw [List.mem_singleton.mp hd]
    show okN 9 (.list (is.map PyData.int))
    rw [okN, okNs_iff]
    intro d hd
    obtain ⟨i, _, rfl⟩ := List.mem_map.mp hd
    rw [okN]; trivial
theorem ed_el0 {te : TE} {σ : L2.St} {H : Hp} (h : EvL te σ H []) : EvD te σ H (.list []) := fun H1 e Q q => h H1 e _ fun p H2 _ e2 h2 => q _ H2 e2 (.lst h2 .nil)
theorem eqv_mtS (ss : List Spot) : PyData.eqv (.list (ss.map dSp)) (.list []) = decide (ss = []) := by
  cases ss with
  | nil => rfl
  | cons s r => rfl
section
variable {K : PySem.W.Frag} {A : Cn → Addr} {CA : Hp → Addr → Sp → Prop} {Tb : List (Addr × Str)} {σ : L2.St} {H H' : Hp} {D : Ends} {tz : TS} {E : L2.St → XK} {ta tb te : TE}
theorem r_law_fault (fx : FxR K A) (ir : IsK K A) (vs : List V) (H : Hp) (Q : VK) (E : XK) (h : sp_law_fault K A vs H Q E) : t_law_fault K A E { nx := fun _ H' => Q .non H', rt := Q } (L2.start ["world", "rule", "found", "once", "one"] vs) H := by
  obtain ⟨wd, rw, ru, oq, v, tt, zs, W, R, H0, kind, n0, n1, n2, ws, r, xs, rfl, w, lr, told, okr, hq, aq, oks, c1, c2, k⟩ := h
  unfold t_law_fault
  have oo : ∀ s ∈ once r.2, okSp s := fun s hs => (oks s (once_mem hs)).1
  obtain ⟨a, kd, y, rfl, ha, ekd⟩ := told_parts told
  have e3 := ev_eqD (K := K) (ta := tVar 3) (tb := tLst tNil) (σ := [some (.ref wd), some (.ref ru), some (.ref a), some (.ref oq), none]) (H := H) (ed_spots (ev_var rfl) hq aq) (ed_lst eds_nil (by decide)) (okD_dSps oo) (okI2 [])
  rw [eqv_mtS] at e3
  refine q_when (b := decide (once r.2 = [])) (et_is (et_or (et_not (et_B (ev_isi (ev_var rfl) (n := "tuple") (by show tyO (H a) = _; rw [ha]; rfl)))) fun _ => et_or (et_test (ev_op (ev_lenV (ev_var rfl) (rc_lenT (SqT.of ha))) ev_c (rv_neS rfl))) fun _ => et_test e3) (by simp; intro h; exact absurd h (by decide +kernel))) (fun hb H1 e1 => ?_) (fun hb H1 e1 => ?_)
  · have r0 := c1 (once_nil (of_decide_eq_true hb))
    have td := (told.dt).ex e1
    have eq : ∀ {σ : L2.St} {H2 : Hp} (js : List Int) {tj : TE}, σ[2]? = some (some (V.ref a)) → Ex H1 H2 → EvD tj σ H2 (.list (js.map PyData.int)) → (∀ is, r.1 = .call is → Ev (tOp (rEqA K) (tVar 2) (tTup (tCons (tC (.str "call")) (tCons tj tNil)))) σ H2 (.bl (PyData.eqv (.tuple [.str "call", .list (is.map PyData.int)]) (.tuple [.str "call", .list (js.map PyData.int)])))) := fun {σ H2} js {tj} h2 e hj is er => by
      rw [er] at td
      exact ev_eqD (K := K) (ed_var h2 (td.ex e)) (ed_tup (eds_cons (ed_s ev_c) (eds_cons hj eds_nil)) (show 2 ≤ 100000 by decide)) (okD_call is) (okD_call js)
    have l0 : ∀ {σ : L2.St} {H2 : Hp}, EvD (tLst tNil) σ H2 (.list (([] : List Int).map PyData.int)) := ed_lst eds_nil (by decide)
    have l5 : ∀ {σ : L2.St} {H2 : Hp}, EvD (tLst (tCons (tC (.int 5)) tNil)) σ H2 (.list (([5] : List Int).map PyData.int)) := ed_lst (eds_cons (ed_i ev_c) eds_nil) (show 1 ≤ 100000 by decide)
    rcases r0 with er | er
    · refine s_ret (v := .bl true) (ev_is (ev_orV (eq [] rfl (Ex.refl H1) l0 _ er) (fun _ => eq [5] rfl (Ex.refl H1) l5 _ er)) ?_) fun H2 e2 => k H2 (e1.trans e2)
      rfl
    · refine s_ret (v := .bl true) (ev_is (ev_orV (eq [] rfl (Ex.refl H1) l0 _ er) (fun _ => eq [5] rfl (Ex.refl H1) l5 _ er)) ?_) fun H2 e2 => k H2 (e1.trans e2)
      rfl
  have a1 := e1 _ _ ha
  have t0 : ∀ {σ : L2.St} {H2 : Hp}, Ex H1 H2 → σ[2]? = some (some (V.ref a)) → EvT (tTest (tOp (rEqA K) (tOp (rIxA K) (tVar 2) (tC (.int 0))) (tC (.str "call")))) σ H2 (decide (kd = "call")) := fun e h => et_is (et_test (ev_op (ev_pt (ev_var h) (e _ _ a1)).1 ev_c (rv_eqS rfl))) (decide_eq_decide.mpr ⟨fun z => by injection z, fun z => by rw [z]⟩)
  cases hr : r.1 with
  | call is =>
    rw [hr] at told ekd okr
    have ekd : kd = "call" := ekd
    obtain ⟨a', p, q1, q2, px⟩ := told
    cases q1
    rw [ha] at q2
    cases q2
    refine q_when (b := true) (et_is (t0 (Ex.refl H1) rfl) (by rw [ekd]; decide +kernel)) (fun _ H2 e2 => ?_) (fun hb => nomatch hb)
    have E2 := e1.trans e2
    have lis : is.length ≤ 1000 := okr
    have el : EvL (tLc (iList K (tOp (rIxA K) (tVar 2) (tC (.int 1)))) (gName 4) (tNot (tB (tCall (sp_law_whole K) [] E0 (tCons (tVar 4) tNil)))) (tVar 4) [4]) [some (.ref wd), some (.ref ru), some (.ref a), some (.ref oq), none] H2 [] := by
      have := el_lcL (K := K) (t := tNot (tB (tCall (sp_law_whole K) [] E0 (tCons (tVar 4) tNil)))) (te := tVar 4) (j := 4) (vs := [4]) (fun _ => false) (fun _ => .non) (tl := tOp (rIxA K) (tVar 2) (tC (.int 1))) (σ := [some (.ref wd), some (.ref ru), some (.ref a), some (.ref oq), none]) (H := H2) (ev_pt (ev_var rfl) (E2 _ _ ha)).2 (SqL.of (E2 _ _ px)) (by rw [List.length_map]; omega) (fun _ => rfl)
        (fun i x H4 e4 hi => by
          rw [List.getElem?_map] at hi
          cases hq : is[i]? with
          | none => rw [hq] at hi; cases hi
          | some n =>
            rw [hq] at hi
            cases hi
            exact et_is (et_not (et_B (ev_b (ed_call (ds := [.int n]) (eds_cons (ed_i (ev_var rfl)) eds_nil) rfl True.intro)))) rfl) (fun i x H4 e4 hi hf => nomatch hf)
      have eg : given (is.map V.int).length (fun _ => false) (fun _ => V.non) = [] := by
        unfold given
        rw [List.filter_eq_nil_iff.mpr (by simp)]
        rfl
      rwa [eg] at this
    exact s_ret (v := .bl true) (ev_is (ev_eqD (ed_el0 el) (ed_el0 (el_lst ea_nil (by decide))) (okI2 []) (okI2 [])) rfl) fun H3 e3 => k H3 (E2.trans e3)
  | val x =>
    rw [hr] at told ekd okr
    have ekd : kd = "value" := ekd
    obtain ⟨a', u, q1, q2, vx⟩ := told
    cases q1
    rw [ha] at q2
    cases q2
    refine q_when (b := false) (et_is (t0 (Ex.refl H1) rfl) (by rw [ekd]; decide +kernel)) (fun hb => nomatch hb) fun _ H2 e2 => ?_
    have E2 := e1.trans e2
    rcases c2 x hr with ⟨ek, i, rfl⟩ | ⟨z, rfl, cz⟩
    · refine q_when (b := true) (et_is (et_B (ev_isi (ev_pt (ev_var rfl) (E2 _ _ ha)).2 (vt_ty (vx.tup (.of_ex E2))))) rfl) (fun _ H3 e3 => ?_) (fun hb => nomatch hb)
      refine s_ret (v := .bl true) (ev_is (ev_isK rfl (lr.keep fun a o e _ _ => (E2.trans e3) _ _ e) fx ir (.tail _ (.head _))) (by rw [ek]; rfl)) fun H4 e4 => k H4 ((E2.trans e3).trans e4)
    · refine q_when (b := false) (et_is (et_B (ev_isi (ev_pt (ev_var rfl) (E2 _ _ ha)).2 (vt_ty (vx.tup (.of_ex E2))))) rfl) (fun hb => nomatch hb) fun _ H3 e3 => ?_
      have E3 := E2.trans e3
      have e4 := ev_eqD (K := K) (ta := tOp (rIxA K) (tVar 2) (tC (.int 1))) (tb := tTup (tCons (tC (.str "fault")) (tCons (tC (.str "lacks")) tNil))) (σ := [some (.ref wd), some (.ref ru), some (.ref a), some (.ref oq), none]) (H := H3) (ed_ev (ev_pt (ev_var rfl) (E3 _ _ ha)).2 (vx.tup (.of_ex E3)).dt) (ed_tup (eds_cons (ed_s ev_c) (eds_cons (ed_s ev_c) eds_nil)) (show 2 ≤ 100000 by decide)) (val_okD (okV.val okr)) (val_okD (okV.val (x := .inr "lacks") (show isName "lacks" = true by decide +kernel)))
      rw [show PyData.tuple [.str "fault", .str "lacks"] = dV (.inr "lacks") from rfl, eqv_dV (x := .inr z) (y := .inr "lacks") okr (show isName "lacks" = true by decide +kernel)] at e4
      refine q_when (et_and (et_test e4) fun _ => et_B (ev_isK rfl (lr.keep fun a o e _ _ => E3 _ _ e) fx ir (.tail _ (.tail _ (.head _))))) (fun _ H4 e4' => s_ret ev_c fun H5 e5 => k H5 ((E3.trans e4').trans e5)) fun hb H4 e4' => ?_
      have E4 := E3.trans e4'
      obtain ⟨ls, s, f1, f2, f3⟩ : Last W r z := by
        rcases cz with ⟨z1, z2⟩ | L
        · rw [decide_eq_true (show (Sum.inr z : Val) = .inr "lacks" by rw [z2]), decide_eq_true (show kind = kno .Lookup from z1)] at hb
          cases hb
        · exact L
      have el := once_last f2
      rw [← f1] at el
      have ds := (oks s (by rw [f1]; simp)).2
      have aq4 := aq.tup (.of_ex E4)
      rw [el] at aq4
      obtain ⟨vl, g1, g2⟩ := aq4.2 (once ls).length s (by simp)
      have lx : xs.length = (once ls).length + 1 := by have := aq4.1; rw [List.length_append, List.length_singleton] at this; exact this
      have xe : ∃ ys, xs = ys ++ [vl] := by
        refine ⟨xs.take (once ls).length, ?_⟩
        have := List.take_append_drop (once ls).length xs
        rw [List.drop_eq_getElem_cons (by omega)] at this
        rw [List.getElem?_eq_getElem (by omega)] at g1
        rw [← Option.some.inj g1]
        rw [List.drop_eq_nil_iff.mpr (by omega)] at this
        exact this.symm
      obtain ⟨ys, rfl⟩ := xe
      obtain ⟨u2, hu, ru2⟩ := ev_world (K := K) (ta := tVar 0) (tb := tOp (rIxA K) (tVar 3) (tUn rNegA (tC (.int 1)))) (σ := [some (.ref wd), some (.ref ru), some (.ref a), some (.ref oq), none]) (H := H4) (w.ex E4).w ds (ev_var rfl) (ev_op (ev_var rfl) (ev_neg (i := 1) ev_c) (rv_itL (SqL.of (E4 _ _ hq)) (atI_last ys vl))) g2
      have ws := w.ok s
      refine s_ret (v := .bl true) (ev_is (ev_eqD (ed_ev (ev_pt (ev_var rfl) (E4 _ _ ha)).2 (vx.tup (.of_ex E4)).dt) (ed_ev hu ru2.dt) (val_okD (okV.val okr)) (val_okD (okV.val ws))) ?_) fun H5 e5 => k H5 (E4.trans e5)
      rw [f3, eqv_self (val_okD (okV.val (x := .inr z) okr))]
end
end Z
namespace Z
open PySem PySem.Spec PyProof.Rows L2 Evl NdefX LamX
section
variable {K : PySem.W.Frag} {A : Cn → Addr} {CA : Hp → Addr → Sp → Prop} {Tb : List (Addr × Str)}
theorem q_st9 {t tz : TS} {D : Ends} {σ : L2.St} {H : Hp} (h : t { D with nx := tz D } σ H) : tSeq t tz D σ H := h
theorem dx9 {te : TE} {tz : TS} {D : Ends} {σ : L2.St} {H : Hp} (h : te σ H fun _ H1 => tz D σ H1) : tSeq (tDrop te) tz D σ H := h
theorem gK_dom {W : Spot → Val} {R : Str → Nat} {t own n0 n1 n2 : Str} {ws zs ts : List Str} {p kind : Int} {s : Spot} (pl : Pl R ts t p) (wz : ∀ w ∈ ws, w ∈ zs) (m0 : n0 ∈ zs) (mo : own ∈ zs) (m1 : kind = 2 → n1 ∈ zs) (m1' : kind = 3 → n1 ∈ ts) (m2 : n2 ∈ zs) (h : s ∈ (gK kind W R t own n0 n1 n2 ws p).2) : domW ts zs R s := by
  have ofm : s ∈ ws.map (fun z => ((t, z, p) : Spot)) → domW ts zs R s := fun h => by
    obtain ⟨z, hz, rfl⟩ := List.mem_map.mp h
    exact pl.dom (wz z hz)
  unfold gK at h
  split at h
  · exact ofm (turn_sub h)
  split at h
  · unfold gAbove at h
    split at h
    · rename_i hp
      rcases List.mem_cons.mp (turn_sub h) with z | z
      · obtain ⟨ht, i, ei, il⟩ := pl
        rw [z]
        exact ⟨ht, mo, i - 1, by show p - 1 = _; omega, by show i - 1 < R t; omega⟩
      · exact ofm z
    · rw [pre_2] at h
      exact ofm (turn_sub (by simpa using h))
  split at h
  · rename_i e2
    unfold gGroup at h
    cases hw : W (t, n0, p) with
    | inr w =>
      rw [hw] at h
      rw [List.mem_singleton.mp h]
      exact pl.dom m0
    | inl m =>
      rw [hw] at h
      dsimp only at h
      rw [pre_2] at h
      rcases List.mem_append.mp h with h | h
      · rw [List.mem_singleton.mp h]
        exact pl.dom m0
      · obtain ⟨a, b, i, hi, ei⟩ := grp_at h
        refine ⟨by rw [a]; exact pl.1, ?_, i, ei, by rw [a]; exact List.mem_range.mp hi⟩
        rcases b with b | b
        · rw [b]; exact m0
        · rw [b]; exact m1 e2
  split at h
  · rename_i e3
    unfold gLookup at h
    cases hw : W (t, n0, p) with
    | inr w =>
      rw [hw] at h
      rw [List.mem_singleton.mp h]
      exact pl.dom m0
    | inl m =>
      rw [hw] at h
      dsimp only at h
      rw [pre_2] at h
      rcases List.mem_append.mp h with h | h
      · rw [List.mem_singleton.mp h]
        exact pl.dom m0
      · obtain ⟨a, b, i, hi, ei⟩ := lkp_at h
        refine ⟨by rw [a]; exact m1' e3, ?_, i, ei, by rw [a]; exact List.mem_range.mp hi⟩
        rcases b with b | b
        · rw [b]; exact m2
        · exact wz _ b
  unfold gMend at h
  cases hw : W (t, n0, p) <;> (rw [hw] at h; rw [List.mem_singleton.mp h]; exact pl.dom m0)
theorem KW.k {H H' : Hp} {wd : Addr} (h : KW H wd) (x : XB Tb [] H H') : KW H' wd := let ⟨kvs, a, b, c⟩ := h; ⟨kvs, x.k _ _ a (by simp) (fun _ z => nomatch z), b, c⟩
theorem r_law (vs : List V) (H : Hp) (Q : VK) (E : XK) (h : spLawT K Tb vs H Q E) :
    t_law K A CA Tb E { nx := fun _ H' => Q .non H', rt := Q } (L2.start ["script", "words", "world", "rows", "turn", "at", "table", "other", "place", "own", "names", "some", "kind", "rule", "found", "once", "changed", "again", "same", "j"] vs) H := by
  obtain ⟨l, ns, rfl, hl, hn63, hT, k⟩ := h
  unfold t_law
  refine q_names hl (ev_var rfl) (ev_c (v := .int ((8 : Nat) : Int))) (by decide) fun np zs8 H1 l8 nd n8 _ e1 h1 => ?_
  obtain ⟨zs, t1, t2, rfl, l6, t12, nz, nt⟩ := names8 l8 nd n8
  refine ⟨_, rfl, el_cols h1 l6 (ev_var rfl) H1 (Ex.refl H1) _ fun pz H2 _ e2 g2 => el_tabs (e2 _ _ h1) l6 (ev_var rfl) H2 (Ex.refl H2) _ fun pt H3 _ e3 g3 => ev_drawn (j := 11) (ex_l ((e1.trans e2).trans e3) hl) (ev_var rfl) ev_c ev_c (by decide) (by decide) H3 (Ex.refl H3) _ fun H4 e4 => ?_⟩
  refine ⟨l, pz, pt, ns, zs, t1, t2, drawn ns 11 4, 100, rfl, ex_l (((e1.trans e2).trans e3).trans e4) hl, (e3.trans e4) _ _ g2, by omega, e4 _ _ g3, t12, by decide, fun z hz => name_ok (nz z hz), name_ok (nt t1 (by simp)), name_ok (nt t2 (by simp)), fun a wd rw H5 W R e5 h5 kw w rp1 => g_two (K := K) rfl h5 ?_⟩
  have E5 : Ex H H5 := ((((e1.trans e2).trans e3).trans e4).trans e5)
  have hn5 : H5 np = some (.lst ((zs ++ [t1, t2]).map V.str)) := (((e2.trans e3).trans e4).trans e5) _ _ h1
  have x15 : XB Tb [] H H5 := XB.of E5
  clear h5 g2 g3 h1
  refine q_forR1 (n := 4) (ea_cons (ev_c (v := .int 4)) ea_nil) (by decide) (fun i σ' H' => (∃ x4 x5 x6 x7 x8 x9 x10 x11 x12 x13 x14 x15 x16 x17 x18 x19 : Option V, σ' = [some (.ref l), some (.ref np), some (.ref wd), some (.ref rw), x4, x5, x6, x7, x8, x9, x10, x11, x12, x13, x14, x15, x16, x17, x18, x19]) ∧ XB Tb [] H5 H')
    (fun H6 e6 => ⟨⟨_, _, _, _, _, _, _, _, _, _, _, _, _, _, _, _, rfl⟩, XB.of e6⟩) ?_ ?_
  · rintro i σ' H6 hi ⟨⟨x4, x5, x6, x7, x8, x9, x10, x11, x12, x13, x14, x15', x16, x17, x18, x19, rfl⟩, X6⟩
    have hi : i < 4 := by omega
    have hl6 := sqL_xb (x15.trans X6) hl
    have hn6 := X6.lst hn5
    have w6 := w.xb X6
    have kw6 := kw.k X6
    have T6 := X6.t (x15.t hT)
    obtain ⟨rvs, rv1, rv2⟩ := w6.r
    obtain ⟨at_, hat⟩ : ∃ at_ : Nat, at_ = 30 * i + 1500 := ⟨_, rfl⟩
    refine q_asg (v := .int (at_ : Int)) (ev_is (ev_op (ev_op ev_c (ev_var rfl) (rv_mulI (wide_mul (a := 20) (b := 20) (by decide) (by omega) (by decide) (by decide) (by decide)))) ev_c rv_addI) (by rw [hat]; congr 1 <;> omega)) fun H7 e7 => ?_
    refine q_tab (j := at_) (ex_l e7 hl6) (ev_var rfl) (ev_var rfl) (ev_var rfl) (el_tabs (e7 _ _ hn6) l6 (ev_var rfl)) (w6.ex e7).r rp1 (by omega) fun t H8 mt ht e8 => ?_
    have E8 := e7.trans e8
    have dr : ∀ {σ : L2.St} {H' : Hp} {c : Nat} {n : Int} {tc : TE} {E : L2.St → XK}, Ex H6 H' → σ[0]? = some (some (V.ref l)) → σ[5]? = some (some (.int (at_ : Int))) → Ev tc σ H' (.int n) → 0 < n → c ≤ 100 → Ev (tCallS (sp_law_drawn K) E (tCons (tVar 0) (tCons (tOp (rAddA K) (tVar 5) (tC (.int (c : Int)))) (tCons tc tNil)))) σ H' (.int (drawn ns (at_ + c) n)) := fun e h0 h5 hc hn hcl =>
      ev_drawn (ex_l e hl6) (ev_var h0) (ev_is (ev_op (ev_var h5) ev_c rv_addI) (by rw [← Int.natCast_add])) hc (by omega) hn
    have bo := drawn_bd ns (at_ + 1) (size := 2) (by decide)
    obtain ⟨o, ho, ixo⟩ := tab_at (zs := zs) (t1 := t1) (t2 := t2) l6 bo.1 bo.2
    refine q_asg (ev_op (ev_var rfl) (ev_op ev_c (dr (c := 1) E8 rfl rfl ev_c (by decide) (by decide)) rv_addI) (rv_itL (SqL.of (E8 _ _ hn6)) ixo)) fun H9 e9 => ?_
    have E9 := E8.trans e9
    have bp := drawn_bd ns (at_ + 2) (size := (R t : Int)) (by omega)
    refine q_asg (dr (c := 2) (n := (R t : Int)) E9 rfl rfl (ev_op (ev_var rfl) (ev_var rfl) (rv_ixDk (k := .inr t) (E9 _ _ rv1) (rv2 t mt))) (by omega) (by decide)) fun H10 e10 => ?_
    have E10 := E9.trans e10
    have pl : Pl R [t1, t2] t (drawn ns (at_ + 2) (R t)) := ⟨mt, (drawn ns (at_ + 2) (R t)).toNat, (Int.toNat_of_nonneg bp.1).symm, by omega⟩
    generalize hp : drawn ns (at_ + 2) (R t) = p at bp pl ⊢
    refine q_nameAt (j := at_ + 3) (x := ((at_ : Int) + 3)) (by omega) (ex_l E10 hl6) (E10 _ _ hn6) (by omega) (by decide) (ev_var rfl) (ev_var rfl) (ev_op (ev_var rfl) ev_c rv_addI) (by omega) fun own H11 hown e11 => ?_
    have E11 := E10.trans e11
    refine q_drawnNames (zs := zs) (n := 3) (ea_cons ev_c ea_nil) (by decide) (fun _ => rfl) (fun m H12 e12 hm => by
      have b := drawn_bd ns (at_ + 4 + m) (size := 6) (by decide)
      obtain ⟨z, hz, ix⟩ := name_at (zs := zs) (ts := [t1, t2]) (n := 6) l6 b.1 b.2
      exact ⟨z, hz, ev_op (ev_var rfl) (ev_drawnB (j := at_ + 4 + m) (ex_l (E11.trans e12) hl6) (ev_var rfl) (ev_is (ev_op (ev_op (ev_var rfl) ev_c rv_addI) (ev_var rfl) rv_addI) (by push_cast; rfl)) ev_c (by omega) (by decide)) (rv_itL (SqL.of ((E11.trans e12) _ _ hn6)) ix)⟩) fun nq nms H12 hnq e12 h12 lnm mnm => ?_
    obtain ⟨n0, n1, n2, rfl⟩ : ∃ a b c, nms = [a, b, c] := by
      match nms, lnm with
      | [a, b, c], _ => exact ⟨_, _, _, rfl⟩
    have E12 := E11.trans e12
    refine q_picked (j := at_ + 8) (x := (at_ : Int) + 8) (by omega) (ex_l E12 hl6) (ev_var rfl) (ev_op (ev_var rfl) ev_c rv_addI) (el_cols (E12 _ _ hn6) l6 (ev_var rfl)) (by omega) (by omega) (by omega) fun sm ws H13 w5 wz hsm e13 h13 => ?_
    have E13 := E12.trans e13
    have bk := drawn_bd ns (at_ + 20) (size := 5) (by decide)
    refine q_asg (dr (c := 20) E13 rfl rfl ev_c (by decide) (by decide)) fun H14 e14 => ?_
    generalize hk : drawn ns (at_ + 20) 5 = kind at bk ⊢
    have E14 := E13.trans e14
    have m0 := mnm n0 (by simp)
    have m1 := mnm n1 (by simp)
    have m2 := mnm n2 (by simp)
    refine q_call1 (ea_cons (ev_var rfl) (ea_cons (ev_var rfl) (ea_cons (ev_var rfl) (ea_cons (ev_var rfl) ea_nil)))) fun H15 e15 => ⟨nq, sm, kind, n0, n1, n2, o, ws, rfl, bk.1, bk.2, ((e13.trans e14).trans e15) _ _ h12, (e14.trans e15) _ _ h13, w5, ⟨nz _ m0, nz _ m1, nz _ m2, nt _ ho⟩, fun z hz => nz z (wz z hz), (XB.of (T := Tb) (F := []) (E14.trans e15)).t T6, fun ru H16 X16 lr => ?_⟩
    have X616 : XB Tb [] H6 H16 := (XB.of (E14.trans e15)).trans X16
    have hsm16 : H16 sm = some (.lst (ws.map V.str)) := X16.lst ((e14.trans e15) _ _ h13)
    have hsm6 : H6 sm = none := fresh_back E12 hsm
    obtain ⟨z0, hz0, ix0⟩ := name_at (zs := zs) (ts := [t1, t2]) (i := 0) (n := 6) l6 (by decide) (by decide)
    refine q_st9 (s_app hsm16 (ev_var rfl) (ev_op (ev_var rfl) ev_c (rv_itL (SqL.of (X616.lst hn6)) ix0)) (by rw [List.length_map]; omega) fun H17 e17 => ?_)
    have s17 := e17 _ _ hsm16
    have X18 : XB Tb [] H6 (upd H17 sm (.lst (ws.map V.str ++ [.str z0]))) := (X616.trans (XB.of e17)).updN hsm6 s17 (fun z => z) fun _ z => nomatch z
    have lr18 : LR A H15 (upd H17 sm (.lst (ws.map V.str ++ [.str z0]))) ru kind n0 (nmO kind o n1) n2 ws := (lr.xb (XB.of (T := Tb) e17)).keep fun a o e c _ => (upd_ne fun z => by
      subst z
      rw [s17] at e
      cases e
      rcases c with c | c
      · rw [(e14.trans e15) _ _ h13] at c; cases c
      · exact c _ rfl).trans e
    have sm18 : (upd H17 sm (.lst (ws.map V.str ++ [.str z0]))) sm = some (.lst ((ws ++ [z0]).map V.str)) := by rw [upd_same, List.map_append]; rfl
    have nq18 : (upd H17 sm (.lst (ws.map V.str ++ [.str z0]))) nq = some (.lst [.str n0, .str n1, .str n2]) := (upd_ne fun z => by rw [z] at h12; rw [h12] at hsm; cases hsm).trans (e17 _ _ (X16.lst (((e13.trans e14).trans e15) _ _ h12)))
    generalize (upd H17 sm (.lst (ws.map V.str ++ [.str z0]))) = H18 at *
    clear lr s17 e17 hsm16 X616 X16
    -- another rule beside
    have hl18 := sqL_xb X18 hl6
    have T18 := X18.t T6
    have b21 := drawn_bd ns (at_ + 21) (size := 5) (by decide)
    dsimp only
    refine dx9 ?_
    refine (ev_drawn (K := K) (E := WE (fun cls d _ H => E cls d H)) (ta := tVar 0) (tb := tOp (rAddA K) (tVar 5) (tC (.int 21))) (tc := tC (.int 5)) (j := at_ + 21) (size := 5) hl18 (ev_var rfl) (ev_is (ev_op (ev_var rfl) ev_c rv_addI) (by rw [Int.natCast_add]; rfl)) ev_c (by omega) (by decide)) H18 (Ex.refl H18) _ fun H19 e19 => ?_
    refine ⟨_, rfl, ?_⟩
    refine el_slA (K := K) (te := tVar 11) (tl := tNoPart) (th := tPart (tC (.int 2))) (ev_var rfl) eo_none (eo_some (ev_c (v := .int 2))) (SqL.of (e19 _ _ sm18)) H19 (Ex.refl H19) _ fun cq H20 _ e20 h20 => ?_
    refine ⟨_, rfl, ?_⟩
    rw [show cutV (List.map V.str (ws ++ [z0])) none (some 2) = ((ws ++ [z0]).take 2).map V.str from (cut_take (i := 2)).trans List.map_take.symm] at h20
    have X20 : XB Tb [] H18 H20 := XB.of (e19.trans e20)
    refine ⟨nq, cq, drawn ns (at_ + 21) 5, n0, n1, n2, t, (ws ++ [z0]).take 2, rfl, b21.1, b21.2, (e19.trans e20) _ _ nq18, h20, by rw [List.length_take]; omega, ⟨nz _ m0, nz _ m1, nz _ m2, nt _ mt⟩, fun z hz => ?_, X20.t T18, fun ru2 H21 X21 _ => ?_⟩
    · rcases List.mem_append.mp (List.mem_of_mem_take hz) with q | q
      · exact nz z (wz z q)
      · rw [List.mem_singleton.mp q]; exact nz z0 hz0
    have X1821 := X20.trans X21
    have X621 := X18.trans X1821
    have lr21 := lr18.xb X1821
    have w21 := w6.xb X621
    have m1' : kind = 2 → nmO kind o n1 ∈ zs := fun e => by rw [e]; exact m1
    have m1'' : kind = 3 → nmO kind o n1 ∈ [t1, t2] := fun e => by rw [e]; exact ho
    have okm : isName (nmO kind o n1) = true := by
      show isName (if kind = 3 then o else n1) = true
      split
      · exact nt o ho
      · exact nz n1 m1
    obtain ⟨g1, g2⟩ := gK_ok w.ok (R := R) (t := t) (own := own) (n0 := n0) (n1 := nmO kind o n1) (n2 := n2) (ws := ws) (p := p) (kind := kind) (w.few t mt) (fun e => w.few _ (m1'' e)) w5
    obtain ⟨r, hr⟩ : ∃ r, r = gK kind W R t own n0 (nmO kind o n1) n2 ws p := ⟨_, rfl⟩
    rw [← hr] at g1 g2
    refine q_gath (PR := PR19 A) (r := r) (ea_cons (ev_var rfl) (ea_cons (ev_var rfl) (ea_cons (ev_var rfl) (ea_cons (ev_var rfl) (ea_cons (ev_var rfl) (ea_cons (ev_var rfl) ea_nil)))))) (X621.t T6) w21 nz nt (fun H22 e22 => by rw [hr]; exact pr_of (lr21.xb (XB.of (T := Tb) e22)) pl w5 wz m0 hown m1' m1'' m2) (by omega) fun v q xs H22 X22 got hq at22 okq => ?_
    have lr22 := lr21.xb X22
    have w22 := w21.xb X22
    have okr : ∀ s ∈ r.2, okSp s := fun s hs => okq s (once_all hs)
    have domr : ∀ s ∈ r.2, domW [t1, t2] zs R s := fun s hs => gK_dom (W := W) (own := own) pl wz m0 hown m1' m1'' m2 (by rw [← hr]; exact hs)
    refine q_when (b := false) (et_is (et_or (et_not (et_B (ev_callS (ea_cons (ev_var rfl) (ea_cons (ev_var rfl) (ea_cons (ev_var rfl) (ea_cons (ev_var rfl) (ea_cons (ev_var rfl) ea_nil))))) fun H23 e Q q2 E => ⟨ru, q, t, own, p, H15, kind, n0, nmO kind o n1, n2, ws, xs, once r.2, rfl, lr22.xb (XB.of (T := Tb) e), ⟨nt t mt, nz own hown, nz n0 m0, okm, nz n2 m2⟩, fun z hz => nz z (wz z hz), w5, e _ _ hq, at22.tup (.of_ex e), okq, fun s hs => gK_lean bk.1 (by rw [← hr]; exact once_mem hs), fun H24 e24 => q2 H24 e24⟩))) fun _ => et_not (et_B (ev_callS (ea_cons (ev_var rfl) (ea_cons (ev_var rfl) (ea_cons (ev_var rfl) (ea_cons (ev_var rfl) ea_nil)))) fun H23 e Q q2 E => ⟨wd, rw, ru, q, v, [t1, t2], zs, W, R, H15, kind, n0, nmO kind o n1, n2, ws, r, xs, rfl, w22.ex e, lr22.xb (XB.of (T := Tb) e), got.told.ex e, g1, e _ _ hq, at22.tup (.of_ex e), fun s hs => ⟨okr s hs, domr s hs⟩, fun h => by rw [hr] at h ⊢; exact gK_empty h, fun x hx => ?_, fun H24 e24 => q2 H24 e24⟩))) rfl) (fun hb => nomatch hb) fun _ H23 e23 => ?_
    · rw [hr] at hx ⊢
      rcases gK_val hx with ⟨⟨a0, a1, a2, a3⟩, b⟩ | b
      · exact .inl ⟨by have := bk.1; have := bk.2; omega, b⟩
      · exact .inr b
    have X623 : XB Tb [] H6 H23 := (X621.trans X22).trans (XB.of e23)
    -- other values where it did not look
    refine q_call1 (ea_cons (ev_var rfl) (ea_cons (ev_var rfl) (ea_cons (ev_var rfl) ea_nil))) fun H24 e24 => ⟨l, wd, rw, q, ns, [t1, t2], zs, W, R, once r.2, xs, rfl, ex_l e24 (sqL_xb X623 hl6), (kw6.k X623).k (XB.of (T := Tb) e24), (w22.ex e23).ex e24, (e23.trans e24) _ _ hq, at22.tup (.of_ex (e23.trans e24)), okq, fun wd2 W' H25 e25 w25 same => ?_⟩
    have e' : gK kind W' R t own n0 (nmO kind o n1) n2 ws p = r := by
      rw [hr]
      exact gK_cg fun s hs => same s (once_all (by rw [hr]; exact hs))
    have E25 := (e23.trans e24).trans e25
    have X2225 : XB Tb [] H22 H25 := XB.of E25
    refine q_gath (PR := PR19 A) (r := r) (ea_cons (ev_var rfl) (ea_cons (ev_var rfl) (ea_cons (ev_var rfl) (ea_cons (ev_var rfl) (ea_cons (ev_var rfl) (ea_cons (ev_var rfl) ea_nil)))))) (X2225.t (X22.t (X621.t T6))) w25 nz nt (fun H26 e26 => by rw [← e']; exact pr_of ((lr22.xb X2225).xb (XB.of (T := Tb) e26)) pl w5 wz m0 hown m1' m1'' m2) (by omega) fun v2 q2 xs2 H26 X26 got2 hq2 at26 okq2 => ?_
    have X2226 := X2225.trans X26
    have told1 : Told H26 v r.1 := got.told.xb X2226 (by simp)
    have sd := ev_neSs (K := K) (ta := tVar 18) (tb := tVar 15) (ss := once r.2) (σ := [some (.ref l), some (.ref np), some (.ref wd), some (.ref rw), some (.int (i : Int)), some (.int (at_ : Int)), some (.str t), some (.str o), some (.int p), some (.str own), some (.ref nq), some (.ref sm), some (.int kind), some (.ref ru), some v, some (.ref q), some (.ref wd2), some v2, some (.ref q2), x19]) (H := H26) (ed_spots (ev_var rfl) hq2 at26) (ed_spots (ev_var rfl) (X2226.lst hq) (at22.tup X2226.i.tup)) okq
    refine s_when (b := false) (et_is (et_or (et_not (et_B (ev_callS (ea_cons (ev_var rfl) (ea_cons (ev_var rfl) ea_nil)) fun H1 e Q q E => ⟨v2, v, r.1, rfl, got2.told.ex e, told1.ex e, g1, fun H2 e2 => q H2 e2⟩))) fun _ => et_test sd) rfl) (fun hb => nomatch hb) fun _ H27 e27 => ?_
    exact ⟨⟨_, _, _, _, _, _, _, _, _, _, _, _, _, _, _, _, rfl⟩, X6.trans (((X621.trans X22).trans X2226).trans (XB.of e27))⟩
  · rintro σ' H6 ⟨⟨x4, x5, x6, x7, x8, x9, x10, x11, x12, x13, x14, x15', x16, x17, x18, x19, rfl⟩, X6⟩
    exact s_ret ev_c fun H7 e7 => k H7
end
end Z


set_option Elab.async false
set_option linter.all false
set_option autoImplicit false
set_option maxRecDepth 100000
set_option maxHeartbeats 4000000
namespace Z
open PySem PySem.Spec PyProof.Rows L2 Evl NdefX LamX
def top (i : Nat) : Stmt := PySem.Challenge.pw_lazycols_k19_whole_looks_where_it_leans.main.body.getD i (.Pass ⟨0, 0, 0, 0⟩)
abbrev s_is_whole : Stmt := top 7
abbrev N_is_whole : List Str := ["thing"]
theorem sc_is_whole : FnScope N_is_whole ["thing"] (defScope s_is_whole) := ⟨rfl, rfl, rfl, by decide +kernel, rfl, by decide +kernel, by decide +kernel⟩
abbrev s_is_name : Stmt := top 8
abbrev N_is_name : List Str := ["thing", "sign"]
theorem sc_is_name : FnScope N_is_name ["thing"] (defScope s_is_name) := ⟨rfl, rfl, rfl, by decide +kernel, rfl, by decide +kernel, by decide +kernel⟩
abbrev s_is_number : Stmt := top 10
abbrev N_is_number : List Str := ["thing"]
theorem sc_is_number : FnScope N_is_number ["thing"] (defScope s_is_number) := ⟨rfl, rfl, rfl, by decide +kernel, rfl, by decide +kernel, by decide +kernel⟩
abbrev s_is_fault : Stmt := top 9
abbrev N_is_fault : List Str := ["thing"]
theorem sc_is_fault : FnScope N_is_fault ["thing"] (defScope s_is_fault) := ⟨rfl, rfl, rfl, by decide +kernel, rfl, by decide +kernel, by decide +kernel⟩
abbrev s_fault : Stmt := top 11
abbrev N_fault : List Str := ["word"]
theorem sc_fault : FnScope N_fault ["word"] (defScope s_fault) := ⟨rfl, rfl, rfl, by decide +kernel, rfl, by decide +kernel, by decide +kernel⟩
abbrev s_name_told : Stmt := top 14
abbrev N_name_told : List Str := ["name"]
theorem sc_name_told : FnScope N_name_told ["name"] (defScope s_name_told) := ⟨rfl, rfl, rfl, by decide +kernel, rfl, by decide +kernel, by decide +kernel⟩
abbrev s_names_told : Stmt := top 15
abbrev N_names_told : List Str := ["names", "name"]
theorem sc_names_told : FnScope N_names_told ["names"] (defScope s_names_told) := ⟨rfl, rfl, rfl, by decide +kernel, rfl, by decide +kernel, by decide +kernel⟩
abbrev s_each_once : Stmt := top 16
abbrev N_each_once : List Str := ["spots", "found", "spot"]
theorem sc_each_once : FnScope N_each_once ["spots"] (defScope s_each_once) := ⟨rfl, rfl, rfl, by decide +kernel, rfl, by decide +kernel, by decide +kernel⟩
abbrev s_looked : Stmt := top 17
abbrev N_looked : List Str := ["look", "cells", "found", "table", "column", "place", "value"]
theorem sc_looked : FnScope N_looked ["look", "cells"] (defScope s_looked) := ⟨rfl, rfl, rfl, by decide +kernel, rfl, by decide +kernel, by decide +kernel⟩
abbrev s_Rule_init : Stmt := inClass (top 18) 0
abbrev N_Rule_init : List Str := ["self", "function"]
theorem sc_Rule_init : FnScope N_Rule_init ["self", "function"] (defScope s_Rule_init) := ⟨rfl, rfl, rfl, by decide +kernel, rfl, by decide +kernel, by decide +kernel⟩
abbrev s_Cells_init : Stmt := inClass (top 19) 0
abbrev N_Cells_init : List Str := ["self", "names", "function"]
theorem sc_Cells_init : FnScope N_Cells_init ["self", "names", "function"] (defScope s_Cells_init) := ⟨rfl, rfl, rfl, by decide +kernel, rfl, by decide +kernel, by decide +kernel⟩
abbrev s_Cells_leans : Stmt := inClass (top 19) 1
abbrev N_Cells_leans : List Str := ["self", "table", "name"]
theorem sc_Cells_leans : FnScope N_Cells_leans ["self", "table"] (defScope s_Cells_leans) := ⟨rfl, rfl, rfl, by decide +kernel, rfl, by decide +kernel, by decide +kernel⟩
abbrev s_Cells_gather : Stmt := inClass (top 19) 2
abbrev N_Cells_gather : List Str := ["self", "look", "many", "table", "column", "place", "name"]
theorem sc_Cells_gather : FnScope N_Cells_gather ["self", "look", "many", "table", "column", "place"] (defScope s_Cells_gather) := ⟨rfl, rfl, rfl, by decide +kernel, rfl, by decide +kernel, by decide +kernel⟩
abbrev s_Above_init : Stmt := inClass (top 20) 0
abbrev N_Above_init : List Str := ["self", "first", "names", "function"]
theorem sc_Above_init : FnScope N_Above_init ["self", "first", "names", "function"] (defScope s_Above_init) := ⟨rfl, rfl, rfl, by decide +kernel, rfl, by decide +kernel, by decide +kernel⟩
abbrev s_Above_leans : Stmt := inClass (top 20) 1
abbrev N_Above_leans : List Str := ["self", "table", "name"]
theorem sc_Above_leans : FnScope N_Above_leans ["self", "table"] (defScope s_Above_leans) := ⟨rfl, rfl, rfl, by decide +kernel, rfl, by decide +kernel, by decide +kernel⟩
abbrev s_Above_gather : Stmt := inClass (top 20) 2
abbrev N_Above_gather : List Str := ["self", "look", "many", "table", "column", "place", "cells", "kind", "told", "name"]
theorem sc_Above_gather : FnScope N_Above_gather ["self", "look", "many", "table", "column", "place"] (defScope s_Above_gather) := ⟨rfl, rfl, rfl, by decide +kernel, rfl, by decide +kernel, by decide +kernel⟩
abbrev s_Group_init : Stmt := inClass (top 21) 0
abbrev N_Group_init : List Str := ["self", "key", "name", "function"]
theorem sc_Group_init : FnScope N_Group_init ["self", "key", "name", "function"] (defScope s_Group_init) := ⟨rfl, rfl, rfl, by decide +kernel, rfl, by decide +kernel, by decide +kernel⟩
abbrev s_Group_leans : Stmt := inClass (top 21) 1
abbrev N_Group_leans : List Str := ["self", "table"]
theorem sc_Group_leans : FnScope N_Group_leans ["self", "table"] (defScope s_Group_leans) := ⟨rfl, rfl, rfl, by decide +kernel, rfl, by decide +kernel, by decide +kernel⟩
abbrev s_Group_gather : Stmt := inClass (top 21) 2
abbrev N_Group_gather : List Str := ["self", "look", "many", "table", "column", "place", "mine", "found", "at", "value"]
theorem sc_Group_gather : FnScope N_Group_gather ["self", "look", "many", "table", "column", "place"] (defScope s_Group_gather) := ⟨rfl, rfl, rfl, by decide +kernel, rfl, by decide +kernel, by decide +kernel⟩
abbrev s_Lookup_init : Stmt := inClass (top 22) 0
abbrev N_Lookup_init : List Str := ["self", "key", "other", "theirs", "names", "function"]
theorem sc_Lookup_init : FnScope N_Lookup_init ["self", "key", "other", "theirs", "names", "function"] (defScope s_Lookup_init) := ⟨rfl, rfl, rfl, by decide +kernel, rfl, by decide +kernel, by decide +kernel⟩
abbrev s_Lookup_leans : Stmt := inClass (top 22) 1
abbrev N_Lookup_leans : List Str := ["self", "table", "behind", "name"]
theorem sc_Lookup_leans : FnScope N_Lookup_leans ["self", "table"] (defScope s_Lookup_leans) := ⟨rfl, rfl, rfl, by decide +kernel, rfl, by decide +kernel, by decide +kernel⟩
abbrev s_Lookup_gather : Stmt := inClass (top 22) 2
abbrev N_Lookup_gather : List Str := ["self", "look", "many", "table", "column", "place", "mine", "at", "name"]
theorem sc_Lookup_gather : FnScope N_Lookup_gather ["self", "look", "many", "table", "column", "place"] (defScope s_Lookup_gather) := ⟨rfl, rfl, rfl, by decide +kernel, rfl, by decide +kernel, by decide +kernel⟩
abbrev s_Mend_init : Stmt := inClass (top 23) 0
abbrev N_Mend_init : List Str := ["self", "name", "function"]
theorem sc_Mend_init : FnScope N_Mend_init ["self", "name", "function"] (defScope s_Mend_init) := ⟨rfl, rfl, rfl, by decide +kernel, rfl, by decide +kernel, by decide +kernel⟩
abbrev s_Mend_leans : Stmt := inClass (top 23) 1
abbrev N_Mend_leans : List Str := ["self", "table"]
theorem sc_Mend_leans : FnScope N_Mend_leans ["self", "table"] (defScope s_Mend_leans) := ⟨rfl, rfl, rfl, by decide +kernel, rfl, by decide +kernel, by decide +kernel⟩
abbrev s_Mend_gather : Stmt := inClass (top 23) 2
abbrev N_Mend_gather : List Str := ["self", "look", "many", "table", "column", "place", "value"]
theorem sc_Mend_gather : FnScope N_Mend_gather ["self", "look", "many", "table", "column", "place"] (defScope s_Mend_gather) := ⟨rfl, rfl, rfl, by decide +kernel, rfl, by decide +kernel, by decide +kernel⟩
abbrev s_law_drawn : Stmt := top 25
abbrev N_law_drawn : List Str := ["script", "k", "size", "number"]
theorem sc_law_drawn : FnScope N_law_drawn ["script", "k", "size"] (defScope s_law_drawn) := ⟨rfl, rfl, rfl, by decide +kernel, rfl, by decide +kernel, by decide +kernel⟩
abbrev s_law_whole : Stmt := top 26
abbrev N_law_whole : List Str := ["found"]
theorem sc_law_whole : FnScope N_law_whole ["found"] (defScope s_law_whole) := ⟨rfl, rfl, rfl, by decide +kernel, rfl, by decide +kernel, by decide +kernel⟩
abbrev s_law_names : Stmt := top 27
abbrev N_law_names : List Str := ["script", "many", "letters", "word", "k", "at", "names", "sign"]
theorem sc_law_names : FnScope N_law_names ["script", "many"] (defScope s_law_names) := ⟨rfl, rfl, rfl, by decide +kernel, rfl, by decide +kernel, by decide +kernel⟩
abbrev s_law_value : Stmt := top 28
abbrev N_law_value : List Str := ["script", "k", "faults", "way"]
theorem sc_law_value : FnScope N_law_value ["script", "k", "faults"] (defScope s_law_value) := ⟨rfl, rfl, rfl, by decide +kernel, rfl, by decide +kernel, by decide +kernel⟩
abbrev s_law_world : Stmt := top 29
abbrev N_law_world : List Str := ["script", "names", "tables", "faults", "k", "world", "rows", "table", "name", "place"]
theorem sc_law_world : FnScope N_law_world ["script", "names", "tables", "faults", "k"] (defScope s_law_world) := ⟨rfl, rfl, rfl, by decide +kernel, rfl, by decide +kernel, by decide +kernel⟩
abbrev s_law_table : Stmt := top 30
abbrev N_law_table : List Str := ["script", "k", "rows", "tables", "table"]
theorem sc_law_table : FnScope N_law_table ["script", "k", "rows", "tables"] (defScope s_law_table) := ⟨rfl, rfl, rfl, by decide +kernel, rfl, by decide +kernel, by decide +kernel⟩
abbrev s_law_look : Stmt := top 31
abbrev N_law_look : List Str := ["world", "notes", "table", "column", "place"]
theorem sc_law_look : FnScope N_law_look ["world", "notes", "table", "column", "place"] (defScope s_law_look) := ⟨rfl, rfl, rfl, by decide +kernel, rfl, by decide +kernel, by decide +kernel⟩
abbrev s_law_gathered : Stmt := top 32
abbrev N_law_gathered : List Str := ["world", "rows", "rule", "table", "column", "place", "look", "many", "found", "once", "spot", "notes"]
theorem sc_law_gathered : FnScope N_law_gathered ["world", "rows", "rule", "table", "column", "place"] (defScope s_law_gathered) := ⟨rfl, rfl, rfl, by decide +kernel, rfl, by decide +kernel, by decide +kernel⟩
abbrev lf_law_gathered_0 : List (Str × Addr) → Addr → LF := lamF "_law_gathered" (stX (stB s_law_gathered 2))
abbrev lf_law_gathered_1 : List (Str × Addr) → Addr → LF := lamF "_law_gathered" (stX (stB s_law_gathered 1))
abbrev s_law_alike : Stmt := top 33
abbrev N_law_alike : List Str := ["found", "due", "one"]
theorem sc_law_alike : FnScope N_law_alike ["found", "due"] (defScope s_law_alike) := ⟨rfl, rfl, rfl, by decide +kernel, rfl, by decide +kernel, by decide +kernel⟩
abbrev s_law_picked : Stmt := top 34
abbrev N_law_picked : List Str := ["script", "k", "names", "j"]
theorem sc_law_picked : FnScope N_law_picked ["script", "k", "names"] (defScope s_law_picked) := ⟨rfl, rfl, rfl, by decide +kernel, rfl, by decide +kernel, by decide +kernel⟩
abbrev s_law_made : Stmt := top 35
abbrev N_law_made : List Str := ["kind", "names", "some", "other"]
theorem sc_law_made : FnScope N_law_made ["kind", "names", "some", "other"] (defScope s_law_made) := ⟨rfl, rfl, rfl, by decide +kernel, rfl, by decide +kernel, by decide +kernel⟩
abbrev lf_law_made_0 : List (Str × Addr) → Addr → LF := lamF "_law_made" (exC (stX (stB s_law_made 4)) 2)
abbrev lf_law_made_1 : List (Str × Addr) → Addr → LF := lamF "_law_made" (exC (stX (stB (stB s_law_made 3) 0)) 5)
abbrev lf_law_made_2 : List (Str × Addr) → Addr → LF := lamF "_law_made" (exC (stX (stB (stB s_law_made 2) 0)) 3)
abbrev lf_law_made_3 : List (Str × Addr) → Addr → LF := lamF "_law_made" (exC (stX (stB (stB s_law_made 1) 0)) 3)
abbrev lf_law_made_4 : List (Str × Addr) → Addr → LF := lamF "_law_made" (exC (stX (stB (stB s_law_made 0) 0)) 2)
abbrev s_law_changed : Stmt := top 36
abbrev N_law_changed : List Str := ["script", "world", "once", "made", "k", "spot"]
theorem sc_law_changed : FnScope N_law_changed ["script", "world", "once"] (defScope s_law_changed) := ⟨rfl, rfl, rfl, by decide +kernel, rfl, by decide +kernel, by decide +kernel⟩
abbrev s_law_leans : Stmt := top 37
abbrev N_law_leans : List Str := ["rule", "table", "own", "place", "once", "known", "spot", "above"]
theorem sc_law_leans : FnScope N_law_leans ["rule", "table", "own", "place", "once"] (defScope s_law_leans) := ⟨rfl, rfl, rfl, by decide +kernel, rfl, by decide +kernel, by decide +kernel⟩
abbrev s_law_fault : Stmt := top 38
abbrev N_law_fault : List Str := ["world", "rule", "found", "once", "one"]
theorem sc_law_fault : FnScope N_law_fault ["world", "rule", "found", "once"] (defScope s_law_fault) := ⟨rfl, rfl, rfl, by decide +kernel, rfl, by decide +kernel, by decide +kernel⟩
abbrev s_law : Stmt := top 39
abbrev N_law : List Str := ["script", "words", "world", "rows", "turn", "at", "table", "other", "place", "own", "names", "some", "kind", "rule", "found", "once", "changed", "again", "same", "j"]
theorem sc_law : FnScope N_law ["script"] (defScope s_law) := ⟨rfl, rfl, rfl, by decide +kernel, rfl, by decide +kernel, by decide +kernel⟩
structure Txt (K : PySem.W.Frag) (mg : Str → Option Value) (A : Cn → Addr) : Prop where
  n_abs : mg "abs" = none
  n_all : mg "all" = none
  n_bool : mg "bool" = none
  n_int : mg "int" = none
  n_isinstance : mg "isinstance" = none
  n_len : mg "len" = none
  n_list : mg "list" = none
  n_max : mg "max" = none
  n_range : mg "range" = none
  n_str : mg "str" = none
  n_tuple : mg "tuple" = none
  g_LETTERS : ∃ t, mg "LETTERS" = some (.str "abcdefghijklmnopqrstuvwxyz" t)
  g_MOST_NAMES : ∃ t, mg "MOST_NAMES" = some (.int 6 t)
  g_ColsError : mg "ColsError" = some (.ref (A .ColsError))
  g_NoName : mg "NoName" = some (.ref (A .NoName))
  g_NoValue : mg "NoValue" = some (.ref (A .NoValue))
  g_Rule : mg "Rule" = some (.ref (A .Rule))
  g_Cells : mg "Cells" = some (.ref (A .Cells))
  g_Above : mg "Above" = some (.ref (A .Above))
  g_Group : mg "Group" = some (.ref (A .Group))
  g_Lookup : mg "Lookup" = some (.ref (A .Lookup))
  g_Mend : mg "Mend" = some (.ref (A .Mend))
  fx_Cells : ClK K (A .Cells) ["function", "names"]
  fx_Above : ClK K (A .Above) ["function", "names", "first"]
  fx_Group : ClK K (A .Group) ["function", "key", "name"]
  fx_Lookup : ClK K (A .Lookup) ["function", "key", "other", "theirs", "names"]
  fx_Mend : ClK K (A .Mend) ["function", "name"]
  fx_Rule : ClK K (A .Rule) ["function"]
  ik_Cells : InsK K (A .Cells)
  kt_Cells_Above : PySem.W.kitOne K (.ref (A .Cells)) (.ref (A .Above)) = some false
  kt_Cells_Mend : PySem.W.kitOne K (.ref (A .Cells)) (.ref (A .Mend)) = some false
  kt_Cells_Lookup : PySem.W.kitOne K (.ref (A .Cells)) (.ref (A .Lookup)) = some false
  ik_Above : InsK K (A .Above)
  kt_Above_Above : PySem.W.kitOne K (.ref (A .Above)) (.ref (A .Above)) = some true
  kt_Above_Mend : PySem.W.kitOne K (.ref (A .Above)) (.ref (A .Mend)) = some false
  kt_Above_Lookup : PySem.W.kitOne K (.ref (A .Above)) (.ref (A .Lookup)) = some false
  ik_Group : InsK K (A .Group)
  kt_Group_Above : PySem.W.kitOne K (.ref (A .Group)) (.ref (A .Above)) = some false
  kt_Group_Mend : PySem.W.kitOne K (.ref (A .Group)) (.ref (A .Mend)) = some false
  kt_Group_Lookup : PySem.W.kitOne K (.ref (A .Group)) (.ref (A .Lookup)) = some false
  ik_Lookup : InsK K (A .Lookup)
  kt_Lookup_Above : PySem.W.kitOne K (.ref (A .Lookup)) (.ref (A .Above)) = some false
  kt_Lookup_Mend : PySem.W.kitOne K (.ref (A .Lookup)) (.ref (A .Mend)) = some false
  kt_Lookup_Lookup : PySem.W.kitOne K (.ref (A .Lookup)) (.ref (A .Lookup)) = some true
  ik_Mend : InsK K (A .Mend)
  kt_Mend_Above : PySem.W.kitOne K (.ref (A .Mend)) (.ref (A .Above)) = some false
  kt_Mend_Mend : PySem.W.kitOne K (.ref (A .Mend)) (.ref (A .Mend)) = some true
  kt_Mend_Lookup : PySem.W.kitOne K (.ref (A .Mend)) (.ref (A .Lookup)) = some false
  x_NoName : PySem.W.excIn K (A .NoName) [.type "ValueError", .type "Exception", .type "BaseException", .type "object"] "ValueError.__new__" = true
  k_NoName : PySem.W.keepIn K (.ref (A .NoName)) = true
  b_NoName : PySem.W.subIn K (.ref (A .NoName)) (.type "BaseException") = some true
  t_NoName : PySem.W.typeIn K (.ref (A .NoName)) = some (.type "type")
  x_NoValue : PySem.W.excIn K (A .NoValue) [.type "ValueError", .type "Exception", .type "BaseException", .type "object"] "ValueError.__new__" = true
  k_NoValue : PySem.W.keepIn K (.ref (A .NoValue)) = true
  b_NoValue : PySem.W.subIn K (.ref (A .NoValue)) (.type "BaseException") = some true
  t_NoValue : PySem.W.typeIn K (.ref (A .NoValue)) = some (.type "type")
section
variable {P : Program} {w : PySem.World} {K : PySem.W.Frag} {mg : Str → Option Value} {base : Heap} {A : Cn → Addr} {Tb : List (Addr × Str)} {cdv : Value} {Ar : Around} {outer : List Env} {s : Shared} {H : Hp} {E : XK}
theorem d_is_whole (T : Txt K mg A) {f : Addr}   (hr : Room 0 (Ar.deeper (envOfC "is_whole" (defScope s_is_whole) s.heap.objs.size f cdv))) :
    PSs (cxOf (L2.CX P w) P w K mg base N_is_whole "is_whole" (defScope s_is_whole) f cdv Ar outer s H E) (defBody s_is_whole) (t_is_whole K E) := by
  have hu := hu65 hr
  exact pss_one (ps_ret (pe_and (pe_callB call_isiA (by rfl) T.n_isinstance (by decide +kernel) (pa_cons (pv 0) (pa_cons (pe_bltn (v := .ty "int") (by rfl) T.n_int (by decide +kernel) rfl) pa_nil))) (pe_one (pe_not (pe_callB call_isiA (by rfl) T.n_isinstance (by decide +kernel) (pa_cons (pv 0) (pa_cons (pe_bltn (v := .ty "bool") (by rfl) T.n_bool (by decide +kernel) rfl) pa_nil)))))))
theorem cal_is_whole (T : Txt K mg A) {f : Addr} {fd : FuncData}  (F : Fun K "is_whole" "is_whole" s_is_whole f fd) (hm : mg "is_whole" = some (.ref f)) (hb : Binds K fd ["thing"] []) :
    Cal P w K mg base 1 "is_whole" f ["thing"] (sp_is_whole K) := cal_of F sc_is_whole hm hb len_is_whole (t_is_whole K) (fun cdv Ar outer s H E hr => d_is_whole T  hr) (fun vs H Q E h => r_is_whole vs H Q E h)
theorem d_is_name (T : Txt K mg A) {f : Addr}   (hr : Room 0 (Ar.deeper (envOfC "is_name" (defScope s_is_name) s.heap.objs.size f cdv))) :
    PSs (cxOf (L2.CX P w) P w K mg base N_is_name "is_name" (defScope s_is_name) f cdv Ar outer s H E) (defBody s_is_name) (t_is_name K E) := by
  have hu := hu65 hr
  exact pss_cons (ps_if (PW.pt (pw_or (pt_not (pt_val (pe_callB call_isiA (by rfl) T.n_isinstance (by decide +kernel) (pa_cons (pv 0) (pa_cons (pe_bltn (v := .ty "str") (by rfl) T.n_str (by decide +kernel) rfl) pa_nil))))) (pw_or1 (pt_not (pt_chain op_le op_le pe_int (pe_callB call_lenA (by rfl) T.n_len (by decide +kernel) (pa_cons (pv 0) pa_nil)) pe_int))))) (pss_one (ps_ret pe_bl)) pss_nil)
    (pss_one (ps_ret (pe_callB (cr_all rfl) (by rfl) T.n_all (by decide +kernel) (pa_cons (pe_lc (own := [("sign", 1)]) (g := gName 1) (tt := tYes) rfl sc_is_name.nd (pi_str (pv 0)) (blkOk_by (own := [("sign", 1)]) (N := N_is_name) (sc := defScope s_is_name) (by decide +kernel)) (fun _ _ _ _ _ => pg_name (i := 1) sc_is_name.nd rfl (Or.inl rfl)) (fun _ _ _ _ _ => pts_nil) (fun _ _ _ _ _ => pe_cmpR (op_inA hu) (pv 1) (pe_glob (v := .str "abcdefghijklmnopqrstuvwxyz") rfl (Exists.choose_spec T.g_LETTERS) ⟨_, rfl⟩) (by rfl))) pa_nil))))
theorem cal_is_name (T : Txt K mg A) {f : Addr} {fd : FuncData}  (F : Fun K "is_name" "is_name" s_is_name f fd) (hm : mg "is_name" = some (.ref f)) (hb : Binds K fd ["thing"] []) :
    Cal P w K mg base 1 "is_name" f ["thing"] (sp_is_name K) := cal_of F sc_is_name hm hb len_is_name (t_is_name K) (fun cdv Ar outer s H E hr => d_is_name T  hr) (fun vs H Q E h => r_is_name vs H Q E h)
theorem d_is_number (T : Txt K mg A) {f : Addr} {f_is_whole : Addr} (G_is_whole : Cal P w K mg base 1 "is_whole" f_is_whole ["thing"] (sp_is_whole K))  (hr : Room 1 (Ar.deeper (envOfC "is_number" (defScope s_is_number) s.heap.objs.size f cdv))) :
    PSs (cxOf (L2.CX P w) P w K mg base N_is_number "is_number" (defScope s_is_number) f cdv Ar outer s H E) (defBody s_is_number) (t_is_number K E) := by
  have hu := hu65 hr
  have tk : Takes (cxOf (L2.CX P w) P w K mg base N_is_number "is_number" (defScope s_is_number) f cdv Ar outer s H E) (fun cls d _ H => E cls d H) := takes_of rfl rfl rfl rfl
  exact pss_one (ps_ret (pe_and (pe_cal G_is_whole (hr.mono (by decide)) tk (pa_cons (pv 0) pa_nil)) (pe_one (pe_cmpR op_lt (pe_callB call_abs (by rfl) T.n_abs (by decide +kernel) (pa_cons (pv 0) pa_nil)) (pe_op op_pow pe_int pe_int) (nomark _)))))
theorem cal_is_number (T : Txt K mg A) {f : Addr} {fd : FuncData} {f_is_whole : Addr} (G_is_whole : Cal P w K mg base 1 "is_whole" f_is_whole ["thing"] (sp_is_whole K)) (F : Fun K "is_number" "is_number" s_is_number f fd) (hm : mg "is_number" = some (.ref f)) (hb : Binds K fd ["thing"] []) :
    Cal P w K mg base 2 "is_number" f ["thing"] (sp_is_number K) := cal_of F sc_is_number hm hb len_is_number (t_is_number K) (fun cdv Ar outer s H E hr => d_is_number T G_is_whole hr) (fun vs H Q E h => r_is_number vs H Q E h)
theorem d_is_fault (T : Txt K mg A) {f : Addr} {f_is_name : Addr} (G_is_name : Cal P w K mg base 1 "is_name" f_is_name ["thing"] (sp_is_name K))  (hr : Room 1 (Ar.deeper (envOfC "is_fault" (defScope s_is_fault) s.heap.objs.size f cdv))) :
    PSs (cxOf (L2.CX P w) P w K mg base N_is_fault "is_fault" (defScope s_is_fault) f cdv Ar outer s H E) (defBody s_is_fault) (t_is_fault K E) := by
  have hu := hu65 hr
  have tk : Takes (cxOf (L2.CX P w) P w K mg base N_is_fault "is_fault" (defScope s_is_fault) f cdv Ar outer s H E) (fun cls d _ H => E cls d H) := takes_of rfl rfl rfl rfl
  exact pss_cons (ps_if (PW.pt (pw_or (pt_not (pt_val (pe_callB call_isiA (by rfl) T.n_isinstance (by decide +kernel) (pa_cons (pv 0) (pa_cons (pe_bltn (v := .ty "tuple") (by rfl) T.n_tuple (by decide +kernel) rfl) pa_nil))))) (pw_or1 (pt_cmpR (op_neA hu) (pe_callB call_lenA (by rfl) T.n_len (by decide +kernel) (pa_cons (pv 0) pa_nil)) pe_int (nomark _))))) (pss_one (ps_ret pe_bl)) pss_nil)
    (pss_one (ps_ret (pe_and (pe_callB call_isiA (by rfl) T.n_isinstance (by decide +kernel) (pa_cons (pe_ix (ix_A hu) (pv 0) pe_int (fun _ _ => rfl)) (pa_cons (pe_bltn (v := .ty "str") (by rfl) T.n_str (by decide +kernel) rfl) pa_nil))) (pe_and (pe_cmpR (op_eqA hu) (pe_ix (ix_A hu) (pv 0) pe_int (fun _ _ => rfl)) pe_str (nomark _)) (pe_one (pe_cal G_is_name (hr.mono (by decide)) tk (pa_cons (pe_ix (ix_A hu) (pv 0) pe_int (fun _ _ => rfl)) pa_nil)))))))
theorem cal_is_fault (T : Txt K mg A) {f : Addr} {fd : FuncData} {f_is_name : Addr} (G_is_name : Cal P w K mg base 1 "is_name" f_is_name ["thing"] (sp_is_name K)) (F : Fun K "is_fault" "is_fault" s_is_fault f fd) (hm : mg "is_fault" = some (.ref f)) (hb : Binds K fd ["thing"] []) :
    Cal P w K mg base 2 "is_fault" f ["thing"] (sp_is_fault K) := cal_of F sc_is_fault hm hb len_is_fault (t_is_fault K) (fun cdv Ar outer s H E hr => d_is_fault T G_is_name hr) (fun vs H Q E h => r_is_fault vs H Q E h)
theorem d_fault (T : Txt K mg A) {f : Addr} {f_is_name : Addr} (G_is_name : Cal P w K mg base 1 "is_name" f_is_name ["thing"] (sp_is_name K))  (hr : Room 1 (Ar.deeper (envOfC "fault" (defScope s_fault) s.heap.objs.size f cdv))) :
    PSs (cxOf (L2.CX P w) P w K mg base N_fault "fault" (defScope s_fault) f cdv Ar outer s H E) (defBody s_fault) (t_fault K A E) := by
  have hu := hu65 hr
  have tk : Takes (cxOf (L2.CX P w) P w K mg base N_fault "fault" (defScope s_fault) f cdv Ar outer s H E) (fun cls d _ H => E cls d H) := takes_of rfl rfl rfl rfl
  exact pss_cons (ps_if (pt_not (pt_val (pe_cal G_is_name (hr.mono (by decide)) tk (pa_cons (pv 0) pa_nil)))) (pss_one (ps_raise rfl tk (pmk_own PySem.F.excBase_ValueError T.x_NoName T.g_NoName T.k_NoName (raises_own T.b_NoName T.t_NoName) rfl))) pss_nil)
    (pss_one (ps_ret (pe_tup (pa_cons pe_str (pa_cons (pv 0) pa_nil)))))
theorem cal_fault (T : Txt K mg A) {f : Addr} {fd : FuncData} {f_is_name : Addr} (G_is_name : Cal P w K mg base 1 "is_name" f_is_name ["thing"] (sp_is_name K)) (F : Fun K "fault" "fault" s_fault f fd) (hm : mg "fault" = some (.ref f)) (hb : Binds K fd ["word"] []) :
    Cal P w K mg base 2 "fault" f ["word"] (sp_fault K A) := cal_of F sc_fault hm hb len_fault (t_fault K A) (fun cdv Ar outer s H E hr => d_fault T G_is_name hr) (fun vs H Q E h => r_fault vs H Q E h)
theorem d_name_told (T : Txt K mg A) {f : Addr} {f_is_name : Addr} (G_is_name : Cal P w K mg base 1 "is_name" f_is_name ["thing"] (sp_is_name K))  (hr : Room 1 (Ar.deeper (envOfC "name_told" (defScope s_name_told) s.heap.objs.size f cdv))) :
    PSs (cxOf (L2.CX P w) P w K mg base N_name_told "name_told" (defScope s_name_told) f cdv Ar outer s H E) (defBody s_name_told) (t_name_told K A E) := by
  have hu := hu65 hr
  have tk : Takes (cxOf (L2.CX P w) P w K mg base N_name_told "name_told" (defScope s_name_told) f cdv Ar outer s H E) (fun cls d _ H => E cls d H) := takes_of rfl rfl rfl rfl
  exact pss_cons (ps_if (pt_not (pt_val (pe_cal G_is_name (hr.mono (by decide)) tk (pa_cons (pv 0) pa_nil)))) (pss_one (ps_raise rfl tk (pmk_own PySem.F.excBase_ValueError T.x_NoName T.g_NoName T.k_NoName (raises_own T.b_NoName T.t_NoName) rfl))) pss_nil)
    (pss_one (ps_ret (pv 0)))
theorem cal_name_told (T : Txt K mg A) {f : Addr} {fd : FuncData} {f_is_name : Addr} (G_is_name : Cal P w K mg base 1 "is_name" f_is_name ["thing"] (sp_is_name K)) (F : Fun K "name_told" "name_told" s_name_told f fd) (hm : mg "name_told" = some (.ref f)) (hb : Binds K fd ["name"] []) :
    Cal P w K mg base 2 "name_told" f ["name"] (sp_name_told K A) := cal_of F sc_name_told hm hb len_name_told (t_name_told K A) (fun cdv Ar outer s H E hr => d_name_told T G_is_name hr) (fun vs H Q E h => r_name_told vs H Q E h)
theorem d_names_told (T : Txt K mg A) {f : Addr} {f_name_told : Addr} (G_name_told : Cal P w K mg base 2 "name_told" f_name_told ["name"] (sp_name_told K A))  (hr : Room 2 (Ar.deeper (envOfC "names_told" (defScope s_names_told) s.heap.objs.size f cdv))) :
    PSs (cxOf (L2.CX P w) P w K mg base N_names_told "names_told" (defScope s_names_told) f cdv Ar outer s H E) (defBody s_names_told) (t_names_told K A E) := by
  have hu := hu65 hr
  have tk : Takes (cxOf (L2.CX P w) P w K mg base N_names_told "names_told" (defScope s_names_told) f cdv Ar outer s H E) (fun cls d _ H => E cls d H) := takes_of rfl rfl rfl rfl
  exact pss_cons (ps_if (PW.pt (pw_or (pt_not (pt_val (pe_callB call_isiA (by rfl) T.n_isinstance (by decide +kernel) (pa_cons (pv 0) (pa_cons (pe_bltn (v := .ty "list") (by rfl) T.n_list (by decide +kernel) rfl) pa_nil))))) (pw_or1 (pt_cmpR op_gt (pe_callB call_lenA (by rfl) T.n_len (by decide +kernel) (pa_cons (pv 0) pa_nil)) (pe_glob (v := .int 6) rfl (Exists.choose_spec T.g_MOST_NAMES) ⟨_, rfl⟩) (nomark _))))) (pss_one (ps_raise rfl tk (pmk_own PySem.F.excBase_ValueError T.x_NoName T.g_NoName T.k_NoName (raises_own T.b_NoName T.t_NoName) rfl))) pss_nil)
    (pss_one (ps_ret (pe_lc (own := [("name", 1)]) (g := gName 1) (tt := tYes) rfl sc_names_told.nd (pi_list (pv 0)) (blkOk_by (own := [("name", 1)]) (N := N_names_told) (sc := defScope s_names_told) (by decide +kernel)) (fun _ _ _ _ _ => pg_name (i := 1) sc_names_told.nd rfl (Or.inl rfl)) (fun _ _ _ _ _ => pts_nil) (fun _ _ _ _ _ => pe_calB G_name_told (hr.mono (by decide)) (pa_cons (pv 1) pa_nil)))))
theorem cal_names_told (T : Txt K mg A) {f : Addr} {fd : FuncData} {f_name_told : Addr} (G_name_told : Cal P w K mg base 2 "name_told" f_name_told ["name"] (sp_name_told K A)) (F : Fun K "names_told" "names_told" s_names_told f fd) (hm : mg "names_told" = some (.ref f)) (hb : Binds K fd ["names"] []) :
    Cal P w K mg base 3 "names_told" f ["names"] (sp_names_told K A) := cal_of F sc_names_told hm hb len_names_told (t_names_told K A) (fun cdv Ar outer s H E hr => d_names_told T G_name_told hr) (fun vs H Q E h => r_names_told vs H Q E h)
theorem d_each_once (T : Txt K mg A) {f : Addr}   (hr : Room 0 (Ar.deeper (envOfC "each_once" (defScope s_each_once) s.heap.objs.size f cdv))) :
    PSs (cxOf (L2.CX P w) P w K mg base N_each_once "each_once" (defScope s_each_once) f cdv Ar outer s H E) (defBody s_each_once) (t_each_once K E) := by
  have hu := hu65 hr
  exact pss_cons (ps_set (i := 1) sc_each_once.nd rfl (Or.inl rfl) (pe_lst pa_nil))
    (pss_cons (ps_for (passes_of rfl) rfl (pi_list (pv 0)) (pg_name (i := 2) sc_each_once.nd rfl (Or.inl rfl)) (pss_one (ps_if (pt_cmpR (op_ninA hu) (pv 2) (pv 1) (by rfl)) (pss_one (ps_expr (pe_bm PySem.F.plainAttrs_list PySem.F.slot_list_append PySem.F.type_list_append mt_append (pv 1) (pa_cons (pv 2) pa_nil)))) pss_nil)))
    (pss_one (ps_ret (pv 1))))
theorem cal_each_once (T : Txt K mg A) {f : Addr} {fd : FuncData}  (F : Fun K "each_once" "each_once" s_each_once f fd) (hm : mg "each_once" = some (.ref f)) (hb : Binds K fd ["spots"] []) :
    Cal P w K mg base 1 "each_once" f ["spots"] (sp_each_once K) := cal_of F sc_each_once hm hb len_each_once (t_each_once K) (fun cdv Ar outer s H E hr => d_each_once T  hr) (fun vs H Q E h => r_each_once vs H Q E h)
theorem d_looked (T : Txt K mg A) {f : Addr} {f_is_fault : Addr} (G_is_fault : Cal P w K mg base 2 "is_fault" f_is_fault ["thing"] (sp_is_fault K))  (hr : Room 3 (Ar.deeper (envOfC "looked" (defScope s_looked) s.heap.objs.size f cdv))) :
    PSs (cxOf (L2.CX P w) P w K mg base N_looked "looked" (defScope s_looked) f cdv Ar outer s H E) (defBody s_looked) (t_looked K (CloAt P w K mg base 2) E) := by
  have hu := hu65 hr
  have tk : Takes (cxOf (L2.CX P w) P w K mg base N_looked "looked" (defScope s_looked) f cdv Ar outer s H E) (fun cls d _ H => E cls d H) := takes_of rfl rfl rfl rfl
  exact pss_cons (ps_set (i := 2) sc_looked.nd rfl (Or.inl rfl) (pe_lst pa_nil))
    (pss_cons (ps_for (passes_of rfl) rfl (pi_list (pv 1)) (pg_tup rfl (pgs_cons (pg_name (i := 3) sc_looked.nd rfl (Or.inl rfl)) (pgs_cons (pg_name (i := 4) sc_looked.nd rfl (Or.inl rfl)) (pgs_cons (pg_name (i := 5) sc_looked.nd rfl (Or.inl rfl)) pgs_nil)))) (pss_cons (ps_set (i := 6) sc_looked.nd rfl (Or.inl rfl) (pe_callC (i := 0) (hr.mono (by decide)) rfl (by first | exact Or.inl rfl | exact Or.inr (Or.inl rfl) | exact Or.inr (Or.inr rfl)) (pa_cons (pv 3) (pa_cons (pv 4) (pa_cons (pv 5) pa_nil)))))
    (pss_cons (ps_if (pt_val (pe_cal G_is_fault (hr.mono (by decide)) tk (pa_cons (pv 6) pa_nil))) (pss_one (ps_ret (pe_tup (pa_cons pe_str (pa_cons (pv 6) pa_nil))))) pss_nil)
    (pss_one (ps_expr (pe_bm PySem.F.plainAttrs_list PySem.F.slot_list_append PySem.F.type_list_append mt_append (pv 2) (pa_cons (pv 6) pa_nil)))))))
    (pss_one (ps_ret (pe_tup (pa_cons pe_str (pa_cons (pv 2) pa_nil))))))
theorem cal_looked (T : Txt K mg A) {f : Addr} {fd : FuncData} {f_is_fault : Addr} (G_is_fault : Cal P w K mg base 2 "is_fault" f_is_fault ["thing"] (sp_is_fault K)) (F : Fun K "looked" "looked" s_looked f fd) (hm : mg "looked" = some (.ref f)) (hb : Binds K fd ["look", "cells"] []) :
    Cal P w K mg base 4 "looked" f ["look", "cells"] (sp_looked K (CloAt P w K mg base 2)) := cal_of F sc_looked hm hb len_looked (t_looked K (CloAt P w K mg base 2)) (fun cdv Ar outer s H E hr => d_looked T G_is_fault hr) (fun vs H Q E h => r_looked clo_st vs H Q E h)
theorem d_Rule_init (T : Txt K mg A) {f : Addr}   (hr : Room 0 (Ar.deeper (envOfC "Rule.__init__" (defScope s_Rule_init) s.heap.objs.size f cdv))) :
    PSs (cxOf (L2.CX P w) P w K mg base N_Rule_init "Rule.__init__" (defScope s_Rule_init) f cdv Ar outer s H E) (defBody s_Rule_init) (t_Rule_init K E) := by
  have hu := hu65 hr
  exact pss_one (ps_fld (pv 0) (pv 1) rfl)
theorem zcal_Rule_init (T : Txt K mg A) {f : Addr} {fd : FuncData}  (F : Fun K "__init__" "Rule.__init__" s_Rule_init f fd) (hg : mg "Rule" = some (.ref (A .Rule))) (rd : PySem.W.readsIn K (A .Rule) (.type "type") = true) (fc : PySem.W.findCls K (.ref (A .Rule)) (.type "type") "__init__" = some (.val (.ref f))) (ga : PySem.W.specialIn K (.ref (A .Rule)) "__getattribute__" = some (some (.builtin "type.__getattribute__"))) (kp : PySem.W.keepIn K (.ref f) = true) (hb : Binds K fd ["self", "function"] []) :
    CFn P w K mg base 1 (A .Rule) "Rule" "__init__" f ["self", "function"] (sp_Rule_init K) := cfn_of F sc_Rule_init len_Rule_init (t_Rule_init K) (fun cdv Ar outer s H E hr => d_Rule_init T  hr) (fun vs H Q E h => r_Rule_init vs H Q E h) hb hg rd fc ga kp
theorem d_Cells_init (T : Txt K mg A) {f : Addr} {f_names_told : Addr} (G_names_told : Cal P w K mg base 3 "names_told" f_names_told ["names"] (sp_names_told K A)) {f_Rule_init : Addr} (Z_Rule_init : CFn P w K mg base 1 (A .Rule) "Rule" "__init__" f_Rule_init ["self", "function"] (sp_Rule_init K))  (hr : Room 3 (Ar.deeper (envOfC "Cells.__init__" (defScope s_Cells_init) s.heap.objs.size f cdv))) :
    PSs (cxOf (L2.CX P w) P w K mg base N_Cells_init "Cells.__init__" (defScope s_Cells_init) f cdv Ar outer s H E) (defBody s_Cells_init) (t_Cells_init K A E) := by
  have hu := hu65 hr
  have tk : Takes (cxOf (L2.CX P w) P w K mg base N_Cells_init "Cells.__init__" (defScope s_Cells_init) f cdv Ar outer s H E) (fun cls d _ H => E cls d H) := takes_of rfl rfl rfl rfl
  exact pss_cons (ps_expr (pe_clsF Z_Rule_init (hr.mono (by decide)) tk (pa_cons (pv 0) (pa_cons (pv 2) pa_nil))))
    (pss_one (ps_fld (pv 0) (pe_cal G_names_told (hr.mono (by decide)) tk (pa_cons (pv 1) pa_nil)) rfl))
theorem cal_Cells_init (T : Txt K mg A) {f : Addr} {fd : FuncData} {f_names_told : Addr} (G_names_told : Cal P w K mg base 3 "names_told" f_names_told ["names"] (sp_names_told K A)) {f_Rule_init : Addr} (Z_Rule_init : CFn P w K mg base 1 (A .Rule) "Rule" "__init__" f_Rule_init ["self", "function"] (sp_Rule_init K)) (F : Fun K "__init__" "Cells.__init__" s_Cells_init f fd) (hm : Mk K (A .Cells) f) (hg : mg "Cells" = some (.ref (A .Cells))) (hb : Binds K fd ["self", "names", "function"] []) :
    Mak P w K mg base 4 (A .Cells) "Cells" f ["self", "names", "function"] (sp_Cells_init K A) := mak_of F sc_Cells_init hm hg hb len_Cells_init (t_Cells_init K A) (fun cdv Ar outer s H E hr => d_Cells_init T G_names_told Z_Rule_init hr) (fun vs H Q E h => r_Cells_init T.fx_Cells vs H Q E h)
theorem d_Cells_leans (T : Txt K mg A) {f : Addr} {f_each_once : Addr} (G_each_once : Cal P w K mg base 1 "each_once" f_each_once ["spots"] (sp_each_once K))  (hr : Room 1 (Ar.deeper (envOfC "Cells.leans" (defScope s_Cells_leans) s.heap.objs.size f cdv))) :
    PSs (cxOf (L2.CX P w) P w K mg base N_Cells_leans "Cells.leans" (defScope s_Cells_leans) f cdv Ar outer s H E) (defBody s_Cells_leans) (t_Cells_leans K E) := by
  have hu := hu65 hr
  have tk : Takes (cxOf (L2.CX P w) P w K mg base N_Cells_leans "Cells.leans" (defScope s_Cells_leans) f cdv Ar outer s H E) (fun cls d _ H => E cls d H) := takes_of rfl rfl rfl rfl
  exact pss_one (ps_ret (pe_cal G_each_once (hr.mono (by decide)) tk (pa_cons (pe_lc (own := [("name", 2)]) (g := gName 2) (tt := tYes) rfl sc_Cells_leans.nd (pi_list (pe_fld (pv 0) rfl)) (blkOk_by (own := [("name", 2)]) (N := N_Cells_leans) (sc := defScope s_Cells_leans) (by decide +kernel)) (fun _ _ _ _ _ => pg_name (i := 2) sc_Cells_leans.nd rfl (Or.inl rfl)) (fun _ _ _ _ _ => pts_nil) (fun _ _ _ _ _ => pe_tup (pa_cons (pv 1) (pa_cons (pv 2) pa_nil)))) pa_nil)))
theorem cal_Cells_leans (T : Txt K mg A) {f : Addr} {fd : FuncData} {f_each_once : Addr} (G_each_once : Cal P w K mg base 1 "each_once" f_each_once ["spots"] (sp_each_once K)) (F : Fun K "leans" "Cells.leans" s_Cells_leans f fd) (hm : Meth K (A .Cells) "leans" f) (hb : Binds K fd ["self", "table"] []) :
    Met P w K mg base 2 (A .Cells) "leans" f ["self", "table"] (sp_Cells_leans K A) := met_of F sc_Cells_leans hm T.fx_Cells.cl hb len_Cells_leans (t_Cells_leans K) (fun cdv Ar outer s H E hr => d_Cells_leans T G_each_once hr) (fun vs H Q E h => r_Cells_leans T.fx_Cells vs H Q E h)
theorem d_Cells_gather (T : Txt K mg A) {f : Addr} {f_looked : Addr} (G_looked : Cal P w K mg base 4 "looked" f_looked ["look", "cells"] (sp_looked K (CloAt P w K mg base 2)))  (hr : Room 4 (Ar.deeper (envOfC "Cells.gather" (defScope s_Cells_gather) s.heap.objs.size f cdv))) :
    PSs (cxOf (L2.CX P w) P w K mg base N_Cells_gather "Cells.gather" (defScope s_Cells_gather) f cdv Ar outer s H E) (defBody s_Cells_gather) (t_Cells_gather K (CloAt P w K mg base 2) E) := by
  have hu := hu65 hr
  have tk : Takes (cxOf (L2.CX P w) P w K mg base N_Cells_gather "Cells.gather" (defScope s_Cells_gather) f cdv Ar outer s H E) (fun cls d _ H => E cls d H) := takes_of rfl rfl rfl rfl
  exact pss_one (ps_ret (pe_cal G_looked (hr.mono (by decide)) tk (pa_cons (pv 1) (pa_cons (pe_lc (own := [("name", 6)]) (g := gName 6) (tt := tYes) rfl sc_Cells_gather.nd (pi_list (pe_fld (pv 0) rfl)) (blkOk_by (own := [("name", 6)]) (N := N_Cells_gather) (sc := defScope s_Cells_gather) (by decide +kernel)) (fun _ _ _ _ _ => pg_name (i := 6) sc_Cells_gather.nd rfl (Or.inl rfl)) (fun _ _ _ _ _ => pts_nil) (fun _ _ _ _ _ => pe_tup (pa_cons (pv 3) (pa_cons (pv 6) (pa_cons (pv 5) pa_nil))))) pa_nil))))
theorem cal_Cells_gather (T : Txt K mg A) {f : Addr} {fd : FuncData} {f_looked : Addr} (G_looked : Cal P w K mg base 4 "looked" f_looked ["look", "cells"] (sp_looked K (CloAt P w K mg base 2))) (F : Fun K "gather" "Cells.gather" s_Cells_gather f fd) (hm : Meth K (A .Cells) "gather" f) (hb : Binds K fd ["self", "look", "many", "table", "column", "place"] []) :
    Met P w K mg base 5 (A .Cells) "gather" f ["self", "look", "many", "table", "column", "place"] (sp_Cells_gather K A (CloAt P w K mg base 2)) := met_of F sc_Cells_gather hm T.fx_Cells.cl hb len_Cells_gather (t_Cells_gather K (CloAt P w K mg base 2)) (fun cdv Ar outer s H E hr => d_Cells_gather T G_looked hr) (fun vs H Q E h => r_Cells_gather clo_st T.fx_Cells vs H Q E h)
theorem d_Above_init (T : Txt K mg A) {f : Addr} {f_is_number : Addr} (G_is_number : Cal P w K mg base 2 "is_number" f_is_number ["thing"] (sp_is_number K)) {f_names_told : Addr} (G_names_told : Cal P w K mg base 3 "names_told" f_names_told ["names"] (sp_names_told K A)) {f_Rule_init : Addr} (Z_Rule_init : CFn P w K mg base 1 (A .Rule) "Rule" "__init__" f_Rule_init ["self", "function"] (sp_Rule_init K))  (hr : Room 3 (Ar.deeper (envOfC "Above.__init__" (defScope s_Above_init) s.heap.objs.size f cdv))) :
    PSs (cxOf (L2.CX P w) P w K mg base N_Above_init "Above.__init__" (defScope s_Above_init) f cdv Ar outer s H E) (defBody s_Above_init) (t_Above_init K A E) := by
  have hu := hu65 hr
  have tk : Takes (cxOf (L2.CX P w) P w K mg base N_Above_init "Above.__init__" (defScope s_Above_init) f cdv Ar outer s H E) (fun cls d _ H => E cls d H) := takes_of rfl rfl rfl rfl
  exact pss_cons (ps_expr (pe_clsF Z_Rule_init (hr.mono (by decide)) tk (pa_cons (pv 0) (pa_cons (pv 3) pa_nil))))
    (pss_cons (ps_fld (pv 0) (pe_cal G_names_told (hr.mono (by decide)) tk (pa_cons (pv 2) pa_nil)) rfl)
    (pss_cons (ps_if (pt_not (pt_val (pe_cal G_is_number (hr.mono (by decide)) tk (pa_cons (pv 1) pa_nil)))) (pss_one (ps_raise rfl tk (pmk_own PySem.F.excBase_ValueError T.x_NoValue T.g_NoValue T.k_NoValue (raises_own T.b_NoValue T.t_NoValue) rfl))) pss_nil)
    (pss_one (ps_fld (pv 0) (pv 1) rfl))))
theorem cal_Above_init (T : Txt K mg A) {f : Addr} {fd : FuncData} {f_is_number : Addr} (G_is_number : Cal P w K mg base 2 "is_number" f_is_number ["thing"] (sp_is_number K)) {f_names_told : Addr} (G_names_told : Cal P w K mg base 3 "names_told" f_names_told ["names"] (sp_names_told K A)) {f_Rule_init : Addr} (Z_Rule_init : CFn P w K mg base 1 (A .Rule) "Rule" "__init__" f_Rule_init ["self", "function"] (sp_Rule_init K)) (F : Fun K "__init__" "Above.__init__" s_Above_init f fd) (hm : Mk K (A .Above) f) (hg : mg "Above" = some (.ref (A .Above))) (hb : Binds K fd ["self", "first", "names", "function"] []) :
    Mak P w K mg base 4 (A .Above) "Above" f ["self", "first", "names", "function"] (sp_Above_init K A) := mak_of F sc_Above_init hm hg hb len_Above_init (t_Above_init K A) (fun cdv Ar outer s H E hr => d_Above_init T G_is_number G_names_told Z_Rule_init hr) (fun vs H Q E h => r_Above_init T.fx_Above vs H Q E h)
theorem d_Above_leans (T : Txt K mg A) {f : Addr} {f_each_once : Addr} (G_each_once : Cal P w K mg base 1 "each_once" f_each_once ["spots"] (sp_each_once K))  (hr : Room 1 (Ar.deeper (envOfC "Above.leans" (defScope s_Above_leans) s.heap.objs.size f cdv))) :
    PSs (cxOf (L2.CX P w) P w K mg base N_Above_leans "Above.leans" (defScope s_Above_leans) f cdv Ar outer s H E) (defBody s_Above_leans) (t_Above_leans K E) := by
  have hu := hu65 hr
  have tk : Takes (cxOf (L2.CX P w) P w K mg base N_Above_leans "Above.leans" (defScope s_Above_leans) f cdv Ar outer s H E) (fun cls d _ H => E cls d H) := takes_of rfl rfl rfl rfl
  exact pss_one (ps_ret (pe_cal G_each_once (hr.mono (by decide)) tk (pa_cons (pe_lc (own := [("name", 2)]) (g := gName 2) (tt := tYes) rfl sc_Above_leans.nd (pi_list (pe_fld (pv 0) rfl)) (blkOk_by (own := [("name", 2)]) (N := N_Above_leans) (sc := defScope s_Above_leans) (by decide +kernel)) (fun _ _ _ _ _ => pg_name (i := 2) sc_Above_leans.nd rfl (Or.inl rfl)) (fun _ _ _ _ _ => pts_nil) (fun _ _ _ _ _ => pe_tup (pa_cons (pv 1) (pa_cons (pv 2) pa_nil)))) pa_nil)))
theorem cal_Above_leans (T : Txt K mg A) {f : Addr} {fd : FuncData} {f_each_once : Addr} (G_each_once : Cal P w K mg base 1 "each_once" f_each_once ["spots"] (sp_each_once K)) (F : Fun K "leans" "Above.leans" s_Above_leans f fd) (hm : Meth K (A .Above) "leans" f) (hb : Binds K fd ["self", "table"] []) :
    Met P w K mg base 2 (A .Above) "leans" f ["self", "table"] (sp_Above_leans K A) := met_of F sc_Above_leans hm T.fx_Above.cl hb len_Above_leans (t_Above_leans K) (fun cdv Ar outer s H E hr => d_Above_leans T G_each_once hr) (fun vs H Q E h => r_Above_leans T.fx_Above vs H Q E h)
theorem d_Above_gather (T : Txt K mg A) {f : Addr} {f_looked : Addr} (G_looked : Cal P w K mg base 4 "looked" f_looked ["look", "cells"] (sp_looked K (CloAt P w K mg base 2)))  (hr : Room 4 (Ar.deeper (envOfC "Above.gather" (defScope s_Above_gather) s.heap.objs.size f cdv))) :
    PSs (cxOf (L2.CX P w) P w K mg base N_Above_gather "Above.gather" (defScope s_Above_gather) f cdv Ar outer s H E) (defBody s_Above_gather) (t_Above_gather K (CloAt P w K mg base 2) E) := by
  have hu := hu65 hr
  have tk : Takes (cxOf (L2.CX P w) P w K mg base N_Above_gather "Above.gather" (defScope s_Above_gather) f cdv Ar outer s H E) (fun cls d _ H => E cls d H) := takes_of rfl rfl rfl rfl
  exact pss_cons (ps_setLc (i := 6) (own := [("name", 9)]) (g := gName 9) (tt := tYes) rfl sc_Above_gather.nd rfl rfl (sw_true rfl rfl rfl (by decide +kernel)) (pi_list (pe_fld (pv 0) rfl)) (blkOk_by (own := [("name", 9)]) (N := N_Above_gather) (sc := defScope s_Above_gather) (by decide +kernel)) (fun _ _ _ _ _ => pg_name (i := 9) sc_Above_gather.nd rfl (Or.inl rfl)) (fun _ _ _ _ _ => pts_nil) (fun _ _ _ _ _ => pe_tup (pa_cons (pv 3) (pa_cons (pv 9) (pa_cons (pv 5) pa_nil)))))
    (pss_cons (ps_if (pt_cmpR op_gt (pv 5) pe_int (nomark _)) (pss_one (ps_ret (pe_cal G_looked (hr.mono (by decide)) tk (pa_cons (pv 1) (pa_cons (pe_op op_addA (pe_lst (pa_cons (pe_tup (pa_cons (pv 3) (pa_cons (pv 4) (pa_cons (pe_op op_sub (pv 5) pe_int) pa_nil)))) pa_nil)) (pv 6)) pa_nil))))) pss_nil)
    (pss_cons (ps_asg (pe_cal G_looked (hr.mono (by decide)) tk (pa_cons (pv 1) (pa_cons (pv 6) pa_nil))) (pg_tup rfl (pgs_cons (pg_name (i := 7) sc_Above_gather.nd rfl (Or.inl rfl)) (pgs_cons (pg_name (i := 8) sc_Above_gather.nd rfl (Or.inl rfl)) pgs_nil))))
    (pss_cons (ps_if (pt_cmpR (op_eqA hu) (pv 7) pe_str (nomark _)) (pss_one (ps_ret (pe_tup (pa_cons pe_str (pa_cons (pe_op op_addA (pe_lst (pa_cons (pe_fld (pv 0) rfl) pa_nil)) (pv 8)) pa_nil))))) pss_nil)
    (pss_one (ps_ret (pe_tup (pa_cons (pv 7) (pa_cons (pv 8) pa_nil))))))))
theorem cal_Above_gather (T : Txt K mg A) {f : Addr} {fd : FuncData} {f_looked : Addr} (G_looked : Cal P w K mg base 4 "looked" f_looked ["look", "cells"] (sp_looked K (CloAt P w K mg base 2))) (F : Fun K "gather" "Above.gather" s_Above_gather f fd) (hm : Meth K (A .Above) "gather" f) (hb : Binds K fd ["self", "look", "many", "table", "column", "place"] []) :
    Met P w K mg base 5 (A .Above) "gather" f ["self", "look", "many", "table", "column", "place"] (sp_Above_gather K A (CloAt P w K mg base 2)) := met_of F sc_Above_gather hm T.fx_Above.cl hb len_Above_gather (t_Above_gather K (CloAt P w K mg base 2)) (fun cdv Ar outer s H E hr => d_Above_gather T G_looked hr) (fun vs H Q E h => r_Above_gather clo_st T.fx_Above vs H Q E h)
theorem d_Group_init (T : Txt K mg A) {f : Addr} {f_name_told : Addr} (G_name_told : Cal P w K mg base 2 "name_told" f_name_told ["name"] (sp_name_told K A)) {f_Rule_init : Addr} (Z_Rule_init : CFn P w K mg base 1 (A .Rule) "Rule" "__init__" f_Rule_init ["self", "function"] (sp_Rule_init K))  (hr : Room 2 (Ar.deeper (envOfC "Group.__init__" (defScope s_Group_init) s.heap.objs.size f cdv))) :
    PSs (cxOf (L2.CX P w) P w K mg base N_Group_init "Group.__init__" (defScope s_Group_init) f cdv Ar outer s H E) (defBody s_Group_init) (t_Group_init K A E) := by
  have hu := hu65 hr
  have tk : Takes (cxOf (L2.CX P w) P w K mg base N_Group_init "Group.__init__" (defScope s_Group_init) f cdv Ar outer s H E) (fun cls d _ H => E cls d H) := takes_of rfl rfl rfl rfl
  exact pss_cons (ps_expr (pe_clsF Z_Rule_init (hr.mono (by decide)) tk (pa_cons (pv 0) (pa_cons (pv 3) pa_nil))))
    (pss_cons (ps_fld (pv 0) (pe_cal G_name_told (hr.mono (by decide)) tk (pa_cons (pv 1) pa_nil)) rfl)
    (pss_one (ps_fld (pv 0) (pe_cal G_name_told (hr.mono (by decide)) tk (pa_cons (pv 2) pa_nil)) rfl)))
theorem cal_Group_init (T : Txt K mg A) {f : Addr} {fd : FuncData} {f_name_told : Addr} (G_name_told : Cal P w K mg base 2 "name_told" f_name_told ["name"] (sp_name_told K A)) {f_Rule_init : Addr} (Z_Rule_init : CFn P w K mg base 1 (A .Rule) "Rule" "__init__" f_Rule_init ["self", "function"] (sp_Rule_init K)) (F : Fun K "__init__" "Group.__init__" s_Group_init f fd) (hm : Mk K (A .Group) f) (hg : mg "Group" = some (.ref (A .Group))) (hb : Binds K fd ["self", "key", "name", "function"] []) :
    Mak P w K mg base 3 (A .Group) "Group" f ["self", "key", "name", "function"] (sp_Group_init K A) := mak_of F sc_Group_init hm hg hb len_Group_init (t_Group_init K A) (fun cdv Ar outer s H E hr => d_Group_init T G_name_told Z_Rule_init hr) (fun vs H Q E h => r_Group_init T.fx_Group vs H Q E h)
theorem d_Group_leans (T : Txt K mg A) {f : Addr} {f_each_once : Addr} (G_each_once : Cal P w K mg base 1 "each_once" f_each_once ["spots"] (sp_each_once K))  (hr : Room 1 (Ar.deeper (envOfC "Group.leans" (defScope s_Group_leans) s.heap.objs.size f cdv))) :
    PSs (cxOf (L2.CX P w) P w K mg base N_Group_leans "Group.leans" (defScope s_Group_leans) f cdv Ar outer s H E) (defBody s_Group_leans) (t_Group_leans K E) := by
  have hu := hu65 hr
  have tk : Takes (cxOf (L2.CX P w) P w K mg base N_Group_leans "Group.leans" (defScope s_Group_leans) f cdv Ar outer s H E) (fun cls d _ H => E cls d H) := takes_of rfl rfl rfl rfl
  exact pss_one (ps_ret (pe_cal G_each_once (hr.mono (by decide)) tk (pa_cons (pe_lst (pa_cons (pe_tup (pa_cons (pv 1) (pa_cons (pe_fld (pv 0) rfl) pa_nil))) (pa_cons (pe_tup (pa_cons (pv 1) (pa_cons (pe_fld (pv 0) rfl) pa_nil))) pa_nil))) pa_nil)))
theorem cal_Group_leans (T : Txt K mg A) {f : Addr} {fd : FuncData} {f_each_once : Addr} (G_each_once : Cal P w K mg base 1 "each_once" f_each_once ["spots"] (sp_each_once K)) (F : Fun K "leans" "Group.leans" s_Group_leans f fd) (hm : Meth K (A .Group) "leans" f) (hb : Binds K fd ["self", "table"] []) :
    Met P w K mg base 2 (A .Group) "leans" f ["self", "table"] (sp_Group_leans K A) := met_of F sc_Group_leans hm T.fx_Group.cl hb len_Group_leans (t_Group_leans K) (fun cdv Ar outer s H E hr => d_Group_leans T G_each_once hr) (fun vs H Q E h => r_Group_leans T.fx_Group vs H Q E h)
theorem d_Group_gather (T : Txt K mg A) {f : Addr} {f_is_fault : Addr} (G_is_fault : Cal P w K mg base 2 "is_fault" f_is_fault ["thing"] (sp_is_fault K))  (hr : Room 4 (Ar.deeper (envOfC "Group.gather" (defScope s_Group_gather) s.heap.objs.size f cdv))) :
    PSs (cxOf (L2.CX P w) P w K mg base N_Group_gather "Group.gather" (defScope s_Group_gather) f cdv Ar outer s H E) (defBody s_Group_gather) (t_Group_gather K (CloAt P w K mg base 2) E) := by
  have hu := hu65 hr
  have tk : Takes (cxOf (L2.CX P w) P w K mg base N_Group_gather "Group.gather" (defScope s_Group_gather) f cdv Ar outer s H E) (fun cls d _ H => E cls d H) := takes_of rfl rfl rfl rfl
  exact pss_cons (ps_set (i := 6) sc_Group_gather.nd rfl (Or.inl rfl) (pe_callC (i := 1) (hr.mono (by decide)) rfl (by first | exact Or.inl rfl | exact Or.inr (Or.inl rfl) | exact Or.inr (Or.inr rfl)) (pa_cons (pv 3) (pa_cons (pe_fld (pv 0) rfl) (pa_cons (pv 5) pa_nil)))))
    (pss_cons (ps_if (pt_val (pe_cal G_is_fault (hr.mono (by decide)) tk (pa_cons (pv 6) pa_nil))) (pss_one (ps_ret (pe_tup (pa_cons pe_str (pa_cons (pv 6) pa_nil))))) pss_nil)
    (pss_cons (ps_set (i := 7) sc_Group_gather.nd rfl (Or.inl rfl) (pe_lst pa_nil))
    (pss_cons (ps_for (passes_of rfl) rfl (pi_range1 (by rfl) T.n_range (pa_cons (pe_callC (i := 2) (hr.mono (by decide)) rfl (by first | exact Or.inl rfl | exact Or.inr (Or.inl rfl) | exact Or.inr (Or.inr rfl)) (pa_cons (pv 3) pa_nil)) pa_nil)) (pg_name (i := 8) sc_Group_gather.nd rfl (Or.inl rfl)) (pss_one (ps_if (pt_cmpR (op_eqA hu) (pe_callC (i := 1) (hr.mono (by decide)) rfl (by first | exact Or.inl rfl | exact Or.inr (Or.inl rfl) | exact Or.inr (Or.inr rfl)) (pa_cons (pv 3) (pa_cons (pe_fld (pv 0) rfl) (pa_cons (pv 8) pa_nil)))) (pv 6) (nomark _)) (pss_cons (ps_set (i := 9) sc_Group_gather.nd rfl (Or.inl rfl) (pe_callC (i := 1) (hr.mono (by decide)) rfl (by first | exact Or.inl rfl | exact Or.inr (Or.inl rfl) | exact Or.inr (Or.inr rfl)) (pa_cons (pv 3) (pa_cons (pe_fld (pv 0) rfl) (pa_cons (pv 8) pa_nil)))))
    (pss_cons (ps_if (pt_val (pe_cal G_is_fault (hr.mono (by decide)) tk (pa_cons (pv 9) pa_nil))) (pss_one (ps_ret (pe_tup (pa_cons pe_str (pa_cons (pv 9) pa_nil))))) pss_nil)
    (pss_one (ps_expr (pe_bm PySem.F.plainAttrs_list PySem.F.slot_list_append PySem.F.type_list_append mt_append (pv 7) (pa_cons (pv 9) pa_nil)))))) pss_nil)))
    (pss_one (ps_ret (pe_tup (pa_cons pe_str (pa_cons (pv 7) pa_nil))))))))
theorem cal_Group_gather (T : Txt K mg A) {f : Addr} {fd : FuncData} {f_is_fault : Addr} (G_is_fault : Cal P w K mg base 2 "is_fault" f_is_fault ["thing"] (sp_is_fault K)) (F : Fun K "gather" "Group.gather" s_Group_gather f fd) (hm : Meth K (A .Group) "gather" f) (hb : Binds K fd ["self", "look", "many", "table", "column", "place"] []) :
    Met P w K mg base 5 (A .Group) "gather" f ["self", "look", "many", "table", "column", "place"] (sp_Group_gather K A (CloAt P w K mg base 2)) := met_of F sc_Group_gather hm T.fx_Group.cl hb len_Group_gather (t_Group_gather K (CloAt P w K mg base 2)) (fun cdv Ar outer s H E hr => d_Group_gather T G_is_fault hr) (fun vs H Q E h => r_Group_gather clo_st T.fx_Group vs H Q E h)
theorem d_Lookup_init (T : Txt K mg A) {f : Addr} {f_names_told : Addr} (G_names_told : Cal P w K mg base 3 "names_told" f_names_told ["names"] (sp_names_told K A)) {f_name_told : Addr} (G_name_told : Cal P w K mg base 2 "name_told" f_name_told ["name"] (sp_name_told K A)) {f_Rule_init : Addr} (Z_Rule_init : CFn P w K mg base 1 (A .Rule) "Rule" "__init__" f_Rule_init ["self", "function"] (sp_Rule_init K))  (hr : Room 3 (Ar.deeper (envOfC "Lookup.__init__" (defScope s_Lookup_init) s.heap.objs.size f cdv))) :
    PSs (cxOf (L2.CX P w) P w K mg base N_Lookup_init "Lookup.__init__" (defScope s_Lookup_init) f cdv Ar outer s H E) (defBody s_Lookup_init) (t_Lookup_init K A E) := by
  have hu := hu65 hr
  have tk : Takes (cxOf (L2.CX P w) P w K mg base N_Lookup_init "Lookup.__init__" (defScope s_Lookup_init) f cdv Ar outer s H E) (fun cls d _ H => E cls d H) := takes_of rfl rfl rfl rfl
  exact pss_cons (ps_expr (pe_clsF Z_Rule_init (hr.mono (by decide)) tk (pa_cons (pv 0) (pa_cons (pv 5) pa_nil))))
    (pss_cons (ps_fld (pv 0) (pe_cal G_name_told (hr.mono (by decide)) tk (pa_cons (pv 1) pa_nil)) rfl)
    (pss_cons (ps_fld (pv 0) (pe_cal G_name_told (hr.mono (by decide)) tk (pa_cons (pv 2) pa_nil)) rfl)
    (pss_cons (ps_fld (pv 0) (pe_cal G_name_told (hr.mono (by decide)) tk (pa_cons (pv 3) pa_nil)) rfl)
    (pss_one (ps_fld (pv 0) (pe_cal G_names_told (hr.mono (by decide)) tk (pa_cons (pv 4) pa_nil)) rfl)))))
theorem cal_Lookup_init (T : Txt K mg A) {f : Addr} {fd : FuncData} {f_names_told : Addr} (G_names_told : Cal P w K mg base 3 "names_told" f_names_told ["names"] (sp_names_told K A)) {f_name_told : Addr} (G_name_told : Cal P w K mg base 2 "name_told" f_name_told ["name"] (sp_name_told K A)) {f_Rule_init : Addr} (Z_Rule_init : CFn P w K mg base 1 (A .Rule) "Rule" "__init__" f_Rule_init ["self", "function"] (sp_Rule_init K)) (F : Fun K "__init__" "Lookup.__init__" s_Lookup_init f fd) (hm : Mk K (A .Lookup) f) (hg : mg "Lookup" = some (.ref (A .Lookup))) (hb : Binds K fd ["self", "key", "other", "theirs", "names", "function"] []) :
    Mak P w K mg base 4 (A .Lookup) "Lookup" f ["self", "key", "other", "theirs", "names", "function"] (sp_Lookup_init K A) := mak_of F sc_Lookup_init hm hg hb len_Lookup_init (t_Lookup_init K A) (fun cdv Ar outer s H E hr => d_Lookup_init T G_names_told G_name_told Z_Rule_init hr) (fun vs H Q E h => r_Lookup_init T.fx_Lookup vs H Q E h)
theorem d_Lookup_leans (T : Txt K mg A) {f : Addr} {f_each_once : Addr} (G_each_once : Cal P w K mg base 1 "each_once" f_each_once ["spots"] (sp_each_once K))  (hr : Room 1 (Ar.deeper (envOfC "Lookup.leans" (defScope s_Lookup_leans) s.heap.objs.size f cdv))) :
    PSs (cxOf (L2.CX P w) P w K mg base N_Lookup_leans "Lookup.leans" (defScope s_Lookup_leans) f cdv Ar outer s H E) (defBody s_Lookup_leans) (t_Lookup_leans K E) := by
  have hu := hu65 hr
  have tk : Takes (cxOf (L2.CX P w) P w K mg base N_Lookup_leans "Lookup.leans" (defScope s_Lookup_leans) f cdv Ar outer s H E) (fun cls d _ H => E cls d H) := takes_of rfl rfl rfl rfl
  exact pss_cons (ps_setLc (i := 2) (own := [("name", 3)]) (g := gName 3) (tt := tYes) rfl sc_Lookup_leans.nd rfl rfl (sw_true rfl rfl rfl (by decide +kernel)) (pi_list (pe_op op_addA (pe_lst (pa_cons (pe_fld (pv 0) rfl) pa_nil)) (pe_fld (pv 0) rfl))) (blkOk_by (own := [("name", 3)]) (N := N_Lookup_leans) (sc := defScope s_Lookup_leans) (by decide +kernel)) (fun _ _ _ _ _ => pg_name (i := 3) sc_Lookup_leans.nd rfl (Or.inl rfl)) (fun _ _ _ _ _ => pts_nil) (fun _ _ _ _ _ => pe_tup (pa_cons (pe_fld (pv 0) rfl) (pa_cons (pv 3) pa_nil))))
    (pss_one (ps_ret (pe_cal G_each_once (hr.mono (by decide)) tk (pa_cons (pe_op op_addA (pe_lst (pa_cons (pe_tup (pa_cons (pv 1) (pa_cons (pe_fld (pv 0) rfl) pa_nil))) pa_nil)) (pv 2)) pa_nil))))
theorem cal_Lookup_leans (T : Txt K mg A) {f : Addr} {fd : FuncData} {f_each_once : Addr} (G_each_once : Cal P w K mg base 1 "each_once" f_each_once ["spots"] (sp_each_once K)) (F : Fun K "leans" "Lookup.leans" s_Lookup_leans f fd) (hm : Meth K (A .Lookup) "leans" f) (hb : Binds K fd ["self", "table"] []) :
    Met P w K mg base 2 (A .Lookup) "leans" f ["self", "table"] (sp_Lookup_leans K A) := met_of F sc_Lookup_leans hm T.fx_Lookup.cl hb len_Lookup_leans (t_Lookup_leans K) (fun cdv Ar outer s H E hr => d_Lookup_leans T G_each_once hr) (fun vs H Q E h => r_Lookup_leans T.fx_Lookup vs H Q E h)
theorem d_Lookup_gather (T : Txt K mg A) {f : Addr} {f_fault : Addr} (G_fault : Cal P w K mg base 2 "fault" f_fault ["word"] (sp_fault K A)) {f_looked : Addr} (G_looked : Cal P w K mg base 4 "looked" f_looked ["look", "cells"] (sp_looked K (CloAt P w K mg base 2))) {f_is_fault : Addr} (G_is_fault : Cal P w K mg base 2 "is_fault" f_is_fault ["thing"] (sp_is_fault K))  (hr : Room 4 (Ar.deeper (envOfC "Lookup.gather" (defScope s_Lookup_gather) s.heap.objs.size f cdv))) :
    PSs (cxOf (L2.CX P w) P w K mg base N_Lookup_gather "Lookup.gather" (defScope s_Lookup_gather) f cdv Ar outer s H E) (defBody s_Lookup_gather) (t_Lookup_gather K A (CloAt P w K mg base 2) E) := by
  have hu := hu65 hr
  have tk : Takes (cxOf (L2.CX P w) P w K mg base N_Lookup_gather "Lookup.gather" (defScope s_Lookup_gather) f cdv Ar outer s H E) (fun cls d _ H => E cls d H) := takes_of rfl rfl rfl rfl
  exact pss_cons (ps_set (i := 6) sc_Lookup_gather.nd rfl (Or.inl rfl) (pe_callC (i := 1) (hr.mono (by decide)) rfl (by first | exact Or.inl rfl | exact Or.inr (Or.inl rfl) | exact Or.inr (Or.inr rfl)) (pa_cons (pv 3) (pa_cons (pe_fld (pv 0) rfl) (pa_cons (pv 5) pa_nil)))))
    (pss_cons (ps_if (pt_val (pe_cal G_is_fault (hr.mono (by decide)) tk (pa_cons (pv 6) pa_nil))) (pss_one (ps_ret (pe_tup (pa_cons pe_str (pa_cons (pv 6) pa_nil))))) pss_nil)
    (pss_cons (ps_for (passes_of rfl) rfl (pi_range1 (by rfl) T.n_range (pa_cons (pe_callC (i := 2) (hr.mono (by decide)) rfl (by first | exact Or.inl rfl | exact Or.inr (Or.inl rfl) | exact Or.inr (Or.inr rfl)) (pa_cons (pe_fld (pv 0) rfl) pa_nil)) pa_nil)) (pg_name (i := 7) sc_Lookup_gather.nd rfl (Or.inr rfl)) (pss_one (ps_if (pt_cmpR (op_eqA hu) (pe_callC (i := 1) (hr.mono (by decide)) rfl (by first | exact Or.inl rfl | exact Or.inr (Or.inl rfl) | exact Or.inr (Or.inr rfl)) (pa_cons (pe_fld (pv 0) rfl) (pa_cons (pe_fld (pv 0) rfl) (pa_cons (pv 7) pa_nil)))) (pv 6) (nomark _)) (pss_one (ps_ret (pe_cal G_looked (hr.mono (by decide)) tk (pa_cons (pv 1) (pa_cons (pe_lc (own := [("name", 8)]) (g := gName 8) (tt := tYes) rfl sc_Lookup_gather.nd (pi_list (pe_fld (pv 0) rfl)) (blkOk_by (own := [("name", 8)]) (N := N_Lookup_gather) (sc := defScope s_Lookup_gather) (by decide +kernel)) (fun _ _ _ _ _ => pg_name (i := 8) sc_Lookup_gather.nd rfl (Or.inl rfl)) (fun _ _ _ _ _ => pts_nil) (fun _ _ _ _ _ => pe_tup (pa_cons (pe_fld (pv 0) rfl) (pa_cons (pv 8) (pa_cons (pv 7) pa_nil))))) pa_nil))))) pss_nil)))
    (pss_one (ps_ret (pe_tup (pa_cons pe_str (pa_cons (pe_cal G_fault (hr.mono (by decide)) tk (pa_cons pe_str pa_nil)) pa_nil)))))))
theorem cal_Lookup_gather (T : Txt K mg A) {f : Addr} {fd : FuncData} {f_fault : Addr} (G_fault : Cal P w K mg base 2 "fault" f_fault ["word"] (sp_fault K A)) {f_looked : Addr} (G_looked : Cal P w K mg base 4 "looked" f_looked ["look", "cells"] (sp_looked K (CloAt P w K mg base 2))) {f_is_fault : Addr} (G_is_fault : Cal P w K mg base 2 "is_fault" f_is_fault ["thing"] (sp_is_fault K)) (F : Fun K "gather" "Lookup.gather" s_Lookup_gather f fd) (hm : Meth K (A .Lookup) "gather" f) (hb : Binds K fd ["self", "look", "many", "table", "column", "place"] []) :
    Met P w K mg base 5 (A .Lookup) "gather" f ["self", "look", "many", "table", "column", "place"] (sp_Lookup_gather K A (CloAt P w K mg base 2)) := met_of F sc_Lookup_gather hm T.fx_Lookup.cl hb len_Lookup_gather (t_Lookup_gather K A (CloAt P w K mg base 2)) (fun cdv Ar outer s H E hr => d_Lookup_gather T G_fault G_looked G_is_fault hr) (fun vs H Q E h => r_Lookup_gather clo_st T.fx_Lookup vs H Q E h)
theorem d_Mend_init (T : Txt K mg A) {f : Addr} {f_name_told : Addr} (G_name_told : Cal P w K mg base 2 "name_told" f_name_told ["name"] (sp_name_told K A)) {f_Rule_init : Addr} (Z_Rule_init : CFn P w K mg base 1 (A .Rule) "Rule" "__init__" f_Rule_init ["self", "function"] (sp_Rule_init K))  (hr : Room 2 (Ar.deeper (envOfC "Mend.__init__" (defScope s_Mend_init) s.heap.objs.size f cdv))) :
    PSs (cxOf (L2.CX P w) P w K mg base N_Mend_init "Mend.__init__" (defScope s_Mend_init) f cdv Ar outer s H E) (defBody s_Mend_init) (t_Mend_init K A E) := by
  have hu := hu65 hr
  have tk : Takes (cxOf (L2.CX P w) P w K mg base N_Mend_init "Mend.__init__" (defScope s_Mend_init) f cdv Ar outer s H E) (fun cls d _ H => E cls d H) := takes_of rfl rfl rfl rfl
  exact pss_cons (ps_expr (pe_clsF Z_Rule_init (hr.mono (by decide)) tk (pa_cons (pv 0) (pa_cons (pv 2) pa_nil))))
    (pss_one (ps_fld (pv 0) (pe_cal G_name_told (hr.mono (by decide)) tk (pa_cons (pv 1) pa_nil)) rfl))
theorem cal_Mend_init (T : Txt K mg A) {f : Addr} {fd : FuncData} {f_name_told : Addr} (G_name_told : Cal P w K mg base 2 "name_told" f_name_told ["name"] (sp_name_told K A)) {f_Rule_init : Addr} (Z_Rule_init : CFn P w K mg base 1 (A .Rule) "Rule" "__init__" f_Rule_init ["self", "function"] (sp_Rule_init K)) (F : Fun K "__init__" "Mend.__init__" s_Mend_init f fd) (hm : Mk K (A .Mend) f) (hg : mg "Mend" = some (.ref (A .Mend))) (hb : Binds K fd ["self", "name", "function"] []) :
    Mak P w K mg base 3 (A .Mend) "Mend" f ["self", "name", "function"] (sp_Mend_init K A) := mak_of F sc_Mend_init hm hg hb len_Mend_init (t_Mend_init K A) (fun cdv Ar outer s H E hr => d_Mend_init T G_name_told Z_Rule_init hr) (fun vs H Q E h => r_Mend_init T.fx_Mend vs H Q E h)
theorem d_Mend_leans (T : Txt K mg A) {f : Addr}   (hr : Room 1 (Ar.deeper (envOfC "Mend.leans" (defScope s_Mend_leans) s.heap.objs.size f cdv))) :
    PSs (cxOf (L2.CX P w) P w K mg base N_Mend_leans "Mend.leans" (defScope s_Mend_leans) f cdv Ar outer s H E) (defBody s_Mend_leans) (t_Mend_leans K E) := by
  have hu := hu65 hr
  exact pss_one (ps_ret (pe_lst (pa_cons (pe_tup (pa_cons (pv 1) (pa_cons (pe_fld (pv 0) rfl) pa_nil))) pa_nil)))
theorem cal_Mend_leans (T : Txt K mg A) {f : Addr} {fd : FuncData}  (F : Fun K "leans" "Mend.leans" s_Mend_leans f fd) (hm : Meth K (A .Mend) "leans" f) (hb : Binds K fd ["self", "table"] []) :
    Met P w K mg base 2 (A .Mend) "leans" f ["self", "table"] (sp_Mend_leans K A) := met_of F sc_Mend_leans hm T.fx_Mend.cl hb len_Mend_leans (t_Mend_leans K) (fun cdv Ar outer s H E hr => d_Mend_leans T  hr) (fun vs H Q E h => r_Mend_leans T.fx_Mend vs H Q E h)
theorem d_Mend_gather (T : Txt K mg A) {f : Addr} {f_is_fault : Addr} (G_is_fault : Cal P w K mg base 2 "is_fault" f_is_fault ["thing"] (sp_is_fault K))  (hr : Room 4 (Ar.deeper (envOfC "Mend.gather" (defScope s_Mend_gather) s.heap.objs.size f cdv))) :
    PSs (cxOf (L2.CX P w) P w K mg base N_Mend_gather "Mend.gather" (defScope s_Mend_gather) f cdv Ar outer s H E) (defBody s_Mend_gather) (t_Mend_gather K (CloAt P w K mg base 2) E) := by
  have hu := hu65 hr
  have tk : Takes (cxOf (L2.CX P w) P w K mg base N_Mend_gather "Mend.gather" (defScope s_Mend_gather) f cdv Ar outer s H E) (fun cls d _ H => E cls d H) := takes_of rfl rfl rfl rfl
  exact pss_cons (ps_set (i := 6) sc_Mend_gather.nd rfl (Or.inl rfl) (pe_callC (i := 1) (hr.mono (by decide)) rfl (by first | exact Or.inl rfl | exact Or.inr (Or.inl rfl) | exact Or.inr (Or.inr rfl)) (pa_cons (pv 3) (pa_cons (pe_fld (pv 0) rfl) (pa_cons (pv 5) pa_nil)))))
    (pss_cons (ps_if (pt_val (pe_cal G_is_fault (hr.mono (by decide)) tk (pa_cons (pv 6) pa_nil))) (pss_one (ps_ret (pe_tup (pa_cons pe_str (pa_cons (pe_lst pa_nil) pa_nil))))) pss_nil)
    (pss_one (ps_ret (pe_tup (pa_cons pe_str (pa_cons (pv 6) pa_nil))))))
theorem cal_Mend_gather (T : Txt K mg A) {f : Addr} {fd : FuncData} {f_is_fault : Addr} (G_is_fault : Cal P w K mg base 2 "is_fault" f_is_fault ["thing"] (sp_is_fault K)) (F : Fun K "gather" "Mend.gather" s_Mend_gather f fd) (hm : Meth K (A .Mend) "gather" f) (hb : Binds K fd ["self", "look", "many", "table", "column", "place"] []) :
    Met P w K mg base 5 (A .Mend) "gather" f ["self", "look", "many", "table", "column", "place"] (sp_Mend_gather K A (CloAt P w K mg base 2)) := met_of F sc_Mend_gather hm T.fx_Mend.cl hb len_Mend_gather (t_Mend_gather K (CloAt P w K mg base 2)) (fun cdv Ar outer s H E hr => d_Mend_gather T G_is_fault hr) (fun vs H Q E h => r_Mend_gather clo_st T.fx_Mend vs H Q E h)
theorem d_law_drawn (T : Txt K mg A) {f : Addr}   (hr : Room 0 (Ar.deeper (envOfC "_law_drawn" (defScope s_law_drawn) s.heap.objs.size f cdv))) :
    PSs (cxOf (L2.CX P w) P w K mg base N_law_drawn "_law_drawn" (defScope s_law_drawn) f cdv Ar outer s H E) (defBody s_law_drawn) (t_law_drawn K E) := by
  have hu := hu65 hr
  exact pss_cons (ps_set (i := 3) sc_law_drawn.nd rfl (Or.inl rfl) (pe_op op_addA (pe_op op_mulA (pe_op op_mulA pe_int (pv 1)) (pv 1)) pe_int))
    (pss_cons (ps_if (pt_cmpR op_gt (pe_callB call_lenA (by rfl) T.n_len (by decide +kernel) (pa_cons (pv 0) pa_nil)) pe_int (nomark _)) (pss_one (ps_set (i := 3) sc_law_drawn.nd rfl (Or.inl rfl) (pe_op op_addA (pv 3) (pe_op op_mulA (pe_op op_modN (pe_ix (ix_A hu) (pv 0) (pe_op op_modN (pv 1) (pe_callB call_lenA (by rfl) T.n_len (by decide +kernel) (pa_cons (pv 0) pa_nil))) (fun _ _ => rfl)) (pe_op op_pow pe_int pe_int)) (pe_op op_addA (pe_op op_mulA pe_int (pv 1)) pe_int))))) pss_nil)
    (pss_one (ps_ret (pe_op op_modN (pe_op op_fdivA (pe_op op_modN (pv 3) pe_int) pe_int) (pv 2)))))
theorem cal_law_drawn (T : Txt K mg A) {f : Addr} {fd : FuncData}  (F : Fun K "_law_drawn" "_law_drawn" s_law_drawn f fd) (hm : mg "_law_drawn" = some (.ref f)) (hb : Binds K fd ["script", "k", "size"] []) :
    Cal P w K mg base 1 "_law_drawn" f ["script", "k", "size"] (sp_law_drawn K) := cal_of F sc_law_drawn hm hb len_law_drawn (t_law_drawn K) (fun cdv Ar outer s H E hr => d_law_drawn T  hr) (fun vs H Q E h => r_law_drawn vs H Q E h)
theorem d_law_whole (T : Txt K mg A) {f : Addr}   (hr : Room 0 (Ar.deeper (envOfC "_law_whole" (defScope s_law_whole) s.heap.objs.size f cdv))) :
    PSs (cxOf (L2.CX P w) P w K mg base N_law_whole "_law_whole" (defScope s_law_whole) f cdv Ar outer s H E) (defBody s_law_whole) (t_law_whole K E) := by
  have hu := hu65 hr
  exact pss_one (ps_ret (pe_and (pe_callB call_isiA (by rfl) T.n_isinstance (by decide +kernel) (pa_cons (pv 0) (pa_cons (pe_bltn (v := .ty "int") (by rfl) T.n_int (by decide +kernel) rfl) pa_nil))) (pe_one (pe_not (pe_callB call_isiA (by rfl) T.n_isinstance (by decide +kernel) (pa_cons (pv 0) (pa_cons (pe_bltn (v := .ty "bool") (by rfl) T.n_bool (by decide +kernel) rfl) pa_nil)))))))
theorem cal_law_whole (T : Txt K mg A) {f : Addr} {fd : FuncData}  (F : Fun K "_law_whole" "_law_whole" s_law_whole f fd) (hm : mg "_law_whole" = some (.ref f)) (hb : Binds K fd ["found"] []) :
    Cal P w K mg base 1 "_law_whole" f ["found"] (sp_law_whole K) := cal_of F sc_law_whole hm hb len_law_whole (t_law_whole K) (fun cdv Ar outer s H E hr => d_law_whole T  hr) (fun vs H Q E h => r_law_whole vs H Q E h)
theorem d_law_names (T : Txt K mg A) {f : Addr} {f_law_drawn : Addr} (G_law_drawn : Cal P w K mg base 1 "_law_drawn" f_law_drawn ["script", "k", "size"] (sp_law_drawn K))  (hr : Room 1 (Ar.deeper (envOfC "_law_names" (defScope s_law_names) s.heap.objs.size f cdv))) :
    PSs (cxOf (L2.CX P w) P w K mg base N_law_names "_law_names" (defScope s_law_names) f cdv Ar outer s H E) (defBody s_law_names) (t_law_names K E) := by
  have hu := hu65 hr
  have tk : Takes (cxOf (L2.CX P w) P w K mg base N_law_names "_law_names" (defScope s_law_names) f cdv Ar outer s H E) (fun cls d _ H => E cls d H) := takes_of rfl rfl rfl rfl
  exact pss_cons (ps_set (i := 2) sc_law_names.nd rfl (Or.inl rfl) pe_str)
    (pss_cons (ps_set (i := 3) sc_law_names.nd rfl (Or.inl rfl) pe_str)
    (pss_cons (ps_for (passes_of rfl) rfl (pi_range1 (by rfl) T.n_range (pa_cons (pe_op op_addA pe_int (pe_cal G_law_drawn (hr.mono (by decide)) tk (pa_cons (pv 0) (pa_cons pe_int (pa_cons pe_int pa_nil))))) pa_nil)) (pg_name (i := 4) sc_law_names.nd rfl (Or.inl rfl)) (pss_one (ps_set (i := 3) sc_law_names.nd rfl (Or.inl rfl) (pe_op op_addA (pv 3) (pe_ix (ix_A hu) (pv 2) (pe_cal G_law_drawn (hr.mono (by decide)) tk (pa_cons (pv 0) (pa_cons (pe_op op_addA pe_int (pv 4)) (pa_cons pe_int pa_nil)))) (fun _ _ => rfl))))))
    (pss_cons (ps_set (i := 5) sc_law_names.nd rfl (Or.inl rfl) (pe_cal G_law_drawn (hr.mono (by decide)) tk (pa_cons (pv 0) (pa_cons pe_int (pa_cons (pe_callB call_lenA (by rfl) T.n_len (by decide +kernel) (pa_cons (pv 3) pa_nil)) pa_nil)))))
    (pss_cons (ps_set (i := 6) sc_law_names.nd rfl (Or.inl rfl) (pe_lst pa_nil))
    (pss_cons (ps_for (passes_of rfl) rfl (pi_range1 (by rfl) T.n_range (pa_cons (pv 1) pa_nil)) (pg_name (i := 4) sc_law_names.nd rfl (Or.inl rfl)) (pss_cons (ps_set (i := 7) sc_law_names.nd rfl (Or.inl rfl) (pe_ix (ix_A hu) (pv 2) (pe_op op_modN (pe_op op_addA (pe_m1 PySem.F.slot_str_index PySem.F.type_str_index mt_sindex (pv 2) (pe_ix (ix_A hu) (pv 3) (pv 5) (fun _ _ => rfl))) (pv 4)) pe_int) (fun _ _ => rfl)))
    (pss_one (ps_expr (pe_bm PySem.F.plainAttrs_list PySem.F.slot_list_append PySem.F.type_list_append mt_append (pv 6) (pa_cons (pe_op op_addA (pe_op op_addA (pe_slice sl_A (pv 3) po_none (po_some (pv 5))) (pv 7)) (pe_slice sl_A (pv 3) (po_some (pe_op op_addA (pv 5) pe_int)) po_none)) pa_nil))))))
    (pss_one (ps_ret (pv 6))))))))
theorem cal_law_names (T : Txt K mg A) {f : Addr} {fd : FuncData} {f_law_drawn : Addr} (G_law_drawn : Cal P w K mg base 1 "_law_drawn" f_law_drawn ["script", "k", "size"] (sp_law_drawn K)) (F : Fun K "_law_names" "_law_names" s_law_names f fd) (hm : mg "_law_names" = some (.ref f)) (hb : Binds K fd ["script", "many"] []) :
    Cal P w K mg base 2 "_law_names" f ["script", "many"] (sp_law_names K) := cal_of F sc_law_names hm hb len_law_names (t_law_names K) (fun cdv Ar outer s H E hr => d_law_names T G_law_drawn hr) (fun vs H Q E h => r_law_names vs H Q E h)
theorem d_law_value (T : Txt K mg A) {f : Addr} {f_law_drawn : Addr} (G_law_drawn : Cal P w K mg base 1 "_law_drawn" f_law_drawn ["script", "k", "size"] (sp_law_drawn K))  (hr : Room 1 (Ar.deeper (envOfC "_law_value" (defScope s_law_value) s.heap.objs.size f cdv))) :
    PSs (cxOf (L2.CX P w) P w K mg base N_law_value "_law_value" (defScope s_law_value) f cdv Ar outer s H E) (defBody s_law_value) (t_law_value K E) := by
  have hu := hu65 hr
  have tk : Takes (cxOf (L2.CX P w) P w K mg base N_law_value "_law_value" (defScope s_law_value) f cdv Ar outer s H E) (fun cls d _ H => E cls d H) := takes_of rfl rfl rfl rfl
  exact pss_cons (ps_set (i := 3) sc_law_value.nd rfl (Or.inl rfl) (pe_cal G_law_drawn (hr.mono (by decide)) tk (pa_cons (pv 0) (pa_cons (pv 1) (pa_cons pe_int pa_nil)))))
    (pss_cons (ps_if (pt_cmpR op_lt (pv 3) (pv 2) (nomark _)) (pss_one (ps_ret (pe_tup (pa_cons pe_str (pa_cons (pe_ix (ix_A hu) (pe_lst (pa_cons pe_str (pa_cons pe_str (pa_cons pe_str (pa_cons pe_str pa_nil))))) (pe_cal G_law_drawn (hr.mono (by decide)) tk (pa_cons (pv 0) (pa_cons (pe_op op_addA (pv 1) pe_int) (pa_cons pe_int pa_nil)))) (fun _ _ => rfl)) pa_nil))))) pss_nil)
    (pss_cons (ps_if (pt_cmpR (op_eqA hu) (pv 3) pe_int (nomark _)) (pss_one (ps_ret (pe_op op_mulA (pe_op op_pow (pe_op op_addA (pe_cal G_law_drawn (hr.mono (by decide)) tk (pa_cons (pv 0) (pa_cons (pe_op op_addA (pv 1) pe_int) (pa_cons pe_int pa_nil)))) pe_int) pe_int) (pe_ix (ix_A hu) (pe_lst (pa_cons pe_int (pa_cons (pe_un un_neg pe_int) pa_nil))) (pe_cal G_law_drawn (hr.mono (by decide)) tk (pa_cons (pv 0) (pa_cons (pe_op op_addA (pv 1) pe_int) (pa_cons pe_int pa_nil)))) (fun _ _ => rfl))))) pss_nil)
    (pss_one (ps_ret (pe_op op_sub (pe_cal G_law_drawn (hr.mono (by decide)) tk (pa_cons (pv 0) (pa_cons (pe_op op_addA (pv 1) pe_int) (pa_cons pe_int pa_nil)))) pe_int)))))
theorem cal_law_value (T : Txt K mg A) {f : Addr} {fd : FuncData} {f_law_drawn : Addr} (G_law_drawn : Cal P w K mg base 1 "_law_drawn" f_law_drawn ["script", "k", "size"] (sp_law_drawn K)) (F : Fun K "_law_value" "_law_value" s_law_value f fd) (hm : mg "_law_value" = some (.ref f)) (hb : Binds K fd ["script", "k", "faults"] []) :
    Cal P w K mg base 2 "_law_value" f ["script", "k", "faults"] (sp_law_value K) := cal_of F sc_law_value hm hb len_law_value (t_law_value K) (fun cdv Ar outer s H E hr => d_law_value T G_law_drawn hr) (fun vs H Q E h => r_law_value vs H Q E h)
theorem d_law_world (T : Txt K mg A) {f : Addr} {f_law_value : Addr} (G_law_value : Cal P w K mg base 2 "_law_value" f_law_value ["script", "k", "faults"] (sp_law_value K)) {f_law_drawn : Addr} (G_law_drawn : Cal P w K mg base 1 "_law_drawn" f_law_drawn ["script", "k", "size"] (sp_law_drawn K))  (hr : Room 2 (Ar.deeper (envOfC "_law_world" (defScope s_law_world) s.heap.objs.size f cdv))) :
    PSs (cxOf (L2.CX P w) P w K mg base N_law_world "_law_world" (defScope s_law_world) f cdv Ar outer s H E) (defBody s_law_world) (t_law_world K E) := by
  have hu := hu65 hr
  have tk : Takes (cxOf (L2.CX P w) P w K mg base N_law_world "_law_world" (defScope s_law_world) f cdv Ar outer s H E) (fun cls d _ H => E cls d H) := takes_of rfl rfl rfl rfl
  exact pss_cons (ps_set (i := 5) sc_law_world.nd rfl (Or.inl rfl) pe_dnewT)
    (pss_cons (ps_set (i := 6) sc_law_world.nd rfl (Or.inl rfl) pe_dnewK)
    (pss_cons (ps_for (passes_of rfl) rfl (pi_list (pv 2)) (pg_name (i := 7) sc_law_world.nd rfl (Or.inl rfl)) (pss_cons (ps_asg (pe_cal G_law_drawn (hr.mono (by decide)) tk (pa_cons (pv 0) (pa_cons (pv 4) (pa_cons pe_int pa_nil)))) (pg_sub (pv 6) (pv 7) (set_A hu)))
    (pss_cons (ps_if (pt_cmpR (op_eqA hu) (pe_cal G_law_drawn (hr.mono (by decide)) tk (pa_cons (pv 0) (pa_cons (pe_op op_addA (pv 4) pe_int) (pa_cons pe_int pa_nil)))) pe_int (nomark _)) (pss_one (ps_asg pe_int (pg_sub (pv 6) (pv 7) (set_A hu)))) pss_nil)
    (pss_cons (ps_if (pt_cmpR (op_eqA hu) (pv 7) (pe_ix (ix_A hu) (pv 2) pe_int (fun _ _ => rfl)) (nomark _)) (pss_one (ps_asg (pe_callB (call_max2 rfl) (by rfl) T.n_max (by decide +kernel) (pa_cons pe_int (pa_cons (pe_ix (ix_A hu) (pv 6) (pv 7) (fun _ _ => rfl)) pa_nil))) (pg_sub (pv 6) (pv 7) (set_A hu)))) pss_nil)
    (pss_one (ps_for (passes_of rfl) rfl (pi_list (pv 1)) (pg_name (i := 8) sc_law_world.nd rfl (Or.inl rfl)) (pss_one (ps_for (passes_of rfl) rfl (pi_range1 (by rfl) T.n_range (pa_cons (pe_ix (ix_A hu) (pv 6) (pv 7) (fun _ _ => rfl)) pa_nil)) (pg_name (i := 9) sc_law_world.nd rfl (Or.inl rfl)) (pss_cons (ps_set (i := 4) sc_law_world.nd rfl (Or.inl rfl) (pe_op op_addA (pv 4) pe_int))
    (pss_one (ps_asg (pe_cal G_law_value (hr.mono (by decide)) tk (pa_cons (pv 0) (pa_cons (pv 4) (pa_cons (pv 3) pa_nil)))) (pg_sub (pv 5) (pe_tup (pa_cons (pv 7) (pa_cons (pv 8) (pa_cons (pv 9) pa_nil)))) (set_A hu)))))))))))))
    (pss_one (ps_ret (pe_tup (pa_cons (pv 5) (pa_cons (pv 6) pa_nil)))))))
theorem cal_law_world (T : Txt K mg A) {f : Addr} {fd : FuncData} {f_law_value : Addr} (G_law_value : Cal P w K mg base 2 "_law_value" f_law_value ["script", "k", "faults"] (sp_law_value K)) {f_law_drawn : Addr} (G_law_drawn : Cal P w K mg base 1 "_law_drawn" f_law_drawn ["script", "k", "size"] (sp_law_drawn K)) (F : Fun K "_law_world" "_law_world" s_law_world f fd) (hm : mg "_law_world" = some (.ref f)) (hb : Binds K fd ["script", "names", "tables", "faults", "k"] []) :
    Cal P w K mg base 3 "_law_world" f ["script", "names", "tables", "faults", "k"] (sp_law_world19 K) := cal_of F sc_law_world hm hb len_law_world19 (t_law_world K) (fun cdv Ar outer s H E hr => d_law_world T G_law_value G_law_drawn hr) (fun vs H Q E h => r_law_world19 vs H Q E h)
theorem d_law_table (T : Txt K mg A) {f : Addr} {f_law_drawn : Addr} (G_law_drawn : Cal P w K mg base 1 "_law_drawn" f_law_drawn ["script", "k", "size"] (sp_law_drawn K))  (hr : Room 1 (Ar.deeper (envOfC "_law_table" (defScope s_law_table) s.heap.objs.size f cdv))) :
    PSs (cxOf (L2.CX P w) P w K mg base N_law_table "_law_table" (defScope s_law_table) f cdv Ar outer s H E) (defBody s_law_table) (t_law_table K E) := by
  have hu := hu65 hr
  have tk : Takes (cxOf (L2.CX P w) P w K mg base N_law_table "_law_table" (defScope s_law_table) f cdv Ar outer s H E) (fun cls d _ H => E cls d H) := takes_of rfl rfl rfl rfl
  exact pss_cons (ps_set (i := 4) sc_law_table.nd rfl (Or.inl rfl) (pe_ix (ix_A hu) (pv 3) (pe_cal G_law_drawn (hr.mono (by decide)) tk (pa_cons (pv 0) (pa_cons (pv 1) (pa_cons pe_int pa_nil)))) (fun _ _ => rfl)))
    (pss_cons (ps_if (pt_cmpR (op_eqA hu) (pe_ix (ix_A hu) (pv 2) (pv 4) (fun _ _ => rfl)) pe_int (nomark _)) (pss_one (ps_ret (pe_ix (ix_A hu) (pv 3) pe_int (fun _ _ => rfl)))) pss_nil)
    (pss_one (ps_ret (pv 4))))
theorem cal_law_table (T : Txt K mg A) {f : Addr} {fd : FuncData} {f_law_drawn : Addr} (G_law_drawn : Cal P w K mg base 1 "_law_drawn" f_law_drawn ["script", "k", "size"] (sp_law_drawn K)) (F : Fun K "_law_table" "_law_table" s_law_table f fd) (hm : mg "_law_table" = some (.ref f)) (hb : Binds K fd ["script", "k", "rows", "tables"] []) :
    Cal P w K mg base 2 "_law_table" f ["script", "k", "rows", "tables"] (sp_law_table K) := cal_of F sc_law_table hm hb len_law_table (t_law_table K) (fun cdv Ar outer s H E hr => d_law_table T G_law_drawn hr) (fun vs H Q E h => r_law_table vs H Q E h)
theorem d_law_look (T : Txt K mg A) {f : Addr}   (hr : Room 0 (Ar.deeper (envOfC "_law_look" (defScope s_law_look) s.heap.objs.size f cdv))) :
    PSs (cxOf (L2.CX P w) P w K mg base N_law_look "_law_look" (defScope s_law_look) f cdv Ar outer s H E) (defBody s_law_look) (t_law_look K E) := by
  have hu := hu65 hr
  exact pss_cons (ps_expr (pe_bm PySem.F.plainAttrs_list PySem.F.slot_list_append PySem.F.type_list_append mt_append (pv 1) (pa_cons (pe_tup (pa_cons (pv 2) (pa_cons (pv 3) (pa_cons (pv 4) pa_nil)))) pa_nil)))
    (pss_one (ps_ret (pe_ix (ix_A hu) (pv 0) (pe_tup (pa_cons (pv 2) (pa_cons (pv 3) (pa_cons (pv 4) pa_nil)))) (fun _ _ => rfl))))
theorem cal_law_look (T : Txt K mg A) {f : Addr} {fd : FuncData}  (F : Fun K "_law_look" "_law_look" s_law_look f fd) (hm : mg "_law_look" = some (.ref f)) (hb : Binds K fd ["world", "notes", "table", "column", "place"] []) :
    Cal P w K mg base 1 "_law_look" f ["world", "notes", "table", "column", "place"] (sp_law_look K) := cal_of F sc_law_look hm hb len_law_look (t_law_look K) (fun cdv Ar outer s H E hr => d_law_look T  hr) (fun vs H Q E h => r_law_look vs H Q E h)
theorem d_law_gathered (T : Txt K mg A) {f : Addr} {f_Mend_gather : Addr} (G_Mend_gather : Met P w K mg base 5 (A .Mend) "gather" f_Mend_gather ["self", "look", "many", "table", "column", "place"] (sp_Mend_gather K A (CloAt P w K mg base 2))) {f_Lookup_gather : Addr} (G_Lookup_gather : Met P w K mg base 5 (A .Lookup) "gather" f_Lookup_gather ["self", "look", "many", "table", "column", "place"] (sp_Lookup_gather K A (CloAt P w K mg base 2))) {f_Group_gather : Addr} (G_Group_gather : Met P w K mg base 5 (A .Group) "gather" f_Group_gather ["self", "look", "many", "table", "column", "place"] (sp_Group_gather K A (CloAt P w K mg base 2))) {f_Above_gather : Addr} (G_Above_gather : Met P w K mg base 5 (A .Above) "gather" f_Above_gather ["self", "look", "many", "table", "column", "place"] (sp_Above_gather K A (CloAt P w K mg base 2))) {f_Cells_gather : Addr} (G_Cells_gather : Met P w K mg base 5 (A .Cells) "gather" f_Cells_gather ["self", "look", "many", "table", "column", "place"] (sp_Cells_gather K A (CloAt P w K mg base 2))) {f_law_look : Addr} (G_law_look : Cal P w K mg base 1 "_law_look" f_law_look ["world", "notes", "table", "column", "place"] (sp_law_look K)) {ca tp : Addr} (TBl : TabB base mg ca tp) (hm1 : (tp, ((("_law_gathered" : Str) ++ ".<locals>.") ++ "<lambda>")) ∈ Tb) (hu1 : ∀ p ∈ Tb, p.1 = tp → p.2 = ((("_law_gathered" : Str) ++ ".<locals>.") ++ "<lambda>")) (hr : Room 5 (Ar.deeper (envOfC "_law_gathered" (defScope s_law_gathered) s.heap.objs.size f (.ref ca)))) :
    PSs (cxOf (L2.CX P w) P w K mg base N_law_gathered "_law_gathered" (defScope s_law_gathered) f (.ref ca) Ar outer s H E) (defBody s_law_gathered) (t_law_gathered K A (CloAt P w K mg base 2) Tb lf_law_gathered_0 lf_law_gathered_1 (clT s_law_gathered s) E) := by
  have hu := hu65 hr
  have tk : Takes (cxOf (L2.CX P w) P w K mg base N_law_gathered "_law_gathered" (defScope s_law_gathered) f (.ref ca) Ar outer s H E) (fun cls d _ H => E cls d H) := takes_of rfl rfl rfl rfl
  exact pss_cons (ps_set (i := 11) sc_law_gathered.nd rfl (Or.inr rfl) (pe_lst pa_nil))
    (pss_cons (ps_set (i := 6) sc_law_gathered.nd rfl (Or.inl rfl) (pe_lam TBl rfl hm1 hu1 rfl (show ndefB (defScope s_law_gathered) _ [] = true by decide +kernel)))
    (pss_cons (ps_set (i := 7) sc_law_gathered.nd rfl (Or.inl rfl) (pe_lam TBl rfl hm1 hu1 rfl (show ndefB (defScope s_law_gathered) _ [] = true by decide +kernel)))
    (pss_cons (ps_set (i := 8) sc_law_gathered.nd rfl (Or.inl rfl) (pe_metLD (ns := ["world", "rows", "notes"]) (md_cons ⟨_, _, G_Cells_gather⟩ (md_cons ⟨_, _, G_Above_gather⟩ (md_cons ⟨_, _, G_Group_gather⟩ (md_cons ⟨_, _, G_Lookup_gather⟩ (md_cons ⟨_, _, G_Mend_gather⟩ md_nil))))) (pv 2) (hr.mono (by decide)) rfl rfl (show cellB (defScope s_law_gathered) _ = true by decide +kernel) (fun _ => rfl) (pa_cons (pv 6) (pa_cons (pv 7) (pa_cons (pv 3) (pa_cons (pv 4) (pa_cons (pv 5) pa_nil)))))))
    (pss_cons (ps_set (i := 9) sc_law_gathered.nd rfl (Or.inl rfl) (pe_lst pa_nil))
    (pss_cons (ps_for (passes_of rfl) rfl (pi_list (pv 11)) (pg_name (i := 10) sc_law_gathered.nd rfl (Or.inl rfl)) (pss_one (ps_if (pt_cmpR (op_ninA hu) (pv 10) (pv 9) (by rfl)) (pss_one (ps_expr (pe_bm PySem.F.plainAttrs_list PySem.F.slot_list_append PySem.F.type_list_append mt_append (pv 9) (pa_cons (pv 10) pa_nil)))) pss_nil)))
    (pss_one (ps_ret (pe_tup (pa_cons (pv 8) (pa_cons (pv 9) pa_nil))))))))))
theorem lok_law_gathered_0 (T : Txt K mg A)  {cl : List (Str × Addr)} {c f : Addr} : LOk P w K mg base 2 f (lf_law_gathered_0 cl c) ["t"] ["rows"] (splM K) := by
  refine lok_of (N := ["t", "rows"]) (nscope_by (sc := lamS (stX (stB s_law_gathered 2))) (by decide +kernel)) (fun _ _ us hl => match us, hl with | [_], _ => rfl) lenlM fun Ar outer s H vs ws Q hr hl h => ⟨tlM K, ?_, rlM ws vs H Q h⟩
  have hu := hu65 hr
  exact pe_ix (ix_A hu) (pv 1) (pv 0) (fun _ _ => rfl)
theorem lamI_law_gathered_0 (T : Txt K mg A)  : LamI (CloAt P w K mg base 2) lf_law_gathered_0 (lamS (stX (stB s_law_gathered 2))).names ["rows"] (splM K) :=
  lamI_of (fun _ _ => ⟨rfl, rfl⟩) (by decide +kernel) (by decide +kernel) fun cl c f => lok_law_gathered_0 T 
theorem lok_law_gathered_1 (T : Txt K mg A) {f_law_look : Addr} (G_law_look : Cal P w K mg base 1 "_law_look" f_law_look ["world", "notes", "table", "column", "place"] (sp_law_look K)) {cl : List (Str × Addr)} {c f : Addr} : LOk P w K mg base 2 f (lf_law_gathered_1 cl c) ["t", "c", "p"] ["notes", "world"] (splL K) := by
  refine lok_of (N := ["t", "c", "p", "notes", "world"]) (nscope_by (sc := lamS (stX (stB s_law_gathered 1))) (by decide +kernel)) (fun _ _ us hl => match us, hl with | [_, _, _], _ => rfl) lenlL fun Ar outer s H vs ws Q hr hl h => ⟨tlL K, ?_, rlL ws vs H Q h⟩
  have hu := hu65 hr
  exact pe_calB G_law_look (hr.mono (by decide)) (pa_cons (pv 4) (pa_cons (pv 3) (pa_cons (pv 0) (pa_cons (pv 1) (pa_cons (pv 2) pa_nil)))))
theorem lamI_law_gathered_1 (T : Txt K mg A) {f_law_look : Addr} (G_law_look : Cal P w K mg base 1 "_law_look" f_law_look ["world", "notes", "table", "column", "place"] (sp_law_look K)) : LamI (CloAt P w K mg base 2) lf_law_gathered_1 (lamS (stX (stB s_law_gathered 1))).names ["notes", "world"] (splL K) :=
  lamI_of (fun _ _ => ⟨rfl, rfl⟩) (by decide +kernel) (by decide +kernel) fun cl c f => lok_law_gathered_1 T G_law_look
theorem cal_law_gathered (T : Txt K mg A) {oc kV doc pm ct : Value} {od an : Option Addr} {osl : Array (Option Value)} {f : Addr} {f_Mend_gather : Addr} (G_Mend_gather : Met P w K mg base 5 (A .Mend) "gather" f_Mend_gather ["self", "look", "many", "table", "column", "place"] (sp_Mend_gather K A (CloAt P w K mg base 2))) {f_Lookup_gather : Addr} (G_Lookup_gather : Met P w K mg base 5 (A .Lookup) "gather" f_Lookup_gather ["self", "look", "many", "table", "column", "place"] (sp_Lookup_gather K A (CloAt P w K mg base 2))) {f_Group_gather : Addr} (G_Group_gather : Met P w K mg base 5 (A .Group) "gather" f_Group_gather ["self", "look", "many", "table", "column", "place"] (sp_Group_gather K A (CloAt P w K mg base 2))) {f_Above_gather : Addr} (G_Above_gather : Met P w K mg base 5 (A .Above) "gather" f_Above_gather ["self", "look", "many", "table", "column", "place"] (sp_Above_gather K A (CloAt P w K mg base 2))) {f_Cells_gather : Addr} (G_Cells_gather : Met P w K mg base 5 (A .Cells) "gather" f_Cells_gather ["self", "look", "many", "table", "column", "place"] (sp_Cells_gather K A (CloAt P w K mg base 2))) {f_law_look : Addr} (G_law_look : Cal P w K mg base 1 "_law_look" f_law_look ["world", "notes", "table", "column", "place"] (sp_law_look K)) {ca tp : Addr} (TBl : TabB base mg ca tp) (hm1 : (tp, ((("_law_gathered" : Str) ++ ".<locals>.") ++ "<lambda>")) ∈ Tb) (hu1 : ∀ p ∈ Tb, p.1 = tp → p.2 = ((("_law_gathered" : Str) ++ ".<locals>.") ++ "<lambda>")) (lk : K.lookup f = some ⟨oc, od, .func (fdT "_law_gathered" "_law_gathered" s_law_gathered kV doc pm an ca ct), osl⟩) (hcd : PySem.W.codeIn K (.ref ca) "_law_gathered" = true) (hm : mg "_law_gathered" = some (.ref f)) (kp : PySem.W.keepIn K (.ref f) = true) (hb : Binds K (fdT "_law_gathered" "_law_gathered" s_law_gathered kV doc pm an ca ct) ["world", "rows", "rule", "table", "column", "place"] []) :
    Cal P w K mg base 6 "_law_gathered" f ["world", "rows", "rule", "table", "column", "place"] (sp_law_gathered K A (CloAt P w K mg base 2) Tb) := calT (fnT_of lk hcd sc_law_gathered lenG (fun cl E => t_law_gathered K A (CloAt P w K mg base 2) Tb lf_law_gathered_0 lf_law_gathered_1 cl E) (fun Ar outer s H E hr => d_law_gathered T G_Mend_gather G_Lookup_gather G_Group_gather G_Above_gather G_Cells_gather G_law_look TBl hm1 hu1 hr) (fun cl vs H Q E h => r_law_gathered (lamI_law_gathered_0 T ) (lamI_law_gathered_1 T G_law_look) clo_st vs H Q E h)) hm kp hb
theorem d_law_alike (T : Txt K mg A) {f : Addr} {f_law_whole : Addr} (G_law_whole : Cal P w K mg base 1 "_law_whole" f_law_whole ["found"] (sp_law_whole K))  (hr : Room 1 (Ar.deeper (envOfC "_law_alike" (defScope s_law_alike) s.heap.objs.size f cdv))) :
    PSs (cxOf (L2.CX P w) P w K mg base N_law_alike "_law_alike" (defScope s_law_alike) f cdv Ar outer s H E) (defBody s_law_alike) (t_law_alike K E) := by
  have hu := hu65 hr
  have tk : Takes (cxOf (L2.CX P w) P w K mg base N_law_alike "_law_alike" (defScope s_law_alike) f cdv Ar outer s H E) (fun cls d _ H => E cls d H) := takes_of rfl rfl rfl rfl
  exact pss_cons (ps_if (PW.pt (pw_or (pt_not (pt_val (pe_callB call_isiA (by rfl) T.n_isinstance (by decide +kernel) (pa_cons (pv 0) (pa_cons (pe_bltn (v := .ty "tuple") (by rfl) T.n_tuple (by decide +kernel) rfl) pa_nil))))) (pw_or (pt_cmpR (op_neA hu) (pe_callB call_lenA (by rfl) T.n_len (by decide +kernel) (pa_cons (pv 0) pa_nil)) pe_int (nomark _)) (pw_or (pt_not (pt_val (pe_callB call_isiA (by rfl) T.n_isinstance (by decide +kernel) (pa_cons (pe_ix (ix_A hu) (pv 0) pe_int (fun _ _ => rfl)) (pa_cons (pe_bltn (v := .ty "str") (by rfl) T.n_str (by decide +kernel) rfl) pa_nil))))) (pw_or1 (pt_cmpR (op_neA hu) (pe_ix (ix_A hu) (pv 0) pe_int (fun _ _ => rfl)) (pe_ix (ix_A hu) (pv 1) pe_int (fun _ _ => rfl)) (nomark _))))))) (pss_one (ps_ret pe_bl)) pss_nil)
    (pss_cons (ps_if (pt_val (pe_callB call_isiA (by rfl) T.n_isinstance (by decide +kernel) (pa_cons (pe_ix (ix_A hu) (pv 1) pe_int (fun _ _ => rfl)) (pa_cons (pe_bltn (v := .ty "int") (by rfl) T.n_int (by decide +kernel) rfl) pa_nil)))) (pss_one (ps_ret (pe_and (pe_cal G_law_whole (hr.mono (by decide)) tk (pa_cons (pe_ix (ix_A hu) (pv 0) pe_int (fun _ _ => rfl)) pa_nil)) (pe_one (pe_cmpR (op_eqA hu) (pe_ix (ix_A hu) (pv 0) pe_int (fun _ _ => rfl)) (pe_ix (ix_A hu) (pv 1) pe_int (fun _ _ => rfl)) (nomark _)))))) pss_nil)
    (pss_cons (ps_if (pt_val (pe_callB call_isiA (by rfl) T.n_isinstance (by decide +kernel) (pa_cons (pe_ix (ix_A hu) (pv 1) pe_int (fun _ _ => rfl)) (pa_cons (pe_bltn (v := .ty "tuple") (by rfl) T.n_tuple (by decide +kernel) rfl) pa_nil)))) (pss_one (ps_ret (pe_and (pe_callB call_isiA (by rfl) T.n_isinstance (by decide +kernel) (pa_cons (pe_ix (ix_A hu) (pv 0) pe_int (fun _ _ => rfl)) (pa_cons (pe_bltn (v := .ty "tuple") (by rfl) T.n_tuple (by decide +kernel) rfl) pa_nil))) (pe_one (pe_cmpR (op_eqA hu) (pe_ix (ix_A hu) (pv 0) pe_int (fun _ _ => rfl)) (pe_ix (ix_A hu) (pv 1) pe_int (fun _ _ => rfl)) (nomark _)))))) pss_nil)
    (pss_cons (ps_if (PW.pt (pw_or (pt_not (pt_val (pe_callB call_isiA (by rfl) T.n_isinstance (by decide +kernel) (pa_cons (pe_ix (ix_A hu) (pv 0) pe_int (fun _ _ => rfl)) (pa_cons (pe_bltn (v := .ty "list") (by rfl) T.n_list (by decide +kernel) rfl) pa_nil))))) (pw_or1 (pt_cmpR (op_neA hu) (pe_lc (own := [("one", 2)]) (g := gName 2) (tt := tNot (tB (tCall (sp_law_whole K) [] E0 (tCons (tVar 2) tNil)))) rfl sc_law_alike.nd (pi_list (pe_ix (ix_A hu) (pv 0) pe_int (fun _ _ => rfl))) (blkOk_by (own := [("one", 2)]) (N := N_law_alike) (sc := defScope s_law_alike) (by decide +kernel)) (fun _ _ _ _ _ => pg_name (i := 2) sc_law_alike.nd rfl (Or.inl rfl)) (fun _ _ _ _ _ => pts_one (pt_not (pt_val (pe_calB G_law_whole (hr.mono (by decide)) (pa_cons (pv 2) pa_nil))))) (fun _ _ _ _ _ => pv 2)) (pe_lst pa_nil) (nomark _))))) (pss_one (ps_ret pe_bl)) pss_nil)
    (pss_one (ps_ret (pe_cmpR (op_eqA hu) (pe_ix (ix_A hu) (pv 0) pe_int (fun _ _ => rfl)) (pe_ix (ix_A hu) (pv 1) pe_int (fun _ _ => rfl)) (nomark _)))))))
theorem cal_law_alike (T : Txt K mg A) {f : Addr} {fd : FuncData} {f_law_whole : Addr} (G_law_whole : Cal P w K mg base 1 "_law_whole" f_law_whole ["found"] (sp_law_whole K)) (F : Fun K "_law_alike" "_law_alike" s_law_alike f fd) (hm : mg "_law_alike" = some (.ref f)) (hb : Binds K fd ["found", "due"] []) :
    Cal P w K mg base 2 "_law_alike" f ["found", "due"] (sp_law_alike K) := cal_of F sc_law_alike hm hb len_law_alike (t_law_alike K) (fun cdv Ar outer s H E hr => d_law_alike T G_law_whole hr) (fun vs H Q E h => r_law_alike vs H Q E h)
theorem d_law_picked (T : Txt K mg A) {f : Addr} {f_law_drawn : Addr} (G_law_drawn : Cal P w K mg base 1 "_law_drawn" f_law_drawn ["script", "k", "size"] (sp_law_drawn K))  (hr : Room 1 (Ar.deeper (envOfC "_law_picked" (defScope s_law_picked) s.heap.objs.size f cdv))) :
    PSs (cxOf (L2.CX P w) P w K mg base N_law_picked "_law_picked" (defScope s_law_picked) f cdv Ar outer s H E) (defBody s_law_picked) (t_law_picked K E) := by
  have hu := hu65 hr
  have tk : Takes (cxOf (L2.CX P w) P w K mg base N_law_picked "_law_picked" (defScope s_law_picked) f cdv Ar outer s H E) (fun cls d _ H => E cls d H) := takes_of rfl rfl rfl rfl
  exact pss_one (ps_ret (pe_lc (own := [("j", 3)]) (g := gName 3) (tt := tYes) rfl sc_law_picked.nd (pi_range1 (by rfl) T.n_range (pa_cons (pe_cal G_law_drawn (hr.mono (by decide)) tk (pa_cons (pv 0) (pa_cons (pe_op op_addA (pv 1) pe_int) (pa_cons pe_int pa_nil)))) pa_nil)) (blkOk_by (own := [("j", 3)]) (N := N_law_picked) (sc := defScope s_law_picked) (by decide +kernel)) (fun _ _ _ _ _ => pg_name (i := 3) sc_law_picked.nd rfl (Or.inl rfl)) (fun _ _ _ _ _ => pts_nil) (fun _ _ _ _ _ => pe_ix (ix_A hu) (pv 2) (pe_calB G_law_drawn (hr.mono (by decide)) (pa_cons (pv 0) (pa_cons (pe_op op_addA (pv 1) (pv 3)) (pa_cons (pe_callB call_lenA (by rfl) T.n_len (by decide +kernel) (pa_cons (pv 2) pa_nil)) pa_nil)))) (fun _ _ => rfl))))
theorem cal_law_picked (T : Txt K mg A) {f : Addr} {fd : FuncData} {f_law_drawn : Addr} (G_law_drawn : Cal P w K mg base 1 "_law_drawn" f_law_drawn ["script", "k", "size"] (sp_law_drawn K)) (F : Fun K "_law_picked" "_law_picked" s_law_picked f fd) (hm : mg "_law_picked" = some (.ref f)) (hb : Binds K fd ["script", "k", "names"] []) :
    Cal P w K mg base 2 "_law_picked" f ["script", "k", "names"] (sp_law_picked K) := cal_of F sc_law_picked hm hb len_law_picked (t_law_picked K) (fun cdv Ar outer s H E hr => d_law_picked T G_law_drawn hr) (fun vs H Q E h => r_law_picked vs H Q E h)
theorem d_law_made (T : Txt K mg A) {f : Addr} {f_Mend_init : Addr} (G_Mend_init : Mak P w K mg base 3 (A .Mend) "Mend" f_Mend_init ["self", "name", "function"] (sp_Mend_init K A)) {f_Lookup_init : Addr} (G_Lookup_init : Mak P w K mg base 4 (A .Lookup) "Lookup" f_Lookup_init ["self", "key", "other", "theirs", "names", "function"] (sp_Lookup_init K A)) {f_Group_init : Addr} (G_Group_init : Mak P w K mg base 3 (A .Group) "Group" f_Group_init ["self", "key", "name", "function"] (sp_Group_init K A)) {f_Above_init : Addr} (G_Above_init : Mak P w K mg base 4 (A .Above) "Above" f_Above_init ["self", "first", "names", "function"] (sp_Above_init K A)) {f_Cells_init : Addr} (G_Cells_init : Mak P w K mg base 4 (A .Cells) "Cells" f_Cells_init ["self", "names", "function"] (sp_Cells_init K A)) {ca tp : Addr} (TBl : TabB base mg ca tp) (hm1 : (tp, ((("_law_made" : Str) ++ ".<locals>.") ++ "<lambda>")) ∈ Tb) (hu1 : ∀ p ∈ Tb, p.1 = tp → p.2 = ((("_law_made" : Str) ++ ".<locals>.") ++ "<lambda>")) (hr : Room 5 (Ar.deeper (envOfC "_law_made" (defScope s_law_made) s.heap.objs.size f (.ref ca)))) :
    PSs (cxOf (L2.CX P w) P w K mg base N_law_made "_law_made" (defScope s_law_made) f (.ref ca) Ar outer s H E) (defBody s_law_made) (t_law_made K A Tb lf_law_made_0 lf_law_made_1 lf_law_made_2 lf_law_made_3 lf_law_made_4 (clT s_law_made s) E) := by
  have hu := hu65 hr
  have tk : Takes (cxOf (L2.CX P w) P w K mg base N_law_made "_law_made" (defScope s_law_made) f (.ref ca) Ar outer s H E) (fun cls d _ H => E cls d H) := takes_of rfl rfl rfl rfl
  exact pss_cons (ps_if (pt_cmpR (op_eqA hu) (pv 0) pe_int (nomark _)) (pss_one (ps_ret (pe_mak G_Cells_init (hr.mono (by decide)) tk (pa_cons (pv 2) (pa_cons (pe_lam TBl rfl hm1 hu1 rfl (show ndefB (defScope s_law_made) _ [] = true by decide +kernel)) pa_nil))))) pss_nil)
    (pss_cons (ps_if (pt_cmpR (op_eqA hu) (pv 0) pe_int (nomark _)) (pss_one (ps_ret (pe_mak G_Above_init (hr.mono (by decide)) tk (pa_cons pe_int (pa_cons (pv 2) (pa_cons (pe_lam TBl rfl hm1 hu1 rfl (show ndefB (defScope s_law_made) _ [] = true by decide +kernel)) pa_nil)))))) pss_nil)
    (pss_cons (ps_if (pt_cmpR (op_eqA hu) (pv 0) pe_int (nomark _)) (pss_one (ps_ret (pe_mak G_Group_init (hr.mono (by decide)) tk (pa_cons (pe_ix (ix_A hu) (pv 1) pe_int (fun _ _ => rfl)) (pa_cons (pe_ix (ix_A hu) (pv 1) pe_int (fun _ _ => rfl)) (pa_cons (pe_lam TBl rfl hm1 hu1 rfl (show ndefB (defScope s_law_made) _ [] = true by decide +kernel)) pa_nil)))))) pss_nil)
    (pss_cons (ps_if (pt_cmpR (op_eqA hu) (pv 0) pe_int (nomark _)) (pss_one (ps_ret (pe_mak G_Lookup_init (hr.mono (by decide)) tk (pa_cons (pe_ix (ix_A hu) (pv 1) pe_int (fun _ _ => rfl)) (pa_cons (pv 3) (pa_cons (pe_ix (ix_A hu) (pv 1) pe_int (fun _ _ => rfl)) (pa_cons (pv 2) (pa_cons (pe_lam TBl rfl hm1 hu1 rfl (show ndefB (defScope s_law_made) _ [] = true by decide +kernel)) pa_nil)))))))) pss_nil)
    (pss_one (ps_ret (pe_mak G_Mend_init (hr.mono (by decide)) tk (pa_cons (pe_ix (ix_A hu) (pv 1) pe_int (fun _ _ => rfl)) (pa_cons (pe_lam TBl rfl hm1 hu1 rfl (show ndefB (defScope s_law_made) _ [] = true by decide +kernel)) pa_nil))))))))
theorem cal_law_made (T : Txt K mg A) {oc kV doc pm ct : Value} {od an : Option Addr} {osl : Array (Option Value)} {f : Addr} {f_Mend_init : Addr} (G_Mend_init : Mak P w K mg base 3 (A .Mend) "Mend" f_Mend_init ["self", "name", "function"] (sp_Mend_init K A)) {f_Lookup_init : Addr} (G_Lookup_init : Mak P w K mg base 4 (A .Lookup) "Lookup" f_Lookup_init ["self", "key", "other", "theirs", "names", "function"] (sp_Lookup_init K A)) {f_Group_init : Addr} (G_Group_init : Mak P w K mg base 3 (A .Group) "Group" f_Group_init ["self", "key", "name", "function"] (sp_Group_init K A)) {f_Above_init : Addr} (G_Above_init : Mak P w K mg base 4 (A .Above) "Above" f_Above_init ["self", "first", "names", "function"] (sp_Above_init K A)) {f_Cells_init : Addr} (G_Cells_init : Mak P w K mg base 4 (A .Cells) "Cells" f_Cells_init ["self", "names", "function"] (sp_Cells_init K A)) {ca tp : Addr} (TBl : TabB base mg ca tp) (hm1 : (tp, ((("_law_made" : Str) ++ ".<locals>.") ++ "<lambda>")) ∈ Tb) (hu1 : ∀ p ∈ Tb, p.1 = tp → p.2 = ((("_law_made" : Str) ++ ".<locals>.") ++ "<lambda>")) (lk : K.lookup f = some ⟨oc, od, .func (fdT "_law_made" "_law_made" s_law_made kV doc pm an ca ct), osl⟩) (hcd : PySem.W.codeIn K (.ref ca) "_law_made" = true) (hm : mg "_law_made" = some (.ref f)) (kp : PySem.W.keepIn K (.ref f) = true) (hb : Binds K (fdT "_law_made" "_law_made" s_law_made kV doc pm an ca ct) ["kind", "names", "some", "other"] []) :
    Cal P w K mg base 6 "_law_made" f ["kind", "names", "some", "other"] (sp_law_made K A Tb) := calT (fnT_of lk hcd sc_law_made len_law_made (fun cl E => t_law_made K A Tb lf_law_made_0 lf_law_made_1 lf_law_made_2 lf_law_made_3 lf_law_made_4 cl E) (fun Ar outer s H E hr => d_law_made T G_Mend_init G_Lookup_init G_Group_init G_Above_init G_Cells_init TBl hm1 hu1 hr) (fun cl vs H Q E h => r_law_made vs H Q E h)) hm kp hb
theorem d_law_changed (T : Txt K mg A) {f : Addr} {f_law_value : Addr} (G_law_value : Cal P w K mg base 2 "_law_value" f_law_value ["script", "k", "faults"] (sp_law_value K))  (hr : Room 2 (Ar.deeper (envOfC "_law_changed" (defScope s_law_changed) s.heap.objs.size f cdv))) :
    PSs (cxOf (L2.CX P w) P w K mg base N_law_changed "_law_changed" (defScope s_law_changed) f cdv Ar outer s H E) (defBody s_law_changed) (t_law_changed K E) := by
  have hu := hu65 hr
  have tk : Takes (cxOf (L2.CX P w) P w K mg base N_law_changed "_law_changed" (defScope s_law_changed) f cdv Ar outer s H E) (fun cls d _ H => E cls d H) := takes_of rfl rfl rfl rfl
  exact pss_cons (ps_set (i := 3) sc_law_changed.nd rfl (Or.inl rfl) pe_dnewT)
    (pss_cons (ps_set (i := 4) sc_law_changed.nd rfl (Or.inl rfl) pe_int)
    (pss_cons (ps_lock (ps_for (passes_of rfl) rfl (pi_keys (pv 1)) (pg_name (i := 5) sc_law_changed.nd rfl (Or.inl rfl)) (pss_cons (ps_set (i := 4) sc_law_changed.nd rfl (Or.inl rfl) (pe_op op_addA (pv 4) pe_int))
    (pss_cons (ps_asg (pe_ix (ix_A hu) (pv 1) (pv 5) (fun _ _ => rfl)) (pg_sub (pv 3) (pv 5) (set_A hu)))
    (pss_one (ps_if (pt_cmpR (op_ninA hu) (pv 5) (pv 2) (by rfl)) (pss_one (ps_asg (pe_cal G_law_value (hr.mono (by decide)) tk (pa_cons (pv 0) (pa_cons (pv 4) (pa_cons pe_int pa_nil)))) (pg_sub (pv 3) (pv 5) (set_A hu)))) pss_nil))))))
    (pss_one (ps_ret (pv 3)))))
theorem cal_law_changed (T : Txt K mg A) {f : Addr} {fd : FuncData} {f_law_value : Addr} (G_law_value : Cal P w K mg base 2 "_law_value" f_law_value ["script", "k", "faults"] (sp_law_value K)) (F : Fun K "_law_changed" "_law_changed" s_law_changed f fd) (hm : mg "_law_changed" = some (.ref f)) (hb : Binds K fd ["script", "world", "once"] []) :
    Cal P w K mg base 3 "_law_changed" f ["script", "world", "once"] (sp_law_changed K) := cal_of F sc_law_changed hm hb len_law_changed (t_law_changed K) (fun cdv Ar outer s H E hr => d_law_changed T G_law_value hr) (fun vs H Q E h => r_law_changed vs H Q E h)
theorem d_law_leans (T : Txt K mg A) {f : Addr} {f_Mend_leans : Addr} (G_Mend_leans : Met P w K mg base 2 (A .Mend) "leans" f_Mend_leans ["self", "table"] (sp_Mend_leans K A)) {f_Lookup_leans : Addr} (G_Lookup_leans : Met P w K mg base 2 (A .Lookup) "leans" f_Lookup_leans ["self", "table"] (sp_Lookup_leans K A)) {f_Group_leans : Addr} (G_Group_leans : Met P w K mg base 2 (A .Group) "leans" f_Group_leans ["self", "table"] (sp_Group_leans K A)) {f_Above_leans : Addr} (G_Above_leans : Met P w K mg base 2 (A .Above) "leans" f_Above_leans ["self", "table"] (sp_Above_leans K A)) {f_Cells_leans : Addr} (G_Cells_leans : Met P w K mg base 2 (A .Cells) "leans" f_Cells_leans ["self", "table"] (sp_Cells_leans K A))  (hr : Room 2 (Ar.deeper (envOfC "_law_leans" (defScope s_law_leans) s.heap.objs.size f cdv))) :
    PSs (cxOf (L2.CX P w) P w K mg base N_law_leans "_law_leans" (defScope s_law_leans) f cdv Ar outer s H E) (defBody s_law_leans) (t_law_leans K A E) := by
  have hu := hu65 hr
  have tk : Takes (cxOf (L2.CX P w) P w K mg base N_law_leans "_law_leans" (defScope s_law_leans) f cdv Ar outer s H E) (fun cls d _ H => E cls d H) := takes_of rfl rfl rfl rfl
  exact pss_cons (ps_set (i := 5) sc_law_leans.nd rfl (Or.inl rfl) (pe_metD (md_cons ⟨_, _, G_Cells_leans⟩ (md_cons ⟨_, _, G_Above_leans⟩ (md_cons ⟨_, _, G_Group_leans⟩ (md_cons ⟨_, _, G_Lookup_leans⟩ (md_cons ⟨_, _, G_Mend_leans⟩ md_nil))))) (pv 0) (hr.mono (by decide)) tk (pa_cons (pv 1) pa_nil)))
    (pss_cons (ps_for (passes_of rfl) rfl (pi_list (pv 4)) (pg_name (i := 6) sc_law_leans.nd rfl (Or.inl rfl)) (pss_cons (ps_set (i := 7) sc_law_leans.nd rfl (Or.inl rfl) (pe_and (pe_cmpR op_gt (pv 3) pe_int (nomark _)) (pe_and (pe_cmpR (op_eqA hu) (pv 6) (pe_tup (pa_cons (pv 1) (pa_cons (pv 2) (pa_cons (pe_op op_sub (pv 3) pe_int) pa_nil)))) (nomark _)) (pe_one (pe_callB call_isi (by rfl) T.n_isinstance (by decide +kernel) (pa_cons (pv 0) (pa_cons (pe_glob (v := .ref (A .Above)) rfl T.g_Above rfl) pa_nil)))))))
    (pss_one (ps_if (PW.pt (pw_and (pt_cmpR (op_ninA hu) (pe_tup (pa_cons (pe_ix (ix_A hu) (pv 6) pe_int (fun _ _ => rfl)) (pa_cons (pe_ix (ix_A hu) (pv 6) pe_int (fun _ _ => rfl)) pa_nil))) (pv 5) (by rfl)) (pw_and1 (pt_not (pt_val (pv 7)))))) (pss_one (ps_ret pe_bl)) pss_nil))))
    (pss_one (ps_ret pe_bl)))
theorem cal_law_leans (T : Txt K mg A) {f : Addr} {fd : FuncData} {f_Mend_leans : Addr} (G_Mend_leans : Met P w K mg base 2 (A .Mend) "leans" f_Mend_leans ["self", "table"] (sp_Mend_leans K A)) {f_Lookup_leans : Addr} (G_Lookup_leans : Met P w K mg base 2 (A .Lookup) "leans" f_Lookup_leans ["self", "table"] (sp_Lookup_leans K A)) {f_Group_leans : Addr} (G_Group_leans : Met P w K mg base 2 (A .Group) "leans" f_Group_leans ["self", "table"] (sp_Group_leans K A)) {f_Above_leans : Addr} (G_Above_leans : Met P w K mg base 2 (A .Above) "leans" f_Above_leans ["self", "table"] (sp_Above_leans K A)) {f_Cells_leans : Addr} (G_Cells_leans : Met P w K mg base 2 (A .Cells) "leans" f_Cells_leans ["self", "table"] (sp_Cells_leans K A)) (F : Fun K "_law_leans" "_law_leans" s_law_leans f fd) (hm : mg "_law_leans" = some (.ref f)) (hb : Binds K fd ["rule", "table", "own", "place", "once"] []) :
    Cal P w K mg base 3 "_law_leans" f ["rule", "table", "own", "place", "once"] (sp_law_leans K A) := cal_of F sc_law_leans hm hb len_law_leans (t_law_leans K A) (fun cdv Ar outer s H E hr => d_law_leans T G_Mend_leans G_Lookup_leans G_Group_leans G_Above_leans G_Cells_leans hr) (fun vs H Q E h => r_law_leans (fxR T.fx_Cells T.fx_Above T.fx_Group T.fx_Lookup T.fx_Mend) (isK T.ik_Cells T.ik_Above T.ik_Group T.ik_Lookup T.ik_Mend T.kt_Cells_Above T.kt_Cells_Mend T.kt_Cells_Lookup T.kt_Above_Above T.kt_Above_Mend T.kt_Above_Lookup T.kt_Group_Above T.kt_Group_Mend T.kt_Group_Lookup T.kt_Lookup_Above T.kt_Lookup_Mend T.kt_Lookup_Lookup T.kt_Mend_Above T.kt_Mend_Mend T.kt_Mend_Lookup) vs H Q E h)
theorem d_law_fault (T : Txt K mg A) {f : Addr} {f_law_whole : Addr} (G_law_whole : Cal P w K mg base 1 "_law_whole" f_law_whole ["found"] (sp_law_whole K))  (hr : Room 1 (Ar.deeper (envOfC "_law_fault" (defScope s_law_fault) s.heap.objs.size f cdv))) :
    PSs (cxOf (L2.CX P w) P w K mg base N_law_fault "_law_fault" (defScope s_law_fault) f cdv Ar outer s H E) (defBody s_law_fault) (t_law_fault K A E) := by
  have hu := hu65 hr
  have tk : Takes (cxOf (L2.CX P w) P w K mg base N_law_fault "_law_fault" (defScope s_law_fault) f cdv Ar outer s H E) (fun cls d _ H => E cls d H) := takes_of rfl rfl rfl rfl
  exact pss_cons (ps_if (PW.pt (pw_or (pt_not (pt_val (pe_callB call_isiA (by rfl) T.n_isinstance (by decide +kernel) (pa_cons (pv 2) (pa_cons (pe_bltn (v := .ty "tuple") (by rfl) T.n_tuple (by decide +kernel) rfl) pa_nil))))) (pw_or (pt_cmpR (op_neA hu) (pe_callB call_lenA (by rfl) T.n_len (by decide +kernel) (pa_cons (pv 2) pa_nil)) pe_int (nomark _)) (pw_or1 (pt_cmpR (op_eqA hu) (pv 3) (pe_lst pa_nil) (nomark _)))))) (pss_one (ps_ret (pe_or (pe_cmpR (op_eqA hu) (pv 2) (pe_tup (pa_cons pe_str (pa_cons (pe_lst pa_nil) pa_nil))) (nomark _)) (pe_one (pe_cmpR (op_eqA hu) (pv 2) (pe_tup (pa_cons pe_str (pa_cons (pe_lst (pa_cons pe_int pa_nil)) pa_nil))) (nomark _)))))) pss_nil)
    (pss_cons (ps_if (pt_cmpR (op_eqA hu) (pe_ix (ix_A hu) (pv 2) pe_int (fun _ _ => rfl)) pe_str (nomark _)) (pss_one (ps_ret (pe_cmpR (op_eqA hu) (pe_lc (own := [("one", 4)]) (g := gName 4) (tt := tNot (tB (tCall (sp_law_whole K) [] E0 (tCons (tVar 4) tNil)))) rfl sc_law_fault.nd (pi_list (pe_ix (ix_A hu) (pv 2) pe_int (fun _ _ => rfl))) (blkOk_by (own := [("one", 4)]) (N := N_law_fault) (sc := defScope s_law_fault) (by decide +kernel)) (fun _ _ _ _ _ => pg_name (i := 4) sc_law_fault.nd rfl (Or.inl rfl)) (fun _ _ _ _ _ => pts_one (pt_not (pt_val (pe_calB G_law_whole (hr.mono (by decide)) (pa_cons (pv 4) pa_nil))))) (fun _ _ _ _ _ => pv 4)) (pe_lst pa_nil) (nomark _)))) pss_nil)
    (pss_cons (ps_if (pt_val (pe_callB call_isiA (by rfl) T.n_isinstance (by decide +kernel) (pa_cons (pe_ix (ix_A hu) (pv 2) pe_int (fun _ _ => rfl)) (pa_cons (pe_bltn (v := .ty "int") (by rfl) T.n_int (by decide +kernel) rfl) pa_nil)))) (pss_one (ps_ret (pe_callB call_isi (by rfl) T.n_isinstance (by decide +kernel) (pa_cons (pv 1) (pa_cons (pe_glob (v := .ref (A .Mend)) rfl T.g_Mend rfl) pa_nil))))) pss_nil)
    (pss_cons (ps_if (PW.pt (pw_and (pt_cmpR (op_eqA hu) (pe_ix (ix_A hu) (pv 2) pe_int (fun _ _ => rfl)) (pe_tup (pa_cons pe_str (pa_cons pe_str pa_nil))) (nomark _)) (pw_and1 (pt_val (pe_callB call_isi (by rfl) T.n_isinstance (by decide +kernel) (pa_cons (pv 1) (pa_cons (pe_glob (v := .ref (A .Lookup)) rfl T.g_Lookup rfl) pa_nil))))))) (pss_one (ps_ret pe_bl)) pss_nil)
    (pss_one (ps_ret (pe_cmpR (op_eqA hu) (pe_ix (ix_A hu) (pv 2) pe_int (fun _ _ => rfl)) (pe_ix (ix_A hu) (pv 0) (pe_ix (ix_A hu) (pv 3) (pe_un un_neg pe_int) (fun _ _ => rfl)) (fun _ _ => rfl)) (nomark _)))))))
theorem cal_law_fault (T : Txt K mg A) {f : Addr} {fd : FuncData} {f_law_whole : Addr} (G_law_whole : Cal P w K mg base 1 "_law_whole" f_law_whole ["found"] (sp_law_whole K)) (F : Fun K "_law_fault" "_law_fault" s_law_fault f fd) (hm : mg "_law_fault" = some (.ref f)) (hb : Binds K fd ["world", "rule", "found", "once"] []) :
    Cal P w K mg base 2 "_law_fault" f ["world", "rule", "found", "once"] (sp_law_fault K A) := cal_of F sc_law_fault hm hb len_law_fault (t_law_fault K A) (fun cdv Ar outer s H E hr => d_law_fault T G_law_whole hr) (fun vs H Q E h => r_law_fault (fxR T.fx_Cells T.fx_Above T.fx_Group T.fx_Lookup T.fx_Mend) (isK T.ik_Cells T.ik_Above T.ik_Group T.ik_Lookup T.ik_Mend T.kt_Cells_Above T.kt_Cells_Mend T.kt_Cells_Lookup T.kt_Above_Above T.kt_Above_Mend T.kt_Above_Lookup T.kt_Group_Above T.kt_Group_Mend T.kt_Group_Lookup T.kt_Lookup_Above T.kt_Lookup_Mend T.kt_Lookup_Lookup T.kt_Mend_Above T.kt_Mend_Mend T.kt_Mend_Lookup) vs H Q E h)
theorem d_law (T : Txt K mg A) {f : Addr} {f_law_alike : Addr} (G_law_alike : Cal P w K mg base 2 "_law_alike" f_law_alike ["found", "due"] (sp_law_alike K)) {f_law_gathered : Addr} (G_law_gathered : Cal P w K mg base 6 "_law_gathered" f_law_gathered ["world", "rows", "rule", "table", "column", "place"] (sp_law_gathered K A (CloAt P w K mg base 2) Tb)) {f_law_changed : Addr} (G_law_changed : Cal P w K mg base 3 "_law_changed" f_law_changed ["script", "world", "once"] (sp_law_changed K)) {f_law_leans : Addr} (G_law_leans : Cal P w K mg base 3 "_law_leans" f_law_leans ["rule", "table", "own", "place", "once"] (sp_law_leans K A)) {f_law_fault : Addr} (G_law_fault : Cal P w K mg base 2 "_law_fault" f_law_fault ["world", "rule", "found", "once"] (sp_law_fault K A)) {f_law_drawn : Addr} (G_law_drawn : Cal P w K mg base 1 "_law_drawn" f_law_drawn ["script", "k", "size"] (sp_law_drawn K)) {f_law_made : Addr} (G_law_made : Cal P w K mg base 6 "_law_made" f_law_made ["kind", "names", "some", "other"] (sp_law_made K A Tb)) {f_law_picked : Addr} (G_law_picked : Cal P w K mg base 2 "_law_picked" f_law_picked ["script", "k", "names"] (sp_law_picked K)) {f_law_table : Addr} (G_law_table : Cal P w K mg base 2 "_law_table" f_law_table ["script", "k", "rows", "tables"] (sp_law_table K)) {f_law_world : Addr} (G_law_world : Cal P w K mg base 3 "_law_world" f_law_world ["script", "names", "tables", "faults", "k"] (sp_law_world19 K)) {f_law_names : Addr} (G_law_names : Cal P w K mg base 2 "_law_names" f_law_names ["script", "many"] (sp_law_names K))  (hr : Room 6 (Ar.deeper (envOfC "law" (defScope s_law) s.heap.objs.size f cdv))) :
    PSs (cxOf (L2.CX P w) P w K mg base N_law "law" (defScope s_law) f cdv Ar outer s H E) (defBody s_law) (t_law K A (CloAt P w K mg base 2) Tb E) := by
  have hu := hu65 hr
  have tk : Takes (cxOf (L2.CX P w) P w K mg base N_law "law" (defScope s_law) f cdv Ar outer s H E) (fun cls d _ H => E cls d H) := takes_of rfl rfl rfl rfl
  exact pss_cons (ps_set (i := 1) sc_law.nd rfl (Or.inr rfl) (pe_cal G_law_names (hr.mono (by decide)) tk (pa_cons (pv 0) (pa_cons pe_int pa_nil))))
    (pss_cons (ps_asg (pe_cal G_law_world (hr.mono (by decide)) tk (pa_cons (pv 0) (pa_cons (pe_slice sl_A (pv 1) po_none (po_some pe_int)) (pa_cons (pe_slice sl_A (pv 1) (po_some pe_int) po_none) (pa_cons (pe_cal G_law_drawn (hr.mono (by decide)) tk (pa_cons (pv 0) (pa_cons pe_int (pa_cons pe_int pa_nil)))) (pa_cons pe_int pa_nil)))))) (pg_tup rfl (pgs_cons (pg_name (i := 2) sc_law.nd rfl (Or.inl rfl)) (pgs_cons (pg_name (i := 3) sc_law.nd rfl (Or.inl rfl)) pgs_nil))))
    (pss_cons (ps_for (passes_of rfl) rfl (pi_range1 (by rfl) T.n_range (pa_cons pe_int pa_nil)) (pg_name (i := 4) sc_law.nd rfl (Or.inl rfl)) (pss_cons (ps_set (i := 5) sc_law.nd rfl (Or.inr rfl) (pe_op op_addA (pe_op op_mulA pe_int (pv 4)) pe_int))
    (pss_cons (ps_set (i := 6) sc_law.nd rfl (Or.inl rfl) (pe_cal G_law_table (hr.mono (by decide)) tk (pa_cons (pv 0) (pa_cons (pv 5) (pa_cons (pv 3) (pa_cons (pe_slice sl_A (pv 1) (po_some pe_int) po_none) pa_nil))))))
    (pss_cons (ps_set (i := 7) sc_law.nd rfl (Or.inl rfl) (pe_ix (ix_A hu) (pv 1) (pe_op op_addA pe_int (pe_cal G_law_drawn (hr.mono (by decide)) tk (pa_cons (pv 0) (pa_cons (pe_op op_addA (pv 5) pe_int) (pa_cons pe_int pa_nil))))) (fun _ _ => rfl)))
    (pss_cons (ps_set (i := 8) sc_law.nd rfl (Or.inl rfl) (pe_cal G_law_drawn (hr.mono (by decide)) tk (pa_cons (pv 0) (pa_cons (pe_op op_addA (pv 5) pe_int) (pa_cons (pe_ix (ix_A hu) (pv 3) (pv 6) (fun _ _ => rfl)) pa_nil)))))
    (pss_cons (ps_set (i := 9) sc_law.nd rfl (Or.inl rfl) (pe_ix (ix_A hu) (pv 1) (pe_cal G_law_drawn (hr.mono (by decide)) tk (pa_cons (pv 0) (pa_cons (pe_op op_addA (pv 5) pe_int) (pa_cons pe_int pa_nil)))) (fun _ _ => rfl)))
    (pss_cons (ps_setLc (i := 10) (own := [("j", 19)]) (g := gName 19) (tt := tYes) rfl sc_law.nd rfl rfl (sw_true rfl rfl rfl (by decide +kernel)) (pi_range1 (by rfl) T.n_range (pa_cons pe_int pa_nil)) (blkOk_by (own := [("j", 19)]) (N := N_law) (sc := defScope s_law) (by decide +kernel)) (fun _ _ _ _ _ => pg_name (i := 19) sc_law.nd rfl (Or.inl rfl)) (fun _ _ _ _ _ => pts_nil) (fun _ _ _ _ _ => pe_ix (ix_A hu) (pv 1) (pe_calB G_law_drawn (hr.mono (by decide)) (pa_cons (pv 0) (pa_cons (pe_op op_addA (pe_op op_addA (pv 5) pe_int) (pv 19)) (pa_cons pe_int pa_nil)))) (fun _ _ => rfl)))
    (pss_cons (ps_set (i := 11) sc_law.nd rfl (Or.inl rfl) (pe_cal G_law_picked (hr.mono (by decide)) tk (pa_cons (pv 0) (pa_cons (pe_op op_addA (pv 5) pe_int) (pa_cons (pe_slice sl_A (pv 1) po_none (po_some pe_int)) pa_nil)))))
    (pss_cons (ps_set (i := 12) sc_law.nd rfl (Or.inl rfl) (pe_cal G_law_drawn (hr.mono (by decide)) tk (pa_cons (pv 0) (pa_cons (pe_op op_addA (pv 5) pe_int) (pa_cons pe_int pa_nil)))))
    (pss_cons (ps_set (i := 13) sc_law.nd rfl (Or.inl rfl) (pe_cal G_law_made (hr.mono (by decide)) tk (pa_cons (pv 12) (pa_cons (pv 10) (pa_cons (pv 11) (pa_cons (pv 7) pa_nil))))))
    (pss_cons (ps_expr (pe_bm PySem.F.plainAttrs_list PySem.F.slot_list_append PySem.F.type_list_append mt_append (pv 11) (pa_cons (pe_ix (ix_A hu) (pv 1) pe_int (fun _ _ => rfl)) pa_nil)))
    (pss_cons (ps_expr (pe_cal G_law_made (hr.mono (by decide)) tk (pa_cons (pe_cal G_law_drawn (hr.mono (by decide)) tk (pa_cons (pv 0) (pa_cons (pe_op op_addA (pv 5) pe_int) (pa_cons pe_int pa_nil)))) (pa_cons (pv 10) (pa_cons (pe_slice sl_A (pv 11) po_none (po_some pe_int)) (pa_cons (pv 6) pa_nil))))))
    (pss_cons (ps_asg (pe_cal G_law_gathered (hr.mono (by decide)) tk (pa_cons (pv 2) (pa_cons (pv 3) (pa_cons (pv 13) (pa_cons (pv 6) (pa_cons (pv 9) (pa_cons (pv 8) pa_nil))))))) (pg_tup rfl (pgs_cons (pg_name (i := 14) sc_law.nd rfl (Or.inl rfl)) (pgs_cons (pg_name (i := 15) sc_law.nd rfl (Or.inl rfl)) pgs_nil))))
    (pss_cons (ps_if (PW.pt (pw_or (pt_not (pt_val (pe_cal G_law_leans (hr.mono (by decide)) tk (pa_cons (pv 13) (pa_cons (pv 6) (pa_cons (pv 9) (pa_cons (pv 8) (pa_cons (pv 15) pa_nil)))))))) (pw_or1 (pt_not (pt_val (pe_cal G_law_fault (hr.mono (by decide)) tk (pa_cons (pv 2) (pa_cons (pv 13) (pa_cons (pv 14) (pa_cons (pv 15) pa_nil)))))))))) (pss_one (ps_ret pe_bl)) pss_nil)
    (pss_cons (ps_set (i := 16) sc_law.nd rfl (Or.inl rfl) (pe_cal G_law_changed (hr.mono (by decide)) tk (pa_cons (pv 0) (pa_cons (pv 2) (pa_cons (pv 15) pa_nil)))))
    (pss_cons (ps_asg (pe_cal G_law_gathered (hr.mono (by decide)) tk (pa_cons (pv 16) (pa_cons (pv 3) (pa_cons (pv 13) (pa_cons (pv 6) (pa_cons (pv 9) (pa_cons (pv 8) pa_nil))))))) (pg_tup rfl (pgs_cons (pg_name (i := 17) sc_law.nd rfl (Or.inl rfl)) (pgs_cons (pg_name (i := 18) sc_law.nd rfl (Or.inl rfl)) pgs_nil))))
    (pss_one (ps_if (PW.pt (pw_or (pt_not (pt_val (pe_cal G_law_alike (hr.mono (by decide)) tk (pa_cons (pv 17) (pa_cons (pv 14) pa_nil))))) (pw_or1 (pt_cmpR (op_neA hu) (pv 18) (pv 15) (nomark _))))) (pss_one (ps_ret pe_bl)) pss_nil))))))))))))))))))
    (pss_one (ps_ret pe_bl))))
theorem fn_law (T : Txt K mg A) {f : Addr} {fd : FuncData} {f_law_alike : Addr} (G_law_alike : Cal P w K mg base 2 "_law_alike" f_law_alike ["found", "due"] (sp_law_alike K)) {f_law_gathered : Addr} (G_law_gathered : Cal P w K mg base 6 "_law_gathered" f_law_gathered ["world", "rows", "rule", "table", "column", "place"] (sp_law_gathered K A (CloAt P w K mg base 2) Tb)) {f_law_changed : Addr} (G_law_changed : Cal P w K mg base 3 "_law_changed" f_law_changed ["script", "world", "once"] (sp_law_changed K)) {f_law_leans : Addr} (G_law_leans : Cal P w K mg base 3 "_law_leans" f_law_leans ["rule", "table", "own", "place", "once"] (sp_law_leans K A)) {f_law_fault : Addr} (G_law_fault : Cal P w K mg base 2 "_law_fault" f_law_fault ["world", "rule", "found", "once"] (sp_law_fault K A)) {f_law_drawn : Addr} (G_law_drawn : Cal P w K mg base 1 "_law_drawn" f_law_drawn ["script", "k", "size"] (sp_law_drawn K)) {f_law_made : Addr} (G_law_made : Cal P w K mg base 6 "_law_made" f_law_made ["kind", "names", "some", "other"] (sp_law_made K A Tb)) {f_law_picked : Addr} (G_law_picked : Cal P w K mg base 2 "_law_picked" f_law_picked ["script", "k", "names"] (sp_law_picked K)) {f_law_table : Addr} (G_law_table : Cal P w K mg base 2 "_law_table" f_law_table ["script", "k", "rows", "tables"] (sp_law_table K)) {f_law_world : Addr} (G_law_world : Cal P w K mg base 3 "_law_world" f_law_world ["script", "names", "tables", "faults", "k"] (sp_law_world19 K)) {f_law_names : Addr} (G_law_names : Cal P w K mg base 2 "_law_names" f_law_names ["script", "many"] (sp_law_names K)) (F : Fun K "law" "law" s_law f fd) : FnOk P w K mg base (L2.CX P w) 7 f fd ["script"] (spLawT K Tb) :=
  fnx_of F sc_law len_law (t_law K A (CloAt P w K mg base 2) Tb) (fun cdv Ar outer s H E hr => d_law T G_law_alike G_law_gathered G_law_changed G_law_leans G_law_fault G_law_drawn G_law_made G_law_picked G_law_table G_law_world G_law_names hr) (fun vs H Q E h => r_law vs H Q E h)
end
theorem all_mk {l : PySem.W.OpenLaw} {w : PySem.World} {K : PySem.W.Frag} {h : Heap} {mg : Str → Option Value} {fa : Addr} {C_ColsError C_NoName C_NoValue C_Rule C_Cells C_Above C_Group C_Lookup C_Mend : Addr} {f_is_whole f_is_name f_is_number f_is_fault f_fault f_name_told f_names_told f_each_once f_looked f_Rule_init f_Cells_init f_Cells_leans f_Cells_gather f_Above_init f_Above_leans f_Above_gather f_Group_init f_Group_leans f_Group_gather f_Lookup_init f_Lookup_leans f_Lookup_gather f_Mend_init f_Mend_leans f_Mend_gather f_law_drawn f_law_whole f_law_names f_law_value f_law_world f_law_table f_law_look f_law_gathered f_law_alike f_law_picked f_law_made f_law_changed f_law_leans f_law_fault f_law : Addr} {od_is_whole an_is_whole od_is_name an_is_name od_is_number an_is_number od_is_fault an_is_fault od_fault an_fault od_name_told an_name_told od_names_told an_names_told od_each_once an_each_once od_looked an_looked od_Rule_init an_Rule_init od_Cells_init an_Cells_init od_Cells_leans an_Cells_leans od_Cells_gather an_Cells_gather od_Above_init an_Above_init od_Above_leans an_Above_leans od_Above_gather an_Above_gather od_Group_init an_Group_init od_Group_leans an_Group_leans od_Group_gather an_Group_gather od_Lookup_init an_Lookup_init od_Lookup_leans an_Lookup_leans od_Lookup_gather an_Lookup_gather od_Mend_init an_Mend_init od_Mend_leans an_Mend_leans od_Mend_gather an_Mend_gather od_law_drawn an_law_drawn od_law_whole an_law_whole od_law_names an_law_names od_law_value an_law_value od_law_world an_law_world od_law_table an_law_table od_law_look an_law_look od_law_gathered an_law_gathered od_law_alike an_law_alike od_law_picked an_law_picked od_law_made an_law_made od_law_changed an_law_changed od_law_leans an_law_leans od_law_fault an_law_fault od_law an_law dq_law_gathered dq_law_made : Option Addr} {sl_is_whole sl_is_name sl_is_number sl_is_fault sl_fault sl_name_told sl_names_told sl_each_once sl_looked sl_Rule_init sl_Cells_init sl_Cells_leans sl_Cells_gather sl_Above_init sl_Above_leans sl_Above_gather sl_Group_init sl_Group_leans sl_Group_gather sl_Lookup_init sl_Lookup_leans sl_Lookup_gather sl_Mend_init sl_Mend_leans sl_Mend_gather sl_law_drawn sl_law_whole sl_law_names sl_law_value sl_law_world sl_law_table sl_law_look sl_law_gathered sl_law_alike sl_law_picked sl_law_made sl_law_changed sl_law_leans sl_law_fault sl_law sq_law_gathered sq_law_made : Array (Option Value)} {oc_is_whole kV_is_whole dc_is_whole pm_is_whole cd_is_whole ct_is_whole oc_is_name kV_is_name dc_is_name pm_is_name cd_is_name ct_is_name oc_is_number kV_is_number dc_is_number pm_is_number cd_is_number ct_is_number oc_is_fault kV_is_fault dc_is_fault pm_is_fault cd_is_fault ct_is_fault oc_fault kV_fault dc_fault pm_fault cd_fault ct_fault oc_name_told kV_name_told dc_name_told pm_name_told cd_name_told ct_name_told oc_names_told kV_names_told dc_names_told pm_names_told cd_names_told ct_names_told oc_each_once kV_each_once dc_each_once pm_each_once cd_each_once ct_each_once oc_looked kV_looked dc_looked pm_looked cd_looked ct_looked oc_Rule_init kV_Rule_init dc_Rule_init pm_Rule_init cd_Rule_init ct_Rule_init oc_Cells_init kV_Cells_init dc_Cells_init pm_Cells_init cd_Cells_init ct_Cells_init oc_Cells_leans kV_Cells_leans dc_Cells_leans pm_Cells_leans cd_Cells_leans ct_Cells_leans oc_Cells_gather kV_Cells_gather dc_Cells_gather pm_Cells_gather cd_Cells_gather ct_Cells_gather oc_Above_init kV_Above_init dc_Above_init pm_Above_init cd_Above_init ct_Above_init oc_Above_leans kV_Above_leans dc_Above_leans pm_Above_leans cd_Above_leans ct_Above_leans oc_Above_gather kV_Above_gather dc_Above_gather pm_Above_gather cd_Above_gather ct_Above_gather oc_Group_init kV_Group_init dc_Group_init pm_Group_init cd_Group_init ct_Group_init oc_Group_leans kV_Group_leans dc_Group_leans pm_Group_leans cd_Group_leans ct_Group_leans oc_Group_gather kV_Group_gather dc_Group_gather pm_Group_gather cd_Group_gather ct_Group_gather oc_Lookup_init kV_Lookup_init dc_Lookup_init pm_Lookup_init cd_Lookup_init ct_Lookup_init oc_Lookup_leans kV_Lookup_leans dc_Lookup_leans pm_Lookup_leans cd_Lookup_leans ct_Lookup_leans oc_Lookup_gather kV_Lookup_gather dc_Lookup_gather pm_Lookup_gather cd_Lookup_gather ct_Lookup_gather oc_Mend_init kV_Mend_init dc_Mend_init pm_Mend_init cd_Mend_init ct_Mend_init oc_Mend_leans kV_Mend_leans dc_Mend_leans pm_Mend_leans cd_Mend_leans ct_Mend_leans oc_Mend_gather kV_Mend_gather dc_Mend_gather pm_Mend_gather cd_Mend_gather ct_Mend_gather oc_law_drawn kV_law_drawn dc_law_drawn pm_law_drawn cd_law_drawn ct_law_drawn oc_law_whole kV_law_whole dc_law_whole pm_law_whole cd_law_whole ct_law_whole oc_law_names kV_law_names dc_law_names pm_law_names cd_law_names ct_law_names oc_law_value kV_law_value dc_law_value pm_law_value cd_law_value ct_law_value oc_law_world kV_law_world dc_law_world pm_law_world cd_law_world ct_law_world oc_law_table kV_law_table dc_law_table pm_law_table cd_law_table ct_law_table oc_law_look kV_law_look dc_law_look pm_law_look cd_law_look ct_law_look oc_law_gathered kV_law_gathered dc_law_gathered pm_law_gathered ct_law_gathered oc_law_alike kV_law_alike dc_law_alike pm_law_alike cd_law_alike ct_law_alike oc_law_picked kV_law_picked dc_law_picked pm_law_picked cd_law_picked ct_law_picked oc_law_made kV_law_made dc_law_made pm_law_made ct_law_made oc_law_changed kV_law_changed dc_law_changed pm_law_changed cd_law_changed ct_law_changed oc_law_leans kV_law_leans dc_law_leans pm_law_leans cd_law_leans ct_law_leans oc_law_fault kV_law_fault dc_law_fault pm_law_fault cd_law_fault ct_law_fault oc_law kV_law dc_law pm_law cd_law ct_law oq_law_gathered oq_law_made : Value} {vq_law_gathered vq_law_made : Array Value} {ca_law_gathered tp_law_gathered ca_law_made tp_law_made : Addr} {tk_LETTERS tk_MOST_NAMES : Tok} (X : K.In h) (G : h.Ns mainGlobals mg) (hfa : mg "law" = some (.ref fa))
    (a_ColsError : PySem.W.nsIn K mainGlobals "ColsError" = some (some (.ref C_ColsError)))
    (a_NoName : PySem.W.nsIn K mainGlobals "NoName" = some (some (.ref C_NoName)))
    (a_NoValue : PySem.W.nsIn K mainGlobals "NoValue" = some (some (.ref C_NoValue)))
    (a_Rule : PySem.W.nsIn K mainGlobals "Rule" = some (some (.ref C_Rule)))
    (a_Cells : PySem.W.nsIn K mainGlobals "Cells" = some (some (.ref C_Cells)))
    (a_Above : PySem.W.nsIn K mainGlobals "Above" = some (some (.ref C_Above)))
    (a_Group : PySem.W.nsIn K mainGlobals "Group" = some (some (.ref C_Group)))
    (a_Lookup : PySem.W.nsIn K mainGlobals "Lookup" = some (some (.ref C_Lookup)))
    (a_Mend : PySem.W.nsIn K mainGlobals "Mend" = some (some (.ref C_Mend)))
    (a_is_whole : PySem.W.nsIn K mainGlobals "is_whole" = some (some (.ref f_is_whole)))
    (l_is_whole : K.lookup f_is_whole = some ⟨oc_is_whole, od_is_whole, .func (PySem.W.fnOf "is_whole" "is_whole" (defArgs s_is_whole) (defBody s_is_whole) (defScope s_is_whole) .none kV_is_whole dc_is_whole pm_is_whole an_is_whole cd_is_whole ct_is_whole), sl_is_whole⟩)
    (c_is_whole : PySem.W.codeIn K cd_is_whole "is_whole" = true)
    (k_is_whole : PySem.W.keepIn K (.ref f_is_whole) = true)
    (a_is_name : PySem.W.nsIn K mainGlobals "is_name" = some (some (.ref f_is_name)))
    (l_is_name : K.lookup f_is_name = some ⟨oc_is_name, od_is_name, .func (PySem.W.fnOf "is_name" "is_name" (defArgs s_is_name) (defBody s_is_name) (defScope s_is_name) .none kV_is_name dc_is_name pm_is_name an_is_name cd_is_name ct_is_name), sl_is_name⟩)
    (c_is_name : PySem.W.codeIn K cd_is_name "is_name" = true)
    (k_is_name : PySem.W.keepIn K (.ref f_is_name) = true)
    (a_is_number : PySem.W.nsIn K mainGlobals "is_number" = some (some (.ref f_is_number)))
    (l_is_number : K.lookup f_is_number = some ⟨oc_is_number, od_is_number, .func (PySem.W.fnOf "is_number" "is_number" (defArgs s_is_number) (defBody s_is_number) (defScope s_is_number) .none kV_is_number dc_is_number pm_is_number an_is_number cd_is_number ct_is_number), sl_is_number⟩)
    (c_is_number : PySem.W.codeIn K cd_is_number "is_number" = true)
    (k_is_number : PySem.W.keepIn K (.ref f_is_number) = true)
    (a_is_fault : PySem.W.nsIn K mainGlobals "is_fault" = some (some (.ref f_is_fault)))
    (l_is_fault : K.lookup f_is_fault = some ⟨oc_is_fault, od_is_fault, .func (PySem.W.fnOf "is_fault" "is_fault" (defArgs s_is_fault) (defBody s_is_fault) (defScope s_is_fault) .none kV_is_fault dc_is_fault pm_is_fault an_is_fault cd_is_fault ct_is_fault), sl_is_fault⟩)
    (c_is_fault : PySem.W.codeIn K cd_is_fault "is_fault" = true)
    (k_is_fault : PySem.W.keepIn K (.ref f_is_fault) = true)
    (a_fault : PySem.W.nsIn K mainGlobals "fault" = some (some (.ref f_fault)))
    (l_fault : K.lookup f_fault = some ⟨oc_fault, od_fault, .func (PySem.W.fnOf "fault" "fault" (defArgs s_fault) (defBody s_fault) (defScope s_fault) .none kV_fault dc_fault pm_fault an_fault cd_fault ct_fault), sl_fault⟩)
    (c_fault : PySem.W.codeIn K cd_fault "fault" = true)
    (k_fault : PySem.W.keepIn K (.ref f_fault) = true)
    (a_name_told : PySem.W.nsIn K mainGlobals "name_told" = some (some (.ref f_name_told)))
    (l_name_told : K.lookup f_name_told = some ⟨oc_name_told, od_name_told, .func (PySem.W.fnOf "name_told" "name_told" (defArgs s_name_told) (defBody s_name_told) (defScope s_name_told) .none kV_name_told dc_name_told pm_name_told an_name_told cd_name_told ct_name_told), sl_name_told⟩)
    (c_name_told : PySem.W.codeIn K cd_name_told "name_told" = true)
    (k_name_told : PySem.W.keepIn K (.ref f_name_told) = true)
    (a_names_told : PySem.W.nsIn K mainGlobals "names_told" = some (some (.ref f_names_told)))
    (l_names_told : K.lookup f_names_told = some ⟨oc_names_told, od_names_told, .func (PySem.W.fnOf "names_told" "names_told" (defArgs s_names_told) (defBody s_names_told) (defScope s_names_told) .none kV_names_told dc_names_told pm_names_told an_names_told cd_names_told ct_names_told), sl_names_told⟩)
    (c_names_told : PySem.W.codeIn K cd_names_told "names_told" = true)
    (k_names_told : PySem.W.keepIn K (.ref f_names_told) = true)
    (a_each_once : PySem.W.nsIn K mainGlobals "each_once" = some (some (.ref f_each_once)))
    (l_each_once : K.lookup f_each_once = some ⟨oc_each_once, od_each_once, .func (PySem.W.fnOf "each_once" "each_once" (defArgs s_each_once) (defBody s_each_once) (defScope s_each_once) .none kV_each_once dc_each_once pm_each_once an_each_once cd_each_once ct_each_once), sl_each_once⟩)
    (c_each_once : PySem.W.codeIn K cd_each_once "each_once" = true)
    (k_each_once : PySem.W.keepIn K (.ref f_each_once) = true)
    (a_looked : PySem.W.nsIn K mainGlobals "looked" = some (some (.ref f_looked)))
    (l_looked : K.lookup f_looked = some ⟨oc_looked, od_looked, .func (PySem.W.fnOf "looked" "looked" (defArgs s_looked) (defBody s_looked) (defScope s_looked) .none kV_looked dc_looked pm_looked an_looked cd_looked ct_looked), sl_looked⟩)
    (c_looked : PySem.W.codeIn K cd_looked "looked" = true)
    (k_looked : PySem.W.keepIn K (.ref f_looked) = true)
    (a_Rule_init : PySem.W.findIn K (.ref C_Rule) "__init__" = some (some (.ref f_Rule_init)))
    (i_Rule_init : PySem.W.isFn K (.ref f_Rule_init) = true)
    (zr_Rule_init : PySem.W.readsIn K C_Rule (.type "type") = true)
    (zf_Rule_init : PySem.W.findCls K (.ref C_Rule) (.type "type") "__init__" = some (.val (.ref f_Rule_init)))
    (zg_Rule_init : PySem.W.specialIn K (.ref C_Rule) "__getattribute__" = some (some (.builtin "type.__getattribute__")))
    (l_Rule_init : K.lookup f_Rule_init = some ⟨oc_Rule_init, od_Rule_init, .func (PySem.W.fnOf "__init__" "Rule.__init__" (defArgs s_Rule_init) (defBody s_Rule_init) (defScope s_Rule_init) .none kV_Rule_init dc_Rule_init pm_Rule_init an_Rule_init cd_Rule_init ct_Rule_init), sl_Rule_init⟩)
    (c_Rule_init : PySem.W.codeIn K cd_Rule_init "Rule.__init__" = true)
    (k_Rule_init : PySem.W.keepIn K (.ref f_Rule_init) = true)
    (a_Cells_init : PySem.W.findIn K (.ref C_Cells) "__init__" = some (some (.ref f_Cells_init)))
    (i_Cells_init : PySem.W.isFn K (.ref f_Cells_init) = true)
    (mkk_Cells : PySem.W.makesIn K C_Cells = true)
    (kc_Cells : PySem.W.keepIn K (.ref C_Cells) = true)
    (l_Cells_init : K.lookup f_Cells_init = some ⟨oc_Cells_init, od_Cells_init, .func (PySem.W.fnOf "__init__" "Cells.__init__" (defArgs s_Cells_init) (defBody s_Cells_init) (defScope s_Cells_init) .none kV_Cells_init dc_Cells_init pm_Cells_init an_Cells_init cd_Cells_init ct_Cells_init), sl_Cells_init⟩)
    (c_Cells_init : PySem.W.codeIn K cd_Cells_init "Cells.__init__" = true)
    (k_Cells_init : PySem.W.keepIn K (.ref f_Cells_init) = true)
    (a_Cells_leans : PySem.W.findIn K (.ref C_Cells) "leans" = some (some (.ref f_Cells_leans)))
    (i_Cells_leans : PySem.W.isFn K (.ref f_Cells_leans) = true)
    (l_Cells_leans : K.lookup f_Cells_leans = some ⟨oc_Cells_leans, od_Cells_leans, .func (PySem.W.fnOf "leans" "Cells.leans" (defArgs s_Cells_leans) (defBody s_Cells_leans) (defScope s_Cells_leans) .none kV_Cells_leans dc_Cells_leans pm_Cells_leans an_Cells_leans cd_Cells_leans ct_Cells_leans), sl_Cells_leans⟩)
    (c_Cells_leans : PySem.W.codeIn K cd_Cells_leans "Cells.leans" = true)
    (k_Cells_leans : PySem.W.keepIn K (.ref f_Cells_leans) = true)
    (a_Cells_gather : PySem.W.findIn K (.ref C_Cells) "gather" = some (some (.ref f_Cells_gather)))
    (i_Cells_gather : PySem.W.isFn K (.ref f_Cells_gather) = true)
    (l_Cells_gather : K.lookup f_Cells_gather = some ⟨oc_Cells_gather, od_Cells_gather, .func (PySem.W.fnOf "gather" "Cells.gather" (defArgs s_Cells_gather) (defBody s_Cells_gather) (defScope s_Cells_gather) .none kV_Cells_gather dc_Cells_gather pm_Cells_gather an_Cells_gather cd_Cells_gather ct_Cells_gather), sl_Cells_gather⟩)
    (c_Cells_gather : PySem.W.codeIn K cd_Cells_gather "Cells.gather" = true)
    (k_Cells_gather : PySem.W.keepIn K (.ref f_Cells_gather) = true)
    (a_Above_init : PySem.W.findIn K (.ref C_Above) "__init__" = some (some (.ref f_Above_init)))
    (i_Above_init : PySem.W.isFn K (.ref f_Above_init) = true)
    (mkk_Above : PySem.W.makesIn K C_Above = true)
    (kc_Above : PySem.W.keepIn K (.ref C_Above) = true)
    (l_Above_init : K.lookup f_Above_init = some ⟨oc_Above_init, od_Above_init, .func (PySem.W.fnOf "__init__" "Above.__init__" (defArgs s_Above_init) (defBody s_Above_init) (defScope s_Above_init) .none kV_Above_init dc_Above_init pm_Above_init an_Above_init cd_Above_init ct_Above_init), sl_Above_init⟩)
    (c_Above_init : PySem.W.codeIn K cd_Above_init "Above.__init__" = true)
    (k_Above_init : PySem.W.keepIn K (.ref f_Above_init) = true)
    (a_Above_leans : PySem.W.findIn K (.ref C_Above) "leans" = some (some (.ref f_Above_leans)))
    (i_Above_leans : PySem.W.isFn K (.ref f_Above_leans) = true)
    (l_Above_leans : K.lookup f_Above_leans = some ⟨oc_Above_leans, od_Above_leans, .func (PySem.W.fnOf "leans" "Above.leans" (defArgs s_Above_leans) (defBody s_Above_leans) (defScope s_Above_leans) .none kV_Above_leans dc_Above_leans pm_Above_leans an_Above_leans cd_Above_leans ct_Above_leans), sl_Above_leans⟩)
    (c_Above_leans : PySem.W.codeIn K cd_Above_leans "Above.leans" = true)
    (k_Above_leans : PySem.W.keepIn K (.ref f_Above_leans) = true)
    (a_Above_gather : PySem.W.findIn K (.ref C_Above) "gather" = some (some (.ref f_Above_gather)))
    (i_Above_gather : PySem.W.isFn K (.ref f_Above_gather) = true)
    (l_Above_gather : K.lookup f_Above_gather = some ⟨oc_Above_gather, od_Above_gather, .func (PySem.W.fnOf "gather" "Above.gather" (defArgs s_Above_gather) (defBody s_Above_gather) (defScope s_Above_gather) .none kV_Above_gather dc_Above_gather pm_Above_gather an_Above_gather cd_Above_gather ct_Above_gather), sl_Above_gather⟩)
    (c_Above_gather : PySem.W.codeIn K cd_Above_gather "Above.gather" = true)
    (k_Above_gather : PySem.W.keepIn K (.ref f_Above_gather) = true)
    (a_Group_init : PySem.W.findIn K (.ref C_Group) "__init__" = some (some (.ref f_Group_init)))
    (i_Group_init : PySem.W.isFn K (.ref f_Group_init) = true)
    (mkk_Group : PySem.W.makesIn K C_Group = true)
    (kc_Group : PySem.W.keepIn K (.ref C_Group) = true)
    (l_Group_init : K.lookup f_Group_init = some ⟨oc_Group_init, od_Group_init, .func (PySem.W.fnOf "__init__" "Group.__init__" (defArgs s_Group_init) (defBody s_Group_init) (defScope s_Group_init) .none kV_Group_init dc_Group_init pm_Group_init an_Group_init cd_Group_init ct_Group_init), sl_Group_init⟩)
    (c_Group_init : PySem.W.codeIn K cd_Group_init "Group.__init__" = true)
    (k_Group_init : PySem.W.keepIn K (.ref f_Group_init) = true)
    (a_Group_leans : PySem.W.findIn K (.ref C_Group) "leans" = some (some (.ref f_Group_leans)))
    (i_Group_leans : PySem.W.isFn K (.ref f_Group_leans) = true)
    (l_Group_leans : K.lookup f_Group_leans = some ⟨oc_Group_leans, od_Group_leans, .func (PySem.W.fnOf "leans" "Group.leans" (defArgs s_Group_leans) (defBody s_Group_leans) (defScope s_Group_leans) .none kV_Group_leans dc_Group_leans pm_Group_leans an_Group_leans cd_Group_leans ct_Group_leans), sl_Group_leans⟩)
    (c_Group_leans : PySem.W.codeIn K cd_Group_leans "Group.leans" = true)
    (k_Group_leans : PySem.W.keepIn K (.ref f_Group_leans) = true)
    (a_Group_gather : PySem.W.findIn K (.ref C_Group) "gather" = some (some (.ref f_Group_gather)))
    (i_Group_gather : PySem.W.isFn K (.ref f_Group_gather) = true)
    (l_Group_gather : K.lookup f_Group_gather = some ⟨oc_Group_gather, od_Group_gather, .func (PySem.W.fnOf "gather" "Group.gather" (defArgs s_Group_gather) (defBody s_Group_gather) (defScope s_Group_gather) .none kV_Group_gather dc_Group_gather pm_Group_gather an_Group_gather cd_Group_gather ct_Group_gather), sl_Group_gather⟩)
    (c_Group_gather : PySem.W.codeIn K cd_Group_gather "Group.gather" = true)
    (k_Group_gather : PySem.W.keepIn K (.ref f_Group_gather) = true)
    (a_Lookup_init : PySem.W.findIn K (.ref C_Lookup) "__init__" = some (some (.ref f_Lookup_init)))
    (i_Lookup_init : PySem.W.isFn K (.ref f_Lookup_init) = true)
    (mkk_Lookup : PySem.W.makesIn K C_Lookup = true)
    (kc_Lookup : PySem.W.keepIn K (.ref C_Lookup) = true)
    (l_Lookup_init : K.lookup f_Lookup_init = some ⟨oc_Lookup_init, od_Lookup_init, .func (PySem.W.fnOf "__init__" "Lookup.__init__" (defArgs s_Lookup_init) (defBody s_Lookup_init) (defScope s_Lookup_init) .none kV_Lookup_init dc_Lookup_init pm_Lookup_init an_Lookup_init cd_Lookup_init ct_Lookup_init), sl_Lookup_init⟩)
    (c_Lookup_init : PySem.W.codeIn K cd_Lookup_init "Lookup.__init__" = true)
    (k_Lookup_init : PySem.W.keepIn K (.ref f_Lookup_init) = true)
    (a_Lookup_leans : PySem.W.findIn K (.ref C_Lookup) "leans" = some (some (.ref f_Lookup_leans)))
    (i_Lookup_leans : PySem.W.isFn K (.ref f_Lookup_leans) = true)
    (l_Lookup_leans : K.lookup f_Lookup_leans = some ⟨oc_Lookup_leans, od_Lookup_leans, .func (PySem.W.fnOf "leans" "Lookup.leans" (defArgs s_Lookup_leans) (defBody s_Lookup_leans) (defScope s_Lookup_leans) .none kV_Lookup_leans dc_Lookup_leans pm_Lookup_leans an_Lookup_leans cd_Lookup_leans ct_Lookup_leans), sl_Lookup_leans⟩)
    (c_Lookup_leans : PySem.W.codeIn K cd_Lookup_leans "Lookup.leans" = true)
    (k_Lookup_leans : PySem.W.keepIn K (.ref f_Lookup_leans) = true)
    (a_Lookup_gather : PySem.W.findIn K (.ref C_Lookup) "gather" = some (some (.ref f_Lookup_gather)))
    (i_Lookup_gather : PySem.W.isFn K (.ref f_Lookup_gather) = true)
    (l_Lookup_gather : K.lookup f_Lookup_gather = some ⟨oc_Lookup_gather, od_Lookup_gather, .func (PySem.W.fnOf "gather" "Lookup.gather" (defArgs s_Lookup_gather) (defBody s_Lookup_gather) (defScope s_Lookup_gather) .none kV_Lookup_gather dc_Lookup_gather pm_Lookup_gather an_Lookup_gather cd_Lookup_gather ct_Lookup_gather), sl_Lookup_gather⟩)
    (c_Lookup_gather : PySem.W.codeIn K cd_Lookup_gather "Lookup.gather" = true)
    (k_Lookup_gather : PySem.W.keepIn K (.ref f_Lookup_gather) = true)
    (a_Mend_init : PySem.W.findIn K (.ref C_Mend) "__init__" = some (some (.ref f_Mend_init)))
    (i_Mend_init : PySem.W.isFn K (.ref f_Mend_init) = true)
    (mkk_Mend : PySem.W.makesIn K C_Mend = true)
    (kc_Mend : PySem.W.keepIn K (.ref C_Mend) = true)
    (l_Mend_init : K.lookup f_Mend_init = some ⟨oc_Mend_init, od_Mend_init, .func (PySem.W.fnOf "__init__" "Mend.__init__" (defArgs s_Mend_init) (defBody s_Mend_init) (defScope s_Mend_init) .none kV_Mend_init dc_Mend_init pm_Mend_init an_Mend_init cd_Mend_init ct_Mend_init), sl_Mend_init⟩)
    (c_Mend_init : PySem.W.codeIn K cd_Mend_init "Mend.__init__" = true)
    (k_Mend_init : PySem.W.keepIn K (.ref f_Mend_init) = true)
    (a_Mend_leans : PySem.W.findIn K (.ref C_Mend) "leans" = some (some (.ref f_Mend_leans)))
    (i_Mend_leans : PySem.W.isFn K (.ref f_Mend_leans) = true)
    (l_Mend_leans : K.lookup f_Mend_leans = some ⟨oc_Mend_leans, od_Mend_leans, .func (PySem.W.fnOf "leans" "Mend.leans" (defArgs s_Mend_leans) (defBody s_Mend_leans) (defScope s_Mend_leans) .none kV_Mend_leans dc_Mend_leans pm_Mend_leans an_Mend_leans cd_Mend_leans ct_Mend_leans), sl_Mend_leans⟩)
    (c_Mend_leans : PySem.W.codeIn K cd_Mend_leans "Mend.leans" = true)
    (k_Mend_leans : PySem.W.keepIn K (.ref f_Mend_leans) = true)
    (a_Mend_gather : PySem.W.findIn K (.ref C_Mend) "gather" = some (some (.ref f_Mend_gather)))
    (i_Mend_gather : PySem.W.isFn K (.ref f_Mend_gather) = true)
    (l_Mend_gather : K.lookup f_Mend_gather = some ⟨oc_Mend_gather, od_Mend_gather, .func (PySem.W.fnOf "gather" "Mend.gather" (defArgs s_Mend_gather) (defBody s_Mend_gather) (defScope s_Mend_gather) .none kV_Mend_gather dc_Mend_gather pm_Mend_gather an_Mend_gather cd_Mend_gather ct_Mend_gather), sl_Mend_gather⟩)
    (c_Mend_gather : PySem.W.codeIn K cd_Mend_gather "Mend.gather" = true)
    (k_Mend_gather : PySem.W.keepIn K (.ref f_Mend_gather) = true)
    (a_law_drawn : PySem.W.nsIn K mainGlobals "_law_drawn" = some (some (.ref f_law_drawn)))
    (l_law_drawn : K.lookup f_law_drawn = some ⟨oc_law_drawn, od_law_drawn, .func (PySem.W.fnOf "_law_drawn" "_law_drawn" (defArgs s_law_drawn) (defBody s_law_drawn) (defScope s_law_drawn) .none kV_law_drawn dc_law_drawn pm_law_drawn an_law_drawn cd_law_drawn ct_law_drawn), sl_law_drawn⟩)
    (c_law_drawn : PySem.W.codeIn K cd_law_drawn "_law_drawn" = true)
    (k_law_drawn : PySem.W.keepIn K (.ref f_law_drawn) = true)
    (a_law_whole : PySem.W.nsIn K mainGlobals "_law_whole" = some (some (.ref f_law_whole)))
    (l_law_whole : K.lookup f_law_whole = some ⟨oc_law_whole, od_law_whole, .func (PySem.W.fnOf "_law_whole" "_law_whole" (defArgs s_law_whole) (defBody s_law_whole) (defScope s_law_whole) .none kV_law_whole dc_law_whole pm_law_whole an_law_whole cd_law_whole ct_law_whole), sl_law_whole⟩)
    (c_law_whole : PySem.W.codeIn K cd_law_whole "_law_whole" = true)
    (k_law_whole : PySem.W.keepIn K (.ref f_law_whole) = true)
    (a_law_names : PySem.W.nsIn K mainGlobals "_law_names" = some (some (.ref f_law_names)))
    (l_law_names : K.lookup f_law_names = some ⟨oc_law_names, od_law_names, .func (PySem.W.fnOf "_law_names" "_law_names" (defArgs s_law_names) (defBody s_law_names) (defScope s_law_names) .none kV_law_names dc_law_names pm_law_names an_law_names cd_law_names ct_law_names), sl_law_names⟩)
    (c_law_names : PySem.W.codeIn K cd_law_names "_law_names" = true)
    (k_law_names : PySem.W.keepIn K (.ref f_law_names) = true)
    (a_law_value : PySem.W.nsIn K mainGlobals "_law_value" = some (some (.ref f_law_value)))
    (l_law_value : K.lookup f_law_value = some ⟨oc_law_value, od_law_value, .func (PySem.W.fnOf "_law_value" "_law_value" (defArgs s_law_value) (defBody s_law_value) (defScope s_law_value) .none kV_law_value dc_law_value pm_law_value an_law_value cd_law_value ct_law_value), sl_law_value⟩)
    (c_law_value : PySem.W.codeIn K cd_law_value "_law_value" = true)
    (k_law_value : PySem.W.keepIn K (.ref f_law_value) = true)
    (a_law_world : PySem.W.nsIn K mainGlobals "_law_world" = some (some (.ref f_law_world)))
    (l_law_world : K.lookup f_law_world = some ⟨oc_law_world, od_law_world, .func (PySem.W.fnOf "_law_world" "_law_world" (defArgs s_law_world) (defBody s_law_world) (defScope s_law_world) .none kV_law_world dc_law_world pm_law_world an_law_world cd_law_world ct_law_world), sl_law_world⟩)
    (c_law_world : PySem.W.codeIn K cd_law_world "_law_world" = true)
    (k_law_world : PySem.W.keepIn K (.ref f_law_world) = true)
    (a_law_table : PySem.W.nsIn K mainGlobals "_law_table" = some (some (.ref f_law_table)))
    (l_law_table : K.lookup f_law_table = some ⟨oc_law_table, od_law_table, .func (PySem.W.fnOf "_law_table" "_law_table" (defArgs s_law_table) (defBody s_law_table) (defScope s_law_table) .none kV_law_table dc_law_table pm_law_table an_law_table cd_law_table ct_law_table), sl_law_table⟩)
    (c_law_table : PySem.W.codeIn K cd_law_table "_law_table" = true)
    (k_law_table : PySem.W.keepIn K (.ref f_law_table) = true)
    (a_law_look : PySem.W.nsIn K mainGlobals "_law_look" = some (some (.ref f_law_look)))
    (l_law_look : K.lookup f_law_look = some ⟨oc_law_look, od_law_look, .func (PySem.W.fnOf "_law_look" "_law_look" (defArgs s_law_look) (defBody s_law_look) (defScope s_law_look) .none kV_law_look dc_law_look pm_law_look an_law_look cd_law_look ct_law_look), sl_law_look⟩)
    (c_law_look : PySem.W.codeIn K cd_law_look "_law_look" = true)
    (k_law_look : PySem.W.keepIn K (.ref f_law_look) = true)
    (a_law_gathered : PySem.W.nsIn K mainGlobals "_law_gathered" = some (some (.ref f_law_gathered)))
    (l_law_gathered : K.lookup f_law_gathered = some ⟨oc_law_gathered, od_law_gathered, .func (PySem.W.fnOf "_law_gathered" "_law_gathered" (defArgs s_law_gathered) (defBody s_law_gathered) (defScope s_law_gathered) .none kV_law_gathered dc_law_gathered pm_law_gathered an_law_gathered (.ref ca_law_gathered) ct_law_gathered), sl_law_gathered⟩)
    (c_law_gathered : PySem.W.codeIn K (.ref ca_law_gathered) "_law_gathered" = true)
    (k_law_gathered : PySem.W.keepIn K (.ref f_law_gathered) = true)
    (lc_law_gathered : K.lookup ca_law_gathered = some ⟨oq_law_gathered, dq_law_gathered, .fields vq_law_gathered, sq_law_gathered⟩)
    (tq_law_gathered : (vq_law_gathered[11]? : Option Value) = some (.ref tp_law_gathered))
    (hd_law_gathered : PySem.W.codeHdIn K ca_law_gathered tp_law_gathered = true)
    (nl_law_gathered : K.lookup tp_law_gathered = none)
    (tab_law_gathered : h.get? tp_law_gathered = some (PySem.W.tabObj #[]))
    (a_law_alike : PySem.W.nsIn K mainGlobals "_law_alike" = some (some (.ref f_law_alike)))
    (l_law_alike : K.lookup f_law_alike = some ⟨oc_law_alike, od_law_alike, .func (PySem.W.fnOf "_law_alike" "_law_alike" (defArgs s_law_alike) (defBody s_law_alike) (defScope s_law_alike) .none kV_law_alike dc_law_alike pm_law_alike an_law_alike cd_law_alike ct_law_alike), sl_law_alike⟩)
    (c_law_alike : PySem.W.codeIn K cd_law_alike "_law_alike" = true)
    (k_law_alike : PySem.W.keepIn K (.ref f_law_alike) = true)
    (a_law_picked : PySem.W.nsIn K mainGlobals "_law_picked" = some (some (.ref f_law_picked)))
    (l_law_picked : K.lookup f_law_picked = some ⟨oc_law_picked, od_law_picked, .func (PySem.W.fnOf "_law_picked" "_law_picked" (defArgs s_law_picked) (defBody s_law_picked) (defScope s_law_picked) .none kV_law_picked dc_law_picked pm_law_picked an_law_picked cd_law_picked ct_law_picked), sl_law_picked⟩)
    (c_law_picked : PySem.W.codeIn K cd_law_picked "_law_picked" = true)
    (k_law_picked : PySem.W.keepIn K (.ref f_law_picked) = true)
    (a_law_made : PySem.W.nsIn K mainGlobals "_law_made" = some (some (.ref f_law_made)))
    (l_law_made : K.lookup f_law_made = some ⟨oc_law_made, od_law_made, .func (PySem.W.fnOf "_law_made" "_law_made" (defArgs s_law_made) (defBody s_law_made) (defScope s_law_made) .none kV_law_made dc_law_made pm_law_made an_law_made (.ref ca_law_made) ct_law_made), sl_law_made⟩)
    (c_law_made : PySem.W.codeIn K (.ref ca_law_made) "_law_made" = true)
    (k_law_made : PySem.W.keepIn K (.ref f_law_made) = true)
    (lc_law_made : K.lookup ca_law_made = some ⟨oq_law_made, dq_law_made, .fields vq_law_made, sq_law_made⟩)
    (tq_law_made : (vq_law_made[11]? : Option Value) = some (.ref tp_law_made))
    (hd_law_made : PySem.W.codeHdIn K ca_law_made tp_law_made = true)
    (nl_law_made : K.lookup tp_law_made = none)
    (tab_law_made : h.get? tp_law_made = some (PySem.W.tabObj #[]))
    (a_law_changed : PySem.W.nsIn K mainGlobals "_law_changed" = some (some (.ref f_law_changed)))
    (l_law_changed : K.lookup f_law_changed = some ⟨oc_law_changed, od_law_changed, .func (PySem.W.fnOf "_law_changed" "_law_changed" (defArgs s_law_changed) (defBody s_law_changed) (defScope s_law_changed) .none kV_law_changed dc_law_changed pm_law_changed an_law_changed cd_law_changed ct_law_changed), sl_law_changed⟩)
    (c_law_changed : PySem.W.codeIn K cd_law_changed "_law_changed" = true)
    (k_law_changed : PySem.W.keepIn K (.ref f_law_changed) = true)
    (a_law_leans : PySem.W.nsIn K mainGlobals "_law_leans" = some (some (.ref f_law_leans)))
    (l_law_leans : K.lookup f_law_leans = some ⟨oc_law_leans, od_law_leans, .func (PySem.W.fnOf "_law_leans" "_law_leans" (defArgs s_law_leans) (defBody s_law_leans) (defScope s_law_leans) .none kV_law_leans dc_law_leans pm_law_leans an_law_leans cd_law_leans ct_law_leans), sl_law_leans⟩)
    (c_law_leans : PySem.W.codeIn K cd_law_leans "_law_leans" = true)
    (k_law_leans : PySem.W.keepIn K (.ref f_law_leans) = true)
    (a_law_fault : PySem.W.nsIn K mainGlobals "_law_fault" = some (some (.ref f_law_fault)))
    (l_law_fault : K.lookup f_law_fault = some ⟨oc_law_fault, od_law_fault, .func (PySem.W.fnOf "_law_fault" "_law_fault" (defArgs s_law_fault) (defBody s_law_fault) (defScope s_law_fault) .none kV_law_fault dc_law_fault pm_law_fault an_law_fault cd_law_fault ct_law_fault), sl_law_fault⟩)
    (c_law_fault : PySem.W.codeIn K cd_law_fault "_law_fault" = true)
    (k_law_fault : PySem.W.keepIn K (.ref f_law_fault) = true)
    (a_law : PySem.W.nsIn K mainGlobals "law" = some (some (.ref f_law)))
    (l_law : K.lookup f_law = some ⟨oc_law, od_law, .func (PySem.W.fnOf "law" "law" (defArgs s_law) (defBody s_law) (defScope s_law) .none kV_law dc_law pm_law an_law cd_law ct_law), sl_law⟩)
    (c_law : PySem.W.codeIn K cd_law "law" = true)
    (k_law : PySem.W.keepIn K (.ref f_law) = true)
    (nd_tabs : ([tp_law_gathered, tp_law_made] : List Addr).Nodup)
    (n_abs : PySem.W.nsIn K mainGlobals "abs" = some none)
    (n_all : PySem.W.nsIn K mainGlobals "all" = some none)
    (n_bool : PySem.W.nsIn K mainGlobals "bool" = some none)
    (n_int : PySem.W.nsIn K mainGlobals "int" = some none)
    (n_isinstance : PySem.W.nsIn K mainGlobals "isinstance" = some none)
    (n_len : PySem.W.nsIn K mainGlobals "len" = some none)
    (n_list : PySem.W.nsIn K mainGlobals "list" = some none)
    (n_max : PySem.W.nsIn K mainGlobals "max" = some none)
    (n_range : PySem.W.nsIn K mainGlobals "range" = some none)
    (n_str : PySem.W.nsIn K mainGlobals "str" = some none)
    (n_tuple : PySem.W.nsIn K mainGlobals "tuple" = some none)
    (g_LETTERS : PySem.W.nsIn K mainGlobals "LETTERS" = some (some (.str "abcdefghijklmnopqrstuvwxyz" tk_LETTERS)))
    (g_MOST_NAMES : PySem.W.nsIn K mainGlobals "MOST_NAMES" = some (some (.int 6 tk_MOST_NAMES)))
    (pg_Cells : PySem.W.plainGet K C_Cells Str.empty = true)
    (hd_Cells : PySem.W.hasDictIn K C_Cells = true)
    (po_Cells : PySem.W.plainOver K C_Cells = true)
    (sa_Cells : PySem.W.findIn K (.ref C_Cells) "__setattr__" = some (some (.builtin "object.__setattr__")))
    (na_Cells_names : PySem.W.findIn K (.ref C_Cells) "names" = some none)
    (na_Cells_function : PySem.W.findIn K (.ref C_Cells) "function" = some none)
    (pg_Above : PySem.W.plainGet K C_Above Str.empty = true)
    (hd_Above : PySem.W.hasDictIn K C_Above = true)
    (po_Above : PySem.W.plainOver K C_Above = true)
    (sa_Above : PySem.W.findIn K (.ref C_Above) "__setattr__" = some (some (.builtin "object.__setattr__")))
    (na_Above_first : PySem.W.findIn K (.ref C_Above) "first" = some none)
    (na_Above_names : PySem.W.findIn K (.ref C_Above) "names" = some none)
    (na_Above_function : PySem.W.findIn K (.ref C_Above) "function" = some none)
    (pg_Group : PySem.W.plainGet K C_Group Str.empty = true)
    (hd_Group : PySem.W.hasDictIn K C_Group = true)
    (po_Group : PySem.W.plainOver K C_Group = true)
    (sa_Group : PySem.W.findIn K (.ref C_Group) "__setattr__" = some (some (.builtin "object.__setattr__")))
    (na_Group_name : PySem.W.findIn K (.ref C_Group) "name" = some none)
    (na_Group_key : PySem.W.findIn K (.ref C_Group) "key" = some none)
    (na_Group_function : PySem.W.findIn K (.ref C_Group) "function" = some none)
    (pg_Lookup : PySem.W.plainGet K C_Lookup Str.empty = true)
    (hd_Lookup : PySem.W.hasDictIn K C_Lookup = true)
    (po_Lookup : PySem.W.plainOver K C_Lookup = true)
    (sa_Lookup : PySem.W.findIn K (.ref C_Lookup) "__setattr__" = some (some (.builtin "object.__setattr__")))
    (na_Lookup_names : PySem.W.findIn K (.ref C_Lookup) "names" = some none)
    (na_Lookup_theirs : PySem.W.findIn K (.ref C_Lookup) "theirs" = some none)
    (na_Lookup_other : PySem.W.findIn K (.ref C_Lookup) "other" = some none)
    (na_Lookup_key : PySem.W.findIn K (.ref C_Lookup) "key" = some none)
    (na_Lookup_function : PySem.W.findIn K (.ref C_Lookup) "function" = some none)
    (pg_Mend : PySem.W.plainGet K C_Mend Str.empty = true)
    (hd_Mend : PySem.W.hasDictIn K C_Mend = true)
    (po_Mend : PySem.W.plainOver K C_Mend = true)
    (sa_Mend : PySem.W.findIn K (.ref C_Mend) "__setattr__" = some (some (.builtin "object.__setattr__")))
    (na_Mend_name : PySem.W.findIn K (.ref C_Mend) "name" = some none)
    (na_Mend_function : PySem.W.findIn K (.ref C_Mend) "function" = some none)
    (pg_Rule : PySem.W.plainGet K C_Rule Str.empty = true)
    (hd_Rule : PySem.W.hasDictIn K C_Rule = true)
    (po_Rule : PySem.W.plainOver K C_Rule = true)
    (sa_Rule : PySem.W.findIn K (.ref C_Rule) "__setattr__" = some (some (.builtin "object.__setattr__")))
    (na_Rule_function : PySem.W.findIn K (.ref C_Rule) "function" = some none)
    (ica_Cells : PySem.W.findIn K (.ref C_Cells) "__class__" = some (some (.builtin "object.__class__")))
    (icn : PySem.W.specialIn K (.builtin "object.__class__") "__get__" = some (some (.builtin "getset_descriptor.__get__")))
    (ict : PySem.W.takesIn K (.builtin "object.__class__") = some true)
    (icm_Cells : PySem.W.mroIn K C_Cells (.type "object") = some true)
    (xi_Above : PySem.W.isClsIn K C_Above = true)
    (xt_Above : PySem.W.typeIn K (.ref C_Above) = some (.type "type"))
    (yy_Cells_Above : PySem.W.subIn K (.ref C_Cells) (.ref C_Above) = some false)
    (yy_Cells_Cells : PySem.W.subIn K (.ref C_Cells) (.ref C_Cells) = some true)
    (xi_Mend : PySem.W.isClsIn K C_Mend = true)
    (xt_Mend : PySem.W.typeIn K (.ref C_Mend) = some (.type "type"))
    (yy_Cells_Mend : PySem.W.subIn K (.ref C_Cells) (.ref C_Mend) = some false)
    (xi_Lookup : PySem.W.isClsIn K C_Lookup = true)
    (xt_Lookup : PySem.W.typeIn K (.ref C_Lookup) = some (.type "type"))
    (yy_Cells_Lookup : PySem.W.subIn K (.ref C_Cells) (.ref C_Lookup) = some false)
    (ica_Above : PySem.W.findIn K (.ref C_Above) "__class__" = some (some (.builtin "object.__class__")))
    (icm_Above : PySem.W.mroIn K C_Above (.type "object") = some true)
    (yy_Above_Above : PySem.W.subIn K (.ref C_Above) (.ref C_Above) = some true)
    (yy_Above_Mend : PySem.W.subIn K (.ref C_Above) (.ref C_Mend) = some false)
    (yy_Above_Lookup : PySem.W.subIn K (.ref C_Above) (.ref C_Lookup) = some false)
    (ica_Group : PySem.W.findIn K (.ref C_Group) "__class__" = some (some (.builtin "object.__class__")))
    (icm_Group : PySem.W.mroIn K C_Group (.type "object") = some true)
    (yy_Group_Above : PySem.W.subIn K (.ref C_Group) (.ref C_Above) = some false)
    (yy_Group_Group : PySem.W.subIn K (.ref C_Group) (.ref C_Group) = some true)
    (yy_Group_Mend : PySem.W.subIn K (.ref C_Group) (.ref C_Mend) = some false)
    (yy_Group_Lookup : PySem.W.subIn K (.ref C_Group) (.ref C_Lookup) = some false)
    (ica_Lookup : PySem.W.findIn K (.ref C_Lookup) "__class__" = some (some (.builtin "object.__class__")))
    (icm_Lookup : PySem.W.mroIn K C_Lookup (.type "object") = some true)
    (yy_Lookup_Above : PySem.W.subIn K (.ref C_Lookup) (.ref C_Above) = some false)
    (yy_Lookup_Lookup : PySem.W.subIn K (.ref C_Lookup) (.ref C_Lookup) = some true)
    (yy_Lookup_Mend : PySem.W.subIn K (.ref C_Lookup) (.ref C_Mend) = some false)
    (ica_Mend : PySem.W.findIn K (.ref C_Mend) "__class__" = some (some (.builtin "object.__class__")))
    (icm_Mend : PySem.W.mroIn K C_Mend (.type "object") = some true)
    (yy_Mend_Above : PySem.W.subIn K (.ref C_Mend) (.ref C_Above) = some false)
    (yy_Mend_Mend : PySem.W.subIn K (.ref C_Mend) (.ref C_Mend) = some true)
    (yy_Mend_Lookup : PySem.W.subIn K (.ref C_Mend) (.ref C_Lookup) = some false)
    (xx_NoName : PySem.W.excIn K C_NoName [.type "ValueError", .type "Exception", .type "BaseException", .type "object"] "ValueError.__new__" = true)
    (xk_NoName : PySem.W.keepIn K (.ref C_NoName) = true)
    (xb_NoName : PySem.W.subIn K (.ref C_NoName) (.type "BaseException") = some true)
    (xt_NoName : PySem.W.typeIn K (.ref C_NoName) = some (.type "type"))
    (xx_NoValue : PySem.W.excIn K C_NoValue [.type "ValueError", .type "Exception", .type "BaseException", .type "object"] "ValueError.__new__" = true)
    (xk_NoValue : PySem.W.keepIn K (.ref C_NoValue) = true)
    (xb_NoValue : PySem.W.subIn K (.ref C_NoValue) (.type "BaseException") = some true)
    (xt_NoValue : PySem.W.typeIn K (.ref C_NoValue) = some (.type "type")) :
    LawAtS l w K (L2.CX l.prog w) 7 63 "script" mg fa h := by
  have e := hfa.symm.trans (PySem.W.mg_of X G a_law)
  cases e
  let A : Cn → Addr := fun | .ColsError => C_ColsError | .NoName => C_NoName | .NoValue => C_NoValue | .Rule => C_Rule | .Cells => C_Cells | .Above => C_Above | .Group => C_Group | .Lookup => C_Lookup | .Mend => C_Mend | _ => 0
  have T : Txt K mg A := { n_abs := PySem.W.mg_none_of X G n_abs, n_all := PySem.W.mg_none_of X G n_all, n_bool := PySem.W.mg_none_of X G n_bool, n_int := PySem.W.mg_none_of X G n_int, n_isinstance := PySem.W.mg_none_of X G n_isinstance, n_len := PySem.W.mg_none_of X G n_len, n_list := PySem.W.mg_none_of X G n_list, n_max := PySem.W.mg_none_of X G n_max, n_range := PySem.W.mg_none_of X G n_range, n_str := PySem.W.mg_none_of X G n_str, n_tuple := PySem.W.mg_none_of X G n_tuple, g_LETTERS := ⟨_, PySem.W.mg_of X G g_LETTERS⟩, g_MOST_NAMES := ⟨_, PySem.W.mg_of X G g_MOST_NAMES⟩, g_ColsError := PySem.W.mg_of X G a_ColsError, g_NoName := PySem.W.mg_of X G a_NoName, g_NoValue := PySem.W.mg_of X G a_NoValue, g_Rule := PySem.W.mg_of X G a_Rule, g_Cells := PySem.W.mg_of X G a_Cells, g_Above := PySem.W.mg_of X G a_Above, g_Group := PySem.W.mg_of X G a_Group, g_Lookup := PySem.W.mg_of X G a_Lookup, g_Mend := PySem.W.mg_of X G a_Mend, fx_Cells := ⟨⟨pg_Cells, hd_Cells, po_Cells, sa_Cells⟩, List.forall_mem_cons.mpr ⟨na_Cells_function, List.forall_mem_cons.mpr ⟨na_Cells_names, List.forall_mem_nil _⟩⟩⟩, fx_Above := ⟨⟨pg_Above, hd_Above, po_Above, sa_Above⟩, List.forall_mem_cons.mpr ⟨na_Above_function, List.forall_mem_cons.mpr ⟨na_Above_names, List.forall_mem_cons.mpr ⟨na_Above_first, List.forall_mem_nil _⟩⟩⟩⟩, fx_Group := ⟨⟨pg_Group, hd_Group, po_Group, sa_Group⟩, List.forall_mem_cons.mpr ⟨na_Group_function, List.forall_mem_cons.mpr ⟨na_Group_key, List.forall_mem_cons.mpr ⟨na_Group_name, List.forall_mem_nil _⟩⟩⟩⟩, fx_Lookup := ⟨⟨pg_Lookup, hd_Lookup, po_Lookup, sa_Lookup⟩, List.forall_mem_cons.mpr ⟨na_Lookup_function, List.forall_mem_cons.mpr ⟨na_Lookup_key, List.forall_mem_cons.mpr ⟨na_Lookup_other, List.forall_mem_cons.mpr ⟨na_Lookup_theirs, List.forall_mem_cons.mpr ⟨na_Lookup_names, List.forall_mem_nil _⟩⟩⟩⟩⟩⟩, fx_Mend := ⟨⟨pg_Mend, hd_Mend, po_Mend, sa_Mend⟩, List.forall_mem_cons.mpr ⟨na_Mend_function, List.forall_mem_cons.mpr ⟨na_Mend_name, List.forall_mem_nil _⟩⟩⟩, fx_Rule := ⟨⟨pg_Rule, hd_Rule, po_Rule, sa_Rule⟩, List.forall_mem_cons.mpr ⟨na_Rule_function, List.forall_mem_nil _⟩⟩, ik_Cells := ⟨ica_Cells, icn, ict, icm_Cells⟩, kt_Cells_Above := kit_of xi_Above xt_Above yy_Cells_Above yy_Cells_Cells, kt_Cells_Mend := kit_of xi_Mend xt_Mend yy_Cells_Mend yy_Cells_Cells, kt_Cells_Lookup := kit_of xi_Lookup xt_Lookup yy_Cells_Lookup yy_Cells_Cells, ik_Above := ⟨ica_Above, icn, ict, icm_Above⟩, kt_Above_Above := kit_of xi_Above xt_Above yy_Above_Above yy_Above_Above, kt_Above_Mend := kit_of xi_Mend xt_Mend yy_Above_Mend yy_Above_Above, kt_Above_Lookup := kit_of xi_Lookup xt_Lookup yy_Above_Lookup yy_Above_Above, ik_Group := ⟨ica_Group, icn, ict, icm_Group⟩, kt_Group_Above := kit_of xi_Above xt_Above yy_Group_Above yy_Group_Group, kt_Group_Mend := kit_of xi_Mend xt_Mend yy_Group_Mend yy_Group_Group, kt_Group_Lookup := kit_of xi_Lookup xt_Lookup yy_Group_Lookup yy_Group_Group, ik_Lookup := ⟨ica_Lookup, icn, ict, icm_Lookup⟩, kt_Lookup_Above := kit_of xi_Above xt_Above yy_Lookup_Above yy_Lookup_Lookup, kt_Lookup_Mend := kit_of xi_Mend xt_Mend yy_Lookup_Mend yy_Lookup_Lookup, kt_Lookup_Lookup := kit_of xi_Lookup xt_Lookup yy_Lookup_Lookup yy_Lookup_Lookup, ik_Mend := ⟨ica_Mend, icn, ict, icm_Mend⟩, kt_Mend_Above := kit_of xi_Above xt_Above yy_Mend_Above yy_Mend_Mend, kt_Mend_Mend := kit_of xi_Mend xt_Mend yy_Mend_Mend yy_Mend_Mend, kt_Mend_Lookup := kit_of xi_Lookup xt_Lookup yy_Mend_Lookup yy_Mend_Mend, x_NoName := xx_NoName, k_NoName := xk_NoName, b_NoName := xb_NoName, t_NoName := xt_NoName, x_NoValue := xx_NoValue, k_NoValue := xk_NoValue, b_NoValue := xb_NoValue, t_NoValue := xt_NoValue }
  have F_is_whole := fun_mk (st := s_is_whole) l_is_whole c_is_whole k_is_whole
  have b_is_whole := F_is_whole.binds (ps := ["thing"]) fun _ _ _ _ _ _ us hl => match us, hl with | [_], _ => rfl
  have F_is_name := fun_mk (st := s_is_name) l_is_name c_is_name k_is_name
  have b_is_name := F_is_name.binds (ps := ["thing"]) fun _ _ _ _ _ _ us hl => match us, hl with | [_], _ => rfl
  have F_is_number := fun_mk (st := s_is_number) l_is_number c_is_number k_is_number
  have b_is_number := F_is_number.binds (ps := ["thing"]) fun _ _ _ _ _ _ us hl => match us, hl with | [_], _ => rfl
  have F_is_fault := fun_mk (st := s_is_fault) l_is_fault c_is_fault k_is_fault
  have b_is_fault := F_is_fault.binds (ps := ["thing"]) fun _ _ _ _ _ _ us hl => match us, hl with | [_], _ => rfl
  have F_fault := fun_mk (st := s_fault) l_fault c_fault k_fault
  have b_fault := F_fault.binds (ps := ["word"]) fun _ _ _ _ _ _ us hl => match us, hl with | [_], _ => rfl
  have F_name_told := fun_mk (st := s_name_told) l_name_told c_name_told k_name_told
  have b_name_told := F_name_told.binds (ps := ["name"]) fun _ _ _ _ _ _ us hl => match us, hl with | [_], _ => rfl
  have F_names_told := fun_mk (st := s_names_told) l_names_told c_names_told k_names_told
  have b_names_told := F_names_told.binds (ps := ["names"]) fun _ _ _ _ _ _ us hl => match us, hl with | [_], _ => rfl
  have F_each_once := fun_mk (st := s_each_once) l_each_once c_each_once k_each_once
  have b_each_once := F_each_once.binds (ps := ["spots"]) fun _ _ _ _ _ _ us hl => match us, hl with | [_], _ => rfl
  have F_looked := fun_mk (st := s_looked) l_looked c_looked k_looked
  have b_looked := F_looked.binds (ps := ["look", "cells"]) fun _ _ _ _ _ _ us hl => match us, hl with | [_, _], _ => rfl
  have F_Rule_init := fun_mk (st := s_Rule_init) l_Rule_init c_Rule_init k_Rule_init
  have b_Rule_init := F_Rule_init.binds (ps := ["self", "function"]) fun _ _ _ _ _ _ us hl => match us, hl with | [_, _], _ => rfl
  have F_Cells_init := fun_mk (st := s_Cells_init) l_Cells_init c_Cells_init k_Cells_init
  have b_Cells_init := F_Cells_init.binds (ps := ["self", "names", "function"]) fun _ _ _ _ _ _ us hl => match us, hl with | [_, _, _], _ => rfl
  have F_Cells_leans := fun_mk (st := s_Cells_leans) l_Cells_leans c_Cells_leans k_Cells_leans
  have b_Cells_leans := F_Cells_leans.binds (ps := ["self", "table"]) fun _ _ _ _ _ _ us hl => match us, hl with | [_, _], _ => rfl
  have F_Cells_gather := fun_mk (st := s_Cells_gather) l_Cells_gather c_Cells_gather k_Cells_gather
  have b_Cells_gather := F_Cells_gather.binds (ps := ["self", "look", "many", "table", "column", "place"]) fun _ _ _ _ _ _ us hl => match us, hl with | [_, _, _, _, _, _], _ => rfl
  have F_Above_init := fun_mk (st := s_Above_init) l_Above_init c_Above_init k_Above_init
  have b_Above_init := F_Above_init.binds (ps := ["self", "first", "names", "function"]) fun _ _ _ _ _ _ us hl => match us, hl with | [_, _, _, _], _ => rfl
  have F_Above_leans := fun_mk (st := s_Above_leans) l_Above_leans c_Above_leans k_Above_leans
  have b_Above_leans := F_Above_leans.binds (ps := ["self", "table"]) fun _ _ _ _ _ _ us hl => match us, hl with | [_, _], _ => rfl
  have F_Above_gather := fun_mk (st := s_Above_gather) l_Above_gather c_Above_gather k_Above_gather
  have b_Above_gather := F_Above_gather.binds (ps := ["self", "look", "many", "table", "column", "place"]) fun _ _ _ _ _ _ us hl => match us, hl with | [_, _, _, _, _, _], _ => rfl
  have F_Group_init := fun_mk (st := s_Group_init) l_Group_init c_Group_init k_Group_init
  have b_Group_init := F_Group_init.binds (ps := ["self", "key", "name", "function"]) fun _ _ _ _ _ _ us hl => match us, hl with | [_, _, _, _], _ => rfl
  have F_Group_leans := fun_mk (st := s_Group_leans) l_Group_leans c_Group_leans k_Group_leans
  have b_Group_leans := F_Group_leans.binds (ps := ["self", "table"]) fun _ _ _ _ _ _ us hl => match us, hl with | [_, _], _ => rfl
  have F_Group_gather := fun_mk (st := s_Group_gather) l_Group_gather c_Group_gather k_Group_gather
  have b_Group_gather := F_Group_gather.binds (ps := ["self", "look", "many", "table", "column", "place"]) fun _ _ _ _ _ _ us hl => match us, hl with | [_, _, _, _, _, _], _ => rfl
  have F_Lookup_init := fun_mk (st := s_Lookup_init) l_Lookup_init c_Lookup_init k_Lookup_init
  have b_Lookup_init := F_Lookup_init.binds (ps := ["self", "key", "other", "theirs", "names", "function"]) fun _ _ _ _ _ _ us hl => match us, hl with | [_, _, _, _, _, _], _ => rfl
  have F_Lookup_leans := fun_mk (st := s_Lookup_leans) l_Lookup_leans c_Lookup_leans k_Lookup_leans
  have b_Lookup_leans := F_Lookup_leans.binds (ps := ["self", "table"]) fun _ _ _ _ _ _ us hl => match us, hl with | [_, _], _ => rfl
  have F_Lookup_gather := fun_mk (st := s_Lookup_gather) l_Lookup_gather c_Lookup_gather k_Lookup_gather
  have b_Lookup_gather := F_Lookup_gather.binds (ps := ["self", "look", "many", "table", "column", "place"]) fun _ _ _ _ _ _ us hl => match us, hl with | [_, _, _, _, _, _], _ => rfl
  have F_Mend_init := fun_mk (st := s_Mend_init) l_Mend_init c_Mend_init k_Mend_init
  have b_Mend_init := F_Mend_init.binds (ps := ["self", "name", "function"]) fun _ _ _ _ _ _ us hl => match us, hl with | [_, _, _], _ => rfl
  have F_Mend_leans := fun_mk (st := s_Mend_leans) l_Mend_leans c_Mend_leans k_Mend_leans
  have b_Mend_leans := F_Mend_leans.binds (ps := ["self", "table"]) fun _ _ _ _ _ _ us hl => match us, hl with | [_, _], _ => rfl
  have F_Mend_gather := fun_mk (st := s_Mend_gather) l_Mend_gather c_Mend_gather k_Mend_gather
  have b_Mend_gather := F_Mend_gather.binds (ps := ["self", "look", "many", "table", "column", "place"]) fun _ _ _ _ _ _ us hl => match us, hl with | [_, _, _, _, _, _], _ => rfl
  have F_law_drawn := fun_mk (st := s_law_drawn) l_law_drawn c_law_drawn k_law_drawn
  have b_law_drawn := F_law_drawn.binds (ps := ["script", "k", "size"]) fun _ _ _ _ _ _ us hl => match us, hl with | [_, _, _], _ => rfl
  have F_law_whole := fun_mk (st := s_law_whole) l_law_whole c_law_whole k_law_whole
  have b_law_whole := F_law_whole.binds (ps := ["found"]) fun _ _ _ _ _ _ us hl => match us, hl with | [_], _ => rfl
  have F_law_names := fun_mk (st := s_law_names) l_law_names c_law_names k_law_names
  have b_law_names := F_law_names.binds (ps := ["script", "many"]) fun _ _ _ _ _ _ us hl => match us, hl with | [_, _], _ => rfl
  have F_law_value := fun_mk (st := s_law_value) l_law_value c_law_value k_law_value
  have b_law_value := F_law_value.binds (ps := ["script", "k", "faults"]) fun _ _ _ _ _ _ us hl => match us, hl with | [_, _, _], _ => rfl
  have F_law_world := fun_mk (st := s_law_world) l_law_world c_law_world k_law_world
  have b_law_world := F_law_world.binds (ps := ["script", "names", "tables", "faults", "k"]) fun _ _ _ _ _ _ us hl => match us, hl with | [_, _, _, _, _], _ => rfl
  have F_law_table := fun_mk (st := s_law_table) l_law_table c_law_table k_law_table
  have b_law_table := F_law_table.binds (ps := ["script", "k", "rows", "tables"]) fun _ _ _ _ _ _ us hl => match us, hl with | [_, _, _, _], _ => rfl
  have F_law_look := fun_mk (st := s_law_look) l_law_look c_law_look k_law_look
  have b_law_look := F_law_look.binds (ps := ["world", "notes", "table", "column", "place"]) fun _ _ _ _ _ _ us hl => match us, hl with | [_, _, _, _, _], _ => rfl
  have F_law_gathered := fun_mk (st := s_law_gathered) l_law_gathered c_law_gathered k_law_gathered
  have b_law_gathered := F_law_gathered.binds (ps := ["world", "rows", "rule", "table", "column", "place"]) fun _ _ _ _ _ _ us hl => match us, hl with | [_, _, _, _, _, _], _ => rfl
  have F_law_alike := fun_mk (st := s_law_alike) l_law_alike c_law_alike k_law_alike
  have b_law_alike := F_law_alike.binds (ps := ["found", "due"]) fun _ _ _ _ _ _ us hl => match us, hl with | [_, _], _ => rfl
  have F_law_picked := fun_mk (st := s_law_picked) l_law_picked c_law_picked k_law_picked
  have b_law_picked := F_law_picked.binds (ps := ["script", "k", "names"]) fun _ _ _ _ _ _ us hl => match us, hl with | [_, _, _], _ => rfl
  have F_law_made := fun_mk (st := s_law_made) l_law_made c_law_made k_law_made
  have b_law_made := F_law_made.binds (ps := ["kind", "names", "some", "other"]) fun _ _ _ _ _ _ us hl => match us, hl with | [_, _, _, _], _ => rfl
  have F_law_changed := fun_mk (st := s_law_changed) l_law_changed c_law_changed k_law_changed
  have b_law_changed := F_law_changed.binds (ps := ["script", "world", "once"]) fun _ _ _ _ _ _ us hl => match us, hl with | [_, _, _], _ => rfl
  have F_law_leans := fun_mk (st := s_law_leans) l_law_leans c_law_leans k_law_leans
  have b_law_leans := F_law_leans.binds (ps := ["rule", "table", "own", "place", "once"]) fun _ _ _ _ _ _ us hl => match us, hl with | [_, _, _, _, _], _ => rfl
  have F_law_fault := fun_mk (st := s_law_fault) l_law_fault c_law_fault k_law_fault
  have b_law_fault := F_law_fault.binds (ps := ["world", "rule", "found", "once"]) fun _ _ _ _ _ _ us hl => match us, hl with | [_, _, _, _], _ => rfl
  have F_law := fun_mk (st := s_law) l_law c_law k_law
  have b_law := F_law.binds (ps := ["script"]) fun _ _ _ _ _ _ us hl => match us, hl with | [_], _ => rfl
  let Tb : List (Addr × Str) := [(tp_law_gathered, ((("_law_gathered" : Str) ++ ".<locals>.") ++ "<lambda>")), (tp_law_made, ((("_law_made" : Str) ++ ".<locals>.") ++ "<lambda>"))]
  have hMM : ∀ H : Hp, (∀ p ∈ ([(ca_law_gathered, tp_law_gathered), (ca_law_made, tp_law_made)] : List (Addr × Addr)), H p.2 = some (.tbl #[])) → Tabs Tb H := fun H hH => List.forall_mem_cons.mpr ⟨TabS.nil (hH (ca_law_gathered, tp_law_gathered) (by simp)), List.forall_mem_cons.mpr ⟨TabS.nil (hH (ca_law_made, tp_law_made) (by simp)), List.forall_mem_nil _⟩⟩
  have hm_law_gathered : (tp_law_gathered, ((("_law_gathered" : Str) ++ ".<locals>.") ++ "<lambda>")) ∈ Tb := by simp [Tb]
  have hu_law_gathered := hu_of (Tb := Tb) nd_tabs hm_law_gathered
  have hm_law_made : (tp_law_made, ((("_law_made" : Str) ++ ".<locals>.") ++ "<lambda>")) ∈ Tb := by simp [Tb]
  have hu_law_made := hu_of (Tb := Tb) nd_tabs hm_law_made
  refine ⟨PySem.W.fnOf "law" "law" (defArgs s_law) (defBody s_law) (defScope s_law) .none kV_law dc_law pm_law an_law cd_law ct_law, [(ca_law_gathered, tp_law_gathered), (ca_law_made, tp_law_made)], spLawT K Tb, List.forall_mem_cons.mpr ⟨tab_law_gathered, List.forall_mem_cons.mpr ⟨tab_law_made, List.forall_mem_nil _⟩⟩, List.forall_mem_cons.mpr ⟨nl_law_gathered, List.forall_mem_cons.mpr ⟨nl_law_made, List.forall_mem_nil _⟩⟩, List.forall_mem_cons.mpr ⟨PySem.W.codeHd_of_K X hd_law_gathered, List.forall_mem_cons.mpr ⟨PySem.W.codeHd_of_K X hd_law_made, List.forall_mem_nil _⟩⟩, fun s v => .of_eq rfl, fun H a ns hl _ hH hS => ⟨a, ns, rfl, hS, hl, hMM H hH, fun _ => rfl⟩, fun base _ _ TBs => ?_⟩
  have TB_law_gathered : TabB base mg ca_law_gathered tp_law_gathered := TBs (ca_law_gathered, tp_law_gathered) (by simp)
  have TB_law_made : TabB base mg ca_law_made tp_law_made := TBs (ca_law_made, tp_law_made) (by simp)
  have G_is_whole := cal_is_whole (P := l.prog) (w := w) (base := base) T  F_is_whole (PySem.W.mg_of X G a_is_whole) b_is_whole
  have G_is_name := cal_is_name (P := l.prog) (w := w) (base := base) T  F_is_name (PySem.W.mg_of X G a_is_name) b_is_name
  have G_is_number := cal_is_number (P := l.prog) (w := w) (base := base) T G_is_whole F_is_number (PySem.W.mg_of X G a_is_number) b_is_number
  have G_is_fault := cal_is_fault (P := l.prog) (w := w) (base := base) T G_is_name F_is_fault (PySem.W.mg_of X G a_is_fault) b_is_fault
  have G_fault := cal_fault (P := l.prog) (w := w) (base := base) T G_is_name F_fault (PySem.W.mg_of X G a_fault) b_fault
  have G_name_told := cal_name_told (P := l.prog) (w := w) (base := base) T G_is_name F_name_told (PySem.W.mg_of X G a_name_told) b_name_told
  have G_names_told := cal_names_told (P := l.prog) (w := w) (base := base) T G_name_told F_names_told (PySem.W.mg_of X G a_names_told) b_names_told
  have G_each_once := cal_each_once (P := l.prog) (w := w) (base := base) T  F_each_once (PySem.W.mg_of X G a_each_once) b_each_once
  have G_looked := cal_looked (P := l.prog) (w := w) (base := base) T G_is_fault F_looked (PySem.W.mg_of X G a_looked) b_looked
  have Z_Rule_init := zcal_Rule_init (P := l.prog) (w := w) (base := base) T  F_Rule_init T.g_Rule zr_Rule_init zf_Rule_init zg_Rule_init k_Rule_init b_Rule_init
  have G_Cells_init := cal_Cells_init (P := l.prog) (w := w) (base := base) T G_names_told Z_Rule_init F_Cells_init ⟨mkk_Cells, a_Cells_init, i_Cells_init, kc_Cells⟩ T.g_Cells b_Cells_init
  have G_Cells_leans := cal_Cells_leans (P := l.prog) (w := w) (base := base) T G_each_once F_Cells_leans ⟨a_Cells_leans, i_Cells_leans, k_Cells_leans⟩ b_Cells_leans
  have G_Cells_gather := cal_Cells_gather (P := l.prog) (w := w) (base := base) T G_looked F_Cells_gather ⟨a_Cells_gather, i_Cells_gather, k_Cells_gather⟩ b_Cells_gather
  have G_Above_init := cal_Above_init (P := l.prog) (w := w) (base := base) T G_is_number G_names_told Z_Rule_init F_Above_init ⟨mkk_Above, a_Above_init, i_Above_init, kc_Above⟩ T.g_Above b_Above_init
  have G_Above_leans := cal_Above_leans (P := l.prog) (w := w) (base := base) T G_each_once F_Above_leans ⟨a_Above_leans, i_Above_leans, k_Above_leans⟩ b_Above_leans
  have G_Above_gather := cal_Above_gather (P := l.prog) (w := w) (base := base) T G_looked F_Above_gather ⟨a_Above_gather, i_Above_gather, k_Above_gather⟩ b_Above_gather
  have G_Group_init := cal_Group_init (P := l.prog) (w := w) (base := base) T G_name_told Z_Rule_init F_Group_init ⟨mkk_Group, a_Group_init, i_Group_init, kc_Group⟩ T.g_Group b_Group_init
  have G_Group_leans := cal_Group_leans (P := l.prog) (w := w) (base := base) T G_each_once F_Group_leans ⟨a_Group_leans, i_Group_leans, k_Group_leans⟩ b_Group_leans
  have G_Group_gather := cal_Group_gather (P := l.prog) (w := w) (base := base) T G_is_fault F_Group_gather ⟨a_Group_gather, i_Group_gather, k_Group_gather⟩ b_Group_gather
  have G_Lookup_init := cal_Lookup_init (P := l.prog) (w := w) (base := base) T G_names_told G_name_told Z_Rule_init F_Lookup_init ⟨mkk_Lookup, a_Lookup_init, i_Lookup_init, kc_Lookup⟩ T.g_Lookup b_Lookup_init
  have G_Lookup_leans := cal_Lookup_leans (P := l.prog) (w := w) (base := base) T G_each_once F_Lookup_leans ⟨a_Lookup_leans, i_Lookup_leans, k_Lookup_leans⟩ b_Lookup_leans
  have G_Lookup_gather := cal_Lookup_gather (P := l.prog) (w := w) (base := base) T G_fault G_looked G_is_fault F_Lookup_gather ⟨a_Lookup_gather, i_Lookup_gather, k_Lookup_gather⟩ b_Lookup_gather
  have G_Mend_init := cal_Mend_init (P := l.prog) (w := w) (base := base) T G_name_told Z_Rule_init F_Mend_init ⟨mkk_Mend, a_Mend_init, i_Mend_init, kc_Mend⟩ T.g_Mend b_Mend_init
  have G_Mend_leans := cal_Mend_leans (P := l.prog) (w := w) (base := base) T  F_Mend_leans ⟨a_Mend_leans, i_Mend_leans, k_Mend_leans⟩ b_Mend_leans
  have G_Mend_gather := cal_Mend_gather (P := l.prog) (w := w) (base := base) T G_is_fault F_Mend_gather ⟨a_Mend_gather, i_Mend_gather, k_Mend_gather⟩ b_Mend_gather
  have G_law_drawn := cal_law_drawn (P := l.prog) (w := w) (base := base) T  F_law_drawn (PySem.W.mg_of X G a_law_drawn) b_law_drawn
  have G_law_whole := cal_law_whole (P := l.prog) (w := w) (base := base) T  F_law_whole (PySem.W.mg_of X G a_law_whole) b_law_whole
  have G_law_names := cal_law_names (P := l.prog) (w := w) (base := base) T G_law_drawn F_law_names (PySem.W.mg_of X G a_law_names) b_law_names
  have G_law_value := cal_law_value (P := l.prog) (w := w) (base := base) T G_law_drawn F_law_value (PySem.W.mg_of X G a_law_value) b_law_value
  have G_law_world := cal_law_world (P := l.prog) (w := w) (base := base) T G_law_value G_law_drawn F_law_world (PySem.W.mg_of X G a_law_world) b_law_world
  have G_law_table := cal_law_table (P := l.prog) (w := w) (base := base) T G_law_drawn F_law_table (PySem.W.mg_of X G a_law_table) b_law_table
  have G_law_look := cal_law_look (P := l.prog) (w := w) (base := base) T  F_law_look (PySem.W.mg_of X G a_law_look) b_law_look
  have G_law_gathered := cal_law_gathered (P := l.prog) (w := w) (base := base) (Tb := Tb) T G_Mend_gather G_Lookup_gather G_Group_gather G_Above_gather G_Cells_gather G_law_look TB_law_gathered hm_law_gathered hu_law_gathered l_law_gathered c_law_gathered (PySem.W.mg_of X G a_law_gathered) k_law_gathered b_law_gathered
  have G_law_alike := cal_law_alike (P := l.prog) (w := w) (base := base) T G_law_whole F_law_alike (PySem.W.mg_of X G a_law_alike) b_law_alike
  have G_law_picked := cal_law_picked (P := l.prog) (w := w) (base := base) T G_law_drawn F_law_picked (PySem.W.mg_of X G a_law_picked) b_law_picked
  have G_law_made := cal_law_made (P := l.prog) (w := w) (base := base) (Tb := Tb) T G_Mend_init G_Lookup_init G_Group_init G_Above_init G_Cells_init TB_law_made hm_law_made hu_law_made l_law_made c_law_made (PySem.W.mg_of X G a_law_made) k_law_made b_law_made
  have G_law_changed := cal_law_changed (P := l.prog) (w := w) (base := base) T G_law_value F_law_changed (PySem.W.mg_of X G a_law_changed) b_law_changed
  have G_law_leans := cal_law_leans (P := l.prog) (w := w) (base := base) T G_Mend_leans G_Lookup_leans G_Group_leans G_Above_leans G_Cells_leans F_law_leans (PySem.W.mg_of X G a_law_leans) b_law_leans
  have G_law_fault := cal_law_fault (P := l.prog) (w := w) (base := base) T G_law_whole F_law_fault (PySem.W.mg_of X G a_law_fault) b_law_fault
  exact fn_law (P := l.prog) (w := w) (base := base) (Tb := Tb) T G_law_alike G_law_gathered G_law_changed G_law_leans G_law_fault G_law_drawn G_law_made G_law_picked G_law_table G_law_world G_law_names F_law
theorem walk {l : PySem.W.OpenLaw} {q : Program} {loose : List Str} {XP : (Str → Option Value) → Heap → Prop} {YP : PySem.World → Heap → Prop} {d : DefRec} {K : Params → PySem.W.Frag} (hn : l.most = some 63) (hdf : d.params.defaults = [])
    (hY : ∀ (w : PySem.World) (h : Heap), YP w h → (K w.params).In h)
    (F : ∀ (w : PySem.World) (mg : Str → Option Value) (fa : Addr) (h : Heap), YP w h → (K w.params).In h → h.Ns mainGlobals mg → mg d.name = some (.ref fa) → LawAtS l w (K w.params) (L2.CX l.prog w) 7 63 "script" mg fa h) :
    PySem.W.WalkO q loose XP YP l.row.toRowW d [] (fun f vs => PySem.call f vs) :=
  LamX.walk_ofTs (n := 63) (k := 7) (x := "script") (CX := fun w => L2.CX l.prog w) hn (by decide) hdf ⟨rfl, by decide, by decide⟩ hY F (fun _ _ _ _ _ z => cx_no z)
end Z
open PySem PySem.W PyProof.Rows
set_option maxRecDepth 100000 in
set_option maxHeartbeats 0 in
theorem PySem.Challenge.cw_lazycols_k19_whole_looks_where_it_leans_holds : PySem.Challenge.rw_lazycols_k19_whole_looks_where_it_leans.Holds := by
  w_on; o_law; k_head; (case hw => w_witness2)
  k_fill
  refine Z.walk (l := PySem.Challenge.rw_lazycols_k19_whole_looks_where_it_leans) rfl rfl (fun w h Y => PySem.W.km_in_of Y) ?F
  case F =>
    intro w mg fa h Y KX G hmg
    refine' Z.all_mk KX G hmg ?a_ColsError ?a_NoName ?a_NoValue ?a_Rule ?a_Cells ?a_Above ?a_Group ?a_Lookup ?a_Mend ?a_is_whole ?l_is_whole ?c_is_whole ?k_is_whole ?a_is_name ?l_is_name ?c_is_name ?k_is_name ?a_is_number ?l_is_number ?c_is_number ?k_is_number ?a_is_fault ?l_is_fault ?c_is_fault ?k_is_fault ?a_fault ?l_fault ?c_fault ?k_fault ?a_name_told ?l_name_told ?c_name_told ?k_name_told ?a_names_told ?l_names_told ?c_names_told ?k_names_told ?a_each_once ?l_each_once ?c_each_once ?k_each_once ?a_looked ?l_looked ?c_looked ?k_looked ?a_Rule_init ?i_Rule_init ?zr_Rule_init ?zf_Rule_init ?zg_Rule_init ?l_Rule_init ?c_Rule_init ?k_Rule_init ?a_Cells_init ?i_Cells_init ?mkk_Cells ?kc_Cells ?l_Cells_init ?c_Cells_init ?k_Cells_init ?a_Cells_leans ?i_Cells_leans ?l_Cells_leans ?c_Cells_leans ?k_Cells_leans ?a_Cells_gather ?i_Cells_gather ?l_Cells_gather ?c_Cells_gather ?k_Cells_gather ?a_Above_init ?i_Above_init ?mkk_Above ?kc_Above ?l_Above_init ?c_Above_init ?k_Above_init ?a_Above_leans ?i_Above_leans ?l_Above_leans ?c_Above_leans ?k_Above_leans ?a_Above_gather ?i_Above_gather ?l_Above_gather ?c_Above_gather ?k_Above_gather ?a_Group_init ?i_Group_init ?mkk_Group ?kc_Group ?l_Group_init ?c_Group_init ?k_Group_init ?a_Group_leans ?i_Group_leans ?l_Group_leans ?c_Group_leans ?k_Group_leans ?a_Group_gather ?i_Group_gather ?l_Group_gather ?c_Group_gather ?k_Group_gather ?a_Lookup_init ?i_Lookup_init ?mkk_Lookup ?kc_Lookup ?l_Lookup_init ?c_Lookup_init ?k_Lookup_init ?a_Lookup_leans ?i_Lookup_leans ?l_Lookup_leans ?c_Lookup_leans ?k_Lookup_leans ?a_Lookup_gather ?i_Lookup_gather ?l_Lookup_gather ?c_Lookup_gather ?k_Lookup_gather ?a_Mend_init ?i_Mend_init ?mkk_Mend ?kc_Mend ?l_Mend_init ?c_Mend_init ?k_Mend_init ?a_Mend_leans ?i_Mend_leans ?l_Mend_leans ?c_Mend_leans ?k_Mend_leans ?a_Mend_gather ?i_Mend_gather ?l_Mend_gather ?c_Mend_gather ?k_Mend_gather ?a_law_drawn ?l_law_drawn ?c_law_drawn ?k_law_drawn ?a_law_whole ?l_law_whole ?c_law_whole ?k_law_whole ?a_law_names ?l_law_names ?c_law_names ?k_law_names ?a_law_value ?l_law_value ?c_law_value ?k_law_value ?a_law_world ?l_law_world ?c_law_world ?k_law_world ?a_law_table ?l_law_table ?c_law_table ?k_law_table ?a_law_look ?l_law_look ?c_law_look ?k_law_look ?a_law_gathered ?l_law_gathered ?c_law_gathered ?k_law_gathered ?lc_law_gathered ?tq_law_gathered ?hd_law_gathered ?nl_law_gathered ?tab_law_gathered ?a_law_alike ?l_law_alike ?c_law_alike ?k_law_alike ?a_law_picked ?l_law_picked ?c_law_picked ?k_law_picked ?a_law_made ?l_law_made ?c_law_made ?k_law_made ?lc_law_made ?tq_law_made ?hd_law_made ?nl_law_made ?tab_law_made ?a_law_changed ?l_law_changed ?c_law_changed ?k_law_changed ?a_law_leans ?l_law_leans ?c_law_leans ?k_law_leans ?a_law_fault ?l_law_fault ?c_law_fault ?k_law_fault ?a_law ?l_law ?c_law ?k_law ?nd_tabs ?n_abs ?n_all ?n_bool ?n_int ?n_isinstance ?n_len ?n_list ?n_max ?n_range ?n_str ?n_tuple ?g_LETTERS ?g_MOST_NAMES ?pg_Cells ?hd_Cells ?po_Cells ?sa_Cells ?na_Cells_names ?na_Cells_function ?pg_Above ?hd_Above ?po_Above ?sa_Above ?na_Above_first ?na_Above_names ?na_Above_function ?pg_Group ?hd_Group ?po_Group ?sa_Group ?na_Group_name ?na_Group_key ?na_Group_function ?pg_Lookup ?hd_Lookup ?po_Lookup ?sa_Lookup ?na_Lookup_names ?na_Lookup_theirs ?na_Lookup_other ?na_Lookup_key ?na_Lookup_function ?pg_Mend ?hd_Mend ?po_Mend ?sa_Mend ?na_Mend_name ?na_Mend_function ?pg_Rule ?hd_Rule ?po_Rule ?sa_Rule ?na_Rule_function ?ica_Cells ?icn ?ict ?icm_Cells ?xi_Above ?xt_Above ?yy_Cells_Above ?yy_Cells_Cells ?xi_Mend ?xt_Mend ?yy_Cells_Mend ?xi_Lookup ?xt_Lookup ?yy_Cells_Lookup ?ica_Above ?icm_Above ?yy_Above_Above ?yy_Above_Mend ?yy_Above_Lookup ?ica_Group ?icm_Group ?yy_Group_Above ?yy_Group_Group ?yy_Group_Mend ?yy_Group_Lookup ?ica_Lookup ?icm_Lookup ?yy_Lookup_Above ?yy_Lookup_Lookup ?yy_Lookup_Mend ?ica_Mend ?icm_Mend ?yy_Mend_Above ?yy_Mend_Mend ?yy_Mend_Lookup ?xx_NoName ?xk_NoName ?xb_NoName ?xt_NoName ?xx_NoValue ?xk_NoValue ?xb_NoValue ?xt_NoValue
    (case a_ColsError => k_is)
    (case a_NoName => k_is)
    (case a_NoValue => k_is)
    (case a_Rule => k_is)
    (case a_Cells => k_is)
    (case a_Above => k_is)
    (case a_Group => k_is)
    (case a_Lookup => k_is)
    (case a_Mend => k_is)
    (case a_is_whole => k_is)
    (case l_is_whole => k_is)
    (case c_is_whole => k_is)
    (case k_is_whole => k_is)
    (case a_is_name => k_is)
    (case l_is_name => k_is)
    (case c_is_name => k_is)
    (case k_is_name => k_is)
    (case a_is_number => k_is)
    (case l_is_number => k_is)
    (case c_is_number => k_is)
    (case k_is_number => k_is)
    (case a_is_fault => k_is)
    (case l_is_fault => k_is)
    (case c_is_fault => k_is)
    (case k_is_fault => k_is)
    (case a_fault => k_is)
    (case l_fault => k_is)
    (case c_fault => k_is)
    (case k_fault => k_is)
    (case a_name_told => k_is)
    (case l_name_told => k_is)
    (case c_name_told => k_is)
    (case k_name_told => k_is)
    (case a_names_told => k_is)
    (case l_names_told => k_is)
    (case c_names_told => k_is)
    (case k_names_told => k_is)
    (case a_each_once => k_is)
    (case l_each_once => k_is)
    (case c_each_once => k_is)
    (case k_each_once => k_is)
    (case a_looked => k_is)
    (case l_looked => k_is)
    (case c_looked => k_is)
    (case k_looked => k_is)
    (case a_Rule_init => k_is)
    (case i_Rule_init => k_is)
    (case zr_Rule_init => k_is)
    (case zf_Rule_init => k_is)
    (case zg_Rule_init => k_is)
    (case l_Rule_init => k_is)
    (case c_Rule_init => k_is)
    (case k_Rule_init => k_is)
    (case a_Cells_init => k_is)
    (case i_Cells_init => k_is)
    (case mkk_Cells => k_is)
    (case kc_Cells => k_is)
    (case l_Cells_init => k_is)
    (case c_Cells_init => k_is)
    (case k_Cells_init => k_is)
    (case a_Cells_leans => k_is)
    (case i_Cells_leans => k_is)
    (case l_Cells_leans => k_is)
    (case c_Cells_leans => k_is)
    (case k_Cells_leans => k_is)
    (case a_Cells_gather => k_is)
    (case i_Cells_gather => k_is)
    (case l_Cells_gather => k_is)
    (case c_Cells_gather => k_is)
    (case k_Cells_gather => k_is)
    (case a_Above_init => k_is)
    (case i_Above_init => k_is)
    (case mkk_Above => k_is)
    (case kc_Above => k_is)
    (case l_Above_init => k_is)
    (case c_Above_init => k_is)
    (case k_Above_init => k_is)
    (case a_Above_leans => k_is)
    (case i_Above_leans => k_is)
    (case l_Above_leans => k_is)
    (case c_Above_leans => k_is)
    (case k_Above_leans => k_is)
    (case a_Above_gather => k_is)
    (case i_Above_gather => k_is)
    (case l_Above_gather => k_is)
    (case c_Above_gather => k_is)
    (case k_Above_gather => k_is)
    (case a_Group_init => k_is)
    (case i_Group_init => k_is)
    (case mkk_Group => k_is)
    (case kc_Group => k_is)
    (case l_Group_init => k_is)
    (case c_Group_init => k_is)
    (case k_Group_init => k_is)
    (case a_Group_leans => k_is)
    (case i_Group_leans => k_is)
    (case l_Group_leans => k_is)
    (case c_Group_leans => k_is)
    (case k_Group_leans => k_is)
    (case a_Group_gather => k_is)
    (case i_Group_gather => k_is)
    (case l_Group_gather => k_is)
    (case c_Group_gather => k_is)
    (case k_Group_gather => k_is)
    (case a_Lookup_init => k_is)
    (case i_Lookup_init => k_is)
    (case mkk_Lookup => k_is)
    (case kc_Lookup => k_is)
    (case l_Lookup_init => k_is)
    (case c_Lookup_init => k_is)
    (case k_Lookup_init => k_is)
    (case a_Lookup_leans => k_is)
    (case i_Lookup_leans => k_is)
    (case l_Lookup_leans => k_is)
    (case c_Lookup_leans => k_is)
    (case k_Lookup_leans => k_is)
    (case a_Lookup_gather => k_is)
    (case i_Lookup_gather => k_is)
    (case l_Lookup_gather => k_is)
    (case c_Lookup_gather => k_is)
    (case k_Lookup_gather => k_is)
    (case a_Mend_init => k_is)
    (case i_Mend_init => k_is)
    (case mkk_Mend => k_is)
    (case kc_Mend => k_is)
    (case l_Mend_init => k_is)
    (case c_Mend_init => k_is)
    (case k_Mend_init => k_is)
    (case a_Mend_leans => k_is)
    (case i_Mend_leans => k_is)
    (case l_Mend_leans => k_is)
    (case c_Mend_leans => k_is)
    (case k_Mend_leans => k_is)
    (case a_Mend_gather => k_is)
    (case i_Mend_gather => k_is)
    (case l_Mend_gather => k_is)
    (case c_Mend_gather => k_is)
    (case k_Mend_gather => k_is)
    (case a_law_drawn => k_is)
    (case l_law_drawn => k_is)
    (case c_law_drawn => k_is)
    (case k_law_drawn => k_is)
    (case a_law_whole => k_is)
    (case l_law_whole => k_is)
    (case c_law_whole => k_is)
    (case k_law_whole => k_is)
    (case a_law_names => k_is)
    (case l_law_names => k_is)
    (case c_law_names => k_is)
    (case k_law_names => k_is)
    (case a_law_value => k_is)
    (case l_law_value => k_is)
    (case c_law_value => k_is)
    (case k_law_value => k_is)
    (case a_law_world => k_is)
    (case l_law_world => k_is)
    (case c_law_world => k_is)
    (case k_law_world => k_is)
    (case a_law_table => k_is)
    (case l_law_table => k_is)
    (case c_law_table => k_is)
    (case k_law_table => k_is)
    (case a_law_look => k_is)
    (case l_law_look => k_is)
    (case c_law_look => k_is)
    (case k_law_look => k_is)
    (case a_law_gathered => k_is)
    (case l_law_gathered => k_is)
    (case c_law_gathered => k_is)
    (case k_law_gathered => k_is)
    (case lc_law_gathered => k_is)
    (case tq_law_gathered => rfl)
    (case hd_law_gathered => kernel_rfl)
    (case nl_law_gathered => kernel_rfl)
    (case tab_law_gathered => exact PySem.W.km_tabs_of Y _ (by k_mem))
    (case a_law_alike => k_is)
    (case l_law_alike => k_is)
    (case c_law_alike => k_is)
    (case k_law_alike => k_is)
    (case a_law_picked => k_is)
    (case l_law_picked => k_is)
    (case c_law_picked => k_is)
    (case k_law_picked => k_is)
    (case a_law_made => k_is)
    (case l_law_made => k_is)
    (case c_law_made => k_is)
    (case k_law_made => k_is)
    (case lc_law_made => k_is)
    (case tq_law_made => rfl)
    (case hd_law_made => kernel_rfl)
    (case nl_law_made => kernel_rfl)
    (case tab_law_made => exact PySem.W.km_tabs_of Y _ (by k_mem))
    (case a_law_changed => k_is)
    (case l_law_changed => k_is)
    (case c_law_changed => k_is)
    (case k_law_changed => k_is)
    (case a_law_leans => k_is)
    (case l_law_leans => k_is)
    (case c_law_leans => k_is)
    (case k_law_leans => k_is)
    (case a_law_fault => k_is)
    (case l_law_fault => k_is)
    (case c_law_fault => k_is)
    (case k_law_fault => k_is)
    (case a_law => k_is)
    (case l_law => k_is)
    (case c_law => k_is)
    (case k_law => k_is)
    (case nd_tabs => decide +kernel)
    (case n_abs => k_is)
    (case n_all => k_is)
    (case n_bool => k_is)
    (case n_int => k_is)
    (case n_isinstance => k_is)
    (case n_len => k_is)
    (case n_list => k_is)
    (case n_max => k_is)
    (case n_range => k_is)
    (case n_str => k_is)
    (case n_tuple => k_is)
    (case g_LETTERS => k_is)
    (case g_MOST_NAMES => k_is)
    (case pg_Cells => k_is)
    (case hd_Cells => k_is)
    (case po_Cells => k_is)
    (case sa_Cells => k_is)
    (case na_Cells_names => k_is)
    (case na_Cells_function => k_is)
    (case pg_Above => k_is)
    (case hd_Above => k_is)
    (case po_Above => k_is)
    (case sa_Above => k_is)
    (case na_Above_first => k_is)
    (case na_Above_names => k_is)
    (case na_Above_function => k_is)
    (case pg_Group => k_is)
    (case hd_Group => k_is)
    (case po_Group => k_is)
    (case sa_Group => k_is)
    (case na_Group_name => k_is)
    (case na_Group_key => k_is)
    (case na_Group_function => k_is)
    (case pg_Lookup => k_is)
    (case hd_Lookup => k_is)
    (case po_Lookup => k_is)
    (case sa_Lookup => k_is)
    (case na_Lookup_names => k_is)
    (case na_Lookup_theirs => k_is)
    (case na_Lookup_other => k_is)
    (case na_Lookup_key => k_is)
    (case na_Lookup_function => k_is)
    (case pg_Mend => k_is)
    (case hd_Mend => k_is)
    (case po_Mend => k_is)
    (case sa_Mend => k_is)
    (case na_Mend_name => k_is)
    (case na_Mend_function => k_is)
    (case pg_Rule => k_is)
    (case hd_Rule => k_is)
    (case po_Rule => k_is)
    (case sa_Rule => k_is)
    (case na_Rule_function => k_is)
    (case ica_Cells => k_is)
    (case icn => k_is)
    (case ict => k_is)
    (case icm_Cells => k_is)
    (case xi_Above => k_is)
    (case xt_Above => k_is)
    (case yy_Cells_Above => first | rfl | k_is)
    (case yy_Cells_Cells => first | rfl | k_is)
    (case xi_Mend => k_is)
    (case xt_Mend => k_is)
    (case yy_Cells_Mend => first | rfl | k_is)
    (case xi_Lookup => k_is)
    (case xt_Lookup => k_is)
    (case yy_Cells_Lookup => first | rfl | k_is)
    (case ica_Above => k_is)
    (case icm_Above => k_is)
    (case yy_Above_Above => first | rfl | k_is)
    (case yy_Above_Mend => first | rfl | k_is)
    (case yy_Above_Lookup => first | rfl | k_is)
    (case ica_Group => k_is)
    (case icm_Group => k_is)
    (case yy_Group_Above => first | rfl | k_is)
    (case yy_Group_Group => first | rfl | k_is)
    (case yy_Group_Mend => first | rfl | k_is)
    (case yy_Group_Lookup => first | rfl | k_is)
    (case ica_Lookup => k_is)
    (case icm_Lookup => k_is)
    (case yy_Lookup_Above => first | rfl | k_is)
    (case yy_Lookup_Lookup => first | rfl | k_is)
    (case yy_Lookup_Mend => first | rfl | k_is)
    (case ica_Mend => k_is)
    (case icm_Mend => k_is)
    (case yy_Mend_Above => first | rfl | k_is)
    (case yy_Mend_Mend => first | rfl | k_is)
    (case yy_Mend_Lookup => first | rfl | k_is)
    (case xx_NoName => k_exc)
    (case xk_NoName => k_is)
    (case xb_NoName => k_is)
    (case xt_NoName => k_is)
    (case xx_NoValue => k_exc)
    (case xk_NoValue => k_is)
    (case xb_NoValue => k_is)
    (case xt_NoValue => k_is)
