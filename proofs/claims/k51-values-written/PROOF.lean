import PyProof.Rows.All
import Wide.All
import OpenK.AllK
import Wide.FinOn
import HandS.ForMost
import HandS.ForExc
import HandS.Style
import HandS.IsInst
import HandS.Evl
import HandS.More
import HandS.Deep
import HandS.Wide
import HandS.Conv
import HandS.TupLen
import HandS.Text
import HandS.WordsExc
import HandS.WordsDict
import HandS.Codes
import PyProof.StrBlock2
import HandS.SortInts
import HandS.ExcIs
import PySem.Challenge.RW_lazycols_k51_values_written
set_option Elab.async false
set_option linter.all false
set_option autoImplicit false
set_option maxRecDepth 100000
set_option maxHeartbeats 4000000
namespace Z
open PySem PySem.Spec PyProof.Rows L2 Evl

/-! ### one rule for each operator, whatever the kinds -/
def rSubA : R2 := rI0 fun i j => .int (i - j)
def rLtA : R2 := rI0 fun i j => .bl (decide (i < j))
def rLeA : R2 := rI0 fun i j => .bl (decide (i ≤ j))
def rGtA : R2 := rI0 fun i j => .bl (decide (j < i))
def rGeA : R2 := rI0 fun i j => .bl (decide (j ≤ i))
def rModA : R2 := rI (fun _ j => j ≠ 0) fun i j => .int (i.fmod j)
def rPowA : R2 := rI CPow fun i j => .int (i ^ j.toNat)
def rNegA : V → Hp → VK → Prop := rU fun i => .int (-i)
def rAddI : R2 := rI0 fun i j => .int (i + j)
def rAddS : R2 := fun x y H Q => ∃ i j, x = .str i ∧ y = .str j ∧ i.length + j.length ≤ sizeLine ∧ Q (.str (i ++ j)) H
def rAddA (K : PySem.W.Frag) : R2 := fun x y H Q => rAddI x y H Q ∨ rAddS x y H Q ∨ rCat x y H Q ∨ rCatT K x y H Q
/-- a text n times -/
def repS (a : Str) (n : Int) : Str := SX.S (List.replicate n.toNat a.cps.toList).flatten
def rRepS : R2 := fun x y H Q => ∃ (a : Str) (n : Int), x = .str a ∧ y = .int n ∧ a.length ≤ 4000 ∧ -1000 ≤ n ∧ n ≤ 4000 ∧ Q (.str (repS a n)) H
def rMulA (K : PySem.W.Frag) : R2 := fun x y H Q => rI CMulW (fun i j => .int (i * j)) x y H Q ∨ rRep x y H Q ∨ rRepS x y H Q
def rDivA : R2 := fun x y H Q => rI CDivN (fun i j => .int (i.fdiv j)) x y H Q ∨ rI CDivW (fun i j => .int (i / j)) x y H Q
/-- two dicts: of unlike sizes, or with the same things at the same keys -/
def sameV (x : V) : Prop := flatB x = true ∨ ∃ a, x = .ref a
def rEqKn (neg : Bool) : R2 := fun x y H Q => ∃ a b ks ls, x = .ref a ∧ y = .ref b ∧ H a = some (.dK ks) ∧ H b = some (.dK ls) ∧ (ks.length = ls.length → ∀ p ∈ ks, valV ls p.1 = some p.2 ∧ sameV p.2) ∧ Q (.bl (if neg then !decide (ks.length = ls.length) else decide (ks.length = ls.length))) H
def rEqA (K : PySem.W.Frag) : R2 := fun x y H Q => rEq x y H Q ∨ rEqD K x y H Q ∨ rEqKn false x y H Q
def rNeA (K : PySem.W.Frag) : R2 := fun x y H Q => rNe x y H Q ∨ rNeD K x y H Q ∨ rEqKn true x y H Q
def rInDict (neg : Bool) : R2 := fun x y H Q => ∃ a o, y = .ref a ∧ DGet H a x o ∧ Q (.bl (if neg then !o.isSome else o.isSome)) H
def rInStr (neg : Bool) : R2 := fun x y H Q => ∃ (c : Nat) (z : Str), x = .str ⟨#[c]⟩ ∧ y = .str z ∧ Q (.bl (if neg then !decide (c ∈ z.cps.toList) else decide (c ∈ z.cps.toList))) H
def rInA (K : PySem.W.Frag) : R2 := fun x y H Q => rInStr false x y H Q ∨ rInDict false x y H Q ∨ rIn K false x y H Q ∨ rInD K x y H Q
def rNinA (K : PySem.W.Frag) : R2 := fun x y H Q => rInStr true x y H Q ∨ rInDict true x y H Q ∨ rIn K true x y H Q ∨ rNotInD K x y H Q
def rIsA : R2 := fun x y H Q => (y = .non ∧ Q (.bl (decide (x = .non))) H) ∨ rIsB x y H Q
def rIsnA : R2 := fun x y H Q => (y = .non ∧ Q (.bl (!decide (x = .non))) H) ∨ rNotB x y H Q
def rIxD : R2 := fun x y H Q => ∃ a v, x = .ref a ∧ DGet H a y (some v) ∧ Q v H
def rIxA (K : PySem.W.Frag) : R2 := fun x y H Q => rIx K x y H Q ∨ rIxD x y H Q
def rSetA : V → V → V → Hp → (Hp → Prop) → Prop := fun o i v H Q => rSetL o i v H Q ∨ ∃ a H', o = .ref a ∧ DPut H a i v H' ∧ Q H'
def rSlS : V → Option Int → Option Int → Hp → VK → Prop := fun x lo hi H Q => ∃ z, x = .str z ∧ z.length ≤ sizeLine ∧ Q (.str (cutS z lo hi)) H
def rSlA (K : PySem.W.Frag) : V → Option Int → Option Int → Hp → VK → Prop := fun x lo hi H Q => rSlL K x lo hi H Q ∨ rSlT K x lo hi H Q ∨ rSlS x lo hi H Q
def rLenD : List V → Hp → VK → Prop := fun xs H Q => ∃ a kvs, xs = [V.ref a] ∧ H a = some (.dK kvs) ∧ Q (.int kvs.length) H
def rLenA (K : PySem.W.Frag) : List V → Hp → VK → Prop := fun xs H Q => rLen K xs H Q ∨ rLenD xs H Q ∨ rLenT xs H Q
def rAbsA : List V → Hp → VK → Prop := fun xs H Q => ∃ i, xs = [V.int i] ∧ Q (.int (if i < 0 then -i else i)) H
def rStrA : List V → Hp → VK → Prop := fun xs H Q => ∃ i : Int, xs = [V.int i] ∧ i.natAbs.log2 < 1920 ∧ Q (.str (toString i)) H
def rIsiA (K : PySem.W.Frag) : List V → Hp → VK → Prop := fun xs H Q => rIsi K xs H Q ∨ rIsiT K xs H Q
def rListA (K : PySem.W.Frag) : List V → Hp → VK → Prop := fun xs H Q => (∃ p ys, xs = [V.ref p] ∧ (SqL K H p ys ∨ SqT K H p ys) ∧ ∀ l, H l = none → Q (.ref l) (upd H l (.lst ys))) ∨
  ∃ (a : Addr) (kvs : List (Key × V)), xs = [V.ref a] ∧ Rd H a (.dK kvs) ∧ ∀ p, H p = none → Q (.ref p) (upd H p (.lst (kvs.map fun kv => kV kv.1)))
def rDictA : List V → Hp → VK → Prop := fun xs H Q => ∃ (a : Addr) (kvs : List (Key × V)), xs = [V.ref a] ∧ Rd H a (.dK kvs) ∧ ∀ p, H p = none → Q (.ref p) (upd H p (.dK kvs))
def rInsA : V → List V → Hp → VK → Prop := fun x vs H Q => ∃ (l : Addr) (xs : List V) (i : Int) (y : V), x = .ref l ∧ vs = [.int i, y] ∧ H l = some (.lst xs) ∧ xs.length < sizeLine ∧ 0 ≤ i ∧ i < 2 ^ 63 ∧ Q .non (upd H l (.lst (xs.take i.toNat ++ [y] ++ xs.drop i.toNat)))
def rIntA : List V → Hp → VK → Prop := fun xs H Q => (∃ i, xs = [V.int i] ∧ Q (.int i) H) ∨ (∃ k, xs = [V.bl k] ∧ Q (.int (if k then 1 else 0)) H) ∨ ∃ a n, xs = [V.str a] ∧ PySem.intText? a = some n ∧ a.length ≤ 640 ∧ Q (.int n) H
section
variable {X : Cx}
theorem op_addA : OpR X (binaryOp .Add) (rAddA X.K) := op_add.or (op_add_str.or (op_cat.or op_catT))
theorem foldl_cps (l : List (Array Nat)) (acc : Array Nat) : (l.foldl (· ++ ·) acc).toList = acc.toList ++ (l.map (·.toList)).flatten := by
  induction l generalizing acc with
  | nil => simp
  | cons a r ih => rw [List.foldl_cons, ih, Array.toList_append, List.map_cons, List.flatten_cons, List.append_assoc]
theorem mul_repS (a : Str) (n : Int) : Txt.mul a n = repS a n := by
  have g : ∀ x y : Str, x.cps.toList = y.cps.toList → x = y := fun x y h => by
    obtain ⟨⟨x⟩⟩ := x
    obtain ⟨⟨y⟩⟩ := y
    have h : x = y := h
    rw [h]
  refine g _ _ ?_
  unfold Txt.mul repS
  by_cases h1 : n < 1
  · rw [if_pos h1, show n.toNat = 0 by omega]
    rfl
  · rw [if_neg h1]
    by_cases h2 : (n == 1 || a.length == 0) = true
    · rw [if_pos h2]
      rcases Bool.or_eq_true_iff.mp h2 with h | h
      · have h : n = 1 := by simpa using h
        subst h
        simp
      · have h : a.length = 0 := by simpa using h
        have e : a.cps.toList = [] := by
          have h : a.cps.size = 0 := h
          have : a.cps.toList.length = 0 := by simpa using h
          exact List.eq_nil_of_length_eq_zero this
        rw [e]
        simp
    · rw [if_neg h2]
      show (List.foldl (· ++ ·) #[] (List.replicate n.toNat a.cps)).toList = _
      rw [foldl_cps, List.map_replicate]
      simp
theorem op_repS : OpR X (binaryOp .Mult) rRepS := by
  intro pins s σ H x y v u Q I rx ry h
  obtain ⟨a, n, rfl, rfl, ha, hn, hm, q⟩ := h
  obtain ⟨t, rfl⟩ := rx
  obtain ⟨t', rfl⟩ := ry
  have hb : a.length * n.toNat ≤ 16000000 := Nat.le_trans (Nat.mul_le_mul ha (show n.toNat ≤ 4000 by omega)) (by decide)
  refine SB.mul ⟨?_, fun h1 _ => ?_, fun _ _ => ?_⟩ fun t2 k => ⟨.str (repS a n), H, I.tok k, ⟨t2, by rw [mul_repS]⟩, q⟩
  · rw [decide_eq_false (by omega), decide_eq_false (by omega)]
    rfl
  · have h2 : (9223372036854775807 : Int) / 4000 ≤ 9223372036854775807 / n := by
      refine (Int.le_ediv_iff_mul_le (by omega)).mpr ?_
      omega
    have h3 : (2 ^ 63 - 1 : Int) = 9223372036854775807 := rfl
    rw [h3]
    omega
  · unfold Builtin.Str.tooLong
    refine decide_eq_false ?_
    have : sizeLine = 16777216 := sizeLine_eq
    omega
theorem op_mulA : OpR X (binaryOp .Mult) (rMulA X.K) := op_mulW.or (op_rep.or op_repS)
theorem op_fdivA : OpR X (binaryOp .FloorDiv) rDivA := op_fdivN.or op_fdivW
theorem hits_same {A : Around} {s : Shared} {kvs : List (Key × V)} {vb : List (Key × Value)} (rb : KV kvs vb) {ks : List (Key × V)} {va : List (Key × Value)} (ra : KV ks va) :
    (∀ p ∈ ks, valV kvs p.1 = some p.2 ∧ sameV p.2) → PySem.W.KeqHits A s vb va true := by
  unfold KV at ra
  induction ra with
  | nil => intro _; exact .nil
  | @cons p q ps qs h t ih =>
    intro hp
    obtain ⟨h1, h2⟩ := h
    obtain ⟨e, f⟩ := hp p List.mem_cons_self
    have rr : RelO (some p.2) (valueAt vb p.1) := by rw [← e]; exact rb.val p.1
    obtain ⟨y, hy, ry⟩ := rr.some_of
    obtain ⟨k, v⟩ := q
    have h1' : p.1 = k := h1
    rw [h1'] at hy
    show PySem.W.KeqHits A s vb ((k, v) :: qs) (true && true)
    refine .hit hy ?_ (ih fun p' hm => hp p' (List.mem_cons_of_mem _ hm))
    rcases f with f | ⟨a, ea⟩
    · exact eqAt_same h2 ry f
    · have h2 : RelV p.2 v := h2
      rw [ea] at h2 ry
      cases (show v = Value.ref a from h2)
      cases (show y = Value.ref a from ry)
      exact SeqAt.EqAt.same _
theorem op_eqKn (hu : X.A.units < cLine) : OpR X (compareOp .Eq) (rEqKn false) := by
  intro pins s σ H x y v u Q I rx ry h
  obtain ⟨a, b, ks, ls, rfl, rfl, ea, eb, hp, q⟩ := h
  obtain rfl : v = Value.ref a := rx
  obtain rfl : u = Value.ref b := ry
  obtain ⟨_, ya, va, ra, da⟩ := (show ObjOk X.prog X.w H s.heap a (.dK ks) from I.hok a _ ea)
  obtain ⟨_, yb, vb, rb, db⟩ := (show ObjOk X.prog X.w H s.heap b (.dK ls) from I.hok b _ eb)
  have la : ks.length = va.length := ra.length
  have lb : ls.length = vb.length := rb.length
  exact PySem.W.keq_eq (knd := mixKind X.prog X.w) (r := true) ya yb da db hu (fun e => hits_same rb ra (hp (by omega))) (fin_bl I q (by rw [la, lb]; simp only [Bool.and_true, Bool.false_eq_true, if_false, if_true]; rfl))
theorem op_neKn (hu : X.A.units < cLine) : OpR X (compareOp .NotEq) (rEqKn true) := by
  intro pins s σ H x y v u Q I rx ry h
  obtain ⟨a, b, ks, ls, rfl, rfl, ea, eb, hp, q⟩ := h
  obtain rfl : v = Value.ref a := rx
  obtain rfl : u = Value.ref b := ry
  obtain ⟨_, ya, va, ra, da⟩ := (show ObjOk X.prog X.w H s.heap a (.dK ks) from I.hok a _ ea)
  obtain ⟨_, yb, vb, rb, db⟩ := (show ObjOk X.prog X.w H s.heap b (.dK ls) from I.hok b _ eb)
  have la : ks.length = va.length := ra.length
  have lb : ls.length = vb.length := rb.length
  exact PySem.W.keq_ne (knd := mixKind X.prog X.w) (r := true) ya yb da db hu (fun e => hits_same rb ra (hp (by omega))) (fin_bl I q (by rw [la, lb]; simp only [Bool.and_true, Bool.false_eq_true, if_false, if_true]; rfl))
theorem op_eqA (hu : X.A.units + 65 < cLine) : OpR X (compareOp .Eq) (rEqA X.K) := op_eq.or ((op_eqD (by omega)).or (op_eqKn (by omega)))
theorem op_neA (hu : X.A.units + 65 < cLine) : OpR X (compareOp .NotEq) (rNeA X.K) := op_ne.or ((op_neD (by omega)).or (op_neKn (by omega)))
theorem op_inDict (hu : X.A.units + 65 < cLine) : OpR X (compareOp .In) (rInDict false) := by
  intro pins s σ H x y v u Q I rx ry h
  obtain ⟨a, o, rfl, g, q⟩ := h
  cases ry
  exact d_in (by omega) I g rx fun s' I' => ⟨.bl o.isSome, H, I', rfl, q⟩
theorem op_ninDict (hu : X.A.units + 65 < cLine) : OpR X (compareOp .NotIn) (rInDict true) := by
  intro pins s σ H x y v u Q I rx ry h
  obtain ⟨a, o, rfl, g, q⟩ := h
  cases ry
  exact d_notIn (by omega) I g rx fun s' I' => ⟨.bl (!o.isSome), H, I', rfl, q⟩
theorem op_inStr : OpR X (compareOp .In) (rInStr false) := op_in_sign
theorem op_ninStr : OpR X (compareOp .NotIn) (rInStr true) := op_notIn_sign
theorem op_inA (hu : X.A.units + 65 < cLine) : OpR X (compareOp .In) (rInA X.K) := op_inStr.or ((op_inDict hu).or (op_in_seq.or (op_inD hu)))
theorem op_ninA (hu : X.A.units + 65 < cLine) : OpR X (compareOp .NotIn) (rNinA X.K) := op_ninStr.or ((op_ninDict hu).or (op_notIn_seq.or (op_notInD hu)))
theorem op_isA : OpR X (compareOp .Is) rIsA := op_isN.or op_isBl
theorem op_isnA : OpR X (compareOp .IsNot) rIsnA := op_notN.or op_notBl
theorem ix_dict (hu : X.A.units + 65 < cLine) : IxR X rIxD := by
  intro value slice pins s σ H x y v u Q I rx ry h hs
  obtain ⟨a, w, rfl, g, q⟩ := h
  cases rx
  refine tail_any (dict_typeIs I g) PySem.F.slot_dict_getitem.lookup (d_getItem (by omega) I g ry fun w' s' I' r' => ⟨w, H, I', r', q⟩) hs
theorem ix_A (hu : X.A.units + 65 < cLine) : IxR X (rIxA X.K) := ix_seq.or (ix_dict hu)
theorem set_A (hu : X.A.units + 65 < cLine) : PSet X rSetA := by
  intro pins s σ H o i v ov iv u Q I ro ri rv h
  rcases h with h | ⟨a, H', rfl, g, q⟩
  · exact set_list pins s σ H o i v ov iv u Q I ro ri rv h
  · cases ro
    exact d_setItem (by omega) I g ri rv fun s' I' => ⟨H', I', q⟩
theorem sl_A : SlR X (rSlA X.K) := sl_list.or (sl_tup.or sl_str)
theorem call_lenA : CallR X (.builtin "len") (rLenA X.K) := call_len.or (call_lenD.or call_len_dT)
theorem call_isiA : CallR X (.builtin "isinstance") (rIsiA X.K) := call_isi.or call_isiT
theorem call_listA (hc : X.calm = true) : CallR X (.type "list") (rListA X.K) := call_list_of.or (call_listD hc)
theorem call_dictA (hc : X.calm = true) : CallR X (.type "dict") rDictA := call_dictD
theorem call_intA : CallR X (.type "int") rIntA := by
  intro pins s σ H xs us Q I r h
  rcases h with h | h | h
  · exact call_int1 pins s σ H xs us Q I r (.inl h)
  · exact call_int1 pins s σ H xs us Q I r (.inr h)
  · exact call_int_str pins s σ H xs us Q I r h
end
/-! ### built-in types of values -/
def tyO : Option HO → Option String
  | some (.lst _) => some "list"
  | some (.tup _) => some "tuple"
  | some (.dK _) => some "dict"
  | some (.dT _) => some "dict"
  | some (.frz _ (.lst _)) => some "list"
  | _ => none
def tyN (H : Hp) : V → Option String
  | .non => some "NoneType"
  | .bl _ => some "bool"
  | .int _ => some "int"
  | .str _ => some "str"
  | .ref a => tyO (H a)
  | _ => none
def kinds : List String := ["NoneType", "bool", "int", "str", "list", "tuple", "dict"]
def asked : List String := ["bool", "int", "str", "list", "tuple", "dict"]
def isiB (n c : String) : Bool := n == c || (n == "bool" && c == "int")
theorem tyN_ex {H H' : Hp} {x : V} {n : String} (e : Ex H H') (h : tyN H x = some n) : tyN H' x = some n := by
  cases x with
  | ref a =>
    have h : tyO (H a) = some n := h
    show tyO (H' a) = some n
    cases q : H a with
    | none => rw [q] at h; cases h
    | some o => rw [e a o q, ← q]; exact h
  | _ => exact h
theorem tyX_of {K : PySem.W.Frag} {H : Hp} {x : V} {n : String} (h : tyN H x = some n) : TyX K H x (.type n) := by
  cases x with
  | non => cases h; exact .base .non
  | bl b => cases h; exact .base (.bl b)
  | int i => cases h; exact .base (.int i)
  | str z => cases h; exact .base (.str z)
  | ref a =>
    have h : tyO (H a) = some n := h
    cases q : H a with
    | none => rw [q] at h; cases h
    | some o =>
      rw [q] at h
      unfold tyO at h
      split at h
      · rename_i w; cases w; cases h; exact .base (.lst q)
      · rename_i w; cases w; cases h; exact .base (.tup q)
      · rename_i w; cases w; cases h; exact .base (.dK q)
      · rename_i w; cases w; cases h; exact .base (.dT q)
      · rename_i w; cases w; cases h; exact .base (.frz q)
      · cases h
  | _ => cases h
theorem tyO_mem {o : Option HO} {n : String} (h : tyO o = some n) : n ∈ kinds := by
  unfold tyO at h
  split at h <;> first | (cases h; decide) | cases h
theorem tyN_mem {H : Hp} {x : V} {n : String} (h : tyN H x = some n) : n ∈ kinds := by
  cases x with
  | ref a => exact tyO_mem h
  | _ => first | (cases h; decide) | cases h
theorem kit_all : ∀ n ∈ kinds, ∀ c ∈ asked, kitB n c = some (isiB n c) := by decide +kernel

section
variable {K : PySem.W.Frag} {σ : L2.St} {H H' : Hp} {ta tb te tx : TE} {t u : TT} {x y z v : V} {r r' : R2}
theorem rc_isi {n c : String} (h : tyN H x = some n) (hc : c ∈ asked := by decide) : RC (rIsiA K) [x, .ty c] H (.bl (isiB n c)) := fun H1 e Q q =>
  .inl ⟨x, .ty c, .type n, .type c, isiB n c, rfl, .ty c, tyX_of (tyN_ex e h), kit_ty (kit_all n (tyN_mem h) c hc), q H1 (Ex.refl H1)⟩
theorem ev_cb {r : List V → Hp → VK → Prop} {ta : TA} {vs : List V} (ha : EvA ta σ H vs) (hr : RC r vs H z) : Ev (tCB r ta) σ H z := fun H1 e Q q =>
  ha H1 e _ fun H2 e2 => hr H2 (e.trans e2) Q fun H3 e3 => q H3 (e2.trans e3)
theorem ev_isi {n c : String} (ha : Ev ta σ H x) (h : tyN H x = some n) (hc : c ∈ asked := by decide) : Ev (tCB (rIsiA K) (tCons ta (tCons (tC (.ty c)) tNil))) σ H (.bl (isiB n c)) :=
  ev_cb (ea_cons ha (ea_cons ev_c ea_nil)) (rc_isi h hc)
/-- a op b op' c -/
theorem ev_chain {k : Bool} {w : V} (ha : Ev ta σ H x) (hb : Ev tb σ H y) (hr : RV r x y H (.bl k)) (h0 : k = false → w = .bl false) (h1 : k = true → ∃ z, Ev tx σ H z ∧ RV r' y z H w) : Ev (tChain r r' ta tb tx) σ H w := fun H1 e Q q =>
  ha H1 e _ fun H2 e2 => hb H2 (e.trans e2) _ fun H3 e3 => hr H3 ((e.trans e2).trans e3) _ fun H4 e4 => ⟨k, rfl, by
    have E4 : Ex H H4 := ((e.trans e2).trans e3).trans e4
    have F4 : Ex H1 H4 := (e2.trans e3).trans e4
    cases k with
    | true =>
      obtain ⟨z, hz, hw⟩ := h1 rfl
      show tx σ H4 _
      exact hz H4 E4 _ fun H5 e5 => hw H5 (E4.trans e5) Q fun H6 e6 => q H6 ((F4.trans e5).trans e6)
    | false =>
      show Q (.bl false) H4
      rw [← h0 rfl]
      exact q H4 F4⟩
/-- two comparisons of ints -/
theorem ev_chainI {g g' : Int → Int → Bool} {i j k : Int} (ha : Ev ta σ H (.int i)) (hb : Ev tb σ H (.int j)) (hc : Ev tx σ H (.int k)) :
    Ev (tChain (rI0 fun a b => .bl (g a b)) (rI0 fun a b => .bl (g' a b)) ta tb tx) σ H (.bl (g i j && g' j k)) :=
  ev_chain (k := g i j) ha hb rv_I0 (fun h => by rw [h]; rfl) fun h => ⟨.int k, hc, by rw [h]; exact rv_I0⟩
theorem rc_lenS {w : Str} (h : w.length ≤ 100000) : RC (rLenA K) [.str w] H (.int w.length) := fun H1 _ _ q => .inl ⟨.str w, w.length, rfl, ⟨sz_of h, rfl⟩, q H1 (Ex.refl H1)⟩
theorem rc_lenL {p : Addr} {xs : List V} (h : SqL K H p xs) : RC (rLenA K) [.ref p] H (.int xs.length) := fun H1 e _ q => .inl ⟨.ref p, xs.length, rfl, .inl ⟨xs, ex_l e h, rfl⟩, q H1 (Ex.refl H1)⟩
theorem rc_lenT {p : Addr} {xs : List V} (h : SqT K H p xs) : RC (rLenA K) [.ref p] H (.int xs.length) := fun H1 e _ q => .inl ⟨.ref p, xs.length, rfl, .inr ⟨xs, ex_t e h, rfl⟩, q H1 (Ex.refl H1)⟩
theorem ev_lenV {n : Nat} (ha : Ev ta σ H x) (hr : RC (rLenA K) [x] H (.int n)) : Ev (tCB (rLenA K) (tCons ta tNil)) σ H (.int n) := ev_cb (ea_cons ha ea_nil) hr
/-- all(..) of a list of truths that is made on the way -/
theorem ev_all {bs : List Bool} (ha : EvL ta σ H (bs.map V.bl)) : Ev (tCB (rAll K) (tCons ta tNil)) σ H (.bl (bs.all id)) := fun H1 e Q q =>
  ha H1 e _ fun p H2 _ e2 h2 => ⟨p, bs, rfl, sq_of h2, q H2 e2⟩
/-- a comprehension over a text -/
theorem el_lcS {a : Str} {tl : TE} {j : Nat} {vs : List Nat} (f : Nat → Bool) (v : Nat → V) (h : Ev tl σ H (.str a)) (hz : a.cps.size ≤ 40000) (hw : ∀ x, wipe ((wipe σ vs).set j (some x)) vs = wipe σ vs)
    (ht : ∀ (i : Nat) (c : Nat) H1, Ex H H1 → a.cps[i]? = some c → EvT t ((wipe σ vs).set j (some (.str ⟨#[c]⟩))) H1 (f i)) (he : ∀ (i : Nat) (c : Nat) H1, Ex H H1 → a.cps[i]? = some c → f i = true → Ev te ((wipe σ vs).set j (some (.str ⟨#[c]⟩))) H1 (v i)) :
    EvL (tLc (iStr tl) (gName j) t te vs) σ H (given a.cps.size f v) := fun H0 e Q q => h H0 e _ fun H1 e1 => ⟨a, rfl, fun Dl hD => by
  refine ⟨fun i m H' => m = a.cps.size - i ∧ i ≤ a.cps.size ∧ Cw H1 f v Dl i H', ⟨a.cps.size, by simp, Nat.zero_le _, hD, Ex.new hD, upd_same⟩, ?_⟩
  rintro i m H' ⟨rfl, hi, p⟩
  by_cases hlt : i < a.cps.size
  · refine .inr ⟨hlt, fun H2 => Cw H1 f v Dl (i + 1) H2, fun H2 p2 => ⟨a.cps.size - (i + 1), by omega, rfl, hlt, p2⟩, ?_⟩
    rintro x2 H2 ⟨rfl, c, hc, rfl⟩
    exact ⟨hw _, cw_turn p (by omega) (ht i c H1 (e.trans e1) hc) (fun hf => he i c H1 (e.trans e1) hc hf)⟩
  · have e0 : i = a.cps.size := by omega
    subst e0
    exact .inl ⟨Nat.le_refl _, q Dl H' (fresh_back e1 p.1) (e1.trans p.2.1) p.2.2⟩⟩
end
end Z

set_option Elab.async false
set_option linter.all false
set_option autoImplicit false
set_option maxRecDepth 100000
set_option maxHeartbeats 4000000
namespace Z
open PySem PySem.Spec PyProof.Rows L2 Evl
/-! ### a def that may be called: its promise, its name, its place -/
structure Cal (P : Program) (w : World) (K : PySem.W.Frag) (mg : Str → Option Value) (base : Heap) (k : Nat) (x : Str) (f : Addr) (ps : List Str) (sp : Sp) : Prop where
  ex : ∃ fd, FnOk P w K mg base (L2.CX P w) k f fd ps sp ∧ Binds K fd ps []
  mg : mg x = some (.ref f)
  kp : PySem.W.keepIn K (.ref f) = true
section
variable {X : Cx} {W : WX} {k : Nat} {f : Addr} {ps : List Str} {sp : Sp} {x : Str} {p pos : Pos} {e : Expr} {es : List Expr} {t : TA}
theorem pe_cal (C : Cal X.prog X.w X.K X.mg X.base k x f ps sp) (hr : Room k X.A) (tk : Takes X W) (ha : PA X (e :: es) t) (hg : Gl X x := by rfl) (hdb : (x == ("__debug__" : Str)) = false := by decide)
    (he : starEach (e :: es) X.env = (false, eval e X.env) :: starEach es X.env := by rfl) (hpl : (backTo pos (starEach es X.env)).any (·.1) = false := by rfl) :
    PE X (.Call (.Name x p) (e :: es) [] pos) (tCallS sp (WE W) t) := by
  obtain ⟨fd, F, b⟩ := C.ex
  exact pe_callS F hr hg C.mg C.kp b (fun σ => passAt tk σ) ha hdb he hpl
theorem pe_calB (C : Cal X.prog X.w X.K X.mg X.base k x f ps sp) (hr : Room k X.A) (ha : PA X (e :: es) t) (hg : Gl X x := by rfl) (hdb : (x == ("__debug__" : Str)) = false := by decide)
    (he : starEach (e :: es) X.env = (false, eval e X.env) :: starEach es X.env := by rfl) (hpl : (backTo pos (starEach es X.env)).any (·.1) = false := by rfl) :
    PE X (.Call (.Name x p) (e :: es) [] pos) (tCall sp [] E0 t) := by
  obtain ⟨fd, F, b⟩ := C.ex
  exact pe_call F hr hg C.mg C.kp b .nil passL ha hdb he hpl
end
theorem hu65 {A : Around} {k : Nat} (hr : Room k A) : A.units + 65 < cLine := by have := hr.un; omega
/-- a body and its reading make a def's promise -/
theorem cal_of {P : Program} {w : World} {K : PySem.W.Frag} {mg : Str → Option Value} {base : Heap} {st : Stmt} {x : Str} {f : Addr} {fd : FuncData} {N ps : List Str} {k : Nat} {sp : Sp} (F : Fun K x x st f fd) (S : FnScope N ps (defScope st)) (hm : mg x = some (.ref f)) (hb : Binds K fd ps [])
    (len : ∀ vs H Q E, sp vs H Q E → vs.length = ps.length) (t : XK → TS)
    (d : ∀ (cdv : Value) (A : Around) (outer : List Env) (s : Shared) (H : Hp) (E : XK), Room k (A.deeper (envOfC x (defScope st) s.heap.objs.size f cdv)) → PSs (cxOf (L2.CX P w) P w K mg base N x (defScope st) f cdv A outer s H E) (defBody st) (t E))
    (r : ∀ (vs : List V) (H : Hp) (Q : VK) (E : XK), sp vs H Q E → t E { nx := fun _ H' => Q .non H', rt := Q } (L2.start N vs) H) : Cal P w K mg base (k + 1) x f ps sp :=
  ⟨⟨fd, F.okX S len fun cdv A outer s H vs Q E hr h => ⟨t E, d cdv A outer s H E hr, r vs H Q E h⟩, hb⟩, hm, F.kp⟩

/-- the law itself -/
theorem fnx_of {P : Program} {w : World} {K : PySem.W.Frag} {mg : Str → Option Value} {base : Heap} {st : Stmt} {x : Str} {f : Addr} {fd : FuncData} {N ps : List Str} {k : Nat} {sp : Sp} (F : Fun K x x st f fd) (S : FnScope N ps (defScope st))
    (len : ∀ vs H Q E, sp vs H Q E → vs.length = ps.length) (t : XK → TS)
    (d : ∀ (cdv : Value) (A : Around) (outer : List Env) (s : Shared) (H : Hp) (E : XK), Room k (A.deeper (envOfC x (defScope st) s.heap.objs.size f cdv)) → PSs (cxOf (L2.CX P w) P w K mg base N x (defScope st) f cdv A outer s H E) (defBody st) (t E))
    (r : ∀ (vs : List V) (H : Hp) (Q : VK) (E : XK), sp vs H Q E → t E { nx := fun _ H' => Q .non H', rt := Q } (L2.start N vs) H) : FnOk P w K mg base (L2.CX P w) (k + 1) f fd ps sp :=
  F.okX S len fun cdv A outer s H vs Q E hr h => ⟨t E, d cdv A outer s H E hr, r vs H Q E h⟩
theorem cx_no {P : Program} {w : World} {H : Hp} {s : Shared} {e : Value} {s' : Shared} (h : L2.CX P w [] H s (fun _ _ _ => False) e s') : False := by
  obtain ⟨_, _, _, _, _, _, _, _, _, _, _, _, z⟩ := h
  exact z
section
variable {K : PySem.W.Frag} {σ : L2.St} {H H' : Hp} {ta tb te tx : TE} {t u : TT} {x y z v : V} {r r' : R2} {D : Ends}
/-! ### what the operators give -/
theorem rv_addI {i j : Int} : RV (rAddA K) (.int i) (.int j) H (.int (i + j)) := fun H1 _ _ q => .inl ⟨i, j, rfl, rfl, q H1 (Ex.refl H1)⟩
theorem rv_addS {i j : Str} (h : i.length + j.length ≤ 100000) : RV (rAddA K) (.str i) (.str j) H (.str (i ++ j)) := fun H1 _ _ q => .inr (.inl ⟨i, j, rfl, rfl, sz_of h, q H1 (Ex.refl H1)⟩)
theorem rv_subI {i j : Int} : RV rSubA (.int i) (.int j) H (.int (i - j)) := fun H1 _ _ q => ⟨i, j, rfl, rfl, q H1 (Ex.refl H1)⟩
theorem rv_lt {i j : Int} : RV rLtA (.int i) (.int j) H (.bl (decide (i < j))) := fun H1 _ _ q => ⟨i, j, rfl, rfl, q H1 (Ex.refl H1)⟩
theorem rv_le {i j : Int} : RV rLeA (.int i) (.int j) H (.bl (decide (i ≤ j))) := fun H1 _ _ q => ⟨i, j, rfl, rfl, q H1 (Ex.refl H1)⟩
theorem rv_gt {i j : Int} : RV rGtA (.int i) (.int j) H (.bl (decide (j < i))) := fun H1 _ _ q => ⟨i, j, rfl, rfl, q H1 (Ex.refl H1)⟩
theorem rv_ge {i j : Int} : RV rGeA (.int i) (.int j) H (.bl (decide (j ≤ i))) := fun H1 _ _ q => ⟨i, j, rfl, rfl, q H1 (Ex.refl H1)⟩
theorem rv_mod {i j : Int} (h : 0 < j) : RV rModA (.int i) (.int j) H (.int (i % j)) := fun H1 _ Q q => ⟨i, j, rfl, rfl, by omega, by
  show Q (.int (i.fmod j)) H1
  rw [Int.fmod_eq_emod_of_nonneg i (by omega)]
  exact q H1 (Ex.refl H1)⟩
theorem rv_div {i j : Int} (h : 0 < j ∧ j < 1073741824) : RV rDivA (.int i) (.int j) H (.int (i / j)) := fun H1 _ Q q => .inl ⟨i, j, rfl, rfl, ⟨by omega, by omega⟩, by
  show Q (.int (i.fdiv j)) H1
  rw [Int.fdiv_eq_ediv_of_nonneg i (by omega)]
  exact q H1 (Ex.refl H1)⟩
theorem rv_mulI {i j : Int} (h : CMulW i j) : RV (rMulA K) (.int i) (.int j) H (.int (i * j)) := fun H1 _ _ q => .inl ⟨i, j, rfl, rfl, h, q H1 (Ex.refl H1)⟩
theorem rv_rep {a : Str} {n : Int} (ha : a.length ≤ 4000) (hn : -1000 ≤ n ∧ n ≤ 4000) : RV (rMulA K) (.str a) (.int n) H (.str (repS a n)) := fun H1 _ _ q => .inr (.inr ⟨a, n, rfl, rfl, ha, hn.1, hn.2, q H1 (Ex.refl H1)⟩)
theorem rv_pow {i j : Int} (h : 0 ≤ j ∧ j ≤ 1000000 ∧ i.natAbs < 2 ^ 64) : RV rPowA (.int i) (.int j) H (.int (i ^ j.toNat)) := fun H1 _ _ q => ⟨i, j, rfl, rfl, h, q H1 (Ex.refl H1)⟩
theorem rv_eqS (h : scal x y = true) : RV (rEqA K) x y H (.bl (decide (x = y))) := fun H1 _ _ q => .inl ⟨h, q H1 (Ex.refl H1)⟩
theorem rv_neS (h : scal x y = true) : RV (rNeA K) x y H (.bl (!decide (x = y))) := fun H1 _ _ q => .inl ⟨h, q H1 (Ex.refl H1)⟩
theorem rv_isN : RV rIsA x .non H (.bl (decide (x = .non))) := fun H1 _ _ q => .inl ⟨rfl, q H1 (Ex.refl H1)⟩
theorem rv_isnN : RV rIsnA x .non H (.bl (!decide (x = .non))) := fun H1 _ _ q => .inl ⟨rfl, q H1 (Ex.refl H1)⟩
theorem rv_isB {a b : Bool} : RV rIsA (.bl a) (.bl b) H (.bl (decide (a = b))) := fun H1 _ _ q => .inr ⟨a, b, rfl, rfl, q H1 (Ex.refl H1)⟩
theorem rv_isnB {a b : Bool} : RV rIsnA (.bl a) (.bl b) H (.bl (!decide (a = b))) := fun H1 _ _ q => .inr ⟨a, b, rfl, rfl, q H1 (Ex.refl H1)⟩
theorem rv_inStr {c : Nat} {w : Str} : RV (rInA K) (.str ⟨#[c]⟩) (.str w) H (.bl (decide (c ∈ w.cps.toList))) := fun H1 _ _ q => .inl ⟨c, w, rfl, rfl, q H1 (Ex.refl H1)⟩
theorem rv_ninStr {c : Nat} {w : Str} : RV (rNinA K) (.str ⟨#[c]⟩) (.str w) H (.bl (!decide (c ∈ w.cps.toList))) := fun H1 _ _ q => .inl ⟨c, w, rfl, rfl, q H1 (Ex.refl H1)⟩
theorem rv_itL {p : Addr} {xs : List V} {i : Int} (h : SqL K H p xs) (ha : atI xs i = some v) : RV (rIxA K) (.ref p) (.int i) H v := fun H1 e _ q => .inl (.inl ⟨p, xs, i, v, rfl, rfl, ex_l e h, ha, q H1 (Ex.refl H1)⟩)
theorem rv_itT {p : Addr} {xs : List V} {i : Int} (h : SqT K H p xs) (ha : atI xs i = some v) : RV (rIxA K) (.ref p) (.int i) H v := fun H1 e _ q => .inl (.inr (.inl ⟨p, xs, i, v, rfl, rfl, ex_t e h, ha, q H1 (Ex.refl H1)⟩))
theorem rv_itS {w : Str} {i : Int} {c : Nat} (h : w.length ≤ 100000) (ha : atI w.cps.toList i = some c) : RV (rIxA K) (.str w) (.int i) H (.str ⟨#[c]⟩) := fun H1 _ _ q => .inl (.inr (.inr ⟨w, i, c, rfl, rfl, sz_of h, ha, q H1 (Ex.refl H1)⟩))
theorem rc_str {i : Int} (h : i.natAbs.log2 < 1920) : RC rStrA [.int i] H (.str (Str.ofString (toString i))) := fun H1 _ _ q => ⟨i, rfl, h, q H1 (Ex.refl H1)⟩
theorem rc_abs {i : Int} : RC rAbsA [.int i] H (.int (if i < 0 then -i else i)) := fun H1 _ _ q => ⟨i, rfl, q H1 (Ex.refl H1)⟩
theorem ev_callS {sp : Sp} {vs : List V} {E : L2.St → XK} {ta : TA} (h : EvA ta σ H vs) (hs : SpV sp vs H z) : Ev (tCallS sp E ta) σ H z := fun H1 e Q q =>
  h H1 e _ fun H2 e2 => hs H2 (e.trans e2) Q (fun H3 e3 => q H3 (e2.trans e3)) (E σ)
/-- a word between a statement and what follows -/
theorem q_cut2 {tu tz : TS} {M : L2.St → Hp → Prop} (h : ∀ nx : L2.St → Hp → Prop, (∀ σ' H', M σ' H' → nx σ' H') → tu { D with nx := nx } σ H) (k : ∀ σ' H', M σ' H' → tz D σ' H') : tSeq tu tz D σ H := h _ k
/-- a call, by its promise -/
theorem q_callS {sp : Sp} {vs : List V} {E : L2.St → XK} {ta : TA} {i : Nat} {tz : TS} (h : EvA ta σ H vs) (k : ∀ H1, Ex H H1 → sp vs H1 (fun v H2 => tz D (σ.set i (some v)) H2) (E σ)) : tSeq (tAsg (tCallS sp E ta) (gName i)) tz D σ H := h H (Ex.refl H) _ k
theorem s_callS {sp : Sp} {vs : List V} {E : L2.St → XK} {ta : TA} {i : Nat} (h : EvA ta σ H vs) (k : ∀ H1, Ex H H1 → sp vs H1 (fun v H2 => D.nx (σ.set i (some v)) H2) (E σ)) : tAsg (tCallS sp E ta) (gName i) D σ H := h H (Ex.refl H) _ k
theorem s_retS {sp : Sp} {vs : List V} {E : L2.St → XK} {ta : TA} (h : EvA ta σ H vs) (k : ∀ H1, Ex H H1 → sp vs H1 D.rt (E σ)) : tRet (tCallS sp E ta) D σ H := h H (Ex.refl H) _ k
theorem q_dropS {sp : Sp} {vs : List V} {E : L2.St → XK} {ta : TA} {tz : TS} (h : EvA ta σ H vs) (k : ∀ H1, Ex H H1 → sp vs H1 (fun _ H2 => tz D σ H2) (E σ)) : tSeq (tDrop (tCallS sp E ta)) tz D σ H := h H (Ex.refl H) _ k
theorem ev_neg {i : Int} (h : Ev ta σ H (.int i)) : Ev (tUn rNegA ta) σ H (.int (-i)) := ev_un h ru_neg
theorem ev_chainLL {i j k : Int} (ha : Ev ta σ H (.int i)) (hb : Ev tb σ H (.int j)) (hc : Ev tx σ H (.int k)) : Ev (tChain rLeA rLeA ta tb tx) σ H (.bl (decide (i ≤ j) && decide (j ≤ k))) :=
  ev_chainI (g := fun a b => decide (a ≤ b)) (g' := fun a b => decide (a ≤ b)) ha hb hc
theorem ev_chainLt {i j k : Int} (ha : Ev ta σ H (.int i)) (hb : Ev tb σ H (.int j)) (hc : Ev tx σ H (.int k)) : Ev (tChain rLeA rLtA ta tb tx) σ H (.bl (decide (i ≤ j) && decide (j < k))) :=
  ev_chainI (g := fun a b => decide (a ≤ b)) (g' := fun a b => decide (a < b)) ha hb hc
end
end Z

set_option Elab.async false
set_option linter.all false
set_option autoImplicit false
set_option maxRecDepth 100000
set_option maxHeartbeats 4000000
namespace Z
open PySem PySem.Spec PyProof.Rows L2 Evl
/-! ### data: what stands at a value, through and through -/
def kD : Key → PyData
  | .inl i => .int i
  | .inr x => .str x
mutual
inductive Dt (H : Hp) : V → PyData → Prop
  | non : Dt H .non .none
  | bl (b : Bool) : Dt H (.bl b) (.bool b)
  | int (i : Int) : Dt H (.int i) (.int i)
  | str (x : Str) : Dt H (.str x) (.str x)
  | lst {a : Addr} {xs : List V} {ds : List PyData} : H a = some (.lst xs) → DtAll H xs ds → Dt H (.ref a) (.list ds)
  | tup {a : Addr} {xs : List V} {ds : List PyData} : H a = some (.tup xs) → DtAll H xs ds → Dt H (.ref a) (.tuple ds)
  | dct {a : Addr} {kvs : List (Key × V)} {ds : List PyData} : H a = some (.dK kvs) → DtAll H (kvs.map (·.2)) ds → Dt H (.ref a) (.dict ((kvs.map fun kv => kD kv.1).zip ds))
inductive DtAll (H : Hp) : List V → List PyData → Prop
  | nil : DtAll H [] []
  | cons {v : V} {vs : List V} {d : PyData} {ds : List PyData} : Dt H v d → DtAll H vs ds → DtAll H (v :: vs) (d :: ds)
end
mutual
theorem Dt.ex {H H' : Hp} (e : Ex H H') : ∀ {v : V} {d : PyData}, Dt H v d → Dt H' v d
  | _, _, .non => .non
  | _, _, .bl b => .bl b
  | _, _, .int i => .int i
  | _, _, .str x => .str x
  | _, _, .lst h r => .lst (e _ _ h) (DtAll.ex e r)
  | _, _, .tup h r => .tup (e _ _ h) (DtAll.ex e r)
  | _, _, .dct h r => .dct (e _ _ h) (DtAll.ex e r)
theorem DtAll.ex {H H' : Hp} (e : Ex H H') : ∀ {vs : List V} {ds : List PyData}, DtAll H vs ds → DtAll H' vs ds
  | _, _, .nil => .nil
  | _, _, .cons a r => .cons (Dt.ex e a) (DtAll.ex e r)
end
mutual
def noDict : PyData → Bool
  | .list ds => noDicts ds
  | .tuple ds => noDicts ds
  | .dict _ => false
  | _ => true
def noDicts : List PyData → Bool
  | [] => true
  | d :: ds => noDict d && noDicts ds
end
mutual
theorem Dt.dp {K : PySem.W.Frag} {H : Hp} : ∀ {v : V} {d : PyData}, Dt H v d → noDict d = true → Dp K H v d
  | _, _, .non, _ => .non
  | _, _, .bl b, _ => .bl b
  | _, _, .int i, _ => .int i
  | _, _, .str x, _ => .str x
  | _, _, .lst h r, n => .lst (SqL.of h) (DtAll.dp r (by simpa [noDict] using n))
  | _, _, .tup h r, n => .tup (SqT.of h) (DtAll.dp r (by simpa [noDict] using n))
  | _, _, .dct h r, n => by simp [noDict] at n
theorem DtAll.dp {K : PySem.W.Frag} {H : Hp} : ∀ {vs : List V} {ds : List PyData}, DtAll H vs ds → noDicts ds = true → DpAll K H vs ds
  | _, _, .nil, _ => .nil
  | _, _, .cons a r, n => by
    simp only [noDicts, Bool.and_eq_true] at n
    exact .cons (Dt.dp a n.1) (DtAll.dp r n.2)
end
theorem DtAll.length {H : Hp} : ∀ {vs : List V} {ds : List PyData}, DtAll H vs ds → vs.length = ds.length
  | _, _, .nil => rfl
  | _, _, .cons _ r => by rw [List.length_cons, List.length_cons, r.length]
theorem DtAll.get {H : Hp} : ∀ {vs : List V} {ds : List PyData} {i : Nat} {d : PyData}, DtAll H vs ds → ds[i]? = some d → ∃ v, vs[i]? = some v ∧ Dt H v d
  | _, _, i, d, .nil, h => by simp at h
  | _, _, 0, d, .cons (v := v) a r, h => by
    rw [List.getElem?_cons_zero] at h
    cases h
    exact ⟨v, rfl, a⟩
  | _, _, i + 1, d, .cons a r, h => by
    obtain ⟨v, h1, h2⟩ := r.get (i := i) (d := d) (by simpa using h)
    exact ⟨v, by simpa using h1, h2⟩
theorem DtAll.getV {H : Hp} : ∀ {vs : List V} {ds : List PyData} {i : Nat} {v : V}, DtAll H vs ds → vs[i]? = some v → ∃ d, ds[i]? = some d ∧ Dt H v d
  | _, _, i, d, .nil, h => by simp at h
  | _, _, 0, v, .cons (d := d) a r, h => by
    rw [List.getElem?_cons_zero] at h
    cases h
    exact ⟨d, rfl, a⟩
  | _, _, i + 1, v, .cons a r, h => by
    obtain ⟨d, h1, h2⟩ := r.getV (i := i) (v := v) (by simpa using h)
    exact ⟨d, by simpa using h1, h2⟩
theorem DtAll.append {H : Hp} : ∀ {vs ws : List V} {ds es : List PyData}, DtAll H vs ds → DtAll H ws es → DtAll H (vs ++ ws) (ds ++ es)
  | _, _, _, _, .nil, s => s
  | _, _, _, _, .cons a r, s => .cons a (r.append s)
theorem atI_dt {H : Hp} {vs : List V} {ds : List PyData} {i : Int} {d : PyData} (h : DtAll H vs ds) (a : atI ds i = some d) : ∃ v, atI vs i = some v ∧ Dt H v d := by
  unfold atI at a ⊢
  rw [h.length]
  cases q : ixN ds.length i with
  | none => rw [q] at a; cases a
  | some j =>
    rw [q] at a
    exact h.get (show ds[j]? = some d from a)
/-! ### data of a size and depth that is compared -/
structure okS (z : Str) : Prop where
  len : z.length ≤ 30000
  cps : z.cps.all (· < 1114112) = true
theorem okS.app {x y : Str} (hx : okS x) (hy : okS y) (h : x.length + y.length ≤ 30000) : okS (x ++ y) := by
  refine ⟨by rw [Str.length_append]; exact h, ?_⟩
  show (x.cps ++ y.cps).all (· < 1114112) = true
  rw [Array.all_append, hx.cps, hy.cps]
  rfl
theorem okS_S {l : List Nat} (h : l.length ≤ 30000) (hc : ∀ c ∈ l, c < 128) : okS (SX.S l) := by
  refine ⟨by rw [SX.S_len]; exact h, ?_⟩
  show l.toArray.all (· < 1114112) = true
  rw [List.all_toArray]
  exact List.all_eq_true.mpr fun c h => decide_eq_true (by have := hc c h; omega)
theorem S_of (z : Str) : SX.S z.cps.toList = z := SX.S_tl z
theorem okS_of {z : Str} (h : z.length ≤ 30000) (hc : ∀ c ∈ z.cps.toList, c < 128) : okS z := by
  have q : z.cps.toList.length ≤ 30000 := by
    have e : z.cps.toList.length = z.length := by simp [Str.length]
    omega
  have := okS_S q hc
  rw [S_of] at this
  exact this
mutual
def okN : Nat → PyData → Prop
  | _, .str z => okS z
  | n + 1, .list ds => okNs n ds
  | n + 1, .tuple ds => okNs n ds
  | 0, .list _ => False
  | 0, .tuple _ => False
  | _, .dict _ => False
  | _, .none => True
  | _, .bool _ => True
  | _, .int _ => True
def okNs : Nat → List PyData → Prop
  | _, [] => True
  | n, d :: ds => okN n d ∧ okNs n ds
end
theorem okNs_iff {n : Nat} : ∀ {ds : List PyData}, okNs n ds ↔ ∀ d ∈ ds, okN n d
  | [] => by simp [okNs]
  | d :: ds => by
    rw [okNs, okNs_iff]
    simp
mutual
theorem okN_lay : ∀ (n : Nat) (d : PyData), okN n d → d.canLay0 = true ∧ d.depth ≤ n + 1 ∧ noDict d = true
  | n, .str z, h => by
    rw [okN] at h
    refine ⟨?_, by simp [PyData.depth], by simp [noDict]⟩
    simp only [PyData.canLay0]
    exact h.cps
  | n + 1, .list ds, h => by
    rw [okN] at h
    have := okNs_lay n ds h
    refine ⟨by simp only [PyData.canLay0]; exact this.1, ?_, by simp only [noDict]; exact this.2.2⟩
    have := this.2.1
    simp only [PyData.depth]
    omega
  | n + 1, .tuple ds, h => by
    rw [okN] at h
    have := okNs_lay n ds h
    refine ⟨by simp only [PyData.canLay0]; exact this.1, ?_, by simp only [noDict]; exact this.2.2⟩
    have := this.2.1
    simp only [PyData.depth]
    omega
  | 0, .list _, h => by rw [okN] at h; exact h.elim
  | 0, .tuple _, h => by rw [okN] at h; exact h.elim
  | _, .dict _, h => by rw [okN] at h; exact h.elim
  | _, .none, _ => ⟨by simp [PyData.canLay0], by simp [PyData.depth], by simp [noDict]⟩
  | _, .bool _, _ => ⟨by simp [PyData.canLay0], by simp [PyData.depth], by simp [noDict]⟩
  | _, .int _, _ => ⟨by simp [PyData.canLay0], by simp [PyData.depth], by simp [noDict]⟩
theorem okNs_lay : ∀ (n : Nat) (ds : List PyData), okNs n ds → PyData.canLayAll0 ds = true ∧ PyData.depthAll ds ≤ n + 1 ∧ noDicts ds = true
  | _, [], _ => ⟨by simp [PyData.canLayAll0], by simp [PyData.depthAll], by simp [noDicts]⟩
  | n, d :: ds, h => by
    rw [okNs] at h
    have h1 := okN_lay n d h.1
    have h2 := okNs_lay n ds h.2
    refine ⟨by simp only [PyData.canLayAll0, h1.1, h2.1, Bool.and_self], ?_, by simp only [noDicts, h1.2.2, h2.2.2, Bool.and_self]⟩
    have := h1.2.1
    have := h2.2.1
    simp only [PyData.depthAll]
    omega
end
/-- at most ten deep, no dict, texts of at most 30,000 signs -/
def okD (d : PyData) : Prop := okN 10 d
theorem okD.shaped {d : PyData} (h : okD d) : SeqAt.shaped d = true := by
  have := okN_lay 10 d h
  unfold SeqAt.shaped
  rw [this.1, Bool.true_and]
  exact decide_eq_true (by omega)
theorem okD.nd {d : PyData} (h : okD d) : noDict d = true := (okN_lay 10 d h).2.2
/-- the built-in type of data -/
def kindD : PyData → String
  | .none => "NoneType"
  | .bool _ => "bool"
  | .int _ => "int"
  | .str _ => "str"
  | .list _ => "list"
  | .tuple _ => "tuple"
  | .dict _ => "dict"
theorem Dt.ty {H : Hp} {v : V} {d : PyData} (h : Dt H v d) : tyN H v = some (kindD d) := by
  cases h with
  | non => rfl
  | bl b => rfl
  | int i => rfl
  | str x => rfl
  | lst e r => show tyO (H _) = _; rw [e]; rfl
  | tup e r => show tyO (H _) = _; rw [e]; rfl
  | dct e r => show tyO (H _) = _; rw [e]; rfl

/-! ### expressions that evaluate to data -/
def EvD (te : TE) (σ : L2.St) (H : Hp) (d : PyData) : Prop := ∀ H1, Ex H H1 → ∀ Q : VK, (∀ v H2, Ex H1 H2 → Dt H2 v d → Q v H2) → te σ H1 Q
def EvDs (ta : TA) (σ : L2.St) (H : Hp) (ds : List PyData) : Prop := ∀ H1, Ex H H1 → ∀ Q : List V → Hp → Prop, (∀ vs H2, Ex H1 H2 → DtAll H2 vs ds → Q vs H2) → ta σ H1 Q
section
variable {K : PySem.W.Frag} {σ : L2.St} {H H' : Hp} {ta tb te tx : TE} {tas : TA} {t u : TT} {x y z v : V} {d e : PyData} {ds es : List PyData} {D : Ends} {tu tw tz : TS}
theorem EvD.mono (e0 : Ex H H') (h : EvD te σ H d) : EvD te σ H' d := fun H1 a Q q => h H1 (e0.trans a) Q q
theorem ed_ev (h : Ev te σ H v) (r : Dt H v d) : EvD te σ H d := fun H1 e0 Q q => h H1 e0 _ fun H2 e2 => q v H2 e2 (r.ex (e0.trans e2))
theorem ed_i {i : Int} (h : Ev te σ H (.int i)) : EvD te σ H (.int i) := ed_ev h (.int i)
theorem ed_s {i : Str} (h : Ev te σ H (.str i)) : EvD te σ H (.str i) := ed_ev h (.str i)
theorem ed_b {i : Bool} (h : Ev te σ H (.bl i)) : EvD te σ H (.bool i) := ed_ev h (.bl i)
theorem ed_n (h : Ev te σ H .non) : EvD te σ H .none := ed_ev h .non
theorem ed_var {i : Nat} (h : σ[i]? = some (some v)) (r : Dt H v d) : EvD (tVar i) σ H d := ed_ev (ev_var h) r
theorem eds_nil : EvDs tNil σ H [] := fun H1 _ _ q => q [] H1 (Ex.refl H1) .nil
theorem eds_cons (h : EvD ta σ H d) (r : EvDs tas σ H ds) : EvDs (tCons ta tas) σ H (d :: ds) := fun H1 e0 Q q =>
  h H1 e0 _ fun v H2 e2 hv => r H2 (e0.trans e2) _ fun vs H3 e3 hvs => q _ H3 (e2.trans e3) (.cons (hv.ex e3) hvs)
theorem ed_lst (h : EvDs tas σ H ds) (hl : ds.length ≤ 100000 := by simp only [List.length_cons, List.length_nil, List.length_append]; omega) : EvD (tLst tas) σ H (.list ds) := fun H1 e0 Q q =>
  h H1 e0 _ fun vs H2 e2 hvs => ⟨sz_of (by rw [hvs.length]; exact hl), fun p hp => q _ _ (e2.trans (Ex.new hp)) (.lst upd_same (hvs.ex (Ex.new hp)))⟩
theorem ed_tup (h : EvDs tas σ H ds) (hl : ds.length ≤ 100000 := by simp only [List.length_cons, List.length_nil, List.length_append]; omega) : EvD (tTup tas) σ H (.tuple ds) := fun H1 e0 Q q =>
  h H1 e0 _ fun vs H2 e2 hvs => ⟨sz_of (by rw [hvs.length]; exact hl), fun p hp => q _ _ (e2.trans (Ex.new hp)) (.tup upd_same (hvs.ex (Ex.new hp)))⟩
theorem ed_dnew : EvD tDNewK σ H (.dict []) := fun H1 _ Q q p hp => q _ _ (Ex.new hp) (.dct (kvs := []) (ds := []) upd_same .nil)
theorem ed_ixL {i : Int} (h : EvD ta σ H (.list ds)) (hi : Ev tb σ H (.int i)) (a : atI ds i = some d) : EvD (tOp (rIxA K) ta tb) σ H d := fun H1 e0 Q q =>
  h H1 e0 _ fun v H2 e2 hv => hi H2 (e0.trans e2) _ fun H3 e3 => by
    cases hv with
    | lst hl r =>
      obtain ⟨w, h1, h2⟩ := atI_dt r a
      exact .inl (.inl ⟨_, _, i, w, rfl, rfl, SqL.of (e3 _ _ hl), h1, q w H3 (e2.trans e3) (h2.ex e3)⟩)
theorem ed_ixT {i : Int} (h : EvD ta σ H (.tuple ds)) (hi : Ev tb σ H (.int i)) (a : atI ds i = some d) : EvD (tOp (rIxA K) ta tb) σ H d := fun H1 e0 Q q =>
  h H1 e0 _ fun v H2 e2 hv => hi H2 (e0.trans e2) _ fun H3 e3 => by
    cases hv with
    | tup hl r =>
      obtain ⟨w, h1, h2⟩ := atI_dt r a
      exact .inl (.inr (.inl ⟨_, _, i, w, rfl, rfl, SqT.of (e3 _ _ hl), h1, q w H3 (e2.trans e3) (h2.ex e3)⟩))
theorem ed_catL (h : EvD ta σ H (.list ds)) (h2 : EvD tb σ H (.list es)) (hl : ds.length + es.length ≤ 100000 := by simp only [List.length_cons, List.length_nil, List.length_append]; omega) : EvD (tOp (rAddA K) ta tb) σ H (.list (ds ++ es)) := fun H1 e0 Q q =>
  h H1 e0 _ fun v H2 e2 hv => h2 H2 (e0.trans e2) _ fun w H3 e3 hw => by
    cases hv with
    | lst hv r =>
      cases hw with
      | lst hw r2 => exact .inr (.inr (.inl ⟨_, _, _, _, rfl, rfl, e3 _ _ hv, hw, sz_of (by rw [r.length, r2.length]; exact hl), fun p hp => q _ _ ((e2.trans e3).trans (Ex.new hp)) (.lst upd_same (((r.ex e3).append r2).ex (Ex.new hp)))⟩))
theorem ev_eqD (h : EvD ta σ H d) (h2 : EvD tb σ H e) (od : okD d) (oe : okD e) : Ev (tOp (rEqA K) ta tb) σ H (.bl (PyData.eqv d e)) := fun H1 e0 Q q =>
  h H1 e0 _ fun v H2 e2 hv => h2 H2 (e0.trans e2) _ fun w H3 e3 hw => .inr (.inl ⟨d, e, (hv.ex e3).dp od.nd, hw.dp oe.nd, od.shaped, oe.shaped, q H3 (e2.trans e3)⟩)
theorem ev_neD (h : EvD ta σ H d) (h2 : EvD tb σ H e) (od : okD d) (oe : okD e) : Ev (tOp (rNeA K) ta tb) σ H (.bl (!PyData.eqv d e)) := fun H1 e0 Q q =>
  h H1 e0 _ fun v H2 e2 hv => h2 H2 (e0.trans e2) _ fun w H3 e3 hw => .inr (.inl ⟨d, e, (hv.ex e3).dp od.nd, hw.dp oe.nd, od.shaped, oe.shaped, q H3 (e2.trans e3)⟩)
theorem ev_isD {c : String} (ha : EvD ta σ H d) (hc : c ∈ asked := by decide) : Ev (tCB (rIsiA K) (tCons ta (tCons (tC (.ty c)) tNil))) σ H (.bl (isiB (kindD d) c)) := fun H1 e0 Q q =>
  ha H1 e0 _ fun v H2 e2 hv => rc_isi (hv.ty) hc H2 (Ex.refl H2) Q fun H3 e3 => q H3 (e2.trans e3)
theorem s_asgD {i : Nat} (h : EvD te σ H d) (k : ∀ v H1, Ex H H1 → Dt H1 v d → D.nx (σ.set i (some v)) H1) : tAsg te (gName i) D σ H := h H (Ex.refl H) _ fun v H1 e1 hv => k v H1 e1 hv
theorem q_asgD {i : Nat} (h : EvD te σ H d) (k : ∀ v H1, Ex H H1 → Dt H1 v d → tz D (σ.set i (some v)) H1) : tSeq (tAsg te (gName i)) tz D σ H := s_asgD (D := { D with nx := tz D }) h k
theorem s_retD (h : EvD te σ H d) (k : ∀ v H1, Ex H H1 → Dt H1 v d → D.rt v H1) : tRet te D σ H := h H (Ex.refl H) _ k
/-- promises about data: arguments ds in, d out -/
def RetD (d : PyData) (H : Hp) (Q : VK) : Prop := ∀ v H2, Ex H H2 → Dt H2 v d → Q v H2
/-- a def from data to data, by a function -/
def spD (n : Nat) (pre : List PyData → Prop) (f : List PyData → PyData) : Sp := fun vs H Q _ => ∃ ds, ds.length = n ∧ DtAll H vs ds ∧ pre ds ∧ RetD (f ds) H Q
theorem ed_callS {n : Nat} {pre : List PyData → Prop} {f : List PyData → PyData} {E : L2.St → XK} {ta : TA} (h : EvDs ta σ H ds) (hn : ds.length = n) (hp : pre ds) : EvD (tCallS (spD n pre f) E ta) σ H (f ds) := fun H1 e0 Q q =>
  h H1 e0 _ fun vs H2 e2 hvs => ⟨ds, hn, hvs, hp, fun v H3 e3 hv => q v H3 (e2.trans e3) hv⟩
theorem ed_call {n : Nat} {pre : List PyData → Prop} {f : List PyData → PyData} {E : XK} {ta : TA} (h : EvDs ta σ H ds) (hn : ds.length = n) (hp : pre ds) : EvD (tCall (spD n pre f) [] E ta) σ H (f ds) := fun H1 e0 Q q =>
  h H1 e0 _ fun vs H2 e2 hvs => ⟨ds, hn, by rw [List.append_nil]; exact hvs, hp, fun v H3 e3 hv => q v H3 (e2.trans e3) hv⟩
theorem Dt.i {v : V} {i : Int} (h : Dt H v (.int i)) : v = .int i := by cases h; rfl
theorem Dt.s {v : V} {i : Str} (h : Dt H v (.str i)) : v = .str i := by cases h; rfl
theorem Dt.b {v : V} {i : Bool} (h : Dt H v (.bool i)) : v = .bl i := by cases h; rfl
theorem Dt.n {v : V} (h : Dt H v .none) : v = .non := by cases h; rfl
theorem ev_i {i : Int} (h : EvD te σ H (.int i)) : Ev te σ H (.int i) := fun H1 e0 Q q => h H1 e0 _ fun v H2 e2 hv => by rw [hv.i]; exact q H2 e2
theorem ev_s {i : Str} (h : EvD te σ H (.str i)) : Ev te σ H (.str i) := fun H1 e0 Q q => h H1 e0 _ fun v H2 e2 hv => by rw [hv.s]; exact q H2 e2
theorem ev_b {i : Bool} (h : EvD te σ H (.bool i)) : Ev te σ H (.bl i) := fun H1 e0 Q q => h H1 e0 _ fun v H2 e2 hv => by rw [hv.b]; exact q H2 e2
theorem ev_n (h : EvD te σ H .none) : Ev te σ H .non := fun H1 e0 Q q => h H1 e0 _ fun v H2 e2 hv => by rw [hv.n]; exact q H2 e2
end
end Z

set_option Elab.async false
set_option linter.all false
set_option autoImplicit false
set_option maxRecDepth 100000
set_option maxHeartbeats 4000000
/-! ev: what an expression comes to, by its form -/
local macro_rules | `(tactic| k_places) => `(tactic| (repeat' (first
  | (with_reducible exact ev_c)
  | (with_reducible exact ev_var rfl)
  | (with_reducible refine ev_chainLL ?_ ?_ ?_)
  | (with_reducible refine ev_chainLt ?_ ?_ ?_)
  | (with_reducible refine ev_op ?_ ?_ ?_)
  | (with_reducible refine ev_neg ?_)
  | (with_reducible refine et_test ?_)
  | (with_reducible refine et_B ?_)
  | (with_reducible refine et_not ?_)
  | (with_reducible refine et_and ?_ (fun _ => ?_))
  | (with_reducible refine et_or ?_ (fun _ => ?_))
  | (with_reducible refine ev_andV ?_ (fun _ => ?_))
  | (with_reducible refine ev_orV ?_ (fun _ => ?_))
  | (with_reducible refine ev_notV ?_)
  | (with_reducible exact rv_addI)
  | (with_reducible exact rv_subI)
  | (with_reducible exact rv_lt)
  | (with_reducible exact rv_le)
  | (with_reducible exact rv_gt)
  | (with_reducible exact rv_ge)
  | (with_reducible exact rv_isB)
  | (with_reducible exact rv_isnB)
  | (with_reducible exact rv_isN)
  | (with_reducible exact rv_isnN)
  | (with_reducible exact rv_eqS rfl)
  | (with_reducible exact rv_neS rfl)
  | (with_reducible exact rv_inStr)
  | (with_reducible exact rv_ninStr)
  | (with_reducible exact rv_mod (by first | decide | omega | assumption))
  | (with_reducible exact rv_div (by first | decide | omega | assumption))
  | (with_reducible exact rv_pow (by decide))
  | (with_reducible refine ed_i ?_; done)
  | (with_reducible exact ea_nil)
  | (with_reducible refine ea_cons ?_ ?_)
  | (with_reducible exact eds_nil)
  | (with_reducible refine eds_cons ?_ ?_)
  | (with_reducible exact ed_dnew)
  | (with_reducible refine ed_lst ?_ (by simp only [List.length_cons, List.length_nil]; omega))
  | (with_reducible refine ed_tup ?_ (by simp only [List.length_cons, List.length_nil]; omega)))))
namespace Z
open PySem PySem.Spec PyProof.Rows L2 Evl
/-! ### values.py -/
def lets : List Nat := ("abcdefghijklmnopqrstuvwxyz" : Str).cps.toList
def isName (z : Str) : Bool := decide (1 ≤ z.length ∧ z.length ≤ 8) && z.cps.toList.all fun c => decide (c ∈ lets)
def isWholeD (d : PyData) : Bool := kindD d == "int"
def isNameD : PyData → Bool
  | .str z => isName z
  | _ => false
def isFaultD : PyData → Bool
  | .tuple [.str f, w] => decide (f = ("fault" : Str)) && isNameD w
  | _ => false
def isNumD : PyData → Bool
  | .int i => decide (-(10 ^ 60) < i ∧ i < 10 ^ 60)
  | _ => false
def isValueD (d : PyData) : Bool := isNumD d || isFaultD d
def short : PyData → Prop
  | .str z => z.length ≤ 30000
  | _ => True
def short2 : PyData → Prop
  | .tuple [_, w] => short w
  | _ => True
/-- a def of one argument -/
def sp1 (pre : PyData → Prop) (f : PyData → PyData) : Sp := spD 1 (fun ds => pre (ds.getD 0 .none)) (fun ds => f (ds.getD 0 .none))
theorem sp1_open {pre : PyData → Prop} {f : PyData → PyData} {vs : List V} {H : Hp} {Q : VK} {E : XK} (h : sp1 pre f vs H Q E) : ∃ v d, vs = [v] ∧ Dt H v d ∧ pre d ∧ RetD (f d) H Q := by
  obtain ⟨ds, hn, ha, hp, k⟩ := h
  cases ha with
  | nil => cases hn
  | cons a r =>
    cases r with
    | nil => exact ⟨_, _, rfl, a, hp, k⟩
    | cons _ _ => simp at hn
def sp_is_whole (K : PySem.W.Frag) : Sp := sp1 (fun _ => True) fun d => .bool (isWholeD d)
def sp_is_name (K : PySem.W.Frag) : Sp := sp1 short fun d => .bool (isNameD d)
def sp_is_fault (K : PySem.W.Frag) : Sp := sp1 short2 fun d => .bool (isFaultD d)
def sp_is_number (K : PySem.W.Frag) : Sp := sp1 (fun _ => True) fun d => .bool (isNumD d)
def sp_is_value (K : PySem.W.Frag) : Sp := sp1 short2 fun d => .bool (isValueD d)
def t_is_whole (K : PySem.W.Frag) (E : XK) : TS :=
  tRet (tAndV (tCB (rIsiA K) (tCons (tVar 0) (tCons (tC (.ty "int")) tNil))) (tNotV (tCB (rIsiA K) (tCons (tVar 0) (tCons (tC (.ty "bool")) tNil)))))
def t_is_name (K : PySem.W.Frag) (E : XK) : TS :=
  tSeq (tIfS (tOr (tNot (tB (tCB (rIsiA K) (tCons (tVar 0) (tCons (tC (.ty "str")) tNil))))) (tNot (tTest (tChain rLeA rLeA (tC (.int 1)) (tCB (rLenA K) (tCons (tVar 0) tNil)) (tC (.int 8)))))) (tRet (tC (.bl false))) tNext)
    (tRet (tCB (rAll K) (tCons (tLc (iStr (tVar 0)) (gName 1) tYes (tOp (rInA K) (tVar 1) (tC (.str "abcdefghijklmnopqrstuvwxyz"))) [1]) tNil)))
def t_is_fault (K : PySem.W.Frag) (E : XK) : TS :=
  tSeq (tIfS (tOr (tNot (tB (tCB (rIsiA K) (tCons (tVar 0) (tCons (tC (.ty "tuple")) tNil))))) (tTest (tOp (rNeA K) (tCB (rLenA K) (tCons (tVar 0) tNil)) (tC (.int 2))))) (tRet (tC (.bl false))) tNext)
    (tRet (tAndV (tCB (rIsiA K) (tCons (tOp (rIxA K) (tVar 0) (tC (.int 0))) (tCons (tC (.ty "str")) tNil))) (tAndV (tOp (rEqA K) (tOp (rIxA K) (tVar 0) (tC (.int 0))) (tC (.str "fault"))) (tCallS (sp_is_name K) (WE fun cls d _ H => E cls d H) (tCons (tOp (rIxA K) (tVar 0) (tC (.int 1))) tNil)))))
def t_is_number (K : PySem.W.Frag) (E : XK) : TS :=
  tRet (tAndV (tCallS (sp_is_whole K) (WE fun cls d _ H => E cls d H) (tCons (tVar 0) tNil)) (tOp rLtA (tCB rAbsA (tCons (tVar 0) tNil)) (tOp rPowA (tC (.int 10)) (tC (.int 60)))))
def t_is_value (K : PySem.W.Frag) (E : XK) : TS :=
  tRet (tOrV (tCallS (sp_is_number K) (WE fun cls d _ H => E cls d H) (tCons (tVar 0) tNil)) (tCallS (sp_is_fault K) (WE fun cls d _ H => E cls d H) (tCons (tVar 0) tNil)))
section
variable {K : PySem.W.Frag} {σ : L2.St} {H H' : Hp} {te : TE} {d : PyData} {E : L2.St → XK}
theorem ed_sp1 {pre : PyData → Prop} {f : PyData → PyData} (h : EvD te σ H d) (hp : pre d) : EvD (tCallS (sp1 pre f) E (tCons te tNil)) σ H (f d) := ed_callS (ds := [d]) (eds_cons h eds_nil) rfl hp
theorem ev_spB {pre : PyData → Prop} {g : PyData → Bool} (h : EvD te σ H d) (hp : pre d) : Ev (tCallS (sp1 pre fun d => .bool (g d)) E (tCons te tNil)) σ H (.bl (g d)) := ev_b (ed_sp1 h hp)
end
theorem r_is_whole {K : PySem.W.Frag} (vs : List V) (H : Hp) (Q : VK) (E : XK) (h : sp_is_whole K vs H Q E) : t_is_whole K E { nx := fun _ H' => Q .non H', rt := Q } (L2.start ["thing"] vs) H := by
  obtain ⟨v, d, rfl, r, -, k⟩ := sp1_open h
  unfold t_is_whole
  refine s_ret (v := .bl (isWholeD d)) (ev_is (ev_andV (ev_isD (ed_var rfl r)) fun _ => ev_notV (ev_isD (ed_var rfl r))) ?_) fun H1 e1 => k _ H1 e1 (.bl _)
  cases d <;> rfl
theorem r_is_number {K : PySem.W.Frag} (vs : List V) (H : Hp) (Q : VK) (E : XK) (h : sp_is_number K vs H Q E) : t_is_number K E { nx := fun _ H' => Q .non H', rt := Q } (L2.start ["thing"] vs) H := by
  obtain ⟨v, d, rfl, r, -, k⟩ := sp1_open h
  unfold t_is_number
  refine s_ret (v := .bl (isNumD d)) ?_ fun H1 e1 => k _ H1 e1 (.bl _)
  by_cases hi : ∃ i, d = .int i
  · obtain ⟨i, rfl⟩ := hi
    obtain rfl := r.i
    refine ev_is (ev_andV (ev_spB (ed_var rfl r) trivial) fun _ => ev_op (ev_cb (ea_cons (ev_var rfl) ea_nil) rc_abs) (ev_op ev_c ev_c (rv_pow (by decide))) rv_lt) ?_
    have e : ((10 : Int) ^ (60 : Int).toNat) = 10 ^ 60 := rfl
    rw [e]
    show V.bl (true && decide ((if i < 0 then -i else i) < 10 ^ 60)) = V.bl (decide (-(10 ^ 60) < i ∧ i < 10 ^ 60))
    rw [Bool.true_and]
    congr 1
    refine decide_eq_decide.mpr ?_
    split <;> omega
  · have e1 : isNumD d = false := by
      cases d <;> first | rfl | exact absurd ⟨_, rfl⟩ hi
    have e2 : isWholeD d = false := by
      cases d <;> first | rfl | exact absurd ⟨_, rfl⟩ hi
    rw [e1]
    refine ev_is (v := .bl (isWholeD d && false)) (ev_andV (ev_spB (ed_var rfl r) trivial) fun z => ?_) (by rw [e2]; rfl)
    rw [e2] at z
    cases z
theorem r_is_name {K : PySem.W.Frag} (vs : List V) (H : Hp) (Q : VK) (E : XK) (h : sp_is_name K vs H Q E) : t_is_name K E { nx := fun _ H' => Q .non H', rt := Q } (L2.start ["thing", "sign"] vs) H := by
  obtain ⟨v, d, rfl, r, hs, k⟩ := sp1_open h
  unfold t_is_name
  by_cases hz : ∃ z, d = .str z
  · obtain ⟨z, rfl⟩ := hz
    obtain rfl := r.s
    have hs : z.length ≤ 30000 := hs
    refine q_when (b := !(decide ((1 : Int) ≤ z.length) && decide ((z.length : Int) ≤ 8))) (et_is (et_or (et_not (et_B (ev_isD (ed_var rfl r)))) fun _ => et_not (et_test (ev_chainLL ev_c (ev_lenV (ev_var rfl) (rc_lenS (by omega))) ev_c))) (by rfl)) (fun hb H1 e1 => ?_) fun hb H1 e1 => ?_
    · refine s_ret ev_c fun H2 e2 => ?_
      have : isNameD (.str z) = false := by
        show (decide (1 ≤ z.length ∧ z.length ≤ 8) && _) = false
        have h1 : ¬ (1 ≤ z.length ∧ z.length ≤ 8) := by
          intro hh
          rw [decide_eq_true (by omega : (1 : Int) ≤ z.length), decide_eq_true (by omega : (z.length : Int) ≤ 8)] at hb
          cases hb
        rw [decide_eq_false h1, Bool.false_and]
      rw [this] at k
      exact k _ H2 (e1.trans e2) (.bl _)
    · have h1 : 1 ≤ z.length ∧ z.length ≤ 8 := by
        cases q1 : decide ((1 : Int) ≤ z.length) with
        | false => rw [q1] at hb; cases hb
        | true =>
          cases q2 : decide ((z.length : Int) ≤ 8) with
          | false => rw [q1, q2] at hb; cases hb
          | true =>
            have := of_decide_eq_true q1
            have := of_decide_eq_true q2
            omega
      have zl : z.length = z.cps.size := rfl
      have E1 : given z.cps.size (fun _ => true) (fun i => .bl (decide (z.cps.toList.getD i 0 ∈ lets))) = (z.cps.toList.map fun c => decide (c ∈ lets)).map V.bl := by
        unfold given
        rw [List.filter_eq_self.mpr (fun _ _ => rfl), List.map_map]
        apply List.ext_getElem?
        intro i
        rw [List.getElem?_map, List.getElem?_map]
        by_cases hi : i < z.cps.size
        · have hi2 : i < z.cps.toList.length := by simpa using hi
          have e : z.cps.toList[i]? = some (z.cps.toList.getD i 0) := by
            rw [List.getD_eq_getElem?_getD, List.getElem?_eq_getElem hi2]
            rfl
          rw [List.getElem?_range hi, e]
          rfl
        · rw [List.getElem?_eq_none (by simpa using hi), List.getElem?_eq_none (by simpa using hi)]
          rfl
      refine s_ret (v := .bl (isNameD (.str z))) (ev_is (ev_all (bs := z.cps.toList.map fun c => decide (c ∈ lets)) ?_) ?_) fun H2 e2 => k _ H2 (e1.trans e2) (.bl _)
      · rw [← E1]
        refine el_lcS (fun _ => true) _ (ev_var rfl) (by omega) (fun _ => rfl) (fun i c H2 e2 hc => ?_) (fun i c H2 e2 hc _ => ?_)
        · exact fun H3 _ Q q => q H3 (Ex.refl H3)
        · refine ev_is (ev_op (ev_var rfl) ev_c rv_inStr) ?_
          have : z.cps.toList.getD i 0 = c := by
            rw [List.getD_eq_getElem?_getD, Array.getElem?_toList, hc]
            rfl
          rw [this]
          rfl
      · show V.bl ((z.cps.toList.map fun c => decide (c ∈ lets)).all id) = V.bl (decide (1 ≤ z.length ∧ z.length ≤ 8) && z.cps.toList.all fun c => decide (c ∈ lets))
        rw [decide_eq_true h1, Bool.true_and, List.all_map]
        rfl
  · have e1 : isNameD d = false := by
      cases d <;> first | rfl | exact absurd ⟨_, rfl⟩ hz
    have e2 : isiB (kindD d) "str" = false := by
      cases d <;> first | rfl | exact absurd ⟨_, rfl⟩ hz
    refine q_when (b := true) (et_is (b := true) (a := !(isiB (kindD d) "str") || true) (et_or (et_not (et_B (ev_isD (ed_var rfl r)))) fun z => ?_) (by rw [e2]; rfl)) (fun hb H1 e1' => ?_) fun hb => nomatch hb
    · rw [e2] at z
      cases z
    · refine s_ret ev_c fun H2 e2 => ?_
      rw [e1] at k
      exact k _ H2 (e1'.trans e2) (.bl _)
theorem r_is_fault {K : PySem.W.Frag} (vs : List V) (H : Hp) (Q : VK) (E : XK) (h : sp_is_fault K vs H Q E) : t_is_fault K E { nx := fun _ H' => Q .non H', rt := Q } (L2.start ["thing"] vs) H := by
  obtain ⟨v, d, rfl, r, hs, k⟩ := sp1_open h
  unfold t_is_fault
  by_cases hz : ∃ ds, d = .tuple ds
  · obtain ⟨ds, rfl⟩ := hz
    cases r with
    | @tup a xs _ ha r =>
    have el := r.length
    have hl : Ev (tCB (rLenA K) (tCons (tVar 0) tNil)) [some (V.ref a)] H (.int ds.length) := by
      rw [← el]
      exact ev_lenV (ev_var rfl) (rc_lenT (SqT.of ha))
    refine q_when (b := !decide ((ds.length : Int) = 2)) (et_is (et_or (et_not (et_B (ev_isi (n := "tuple") (ev_var rfl) (by show tyO (H a) = _; rw [ha]; rfl)))) fun _ => et_test (ev_op hl ev_c (rv_neS rfl))) ?_) (fun hb H1 e1 => ?_) fun hb H1 e1 => ?_
    · show (false || !decide (V.int ds.length = V.int 2)) = _
      rw [Bool.false_or]
      congr 1
      exact decide_eq_decide.mpr ⟨fun h => V.int.inj h, fun h => by rw [h]⟩
    · refine s_ret ev_c fun H2 e2 => ?_
      have : isFaultD (.tuple ds) = false := by
        unfold isFaultD
        split
        · rename_i q
          cases q
          cases hb
        · rfl
      rw [this] at k
      exact k _ H2 (e1.trans e2) (.bl _)
    · have h2 : ds.length = 2 := by
        cases q : decide ((ds.length : Int) = 2) with
        | false => rw [q] at hb; cases hb
        | true =>
          have := of_decide_eq_true q
          omega
      obtain ⟨f, w, rfl⟩ : ∃ f w, ds = [f, w] := by
        match ds, h2 with
        | [f, w], _ => exact ⟨f, w, rfl⟩
      have D0 : Dt H (.ref a) (.tuple [f, w]) := .tup ha r
      have i0 : EvD (tOp (rIxA K) (tVar 0) (tC (.int 0))) [some (V.ref a)] H f := ed_ixT (ed_var rfl D0) ev_c rfl
      have i1 : EvD (tOp (rIxA K) (tVar 0) (tC (.int 1))) [some (V.ref a)] H w := ed_ixT (ed_var rfl D0) ev_c rfl
      refine s_ret (v := .bl (isFaultD (.tuple [f, w]))) ?_ fun H2 e2 => k _ H2 (e1.trans e2) (.bl _)
      refine Ev.mono e1 ?_
      by_cases hf : ∃ z, f = .str z
      · obtain ⟨z, rfl⟩ := hf
        refine ev_is (ev_andV (ev_isD i0) fun _ => ev_andV (ev_op (ev_s i0) ev_c (rv_eqS rfl)) fun _ => ev_spB i1 hs) ?_
        show V.bl (true && (decide (V.str z = V.str "fault") && isNameD w)) = V.bl (decide (z = ("fault" : Str)) && isNameD w)
        rw [Bool.true_and]
        congr 2
        exact decide_eq_decide.mpr ⟨fun h => V.str.inj h, fun h => by rw [h]⟩
      · have e2 : isiB (kindD f) "str" = false := by
          cases f <;> first | rfl | exact absurd ⟨_, rfl⟩ hf
        refine ev_is (v := .bl (isiB (kindD f) "str" && false)) (ev_andV (ev_isD i0) fun z => ?_) ?_
        · rw [e2] at z
          cases z
        · rw [e2]
          cases f <;> first | rfl | exact absurd ⟨_, rfl⟩ hf
  · have e1 : isFaultD d = false := by
      cases d <;> first | rfl | exact absurd ⟨_, rfl⟩ hz
    have e2 : isiB (kindD d) "tuple" = false := by
      cases d <;> first | rfl | exact absurd ⟨_, rfl⟩ hz
    refine q_when (b := true) (et_is (b := true) (a := !(isiB (kindD d) "tuple") || true) (et_or (et_not (et_B (ev_isD (ed_var rfl r)))) fun z => ?_) (by rw [e2]; rfl)) (fun hb H1 e1' => ?_) fun hb => nomatch hb
    · rw [e2] at z
      cases z
    · refine s_ret ev_c fun H2 e2 => ?_
      rw [e1] at k
      exact k _ H2 (e1'.trans e2) (.bl _)
theorem r_is_value {K : PySem.W.Frag} (vs : List V) (H : Hp) (Q : VK) (E : XK) (h : sp_is_value K vs H Q E) : t_is_value K E { nx := fun _ H' => Q .non H', rt := Q } (L2.start ["thing"] vs) H := by
  obtain ⟨v, d, rfl, r, hs, k⟩ := sp1_open h
  unfold t_is_value
  exact s_ret (v := .bl (isValueD d)) (ev_orV (ev_spB (ed_var rfl r) trivial) fun _ => ev_spB (ed_var rfl r) hs) fun H1 e1 => k _ H1 e1 (.bl _)
end Z

set_option Elab.async false
set_option linter.all false
set_option autoImplicit false
set_option maxRecDepth 100000
set_option maxHeartbeats 4000000
/-! ev: what an expression comes to, by its form -/
local macro_rules | `(tactic| k_places) => `(tactic| (repeat' (first
  | (with_reducible exact ev_c)
  | (with_reducible exact ev_var rfl)
  | (with_reducible refine ev_chainLL ?_ ?_ ?_)
  | (with_reducible refine ev_chainLt ?_ ?_ ?_)
  | (with_reducible refine ev_op ?_ ?_ ?_)
  | (with_reducible refine ev_neg ?_)
  | (with_reducible refine et_test ?_)
  | (with_reducible refine et_B ?_)
  | (with_reducible refine et_not ?_)
  | (with_reducible refine et_and ?_ (fun _ => ?_))
  | (with_reducible refine et_or ?_ (fun _ => ?_))
  | (with_reducible refine ev_andV ?_ (fun _ => ?_))
  | (with_reducible refine ev_orV ?_ (fun _ => ?_))
  | (with_reducible refine ev_notV ?_)
  | (with_reducible exact rv_addI)
  | (with_reducible exact rv_subI)
  | (with_reducible exact rv_lt)
  | (with_reducible exact rv_le)
  | (with_reducible exact rv_gt)
  | (with_reducible exact rv_ge)
  | (with_reducible exact rv_isB)
  | (with_reducible exact rv_isnB)
  | (with_reducible exact rv_isN)
  | (with_reducible exact rv_isnN)
  | (with_reducible exact rv_eqS rfl)
  | (with_reducible exact rv_neS rfl)
  | (with_reducible exact rv_inStr)
  | (with_reducible exact rv_ninStr)
  | (with_reducible exact rv_mod (by first | decide | omega | assumption))
  | (with_reducible exact rv_div (by first | decide | omega | assumption))
  | (with_reducible exact rv_pow (by decide))
  | (with_reducible refine ed_i ?_; done)
  | (with_reducible exact ea_nil)
  | (with_reducible refine ea_cons ?_ ?_)
  | (with_reducible exact eds_nil)
  | (with_reducible refine eds_cons ?_ ?_)
  | (with_reducible exact ed_dnew)
  | (with_reducible refine ed_lst ?_ (by simp only [List.length_cons, List.length_nil]; omega))
  | (with_reducible refine ed_tup ?_ (by simp only [List.length_cons, List.length_nil]; omega)))))
namespace Z
open PySem PySem.Spec PyProof.Rows L2 Evl
/-! ### texts and draws -/
def tJoin (K : PySem.W.Frag) : TE → TE → TE := tM1 (fun x xs H Q => ∃ a p, ∃ ys : List Str, x = .str a ∧ xs = [.ref p] ∧ (SqL K H p (ys.map V.str) ∨ SqT K H p (ys.map V.str)) ∧
      (ys.map (·.length)).sum + ys.length * a.length ≤ 16777216 ∧ Q (.str (Txt.join a ys)) H)
theorem toL_joinL0 : ∀ l : List Nat, TL.joinL [] (l.map fun c => [c]) = l
  | [] => rfl
  | [c] => rfl
  | c :: d :: r => by
    have ih := toL_joinL0 (d :: r)
    show [c] ++ ([] ++ TL.joinL [] ((d :: r).map fun c => [c])) = c :: d :: r
    rw [ih]
    rfl
theorem join_signs (l : List Nat) : Txt.join (SX.S []) (l.map fun c => SX.S [c]) = SX.S l := by
  have h := SX.join_S [] (l.map fun c => [c])
  rw [List.map_map] at h
  rw [toL_joinL0] at h
  exact h
theorem sum_ones (l : List Nat) : ((l.map fun c => SX.S [c]).map (·.length)).sum = l.length := by
  induction l with
  | nil => rfl
  | cons a r ih =>
    rw [List.map_cons, List.map_cons, List.sum_cons, ih, List.length_cons]
    show 1 + r.length = r.length + 1
    omega
theorem atI_emod {α : Type} (l : List α) (x : Int) (d : α) {n : Int} (hn : n = l.length) (h : 0 < n) : atI l (x % n) = some (l.getD (x % n).toNat d) := by
  have h1 := Int.emod_nonneg x (show n ≠ 0 by omega)
  have h2 := Int.emod_lt_of_pos x h
  have hl : (x % n).toNat < l.length := by omega
  have e : x % n = (((x % n).toNat : Nat) : Int) := by omega
  have g : l[(x % n).toNat]? = some (l.getD (x % n).toNat d) := by
    rw [List.getD_eq_getElem?_getD, List.getElem?_eq_getElem hl]
    rfl
  have q := atI_nat g
  rw [← e] at q
  exact q
theorem getD_mem {α : Type} {l : List α} {i : Nat} {d : α} (h : i < l.length) : l.getD i d ∈ l := by
  rw [List.getD_eq_getElem?_getD, List.getElem?_eq_getElem h]
  exact List.getElem_mem h
theorem emod_lt_len {α : Type} {l : List α} (x : Int) {n : Int} (hn : n = l.length) (h : 0 < n) : (x % n).toNat < l.length := by
  have h1 := Int.emod_nonneg x (show n ≠ 0 by omega)
  have h2 := Int.emod_lt_of_pos x h
  omega
theorem emod_bd (x : Int) {n : Int} (h : 0 < n) : 0 ≤ x % n ∧ x % n < n := ⟨Int.emod_nonneg x (by omega), Int.emod_lt_of_pos x h⟩
theorem map_str_S (l : List Nat) : (l.map fun c => SX.S [c]).map V.str = l.map fun c => V.str ⟨#[c]⟩ := by
  rw [List.map_map]
  rfl
section
variable {K : PySem.W.Frag} {σ : L2.St} {H H' : Hp} {ta tb te tx : TE} {D : Ends}
theorem ev_joinP {a : Str} {ys : List Str} {p : Addr} (ha : Ev ta σ H (.str a)) (hb : Ev tb σ H (.ref p)) (hs : H p = some (.lst (ys.map V.str))) (hl : (ys.map (·.length)).sum + ys.length * a.length ≤ 16777216) : Ev (tJoin K ta tb) σ H (.str (Txt.join a ys)) := fun H1 e Q q =>
  ha H1 e _ fun H2 e2 => ⟨⟨a, rfl⟩, hb H2 (e.trans e2) _ fun H3 e3 => ⟨a, p, ys, rfl, rfl, .inl (SqL.of (((e.trans e2).trans e3) _ _ hs)), hl, q H3 (e2.trans e3)⟩⟩
/-- "".join of a list of signs -/
theorem ev_joinSigns {l : List Nat} {p : Addr} (hb : Ev tb σ H (.ref p)) (hs : H p = some (.lst (l.map fun c => V.str ⟨#[c]⟩))) (hl : l.length ≤ 1000000) : Ev (tJoin K (tC (.str "")) tb) σ H (.str (SX.S l)) := by
  refine ev_is (ev_joinP (a := SX.S []) (ys := l.map fun c => SX.S [c]) (ev_is ev_c rfl) hb (by rw [map_str_S]; exact hs) ?_) (by rw [join_signs])
  rw [sum_ones, List.length_map]
  show l.length + l.length * 0 ≤ 16777216
  omega
/-- "abc"[x % n] -/
theorem ev_sign {w : Str} {x n : Int} (ha : Ev ta σ H (.str w)) (hb : Ev tb σ H (.int (x % n))) (hn : n = w.cps.toList.length) (h : 0 < n) (hw : w.length ≤ 100000) : Ev (tOp (rIxA K) ta tb) σ H (.str ⟨#[w.cps.toList.getD (x % n).toNat 0]⟩) :=
  ev_op ha hb (rv_itS hw (atI_emod _ x 0 hn h))
end
section
variable {K : PySem.W.Frag} {σ : L2.St} {H H' : Hp} {ta tb te tx : TE} {tl : TE} {D : Ends} {tu tz : TS}
/-- for c in a text -/
theorem s_forS {a : Str} {j : Nat} (h : Ev tl σ H (.str a)) (Pv : Nat → L2.St → Hp → Prop) (h0 : ∀ H1, Ex H H1 → Pv 0 σ H1)
    (hs : ∀ i c σ' H', a.cps.toList[i]? = some c → Pv i σ' H' → tu { D with nx := Pv (i + 1), ct := Pv (i + 1), bk := D.nx } (σ'.set j (some (.str ⟨#[c]⟩))) H') (hd : ∀ σ' H', Pv a.cps.toList.length σ' H' → D.nx σ' H') : tFor (iStr tl) (gName j) tu D σ H := by
  refine h H (Ex.refl H) _ fun H1 e => ⟨a, rfl, ?_⟩
  refine ⟨fun i m σ' H' => m = a.cps.toList.length - i ∧ i ≤ a.cps.toList.length ∧ Pv i σ' H', ⟨a.cps.toList.length, by simp, Nat.zero_le _, h0 H1 e⟩, ?_⟩
  rintro i m σ' H' ⟨rfl, hi, p⟩
  by_cases hlt : i < a.cps.toList.length
  · refine .inr ⟨show i < a.cps.size by simpa using hlt, fun σ2 H2 => Pv (i + 1) σ2 H2, fun σ2 H2 p2 => ⟨a.cps.toList.length - (i + 1), by omega, rfl, hlt, p2⟩, ?_⟩
    rintro x2 H2 ⟨rfl, c, hc, rfl⟩
    exact hs i c σ' _ (by rw [Array.getElem?_toList]; exact hc) p
  · have e0 : i = a.cps.toList.length := by omega
    subst e0
    exact .inl ⟨show a.cps.size ≤ a.cps.toList.length by simp, hd σ' H' p⟩
theorem q_forS {a : Str} {j : Nat} (h : Ev tl σ H (.str a)) (Pv : Nat → L2.St → Hp → Prop) (h0 : ∀ H1, Ex H H1 → Pv 0 σ H1)
    (hs : ∀ i c σ' H', a.cps.toList[i]? = some c → Pv i σ' H' → tu { D with nx := Pv (i + 1), ct := Pv (i + 1), bk := tz D } (σ'.set j (some (.str ⟨#[c]⟩))) H') (hd : ∀ σ' H', Pv a.cps.toList.length σ' H' → tz D σ' H') : tSeq (tFor (iStr tl) (gName j) tu) tz D σ H := s_forS (D := { D with nx := tz D }) h Pv h0 hs hd
/-- {i: v}, v no object -/
theorem ed_disp1 {i : Int} {v : V} {d : PyData} (hk : Ev ta σ H (.int i)) (hv : Ev tb σ H v) (hd : ∀ H, Dt H v d) : EvD (tDisp ((ta, tb) :: [])) σ H (.dict [(.int i, d)]) := fun H1 e0 Q q p hp => by
  show ta σ (upd H1 p (.dK [])) _
  have e1 : Ex H1 (upd H1 p (.dK [])) := Ex.new hp
  refine hk _ (e0.trans e1) _ fun H2 e2 => hv H2 ((e0.trans e1).trans e2) _ fun H3 e3 => ⟨(e2.trans e3) _ _ upd_same, [(.inl i, v)], rfl, (show 1 ≤ 15 by decide), ?_⟩
  refine q _ _ (Ex.mut ((e1.trans e2).trans e3) hp) ?_
  exact .dct (kvs := [(.inl i, v)]) (ds := [d]) upd_same (.cons (hd _) .nil)
/-- xs[i] = v -/
theorem s_setA {l : Addr} {xs : List V} {j : Nat} {v : V} (hl : H l = some (.lst xs)) (h : Ev te σ H v) (ho : Ev ta σ H (.ref l)) (hi : Ev tb σ H (.int (j : Int))) (hj : j < xs.length) (k : ∀ H1, Ex H H1 → D.nx σ (upd H1 l (.lst (xs.set j v)))) :
    tAsg te (gSub ta tb rSetA) D σ H := h H (Ex.refl H) _ fun H1 e1 => ho H1 e1 _ fun H2 e2 => hi H2 (e1.trans e2) _ fun H3 e3 =>
  .inl ⟨l, xs, (j : Int), j, rfl, rfl, ((e1.trans e2).trans e3) l _ hl, ixN_nat hj, k H3 ((e1.trans e2).trans e3)⟩
end
/-! ### _law_cell -/
def cellV (ns : List Int) (k : Nat) : Int :=
  if k < ns.length then ns.getD k 0
  else ((if 0 < ns.length then ns.getD (k % ns.length) 0 % 2147483647 else 41) + (k : Int) * k + 5) * (48271 + 16807 * (k : Int)) % 2147483629
def sp_law_cell (K : PySem.W.Frag) : Sp := fun vs H Q _ => ∃ (l : Addr) (ns : List Int) (j : Nat), vs = [.ref l, .int (j : Int)] ∧ SqL K H l (ns.map V.int) ∧ j ≤ 100000 ∧ RetV (.int (cellV ns j)) H Q
def t_law_cell (K : PySem.W.Frag) (E : XK) : TS :=
  tSeq (tIfS (tTest (tOp rLtA (tVar 1) (tCB (rLenA K) (tCons (tVar 0) tNil)))) (tRet (tOp (rIxA K) (tVar 0) (tVar 1))) tNext)
    (tSeq (tAsg (tC (.int 41)) (gName 2))
    (tSeq (tIfS (tTest (tOp rGtA (tCB (rLenA K) (tCons (tVar 0) tNil)) (tC (.int 0)))) (tAsg (tOp rModA (tOp (rIxA K) (tVar 0) (tOp rModA (tVar 1) (tCB (rLenA K) (tCons (tVar 0) tNil)))) (tC (.int 2147483647))) (gName 2)) tNext)
    (tRet (tOp rModA (tOp (rMulA K) (tOp (rAddA K) (tOp (rAddA K) (tVar 2) (tOp (rMulA K) (tVar 1) (tVar 1))) (tC (.int 5))) (tOp (rAddA K) (tC (.int 48271)) (tOp (rMulA K) (tC (.int 16807)) (tVar 1)))) (tC (.int 2147483629))))))
theorem ints_at {ns : List Int} {k : Nat} (h : k < ns.length) : atI (ns.map V.int) (k : Int) = some (.int (ns.getD k 0)) := by
  refine atI_nat ?_
  rw [List.getElem?_map, List.getElem?_eq_getElem h, List.getD_eq_getElem?_getD, List.getElem?_eq_getElem h]
  rfl
theorem r_law_cell {K : PySem.W.Frag} (vs : List V) (H : Hp) (Q : VK) (E : XK) (h : sp_law_cell K vs H Q E) : t_law_cell K E { nx := fun _ H' => Q .non H', rt := Q } (L2.start ["script", "k", "seed"] vs) H := by
  obtain ⟨l, ns, j, rfl, hl, hj, k⟩ := h
  unfold t_law_cell
  have hlen : ∀ {σ : L2.St} {H1 : Hp}, σ[0]? = some (some (V.ref l)) → Ex H H1 → Ev (tCB (rLenA K) (tCons (tVar 0) tNil)) σ H1 (.int ns.length) := fun h0 e => by
    have := ev_lenV (ta := tVar 0) (ev_var h0) (rc_lenL (K := K) (ex_l e hl))
    rw [List.length_map] at this
    exact this
  refine q_when (et_test (ev_op (ev_var rfl) (hlen rfl (Ex.refl H)) rv_lt)) (fun hb H1 e1 => ?_) (fun hb H1 e1 => ?_)
  · have hb := of_decide_eq_true hb
    refine s_ret (ev_op (ev_var rfl) (ev_var rfl) (rv_itL (ex_l e1 hl) (ints_at (show j < ns.length by omega)))) fun H2 e2 => ?_
    unfold RetV cellV at k
    rw [if_pos (by omega)] at k
    exact k H2 (e1.trans e2)
  · have hb := of_decide_eq_false hb
    refine q_asg ev_c fun H2 e2 => ?_
    refine q_ifAsg (v := .int (if 0 < ns.length then ns.getD (j % ns.length) 0 % 2147483647 else 41)) (et_test (ev_op (hlen rfl (e1.trans e2)) ev_c rv_gt)) (fun hp => ?_) (fun hp => ?_) fun H3 e3 => ?_
    · have hp := of_decide_eq_true hp
      have hp : 0 < ns.length := by omega
      rw [if_pos hp]
      refine ev_op (ev_op (ev_var rfl) (ev_is (ev_op (ev_var rfl) (hlen rfl (e1.trans e2)) (rv_mod (by omega))) (by rw [← Int.natCast_emod])) (rv_itL (ex_l (e1.trans e2) hl) (ints_at (Nat.mod_lt _ hp)))) ev_c (rv_mod (by decide))
    · have hp := of_decide_eq_false hp
      rw [if_neg (by omega)]
      rfl
    · generalize hs : (if 0 < ns.length then ns.getD (j % ns.length) 0 % 2147483647 else 41) = sd at *
      have b : 0 ≤ sd ∧ sd < 2147483647 := by
        rw [← hs]
        split
        · exact emod_bd _ (by decide)
        · decide
      have j2 : (j : Int) * j < 2 ^ 40 ∧ 0 ≤ (j : Int) * j := by
        have h1 : j * j ≤ 100000 * 100000 := Nat.mul_le_mul hj hj
        have h2 : ((j * j : Nat) : Int) = (j : Int) * j := Int.natCast_mul j j
        rw [← h2]
        omega
      refine s_ret (ev_op (ev_op (ev_op (ev_op (ev_var rfl) (ev_op (ev_var rfl) (ev_var rfl) (rv_mulI (wide_mul (a := 20) (b := 20) (by omega) (by omega) (by decide) (by decide) (by decide)))) rv_addI) ev_c rv_addI) (ev_op ev_c (ev_op ev_c (ev_var rfl) (rv_mulI (wide_mul (a := 20) (b := 20) (by omega) (by omega) (by decide) (by decide) (by decide)))) rv_addI) (rv_mulI (wide_mul (a := 50) (b := 50) (by omega) (by omega) (by decide) (by decide) (by decide)))) ev_c (rv_mod (by decide))) fun H4 e4 => ?_
      unfold RetV cellV at k
      rw [if_neg (by omega), hs] at k
      exact k H4 (((e1.trans e2).trans e3).trans e4)
section
variable {K : PySem.W.Frag} {σ : L2.St} {H H' : Hp} {ta tb te tx : TE} {E : L2.St → XK}
theorem ev_cell {l : Addr} {ns : List Int} {j : Nat} (ha : Ev ta σ H (.ref l)) (hb : Ev tb σ H (.int (j : Int))) (hl : SqL K H l (ns.map V.int)) (hj : j ≤ 100000) : Ev (tCallS (sp_law_cell K) E (tCons ta (tCons tb tNil))) σ H (.int (cellV ns j)) :=
  ev_callS (ea_cons ha (ea_cons hb ea_nil)) fun H1 e Q q E => ⟨l, ns, j, rfl, ex_l e hl, hj, fun H2 e2 => q H2 e2⟩
end
/-! ### often wanted -/
theorem lt60 {i : Int} (h : -(10 ^ 62) < i) (h2 : i < 10 ^ 62) : i.natAbs.log2 < 1000 := by
  refine PySem.Flt.log2_lt_of (by decide) (Nat.lt_trans (m := 10 ^ 62) (by omega) (by decide +kernel))
theorem name_of {l : List Nat} (h1 : 1 ≤ l.length) (h2 : l.length ≤ 8) (h : ∀ c ∈ l, c ∈ lets) : isName (SX.S l) = true := by
  unfold isName
  rw [decide_eq_true (by rw [SX.S_len]; exact ⟨h1, h2⟩), Bool.true_and]
  exact List.all_eq_true.mpr fun c hc => decide_eq_true (h c hc)
theorem name_len {z : Str} (h : isName z = true) : 1 ≤ z.length ∧ z.length ≤ 8 := by
  unfold isName at h
  exact of_decide_eq_true (Bool.and_eq_true_iff.mp h).1
theorem isFault_pair (f : Str) (w : PyData) : isFaultD (.tuple [.str f, w]) = (decide (f = ("fault" : Str)) && isNameD w) := rfl
theorem lets_lt : ∀ c ∈ lets, c < 128 := by decide +kernel
theorem name_ok {z : Str} (h : isName z = true) : okS z := by
  have := name_len h
  unfold isName at h
  refine okS_of (by omega) fun c hc => lets_lt c ?_
  exact of_decide_eq_true (List.all_eq_true.mp (Bool.and_eq_true_iff.mp h).2 c hc)
theorem okF : okS "fault" := ⟨by decide +kernel, by decide +kernel⟩
theorem okS_rep {z : Str} (h : okS z) {n : Int} (hn : z.length * n.toNat ≤ 30000) : okS (repS z n) := by
  unfold repS
  have e : z.cps.toList.length = z.length := by simp [Str.length]
  refine ⟨?_, ?_⟩
  · rw [SX.S_len, List.length_flatten, List.map_replicate, e]
    have : ∀ n : Nat, (List.replicate n z.length).sum = z.length * n := fun n => by
      induction n with
      | zero => rfl
      | succ n ih => rw [List.replicate_succ, List.sum_cons, ih, Nat.mul_succ, Nat.add_comm]
    rw [this]
    exact hn
  · show ((List.replicate n.toNat z.cps.toList).flatten).toArray.all (· < 1114112) = true
    rw [List.all_toArray]
    refine List.all_eq_true.mpr fun c hc => ?_
    obtain ⟨l, h1, h2⟩ := List.mem_flatten.mp hc
    rw [List.eq_of_mem_replicate h1] at h2
    have h3 := h.cps
    rw [← Array.all_toList] at h3
    exact List.all_eq_true.mp h3 c h2
theorem isNum_iff (x : Int) : isNumD (.int x) = decide (-(10 ^ 60) < x ∧ x < 10 ^ 60) := rfl
theorem ev_chainT {K : PySem.W.Frag} {σ : L2.St} {H : Hp} {ta tb tx : TE} {i j k : Int} (ha : Ev ta σ H (.int i)) (hb : Ev tb σ H (.int j)) (hc : Ev tx σ H (.int k)) : Ev (tChain rLtA rLtA ta tb tx) σ H (.bl (decide (i < j) && decide (j < k))) :=
  ev_chainI (g := fun a b => decide (a < b)) (g' := fun a b => decide (a < b)) ha hb hc
theorem len_is_whole {K : PySem.W.Frag} (vs : List V) (H : Hp) (Q : VK) (E : XK) (h : sp_is_whole K vs H Q E) : vs.length = 1 := by obtain ⟨_, _, rfl, _⟩ := sp1_open h; rfl
theorem len_is_name {K : PySem.W.Frag} (vs : List V) (H : Hp) (Q : VK) (E : XK) (h : sp_is_name K vs H Q E) : vs.length = 1 := by obtain ⟨_, _, rfl, _⟩ := sp1_open h; rfl
theorem len_is_fault {K : PySem.W.Frag} (vs : List V) (H : Hp) (Q : VK) (E : XK) (h : sp_is_fault K vs H Q E) : vs.length = 1 := by obtain ⟨_, _, rfl, _⟩ := sp1_open h; rfl
theorem len_is_number {K : PySem.W.Frag} (vs : List V) (H : Hp) (Q : VK) (E : XK) (h : sp_is_number K vs H Q E) : vs.length = 1 := by obtain ⟨_, _, rfl, _⟩ := sp1_open h; rfl
theorem len_is_value {K : PySem.W.Frag} (vs : List V) (H : Hp) (Q : VK) (E : XK) (h : sp_is_value K vs H Q E) : vs.length = 1 := by obtain ⟨_, _, rfl, _⟩ := sp1_open h; rfl
theorem len_law_cell {K : PySem.W.Frag} (vs : List V) (H : Hp) (Q : VK) (E : XK) (h : sp_law_cell K vs H Q E) : vs.length = 2 := by obtain ⟨_, _, _, rfl, _⟩ := h; rfl
end Z

set_option Elab.async false
set_option linter.all false
set_option autoImplicit false
set_option maxRecDepth 100000
set_option maxHeartbeats 4000000
/-! ev: what an expression comes to, by its form -/
local macro_rules | `(tactic| k_places) => `(tactic| (repeat' (first
  | (with_reducible exact ev_c)
  | (with_reducible exact ev_var rfl)
  | (with_reducible refine ev_chainLL ?_ ?_ ?_)
  | (with_reducible refine ev_chainLt ?_ ?_ ?_)
  | (with_reducible refine ev_op ?_ ?_ ?_)
  | (with_reducible refine ev_neg ?_)
  | (with_reducible refine et_test ?_)
  | (with_reducible refine et_B ?_)
  | (with_reducible refine et_not ?_)
  | (with_reducible refine et_and ?_ (fun _ => ?_))
  | (with_reducible refine et_or ?_ (fun _ => ?_))
  | (with_reducible refine ev_andV ?_ (fun _ => ?_))
  | (with_reducible refine ev_orV ?_ (fun _ => ?_))
  | (with_reducible refine ev_notV ?_)
  | (with_reducible exact rv_addI)
  | (with_reducible exact rv_subI)
  | (with_reducible exact rv_lt)
  | (with_reducible exact rv_le)
  | (with_reducible exact rv_gt)
  | (with_reducible exact rv_ge)
  | (with_reducible exact rv_isB)
  | (with_reducible exact rv_isnB)
  | (with_reducible exact rv_isN)
  | (with_reducible exact rv_isnN)
  | (with_reducible exact rv_eqS rfl)
  | (with_reducible exact rv_neS rfl)
  | (with_reducible exact rv_inStr)
  | (with_reducible exact rv_ninStr)
  | (with_reducible exact rv_mod (by first | decide | omega | assumption))
  | (with_reducible exact rv_div (by first | decide | omega | assumption))
  | (with_reducible exact rv_pow (by decide))
  | (with_reducible refine ed_i ?_; done)
  | (with_reducible exact ea_nil)
  | (with_reducible refine ea_cons ?_ ?_)
  | (with_reducible exact eds_nil)
  | (with_reducible refine eds_cons ?_ ?_)
  | (with_reducible exact ed_dnew)
  | (with_reducible refine ed_lst ?_ (by simp only [List.length_cons, List.length_nil]; omega))
  | (with_reducible refine ed_tup ?_ (by simp only [List.length_cons, List.length_nil]; omega)))))
namespace Z
open PySem PySem.Spec PyProof.Rows L2 Evl
/-! ### a caught exception that is kept by a name -/
def exA (a : Addr) (cls : Value) (d : Option Addr) : HO := .ext fun h => ∃ o : Obj, h.get? a = some o ∧ o.cls = cls ∧ o.dict = d ∧ ∃ vs, o.data = .fields vs
theorem exA_ok {P : Program} {w : World} {H : Hp} {h : Heap} {a : Addr} {cls : Value} {d : Option Addr} {o : Obj} (e : h.get? a = some o) (z : Zc cls d o) (f : ∃ vs, o.data = .fields vs) : ObjOk P w H h a (exA a cls d) :=
  ⟨⟨o, e, z.1, z.2, f⟩, ⟨o, e⟩, fun _ _ ⟨o, e, r⟩ k => ⟨o, k o e, r⟩⟩
theorem exA_at {P : Program} {w : World} {H : Hp} {h : Heap} {a : Addr} {cls : Value} {d : Option Addr} (ok : HOk P w H h) (e : H a = some (exA a cls d)) : ∃ o : Obj, h.get? a = some o ∧ o.cls = cls ∧ o.dict = d ∧ ∃ vs, o.data = .fields vs := by
  have x := ok a _ e
  exact x.1
section
variable {X : Cx} {pins : List (Addr × Obj)} {σ : L2.St} {H : Hp} {s : Shared}
/-- an object that was only known by its place is written into the heap that is told -/
theorem inv_track {a : Addr} {oe : Obj} {cls : Value} {d : Option Addr} (I : Inv X ((a, oe) :: pins) σ H s) (z : Zc cls d oe) (f : ∃ vs, oe.data = .fields vs) (h0 : X.s_0.heap.get? a = none) (hp : ∀ p ∈ X.pn ++ pins, p.1 ≠ a) : Inv X pins σ (upd H a (exA a cls d)) s := by
  obtain ⟨ga, na, nL, nF, nC⟩ := I.pin (a, oe) (List.mem_append_right _ List.mem_cons_self)
  have ga : s.heap.get? a = some oe := ga
  have na : H a = none := na
  have nL : a ≠ X.env.locals := nL
  refine ⟨I.ok, I.os, I.bare, ⟨I.base.keep, I.base.slot, fun b o e n hx => ?_, I.base.there, fun b xs e => ?_, fun b o u e => ?_, fun b ps e => ?_⟩, I.loc, I.cell, ?_, fun x c e => ?_, fun p hq => ?_, fun b o e => ?_, I.len⟩
  · have hb : b ≠ a := fun q => by rw [q, h0] at e; cases e
    rw [upd_ne hb]
    exact I.base.free b o e n hx
  · have q := I.base.tups b xs e
    rw [upd_ne (ne_of_none q na)]
    exact q
  · have q := I.base.frzs b o u e
    rw [upd_ne (ne_of_none q na)]
    exact q
  · obtain ⟨m, q⟩ := I.base.tbls b ps e
    exact ⟨m, by rw [upd_ne (ne_of_none q na)]; exact q⟩
  · rw [upd_ne (Ne.symm nL)]
    exact I.free
  · have hc : c ≠ a := fun q => by
      obtain ⟨v, o, ho, hd⟩ := I.cell x c e
      rw [q, ga] at ho
      cases ho
      obtain ⟨vs, hv⟩ := f
      rw [hv] at hd
      cases hd
    rw [upd_ne hc]
    exact I.freeC x c e
  · obtain ⟨g, n, l1, l2, l3⟩ := I.pin p (by
      rcases List.mem_append.mp hq with q | q
      · exact List.mem_append_left _ q
      · exact List.mem_append_right _ (List.mem_cons_of_mem _ q))
    refine ⟨g, ?_, l1, l2, l3⟩
    rw [upd_ne (hp p hq)]
    exact n
  · by_cases hb : b = a
    · subst hb
      rw [upd_same] at e
      cases e
      exact exA_ok ga z f
    · rw [upd_ne hb] at e
      refine (I.hok b o e).stay (fun _ _ _ q => q) (fun c q => ?_) fun c xs q => ?_
      · rw [upd_ne (ne_of_none q na)]
        exact q
      · rw [upd_ne (ne_of_none q na)]
        exact q
end
/-- what «except x as n: y = n» wishes of an exception of the body: slots i of n, j of y -/
def wKeep (K : PySem.W.Frag) (c : Value) (i j : Nat) (Wout : WX) (D : Ends) : WX := fun cls d σ H =>
  ∃ b, PySem.W.exmOne K cls c = some b ∧ (b = true → ∀ a, H a = none → D.nx (((σ.set i (some (.ref a))).set j (some (.ref a))).set i none) (upd H a (exA a cls d))) ∧ (b = false → Wout cls d σ H)
def tTryK (K : PySem.W.Frag) (c : Value) (i j : Nat) (Wout : WX) (tb : WX → TS) : TS := fun D σ H => tb (wKeep K c i j Wout D) D σ H
section
variable {X : Cx} {x n y : Str} {c : Value} {i j : Nat} {body : List Stmt} {np pos pos' py pn' pa : Pos} {tb : WX → TS} {Wout : WX}
theorem ps_try_keep (hs : X.stack = X.env :: X.outer) (hf : X.env.frame = some X.env.locals) (hex : X.ex = []) (hN : X.N.Nodup) (hi : X.N[i]? = some n) (hln : X.env.scope.names.lookup n = some .local) (hj : X.N[j]? = some y) (hly : X.env.scope.names.lookup y = some .local) (hc : Names X x c) (tk : Takes X Wout)
    (hb : ∀ (W : WX) (pn : List (Addr × Obj)) (xe : Value → Shared → Prop), Takes (X.tr pn xe) W → PassesOwn (model X.prog X.w) X.A X.env xe → PSs (X.tr pn xe) body (tb W))
    (hd1 : (n == ("__debug__" : Str)) = false := by decide) (hd2 : (n == ("__classdict__" : Str)) = false := by decide) (hsw : swapsWith (.Name n pn') (some (.Name y py)) pa.line X.env = pure false := by rfl) :
    PS X (.Try body [.ExceptHandler (some (.Name x np)) (some n) [.Assign [.Name y py] (.Name n pn') pa] pos'] [] [] pos) (tTryK X.K c i j Wout tb) := by
  refine ⟨fun pins s σ H D I h => ?_⟩
  have ok := I.ok
  have ih : i < σ.length := by rw [I.len]; exact (List.getElem?_eq_some_iff.mp hi).1
  have stk : X.A.frames = some (X.env :: X.outer) := by rw [ok.frames, hs]
  refine wpAny_Try_except (wpAny_mono ((hb (wKeep X.K c i j Wout D) (X.pn ++ pins) _ (fun u s' xx => ?caught) PassesOwn.looking).run [] s σ H D (I.toTry _) h) (fun f s1 hsp => ?thru) (fun e s1 he => he))
  case thru =>
    cases f with
    | next =>
      obtain ⟨σ', H', J, q⟩ := hsp
      exact wpAny_execs_nil ⟨σ', H', J.ofTry ok, q⟩
    | brk =>
      obtain ⟨σ', H', J, q⟩ := hsp
      exact ⟨σ', H', J.ofTry ok, q⟩
    | cont =>
      obtain ⟨σ', H', J, q⟩ := hsp
      exact ⟨σ', H', J.ofTry ok, q⟩
    | ret u =>
      obtain ⟨v, σ', H', J, r, q⟩ := hsp
      exact ⟨v, σ', H', J.ofTry ok, r, q⟩
  case caught =>
    obtain ⟨a, B, sI, pins', σ', H', cls, d, rfl, J', nb, up, sky, na, os, ag, b, hb1, hyes, hno⟩ := xx
    have J : Inv X pins σ' H' sI := J'.ofTry ok
    rw [hs] at sky nb
    show wpAny (model X.prog X.w) X.A (noteFrame (.ref a) X.env) _ _ _
    refine Sky.land Zc.steady stk hf sky fun h3 fl3 up3 => ?_
    have J3 : Inv X pins σ' H' { s' with heap := h3 } := J.landed (by rw [hs]; exact nb) fl3.1 (up.trans up3) os ag
    obtain ⟨oe3, vs3, he3, hz3, hd3⟩ := fl3.there
    have off : a ∉ frs (X.env :: X.outer) := fun hm => by
      obtain ⟨_, o', e', hnf⟩ := fl3.2.2.1.mem hm
      rw [he3] at e'
      cases e'
      exact hnf _ hd3
    have nL : a ≠ X.env.locals := fun q => off (List.mem_filterMap.mpr ⟨X.env, List.mem_cons_self, by rw [hf, q]⟩)
    have nF : a ∉ X.fs := fun hm => by
      obtain ⟨e, he, q⟩ := List.mem_filterMap.mp hm
      exact off (List.mem_filterMap.mpr ⟨e, List.mem_cons_of_mem _ he, q⟩)
    have newI : sI.heap.get? a = none := by
      cases q : sI.heap.get? a with
      | none => rfl
      | some o =>
        have z := nb a o q off
        rw [fl3.2.1] at z
        cases z
    have new0 : X.s_0.heap.get? a = none := by
      cases q : X.s_0.heap.get? a with
      | none => rfl
      | some o =>
        obtain ⟨o', e'⟩ := J.base.there a o q (by rw [hex]; simp)
        rw [newI] at e'
        cases e'
    have pinsNe : ∀ p ∈ X.pn ++ pins, p.1 ≠ a := fun p hp q => by
      have z := (J.pin p hp).1
      rw [q, newI] at z
      cases z
    have S3 := J3.suite he3 hd3 na nL nF
    refine wpAny_handleBy_cons (codeAny_handlers_test ?_) (by intro q; cases q)
    have LT : PySem.W.Looks (model X.prog X.w) h3 (typeOf (.ref a)) cls := fun A Q E s k q => wpAny_typeOf_ref (k _ _ he3) (by rw [hz3.1]; exact q)
    have LM := PySem.W.exm_one (M := model X.prog X.w) J3.kIn LT hb1
    have test : ∀ {Q : Value → Shared → Prop} {E : Value → Shared → Prop}, Q c { s' with heap := h3 } → wpAny (model X.prog X.w) (X.A.mark (some (.ref a))) (eval (.Name x np) X.env) Q E { s' with heap := h3 } := fun {Q E} q => by
      obtain ⟨hg, hdb, hm | ⟨hm, hv, hnn⟩⟩ := hc
      · exact ld_glob (X := X.suite a ((a, oe3) :: (X.pn ++ pins))) S3 hg hm q hdb
      · exact ld_blt (X := X.suite a ((a, oe3) :: (X.pn ++ pins))) S3 hg hm hv q hnn hdb
    refine test (LM.here ?_)
    cases b with
    | false =>
      show wpAny _ X.A (handleBy (.ref a) X.env []) _ _ _
      refine wpAny_handleBy_nil ?_
      obtain ⟨k1, k2, k3, oe, vs, T, oT, ts', he, hz, hd, h1, hr⟩ := id fl3
      unfold PySem.passOn
      refine wpAny_bind (wpAny_field he hd h1 ?_)
      rw [if_neg (show ¬ ((Value.ref T == Value.none) = true) from by simp)]
      have fin : wpAny (model X.prog X.w) X.A (setFlight (.ref a) X.env.frame) (fun _ s4 => wpAny (model X.prog X.w) X.A (throw (.ref a) : Sem Flow) (SP X pins D) X.xe s4) X.xe { s' with heap := h3 } := by
        rw [hf]
        refine HandSPX.setFlight_upZ fl3 fun h4 hh4 up4 => wpAny_throw (tk _ _ ?_)
        exact ⟨a, B, sI, pins, σ', H', cls, d, rfl, J, by rw [hs]; exact nb, (up.trans up3).trans up4, .inr (.inr (by rw [hs]; exact hh4)), na, os, ag, hno rfl⟩
      first
        | exact wpAny_bind (wpAny_pure (wpAny_bind fin))
        | exact wpAny_bind fin
    | true =>
      refine codeAny_handlers_suite_as (HandSPX.lands_againZ fl3 fun h4 fl4 up4 => ?_)
      have J4 : Inv X pins σ' H' { s' with heap := h4 } := J.landed (by rw [hs]; exact nb) fl4.1 ((up.trans up3).trans up4) os ag
      obtain ⟨oe4, vs4, he4, hz4, hd4⟩ := fl4.there
      have S4 := J4.suite he4 hd4 na nL nF
      refine store_ok (X := X.suite a ((a, oe4) :: (X.pn ++ pins))) (v := .ref a) S4 hN hi (.inl hln) rfl (fun s5 S5 => ?_) (.inr hln)
      have body1 : PSs (X.suite a ((a, oe4) :: (X.pn ++ pins))) [.Assign [.Name y py] (.Name n pn') pa] (tAsg (tVar i) (gName j)) :=
        pss_one (ps_set (X := X.suite a ((a, oe4) :: (X.pn ++ pins))) (i := j) hN hj (.inl hly) (pe_var hi (.inl hln) hd1 hd2) hsw (.inr hly))
      have ih' : i < σ'.length := by rw [J.len]; exact (List.getElem?_eq_some_iff.mp hi).1
      refine wpAny_mono (body1.run [] s5 _ H' { nx := fun σ6 H6 => σ6 = (σ'.set i (some (.ref a))).set j (some (.ref a)) ∧ H6 = H', rt := fun _ _ => False } S5 ⟨.ref a, by rw [List.getElem?_set_self ih'], rfl, rfl⟩) (fun f s6 hsp => ?_) (fun _ _ z => False.elim z)
      cases f with
      | next =>
        obtain ⟨σ6, H6, S6, e6, eH⟩ := hsp
        subst e6 eH
        have pa6 := S6.pin (a, oe4) (List.mem_append_left _ List.mem_cons_self)
        have K6 : Inv X ((a, oe4) :: pins) ((σ'.set i (some (.ref a))).set j (some (.ref a))) H6 s6 := by
          refine (S6.unsuite ok).pins_of fun p hp => ?_
          rcases List.mem_cons.mp hp with e | hp
          · rw [e]
            exact pa6
          · exact S6.pin p (List.mem_append_left _ (List.mem_cons_of_mem _ (List.mem_append_right _ hp)))
        refine gone_ok K6 hN hi hln fun s7 J7 => ⟨_, _, inv_track J7 hz4 ⟨_, hd4⟩ new0 pinsNe, hyes rfl a na⟩
      | brk =>
        obtain ⟨_, _, _, z⟩ := hsp
        exact False.elim z
      | cont =>
        obtain ⟨_, _, _, z⟩ := hsp
        exact False.elim z
      | ret u =>
        obtain ⟨_, _, _, _, _, z⟩ := hsp
        exact False.elim z
end
/-! ### isinstance of a kept exception -/
def rIsX (K : PySem.W.Frag) : List V → Hp → VK → Prop := fun xs H Q => ∃ (a D : Addr) (c : V) (u : Value) (b : Bool), xs = [.ref a, c] ∧ H a = some (exA a (.ref D) none) ∧ ExcC K D ∧ ClsV c u ∧ PySem.W.kitOne K (.ref D) u = some b ∧ Q (.bl b) H
theorem call_isX {X : Cx} : CallR X (.builtin "isinstance") (rIsX X.K) := by
  intro pins s σ H xs us Q I r h
  obtain ⟨a, D, c, u, b, rfl, ha, C, k, e, q⟩ := h
  obtain ⟨u1, u2, rfl, r1, r2⟩ := vals2 r
  have e2 := k.eq r2
  subst e2
  cases (show u1 = Value.ref a from r1)
  obtain ⟨⟨oc, od, oda, osl⟩, g, h1, h2, vs, h3⟩ := exA_at I.hok ha
  dsimp only at h1 h2 h3
  subst h1 h2 h3
  have J : PySem.W.InstAt s.heap a ⟨.ref D, none, .fields vs, osl⟩ D none := ⟨g, rfl, rfl, trivial⟩
  exact PySem.W.kia_one (PySem.W.handS_kitx_exc C.hg C.hk C.hs C.hd C.ha C.hn C.ht C.hm) I.kIn J e (fun z => nomatch z) fun tk => ⟨.bl b, H, I.tok tk, rfl, q⟩
/-! ### the program's classes -/
inductive Cn
  | ColsError | NoName | NoValue | NoTable | NoColumn | NoPlace | NoSize | NoText | NoRow | NoBack | TooMuch | Ruled | Ring | Nobody | Several
  | Table | Cells | Above | Group | Lookup | Mend | Sheet | View | Some | Ordered | Cut | Together | Beside | Desk | Shelf | Changes | Other
  deriving DecidableEq
/-- is D the class X, or below it: errors -/
def subE (D X : Cn) : Bool := D == X || X == .ColsError
/-- what is known of an error's class D, asked of the classes in L -/
structure ExK (K : PySem.W.Frag) (A : Cn → Addr) (L : List Cn) (D : Cn) : Prop where
  cc : ExcC K (A D)
  em : PySem.W.exmOne K (.ref (A D)) (.ref (A .ColsError)) = some true
  kt : ∀ X ∈ L, PySem.W.kitOne K (.ref (A D)) (.ref (A X)) = some (subE D X)
  kv : PySem.W.kitOne K (.ref (A D)) (.type "ValueError") = some true
theorem kit_of {K : PySem.W.Frag} {D X : Addr} {b : Bool} (i : PySem.W.isClsIn K X = true) (t : PySem.W.typeIn K (.ref X) = some (.type "type")) (s : PySem.W.subIn K (.ref D) (.ref X) = some b) (r : PySem.W.subIn K (.ref D) (.ref D) = some true) : PySem.W.kitOne K (.ref D) (.ref X) = some b := by
  unfold PySem.W.kitOne
  split
  · rename_i h
    have h : Value.ref D = Value.ref X := by simpa using h
    cases h
    rw [r] at s
    exact s
  · have e2 : ((PySem.W.clsIn K X).isSome && PySem.W.typeIn K (.ref X) == some (.type "type")) = true := by
      have h2' : (PySem.W.clsIn K X).isSome = true := i
      rw [h2', t] <;> rfl
    show (if ((PySem.W.clsIn K X).isSome && PySem.W.typeIn K (.ref X) == some (.type "type")) = true then PySem.W.subIn K (.ref D) (.ref X) else none) = some b
    rw [if_pos e2]
    exact s
theorem exm_of {K : PySem.W.Frag} {D X : Addr} {b : Bool} (h1 : PySem.W.subIn K (.ref X) (.type "BaseException") = some true) (i : PySem.W.isClsIn K X = true) (t : PySem.W.typeIn K (.ref X) = some (.type "type")) (s : PySem.W.subIn K (.ref D) (.ref X) = some b) : PySem.W.exmOne K (.ref D) (.ref X) = some b := by
  have e1 : (PySem.W.subIn K (.ref X) (.type "BaseException") == some true) = true := by rw [h1] <;> rfl
  have e2 : ((PySem.W.clsIn K X).isSome && PySem.W.typeIn K (.ref X) == some (.type "type")) = true := by
    have h2' : (PySem.W.clsIn K X).isSome = true := i
    rw [h2', t] <;> rfl
  show (if (PySem.W.subIn K (.ref X) (.type "BaseException") == some true) = true then (if ((PySem.W.clsIn K X).isSome && PySem.W.typeIn K (.ref X) == some (.type "type")) = true then PySem.W.subIn K (.ref D) (.ref X) else none) else none) = some b
  rw [if_pos e1, if_pos e2]
  exact s
theorem kitv_of {K : PySem.W.Frag} {D : Addr} (s : PySem.W.subIn K (.ref D) (.type "ValueError") = some true) : PySem.W.kitOne K (.ref D) (.type "ValueError") = some true := by
  unfold PySem.W.kitOne
  rw [if_neg (fun h => nomatch (show Value.ref D = Value.type "ValueError" by simpa using h))]
  show (if PySem.W.kitMeta "ValueError" = true then PySem.W.subIn K (.ref D) (.type "ValueError") else none) = some true
  rw [if_pos (by decide +kernel)]
  exact s
/-- raise X('..') -/
def tRaiseA (W : WX) (C : Addr) : TS := fun _ σ H => W (.ref C) none σ H
section
variable {K : PySem.W.Frag} {σ : L2.St} {H H' : Hp} {ta tb : TE} {D : Ends} {tz : TS} {A : Cn → Addr} {L : List Cn} {Dn X : Cn}
theorem rc_isX {a : Addr} (h : H a = some (exA a (.ref (A Dn)) none)) (E : ExK K A L Dn) (hX : X ∈ L) : RC (rIsX K) [.ref a, .ref (A X)] H (.bl (subE Dn X)) := fun H1 e Q q =>
  ⟨a, A Dn, .ref (A X), .ref (A X), subE Dn X, rfl, e a _ h, E.cc, .own _, E.kt X hX, q H1 (Ex.refl H1)⟩
theorem rc_isXV {a : Addr} (h : H a = some (exA a (.ref (A Dn)) none)) (E : ExK K A L Dn) : RC (rIsX K) [.ref a, .ty "ValueError"] H (.bl true) := fun H1 e Q q =>
  ⟨a, A Dn, .ty "ValueError", .type "ValueError", true, rfl, e a _ h, E.cc, .ty _, E.kv, q H1 (Ex.refl H1)⟩
theorem ev_isX {a : Addr} (ha : Ev ta σ H (.ref a)) (h : H a = some (exA a (.ref (A Dn)) none)) (E : ExK K A L Dn) (hX : X ∈ L) : Ev (tCB (rIsX K) (tCons ta (tCons (tC (.ref (A X))) tNil))) σ H (.bl (subE Dn X)) :=
  ev_cb (ea_cons ha (ea_cons ev_c ea_nil)) (rc_isX h E hX)
theorem ev_isXV {a : Addr} (ha : Ev ta σ H (.ref a)) (h : H a = some (exA a (.ref (A Dn)) none)) (E : ExK K A L Dn) : Ev (tCB (rIsX K) (tCons ta (tCons (tC (.ty "ValueError")) tNil))) σ H (.bl true) :=
  ev_cb (ea_cons ha (ea_cons ev_c ea_nil)) (rc_isXV h E)
/-- the try suite: what its body does is told for every wish W that the caught error's way on fulfils -/
theorem q_try {i j : Nat} {Wout : WX} {tbb : WX → TS} (h : ∀ W : WX, (∀ Dn : Cn, (∃ L, ExK K A L Dn) → ∀ H1, Ex H H1 → (∀ a, H1 a = none → tz D (((σ.set i (some (.ref a))).set j (some (.ref a))).set i none) (upd H1 a (exA a (.ref (A Dn)) none))) → W (.ref (A Dn)) none σ H1) → tbb W { D with nx := tz D } σ H) :
    tSeq (tTryK K (.ref (A .ColsError)) i j Wout tbb) tz D σ H :=
  h _ fun Dn ⟨L, E⟩ H1 _ k => ⟨true, E.em, fun _ a ha => k a ha, fun q => nomatch q⟩
end
end Z

set_option Elab.async false
set_option linter.all false
set_option autoImplicit false
set_option maxRecDepth 100000
set_option maxHeartbeats 4000000
/-! ev: what an expression comes to, by its form -/
local macro_rules | `(tactic| k_places) => `(tactic| (repeat' (first
  | (with_reducible exact ev_c)
  | (with_reducible exact ev_var rfl)
  | (with_reducible refine ev_chainLL ?_ ?_ ?_)
  | (with_reducible refine ev_chainLt ?_ ?_ ?_)
  | (with_reducible refine ev_op ?_ ?_ ?_)
  | (with_reducible refine ev_neg ?_)
  | (with_reducible refine et_test ?_)
  | (with_reducible refine et_B ?_)
  | (with_reducible refine et_not ?_)
  | (with_reducible refine et_and ?_ (fun _ => ?_))
  | (with_reducible refine et_or ?_ (fun _ => ?_))
  | (with_reducible refine ev_andV ?_ (fun _ => ?_))
  | (with_reducible refine ev_orV ?_ (fun _ => ?_))
  | (with_reducible refine ev_notV ?_)
  | (with_reducible exact rv_addI)
  | (with_reducible exact rv_subI)
  | (with_reducible exact rv_lt)
  | (with_reducible exact rv_le)
  | (with_reducible exact rv_gt)
  | (with_reducible exact rv_ge)
  | (with_reducible exact rv_isB)
  | (with_reducible exact rv_isnB)
  | (with_reducible exact rv_isN)
  | (with_reducible exact rv_isnN)
  | (with_reducible exact rv_eqS rfl)
  | (with_reducible exact rv_neS rfl)
  | (with_reducible exact rv_inStr)
  | (with_reducible exact rv_ninStr)
  | (with_reducible exact rv_mod (by first | decide | omega | assumption))
  | (with_reducible exact rv_div (by first | decide | omega | assumption))
  | (with_reducible exact rv_pow (by decide))
  | (with_reducible refine ed_i ?_; done)
  | (with_reducible exact ea_nil)
  | (with_reducible refine ea_cons ?_ ?_)
  | (with_reducible exact eds_nil)
  | (with_reducible refine eds_cons ?_ ?_)
  | (with_reducible exact ed_dnew)
  | (with_reducible refine ed_lst ?_ (by simp only [List.length_cons, List.length_nil]; omega))
  | (with_reducible refine ed_tup ?_ (by simp only [List.length_cons, List.length_nil]; omega)))))
namespace Z
open PySem PySem.Spec PyProof.Rows L2 Evl
/-! ### texts, faults -/
section
variable {K : PySem.W.Frag} {σ : L2.St} {H H' : Hp} {ta tb te tx : TE} {tl th : TO} {D : Ends} {tz : TS} {A : Cn → Addr}
theorem ev_slS {z : Str} {lo hi : Option Int} (h : Ev te σ H (.str z)) (h1 : EvO tl σ H lo) (h2 : EvO th σ H hi) (hz : z.length ≤ 100000) : Ev (tSl (rSlA K) te tl th) σ H (.str (cutS z lo hi)) := fun H1 e Q q =>
  h H1 e _ fun H2 e2 => h1 H2 (e.trans e2) _ fun H3 e3 => h2 H3 ((e.trans e2).trans e3) _ fun H4 e4 => .inr (.inr ⟨z, rfl, sz_of hz, q H4 ((e2.trans e3).trans e4)⟩)
theorem s_dropS {sp : Sp} {vs : List V} {E : L2.St → XK} {tas : TA} (h : EvA tas σ H vs) (k : ∀ H1, Ex H H1 → sp vs H1 (fun _ H2 => D.nx σ H2) (E σ)) : tDrop (tCallS sp E tas) D σ H := h H (Ex.refl H) _ k
theorem not_name {z : Str} {c : Nat} (h : c ∈ z.cps.toList) (hc : c ∉ lets) : isName z = false := by
  unfold isName
  have : (z.cps.toList.all fun c => decide (c ∈ lets)) = false := by
    rw [← Bool.not_eq_true]
    intro q
    exact hc (of_decide_eq_true (List.all_eq_true.mp q c h))
  rw [this, Bool.and_false]
theorem not_name_len {z : Str} (h : ¬ (1 ≤ z.length ∧ z.length ≤ 8)) : isName z = false := by
  unfold isName
  rw [decide_eq_false h, Bool.false_and]
theorem app_mem {x y : Str} {c : Nat} : c ∈ (x ++ y).cps.toList ↔ c ∈ x.cps.toList ∨ c ∈ y.cps.toList := by
  show c ∈ (x.cps ++ y.cps).toList ↔ _
  rw [Array.toList_append, List.mem_append]
theorem repS_len (z : Str) (n : Int) : (repS z n).length = z.length * n.toNat := by
  unfold repS
  have e : z.cps.toList.length = z.length := by simp [Str.length]
  rw [SX.S_len, List.length_flatten, List.map_replicate, e]
  have : ∀ n : Nat, (List.replicate n z.length).sum = z.length * n := fun n => by
    induction n with
    | zero => rfl
    | succ n ih => rw [List.replicate_succ, List.sum_cons, ih, Nat.mul_succ, Nat.add_comm]
  rw [this]
theorem okS_cut {z : Str} (h : okS z) (lo hi : Option Int) : okS (cutS z lo hi) := by
  refine ⟨Nat.le_trans (cutS_length z lo hi) h.len, ?_⟩
  have h3 := h.cps
  rw [← Array.all_toList] at h3
  show (((z.cps.toList.drop _).take _).toArray).all _ = true
  rw [List.all_toArray]
  exact List.all_eq_true.mpr fun c hc => List.all_eq_true.mp h3 c (List.mem_of_mem_drop (List.mem_of_mem_take hc))
/-- fault(word) -/
def faultD (d : PyData) : PyData := .tuple [.str "fault", d]
def sp_fault (K : PySem.W.Frag) (A : Cn → Addr) : Sp := fun vs H Q E => ∃ v d, vs = [v] ∧ Dt H v d ∧ short d ∧ (isNameD d = true → RetD (faultD d) H Q) ∧ (isNameD d = false → ∀ H1, Ex H H1 → E (.ref (A .NoName)) none H1)
def t_fault (K : PySem.W.Frag) (A : Cn → Addr) (E : XK) : TS :=
  tSeq (tIfS (tNot (tB (tCallS (sp_is_name K) (WE (fun cls d _ H => E cls d H)) (tCons (tVar 0) tNil)))) (tRaiseA (fun cls d _ H => E cls d H) (A .NoName)) tNext)
    (tRet (tTup (tCons (tC (.str "fault")) (tCons (tVar 0) tNil))))
theorem len_fault (vs : List V) (H : Hp) (Q : VK) (E : XK) (h : sp_fault K A vs H Q E) : vs.length = 1 := by obtain ⟨_, _, rfl, _⟩ := h; rfl
theorem r_fault (vs : List V) (H : Hp) (Q : VK) (E : XK) (h : sp_fault K A vs H Q E) : t_fault K A E { nx := fun _ H' => Q .non H', rt := Q } (L2.start ["word"] vs) H := by
  obtain ⟨v, d, rfl, r, hs, k1, k2⟩ := h
  unfold t_fault
  refine q_when (et_not (et_B (ev_spB (g := isNameD) (pre := short) (ed_var rfl r) hs))) (fun hb H1 e1 => k2 ?_ H1 e1) (fun hb H1 e1 => ?_)
  · cases q : isNameD d with
    | false => rfl
    | true => rw [q] at hb; cases hb
  · refine s_retD (ed_tup (eds_cons (ed_s ev_c) (eds_cons (ed_var rfl (r.ex e1)) eds_nil))) fun v2 H2 e2 r2 => k1 ?_ v2 H2 (e1.trans e2) r2
    cases q : isNameD d with
    | true => rfl
    | false => rw [q] at hb; cases hb
theorem ed_fault {d : PyData} {E : L2.St → XK} (h : EvD te σ H d) (hs : short d) (hn : isNameD d = true) : EvD (tCallS (sp_fault K A) E (tCons te tNil)) σ H (faultD d) := fun H1 e Q q =>
  h H1 e _ fun v H2 e2 r => ⟨v, d, rfl, r, hs, fun _ v3 H3 e3 r3 => q v3 H3 (e2.trans e3) r3, fun z => by rw [hn] at z; cases z⟩
/-! ### what a law asks of a caught error -/
def tIsE (K : PySem.W.Frag) (A : Cn → Addr) (j : Nat) (X : Cn) : TE := tCB (rIsX K) (tCons (tVar j) (tCons (tC (.ref (A X))) tNil))
theorem q_not3 {j : Nat} {a : Addr} {L : List Cn} {Dn X1 X2 X3 : Cn} (hv : σ[j]? = some (some (.ref a))) (h : H a = some (exA a (.ref (A Dn)) none)) (E : ExK K A L Dn) (m : X1 ∈ L ∧ X2 ∈ L ∧ X3 ∈ L) (s : (subE Dn X1 || (subE Dn X2 || subE Dn X3)) = false) (k : ∀ H1, Ex H H1 → tz D σ H1) :
    tSeq (tIfS (tOr (tB (tIsE K A j X1)) (tOr (tB (tIsE K A j X2)) (tB (tIsE K A j X3)))) (tRet (tC (.bl false))) tNext) tz D σ H :=
  q_when (b := false) (et_is (et_or (et_B (ev_isX (ev_var hv) h E m.1)) fun _ => et_or (et_B (ev_isX (ev_var hv) h E m.2.1)) fun _ => et_B (ev_isX (ev_var hv) h E m.2.2)) s) (fun q => nomatch q) fun _ H1 e1 => k H1 e1
theorem s_isE {j : Nat} {a : Addr} {L : List Cn} {Dn Y : Cn} (hv : σ[j]? = some (some (.ref a))) (h : H a = some (exA a (.ref (A Dn)) none)) (E : ExK K A L Dn) (m : Dn ∈ L ∧ Y ∈ L) (s : subE Dn Y = false) (k : ∀ H1, Ex H H1 → D.rt (.bl true) H1) :
    tRet (tAndV (tIsE K A j Dn) (tAndV (tCB (rIsX K) (tCons (tVar j) (tCons (tC (.ty "ValueError")) tNil))) (tNotV (tIsE K A j Y)))) D σ H :=
  s_ret (ev_is (ev_andV (ev_isX (ev_var hv) h E m.1) fun _ => ev_andV (ev_isXV (ev_var hv) h E) fun _ => ev_notV (ev_isX (ev_var hv) h E m.2)) (by rw [s, show subE Dn Dn = true by unfold subE; simp]; rfl)) k
/-- the whole of it -/
theorem q_tail {j : Nat} {a : Addr} {L : List Cn} {Dn X1 X2 X3 X4 X5 X6 X7 X8 X9 X10 X11 X12 Y : Cn} (hv : σ[j]? = some (some (.ref a))) (h : H a = some (exA a (.ref (A Dn)) none)) (E : ExK K A L Dn) (m : ∀ X ∈ [X1, X2, X3, X4, X5, X6, X7, X8, X9, X10, X11, X12, Dn, Y], X ∈ L)
    (s : ∀ X ∈ [X1, X2, X3, X4, X5, X6, X7, X8, X9, X10, X11, X12, Y], subE Dn X = false) (k : ∀ H1, Ex H H1 → D.rt (.bl true) H1) :
    tSeq (tIfS (tOr (tB (tIsE K A j X1)) (tOr (tB (tIsE K A j X2)) (tB (tIsE K A j X3)))) (tRet (tC (.bl false))) tNext)
    (tSeq (tIfS (tOr (tB (tIsE K A j X4)) (tOr (tB (tIsE K A j X5)) (tB (tIsE K A j X6)))) (tRet (tC (.bl false))) tNext)
    (tSeq (tIfS (tOr (tB (tIsE K A j X7)) (tOr (tB (tIsE K A j X8)) (tB (tIsE K A j X9)))) (tRet (tC (.bl false))) tNext)
    (tSeq (tIfS (tOr (tB (tIsE K A j X10)) (tOr (tB (tIsE K A j X11)) (tB (tIsE K A j X12)))) (tRet (tC (.bl false))) tNext)
    (tRet (tAndV (tIsE K A j Dn) (tAndV (tCB (rIsX K) (tCons (tVar j) (tCons (tC (.ty "ValueError")) tNil))) (tNotV (tIsE K A j Y)))))))) D σ H := by
  refine q_not3 hv h E ⟨m _ (by simp), m _ (by simp), m _ (by simp)⟩ (by rw [s _ (by simp), s _ (by simp), s _ (by simp)]; rfl) fun H1 e1 => ?_
  refine q_not3 hv (e1 a _ h) E ⟨m _ (by simp), m _ (by simp), m _ (by simp)⟩ (by rw [s _ (by simp), s _ (by simp), s _ (by simp)]; rfl) fun H2 e2 => ?_
  refine q_not3 hv ((e1.trans e2) a _ h) E ⟨m _ (by simp), m _ (by simp), m _ (by simp)⟩ (by rw [s _ (by simp), s _ (by simp), s _ (by simp)]; rfl) fun H3 e3 => ?_
  refine q_not3 hv (((e1.trans e2).trans e3) a _ h) E ⟨m _ (by simp), m _ (by simp), m _ (by simp)⟩ (by rw [s _ (by simp), s _ (by simp), s _ (by simp)]; rfl) fun H4 e4 => ?_
  exact s_isE hv ((((e1.trans e2).trans e3).trans e4) a _ h) E ⟨m _ (by simp), m _ (by simp)⟩ (s _ (by simp)) fun H5 e5 => k H5 ((((e1.trans e2).trans e3).trans e4).trans e5)
end
end Z

set_option Elab.async false
set_option linter.all false
set_option autoImplicit false
set_option maxRecDepth 100000
set_option maxHeartbeats 4000000
/-! ev: what an expression comes to, by its form -/
local macro_rules | `(tactic| k_places) => `(tactic| (repeat' (first
  | (with_reducible exact ev_c)
  | (with_reducible exact ev_var rfl)
  | (with_reducible refine ev_chainLL ?_ ?_ ?_)
  | (with_reducible refine ev_chainLt ?_ ?_ ?_)
  | (with_reducible refine ev_op ?_ ?_ ?_)
  | (with_reducible refine ev_neg ?_)
  | (with_reducible refine et_test ?_)
  | (with_reducible refine et_B ?_)
  | (with_reducible refine et_not ?_)
  | (with_reducible refine et_and ?_ (fun _ => ?_))
  | (with_reducible refine et_or ?_ (fun _ => ?_))
  | (with_reducible refine ev_andV ?_ (fun _ => ?_))
  | (with_reducible refine ev_orV ?_ (fun _ => ?_))
  | (with_reducible refine ev_notV ?_)
  | (with_reducible exact rv_addI)
  | (with_reducible exact rv_subI)
  | (with_reducible exact rv_lt)
  | (with_reducible exact rv_le)
  | (with_reducible exact rv_gt)
  | (with_reducible exact rv_ge)
  | (with_reducible exact rv_isB)
  | (with_reducible exact rv_isnB)
  | (with_reducible exact rv_isN)
  | (with_reducible exact rv_isnN)
  | (with_reducible exact rv_eqS rfl)
  | (with_reducible exact rv_neS rfl)
  | (with_reducible exact rv_inStr)
  | (with_reducible exact rv_ninStr)
  | (with_reducible exact rv_mod (by first | decide | omega | assumption))
  | (with_reducible exact rv_div (by first | decide | omega | assumption))
  | (with_reducible exact rv_pow (by decide))
  | (with_reducible refine ed_i ?_; done)
  | (with_reducible exact ea_nil)
  | (with_reducible refine ea_cons ?_ ?_)
  | (with_reducible exact eds_nil)
  | (with_reducible refine eds_cons ?_ ?_)
  | (with_reducible exact ed_dnew)
  | (with_reducible refine ed_lst ?_ (by simp only [List.length_cons, List.length_nil]; omega))
  | (with_reducible refine ed_tup ?_ (by simp only [List.length_cons, List.length_nil]; omega)))))
namespace Z
open PySem PySem.Spec PyProof.Rows L2 Evl
/-! ### methods and classes -/
def tMetS (C : Addr) (m : Str) (sp : Sp) (E : L2.St → XK) (ta : TE) (t : TA) : TE := fun σ H Q => ta σ H fun x H1 => ∃ a dx fs, x = .ref a ∧ H1 a = some (.ins C dx fs) ∧ fs.lookup m = none ∧ t σ H1 fun vs H2 => sp (x :: vs) H2 Q (E σ)
def tMakS (C : Addr) (sp : Sp) (E : L2.St → XK) (t : TA) : TE := fun σ H Q => t σ H fun vs H1 => ∀ x dx, H1 x = none → H1 dx = none → dx ≠ x →
  sp (.ref x :: vs) (upd (upd H1 dx (.own x)) x (.ins C dx [])) (fun v H2 => v = .non ∧ Q (.ref x) H2) (E σ)
/-- a method of a class -/
structure Met (P : Program) (w : World) (K : PySem.W.Frag) (mg : Str → Option Value) (base : Heap) (k : Nat) (C : Addr) (m : Str) (f : Addr) (ps : List Str) (sp : Sp) : Prop where
  ex : ∃ fd, FnOk P w K mg base (L2.CX P w) k f fd ps sp ∧ Binds K fd ps []
  mt : Meth K C m f
  cl : Cls K C
/-- a class that may be made -/
structure Mak (P : Program) (w : World) (K : PySem.W.Frag) (mg : Str → Option Value) (base : Heap) (k : Nat) (C : Addr) (c : Str) (f : Addr) (ps : List Str) (sp : Sp) : Prop where
  ex : ∃ fd, FnOk P w K mg base (L2.CX P w) k f fd ps sp ∧ Binds K fd ps []
  mak : Mk K C f
  mg : mg c = some (.ref C)
section
variable {X : Cx} {W : WX} {k : Nat} {f C : Addr} {ps : List Str} {sp : Sp} {x m : Str} {p pos apos : Pos} {e o : Expr} {es : List Expr} {t : TA} {ta : TE} {pl : Sem Bool}
theorem pe_metX {E : L2.St → XK} (M : Met X.prog X.w X.K X.mg X.base k C m f ps sp) (he : PE X o ta) (hr : Room k X.A) (hx : ∀ σ, PassesAt (L2.CX X.prog X.w) X σ (E σ)) (ha : PA X (e :: es) t)
    (hst : starEach (e :: es) X.env = (false, eval e X.env) :: starEach es X.env := by rfl) (hpl : (backTo pos (starEach es X.env)).any (·.1) = false := by rfl)
    (ht : eval (.Call (.Attribute o m apos) (e :: es) [] pos) X.env = (do
      let ov ← eval o X.env
      standAt apos.atName
      let (f, first) ← holding [ov] (getMethod ov m pl)
      callWith pos f first (backTo pos (starEach (e :: es) X.env)) (backToKw pos (keywordEach [] X.env))) := by rfl) :
    PE X (.Call (.Attribute o m apos) (e :: es) [] pos) (tMetS C m sp E ta t) := by
  obtain ⟨fd, F, b⟩ := M.ex
  refine ⟨fun pins s σ H Q I h => ?_⟩
  refine PySem.W.methodCall_KW (pl := pl) (thn (he.run pins s σ H _ I h) fun u s1 ⟨x, H1, I1, rx, a, dx, fs, ex, ea, l, q⟩ => ?_) ht
  subst ex
  obtain rfl : u = Value.ref a := rx
  refine getmeth_ok I1 ea M.cl M.mt l ?_
  refine PySem.W.callWith_K (first := [.ref a]) (h₀ := X.base) I.ok.mod.kin M.mt.kp (thn (ha.run pos pins s1 σ H1 _ I1 q) fun us s2 ⟨vs, H2, I2, r, q2⟩ => ⟨I2.kIn, ?_⟩) hst hpl
  exact run_fnS (us := .ref a :: us) (vs := .ref a :: vs) F hr b (hx σ) I2 (.cons rfl r) q2
theorem pe_met0X {E : L2.St → XK} (M : Met X.prog X.w X.K X.mg X.base k C m f ps sp) (he : PE X o ta) (hr : Room k X.A) (hx : ∀ σ, PassesAt (L2.CX X.prog X.w) X σ (E σ))
    (ht : eval (.Call (.Attribute o m apos) [] [] pos) X.env = (do
      let ov ← eval o X.env
      standAt apos.atName
      let (f, first) ← holding [ov] (getMethod ov m pl)
      callWith pos f first (backTo pos (starEach [] X.env)) (backToKw pos (keywordEach [] X.env))) := by rfl) :
    PE X (.Call (.Attribute o m apos) [] [] pos) (tMetS C m sp E ta tNil) := by
  obtain ⟨fd, F, b⟩ := M.ex
  refine ⟨fun pins s σ H Q I h => ?_⟩
  refine PySem.W.methodCall_KW (pl := pl) (thn (he.run pins s σ H _ I h) fun u s1 ⟨x, H1, I1, rx, a, dx, fs, ex, ea, l, q⟩ => ?_) ht
  subst ex
  obtain rfl : u = Value.ref a := rx
  refine getmeth_ok I1 ea M.cl M.mt l ?_
  exact PySem.W.callWith_K0 (first := [.ref a]) I1.kIn M.mt.kp (run_fnS (us := [.ref a]) (vs := [.ref a]) F hr b (hx σ) I1 (.cons rfl .nil) q)
theorem pe_met (M : Met X.prog X.w X.K X.mg X.base k C m f ps sp) (he : PE X o ta) (hr : Room k X.A) (tk : Takes X W) (ha : PA X (e :: es) t)
    (hst : starEach (e :: es) X.env = (false, eval e X.env) :: starEach es X.env := by rfl) (hpl : (backTo pos (starEach es X.env)).any (·.1) = false := by rfl)
    (ht : eval (.Call (.Attribute o m apos) (e :: es) [] pos) X.env = (do
      let ov ← eval o X.env
      standAt apos.atName
      let (f, first) ← holding [ov] (getMethod ov m pl)
      callWith pos f first (backTo pos (starEach (e :: es) X.env)) (backToKw pos (keywordEach [] X.env))) := by rfl) :
    PE X (.Call (.Attribute o m apos) (e :: es) [] pos) (tMetS C m sp (WE W) ta t) := pe_metX M he hr (fun σ => passAt tk σ) ha hst hpl ht
theorem pe_met0 (M : Met X.prog X.w X.K X.mg X.base k C m f ps sp) (he : PE X o ta) (hr : Room k X.A) (tk : Takes X W)
    (ht : eval (.Call (.Attribute o m apos) [] [] pos) X.env = (do
      let ov ← eval o X.env
      standAt apos.atName
      let (f, first) ← holding [ov] (getMethod ov m pl)
      callWith pos f first (backTo pos (starEach [] X.env)) (backToKw pos (keywordEach [] X.env))) := by rfl) :
    PE X (.Call (.Attribute o m apos) [] [] pos) (tMetS C m sp (WE W) ta tNil) := pe_met0X M he hr (fun σ => passAt tk σ) ht
theorem passB {X : Cx} (σ : L2.St) : PassesAt (L2.CX X.prog X.w) X σ E0 := fun pins H s e s' _ c => by
  obtain ⟨_, _, _, _, _, _, _, _, _, _, _, _, z⟩ := c
  exact z.elim
theorem pe_metB (M : Met X.prog X.w X.K X.mg X.base k C m f ps sp) (he : PE X o ta) (hr : Room k X.A) (ha : PA X (e :: es) t)
    (hst : starEach (e :: es) X.env = (false, eval e X.env) :: starEach es X.env := by rfl) (hpl : (backTo pos (starEach es X.env)).any (·.1) = false := by rfl)
    (ht : eval (.Call (.Attribute o m apos) (e :: es) [] pos) X.env = (do
      let ov ← eval o X.env
      standAt apos.atName
      let (f, first) ← holding [ov] (getMethod ov m pl)
      callWith pos f first (backTo pos (starEach (e :: es) X.env)) (backToKw pos (keywordEach [] X.env))) := by rfl) :
    PE X (.Call (.Attribute o m apos) (e :: es) [] pos) (tMetS C m sp (fun _ => E0) ta t) := pe_metX M he hr passB ha hst hpl ht
theorem pe_metB0 (M : Met X.prog X.w X.K X.mg X.base k C m f ps sp) (he : PE X o ta) (hr : Room k X.A)
    (ht : eval (.Call (.Attribute o m apos) [] [] pos) X.env = (do
      let ov ← eval o X.env
      standAt apos.atName
      let (f, first) ← holding [ov] (getMethod ov m pl)
      callWith pos f first (backTo pos (starEach [] X.env)) (backToKw pos (keywordEach [] X.env))) := by rfl) :
    PE X (.Call (.Attribute o m apos) [] [] pos) (tMetS C m sp (fun _ => E0) ta tNil) := pe_met0X M he hr passB ht
theorem run_mak {pins : List (Addr × Obj)} {σ : L2.St} {H : Hp} {s : Shared} {Q : VK} {us : List Value} {vs : List V} {fd : FuncData} {E : XK} (M : Mk X.K C f) (F : FnOk X.prog X.w X.K X.mg X.base (L2.CX X.prog X.w) k f fd ps sp) (hr : Room (k + 1) X.A) (hb : Binds X.K fd ps [])
    (hx : PassesAt (L2.CX X.prog X.w) X σ E) (I : Inv X pins σ H s) (r : Vals vs us)
    (h : ∀ x dx, H x = none → H dx = none → dx ≠ x → sp (.ref x :: vs) (upd (upd H dx (.own x)) x (.ins C dx [])) (fun v H2 => v = .non ∧ Q (.ref x) H2) E) :
    wpAny (model X.prog X.w) X.A (call (.ref C) us) (EP X pins σ Q) X.xe s := by
  have hq := h (s.heap.objs.size + 1) s.heap.objs.size (I.hok.fresh (Nat.le_succ _)) (I.hok.fresh (Nat.le_refl _)) (Nat.ne_of_lt (Nat.lt_succ_self _))
  have I2 := Inv.made (C := C) I
  have r2 : Vals (V.ref (s.heap.objs.size + 1) :: vs) (Value.ref (s.heap.objs.size + 1) :: us) := .cons rfl r
  have hl : (Value.ref (s.heap.objs.size + 1) :: us ++ []).length = ps.length := by
    have e := r2.length
    rw [F.len _ _ _ _ hq] at e
    rw [List.append_nil]
    exact e.symm
  have b := hb _ (Value.ref (s.heap.objs.size + 1) :: us) I2.kIn hl
  rw [List.append_nil] at b
  refine wpAny_call (make_map (f := f) I.kIn M.makes M.init (beq_iff_eq.mp M.fn) (codeAny_mono (F.run _ X.stack _ _ ⟨Value.ref (s.heap.objs.size + 1) :: us, []⟩ (Value.ref (s.heap.objs.size + 1) :: us) _ _ E (hr.make C us [])
    (I2.env0.make C us []) b r2 hq) fun r s' hq' => ?_))
  cases r with
  | error e => exact hx pins _ _ e s' I2 hq'
  | ok fl =>
    cases fl with
    | ret u =>
      obtain ⟨v, H', I3, rv, ev, q3⟩ := I2.after hq'
      subst ev
      exact ⟨rv, ⟨V.ref (s.heap.objs.size + 1), H', I3, rfl, q3⟩⟩
    | next => exact False.elim hq'
    | brk => exact False.elim hq'
    | cont => exact False.elim hq'
theorem pe_mak (M : Mak X.prog X.w X.K X.mg X.base k C x f ps sp) (hr : Room (k + 1) X.A) (tk : Takes X W) (ha : PA X (e :: es) t) (hg : Gl X x := by rfl) (hdb : (x == ("__debug__" : Str)) = false := by decide)
    (he : starEach (e :: es) X.env = (false, eval e X.env) :: starEach es X.env := by rfl) (hpl : (backTo pos (starEach es X.env)).any (·.1) = false := by rfl) :
    PE X (.Call (.Name x p) (e :: es) [] pos) (tMakS C sp (WE W) t) := by
  obtain ⟨fd, F, b⟩ := M.ex
  refine ⟨fun pins s σ H Q I h => ?_⟩
  refine wpAny_Call_Name_kw (ld_glob I hg M.mg ?_ hdb)
  refine PySem.W.callWith_K (h₀ := X.base) I.ok.mod.kin M.mak.kp (thn (ha.run pos pins s σ H _ I h) fun us s1 ⟨vs, H1, I1, r, q⟩ => ⟨I1.kIn, ?_⟩) he hpl
  exact run_mak M.mak F hr b (passAt tk σ) I1 r q
theorem pe_mak0 (M : Mak X.prog X.w X.K X.mg X.base k C x f ps sp) (hr : Room (k + 1) X.A) (tk : Takes X W) (hg : Gl X x := by rfl) (hdb : (x == ("__debug__" : Str)) = false := by decide) : PE X (.Call (.Name x p) [] [] pos) (tMakS C sp (WE W) tNil) := by
  obtain ⟨fd, F, b⟩ := M.ex
  refine ⟨fun pins s σ H Q I h => ?_⟩
  refine wpAny_Call_Name_kw (ld_glob I hg M.mg ?_ hdb)
  exact PySem.W.callWith_K0 I.kIn M.mak.kp (run_mak (us := []) M.mak F hr b (passAt tk σ) I .nil h)
end
theorem met_of {P : Program} {w : World} {K : PySem.W.Frag} {mg : Str → Option Value} {base : Heap} {st : Stmt} {x qual : Str} {f C : Addr} {fd : FuncData} {N ps : List Str} {k : Nat} {sp : Sp} (F : Fun K x qual st f fd) (S : FnScope N ps (defScope st)) (hm : Meth K C x f) (hc : Cls K C) (hb : Binds K fd ps [])
    (len : ∀ vs H Q E, sp vs H Q E → vs.length = ps.length) (t : XK → TS)
    (d : ∀ (cdv : Value) (A : Around) (outer : List Env) (s : Shared) (H : Hp) (E : XK), Room k (A.deeper (envOfC qual (defScope st) s.heap.objs.size f cdv)) → PSs (cxOf (L2.CX P w) P w K mg base N qual (defScope st) f cdv A outer s H E) (defBody st) (t E))
    (r : ∀ (vs : List V) (H : Hp) (Q : VK) (E : XK), sp vs H Q E → t E { nx := fun _ H' => Q .non H', rt := Q } (L2.start N vs) H) : Met P w K mg base (k + 1) C x f ps sp :=
  ⟨⟨fd, F.okX S len fun cdv A outer s H vs Q E hr h => ⟨t E, d cdv A outer s H E hr, r vs H Q E h⟩, hb⟩, hm, hc⟩
theorem mak_of {P : Program} {w : World} {K : PySem.W.Frag} {mg : Str → Option Value} {base : Heap} {st : Stmt} {c qual : Str} {f C : Addr} {fd : FuncData} {N ps : List Str} {k : Nat} {sp : Sp} (F : Fun K "__init__" qual st f fd) (S : FnScope N ps (defScope st)) (hm : Mk K C f) (hg : mg c = some (.ref C)) (hb : Binds K fd ps [])
    (len : ∀ vs H Q E, sp vs H Q E → vs.length = ps.length) (t : XK → TS)
    (d : ∀ (cdv : Value) (A : Around) (outer : List Env) (s : Shared) (H : Hp) (E : XK), Room k (A.deeper (envOfC qual (defScope st) s.heap.objs.size f cdv)) → PSs (cxOf (L2.CX P w) P w K mg base N qual (defScope st) f cdv A outer s H E) (defBody st) (t E))
    (r : ∀ (vs : List V) (H : Hp) (Q : VK) (E : XK), sp vs H Q E → t E { nx := fun _ H' => Q .non H', rt := Q } (L2.start N vs) H) : Mak P w K mg base (k + 1) C c f ps sp :=
  ⟨⟨fd, F.okX S len fun cdv A outer s H vs Q E hr h => ⟨t E, d cdv A outer s H E hr, r vs H Q E h⟩, hb⟩, hm, hg⟩
/-! ### fields -/
structure ClK (K : PySem.W.Frag) (C : Addr) (fs : List Str) : Prop where
  cl : Cls K C
  na : ∀ f ∈ fs, NoAttr K C f
theorem putF_len (f : Str) (v : V) : ∀ fs : List (Str × V), (putF f v fs).length ≤ fs.length + 1
  | [] => Nat.le_refl _
  | (g, x) :: r => by
    show (if g = f then (g, v) :: r else (g, x) :: putF f v r).length ≤ _
    split
    · exact Nat.le_succ _
    · exact Nat.succ_le_succ (putF_len f v r)
theorem putF_lt {f : Str} {v : V} {fs : List (Str × V)} {n m : Nat} (h : fs.length < n) (e : n + 1 = m) : (putF f v fs).length < m := by
  have := putF_len f v fs
  omega
section
variable {K : PySem.W.Frag} {σ : L2.St} {H H' : Hp} {ta tb tv : TE} {D : Ends} {tz : TS} {C a dx : Addr} {fs : List (Str × V)} {ns : List Str} {f : Str} {v : V}
theorem ev_fld (ha : Ev ta σ H (.ref a)) (hi : H a = some (.ins C dx fs)) (c : ClK K C ns) (hf : f ∈ ns) (l : fs.lookup f = some v) : Ev (tFld K ta f) σ H v := fun H1 e Q q =>
  ha H1 e _ fun H2 e2 => ⟨a, C, dx, fs, v, rfl, (e.trans e2) _ _ hi, c.cl, c.na f hf, l, q H2 e2⟩
theorem s_fld (hv : Ev tv σ H v) (ha : Ev ta σ H (.ref a)) (hi : H a = some (.ins C dx fs)) (c : ClK K C ns) (hf : f ∈ ns) (hl : fs.length < 1000) (k : ∀ H1, Ex H H1 → D.nx σ (upd H1 a (.ins C dx (putF f v fs)))) : sFld K ta tv f D σ H :=
  hv H (Ex.refl H) _ fun H1 e1 => ha H1 e1 _ fun H2 e2 => ⟨a, C, dx, fs, rfl, (e1.trans e2) _ _ hi, c.cl, c.na f hf, hl, k H2 (e1.trans e2)⟩
theorem q_fld (hv : Ev tv σ H v) (ha : Ev ta σ H (.ref a)) (hi : H a = some (.ins C dx fs)) (c : ClK K C ns) (hf : f ∈ ns) (hl : fs.length < 1000) (k : ∀ H1, Ex H H1 → tz D σ (upd H1 a (.ins C dx (putF f v fs)))) : tSeq (sFld K ta tv f) tz D σ H :=
  s_fld (D := { D with nx := tz D }) hv ha hi c hf hl k
theorem q_fldL {xs : List V} (hv : EvL tv σ H xs) (ha : Ev ta σ H (.ref a)) (hi : H a = some (.ins C dx fs)) (c : ClK K C ns) (hf : f ∈ ns) (hl : fs.length < 1000) (k : ∀ p H1, H p = none → Ex H H1 → H1 p = some (.lst xs) → tz D σ (upd H1 a (.ins C dx (putF f (.ref p) fs)))) : tSeq (sFld K ta tv f) tz D σ H :=
  hv H (Ex.refl H) _ fun p H1 hp e1 h1 => ha H1 e1 _ fun H2 e2 => ⟨a, C, dx, fs, rfl, (e1.trans e2) _ _ hi, c.cl, c.na f hf, hl, k p H2 hp (e1.trans e2) (e2 _ _ h1)⟩
/-- a method without change: a value -/
theorem ev_met {m : Str} {sp : Sp} {vs : List V} {E : L2.St → XK} {tas : TA} {z : V} (ho : Ev ta σ H (.ref a)) (hi : H a = some (.ins C dx fs)) (l : fs.lookup m = none) (h : EvA tas σ H vs) (hs : SpV sp (.ref a :: vs) H z) : Ev (tMetS C m sp E ta tas) σ H z := fun H1 e Q q =>
  ho H1 e _ fun H2 e2 => ⟨a, dx, fs, rfl, (e.trans e2) _ _ hi, l, h H2 (e.trans e2) _ fun H3 e3 => hs H3 ((e.trans e2).trans e3) Q (fun H4 e4 => q H4 ((e2.trans e3).trans e4)) (E σ)⟩
theorem el_met {m : Str} {sp : Sp} {vs : List V} {E : L2.St → XK} {tas : TA} {xs : List V} (ho : Ev ta σ H (.ref a)) (hi : H a = some (.ins C dx fs)) (l : fs.lookup m = none) (h : EvA tas σ H vs) (hs : SpL sp (.ref a :: vs) H xs) : EvL (tMetS C m sp E ta tas) σ H xs := fun H1 e Q q =>
  ho H1 e _ fun H2 e2 => ⟨a, dx, fs, rfl, (e.trans e2) _ _ hi, l, h H2 (e.trans e2) _ fun H3 e3 => hs H3 ((e.trans e2).trans e3) Q (fun p H4 hp e4 h4 => q p H4 (fresh_back (e2.trans e3) hp) ((e2.trans e3).trans e4) h4) (E σ)⟩
/-- a method, by its promise -/
theorem s_metS {m : Str} {sp : Sp} {vs : List V} {E : L2.St → XK} {tas : TA} (ho : Ev ta σ H (.ref a)) (hi : H a = some (.ins C dx fs)) (l : fs.lookup m = none) (h : EvA tas σ H vs) (k : ∀ H1, Ex H H1 → sp (.ref a :: vs) H1 (fun _ H2 => D.nx σ H2) (E σ)) : tDrop (tMetS C m sp E ta tas) D σ H :=
  ho H (Ex.refl H) _ fun H2 e2 => ⟨a, dx, fs, rfl, e2 _ _ hi, l, h H2 e2 _ fun H3 e3 => k H3 (e2.trans e3)⟩
theorem q_metS {m : Str} {sp : Sp} {vs : List V} {E : L2.St → XK} {tas : TA} (ho : Ev ta σ H (.ref a)) (hi : H a = some (.ins C dx fs)) (l : fs.lookup m = none) (h : EvA tas σ H vs) (k : ∀ H1, Ex H H1 → sp (.ref a :: vs) H1 (fun _ H2 => tz D σ H2) (E σ)) : tSeq (tDrop (tMetS C m sp E ta tas)) tz D σ H :=
  s_metS (D := { D with nx := tz D }) ho hi l h k
theorem s_metAsg {m : Str} {sp : Sp} {vs : List V} {E : L2.St → XK} {tas : TA} {i : Nat} (ho : Ev ta σ H (.ref a)) (hi : H a = some (.ins C dx fs)) (l : fs.lookup m = none) (h : EvA tas σ H vs) (k : ∀ H1, Ex H H1 → sp (.ref a :: vs) H1 (fun v H2 => D.nx (σ.set i (some v)) H2) (E σ)) : tAsg (tMetS C m sp E ta tas) (gName i) D σ H :=
  ho H (Ex.refl H) _ fun H2 e2 => ⟨a, dx, fs, rfl, e2 _ _ hi, l, h H2 e2 _ fun H3 e3 => k H3 (e2.trans e3)⟩
theorem q_metAsg {m : Str} {sp : Sp} {vs : List V} {E : L2.St → XK} {tas : TA} {i : Nat} (ho : Ev ta σ H (.ref a)) (hi : H a = some (.ins C dx fs)) (l : fs.lookup m = none) (h : EvA tas σ H vs) (k : ∀ H1, Ex H H1 → sp (.ref a :: vs) H1 (fun v H2 => tz D (σ.set i (some v)) H2) (E σ)) : tSeq (tAsg (tMetS C m sp E ta tas) (gName i)) tz D σ H :=
  s_metAsg (D := { D with nx := tz D }) ho hi l h k
theorem q_makS {sp : Sp} {vs : List V} {E : L2.St → XK} {tas : TA} {i : Nat} (h : EvA tas σ H vs) (k : ∀ H1, Ex H H1 → ∀ x dx, H1 x = none → H1 dx = none → dx ≠ x → sp (.ref x :: vs) (upd (upd H1 dx (.own x)) x (.ins C dx [])) (fun v H2 => v = .non ∧ tz D (σ.set i (some (.ref x))) H2) (E σ)) :
    tSeq (tAsg (tMakS C sp E tas) (gName i)) tz D σ H := h H (Ex.refl H) _ fun H1 e1 x dx h1 h2 h3 => k H1 e1 x dx h1 h2 h3
theorem x_makS {sp : Sp} {vs : List V} {E : L2.St → XK} {tas : TA} {Q : VK} (h : EvA tas σ H vs) (k : ∀ H1, Ex H H1 → ∀ x dx, H1 x = none → H1 dx = none → dx ≠ x → sp (.ref x :: vs) (upd (upd H1 dx (.own x)) x (.ins C dx [])) (fun v H2 => v = .non ∧ Q (.ref x) H2) (E σ)) :
    tMakS C sp E tas σ H Q := h H (Ex.refl H) _ fun H1 e1 x dx h1 h2 h3 => k H1 e1 x dx h1 h2 h3
theorem s_makDrop {sp : Sp} {vs : List V} {E : L2.St → XK} {tas : TA} (h : EvA tas σ H vs) (k : ∀ H1, Ex H H1 → ∀ x dx, H1 x = none → H1 dx = none → dx ≠ x → sp (.ref x :: vs) (upd (upd H1 dx (.own x)) x (.ins C dx [])) (fun v H2 => v = .non ∧ D.nx σ H2) (E σ)) :
    tDrop (tMakS C sp E tas) D σ H := h H (Ex.refl H) _ fun H1 e1 x dx h1 h2 h3 => k H1 e1 x dx h1 h2 h3
end
end Z

set_option Elab.async false
set_option linter.all false
set_option autoImplicit false
set_option maxRecDepth 100000
set_option maxHeartbeats 4000000
/-! ev: what an expression comes to, by its form -/
local macro_rules | `(tactic| k_places) => `(tactic| (repeat' (first
  | (with_reducible exact ev_c)
  | (with_reducible exact ev_var rfl)
  | (with_reducible refine ev_chainLL ?_ ?_ ?_)
  | (with_reducible refine ev_chainLt ?_ ?_ ?_)
  | (with_reducible refine ev_op ?_ ?_ ?_)
  | (with_reducible refine ev_neg ?_)
  | (with_reducible refine et_test ?_)
  | (with_reducible refine et_B ?_)
  | (with_reducible refine et_not ?_)
  | (with_reducible refine et_and ?_ (fun _ => ?_))
  | (with_reducible refine et_or ?_ (fun _ => ?_))
  | (with_reducible refine ev_andV ?_ (fun _ => ?_))
  | (with_reducible refine ev_orV ?_ (fun _ => ?_))
  | (with_reducible refine ev_notV ?_)
  | (with_reducible exact rv_addI)
  | (with_reducible exact rv_subI)
  | (with_reducible exact rv_lt)
  | (with_reducible exact rv_le)
  | (with_reducible exact rv_gt)
  | (with_reducible exact rv_ge)
  | (with_reducible exact rv_isB)
  | (with_reducible exact rv_isnB)
  | (with_reducible exact rv_isN)
  | (with_reducible exact rv_isnN)
  | (with_reducible exact rv_eqS rfl)
  | (with_reducible exact rv_neS rfl)
  | (with_reducible exact rv_inStr)
  | (with_reducible exact rv_ninStr)
  | (with_reducible exact rv_mod (by first | decide | omega | assumption))
  | (with_reducible exact rv_div (by first | decide | omega | assumption))
  | (with_reducible exact rv_pow (by decide))
  | (with_reducible refine ed_i ?_; done)
  | (with_reducible exact ea_nil)
  | (with_reducible refine ea_cons ?_ ?_)
  | (with_reducible exact eds_nil)
  | (with_reducible refine eds_cons ?_ ?_)
  | (with_reducible exact ed_dnew)
  | (with_reducible refine ed_lst ?_ (by simp only [List.length_cons, List.length_nil]; omega))
  | (with_reducible refine ed_tup ?_ (by simp only [List.length_cons, List.length_nil]; omega)))))
namespace Z
open PySem PySem.Spec PyProof.Rows L2 Evl
/-! ### tables.py -/
section
variable {K : PySem.W.Frag} {σ : L2.St} {H H' : Hp} {ta tb te tx : TE} {D : Ends} {tz : TS}
theorem ed_L {xs : List V} {ds : List PyData} (h : EvL te σ H xs) (r : ∀ H', Ex H H' → DtAll H' xs ds) : EvD te σ H (.list ds) := fun H1 e Q q =>
  h H1 e _ fun p H2 _ e2 hp => q _ H2 e2 (.lst hp (r H2 (e.trans e2)))
theorem dt_ints : ∀ (ns : List Int), DtAll H (ns.map V.int) (ns.map PyData.int)
  | [] => .nil
  | n :: ns => .cons (.int n) (dt_ints ns)
theorem dt_strs : ∀ (ns : List Str), DtAll H (ns.map V.str) (ns.map PyData.str)
  | [] => .nil
  | n :: ns => .cons (.str n) (dt_strs ns)
/-- 0, 1, .. -/
def upto (n : Nat) : List Int := (List.range n).map Int.ofNat
theorem upto_len (n : Nat) : (upto n).length = n := by unfold upto; rw [List.length_map, List.length_range]
theorem el_listRg {n : Int} (h : Ev te σ H (.int n)) (hn : 0 ≤ n ∧ n ≤ 100000) : EvL (tLstRg (tRg1 te)) σ H ((upto n.toNat).map V.int) := fun H1 e Q q =>
  h H1 e _ fun H2 e2 => ⟨n, rfl, .of_le (by omega) (by omega) (by omega) (by omega), fun p hp => q p _ (fresh_back e2 hp) (e2.trans (Ex.new hp)) (by
    rw [upd_same]
    unfold rgV upto
    rw [List.map_map, Int.sub_zero]
    congr 2
    exact List.map_congr_left fun i _ => by show V.int (0 + (i : Int)) = V.int (i : Int); rw [Int.zero_add])⟩
/-- [k for k in range(n)] -/
theorem el_upto {tas : TA} {n : Int} {j : Nat} (h : EvA tas σ H [.int n]) (hn : 0 ≤ n ∧ n ≤ 40000) (hw : ∀ x, wipe ((wipe σ [j]).set j (some x)) [j] = wipe σ [j]) (hj : ∀ x, ((wipe σ [j]).set j (some x))[j]? = some (some x)) : EvL (tLc (iRng1 tas) (gName j) tYes (tVar j) [j]) σ H ((upto n.toNat).map V.int) := by
  have := el_lcR1 (t := tYes) (te := tVar j) (fun _ => true) (fun i => V.int i) h hn hw (fun i H1 _ _ => fun H2 _ Q q => q H2 (Ex.refl H2)) (fun i H1 _ _ _ => ev_var (hj _))
  refine fun H1 e Q q => this H1 e Q fun p H2 hp e2 h2 => q p H2 hp e2 ?_
  rw [h2]
  unfold given upto
  rw [List.filter_eq_self.mpr (fun _ _ => rfl), List.map_map]
  rfl
theorem el_listA {p : Addr} {xs : List V} (ha : Ev ta σ H (.ref p)) (h : SqL K H p xs) : EvL (tCB (rListA K) (tCons ta tNil)) σ H xs := fun H1 e Q q =>
  ha H1 e _ fun H2 e2 => .inl ⟨p, xs, rfl, .inl (ex_l (e.trans e2) h), fun l hl => q l _ (fresh_back e2 hl) (e2.trans (Ex.new hl)) upd_same⟩
theorem el_listK {p : Addr} {kvs : List (Key × V)} (ha : Ev ta σ H (.ref p)) (h : H p = some (.dK kvs)) : EvL (tCB (rListA K) (tCons ta tNil)) σ H (kvs.map fun kv => kV kv.1) := fun H1 e Q q =>
  ha H1 e _ fun H2 e2 => .inr ⟨p, kvs, rfl, .inl ((e.trans e2) _ _ h), fun l hl => q l _ (fresh_back e2 hl) (e2.trans (Ex.new hl)) upd_same⟩
theorem rc_lenD {p : Addr} {kvs : List (Key × V)} (h : H p = some (.dK kvs)) : RC (rLenA K) [.ref p] H (.int kvs.length) := fun H1 e _ q => .inr (.inl ⟨p, kvs, rfl, e _ _ h, q H1 (Ex.refl H1)⟩)
/-- made(..).append(v) -/
theorem q_appN {v : V} {xs : List V} (ha : EvL ta σ H xs) (h : Ev te σ H v) (hz : xs.length < 100000) (k : ∀ p H1, H p = none → Ex H H1 → H1 p = some (.lst xs) → tz D σ (upd H1 p (.lst (xs ++ [v])))) :
    tSeq (tDrop (tBM K "list" rAppend ta (tCons te tNil))) tz D σ H := ha H (Ex.refl H) _ fun p H1 hp e1 h1 =>
  ⟨Or.inl ⟨rfl, xs, sq_of h1⟩, h H1 e1 _ fun H2 e2 => ⟨p, xs, v, rfl, rfl, e2 _ _ h1, sz_lt hz, k p H2 hp (e1.trans e2) (e2 _ _ h1)⟩⟩
end
/-! is_below -/
def isBelow (n : Int) : PyData → Bool
  | .int i => decide (0 ≤ i ∧ i < n)
  | _ => false
def sp_is_below (K : PySem.W.Frag) : Sp := fun vs H Q _ => ∃ (v : V) (d : PyData) (n : Int), vs = [v, .int n] ∧ Dt H v d ∧ RetV (.bl (isBelow n d)) H Q
def t_is_below (K : PySem.W.Frag) (E : XK) : TS :=
  tRet (tAndV (tCallS (sp_is_whole K) (WE (fun cls d _ H => E cls d H)) (tCons (tVar 0) tNil)) (tChain rLeA rLtA (tC (.int 0)) (tVar 0) (tVar 1)))
theorem len_is_below {K : PySem.W.Frag} (vs : List V) (H : Hp) (Q : VK) (E : XK) (h : sp_is_below K vs H Q E) : vs.length = 2 := by obtain ⟨_, _, _, rfl, _⟩ := h; rfl
theorem r_is_below {K : PySem.W.Frag} (vs : List V) (H : Hp) (Q : VK) (E : XK) (h : sp_is_below K vs H Q E) : t_is_below K E { nx := fun _ H' => Q .non H', rt := Q } (L2.start ["thing", "many"] vs) H := by
  obtain ⟨v, d, n, rfl, r, k⟩ := h
  unfold t_is_below
  refine s_ret (v := .bl (isBelow n d)) ?_ k
  by_cases hi : ∃ i, d = .int i
  · obtain ⟨i, rfl⟩ := hi
    obtain rfl := r.i
    refine ev_is (ev_andV (ev_spB (g := isWholeD) (ed_var rfl r) trivial) fun _ => ev_chainLt ev_c (ev_var rfl) (ev_var rfl)) ?_
    show V.bl (true && (decide (0 ≤ i) && decide (i < n))) = V.bl (decide (0 ≤ i ∧ i < n))
    rw [Bool.true_and, Bool.decide_and]
  · have e1 : isBelow n d = false := by
      cases d <;> first | rfl | exact absurd ⟨_, rfl⟩ hi
    have e2 : isWholeD d = false := by
      cases d <;> first | rfl | exact absurd ⟨_, rfl⟩ hi
    rw [e1]
    refine ev_is (v := .bl (isWholeD d && false)) (ev_andV (ev_spB (ed_var rfl r) trivial) fun z => ?_) (by rw [e2]; rfl)
    rw [e2] at z
    cases z
theorem ev_below {K : PySem.W.Frag} {σ : L2.St} {H : Hp} {ta tb : TE} {E : L2.St → XK} {d : PyData} {n : Int} (h : EvD ta σ H d) (hb : Ev tb σ H (.int n)) : Ev (tCallS (sp_is_below K) E (tCons ta (tCons tb tNil))) σ H (.bl (isBelow n d)) := fun H1 e Q q =>
  h H1 e _ fun v H2 e2 r => hb H2 (e.trans e2) _ fun H3 e3 => ⟨v, d, n, rfl, r.ex e3, fun H4 e4 => q H4 ((e2.trans e3).trans e4)⟩
/-! the object -/
structure Tb where
  rows : List Int
  coming : Int
  cols : List (Str × List PyData)
/-- values: numbers and faults -/
inductive Vt (H : Hp) : V → PyData → Prop
  | int (i : Int) : Vt H (.int i) (.int i)
  | flt {a : Addr} {f w : Str} : H a = some (.tup [.str f, .str w]) → Vt H (.ref a) (.tuple [.str f, .str w])
inductive VtAll (H : Hp) : List V → List PyData → Prop
  | nil : VtAll H [] []
  | cons {v : V} {vs : List V} {d : PyData} {ds : List PyData} : Vt H v d → VtAll H vs ds → VtAll H (v :: vs) (d :: ds)
def Tup (H H' : Hp) : Prop := ∀ b xs, H b = some (.tup xs) → H' b = some (.tup xs)
theorem Vt.tup {H H' : Hp} (e : Tup H H') {v : V} {d : PyData} : Vt H v d → Vt H' v d
  | .int i => .int i
  | .flt h => .flt (e _ _ h)
theorem VtAll.tup {H H' : Hp} (e : Tup H H') : ∀ {vs : List V} {ds : List PyData}, VtAll H vs ds → VtAll H' vs ds
  | _, _, .nil => .nil
  | _, _, .cons a r => .cons (a.tup e) (r.tup e)
theorem Vt.dt {H : Hp} {v : V} {d : PyData} : Vt H v d → Dt H v d
  | .int i => .int i
  | .flt h => .tup h (.cons (.str _) (.cons (.str _) .nil))
theorem VtAll.dt {H : Hp} : ∀ {vs : List V} {ds : List PyData}, VtAll H vs ds → DtAll H vs ds
  | _, _, .nil => .nil
  | _, _, .cons a r => .cons a.dt r.dt
theorem vt_of {H : Hp} {v : V} {d : PyData} (r : Dt H v d) (h : isValueD d = true) : Vt H v d := by
  cases r with
  | int i => exact .int i
  | @tup a xs ds e r =>
    have h : (false || isFaultD (.tuple ds)) = true := h
    rw [Bool.false_or] at h
    unfold isFaultD at h
    split at h
    · rename_i f w q
      cases q
      cases r with
      | cons r1 r2 =>
        cases r2 with
        | cons r2 r3 =>
          cases r3
          cases r1
          cases w with
          | str z =>
            cases r2
            exact .flt e
          | _ => exact absurd h (by show ¬ ((decide _ && false) = true); rw [Bool.and_false]; decide)
    · cases h
  | non => cases h
  | bl b => cases h
  | str x => cases h
  | lst e r => cases h
  | dct e r => cases h
theorem VtAll.length {H : Hp} {vs : List V} {ds : List PyData} (h : VtAll H vs ds) : vs.length = ds.length := h.dt.length
/-- a column: its name, its list's place, its values -/
structure Ent where
  n : Str
  l : Addr
  ds : List PyData
def kvE (e : Ent) : Key × V := (.inr e.n, .ref e.l)
def cE (e : Ent) : Str × List PyData := (e.n, e.ds)
def ColAt (H : Hp) (e : Ent) : Prop := ∃ vs, H e.l = some (.lst vs) ∧ VtAll H vs e.ds
/-- the table tb stands at t: its dict dx, its lists and dict r, h, its columns es -/
structure TabOf (A : Cn → Addr) (H : Hp) (t dx r h : Addr) (es : List Ent) (tb : Tb) : Prop where
  nd : (t :: r :: h :: es.map (·.l)).Nodup
  nn : (es.map (·.n)).Nodup
  cols : tb.cols = es.map cE
  at_ : H t = some (.ins (A .Table) dx [("rows_now", .ref r), ("coming", .int tb.coming), ("held", .ref h)])
  rows : H r = some (.lst (tb.rows.map V.int))
  held : H h = some (.dK (es.map kvE))
  cell : ∀ e ∈ es, ColAt H e
  wide : ∀ e ∈ es, e.ds.length = tb.rows.length
  few : tb.rows.length ≤ 30 ∧ es.length ≤ 8
/-- the table tb stands at t, its places F -/
structure TabAt (A : Cn → Addr) (F : List Addr) (H : Hp) (t : Addr) (tb : Tb) : Prop where
  ex : ∃ (dx r h : Addr) (es : List Ent), F = t :: r :: h :: es.map (·.l) ∧ TabOf A H t dx r h es tb
theorem keys_es (es : List Ent) : ((es.map kvE).map fun kv => kV kv.1) = ((es.map cE).map (·.1)).map V.str := by
  rw [List.map_map, List.map_map, List.map_map]
  rfl
theorem Tup.of_ex {H H' : Hp} (e : Ex H H') : Tup H H' := fun b xs h => e b _ h
theorem ColAt.keep {H H' : Hp} {e : Ent} (h : ColAt H e) (t : Tup H H') (k : H' e.l = H e.l) : ColAt H' e := by
  obtain ⟨vs, h1, h2⟩ := h
  exact ⟨vs, by rw [k]; exact h1, h2.tup t⟩
theorem TabOf.keep {A : Cn → Addr} {H H' : Hp} {t dx r h : Addr} {es : List Ent} {tb : Tb} (T : TabOf A H t dx r h es tb) (e : Tup H H') (k : ∀ l ∈ t :: r :: h :: es.map (·.l), ∀ o, H l = some o → H' l = some o) : TabOf A H' t dx r h es tb :=
  ⟨T.nd, T.nn, T.cols, k _ (by simp) _ T.at_, k _ (by simp) _ T.rows, k _ (by simp) _ T.held, fun en hen => by
    obtain ⟨vs, h1, h2⟩ := T.cell en hen
    exact ⟨vs, k en.l (by simp only [List.mem_cons]; exact .inr (.inr (.inr (List.mem_map_of_mem hen)))) _ h1, h2.tup e⟩, T.wide, T.few⟩
theorem TabAt.keep {A : Cn → Addr} {F : List Addr} {H H' : Hp} {t : Addr} {tb : Tb} (h : TabAt A F H t tb) (e : Tup H H') (k : ∀ l ∈ F, ∀ o, H l = some o → H' l = some o) : TabAt A F H' t tb := by
  obtain ⟨dx, r, hh, es, rfl, T⟩ := h.ex
  exact ⟨dx, r, hh, es, rfl, T.keep e k⟩
theorem TabAt.ex' {A : Cn → Addr} {F : List Addr} {H H' : Hp} {t : Addr} {tb : Tb} (h : TabAt A F H t tb) (e : Ex H H') : TabAt A F H' t tb := h.keep (.of_ex e) fun l _ o => e l o
theorem TabAt.there {A : Cn → Addr} {F : List Addr} {H : Hp} {t : Addr} {tb : Tb} (h : TabAt A F H t tb) : ∀ l ∈ F, ∃ o, H l = some o := by
  obtain ⟨dx, r, hh, es, rfl, T⟩ := h.ex
  intro l hl
  simp only [List.mem_cons] at hl
  rcases hl with rfl | rfl | rfl | hl
  · exact ⟨_, T.at_⟩
  · exact ⟨_, T.rows⟩
  · exact ⟨_, T.held⟩
  · obtain ⟨e, he, rfl⟩ := List.mem_map.mp hl
    obtain ⟨vs, h1, -⟩ := T.cell e he
    exact ⟨_, h1⟩
/-- no place of a table holds a tuple -/
theorem TabAt.noTup {A : Cn → Addr} {F : List Addr} {H : Hp} {t : Addr} {tb : Tb} (h : TabAt A F H t tb) {l : Addr} (hl : l ∈ F) {xs : List V} : H l ≠ some (.tup xs) := by
  obtain ⟨dx, r, hh, es, rfl, T⟩ := h.ex
  simp only [List.mem_cons] at hl
  rcases hl with rfl | rfl | rfl | hl
  · rw [T.at_]; exact fun z => nomatch z
  · rw [T.rows]; exact fun z => nomatch z
  · rw [T.held]; exact fun z => nomatch z
  · obtain ⟨e, he, rfl⟩ := List.mem_map.mp hl
    obtain ⟨vs, h1, -⟩ := T.cell e he
    rw [h1]; exact fun z => nomatch z
/-- all but F stays -/
def Fr (F : List Addr) (H H' : Hp) : Prop := ∀ b o, H b = some o → b ∉ F → H' b = some o
theorem Fr.of_ex {F : List Addr} {H H' : Hp} (e : Ex H H') : Fr F H H' := fun b o h _ => e b o h
theorem Fr.trans {F : List Addr} {H H1 H2 : Hp} (a : Fr F H H1) (b : Fr F H1 H2) : Fr F H H2 := fun x o h n => b x o (a x o h n) n
theorem TabAt.off {A : Cn → Addr} {F : List Addr} {H : Hp} {t : Addr} {tb : Tb} (h : TabAt A F H t tb) {p : Addr} (hp : H p = none) : p ∉ F := fun q => by
  obtain ⟨o, e⟩ := h.there p q
  rw [hp] at e
  cases e
theorem Tup.upd {H : Hp} {p : Addr} {xs : List V} {o : HO} (h : H p = some (.lst xs)) : Tup H (upd H p o) := fun b ys e => by
  rw [upd_ne (fun q => by rw [q, h] at e; cases e)]
  exact e
theorem TabAt.upd {A : Cn → Addr} {F : List Addr} {H : Hp} {t : Addr} {tb : Tb} (h : TabAt A F H t tb) {p : Addr} {xs : List V} {o : HO} (hp : p ∉ F) (hl : H p = some (.lst xs)) : TabAt A F (L2.upd H p o) t tb :=
  h.keep (.upd hl) fun l hl o e => by rw [upd_ne (show l ≠ p from fun q => hp (by rw [← q]; exact hl))]; exact e
abbrev tabF : List Str := ["rows_now", "coming", "held"]
/-! __init__, many, numbers, columns -/
def sp_Table_init (K : PySem.W.Frag) (A : Cn → Addr) : Sp := fun vs H Q E => ∃ (x dx : Addr) (v : V) (d : PyData), vs = [.ref x, v] ∧ H x = some (.ins (A .Table) dx []) ∧ Dt H v d ∧
  (∀ n : Nat, d = .int n → n < 31 → ∀ H' r h, Fr [x] H H' → H r = none → H h = none → TabAt A [x, r, h] H' x ⟨upto n, n, []⟩ → Q .non H') ∧ (isBelow 31 d = false → ∀ H1, Ex H H1 → E (.ref (A .NoSize)) none H1)
def t_Table_init (K : PySem.W.Frag) (A : Cn → Addr) (E : XK) : TS :=
  tSeq (tIfS (tNot (tB (tCallS (sp_is_below K) (WE (fun cls d _ H => E cls d H)) (tCons (tVar 1) (tCons (tOp (rAddA K) (tC (.int 30)) (tC (.int 1))) tNil))))) (tRaiseA (fun cls d _ H => E cls d H) (A .NoSize)) tNext)
    (tSeq (sFld K (tVar 0) (tLstRg (tRg1 (tVar 1))) "rows_now")
    (tSeq (sFld K (tVar 0) (tVar 1) "coming")
    (sFld K (tVar 0) tDNewK "held")))
section
variable {K : PySem.W.Frag} {A : Cn → Addr} {H H' : Hp} {Q : VK} {E : XK} {vs : List V}
theorem len_Table_init (vs : List V) (H : Hp) (Q : VK) (E : XK) (h : sp_Table_init K A vs H Q E) : vs.length = 2 := by obtain ⟨_, _, _, _, rfl, _⟩ := h; rfl
theorem r_Table_init (c : ClK K (A .Table) tabF) (vs : List V) (H : Hp) (Q : VK) (E : XK) (h : sp_Table_init K A vs H Q E) : t_Table_init K A E { nx := fun _ H' => Q .non H', rt := Q } (L2.start ["self", "many"] vs) H := by
  obtain ⟨x, dx, v, d, rfl, hx, r, k1, k2⟩ := h
  unfold t_Table_init
  refine q_when (et_not (et_B (ev_below (ed_var rfl r) (ev_is (ev_op ev_c ev_c rv_addI) rfl)))) (fun hb H1 e1 => k2 ?_ H1 e1) (fun hb H1 e1 => ?_)
  · cases q : isBelow 31 d with
    | false => rfl
    | true => rw [show (30 + 1 : Int) = 31 from rfl, q] at hb; cases hb
  · have hb : isBelow 31 d = true := by
      cases q : isBelow 31 d with
      | true => rfl
      | false => rw [show (30 + 1 : Int) = 31 from rfl, q] at hb; cases hb
    obtain ⟨i, rfl, hi⟩ : ∃ i, d = .int i ∧ 0 ≤ i ∧ i < 31 := by
      cases d <;> first | (simp [isBelow] at hb; done) | exact ⟨_, rfl, of_decide_eq_true hb⟩
    obtain rfl := r.i
    obtain ⟨n, rfl⟩ : ∃ n : Nat, i = n := ⟨i.toNat, by omega⟩
    -- self.rows_now
    refine q_fldL (el_listRg (n := (n : Int)) (ev_var rfl) (by omega)) (ev_var rfl) (e1 _ _ hx) c (by decide) (by decide) fun rw_ H2 nr e2 hr => ?_
    have xr : x ≠ rw_ := fun q => by rw [← q, e1 _ _ hx] at nr; cases nr
    -- self.coming
    refine q_fld (v := .int n) (ev_var rfl) (ev_var rfl) upd_same c (by decide) (putF_lt (n := 999) (by decide) rfl) fun H3 e3 => ?_
    -- self.held
    show tDNewK _ _ _
    intro hd nh
    have nh1 : H3 hd = none := by
      cases q : H3 hd with
      | none => rfl
      | some o =>
        by_cases hx' : hd = x
        · rw [hx', upd_same] at nh; cases nh
        · rw [upd_ne hx', q] at nh; cases nh
    have hne : hd ≠ x := fun q => by rw [q, upd_same] at nh; cases nh
    refine ⟨_, rfl, x, A .Table, dx, _, rfl, (by rw [upd_ne hne.symm, upd_same]), c.cl, c.na _ (by decide), (putF_lt (putF_lt (n := 998) (by decide) rfl) rfl), ?_⟩
    have f1 : Fr [x] H H3 := fun b o h n => e3 b o (by rw [upd_ne (by simpa using n)]; exact e2 b o (e1 b o h))
    have nh0 : H hd = none := by
      cases q : H hd with
      | none => rfl
      | some o => rw [f1 hd o q (by simpa using hne)] at nh1; cases nh1
    have hr2 : H3 rw_ = some (.lst ((upto n).map V.int)) := e3 _ _ (by rw [upd_ne xr.symm]; exact hr)
    have rh : rw_ ≠ hd := fun q => by rw [q, nh1] at hr2; cases hr2
    refine k1 n rfl (by omega) _ rw_ hd (fun b o h nb => ?_) (fresh_back e1 nr) nh0 ⟨dx, rw_, hd, [], rfl, ⟨?_, .nil, rfl, ?_, ?_, ?_, fun _ h => (nomatch h), fun _ h => (nomatch h), ⟨?_, by decide⟩⟩⟩
    · have nb' : b ≠ x := by simpa using nb
      have bh : b ≠ hd := fun q => by rw [q, nh0] at h; cases h
      rw [upd_ne nb', upd_ne bh, upd_ne nb']
      exact f1 b o h nb
    · simp [xr, hne.symm, rh]
    · rw [upd_same]
      rfl
    · rw [upd_ne xr.symm, upd_ne rh, upd_ne xr.symm]
      exact hr2
    · rw [upd_ne hne, upd_same]
      rfl
    · show (upto n).length ≤ 30
      rw [upto_len]
      omega
def sp_Table_many (K : PySem.W.Frag) (A : Cn → Addr) : Sp := fun vs H Q _ => ∃ F t tb, vs = [.ref t] ∧ TabAt A F H t tb ∧ RetV (.int tb.rows.length) H Q
def sp_Table_numbers (K : PySem.W.Frag) (A : Cn → Addr) : Sp := fun vs H Q _ => ∃ F t tb, vs = [.ref t] ∧ TabAt A F H t tb ∧ RetL (tb.rows.map V.int) H Q
def sp_Table_columns (K : PySem.W.Frag) (A : Cn → Addr) : Sp := fun vs H Q _ => ∃ F t tb, vs = [.ref t] ∧ TabAt A F H t tb ∧ RetL ((tb.cols.map (·.1)).map V.str) H Q
def t_Table_many (K : PySem.W.Frag) (E : XK) : TS := tRet (tCB (rLenA K) (tCons (tFld K (tVar 0) "rows_now") tNil))
def t_Table_numbers (K : PySem.W.Frag) (E : XK) : TS := tRet (tCB (rListA K) (tCons (tFld K (tVar 0) "rows_now") tNil))
def t_Table_columns (K : PySem.W.Frag) (E : XK) : TS := tRet (tCB (rListA K) (tCons (tFld K (tVar 0) "held") tNil))
theorem len_Table_many (vs : List V) (H : Hp) (Q : VK) (E : XK) (h : sp_Table_many K A vs H Q E) : vs.length = 1 := by obtain ⟨_, _, _, rfl, _⟩ := h; rfl
theorem len_Table_numbers (vs : List V) (H : Hp) (Q : VK) (E : XK) (h : sp_Table_numbers K A vs H Q E) : vs.length = 1 := by obtain ⟨_, _, _, rfl, _⟩ := h; rfl
theorem len_Table_columns (vs : List V) (H : Hp) (Q : VK) (E : XK) (h : sp_Table_columns K A vs H Q E) : vs.length = 1 := by obtain ⟨_, _, _, rfl, _⟩ := h; rfl
theorem r_Table_many (c : ClK K (A .Table) tabF) (vs : List V) (H : Hp) (Q : VK) (E : XK) (h : sp_Table_many K A vs H Q E) : t_Table_many K E { nx := fun _ H' => Q .non H', rt := Q } (L2.start ["self"] vs) H := by
  obtain ⟨F, t, tb, rfl, T, k⟩ := h
  obtain ⟨dx, r, hh, es, rfl, O⟩ := T.ex
  have := rc_lenL (K := K) (SqL.of O.rows)
  rw [List.length_map] at this
  exact s_ret (ev_lenV (ev_fld (ev_var rfl) O.at_ c (by decide) rfl) this) k
theorem r_Table_numbers (c : ClK K (A .Table) tabF) (vs : List V) (H : Hp) (Q : VK) (E : XK) (h : sp_Table_numbers K A vs H Q E) : t_Table_numbers K E { nx := fun _ H' => Q .non H', rt := Q } (L2.start ["self"] vs) H := by
  obtain ⟨F, t, tb, rfl, T, k⟩ := h
  obtain ⟨dx, r, hh, es, rfl, O⟩ := T.ex
  exact s_retL (el_listA (ev_fld (ev_var rfl) O.at_ c (by decide) rfl) (SqL.of O.rows)) fun p H2 hp e2 hl => k p H2 hp e2 hl
theorem r_Table_columns (c : ClK K (A .Table) tabF) (vs : List V) (H : Hp) (Q : VK) (E : XK) (h : sp_Table_columns K A vs H Q E) : t_Table_columns K E { nx := fun _ H' => Q .non H', rt := Q } (L2.start ["self"] vs) H := by
  obtain ⟨F, t, tb, rfl, T, k⟩ := h
  obtain ⟨dx, r, hh, es, rfl, O⟩ := T.ex
  have := el_listK (K := K) (ta := tFld K (tVar 0) "held") (σ := L2.start ["self"] [.ref t]) (ev_fld (ev_var rfl) O.at_ c (by decide) rfl) O.held
  rw [keys_es, ← O.cols] at this
  exact s_retL this fun p H2 hp e2 hl => k p H2 hp e2 hl
/-! their calls -/
variable {σ : L2.St} {ta : TE} {F : List Addr} {t : Addr} {tb : Tb} {Ex0 : L2.St → XK}
theorem TabAt.ins (T : TabAt A F H t tb) : ∃ dx fs, H t = some (.ins (A .Table) dx fs) ∧ fs.map (·.1) = tabF := by
  obtain ⟨dx, r, hh, es, rfl, O⟩ := T.ex
  exact ⟨dx, _, O.at_, rfl⟩
theorem look_none {fs : List (Str × V)} {m : Str} (h : fs.map (·.1) = tabF) (hm : m ∉ tabF) : fs.lookup m = none := by
  have : ∀ fs : List (Str × V), m ∉ fs.map (·.1) → fs.lookup m = none := by
    intro fs
    induction fs with
    | nil => intro _; rfl
    | cons a r ih =>
      intro h
      rw [List.map_cons, List.mem_cons, not_or] at h
      obtain ⟨n, v⟩ := a
      rw [List.lookup_cons, show (m == n) = false from beq_eq_false_iff_ne.mpr h.1]
      exact ih h.2
  exact this fs (by rw [h]; exact hm)
theorem ev_many (T : TabAt A F H t tb) (ho : Ev ta σ H (.ref t)) : Ev (tMetS (A .Table) "many" (sp_Table_many K A) Ex0 ta tNil) σ H (.int tb.rows.length) := by
  obtain ⟨dx, fs, h1, hf⟩ := T.ins
  exact ev_met ho h1 (look_none hf (by decide)) ea_nil fun H1 e Q q E => ⟨F, t, tb, rfl, T.ex' e, fun H2 e2 => q H2 e2⟩
theorem el_numbers (T : TabAt A F H t tb) (ho : Ev ta σ H (.ref t)) : EvL (tMetS (A .Table) "numbers" (sp_Table_numbers K A) Ex0 ta tNil) σ H (tb.rows.map V.int) := by
  obtain ⟨dx, fs, h1, hf⟩ := T.ins
  exact el_met ho h1 (look_none hf (by decide)) ea_nil fun H1 e Q q E => ⟨F, t, tb, rfl, T.ex' e, fun p H2 hp e2 h => q p H2 hp e2 h⟩
theorem el_columns (T : TabAt A F H t tb) (ho : Ev ta σ H (.ref t)) : EvL (tMetS (A .Table) "columns" (sp_Table_columns K A) Ex0 ta tNil) σ H ((tb.cols.map (·.1)).map V.str) := by
  obtain ⟨dx, fs, h1, hf⟩ := T.ins
  exact el_met ho h1 (look_none hf (by decide)) ea_nil fun H1 e Q q E => ⟨F, t, tb, rfl, T.ex' e, fun p H2 hp e2 h => q p H2 hp e2 h⟩
/-- x = Table(n) -/
theorem x_table {n : Nat} (ha : Ev ta σ H (.int n)) (hn : n < 31) (k : ∀ x r h H2, Ex H H2 → H x = none → H r = none → H h = none → TabAt A [x, r, h] H2 x ⟨upto n, n, []⟩ → Q (.ref x) H2) :
    tMakS (A .Table) (sp_Table_init K A) Ex0 (tCons ta tNil) σ H Q := by
  refine x_makS (ea_cons ha ea_nil) fun H1 e1 x dx nx nd ne => ?_
  refine ⟨x, dx, .int n, .int n, rfl, upd_same, .int _, fun m hm _ H' r h fr hr hh T => ⟨rfl, ?_⟩, fun hb => ?_⟩
  · have e : (n : Int) = m := by
      have := PyData.int.inj hm
      exact this
    have e : n = m := by omega
    subst e
    have back : ∀ {b : Addr}, upd (upd H1 dx (.own x)) x (.ins (A .Table) dx []) b = none → H1 b = none := fun {b} q => by
      by_cases q1 : b = x
      · rw [q1]; exact nx
      · by_cases q2 : b = dx
        · rw [q2]; exact nd
        · rw [upd_ne q1, upd_ne q2] at q
          exact q
    refine k x r h H' (fun b o hb => fr b o ?_ ?_) (fresh_back e1 nx) (fresh_back e1 (back hr)) (fresh_back e1 (back hh)) T
    · have h1 := e1 b o hb
      have b1 : b ≠ x := fun q => by rw [q, nx] at h1; cases h1
      have b2 : b ≠ dx := fun q => by rw [q, nd] at h1; cases h1
      rw [upd_ne b1, upd_ne b2]
      exact h1
    · intro q
      have h1 := e1 b o hb
      rw [List.mem_singleton.mp q, nx] at h1
      cases h1
  · exfalso
    have : isBelow 31 (.int n) = true := decide_eq_true (by omega)
    rw [this] at hb
    cases hb
theorem q_table {D : Ends} {tz : TS} {n : Nat} {i : Nat} (ha : Ev ta σ H (.int n)) (hn : n < 31) (k : ∀ x r h H2, Ex H H2 → H x = none → H r = none → H h = none → TabAt A [x, r, h] H2 x ⟨upto n, n, []⟩ → tz D (σ.set i (some (.ref x))) H2) :
    tSeq (tAsg (tMakS (A .Table) (sp_Table_init K A) Ex0 (tCons ta tNil)) (gName i)) tz D σ H := x_table (Q := fun v H1 => tz D (σ.set i (some v)) H1) ha hn k
/-- [Table(n), Table(n)] -/
theorem q_table2 {D : Ends} {tz : TS} {n : Nat} {i : Nat} (ha : Ev ta σ H (.int n)) (hn : n < 31) (k : ∀ x r h x' r' h' p H2, Ex H H2 → (∀ a ∈ [x, r, h], H a = none) → (∀ a ∈ [x', r', h'], H a = none ∧ a ∉ [x, r, h]) → TabAt A [x, r, h] H2 x ⟨upto n, n, []⟩ → TabAt A [x', r', h'] H2 x' ⟨upto n, n, []⟩ → H p = none → H2 p = some (.lst [.ref x, .ref x']) → p ∉ [x, r, h] → p ∉ [x', r', h'] → tz D (σ.set i (some (.ref p))) H2) :
    tSeq (tAsg (tLst (tCons (tMakS (A .Table) (sp_Table_init K A) Ex0 (tCons ta tNil)) (tCons (tMakS (A .Table) (sp_Table_init K A) Ex0 (tCons ta tNil)) tNil))) (gName i)) tz D σ H := by
  refine x_table (Q := fun v H1 => tMakS (A .Table) (sp_Table_init K A) Ex0 (tCons ta tNil) σ H1 fun w H2 => ([v, w].length ≤ sizeLine ∧ ∀ p, H2 p = none → tz D (σ.set i (some (.ref p))) (upd H2 p (.lst [v, w])))) ha hn fun x r h H1 e1 n1 n2 n3 T1 => ?_
  refine x_table (Ev.mono e1 ha) hn fun x' r' h' H2 e2 n4 n5 n6 T2 => ⟨sz_of (show 2 ≤ 100000 by decide), fun p hp => ?_⟩
  refine k x r h x' r' h' p _ ((e1.trans e2).trans (Ex.new hp)) ?_ ?_ ((T1.ex' e2).ex' (Ex.new hp)) (T2.ex' (Ex.new hp)) (fresh_back (e1.trans e2) hp) upd_same ((T1.ex' e2).off hp) (T2.off hp)
  · intro a ha
    simp only [List.mem_cons, List.not_mem_nil, or_false] at ha
    rcases ha with rfl | rfl | rfl <;> assumption
  · intro a ha
    simp only [List.mem_cons, List.not_mem_nil, or_false] at ha
    rcases ha with rfl | rfl | rfl
    · exact ⟨fresh_back e1 n4, T1.off n4⟩
    · exact ⟨fresh_back e1 n5, T1.off n5⟩
    · exact ⟨fresh_back e1 n6, T1.off n6⟩
/-- [{}, {}] -/
theorem q_dict2 {D : Ends} {tz : TS} {i : Nat} (k : ∀ h h' p H2, Ex H H2 → H h = none → H h' = none → h ≠ h' → H p = none → H2 h = some (.dK []) → H2 h' = some (.dK []) → H2 p = some (.lst [.ref h, .ref h']) → p ≠ h → p ≠ h' → tz D (σ.set i (some (.ref p))) H2) : tSeq (tAsg (tLst (tCons tDNewK (tCons tDNewK tNil))) (gName i)) tz D σ H := by
  intro h hh h' hh' 
  refine ⟨sz_of (show 2 ≤ 100000 by decide), fun p hp => ?_⟩
  have e1 : Ex H (upd H h (.dK [])) := Ex.new hh
  have e2 := Ex.new (o := HO.dK []) hh'
  have ne : h ≠ h' := fun q => by rw [← q, upd_same] at hh'; cases hh'
  exact k h h' p _ ((e1.trans e2).trans (Ex.new hp)) hh (fresh_back e1 hh') ne (fresh_back (e1.trans e2) hp) (Ex.new hp _ _ (e2 _ _ upd_same)) (Ex.new hp _ _ upd_same) upd_same (fun q => by subst q; rw [e2 _ _ upd_same] at hp; cases hp) (fun q => by rw [q, upd_same] at hp; cases hp)
end
end Z

set_option Elab.async false
set_option linter.all false
set_option autoImplicit false
set_option maxRecDepth 100000
set_option maxHeartbeats 4000000
/-! ev: what an expression comes to, by its form -/
local macro_rules | `(tactic| k_places) => `(tactic| (repeat' (first
  | (with_reducible exact ev_c)
  | (with_reducible exact ev_var rfl)
  | (with_reducible refine ev_chainLL ?_ ?_ ?_)
  | (with_reducible refine ev_chainLt ?_ ?_ ?_)
  | (with_reducible refine ev_op ?_ ?_ ?_)
  | (with_reducible refine ev_neg ?_)
  | (with_reducible refine et_test ?_)
  | (with_reducible refine et_B ?_)
  | (with_reducible refine et_not ?_)
  | (with_reducible refine et_and ?_ (fun _ => ?_))
  | (with_reducible refine et_or ?_ (fun _ => ?_))
  | (with_reducible refine ev_andV ?_ (fun _ => ?_))
  | (with_reducible refine ev_orV ?_ (fun _ => ?_))
  | (with_reducible refine ev_notV ?_)
  | (with_reducible exact rv_addI)
  | (with_reducible exact rv_subI)
  | (with_reducible exact rv_lt)
  | (with_reducible exact rv_le)
  | (with_reducible exact rv_gt)
  | (with_reducible exact rv_ge)
  | (with_reducible exact rv_isB)
  | (with_reducible exact rv_isnB)
  | (with_reducible exact rv_isN)
  | (with_reducible exact rv_isnN)
  | (with_reducible exact rv_eqS rfl)
  | (with_reducible exact rv_neS rfl)
  | (with_reducible exact rv_inStr)
  | (with_reducible exact rv_ninStr)
  | (with_reducible exact rv_mod (by first | decide | omega | assumption))
  | (with_reducible exact rv_div (by first | decide | omega | assumption))
  | (with_reducible exact rv_pow (by decide))
  | (with_reducible refine ed_i ?_; done)
  | (with_reducible exact ea_nil)
  | (with_reducible refine ea_cons ?_ ?_)
  | (with_reducible exact eds_nil)
  | (with_reducible refine eds_cons ?_ ?_)
  | (with_reducible exact ed_dnew)
  | (with_reducible refine ed_lst ?_ (by simp only [List.length_cons, List.length_nil]; omega))
  | (with_reducible refine ed_tup ?_ (by simp only [List.length_cons, List.length_nil]; omega)))))
namespace Z
open PySem PySem.Spec PyProof.Rows L2 Evl
/-! ### the table's other methods -/
section
variable {α : Type}
def getA (cs : List (Str × α)) (z : Str) : Option α := (cs.find? fun c => decide (c.1 = z)).map (·.2)
def putA (cs : List (Str × α)) (z : Str) (y : α) : List (Str × α) := if (cs.any fun c => decide (c.1 = z)) = true then cs.map (fun c => if c.1 = z then (c.1, y) else c) else cs ++ [(z, y)]
def dropA (cs : List (Str × α)) (z : Str) : List (Str × α) := cs.filter fun c => decide (c.1 ≠ z)
def onA (f : α → α) (cs : List (Str × α)) (z : Str) : List (Str × α) := cs.map fun c => if c.1 = z then (c.1, f c.2) else c
end
def hasC (tb : Tb) : PyData → Bool
  | .str z => tb.cols.any fun c => decide (c.1 = z)
  | _ => false
def areVals (n : Nat) : PyData → Bool
  | .list ds => decide (ds.length = n) && ds.all isValueD
  | _ => false
def nameD : PyData → Str
  | .str z => z
  | _ => ""
def listD : PyData → List PyData
  | .list ds => ds
  | _ => []
def intD : PyData → Int
  | .int i => i
  | _ => 0
def giveB (tb : Tb) (c vs : PyData) : Except Cn Tb :=
  if isNameD c then if !hasC tb c && decide (8 ≤ tb.cols.length) then .error .TooMuch else if areVals tb.rows.length vs then .ok { tb with cols := putA tb.cols (nameD c) (listD vs) } else .error .NoValue else .error .NoName
def dropB (tb : Tb) (c : PyData) : Except Cn Tb := if hasC tb c then .ok { tb with cols := dropA tb.cols (nameD c) } else .error .NoColumn
def putB (tb : Tb) (c p v : PyData) : Except Cn Tb :=
  if hasC tb c then if isBelow tb.rows.length p then if isValueD v then .ok { tb with cols := onA (fun ds => ds.set (intD p).toNat v) tb.cols (nameD c) } else .error .NoValue else .error .NoPlace else .error .NoColumn
def atB (tb : Tb) (c p : PyData) : Except Cn PyData :=
  if hasC tb c then if isBelow tb.rows.length p then .ok (((getA tb.cols (nameD c)).getD []).getD (intD p).toNat .none) else .error .NoPlace else .error .NoColumn
/-- what a change of a table comes to -/
def Out (A : Cn → Addr) (F : List Addr) (t : Addr) (H : Hp) (Q : VK) (E : XK) : Except Cn Tb → Prop
  | .error c => ∀ H1, Ex H H1 → E (.ref (A c)) none H1
  | .ok tb => ∀ H' F', TabAt A F' H' t tb → Fr F H H' → (∀ b ∈ F', b ∈ F ∨ H b = none) → Q .non H'
theorem Out.ex {A : Cn → Addr} {F : List Addr} {t : Addr} {H H' : Hp} {Q : VK} {E : XK} {r : Except Cn Tb} (e : Ex H H') (h : Out A F t H Q E r) : Out A F t H' Q E r := by
  cases r with
  | error c => exact fun H1 e1 => h H1 (e.trans e1)
  | ok tb => exact fun H1 F' T f n => h H1 F' T (Fr.trans (.of_ex e) f) fun b hb => (n b hb).imp_right (fresh_back e)
/-! entries -/
theorem valV_es (es : List Ent) (z : Str) : valV (es.map kvE) (.inr z) = (es.find? fun e => decide (e.n = z)).map fun e => V.ref e.l := by
  unfold valV
  rw [List.find?_map, Option.map_map]
  have : ((fun kv : Key × V => decide (kv.1 = .inr z)) ∘ kvE) = fun e : Ent => decide (e.n = z) := by
    funext e
    show decide ((Sum.inr e.n : Key) = .inr z) = _
    exact decide_eq_decide.mpr ⟨fun h => Sum.inr.inj h, fun h => by rw [h]⟩
  rw [this]
  rfl
theorem any_es (es : List Ent) (z : Str) : ((es.map cE).any fun c => decide (c.1 = z)) = es.any fun e => decide (e.n = z) := by
  rw [List.any_map]
  rfl
theorem getA_es (es : List Ent) (z : Str) : getA (es.map cE) z = (es.find? fun e => decide (e.n = z)).map (·.ds) := by
  unfold getA
  rw [List.find?_map, Option.map_map]
  rfl
theorem find_es {es : List Ent} {z : Str} (h : (es.any fun e => decide (e.n = z)) = true) : ∃ e ∈ es, e.n = z ∧ (es.find? fun e => decide (e.n = z)) = some e := by
  obtain ⟨e, he⟩ := Option.isSome_iff_exists.mp (List.find?_isSome.mpr (List.any_eq_true.mp h))
  exact ⟨e, List.mem_of_find?_eq_some he, of_decide_eq_true (List.find?_some (p := fun e : Ent => decide (e.n = z)) he), he⟩
theorem hasC_es {A : Cn → Addr} {H : Hp} {t dx r h : Addr} {es : List Ent} {tb : Tb} (T : TabOf A H t dx r h es tb) (z : Str) : hasC tb (.str z) = es.any fun e => decide (e.n = z) := by
  show (tb.cols.any fun c => decide (c.1 = z)) = _
  rw [T.cols, any_es]
section
variable {K : PySem.W.Frag} {A : Cn → Addr} {H H' : Hp} {Q : VK} {E : XK} {vs : List V} {σ : L2.St} {ta tb te tx : TE} {D : Ends} {tz : TS} {F : List Addr} {t : Addr} {Ex0 : L2.St → XK}
theorem rv_inDk {p : Addr} {kvs : List (Key × V)} {k : Key} (h : H p = some (.dK kvs)) : RV (rInA K) (kV k) (.ref p) H (.bl (valV kvs k).isSome) := fun H1 e _ q => .inr (.inl ⟨p, _, rfl, DGet.k (e _ _ h), q H1 (Ex.refl H1)⟩)
theorem rv_ixDk {p : Addr} {kvs : List (Key × V)} {k : Key} {v : V} (h : H p = some (.dK kvs)) (hv : valV kvs k = some v) : RV (rIxA K) (.ref p) (kV k) H v := fun H1 e _ q => .inr ⟨p, v, rfl, hv ▸ DGet.k (e _ _ h), q H1 (Ex.refl H1)⟩
theorem len_es (es : List Ent) : (es.map kvE).length = es.length := List.length_map _
/-! are_values -/
def sp_are_values (K : PySem.W.Frag) : Sp := fun vs H Q _ => ∃ (v : V) (d : PyData) (n : Nat), vs = [v, .int n] ∧ Dt H v d ∧ (∀ x ∈ listD d, short2 x) ∧ (listD d).length ≤ 40000 ∧ RetV (.bl (areVals n d)) H Q
def t_are_values (K : PySem.W.Frag) (E : XK) : TS :=
  tRet (tAndV (tCB (rIsiA K) (tCons (tVar 0) (tCons (tC (.ty "list")) tNil))) (tAndV (tOp (rEqA K) (tCB (rLenA K) (tCons (tVar 0) tNil)) (tVar 1)) (tCB (rAll K) (tCons (tLc (iList K (tVar 0)) (gName 2) tYes (tCall (sp_is_value K) [] E0 (tCons (tVar 2) tNil)) [2]) tNil))))
theorem len_are_values (vs : List V) (H : Hp) (Q : VK) (E : XK) (h : sp_are_values K vs H Q E) : vs.length = 2 := by obtain ⟨_, _, _, rfl, _⟩ := h; rfl
theorem given_map {xs : List V} {bs : List Bool} (h : xs.length = bs.length) (f : Nat → Bool) (hf : ∀ i, i < xs.length → f i = bs.getD i false) : given xs.length (fun _ => true) (fun i => .bl (f i)) = bs.map V.bl := by
  unfold given
  rw [List.filter_eq_self.mpr (fun _ _ => rfl)]
  apply List.ext_getElem?
  intro i
  rw [List.getElem?_map, List.getElem?_map]
  by_cases hi : i < xs.length
  · rw [List.getElem?_range hi, List.getElem?_eq_getElem (by omega : i < bs.length)]
    show some (V.bl (f i)) = some (V.bl bs[i])
    rw [hf i hi, List.getD_eq_getElem?_getD, List.getElem?_eq_getElem (by omega : i < bs.length)]
    rfl
  · rw [List.getElem?_eq_none (by simpa using hi), List.getElem?_eq_none (by omega)]
    rfl
theorem ev_spB2 {pre : PyData → Prop} {g : PyData → Bool} {d : PyData} (h : EvD te σ H d) (hp : pre d) : Ev (tCall (sp1 pre fun d => .bool (g d)) [] E0 (tCons te tNil)) σ H (.bl (g d)) := ev_b (ed_call (ds := [d]) (eds_cons h eds_nil) rfl hp)
theorem r_are_values (vs : List V) (H : Hp) (Q : VK) (E : XK) (h : sp_are_values K vs H Q E) : t_are_values K E { nx := fun _ H' => Q .non H', rt := Q } (L2.start ["thing", "many", "value"] vs) H := by
  obtain ⟨v, d, n, rfl, r, hs, hz, k⟩ := h
  unfold t_are_values
  refine s_ret (v := .bl (areVals n d)) ?_ k
  by_cases hi : ∃ ds, d = .list ds
  · obtain ⟨ds, rfl⟩ := hi
    have hs : ∀ x ∈ ds, short2 x := hs
    have hz : ds.length ≤ 40000 := hz
    cases r with
    | @lst a xs _ ha r =>
    have el := r.length
    have hl : Ev (tCB (rLenA K) (tCons (tVar 0) tNil)) (L2.start ["thing", "many", "value"] [V.ref a, .int n]) H (.int ds.length) := by
      rw [← el]
      exact ev_lenV (ev_var rfl) (rc_lenL (SqL.of ha))
    have D0 : Dt H (.ref a) (.list ds) := .lst ha r
    refine ev_is (ev_andV (ev_isD (ed_var rfl D0)) fun _ => ev_andV (ev_op hl (ev_var rfl) (rv_eqS rfl)) fun _ => ev_all (bs := ds.map isValueD) ?_) ?_
    · rw [← given_map (xs := xs) (bs := ds.map isValueD) (by rw [List.length_map, el]) (fun i => (ds.map isValueD).getD i false) (fun _ _ => rfl)]
      refine el_lcL (fun _ => true) _ (ev_var rfl) (SqL.of ha) (by omega) (fun _ => rfl) (fun i x H1 _ _ => fun H2 _ Q q => q H2 (Ex.refl H2)) (fun i x H1 e1 hx _ => ?_)
      obtain ⟨d, hd, rx⟩ := r.getV hx
      refine ev_is (ev_spB2 (g := isValueD) (pre := short2) (ed_var rfl (rx.ex e1)) (hs d (List.mem_of_getElem? hd))) ?_
      rw [List.getD_eq_getElem?_getD, List.getElem?_map, hd]
      rfl
    · show V.bl (true && (decide (V.int ds.length = V.int n) && (ds.map isValueD).all id)) = V.bl (decide (ds.length = n) && ds.all isValueD)
      rw [Bool.true_and, List.all_map]
      congr 2
      exact decide_eq_decide.mpr ⟨fun h => by have := V.int.inj h; omega, fun h => by rw [h]⟩
  · have e1 : areVals n d = false := by
      cases d <;> first | rfl | exact absurd ⟨_, rfl⟩ hi
    have e2 : isiB (kindD d) "list" = false := by
      cases d <;> first | rfl | exact absurd ⟨_, rfl⟩ hi
    rw [e1]
    refine ev_is (v := .bl (isiB (kindD d) "list" && false)) (ev_andV (ev_isD (ed_var rfl r)) fun z => ?_) (by rw [e2]; rfl)
    rw [e2] at z
    cases z
theorem ev_areV {d : PyData} {n : Nat} (h : EvD ta σ H d) (hb : Ev tb σ H (.int n)) (hs : ∀ x ∈ listD d, short2 x) (hz : (listD d).length ≤ 40000) : Ev (tCallS (sp_are_values K) Ex0 (tCons ta (tCons tb tNil))) σ H (.bl (areVals n d)) := fun H1 e Q q =>
  h H1 e _ fun v H2 e2 r => hb H2 (e.trans e2) _ fun H3 e3 => ⟨v, d, n, rfl, r.ex e3, hs, hz, fun H4 e4 => q H4 ((e2.trans e3).trans e4)⟩
/-! has -/
def sp_Table_has (K : PySem.W.Frag) (A : Cn → Addr) : Sp := fun vs H Q _ => ∃ F t b v d, vs = [.ref t, v] ∧ TabAt A F H t b ∧ Dt H v d ∧ RetV (.bl (hasC b d)) H Q
def t_Table_has (K : PySem.W.Frag) (E : XK) : TS :=
  tRet (tAndV (tCB (rIsiA K) (tCons (tVar 1) (tCons (tC (.ty "str")) tNil))) (tOp (rInA K) (tVar 1) (tFld K (tVar 0) "held")))
theorem len_Table_has (vs : List V) (H : Hp) (Q : VK) (E : XK) (h : sp_Table_has K A vs H Q E) : vs.length = 2 := by obtain ⟨_, _, _, _, _, rfl, _⟩ := h; rfl
theorem r_Table_has (c : ClK K (A .Table) tabF) (vs : List V) (H : Hp) (Q : VK) (E : XK) (h : sp_Table_has K A vs H Q E) : t_Table_has K E { nx := fun _ H' => Q .non H', rt := Q } (L2.start ["self", "column"] vs) H := by
  obtain ⟨F, t, b, v, d, rfl, T, rd, k⟩ := h
  obtain ⟨dx, r, hh, es, rfl, O⟩ := T.ex
  unfold t_Table_has
  refine s_ret (v := .bl (hasC b d)) ?_ k
  by_cases hi : ∃ z, d = .str z
  · obtain ⟨z, rfl⟩ := hi
    obtain rfl := rd.s
    refine ev_is (ev_andV (ev_isD (ed_var rfl rd)) fun _ => ev_op (ev_var rfl) (ev_fld (ev_var rfl) O.at_ c (by decide) rfl) (rv_inDk (k := .inr z) O.held)) ?_
    rw [hasC_es O, valV_es, Option.isSome_map]
    show V.bl (true && _) = _
    rw [Bool.true_and, List.isSome_find?]
  · have e1 : hasC b d = false := by
      cases d <;> first | rfl | exact absurd ⟨_, rfl⟩ hi
    have e2 : isiB (kindD d) "str" = false := by
      cases d <;> first | rfl | exact absurd ⟨_, rfl⟩ hi
    rw [e1]
    refine ev_is (v := .bl (isiB (kindD d) "str" && false)) (ev_andV (ev_isD (ed_var rfl rd)) fun z => ?_) (by rw [e2]; rfl)
    rw [e2] at z
    cases z
theorem ev_has {d : PyData} {b : Tb} (T : TabAt A F H t b) (ho : Ev ta σ H (.ref t)) (h : EvD te σ H d) : Ev (tMetS (A .Table) "has" (sp_Table_has K A) Ex0 ta (tCons te tNil)) σ H (.bl (hasC b d)) := fun H1 e Q q => by
  obtain ⟨dx, fs, h1, hf⟩ := T.ins
  exact ho H1 e _ fun H2 e2 => ⟨t, dx, fs, rfl, (e.trans e2) _ _ h1, look_none hf (by decide), h H2 (e.trans e2) _ fun v H3 e3 r => ⟨F, t, b, v, d, rfl, T.ex' ((e.trans e2).trans e3), r, fun H4 e4 => q H4 ((e2.trans e3).trans e4)⟩⟩
/-! look_at, look_at_place -/
def Go (A : Cn → Addr) (ok : Bool) (c : Cn) (H : Hp) (Q : VK) (E : XK) : Prop := (ok = true → RetV .non H Q) ∧ (ok = false → ∀ H1, Ex H H1 → E (.ref (A c)) none H1)
def sp_Table_look_at (K : PySem.W.Frag) (A : Cn → Addr) : Sp := fun vs H Q E => ∃ F t b v d, vs = [.ref t, v] ∧ TabAt A F H t b ∧ Dt H v d ∧ Go A (hasC b d) .NoColumn H Q E
def sp_Table_look_at_place (K : PySem.W.Frag) (A : Cn → Addr) : Sp := fun vs H Q E => ∃ (t : Addr) (v : V) (d : PyData) (n : Int), vs = [.ref t, v, .int n] ∧ Dt H v d ∧ Go A (isBelow n d) .NoPlace H Q E
def t_Table_look_at (K : PySem.W.Frag) (A : Cn → Addr) (E : XK) : TS :=
  tIfS (tNot (tB (tMetS (A .Table) "has" (sp_Table_has K A) (WE (fun cls d _ H => E cls d H)) (tVar 0) (tCons (tVar 1) tNil)))) (tRaiseA (fun cls d _ H => E cls d H) (A .NoColumn)) tNext
def t_Table_look_at_place (K : PySem.W.Frag) (A : Cn → Addr) (E : XK) : TS :=
  tIfS (tNot (tB (tCallS (sp_is_below K) (WE (fun cls d _ H => E cls d H)) (tCons (tVar 1) (tCons (tVar 2) tNil))))) (tRaiseA (fun cls d _ H => E cls d H) (A .NoPlace)) tNext
theorem len_Table_look_at (vs : List V) (H : Hp) (Q : VK) (E : XK) (h : sp_Table_look_at K A vs H Q E) : vs.length = 2 := by obtain ⟨_, _, _, _, _, rfl, _⟩ := h; rfl
theorem len_Table_look_at_place (vs : List V) (H : Hp) (Q : VK) (E : XK) (h : sp_Table_look_at_place K A vs H Q E) : vs.length = 3 := by obtain ⟨_, _, _, _, rfl, _⟩ := h; rfl
theorem not_eq_true_iff {b : Bool} (h : (!b) = true) : b = false := by cases b <;> simp_all
theorem not_eq_false_iff {b : Bool} (h : (!b) = false) : b = true := by cases b <;> simp_all
theorem r_Table_look_at (c : ClK K (A .Table) tabF) (vs : List V) (H : Hp) (Q : VK) (E : XK) (h : sp_Table_look_at K A vs H Q E) : t_Table_look_at K A E { nx := fun _ H' => Q .non H', rt := Q } (L2.start ["self", "column"] vs) H := by
  obtain ⟨F, t, b, v, d, rfl, T, rd, k1, k2⟩ := h
  exact s_when (et_not (et_B (ev_has T (ev_var rfl) (ed_var rfl rd)))) (fun hb H1 e1 => k2 (not_eq_true_iff hb) H1 e1) fun hb H1 e1 => k1 (not_eq_false_iff hb) H1 e1
theorem r_Table_look_at_place (c : ClK K (A .Table) tabF) (vs : List V) (H : Hp) (Q : VK) (E : XK) (h : sp_Table_look_at_place K A vs H Q E) : t_Table_look_at_place K A E { nx := fun _ H' => Q .non H', rt := Q } (L2.start ["self", "place", "many"] vs) H := by
  obtain ⟨t, v, d, n, rfl, rd, k1, k2⟩ := h
  exact s_when (et_not (et_B (ev_below (ed_var rfl rd) (ev_var rfl)))) (fun hb H1 e1 => k2 (not_eq_true_iff hb) H1 e1) fun hb H1 e1 => k1 (not_eq_false_iff hb) H1 e1
theorem q_look {d : PyData} {b : Tb} (T : TabAt A F H t b) (ho : Ev ta σ H (.ref t)) (h : EvD te σ H d) (k1 : hasC b d = true → ∀ H1, Ex H H1 → tz D σ H1) (k2 : hasC b d = false → ∀ H1, Ex H H1 → (Ex0 σ) (.ref (A .NoColumn)) none H1) :
    tSeq (tDrop (tMetS (A .Table) "look_at" (sp_Table_look_at K A) Ex0 ta (tCons te tNil))) tz D σ H := by
  obtain ⟨dx, fs, h1, hf⟩ := T.ins
  exact ho H (Ex.refl H) _ fun H2 e2 => ⟨t, dx, fs, rfl, e2 _ _ h1, look_none hf (by decide), h H2 e2 _ fun v H3 e3 r => ⟨F, t, b, v, d, rfl, T.ex' (e2.trans e3), r, fun q H4 e4 => k1 q H4 ((e2.trans e3).trans e4), fun q H4 e4 => k2 q H4 ((e2.trans e3).trans e4)⟩⟩
theorem q_lookP {d : PyData} {n : Int} {b : Tb} (T : TabAt A F H t b) (ho : Ev ta σ H (.ref t)) (h : EvD te σ H d) (hn : Ev tb σ H (.int n)) (k1 : isBelow n d = true → ∀ H1, Ex H H1 → tz D σ H1) (k2 : isBelow n d = false → ∀ H1, Ex H H1 → (Ex0 σ) (.ref (A .NoPlace)) none H1) :
    tSeq (tDrop (tMetS (A .Table) "look_at_place" (sp_Table_look_at_place K A) Ex0 ta (tCons te (tCons tb tNil)))) tz D σ H := by
  obtain ⟨dx, fs, h1, hf⟩ := T.ins
  exact ho H (Ex.refl H) _ fun H2 e2 => ⟨t, dx, fs, rfl, e2 _ _ h1, look_none hf (by decide), h H2 e2 _ fun v H3 e3 r => hn H3 (e2.trans e3) _ fun H4 e4 => ⟨t, v, d, n, rfl, r.ex e4, fun q H5 e5 => k1 q H5 (((e2.trans e3).trans e4).trans e5), fun q H5 e5 => k2 q H5 (((e2.trans e3).trans e4).trans e5)⟩⟩
end
end Z

set_option Elab.async false
set_option linter.all false
set_option autoImplicit false
set_option maxRecDepth 100000
set_option maxHeartbeats 4000000
/-! ev: what an expression comes to, by its form -/
local macro_rules | `(tactic| k_places) => `(tactic| (repeat' (first
  | (with_reducible exact ev_c)
  | (with_reducible exact ev_var rfl)
  | (with_reducible refine ev_chainLL ?_ ?_ ?_)
  | (with_reducible refine ev_chainLt ?_ ?_ ?_)
  | (with_reducible refine ev_op ?_ ?_ ?_)
  | (with_reducible refine ev_neg ?_)
  | (with_reducible refine et_test ?_)
  | (with_reducible refine et_B ?_)
  | (with_reducible refine et_not ?_)
  | (with_reducible refine et_and ?_ (fun _ => ?_))
  | (with_reducible refine et_or ?_ (fun _ => ?_))
  | (with_reducible refine ev_andV ?_ (fun _ => ?_))
  | (with_reducible refine ev_orV ?_ (fun _ => ?_))
  | (with_reducible refine ev_notV ?_)
  | (with_reducible exact rv_addI)
  | (with_reducible exact rv_subI)
  | (with_reducible exact rv_lt)
  | (with_reducible exact rv_le)
  | (with_reducible exact rv_gt)
  | (with_reducible exact rv_ge)
  | (with_reducible exact rv_isB)
  | (with_reducible exact rv_isnB)
  | (with_reducible exact rv_isN)
  | (with_reducible exact rv_isnN)
  | (with_reducible exact rv_eqS rfl)
  | (with_reducible exact rv_neS rfl)
  | (with_reducible exact rv_inStr)
  | (with_reducible exact rv_ninStr)
  | (with_reducible exact rv_mod (by first | decide | omega | assumption))
  | (with_reducible exact rv_div (by first | decide | omega | assumption))
  | (with_reducible exact rv_pow (by decide))
  | (with_reducible refine ed_i ?_; done)
  | (with_reducible exact ea_nil)
  | (with_reducible refine ea_cons ?_ ?_)
  | (with_reducible exact eds_nil)
  | (with_reducible refine eds_cons ?_ ?_)
  | (with_reducible exact ed_dnew)
  | (with_reducible refine ed_lst ?_ (by simp only [List.length_cons, List.length_nil]; omega))
  | (with_reducible refine ed_tup ?_ (by simp only [List.length_cons, List.length_nil]; omega)))))
namespace Z
open PySem PySem.Spec PyProof.Rows L2 Evl
/-! ### give, drop, put, at -/
def putE (es : List Ent) (z : Str) (p : Addr) (ds : List PyData) : List Ent := if (es.any fun e => decide (e.n = z)) = true then es.map (fun e => if e.n = z then ⟨z, p, ds⟩ else e) else es ++ [⟨z, p, ds⟩]
theorem putE_kv (es : List Ent) (z : Str) (p : Addr) (ds : List PyData) : (putE es z p ds).map kvE = putK (es.map kvE) (.inr z) (.ref p) := by
  unfold putE putK
  rw [List.any_map]
  have : ((fun kv : Key × V => decide (kv.1 = .inr z)) ∘ kvE) = fun e : Ent => decide (e.n = z) := by
    funext e
    show decide ((Sum.inr e.n : Key) = .inr z) = _
    exact decide_eq_decide.mpr ⟨fun h => Sum.inr.inj h, fun h => by rw [h]⟩
  rw [this]
  split
  · rw [List.map_map, List.map_map]
    refine List.map_congr_left fun e _ => ?_
    show kvE (if e.n = z then ⟨z, p, ds⟩ else e) = if (Sum.inr e.n : Key) = .inr z then (Sum.inr e.n, V.ref p) else kvE e
    by_cases h : e.n = z
    · rw [if_pos h, if_pos (by rw [h]), h]
      rfl
    · rw [if_neg h, if_neg (fun q => h (Sum.inr.inj q))]
  · rw [List.map_append]
    rfl
theorem putE_c (es : List Ent) (z : Str) (p : Addr) (ds : List PyData) : (putE es z p ds).map cE = putA (es.map cE) z ds := by
  unfold putE putA
  rw [any_es]
  split
  · rw [List.map_map, List.map_map]
    refine List.map_congr_left fun e _ => ?_
    show cE (if e.n = z then ⟨z, p, ds⟩ else e) = if e.n = z then (e.n, ds) else cE e
    by_cases h : e.n = z
    · rw [if_pos h, if_pos h, h]
      rfl
    · rw [if_neg h, if_neg h]
  · rw [List.map_append]
    rfl
theorem putE_mem {es : List Ent} {z : Str} {p : Addr} {ds : List PyData} {e : Ent} (h : e ∈ putE es z p ds) : e ∈ es ∨ e = ⟨z, p, ds⟩ := by
  unfold putE at h
  split at h
  · obtain ⟨e0, h0, rfl⟩ := List.mem_map.mp h
    split
    · exact .inr rfl
    · exact .inl h0
  · rcases List.mem_append.mp h with h | h
    · exact .inl h
    · exact .inr (List.mem_singleton.mp h)
theorem putE_n {es : List Ent} {z : Str} {p : Addr} {ds : List PyData} (nn : (es.map (·.n)).Nodup) : ((putE es z p ds).map (·.n)).Nodup := by
  unfold putE
  split
  · have : (es.map (fun e => if e.n = z then (⟨z, p, ds⟩ : Ent) else e)).map (·.n) = es.map (·.n) := by
      rw [List.map_map]
      refine List.map_congr_left fun e _ => ?_
      show (if e.n = z then (⟨z, p, ds⟩ : Ent) else e).n = e.n
      split
      · rename_i h; exact h.symm
      · rfl
    rw [this]
    exact nn
  · rename_i h
    rw [List.map_append, List.nodup_append]
    refine ⟨nn, by simp, fun a ha b hb => ?_⟩
    obtain ⟨e, he, rfl⟩ := List.mem_map.mp ha
    have hb : b = z := by simpa using hb
    subst hb
    intro q
    exact h (List.any_eq_true.mpr ⟨e, he, decide_eq_true q⟩)
theorem putE_l {es : List Ent} {z : Str} {p : Addr} {ds : List PyData} (nn : (es.map (·.n)).Nodup) (nl : (es.map (·.l)).Nodup) (hp : ∀ e ∈ es, e.l ≠ p) : ((putE es z p ds).map (·.l)).Nodup := by
  unfold putE
  split
  · rw [List.map_map]
    unfold List.Nodup at nn nl ⊢
    rw [List.pairwise_map] at nn nl ⊢
    refine List.Pairwise.imp_of_mem (fun {a b} ha hb hab => ?_) (nn.and nl)
    show (if a.n = z then (⟨z, p, ds⟩ : Ent) else a).l ≠ (if b.n = z then (⟨z, p, ds⟩ : Ent) else b).l
    by_cases h1 : a.n = z <;> by_cases h2 : b.n = z
    · exact absurd (h1.trans h2.symm) hab.1
    · rw [if_pos h1, if_neg h2]; exact (hp b hb).symm
    · rw [if_neg h1, if_pos h2]; exact hp a ha
    · rw [if_neg h1, if_neg h2]; exact hab.2
  · rw [List.map_append, List.nodup_append]
    refine ⟨nl, by simp, fun a ha b hb => ?_⟩
    obtain ⟨e, he, rfl⟩ := List.mem_map.mp ha
    have hb : b = p := by simpa using hb
    subst hb
    exact hp e he
theorem nodup3 {t r h : Addr} {ls ls' : List Addr} (nd : (t :: r :: h :: ls).Nodup) (n' : ls'.Nodup) (m : ∀ l ∈ ls', l ∈ ls ∨ (l ≠ t ∧ l ≠ r ∧ l ≠ h)) : (t :: r :: h :: ls').Nodup := by
  simp only [List.nodup_cons, List.mem_cons, not_or] at nd ⊢
  obtain ⟨⟨a1, a2, a3⟩, ⟨b1, b2⟩, c1, _⟩ := nd
  refine ⟨⟨a1, a2, fun q => ?_⟩, ⟨b1, fun q => ?_⟩, fun q => ?_, n'⟩
  · rcases m _ q with q | q
    · exact a3 q
    · exact q.1 rfl
  · rcases m _ q with q | q
    · exact b2 q
    · exact q.2.1 rfl
  · rcases m _ q with q | q
    · exact c1 q
    · exact q.2.2 rfl
section
variable {K : PySem.W.Frag} {A : Cn → Addr} {H H' : Hp} {Q : VK} {E : XK} {vs : List V} {σ : L2.St} {ta te tx tb : TE} {D : Ends} {tz : TS} {F : List Addr} {t : Addr} {Ex0 : L2.St → XK} {dx r h : Addr} {es : List Ent} {b : Tb}
theorem TabOf.ne_es (T : TabOf A H t dx r h es b) {e : Ent} (he : e ∈ es) : e.l ≠ t ∧ e.l ≠ r ∧ e.l ≠ h := by
  have nd := T.nd
  simp only [List.nodup_cons, List.mem_cons, not_or] at nd
  have m : e.l ∈ es.map (·.l) := List.mem_map_of_mem he
  exact ⟨fun q => nd.1.2.2 (q ▸ m), fun q => nd.2.1.2 (q ▸ m), fun q => nd.2.2.1 (q ▸ m)⟩
theorem TabOf.ne3 (T : TabOf A H t dx r h es b) : t ≠ r ∧ t ≠ h ∧ r ≠ h := by
  have nd := T.nd
  simp only [List.nodup_cons, List.mem_cons, not_or] at nd
  exact ⟨nd.1.1, nd.1.2.1, nd.2.1.1⟩
theorem TabOf.nl (T : TabOf A H t dx r h es b) : (es.map (·.l)).Nodup := by
  have nd := T.nd
  simp only [List.nodup_cons] at nd
  exact nd.2.2.2
theorem TabOf.sameL (T : TabOf A H t dx r h es b) {e e' : Ent} (he : e ∈ es) (he' : e' ∈ es) (q : e.l = e'.l) : e = e' := by
  have nl := T.nl
  clear T
  induction es with
  | nil => cases he
  | cons a s ih =>
    rw [List.map_cons, List.nodup_cons] at nl
    rcases List.mem_cons.mp he with h1 | h1 <;> rcases List.mem_cons.mp he' with h2 | h2
    · rw [h1, h2]
    · exact absurd (List.mem_map_of_mem (f := (·.l)) h2) (by show e'.l ∉ _; rw [← q, h1]; exact nl.1)
    · exact absurd (List.mem_map_of_mem (f := (·.l)) h1) (by show e.l ∉ _; rw [q, h2]; exact nl.1)
    · exact ih h1 h2 nl.2
theorem TabOf.sameN (T : TabOf A H t dx r h es b) {e e' : Ent} (he : e ∈ es) (he' : e' ∈ es) (q : e.n = e'.n) : e = e' := by
  have nl := T.nn
  clear T
  induction es with
  | nil => cases he
  | cons a s ih =>
    rw [List.map_cons, List.nodup_cons] at nl
    rcases List.mem_cons.mp he with h1 | h1 <;> rcases List.mem_cons.mp he' with h2 | h2
    · rw [h1, h2]
    · exact absurd (List.mem_map_of_mem (f := (·.n)) h2) (by show e'.n ∉ _; rw [← q, h1]; exact nl.1)
    · exact absurd (List.mem_map_of_mem (f := (·.n)) h1) (by show e.n ∉ _; rw [q, h2]; exact nl.1)
    · exact ih h1 h2 nl.2
/-- the column named is there -/
theorem TabOf.find (T : TabOf A H t dx r h es b) {d : PyData} (q : hasC b d = true) : ∃ z e, d = .str z ∧ e ∈ es ∧ e.n = z ∧ valV (es.map kvE) (.inr z) = some (.ref e.l) ∧ getA b.cols z = some e.ds := by
  obtain ⟨z, rfl⟩ : ∃ z, d = .str z := by
    cases d <;> first | exact ⟨_, rfl⟩ | cases q
  rw [hasC_es T] at q
  obtain ⟨e, he, hn, hf⟩ := find_es q
  exact ⟨z, e, rfl, he, hn, by rw [valV_es, hf]; rfl, by rw [T.cols, getA_es, hf]; rfl⟩
/-! give -/
def sp_Table_give (K : PySem.W.Frag) (A : Cn → Addr) : Sp := fun vs H Q E => ∃ F t b v1 d1 v2 d2, vs = [.ref t, v1, v2] ∧ TabAt A F H t b ∧ Dt H v1 d1 ∧ short d1 ∧ Dt H v2 d2 ∧ (∀ x ∈ listD d2, short2 x) ∧ (listD d2).length ≤ 40000 ∧ Out A F t H Q E (giveB b d1 d2)
def t_Table_give (K : PySem.W.Frag) (A : Cn → Addr) (E : XK) : TS :=
  tSeq (tIfS (tNot (tB (tCallS (sp_is_name K) (WE (fun cls d _ H => E cls d H)) (tCons (tVar 1) tNil)))) (tRaiseA (fun cls d _ H => E cls d H) (A .NoName)) tNext)
    (tSeq (tIfS (tAnd (tNot (tB (tMetS (A .Table) "has" (sp_Table_has K A) (WE (fun cls d _ H => E cls d H)) (tVar 0) (tCons (tVar 1) tNil)))) (tTest (tOp rGeA (tCB (rLenA K) (tCons (tFld K (tVar 0) "held") tNil)) (tC (.int 8))))) (tRaiseA (fun cls d _ H => E cls d H) (A .TooMuch)) tNext)
    (tSeq (tIfS (tNot (tB (tCallS (sp_are_values K) (WE (fun cls d _ H => E cls d H)) (tCons (tVar 2) (tCons (tCB (rLenA K) (tCons (tFld K (tVar 0) "rows_now") tNil)) tNil))))) (tRaiseA (fun cls d _ H => E cls d H) (A .NoValue)) tNext)
    (tAsg (tCB (rListA K) (tCons (tVar 2) tNil)) (gSub (tFld K (tVar 0) "held") (tVar 1) rSetA))))
theorem len_Table_give (vs : List V) (H : Hp) (Q : VK) (E : XK) (h : sp_Table_give K A vs H Q E) : vs.length = 3 := by obtain ⟨_, _, _, _, _, _, _, rfl, _⟩ := h; rfl
theorem vtAll_of : ∀ {H : Hp} {vs : List V} {ds : List PyData}, DtAll H vs ds → ds.all isValueD = true → VtAll H vs ds
  | _, _, _, .nil, _ => .nil
  | _, _, _, .cons a r, h => by
    rw [List.all_cons, Bool.and_eq_true] at h
    exact .cons (vt_of a h.1) (vtAll_of r h.2)
theorem r_Table_give (c : ClK K (A .Table) tabF) (vs : List V) (H : Hp) (Q : VK) (E : XK) (h : sp_Table_give K A vs H Q E) : t_Table_give K A E { nx := fun _ H' => Q .non H', rt := Q } (L2.start ["self", "column", "values"] vs) H := by
  obtain ⟨F, t, b, v1, d1, v2, d2, rfl, T, r1, hs, r2, hs2, hz, k⟩ := h
  unfold t_Table_give
  refine q_when (et_not (et_B (ev_spB (g := isNameD) (pre := short) (ed_var rfl r1) hs))) (fun hb H1 e1 => ?_) (fun hb H1 e1 => ?_)
  · unfold giveB at k
    rw [if_neg (by rw [not_eq_true_iff hb]; decide)] at k
    exact k H1 e1
  have hb := not_eq_false_iff hb
  obtain ⟨z, rfl⟩ : ∃ z, d1 = .str z := by
    cases d1 <;> first | exact ⟨_, rfl⟩ | cases hb
  obtain rfl := r1.s
  have T := T.ex' e1
  have r1 := r1.ex e1
  have r2 := r2.ex e1
  have k := Out.ex e1 k
  unfold giveB at k
  rw [if_pos hb] at k
  have held : ∀ {F : List Addr} {H : Hp} {σ : L2.St}, TabAt A F H t b → σ[0]? = some (some (V.ref t)) → Ev (tCB (rLenA K) (tCons (tFld K (tVar 0) "held") tNil)) σ H (.int b.cols.length) := fun T hσ => by
    obtain ⟨dx, r, hh, es, rfl, O⟩ := T.ex
    have := ev_lenV (K := K) (ev_fld (f := "held") (ev_var hσ) O.at_ c (by decide) rfl) (rc_lenD O.held)
    rw [len_es, ← List.length_map (f := cE), ← O.cols] at this
    exact this
  have rown : ∀ {F : List Addr} {H : Hp} {σ : L2.St}, TabAt A F H t b → σ[0]? = some (some (V.ref t)) → Ev (tCB (rLenA K) (tCons (tFld K (tVar 0) "rows_now") tNil)) σ H (.int b.rows.length) := fun T hσ => by
    obtain ⟨dx, r, hh, es, rfl, O⟩ := T.ex
    have := ev_lenV (K := K) (ev_fld (f := "rows_now") (ev_var hσ) O.at_ c (by decide) rfl) (rc_lenL (SqL.of O.rows))
    rw [List.length_map] at this
    exact this
  refine q_when (et_and (et_not (et_B (ev_has T (ev_var rfl) (ed_var rfl r1)))) fun _ => et_test (ev_op (held T rfl) ev_c rv_ge)) (fun hb2 H2 e2 => ?_) (fun hb2 H2 e2 => ?_)
  · rw [if_pos (by rw [← hb2]; congr 1; exact decide_eq_decide.mpr (by omega))] at k
    exact k H2 e2
  have T := T.ex' e2
  have r1 := r1.ex e2
  have r2 := r2.ex e2
  have k := Out.ex e2 k
  have hb3 : (!hasC b (.str z) && decide (8 ≤ b.cols.length)) = false := by
    rw [← hb2]; congr 1; exact decide_eq_decide.mpr (by omega)
  rw [if_neg (by rw [hb3]; decide)] at k
  refine q_when (et_not (et_B (ev_areV (ed_var rfl r2) (rown T rfl) hs2 hz))) (fun hb4 H3 e3 => ?_) (fun hb4 H3 e3 => ?_)
  · rw [if_neg (by rw [not_eq_true_iff hb4]; decide)] at k
    exact k H3 e3
  have hb4 := not_eq_false_iff hb4
  rw [if_pos hb4] at k
  obtain ⟨ds, rfl⟩ : ∃ ds, d2 = .list ds := by
    cases d2 <;> first | exact ⟨_, rfl⟩ | cases hb4
  have hv : ds.length = b.rows.length ∧ ds.all isValueD = true := by
    have : (decide (ds.length = b.rows.length) && ds.all isValueD) = true := hb4
    rw [Bool.and_eq_true] at this
    exact ⟨of_decide_eq_true this.1, this.2⟩
  have T := T.ex' e3
  have r2 := r2.ex e3
  have k := Out.ex e3 k
  cases r2 with
  | @lst a xs _ ha r2 =>
  -- list(values)
  refine el_listA (ev_var rfl) (SqL.of ha) H3 (Ex.refl H3) _ fun p H4 np e4 hp => ?_
  obtain ⟨dx, r, hh, es, rfl, O⟩ := T.ex
  have O4 := O.keep (.of_ex e4) fun l _ o q => e4 l o q
  have hne : ∀ l ∈ t :: r :: hh :: es.map (·.l), l ≠ p := fun l hl q => T.off np (q ▸ hl)
  have hpe : ∀ e ∈ es, e.l ≠ p := fun e he => hne _ (by simp only [List.mem_cons]; exact .inr (.inr (.inr (List.mem_map_of_mem he))))
  have el : es.length = b.cols.length := by rw [O.cols, List.length_map]
  refine ev_fld (ev_var rfl) O4.at_ c (by decide) rfl H4 (Ex.refl H4) _ fun H5 e5 => ⟨_, rfl, .inr ⟨hh, _, rfl, DPut.k (k := .inr z) (e5 _ _ O4.held) (by rw [len_es]; have := O.few.2; exact sz_lt (by omega)), ?_⟩⟩
  have O5 := O4.keep (.of_ex e5) fun l _ o q => e5 l o q
  have hp5 := e5 _ _ hp
  have vx : VtAll H5 xs ds := vtAll_of ((r2.ex e4).ex e5) hv.2
  have tup : Tup H5 (upd H5 hh (.dK (putK (es.map kvE) (.inr z) (.ref p)))) := fun bb ys q => by
    rw [upd_ne (fun w => by rw [w, O5.held] at q; cases q)]
    exact q
  have nh : ∀ {l : Addr}, l ≠ hh → upd H5 hh (.dK (putK (es.map kvE) (.inr z) (.ref p))) l = H5 l := fun w => upd_ne w
  have hp4 : ∀ {l : Addr} {o : HO}, H3 l = some o → H5 l = some o := fun q => e5 _ _ (e4 _ _ q)
  refine k _ (t :: r :: hh :: (putE es z p ds).map (·.l)) ⟨dx, r, hh, putE es z p ds, rfl, ⟨?_, putE_n O.nn, ?_, ?_, ?_, ?_, ?_, ?_, ?_⟩⟩ ?_ ?_
  · refine nodup3 O.nd (putE_l O.nn O.nl hpe) fun l hl => ?_
    obtain ⟨e, he, rfl⟩ := List.mem_map.mp hl
    rcases putE_mem he with he | rfl
    · exact .inl (List.mem_map_of_mem he)
    · exact .inr ⟨(hne _ (by simp)).symm, (hne _ (by simp)).symm, (hne _ (by simp)).symm⟩
  · show putA b.cols z ds = _
    rw [putE_c, O.cols]
  · rw [nh O.ne3.2.1]
    exact O5.at_
  · rw [nh O.ne3.2.2]
    exact O5.rows
  · rw [upd_same, putE_kv]
  · intro e he
    rcases putE_mem he with he | rfl
    · exact (O5.cell e he).keep tup (nh (O.ne_es he).2.2)
    · exact ⟨xs, by rw [nh (hne _ (by simp)).symm]; exact hp5, vx.tup tup⟩
  · intro e he
    rcases putE_mem he with he | rfl
    · exact O.wide e he
    · exact hv.1
  · refine ⟨O.few.1, ?_⟩
    unfold putE
    split
    · rw [List.length_map]; exact O.few.2
    · rename_i q
      rw [List.length_append, List.length_singleton]
      have q : hasC b (.str z) = false := by rw [hasC_es O]; simpa using q
      rw [q] at hb3
      have : ¬ 8 ≤ b.cols.length := of_decide_eq_false (by simpa using hb3)
      omega
  · intro bb o q nf
    rw [nh (fun w => nf (by rw [w]; simp))]
    exact hp4 q
  · intro bb hb
    simp only [List.mem_cons] at hb ⊢
    rcases hb with hb | hb | hb | hb
    · exact .inl (.inl hb)
    · exact .inl (.inr (.inl hb))
    · exact .inl (.inr (.inr (.inl hb)))
    · obtain ⟨e, he, rfl⟩ := List.mem_map.mp hb
      rcases putE_mem he with he | rfl
      · exact .inl (.inr (.inr (.inr (List.mem_map_of_mem he))))
      · exact .inr np
end
end Z

set_option Elab.async false
set_option linter.all false
set_option autoImplicit false
set_option maxRecDepth 100000
set_option maxHeartbeats 4000000
/-! ev: what an expression comes to, by its form -/
local macro_rules | `(tactic| k_places) => `(tactic| (repeat' (first
  | (with_reducible exact ev_c)
  | (with_reducible exact ev_var rfl)
  | (with_reducible refine ev_chainLL ?_ ?_ ?_)
  | (with_reducible refine ev_chainLt ?_ ?_ ?_)
  | (with_reducible refine ev_op ?_ ?_ ?_)
  | (with_reducible refine ev_neg ?_)
  | (with_reducible refine et_test ?_)
  | (with_reducible refine et_B ?_)
  | (with_reducible refine et_not ?_)
  | (with_reducible refine et_and ?_ (fun _ => ?_))
  | (with_reducible refine et_or ?_ (fun _ => ?_))
  | (with_reducible refine ev_andV ?_ (fun _ => ?_))
  | (with_reducible refine ev_orV ?_ (fun _ => ?_))
  | (with_reducible refine ev_notV ?_)
  | (with_reducible exact rv_addI)
  | (with_reducible exact rv_subI)
  | (with_reducible exact rv_lt)
  | (with_reducible exact rv_le)
  | (with_reducible exact rv_gt)
  | (with_reducible exact rv_ge)
  | (with_reducible exact rv_isB)
  | (with_reducible exact rv_isnB)
  | (with_reducible exact rv_isN)
  | (with_reducible exact rv_isnN)
  | (with_reducible exact rv_eqS rfl)
  | (with_reducible exact rv_neS rfl)
  | (with_reducible exact rv_inStr)
  | (with_reducible exact rv_ninStr)
  | (with_reducible exact rv_mod (by first | decide | omega | assumption))
  | (with_reducible exact rv_div (by first | decide | omega | assumption))
  | (with_reducible exact rv_pow (by decide))
  | (with_reducible refine ed_i ?_; done)
  | (with_reducible exact ea_nil)
  | (with_reducible refine ea_cons ?_ ?_)
  | (with_reducible exact eds_nil)
  | (with_reducible refine eds_cons ?_ ?_)
  | (with_reducible exact ed_dnew)
  | (with_reducible refine ed_lst ?_ (by simp only [List.length_cons, List.length_nil]; omega))
  | (with_reducible refine ed_tup ?_ (by simp only [List.length_cons, List.length_nil]; omega)))))
namespace Z
open PySem PySem.Spec PyProof.Rows L2 Evl
section
variable {K : PySem.W.Frag} {A : Cn → Addr} {H H' : Hp} {Q : VK} {E : XK} {vs : List V} {σ : L2.St} {ta te tx tb : TE} {D : Ends} {tz : TS} {F : List Addr} {t : Addr} {Ex0 : L2.St → XK} {dx r h : Addr} {es : List Ent} {b : Tb}
theorem ev_held (c : ClK K (A .Table) tabF) (O : TabOf A H t dx r h es b) (hσ : Ev ta σ H (.ref t)) : Ev (tFld K ta "held") σ H (.ref h) := ev_fld hσ O.at_ c (by decide) rfl
theorem ev_rown (c : ClK K (A .Table) tabF) (O : TabOf A H t dx r h es b) (hσ : Ev ta σ H (.ref t)) : Ev (tFld K ta "rows_now") σ H (.ref r) := ev_fld hσ O.at_ c (by decide) rfl
theorem ev_rowsN (c : ClK K (A .Table) tabF) (T : TabAt A F H t b) (hσ : Ev ta σ H (.ref t)) : Ev (tCB (rLenA K) (tCons (tFld K ta "rows_now") tNil)) σ H (.int b.rows.length) := by
  obtain ⟨dx, r, hh, es, rfl, O⟩ := T.ex
  have := ev_lenV (ev_rown c O hσ) (rc_lenL (K := K) (SqL.of O.rows))
  rw [List.length_map] at this
  exact this
theorem nodup_sub {ls ls' : List Addr} (h : ls'.Sublist ls) (n : ls.Nodup) : ls'.Nodup := List.Pairwise.sublist h n
theorem s_dpop {p : Addr} {kvs : List (Key × V)} {k : Key} {v : V} (ho : Ev ta σ H (.ref p)) (hk : Ev te σ H (kV k)) (h : H p = some (.dK kvs)) (hv : valV kvs k = some v) (kk : ∀ H1, Ex H H1 → D.nx σ (upd H1 p (.dK (dropK kvs k)))) : tDrop (tDPop1 ta te) D σ H :=
  ho H (Ex.refl H) _ fun H2 e2 => ⟨p, rfl, .inl ⟨_, .inl (e2 _ _ h)⟩, hk H2 e2 _ fun H3 e3 => ⟨kvs, k, v, (e2.trans e3) _ _ h, rfl, hv, kk H3 (e2.trans e3)⟩⟩
/-! drop -/
def sp_Table_drop (K : PySem.W.Frag) (A : Cn → Addr) : Sp := fun vs H Q E => ∃ F t b v d, vs = [.ref t, v] ∧ TabAt A F H t b ∧ Dt H v d ∧ Out A F t H Q E (dropB b d)
def t_Table_drop (K : PySem.W.Frag) (A : Cn → Addr) (E : XK) : TS :=
  tSeq (tDrop (tMetS (A .Table) "look_at" (sp_Table_look_at K A) (WE (fun cls d _ H => E cls d H)) (tVar 0) (tCons (tVar 1) tNil)))
    (tDrop (tDPop1 (tFld K (tVar 0) "held") (tVar 1)))
theorem len_Table_drop (vs : List V) (H : Hp) (Q : VK) (E : XK) (h : sp_Table_drop K A vs H Q E) : vs.length = 2 := by obtain ⟨_, _, _, _, _, rfl, _⟩ := h; rfl
theorem dropK_es (es : List Ent) (z : Str) : dropK (es.map kvE) (.inr z) = (es.filter fun e => decide (e.n ≠ z)).map kvE := by
  unfold dropK
  rw [List.filter_map]
  congr 2
  funext e
  exact decide_eq_decide.mpr ⟨fun h q => h (show (Sum.inr e.n : Key) = _ by rw [q]), fun h q => h (Sum.inr.inj q)⟩
theorem dropA_es (es : List Ent) (z : Str) : dropA (es.map cE) z = (es.filter fun e => decide (e.n ≠ z)).map cE := by
  unfold dropA
  rw [List.filter_map]
  rfl
theorem r_Table_drop (c : ClK K (A .Table) tabF) (vs : List V) (H : Hp) (Q : VK) (E : XK) (h : sp_Table_drop K A vs H Q E) : t_Table_drop K A E { nx := fun _ H' => Q .non H', rt := Q } (L2.start ["self", "column"] vs) H := by
  obtain ⟨F, t, b, v, d, rfl, T, rd, k⟩ := h
  unfold t_Table_drop
  unfold dropB at k
  refine q_look T (ev_var rfl) (ed_var rfl rd) (fun q H1 e1 => ?_) (fun q H1 e1 => ?_)
  · rw [if_pos q] at k
    obtain ⟨dx, r, hh, es, rfl, O⟩ := (T.ex' e1).ex
    obtain ⟨z, e, rfl, he, hn, hv, hg⟩ := O.find q
    obtain rfl := rd.s
    have k := Out.ex e1 k
    refine s_dpop (k := .inr z) (ev_held c O (ev_var rfl)) (ev_var rfl) O.held hv fun H2 e2 => ?_
    have k := Out.ex e2 k
    have O2 := O.keep (.of_ex e2) fun l _ o q => e2 l o q
    have tup : Tup H2 (upd H2 hh (.dK (dropK (es.map kvE) (.inr z)))) := fun bb ys q => by
      rw [upd_ne (fun w => by rw [w, O2.held] at q; cases q)]
      exact q
    have nh : ∀ {l : Addr}, l ≠ hh → upd H2 hh (.dK (dropK (es.map kvE) (.inr z))) l = H2 l := fun w => upd_ne w
    have sub : (es.filter fun e => decide (e.n ≠ z)).Sublist es := List.filter_sublist
    refine k _ (t :: r :: hh :: (es.filter fun e => decide (e.n ≠ z)).map (·.l)) ⟨dx, r, hh, _, rfl, ⟨?_, ?_, ?_, ?_, ?_, ?_, ?_, ?_, ?_⟩⟩ ?_ ?_
    · exact nodup_sub (.cons₂ _ (.cons₂ _ (.cons₂ _ (sub.map _)))) O.nd
    · exact List.Pairwise.sublist (sub.map _) O.nn
    · show dropA b.cols z = _
      rw [O.cols, dropA_es]
    · rw [nh O.ne3.2.1]; exact O2.at_
    · rw [nh O.ne3.2.2]; exact O2.rows
    · rw [upd_same, dropK_es]
    · exact fun e he => (O2.cell e (sub.subset he)).keep tup (nh (O.ne_es (sub.subset he)).2.2)
    · exact fun e he => O.wide e (sub.subset he)
    · exact ⟨O.few.1, Nat.le_trans sub.length_le O.few.2⟩
    · intro bb o q nf
      rw [nh (fun w => nf (by rw [w]; simp))]
      exact q
    · intro bb hb
      refine .inl ?_
      simp only [List.mem_cons] at hb ⊢
      rcases hb with hb | hb | hb | hb
      · exact .inl hb
      · exact .inr (.inl hb)
      · exact .inr (.inr (.inl hb))
      · exact .inr (.inr (.inr ((sub.map _).subset hb)))
  · rw [if_neg (by rw [q]; decide)] at k
    exact k H1 e1
/-! at -/
def sp_Table_at (K : PySem.W.Frag) (A : Cn → Addr) : Sp := fun vs H Q E => ∃ F t b v1 d1 v2 d2, vs = [.ref t, v1, v2] ∧ TabAt A F H t b ∧ Dt H v1 d1 ∧ Dt H v2 d2 ∧
  (∀ c, atB b d1 d2 = .error c → ∀ H1, Ex H H1 → E (.ref (A c)) none H1) ∧ (∀ d, atB b d1 d2 = .ok d → ∀ v H1, Ex H H1 → Vt H1 v d → Q v H1)
def t_Table_at (K : PySem.W.Frag) (A : Cn → Addr) (E : XK) : TS :=
  tSeq (tDrop (tMetS (A .Table) "look_at" (sp_Table_look_at K A) (WE (fun cls d _ H => E cls d H)) (tVar 0) (tCons (tVar 1) tNil)))
    (tSeq (tDrop (tMetS (A .Table) "look_at_place" (sp_Table_look_at_place K A) (WE (fun cls d _ H => E cls d H)) (tVar 0) (tCons (tVar 2) (tCons (tCB (rLenA K) (tCons (tFld K (tVar 0) "rows_now") tNil)) tNil))))
    (tRet (tOp (rIxA K) (tOp (rIxA K) (tFld K (tVar 0) "held") (tVar 1)) (tVar 2))))
theorem len_Table_at (vs : List V) (H : Hp) (Q : VK) (E : XK) (h : sp_Table_at K A vs H Q E) : vs.length = 3 := by obtain ⟨_, _, _, _, _, _, _, rfl, _⟩ := h; rfl
theorem VtAll.get {H : Hp} : ∀ {vs : List V} {ds : List PyData} {i : Nat}, VtAll H vs ds → i < ds.length → ∃ v, vs[i]? = some v ∧ Vt H v (ds.getD i .none)
  | _, _, i, .nil, h => by cases h
  | _, _, 0, .cons a r, h => ⟨_, rfl, a⟩
  | _, _, i + 1, .cons a r, h => by
    obtain ⟨v, h1, h2⟩ := r.get (i := i) (by simpa using h)
    exact ⟨v, by simpa using h1, by simpa using h2⟩
theorem below_nat {n : Nat} {d : PyData} (h : isBelow n d = true) : ∃ i : Nat, d = .int i ∧ i < n := by
  obtain ⟨i, rfl, hi⟩ : ∃ i, d = .int i ∧ 0 ≤ i ∧ i < n := by
    cases d <;> first | (simp [isBelow] at h; done) | exact ⟨_, rfl, of_decide_eq_true h⟩
  exact ⟨i.toNat, by congr 1; omega, by omega⟩
theorem r_Table_at (c : ClK K (A .Table) tabF) (vs : List V) (H : Hp) (Q : VK) (E : XK) (h : sp_Table_at K A vs H Q E) : t_Table_at K A E { nx := fun _ H' => Q .non H', rt := Q } (L2.start ["self", "column", "place"] vs) H := by
  obtain ⟨F, t, b, v1, d1, v2, d2, rfl, T, r1, r2, k1, k2⟩ := h
  unfold t_Table_at
  unfold atB at k1 k2
  refine q_look T (ev_var rfl) (ed_var rfl r1) (fun q H1 e1 => ?_) (fun q H1 e1 => k1 _ (by rw [if_neg (by rw [q]; decide)]) H1 e1)
  rw [if_pos q] at k1 k2
  have T := T.ex' e1
  refine q_lookP T (ev_var rfl) (ed_var rfl (r2.ex e1)) (ev_rowsN c T (ev_var rfl)) (fun q2 H2 e2 => ?_) (fun q2 H2 e2 => k1 _ (by rw [if_neg (by rw [q2]; decide)]) H2 (e1.trans e2))
  rw [if_pos q2] at k2
  have T := T.ex' e2
  obtain ⟨dx, r, hh, es, rfl, O⟩ := T.ex
  obtain ⟨z, e, rfl, he, hn, hv, hg⟩ := O.find q
  obtain rfl := r1.s
  obtain ⟨i, rfl, hi⟩ := below_nat q2
  obtain rfl := r2.i
  obtain ⟨xs, hx, vx⟩ := O.cell e he
  obtain ⟨v, g1, g2⟩ := vx.get (i := i) (by rw [O.wide e he]; exact hi)
  refine s_ret (ev_op (ev_op (ev_held c O (ev_var rfl)) (ev_var rfl) (rv_ixDk (k := .inr z) O.held hv)) (ev_var rfl) (rv_itL (SqL.of hx) (atI_nat g1))) fun H3 e3 => ?_
  refine k2 _ rfl v H3 ((e1.trans e2).trans e3) ?_
  show Vt H3 v (((getA b.cols z).getD []).getD i .none)
  rw [hg]
  exact g2.tup (.of_ex e3)
/-! put -/
def sp_Table_put (K : PySem.W.Frag) (A : Cn → Addr) : Sp := fun vs H Q E => ∃ F t b v1 d1 v2 d2 v3 d3, vs = [.ref t, v1, v2, v3] ∧ TabAt A F H t b ∧ Dt H v1 d1 ∧ Dt H v2 d2 ∧ Dt H v3 d3 ∧ short2 d3 ∧ Out A F t H Q E (putB b d1 d2 d3)
def t_Table_put (K : PySem.W.Frag) (A : Cn → Addr) (E : XK) : TS :=
  tSeq (tDrop (tMetS (A .Table) "look_at" (sp_Table_look_at K A) (WE (fun cls d _ H => E cls d H)) (tVar 0) (tCons (tVar 1) tNil)))
    (tSeq (tDrop (tMetS (A .Table) "look_at_place" (sp_Table_look_at_place K A) (WE (fun cls d _ H => E cls d H)) (tVar 0) (tCons (tVar 2) (tCons (tCB (rLenA K) (tCons (tFld K (tVar 0) "rows_now") tNil)) tNil))))
    (tSeq (tIfS (tNot (tB (tCallS (sp_is_value K) (WE (fun cls d _ H => E cls d H)) (tCons (tVar 3) tNil)))) (tRaiseA (fun cls d _ H => E cls d H) (A .NoValue)) tNext)
    (tAsg (tVar 3) (gSub (tOp (rIxA K) (tFld K (tVar 0) "held") (tVar 1)) (tVar 2) rSetA))))
theorem len_Table_put (vs : List V) (H : Hp) (Q : VK) (E : XK) (h : sp_Table_put K A vs H Q E) : vs.length = 4 := by obtain ⟨_, _, _, _, _, _, _, _, _, rfl, _⟩ := h; rfl
def onE (f : List PyData → List PyData) (es : List Ent) (z : Str) : List Ent := es.map fun e => if e.n = z then { e with ds := f e.ds } else e
theorem onE_same {β : Type} (g : Ent → β) (hg : ∀ e ds, g { e with ds := ds } = g e) (f : List PyData → List PyData) (es : List Ent) (z : Str) : (onE f es z).map g = es.map g := by
  unfold onE
  rw [List.map_map]
  refine List.map_congr_left fun e _ => ?_
  show g (if e.n = z then { e with ds := f e.ds } else e) = g e
  split
  · exact hg _ _
  · rfl
theorem onE_c (f : List PyData → List PyData) (es : List Ent) (z : Str) : (onE f es z).map cE = onA f (es.map cE) z := by
  unfold onE onA
  rw [List.map_map, List.map_map]
  refine List.map_congr_left fun e _ => ?_
  show cE (if e.n = z then { e with ds := f e.ds } else e) = if e.n = z then (e.n, f e.ds) else cE e
  split <;> rfl
theorem VtAll.set {H : Hp} {v : V} {d : PyData} (h : Vt H v d) : ∀ {vs : List V} {ds : List PyData} (i : Nat), VtAll H vs ds → VtAll H (vs.set i v) (ds.set i d)
  | _, _, _, .nil => .nil
  | _, _, 0, .cons a r => .cons h r
  | _, _, i + 1, .cons a r => .cons a (r.set h i)
theorem Fr.set {F : List Addr} {l : Addr} {o : HO} (h : l ∈ F) (e : Ex H H') : Fr F H (upd H' l o) := fun b u q n => by
  rw [upd_ne (fun w => n (by rw [w]; exact h))]
  exact e b u q
theorem r_Table_put (c : ClK K (A .Table) tabF) (vs : List V) (H : Hp) (Q : VK) (E : XK) (h : sp_Table_put K A vs H Q E) : t_Table_put K A E { nx := fun _ H' => Q .non H', rt := Q } (L2.start ["self", "column", "place", "value"] vs) H := by
  obtain ⟨F, t, b, v1, d1, v2, d2, v3, d3, rfl, T, r1, r2, r3, hs, k⟩ := h
  unfold t_Table_put
  unfold putB at k
  refine q_look T (ev_var rfl) (ed_var rfl r1) (fun q H1 e1 => ?_) (fun q H1 e1 => by rw [if_neg (by rw [q]; decide)] at k; exact k H1 e1)
  rw [if_pos q] at k
  have T := T.ex' e1
  refine q_lookP T (ev_var rfl) (ed_var rfl (r2.ex e1)) (ev_rowsN c T (ev_var rfl)) (fun q2 H2 e2 => ?_) (fun q2 H2 e2 => by rw [if_neg (by rw [q2]; decide)] at k; exact k H2 (e1.trans e2))
  rw [if_pos q2] at k
  have T := T.ex' e2
  refine q_when (et_not (et_B (ev_spB (g := isValueD) (pre := short2) (ed_var rfl ((r3.ex e1).ex e2)) hs))) (fun hb H3 e3 => by rw [if_neg (by rw [not_eq_true_iff hb]; decide)] at k; exact k H3 ((e1.trans e2).trans e3)) fun hb H3 e3 => ?_
  have hb := not_eq_false_iff hb
  rw [if_pos hb] at k
  have T := T.ex' e3
  have E3 := (e1.trans e2).trans e3
  obtain ⟨dx, r, hh, es, rfl, O⟩ := T.ex
  obtain ⟨z, e, rfl, he, hn, hv, hg⟩ := O.find q
  obtain rfl := r1.s
  obtain ⟨i, rfl, hi⟩ := below_nat q2
  obtain rfl := r2.i
  obtain ⟨xs, hx, vx⟩ := O.cell e he
  have w3 := vt_of (r3.ex E3) hb
  refine s_setA hx (ev_var rfl) (ev_op (ev_held c O (ev_var rfl)) (ev_var rfl) (rv_ixDk (k := .inr z) O.held hv)) (ev_var rfl) (by rw [vx.length, O.wide e he]; exact hi) fun H4 e4 => ?_
  have O4 := O.keep (.of_ex e4) fun l _ o q => e4 l o q
  have hx4 := e4 _ _ hx
  have tup : Tup H4 (upd H4 e.l (.lst (xs.set i v3))) := .upd hx4
  have nl : ∀ {l : Addr} {o : HO}, l ≠ e.l → upd H4 e.l o l = H4 l := fun w => upd_ne w
  have k := Out.ex (E3.trans e4) k
  have Le : (onE (fun ds => ds.set i d3) es z).map (·.l) = es.map (·.l) := onE_same (·.l) (fun _ _ => rfl) _ _ _
  have ne := O.ne_es he
  have mem : ∀ e' ∈ onE (fun ds => ds.set i d3) es z, ∃ e0 ∈ es, e' = if e0.n = z then { e0 with ds := e0.ds.set i d3 } else e0 := fun e' h' => by
    obtain ⟨e0, h0, rfl⟩ := List.mem_map.mp h'
    exact ⟨e0, h0, rfl⟩
  refine k _ (t :: r :: hh :: es.map (·.l)) ⟨dx, r, hh, onE (fun ds => ds.set i d3) es z, by rw [Le], ⟨by rw [Le]; exact O.nd, by rw [onE_same (·.n) (fun _ _ => rfl)]; exact O.nn, ?_, by rw [nl ne.1.symm]; exact O4.at_, by rw [nl ne.2.1.symm]; exact O4.rows, by rw [nl ne.2.2.symm, onE_same kvE (fun _ _ => rfl)]; exact O4.held, ?_, ?_, ⟨O.few.1, by unfold onE; rw [List.length_map]; exact O.few.2⟩⟩⟩ (.set (by simp only [List.mem_cons]; exact .inr (.inr (.inr (List.mem_map_of_mem he)))) (Ex.refl _)) (fun _ h => .inl h)
  · rw [onE_c, ← O.cols]
    rfl
  · intro e' h'
    obtain ⟨e0, h0, rfl⟩ := mem e' h'
    by_cases w : e0.n = z
    · rw [if_pos w]
      obtain rfl := O.sameN h0 he (w.trans hn.symm)
      exact ⟨_, upd_same, ((vx.tup (.of_ex e4)).set (w3.tup (.of_ex e4)) i).tup tup⟩
    · rw [if_neg w]
      refine (O4.cell e0 h0).keep tup (nl fun q => w ?_)
      rw [O.sameL h0 he q]
      exact hn
  · intro e' h'
    obtain ⟨e0, h0, rfl⟩ := mem e' h'
    by_cases w : e0.n = z
    · rw [if_pos w]
      show (e0.ds.set i d3).length = _
      rw [List.length_set]
      exact O.wide e0 h0
    · rw [if_neg w]
      exact O.wide e0 h0
end
end Z

set_option Elab.async false
set_option linter.all false
set_option autoImplicit false
set_option maxRecDepth 100000
set_option maxHeartbeats 4000000
/-! ev: what an expression comes to, by its form -/
local macro_rules | `(tactic| k_places) => `(tactic| (repeat' (first
  | (with_reducible exact ev_c)
  | (with_reducible exact ev_var rfl)
  | (with_reducible refine ev_chainLL ?_ ?_ ?_)
  | (with_reducible refine ev_chainLt ?_ ?_ ?_)
  | (with_reducible refine ev_op ?_ ?_ ?_)
  | (with_reducible refine ev_neg ?_)
  | (with_reducible refine et_test ?_)
  | (with_reducible refine et_B ?_)
  | (with_reducible refine et_not ?_)
  | (with_reducible refine et_and ?_ (fun _ => ?_))
  | (with_reducible refine et_or ?_ (fun _ => ?_))
  | (with_reducible refine ev_andV ?_ (fun _ => ?_))
  | (with_reducible refine ev_orV ?_ (fun _ => ?_))
  | (with_reducible refine ev_notV ?_)
  | (with_reducible exact rv_addI)
  | (with_reducible exact rv_subI)
  | (with_reducible exact rv_lt)
  | (with_reducible exact rv_le)
  | (with_reducible exact rv_gt)
  | (with_reducible exact rv_ge)
  | (with_reducible exact rv_isB)
  | (with_reducible exact rv_isnB)
  | (with_reducible exact rv_isN)
  | (with_reducible exact rv_isnN)
  | (with_reducible exact rv_eqS rfl)
  | (with_reducible exact rv_neS rfl)
  | (with_reducible exact rv_inStr)
  | (with_reducible exact rv_ninStr)
  | (with_reducible exact rv_mod (by first | decide | omega | assumption))
  | (with_reducible exact rv_div (by first | decide | omega | assumption))
  | (with_reducible exact rv_pow (by decide))
  | (with_reducible refine ed_i ?_; done)
  | (with_reducible exact ea_nil)
  | (with_reducible refine ea_cons ?_ ?_)
  | (with_reducible exact eds_nil)
  | (with_reducible refine eds_cons ?_ ?_)
  | (with_reducible exact ed_dnew)
  | (with_reducible refine ed_lst ?_ (by simp only [List.length_cons, List.length_nil]; omega))
  | (with_reducible refine ed_tup ?_ (by simp only [List.length_cons, List.length_nil]; omega)))))
namespace Z
open PySem PySem.Spec PyProof.Rows L2 Evl
/-! ### values that are only known to be values -/
theorem val_cases {d : PyData} (h : isValueD d = true) : (∃ i, d = .int i ∧ -(10 ^ 60) < i ∧ i < 10 ^ 60) ∨ ∃ w, d = .tuple [.str "fault", .str w] ∧ isName w = true := by
  cases d with
  | int i =>
    have h : (decide (-(10 ^ 60) < i ∧ i < 10 ^ 60) || false) = true := h
    rw [Bool.or_false] at h
    exact .inl ⟨i, rfl, of_decide_eq_true h⟩
  | tuple ds =>
    have h0 : (false || isFaultD (.tuple ds)) = true := h
    clear h
    rw [Bool.false_or] at h0
    unfold isFaultD at h0
    split at h0
    · rename_i f w q
      cases q
      rw [Bool.and_eq_true] at h0
      obtain ⟨h1, h2⟩ := h0
      cases w with
      | str z => exact .inr ⟨z, by rw [of_decide_eq_true h1], h2⟩
      | _ => cases h2
    · cases h0
  | _ => cases h
theorem val_ok {d : PyData} (h : isValueD d = true) : short2 d ∧ okN 1 d ∧ PyData.eqv d d = true ∧ isiB (kindD d) "bool" = false := by
  rcases val_cases h with ⟨i, rfl, -⟩ | ⟨w, rfl, hw⟩
  · exact ⟨trivial, trivial, by simp [PyData.eqv], rfl⟩
  · exact ⟨(name_ok hw).len, ⟨okF, name_ok hw, trivial⟩, by simp [PyData.eqv, PyData.eqvAll], rfl⟩
theorem val_int {i : Int} (h : -(10 ^ 60) < i ∧ i < 10 ^ 60) : isValueD (.int i) = true := by
  show (decide (-(10 ^ 60) < i ∧ i < 10 ^ 60) || false) = true
  rw [decide_eq_true h]
  rfl
theorem val_flt {w : Str} (h : isName w = true) : isValueD (.tuple [.str "fault", .str w]) = true := by
  show (false || isFaultD (.tuple [.str "fault", .str w])) = true
  rw [isFault_pair, show isNameD (.str w) = true from h, Bool.and_true]
  decide +kernel
mutual
theorem okN_up : ∀ {n : Nat} {d : PyData}, okN n d → ∀ m, n ≤ m → okN m d
  | _, .str z, h, m, _ => by cases m <;> (unfold okN at *; exact h)
  | n + 1, .list ds, h, m + 1, e => by unfold okN at *; exact okNs_up h m (by omega)
  | n + 1, .tuple ds, h, m + 1, e => by unfold okN at *; exact okNs_up h m (by omega)
  | 0, .list _, h, _, _ => by unfold okN at h; exact h.elim
  | 0, .tuple _, h, _, _ => by unfold okN at h; exact h.elim
  | _, .dict _, h, _, _ => by unfold okN at h; exact h.elim
  | _, .none, _, m, _ => by cases m <;> (unfold okN; trivial)
  | _, .bool _, _, m, _ => by cases m <;> (unfold okN; trivial)
  | _, .int _, _, m, _ => by cases m <;> (unfold okN; trivial)
theorem okNs_up : ∀ {n : Nat} {ds : List PyData}, okNs n ds → ∀ m, n ≤ m → okNs m ds
  | _, [], _, _, _ => by unfold okNs; trivial
  | n, d :: ds, h, m, e => by
    unfold okNs at *
    exact ⟨okN_up h.1 m e, okNs_up h.2 m e⟩
end
theorem val_okD {d : PyData} (h : isValueD d = true) : okD d := okN_up (val_ok h).2.1 10 (by decide)
theorem vals_okD {ds : List PyData} (h : ds.all isValueD = true) : okD (.list ds) := by
  show okNs 9 ds
  exact okNs_iff.mpr fun d hd => okN_up (val_ok (List.all_eq_true.mp h d hd)).2.1 9 (by decide)
theorem eqvAll_refl : ∀ {ds : List PyData}, (∀ d ∈ ds, PyData.eqv d d = true) → PyData.eqvAll ds ds = true
  | [], _ => by simp [PyData.eqvAll]
  | d :: ds, h => by
    rw [PyData.eqvAll, h d List.mem_cons_self, eqvAll_refl fun x hx => h x (List.mem_cons_of_mem _ hx)]
    rfl
theorem vals_eqv {ds : List PyData} (h : ds.all isValueD = true) : PyData.eqv (.list ds) (.list ds) = true := by
  rw [PyData.eqv]
  exact eqvAll_refl fun d hd => (val_ok (List.all_eq_true.mp h d hd)).2.2.1
/-- an expression that comes to a value -/
def EvW (te : TE) (σ : L2.St) (H : Hp) : Prop := ∀ H1, Ex H H1 → ∀ Q : VK, (∀ d v H2, isValueD d = true → Ex H1 H2 → Vt H2 v d → Q v H2) → te σ H1 Q
/-- a value is told, of which nothing else is known -/
def RetW (H : Hp) (Q : VK) : Prop := ∀ d v H2, isValueD d = true → Ex H H2 → Vt H2 v d → Q v H2
section
variable {K : PySem.W.Frag} {A : Cn → Addr} {H H' : Hp} {Q : VK} {E : XK} {vs : List V} {σ : L2.St} {ta te tx tb : TE} {t : TT} {D : Ends} {tz tu : TS}
theorem ew_d {d : PyData} (h : EvD te σ H d) (hd : isValueD d = true) : EvW te σ H := fun H1 e Q q => h H1 e _ fun v H2 e2 r => q d v H2 hd e2 (vt_of r hd)
theorem s_retW (h : EvW te σ H) (k : RetW H D.rt) : tRet te D σ H := h H (Ex.refl H) _ fun d v H1 hd e1 r => k d v H1 hd e1 r
theorem s_asgW {i : Nat} (h : EvW te σ H) (k : ∀ d v H1, isValueD d = true → Ex H H1 → Vt H1 v d → D.nx (σ.set i (some v)) H1) : tAsg te (gName i) D σ H := h H (Ex.refl H) _ fun d v H1 hd e1 r => k d v H1 hd e1 r
theorem q_asgW {i : Nat} (h : EvW te σ H) (k : ∀ d v H1, isValueD d = true → Ex H H1 → Vt H1 v d → tz D (σ.set i (some v)) H1) : tSeq (tAsg te (gName i)) tz D σ H := s_asgW (D := { D with nx := tz D }) h k
/-- a def of one number that tells a value -/
def spW : Sp := fun vs H Q _ => ∃ c : Int, vs = [.int c] ∧ RetW H Q
theorem ew_call {c : Int} {E : L2.St → XK} (h : Ev te σ H (.int c)) : EvW (tCallS spW E (tCons te tNil)) σ H := fun H1 e Q q => h H1 e _ fun H2 e2 => ⟨c, rfl, fun d v H3 hd e3 r => q d v H3 hd (e2.trans e3) r⟩
theorem ew_callB {c : Int} (h : Ev te σ H (.int c)) : EvW (tCall spW [] E0 (tCons te tNil)) σ H := fun H1 e Q q => h H1 e _ fun H2 e2 => ⟨c, rfl, fun d v H3 hd e3 r => q d v H3 hd (e2.trans e3) r⟩
/-- the values in the making -/
def CwW (H : Hp) (Dl : Addr) (i : Nat) (H' : Hp) : Prop := H Dl = none ∧ Ex H H' ∧ ∃ vs ds, H' Dl = some (.lst vs) ∧ VtAll H' vs ds ∧ ds.length = i ∧ ds.all isValueD = true
theorem VtAll.snoc {v : V} {d : PyData} : ∀ {vs : List V} {ds : List PyData}, VtAll H vs ds → Vt H v d → VtAll H (vs ++ [v]) (ds ++ [d])
  | _, _, .nil, h => .cons h .nil
  | _, _, .cons a r, h => .cons a (r.snoc h)
theorem cwW_turn {Dl : Addr} {i : Nat} {σ2 : L2.St} (p : CwW H Dl i H') (hi : i < 50000) (he : EvW te σ2 H) :
    te σ2 H' fun y H4 => ∃ acc, H4 Dl = some (.lst acc) ∧ acc.length < sizeLine ∧ CwW H Dl (i + 1) (upd H4 Dl (.lst (acc ++ [y]))) := by
  obtain ⟨p1, p2, vs, ds, p3, p4, p5, p6⟩ := p
  refine he H' p2 _ fun d v H4 hd e4 r => ⟨vs, e4 Dl _ p3, sz_lt (by rw [p4.length]; omega), p1, Ex.mut (p2.trans e4) p1, vs ++ [v], ds ++ [d], upd_same, ((p4.tup (.of_ex e4)).snoc r).tup (.upd (e4 _ _ p3)), by rw [List.length_append, p5]; rfl, ?_⟩
  rw [List.all_append, p6]
  show (d :: []).all isValueD = true
  rw [List.all_cons, hd]
  rfl
/-- [value(..) for k in range(n)] -/
theorem el_lcW {tas : TA} {j : Nat} {n : Int} {ls : List Nat} (h : EvA tas σ H [.int n]) (hn : 0 ≤ n ∧ n ≤ 40000) (hw : ∀ x, wipe ((wipe σ ls).set j (some x)) ls = wipe σ ls)
    (he : ∀ (i : Nat) H1, Ex H H1 → (i : Int) < n → EvW te ((wipe σ ls).set j (some (.int (i : Int)))) H1) (k : ∀ p vs ds H1, H p = none → Ex H H1 → H1 p = some (.lst vs) → VtAll H1 vs ds → ds.length = n.toNat → ds.all isValueD = true → Q (.ref p) H1) : tLc (iRng1 tas) (gName j) tYes te ls σ H Q :=
  h H (Ex.refl H) _ fun H1 e1 => ⟨n, rfl, by omega, by omega, fun Dl hD =>
  lc_range (lo := 0) (n := n.toNat) (CwW H1 Dl) ⟨hD, Ex.new hD, [], [], upd_same, .nil, rfl, rfl⟩ (fun i H' hi p => by
    have e0 : (0 : Int) + (i : Int) = (i : Int) := Int.zero_add _
    show wipe ((wipe σ ls).set j (some (.int ((0 : Int) + (i : Int))))) ls = wipe σ ls ∧ te ((wipe σ ls).set j (some (.int ((0 : Int) + (i : Int))))) H' fun y H4 => ∃ acc, H4 Dl = some (.lst acc) ∧ acc.length < sizeLine ∧ CwW H1 Dl (i + 1) (upd H4 Dl (.lst (acc ++ [y])))
    rw [e0]
    exact ⟨hw _, cwW_turn p (by omega) (he i H1 e1 (by omega))⟩) (fun H' p => by
      obtain ⟨p1, p2, vs, ds, p3, p4, p5, p6⟩ := p
      exact k Dl vs ds H' (fresh_back e1 p1) (e1.trans p2) p3 p4 p5 p6)⟩
/-- for k in a dict -/
theorem s_forK {d : Addr} {kvs : List (Key × V)} {td : TE} {j : Nat} (hd : H d = some (.dK kvs)) (h : ∀ od, Ev td σ (upd H d (.frz od (.dK kvs))) (.ref d)) (Pv : Obj → Nat → L2.St → Hp → Prop) (h0 : ∀ od H1, Ex (upd H d (.frz od (.dK kvs))) H1 → Pv od 0 σ H1)
    (hl : ∀ od i σ' H', Pv od i σ' H' → H' d = some (.frz od (.dK kvs)))
    (hs : ∀ od i kk v σ' H', kvs[i]? = some (kk, v) → Pv od i σ' H' → tu { nx := Pv od (i + 1), ct := Pv od (i + 1), bk := fun σ' H' => H' d = some (.frz od (.dK kvs)) ∧ D.nx σ' (upd H' d (.dK kvs)), rt := fun v H' => H' d = some (.frz od (.dK kvs)) ∧ D.rt v (upd H' d (.dK kvs)) } (σ'.set j (some (kV kk))) H')
    (hf : ∀ od σ' H', Pv od kvs.length σ' H' → D.nx σ' (upd H' d (.dK kvs))) : tLock (tFor (iKeys td) (gName j) tu) D σ H := by
  refine ⟨d, .dK kvs, hd, trivial, fun od => ?_⟩
  refine h od _ (Ex.refl _) _ fun H1 e1 => ⟨d, od, rfl, .inl ⟨kvs, e1 _ _ upd_same, ?_⟩⟩
  refine ⟨fun i m σ' H' => m = kvs.length - i ∧ i ≤ kvs.length ∧ Pv od i σ' H', ⟨kvs.length, by simp, Nat.zero_le _, h0 od H1 e1⟩, ?_⟩
  rintro i m σ' H' ⟨rfl, hi, p⟩
  by_cases hlt : i < kvs.length
  · refine .inr ⟨⟨hl od i σ' H' p, hlt⟩, fun σ2 H2 => Pv od (i + 1) σ2 H2, fun σ2 H2 p2 => ⟨kvs.length - (i + 1), by omega, rfl, hlt, p2⟩, ?_⟩
    rintro x2 H2 ⟨rfl, kk, v, hk, rfl⟩
    exact hs od i kk v σ' _ hk p
  · have e0 : i = kvs.length := by omega
    subst e0
    exact .inl ⟨⟨hl od _ σ' H' p, Nat.le_refl _⟩, hl od _ σ' H' p, hf od σ' H' p⟩
theorem q_forK {d : Addr} {kvs : List (Key × V)} {td : TE} {j : Nat} (hd : H d = some (.dK kvs)) (h : ∀ od, Ev td σ (upd H d (.frz od (.dK kvs))) (.ref d)) (Pv : Obj → Nat → L2.St → Hp → Prop) (h0 : ∀ od H1, Ex (upd H d (.frz od (.dK kvs))) H1 → Pv od 0 σ H1)
    (hl : ∀ od i σ' H', Pv od i σ' H' → H' d = some (.frz od (.dK kvs)))
    (hs : ∀ od i kk v σ' H', kvs[i]? = some (kk, v) → Pv od i σ' H' → tu { nx := Pv od (i + 1), ct := Pv od (i + 1), bk := fun σ' H' => H' d = some (.frz od (.dK kvs)) ∧ tz D σ' (upd H' d (.dK kvs)), rt := fun v H' => H' d = some (.frz od (.dK kvs)) ∧ D.rt v (upd H' d (.dK kvs)) } (σ'.set j (some (kV kk))) H')
    (hf : ∀ od σ' H', Pv od kvs.length σ' H' → tz D σ' (upd H' d (.dK kvs))) : tSeq (tLock (tFor (iKeys td) (gName j) tu)) tz D σ H := s_forK (D := { D with nx := tz D }) hd h Pv h0 hl hs hf
/-! a law's own dict of lists of values -/
structure DictOf (H : Hp) (h : Addr) (es : List Ent) : Prop where
  nd : (h :: es.map (·.l)).Nodup
  nn : (es.map (·.n)).Nodup
  held : H h = some (.dK (es.map kvE))
  cell : ∀ e ∈ es, ColAt H e
theorem DictOf.keep {h : Addr} {es : List Ent} (T : DictOf H h es) (e : Tup H H') (k : ∀ l ∈ h :: es.map (·.l), ∀ o, H l = some o → H' l = some o) : DictOf H' h es :=
  ⟨T.nd, T.nn, k _ (by simp) _ T.held, fun en hen => by
    obtain ⟨vs, h1, h2⟩ := T.cell en hen
    exact ⟨vs, k en.l (by simp only [List.mem_cons]; exact .inr (List.mem_map_of_mem hen)) _ h1, h2.tup e⟩⟩
theorem DictOf.ex {h : Addr} {es : List Ent} (T : DictOf H h es) (e : Ex H H') : DictOf H' h es := T.keep (.of_ex e) fun l _ o => e l o
theorem DictOf.there {h : Addr} {es : List Ent} (T : DictOf H h es) : ∀ l ∈ h :: es.map (·.l), ∃ o, H l = some o := by
  intro l hl
  rcases List.mem_cons.mp hl with rfl | hl
  · exact ⟨_, T.held⟩
  · obtain ⟨e, he, rfl⟩ := List.mem_map.mp hl
    obtain ⟨vs, h1, -⟩ := T.cell e he
    exact ⟨_, h1⟩
theorem DictOf.off {h : Addr} {es : List Ent} (T : DictOf H h es) {p : Addr} (hp : H p = none) : p ∉ h :: es.map (·.l) := fun q => by
  obtain ⟨o, e⟩ := T.there p q
  rw [hp] at e
  cases e
theorem DictOf.ne {h : Addr} {es : List Ent} (T : DictOf H h es) {e : Ent} (he : e ∈ es) : e.l ≠ h := by
  have nd := T.nd
  rw [List.nodup_cons] at nd
  exact fun q => nd.1 (q ▸ List.mem_map_of_mem he)
/-- d.pop(z) -/
theorem DictOf.drop {h : Addr} {es : List Ent} (T : DictOf H h es) (z : Str) : DictOf (upd H h (.dK (dropK (es.map kvE) (.inr z)))) h (es.filter fun e => decide (e.n ≠ z)) := by
  have sub : (es.filter fun e => decide (e.n ≠ z)).Sublist es := List.filter_sublist
  refine ⟨nodup_sub (.cons₂ _ (sub.map _)) T.nd, List.Pairwise.sublist (sub.map _) T.nn, by rw [upd_same, dropK_es], fun e he => (T.cell e (sub.subset he)).keep (fun bb ys q => ?_) (upd_ne (T.ne (sub.subset he)))⟩
  rw [upd_ne (fun w => by rw [w, T.held] at q; cases q)]
  exact q
/-- d[z] = p -/
theorem DictOf.put {h p : Addr} {es : List Ent} {xs : List V} {ds : List PyData} (T : DictOf H h es) (z : Str) (hp : p ∉ h :: es.map (·.l)) (hx : H p = some (.lst xs)) (hv : VtAll H xs ds) : DictOf (upd H h (.dK (putK (es.map kvE) (.inr z) (.ref p)))) h (putE es z p ds) := by
  have tup : Tup H (upd H h (.dK (putK (es.map kvE) (.inr z) (.ref p)))) := fun bb ys q => by
    rw [upd_ne (fun w => by rw [w, T.held] at q; cases q)]
    exact q
  have nd := T.nd
  rw [List.mem_cons, not_or] at hp
  rw [List.nodup_cons] at nd
  refine ⟨?_, putE_n T.nn, by rw [upd_same, putE_kv], fun e he => ?_⟩
  · rw [List.nodup_cons]
    refine ⟨fun q => ?_, putE_l T.nn nd.2 fun e he q => hp.2 (q ▸ List.mem_map_of_mem he)⟩
    obtain ⟨e, he, q⟩ := List.mem_map.mp q
    rcases putE_mem he with he | rfl
    · exact T.ne he q
    · exact hp.1 q
  · rcases putE_mem he with he | rfl
    · exact (T.cell e he).keep tup (upd_ne (T.ne he))
    · exact ⟨xs, by rw [upd_ne hp.1]; exact hx, hv.tup tup⟩
theorem DictOf.find {h : Addr} {es : List Ent} (T : DictOf H h es) {e : Ent} (he : e ∈ es) : valV (es.map kvE) (.inr e.n) = some (.ref e.l) := by
  have q : (es.any fun x => decide (x.n = e.n)) = true := List.any_eq_true.mpr ⟨e, he, decide_eq_true rfl⟩
  obtain ⟨e', h', hn, hf⟩ := find_es q
  have : e' = e := by
    have nl := T.nn
    clear q hf T
    induction es with
    | nil => cases he
    | cons a s ih =>
      rw [List.map_cons, List.nodup_cons] at nl
      rcases List.mem_cons.mp h' with h1 | h1 <;> rcases List.mem_cons.mp he with h2 | h2
      · rw [h1, h2]
      · exact absurd (List.mem_map_of_mem (f := (·.n)) h2) (by show e.n ∉ _; rw [← hn, h1]; exact nl.1)
      · exact absurd (List.mem_map_of_mem (f := (·.n)) h1) (by show e'.n ∉ _; rw [hn, h2]; exact nl.1)
      · exact ih h2 h1 nl.2
  rw [valV_es, hf, this]
  rfl
/-! calls of the table's methods -/
variable {F : List Addr} {t0 : Addr} {b : Tb} {Ex0 : L2.St → XK}
theorem ed_at {d1 d2 d : PyData} (T : TabAt A F H t0 b) (ho : Ev ta σ H (.ref t0)) (h1 : EvD te σ H d1) (h2 : EvD tx σ H d2) (q : atB b d1 d2 = .ok d) : EvD (tMetS (A .Table) "at" (sp_Table_at K A) Ex0 ta (tCons te (tCons tx tNil))) σ H d := fun H1 e Q k => by
  obtain ⟨dx, fs, hi, hf⟩ := T.ins
  refine ho H1 e _ fun H2 e2 => ⟨t0, dx, fs, rfl, (e.trans e2) _ _ hi, look_none hf (by decide), h1 H2 (e.trans e2) _ fun v H3 e3 r3 => h2 H3 ((e.trans e2).trans e3) _ fun w H4 e4 r4 => ?_⟩
  refine ⟨F, t0, b, v, d1, w, d2, rfl, T.ex' (((e.trans e2).trans e3).trans e4), r3.ex e4, r4, fun c hc => (by rw [q] at hc; cases hc), fun d' hd v' H5 e5 r5 => ?_⟩
  rw [q] at hd
  cases hd
  exact k v' H5 (((e2.trans e3).trans e4).trans e5) r5.dt
/-- a change by a method of the table, all arguments data -/
theorem q_tabAsg {m : Str} {sp : Sp} {tas : TA} {i : Nat} {ds : List PyData} (T : TabAt A F H t0 b) (hm : m ∉ tabF) (ho : Ev ta σ H (.ref t0)) (h : EvDs tas σ H ds) (k : ∀ vs H1, Ex H H1 → DtAll H1 vs ds → TabAt A F H1 t0 b → sp (.ref t0 :: vs) H1 (fun v H2 => tz D (σ.set i (some v)) H2) (Ex0 σ)) :
    tSeq (tAsg (tMetS (A .Table) m sp Ex0 ta tas) (gName i)) tz D σ H := by
  obtain ⟨dx, fs, hi, hf⟩ := T.ins
  exact ho H (Ex.refl H) _ fun H2 e2 => ⟨t0, dx, fs, rfl, e2 _ _ hi, look_none hf hm, h H2 e2 _ fun vs H3 e3 r3 => k vs H3 (e2.trans e3) r3 (T.ex' (e2.trans e3))⟩
theorem q_tabDrop {m : Str} {sp : Sp} {tas : TA} {ds : List PyData} (T : TabAt A F H t0 b) (hm : m ∉ tabF) (ho : Ev ta σ H (.ref t0)) (h : EvDs tas σ H ds) (k : ∀ vs H1, Ex H H1 → DtAll H1 vs ds → TabAt A F H1 t0 b → sp (.ref t0 :: vs) H1 (fun _ H2 => tz D σ H2) (Ex0 σ)) :
    tSeq (tDrop (tMetS (A .Table) m sp Ex0 ta tas)) tz D σ H := by
  obtain ⟨dx, fs, hi, hf⟩ := T.ins
  exact ho H (Ex.refl H) _ fun H2 e2 => ⟨t0, dx, fs, rfl, e2 _ _ hi, look_none hf hm, h H2 e2 _ fun vs H3 e3 r3 => k vs H3 (e2.trans e3) r3 (T.ex' (e2.trans e3))⟩
theorem DtAll.one {vs : List V} {d : PyData} (h : DtAll H vs [d]) : ∃ v, vs = [v] ∧ Dt H v d := by
  cases h with
  | cons a r => cases r; exact ⟨_, rfl, a⟩
theorem DtAll.two {vs : List V} {d e : PyData} (h : DtAll H vs [d, e]) : ∃ v w, vs = [v, w] ∧ Dt H v d ∧ Dt H w e := by
  cases h with
  | cons a r => obtain ⟨w, rfl, q⟩ := r.one; exact ⟨_, w, rfl, a, q⟩
theorem DtAll.three {vs : List V} {d e f : PyData} (h : DtAll H vs [d, e, f]) : ∃ v w x, vs = [v, w, x] ∧ Dt H v d ∧ Dt H w e ∧ Dt H x f := by
  cases h with
  | cons a r => obtain ⟨w, x, rfl, q, q2⟩ := r.two; exact ⟨_, w, x, rfl, a, q, q2⟩
/-- d[k] = v -/
theorem s_setK {p : Addr} {kvs : List (Key × V)} {k : Key} {v : V} (h : H p = some (.dK kvs)) (hv : Ev te σ H v) (ho : Ev ta σ H (.ref p)) (hk : Ev tb σ H (kV k)) (hl : kvs.length < 100000) (kk : ∀ H1, Ex H H1 → D.nx σ (upd H1 p (.dK (putK kvs k v)))) : tAsg te (gSub ta tb rSetA) D σ H :=
  hv H (Ex.refl H) _ fun H1 e1 => ho H1 e1 _ fun H2 e2 => hk H2 (e1.trans e2) _ fun H3 e3 => .inr ⟨p, _, rfl, DPut.k (((e1.trans e2).trans e3) _ _ h) (sz_lt hl), kk H3 ((e1.trans e2).trans e3)⟩
theorem nodup_len {α : Type} [DecidableEq α] : ∀ {l m : List α}, l.Nodup → (∀ x ∈ l, x ∈ m) → l.length ≤ m.length
  | [], _, _, _ => Nat.zero_le _
  | a :: l, m, hn, hs => by
    rw [List.nodup_cons] at hn
    have ha := hs a List.mem_cons_self
    have := nodup_len (l := l) (m := m.erase a) hn.2 fun x hx => by
      have hne : x ≠ a := fun q => hn.1 (q ▸ hx)
      exact (List.mem_erase_of_ne hne).mpr (hs x (List.mem_cons_of_mem _ hx))
    rw [List.length_erase_of_mem ha] at this
    have : 0 < m.length := List.length_pos_of_mem ha
    rw [List.length_cons]
    omega
theorem cols_find {es es2 : List Ent} {e : Ent} (q : es2.map cE = es.map cE) (he : e ∈ es) : ∃ e2 ∈ es2, e2.n = e.n ∧ e2.ds = e.ds := by
  have : cE e ∈ es2.map cE := by rw [q]; exact List.mem_map_of_mem he
  obtain ⟨e2, h2, w⟩ := List.mem_map.mp this
  exact ⟨e2, h2, congrArg Prod.fst w, congrArg Prod.snd w⟩
theorem TabAt.wide {e : Ent} {es : List Ent} (T : TabAt A F H t0 b) (q : b.cols = es.map cE) (he : e ∈ es) : e.ds.length = b.rows.length := by
  obtain ⟨dx, r, hh, es2, rfl, O⟩ := T.ex
  obtain ⟨e2, h2, -, w⟩ := cols_find (O.cols.symm.trans q) he
  rw [← w]
  exact O.wide e2 h2
theorem nn_of {es : List Ent} (q : b.cols = es.map cE) (T : TabAt A F H t0 b) : (es.map (·.n)).Nodup := by
  obtain ⟨dx, r, hh, es2, rfl, O⟩ := T.ex
  have : es.map (·.n) = es2.map (·.n) := by
    have := congrArg (List.map Prod.fst) (O.cols.symm.trans q)
    rw [List.map_map, List.map_map] at this
    exact this.symm
  rw [this]
  exact O.nn
theorem getA_mem {es : List Ent} {e : Ent} (nn : (es.map (·.n)).Nodup) (he : e ∈ es) : getA (es.map cE) e.n = some e.ds ∧ ((es.map cE).any fun c => decide (c.1 = e.n)) = true := by
  have q : (es.any fun x => decide (x.n = e.n)) = true := List.any_eq_true.mpr ⟨e, he, decide_eq_true rfl⟩
  refine ⟨?_, by rw [any_es]; exact q⟩
  obtain ⟨e', h', hn, hf⟩ := find_es q
  have : e' = e := by
    clear q hf
    induction es with
    | nil => cases he
    | cons a s ih =>
      rw [List.map_cons, List.nodup_cons] at nn
      rcases List.mem_cons.mp h' with h1 | h1 <;> rcases List.mem_cons.mp he with h2 | h2
      · rw [h1, h2]
      · exact absurd (List.mem_map_of_mem (f := (·.n)) h2) (by show e.n ∉ _; rw [← hn, h1]; exact nn.1)
      · exact absurd (List.mem_map_of_mem (f := (·.n)) h1) (by show e'.n ∉ _; rw [hn, h2]; exact nn.1)
      · exact ih nn.2 h2 h1
  rw [getA_es, hf, this]
  rfl
theorem at_ok {es : List Ent} {e : Ent} {i : Nat} (T : TabAt A F H t0 b) (q : b.cols = es.map cE) (he : e ∈ es) (hi : i < b.rows.length) : atB b (.str e.n) (.int i) = .ok (e.ds.getD i .none) := by
  have g := getA_mem (nn_of q T) he
  have h : hasC b (.str e.n) = true := by
    show (b.cols.any fun c => decide (c.1 = e.n)) = true
    rw [q]
    exact g.2
  unfold atB
  rw [if_pos h, if_pos (show isBelow b.rows.length (.int i) = true from decide_eq_true (by omega))]
  show Except.ok (((getA b.cols e.n).getD []).getD i .none) = _
  rw [q, g.1]
  rfl
end
end Z

set_option Elab.async false
set_option linter.all false
set_option autoImplicit false
set_option maxRecDepth 100000
set_option maxHeartbeats 4000000
/-! ev: what an expression comes to, by its form -/
local macro_rules | `(tactic| k_places) => `(tactic| (repeat' (first
  | (with_reducible exact ev_c)
  | (with_reducible exact ev_var rfl)
  | (with_reducible refine ev_chainLL ?_ ?_ ?_)
  | (with_reducible refine ev_chainLt ?_ ?_ ?_)
  | (with_reducible refine ev_op ?_ ?_ ?_)
  | (with_reducible refine ev_neg ?_)
  | (with_reducible refine et_test ?_)
  | (with_reducible refine et_B ?_)
  | (with_reducible refine et_not ?_)
  | (with_reducible refine et_and ?_ (fun _ => ?_))
  | (with_reducible refine et_or ?_ (fun _ => ?_))
  | (with_reducible refine ev_andV ?_ (fun _ => ?_))
  | (with_reducible refine ev_orV ?_ (fun _ => ?_))
  | (with_reducible refine ev_notV ?_)
  | (with_reducible exact rv_addI)
  | (with_reducible exact rv_subI)
  | (with_reducible exact rv_lt)
  | (with_reducible exact rv_le)
  | (with_reducible exact rv_gt)
  | (with_reducible exact rv_ge)
  | (with_reducible exact rv_isB)
  | (with_reducible exact rv_isnB)
  | (with_reducible exact rv_isN)
  | (with_reducible exact rv_isnN)
  | (with_reducible exact rv_eqS rfl)
  | (with_reducible exact rv_neS rfl)
  | (with_reducible exact rv_inStr)
  | (with_reducible exact rv_ninStr)
  | (with_reducible exact rv_mod (by first | decide | omega | assumption))
  | (with_reducible exact rv_div (by first | decide | omega | assumption))
  | (with_reducible exact rv_pow (by decide))
  | (with_reducible refine ed_i ?_; done)
  | (with_reducible exact ea_nil)
  | (with_reducible refine ea_cons ?_ ?_)
  | (with_reducible exact eds_nil)
  | (with_reducible refine eds_cons ?_ ?_)
  | (with_reducible exact ed_dnew)
  | (with_reducible refine ed_lst ?_ (by simp only [List.length_cons, List.length_nil]; omega))
  | (with_reducible refine ed_tup ?_ (by simp only [List.length_cons, List.length_nil]; omega)))))
namespace Z
open PySem PySem.Spec PyProof.Rows L2 Evl
/-! ### pieces of texts; drawn names -/
theorem cut_to (l : List Nat) (j : Nat) : cutS (SX.S l) none (some (j : Int)) = SX.S (l.take j) := by
  have e : (SX.S l).length = l.length := SX.S_len l
  unfold cutS
  rw [HT.sIx_nat, e, show HT.sIx l.length 0 none = 0 from rfl, List.drop_zero, Nat.sub_zero]
  show SX.S (l.take (min j l.length)) = SX.S (l.take j)
  congr 1
  by_cases h : j ≤ l.length
  · rw [Nat.min_eq_left h]
  · rw [Nat.min_eq_right (by omega), List.take_of_length_le (Nat.le_refl _), List.take_of_length_le (by omega)]
theorem cut_mid (l : List Nat) (i j : Nat) (h : i ≤ l.length) : cutS (SX.S l) (some (i : Int)) (some (j : Int)) = SX.S ((l.drop i).take (j - i)) := by
  have e : (SX.S l).length = l.length := SX.S_len l
  unfold cutS
  rw [HT.sIx_nat, HT.sIx_nat, e, Nat.min_eq_left h]
  show SX.S ((l.drop i).take (min j l.length - i)) = SX.S ((l.drop i).take (j - i))
  congr 1
  by_cases hj : j ≤ l.length
  · rw [Nat.min_eq_left hj]
  · rw [Nat.min_eq_right (by omega), List.take_of_length_le (by rw [List.length_drop]; omega), List.take_of_length_le (by rw [List.length_drop]; omega)]
theorem name_rep {c : Nat} {n : Int} (hc : c ∈ lets) (h : 1 ≤ n ∧ n ≤ 8) : isName (repS ⟨#[c]⟩ n) = true := by
  unfold repS
  refine name_of ?_ ?_ fun x hx => ?_
  · rw [List.length_flatten, List.map_replicate]
    show 1 ≤ (List.replicate n.toNat 1).sum
    rw [List.sum_replicate_nat]
    omega
  · rw [List.length_flatten, List.map_replicate]
    show (List.replicate n.toNat 1).sum ≤ 8
    rw [List.sum_replicate_nat]
    omega
  · obtain ⟨l, h1, h2⟩ := List.mem_flatten.mp hx
    rw [List.eq_of_mem_replicate h1] at h2
    have : x = c := by simpa using h2
    rw [this]
    exact hc
section
variable {K : PySem.W.Frag} {H H' : Hp} {Q : VK} {E : XK} {vs : List V} {σ : L2.St} {ta te tx tb : TE} {D : Ends} {tz tu : TS}
theorem ev_joinL {l : List Nat} (hb : EvL tb σ H (l.map fun c => V.str ⟨#[c]⟩)) (hl : l.length ≤ 1000000) : Ev (tJoin K (tC (.str "")) tb) σ H (.str (SX.S l)) := fun H1 e Q q => by
  refine ⟨⟨SX.S [], rfl⟩, hb H1 e _ fun p H2 _ e2 hs => ⟨SX.S [], p, l.map fun c => SX.S [c], rfl, rfl, .inl (SqL.of (by rw [map_str_S]; exact hs)), ?_, ?_⟩⟩
  · rw [sum_ones, List.length_map]
    show l.length + l.length * 0 ≤ 16777216
    omega
  · rw [join_signs]
    exact q H2 e2
/-- [text(..) for k in range(n)] -/
theorem el_lcStr {tas : TA} {j : Nat} {n : Int} {ls : List Nat} (f : Nat → Str) (h : EvA tas σ H [.int n]) (hn : 0 ≤ n ∧ n ≤ 40000) (hw : ∀ x, wipe ((wipe σ ls).set j (some x)) ls = wipe σ ls)
    (he : ∀ (i : Nat) H1, Ex H H1 → (i : Int) < n → Ev te ((wipe σ ls).set j (some (.int (i : Int)))) H1 (.str (f i))) : EvL (tLc (iRng1 tas) (gName j) tYes te ls) σ H (((List.range n.toNat).map f).map V.str) := by
  have := el_lcR1 (t := tYes) (te := te) (fun _ => true) (fun i => V.str (f i)) h hn hw (fun i H1 _ _ => fun H2 _ Q q => q H2 (Ex.refl H2)) (fun i H1 e1 hi _ => he i H1 e1 hi)
  unfold given at this
  rw [List.filter_eq_self.mpr (fun _ _ => rfl)] at this
  rw [List.map_map]
  exact this
/-- _law_names: five names -/
def sp_law_names (K : PySem.W.Frag) : Sp := fun vs H Q _ => ∃ (l : Addr) (ns : List Int), vs = [.ref l] ∧ SqL K H l (ns.map V.int) ∧ ∀ zs : List Str, zs.length = 5 → (∀ z ∈ zs, isName z = true) → RetL (zs.map V.str) H Q
def t_law_names (K : PySem.W.Frag) (E : XK) : TS :=
  tSeq (tAsg (tOp rModA (tCallS (sp_law_cell K) (WE (fun cls d _ H => E cls d H)) (tCons (tVar 0) (tCons (tC (.int 1)) tNil))) (tC (.int 1000003))) (gName 1))
    (tSeq (tAsg (tC (.str "abcdefghijklmnopqrstuvwxyz")) (gName 2))
    (tSeq (tAsg (tJoin K (tC (.str "")) (tLc (iRng1 (tCons (tC (.int 5)) tNil)) (gName 3) tYes (tOp (rIxA K) (tVar 2) (tOp rModA (tOp rDivA (tVar 1) (tOp (rAddA K) (tVar 3) (tC (.int 2)))) (tC (.int 26)))) [3])) (gName 4))
    (tSeq (tIfS (tTest (tOp (rEqA K) (tOp rModA (tVar 1) (tC (.int 3))) (tC (.int 0)))) (tRet (tLc (iRng1 (tCons (tC (.int 5)) tNil)) (gName 3) tYes (tSl (rSlA K) (tVar 4) tNoPart (tPart (tOp (rAddA K) (tVar 3) (tC (.int 1))))) [3])) tNext)
    (tSeq (tAsg (tOp rModA (tOp rDivA (tVar 1) (tC (.int 3))) (tC (.int 8))) (gName 5))
    (tSeq (tAsg (tOp rModA (tOp rDivA (tVar 1) (tC (.int 24))) (tOp (rAddA K) (tVar 5) (tC (.int 1)))) (gName 6))
    (tSeq (tAsg (tOp (rAddA K) (tVar 4) (tVar 4)) (gName 4))
    (tSeq (tAsg (tLst tNil) (gName 7))
    (tSeq (tFor (iRng1 (tCons (tC (.int 5)) tNil)) (gName 3) (tSeq (tAsg (tOp (rIxA K) (tVar 2) (tOp rModA (tOp (rAddA K) (tOp rDivA (tVar 1) (tC (.int 216))) (tOp (rMulA K) (tC (.int 5)) (tVar 3))) (tC (.int 26)))) (gName 8))
    (tDrop (tBM K "list" rAppend (tVar 7) (tCons (tOp (rAddA K) (tOp (rAddA K) (tSl (rSlA K) (tVar 4) tNoPart (tPart (tVar 6))) (tVar 8)) (tSl (rSlA K) (tVar 4) (tPart (tVar 6)) (tPart (tVar 5)))) tNil)))))
    (tRet (tVar 7))))))))))
theorem len_law_names (vs : List V) (H : Hp) (Q : VK) (E : XK) (h : sp_law_names K vs H Q E) : vs.length = 1 := by obtain ⟨_, _, rfl, _⟩ := h; rfl
theorem let_mem (x : Int) : lets.getD (x % 26).toNat 0 ∈ lets := getD_mem (emod_lt_len x (by decide +kernel) (by decide))
theorem r_law_names (vs : List V) (H : Hp) (Q : VK) (E : XK) (h : sp_law_names K vs H Q E) : t_law_names K E { nx := fun _ H' => Q .non H', rt := Q } (L2.start ["script", "cell", "letters", "k", "stem", "size", "at", "names", "sign"] vs) H := by
  obtain ⟨l, ns, rfl, hl, k⟩ := h
  unfold t_law_names
  refine q_asg (ev_op (ev_cell (j := 1) (ev_var rfl) ev_c hl (by decide)) ev_c (rv_mod (by decide))) fun H1 e1 => ?_
  have bc := emod_bd (cellV ns 1) (n := 1000003) (by decide)
  generalize cellV ns 1 % 1000003 = c at bc
  refine q_asg ev_c fun H2 e2 => ?_
  refine q_asg (v := .str (SX.S ((List.range 5).map fun (k : Nat) => lets.getD (c / ((k : Int) + 2) % 26).toNat 0))) (ev_joinL ?_ (by simp)) fun H3 e3 => ?_
  · have := el_lcStr (σ := [some (.ref l), some (.int c), some (.str "abcdefghijklmnopqrstuvwxyz"), none, none, none, none, none, none]) (H := H2) (te := tOp (rIxA K) (tVar 2) (tOp rModA (tOp rDivA (tVar 1) (tOp (rAddA K) (tVar 3) (tC (.int 2)))) (tC (.int 26)))) (tas := tCons (tC (.int 5)) tNil) (j := 3) (n := 5) (ls := [3]) (fun k => ⟨#[lets.getD (c / ((k : Int) + 2) % 26).toNat 0]⟩) (ea_cons ev_c ea_nil) (by decide) (fun _ => rfl) (fun i H1 e1 hi => ev_sign (ev_var rfl) (ev_op (ev_op (ev_var rfl) (ev_op (ev_var rfl) ev_c rv_addI) (rv_div (by omega))) ev_c (rv_mod (by decide))) (by decide +kernel) (by decide) (by decide +kernel))
    rw [List.map_map] at this
    rw [List.map_map]
    exact this
  generalize hcs : (List.range 5).map (fun (k : Nat) => lets.getD (c / ((k : Int) + 2) % 26).toNat 0) = cs
  have lc : cs.length = 5 := by rw [← hcs, List.length_map, List.length_range]
  have hm : ∀ x ∈ cs, x ∈ lets := fun x hx => by
    rw [← hcs] at hx
    obtain ⟨i, -, rfl⟩ := List.mem_map.mp hx
    exact let_mem _
  have sl : (SX.S cs).length ≤ 100000 := by rw [SX.S_len]; omega
  have E3 := (e1.trans e2).trans e3
  refine q_when (et_test (ev_op (ev_op (ev_var rfl) ev_c (rv_mod (by decide))) ev_c (rv_eqS rfl))) (fun _ H4 e4 => ?_) (fun _ H4 e4 => ?_)
  · refine s_retL (el_lcStr (fun k => SX.S (cs.take (k + 1))) (ea_cons ev_c ea_nil) (by decide) (fun _ => rfl) fun i H5 e5 hi => ?_) fun p H5 hp e5 h5 => ?_
    · exact ev_is (ev_slS (ev_var rfl) eo_none (eo_some (ev_op (ev_var rfl) ev_c rv_addI)) sl) (by rw [show (i : Int) + 1 = ((i + 1 : Nat) : Int) from rfl, cut_to])
    · refine k ((List.range 5).map fun k => SX.S (cs.take (k + 1))) (by simp) (fun z hz => ?_) p H5 (fresh_back (E3.trans e4) hp) ((E3.trans e4).trans e5) h5
      obtain ⟨i, hi, rfl⟩ := List.mem_map.mp hz
      have hi := List.mem_range.mp hi
      exact name_of (by rw [List.length_take]; omega) (by rw [List.length_take]; omega) fun x hx => hm x (List.mem_of_mem_take hx)
  · refine q_asg (ev_op (ev_op (ev_var rfl) ev_c (rv_div (by decide))) ev_c (rv_mod (by decide))) fun H5 e5 => ?_
    have b1 := emod_bd (c / 3) (n := 8) (by decide)
    obtain ⟨sz, hsz⟩ : ∃ sz : Nat, c / 3 % 8 = sz := ⟨(c / 3 % 8).toNat, by omega⟩
    rw [hsz] at b1 ⊢
    refine q_asg (ev_op (ev_op (ev_var rfl) ev_c (rv_div (by decide))) (ev_op (ev_var rfl) ev_c rv_addI) (rv_mod (by omega))) fun H6 e6 => ?_
    have b2 := emod_bd (c / 24) (n := (sz : Int) + 1) (by omega)
    obtain ⟨at_, hat⟩ : ∃ a : Nat, c / 24 % ((sz : Int) + 1) = a := ⟨(c / 24 % ((sz : Int) + 1)).toNat, by omega⟩
    rw [hat] at b2 ⊢
    refine q_asg (v := .str (SX.S (cs ++ cs))) (ev_is (ev_op (ev_var rfl) (ev_var rfl) (rv_addS (by rw [SX.S_len]; omega))) (by rw [SX.S_cat])) fun H7 e7 => ?_
    have sl2 : (SX.S (cs ++ cs)).length ≤ 100000 := by rw [SX.S_len, List.length_append]; omega
    refine q_asgL (xs := []) (el_lst ea_nil (by decide)) fun p H8 np e8 hp => ?_
    have np : H p = none := fresh_back (((((E3.trans e4).trans e5).trans e6).trans e7)) np
    have E8 := ((((E3.trans e4).trans e5).trans e6).trans e7).trans e8
    refine q_forR1 (n := 5) (ea_cons ev_c ea_nil) (by decide)
      (fun i σ H9 => ∃ (kv sg : Option V) (zs : List Str), σ = [some (.ref l), some (.int c), some (.str "abcdefghijklmnopqrstuvwxyz"), kv, some (.str (SX.S (cs ++ cs))), some (.int sz), some (.int at_), some (.ref p), sg] ∧ Ex H H9 ∧ H9 p = some (.lst (zs.map V.str)) ∧ zs.length = i ∧ ∀ z ∈ zs, isName z = true)
      (fun H9 e9 => ⟨_, _, [], rfl, E8.trans e9, e9 p _ hp, rfl, fun _ h => nomatch h⟩) ?_ ?_
    · rintro i σ H9 hi ⟨kv, sg, zs, rfl, e9, hp9, hz, hn⟩
      refine q_asg (ev_sign (ev_var rfl) (ev_op (ev_op (ev_op (ev_var rfl) ev_c (rv_div (by decide))) (ev_op ev_c (ev_var rfl) (rv_mulI (wide_mul (a := 20) (b := 20) (by omega) (by omega) (by decide) (by decide) (by decide)))) rv_addI) ev_c (rv_mod (by decide))) (by decide +kernel) (by decide) (by decide +kernel)) fun H10 e10 => ?_
      have hx := let_mem (c / 216 + 5 * (i : Int))
      have hw : ("abcdefghijklmnopqrstuvwxyz" : Str).cps.toList = lets := rfl
      rw [hw]
      generalize lets.getD ((c / 216 + 5 * (i : Int)) % 26).toNat 0 = x at hx
      have key : SX.S ((cs ++ cs).take at_) ++ ⟨#[x]⟩ ++ SX.S (((cs ++ cs).drop at_).take (sz - at_)) = SX.S ((cs ++ cs).take at_ ++ [x] ++ ((cs ++ cs).drop at_).take (sz - at_)) := by
        rw [← SX.S_cat, ← SX.S_cat]
      have lt : ∀ (n : Nat) (l : List Nat), (SX.S (l.take n)).length ≤ l.length := fun n l => by rw [SX.S_len, List.length_take]; omega
      have l1 := lt at_ (cs ++ cs)
      have l2 := lt (sz - at_) ((cs ++ cs).drop at_)
      rw [List.length_append] at l1
      rw [List.length_drop, List.length_append] at l2
      have lk : ((cs ++ cs).take at_ ++ [x] ++ ((cs ++ cs).drop at_).take (sz - at_)).length = sz + 1 := by
        simp only [List.length_append, List.length_take, List.length_drop, List.length_singleton]
        omega
      refine s_app (e10 _ _ hp9) (ev_var rfl) (ev_is (ev_op (ev_op (ev_is (ev_slS (ev_var rfl) eo_none (eo_some (ev_var rfl)) sl2) (by rw [cut_to])) (ev_var rfl) (rv_addS ?_)) (ev_is (ev_slS (ev_var rfl) (eo_some (ev_var rfl)) (eo_some (ev_var rfl)) sl2) (by rw [cut_mid _ _ _ (by rw [List.length_append]; omega)])) (rv_addS ?_)) (congrArg V.str key)) (by rw [List.length_map]; omega) fun H11 e11 => ?_
      · show _ + 1 ≤ _
        omega
      · rw [Str.length_append]
        show _ + 1 + _ ≤ _
        omega
      · refine ⟨_, _, zs ++ [SX.S ((cs ++ cs).take at_ ++ [x] ++ ((cs ++ cs).drop at_).take (sz - at_))], rfl, Ex.mut ((e9.trans e10).trans e11) np, by rw [List.map_append]; exact upd_same, by rw [List.length_append, hz]; rfl, fun z hz2 => ?_⟩
        rcases List.mem_append.mp hz2 with h | h
        · exact hn z h
        · rw [List.mem_singleton.mp h]
          refine name_of (by rw [lk]; omega) (by rw [lk]; omega) fun y hy => ?_
          have hcc : ∀ y ∈ cs ++ cs, y ∈ lets := fun y hy => (List.mem_append.mp hy).elim (hm y) (hm y)
          simp only [List.mem_append, List.mem_singleton] at hy
          rcases hy with (hy | rfl) | hy
          · exact hcc y (List.mem_of_mem_take hy)
          · exact hx
          · exact hcc y (List.mem_of_mem_drop (List.mem_of_mem_take hy))
    · rintro σ H9 ⟨kv, sg, zs, rfl, e9, hp9, hz, hn⟩
      exact s_ret (ev_var rfl) fun H10 e10 => k zs hz hn p H10 np (e9.trans e10) (e10 _ _ hp9)
/-! more statements -/
theorem atI_map {α β : Type} (f : α → β) (l : List α) (i : Int) : atI (l.map f) i = (atI l i).map f := by
  unfold atI
  rw [List.length_map]
  cases ixN l.length i with
  | none => rfl
  | some j =>
    show (l.map f)[j]? = (l[j]?).map f
    rw [List.getElem?_map]
theorem ev_cellB {l : Addr} {ns : List Int} {j : Nat} (ha : Ev ta σ H (.ref l)) (hb : Ev tb σ H (.int (j : Int))) (hl : SqL K H l (ns.map V.int)) (hj : j ≤ 100000) : Ev (tCall (sp_law_cell K) [] E0 (tCons ta (tCons tb tNil))) σ H (.int (cellV ns j)) :=
  ev_call (ea_cons ha (ea_cons hb ea_nil)) fun H1 e Q q E => ⟨l, ns, j, rfl, ex_l e hl, hj, fun H2 e2 => q H2 e2⟩
theorem q_asgDN {i : Nat} (k : ∀ p H1, H p = none → Ex H H1 → H1 p = some (.dK []) → tz D (σ.set i (some (.ref p))) H1) : tSeq (tAsg tDNewK (gName i)) tz D σ H :=
  fun p hp => k p _ hp (Ex.new hp) upd_same
theorem q_asgLcW {tas : TA} {i j : Nat} {n : Int} {ls : List Nat} (h : EvA tas σ H [.int n]) (hn : 0 ≤ n ∧ n ≤ 40000) (hw : ∀ x, wipe ((wipe σ ls).set j (some x)) ls = wipe σ ls)
    (he : ∀ (i : Nat) H1, Ex H H1 → (i : Int) < n → EvW te ((wipe σ ls).set j (some (.int (i : Int)))) H1) (k : ∀ p vs ds H1, H p = none → Ex H H1 → H1 p = some (.lst vs) → VtAll H1 vs ds → ds.length = n.toNat → ds.all isValueD = true → tz D (σ.set i (some (.ref p))) H1) :
    tSeq (tAsg (tLc (iRng1 tas) (gName j) tYes te ls) (gName i)) tz D σ H := el_lcW (Q := fun v H1 => tz D (σ.set i (some v)) H1) h hn hw he k
theorem q_setAD {l : Addr} {xs : List V} {j : Nat} {d : PyData} (hl : H l = some (.lst xs)) (h : EvD te σ H d) (ho : Ev ta σ H (.ref l)) (hi : Ev tb σ H (.int (j : Int))) (hj : j < xs.length) (k : ∀ v H1, Ex H H1 → Dt H1 v d → tz D σ (upd H1 l (.lst (xs.set j v)))) :
    tSeq (tAsg te (gSub ta tb rSetA)) tz D σ H := h H (Ex.refl H) _ fun v H1 e1 r => ho H1 e1 _ fun H2 e2 => hi H2 (e1.trans e2) _ fun H3 e3 =>
  .inl ⟨l, xs, (j : Int), j, rfl, rfl, ((e1.trans e2).trans e3) l _ hl, ixN_nat hj, k v H3 ((e1.trans e2).trans e3) ((r.ex e2).ex e3)⟩
end
/-! a table and a law's own dict beside it; B is what stood ahead -/
structure Pair (A : Cn → Addr) (B : Hp) (t h : Addr) (H : Hp) (F : List Addr) (b : Tb) (es : List Ent) : Prop where
  ex : Ex B H
  tab : TabAt A F H t b
  dict : DictOf H h es
  offF : ∀ a ∈ F, B a = none
  offD : ∀ a ∈ h :: es.map (·.l), B a = none ∧ a ∉ F
section
variable {A : Cn → Addr} {B H H' : Hp} {t h : Addr} {F F' : List Addr} {b b' : Tb} {es : List Ent}
theorem off_new {p : Addr} {o : HO} (n : ∀ a ∈ F', a ∈ F ∨ H a = none) (hp : p ∉ F) (ho : H p = some o) : p ∉ F' := fun w => (n p w).elim hp fun q => by rw [q] at ho; cases ho
theorem TabAt.tupFr (T : TabAt A F H t b) (f : Fr F H H') : Tup H H' := fun bb _ q => f bb _ q fun w => T.noTup w q
theorem DictOf.upd {p : Addr} {xs : List V} {o : HO} (T : DictOf H h es) (hp : p ∉ h :: es.map (·.l)) (hl : H p = some (.lst xs)) : DictOf (L2.upd H p o) h es :=
  T.keep (.upd hl) fun l hl o e => by rw [upd_ne (show l ≠ p from fun q => hp (by rw [← q]; exact hl))]; exact e
theorem Pair.mono (I : Pair A B t h H F b es) (e : Ex H H') : Pair A B t h H' F b es := ⟨I.ex.trans e, I.tab.ex' e, I.dict.ex e, I.offF, I.offD⟩
theorem Pair.fr (I : Pair A B t h H F b es) (T : TabAt A F' H' t b') (f : Fr F H H') (n : ∀ a ∈ F', a ∈ F ∨ H a = none) : Pair A B t h H' F' b' es :=
  ⟨fun bb o q => f bb o (I.ex _ _ q) fun w => (by rw [I.offF bb w] at q; cases q), T, I.dict.keep (I.tab.tupFr f) fun l hl o q => f l o q (I.offD l hl).2, fun a ha => (n a ha).elim (I.offF a) (fresh_back I.ex),
   fun a ha => ⟨(I.offD a ha).1, by obtain ⟨o, q⟩ := I.dict.there a ha; exact off_new n (I.offD a ha).2 q⟩⟩
theorem Pair.upd {p : Addr} {xs : List V} {o : HO} (I : Pair A B t h H F b es) (hB : B p = none) (h1 : p ∉ F) (h2 : p ∉ h :: es.map (·.l)) (hl : H p = some (.lst xs)) : Pair A B t h (L2.upd H p o) F b es :=
  ⟨I.ex.mut hB, I.tab.upd h1 hl, I.dict.upd h2 hl, I.offF, I.offD⟩
theorem Pair.tabD {u : HO} (I : Pair A B t h H F b es) : TabAt A F (L2.upd H h u) t b := by
  refine I.tab.keep (fun bb ys q => ?_) (fun l hl o q => ?_)
  · rw [upd_ne (fun w => by rw [w, I.dict.held] at q; cases q)]
    exact q
  · rw [upd_ne (show l ≠ h from fun w => (I.offD h (by simp)).2 (w ▸ hl))]
    exact q
theorem Pair.drop (I : Pair A B t h H F b es) (z : Str) : Pair A B t h (L2.upd H h (.dK (dropK (es.map kvE) (.inr z)))) F b (es.filter fun e => decide (e.n ≠ z)) := by
  have sub : (es.filter fun e => decide (e.n ≠ z)).Sublist es := List.filter_sublist
  refine ⟨I.ex.mut (I.offD h (by simp)).1, I.tabD, I.dict.drop z, I.offF, fun a ha => I.offD a ?_⟩
  rcases List.mem_cons.mp ha with q | q
  · exact List.mem_cons.mpr (.inl q)
  · exact List.mem_cons.mpr (.inr ((sub.map _).subset q))
theorem Pair.put {p : Addr} {xs : List V} {ds : List PyData} (I : Pair A B t h H F b es) (z : Str) (hB : B p = none) (h1 : p ∉ F) (h2 : p ∉ h :: es.map (·.l)) (hl : H p = some (.lst xs)) (hv : VtAll H xs ds) : Pair A B t h (L2.upd H h (.dK (putK (es.map kvE) (.inr z) (.ref p)))) F b (putE es z p ds) := by
  refine ⟨I.ex.mut (I.offD h (by simp)).1, I.tabD, I.dict.put z h2 hl hv, I.offF, fun a ha => ?_⟩
  rcases List.mem_cons.mp ha with q | q
  · exact I.offD a (List.mem_cons.mpr (.inl q))
  · obtain ⟨e, he, rfl⟩ := List.mem_map.mp q
    rcases putE_mem he with he | rfl
    · exact I.offD e.l (List.mem_cons.mpr (.inr (List.mem_map_of_mem he)))
    · exact ⟨hB, h1⟩
theorem any_has (q : b.cols = es.map cE) (z : Str) : hasC b (.str z) = es.any fun e => decide (e.n = z) := by
  show (b.cols.any fun c => decide (c.1 = z)) = _
  rw [q, any_es]
theorem names_few {zs : List Str} (D : DictOf H h es) (g : ∀ e ∈ es, e.n ∈ zs) : es.length ≤ zs.length := by
  have := nodup_len (l := es.map (·.n)) (m := zs) D.nn fun x hx => by
    obtain ⟨e, he, rfl⟩ := List.mem_map.mp hx
    exact g e he
  rw [List.length_map] at this
  exact this
end
end Z

set_option Elab.async false
set_option linter.all false
set_option autoImplicit false
set_option maxRecDepth 100000
set_option maxHeartbeats 4000000
/-! ev: what an expression comes to, by its form -/
local macro_rules | `(tactic| k_places) => `(tactic| (repeat' (first
  | (with_reducible exact ev_c)
  | (with_reducible exact ev_var rfl)
  | (with_reducible refine ev_chainLL ?_ ?_ ?_)
  | (with_reducible refine ev_chainLt ?_ ?_ ?_)
  | (with_reducible refine ev_op ?_ ?_ ?_)
  | (with_reducible refine ev_neg ?_)
  | (with_reducible refine et_test ?_)
  | (with_reducible refine et_B ?_)
  | (with_reducible refine et_not ?_)
  | (with_reducible refine et_and ?_ (fun _ => ?_))
  | (with_reducible refine et_or ?_ (fun _ => ?_))
  | (with_reducible refine ev_andV ?_ (fun _ => ?_))
  | (with_reducible refine ev_orV ?_ (fun _ => ?_))
  | (with_reducible refine ev_notV ?_)
  | (with_reducible exact rv_addI)
  | (with_reducible exact rv_subI)
  | (with_reducible exact rv_lt)
  | (with_reducible exact rv_le)
  | (with_reducible exact rv_gt)
  | (with_reducible exact rv_ge)
  | (with_reducible exact rv_isB)
  | (with_reducible exact rv_isnB)
  | (with_reducible exact rv_isN)
  | (with_reducible exact rv_isnN)
  | (with_reducible exact rv_eqS rfl)
  | (with_reducible exact rv_neS rfl)
  | (with_reducible exact rv_inStr)
  | (with_reducible exact rv_ninStr)
  | (with_reducible exact rv_mod (by first | decide | omega | assumption))
  | (with_reducible exact rv_div (by first | decide | omega | assumption))
  | (with_reducible exact rv_pow (by decide))
  | (with_reducible refine ed_i ?_; done)
  | (with_reducible exact ea_nil)
  | (with_reducible refine ea_cons ?_ ?_)
  | (with_reducible exact eds_nil)
  | (with_reducible refine eds_cons ?_ ?_)
  | (with_reducible exact ed_dnew)
  | (with_reducible refine ed_lst ?_ (by simp only [List.length_cons, List.length_nil]; omega))
  | (with_reducible refine ed_tup ?_ (by simp only [List.length_cons, List.length_nil]; omega)))))
namespace Z
open PySem PySem.Spec PyProof.Rows L2 Evl
/-! ### numbers written, values read -/
def figs (i : Int) : List Nat := if i < 0 then 45 :: TL.numL i.natAbs else TL.numL i.natAbs
theorem tl_ofString_app (a b : String) : Str.ofString (a ++ b) = Str.ofString a ++ Str.ofString b := by
  rw [Str.ofString_eq_toList, Str.ofString_eq_toList, Str.ofString_eq_toList]
  show (⟨_⟩ : Str) = ⟨_ ++ _⟩
  rw [String.toList_append, List.map_append]
  simp
theorem str_figs (i : Int) : Str.ofString (toString i) = SX.S (figs i) := by
  cases i with
  | ofNat n =>
    show Str.ofString (toString ((n : Nat) : Int)) = _
    rw [SX.num_S]
    unfold figs
    rw [if_neg (show ¬ Int.ofNat n < 0 from Int.not_lt.mpr (Int.ofNat_nonneg n))]
    rfl
  | negSucc n =>
    have e : toString (Int.negSucc n) = "-" ++ toString ((n + 1 : Nat) : Int) := rfl
    rw [e, tl_ofString_app, SX.num_S]
    unfold figs
    rw [if_pos (by omega)]
    show SX.S [45] ++ SX.S (TL.numL (n + 1)) = SX.S (45 :: TL.numL (n + 1))
    rw [SX.S_cat]
    rfl
def digit (c : Nat) : Bool := decide (c ∈ ("0123456789" : Str).cps.toList)
theorem digit_iff (c : Nat) : digit c = true ↔ 48 ≤ c ∧ c ≤ 57 := by
  unfold digit
  rw [decide_eq_true_iff]
  have e : ("0123456789" : Str).cps.toList = [48, 49, 50, 51, 52, 53, 54, 55, 56, 57] := by decide +kernel
  rw [e]
  simp only [List.mem_cons, List.not_mem_nil, or_false]
  omega
theorem numL_head : ∀ n : Nat, 0 < n → (TL.numL n).head? ≠ some 48 := by
  intro n
  induction n using Nat.strongRecOn with
  | _ n ih =>
    intro h
    by_cases h1 : n < 10
    · rw [TL.numL_lt h1]
      show some (48 + n) ≠ some 48
      intro q
      have := Option.some.inj q
      omega
    · rw [TL.numL_step (by omega)]
      have := ih (n / 10) (by omega) (by omega)
      cases q : TL.numL (n / 10) with
      | nil => exact absurd q (TL.numL_ne _)
      | cons a r =>
        rw [q] at this
        exact this
/-- the number that a text writes -/
def figsOf (cs : List Nat) : List Nat := if cs.take 1 = [45] then cs.drop 1 else cs
def wholeS (cs : List Nat) : Option Int :=
  if (1 ≤ (figsOf cs).length ∧ (figsOf cs).length ≤ 60) ∧ (figsOf cs).all digit = true then
    if (figsOf cs).head? = some 48 ∧ cs ≠ [48] then none else some (if cs.take 1 = [45] then -(NumText.digitsVal (figsOf cs) : Int) else NumText.digitsVal (figsOf cs))
  else none
def wholeD : PyData → Option Int
  | .str z => wholeS z.cps.toList
  | _ => none
def optD : Option Int → PyData
  | some i => .int i
  | none => .none
theorem whole_figs {i : Int} (h : -(10 ^ 60) < i ∧ i < 10 ^ 60) : wholeS (figs i) = some i := by
  have hn : i.natAbs < 10 ^ 60 := by omega
  have hl := TL.numL_len (n := i.natAbs) (k := 60) (by decide) hn
  have h1 : 1 ≤ (TL.numL i.natAbs).length := by
    cases q : TL.numL i.natAbs with
    | nil => exact absurd q (TL.numL_ne _)
    | cons a r => simp
  have ha : (TL.numL i.natAbs).all digit = true := List.all_eq_true.mpr fun c hc => (digit_iff c).mpr (TL.numL_digits _ c hc)
  have n45 : ∀ r, (TL.numL i.natAbs).take 1 ≠ 45 :: r := fun r q => by
    have : (45 : Nat) ∈ TL.numL i.natAbs := List.mem_of_mem_take (by rw [q]; exact List.mem_cons_self)
    have := TL.numL_digits _ _ this
    omega
  unfold wholeS
  by_cases hs : i < 0
  · have e : figs i = 45 :: TL.numL i.natAbs := if_pos hs
    have ef : figsOf (figs i) = TL.numL i.natAbs := by rw [e]; rfl
    rw [ef, if_pos ⟨⟨h1, hl⟩, ha⟩, if_neg (fun q => numL_head _ (by omega) q.1), e, if_pos (show List.take 1 (45 :: TL.numL i.natAbs) = [45] from rfl), TL.numL_val]
    congr 1
    omega
  · have e : figs i = TL.numL i.natAbs := if_neg hs
    have ef : figsOf (figs i) = TL.numL i.natAbs := by rw [e]; exact if_neg (n45 [])
    rw [ef, if_pos ⟨⟨h1, hl⟩, ha⟩, e, if_neg (n45 []), TL.numL_val, if_neg]
    · congr 1
      omega
    · rintro ⟨q1, q2⟩
      by_cases z : i = 0
      · subst z
        exact q2 rfl
      · exact numL_head _ (by omega) q1
theorem whole_int {cs : List Nat} {i : Int} (h : wholeS cs = some i) : PySem.intText? (SX.S cs) = some i ∧ (SX.S cs).length ≤ 640 := by
  unfold wholeS at h
  split at h
  · rename_i h1
    obtain ⟨⟨l1, l2⟩, ha⟩ := h1
    split at h
    · cases h
    · have h := Option.some.inj h
      have hd : NumText.AllDigits (figsOf cs) := fun c hc => (digit_iff c).mp (List.all_eq_true.mp ha c hc)
      have hne : figsOf cs ≠ [] := fun q => by rw [q] at l1; simp at l1
      by_cases hs : cs.take 1 = [45]
      · have ef : figsOf cs = cs.drop 1 := if_pos hs
        rw [if_pos hs] at h
        have ec : cs = 45 :: cs.drop 1 := by
          cases cs with
          | nil => cases hs
          | cons a r =>
            have : a = 45 := by simpa using hs
            rw [this]
            rfl
        rw [ef] at h hd hne l2
        have lc : (SX.S cs).length ≤ 61 := by rw [SX.S_len, ec, List.length_cons]; omega
        exact ⟨by rw [← h]; exact intText_neg (x := SX.S cs) (show (SX.S cs).cps.toList = 45 :: cs.drop 1 from ec) hd hne (by omega), by omega⟩
      · have ef : figsOf cs = cs := if_neg hs
        rw [if_neg hs] at h
        rw [ef] at h hd hne l2
        have lc : (SX.S cs).length ≤ 60 := by rw [SX.S_len]; omega
        exact ⟨by rw [← h]; exact intText_digits (x := SX.S cs) hd hne (by omega), by omega⟩
  · cases h
theorem whole_none {cs : List Nat} {c : Nat} (h : c ∈ cs) (h1 : c ≠ 45) (h2 : ¬ (48 ≤ c ∧ c ≤ 57)) : wholeS cs = none := by
  unfold wholeS
  rw [if_neg]
  rintro ⟨-, ha⟩
  have : c ∈ figsOf cs := by
    unfold figsOf
    split
    · rename_i hs
      cases cs with
      | nil => cases h
      | cons a r =>
        have : a = 45 := by simpa using hs
        subst this
        exact (List.mem_cons.mp h).resolve_left h1
    · exact h
  exact h2 ((digit_iff c).mp (List.all_eq_true.mp ha c this))
theorem cut_from (l : List Nat) : cutS (SX.S l) (some 1) none = SX.S (l.drop 1) := by
  have e : (SX.S l).length = l.length := SX.S_len l
  cases l with
  | nil => rfl
  | cons a r =>
    unfold cutS
    rw [show (some (1 : Int)) = some ((1 : Nat) : Int) from rfl, HT.sIx_nat, e, Nat.min_eq_left (by simp)]
    show SX.S (((a :: r).drop 1).take ((a :: r).length - 1)) = _
    rw [List.take_of_length_le]
    rw [List.length_drop]
    exact Nat.le_refl _
def tUpper : TE → TE := tM0 (fun x xs H Q => ∃ a, x = .str a ∧ xs = [] ∧ a.length ≤ 5592405 ∧ Q (.str (Txt.upper a)) H)
section
variable {K : PySem.W.Frag} {A : Cn → Addr} {H H' : Hp} {Q : VK} {E : XK} {vs : List V} {σ : L2.St} {ta te tx tb : TE} {D : Ends} {tz tu : TS}
theorem ev_upper {z : Str} (h : Ev te σ H (.str z)) (hz : z.length ≤ 100000) : Ev (tUpper te) σ H (.str (Txt.upper z)) := fun H1 e Q q =>
  h H1 e _ fun H2 e2 => ⟨⟨z, rfl⟩, z, rfl, rfl, by omega, q H2 e2⟩
/-- all([sign in w for sign in z]) -/
theorem ev_allIn {z w : Str} {i j : Nat} (hi : σ[i]? = some (some (V.str z))) (hij : i ≠ j) (hj : j < σ.length) (hz : z.length ≤ 30000) : Ev (tCB (rAll K) (tCons (tLc (iStr (tVar i)) (gName j) tYes (tOp (rInA K) (tVar j) (tC (.str w))) [j]) tNil)) σ H (.bl (z.cps.toList.all fun c => decide (c ∈ w.cps.toList))) := by
  have zl : z.length = z.cps.size := rfl
  have E1 : given z.cps.size (fun _ => true) (fun i => .bl (decide (z.cps.toList.getD i 0 ∈ w.cps.toList))) = (z.cps.toList.map fun c => decide (c ∈ w.cps.toList)).map V.bl := by
    unfold given
    rw [List.filter_eq_self.mpr (fun _ _ => rfl), List.map_map]
    apply List.ext_getElem?
    intro i
    rw [List.getElem?_map, List.getElem?_map]
    by_cases hi : i < z.cps.size
    · have hi2 : i < z.cps.toList.length := by simpa using hi
      have e : z.cps.toList[i]? = some (z.cps.toList.getD i 0) := by
        rw [List.getD_eq_getElem?_getD, List.getElem?_eq_getElem hi2]
        rfl
      rw [List.getElem?_range hi, e]
      rfl
    · rw [List.getElem?_eq_none (by simpa using hi), List.getElem?_eq_none (by simpa using hi)]
      rfl
  have wl : (wipe σ [j]).length = σ.length := by simp [wipe]
  refine ev_is (ev_all (bs := z.cps.toList.map fun c => decide (c ∈ w.cps.toList)) ?_) ?_
  · rw [← E1]
    refine el_lcS (fun _ => true) _ (ev_var hi) (by omega) (fun x => ?_) (fun i c H2 e2 hc => ?_) (fun i c H2 e2 hc _ => ?_)
    · simp [wipe]
    · exact fun H3 _ Q q => q H3 (Ex.refl H3)
    · refine ev_is (ev_op (ev_var (List.getElem?_set_self (by rw [wl]; exact hj))) ev_c rv_inStr) ?_
      have : z.cps.toList.getD i 0 = c := by
        rw [List.getD_eq_getElem?_getD, Array.getElem?_toList, hc]
        rfl
      rw [this]
  · rw [List.all_map]
    rfl
end
end Z

set_option Elab.async false
set_option linter.all false
set_option autoImplicit false
set_option maxRecDepth 100000
set_option maxHeartbeats 4000000
/-! ev: what an expression comes to, by its form -/
local macro_rules | `(tactic| k_places) => `(tactic| (repeat' (first
  | (with_reducible exact ev_c)
  | (with_reducible exact ev_var rfl)
  | (with_reducible refine ev_chainLL ?_ ?_ ?_)
  | (with_reducible refine ev_chainLt ?_ ?_ ?_)
  | (with_reducible refine ev_op ?_ ?_ ?_)
  | (with_reducible refine ev_neg ?_)
  | (with_reducible refine et_test ?_)
  | (with_reducible refine et_B ?_)
  | (with_reducible refine et_not ?_)
  | (with_reducible refine et_and ?_ (fun _ => ?_))
  | (with_reducible refine et_or ?_ (fun _ => ?_))
  | (with_reducible refine ev_andV ?_ (fun _ => ?_))
  | (with_reducible refine ev_orV ?_ (fun _ => ?_))
  | (with_reducible refine ev_notV ?_)
  | (with_reducible exact rv_addI)
  | (with_reducible exact rv_subI)
  | (with_reducible exact rv_lt)
  | (with_reducible exact rv_le)
  | (with_reducible exact rv_gt)
  | (with_reducible exact rv_ge)
  | (with_reducible exact rv_isB)
  | (with_reducible exact rv_isnB)
  | (with_reducible exact rv_isN)
  | (with_reducible exact rv_isnN)
  | (with_reducible exact rv_eqS rfl)
  | (with_reducible exact rv_neS rfl)
  | (with_reducible exact rv_inStr)
  | (with_reducible exact rv_ninStr)
  | (with_reducible exact rv_mod (by first | decide | omega | assumption))
  | (with_reducible exact rv_div (by first | decide | omega | assumption))
  | (with_reducible exact rv_pow (by decide))
  | (with_reducible refine ed_i ?_; done)
  | (with_reducible exact ea_nil)
  | (with_reducible refine ea_cons ?_ ?_)
  | (with_reducible exact eds_nil)
  | (with_reducible refine eds_cons ?_ ?_)
  | (with_reducible exact ed_dnew)
  | (with_reducible refine ed_lst ?_ (by simp only [List.length_cons, List.length_nil]; omega))
  | (with_reducible refine ed_tup ?_ (by simp only [List.length_cons, List.length_nil]; omega)))))
--TDEFS whole_of show_value read_value _law_word _law_value _law_digits _law_bad _law_refused law
namespace Z
open PySem PySem.Spec PyProof.Rows L2 Evl
def sp_whole_of (K : PySem.W.Frag) : Sp := sp1 short fun d => optD (wholeD d)
def showS : PyData → Str
  | .int i => SX.S (figs i)
  | .tuple [_, .str w] => "!" ++ w
  | _ => ""
def sp_show_value (K : PySem.W.Frag) : Sp := fun vs H Q _ => ∃ v d, vs = [v] ∧ Dt H v d ∧ isValueD d = true ∧ RetV (.str (showS d)) H Q
def restD (z : Str) : PyData := .str (cutS z (some 1) none)
def readD : PyData → Option PyData
  | .str z => if (decide (cutS z none (some 1) = ("!" : Str)) && isNameD (restD z)) = true then some (faultD (restD z)) else (wholeD (.str z)).map .int
  | _ => none
def sp_read_value (K : PySem.W.Frag) (A : Cn → Addr) : Sp := fun vs H Q E => ∃ v d, vs = [v] ∧ Dt H v d ∧ short d ∧ (∀ r, readD d = some r → RetD r H Q) ∧ (readD d = none → ∀ H1, Ex H H1 → E (.ref (A .NoValue)) none H1)
def sp_law_word (K : PySem.W.Frag) : Sp := fun vs H Q _ => ∃ (l : Addr) (ns : List Int), vs = [.ref l] ∧ SqL K H l (ns.map V.int) ∧ ∀ z, isName z = true → RetV (.str z) H Q
def sp_law_value (K : PySem.W.Frag) : Sp := fun vs H Q _ => ∃ (l : Addr) (ns : List Int) (z : Str), vs = [.ref l, .str z] ∧ SqL K H l (ns.map V.int) ∧ isName z = true ∧ ∀ d, isValueD d = true → (d = .tuple [.str "fault", .str z] ∨ ∃ i, d = .int i) → RetD d H Q
def sp_law_digits (K : PySem.W.Frag) : Sp := fun vs H Q _ => ∃ i : Int, vs = [.int i] ∧ (-(10 ^ 60) < i ∧ i < 10 ^ 60) ∧ RetV (.str (SX.S (figs i))) H Q
def sp_law_bad (K : PySem.W.Frag) : Sp := fun vs H Q _ => ∃ (l : Addr) (ns : List Int) (z : Str), vs = [.ref l, .str z] ∧ SqL K H l (ns.map V.int) ∧ isName z = true ∧ ∀ d, readD d = none → short d → RetD d H Q
def sp_law_refused (K : PySem.W.Frag) (A : Cn → Addr) : Sp := fun vs H Q _ => ∃ v d, vs = [v] ∧ Dt H v d ∧ short d ∧ readD d = none ∧ RetV (.bl true) H Q
def spLaw (K : PySem.W.Frag) : Sp := fun vs H Q _ => ∃ (a : Addr) (ns : List Int), vs = [.ref a] ∧ SqL K H a (ns.map V.int) ∧ ns.length ≤ 63 ∧ ∀ H', Q (.bl true) H'
abbrev Lk : List Cn := [.Nobody, .NoBack, .NoColumn, .NoPlace, .NoRow, .NoSize, .NoTable, .NoText, .NoName, .Ring, .Ruled, .Several, .NoValue, .TooMuch]
def t_whole_of (K : PySem.W.Frag) (E : XK) : TS :=
  tSeq (tIfS (tNot (tB (tCB (rIsiA K) (tCons (tVar 0) (tCons (tC (.ty "str")) tNil))))) (tRet (tC .non)) tNext)
    (tSeq (tAsg (tVar 0) (gName 1))
    (tSeq (tIfS (tTest (tOp (rEqA K) (tSl (rSlA K) (tVar 0) tNoPart (tPart (tC (.int 1)))) (tC (.str "-")))) (tAsg (tSl (rSlA K) (tVar 0) (tPart (tC (.int 1))) tNoPart) (gName 1)) tNext)
    (tSeq (tIfS (tOr (tNot (tTest (tChain rLeA rLeA (tC (.int 1)) (tCB (rLenA K) (tCons (tVar 1) tNil)) (tC (.int 60))))) (tNot (tB (tCB (rAll K) (tCons (tLc (iStr (tVar 1)) (gName 2) tYes (tOp (rInA K) (tVar 2) (tC (.str "0123456789"))) [2]) tNil))))) (tRet (tC .non)) tNext)
    (tSeq (tIfS (tAnd (tTest (tOp (rEqA K) (tOp (rIxA K) (tVar 1) (tC (.int 0))) (tC (.str "0")))) (tTest (tOp (rNeA K) (tVar 0) (tC (.str "0"))))) (tRet (tC .non)) tNext)
    (tRet (tCB rIntA (tCons (tVar 0) tNil)))))))
def t_show_value (K : PySem.W.Frag) (E : XK) : TS :=
  tSeq (tIfS (tB (tCallS (sp_is_fault K) (WE (fun cls d _ H => E cls d H)) (tCons (tVar 0) tNil))) (tRet (tOp (rAddA K) (tC (.str "!")) (tOp (rIxA K) (tVar 0) (tC (.int 1))))) tNext)
    (tRet (tCB rStrA (tCons (tVar 0) tNil)))
def t_read_value (K : PySem.W.Frag) (A : Cn → Addr) (E : XK) : TS :=
  tSeq (tIfS (tAnd (tB (tCB (rIsiA K) (tCons (tVar 0) (tCons (tC (.ty "str")) tNil)))) (tAnd (tTest (tOp (rEqA K) (tSl (rSlA K) (tVar 0) tNoPart (tPart (tC (.int 1)))) (tC (.str "!")))) (tB (tCallS (sp_is_name K) (WE (fun cls d _ H => E cls d H)) (tCons (tSl (rSlA K) (tVar 0) (tPart (tC (.int 1))) tNoPart) tNil))))) (tRet (tTup (tCons (tC (.str "fault")) (tCons (tSl (rSlA K) (tVar 0) (tPart (tC (.int 1))) tNoPart) tNil)))) tNext)
    (tSeq (tAsg (tCallS (sp_whole_of K) (WE (fun cls d _ H => E cls d H)) (tCons (tVar 0) tNil)) (gName 1))
    (tSeq (tIfS (tTest (tOp rIsA (tVar 1) (tC .non))) (tRaiseA (fun cls d _ H => E cls d H) (A .NoValue)) tNext)
    (tRet (tVar 1))))
def t_law_word (K : PySem.W.Frag) (E : XK) : TS :=
  tSeq (tAsg (tLst tNil) (gName 1))
    (tSeq (tFor (iRng1 (tCons (tOp (rAddA K) (tC (.int 1)) (tOp rModA (tCallS (sp_law_cell K) (WE (fun cls d _ H => E cls d H)) (tCons (tVar 0) (tCons (tC (.int 2)) tNil))) (tC (.int 8)))) tNil)) (gName 2) (tDrop (tBM K "list" rAppend (tVar 1) (tCons (tOp (rIxA K) (tC (.str "abcdefghijklmnopqrstuvwxyz")) (tOp rModA (tOp rDivA (tCallS (sp_law_cell K) (WE (fun cls d _ H => E cls d H)) (tCons (tVar 0) (tCons (tOp (rAddA K) (tC (.int 6)) (tVar 2)) tNil))) (tC (.int 3))) (tC (.int 26)))) tNil))))
    (tRet (tJoin K (tC (.str "")) (tVar 1))))
def t_law_value (K : PySem.W.Frag) (E : XK) : TS :=
  tSeq (tAsg (tCallS (sp_law_cell K) (WE (fun cls d _ H => E cls d H)) (tCons (tVar 0) (tCons (tC (.int 0)) tNil))) (gName 2))
    (tSeq (tAsg (tOp rSubA (tOp rPowA (tC (.int 10)) (tC (.int 60))) (tC (.int 1))) (gName 3))
    (tSeq (tAsg (tOp rModA (tCallS (sp_law_cell K) (WE (fun cls d _ H => E cls d H)) (tCons (tVar 0) (tCons (tC (.int 1)) tNil))) (tC (.int 6))) (gName 4))
    (tSeq (tIfS (tTest (tOp (rEqA K) (tVar 4) (tC (.int 0)))) (tRet (tTup (tCons (tC (.str "fault")) (tCons (tVar 1) tNil)))) tNext)
    (tSeq (tIfS (tTest (tOp (rEqA K) (tVar 4) (tC (.int 1)))) (tRet (tOp rModA (tVar 2) (tC (.int 10)))) tNext)
    (tSeq (tIfS (tTest (tOp (rEqA K) (tVar 4) (tC (.int 2)))) (tRet (tOp rSubA (tOp rModA (tVar 2) (tC (.int 1999999999))) (tC (.int 999999999)))) tNext)
    (tSeq (tIfS (tTest (tOp (rEqA K) (tVar 4) (tC (.int 3)))) (tRet (tOp (rIxA K) (tLst (tCons (tVar 3) (tCons (tOp rSubA (tC (.int 0)) (tVar 3)) (tCons (tC (.int 0)) tNil)))) (tOp rModA (tVar 2) (tC (.int 3))))) tNext)
    (tRet (tOp rSubA (tOp rModA (tVar 2) (tOp (rAddA K) (tOp (rMulA K) (tC (.int 2)) (tVar 3)) (tC (.int 1)))) (tVar 3)))))))))
def t_law_digits (K : PySem.W.Frag) (E : XK) : TS :=
  tSeq (tAsg (tC (.str "")) (gName 1))
    (tSeq (tAsg (tCB rAbsA (tCons (tVar 0) tNil)) (gName 2))
    (tSeq (tWhile (tTest (tOp rGtA (tVar 2) (tC (.int 0)))) (tSeq (tAsg (tOp (rAddA K) (tOp (rIxA K) (tC (.str "0123456789")) (tOp rModA (tVar 2) (tC (.int 10)))) (tVar 1)) (gName 1))
    (tAsg (tOp rDivA (tVar 2) (tC (.int 10))) (gName 2))))
    (tSeq (tIfS (tTest (tOp (rEqA K) (tVar 1) (tC (.str "")))) (tRet (tC (.str "0"))) tNext)
    (tSeq (tIfS (tTest (tOp rLtA (tVar 0) (tC (.int 0)))) (tRet (tOp (rAddA K) (tC (.str "-")) (tVar 1))) tNext)
    (tRet (tVar 1))))))
def t_law_bad (K : PySem.W.Frag) (E : XK) : TS :=
  tSeq (tAsg (tOp (rAddA K) (tC (.int 1)) (tOp rModA (tCallS (sp_law_cell K) (WE (fun cls d _ H => E cls d H)) (tCons (tVar 0) (tCons (tC (.int 4)) tNil))) (tOp rPowA (tC (.int 10)) (tC (.int 59))))) (gName 2))
    (tSeq (tAsg (tCB rStrA (tCons (tVar 2) tNil)) (gName 3))
    (tSeq (tAsg (tLst (tCons (tC (.str "")) (tCons (tC (.str "-")) (tCons (tC (.str "!")) (tCons (tC (.str "-0")) (tCons (tOp (rAddA K) (tC (.str "0")) (tVar 3)) (tCons (tOp (rAddA K) (tC (.str "-0")) (tVar 3)) (tCons (tOp (rAddA K) (tC (.str "+")) (tVar 3)) (tCons (tOp (rAddA K) (tVar 3) (tC (.str " "))) (tCons (tOp (rAddA K) (tC (.str " ")) (tVar 3)) (tCons (tOp (rAddA K) (tVar 3) (tC (.str "a"))) (tCons (tOp (rAddA K) (tC (.str "--")) (tVar 3)) tNil)))))))))))) (gName 4))
    (tSeq (tAsg (tOp (rAddA K) (tVar 4) (tLst (tCons (tOp (rAddA K) (tOp (rAddA K) (tSl (rSlA K) (tVar 3) tNoPart (tPart (tC (.int 1)))) (tC (.str "_"))) (tVar 3)) (tCons (tOp (rAddA K) (tVar 3) (tC (.str ".0"))) (tCons (tOp (rAddA K) (tC (.str "!")) (tVar 3)) (tCons (tOp (rAddA K) (tC (.str "! ")) (tVar 1)) (tCons (tOp (rAddA K) (tOp (rAddA K) (tC (.str "!")) (tVar 1)) (tC (.str " "))) (tCons (tVar 1) tNil)))))))) (gName 4))
    (tSeq (tAsg (tOp (rAddA K) (tVar 4) (tLst (tCons (tOp (rAddA K) (tC (.str "!")) (tUpper (tVar 1))) (tCons (tOp (rAddA K) (tC (.str "!")) (tOp (rMulA K) (tVar 1) (tC (.int 9)))) (tCons (tOp (rMulA K) (tC (.str "1")) (tC (.int 61))) (tCons (tOp (rAddA K) (tC (.str "-")) (tOp (rMulA K) (tC (.str "9")) (tC (.int 61)))) (tCons (tC .non) (tCons (tVar 2) (tCons (tTup (tCons (tC (.str "fault")) (tCons (tVar 1) tNil))) tNil))))))))) (gName 4))
    (tRet (tOp (rIxA K) (tVar 4) (tOp rModA (tCallS (sp_law_cell K) (WE (fun cls d _ H => E cls d H)) (tCons (tVar 0) (tCons (tC (.int 3)) tNil))) (tC (.int 24)))))))))
def t_law_refused (K : PySem.W.Frag) (A : Cn → Addr) (E : XK) : TS :=
  tSeq (tAsg (tC .non) (gName 1))
    (tSeq (tTryK K (.ref (A .ColsError)) 2 1 (fun cls d _ H => E cls d H) (fun W => tDrop (tCallS (sp_read_value K A) (WE W) (tCons (tVar 0) tNil))))
    (tSeq (tIfS (tOr (tB (tCB (rIsX K) (tCons (tVar 1) (tCons (tC (.ref (A .Nobody))) tNil)))) (tOr (tB (tCB (rIsX K) (tCons (tVar 1) (tCons (tC (.ref (A .NoBack))) tNil)))) (tB (tCB (rIsX K) (tCons (tVar 1) (tCons (tC (.ref (A .NoColumn))) tNil)))))) (tRet (tC (.bl false))) tNext)
    (tSeq (tIfS (tOr (tB (tCB (rIsX K) (tCons (tVar 1) (tCons (tC (.ref (A .NoPlace))) tNil)))) (tOr (tB (tCB (rIsX K) (tCons (tVar 1) (tCons (tC (.ref (A .NoRow))) tNil)))) (tB (tCB (rIsX K) (tCons (tVar 1) (tCons (tC (.ref (A .NoSize))) tNil)))))) (tRet (tC (.bl false))) tNext)
    (tSeq (tIfS (tOr (tB (tCB (rIsX K) (tCons (tVar 1) (tCons (tC (.ref (A .NoTable))) tNil)))) (tOr (tB (tCB (rIsX K) (tCons (tVar 1) (tCons (tC (.ref (A .NoText))) tNil)))) (tB (tCB (rIsX K) (tCons (tVar 1) (tCons (tC (.ref (A .NoName))) tNil)))))) (tRet (tC (.bl false))) tNext)
    (tSeq (tIfS (tOr (tB (tCB (rIsX K) (tCons (tVar 1) (tCons (tC (.ref (A .Ring))) tNil)))) (tOr (tB (tCB (rIsX K) (tCons (tVar 1) (tCons (tC (.ref (A .Ruled))) tNil)))) (tB (tCB (rIsX K) (tCons (tVar 1) (tCons (tC (.ref (A .Several))) tNil)))))) (tRet (tC (.bl false))) tNext)
    (tRet (tAndV (tCB (rIsX K) (tCons (tVar 1) (tCons (tC (.ref (A .NoValue))) tNil))) (tAndV (tCB (rIsX K) (tCons (tVar 1) (tCons (tC (.ty "ValueError")) tNil))) (tNotV (tCB (rIsX K) (tCons (tVar 1) (tCons (tC (.ref (A .TooMuch))) tNil))))))))))))
def t_law (K : PySem.W.Frag) (A : Cn → Addr) (E : XK) : TS :=
  tSeq (tAsg (tCallS (sp_law_word K) (WE (fun cls d _ H => E cls d H)) (tCons (tVar 0) tNil)) (gName 1))
    (tSeq (tAsg (tCallS (sp_law_value K) (WE (fun cls d _ H => E cls d H)) (tCons (tVar 0) (tCons (tVar 1) tNil))) (gName 2))
    (tSeq (tAsg (tOp (rAddA K) (tC (.str "!")) (tVar 1)) (gName 3))
    (tSeq (tIfS (tB (tCB (rIsiA K) (tCons (tVar 2) (tCons (tC (.ty "int")) tNil)))) (tAsg (tCallS (sp_law_digits K) (WE (fun cls d _ H => E cls d H)) (tCons (tVar 2) tNil)) (gName 3)) tNext)
    (tSeq (tAsg (tCallS (sp_show_value K) (WE (fun cls d _ H => E cls d H)) (tCons (tVar 2) tNil)) (gName 4))
    (tSeq (tIfS (tOr (tNot (tB (tCB (rIsiA K) (tCons (tVar 4) (tCons (tC (.ty "str")) tNil))))) (tTest (tOp (rNeA K) (tVar 4) (tVar 3)))) (tRet (tC (.bl false))) tNext)
    (tSeq (tAsg (tIf (tTest (tOp (rEqA K) (tVar 2) (tOp rSubA (tC (.int 0)) (tC (.int 7))))) (tC (.int 5)) (tOp rSubA (tC (.int 0)) (tC (.int 7)))) (gName 5))
    (tSeq (tIfS (tOr (tTest (tOp (rNeA K) (tCallS (sp_show_value K) (WE (fun cls d _ H => E cls d H)) (tCons (tVar 5) tNil)) (tOp (rIxA K) (tLst (tCons (tC (.str "5")) (tCons (tC (.str "-7")) tNil))) (tCB rIntA (tCons (tOp rLtA (tVar 5) (tC (.int 0))) tNil))))) (tTest (tOp (rNeA K) (tCallS (sp_show_value K) (WE (fun cls d _ H => E cls d H)) (tCons (tVar 2) tNil)) (tVar 3)))) (tRet (tC (.bl false))) tNext)
    (tSeq (tAsg (tCallS (sp_read_value K A) (WE (fun cls d _ H => E cls d H)) (tCons (tVar 3) tNil)) (gName 6))
    (tSeq (tIfS (tOr (tB (tCB (rIsiA K) (tCons (tVar 6) (tCons (tC (.ty "bool")) tNil)))) (tOr (tTest (tOp (rNeA K) (tCB (rIsiA K) (tCons (tVar 6) (tCons (tC (.ty "int")) tNil))) (tCB (rIsiA K) (tCons (tVar 2) (tCons (tC (.ty "int")) tNil))))) (tTest (tOp (rNeA K) (tVar 6) (tVar 2))))) (tRet (tC (.bl false))) tNext)
    (tRet (tAndV (tCallS (sp_law_refused K A) (WE (fun cls d _ H => E cls d H)) (tCons (tCallS (sp_law_bad K) (WE (fun cls d _ H => E cls d H)) (tCons (tVar 0) (tCons (tVar 1) tNil))) tNil)) (tOp (rEqA K) (tCallS (sp_read_value K A) (WE (fun cls d _ H => E cls d H)) (tCons (tVar 3) tNil)) (tVar 2)))))))))))))

section
variable {K : PySem.W.Frag} {A : Cn → Addr}
theorem len_whole_of (vs : List V) (H : Hp) (Q : VK) (E : XK) (h : sp_whole_of K vs H Q E) : vs.length = 1 := by obtain ⟨_, _, rfl, _⟩ := sp1_open h; rfl
theorem len_show_value (vs : List V) (H : Hp) (Q : VK) (E : XK) (h : sp_show_value K vs H Q E) : vs.length = 1 := by obtain ⟨_, _, rfl, _⟩ := h; rfl
theorem len_read_value (vs : List V) (H : Hp) (Q : VK) (E : XK) (h : sp_read_value K A vs H Q E) : vs.length = 1 := by obtain ⟨_, _, rfl, _⟩ := h; rfl
theorem len_law_word (vs : List V) (H : Hp) (Q : VK) (E : XK) (h : sp_law_word K vs H Q E) : vs.length = 1 := by obtain ⟨_, _, rfl, _⟩ := h; rfl
theorem len_law_value (vs : List V) (H : Hp) (Q : VK) (E : XK) (h : sp_law_value K vs H Q E) : vs.length = 2 := by obtain ⟨_, _, _, rfl, _⟩ := h; rfl
theorem len_law_digits (vs : List V) (H : Hp) (Q : VK) (E : XK) (h : sp_law_digits K vs H Q E) : vs.length = 1 := by obtain ⟨_, rfl, _⟩ := h; rfl
theorem len_law_bad (vs : List V) (H : Hp) (Q : VK) (E : XK) (h : sp_law_bad K vs H Q E) : vs.length = 2 := by obtain ⟨_, _, _, rfl, _⟩ := h; rfl
theorem len_law_refused (vs : List V) (H : Hp) (Q : VK) (E : XK) (h : sp_law_refused K A vs H Q E) : vs.length = 1 := by obtain ⟨_, _, rfl, _⟩ := h; rfl
theorem len_law (vs : List V) (H : Hp) (Q : VK) (E : XK) (h : spLaw K vs H Q E) : vs.length = 1 := by obtain ⟨_, _, rfl, _⟩ := h; rfl
theorem dec_str {a b : Str} : decide (V.str a = V.str b) = decide (a = b) := decide_eq_decide.mpr ⟨fun h => V.str.inj h, fun h => by rw [h]⟩
theorem S_dash (l : List Nat) : (SX.S l = ("-" : Str)) ↔ l = [45] := ⟨fun h => SX.S_inj (b := [45]) h, fun h => by rw [h]; rfl⟩
theorem r_whole_of (vs : List V) (H : Hp) (Q : VK) (E : XK) (h : sp_whole_of K vs H Q E) : t_whole_of K E { nx := fun _ H' => Q .non H', rt := Q } (L2.start ["word", "figures", "sign"] vs) H := by
  obtain ⟨v, d, rfl, r, hs, k⟩ := sp1_open h
  unfold t_whole_of
  by_cases hz : ∃ z, d = .str z
  · obtain ⟨z, rfl⟩ := hz
    obtain rfl := r.s
    have hs : z.length ≤ 30000 := hs
    obtain ⟨cs, rfl⟩ : ∃ cs, z = SX.S cs := ⟨z.cps.toList, (SX.S_tl z).symm⟩
    have ecs : (SX.S cs).cps.toList = cs := rfl
    have lcs : cs.length ≤ 30000 := by rw [SX.S_len] at hs; exact hs
    have lfs : (figsOf cs).length ≤ 30000 := by unfold figsOf; split <;> (try rw [List.length_drop]) <;> omega
    refine q_when (b := false) (et_not (a := true) (et_B (ev_isD (ed_var rfl r)))) (fun hb => nomatch hb) fun _ H1 e1 => ?_
    refine q_asg (ev_var rfl) fun H2 e2 => ?_
    refine q_ifAsg (b := decide (cs.take 1 = [45])) (v := .str (SX.S (figsOf cs))) (et_is (et_test (ev_op (ev_is (ev_slS (ev_var rfl) eo_none (eo_some ev_c) (by omega)) (by rw [show (some (1 : Int)) = some ((1 : Nat) : Int) from rfl, cut_to])) ev_c (rv_eqS rfl))) (by rw [dec_str]; exact decide_eq_decide.mpr (S_dash _))) (fun hb => ?_) (fun hb => ?_) fun H3 e3 => ?_
    · have hb := of_decide_eq_true hb
      refine ev_is (ev_slS (ev_var rfl) (eo_some ev_c) eo_none (by omega)) ?_
      rw [cut_from]
      unfold figsOf
      rw [if_pos hb]
    · have hb := of_decide_eq_false hb
      unfold figsOf
      rw [if_neg hb]
      rfl
    have E3 := (e1.trans e2).trans e3
    show tSeq _ _ _ [some (.str (SX.S cs)), some (.str (SX.S (figsOf cs))), none] H3
    refine q_when (b := !decide ((1 ≤ (figsOf cs).length ∧ (figsOf cs).length ≤ 60) ∧ (figsOf cs).all digit = true)) (et_is (et_or (et_not (et_test (ev_chainLL ev_c (ev_lenV (ev_var rfl) (rc_lenS (by rw [SX.S_len]; omega))) ev_c))) fun _ => et_not (et_B (ev_allIn (i := 1) (j := 2) rfl (by decide) (show 2 < 3 by decide) (by rw [SX.S_len]; exact lfs)))) ?_) (fun hb H4 e4 => ?_) (fun hb H4 e4 => ?_)
    · rw [SX.S_len]
      show (!(decide ((1 : Int) ≤ (figsOf cs).length) && decide (((figsOf cs).length : Int) ≤ 60)) || !((figsOf cs).all digit)) = _
      rw [← Bool.not_and]
      congr 1
      rw [Bool.decide_and, Bool.decide_and, Bool.decide_eq_true]
      congr 2
      · exact decide_eq_decide.mpr (by omega)
      · exact decide_eq_decide.mpr (by omega)
    · refine s_ret ev_c fun H5 e5 => ?_
      have : wholeD (.str (SX.S cs)) = none := if_neg (by have := not_eq_true_iff hb; exact of_decide_eq_false this)
      rw [this] at k
      exact k _ H5 (E3.trans (e4.trans e5)) .non
    · have hb := of_decide_eq_true (not_eq_false_iff hb)
      obtain ⟨c0, r0, hf⟩ : ∃ c0 r0, figsOf cs = c0 :: r0 := by
        cases q : figsOf cs with
        | nil => rw [q] at hb; simp at hb
        | cons a r => exact ⟨a, r, rfl⟩
      refine q_when (b := decide ((figsOf cs).head? = some 48 ∧ cs ≠ [48])) (et_is (et_and (et_test (ev_op (ev_op (ev_var rfl) ev_c (rv_itS (i := ((0 : Nat) : Int)) (by rw [SX.S_len]; omega) (atI_nat (show (figsOf cs)[0]? = some c0 by rw [hf]; rfl)))) ev_c (rv_eqS rfl))) fun _ => et_test (ev_op (ev_var rfl) ev_c (rv_neS rfl))) ?_) (fun hb2 H5 e5 => ?_) (fun hb2 H5 e5 => ?_)
      · rw [dec_str, dec_str, Bool.decide_and, hf]
        congr 1
        · exact decide_eq_decide.mpr ⟨fun h => congrArg List.head? (SX.S_inj (a := [c0]) (b := [48]) h), fun h => by have := Option.some.inj h; rw [this]; rfl⟩
        · rw [← decide_not]
          exact decide_eq_decide.mpr ⟨fun h q => h (by rw [q]; rfl), fun h q => h (SX.S_inj (b := [48]) q)⟩
      · refine s_ret ev_c fun H6 e6 => ?_
        have hb2 := of_decide_eq_true hb2
        have : wholeD (.str (SX.S cs)) = none := by
          show wholeS cs = none
          unfold wholeS
          rw [if_pos hb, if_pos hb2]
        rw [this] at k
        exact k _ H6 (E3.trans (e4.trans (e5.trans e6))) .non
      · have hb2 := of_decide_eq_false hb2
        obtain ⟨i, hi⟩ : ∃ i, wholeS cs = some i := by
          unfold wholeS
          rw [if_pos hb, if_neg hb2]
          exact ⟨_, rfl⟩
        have hw := whole_int hi
        refine s_ret (v := .int i) (ev_cb (ea_cons (ev_var rfl) ea_nil) fun H6 _ Q q => .inr (.inr ⟨SX.S cs, i, rfl, hw.1, hw.2, q H6 (Ex.refl H6)⟩)) fun H6 e6 => ?_
        have : wholeD (.str (SX.S cs)) = some i := hi
        rw [this] at k
        exact k _ H6 (E3.trans (e4.trans (e5.trans e6))) (.int i)
  · have e1 : wholeD d = none := by
      cases d <;> first | rfl | exact absurd ⟨_, rfl⟩ hz
    have e2 : isiB (kindD d) "str" = false := by
      cases d <;> first | rfl | exact absurd ⟨_, rfl⟩ hz
    refine q_when (b := true) (et_is (et_not (et_B (ev_isD (ed_var rfl r)))) (by rw [e2]; rfl)) (fun hb H1 e1' => ?_) fun hb => nomatch hb
    refine s_ret ev_c fun H2 e2 => ?_
    rw [e1] at k
    exact k _ H2 (e1'.trans e2) .non
theorem log60 {i : Int} (h : -(10 ^ 60) < i ∧ i < 10 ^ 60) : i.natAbs.log2 < 1920 := Nat.lt_trans (lt60 (by omega) (by omega)) (by decide)
theorem r_show_value (vs : List V) (H : Hp) (Q : VK) (E : XK) (h : sp_show_value K vs H Q E) : t_show_value K E { nx := fun _ H' => Q .non H', rt := Q } (L2.start ["value"] vs) H := by
  obtain ⟨v, d, rfl, r, hd, k⟩ := h
  unfold t_show_value
  rcases val_cases hd with ⟨i, rfl, hi⟩ | ⟨w, rfl, hw⟩
  · obtain rfl := r.i
    refine q_when (b := false) (et_B (ev_spB (g := isFaultD) (pre := short2) (ed_var rfl r) trivial)) (fun hb => nomatch hb) fun _ H1 e1 => ?_
    exact s_ret (v := .str (SX.S (figs i))) (ev_is (ev_cb (ea_cons (ev_var rfl) ea_nil) (rc_str (log60 hi))) (by rw [← str_figs])) fun H2 e2 => k H2 (e1.trans e2)
  · have hf : isFaultD (.tuple [.str "fault", .str w]) = true := by
      rw [isFault_pair, show isNameD (.str w) = true from hw, Bool.and_true]
      decide +kernel
    have wl := name_len hw
    refine q_when (b := true) (et_is (et_B (ev_spB (g := isFaultD) (pre := short2) (ed_var rfl r) (name_ok hw).len)) hf) (fun _ H1 e1 => ?_) fun hb => nomatch hb
    exact s_ret (v := .str ("!" ++ w)) (ev_op ev_c (ev_s (ed_ixT (i := 1) (d := .str w) (ed_var rfl (r.ex e1)) ev_c rfl)) (rv_addS (by rw [show ("!" : Str).length = 1 by decide +kernel]; omega))) fun H2 e2 => k H2 (e1.trans e2)
theorem r_read_value (vs : List V) (H : Hp) (Q : VK) (E : XK) (h : sp_read_value K A vs H Q E) : t_read_value K A E { nx := fun _ H' => Q .non H', rt := Q } (L2.start ["text", "number"] vs) H := by
  obtain ⟨v, d, rfl, r, hs, k1, k2⟩ := h
  unfold t_read_value
  have rest : ∀ (H1 : Hp), Ex H H1 → readD d = (wholeD d).map .int → (tSeq (tAsg (tCallS (sp_whole_of K) (WE (fun cls d _ H => E cls d H)) (tCons (tVar 0) tNil)) (gName 1))
    (tSeq (tIfS (tTest (tOp rIsA (tVar 1) (tC .non))) (tRaiseA (fun cls d _ H => E cls d H) (A .NoValue)) tNext)
    (tRet (tVar 1)))) { nx := fun _ H' => Q .non H', rt := Q } [some v, none] H1 := fun H1 e1 hw => by
    refine q_asgD (ed_sp1 (pre := short) (ed_var rfl (r.ex e1)) hs) fun w H2 e2 rw_ => ?_
    cases q : wholeD d with
    | none =>
      rw [q] at rw_
      obtain rfl := rw_.n
      refine q_when (b := true) (et_test (ev_op (ev_var rfl) ev_c rv_isN)) (fun _ H3 e3 => k2 (by rw [hw, q]; rfl) H3 ((e1.trans e2).trans e3)) fun hb => nomatch hb
    | some i =>
      rw [q] at rw_
      obtain rfl := rw_.i
      refine q_when (b := false) (et_test (ev_op (ev_var rfl) ev_c rv_isN)) (fun hb => nomatch hb) fun _ H3 e3 => ?_
      exact s_ret (ev_var rfl) fun H4 e4 => k1 (.int i) (by rw [hw, q]; rfl) _ H4 ((e1.trans e2).trans (e3.trans e4)) (.int i)
  by_cases hz : ∃ z, d = .str z
  · obtain ⟨z, rfl⟩ := hz
    obtain rfl := r.s
    have hs : z.length ≤ 30000 := hs
    have c1 := cutS_length z (some 1) none
    have sr : ∀ {σ : L2.St} {H1 : Hp}, σ[0]? = some (some (V.str z)) → EvD (tSl (rSlA K) (tVar 0) (tPart (tC (.int 1))) tNoPart) σ H1 (restD z) := fun h => ed_s (ev_slS (ev_var h) (eo_some ev_c) eo_none (by omega))
    have ssr : short (restD z) := by show (cutS z (some 1) none).length ≤ 30000; omega
    refine q_when (b := decide (cutS z none (some 1) = ("!" : Str)) && isNameD (restD z)) (et_is (et_and (et_B (ev_isD (ed_var rfl r))) fun _ => et_and (et_test (ev_op (ev_slS (ev_var rfl) eo_none (eo_some ev_c) (by omega)) ev_c (rv_eqS rfl))) fun _ => et_B (ev_spB (g := isNameD) (pre := short) (sr rfl) ssr)) (by rw [dec_str]; rfl)) (fun hb H1 e1 => ?_) (fun hb H1 e1 => ?_)
    · exact s_retD (ed_tup (eds_cons (ed_s ev_c) (eds_cons (sr rfl) eds_nil))) fun v2 H2 e2 r2 => k1 (faultD (restD z)) (if_pos hb) v2 H2 (e1.trans e2) r2
    · exact rest H1 e1 (if_neg (by rw [hb]; decide))
  · have e1 : readD d = (wholeD d).map .int := by
      cases d <;> first | rfl | exact absurd ⟨_, rfl⟩ hz
    have e2 : isiB (kindD d) "str" = false := by
      cases d <;> first | rfl | exact absurd ⟨_, rfl⟩ hz
    refine q_when (b := false) (et_is (b := false) (a := isiB (kindD d) "str" && true) (et_and (et_B (ev_isD (ed_var rfl r))) fun z => (by rw [e2] at z; cases z)) (by rw [e2]; rfl)) (fun hb => nomatch hb) fun _ H1 e1' => rest H1 e1' e1
theorem r_law_word (vs : List V) (H : Hp) (Q : VK) (E : XK) (h : sp_law_word K vs H Q E) : t_law_word K E { nx := fun _ H' => Q .non H', rt := Q } (L2.start ["script", "some", "k"] vs) H := by
  obtain ⟨l, ns, rfl, hl, k⟩ := h
  unfold t_law_word
  refine q_asgL (xs := []) (el_lst ea_nil (by decide)) fun p H3 np e3 hp => ?_
  have bn := emod_bd (cellV ns 2) (n := 8) (by decide)
  refine q_forR1 (n := 1 + cellV ns 2 % 8) (ea_cons (ev_op ev_c (ev_op (ev_cell (j := 2) (ev_var rfl) ev_c (ex_l e3 hl) (by decide)) ev_c (rv_mod (by decide))) rv_addI) ea_nil) (by omega)
    (fun i σ H4 => ∃ (kv : Option V) (cs : List Nat), σ = [some (.ref l), some (.ref p), kv] ∧ Ex H H4 ∧ H4 p = some (.lst (cs.map fun c => V.str ⟨#[c]⟩)) ∧ cs.length = i ∧ ∀ c ∈ cs, c ∈ lets)
    (fun H4 e4 => ⟨none, [], rfl, e3.trans e4, e4 p _ hp, rfl, fun _ h => nomatch h⟩) ?_ ?_
  · rintro i σ H4 hi ⟨kv, cs, rfl, e4, hp4, hc, hm⟩
    refine s_app hp4 (ev_var rfl) (ev_sign (w := "abcdefghijklmnopqrstuvwxyz") ev_c (ev_op (ev_op (ev_cell (j := 6 + i) (ev_var rfl) (ev_is (ev_op ev_c (ev_var rfl) rv_addI) rfl) (ex_l e4 hl) (by omega)) ev_c (rv_div (by decide))) ev_c (rv_mod (by decide))) (by decide +kernel) (by decide) (by decide +kernel)) (by rw [List.length_map]; omega) fun H5 e5 => ?_
    refine ⟨_, cs ++ [lets.getD (cellV ns (6 + i) / 3 % 26).toNat 0], rfl, Ex.mut (e4.trans e5) np, by rw [List.map_append]; exact upd_same, by rw [List.length_append, hc]; rfl, fun c h => ?_⟩
    rcases List.mem_append.mp h with h | h
    · exact hm c h
    · rw [List.mem_singleton.mp h]
      exact let_mem _
  · rintro σ H4 ⟨kv, cs, rfl, e4, hp4, hc, hm⟩
    exact s_ret (ev_joinSigns (ev_var rfl) hp4 (by omega)) fun H5 e5 => k _ (name_of (l := cs) (by omega) (by omega) hm) H5 (e4.trans e5)
theorem r_law_value (vs : List V) (H : Hp) (Q : VK) (E : XK) (h : sp_law_value K vs H Q E) : t_law_value K E { nx := fun _ H' => Q .non H', rt := Q } (L2.start ["script", "word", "cell", "far", "way"] vs) H := by
  obtain ⟨l, ns, z, rfl, hl, hz, k⟩ := h
  unfold t_law_value
  refine q_asg (ev_cell (j := 0) (ev_var rfl) ev_c hl (by decide)) fun H1 e1 => ?_
  refine q_asg (v := .int (10 ^ 60 - 1)) (ev_is (ev_op (ev_op ev_c ev_c (rv_pow (by decide))) ev_c rv_subI) rfl) fun H2 e2 => ?_
  refine q_asg (ev_op (ev_cell (j := 1) (ev_var rfl) ev_c (ex_l (e1.trans e2) hl) (by decide)) ev_c (rv_mod (by decide))) fun H3 e3 => ?_
  generalize cellV ns 0 = c
  have E3 := (e1.trans e2).trans e3
  have k1 : ∀ {H4 : Hp} {i : Int}, Ex H3 H4 → (-(10 ^ 60) < i ∧ i < 10 ^ 60) → RetD (.int i) H4 Q := fun e hi v H5 e5 r => k _ (val_int hi) (.inr ⟨_, rfl⟩) v H5 (E3.trans (e.trans e5)) r
  refine q_when (et_test (ev_op (ev_var rfl) ev_c (rv_eqS rfl))) (fun _ H4 e4 => ?_) (fun _ H4 e4 => ?_)
  · exact s_retD (ed_tup (eds_cons (ed_s ev_c) (eds_cons (ed_s (ev_var rfl)) eds_nil))) fun v H5 e5 r => k _ (val_flt hz) (.inl rfl) v H5 (E3.trans (e4.trans e5)) r
  refine q_when (et_test (ev_op (ev_var rfl) ev_c (rv_eqS rfl))) (fun _ H5 e5 => ?_) (fun _ H5 e5 => ?_)
  · have b := emod_bd c (n := 10) (by decide)
    exact s_retD (ed_i (ev_op (ev_var rfl) ev_c (rv_mod (by decide)))) (k1 (e4.trans e5) (by omega))
  refine q_when (et_test (ev_op (ev_var rfl) ev_c (rv_eqS rfl))) (fun _ H6 e6 => ?_) (fun _ H6 e6 => ?_)
  · have b := emod_bd c (n := 1999999999) (by decide)
    exact s_retD (ed_i (ev_op (ev_op (ev_var rfl) ev_c (rv_mod (by decide))) ev_c rv_subI)) (k1 ((e4.trans e5).trans e6) (by omega))
  refine q_when (et_test (ev_op (ev_var rfl) ev_c (rv_eqS rfl))) (fun _ H7 e7 => ?_) (fun _ H7 e7 => ?_)
  · have hd := getD_mem (d := PyData.none) (emod_lt_len (l := ([.int (10 ^ 60 - 1), .int (0 - (10 ^ 60 - 1)), .int 0] : List PyData)) c (n := 3) rfl (by decide))
    refine s_retD (ed_ixL (d := ([.int (10 ^ 60 - 1), .int (0 - (10 ^ 60 - 1)), .int 0] : List PyData).getD (c % 3).toNat .none) (ed_lst (eds_cons (ed_i (ev_var rfl)) (eds_cons (ed_i (ev_op ev_c (ev_var rfl) rv_subI)) (eds_cons (ed_i ev_c) eds_nil)))) (ev_op (ev_var rfl) ev_c (rv_mod (by decide))) (atI_emod _ _ PyData.none (n := 3) rfl (by decide))) ?_
    generalize ([.int (10 ^ 60 - 1), .int (0 - (10 ^ 60 - 1)), .int 0] : List PyData).getD (c % 3).toNat .none = d at hd
    simp only [List.mem_cons, List.not_mem_nil, or_false] at hd
    rcases hd with rfl | rfl | rfl
    · exact k1 (((e4.trans e5).trans e6).trans e7) (by decide +kernel)
    · exact k1 (((e4.trans e5).trans e6).trans e7) (by decide +kernel)
    · exact k1 (((e4.trans e5).trans e6).trans e7) (by decide +kernel)
  · have b := emod_bd c (n := 2 * (10 ^ 60 - 1) + 1) (by decide +kernel)
    exact s_retD (ed_i (ev_op (ev_op (ev_var rfl) (ev_op (ev_op ev_c (ev_var rfl) (rv_mulI (wide_mul (a := 20) (b := 220) (by decide) (by decide +kernel) (by decide) (by decide) (by decide)))) ev_c rv_addI) (rv_mod (by decide +kernel))) (ev_var rfl) rv_subI)) (k1 (((e4.trans e5).trans e6).trans e7) (by omega))
theorem one_dash : ("-" : Str).length = 1 := by decide +kernel
theorem fig_at : ∀ d < 10, ("0123456789" : Str).cps.toList.getD d 0 = 48 + d := by decide +kernel
theorem numL_long (n : Nat) (h : n < 10 ^ 60) : (TL.numL n).length ≤ 60 := TL.numL_len (by decide) h
theorem r_law_digits (vs : List V) (H : Hp) (Q : VK) (E : XK) (h : sp_law_digits K vs H Q E) : t_law_digits K E { nx := fun _ H' => Q .non H', rt := Q } (L2.start ["number", "figures", "left"] vs) H := by
  obtain ⟨i, rfl, hi, k⟩ := h
  unfold t_law_digits
  refine q_asg (v := .str (SX.S [])) (ev_is ev_c rfl) fun H1 e1 => ?_
  refine q_asg (v := .int (i.natAbs : Int)) (ev_is (ev_cb (ea_cons (ev_var rfl) ea_nil) rc_abs) (by split <;> (congr 1; omega))) fun H2 e2 => ?_
  have hn : i.natAbs < 10 ^ 60 := by omega
  generalize hm : i.natAbs = n at hn
  refine q_while (fun m σ' H' => ∃ (fs : List Nat) (left : Nat), m = left ∧ σ' = [some (.int i), some (.str (SX.S fs)), some (.int left)] ∧ Ex H H' ∧ fs.length ≤ 100 ∧ left ≤ n ∧ (0 < left → TL.numL n = TL.numL left ++ fs) ∧ (left = 0 → n = 0 → fs = []) ∧ (left = 0 → 0 < n → fs = TL.numL n)) n ⟨[], n, rfl, by rw [← hm]; rfl, e1.trans e2, by simp, Nat.le_refl _, fun _ => by simp, fun _ _ => rfl, fun h h' => by omega⟩ ?_
  rintro m σ' H' ⟨fs, left, rfl, rfl, e3, lf, ln, h1, h2, h3⟩
  refine ⟨decide ((0 : Int) < m), et_test (ev_op (ev_var rfl) ev_c rv_gt), fun hb H4 e4 => ?_, fun hb H4 e4 => ?_⟩
  · have hb : 0 < m := by have := of_decide_eq_true hb; omega
    refine ⟨fun σ2 H2 => ∃ (fs : List Nat), σ2 = [some (.int i), some (.str (SX.S fs)), some (.int (m / 10 : Nat))] ∧ Ex H H2 ∧ fs.length ≤ 100 ∧ (0 < m / 10 → TL.numL n = TL.numL (m / 10) ++ fs) ∧ (m / 10 = 0 → n = 0 → fs = []) ∧ (m / 10 = 0 → 0 < n → fs = TL.numL n), fun σ2 H2 ⟨fs, q1, q2, q3, q4, q5, q6⟩ => ⟨m / 10, by omega, fs, m / 10, rfl, q1, q2, q3, by omega, q4, q5, q6⟩, ?_⟩
    have nl := numL_long n hn
    have lfs : fs.length + 1 ≤ 60 := by
      have := congrArg List.length (h1 hb)
      rw [List.length_append] at this
      have : 0 < (TL.numL m).length := List.length_pos_iff.mpr (TL.numL_ne m)
      omega
    refine q_asg (v := .str (SX.S ((48 + m % 10) :: fs))) (ev_is (ev_op (ev_sign (w := "0123456789") ev_c (ev_op (ev_var rfl) ev_c (rv_mod (by decide))) (by decide +kernel) (by decide) (by decide +kernel)) (ev_var rfl) (rv_addS (by rw [SX.S_len]; show 1 + fs.length ≤ 100000; omega))) ?_) fun H5 e5 => ?_
    · have : ((m : Int) % 10).toNat = m % 10 := by omega
      rw [this, fig_at _ (Nat.mod_lt _ (by decide))]
      exact congrArg V.str (SX.S_cat [48 + m % 10] fs)
    refine s_asg (v := .int ((m / 10 : Nat) : Int)) (ev_is (ev_op (ev_var rfl) ev_c (rv_div (by decide))) (by congr 1)) fun H6 e6 => ?_
    refine ⟨(48 + m % 10) :: fs, rfl, e3.trans (e4.trans (e5.trans e6)), by rw [List.length_cons]; omega, fun h => ?_, fun h h' => by omega, fun h _ => ?_⟩
    · rw [h1 hb, TL.numL_step (by omega), List.append_assoc]
      rfl
    · rw [h1 hb, TL.numL_lt (by omega), show m % 10 = m from by omega]
      rfl
  · have hb : m = 0 := by have := of_decide_eq_false hb; omega
    have E4 := e3.trans e4
    by_cases hz : n = 0
    · have : fs = [] := h2 hb hz
      subst this
      have iz : i = 0 := by omega
      refine q_when (b := true) (et_test (ev_op (ev_var rfl) ev_c (rv_eqS rfl))) (fun _ H5 e5 => ?_) fun hb => nomatch hb
      refine s_ret (v := .str (SX.S (figs i))) (ev_is ev_c (by rw [iz]; rfl)) fun H6 e6 => k H6 (E4.trans (e5.trans e6))
    · have hf : fs = TL.numL n := h3 hb (by omega)
      refine q_when (b := false) (et_is (et_test (ev_op (ev_var rfl) ev_c (rv_eqS rfl))) (by rw [dec_str]; exact decide_eq_false fun q => TL.numL_ne n (hf ▸ SX.S_inj (b := []) q))) (fun hb => nomatch hb) fun _ H5 e5 => ?_
      refine q_when (et_test (ev_op (ev_var rfl) ev_c rv_lt)) (fun hs H6 e6 => ?_) (fun hs H6 e6 => ?_)
      · have hs := of_decide_eq_true hs
        refine s_ret (v := .str (SX.S (figs i))) (ev_is (ev_op ev_c (ev_var rfl) (rv_addS (by have q1 := SX.S_len fs; have q2 := one_dash; omega))) ?_) fun H7 e7 => k H7 (E4.trans (e5.trans (e6.trans e7)))
        unfold figs
        rw [if_pos hs, hm, ← hf]
        exact congrArg V.str (SX.S_cat [45] fs)
      · have hs := of_decide_eq_false hs
        refine s_ret (v := .str (SX.S (figs i))) (ev_is (ev_var rfl) ?_) fun H7 e7 => k H7 (E4.trans (e5.trans (e6.trans e7)))
        unfold figs
        rw [if_neg hs, hm, ← hf]
/-! the texts that write no value -/
theorem read_none {cs : List Nat} (h1 : cs.take 1 ≠ [33] ∨ isName (SX.S (cs.drop 1)) = false) (h2 : wholeS cs = none) : readD (.str (SX.S cs)) = none := by
  show (if (decide (cutS (SX.S cs) none (some 1) = ("!" : Str)) && isNameD (restD (SX.S cs))) = true then _ else (wholeD (.str (SX.S cs))).map PyData.int) = none
  rw [if_neg, show wholeD (.str (SX.S cs)) = none from h2]
  · rfl
  · rw [Bool.and_eq_true]
    rintro ⟨q1, q2⟩
    have q1 := of_decide_eq_true q1
    rw [show (some (1 : Int)) = some ((1 : Nat) : Int) from rfl, cut_to] at q1
    have q2 : isName (cutS (SX.S cs) (some 1) none) = true := q2
    rw [cut_from] at q2
    rcases h1 with h1 | h1
    · exact h1 (SX.S_inj (b := [33]) q1)
    · rw [h1] at q2; cases q2
theorem name_no {l : List Nat} {c : Nat} (h : c ∈ l) (hc : c ∉ lets) : isName (SX.S l) = false := not_name (z := SX.S l) h hc
def bads (w n : List Nat) : List (List Nat) := [[], [45], [33], [45, 48], 48 :: n, 45 :: 48 :: n, 43 :: n, n ++ [32], 32 :: n, n ++ [97], 45 :: 45 :: n] ++ [n.take 1 ++ [95] ++ n, n ++ [46, 48], 33 :: n, 33 :: 32 :: w, 33 :: w ++ [32], w] ++ [33 :: w.map PyProof.Rows.up1, 33 :: (List.replicate 9 w).flatten, List.replicate 61 49, 45 :: List.replicate 61 57]
theorem bads_no {w n : List Nat} (hw : isName (SX.S w) = true) (hn : n ≠ []) (hd : NumText.AllDigits n) {cs : List Nat} (h : cs ∈ bads w n) : readD (.str (SX.S cs)) = none := by
  have wl := name_len hw
  rw [SX.S_len] at wl
  have wm : ∀ c ∈ w, c ∈ lets := fun c hc => by
    unfold isName at hw
    exact of_decide_eq_true (List.all_eq_true.mp (Bool.and_eq_true_iff.mp hw).2 c hc)
  have l97 : ∀ c ∈ lets, 97 ≤ c ∧ c ≤ 122 := by decide +kernel
  obtain ⟨n0, nr, rfl⟩ : ∃ a r, n = a :: r := by
    cases n with
    | nil => exact absurd rfl hn
    | cons a r => exact ⟨a, r, rfl⟩
  obtain ⟨w0, wr, rfl⟩ : ∃ a r, w = a :: r := by
    cases w with
    | nil => simp at wl
    | cons a r => exact ⟨a, r, rfl⟩
  have d0 := hd n0 List.mem_cons_self
  have w0l := l97 w0 (wm w0 List.mem_cons_self)
  have bad : ∀ {cs : List Nat} {c : Nat}, cs.take 1 ≠ [33] → c ∈ cs → c ≠ 45 → ¬ (48 ≤ c ∧ c ≤ 57) → readD (.str (SX.S cs)) = none := fun h1 h2 h3 h4 => read_none (.inl h1) (whole_none h2 h3 h4)
  have bang : ∀ {cs : List Nat}, isName (SX.S cs) = false → readD (.str (SX.S (33 :: cs))) = none := fun h => read_none (.inr h) (whole_none (c := 33) List.mem_cons_self (by decide) (by decide))
  have nt : ∀ {x : Nat} {r : List Nat}, x ≠ 33 → (x :: r).take 1 ≠ [33] := fun h q => h (by simpa using q)
  simp only [bads, List.mem_append, List.mem_cons, List.not_mem_nil, or_false, or_assoc] at h
  rcases h with rfl | rfl | rfl | rfl | rfl | rfl | rfl | rfl | rfl | rfl | rfl | rfl | rfl | rfl | rfl | rfl | rfl | rfl | rfl | rfl | rfl
  · exact read_none (.inl (by decide)) (by decide)
  · exact read_none (.inl (by decide)) (by decide)
  · exact bang (by decide +kernel)
  · exact read_none (.inl (by decide)) (by decide +kernel)
  · refine read_none (.inl (by simp)) ?_
    unfold wholeS
    split
    · rw [if_pos ⟨rfl, by simp⟩]
    · rfl
  · refine read_none (.inl (by simp)) ?_
    unfold wholeS
    split
    · rw [if_pos ⟨rfl, by simp⟩]
    · rfl
  · exact bad (c := 43) (by simp) List.mem_cons_self (by decide) (by decide)
  · exact bad (c := 32) (nt (by omega)) (by simp) (by decide) (by decide)
  · exact bad (c := 32) (by simp) List.mem_cons_self (by decide) (by decide)
  · exact bad (c := 97) (nt (by omega)) (by simp) (by decide) (by decide)
  · refine read_none (.inl (by simp)) ?_
    unfold wholeS
    rw [if_neg]
    rintro ⟨-, q⟩
    have := (digit_iff 45).mp (List.all_eq_true.mp q 45 (by show 45 ∈ 45 :: n0 :: nr; exact List.mem_cons_self))
    omega
  · exact bad (c := 95) (nt (by omega)) (by simp) (by decide) (by decide)
  · exact bad (c := 46) (nt (by omega)) (by simp) (by decide) (by decide)
  · exact bang (name_no (c := n0) List.mem_cons_self fun q => by have := l97 n0 q; omega)
  · exact bang (name_no (c := 32) List.mem_cons_self fun q => by have := l97 32 q; omega)
  · exact bang (name_no (c := 32) (by simp) fun q => by have := l97 32 q; omega)
  · exact bad (c := w0) (nt (by omega)) List.mem_cons_self (by omega) (by omega)
  · refine bang (name_no (c := w0 - 32) ?_ fun q => by have := l97 _ q; omega)
    rw [List.map_cons, show PyProof.Rows.up1 w0 = w0 - 32 from if_pos w0l]
    exact List.mem_cons_self
  · refine bang (not_name_len fun q => ?_)
    rw [SX.S_len, List.length_flatten, List.map_replicate, List.sum_replicate_nat] at q
    rw [List.length_cons] at q
    omega
  · exact read_none (.inl (by decide)) (by decide +kernel)
  · exact read_none (.inl (by decide)) (by decide +kernel)
theorem repS_S (l : List Nat) (n : Nat) : repS (SX.S l) (n : Int) = SX.S (List.replicate n l).flatten := rfl
def badD (w : List Nat) (n : Nat) : List PyData := ((bads w (TL.numL n)).map fun cs => PyData.str (SX.S cs)) ++ [.none, .int n, .tuple [.str "fault", .str (SX.S w)]]
theorem r_law_bad (vs : List V) (H : Hp) (Q : VK) (E : XK) (h : sp_law_bad K vs H Q E) : t_law_bad K E { nx := fun _ H' => Q .non H', rt := Q } (L2.start ["script", "word", "number", "told", "some"] vs) H := by
  obtain ⟨l, ns, z, rfl, hl, hz, k⟩ := h
  obtain ⟨w, rfl⟩ : ∃ w, z = SX.S w := ⟨z.cps.toList, (SX.S_tl z).symm⟩
  unfold t_law_bad
  have b0 := emod_bd (cellV ns 4) (n := 10 ^ 59) (by decide +kernel)
  obtain ⟨n, hn⟩ : ∃ n : Nat, 1 + cellV ns 4 % 10 ^ 59 = n := ⟨(1 + cellV ns 4 % 10 ^ 59).toNat, by omega⟩
  have n60 : n < 10 ^ 60 := by omega
  refine q_asg (v := .int n) (ev_is (ev_op ev_c (ev_op (ev_cell (j := 4) (ev_var rfl) ev_c hl (by decide)) (ev_is (ev_op ev_c ev_c (rv_pow (by decide))) rfl) (rv_mod (j := 10 ^ 59) (by decide +kernel))) rv_addI) (by rw [← hn])) fun H1 e1 => ?_
  refine q_asg (v := .str (SX.S (TL.numL n))) (ev_is (ev_cb (ea_cons (ev_var rfl) ea_nil) (rc_str (log60 (i := (n : Int)) (by omega)))) (by rw [SX.num_S])) fun H2 e2 => ?_
  have nl := numL_long n n60
  have wl := name_len hz
  rw [SX.S_len] at wl
  have wm : ∀ c ∈ w, c ∈ lets := fun c hc => by
    unfold isName at hz
    exact of_decide_eq_true (List.all_eq_true.mp (Bool.and_eq_true_iff.mp hz).2 c hc)
  have A1 : ∀ {σ : L2.St} {H : Hp} {ta tb : TE} {a b : List Nat}, Ev ta σ H (.str (SX.S a)) → Ev tb σ H (.str (SX.S b)) → a.length + b.length ≤ 1000 → Ev (tOp (rAddA K) ta tb) σ H (.str (SX.S (a ++ b))) := fun {σ H ta tb a b} h1 h2 h3 => ev_is (ev_op h1 h2 (rv_addS (by rw [SX.S_len, SX.S_len]; omega))) (by rw [SX.S_cat])
  have cc : ∀ {σ : L2.St} {H : Hp} (x : Str) (l : List Nat), x = SX.S l → Ev (tC (.str x)) σ H (.str (SX.S l)) := fun x l h => ev_is ev_c (by rw [h])
  refine q_asgD (ed_lst (eds_cons (ed_s (cc "" [] rfl)) (eds_cons (ed_s (cc "-" [45] rfl)) (eds_cons (ed_s (cc "!" [33] rfl)) (eds_cons (ed_s (cc "-0" [45, 48] rfl)) (eds_cons (ed_s (A1 (cc "0" [48] rfl) (ev_var rfl) (by simp; omega))) (eds_cons (ed_s (A1 (cc "-0" [45, 48] rfl) (ev_var rfl) (by simp; omega)))
    (eds_cons (ed_s (A1 (cc "+" [43] rfl) (ev_var rfl) (by simp; omega))) (eds_cons (ed_s (A1 (ev_var rfl) (cc " " [32] rfl) (by simp; omega))) (eds_cons (ed_s (A1 (cc " " [32] rfl) (ev_var rfl) (by simp; omega))) (eds_cons (ed_s (A1 (ev_var rfl) (cc "a" [97] rfl) (by simp; omega))) (eds_cons (ed_s (A1 (cc "--" [45, 45] rfl) (ev_var rfl) (by simp; omega))) eds_nil)))))))))))) fun v3 H3 e3 r3 => ?_
  refine q_asgD (ed_catL (ed_var rfl r3) (ed_lst (eds_cons (ed_s (A1 (A1 (ev_is (ev_slS (ev_var rfl) eo_none (eo_some ev_c) (by rw [SX.S_len]; omega)) (by rw [show (some (1 : Int)) = some ((1 : Nat) : Int) from rfl, cut_to])) (cc "_" [95] rfl) (by simp; omega)) (ev_var rfl) (by simp; omega))) (eds_cons (ed_s (A1 (ev_var rfl) (cc ".0" [46, 48] rfl) (by simp; omega))) (eds_cons (ed_s (A1 (cc "!" [33] rfl) (ev_var rfl) (by simp; omega)))
    (eds_cons (ed_s (A1 (cc "! " [33, 32] rfl) (ev_var rfl) (by simp; omega))) (eds_cons (ed_s (A1 (A1 (cc "!" [33] rfl) (ev_var rfl) (by simp; omega)) (cc " " [32] rfl) (by simp; omega))) (eds_cons (ed_s (ev_var rfl)) eds_nil)))))))) fun v4 H4 e4 r4 => ?_
  have up : ∀ {σ : L2.St} {H : Hp}, σ[1]? = some (some (V.str (SX.S w))) → Ev (tUpper (tVar 1)) σ H (.str (SX.S (w.map PyProof.Rows.up1))) := fun h => ev_is (ev_upper (ev_var h) (by rw [SX.S_len]; omega)) (by rw [SX.upper_S (List.all_eq_true.mpr fun c hc => decide_eq_true (lets_lt c (wm c hc)))])
  have wflat : (List.replicate 9 w).flatten.length = 9 * w.length := by rw [List.length_flatten, List.map_replicate, List.sum_replicate_nat]
  refine q_asgD (ed_catL (ed_var rfl r4) (ed_lst (eds_cons (ed_s (A1 (cc "!" [33] rfl) (up rfl) (by simp; omega))) (eds_cons (ed_s (A1 (cc "!" [33] rfl) (ev_is (ev_op (ev_var rfl) ev_c (rv_rep (by rw [SX.S_len]; omega) (by decide))) (congrArg V.str (repS_S w 9))) (by rw [wflat]; simp; omega))) (eds_cons (ed_s (ev_is (ev_op (cc "1" [49] rfl) ev_c (rv_rep (by decide) (by decide))) (congrArg V.str (repS_S [49] 61))))
    (eds_cons (ed_s (A1 (cc "-" [45] rfl) (ev_is (ev_op (cc "9" [57] rfl) ev_c (rv_rep (by decide) (by decide))) (congrArg V.str (repS_S [57] 61))) (by decide))) (eds_cons (ed_n ev_c) (eds_cons (ed_i (ev_var rfl)) (eds_cons (ed_tup (eds_cons (ed_s ev_c) (eds_cons (ed_s (ev_var rfl)) eds_nil))) eds_nil))))))))) fun v5 H5 e5 r5 => ?_
  have E5 := ((e1.trans e2).trans e3).trans (e4.trans e5)
  have hd := getD_mem (d := PyData.none) (emod_lt_len (l := badD w n) (cellV ns 3) (n := 24) rfl (by decide))
  refine s_retD (ed_ixL (d := (badD w n).getD (cellV ns 3 % 24).toNat .none) (ed_var rfl r5) (ev_op (ev_cell (j := 3) (ev_var rfl) ev_c (ex_l E5 hl) (by decide)) ev_c (rv_mod (by decide))) (atI_emod (badD w n) _ .none (n := 24) rfl (by decide))) fun v6 H6 e6 r6 => ?_
  generalize (badD w n).getD (cellV ns 3 % 24).toNat .none = d at hd r6
  refine k d ?_ ?_ v6 H6 (E5.trans e6) r6
  · rcases List.mem_append.mp hd with hd | hd
    · obtain ⟨cs, hcs, rfl⟩ := List.mem_map.mp hd
      exact bads_no hz (TL.numL_ne n) (TL.numL_digits n) hcs
    · simp only [List.mem_cons, List.not_mem_nil, or_false] at hd
      rcases hd with rfl | rfl | rfl <;> rfl
  · rcases List.mem_append.mp hd with hd | hd
    · obtain ⟨cs, hcs, rfl⟩ := List.mem_map.mp hd
      show (SX.S cs).length ≤ 30000
      rw [SX.S_len]
      simp only [bads, List.mem_append, List.mem_cons, List.not_mem_nil, or_false, or_assoc] at hcs
      rcases hcs with rfl | rfl | rfl | rfl | rfl | rfl | rfl | rfl | rfl | rfl | rfl | rfl | rfl | rfl | rfl | rfl | rfl | rfl | rfl | rfl | rfl
      all_goals (try simp only [List.length_append, List.length_cons, List.length_nil, List.length_take, List.length_map, List.length_replicate, wflat])
      all_goals omega
    · simp only [List.mem_cons, List.not_mem_nil, or_false] at hd
      rcases hd with rfl | rfl | rfl <;> exact trivial
theorem r_law_refused (hE : ExK K A Lk .NoValue) (vs : List V) (H : Hp) (Q : VK) (E : XK) (h : sp_law_refused K A vs H Q E) : t_law_refused K A E { nx := fun _ H' => Q .non H', rt := Q } (L2.start ["text", "caught", "e"] vs) H := by
  obtain ⟨v, d, rfl, r, hs, hn, k⟩ := h
  unfold t_law_refused
  refine q_asg ev_c fun H1 e1 => ?_
  refine q_try fun W hW => ?_
  refine s_dropS (ea_cons (ev_var rfl) ea_nil) fun H2 e2 => ⟨v, d, rfl, r.ex (e1.trans e2), hs, fun r0 z => (by rw [hn] at z; cases z), fun _ H3 e3 => hW .NoValue ⟨_, hE⟩ H3 (e2.trans e3) fun a ha => ?_⟩
  exact q_tail (Dn := .NoValue) rfl upd_same hE (by decide) (by decide) fun H4 e4 => k H4 ((e1.trans e2).trans (e3.trans ((Ex.new ha).trans e4)))
theorem read_show {d : PyData} (hd : isValueD d = true) : readD (.str (showS d)) = some d ∧ short (.str (showS d)) := by
  rcases val_cases hd with ⟨i, rfl, hi⟩ | ⟨w, rfl, hw⟩
  · have h33 : (figs i).take 1 ≠ [33] := fun q => by
      have h : (33 : Nat) ∈ figs i := List.mem_of_mem_take (by rw [q]; exact List.mem_cons_self)
      unfold figs at h
      split at h
      · rcases List.mem_cons.mp h with h | h
        · cases h
        · have := TL.numL_digits _ _ h
          omega
      · have := TL.numL_digits _ _ h
        omega
    refine ⟨?_, ?_⟩
    · show (if (decide (cutS (SX.S (figs i)) none (some 1) = ("!" : Str)) && isNameD (restD (SX.S (figs i)))) = true then _ else (wholeD (.str (SX.S (figs i)))).map PyData.int) = _
      rw [if_neg, show wholeD (.str (SX.S (figs i))) = some i from whole_figs hi]
      · rfl
      · rw [Bool.and_eq_true]
        rintro ⟨q1, -⟩
        have q1 := of_decide_eq_true q1
        rw [show (some (1 : Int)) = some ((1 : Nat) : Int) from rfl, cut_to] at q1
        exact h33 (SX.S_inj (b := [33]) q1)
    · show (SX.S (figs i)).length ≤ 30000
      rw [SX.S_len]
      have := numL_long i.natAbs (by omega)
      unfold figs
      split
      · rw [List.length_cons]; omega
      · omega
  · obtain ⟨cs, rfl⟩ : ∃ cs, w = SX.S cs := ⟨w.cps.toList, (SX.S_tl w).symm⟩
    have wl := name_len hw
    rw [SX.S_len] at wl
    have e : showS (.tuple [.str "fault", .str (SX.S cs)]) = SX.S (33 :: cs) := SX.S_cat [33] cs
    have er : restD (SX.S (33 :: cs)) = .str (SX.S cs) := by
      unfold restD
      rw [cut_from]
      rfl
    rw [e]
    refine ⟨?_, ?_⟩
    · show (if (decide (cutS (SX.S (33 :: cs)) none (some 1) = ("!" : Str)) && isNameD (restD (SX.S (33 :: cs)))) = true then some (faultD (restD (SX.S (33 :: cs)))) else _) = _
      rw [if_pos, er]
      · rfl
      · rw [Bool.and_eq_true, er]
        refine ⟨decide_eq_true ?_, hw⟩
        rw [show (some (1 : Int)) = some ((1 : Nat) : Int) from rfl, cut_to]
        rfl
    · show (SX.S (33 :: cs)).length ≤ 30000
      rw [SX.S_len, List.length_cons]
      omega
theorem ed_read {d : PyData} {σ : L2.St} {H : Hp} {te : TE} {E : L2.St → XK} (hd : isValueD d = true) (h : Ev te σ H (.str (showS d))) : EvD (tCallS (sp_read_value K A) E (tCons te tNil)) σ H d := fun H1 e Q q =>
  h H1 e _ fun H2 e2 => ⟨.str (showS d), .str (showS d), rfl, .str _, (read_show hd).2, fun r hr v H3 e3 r3 => (by rw [(read_show hd).1] at hr; cases hr; exact q v H3 (e2.trans e3) r3), fun z => (by rw [(read_show hd).1] at z; cases z)⟩
theorem x_callArg {sp sp2 : Sp} {E E2 : L2.St → XK} {tas : TA} {Q : VK} {σ : L2.St} {H : Hp} {vs : List V} (h : EvA tas σ H vs) (k : ∀ H1, Ex H H1 → sp2 vs H1 (fun v H2 => sp [v] H2 Q (E σ)) (E2 σ)) : tCallS sp E (tCons (tCallS sp2 E2 tas) tNil) σ H Q := h H (Ex.refl H) _ k
theorem ev_show {d : PyData} {σ : L2.St} {H : Hp} {te : TE} {E : L2.St → XK} (hd : isValueD d = true) (h : EvD te σ H d) : Ev (tCallS (sp_show_value K) E (tCons te tNil)) σ H (.str (showS d)) := fun H1 e Q q =>
  h H1 e _ fun v H2 e2 r => ⟨v, d, rfl, r, hd, fun H3 e3 => q H3 (e2.trans e3)⟩
theorem r_law (vs : List V) (H : Hp) (Q : VK) (E : XK) (h : spLaw K vs H Q E) : t_law K A E { nx := fun _ H' => Q .non H', rt := Q } (L2.start ["script", "word", "value", "due", "text", "other", "found"] vs) H := by
  obtain ⟨l, ns, rfl, hl, -, k⟩ := h
  unfold t_law
  refine q_callS (ea_cons (ev_var rfl) ea_nil) fun H1 e1 => ⟨l, ns, rfl, ex_l e1 hl, fun z hz H2 e2 => ?_⟩
  refine q_callS (ea_cons (ev_var rfl) (ea_cons (ev_var rfl) ea_nil)) fun H3 e3 => ⟨l, ns, z, rfl, ex_l ((e1.trans e2).trans e3) hl, hz, fun d hd hdz v H4 e4 r => ?_⟩
  have E4 := ((e1.trans e2).trans e3).trans e4
  have wl := name_len hz
  have vo := val_ok hd
  refine q_asg (v := .str ("!" ++ z)) (ev_op ev_c (ev_var rfl) (rv_addS (by rw [show ("!" : Str).length = 1 by decide +kernel]; omega))) fun H5 e5 => ?_
  refine q_ifAsg (v := .str (showS d)) (et_B (ev_isD (c := "int") (ed_var rfl (r.ex e5)))) (fun hb => ?_) (fun hb => ?_) fun H6 e6 => ?_
  · rcases hdz with rfl | ⟨i, rfl⟩
    · cases hb
    · obtain rfl := r.i
      have hi : -(10 ^ 60) < i ∧ i < 10 ^ 60 := by
        rcases val_cases hd with ⟨j, q, hj⟩ | ⟨w, q, -⟩
        · cases q; exact hj
        · cases q
      exact ev_callS (ea_cons (ev_var rfl) ea_nil) fun H7 e7 Q q E => ⟨i, rfl, hi, fun H8 e8 => q H8 e8⟩
  · rcases hdz with rfl | ⟨i, rfl⟩
    · rfl
    · cases hb
  have r6 := (r.ex e5).ex e6
  refine q_asg (ev_show hd (ed_var rfl r6)) fun H7 e7 => ?_
  refine q_when (b := false) (et_is (et_or (et_not (et_B (ev_isi (n := "str") (ev_var rfl) rfl))) fun _ => et_test (ev_op (ev_var rfl) (ev_var rfl) (rv_neS rfl))) (by simp; decide)) (fun hb => nomatch hb) fun _ H8 e8 => ?_
  have r8 := (r6.ex e7).ex e8
  obtain ⟨o, ho, ho2⟩ : ∃ o : Int, (if PyData.eqv d (.int (0 - 7)) = true then (5 : Int) else 0 - 7) = o ∧ (o = 5 ∨ o = -7) := by
    split
    · exact ⟨5, rfl, .inl rfl⟩
    · exact ⟨0 - 7, rfl, .inr rfl⟩
  refine q_asg (v := .int o) (ev_if (et_test (ev_eqD (ed_var rfl r8) (ed_i (ev_op ev_c ev_c rv_subI)) (val_okD hd) trivial)) (fun hb => by rw [← ho, if_pos hb]; exact ev_c) (fun hb => by rw [← ho, if_neg (by rw [hb]; decide)]; exact ev_op ev_c ev_c rv_subI)) fun H9 e9 => ?_
  have r9 := r8.ex e9
  have hoV : isValueD (.int o) = true := by rcases ho2 with rfl | rfl <;> decide +kernel
  refine q_when (b := false) (et_is (et_or (et_test (ev_op (ev_show hoV (ed_i (ev_var rfl))) (ev_s (ed_ixL (i := if decide (o < 0) = true then 1 else 0) (d := .str (showS (.int o))) (ds := [.str "5", .str "-7"]) (ed_lst (eds_cons (ed_s ev_c) (eds_cons (ed_s ev_c) eds_nil))) (ev_cb (ea_cons (ev_op (ev_var rfl) ev_c rv_lt) ea_nil) fun H10 _ Q q => .inr (.inl ⟨_, rfl, q H10 (Ex.refl H10)⟩)) ?_)) (rv_neS rfl))) fun _ => et_test (ev_op (ev_show hd (ed_var rfl r9)) (ev_var rfl) (rv_neS rfl))) (by simp)) (fun hb => nomatch hb) fun _ H10 e10 => ?_
  · rcases ho2 with rfl | rfl
    · exact congrArg some (congrArg PyData.str (show ("5" : Str) = showS (.int 5) by decide +kernel))
    · exact congrArg some (congrArg PyData.str (show ("-7" : Str) = showS (.int (-7)) by decide +kernel))
  have r10 := r9.ex e10
  refine q_asgD (ed_read hd (ev_var rfl)) fun v11 H11 e11 r11 => ?_
  have r11' := r10.ex e11
  refine q_when (b := false) (et_is (et_or (et_B (ev_isD (ed_var rfl r11))) fun _ => et_or (et_test (ev_op (ev_isD (ed_var rfl r11)) (ev_isD (ed_var rfl r11')) (rv_neS rfl))) fun _ => et_test (ev_neD (ed_var rfl r11) (ed_var rfl r11') (val_okD hd) (val_okD hd))) (by rw [vo.2.2.2, vo.2.2.1]; simp)) (fun hb => nomatch hb) fun _ H12 e12 => ?_
  have r12 := r11'.ex e12
  have E12 := E4.trans (e5.trans (e6.trans (e7.trans (e8.trans (e9.trans (e10.trans (e11.trans e12)))))))
  refine s_ret (v := .bl true) (ev_is (ev_andV (a := true) (b := true) ?_ fun _ => ev_is (ev_eqD (ed_read hd (ev_var rfl)) (ed_var rfl r12) (val_okD hd) (val_okD hd)) (congrArg V.bl vo.2.2.1)) rfl) fun H13 _ => k H13
  intro H13 e13 Q1 q1
  refine x_callArg (ea_cons (ev_var rfl) (ea_cons (ev_var rfl) ea_nil)) fun H14 e14 => ⟨l, ns, z, rfl, ex_l (E12.trans (e13.trans e14)) hl, hz, fun d' hd' hs' v15 H15 e15 r15 => ?_⟩
  exact ⟨v15, d', rfl, r15, hs', hd', fun H16 e16 => q1 H16 (e14.trans (e15.trans e16))⟩
end
end Z


set_option Elab.async false
set_option linter.all false
set_option autoImplicit false
set_option maxRecDepth 100000
set_option maxHeartbeats 4000000
namespace Z
open PySem PySem.Spec PyProof.Rows L2 Evl
def top (i : Nat) : Stmt := PySem.Challenge.pw_lazycols_k51_values_written.main.body.getD i (.Pass ⟨0, 0, 0, 0⟩)
abbrev s_is_name : Stmt := top 18
abbrev N_is_name : List Str := ["thing", "sign"]
theorem sc_is_name : FnScope N_is_name ["thing"] (defScope s_is_name) := ⟨rfl, rfl, rfl, by decide +kernel, rfl, by decide +kernel, by decide +kernel⟩
abbrev s_is_fault : Stmt := top 19
abbrev N_is_fault : List Str := ["thing"]
theorem sc_is_fault : FnScope N_is_fault ["thing"] (defScope s_is_fault) := ⟨rfl, rfl, rfl, by decide +kernel, rfl, by decide +kernel, by decide +kernel⟩
abbrev s_whole_of : Stmt := top 22
abbrev N_whole_of : List Str := ["word", "figures", "sign"]
theorem sc_whole_of : FnScope N_whole_of ["word"] (defScope s_whole_of) := ⟨rfl, rfl, rfl, by decide +kernel, rfl, by decide +kernel, by decide +kernel⟩
abbrev s_show_value : Stmt := top 24
abbrev N_show_value : List Str := ["value"]
theorem sc_show_value : FnScope N_show_value ["value"] (defScope s_show_value) := ⟨rfl, rfl, rfl, by decide +kernel, rfl, by decide +kernel, by decide +kernel⟩
abbrev s_read_value : Stmt := top 25
abbrev N_read_value : List Str := ["text", "number"]
theorem sc_read_value : FnScope N_read_value ["text"] (defScope s_read_value) := ⟨rfl, rfl, rfl, by decide +kernel, rfl, by decide +kernel, by decide +kernel⟩
abbrev s_law_cell : Stmt := top 27
abbrev N_law_cell : List Str := ["script", "k", "seed"]
theorem sc_law_cell : FnScope N_law_cell ["script", "k"] (defScope s_law_cell) := ⟨rfl, rfl, rfl, by decide +kernel, rfl, by decide +kernel, by decide +kernel⟩
abbrev s_law_word : Stmt := top 28
abbrev N_law_word : List Str := ["script", "some", "k"]
theorem sc_law_word : FnScope N_law_word ["script"] (defScope s_law_word) := ⟨rfl, rfl, rfl, by decide +kernel, rfl, by decide +kernel, by decide +kernel⟩
abbrev s_law_value : Stmt := top 29
abbrev N_law_value : List Str := ["script", "word", "cell", "far", "way"]
theorem sc_law_value : FnScope N_law_value ["script", "word"] (defScope s_law_value) := ⟨rfl, rfl, rfl, by decide +kernel, rfl, by decide +kernel, by decide +kernel⟩
abbrev s_law_digits : Stmt := top 30
abbrev N_law_digits : List Str := ["number", "figures", "left"]
theorem sc_law_digits : FnScope N_law_digits ["number"] (defScope s_law_digits) := ⟨rfl, rfl, rfl, by decide +kernel, rfl, by decide +kernel, by decide +kernel⟩
abbrev s_law_bad : Stmt := top 31
abbrev N_law_bad : List Str := ["script", "word", "number", "told", "some"]
theorem sc_law_bad : FnScope N_law_bad ["script", "word"] (defScope s_law_bad) := ⟨rfl, rfl, rfl, by decide +kernel, rfl, by decide +kernel, by decide +kernel⟩
abbrev s_law_refused : Stmt := top 32
abbrev N_law_refused : List Str := ["text", "caught", "e"]
theorem sc_law_refused : FnScope N_law_refused ["text"] (defScope s_law_refused) := ⟨rfl, rfl, rfl, by decide +kernel, rfl, by decide +kernel, by decide +kernel⟩
abbrev s_law : Stmt := top 33
abbrev N_law : List Str := ["script", "word", "value", "due", "text", "other", "found"]
theorem sc_law : FnScope N_law ["script"] (defScope s_law) := ⟨rfl, rfl, rfl, by decide +kernel, rfl, by decide +kernel, by decide +kernel⟩
structure Txt (K : PySem.W.Frag) (mg : Str → Option Value) (A : Cn → Addr) : Prop where
  n_ValueError : mg "ValueError" = none
  n_abs : mg "abs" = none
  n_all : mg "all" = none
  n_bool : mg "bool" = none
  n_int : mg "int" = none
  n_isinstance : mg "isinstance" = none
  n_len : mg "len" = none
  n_range : mg "range" = none
  n_str : mg "str" = none
  n_tuple : mg "tuple" = none
  g_LETTERS : ∃ t, mg "LETTERS" = some (.str "abcdefghijklmnopqrstuvwxyz" t)
  g_FIGURES : ∃ t, mg "FIGURES" = some (.str "0123456789" t)
  g_ColsError : mg "ColsError" = some (.ref (A .ColsError))
  g_NoName : mg "NoName" = some (.ref (A .NoName))
  g_NoValue : mg "NoValue" = some (.ref (A .NoValue))
  g_NoTable : mg "NoTable" = some (.ref (A .NoTable))
  g_NoColumn : mg "NoColumn" = some (.ref (A .NoColumn))
  g_NoPlace : mg "NoPlace" = some (.ref (A .NoPlace))
  g_NoSize : mg "NoSize" = some (.ref (A .NoSize))
  g_NoText : mg "NoText" = some (.ref (A .NoText))
  g_NoRow : mg "NoRow" = some (.ref (A .NoRow))
  g_NoBack : mg "NoBack" = some (.ref (A .NoBack))
  g_TooMuch : mg "TooMuch" = some (.ref (A .TooMuch))
  g_Ruled : mg "Ruled" = some (.ref (A .Ruled))
  g_Ring : mg "Ring" = some (.ref (A .Ring))
  g_Nobody : mg "Nobody" = some (.ref (A .Nobody))
  g_Several : mg "Several" = some (.ref (A .Several))
  x_NoValue : PySem.W.excIn K (A .NoValue) [.type "ValueError", .type "Exception", .type "BaseException", .type "object"] "ValueError.__new__" = true
  k_NoValue : PySem.W.keepIn K (.ref (A .NoValue)) = true
  b_NoValue : PySem.W.subIn K (.ref (A .NoValue)) (.type "BaseException") = some true
  t_NoValue : PySem.W.typeIn K (.ref (A .NoValue)) = some (.type "type")
  ek_NoValue : ExK K A Lk .NoValue
section
variable {P : Program} {w : World} {K : PySem.W.Frag} {mg : Str → Option Value} {base : Heap} {A : Cn → Addr} {cdv : Value} {Ar : Around} {outer : List Env} {s : Shared} {H : Hp} {E : XK}
theorem d_is_name (T : Txt K mg A) {f : Addr}  (hr : Room 0 (Ar.deeper (envOfC "is_name" (defScope s_is_name) s.heap.objs.size f cdv))) :
    PSs (cxOf (L2.CX P w) P w K mg base N_is_name "is_name" (defScope s_is_name) f cdv Ar outer s H E) (defBody s_is_name) (t_is_name K E) := by
  have hu := hu65 hr
  exact pss_cons (ps_if (PW.pt (pw_or (pt_not (pt_val (pe_callB call_isiA (by rfl) T.n_isinstance (by decide +kernel) (pa_cons (pv 0) (pa_cons (pe_bltn (v := .ty "str") (by rfl) T.n_str (by decide +kernel) rfl) pa_nil))))) (pw_or1 (pt_not (pt_chain op_le op_le pe_int (pe_callB call_lenA (by rfl) T.n_len (by decide +kernel) (pa_cons (pv 0) pa_nil)) pe_int))))) (pss_one (ps_ret pe_bl)) pss_nil)
    (pss_one (ps_ret (pe_callB (cr_all rfl) (by rfl) T.n_all (by decide +kernel) (pa_cons (pe_lc (own := [("sign", 1)]) (g := gName 1) (tt := tYes) rfl sc_is_name.nd (pi_str (pv 0)) (blkOk_by (own := [("sign", 1)]) (N := N_is_name) (sc := defScope s_is_name) (by decide +kernel)) (fun _ _ _ _ _ => pg_name (i := 1) sc_is_name.nd rfl (Or.inl rfl)) (fun _ _ _ _ _ => pts_nil) (fun _ _ _ _ _ => pe_cmpR (op_inA hu) (pv 1) (pe_glob (v := .str "abcdefghijklmnopqrstuvwxyz") rfl (Exists.choose_spec T.g_LETTERS) ⟨_, rfl⟩) (by rfl))) pa_nil))))
theorem cal_is_name (T : Txt K mg A) {f : Addr} {fd : FuncData}  (F : Fun K "is_name" "is_name" s_is_name f fd) (hm : mg "is_name" = some (.ref f)) (hb : Binds K fd ["thing"] []) :
    Cal P w K mg base 1 "is_name" f ["thing"] (sp_is_name K) := cal_of F sc_is_name hm hb len_is_name (t_is_name K) (fun cdv Ar outer s H E hr => d_is_name T  hr) (fun vs H Q E h => r_is_name vs H Q E h)
theorem d_is_fault (T : Txt K mg A) {f : Addr} {f_is_name : Addr} (G_is_name : Cal P w K mg base 1 "is_name" f_is_name ["thing"] (sp_is_name K)) (hr : Room 1 (Ar.deeper (envOfC "is_fault" (defScope s_is_fault) s.heap.objs.size f cdv))) :
    PSs (cxOf (L2.CX P w) P w K mg base N_is_fault "is_fault" (defScope s_is_fault) f cdv Ar outer s H E) (defBody s_is_fault) (t_is_fault K E) := by
  have hu := hu65 hr
  have tk : Takes (cxOf (L2.CX P w) P w K mg base N_is_fault "is_fault" (defScope s_is_fault) f cdv Ar outer s H E) (fun cls d _ H => E cls d H) := takes_of rfl rfl rfl rfl
  exact pss_cons (ps_if (PW.pt (pw_or (pt_not (pt_val (pe_callB call_isiA (by rfl) T.n_isinstance (by decide +kernel) (pa_cons (pv 0) (pa_cons (pe_bltn (v := .ty "tuple") (by rfl) T.n_tuple (by decide +kernel) rfl) pa_nil))))) (pw_or1 (pt_cmpR (op_neA hu) (pe_callB call_lenA (by rfl) T.n_len (by decide +kernel) (pa_cons (pv 0) pa_nil)) pe_int (nomark _))))) (pss_one (ps_ret pe_bl)) pss_nil)
    (pss_one (ps_ret (pe_and (pe_callB call_isiA (by rfl) T.n_isinstance (by decide +kernel) (pa_cons (pe_ix (ix_A hu) (pv 0) pe_int (fun _ _ => rfl)) (pa_cons (pe_bltn (v := .ty "str") (by rfl) T.n_str (by decide +kernel) rfl) pa_nil))) (pe_and (pe_cmpR (op_eqA hu) (pe_ix (ix_A hu) (pv 0) pe_int (fun _ _ => rfl)) pe_str (nomark _)) (pe_one (pe_cal G_is_name (hr.mono (by decide)) tk (pa_cons (pe_ix (ix_A hu) (pv 0) pe_int (fun _ _ => rfl)) pa_nil)))))))
theorem cal_is_fault (T : Txt K mg A) {f : Addr} {fd : FuncData} {f_is_name : Addr} (G_is_name : Cal P w K mg base 1 "is_name" f_is_name ["thing"] (sp_is_name K)) (F : Fun K "is_fault" "is_fault" s_is_fault f fd) (hm : mg "is_fault" = some (.ref f)) (hb : Binds K fd ["thing"] []) :
    Cal P w K mg base 2 "is_fault" f ["thing"] (sp_is_fault K) := cal_of F sc_is_fault hm hb len_is_fault (t_is_fault K) (fun cdv Ar outer s H E hr => d_is_fault T G_is_name hr) (fun vs H Q E h => r_is_fault vs H Q E h)
theorem d_whole_of (T : Txt K mg A) {f : Addr}  (hr : Room 0 (Ar.deeper (envOfC "whole_of" (defScope s_whole_of) s.heap.objs.size f cdv))) :
    PSs (cxOf (L2.CX P w) P w K mg base N_whole_of "whole_of" (defScope s_whole_of) f cdv Ar outer s H E) (defBody s_whole_of) (t_whole_of K E) := by
  have hu := hu65 hr
  exact pss_cons (ps_if (pt_not (pt_val (pe_callB call_isiA (by rfl) T.n_isinstance (by decide +kernel) (pa_cons (pv 0) (pa_cons (pe_bltn (v := .ty "str") (by rfl) T.n_str (by decide +kernel) rfl) pa_nil))))) (pss_one (ps_ret pe_non)) pss_nil)
    (pss_cons (ps_set (i := 1) sc_whole_of.nd rfl (Or.inl rfl) (pv 0))
    (pss_cons (ps_if (pt_cmpR (op_eqA hu) (pe_slice sl_A (pv 0) po_none (po_some pe_int)) pe_str (nomark _)) (pss_one (ps_set (i := 1) sc_whole_of.nd rfl (Or.inl rfl) (pe_slice sl_A (pv 0) (po_some pe_int) po_none))) pss_nil)
    (pss_cons (ps_if (PW.pt (pw_or (pt_not (pt_chain op_le op_le pe_int (pe_callB call_lenA (by rfl) T.n_len (by decide +kernel) (pa_cons (pv 1) pa_nil)) pe_int)) (pw_or1 (pt_not (pt_val (pe_callB (cr_all rfl) (by rfl) T.n_all (by decide +kernel) (pa_cons (pe_lc (own := [("sign", 2)]) (g := gName 2) (tt := tYes) rfl sc_whole_of.nd (pi_str (pv 1)) (blkOk_by (own := [("sign", 2)]) (N := N_whole_of) (sc := defScope s_whole_of) (by decide +kernel)) (fun _ _ _ _ _ => pg_name (i := 2) sc_whole_of.nd rfl (Or.inl rfl)) (fun _ _ _ _ _ => pts_nil) (fun _ _ _ _ _ => pe_cmpR (op_inA hu) (pv 2) (pe_glob (v := .str "0123456789") rfl (Exists.choose_spec T.g_FIGURES) ⟨_, rfl⟩) (by rfl))) pa_nil))))))) (pss_one (ps_ret pe_non)) pss_nil)
    (pss_cons (ps_if (PW.pt (pw_and (pt_cmpR (op_eqA hu) (pe_ix (ix_A hu) (pv 1) pe_int (fun _ _ => rfl)) pe_str (nomark _)) (pw_and1 (pt_cmpR (op_neA hu) (pv 0) pe_str (nomark _))))) (pss_one (ps_ret pe_non)) pss_nil)
    (pss_one (ps_ret (pe_callTy call_intA (by rfl) T.n_int (by decide +kernel) (pa_cons (pv 0) pa_nil))))))))
theorem cal_whole_of (T : Txt K mg A) {f : Addr} {fd : FuncData}  (F : Fun K "whole_of" "whole_of" s_whole_of f fd) (hm : mg "whole_of" = some (.ref f)) (hb : Binds K fd ["word"] []) :
    Cal P w K mg base 1 "whole_of" f ["word"] (sp_whole_of K) := cal_of F sc_whole_of hm hb len_whole_of (t_whole_of K) (fun cdv Ar outer s H E hr => d_whole_of T  hr) (fun vs H Q E h => r_whole_of vs H Q E h)
theorem d_show_value (T : Txt K mg A) {f : Addr} {f_is_fault : Addr} (G_is_fault : Cal P w K mg base 2 "is_fault" f_is_fault ["thing"] (sp_is_fault K)) (hr : Room 2 (Ar.deeper (envOfC "show_value" (defScope s_show_value) s.heap.objs.size f cdv))) :
    PSs (cxOf (L2.CX P w) P w K mg base N_show_value "show_value" (defScope s_show_value) f cdv Ar outer s H E) (defBody s_show_value) (t_show_value K E) := by
  have hu := hu65 hr
  have tk : Takes (cxOf (L2.CX P w) P w K mg base N_show_value "show_value" (defScope s_show_value) f cdv Ar outer s H E) (fun cls d _ H => E cls d H) := takes_of rfl rfl rfl rfl
  exact pss_cons (ps_if (pt_val (pe_cal G_is_fault (hr.mono (by decide)) tk (pa_cons (pv 0) pa_nil))) (pss_one (ps_ret (pe_op op_addA pe_str (pe_ix (ix_A hu) (pv 0) pe_int (fun _ _ => rfl))))) pss_nil)
    (pss_one (ps_ret (pe_callTy call_str_int (by rfl) T.n_str (by decide +kernel) (pa_cons (pv 0) pa_nil))))
theorem cal_show_value (T : Txt K mg A) {f : Addr} {fd : FuncData} {f_is_fault : Addr} (G_is_fault : Cal P w K mg base 2 "is_fault" f_is_fault ["thing"] (sp_is_fault K)) (F : Fun K "show_value" "show_value" s_show_value f fd) (hm : mg "show_value" = some (.ref f)) (hb : Binds K fd ["value"] []) :
    Cal P w K mg base 3 "show_value" f ["value"] (sp_show_value K) := cal_of F sc_show_value hm hb len_show_value (t_show_value K) (fun cdv Ar outer s H E hr => d_show_value T G_is_fault hr) (fun vs H Q E h => r_show_value vs H Q E h)
theorem d_read_value (T : Txt K mg A) {f : Addr} {f_whole_of : Addr} (G_whole_of : Cal P w K mg base 1 "whole_of" f_whole_of ["word"] (sp_whole_of K)) {f_is_name : Addr} (G_is_name : Cal P w K mg base 1 "is_name" f_is_name ["thing"] (sp_is_name K)) (hr : Room 1 (Ar.deeper (envOfC "read_value" (defScope s_read_value) s.heap.objs.size f cdv))) :
    PSs (cxOf (L2.CX P w) P w K mg base N_read_value "read_value" (defScope s_read_value) f cdv Ar outer s H E) (defBody s_read_value) (t_read_value K A E) := by
  have hu := hu65 hr
  have tk : Takes (cxOf (L2.CX P w) P w K mg base N_read_value "read_value" (defScope s_read_value) f cdv Ar outer s H E) (fun cls d _ H => E cls d H) := takes_of rfl rfl rfl rfl
  exact pss_cons (ps_if (PW.pt (pw_and (pt_val (pe_callB call_isiA (by rfl) T.n_isinstance (by decide +kernel) (pa_cons (pv 0) (pa_cons (pe_bltn (v := .ty "str") (by rfl) T.n_str (by decide +kernel) rfl) pa_nil)))) (pw_and (pt_cmpR (op_eqA hu) (pe_slice sl_A (pv 0) po_none (po_some pe_int)) pe_str (nomark _)) (pw_and1 (pt_val (pe_cal G_is_name (hr.mono (by decide)) tk (pa_cons (pe_slice sl_A (pv 0) (po_some pe_int) po_none) pa_nil))))))) (pss_one (ps_ret (pe_tup (pa_cons pe_str (pa_cons (pe_slice sl_A (pv 0) (po_some pe_int) po_none) pa_nil))))) pss_nil)
    (pss_cons (ps_set (i := 1) sc_read_value.nd rfl (Or.inl rfl) (pe_cal G_whole_of (hr.mono (by decide)) tk (pa_cons (pv 0) pa_nil)))
    (pss_cons (ps_if (pt_cmpR op_isA (pv 1) pe_non (nomark _)) (pss_one (ps_raise rfl tk (pmk_own PySem.F.excBase_ValueError T.x_NoValue T.g_NoValue T.k_NoValue (raises_own T.b_NoValue T.t_NoValue) rfl))) pss_nil)
    (pss_one (ps_ret (pv 1)))))
theorem cal_read_value (T : Txt K mg A) {f : Addr} {fd : FuncData} {f_whole_of : Addr} (G_whole_of : Cal P w K mg base 1 "whole_of" f_whole_of ["word"] (sp_whole_of K)) {f_is_name : Addr} (G_is_name : Cal P w K mg base 1 "is_name" f_is_name ["thing"] (sp_is_name K)) (F : Fun K "read_value" "read_value" s_read_value f fd) (hm : mg "read_value" = some (.ref f)) (hb : Binds K fd ["text"] []) :
    Cal P w K mg base 2 "read_value" f ["text"] (sp_read_value K A) := cal_of F sc_read_value hm hb len_read_value (t_read_value K A) (fun cdv Ar outer s H E hr => d_read_value T G_whole_of G_is_name hr) (fun vs H Q E h => r_read_value vs H Q E h)
theorem d_law_cell (T : Txt K mg A) {f : Addr}  (hr : Room 0 (Ar.deeper (envOfC "_law_cell" (defScope s_law_cell) s.heap.objs.size f cdv))) :
    PSs (cxOf (L2.CX P w) P w K mg base N_law_cell "_law_cell" (defScope s_law_cell) f cdv Ar outer s H E) (defBody s_law_cell) (t_law_cell K E) := by
  have hu := hu65 hr
  exact pss_cons (ps_if (pt_cmpR op_lt (pv 1) (pe_callB call_lenA (by rfl) T.n_len (by decide +kernel) (pa_cons (pv 0) pa_nil)) (nomark _)) (pss_one (ps_ret (pe_ix (ix_A hu) (pv 0) (pv 1) (fun _ _ => rfl)))) pss_nil)
    (pss_cons (ps_set (i := 2) sc_law_cell.nd rfl (Or.inl rfl) pe_int)
    (pss_cons (ps_if (pt_cmpR op_gt (pe_callB call_lenA (by rfl) T.n_len (by decide +kernel) (pa_cons (pv 0) pa_nil)) pe_int (nomark _)) (pss_one (ps_set (i := 2) sc_law_cell.nd rfl (Or.inl rfl) (pe_op op_modN (pe_ix (ix_A hu) (pv 0) (pe_op op_modN (pv 1) (pe_callB call_lenA (by rfl) T.n_len (by decide +kernel) (pa_cons (pv 0) pa_nil))) (fun _ _ => rfl)) pe_int))) pss_nil)
    (pss_one (ps_ret (pe_op op_modN (pe_op op_mulA (pe_op op_addA (pe_op op_addA (pv 2) (pe_op op_mulA (pv 1) (pv 1))) pe_int) (pe_op op_addA pe_int (pe_op op_mulA pe_int (pv 1)))) pe_int)))))
theorem cal_law_cell (T : Txt K mg A) {f : Addr} {fd : FuncData}  (F : Fun K "_law_cell" "_law_cell" s_law_cell f fd) (hm : mg "_law_cell" = some (.ref f)) (hb : Binds K fd ["script", "k"] []) :
    Cal P w K mg base 1 "_law_cell" f ["script", "k"] (sp_law_cell K) := cal_of F sc_law_cell hm hb len_law_cell (t_law_cell K) (fun cdv Ar outer s H E hr => d_law_cell T  hr) (fun vs H Q E h => r_law_cell vs H Q E h)
theorem d_law_word (T : Txt K mg A) {f : Addr} {f_law_cell : Addr} (G_law_cell : Cal P w K mg base 1 "_law_cell" f_law_cell ["script", "k"] (sp_law_cell K)) (hr : Room 1 (Ar.deeper (envOfC "_law_word" (defScope s_law_word) s.heap.objs.size f cdv))) :
    PSs (cxOf (L2.CX P w) P w K mg base N_law_word "_law_word" (defScope s_law_word) f cdv Ar outer s H E) (defBody s_law_word) (t_law_word K E) := by
  have hu := hu65 hr
  have tk : Takes (cxOf (L2.CX P w) P w K mg base N_law_word "_law_word" (defScope s_law_word) f cdv Ar outer s H E) (fun cls d _ H => E cls d H) := takes_of rfl rfl rfl rfl
  exact pss_cons (ps_set (i := 1) sc_law_word.nd rfl (Or.inl rfl) (pe_lst pa_nil))
    (pss_cons (ps_for (passes_of rfl) rfl (pi_range1 (by rfl) T.n_range (pa_cons (pe_op op_addA pe_int (pe_op op_modN (pe_cal G_law_cell (hr.mono (by decide)) tk (pa_cons (pv 0) (pa_cons pe_int pa_nil))) pe_int)) pa_nil)) (pg_name (i := 2) sc_law_word.nd rfl (Or.inl rfl)) (pss_one (ps_expr (pe_bm PySem.F.plainAttrs_list PySem.F.slot_list_append PySem.F.type_list_append mt_append (pv 1) (pa_cons (pe_ix (ix_A hu) pe_str (pe_op op_modN (pe_op op_fdivA (pe_cal G_law_cell (hr.mono (by decide)) tk (pa_cons (pv 0) (pa_cons (pe_op op_addA pe_int (pv 2)) pa_nil))) pe_int) pe_int) (fun _ _ => rfl)) pa_nil)))))
    (pss_one (ps_ret (pe_join pe_str (pv 1)))))
theorem cal_law_word (T : Txt K mg A) {f : Addr} {fd : FuncData} {f_law_cell : Addr} (G_law_cell : Cal P w K mg base 1 "_law_cell" f_law_cell ["script", "k"] (sp_law_cell K)) (F : Fun K "_law_word" "_law_word" s_law_word f fd) (hm : mg "_law_word" = some (.ref f)) (hb : Binds K fd ["script"] []) :
    Cal P w K mg base 2 "_law_word" f ["script"] (sp_law_word K) := cal_of F sc_law_word hm hb len_law_word (t_law_word K) (fun cdv Ar outer s H E hr => d_law_word T G_law_cell hr) (fun vs H Q E h => r_law_word vs H Q E h)
theorem d_law_value (T : Txt K mg A) {f : Addr} {f_law_cell : Addr} (G_law_cell : Cal P w K mg base 1 "_law_cell" f_law_cell ["script", "k"] (sp_law_cell K)) (hr : Room 1 (Ar.deeper (envOfC "_law_value" (defScope s_law_value) s.heap.objs.size f cdv))) :
    PSs (cxOf (L2.CX P w) P w K mg base N_law_value "_law_value" (defScope s_law_value) f cdv Ar outer s H E) (defBody s_law_value) (t_law_value K E) := by
  have hu := hu65 hr
  have tk : Takes (cxOf (L2.CX P w) P w K mg base N_law_value "_law_value" (defScope s_law_value) f cdv Ar outer s H E) (fun cls d _ H => E cls d H) := takes_of rfl rfl rfl rfl
  exact pss_cons (ps_set (i := 2) sc_law_value.nd rfl (Or.inl rfl) (pe_cal G_law_cell (hr.mono (by decide)) tk (pa_cons (pv 0) (pa_cons pe_int pa_nil))))
    (pss_cons (ps_set (i := 3) sc_law_value.nd rfl (Or.inl rfl) (pe_op op_sub (pe_op op_pow pe_int pe_int) pe_int))
    (pss_cons (ps_set (i := 4) sc_law_value.nd rfl (Or.inl rfl) (pe_op op_modN (pe_cal G_law_cell (hr.mono (by decide)) tk (pa_cons (pv 0) (pa_cons pe_int pa_nil))) pe_int))
    (pss_cons (ps_if (pt_cmpR (op_eqA hu) (pv 4) pe_int (nomark _)) (pss_one (ps_ret (pe_tup (pa_cons pe_str (pa_cons (pv 1) pa_nil))))) pss_nil)
    (pss_cons (ps_if (pt_cmpR (op_eqA hu) (pv 4) pe_int (nomark _)) (pss_one (ps_ret (pe_op op_modN (pv 2) pe_int))) pss_nil)
    (pss_cons (ps_if (pt_cmpR (op_eqA hu) (pv 4) pe_int (nomark _)) (pss_one (ps_ret (pe_op op_sub (pe_op op_modN (pv 2) pe_int) pe_int))) pss_nil)
    (pss_cons (ps_if (pt_cmpR (op_eqA hu) (pv 4) pe_int (nomark _)) (pss_one (ps_ret (pe_ix (ix_A hu) (pe_lst (pa_cons (pv 3) (pa_cons (pe_op op_sub pe_int (pv 3)) (pa_cons pe_int pa_nil)))) (pe_op op_modN (pv 2) pe_int) (fun _ _ => rfl)))) pss_nil)
    (pss_one (ps_ret (pe_op op_sub (pe_op op_modN (pv 2) (pe_op op_addA (pe_op op_mulA pe_int (pv 3)) pe_int)) (pv 3))))))))))
theorem cal_law_value (T : Txt K mg A) {f : Addr} {fd : FuncData} {f_law_cell : Addr} (G_law_cell : Cal P w K mg base 1 "_law_cell" f_law_cell ["script", "k"] (sp_law_cell K)) (F : Fun K "_law_value" "_law_value" s_law_value f fd) (hm : mg "_law_value" = some (.ref f)) (hb : Binds K fd ["script", "word"] []) :
    Cal P w K mg base 2 "_law_value" f ["script", "word"] (sp_law_value K) := cal_of F sc_law_value hm hb len_law_value (t_law_value K) (fun cdv Ar outer s H E hr => d_law_value T G_law_cell hr) (fun vs H Q E h => r_law_value vs H Q E h)
theorem d_law_digits (T : Txt K mg A) {f : Addr}  (hr : Room 0 (Ar.deeper (envOfC "_law_digits" (defScope s_law_digits) s.heap.objs.size f cdv))) :
    PSs (cxOf (L2.CX P w) P w K mg base N_law_digits "_law_digits" (defScope s_law_digits) f cdv Ar outer s H E) (defBody s_law_digits) (t_law_digits K E) := by
  have hu := hu65 hr
  exact pss_cons (ps_set (i := 1) sc_law_digits.nd rfl (Or.inl rfl) pe_str)
    (pss_cons (ps_set (i := 2) sc_law_digits.nd rfl (Or.inl rfl) (pe_callB call_abs (by rfl) T.n_abs (by decide +kernel) (pa_cons (pv 0) pa_nil)))
    (pss_cons (ps_while (passes_of rfl) (pt_cmpR op_gt (pv 2) pe_int (nomark _)) (pss_cons (ps_set (i := 1) sc_law_digits.nd rfl (Or.inl rfl) (pe_op op_addA (pe_ix (ix_A hu) pe_str (pe_op op_modN (pv 2) pe_int) (fun _ _ => rfl)) (pv 1)))
    (pss_one (ps_set (i := 2) sc_law_digits.nd rfl (Or.inl rfl) (pe_op op_fdivA (pv 2) pe_int)))))
    (pss_cons (ps_if (pt_cmpR (op_eqA hu) (pv 1) pe_str (nomark _)) (pss_one (ps_ret pe_str)) pss_nil)
    (pss_cons (ps_if (pt_cmpR op_lt (pv 0) pe_int (nomark _)) (pss_one (ps_ret (pe_op op_addA pe_str (pv 1)))) pss_nil)
    (pss_one (ps_ret (pv 1)))))))
theorem cal_law_digits (T : Txt K mg A) {f : Addr} {fd : FuncData}  (F : Fun K "_law_digits" "_law_digits" s_law_digits f fd) (hm : mg "_law_digits" = some (.ref f)) (hb : Binds K fd ["number"] []) :
    Cal P w K mg base 1 "_law_digits" f ["number"] (sp_law_digits K) := cal_of F sc_law_digits hm hb len_law_digits (t_law_digits K) (fun cdv Ar outer s H E hr => d_law_digits T  hr) (fun vs H Q E h => r_law_digits vs H Q E h)
theorem d_law_bad (T : Txt K mg A) {f : Addr} {f_law_cell : Addr} (G_law_cell : Cal P w K mg base 1 "_law_cell" f_law_cell ["script", "k"] (sp_law_cell K)) (hr : Room 1 (Ar.deeper (envOfC "_law_bad" (defScope s_law_bad) s.heap.objs.size f cdv))) :
    PSs (cxOf (L2.CX P w) P w K mg base N_law_bad "_law_bad" (defScope s_law_bad) f cdv Ar outer s H E) (defBody s_law_bad) (t_law_bad K E) := by
  have hu := hu65 hr
  have tk : Takes (cxOf (L2.CX P w) P w K mg base N_law_bad "_law_bad" (defScope s_law_bad) f cdv Ar outer s H E) (fun cls d _ H => E cls d H) := takes_of rfl rfl rfl rfl
  exact pss_cons (ps_set (i := 2) sc_law_bad.nd rfl (Or.inl rfl) (pe_op op_addA pe_int (pe_op op_modN (pe_cal G_law_cell (hr.mono (by decide)) tk (pa_cons (pv 0) (pa_cons pe_int pa_nil))) (pe_op op_pow pe_int pe_int))))
    (pss_cons (ps_set (i := 3) sc_law_bad.nd rfl (Or.inl rfl) (pe_callTy call_str_int (by rfl) T.n_str (by decide +kernel) (pa_cons (pv 2) pa_nil)))
    (pss_cons (ps_set (i := 4) sc_law_bad.nd rfl (Or.inl rfl) (pe_lst (pa_cons pe_str (pa_cons pe_str (pa_cons pe_str (pa_cons pe_str (pa_cons (pe_op op_addA pe_str (pv 3)) (pa_cons (pe_op op_addA pe_str (pv 3)) (pa_cons (pe_op op_addA pe_str (pv 3)) (pa_cons (pe_op op_addA (pv 3) pe_str) (pa_cons (pe_op op_addA pe_str (pv 3)) (pa_cons (pe_op op_addA (pv 3) pe_str) (pa_cons (pe_op op_addA pe_str (pv 3)) pa_nil)))))))))))))
    (pss_cons (ps_set (i := 4) sc_law_bad.nd rfl (Or.inl rfl) (pe_op op_addA (pv 4) (pe_lst (pa_cons (pe_op op_addA (pe_op op_addA (pe_slice sl_A (pv 3) po_none (po_some pe_int)) pe_str) (pv 3)) (pa_cons (pe_op op_addA (pv 3) pe_str) (pa_cons (pe_op op_addA pe_str (pv 3)) (pa_cons (pe_op op_addA pe_str (pv 1)) (pa_cons (pe_op op_addA (pe_op op_addA pe_str (pv 1)) pe_str) (pa_cons (pv 1) pa_nil)))))))))
    (pss_cons (ps_set (i := 4) sc_law_bad.nd rfl (Or.inl rfl) (pe_op op_addA (pv 4) (pe_lst (pa_cons (pe_op op_addA pe_str (pe_upper (pv 1))) (pa_cons (pe_op op_addA pe_str (pe_op op_mulA (pv 1) pe_int)) (pa_cons (pe_op op_mulA pe_str pe_int) (pa_cons (pe_op op_addA pe_str (pe_op op_mulA pe_str pe_int)) (pa_cons pe_non (pa_cons (pv 2) (pa_cons (pe_tup (pa_cons pe_str (pa_cons (pv 1) pa_nil))) pa_nil))))))))))
    (pss_one (ps_ret (pe_ix (ix_A hu) (pv 4) (pe_op op_modN (pe_cal G_law_cell (hr.mono (by decide)) tk (pa_cons (pv 0) (pa_cons pe_int pa_nil))) pe_int) (fun _ _ => rfl))))))))
theorem cal_law_bad (T : Txt K mg A) {f : Addr} {fd : FuncData} {f_law_cell : Addr} (G_law_cell : Cal P w K mg base 1 "_law_cell" f_law_cell ["script", "k"] (sp_law_cell K)) (F : Fun K "_law_bad" "_law_bad" s_law_bad f fd) (hm : mg "_law_bad" = some (.ref f)) (hb : Binds K fd ["script", "word"] []) :
    Cal P w K mg base 2 "_law_bad" f ["script", "word"] (sp_law_bad K) := cal_of F sc_law_bad hm hb len_law_bad (t_law_bad K) (fun cdv Ar outer s H E hr => d_law_bad T G_law_cell hr) (fun vs H Q E h => r_law_bad vs H Q E h)
theorem d_law_refused (T : Txt K mg A) {f : Addr} {f_read_value : Addr} (G_read_value : Cal P w K mg base 2 "read_value" f_read_value ["text"] (sp_read_value K A)) (hr : Room 3 (Ar.deeper (envOfC "_law_refused" (defScope s_law_refused) s.heap.objs.size f cdv))) :
    PSs (cxOf (L2.CX P w) P w K mg base N_law_refused "_law_refused" (defScope s_law_refused) f cdv Ar outer s H E) (defBody s_law_refused) (t_law_refused K A E) := by
  have hu := hu65 hr
  have tk : Takes (cxOf (L2.CX P w) P w K mg base N_law_refused "_law_refused" (defScope s_law_refused) f cdv Ar outer s H E) (fun cls d _ H => E cls d H) := takes_of rfl rfl rfl rfl
  exact pss_cons (ps_set (i := 1) sc_law_refused.nd rfl (Or.inl rfl) pe_non)
    (pss_cons (ps_try_keep (i := 2) (j := 1) rfl rfl rfl sc_law_refused.nd rfl rfl rfl rfl ⟨rfl, by decide, .inl T.g_ColsError⟩ tk (fun W pn xe tk _ => pss_one (ps_expr (pe_cal G_read_value (hr.mono (by decide)) tk (pa_cons (pv 0) pa_nil)))))
    (pss_cons (ps_if (PW.pt (pw_or (pt_val (pe_callB call_isX (by rfl) T.n_isinstance (by decide +kernel) (pa_cons (pv 1) (pa_cons (pe_glob (v := .ref (A .Nobody)) rfl T.g_Nobody rfl) pa_nil)))) (pw_or (pt_val (pe_callB call_isX (by rfl) T.n_isinstance (by decide +kernel) (pa_cons (pv 1) (pa_cons (pe_glob (v := .ref (A .NoBack)) rfl T.g_NoBack rfl) pa_nil)))) (pw_or1 (pt_val (pe_callB call_isX (by rfl) T.n_isinstance (by decide +kernel) (pa_cons (pv 1) (pa_cons (pe_glob (v := .ref (A .NoColumn)) rfl T.g_NoColumn rfl) pa_nil)))))))) (pss_one (ps_ret pe_bl)) pss_nil)
    (pss_cons (ps_if (PW.pt (pw_or (pt_val (pe_callB call_isX (by rfl) T.n_isinstance (by decide +kernel) (pa_cons (pv 1) (pa_cons (pe_glob (v := .ref (A .NoPlace)) rfl T.g_NoPlace rfl) pa_nil)))) (pw_or (pt_val (pe_callB call_isX (by rfl) T.n_isinstance (by decide +kernel) (pa_cons (pv 1) (pa_cons (pe_glob (v := .ref (A .NoRow)) rfl T.g_NoRow rfl) pa_nil)))) (pw_or1 (pt_val (pe_callB call_isX (by rfl) T.n_isinstance (by decide +kernel) (pa_cons (pv 1) (pa_cons (pe_glob (v := .ref (A .NoSize)) rfl T.g_NoSize rfl) pa_nil)))))))) (pss_one (ps_ret pe_bl)) pss_nil)
    (pss_cons (ps_if (PW.pt (pw_or (pt_val (pe_callB call_isX (by rfl) T.n_isinstance (by decide +kernel) (pa_cons (pv 1) (pa_cons (pe_glob (v := .ref (A .NoTable)) rfl T.g_NoTable rfl) pa_nil)))) (pw_or (pt_val (pe_callB call_isX (by rfl) T.n_isinstance (by decide +kernel) (pa_cons (pv 1) (pa_cons (pe_glob (v := .ref (A .NoText)) rfl T.g_NoText rfl) pa_nil)))) (pw_or1 (pt_val (pe_callB call_isX (by rfl) T.n_isinstance (by decide +kernel) (pa_cons (pv 1) (pa_cons (pe_glob (v := .ref (A .NoName)) rfl T.g_NoName rfl) pa_nil)))))))) (pss_one (ps_ret pe_bl)) pss_nil)
    (pss_cons (ps_if (PW.pt (pw_or (pt_val (pe_callB call_isX (by rfl) T.n_isinstance (by decide +kernel) (pa_cons (pv 1) (pa_cons (pe_glob (v := .ref (A .Ring)) rfl T.g_Ring rfl) pa_nil)))) (pw_or (pt_val (pe_callB call_isX (by rfl) T.n_isinstance (by decide +kernel) (pa_cons (pv 1) (pa_cons (pe_glob (v := .ref (A .Ruled)) rfl T.g_Ruled rfl) pa_nil)))) (pw_or1 (pt_val (pe_callB call_isX (by rfl) T.n_isinstance (by decide +kernel) (pa_cons (pv 1) (pa_cons (pe_glob (v := .ref (A .Several)) rfl T.g_Several rfl) pa_nil)))))))) (pss_one (ps_ret pe_bl)) pss_nil)
    (pss_one (ps_ret (pe_and (pe_callB call_isX (by rfl) T.n_isinstance (by decide +kernel) (pa_cons (pv 1) (pa_cons (pe_glob (v := .ref (A .NoValue)) rfl T.g_NoValue rfl) pa_nil))) (pe_and (pe_callB call_isX (by rfl) T.n_isinstance (by decide +kernel) (pa_cons (pv 1) (pa_cons (pe_bltn (v := .ty "ValueError") (by rfl) T.n_ValueError (by decide +kernel) rfl) pa_nil))) (pe_one (pe_not (pe_callB call_isX (by rfl) T.n_isinstance (by decide +kernel) (pa_cons (pv 1) (pa_cons (pe_glob (v := .ref (A .TooMuch)) rfl T.g_TooMuch rfl) pa_nil))))))))))))))
theorem cal_law_refused (T : Txt K mg A) {f : Addr} {fd : FuncData} {f_read_value : Addr} (G_read_value : Cal P w K mg base 2 "read_value" f_read_value ["text"] (sp_read_value K A)) (F : Fun K "_law_refused" "_law_refused" s_law_refused f fd) (hm : mg "_law_refused" = some (.ref f)) (hb : Binds K fd ["text"] []) :
    Cal P w K mg base 4 "_law_refused" f ["text"] (sp_law_refused K A) := cal_of F sc_law_refused hm hb len_law_refused (t_law_refused K A) (fun cdv Ar outer s H E hr => d_law_refused T G_read_value hr) (fun vs H Q E h => r_law_refused T.ek_NoValue vs H Q E h)
theorem d_law (T : Txt K mg A) {f : Addr} {f_law_bad : Addr} (G_law_bad : Cal P w K mg base 2 "_law_bad" f_law_bad ["script", "word"] (sp_law_bad K)) {f_law_refused : Addr} (G_law_refused : Cal P w K mg base 4 "_law_refused" f_law_refused ["text"] (sp_law_refused K A)) {f_read_value : Addr} (G_read_value : Cal P w K mg base 2 "read_value" f_read_value ["text"] (sp_read_value K A)) {f_show_value : Addr} (G_show_value : Cal P w K mg base 3 "show_value" f_show_value ["value"] (sp_show_value K)) {f_law_digits : Addr} (G_law_digits : Cal P w K mg base 1 "_law_digits" f_law_digits ["number"] (sp_law_digits K)) {f_law_value : Addr} (G_law_value : Cal P w K mg base 2 "_law_value" f_law_value ["script", "word"] (sp_law_value K)) {f_law_word : Addr} (G_law_word : Cal P w K mg base 2 "_law_word" f_law_word ["script"] (sp_law_word K)) (hr : Room 4 (Ar.deeper (envOfC "law" (defScope s_law) s.heap.objs.size f cdv))) :
    PSs (cxOf (L2.CX P w) P w K mg base N_law "law" (defScope s_law) f cdv Ar outer s H E) (defBody s_law) (t_law K A E) := by
  have hu := hu65 hr
  have tk : Takes (cxOf (L2.CX P w) P w K mg base N_law "law" (defScope s_law) f cdv Ar outer s H E) (fun cls d _ H => E cls d H) := takes_of rfl rfl rfl rfl
  exact pss_cons (ps_set (i := 1) sc_law.nd rfl (Or.inl rfl) (pe_cal G_law_word (hr.mono (by decide)) tk (pa_cons (pv 0) pa_nil)))
    (pss_cons (ps_set (i := 2) sc_law.nd rfl (Or.inl rfl) (pe_cal G_law_value (hr.mono (by decide)) tk (pa_cons (pv 0) (pa_cons (pv 1) pa_nil))))
    (pss_cons (ps_set (i := 3) sc_law.nd rfl (Or.inl rfl) (pe_op op_addA pe_str (pv 1)))
    (pss_cons (ps_if (pt_val (pe_callB call_isiA (by rfl) T.n_isinstance (by decide +kernel) (pa_cons (pv 2) (pa_cons (pe_bltn (v := .ty "int") (by rfl) T.n_int (by decide +kernel) rfl) pa_nil)))) (pss_one (ps_set (i := 3) sc_law.nd rfl (Or.inl rfl) (pe_cal G_law_digits (hr.mono (by decide)) tk (pa_cons (pv 2) pa_nil)))) pss_nil)
    (pss_cons (ps_set (i := 4) sc_law.nd rfl (Or.inl rfl) (pe_cal G_show_value (hr.mono (by decide)) tk (pa_cons (pv 2) pa_nil)))
    (pss_cons (ps_if (PW.pt (pw_or (pt_not (pt_val (pe_callB call_isiA (by rfl) T.n_isinstance (by decide +kernel) (pa_cons (pv 4) (pa_cons (pe_bltn (v := .ty "str") (by rfl) T.n_str (by decide +kernel) rfl) pa_nil))))) (pw_or1 (pt_cmpR (op_neA hu) (pv 4) (pv 3) (nomark _))))) (pss_one (ps_ret pe_bl)) pss_nil)
    (pss_cons (ps_set (i := 5) sc_law.nd rfl (Or.inl rfl) (pe_ifExp (pt_cmpR (op_eqA hu) (pv 2) (pe_op op_sub pe_int pe_int) (nomark _)) pe_int (pe_op op_sub pe_int pe_int)))
    (pss_cons (ps_if (PW.pt (pw_or (pt_cmpR (op_neA hu) (pe_cal G_show_value (hr.mono (by decide)) tk (pa_cons (pv 5) pa_nil)) (pe_ix (ix_A hu) (pe_lst (pa_cons pe_str (pa_cons pe_str pa_nil))) (pe_callTy call_intA (by rfl) T.n_int (by decide +kernel) (pa_cons (pe_cmpR op_lt (pv 5) pe_int (nomark _)) pa_nil)) (fun _ _ => rfl)) (nomark _)) (pw_or1 (pt_cmpR (op_neA hu) (pe_cal G_show_value (hr.mono (by decide)) tk (pa_cons (pv 2) pa_nil)) (pv 3) (nomark _))))) (pss_one (ps_ret pe_bl)) pss_nil)
    (pss_cons (ps_set (i := 6) sc_law.nd rfl (Or.inl rfl) (pe_cal G_read_value (hr.mono (by decide)) tk (pa_cons (pv 3) pa_nil)))
    (pss_cons (ps_if (PW.pt (pw_or (pt_val (pe_callB call_isiA (by rfl) T.n_isinstance (by decide +kernel) (pa_cons (pv 6) (pa_cons (pe_bltn (v := .ty "bool") (by rfl) T.n_bool (by decide +kernel) rfl) pa_nil)))) (pw_or (pt_cmpR (op_neA hu) (pe_callB call_isiA (by rfl) T.n_isinstance (by decide +kernel) (pa_cons (pv 6) (pa_cons (pe_bltn (v := .ty "int") (by rfl) T.n_int (by decide +kernel) rfl) pa_nil))) (pe_callB call_isiA (by rfl) T.n_isinstance (by decide +kernel) (pa_cons (pv 2) (pa_cons (pe_bltn (v := .ty "int") (by rfl) T.n_int (by decide +kernel) rfl) pa_nil))) (nomark _)) (pw_or1 (pt_cmpR (op_neA hu) (pv 6) (pv 2) (nomark _)))))) (pss_one (ps_ret pe_bl)) pss_nil)
    (pss_one (ps_ret (pe_and (pe_cal G_law_refused (hr.mono (by decide)) tk (pa_cons (pe_cal G_law_bad (hr.mono (by decide)) tk (pa_cons (pv 0) (pa_cons (pv 1) pa_nil))) pa_nil)) (pe_one (pe_cmpR (op_eqA hu) (pe_cal G_read_value (hr.mono (by decide)) tk (pa_cons (pv 3) pa_nil)) (pv 2) (nomark _)))))))))))))))
theorem fn_law (T : Txt K mg A) {f : Addr} {fd : FuncData} {f_law_bad : Addr} (G_law_bad : Cal P w K mg base 2 "_law_bad" f_law_bad ["script", "word"] (sp_law_bad K)) {f_law_refused : Addr} (G_law_refused : Cal P w K mg base 4 "_law_refused" f_law_refused ["text"] (sp_law_refused K A)) {f_read_value : Addr} (G_read_value : Cal P w K mg base 2 "read_value" f_read_value ["text"] (sp_read_value K A)) {f_show_value : Addr} (G_show_value : Cal P w K mg base 3 "show_value" f_show_value ["value"] (sp_show_value K)) {f_law_digits : Addr} (G_law_digits : Cal P w K mg base 1 "_law_digits" f_law_digits ["number"] (sp_law_digits K)) {f_law_value : Addr} (G_law_value : Cal P w K mg base 2 "_law_value" f_law_value ["script", "word"] (sp_law_value K)) {f_law_word : Addr} (G_law_word : Cal P w K mg base 2 "_law_word" f_law_word ["script"] (sp_law_word K)) (F : Fun K "law" "law" s_law f fd) : FnOk P w K mg base (L2.CX P w) 5 f fd ["script"] (spLaw K) :=
  fnx_of F sc_law len_law (t_law K A) (fun cdv Ar outer s H E hr => d_law T G_law_bad G_law_refused G_read_value G_show_value G_law_digits G_law_value G_law_word hr) (fun vs H Q E h => r_law vs H Q E h)
end
theorem all_mk {l : PySem.W.OpenLaw} {w : World} {K : PySem.W.Frag} {h : Heap} {mg : Str → Option Value} {fa : Addr} {C_ColsError C_NoName C_NoValue C_NoTable C_NoColumn C_NoPlace C_NoSize C_NoText C_NoRow C_NoBack C_TooMuch C_Ruled C_Ring C_Nobody C_Several : Addr} {f_is_name f_is_fault f_whole_of f_show_value f_read_value f_law_cell f_law_word f_law_value f_law_digits f_law_bad f_law_refused f_law : Addr} {od_is_name an_is_name od_is_fault an_is_fault od_whole_of an_whole_of od_show_value an_show_value od_read_value an_read_value od_law_cell an_law_cell od_law_word an_law_word od_law_value an_law_value od_law_digits an_law_digits od_law_bad an_law_bad od_law_refused an_law_refused od_law an_law : Option Addr} {sl_is_name sl_is_fault sl_whole_of sl_show_value sl_read_value sl_law_cell sl_law_word sl_law_value sl_law_digits sl_law_bad sl_law_refused sl_law : Array (Option Value)} {oc_is_name kV_is_name dc_is_name pm_is_name cd_is_name ct_is_name oc_is_fault kV_is_fault dc_is_fault pm_is_fault cd_is_fault ct_is_fault oc_whole_of kV_whole_of dc_whole_of pm_whole_of cd_whole_of ct_whole_of oc_show_value kV_show_value dc_show_value pm_show_value cd_show_value ct_show_value oc_read_value kV_read_value dc_read_value pm_read_value cd_read_value ct_read_value oc_law_cell kV_law_cell dc_law_cell pm_law_cell cd_law_cell ct_law_cell oc_law_word kV_law_word dc_law_word pm_law_word cd_law_word ct_law_word oc_law_value kV_law_value dc_law_value pm_law_value cd_law_value ct_law_value oc_law_digits kV_law_digits dc_law_digits pm_law_digits cd_law_digits ct_law_digits oc_law_bad kV_law_bad dc_law_bad pm_law_bad cd_law_bad ct_law_bad oc_law_refused kV_law_refused dc_law_refused pm_law_refused cd_law_refused ct_law_refused oc_law kV_law dc_law pm_law cd_law ct_law : Value} {tk_LETTERS tk_FIGURES : Tok} (X : K.In h) (G : h.Ns mainGlobals mg) (hfa : mg "law" = some (.ref fa))
    (a_ColsError : PySem.W.nsIn K mainGlobals "ColsError" = some (some (.ref C_ColsError)))
    (a_NoName : PySem.W.nsIn K mainGlobals "NoName" = some (some (.ref C_NoName)))
    (a_NoValue : PySem.W.nsIn K mainGlobals "NoValue" = some (some (.ref C_NoValue)))
    (a_NoTable : PySem.W.nsIn K mainGlobals "NoTable" = some (some (.ref C_NoTable)))
    (a_NoColumn : PySem.W.nsIn K mainGlobals "NoColumn" = some (some (.ref C_NoColumn)))
    (a_NoPlace : PySem.W.nsIn K mainGlobals "NoPlace" = some (some (.ref C_NoPlace)))
    (a_NoSize : PySem.W.nsIn K mainGlobals "NoSize" = some (some (.ref C_NoSize)))
    (a_NoText : PySem.W.nsIn K mainGlobals "NoText" = some (some (.ref C_NoText)))
    (a_NoRow : PySem.W.nsIn K mainGlobals "NoRow" = some (some (.ref C_NoRow)))
    (a_NoBack : PySem.W.nsIn K mainGlobals "NoBack" = some (some (.ref C_NoBack)))
    (a_TooMuch : PySem.W.nsIn K mainGlobals "TooMuch" = some (some (.ref C_TooMuch)))
    (a_Ruled : PySem.W.nsIn K mainGlobals "Ruled" = some (some (.ref C_Ruled)))
    (a_Ring : PySem.W.nsIn K mainGlobals "Ring" = some (some (.ref C_Ring)))
    (a_Nobody : PySem.W.nsIn K mainGlobals "Nobody" = some (some (.ref C_Nobody)))
    (a_Several : PySem.W.nsIn K mainGlobals "Several" = some (some (.ref C_Several)))
    (a_is_name : PySem.W.nsIn K mainGlobals "is_name" = some (some (.ref f_is_name)))
    (l_is_name : K.lookup f_is_name = some ⟨oc_is_name, od_is_name, .func (PySem.W.fnOf "is_name" "is_name" (defArgs s_is_name) (defBody s_is_name) (defScope s_is_name) .none kV_is_name dc_is_name pm_is_name an_is_name cd_is_name ct_is_name), sl_is_name⟩)
    (c_is_name : PySem.W.codeIn K cd_is_name "is_name" = true)
    (k_is_name : PySem.W.keepIn K (.ref f_is_name) = true)
    (a_is_fault : PySem.W.nsIn K mainGlobals "is_fault" = some (some (.ref f_is_fault)))
    (l_is_fault : K.lookup f_is_fault = some ⟨oc_is_fault, od_is_fault, .func (PySem.W.fnOf "is_fault" "is_fault" (defArgs s_is_fault) (defBody s_is_fault) (defScope s_is_fault) .none kV_is_fault dc_is_fault pm_is_fault an_is_fault cd_is_fault ct_is_fault), sl_is_fault⟩)
    (c_is_fault : PySem.W.codeIn K cd_is_fault "is_fault" = true)
    (k_is_fault : PySem.W.keepIn K (.ref f_is_fault) = true)
    (a_whole_of : PySem.W.nsIn K mainGlobals "whole_of" = some (some (.ref f_whole_of)))
    (l_whole_of : K.lookup f_whole_of = some ⟨oc_whole_of, od_whole_of, .func (PySem.W.fnOf "whole_of" "whole_of" (defArgs s_whole_of) (defBody s_whole_of) (defScope s_whole_of) .none kV_whole_of dc_whole_of pm_whole_of an_whole_of cd_whole_of ct_whole_of), sl_whole_of⟩)
    (c_whole_of : PySem.W.codeIn K cd_whole_of "whole_of" = true)
    (k_whole_of : PySem.W.keepIn K (.ref f_whole_of) = true)
    (a_show_value : PySem.W.nsIn K mainGlobals "show_value" = some (some (.ref f_show_value)))
    (l_show_value : K.lookup f_show_value = some ⟨oc_show_value, od_show_value, .func (PySem.W.fnOf "show_value" "show_value" (defArgs s_show_value) (defBody s_show_value) (defScope s_show_value) .none kV_show_value dc_show_value pm_show_value an_show_value cd_show_value ct_show_value), sl_show_value⟩)
    (c_show_value : PySem.W.codeIn K cd_show_value "show_value" = true)
    (k_show_value : PySem.W.keepIn K (.ref f_show_value) = true)
    (a_read_value : PySem.W.nsIn K mainGlobals "read_value" = some (some (.ref f_read_value)))
    (l_read_value : K.lookup f_read_value = some ⟨oc_read_value, od_read_value, .func (PySem.W.fnOf "read_value" "read_value" (defArgs s_read_value) (defBody s_read_value) (defScope s_read_value) .none kV_read_value dc_read_value pm_read_value an_read_value cd_read_value ct_read_value), sl_read_value⟩)
    (c_read_value : PySem.W.codeIn K cd_read_value "read_value" = true)
    (k_read_value : PySem.W.keepIn K (.ref f_read_value) = true)
    (a_law_cell : PySem.W.nsIn K mainGlobals "_law_cell" = some (some (.ref f_law_cell)))
    (l_law_cell : K.lookup f_law_cell = some ⟨oc_law_cell, od_law_cell, .func (PySem.W.fnOf "_law_cell" "_law_cell" (defArgs s_law_cell) (defBody s_law_cell) (defScope s_law_cell) .none kV_law_cell dc_law_cell pm_law_cell an_law_cell cd_law_cell ct_law_cell), sl_law_cell⟩)
    (c_law_cell : PySem.W.codeIn K cd_law_cell "_law_cell" = true)
    (k_law_cell : PySem.W.keepIn K (.ref f_law_cell) = true)
    (a_law_word : PySem.W.nsIn K mainGlobals "_law_word" = some (some (.ref f_law_word)))
    (l_law_word : K.lookup f_law_word = some ⟨oc_law_word, od_law_word, .func (PySem.W.fnOf "_law_word" "_law_word" (defArgs s_law_word) (defBody s_law_word) (defScope s_law_word) .none kV_law_word dc_law_word pm_law_word an_law_word cd_law_word ct_law_word), sl_law_word⟩)
    (c_law_word : PySem.W.codeIn K cd_law_word "_law_word" = true)
    (k_law_word : PySem.W.keepIn K (.ref f_law_word) = true)
    (a_law_value : PySem.W.nsIn K mainGlobals "_law_value" = some (some (.ref f_law_value)))
    (l_law_value : K.lookup f_law_value = some ⟨oc_law_value, od_law_value, .func (PySem.W.fnOf "_law_value" "_law_value" (defArgs s_law_value) (defBody s_law_value) (defScope s_law_value) .none kV_law_value dc_law_value pm_law_value an_law_value cd_law_value ct_law_value), sl_law_value⟩)
    (c_law_value : PySem.W.codeIn K cd_law_value "_law_value" = true)
    (k_law_value : PySem.W.keepIn K (.ref f_law_value) = true)
    (a_law_digits : PySem.W.nsIn K mainGlobals "_law_digits" = some (some (.ref f_law_digits)))
    (l_law_digits : K.lookup f_law_digits = some ⟨oc_law_digits, od_law_digits, .func (PySem.W.fnOf "_law_digits" "_law_digits" (defArgs s_law_digits) (defBody s_law_digits) (defScope s_law_digits) .none kV_law_digits dc_law_digits pm_law_digits an_law_digits cd_law_digits ct_law_digits), sl_law_digits⟩)
    (c_law_digits : PySem.W.codeIn K cd_law_digits "_law_digits" = true)
    (k_law_digits : PySem.W.keepIn K (.ref f_law_digits) = true)
    (a_law_bad : PySem.W.nsIn K mainGlobals "_law_bad" = some (some (.ref f_law_bad)))
    (l_law_bad : K.lookup f_law_bad = some ⟨oc_law_bad, od_law_bad, .func (PySem.W.fnOf "_law_bad" "_law_bad" (defArgs s_law_bad) (defBody s_law_bad) (defScope s_law_bad) .none kV_law_bad dc_law_bad pm_law_bad an_law_bad cd_law_bad ct_law_bad), sl_law_bad⟩)
    (c_law_bad : PySem.W.codeIn K cd_law_bad "_law_bad" = true)
    (k_law_bad : PySem.W.keepIn K (.ref f_law_bad) = true)
    (a_law_refused : PySem.W.nsIn K mainGlobals "_law_refused" = some (some (.ref f_law_refused)))
    (l_law_refused : K.lookup f_law_refused = some ⟨oc_law_refused, od_law_refused, .func (PySem.W.fnOf "_law_refused" "_law_refused" (defArgs s_law_refused) (defBody s_law_refused) (defScope s_law_refused) .none kV_law_refused dc_law_refused pm_law_refused an_law_refused cd_law_refused ct_law_refused), sl_law_refused⟩)
    (c_law_refused : PySem.W.codeIn K cd_law_refused "_law_refused" = true)
    (k_law_refused : PySem.W.keepIn K (.ref f_law_refused) = true)
    (a_law : PySem.W.nsIn K mainGlobals "law" = some (some (.ref f_law)))
    (l_law : K.lookup f_law = some ⟨oc_law, od_law, .func (PySem.W.fnOf "law" "law" (defArgs s_law) (defBody s_law) (defScope s_law) .none kV_law dc_law pm_law an_law cd_law ct_law), sl_law⟩)
    (c_law : PySem.W.codeIn K cd_law "law" = true)
    (k_law : PySem.W.keepIn K (.ref f_law) = true)
    (n_ValueError : PySem.W.nsIn K mainGlobals "ValueError" = some none)
    (n_abs : PySem.W.nsIn K mainGlobals "abs" = some none)
    (n_all : PySem.W.nsIn K mainGlobals "all" = some none)
    (n_bool : PySem.W.nsIn K mainGlobals "bool" = some none)
    (n_int : PySem.W.nsIn K mainGlobals "int" = some none)
    (n_isinstance : PySem.W.nsIn K mainGlobals "isinstance" = some none)
    (n_len : PySem.W.nsIn K mainGlobals "len" = some none)
    (n_range : PySem.W.nsIn K mainGlobals "range" = some none)
    (n_str : PySem.W.nsIn K mainGlobals "str" = some none)
    (n_tuple : PySem.W.nsIn K mainGlobals "tuple" = some none)
    (g_LETTERS : PySem.W.nsIn K mainGlobals "LETTERS" = some (some (.str "abcdefghijklmnopqrstuvwxyz" tk_LETTERS)))
    (g_FIGURES : PySem.W.nsIn K mainGlobals "FIGURES" = some (some (.str "0123456789" tk_FIGURES)))
    (xx_NoValue : PySem.W.excIn K C_NoValue [.type "ValueError", .type "Exception", .type "BaseException", .type "object"] "ValueError.__new__" = true)
    (xk_NoValue : PySem.W.keepIn K (.ref C_NoValue) = true)
    (xb_NoValue : PySem.W.subIn K (.ref C_NoValue) (.type "BaseException") = some true)
    (xt_NoValue : PySem.W.typeIn K (.ref C_NoValue) = some (.type "type"))
    (xcg_NoValue : PySem.W.findIn K (.ref C_NoValue) "__getattribute__" = some (some (.builtin "BaseException.__getattribute__")))
    (xck_NoValue : PySem.W.findIn K (.ref C_NoValue) "__getattr__" = some none)
    (xcd_NoValue : PySem.W.hasDictIn K C_NoValue = true)
    (xca_NoValue : PySem.W.findIn K (.ref C_NoValue) "__class__" = some (some (.builtin "object.__class__")))
    (xcn : PySem.W.specialIn K (.builtin "object.__class__") "__get__" = some (some (.builtin "getset_descriptor.__get__")))
    (xct : PySem.W.takesIn K (.builtin "object.__class__") = some true)
    (xcm_NoValue : PySem.W.mroIn K C_NoValue (.type "object") = some true)
    (xb_ColsError : PySem.W.subIn K (.ref C_ColsError) (.type "BaseException") = some true)
    (xv_NoValue : PySem.W.subIn K (.ref C_NoValue) (.type "ValueError") = some true)
    (yy_NoValue_NoValue : PySem.W.subIn K (.ref C_NoValue) (.ref C_NoValue) = some true)
    (xi_Nobody : PySem.W.isClsIn K C_Nobody = true)
    (xt_Nobody : PySem.W.typeIn K (.ref C_Nobody) = some (.type "type"))
    (yy_NoValue_Nobody : PySem.W.subIn K (.ref C_NoValue) (.ref C_Nobody) = some false)
    (xi_NoBack : PySem.W.isClsIn K C_NoBack = true)
    (xt_NoBack : PySem.W.typeIn K (.ref C_NoBack) = some (.type "type"))
    (yy_NoValue_NoBack : PySem.W.subIn K (.ref C_NoValue) (.ref C_NoBack) = some false)
    (xi_NoColumn : PySem.W.isClsIn K C_NoColumn = true)
    (xt_NoColumn : PySem.W.typeIn K (.ref C_NoColumn) = some (.type "type"))
    (yy_NoValue_NoColumn : PySem.W.subIn K (.ref C_NoValue) (.ref C_NoColumn) = some false)
    (xi_NoPlace : PySem.W.isClsIn K C_NoPlace = true)
    (xt_NoPlace : PySem.W.typeIn K (.ref C_NoPlace) = some (.type "type"))
    (yy_NoValue_NoPlace : PySem.W.subIn K (.ref C_NoValue) (.ref C_NoPlace) = some false)
    (xi_NoRow : PySem.W.isClsIn K C_NoRow = true)
    (xt_NoRow : PySem.W.typeIn K (.ref C_NoRow) = some (.type "type"))
    (yy_NoValue_NoRow : PySem.W.subIn K (.ref C_NoValue) (.ref C_NoRow) = some false)
    (xi_NoSize : PySem.W.isClsIn K C_NoSize = true)
    (xt_NoSize : PySem.W.typeIn K (.ref C_NoSize) = some (.type "type"))
    (yy_NoValue_NoSize : PySem.W.subIn K (.ref C_NoValue) (.ref C_NoSize) = some false)
    (xi_NoTable : PySem.W.isClsIn K C_NoTable = true)
    (xt_NoTable : PySem.W.typeIn K (.ref C_NoTable) = some (.type "type"))
    (yy_NoValue_NoTable : PySem.W.subIn K (.ref C_NoValue) (.ref C_NoTable) = some false)
    (xi_NoText : PySem.W.isClsIn K C_NoText = true)
    (xt_NoText : PySem.W.typeIn K (.ref C_NoText) = some (.type "type"))
    (yy_NoValue_NoText : PySem.W.subIn K (.ref C_NoValue) (.ref C_NoText) = some false)
    (xi_NoName : PySem.W.isClsIn K C_NoName = true)
    (xt_NoName : PySem.W.typeIn K (.ref C_NoName) = some (.type "type"))
    (yy_NoValue_NoName : PySem.W.subIn K (.ref C_NoValue) (.ref C_NoName) = some false)
    (xi_Ring : PySem.W.isClsIn K C_Ring = true)
    (xt_Ring : PySem.W.typeIn K (.ref C_Ring) = some (.type "type"))
    (yy_NoValue_Ring : PySem.W.subIn K (.ref C_NoValue) (.ref C_Ring) = some false)
    (xi_Ruled : PySem.W.isClsIn K C_Ruled = true)
    (xt_Ruled : PySem.W.typeIn K (.ref C_Ruled) = some (.type "type"))
    (yy_NoValue_Ruled : PySem.W.subIn K (.ref C_NoValue) (.ref C_Ruled) = some false)
    (xi_Several : PySem.W.isClsIn K C_Several = true)
    (xt_Several : PySem.W.typeIn K (.ref C_Several) = some (.type "type"))
    (yy_NoValue_Several : PySem.W.subIn K (.ref C_NoValue) (.ref C_Several) = some false)
    (xi_NoValue : PySem.W.isClsIn K C_NoValue = true)
    (xi_TooMuch : PySem.W.isClsIn K C_TooMuch = true)
    (xt_TooMuch : PySem.W.typeIn K (.ref C_TooMuch) = some (.type "type"))
    (yy_NoValue_TooMuch : PySem.W.subIn K (.ref C_NoValue) (.ref C_TooMuch) = some false)
    (xi_ColsError : PySem.W.isClsIn K C_ColsError = true)
    (xt_ColsError : PySem.W.typeIn K (.ref C_ColsError) = some (.type "type"))
    (yy_NoValue_ColsError : PySem.W.subIn K (.ref C_NoValue) (.ref C_ColsError) = some true) :
    ∃ fd : FuncData, (∀ (s : Shared) (v : Value), BindsTo s fd ⟨[v], []⟩ [("script", v)]) ∧ ∀ base : Heap, K.In base → base.Ns mainGlobals mg → FnOk l.prog w K mg base (L2.CX l.prog w) 5 fa fd ["script"] (spLaw K) := by
  have e := hfa.symm.trans (PySem.W.mg_of X G a_law)
  cases e
  let A : Cn → Addr := fun | .ColsError => C_ColsError | .NoName => C_NoName | .NoValue => C_NoValue | .NoTable => C_NoTable | .NoColumn => C_NoColumn | .NoPlace => C_NoPlace | .NoSize => C_NoSize | .NoText => C_NoText | .NoRow => C_NoRow | .NoBack => C_NoBack | .TooMuch => C_TooMuch | .Ruled => C_Ruled | .Ring => C_Ring | .Nobody => C_Nobody | .Several => C_Several | _ => 0
  have T : Txt K mg A := { n_ValueError := PySem.W.mg_none_of X G n_ValueError, n_abs := PySem.W.mg_none_of X G n_abs, n_all := PySem.W.mg_none_of X G n_all, n_bool := PySem.W.mg_none_of X G n_bool, n_int := PySem.W.mg_none_of X G n_int, n_isinstance := PySem.W.mg_none_of X G n_isinstance, n_len := PySem.W.mg_none_of X G n_len, n_range := PySem.W.mg_none_of X G n_range, n_str := PySem.W.mg_none_of X G n_str, n_tuple := PySem.W.mg_none_of X G n_tuple, g_LETTERS := ⟨_, PySem.W.mg_of X G g_LETTERS⟩, g_FIGURES := ⟨_, PySem.W.mg_of X G g_FIGURES⟩, g_ColsError := PySem.W.mg_of X G a_ColsError, g_NoName := PySem.W.mg_of X G a_NoName, g_NoValue := PySem.W.mg_of X G a_NoValue, g_NoTable := PySem.W.mg_of X G a_NoTable, g_NoColumn := PySem.W.mg_of X G a_NoColumn, g_NoPlace := PySem.W.mg_of X G a_NoPlace, g_NoSize := PySem.W.mg_of X G a_NoSize, g_NoText := PySem.W.mg_of X G a_NoText, g_NoRow := PySem.W.mg_of X G a_NoRow, g_NoBack := PySem.W.mg_of X G a_NoBack, g_TooMuch := PySem.W.mg_of X G a_TooMuch, g_Ruled := PySem.W.mg_of X G a_Ruled, g_Ring := PySem.W.mg_of X G a_Ring, g_Nobody := PySem.W.mg_of X G a_Nobody, g_Several := PySem.W.mg_of X G a_Several, x_NoValue := xx_NoValue, k_NoValue := xk_NoValue, b_NoValue := xb_NoValue, t_NoValue := xt_NoValue, ek_NoValue := ⟨⟨xcg_NoValue, xck_NoValue, xb_NoValue, xcd_NoValue, xca_NoValue, xcn, xct, xcm_NoValue⟩, exm_of xb_ColsError xi_ColsError xt_ColsError yy_NoValue_ColsError, List.forall_mem_cons.mpr ⟨kit_of xi_Nobody xt_Nobody yy_NoValue_Nobody yy_NoValue_NoValue, List.forall_mem_cons.mpr ⟨kit_of xi_NoBack xt_NoBack yy_NoValue_NoBack yy_NoValue_NoValue, List.forall_mem_cons.mpr ⟨kit_of xi_NoColumn xt_NoColumn yy_NoValue_NoColumn yy_NoValue_NoValue, List.forall_mem_cons.mpr ⟨kit_of xi_NoPlace xt_NoPlace yy_NoValue_NoPlace yy_NoValue_NoValue, List.forall_mem_cons.mpr ⟨kit_of xi_NoRow xt_NoRow yy_NoValue_NoRow yy_NoValue_NoValue, List.forall_mem_cons.mpr ⟨kit_of xi_NoSize xt_NoSize yy_NoValue_NoSize yy_NoValue_NoValue, List.forall_mem_cons.mpr ⟨kit_of xi_NoTable xt_NoTable yy_NoValue_NoTable yy_NoValue_NoValue, List.forall_mem_cons.mpr ⟨kit_of xi_NoText xt_NoText yy_NoValue_NoText yy_NoValue_NoValue, List.forall_mem_cons.mpr ⟨kit_of xi_NoName xt_NoName yy_NoValue_NoName yy_NoValue_NoValue, List.forall_mem_cons.mpr ⟨kit_of xi_Ring xt_Ring yy_NoValue_Ring yy_NoValue_NoValue, List.forall_mem_cons.mpr ⟨kit_of xi_Ruled xt_Ruled yy_NoValue_Ruled yy_NoValue_NoValue, List.forall_mem_cons.mpr ⟨kit_of xi_Several xt_Several yy_NoValue_Several yy_NoValue_NoValue, List.forall_mem_cons.mpr ⟨kit_of xi_NoValue xt_NoValue yy_NoValue_NoValue yy_NoValue_NoValue, List.forall_mem_cons.mpr ⟨kit_of xi_TooMuch xt_TooMuch yy_NoValue_TooMuch yy_NoValue_NoValue, List.forall_mem_nil _⟩⟩⟩⟩⟩⟩⟩⟩⟩⟩⟩⟩⟩⟩, kitv_of xv_NoValue⟩ }
  have F_is_name := fun_mk (st := s_is_name) l_is_name c_is_name k_is_name
  have b_is_name := F_is_name.binds (ps := ["thing"]) fun _ _ _ _ _ _ us hl => match us, hl with | [_], _ => rfl
  have F_is_fault := fun_mk (st := s_is_fault) l_is_fault c_is_fault k_is_fault
  have b_is_fault := F_is_fault.binds (ps := ["thing"]) fun _ _ _ _ _ _ us hl => match us, hl with | [_], _ => rfl
  have F_whole_of := fun_mk (st := s_whole_of) l_whole_of c_whole_of k_whole_of
  have b_whole_of := F_whole_of.binds (ps := ["word"]) fun _ _ _ _ _ _ us hl => match us, hl with | [_], _ => rfl
  have F_show_value := fun_mk (st := s_show_value) l_show_value c_show_value k_show_value
  have b_show_value := F_show_value.binds (ps := ["value"]) fun _ _ _ _ _ _ us hl => match us, hl with | [_], _ => rfl
  have F_read_value := fun_mk (st := s_read_value) l_read_value c_read_value k_read_value
  have b_read_value := F_read_value.binds (ps := ["text"]) fun _ _ _ _ _ _ us hl => match us, hl with | [_], _ => rfl
  have F_law_cell := fun_mk (st := s_law_cell) l_law_cell c_law_cell k_law_cell
  have b_law_cell := F_law_cell.binds (ps := ["script", "k"]) fun _ _ _ _ _ _ us hl => match us, hl with | [_, _], _ => rfl
  have F_law_word := fun_mk (st := s_law_word) l_law_word c_law_word k_law_word
  have b_law_word := F_law_word.binds (ps := ["script"]) fun _ _ _ _ _ _ us hl => match us, hl with | [_], _ => rfl
  have F_law_value := fun_mk (st := s_law_value) l_law_value c_law_value k_law_value
  have b_law_value := F_law_value.binds (ps := ["script", "word"]) fun _ _ _ _ _ _ us hl => match us, hl with | [_, _], _ => rfl
  have F_law_digits := fun_mk (st := s_law_digits) l_law_digits c_law_digits k_law_digits
  have b_law_digits := F_law_digits.binds (ps := ["number"]) fun _ _ _ _ _ _ us hl => match us, hl with | [_], _ => rfl
  have F_law_bad := fun_mk (st := s_law_bad) l_law_bad c_law_bad k_law_bad
  have b_law_bad := F_law_bad.binds (ps := ["script", "word"]) fun _ _ _ _ _ _ us hl => match us, hl with | [_, _], _ => rfl
  have F_law_refused := fun_mk (st := s_law_refused) l_law_refused c_law_refused k_law_refused
  have b_law_refused := F_law_refused.binds (ps := ["text"]) fun _ _ _ _ _ _ us hl => match us, hl with | [_], _ => rfl
  have F_law := fun_mk (st := s_law) l_law c_law k_law
  have b_law := F_law.binds (ps := ["script"]) fun _ _ _ _ _ _ us hl => match us, hl with | [_], _ => rfl
  refine ⟨PySem.W.fnOf "law" "law" (defArgs s_law) (defBody s_law) (defScope s_law) .none kV_law dc_law pm_law an_law cd_law ct_law, fun s v => .of_eq rfl, fun base _ _ => ?_⟩
  have G_is_name := cal_is_name (P := l.prog) (w := w) (base := base) T  F_is_name (PySem.W.mg_of X G a_is_name) b_is_name
  have G_is_fault := cal_is_fault (P := l.prog) (w := w) (base := base) T G_is_name F_is_fault (PySem.W.mg_of X G a_is_fault) b_is_fault
  have G_whole_of := cal_whole_of (P := l.prog) (w := w) (base := base) T  F_whole_of (PySem.W.mg_of X G a_whole_of) b_whole_of
  have G_show_value := cal_show_value (P := l.prog) (w := w) (base := base) T G_is_fault F_show_value (PySem.W.mg_of X G a_show_value) b_show_value
  have G_read_value := cal_read_value (P := l.prog) (w := w) (base := base) T G_whole_of G_is_name F_read_value (PySem.W.mg_of X G a_read_value) b_read_value
  have G_law_cell := cal_law_cell (P := l.prog) (w := w) (base := base) T  F_law_cell (PySem.W.mg_of X G a_law_cell) b_law_cell
  have G_law_word := cal_law_word (P := l.prog) (w := w) (base := base) T G_law_cell F_law_word (PySem.W.mg_of X G a_law_word) b_law_word
  have G_law_value := cal_law_value (P := l.prog) (w := w) (base := base) T G_law_cell F_law_value (PySem.W.mg_of X G a_law_value) b_law_value
  have G_law_digits := cal_law_digits (P := l.prog) (w := w) (base := base) T  F_law_digits (PySem.W.mg_of X G a_law_digits) b_law_digits
  have G_law_bad := cal_law_bad (P := l.prog) (w := w) (base := base) T G_law_cell F_law_bad (PySem.W.mg_of X G a_law_bad) b_law_bad
  have G_law_refused := cal_law_refused (P := l.prog) (w := w) (base := base) T G_read_value F_law_refused (PySem.W.mg_of X G a_law_refused) b_law_refused
  exact fn_law (P := l.prog) (w := w) (base := base) T G_law_bad G_law_refused G_read_value G_show_value G_law_digits G_law_value G_law_word F_law
theorem walk {l : PySem.W.OpenLaw} {q : Program} {loose : List Str} {XP : (Str → Option Value) → Heap → Prop} {YP : World → Heap → Prop} {d : DefRec} {K : Params → PySem.W.Frag} (hn : l.most = some 63) (hdf : d.params.defaults = [])
    (hY : ∀ (w : World) (h : Heap), YP w h → (K w.params).In h)
    (F : ∀ (w : World) (mg : Str → Option Value) (fa : Addr) (h : Heap), (K w.params).In h → h.Ns mainGlobals mg → mg d.name = some (.ref fa) →
      ∃ fd : FuncData, (∀ (s : Shared) (u : Value), BindsTo s fd ⟨[u], []⟩ [("script", u)]) ∧ ∀ base : Heap, (K w.params).In base → base.Ns mainGlobals mg → FnOk l.prog w (K w.params) mg base (L2.CX l.prog w) 5 fa fd ["script"] (spLaw (K w.params))) :
    PySem.W.WalkO q loose XP YP l.row.toRowW d [] (fun f vs => PySem.call f vs) :=
  L2.walk_of (n := 63) (k := 5) (x := "script") (CX := fun w => L2.CX l.prog w) (sp := fun w => spLaw (K w.params)) hn (by decide) hdf ⟨rfl, by decide, by decide⟩ hY F (fun _ _ a ns hl _ hS => ⟨a, ns, rfl, hS, hl, fun _ => rfl⟩) (fun _ _ _ _ _ z => cx_no z)
end Z
open PySem PySem.W PyProof.Rows
set_option maxRecDepth 100000 in
set_option maxHeartbeats 0 in
theorem PySem.Challenge.cw_lazycols_k51_values_written_holds : PySem.Challenge.rw_lazycols_k51_values_written.Holds := by
  w_on; o_law; k_head; (case hw => w_witness2)
  k_fill
  refine Z.walk (l := PySem.Challenge.rw_lazycols_k51_values_written) rfl rfl (fun w h Y => PySem.W.kIn_of Y) ?F
  case F =>
    intro w mg fa h KX G hmg
    refine' Z.all_mk KX G hmg ?a_ColsError ?a_NoName ?a_NoValue ?a_NoTable ?a_NoColumn ?a_NoPlace ?a_NoSize ?a_NoText ?a_NoRow ?a_NoBack ?a_TooMuch ?a_Ruled ?a_Ring ?a_Nobody ?a_Several ?a_is_name ?l_is_name ?c_is_name ?k_is_name ?a_is_fault ?l_is_fault ?c_is_fault ?k_is_fault ?a_whole_of ?l_whole_of ?c_whole_of ?k_whole_of ?a_show_value ?l_show_value ?c_show_value ?k_show_value ?a_read_value ?l_read_value ?c_read_value ?k_read_value ?a_law_cell ?l_law_cell ?c_law_cell ?k_law_cell ?a_law_word ?l_law_word ?c_law_word ?k_law_word ?a_law_value ?l_law_value ?c_law_value ?k_law_value ?a_law_digits ?l_law_digits ?c_law_digits ?k_law_digits ?a_law_bad ?l_law_bad ?c_law_bad ?k_law_bad ?a_law_refused ?l_law_refused ?c_law_refused ?k_law_refused ?a_law ?l_law ?c_law ?k_law ?n_ValueError ?n_abs ?n_all ?n_bool ?n_int ?n_isinstance ?n_len ?n_range ?n_str ?n_tuple ?g_LETTERS ?g_FIGURES ?xx_NoValue ?xk_NoValue ?xb_NoValue ?xt_NoValue ?xcg_NoValue ?xck_NoValue ?xcd_NoValue ?xca_NoValue ?xcn ?xct ?xcm_NoValue ?xb_ColsError ?xv_NoValue ?yy_NoValue_NoValue ?xi_Nobody ?xt_Nobody ?yy_NoValue_Nobody ?xi_NoBack ?xt_NoBack ?yy_NoValue_NoBack ?xi_NoColumn ?xt_NoColumn ?yy_NoValue_NoColumn ?xi_NoPlace ?xt_NoPlace ?yy_NoValue_NoPlace ?xi_NoRow ?xt_NoRow ?yy_NoValue_NoRow ?xi_NoSize ?xt_NoSize ?yy_NoValue_NoSize ?xi_NoTable ?xt_NoTable ?yy_NoValue_NoTable ?xi_NoText ?xt_NoText ?yy_NoValue_NoText ?xi_NoName ?xt_NoName ?yy_NoValue_NoName ?xi_Ring ?xt_Ring ?yy_NoValue_Ring ?xi_Ruled ?xt_Ruled ?yy_NoValue_Ruled ?xi_Several ?xt_Several ?yy_NoValue_Several ?xi_NoValue ?xi_TooMuch ?xt_TooMuch ?yy_NoValue_TooMuch ?xi_ColsError ?xt_ColsError ?yy_NoValue_ColsError
    (case a_ColsError => k_is)
    (case a_NoName => k_is)
    (case a_NoValue => k_is)
    (case a_NoTable => k_is)
    (case a_NoColumn => k_is)
    (case a_NoPlace => k_is)
    (case a_NoSize => k_is)
    (case a_NoText => k_is)
    (case a_NoRow => k_is)
    (case a_NoBack => k_is)
    (case a_TooMuch => k_is)
    (case a_Ruled => k_is)
    (case a_Ring => k_is)
    (case a_Nobody => k_is)
    (case a_Several => k_is)
    (case a_is_name => k_is)
    (case l_is_name => k_is)
    (case c_is_name => k_is)
    (case k_is_name => k_is)
    (case a_is_fault => k_is)
    (case l_is_fault => k_is)
    (case c_is_fault => k_is)
    (case k_is_fault => k_is)
    (case a_whole_of => k_is)
    (case l_whole_of => k_is)
    (case c_whole_of => k_is)
    (case k_whole_of => k_is)
    (case a_show_value => k_is)
    (case l_show_value => k_is)
    (case c_show_value => k_is)
    (case k_show_value => k_is)
    (case a_read_value => k_is)
    (case l_read_value => k_is)
    (case c_read_value => k_is)
    (case k_read_value => k_is)
    (case a_law_cell => k_is)
    (case l_law_cell => k_is)
    (case c_law_cell => k_is)
    (case k_law_cell => k_is)
    (case a_law_word => k_is)
    (case l_law_word => k_is)
    (case c_law_word => k_is)
    (case k_law_word => k_is)
    (case a_law_value => k_is)
    (case l_law_value => k_is)
    (case c_law_value => k_is)
    (case k_law_value => k_is)
    (case a_law_digits => k_is)
    (case l_law_digits => k_is)
    (case c_law_digits => k_is)
    (case k_law_digits => k_is)
    (case a_law_bad => k_is)
    (case l_law_bad => k_is)
    (case c_law_bad => k_is)
    (case k_law_bad => k_is)
    (case a_law_refused => k_is)
    (case l_law_refused => k_is)
    (case c_law_refused => k_is)
    (case k_law_refused => k_is)
    (case a_law => k_is)
    (case l_law => k_is)
    (case c_law => k_is)
    (case k_law => k_is)
    (case n_ValueError => k_is)
    (case n_abs => k_is)
    (case n_all => k_is)
    (case n_bool => k_is)
    (case n_int => k_is)
    (case n_isinstance => k_is)
    (case n_len => k_is)
    (case n_range => k_is)
    (case n_str => k_is)
    (case n_tuple => k_is)
    (case g_LETTERS => k_is)
    (case g_FIGURES => k_is)
    (case xx_NoValue => k_exc)
    (case xk_NoValue => k_is)
    (case xb_NoValue => k_is)
    (case xt_NoValue => k_is)
    (case xcg_NoValue => k_is)
    (case xck_NoValue => k_is)
    (case xcd_NoValue => k_is)
    (case xca_NoValue => k_is)
    (case xcn => k_is)
    (case xct => k_is)
    (case xcm_NoValue => k_is)
    (case xb_ColsError => k_is)
    (case xv_NoValue => k_is)
    (case yy_NoValue_NoValue => first | rfl | k_is)
    (case xi_Nobody => k_is)
    (case xt_Nobody => k_is)
    (case yy_NoValue_Nobody => first | rfl | k_is)
    (case xi_NoBack => k_is)
    (case xt_NoBack => k_is)
    (case yy_NoValue_NoBack => first | rfl | k_is)
    (case xi_NoColumn => k_is)
    (case xt_NoColumn => k_is)
    (case yy_NoValue_NoColumn => first | rfl | k_is)
    (case xi_NoPlace => k_is)
    (case xt_NoPlace => k_is)
    (case yy_NoValue_NoPlace => first | rfl | k_is)
    (case xi_NoRow => k_is)
    (case xt_NoRow => k_is)
    (case yy_NoValue_NoRow => first | rfl | k_is)
    (case xi_NoSize => k_is)
    (case xt_NoSize => k_is)
    (case yy_NoValue_NoSize => first | rfl | k_is)
    (case xi_NoTable => k_is)
    (case xt_NoTable => k_is)
    (case yy_NoValue_NoTable => first | rfl | k_is)
    (case xi_NoText => k_is)
    (case xt_NoText => k_is)
    (case yy_NoValue_NoText => first | rfl | k_is)
    (case xi_NoName => k_is)
    (case xt_NoName => k_is)
    (case yy_NoValue_NoName => first | rfl | k_is)
    (case xi_Ring => k_is)
    (case xt_Ring => k_is)
    (case yy_NoValue_Ring => first | rfl | k_is)
    (case xi_Ruled => k_is)
    (case xt_Ruled => k_is)
    (case yy_NoValue_Ruled => first | rfl | k_is)
    (case xi_Several => k_is)
    (case xt_Several => k_is)
    (case yy_NoValue_Several => first | rfl | k_is)
    (case xi_NoValue => k_is)
    (case xi_TooMuch => k_is)
    (case xt_TooMuch => k_is)
    (case yy_NoValue_TooMuch => first | rfl | k_is)
    (case xi_ColsError => k_is)
    (case xt_ColsError => k_is)
    (case yy_NoValue_ColsError => first | rfl | k_is)
