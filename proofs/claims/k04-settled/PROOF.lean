import PyProof.Rows.All
import Wide.All
import OpenK.AllK
import Wide.FinOn
import HandS.ForMost
import HandS.ForExc
import HandS.Style
import HandS.IsInst
import HandS.Evl
import HandS.More
import HandS.Deep
import HandS.Wide
import HandS.Conv
import HandS.TupLen
import HandS.Text
import HandS.WordsExc
import HandS.WordsDict
import HandS.Codes
import PyProof.StrBlock2
import HandS.SortInts
import PySem.Challenge.RW_lazycols_k04_settled
set_option Elab.async false
set_option linter.all false
set_option autoImplicit false
set_option maxRecDepth 100000
set_option maxHeartbeats 4000000
namespace Z
open PySem PySem.Spec PyProof.Rows L2 Evl

/-! ### one rule for each operator, whatever the kinds -/
def rSubA : R2 := rI0 fun i j => .int (i - j)
def rLtA : R2 := rI0 fun i j => .bl (decide (i < j))
def rLeA : R2 := rI0 fun i j => .bl (decide (i ≤ j))
def rGtA : R2 := rI0 fun i j => .bl (decide (j < i))
def rGeA : R2 := rI0 fun i j => .bl (decide (j ≤ i))
def rModA : R2 := rI (fun _ j => j ≠ 0) fun i j => .int (i.fmod j)
def rPowA : R2 := rI CPow fun i j => .int (i ^ j.toNat)
def rNegA : V → Hp → VK → Prop := rU fun i => .int (-i)
def rAddI : R2 := rI0 fun i j => .int (i + j)
def rAddS : R2 := fun x y H Q => ∃ i j, x = .str i ∧ y = .str j ∧ i.length + j.length ≤ sizeLine ∧ Q (.str (i ++ j)) H
def rAddA (K : PySem.W.Frag) : R2 := fun x y H Q => rAddI x y H Q ∨ rAddS x y H Q ∨ rCat x y H Q ∨ rCatT K x y H Q
/-- a text n times -/
def repS (a : Str) (n : Int) : Str := SX.S (List.replicate n.toNat a.cps.toList).flatten
def rRepS : R2 := fun x y H Q => ∃ (a : Str) (n : Int), x = .str a ∧ y = .int n ∧ a.length ≤ 4000 ∧ -1000 ≤ n ∧ n ≤ 4000 ∧ Q (.str (repS a n)) H
def rMulA (K : PySem.W.Frag) : R2 := fun x y H Q => rI CMulW (fun i j => .int (i * j)) x y H Q ∨ rRep x y H Q ∨ rRepS x y H Q
def rDivA : R2 := fun x y H Q => rI CDivN (fun i j => .int (i.fdiv j)) x y H Q ∨ rI CDivW (fun i j => .int (i / j)) x y H Q
def rEqA (K : PySem.W.Frag) : R2 := fun x y H Q => rEq x y H Q ∨ rEqD K x y H Q
def rNeA (K : PySem.W.Frag) : R2 := fun x y H Q => rNe x y H Q ∨ rNeD K x y H Q
def rInDict (neg : Bool) : R2 := fun x y H Q => ∃ a o, y = .ref a ∧ DGet H a x o ∧ Q (.bl (if neg then !o.isSome else o.isSome)) H
def rInStr (neg : Bool) : R2 := fun x y H Q => ∃ (c : Nat) (z : Str), x = .str ⟨#[c]⟩ ∧ y = .str z ∧ Q (.bl (if neg then !decide (c ∈ z.cps.toList) else decide (c ∈ z.cps.toList))) H
def rInA (K : PySem.W.Frag) : R2 := fun x y H Q => rInStr false x y H Q ∨ rInDict false x y H Q ∨ rIn K false x y H Q ∨ rInD K x y H Q
def rNinA (K : PySem.W.Frag) : R2 := fun x y H Q => rInStr true x y H Q ∨ rInDict true x y H Q ∨ rIn K true x y H Q ∨ rNotInD K x y H Q
def rIsA : R2 := fun x y H Q => (y = .non ∧ Q (.bl (decide (x = .non))) H) ∨ rIsB x y H Q
def rIsnA : R2 := fun x y H Q => (y = .non ∧ Q (.bl (!decide (x = .non))) H) ∨ rNotB x y H Q
def rIxD : R2 := fun x y H Q => ∃ a v, x = .ref a ∧ DGet H a y (some v) ∧ Q v H
def rIxA (K : PySem.W.Frag) : R2 := fun x y H Q => rIx K x y H Q ∨ rIxD x y H Q
def rSetA : V → V → V → Hp → (Hp → Prop) → Prop := fun o i v H Q => rSetL o i v H Q ∨ ∃ a H', o = .ref a ∧ DPut H a i v H' ∧ Q H'
def rSlS : V → Option Int → Option Int → Hp → VK → Prop := fun x lo hi H Q => ∃ z, x = .str z ∧ z.length ≤ sizeLine ∧ Q (.str (cutS z lo hi)) H
def rSlA (K : PySem.W.Frag) : V → Option Int → Option Int → Hp → VK → Prop := fun x lo hi H Q => rSlL K x lo hi H Q ∨ rSlT K x lo hi H Q ∨ rSlS x lo hi H Q
def rLenD : List V → Hp → VK → Prop := fun xs H Q => ∃ a kvs, xs = [V.ref a] ∧ H a = some (.dK kvs) ∧ Q (.int kvs.length) H
def rLenA (K : PySem.W.Frag) : List V → Hp → VK → Prop := fun xs H Q => rLen K xs H Q ∨ rLenD xs H Q ∨ rLenT xs H Q
def rAbsA : List V → Hp → VK → Prop := fun xs H Q => ∃ i, xs = [V.int i] ∧ Q (.int (if i < 0 then -i else i)) H
def rStrA : List V → Hp → VK → Prop := fun xs H Q => ∃ i : Int, xs = [V.int i] ∧ i.natAbs.log2 < 1920 ∧ Q (.str (toString i)) H
def rIsiA (K : PySem.W.Frag) : List V → Hp → VK → Prop := fun xs H Q => rIsi K xs H Q ∨ rIsiT K xs H Q
def rListA (K : PySem.W.Frag) : List V → Hp → VK → Prop := fun xs H Q => (∃ p ys, xs = [V.ref p] ∧ (SqL K H p ys ∨ SqT K H p ys) ∧ ∀ l, H l = none → Q (.ref l) (upd H l (.lst ys))) ∨
  ∃ (a : Addr) (kvs : List (Key × V)), xs = [V.ref a] ∧ Rd H a (.dK kvs) ∧ ∀ p, H p = none → Q (.ref p) (upd H p (.lst (kvs.map fun kv => kV kv.1)))
def rDictA : List V → Hp → VK → Prop := fun xs H Q => ∃ (a : Addr) (kvs : List (Key × V)), xs = [V.ref a] ∧ Rd H a (.dK kvs) ∧ ∀ p, H p = none → Q (.ref p) (upd H p (.dK kvs))
def rInsA : V → List V → Hp → VK → Prop := fun x vs H Q => ∃ (l : Addr) (xs : List V) (i : Int) (y : V), x = .ref l ∧ vs = [.int i, y] ∧ H l = some (.lst xs) ∧ xs.length < sizeLine ∧ 0 ≤ i ∧ i < 2 ^ 63 ∧ Q .non (upd H l (.lst (xs.take i.toNat ++ [y] ++ xs.drop i.toNat)))
def rIntA : List V → Hp → VK → Prop := fun xs H Q => (∃ i, xs = [V.int i] ∧ Q (.int i) H) ∨ (∃ k, xs = [V.bl k] ∧ Q (.int (if k then 1 else 0)) H) ∨ ∃ a n, xs = [V.str a] ∧ PySem.intText? a = some n ∧ a.length ≤ 640 ∧ Q (.int n) H
section
variable {X : Cx}
theorem op_addA : OpR X (binaryOp .Add) (rAddA X.K) := op_add.or (op_add_str.or (op_cat.or op_catT))
theorem foldl_cps (l : List (Array Nat)) (acc : Array Nat) : (l.foldl (· ++ ·) acc).toList = acc.toList ++ (l.map (·.toList)).flatten := by
  induction l generalizing acc with
  | nil => simp
  | cons a r ih => rw [List.foldl_cons, ih, Array.toList_append, List.map_cons, List.flatten_cons, List.append_assoc]
theorem mul_repS (a : Str) (n : Int) : Txt.mul a n = repS a n := by
  have g : ∀ x y : Str, x.cps.toList = y.cps.toList → x = y := fun x y h => by
    obtain ⟨⟨x⟩⟩ := x
    obtain ⟨⟨y⟩⟩ := y
    have h : x = y := h
    rw [h]
  refine g _ _ ?_
  unfold Txt.mul repS
  by_cases h1 : n < 1
  · rw [if_pos h1, show n.toNat = 0 by omega]
    rfl
  · rw [if_neg h1]
    by_cases h2 : (n == 1 || a.length == 0) = true
    · rw [if_pos h2]
      rcases Bool.or_eq_true_iff.mp h2 with h | h
      · have h : n = 1 := by simpa using h
        subst h
        simp
      · have h : a.length = 0 := by simpa using h
        have e : a.cps.toList = [] := by
          have h : a.cps.size = 0 := h
          have : a.cps.toList.length = 0 := by simpa using h
          exact List.eq_nil_of_length_eq_zero this
        rw [e]
        simp
    · rw [if_neg h2]
      show (List.foldl (· ++ ·) #[] (List.replicate n.toNat a.cps)).toList = _
      rw [foldl_cps, List.map_replicate]
      simp
theorem op_repS : OpR X (binaryOp .Mult) rRepS := by
  intro pins s σ H x y v u Q I rx ry h
  obtain ⟨a, n, rfl, rfl, ha, hn, hm, q⟩ := h
  obtain ⟨t, rfl⟩ := rx
  obtain ⟨t', rfl⟩ := ry
  have hb : a.length * n.toNat ≤ 16000000 := Nat.le_trans (Nat.mul_le_mul ha (show n.toNat ≤ 4000 by omega)) (by decide)
  refine SB.mul ⟨?_, fun h1 _ => ?_, fun _ _ => ?_⟩ fun t2 k => ⟨.str (repS a n), H, I.tok k, ⟨t2, by rw [mul_repS]⟩, q⟩
  · rw [decide_eq_false (by omega), decide_eq_false (by omega)]
    rfl
  · have h2 : (9223372036854775807 : Int) / 4000 ≤ 9223372036854775807 / n := by
      refine (Int.le_ediv_iff_mul_le (by omega)).mpr ?_
      omega
    have h3 : (2 ^ 63 - 1 : Int) = 9223372036854775807 := rfl
    rw [h3]
    omega
  · unfold Builtin.Str.tooLong
    refine decide_eq_false ?_
    have : sizeLine = 16777216 := sizeLine_eq
    omega
theorem op_mulA : OpR X (binaryOp .Mult) (rMulA X.K) := op_mulW.or (op_rep.or op_repS)
theorem op_fdivA : OpR X (binaryOp .FloorDiv) rDivA := op_fdivN.or op_fdivW
theorem op_eqA (hu : X.A.units + 65 < cLine) : OpR X (compareOp .Eq) (rEqA X.K) := op_eq.or (op_eqD (by omega))
theorem op_neA (hu : X.A.units + 65 < cLine) : OpR X (compareOp .NotEq) (rNeA X.K) := op_ne.or (op_neD (by omega))
theorem op_inDict (hu : X.A.units + 65 < cLine) : OpR X (compareOp .In) (rInDict false) := by
  intro pins s σ H x y v u Q I rx ry h
  obtain ⟨a, o, rfl, g, q⟩ := h
  cases ry
  exact d_in (by omega) I g rx fun s' I' => ⟨.bl o.isSome, H, I', rfl, q⟩
theorem op_ninDict (hu : X.A.units + 65 < cLine) : OpR X (compareOp .NotIn) (rInDict true) := by
  intro pins s σ H x y v u Q I rx ry h
  obtain ⟨a, o, rfl, g, q⟩ := h
  cases ry
  exact d_notIn (by omega) I g rx fun s' I' => ⟨.bl (!o.isSome), H, I', rfl, q⟩
theorem op_inStr : OpR X (compareOp .In) (rInStr false) := op_in_sign
theorem op_ninStr : OpR X (compareOp .NotIn) (rInStr true) := op_notIn_sign
theorem op_inA (hu : X.A.units + 65 < cLine) : OpR X (compareOp .In) (rInA X.K) := op_inStr.or ((op_inDict hu).or (op_in_seq.or (op_inD hu)))
theorem op_ninA (hu : X.A.units + 65 < cLine) : OpR X (compareOp .NotIn) (rNinA X.K) := op_ninStr.or ((op_ninDict hu).or (op_notIn_seq.or (op_notInD hu)))
theorem op_isA : OpR X (compareOp .Is) rIsA := op_isN.or op_isBl
theorem op_isnA : OpR X (compareOp .IsNot) rIsnA := op_notN.or op_notBl
theorem ix_dict (hu : X.A.units + 65 < cLine) : IxR X rIxD := by
  intro value slice pins s σ H x y v u Q I rx ry h hs
  obtain ⟨a, w, rfl, g, q⟩ := h
  cases rx
  refine tail_any (dict_typeIs I g) PySem.F.slot_dict_getitem.lookup (d_getItem (by omega) I g ry fun w' s' I' r' => ⟨w, H, I', r', q⟩) hs
theorem ix_A (hu : X.A.units + 65 < cLine) : IxR X (rIxA X.K) := ix_seq.or (ix_dict hu)
theorem set_A (hu : X.A.units + 65 < cLine) : PSet X rSetA := by
  intro pins s σ H o i v ov iv u Q I ro ri rv h
  rcases h with h | ⟨a, H', rfl, g, q⟩
  · exact set_list pins s σ H o i v ov iv u Q I ro ri rv h
  · cases ro
    exact d_setItem (by omega) I g ri rv fun s' I' => ⟨H', I', q⟩
theorem sl_A : SlR X (rSlA X.K) := sl_list.or (sl_tup.or sl_str)
theorem call_lenA : CallR X (.builtin "len") (rLenA X.K) := call_len.or (call_lenD.or call_len_dT)
theorem call_isiA : CallR X (.builtin "isinstance") (rIsiA X.K) := call_isi.or call_isiT
theorem call_listA (hc : X.calm = true) : CallR X (.type "list") (rListA X.K) := call_list_of.or (call_listD hc)
theorem call_dictA (hc : X.calm = true) : CallR X (.type "dict") rDictA := call_dictD
theorem call_intA : CallR X (.type "int") rIntA := by
  intro pins s σ H xs us Q I r h
  rcases h with h | h | h
  · exact call_int1 pins s σ H xs us Q I r (.inl h)
  · exact call_int1 pins s σ H xs us Q I r (.inr h)
  · exact call_int_str pins s σ H xs us Q I r h
end
/-! ### built-in types of values -/
def tyO : Option HO → Option String
  | some (.lst _) => some "list"
  | some (.tup _) => some "tuple"
  | some (.dK _) => some "dict"
  | some (.dT _) => some "dict"
  | some (.frz _ (.lst _)) => some "list"
  | _ => none
def tyN (H : Hp) : V → Option String
  | .non => some "NoneType"
  | .bl _ => some "bool"
  | .int _ => some "int"
  | .str _ => some "str"
  | .ref a => tyO (H a)
  | _ => none
def kinds : List String := ["NoneType", "bool", "int", "str", "list", "tuple", "dict"]
def asked : List String := ["bool", "int", "str", "list", "tuple", "dict"]
def isiB (n c : String) : Bool := n == c || (n == "bool" && c == "int")
theorem tyN_ex {H H' : Hp} {x : V} {n : String} (e : Ex H H') (h : tyN H x = some n) : tyN H' x = some n := by
  cases x with
  | ref a =>
    have h : tyO (H a) = some n := h
    show tyO (H' a) = some n
    cases q : H a with
    | none => rw [q] at h; cases h
    | some o => rw [e a o q, ← q]; exact h
  | _ => exact h
theorem tyX_of {K : PySem.W.Frag} {H : Hp} {x : V} {n : String} (h : tyN H x = some n) : TyX K H x (.type n) := by
  cases x with
  | non => cases h; exact .base .non
  | bl b => cases h; exact .base (.bl b)
  | int i => cases h; exact .base (.int i)
  | str z => cases h; exact .base (.str z)
  | ref a =>
    have h : tyO (H a) = some n := h
    cases q : H a with
    | none => rw [q] at h; cases h
    | some o =>
      rw [q] at h
      unfold tyO at h
      split at h
      · rename_i w; cases w; cases h; exact .base (.lst q)
      · rename_i w; cases w; cases h; exact .base (.tup q)
      · rename_i w; cases w; cases h; exact .base (.dK q)
      · rename_i w; cases w; cases h; exact .base (.dT q)
      · rename_i w; cases w; cases h; exact .base (.frz q)
      · cases h
  | _ => cases h
theorem tyO_mem {o : Option HO} {n : String} (h : tyO o = some n) : n ∈ kinds := by
  unfold tyO at h
  split at h <;> first | (cases h; decide) | cases h
theorem tyN_mem {H : Hp} {x : V} {n : String} (h : tyN H x = some n) : n ∈ kinds := by
  cases x with
  | ref a => exact tyO_mem h
  | _ => first | (cases h; decide) | cases h
theorem kit_all : ∀ n ∈ kinds, ∀ c ∈ asked, kitB n c = some (isiB n c) := by decide +kernel

section
variable {K : PySem.W.Frag} {σ : L2.St} {H H' : Hp} {ta tb te tx : TE} {t u : TT} {x y z v : V} {r r' : R2}
theorem rc_isi {n c : String} (h : tyN H x = some n) (hc : c ∈ asked := by decide) : RC (rIsiA K) [x, .ty c] H (.bl (isiB n c)) := fun H1 e Q q =>
  .inl ⟨x, .ty c, .type n, .type c, isiB n c, rfl, .ty c, tyX_of (tyN_ex e h), kit_ty (kit_all n (tyN_mem h) c hc), q H1 (Ex.refl H1)⟩
theorem ev_cb {r : List V → Hp → VK → Prop} {ta : TA} {vs : List V} (ha : EvA ta σ H vs) (hr : RC r vs H z) : Ev (tCB r ta) σ H z := fun H1 e Q q =>
  ha H1 e _ fun H2 e2 => hr H2 (e.trans e2) Q fun H3 e3 => q H3 (e2.trans e3)
theorem ev_isi {n c : String} (ha : Ev ta σ H x) (h : tyN H x = some n) (hc : c ∈ asked := by decide) : Ev (tCB (rIsiA K) (tCons ta (tCons (tC (.ty c)) tNil))) σ H (.bl (isiB n c)) :=
  ev_cb (ea_cons ha (ea_cons ev_c ea_nil)) (rc_isi h hc)
/-- a op b op' c -/
theorem ev_chain {k : Bool} {w : V} (ha : Ev ta σ H x) (hb : Ev tb σ H y) (hr : RV r x y H (.bl k)) (h0 : k = false → w = .bl false) (h1 : k = true → ∃ z, Ev tx σ H z ∧ RV r' y z H w) : Ev (tChain r r' ta tb tx) σ H w := fun H1 e Q q =>
  ha H1 e _ fun H2 e2 => hb H2 (e.trans e2) _ fun H3 e3 => hr H3 ((e.trans e2).trans e3) _ fun H4 e4 => ⟨k, rfl, by
    have E4 : Ex H H4 := ((e.trans e2).trans e3).trans e4
    have F4 : Ex H1 H4 := (e2.trans e3).trans e4
    cases k with
    | true =>
      obtain ⟨z, hz, hw⟩ := h1 rfl
      show tx σ H4 _
      exact hz H4 E4 _ fun H5 e5 => hw H5 (E4.trans e5) Q fun H6 e6 => q H6 ((F4.trans e5).trans e6)
    | false =>
      show Q (.bl false) H4
      rw [← h0 rfl]
      exact q H4 F4⟩
/-- two comparisons of ints -/
theorem ev_chainI {g g' : Int → Int → Bool} {i j k : Int} (ha : Ev ta σ H (.int i)) (hb : Ev tb σ H (.int j)) (hc : Ev tx σ H (.int k)) :
    Ev (tChain (rI0 fun a b => .bl (g a b)) (rI0 fun a b => .bl (g' a b)) ta tb tx) σ H (.bl (g i j && g' j k)) :=
  ev_chain (k := g i j) ha hb rv_I0 (fun h => by rw [h]; rfl) fun h => ⟨.int k, hc, by rw [h]; exact rv_I0⟩
theorem rc_lenS {w : Str} (h : w.length ≤ 100000) : RC (rLenA K) [.str w] H (.int w.length) := fun H1 _ _ q => .inl ⟨.str w, w.length, rfl, ⟨sz_of h, rfl⟩, q H1 (Ex.refl H1)⟩
theorem rc_lenL {p : Addr} {xs : List V} (h : SqL K H p xs) : RC (rLenA K) [.ref p] H (.int xs.length) := fun H1 e _ q => .inl ⟨.ref p, xs.length, rfl, .inl ⟨xs, ex_l e h, rfl⟩, q H1 (Ex.refl H1)⟩
theorem rc_lenT {p : Addr} {xs : List V} (h : SqT K H p xs) : RC (rLenA K) [.ref p] H (.int xs.length) := fun H1 e _ q => .inl ⟨.ref p, xs.length, rfl, .inr ⟨xs, ex_t e h, rfl⟩, q H1 (Ex.refl H1)⟩
theorem ev_lenV {n : Nat} (ha : Ev ta σ H x) (hr : RC (rLenA K) [x] H (.int n)) : Ev (tCB (rLenA K) (tCons ta tNil)) σ H (.int n) := ev_cb (ea_cons ha ea_nil) hr
/-- all(..) of a list of truths that is made on the way -/
theorem ev_all {bs : List Bool} (ha : EvL ta σ H (bs.map V.bl)) : Ev (tCB (rAll K) (tCons ta tNil)) σ H (.bl (bs.all id)) := fun H1 e Q q =>
  ha H1 e _ fun p H2 _ e2 h2 => ⟨p, bs, rfl, sq_of h2, q H2 e2⟩
/-- a comprehension over a text -/
theorem el_lcS {a : Str} {tl : TE} {j : Nat} {vs : List Nat} (f : Nat → Bool) (v : Nat → V) (h : Ev tl σ H (.str a)) (hz : a.cps.size ≤ 40000) (hw : ∀ x, wipe ((wipe σ vs).set j (some x)) vs = wipe σ vs)
    (ht : ∀ (i : Nat) (c : Nat) H1, Ex H H1 → a.cps[i]? = some c → EvT t ((wipe σ vs).set j (some (.str ⟨#[c]⟩))) H1 (f i)) (he : ∀ (i : Nat) (c : Nat) H1, Ex H H1 → a.cps[i]? = some c → f i = true → Ev te ((wipe σ vs).set j (some (.str ⟨#[c]⟩))) H1 (v i)) :
    EvL (tLc (iStr tl) (gName j) t te vs) σ H (given a.cps.size f v) := fun H0 e Q q => h H0 e _ fun H1 e1 => ⟨a, rfl, fun Dl hD => by
  refine ⟨fun i m H' => m = a.cps.size - i ∧ i ≤ a.cps.size ∧ Cw H1 f v Dl i H', ⟨a.cps.size, by simp, Nat.zero_le _, hD, Ex.new hD, upd_same⟩, ?_⟩
  rintro i m H' ⟨rfl, hi, p⟩
  by_cases hlt : i < a.cps.size
  · refine .inr ⟨hlt, fun H2 => Cw H1 f v Dl (i + 1) H2, fun H2 p2 => ⟨a.cps.size - (i + 1), by omega, rfl, hlt, p2⟩, ?_⟩
    rintro x2 H2 ⟨rfl, c, hc, rfl⟩
    exact ⟨hw _, cw_turn p (by omega) (ht i c H1 (e.trans e1) hc) (fun hf => he i c H1 (e.trans e1) hc hf)⟩
  · have e0 : i = a.cps.size := by omega
    subst e0
    exact .inl ⟨Nat.le_refl _, q Dl H' (fresh_back e1 p.1) (e1.trans p.2.1) p.2.2⟩⟩
end
end Z

set_option Elab.async false
set_option linter.all false
set_option autoImplicit false
set_option maxRecDepth 100000
set_option maxHeartbeats 4000000
namespace Z
open PySem PySem.Spec PyProof.Rows L2 Evl
/-! ### a def that may be called: its promise, its name, its place -/
structure Cal (P : Program) (w : World) (K : PySem.W.Frag) (mg : Str → Option Value) (base : Heap) (k : Nat) (x : Str) (f : Addr) (ps : List Str) (sp : Sp) : Prop where
  ex : ∃ fd, FnOk P w K mg base (L2.CX P w) k f fd ps sp ∧ Binds K fd ps []
  mg : mg x = some (.ref f)
  kp : PySem.W.keepIn K (.ref f) = true
section
variable {X : Cx} {W : WX} {k : Nat} {f : Addr} {ps : List Str} {sp : Sp} {x : Str} {p pos : Pos} {e : Expr} {es : List Expr} {t : TA}
theorem pe_cal (C : Cal X.prog X.w X.K X.mg X.base k x f ps sp) (hr : Room k X.A) (tk : Takes X W) (ha : PA X (e :: es) t) (hg : Gl X x := by rfl) (hdb : (x == ("__debug__" : Str)) = false := by decide)
    (he : starEach (e :: es) X.env = (false, eval e X.env) :: starEach es X.env := by rfl) (hpl : (backTo pos (starEach es X.env)).any (·.1) = false := by rfl) :
    PE X (.Call (.Name x p) (e :: es) [] pos) (tCallS sp (WE W) t) := by
  obtain ⟨fd, F, b⟩ := C.ex
  exact pe_callS F hr hg C.mg C.kp b (fun σ => passAt tk σ) ha hdb he hpl
theorem pe_calB (C : Cal X.prog X.w X.K X.mg X.base k x f ps sp) (hr : Room k X.A) (ha : PA X (e :: es) t) (hg : Gl X x := by rfl) (hdb : (x == ("__debug__" : Str)) = false := by decide)
    (he : starEach (e :: es) X.env = (false, eval e X.env) :: starEach es X.env := by rfl) (hpl : (backTo pos (starEach es X.env)).any (·.1) = false := by rfl) :
    PE X (.Call (.Name x p) (e :: es) [] pos) (tCall sp [] E0 t) := by
  obtain ⟨fd, F, b⟩ := C.ex
  exact pe_call F hr hg C.mg C.kp b .nil passL ha hdb he hpl
end
theorem hu65 {A : Around} {k : Nat} (hr : Room k A) : A.units + 65 < cLine := by have := hr.un; omega
/-- a body and its reading make a def's promise -/
theorem cal_of {P : Program} {w : World} {K : PySem.W.Frag} {mg : Str → Option Value} {base : Heap} {st : Stmt} {x : Str} {f : Addr} {fd : FuncData} {N ps : List Str} {k : Nat} {sp : Sp} (F : Fun K x x st f fd) (S : FnScope N ps (defScope st)) (hm : mg x = some (.ref f)) (hb : Binds K fd ps [])
    (len : ∀ vs H Q E, sp vs H Q E → vs.length = ps.length) (t : XK → TS)
    (d : ∀ (cdv : Value) (A : Around) (outer : List Env) (s : Shared) (H : Hp) (E : XK), Room k (A.deeper (envOfC x (defScope st) s.heap.objs.size f cdv)) → PSs (cxOf (L2.CX P w) P w K mg base N x (defScope st) f cdv A outer s H E) (defBody st) (t E))
    (r : ∀ (vs : List V) (H : Hp) (Q : VK) (E : XK), sp vs H Q E → t E { nx := fun _ H' => Q .non H', rt := Q } (L2.start N vs) H) : Cal P w K mg base (k + 1) x f ps sp :=
  ⟨⟨fd, F.okX S len fun cdv A outer s H vs Q E hr h => ⟨t E, d cdv A outer s H E hr, r vs H Q E h⟩, hb⟩, hm, F.kp⟩

/-- the law itself -/
theorem fnx_of {P : Program} {w : World} {K : PySem.W.Frag} {mg : Str → Option Value} {base : Heap} {st : Stmt} {x : Str} {f : Addr} {fd : FuncData} {N ps : List Str} {k : Nat} {sp : Sp} (F : Fun K x x st f fd) (S : FnScope N ps (defScope st))
    (len : ∀ vs H Q E, sp vs H Q E → vs.length = ps.length) (t : XK → TS)
    (d : ∀ (cdv : Value) (A : Around) (outer : List Env) (s : Shared) (H : Hp) (E : XK), Room k (A.deeper (envOfC x (defScope st) s.heap.objs.size f cdv)) → PSs (cxOf (L2.CX P w) P w K mg base N x (defScope st) f cdv A outer s H E) (defBody st) (t E))
    (r : ∀ (vs : List V) (H : Hp) (Q : VK) (E : XK), sp vs H Q E → t E { nx := fun _ H' => Q .non H', rt := Q } (L2.start N vs) H) : FnOk P w K mg base (L2.CX P w) (k + 1) f fd ps sp :=
  F.okX S len fun cdv A outer s H vs Q E hr h => ⟨t E, d cdv A outer s H E hr, r vs H Q E h⟩
theorem cx_no {P : Program} {w : World} {H : Hp} {s : Shared} {e : Value} {s' : Shared} (h : L2.CX P w [] H s (fun _ _ _ => False) e s') : False := by
  obtain ⟨_, _, _, _, _, _, _, _, _, _, _, _, z⟩ := h
  exact z
section
variable {K : PySem.W.Frag} {σ : L2.St} {H H' : Hp} {ta tb te tx : TE} {t u : TT} {x y z v : V} {r r' : R2} {D : Ends}
/-! ### what the operators give -/
theorem rv_addI {i j : Int} : RV (rAddA K) (.int i) (.int j) H (.int (i + j)) := fun H1 _ _ q => .inl ⟨i, j, rfl, rfl, q H1 (Ex.refl H1)⟩
theorem rv_addS {i j : Str} (h : i.length + j.length ≤ 100000) : RV (rAddA K) (.str i) (.str j) H (.str (i ++ j)) := fun H1 _ _ q => .inr (.inl ⟨i, j, rfl, rfl, sz_of h, q H1 (Ex.refl H1)⟩)
theorem rv_subI {i j : Int} : RV rSubA (.int i) (.int j) H (.int (i - j)) := fun H1 _ _ q => ⟨i, j, rfl, rfl, q H1 (Ex.refl H1)⟩
theorem rv_lt {i j : Int} : RV rLtA (.int i) (.int j) H (.bl (decide (i < j))) := fun H1 _ _ q => ⟨i, j, rfl, rfl, q H1 (Ex.refl H1)⟩
theorem rv_le {i j : Int} : RV rLeA (.int i) (.int j) H (.bl (decide (i ≤ j))) := fun H1 _ _ q => ⟨i, j, rfl, rfl, q H1 (Ex.refl H1)⟩
theorem rv_gt {i j : Int} : RV rGtA (.int i) (.int j) H (.bl (decide (j < i))) := fun H1 _ _ q => ⟨i, j, rfl, rfl, q H1 (Ex.refl H1)⟩
theorem rv_ge {i j : Int} : RV rGeA (.int i) (.int j) H (.bl (decide (j ≤ i))) := fun H1 _ _ q => ⟨i, j, rfl, rfl, q H1 (Ex.refl H1)⟩
theorem rv_mod {i j : Int} (h : 0 < j) : RV rModA (.int i) (.int j) H (.int (i % j)) := fun H1 _ Q q => ⟨i, j, rfl, rfl, by omega, by
  show Q (.int (i.fmod j)) H1
  rw [Int.fmod_eq_emod_of_nonneg i (by omega)]
  exact q H1 (Ex.refl H1)⟩
theorem rv_div {i j : Int} (h : 0 < j ∧ j < 1073741824) : RV rDivA (.int i) (.int j) H (.int (i / j)) := fun H1 _ Q q => .inl ⟨i, j, rfl, rfl, ⟨by omega, by omega⟩, by
  show Q (.int (i.fdiv j)) H1
  rw [Int.fdiv_eq_ediv_of_nonneg i (by omega)]
  exact q H1 (Ex.refl H1)⟩
theorem rv_mulI {i j : Int} (h : CMulW i j) : RV (rMulA K) (.int i) (.int j) H (.int (i * j)) := fun H1 _ _ q => .inl ⟨i, j, rfl, rfl, h, q H1 (Ex.refl H1)⟩
theorem rv_rep {a : Str} {n : Int} (ha : a.length ≤ 4000) (hn : -1000 ≤ n ∧ n ≤ 4000) : RV (rMulA K) (.str a) (.int n) H (.str (repS a n)) := fun H1 _ _ q => .inr (.inr ⟨a, n, rfl, rfl, ha, hn.1, hn.2, q H1 (Ex.refl H1)⟩)
theorem rv_pow {i j : Int} (h : 0 ≤ j ∧ j ≤ 1000000 ∧ i.natAbs < 2 ^ 64) : RV rPowA (.int i) (.int j) H (.int (i ^ j.toNat)) := fun H1 _ _ q => ⟨i, j, rfl, rfl, h, q H1 (Ex.refl H1)⟩
theorem rv_eqS (h : scal x y = true) : RV (rEqA K) x y H (.bl (decide (x = y))) := fun H1 _ _ q => .inl ⟨h, q H1 (Ex.refl H1)⟩
theorem rv_neS (h : scal x y = true) : RV (rNeA K) x y H (.bl (!decide (x = y))) := fun H1 _ _ q => .inl ⟨h, q H1 (Ex.refl H1)⟩
theorem rv_isN : RV rIsA x .non H (.bl (decide (x = .non))) := fun H1 _ _ q => .inl ⟨rfl, q H1 (Ex.refl H1)⟩
theorem rv_isnN : RV rIsnA x .non H (.bl (!decide (x = .non))) := fun H1 _ _ q => .inl ⟨rfl, q H1 (Ex.refl H1)⟩
theorem rv_isB {a b : Bool} : RV rIsA (.bl a) (.bl b) H (.bl (decide (a = b))) := fun H1 _ _ q => .inr ⟨a, b, rfl, rfl, q H1 (Ex.refl H1)⟩
theorem rv_isnB {a b : Bool} : RV rIsnA (.bl a) (.bl b) H (.bl (!decide (a = b))) := fun H1 _ _ q => .inr ⟨a, b, rfl, rfl, q H1 (Ex.refl H1)⟩
theorem rv_inStr {c : Nat} {w : Str} : RV (rInA K) (.str ⟨#[c]⟩) (.str w) H (.bl (decide (c ∈ w.cps.toList))) := fun H1 _ _ q => .inl ⟨c, w, rfl, rfl, q H1 (Ex.refl H1)⟩
theorem rv_ninStr {c : Nat} {w : Str} : RV (rNinA K) (.str ⟨#[c]⟩) (.str w) H (.bl (!decide (c ∈ w.cps.toList))) := fun H1 _ _ q => .inl ⟨c, w, rfl, rfl, q H1 (Ex.refl H1)⟩
theorem rv_itL {p : Addr} {xs : List V} {i : Int} (h : SqL K H p xs) (ha : atI xs i = some v) : RV (rIxA K) (.ref p) (.int i) H v := fun H1 e _ q => .inl (.inl ⟨p, xs, i, v, rfl, rfl, ex_l e h, ha, q H1 (Ex.refl H1)⟩)
theorem rv_itT {p : Addr} {xs : List V} {i : Int} (h : SqT K H p xs) (ha : atI xs i = some v) : RV (rIxA K) (.ref p) (.int i) H v := fun H1 e _ q => .inl (.inr (.inl ⟨p, xs, i, v, rfl, rfl, ex_t e h, ha, q H1 (Ex.refl H1)⟩))
theorem rv_itS {w : Str} {i : Int} {c : Nat} (h : w.length ≤ 100000) (ha : atI w.cps.toList i = some c) : RV (rIxA K) (.str w) (.int i) H (.str ⟨#[c]⟩) := fun H1 _ _ q => .inl (.inr (.inr ⟨w, i, c, rfl, rfl, sz_of h, ha, q H1 (Ex.refl H1)⟩))
theorem rc_str {i : Int} (h : i.natAbs.log2 < 1920) : RC rStrA [.int i] H (.str (Str.ofString (toString i))) := fun H1 _ _ q => ⟨i, rfl, h, q H1 (Ex.refl H1)⟩
theorem rc_abs {i : Int} : RC rAbsA [.int i] H (.int (if i < 0 then -i else i)) := fun H1 _ _ q => ⟨i, rfl, q H1 (Ex.refl H1)⟩
theorem ev_callS {sp : Sp} {vs : List V} {E : L2.St → XK} {ta : TA} (h : EvA ta σ H vs) (hs : SpV sp vs H z) : Ev (tCallS sp E ta) σ H z := fun H1 e Q q =>
  h H1 e _ fun H2 e2 => hs H2 (e.trans e2) Q (fun H3 e3 => q H3 (e2.trans e3)) (E σ)
/-- a word between a statement and what follows -/
theorem q_cut2 {tu tz : TS} {M : L2.St → Hp → Prop} (h : ∀ nx : L2.St → Hp → Prop, (∀ σ' H', M σ' H' → nx σ' H') → tu { D with nx := nx } σ H) (k : ∀ σ' H', M σ' H' → tz D σ' H') : tSeq tu tz D σ H := h _ k
/-- a call, by its promise -/
theorem q_callS {sp : Sp} {vs : List V} {E : L2.St → XK} {ta : TA} {i : Nat} {tz : TS} (h : EvA ta σ H vs) (k : ∀ H1, Ex H H1 → sp vs H1 (fun v H2 => tz D (σ.set i (some v)) H2) (E σ)) : tSeq (tAsg (tCallS sp E ta) (gName i)) tz D σ H := h H (Ex.refl H) _ k
theorem s_callS {sp : Sp} {vs : List V} {E : L2.St → XK} {ta : TA} {i : Nat} (h : EvA ta σ H vs) (k : ∀ H1, Ex H H1 → sp vs H1 (fun v H2 => D.nx (σ.set i (some v)) H2) (E σ)) : tAsg (tCallS sp E ta) (gName i) D σ H := h H (Ex.refl H) _ k
theorem s_retS {sp : Sp} {vs : List V} {E : L2.St → XK} {ta : TA} (h : EvA ta σ H vs) (k : ∀ H1, Ex H H1 → sp vs H1 D.rt (E σ)) : tRet (tCallS sp E ta) D σ H := h H (Ex.refl H) _ k
theorem q_dropS {sp : Sp} {vs : List V} {E : L2.St → XK} {ta : TA} {tz : TS} (h : EvA ta σ H vs) (k : ∀ H1, Ex H H1 → sp vs H1 (fun _ H2 => tz D σ H2) (E σ)) : tSeq (tDrop (tCallS sp E ta)) tz D σ H := h H (Ex.refl H) _ k
theorem ev_neg {i : Int} (h : Ev ta σ H (.int i)) : Ev (tUn rNegA ta) σ H (.int (-i)) := ev_un h ru_neg
theorem ev_chainLL {i j k : Int} (ha : Ev ta σ H (.int i)) (hb : Ev tb σ H (.int j)) (hc : Ev tx σ H (.int k)) : Ev (tChain rLeA rLeA ta tb tx) σ H (.bl (decide (i ≤ j) && decide (j ≤ k))) :=
  ev_chainI (g := fun a b => decide (a ≤ b)) (g' := fun a b => decide (a ≤ b)) ha hb hc
theorem ev_chainLt {i j k : Int} (ha : Ev ta σ H (.int i)) (hb : Ev tb σ H (.int j)) (hc : Ev tx σ H (.int k)) : Ev (tChain rLeA rLtA ta tb tx) σ H (.bl (decide (i ≤ j) && decide (j < k))) :=
  ev_chainI (g := fun a b => decide (a ≤ b)) (g' := fun a b => decide (a < b)) ha hb hc
end
end Z

set_option Elab.async false
set_option linter.all false
set_option autoImplicit false
set_option maxRecDepth 100000
set_option maxHeartbeats 4000000
namespace Z
open PySem PySem.Spec PyProof.Rows L2 Evl
/-! ### data: what stands at a value, through and through -/
def kD : Key → PyData
  | .inl i => .int i
  | .inr x => .str x
mutual
inductive Dt (H : Hp) : V → PyData → Prop
  | non : Dt H .non .none
  | bl (b : Bool) : Dt H (.bl b) (.bool b)
  | int (i : Int) : Dt H (.int i) (.int i)
  | str (x : Str) : Dt H (.str x) (.str x)
  | lst {a : Addr} {xs : List V} {ds : List PyData} : H a = some (.lst xs) → DtAll H xs ds → Dt H (.ref a) (.list ds)
  | tup {a : Addr} {xs : List V} {ds : List PyData} : H a = some (.tup xs) → DtAll H xs ds → Dt H (.ref a) (.tuple ds)
  | dct {a : Addr} {kvs : List (Key × V)} {ds : List PyData} : H a = some (.dK kvs) → DtAll H (kvs.map (·.2)) ds → Dt H (.ref a) (.dict ((kvs.map fun kv => kD kv.1).zip ds))
inductive DtAll (H : Hp) : List V → List PyData → Prop
  | nil : DtAll H [] []
  | cons {v : V} {vs : List V} {d : PyData} {ds : List PyData} : Dt H v d → DtAll H vs ds → DtAll H (v :: vs) (d :: ds)
end
mutual
theorem Dt.ex {H H' : Hp} (e : Ex H H') : ∀ {v : V} {d : PyData}, Dt H v d → Dt H' v d
  | _, _, .non => .non
  | _, _, .bl b => .bl b
  | _, _, .int i => .int i
  | _, _, .str x => .str x
  | _, _, .lst h r => .lst (e _ _ h) (DtAll.ex e r)
  | _, _, .tup h r => .tup (e _ _ h) (DtAll.ex e r)
  | _, _, .dct h r => .dct (e _ _ h) (DtAll.ex e r)
theorem DtAll.ex {H H' : Hp} (e : Ex H H') : ∀ {vs : List V} {ds : List PyData}, DtAll H vs ds → DtAll H' vs ds
  | _, _, .nil => .nil
  | _, _, .cons a r => .cons (Dt.ex e a) (DtAll.ex e r)
end
mutual
def noDict : PyData → Bool
  | .list ds => noDicts ds
  | .tuple ds => noDicts ds
  | .dict _ => false
  | _ => true
def noDicts : List PyData → Bool
  | [] => true
  | d :: ds => noDict d && noDicts ds
end
mutual
theorem Dt.dp {K : PySem.W.Frag} {H : Hp} : ∀ {v : V} {d : PyData}, Dt H v d → noDict d = true → Dp K H v d
  | _, _, .non, _ => .non
  | _, _, .bl b, _ => .bl b
  | _, _, .int i, _ => .int i
  | _, _, .str x, _ => .str x
  | _, _, .lst h r, n => .lst (SqL.of h) (DtAll.dp r (by simpa [noDict] using n))
  | _, _, .tup h r, n => .tup (SqT.of h) (DtAll.dp r (by simpa [noDict] using n))
  | _, _, .dct h r, n => by simp [noDict] at n
theorem DtAll.dp {K : PySem.W.Frag} {H : Hp} : ∀ {vs : List V} {ds : List PyData}, DtAll H vs ds → noDicts ds = true → DpAll K H vs ds
  | _, _, .nil, _ => .nil
  | _, _, .cons a r, n => by
    simp only [noDicts, Bool.and_eq_true] at n
    exact .cons (Dt.dp a n.1) (DtAll.dp r n.2)
end
theorem DtAll.length {H : Hp} : ∀ {vs : List V} {ds : List PyData}, DtAll H vs ds → vs.length = ds.length
  | _, _, .nil => rfl
  | _, _, .cons _ r => by rw [List.length_cons, List.length_cons, r.length]
theorem DtAll.get {H : Hp} : ∀ {vs : List V} {ds : List PyData} {i : Nat} {d : PyData}, DtAll H vs ds → ds[i]? = some d → ∃ v, vs[i]? = some v ∧ Dt H v d
  | _, _, i, d, .nil, h => by simp at h
  | _, _, 0, d, .cons (v := v) a r, h => by
    rw [List.getElem?_cons_zero] at h
    cases h
    exact ⟨v, rfl, a⟩
  | _, _, i + 1, d, .cons a r, h => by
    obtain ⟨v, h1, h2⟩ := r.get (i := i) (d := d) (by simpa using h)
    exact ⟨v, by simpa using h1, h2⟩
theorem DtAll.getV {H : Hp} : ∀ {vs : List V} {ds : List PyData} {i : Nat} {v : V}, DtAll H vs ds → vs[i]? = some v → ∃ d, ds[i]? = some d ∧ Dt H v d
  | _, _, i, d, .nil, h => by simp at h
  | _, _, 0, v, .cons (d := d) a r, h => by
    rw [List.getElem?_cons_zero] at h
    cases h
    exact ⟨d, rfl, a⟩
  | _, _, i + 1, v, .cons a r, h => by
    obtain ⟨d, h1, h2⟩ := r.getV (i := i) (v := v) (by simpa using h)
    exact ⟨d, by simpa using h1, h2⟩
theorem DtAll.append {H : Hp} : ∀ {vs ws : List V} {ds es : List PyData}, DtAll H vs ds → DtAll H ws es → DtAll H (vs ++ ws) (ds ++ es)
  | _, _, _, _, .nil, s => s
  | _, _, _, _, .cons a r, s => .cons a (r.append s)
theorem atI_dt {H : Hp} {vs : List V} {ds : List PyData} {i : Int} {d : PyData} (h : DtAll H vs ds) (a : atI ds i = some d) : ∃ v, atI vs i = some v ∧ Dt H v d := by
  unfold atI at a ⊢
  rw [h.length]
  cases q : ixN ds.length i with
  | none => rw [q] at a; cases a
  | some j =>
    rw [q] at a
    exact h.get (show ds[j]? = some d from a)
/-! ### data of a size and depth that is compared -/
structure okS (z : Str) : Prop where
  len : z.length ≤ 30000
  cps : z.cps.all (· < 1114112) = true
theorem okS.app {x y : Str} (hx : okS x) (hy : okS y) (h : x.length + y.length ≤ 30000) : okS (x ++ y) := by
  refine ⟨by rw [Str.length_append]; exact h, ?_⟩
  show (x.cps ++ y.cps).all (· < 1114112) = true
  rw [Array.all_append, hx.cps, hy.cps]
  rfl
theorem okS_S {l : List Nat} (h : l.length ≤ 30000) (hc : ∀ c ∈ l, c < 128) : okS (SX.S l) := by
  refine ⟨by rw [SX.S_len]; exact h, ?_⟩
  show l.toArray.all (· < 1114112) = true
  rw [List.all_toArray]
  exact List.all_eq_true.mpr fun c h => decide_eq_true (by have := hc c h; omega)
theorem S_of (z : Str) : SX.S z.cps.toList = z := SX.S_tl z
theorem okS_of {z : Str} (h : z.length ≤ 30000) (hc : ∀ c ∈ z.cps.toList, c < 128) : okS z := by
  have q : z.cps.toList.length ≤ 30000 := by
    have e : z.cps.toList.length = z.length := by simp [Str.length]
    omega
  have := okS_S q hc
  rw [S_of] at this
  exact this
mutual
def okN : Nat → PyData → Prop
  | _, .str z => okS z
  | n + 1, .list ds => okNs n ds
  | n + 1, .tuple ds => okNs n ds
  | 0, .list _ => False
  | 0, .tuple _ => False
  | _, .dict _ => False
  | _, .none => True
  | _, .bool _ => True
  | _, .int _ => True
def okNs : Nat → List PyData → Prop
  | _, [] => True
  | n, d :: ds => okN n d ∧ okNs n ds
end
theorem okNs_iff {n : Nat} : ∀ {ds : List PyData}, okNs n ds ↔ ∀ d ∈ ds, okN n d
  | [] => by simp [okNs]
  | d :: ds => by
    rw [okNs, okNs_iff]
    simp
mutual
theorem okN_lay : ∀ (n : Nat) (d : PyData), okN n d → d.canLay0 = true ∧ d.depth ≤ n + 1 ∧ noDict d = true
  | n, .str z, h => by
    rw [okN] at h
    refine ⟨?_, by simp [PyData.depth], by simp [noDict]⟩
    simp only [PyData.canLay0]
    exact h.cps
  | n + 1, .list ds, h => by
    rw [okN] at h
    have := okNs_lay n ds h
    refine ⟨by simp only [PyData.canLay0]; exact this.1, ?_, by simp only [noDict]; exact this.2.2⟩
    have := this.2.1
    simp only [PyData.depth]
    omega
  | n + 1, .tuple ds, h => by
    rw [okN] at h
    have := okNs_lay n ds h
    refine ⟨by simp only [PyData.canLay0]; exact this.1, ?_, by simp only [noDict]; exact this.2.2⟩
    have := this.2.1
    simp only [PyData.depth]
    omega
  | 0, .list _, h => by rw [okN] at h; exact h.elim
  | 0, .tuple _, h => by rw [okN] at h; exact h.elim
  | _, .dict _, h => by rw [okN] at h; exact h.elim
  | _, .none, _ => ⟨by simp [PyData.canLay0], by simp [PyData.depth], by simp [noDict]⟩
  | _, .bool _, _ => ⟨by simp [PyData.canLay0], by simp [PyData.depth], by simp [noDict]⟩
  | _, .int _, _ => ⟨by simp [PyData.canLay0], by simp [PyData.depth], by simp [noDict]⟩
theorem okNs_lay : ∀ (n : Nat) (ds : List PyData), okNs n ds → PyData.canLayAll0 ds = true ∧ PyData.depthAll ds ≤ n + 1 ∧ noDicts ds = true
  | _, [], _ => ⟨by simp [PyData.canLayAll0], by simp [PyData.depthAll], by simp [noDicts]⟩
  | n, d :: ds, h => by
    rw [okNs] at h
    have h1 := okN_lay n d h.1
    have h2 := okNs_lay n ds h.2
    refine ⟨by simp only [PyData.canLayAll0, h1.1, h2.1, Bool.and_self], ?_, by simp only [noDicts, h1.2.2, h2.2.2, Bool.and_self]⟩
    have := h1.2.1
    have := h2.2.1
    simp only [PyData.depthAll]
    omega
end
/-- at most ten deep, no dict, texts of at most 30,000 signs -/
def okD (d : PyData) : Prop := okN 10 d
theorem okD.shaped {d : PyData} (h : okD d) : SeqAt.shaped d = true := by
  have := okN_lay 10 d h
  unfold SeqAt.shaped
  rw [this.1, Bool.true_and]
  exact decide_eq_true (by omega)
theorem okD.nd {d : PyData} (h : okD d) : noDict d = true := (okN_lay 10 d h).2.2
/-- the built-in type of data -/
def kindD : PyData → String
  | .none => "NoneType"
  | .bool _ => "bool"
  | .int _ => "int"
  | .str _ => "str"
  | .list _ => "list"
  | .tuple _ => "tuple"
  | .dict _ => "dict"
theorem Dt.ty {H : Hp} {v : V} {d : PyData} (h : Dt H v d) : tyN H v = some (kindD d) := by
  cases h with
  | non => rfl
  | bl b => rfl
  | int i => rfl
  | str x => rfl
  | lst e r => show tyO (H _) = _; rw [e]; rfl
  | tup e r => show tyO (H _) = _; rw [e]; rfl
  | dct e r => show tyO (H _) = _; rw [e]; rfl

/-! ### expressions that evaluate to data -/
def EvD (te : TE) (σ : L2.St) (H : Hp) (d : PyData) : Prop := ∀ H1, Ex H H1 → ∀ Q : VK, (∀ v H2, Ex H1 H2 → Dt H2 v d → Q v H2) → te σ H1 Q
def EvDs (ta : TA) (σ : L2.St) (H : Hp) (ds : List PyData) : Prop := ∀ H1, Ex H H1 → ∀ Q : List V → Hp → Prop, (∀ vs H2, Ex H1 H2 → DtAll H2 vs ds → Q vs H2) → ta σ H1 Q
section
variable {K : PySem.W.Frag} {σ : L2.St} {H H' : Hp} {ta tb te tx : TE} {tas : TA} {t u : TT} {x y z v : V} {d e : PyData} {ds es : List PyData} {D : Ends} {tu tw tz : TS}
theorem EvD.mono (e0 : Ex H H') (h : EvD te σ H d) : EvD te σ H' d := fun H1 a Q q => h H1 (e0.trans a) Q q
theorem ed_ev (h : Ev te σ H v) (r : Dt H v d) : EvD te σ H d := fun H1 e0 Q q => h H1 e0 _ fun H2 e2 => q v H2 e2 (r.ex (e0.trans e2))
theorem ed_i {i : Int} (h : Ev te σ H (.int i)) : EvD te σ H (.int i) := ed_ev h (.int i)
theorem ed_s {i : Str} (h : Ev te σ H (.str i)) : EvD te σ H (.str i) := ed_ev h (.str i)
theorem ed_b {i : Bool} (h : Ev te σ H (.bl i)) : EvD te σ H (.bool i) := ed_ev h (.bl i)
theorem ed_n (h : Ev te σ H .non) : EvD te σ H .none := ed_ev h .non
theorem ed_var {i : Nat} (h : σ[i]? = some (some v)) (r : Dt H v d) : EvD (tVar i) σ H d := ed_ev (ev_var h) r
theorem eds_nil : EvDs tNil σ H [] := fun H1 _ _ q => q [] H1 (Ex.refl H1) .nil
theorem eds_cons (h : EvD ta σ H d) (r : EvDs tas σ H ds) : EvDs (tCons ta tas) σ H (d :: ds) := fun H1 e0 Q q =>
  h H1 e0 _ fun v H2 e2 hv => r H2 (e0.trans e2) _ fun vs H3 e3 hvs => q _ H3 (e2.trans e3) (.cons (hv.ex e3) hvs)
theorem ed_lst (h : EvDs tas σ H ds) (hl : ds.length ≤ 100000 := by simp only [List.length_cons, List.length_nil, List.length_append]; omega) : EvD (tLst tas) σ H (.list ds) := fun H1 e0 Q q =>
  h H1 e0 _ fun vs H2 e2 hvs => ⟨sz_of (by rw [hvs.length]; exact hl), fun p hp => q _ _ (e2.trans (Ex.new hp)) (.lst upd_same (hvs.ex (Ex.new hp)))⟩
theorem ed_tup (h : EvDs tas σ H ds) (hl : ds.length ≤ 100000 := by simp only [List.length_cons, List.length_nil, List.length_append]; omega) : EvD (tTup tas) σ H (.tuple ds) := fun H1 e0 Q q =>
  h H1 e0 _ fun vs H2 e2 hvs => ⟨sz_of (by rw [hvs.length]; exact hl), fun p hp => q _ _ (e2.trans (Ex.new hp)) (.tup upd_same (hvs.ex (Ex.new hp)))⟩
theorem ed_dnew : EvD tDNewK σ H (.dict []) := fun H1 _ Q q p hp => q _ _ (Ex.new hp) (.dct (kvs := []) (ds := []) upd_same .nil)
theorem ed_ixL {i : Int} (h : EvD ta σ H (.list ds)) (hi : Ev tb σ H (.int i)) (a : atI ds i = some d) : EvD (tOp (rIxA K) ta tb) σ H d := fun H1 e0 Q q =>
  h H1 e0 _ fun v H2 e2 hv => hi H2 (e0.trans e2) _ fun H3 e3 => by
    cases hv with
    | lst hl r =>
      obtain ⟨w, h1, h2⟩ := atI_dt r a
      exact .inl (.inl ⟨_, _, i, w, rfl, rfl, SqL.of (e3 _ _ hl), h1, q w H3 (e2.trans e3) (h2.ex e3)⟩)
theorem ed_ixT {i : Int} (h : EvD ta σ H (.tuple ds)) (hi : Ev tb σ H (.int i)) (a : atI ds i = some d) : EvD (tOp (rIxA K) ta tb) σ H d := fun H1 e0 Q q =>
  h H1 e0 _ fun v H2 e2 hv => hi H2 (e0.trans e2) _ fun H3 e3 => by
    cases hv with
    | tup hl r =>
      obtain ⟨w, h1, h2⟩ := atI_dt r a
      exact .inl (.inr (.inl ⟨_, _, i, w, rfl, rfl, SqT.of (e3 _ _ hl), h1, q w H3 (e2.trans e3) (h2.ex e3)⟩))
theorem ed_catL (h : EvD ta σ H (.list ds)) (h2 : EvD tb σ H (.list es)) (hl : ds.length + es.length ≤ 100000 := by simp only [List.length_cons, List.length_nil, List.length_append]; omega) : EvD (tOp (rAddA K) ta tb) σ H (.list (ds ++ es)) := fun H1 e0 Q q =>
  h H1 e0 _ fun v H2 e2 hv => h2 H2 (e0.trans e2) _ fun w H3 e3 hw => by
    cases hv with
    | lst hv r =>
      cases hw with
      | lst hw r2 => exact .inr (.inr (.inl ⟨_, _, _, _, rfl, rfl, e3 _ _ hv, hw, sz_of (by rw [r.length, r2.length]; exact hl), fun p hp => q _ _ ((e2.trans e3).trans (Ex.new hp)) (.lst upd_same (((r.ex e3).append r2).ex (Ex.new hp)))⟩))
theorem ev_eqD (h : EvD ta σ H d) (h2 : EvD tb σ H e) (od : okD d) (oe : okD e) : Ev (tOp (rEqA K) ta tb) σ H (.bl (PyData.eqv d e)) := fun H1 e0 Q q =>
  h H1 e0 _ fun v H2 e2 hv => h2 H2 (e0.trans e2) _ fun w H3 e3 hw => .inr ⟨d, e, (hv.ex e3).dp od.nd, hw.dp oe.nd, od.shaped, oe.shaped, q H3 (e2.trans e3)⟩
theorem ev_neD (h : EvD ta σ H d) (h2 : EvD tb σ H e) (od : okD d) (oe : okD e) : Ev (tOp (rNeA K) ta tb) σ H (.bl (!PyData.eqv d e)) := fun H1 e0 Q q =>
  h H1 e0 _ fun v H2 e2 hv => h2 H2 (e0.trans e2) _ fun w H3 e3 hw => .inr ⟨d, e, (hv.ex e3).dp od.nd, hw.dp oe.nd, od.shaped, oe.shaped, q H3 (e2.trans e3)⟩
theorem ev_isD {c : String} (ha : EvD ta σ H d) (hc : c ∈ asked := by decide) : Ev (tCB (rIsiA K) (tCons ta (tCons (tC (.ty c)) tNil))) σ H (.bl (isiB (kindD d) c)) := fun H1 e0 Q q =>
  ha H1 e0 _ fun v H2 e2 hv => rc_isi (hv.ty) hc H2 (Ex.refl H2) Q fun H3 e3 => q H3 (e2.trans e3)
theorem s_asgD {i : Nat} (h : EvD te σ H d) (k : ∀ v H1, Ex H H1 → Dt H1 v d → D.nx (σ.set i (some v)) H1) : tAsg te (gName i) D σ H := h H (Ex.refl H) _ fun v H1 e1 hv => k v H1 e1 hv
theorem q_asgD {i : Nat} (h : EvD te σ H d) (k : ∀ v H1, Ex H H1 → Dt H1 v d → tz D (σ.set i (some v)) H1) : tSeq (tAsg te (gName i)) tz D σ H := s_asgD (D := { D with nx := tz D }) h k
theorem s_retD (h : EvD te σ H d) (k : ∀ v H1, Ex H H1 → Dt H1 v d → D.rt v H1) : tRet te D σ H := h H (Ex.refl H) _ k
/-- promises about data: arguments ds in, d out -/
def RetD (d : PyData) (H : Hp) (Q : VK) : Prop := ∀ v H2, Ex H H2 → Dt H2 v d → Q v H2
/-- a def from data to data, by a function -/
def spD (n : Nat) (pre : List PyData → Prop) (f : List PyData → PyData) : Sp := fun vs H Q _ => ∃ ds, ds.length = n ∧ DtAll H vs ds ∧ pre ds ∧ RetD (f ds) H Q
theorem ed_callS {n : Nat} {pre : List PyData → Prop} {f : List PyData → PyData} {E : L2.St → XK} {ta : TA} (h : EvDs ta σ H ds) (hn : ds.length = n) (hp : pre ds) : EvD (tCallS (spD n pre f) E ta) σ H (f ds) := fun H1 e0 Q q =>
  h H1 e0 _ fun vs H2 e2 hvs => ⟨ds, hn, hvs, hp, fun v H3 e3 hv => q v H3 (e2.trans e3) hv⟩
theorem ed_call {n : Nat} {pre : List PyData → Prop} {f : List PyData → PyData} {E : XK} {ta : TA} (h : EvDs ta σ H ds) (hn : ds.length = n) (hp : pre ds) : EvD (tCall (spD n pre f) [] E ta) σ H (f ds) := fun H1 e0 Q q =>
  h H1 e0 _ fun vs H2 e2 hvs => ⟨ds, hn, by rw [List.append_nil]; exact hvs, hp, fun v H3 e3 hv => q v H3 (e2.trans e3) hv⟩
theorem Dt.i {v : V} {i : Int} (h : Dt H v (.int i)) : v = .int i := by cases h; rfl
theorem Dt.s {v : V} {i : Str} (h : Dt H v (.str i)) : v = .str i := by cases h; rfl
theorem Dt.b {v : V} {i : Bool} (h : Dt H v (.bool i)) : v = .bl i := by cases h; rfl
theorem Dt.n {v : V} (h : Dt H v .none) : v = .non := by cases h; rfl
theorem ev_i {i : Int} (h : EvD te σ H (.int i)) : Ev te σ H (.int i) := fun H1 e0 Q q => h H1 e0 _ fun v H2 e2 hv => by rw [hv.i]; exact q H2 e2
theorem ev_s {i : Str} (h : EvD te σ H (.str i)) : Ev te σ H (.str i) := fun H1 e0 Q q => h H1 e0 _ fun v H2 e2 hv => by rw [hv.s]; exact q H2 e2
theorem ev_b {i : Bool} (h : EvD te σ H (.bool i)) : Ev te σ H (.bl i) := fun H1 e0 Q q => h H1 e0 _ fun v H2 e2 hv => by rw [hv.b]; exact q H2 e2
theorem ev_n (h : EvD te σ H .none) : Ev te σ H .non := fun H1 e0 Q q => h H1 e0 _ fun v H2 e2 hv => by rw [hv.n]; exact q H2 e2
end
end Z

set_option Elab.async false
set_option linter.all false
set_option autoImplicit false
set_option maxRecDepth 100000
set_option maxHeartbeats 4000000
/-! ev: what an expression comes to, by its form -/
local macro_rules | `(tactic| k_places) => `(tactic| (repeat' (first
  | (with_reducible exact ev_c)
  | (with_reducible exact ev_var rfl)
  | (with_reducible refine ev_chainLL ?_ ?_ ?_)
  | (with_reducible refine ev_chainLt ?_ ?_ ?_)
  | (with_reducible refine ev_op ?_ ?_ ?_)
  | (with_reducible refine ev_neg ?_)
  | (with_reducible refine et_test ?_)
  | (with_reducible refine et_B ?_)
  | (with_reducible refine et_not ?_)
  | (with_reducible refine et_and ?_ (fun _ => ?_))
  | (with_reducible refine et_or ?_ (fun _ => ?_))
  | (with_reducible refine ev_andV ?_ (fun _ => ?_))
  | (with_reducible refine ev_orV ?_ (fun _ => ?_))
  | (with_reducible refine ev_notV ?_)
  | (with_reducible exact rv_addI)
  | (with_reducible exact rv_subI)
  | (with_reducible exact rv_lt)
  | (with_reducible exact rv_le)
  | (with_reducible exact rv_gt)
  | (with_reducible exact rv_ge)
  | (with_reducible exact rv_isB)
  | (with_reducible exact rv_isnB)
  | (with_reducible exact rv_isN)
  | (with_reducible exact rv_isnN)
  | (with_reducible exact rv_eqS rfl)
  | (with_reducible exact rv_neS rfl)
  | (with_reducible exact rv_inStr)
  | (with_reducible exact rv_ninStr)
  | (with_reducible exact rv_mod (by first | decide | omega | assumption))
  | (with_reducible exact rv_div (by first | decide | omega | assumption))
  | (with_reducible exact rv_pow (by decide))
  | (with_reducible refine ed_i ?_; done)
  | (with_reducible exact ea_nil)
  | (with_reducible refine ea_cons ?_ ?_)
  | (with_reducible exact eds_nil)
  | (with_reducible refine eds_cons ?_ ?_)
  | (with_reducible exact ed_dnew)
  | (with_reducible refine ed_lst ?_ (by simp only [List.length_cons, List.length_nil]; omega))
  | (with_reducible refine ed_tup ?_ (by simp only [List.length_cons, List.length_nil]; omega)))))
namespace Z
open PySem PySem.Spec PyProof.Rows L2 Evl
/-! ### values.py -/
def lets : List Nat := ("abcdefghijklmnopqrstuvwxyz" : Str).cps.toList
def isName (z : Str) : Bool := decide (1 ≤ z.length ∧ z.length ≤ 8) && z.cps.toList.all fun c => decide (c ∈ lets)
def isWholeD (d : PyData) : Bool := kindD d == "int"
def isNameD : PyData → Bool
  | .str z => isName z
  | _ => false
def isFaultD : PyData → Bool
  | .tuple [.str f, w] => decide (f = ("fault" : Str)) && isNameD w
  | _ => false
def isNumD : PyData → Bool
  | .int i => decide (-(10 ^ 60) < i ∧ i < 10 ^ 60)
  | _ => false
def isValueD (d : PyData) : Bool := isNumD d || isFaultD d
def short : PyData → Prop
  | .str z => z.length ≤ 30000
  | _ => True
def short2 : PyData → Prop
  | .tuple [_, w] => short w
  | _ => True
/-- a def of one argument -/
def sp1 (pre : PyData → Prop) (f : PyData → PyData) : Sp := spD 1 (fun ds => pre (ds.getD 0 .none)) (fun ds => f (ds.getD 0 .none))
theorem sp1_open {pre : PyData → Prop} {f : PyData → PyData} {vs : List V} {H : Hp} {Q : VK} {E : XK} (h : sp1 pre f vs H Q E) : ∃ v d, vs = [v] ∧ Dt H v d ∧ pre d ∧ RetD (f d) H Q := by
  obtain ⟨ds, hn, ha, hp, k⟩ := h
  cases ha with
  | nil => cases hn
  | cons a r =>
    cases r with
    | nil => exact ⟨_, _, rfl, a, hp, k⟩
    | cons _ _ => simp at hn
def sp_is_whole (K : PySem.W.Frag) : Sp := sp1 (fun _ => True) fun d => .bool (isWholeD d)
def sp_is_name (K : PySem.W.Frag) : Sp := sp1 short fun d => .bool (isNameD d)
def sp_is_fault (K : PySem.W.Frag) : Sp := sp1 short2 fun d => .bool (isFaultD d)
def sp_is_number (K : PySem.W.Frag) : Sp := sp1 (fun _ => True) fun d => .bool (isNumD d)
def sp_is_value (K : PySem.W.Frag) : Sp := sp1 short2 fun d => .bool (isValueD d)
def t_is_whole (K : PySem.W.Frag) (E : XK) : TS :=
  tRet (tAndV (tCB (rIsiA K) (tCons (tVar 0) (tCons (tC (.ty "int")) tNil))) (tNotV (tCB (rIsiA K) (tCons (tVar 0) (tCons (tC (.ty "bool")) tNil)))))
def t_is_name (K : PySem.W.Frag) (E : XK) : TS :=
  tSeq (tIfS (tOr (tNot (tB (tCB (rIsiA K) (tCons (tVar 0) (tCons (tC (.ty "str")) tNil))))) (tNot (tTest (tChain rLeA rLeA (tC (.int 1)) (tCB (rLenA K) (tCons (tVar 0) tNil)) (tC (.int 8)))))) (tRet (tC (.bl false))) tNext)
    (tRet (tCB (rAll K) (tCons (tLc (iStr (tVar 0)) (gName 1) tYes (tOp (rInA K) (tVar 1) (tC (.str "abcdefghijklmnopqrstuvwxyz"))) [1]) tNil)))
def t_is_fault (K : PySem.W.Frag) (E : XK) : TS :=
  tSeq (tIfS (tOr (tNot (tB (tCB (rIsiA K) (tCons (tVar 0) (tCons (tC (.ty "tuple")) tNil))))) (tTest (tOp (rNeA K) (tCB (rLenA K) (tCons (tVar 0) tNil)) (tC (.int 2))))) (tRet (tC (.bl false))) tNext)
    (tRet (tAndV (tCB (rIsiA K) (tCons (tOp (rIxA K) (tVar 0) (tC (.int 0))) (tCons (tC (.ty "str")) tNil))) (tAndV (tOp (rEqA K) (tOp (rIxA K) (tVar 0) (tC (.int 0))) (tC (.str "fault"))) (tCallS (sp_is_name K) (WE fun cls d _ H => E cls d H) (tCons (tOp (rIxA K) (tVar 0) (tC (.int 1))) tNil)))))
def t_is_number (K : PySem.W.Frag) (E : XK) : TS :=
  tRet (tAndV (tCallS (sp_is_whole K) (WE fun cls d _ H => E cls d H) (tCons (tVar 0) tNil)) (tOp rLtA (tCB rAbsA (tCons (tVar 0) tNil)) (tOp rPowA (tC (.int 10)) (tC (.int 60)))))
def t_is_value (K : PySem.W.Frag) (E : XK) : TS :=
  tRet (tOrV (tCallS (sp_is_number K) (WE fun cls d _ H => E cls d H) (tCons (tVar 0) tNil)) (tCallS (sp_is_fault K) (WE fun cls d _ H => E cls d H) (tCons (tVar 0) tNil)))
section
variable {K : PySem.W.Frag} {σ : L2.St} {H H' : Hp} {te : TE} {d : PyData} {E : L2.St → XK}
theorem ed_sp1 {pre : PyData → Prop} {f : PyData → PyData} (h : EvD te σ H d) (hp : pre d) : EvD (tCallS (sp1 pre f) E (tCons te tNil)) σ H (f d) := ed_callS (ds := [d]) (eds_cons h eds_nil) rfl hp
theorem ev_spB {pre : PyData → Prop} {g : PyData → Bool} (h : EvD te σ H d) (hp : pre d) : Ev (tCallS (sp1 pre fun d => .bool (g d)) E (tCons te tNil)) σ H (.bl (g d)) := ev_b (ed_sp1 h hp)
end
theorem r_is_whole {K : PySem.W.Frag} (vs : List V) (H : Hp) (Q : VK) (E : XK) (h : sp_is_whole K vs H Q E) : t_is_whole K E { nx := fun _ H' => Q .non H', rt := Q } (L2.start ["thing"] vs) H := by
  obtain ⟨v, d, rfl, r, -, k⟩ := sp1_open h
  unfold t_is_whole
  refine s_ret (v := .bl (isWholeD d)) (ev_is (ev_andV (ev_isD (ed_var rfl r)) fun _ => ev_notV (ev_isD (ed_var rfl r))) ?_) fun H1 e1 => k _ H1 e1 (.bl _)
  cases d <;> rfl
theorem r_is_number {K : PySem.W.Frag} (vs : List V) (H : Hp) (Q : VK) (E : XK) (h : sp_is_number K vs H Q E) : t_is_number K E { nx := fun _ H' => Q .non H', rt := Q } (L2.start ["thing"] vs) H := by
  obtain ⟨v, d, rfl, r, -, k⟩ := sp1_open h
  unfold t_is_number
  refine s_ret (v := .bl (isNumD d)) ?_ fun H1 e1 => k _ H1 e1 (.bl _)
  by_cases hi : ∃ i, d = .int i
  · obtain ⟨i, rfl⟩ := hi
    obtain rfl := r.i
    refine ev_is (ev_andV (ev_spB (ed_var rfl r) trivial) fun _ => ev_op (ev_cb (ea_cons (ev_var rfl) ea_nil) rc_abs) (ev_op ev_c ev_c (rv_pow (by decide))) rv_lt) ?_
    have e : ((10 : Int) ^ (60 : Int).toNat) = 10 ^ 60 := rfl
    rw [e]
    show V.bl (true && decide ((if i < 0 then -i else i) < 10 ^ 60)) = V.bl (decide (-(10 ^ 60) < i ∧ i < 10 ^ 60))
    rw [Bool.true_and]
    congr 1
    refine decide_eq_decide.mpr ?_
    split <;> omega
  · have e1 : isNumD d = false := by
      cases d <;> first | rfl | exact absurd ⟨_, rfl⟩ hi
    have e2 : isWholeD d = false := by
      cases d <;> first | rfl | exact absurd ⟨_, rfl⟩ hi
    rw [e1]
    refine ev_is (v := .bl (isWholeD d && false)) (ev_andV (ev_spB (ed_var rfl r) trivial) fun z => ?_) (by rw [e2]; rfl)
    rw [e2] at z
    cases z
theorem r_is_name {K : PySem.W.Frag} (vs : List V) (H : Hp) (Q : VK) (E : XK) (h : sp_is_name K vs H Q E) : t_is_name K E { nx := fun _ H' => Q .non H', rt := Q } (L2.start ["thing", "sign"] vs) H := by
  obtain ⟨v, d, rfl, r, hs, k⟩ := sp1_open h
  unfold t_is_name
  by_cases hz : ∃ z, d = .str z
  · obtain ⟨z, rfl⟩ := hz
    obtain rfl := r.s
    have hs : z.length ≤ 30000 := hs
    refine q_when (b := !(decide ((1 : Int) ≤ z.length) && decide ((z.length : Int) ≤ 8))) (et_is (et_or (et_not (et_B (ev_isD (ed_var rfl r)))) fun _ => et_not (et_test (ev_chainLL ev_c (ev_lenV (ev_var rfl) (rc_lenS (by omega))) ev_c))) (by rfl)) (fun hb H1 e1 => ?_) fun hb H1 e1 => ?_
    · refine s_ret ev_c fun H2 e2 => ?_
      have : isNameD (.str z) = false := by
        show (decide (1 ≤ z.length ∧ z.length ≤ 8) && _) = false
        have h1 : ¬ (1 ≤ z.length ∧ z.length ≤ 8) := by
          intro hh
          rw [decide_eq_true (by omega : (1 : Int) ≤ z.length), decide_eq_true (by omega : (z.length : Int) ≤ 8)] at hb
          cases hb
        rw [decide_eq_false h1, Bool.false_and]
      rw [this] at k
      exact k _ H2 (e1.trans e2) (.bl _)
    · have h1 : 1 ≤ z.length ∧ z.length ≤ 8 := by
        cases q1 : decide ((1 : Int) ≤ z.length) with
        | false => rw [q1] at hb; cases hb
        | true =>
          cases q2 : decide ((z.length : Int) ≤ 8) with
          | false => rw [q1, q2] at hb; cases hb
          | true =>
            have := of_decide_eq_true q1
            have := of_decide_eq_true q2
            omega
      have zl : z.length = z.cps.size := rfl
      have E1 : given z.cps.size (fun _ => true) (fun i => .bl (decide (z.cps.toList.getD i 0 ∈ lets))) = (z.cps.toList.map fun c => decide (c ∈ lets)).map V.bl := by
        unfold given
        rw [List.filter_eq_self.mpr (fun _ _ => rfl), List.map_map]
        apply List.ext_getElem?
        intro i
        rw [List.getElem?_map, List.getElem?_map]
        by_cases hi : i < z.cps.size
        · have hi2 : i < z.cps.toList.length := by simpa using hi
          have e : z.cps.toList[i]? = some (z.cps.toList.getD i 0) := by
            rw [List.getD_eq_getElem?_getD, List.getElem?_eq_getElem hi2]
            rfl
          rw [List.getElem?_range hi, e]
          rfl
        · rw [List.getElem?_eq_none (by simpa using hi), List.getElem?_eq_none (by simpa using hi)]
          rfl
      refine s_ret (v := .bl (isNameD (.str z))) (ev_is (ev_all (bs := z.cps.toList.map fun c => decide (c ∈ lets)) ?_) ?_) fun H2 e2 => k _ H2 (e1.trans e2) (.bl _)
      · rw [← E1]
        refine el_lcS (fun _ => true) _ (ev_var rfl) (by omega) (fun _ => rfl) (fun i c H2 e2 hc => ?_) (fun i c H2 e2 hc _ => ?_)
        · exact fun H3 _ Q q => q H3 (Ex.refl H3)
        · refine ev_is (ev_op (ev_var rfl) ev_c rv_inStr) ?_
          have : z.cps.toList.getD i 0 = c := by
            rw [List.getD_eq_getElem?_getD, Array.getElem?_toList, hc]
            rfl
          rw [this]
          rfl
      · show V.bl ((z.cps.toList.map fun c => decide (c ∈ lets)).all id) = V.bl (decide (1 ≤ z.length ∧ z.length ≤ 8) && z.cps.toList.all fun c => decide (c ∈ lets))
        rw [decide_eq_true h1, Bool.true_and, List.all_map]
        rfl
  · have e1 : isNameD d = false := by
      cases d <;> first | rfl | exact absurd ⟨_, rfl⟩ hz
    have e2 : isiB (kindD d) "str" = false := by
      cases d <;> first | rfl | exact absurd ⟨_, rfl⟩ hz
    refine q_when (b := true) (et_is (b := true) (a := !(isiB (kindD d) "str") || true) (et_or (et_not (et_B (ev_isD (ed_var rfl r)))) fun z => ?_) (by rw [e2]; rfl)) (fun hb H1 e1' => ?_) fun hb => nomatch hb
    · rw [e2] at z
      cases z
    · refine s_ret ev_c fun H2 e2 => ?_
      rw [e1] at k
      exact k _ H2 (e1'.trans e2) (.bl _)
theorem r_is_fault {K : PySem.W.Frag} (vs : List V) (H : Hp) (Q : VK) (E : XK) (h : sp_is_fault K vs H Q E) : t_is_fault K E { nx := fun _ H' => Q .non H', rt := Q } (L2.start ["thing"] vs) H := by
  obtain ⟨v, d, rfl, r, hs, k⟩ := sp1_open h
  unfold t_is_fault
  by_cases hz : ∃ ds, d = .tuple ds
  · obtain ⟨ds, rfl⟩ := hz
    cases r with
    | @tup a xs _ ha r =>
    have el := r.length
    have hl : Ev (tCB (rLenA K) (tCons (tVar 0) tNil)) [some (V.ref a)] H (.int ds.length) := by
      rw [← el]
      exact ev_lenV (ev_var rfl) (rc_lenT (SqT.of ha))
    refine q_when (b := !decide ((ds.length : Int) = 2)) (et_is (et_or (et_not (et_B (ev_isi (n := "tuple") (ev_var rfl) (by show tyO (H a) = _; rw [ha]; rfl)))) fun _ => et_test (ev_op hl ev_c (rv_neS rfl))) ?_) (fun hb H1 e1 => ?_) fun hb H1 e1 => ?_
    · show (false || !decide (V.int ds.length = V.int 2)) = _
      rw [Bool.false_or]
      congr 1
      exact decide_eq_decide.mpr ⟨fun h => V.int.inj h, fun h => by rw [h]⟩
    · refine s_ret ev_c fun H2 e2 => ?_
      have : isFaultD (.tuple ds) = false := by
        unfold isFaultD
        split
        · rename_i q
          cases q
          cases hb
        · rfl
      rw [this] at k
      exact k _ H2 (e1.trans e2) (.bl _)
    · have h2 : ds.length = 2 := by
        cases q : decide ((ds.length : Int) = 2) with
        | false => rw [q] at hb; cases hb
        | true =>
          have := of_decide_eq_true q
          omega
      obtain ⟨f, w, rfl⟩ : ∃ f w, ds = [f, w] := by
        match ds, h2 with
        | [f, w], _ => exact ⟨f, w, rfl⟩
      have D0 : Dt H (.ref a) (.tuple [f, w]) := .tup ha r
      have i0 : EvD (tOp (rIxA K) (tVar 0) (tC (.int 0))) [some (V.ref a)] H f := ed_ixT (ed_var rfl D0) ev_c rfl
      have i1 : EvD (tOp (rIxA K) (tVar 0) (tC (.int 1))) [some (V.ref a)] H w := ed_ixT (ed_var rfl D0) ev_c rfl
      refine s_ret (v := .bl (isFaultD (.tuple [f, w]))) ?_ fun H2 e2 => k _ H2 (e1.trans e2) (.bl _)
      refine Ev.mono e1 ?_
      by_cases hf : ∃ z, f = .str z
      · obtain ⟨z, rfl⟩ := hf
        refine ev_is (ev_andV (ev_isD i0) fun _ => ev_andV (ev_op (ev_s i0) ev_c (rv_eqS rfl)) fun _ => ev_spB i1 hs) ?_
        show V.bl (true && (decide (V.str z = V.str "fault") && isNameD w)) = V.bl (decide (z = ("fault" : Str)) && isNameD w)
        rw [Bool.true_and]
        congr 2
        exact decide_eq_decide.mpr ⟨fun h => V.str.inj h, fun h => by rw [h]⟩
      · have e2 : isiB (kindD f) "str" = false := by
          cases f <;> first | rfl | exact absurd ⟨_, rfl⟩ hf
        refine ev_is (v := .bl (isiB (kindD f) "str" && false)) (ev_andV (ev_isD i0) fun z => ?_) ?_
        · rw [e2] at z
          cases z
        · rw [e2]
          cases f <;> first | rfl | exact absurd ⟨_, rfl⟩ hf
  · have e1 : isFaultD d = false := by
      cases d <;> first | rfl | exact absurd ⟨_, rfl⟩ hz
    have e2 : isiB (kindD d) "tuple" = false := by
      cases d <;> first | rfl | exact absurd ⟨_, rfl⟩ hz
    refine q_when (b := true) (et_is (b := true) (a := !(isiB (kindD d) "tuple") || true) (et_or (et_not (et_B (ev_isD (ed_var rfl r)))) fun z => ?_) (by rw [e2]; rfl)) (fun hb H1 e1' => ?_) fun hb => nomatch hb
    · rw [e2] at z
      cases z
    · refine s_ret ev_c fun H2 e2 => ?_
      rw [e1] at k
      exact k _ H2 (e1'.trans e2) (.bl _)
theorem r_is_value {K : PySem.W.Frag} (vs : List V) (H : Hp) (Q : VK) (E : XK) (h : sp_is_value K vs H Q E) : t_is_value K E { nx := fun _ H' => Q .non H', rt := Q } (L2.start ["thing"] vs) H := by
  obtain ⟨v, d, rfl, r, hs, k⟩ := sp1_open h
  unfold t_is_value
  exact s_ret (v := .bl (isValueD d)) (ev_orV (ev_spB (ed_var rfl r) trivial) fun _ => ev_spB (ed_var rfl r) hs) fun H1 e1 => k _ H1 e1 (.bl _)
end Z

set_option Elab.async false
set_option linter.all false
set_option autoImplicit false
set_option maxRecDepth 100000
set_option maxHeartbeats 4000000
/-! ev: what an expression comes to, by its form -/
local macro_rules | `(tactic| k_places) => `(tactic| (repeat' (first
  | (with_reducible exact ev_c)
  | (with_reducible exact ev_var rfl)
  | (with_reducible refine ev_chainLL ?_ ?_ ?_)
  | (with_reducible refine ev_chainLt ?_ ?_ ?_)
  | (with_reducible refine ev_op ?_ ?_ ?_)
  | (with_reducible refine ev_neg ?_)
  | (with_reducible refine et_test ?_)
  | (with_reducible refine et_B ?_)
  | (with_reducible refine et_not ?_)
  | (with_reducible refine et_and ?_ (fun _ => ?_))
  | (with_reducible refine et_or ?_ (fun _ => ?_))
  | (with_reducible refine ev_andV ?_ (fun _ => ?_))
  | (with_reducible refine ev_orV ?_ (fun _ => ?_))
  | (with_reducible refine ev_notV ?_)
  | (with_reducible exact rv_addI)
  | (with_reducible exact rv_subI)
  | (with_reducible exact rv_lt)
  | (with_reducible exact rv_le)
  | (with_reducible exact rv_gt)
  | (with_reducible exact rv_ge)
  | (with_reducible exact rv_isB)
  | (with_reducible exact rv_isnB)
  | (with_reducible exact rv_isN)
  | (with_reducible exact rv_isnN)
  | (with_reducible exact rv_eqS rfl)
  | (with_reducible exact rv_neS rfl)
  | (with_reducible exact rv_inStr)
  | (with_reducible exact rv_ninStr)
  | (with_reducible exact rv_mod (by first | decide | omega | assumption))
  | (with_reducible exact rv_div (by first | decide | omega | assumption))
  | (with_reducible exact rv_pow (by decide))
  | (with_reducible refine ed_i ?_; done)
  | (with_reducible exact ea_nil)
  | (with_reducible refine ea_cons ?_ ?_)
  | (with_reducible exact eds_nil)
  | (with_reducible refine eds_cons ?_ ?_)
  | (with_reducible exact ed_dnew)
  | (with_reducible refine ed_lst ?_ (by simp only [List.length_cons, List.length_nil]; omega))
  | (with_reducible refine ed_tup ?_ (by simp only [List.length_cons, List.length_nil]; omega)))))
namespace Z
open PySem PySem.Spec PyProof.Rows L2 Evl
/-! ### texts and draws -/
def tJoin (K : PySem.W.Frag) : TE → TE → TE := tM1 (fun x xs H Q => ∃ a p, ∃ ys : List Str, x = .str a ∧ xs = [.ref p] ∧ (SqL K H p (ys.map V.str) ∨ SqT K H p (ys.map V.str)) ∧
      (ys.map (·.length)).sum + ys.length * a.length ≤ 16777216 ∧ Q (.str (Txt.join a ys)) H)
theorem toL_joinL0 : ∀ l : List Nat, TL.joinL [] (l.map fun c => [c]) = l
  | [] => rfl
  | [c] => rfl
  | c :: d :: r => by
    have ih := toL_joinL0 (d :: r)
    show [c] ++ ([] ++ TL.joinL [] ((d :: r).map fun c => [c])) = c :: d :: r
    rw [ih]
    rfl
theorem join_signs (l : List Nat) : Txt.join (SX.S []) (l.map fun c => SX.S [c]) = SX.S l := by
  have h := SX.join_S [] (l.map fun c => [c])
  rw [List.map_map] at h
  rw [toL_joinL0] at h
  exact h
theorem sum_ones (l : List Nat) : ((l.map fun c => SX.S [c]).map (·.length)).sum = l.length := by
  induction l with
  | nil => rfl
  | cons a r ih =>
    rw [List.map_cons, List.map_cons, List.sum_cons, ih, List.length_cons]
    show 1 + r.length = r.length + 1
    omega
theorem atI_emod {α : Type} (l : List α) (x : Int) (d : α) {n : Int} (hn : n = l.length) (h : 0 < n) : atI l (x % n) = some (l.getD (x % n).toNat d) := by
  have h1 := Int.emod_nonneg x (show n ≠ 0 by omega)
  have h2 := Int.emod_lt_of_pos x h
  have hl : (x % n).toNat < l.length := by omega
  have e : x % n = (((x % n).toNat : Nat) : Int) := by omega
  have g : l[(x % n).toNat]? = some (l.getD (x % n).toNat d) := by
    rw [List.getD_eq_getElem?_getD, List.getElem?_eq_getElem hl]
    rfl
  have q := atI_nat g
  rw [← e] at q
  exact q
theorem getD_mem {α : Type} {l : List α} {i : Nat} {d : α} (h : i < l.length) : l.getD i d ∈ l := by
  rw [List.getD_eq_getElem?_getD, List.getElem?_eq_getElem h]
  exact List.getElem_mem h
theorem emod_lt_len {α : Type} {l : List α} (x : Int) {n : Int} (hn : n = l.length) (h : 0 < n) : (x % n).toNat < l.length := by
  have h1 := Int.emod_nonneg x (show n ≠ 0 by omega)
  have h2 := Int.emod_lt_of_pos x h
  omega
theorem emod_bd (x : Int) {n : Int} (h : 0 < n) : 0 ≤ x % n ∧ x % n < n := ⟨Int.emod_nonneg x (by omega), Int.emod_lt_of_pos x h⟩
theorem map_str_S (l : List Nat) : (l.map fun c => SX.S [c]).map V.str = l.map fun c => V.str ⟨#[c]⟩ := by
  rw [List.map_map]
  rfl
section
variable {K : PySem.W.Frag} {σ : L2.St} {H H' : Hp} {ta tb te tx : TE} {D : Ends}
theorem ev_joinP {a : Str} {ys : List Str} {p : Addr} (ha : Ev ta σ H (.str a)) (hb : Ev tb σ H (.ref p)) (hs : H p = some (.lst (ys.map V.str))) (hl : (ys.map (·.length)).sum + ys.length * a.length ≤ 16777216) : Ev (tJoin K ta tb) σ H (.str (Txt.join a ys)) := fun H1 e Q q =>
  ha H1 e _ fun H2 e2 => ⟨⟨a, rfl⟩, hb H2 (e.trans e2) _ fun H3 e3 => ⟨a, p, ys, rfl, rfl, .inl (SqL.of (((e.trans e2).trans e3) _ _ hs)), hl, q H3 (e2.trans e3)⟩⟩
/-- "".join of a list of signs -/
theorem ev_joinSigns {l : List Nat} {p : Addr} (hb : Ev tb σ H (.ref p)) (hs : H p = some (.lst (l.map fun c => V.str ⟨#[c]⟩))) (hl : l.length ≤ 1000000) : Ev (tJoin K (tC (.str "")) tb) σ H (.str (SX.S l)) := by
  refine ev_is (ev_joinP (a := SX.S []) (ys := l.map fun c => SX.S [c]) (ev_is ev_c rfl) hb (by rw [map_str_S]; exact hs) ?_) (by rw [join_signs])
  rw [sum_ones, List.length_map]
  show l.length + l.length * 0 ≤ 16777216
  omega
/-- "abc"[x % n] -/
theorem ev_sign {w : Str} {x n : Int} (ha : Ev ta σ H (.str w)) (hb : Ev tb σ H (.int (x % n))) (hn : n = w.cps.toList.length) (h : 0 < n) (hw : w.length ≤ 100000) : Ev (tOp (rIxA K) ta tb) σ H (.str ⟨#[w.cps.toList.getD (x % n).toNat 0]⟩) :=
  ev_op ha hb (rv_itS hw (atI_emod _ x 0 hn h))
end
section
variable {K : PySem.W.Frag} {σ : L2.St} {H H' : Hp} {ta tb te tx : TE} {tl : TE} {D : Ends} {tu tz : TS}
/-- for c in a text -/
theorem s_forS {a : Str} {j : Nat} (h : Ev tl σ H (.str a)) (Pv : Nat → L2.St → Hp → Prop) (h0 : ∀ H1, Ex H H1 → Pv 0 σ H1)
    (hs : ∀ i c σ' H', a.cps.toList[i]? = some c → Pv i σ' H' → tu { D with nx := Pv (i + 1), ct := Pv (i + 1), bk := D.nx } (σ'.set j (some (.str ⟨#[c]⟩))) H') (hd : ∀ σ' H', Pv a.cps.toList.length σ' H' → D.nx σ' H') : tFor (iStr tl) (gName j) tu D σ H := by
  refine h H (Ex.refl H) _ fun H1 e => ⟨a, rfl, ?_⟩
  refine ⟨fun i m σ' H' => m = a.cps.toList.length - i ∧ i ≤ a.cps.toList.length ∧ Pv i σ' H', ⟨a.cps.toList.length, by simp, Nat.zero_le _, h0 H1 e⟩, ?_⟩
  rintro i m σ' H' ⟨rfl, hi, p⟩
  by_cases hlt : i < a.cps.toList.length
  · refine .inr ⟨show i < a.cps.size by simpa using hlt, fun σ2 H2 => Pv (i + 1) σ2 H2, fun σ2 H2 p2 => ⟨a.cps.toList.length - (i + 1), by omega, rfl, hlt, p2⟩, ?_⟩
    rintro x2 H2 ⟨rfl, c, hc, rfl⟩
    exact hs i c σ' _ (by rw [Array.getElem?_toList]; exact hc) p
  · have e0 : i = a.cps.toList.length := by omega
    subst e0
    exact .inl ⟨show a.cps.size ≤ a.cps.toList.length by simp, hd σ' H' p⟩
theorem q_forS {a : Str} {j : Nat} (h : Ev tl σ H (.str a)) (Pv : Nat → L2.St → Hp → Prop) (h0 : ∀ H1, Ex H H1 → Pv 0 σ H1)
    (hs : ∀ i c σ' H', a.cps.toList[i]? = some c → Pv i σ' H' → tu { D with nx := Pv (i + 1), ct := Pv (i + 1), bk := tz D } (σ'.set j (some (.str ⟨#[c]⟩))) H') (hd : ∀ σ' H', Pv a.cps.toList.length σ' H' → tz D σ' H') : tSeq (tFor (iStr tl) (gName j) tu) tz D σ H := s_forS (D := { D with nx := tz D }) h Pv h0 hs hd
/-- {i: v}, v no object -/
theorem ed_disp1 {i : Int} {v : V} {d : PyData} (hk : Ev ta σ H (.int i)) (hv : Ev tb σ H v) (hd : ∀ H, Dt H v d) : EvD (tDisp ((ta, tb) :: [])) σ H (.dict [(.int i, d)]) := fun H1 e0 Q q p hp => by
  show ta σ (upd H1 p (.dK [])) _
  have e1 : Ex H1 (upd H1 p (.dK [])) := Ex.new hp
  refine hk _ (e0.trans e1) _ fun H2 e2 => hv H2 ((e0.trans e1).trans e2) _ fun H3 e3 => ⟨(e2.trans e3) _ _ upd_same, [(.inl i, v)], rfl, (show 1 ≤ 15 by decide), ?_⟩
  refine q _ _ (Ex.mut ((e1.trans e2).trans e3) hp) ?_
  exact .dct (kvs := [(.inl i, v)]) (ds := [d]) upd_same (.cons (hd _) .nil)
/-- xs[i] = v -/
theorem s_setA {l : Addr} {xs : List V} {j : Nat} {v : V} (hl : H l = some (.lst xs)) (h : Ev te σ H v) (ho : Ev ta σ H (.ref l)) (hi : Ev tb σ H (.int (j : Int))) (hj : j < xs.length) (k : ∀ H1, Ex H H1 → D.nx σ (upd H1 l (.lst (xs.set j v)))) :
    tAsg te (gSub ta tb rSetA) D σ H := h H (Ex.refl H) _ fun H1 e1 => ho H1 e1 _ fun H2 e2 => hi H2 (e1.trans e2) _ fun H3 e3 =>
  .inl ⟨l, xs, (j : Int), j, rfl, rfl, ((e1.trans e2).trans e3) l _ hl, ixN_nat hj, k H3 ((e1.trans e2).trans e3)⟩
end
/-! ### _law_cell -/
def cellV (ns : List Int) (k : Nat) : Int :=
  if k < ns.length then ns.getD k 0
  else ((if 0 < ns.length then ns.getD (k % ns.length) 0 % 2147483647 else 41) + (k : Int) * k + 5) * (48271 + 16807 * (k : Int)) % 2147483629
def sp_law_cell (K : PySem.W.Frag) : Sp := fun vs H Q _ => ∃ (l : Addr) (ns : List Int) (j : Nat), vs = [.ref l, .int (j : Int)] ∧ SqL K H l (ns.map V.int) ∧ j ≤ 100000 ∧ RetV (.int (cellV ns j)) H Q
def t_law_cell (K : PySem.W.Frag) (E : XK) : TS :=
  tSeq (tIfS (tTest (tOp rLtA (tVar 1) (tCB (rLenA K) (tCons (tVar 0) tNil)))) (tRet (tOp (rIxA K) (tVar 0) (tVar 1))) tNext)
    (tSeq (tAsg (tC (.int 41)) (gName 2))
    (tSeq (tIfS (tTest (tOp rGtA (tCB (rLenA K) (tCons (tVar 0) tNil)) (tC (.int 0)))) (tAsg (tOp rModA (tOp (rIxA K) (tVar 0) (tOp rModA (tVar 1) (tCB (rLenA K) (tCons (tVar 0) tNil)))) (tC (.int 2147483647))) (gName 2)) tNext)
    (tRet (tOp rModA (tOp (rMulA K) (tOp (rAddA K) (tOp (rAddA K) (tVar 2) (tOp (rMulA K) (tVar 1) (tVar 1))) (tC (.int 5))) (tOp (rAddA K) (tC (.int 48271)) (tOp (rMulA K) (tC (.int 16807)) (tVar 1)))) (tC (.int 2147483629))))))
theorem ints_at {ns : List Int} {k : Nat} (h : k < ns.length) : atI (ns.map V.int) (k : Int) = some (.int (ns.getD k 0)) := by
  refine atI_nat ?_
  rw [List.getElem?_map, List.getElem?_eq_getElem h, List.getD_eq_getElem?_getD, List.getElem?_eq_getElem h]
  rfl
theorem r_law_cell {K : PySem.W.Frag} (vs : List V) (H : Hp) (Q : VK) (E : XK) (h : sp_law_cell K vs H Q E) : t_law_cell K E { nx := fun _ H' => Q .non H', rt := Q } (L2.start ["script", "k", "seed"] vs) H := by
  obtain ⟨l, ns, j, rfl, hl, hj, k⟩ := h
  unfold t_law_cell
  have hlen : ∀ {σ : L2.St} {H1 : Hp}, σ[0]? = some (some (V.ref l)) → Ex H H1 → Ev (tCB (rLenA K) (tCons (tVar 0) tNil)) σ H1 (.int ns.length) := fun h0 e => by
    have := ev_lenV (ta := tVar 0) (ev_var h0) (rc_lenL (K := K) (ex_l e hl))
    rw [List.length_map] at this
    exact this
  refine q_when (et_test (ev_op (ev_var rfl) (hlen rfl (Ex.refl H)) rv_lt)) (fun hb H1 e1 => ?_) (fun hb H1 e1 => ?_)
  · have hb := of_decide_eq_true hb
    refine s_ret (ev_op (ev_var rfl) (ev_var rfl) (rv_itL (ex_l e1 hl) (ints_at (show j < ns.length by omega)))) fun H2 e2 => ?_
    unfold RetV cellV at k
    rw [if_pos (by omega)] at k
    exact k H2 (e1.trans e2)
  · have hb := of_decide_eq_false hb
    refine q_asg ev_c fun H2 e2 => ?_
    refine q_ifAsg (v := .int (if 0 < ns.length then ns.getD (j % ns.length) 0 % 2147483647 else 41)) (et_test (ev_op (hlen rfl (e1.trans e2)) ev_c rv_gt)) (fun hp => ?_) (fun hp => ?_) fun H3 e3 => ?_
    · have hp := of_decide_eq_true hp
      have hp : 0 < ns.length := by omega
      rw [if_pos hp]
      refine ev_op (ev_op (ev_var rfl) (ev_is (ev_op (ev_var rfl) (hlen rfl (e1.trans e2)) (rv_mod (by omega))) (by rw [← Int.natCast_emod])) (rv_itL (ex_l (e1.trans e2) hl) (ints_at (Nat.mod_lt _ hp)))) ev_c (rv_mod (by decide))
    · have hp := of_decide_eq_false hp
      rw [if_neg (by omega)]
      rfl
    · generalize hs : (if 0 < ns.length then ns.getD (j % ns.length) 0 % 2147483647 else 41) = sd at *
      have b : 0 ≤ sd ∧ sd < 2147483647 := by
        rw [← hs]
        split
        · exact emod_bd _ (by decide)
        · decide
      have j2 : (j : Int) * j < 2 ^ 40 ∧ 0 ≤ (j : Int) * j := by
        have h1 : j * j ≤ 100000 * 100000 := Nat.mul_le_mul hj hj
        have h2 : ((j * j : Nat) : Int) = (j : Int) * j := Int.natCast_mul j j
        rw [← h2]
        omega
      refine s_ret (ev_op (ev_op (ev_op (ev_op (ev_var rfl) (ev_op (ev_var rfl) (ev_var rfl) (rv_mulI (wide_mul (a := 20) (b := 20) (by omega) (by omega) (by decide) (by decide) (by decide)))) rv_addI) ev_c rv_addI) (ev_op ev_c (ev_op ev_c (ev_var rfl) (rv_mulI (wide_mul (a := 20) (b := 20) (by omega) (by omega) (by decide) (by decide) (by decide)))) rv_addI) (rv_mulI (wide_mul (a := 50) (b := 50) (by omega) (by omega) (by decide) (by decide) (by decide)))) ev_c (rv_mod (by decide))) fun H4 e4 => ?_
      unfold RetV cellV at k
      rw [if_neg (by omega), hs] at k
      exact k H4 (((e1.trans e2).trans e3).trans e4)
section
variable {K : PySem.W.Frag} {σ : L2.St} {H H' : Hp} {ta tb te tx : TE} {E : L2.St → XK}
theorem ev_cell {l : Addr} {ns : List Int} {j : Nat} (ha : Ev ta σ H (.ref l)) (hb : Ev tb σ H (.int (j : Int))) (hl : SqL K H l (ns.map V.int)) (hj : j ≤ 100000) : Ev (tCallS (sp_law_cell K) E (tCons ta (tCons tb tNil))) σ H (.int (cellV ns j)) :=
  ev_callS (ea_cons ha (ea_cons hb ea_nil)) fun H1 e Q q E => ⟨l, ns, j, rfl, ex_l e hl, hj, fun H2 e2 => q H2 e2⟩
end
/-! ### often wanted -/
theorem lt60 {i : Int} (h : -(10 ^ 62) < i) (h2 : i < 10 ^ 62) : i.natAbs.log2 < 1000 := by
  refine PySem.Flt.log2_lt_of (by decide) (Nat.lt_trans (m := 10 ^ 62) (by omega) (by decide +kernel))
theorem name_of {l : List Nat} (h1 : 1 ≤ l.length) (h2 : l.length ≤ 8) (h : ∀ c ∈ l, c ∈ lets) : isName (SX.S l) = true := by
  unfold isName
  rw [decide_eq_true (by rw [SX.S_len]; exact ⟨h1, h2⟩), Bool.true_and]
  exact List.all_eq_true.mpr fun c hc => decide_eq_true (h c hc)
theorem name_len {z : Str} (h : isName z = true) : 1 ≤ z.length ∧ z.length ≤ 8 := by
  unfold isName at h
  exact of_decide_eq_true (Bool.and_eq_true_iff.mp h).1
theorem isFault_pair (f : Str) (w : PyData) : isFaultD (.tuple [.str f, w]) = (decide (f = ("fault" : Str)) && isNameD w) := rfl
theorem lets_lt : ∀ c ∈ lets, c < 128 := by decide +kernel
theorem name_ok {z : Str} (h : isName z = true) : okS z := by
  have := name_len h
  unfold isName at h
  refine okS_of (by omega) fun c hc => lets_lt c ?_
  exact of_decide_eq_true (List.all_eq_true.mp (Bool.and_eq_true_iff.mp h).2 c hc)
theorem okF : okS "fault" := ⟨by decide +kernel, by decide +kernel⟩
theorem okS_rep {z : Str} (h : okS z) {n : Int} (hn : z.length * n.toNat ≤ 30000) : okS (repS z n) := by
  unfold repS
  have e : z.cps.toList.length = z.length := by simp [Str.length]
  refine ⟨?_, ?_⟩
  · rw [SX.S_len, List.length_flatten, List.map_replicate, e]
    have : ∀ n : Nat, (List.replicate n z.length).sum = z.length * n := fun n => by
      induction n with
      | zero => rfl
      | succ n ih => rw [List.replicate_succ, List.sum_cons, ih, Nat.mul_succ, Nat.add_comm]
    rw [this]
    exact hn
  · show ((List.replicate n.toNat z.cps.toList).flatten).toArray.all (· < 1114112) = true
    rw [List.all_toArray]
    refine List.all_eq_true.mpr fun c hc => ?_
    obtain ⟨l, h1, h2⟩ := List.mem_flatten.mp hc
    rw [List.eq_of_mem_replicate h1] at h2
    have h3 := h.cps
    rw [← Array.all_toList] at h3
    exact List.all_eq_true.mp h3 c h2
theorem isNum_iff (x : Int) : isNumD (.int x) = decide (-(10 ^ 60) < x ∧ x < 10 ^ 60) := rfl
theorem ev_chainT {K : PySem.W.Frag} {σ : L2.St} {H : Hp} {ta tb tx : TE} {i j k : Int} (ha : Ev ta σ H (.int i)) (hb : Ev tb σ H (.int j)) (hc : Ev tx σ H (.int k)) : Ev (tChain rLtA rLtA ta tb tx) σ H (.bl (decide (i < j) && decide (j < k))) :=
  ev_chainI (g := fun a b => decide (a < b)) (g' := fun a b => decide (a < b)) ha hb hc
theorem len_is_whole {K : PySem.W.Frag} (vs : List V) (H : Hp) (Q : VK) (E : XK) (h : sp_is_whole K vs H Q E) : vs.length = 1 := by obtain ⟨_, _, rfl, _⟩ := sp1_open h; rfl
theorem len_is_name {K : PySem.W.Frag} (vs : List V) (H : Hp) (Q : VK) (E : XK) (h : sp_is_name K vs H Q E) : vs.length = 1 := by obtain ⟨_, _, rfl, _⟩ := sp1_open h; rfl
theorem len_is_fault {K : PySem.W.Frag} (vs : List V) (H : Hp) (Q : VK) (E : XK) (h : sp_is_fault K vs H Q E) : vs.length = 1 := by obtain ⟨_, _, rfl, _⟩ := sp1_open h; rfl
theorem len_is_number {K : PySem.W.Frag} (vs : List V) (H : Hp) (Q : VK) (E : XK) (h : sp_is_number K vs H Q E) : vs.length = 1 := by obtain ⟨_, _, rfl, _⟩ := sp1_open h; rfl
theorem len_is_value {K : PySem.W.Frag} (vs : List V) (H : Hp) (Q : VK) (E : XK) (h : sp_is_value K vs H Q E) : vs.length = 1 := by obtain ⟨_, _, rfl, _⟩ := sp1_open h; rfl
theorem len_law_cell {K : PySem.W.Frag} (vs : List V) (H : Hp) (Q : VK) (E : XK) (h : sp_law_cell K vs H Q E) : vs.length = 2 := by obtain ⟨_, _, _, rfl, _⟩ := h; rfl
end Z

set_option Elab.async false
set_option linter.all false
set_option autoImplicit false
set_option maxRecDepth 100000
set_option maxHeartbeats 4000000
/-! ev: what an expression comes to, by its form -/
local macro_rules | `(tactic| k_places) => `(tactic| (repeat' (first
  | (with_reducible exact ev_c)
  | (with_reducible exact ev_var rfl)
  | (with_reducible refine ev_chainLL ?_ ?_ ?_)
  | (with_reducible refine ev_chainLt ?_ ?_ ?_)
  | (with_reducible refine ev_op ?_ ?_ ?_)
  | (with_reducible refine ev_neg ?_)
  | (with_reducible refine et_test ?_)
  | (with_reducible refine et_B ?_)
  | (with_reducible refine et_not ?_)
  | (with_reducible refine et_and ?_ (fun _ => ?_))
  | (with_reducible refine et_or ?_ (fun _ => ?_))
  | (with_reducible refine ev_andV ?_ (fun _ => ?_))
  | (with_reducible refine ev_orV ?_ (fun _ => ?_))
  | (with_reducible refine ev_notV ?_)
  | (with_reducible exact rv_addI)
  | (with_reducible exact rv_subI)
  | (with_reducible exact rv_lt)
  | (with_reducible exact rv_le)
  | (with_reducible exact rv_gt)
  | (with_reducible exact rv_ge)
  | (with_reducible exact rv_isB)
  | (with_reducible exact rv_isnB)
  | (with_reducible exact rv_isN)
  | (with_reducible exact rv_isnN)
  | (with_reducible exact rv_eqS rfl)
  | (with_reducible exact rv_neS rfl)
  | (with_reducible exact rv_inStr)
  | (with_reducible exact rv_ninStr)
  | (with_reducible exact rv_mod (by first | decide | omega | assumption))
  | (with_reducible exact rv_div (by first | decide | omega | assumption))
  | (with_reducible exact rv_pow (by decide))
  | (with_reducible refine ed_i ?_; done)
  | (with_reducible exact ea_nil)
  | (with_reducible refine ea_cons ?_ ?_)
  | (with_reducible exact eds_nil)
  | (with_reducible refine eds_cons ?_ ?_)
  | (with_reducible exact ed_dnew)
  | (with_reducible refine ed_lst ?_ (by simp only [List.length_cons, List.length_nil]; omega))
  | (with_reducible refine ed_tup ?_ (by simp only [List.length_cons, List.length_nil]; omega)))))
--TDEFS settled law
namespace Z
open PySem PySem.Spec PyProof.Rows L2 Evl
def settledD (d : PyData) : PyData := if isValueD d = true then d else .tuple [.str "fault", .str "odd"]
def sp_settled (K : PySem.W.Frag) : Sp := sp1 short2 settledD
def spLaw (K : PySem.W.Frag) : Sp := fun vs H Q _ => ∃ (a : Addr) (ns : List Int), vs = [.ref a] ∧ SqL K H a (ns.map V.int) ∧ ns.length ≤ 63 ∧ ∀ H', Q (.bl true) H'
def t_settled (K : PySem.W.Frag) (E : XK) : TS :=
  tSeq (tIfS (tB (tCallS (sp_is_value K) (WE fun cls d _ H => E cls d H) (tCons (tVar 0) tNil))) (tRet (tVar 0)) tNext)
    (tRet (tTup (tCons (tC (.str "fault")) (tCons (tC (.str "odd")) tNil))))
def t_law (K : PySem.W.Frag) (E : XK) : TS :=
  tSeq (tAsg (tOp rPowA (tC (.int 10)) (tC (.int 60))) (gName 1))
    (tSeq (tAsg (tOp rSubA (tOp rModA (tCallS (sp_law_cell K) (WE fun cls d _ H => E cls d H) (tCons (tVar 0) (tCons (tC (.int 0)) tNil))) (tOp rSubA (tOp (rMulA K) (tC (.int 2)) (tVar 1)) (tC (.int 1)))) (tOp rSubA (tVar 1) (tC (.int 1)))) (gName 2))
    (tSeq (tAsg (tLst tNil) (gName 3))
    (tSeq (tFor (iRng1 (tCons (tOp (rAddA K) (tC (.int 1)) (tOp rModA (tCallS (sp_law_cell K) (WE fun cls d _ H => E cls d H) (tCons (tVar 0) (tCons (tC (.int 1)) tNil))) (tC (.int 8)))) tNil)) (gName 4) (tDrop (tBM K "list" rAppend (tVar 3) (tCons (tOp (rIxA K) (tC (.str "abcdefghijklmnopqrstuvwxyz")) (tOp rModA (tOp rDivA (tCallS (sp_law_cell K) (WE fun cls d _ H => E cls d H) (tCons (tVar 0) (tCons (tOp (rAddA K) (tC (.int 4)) (tVar 4)) tNil))) (tC (.int 3))) (tC (.int 26)))) tNil))))
    (tSeq (tAsg (tJoin K (tC (.str "")) (tVar 3)) (gName 5))
    (tSeq (tAsg (tOp (rIxA K) (tLst (tCons (tVar 2) (tCons (tTup (tCons (tC (.str "fault")) (tCons (tVar 5) tNil))) tNil))) (tOp rModA (tCallS (sp_law_cell K) (WE fun cls d _ H => E cls d H) (tCons (tVar 0) (tCons (tC (.int 2)) tNil))) (tC (.int 2)))) (gName 6))
    (tSeq (tAsg (tLst (tCons (tC (.bl true)) (tCons (tC (.bl false)) (tCons (tC .non) (tCons (tVar 5) (tCons (tCB rStrA (tCons (tVar 2) tNil)) (tCons (tLst (tCons (tVar 2) tNil)) (tCons (tTup (tCons (tVar 2) tNil)) (tCons (tVar 1) (tCons (tOp rSubA (tC (.int 0)) (tVar 1)) (tCons (tOp (rAddA K) (tOp (rMulA K) (tVar 1) (tC (.int 7))) (tVar 2)) (tCons (tLst (tCons (tC (.str "fault")) (tCons (tVar 5) tNil))) tNil)))))))))))) (gName 7))
    (tSeq (tAsg (tOp (rAddA K) (tVar 7) (tLst (tCons (tTup (tCons (tC (.str "fault")) (tCons (tVar 5) (tCons (tC (.int 1)) tNil)))) (tCons (tTup (tCons (tC (.str "fault")) (tCons (tOp (rAddA K) (tC (.str "A")) (tVar 5)) tNil))) (tCons tDNewK tNil))))) (gName 7))
    (tSeq (tAsg (tCallS (sp_settled K) (WE fun cls d _ H => E cls d H) (tCons (tVar 6) tNil)) (gName 8))
    (tSeq (tIfS (tOr (tB (tCB (rIsiA K) (tCons (tVar 8) (tCons (tC (.ty "bool")) tNil)))) (tOr (tTest (tOp (rNeA K) (tVar 8) (tVar 6))) (tTest (tOp (rNeA K) (tCB (rIsiA K) (tCons (tVar 8) (tCons (tC (.ty "int")) tNil))) (tCB (rIsiA K) (tCons (tVar 6) (tCons (tC (.ty "int")) tNil))))))) (tRet (tC (.bl false))) tNext)
    (tSeq (tAsg (tCallS (sp_settled K) (WE fun cls d _ H => E cls d H) (tCons (tOp (rIxA K) (tVar 7) (tOp rModA (tCallS (sp_law_cell K) (WE fun cls d _ H => E cls d H) (tCons (tVar 0) (tCons (tC (.int 3)) tNil))) (tC (.int 14)))) tNil)) (gName 9))
    (tRet (tAndV (tCB (rIsiA K) (tCons (tVar 9) (tCons (tC (.ty "tuple")) tNil))) (tOp (rEqA K) (tVar 9) (tTup (tCons (tC (.str "fault")) (tCons (tC (.str "odd")) tNil))))))))))))))))

theorem len_settled {K : PySem.W.Frag} (vs : List V) (H : Hp) (Q : VK) (E : XK) (h : sp_settled K vs H Q E) : vs.length = 1 := by obtain ⟨_, _, rfl, _⟩ := sp1_open h; rfl
theorem len_law {K : PySem.W.Frag} (vs : List V) (H : Hp) (Q : VK) (E : XK) (h : spLaw K vs H Q E) : vs.length = 1 := by obtain ⟨_, _, rfl, _⟩ := h; rfl
theorem r_settled {K : PySem.W.Frag} (vs : List V) (H : Hp) (Q : VK) (E : XK) (h : sp_settled K vs H Q E) : t_settled K E { nx := fun _ H' => Q .non H', rt := Q } (L2.start ["thing"] vs) H := by
  obtain ⟨v, d, rfl, r, hs, k⟩ := sp1_open h
  unfold t_settled
  unfold settledD at k
  refine q_when (et_B (ev_spB (g := isValueD) (pre := short2) (ed_var rfl r) hs)) (fun hb H1 e1 => ?_) (fun hb H1 e1 => ?_)
  · rw [if_pos hb] at k
    exact s_retD (ed_var rfl (r.ex e1)) fun v2 H2 e2 r2 => k v2 H2 (e1.trans e2) r2
  · rw [if_neg (by rw [hb]; decide)] at k
    exact s_retD (ed_tup (eds_cons (ed_s ev_c) (eds_cons (ed_s ev_c) eds_nil))) fun v2 H2 e2 r2 => k v2 H2 (e1.trans e2) r2
def odds (far x : Int) (z t : Str) : List PyData :=
  [.bool true, .bool false, .none, .str z, .str t, .list [.int x], .tuple [.int x], .int far, .int (0 - far), .int (far * 7 + x), .list [.str "fault", .str z]] ++
  [.tuple [.str "fault", .str z, .int 1], .tuple [.str "fault", .str ("A" ++ z)], .dict []]
theorem not_name_A (z : Str) : isName ("A" ++ z) = false := by
  unfold isName
  have e : (("A" : Str) ++ z).cps.toList = 65 :: z.cps.toList := by
    show (("A" : Str).cps ++ z.cps).toList = _
    rw [Array.toList_append]
    rfl
  have : ((("A" : Str) ++ z).cps.toList.all fun c => decide (c ∈ lets)) = false := by
    rw [e, List.all_cons, show decide (65 ∈ lets) = false by decide +kernel, Bool.false_and]
  rw [this, Bool.and_false]
theorem odds_not {x : Int} {z t : Str} (hx : -(10 ^ 60) < x ∧ x < 10 ^ 60) (hz : isName z = true) {d : PyData} (h : d ∈ odds (10 ^ 60) x z t) : isValueD d = false ∧ short2 d := by
  have zo := name_ok hz
  have zl := name_len hz
  have lA : ("A" ++ z : Str).length ≤ 30000 := by
    have lA : ("A" : Str).length = 1 := by decide +kernel
    rw [Str.length_append, lA]
    omega
  simp only [odds, List.mem_append, List.mem_cons, List.not_mem_nil, or_false, or_assoc] at h
  have nn : ∀ y : Int, ¬ (-(10 ^ 60) < y ∧ y < 10 ^ 60) → isValueD (.int y) = false := fun y hy => by
    show (decide (-(10 ^ 60) < y ∧ y < 10 ^ 60) || false) = false
    rw [decide_eq_false hy]
    rfl
  rcases h with rfl | rfl | rfl | rfl | rfl | rfl | rfl | rfl | rfl | rfl | rfl | rfl | rfl | rfl
  · exact ⟨rfl, trivial⟩
  · exact ⟨rfl, trivial⟩
  · exact ⟨rfl, trivial⟩
  · exact ⟨rfl, trivial⟩
  · exact ⟨rfl, trivial⟩
  · exact ⟨rfl, trivial⟩
  · exact ⟨rfl, trivial⟩
  · exact ⟨nn _ (by omega), trivial⟩
  · exact ⟨nn _ (by omega), trivial⟩
  · exact ⟨nn _ (by omega), trivial⟩
  · exact ⟨rfl, trivial⟩
  · exact ⟨rfl, trivial⟩
  · refine ⟨?_, lA⟩
    show (false || isFaultD (.tuple [.str "fault", .str ("A" ++ z)])) = false
    rw [isFault_pair, show isNameD (.str ("A" ++ z)) = false from not_name_A z, Bool.and_false]
    rfl
  · exact ⟨rfl, trivial⟩
theorem eqv_refl_int (x : Int) : PyData.eqv (.int x) (.int x) = true := by simp [PyData.eqv]
theorem r_law {K : PySem.W.Frag} (vs : List V) (H : Hp) (Q : VK) (E : XK) (h : spLaw K vs H Q E) : t_law K E { nx := fun _ H' => Q .non H', rt := Q } (L2.start ["script", "far", "number", "some", "k", "word", "thing", "odd", "found", "told"] vs) H := by
  obtain ⟨l, ns, rfl, hl, -, k⟩ := h
  unfold t_law
  refine q_asg (v := .int (10 ^ 60)) (ev_is (ev_op ev_c ev_c (rv_pow (by decide))) rfl) fun H1 e1 => ?_
  refine q_asg (ev_op (ev_op (ev_cell (j := 0) (ev_var rfl) ev_c (ex_l e1 hl) (by decide)) (ev_op (ev_op ev_c (ev_var rfl) (rv_mulI (wide_mul (a := 20) (b := 220) (by decide) (by decide +kernel) (by decide) (by decide) (by decide)))) ev_c rv_subI) (rv_mod (by decide +kernel))) (ev_op (ev_var rfl) ev_c rv_subI) rv_subI) fun H2 e2 => ?_
  generalize hx : cellV ns 0 % (2 * 10 ^ 60 - 1) - (10 ^ 60 - 1) = x
  have bx : -(10 ^ 60) < x ∧ x < 10 ^ 60 := by
    have := emod_bd (cellV ns 0) (n := 2 * 10 ^ 60 - 1) (by decide +kernel)
    omega
  have E2 := e1.trans e2
  refine q_asgL (xs := []) (el_lst ea_nil (by decide)) fun p H3 np e3 hp => ?_
  have np : H p = none := fresh_back E2 np
  have E3 := E2.trans e3
  have bn := emod_bd (cellV ns 1) (n := 8) (by decide)
  refine q_forR1 (n := 1 + cellV ns 1 % 8) (ea_cons (ev_op ev_c (ev_op (ev_cell (j := 1) (ev_var rfl) ev_c (ex_l E3 hl) (by decide)) ev_c (rv_mod (by decide))) rv_addI) ea_nil) (by omega)
    (fun i σ H4 => ∃ (kv : Option V) (cs : List Nat), σ = [some (.ref l), some (.int (10 ^ 60)), some (.int x), some (.ref p), kv, none, none, none, none, none] ∧ Ex H H4 ∧ H4 p = some (.lst (cs.map fun c => V.str ⟨#[c]⟩)) ∧ cs.length = i ∧ ∀ c ∈ cs, c ∈ lets)
    (fun H4 e4 => ⟨none, [], rfl, E3.trans e4, e4 p _ hp, rfl, fun _ h => nomatch h⟩) ?_ ?_
  · rintro i σ H4 hi ⟨kv, cs, rfl, e4, hp4, hc, hm⟩
    refine s_app hp4 (ev_var rfl) (ev_sign (w := "abcdefghijklmnopqrstuvwxyz") ev_c (ev_op (ev_op (ev_cell (j := 4 + i) (ev_var rfl) (ev_is (ev_op ev_c (ev_var rfl) rv_addI) rfl) (ex_l e4 hl) (by omega)) ev_c (rv_div (by decide))) ev_c (rv_mod (by decide))) (by decide +kernel) (by decide) (by decide +kernel)) (by rw [List.length_map]; omega) fun H5 e5 => ?_
    refine ⟨_, cs ++ [lets.getD (cellV ns (4 + i) / 3 % 26).toNat 0], rfl, Ex.mut (e4.trans e5) np, by rw [List.map_append]; exact upd_same, by rw [List.length_append, hc]; rfl, fun c h => ?_⟩
    rcases List.mem_append.mp h with h | h
    · exact hm c h
    · rw [List.mem_singleton.mp h]
      exact getD_mem (emod_lt_len _ (by decide +kernel) (by decide))
  rintro σ H4 ⟨kv, cs, rfl, e4, hp4, hc, hm⟩
  have hz := name_of (l := cs) (by omega) (by omega) hm
  refine q_asg (ev_joinSigns (ev_var rfl) hp4 (by omega)) fun H5 e5 => ?_
  generalize SX.S cs = z at hz
  have zo := name_ok hz
  have zl := name_len hz
  have E5 := e4.trans e5
  have cs0 : ∀ {σ : L2.St} {H : Hp} {x : Str}, EvD (tC (.str x)) σ H (.str x) := fun {σ H x} => ed_s ev_c
  -- thing
  have b2 := emod_bd (cellV ns 2) (n := 2) (by decide)
  refine q_asgD (ed_ixL (d := ([.int x, .tuple [.str "fault", .str z]] : List PyData).getD (cellV ns 2 % 2).toNat .none) (ed_lst (eds_cons (ed_i (ev_var rfl)) (eds_cons (ed_tup (eds_cons cs0 (eds_cons (ed_s (ev_var rfl)) eds_nil))) eds_nil)))
    (ev_op (ev_cell (j := 2) (ev_var rfl) ev_c (ex_l E5 hl) (by decide)) ev_c (rv_mod (by decide))) (atI_emod _ _ PyData.none (n := 2) rfl (by decide))) fun v6 H6 e6 r6 => ?_
  have hd := getD_mem (d := PyData.none) (emod_lt_len (l := ([.int x, .tuple [.str "fault", .str z]] : List PyData)) (cellV ns 2) (n := 2) rfl (by decide))
  generalize ([.int x, .tuple [.str "fault", .str z]] : List PyData).getD (cellV ns 2 % 2).toNat .none = d at hd r6
  have E6 := E5.trans e6
  have hthing : isValueD d = true ∧ short2 d ∧ okD d ∧ PyData.eqv d d = true ∧ isiB (kindD d) "bool" = false := by
    simp only [List.mem_cons, List.not_mem_nil, or_false] at hd
    rcases hd with rfl | rfl
    · refine ⟨?_, trivial, trivial, eqv_refl_int x, rfl⟩
      show (decide (-(10 ^ 60) < x ∧ x < 10 ^ 60) || false) = true
      rw [decide_eq_true bx]
      rfl
    · refine ⟨?_, zo.len, ⟨okF, zo, trivial⟩, by simp [PyData.eqv, PyData.eqvAll], rfl⟩
      show (false || isFaultD (.tuple [.str "fault", .str z])) = true
      rw [isFault_pair, show isNameD (.str z) = true from hz, Bool.and_true]
      decide +kernel
  -- odd
  have h60 : (x.natAbs : Nat) < 2 ^ 220 := Nat.lt_trans (m := 10 ^ 60) (by omega) (by decide +kernel)
  have hlog : x.natAbs.log2 < 1920 := Nat.lt_trans (PySem.Flt.log2_lt_of (by decide) h60) (by decide)
  refine q_asgD (ed_lst (eds_cons (ed_b ev_c) (eds_cons (ed_b ev_c) (eds_cons (ed_n ev_c) (eds_cons (ed_s (ev_var rfl)) (eds_cons (ed_s (ev_cb (ea_cons (ev_var rfl) ea_nil) (rc_str hlog))) (eds_cons (ed_lst (eds_cons (ed_i (ev_var rfl)) eds_nil)) (eds_cons (ed_tup (eds_cons (ed_i (ev_var rfl)) eds_nil)) (eds_cons (ed_i (ev_var rfl)) (eds_cons (ed_i (ev_op ev_c (ev_var rfl) rv_subI))
    (eds_cons (ed_i (ev_op (ev_op (ev_var rfl) ev_c (rv_mulI (wide_mul (a := 220) (b := 20) (by decide +kernel) (by decide) (by decide) (by decide) (by decide)))) (ev_var rfl) rv_addI)) (eds_cons (ed_lst (eds_cons cs0 (eds_cons (ed_s (ev_var rfl)) eds_nil))) eds_nil)))))))))))) fun v7 H7 e7 r7 => ?_
  have lA : ("A" : Str).length = 1 := by decide +kernel
  refine q_asgD (ed_catL (ed_var rfl r7) (ed_lst (eds_cons (ed_tup (eds_cons cs0 (eds_cons (ed_s (ev_var rfl)) (eds_cons (ed_i ev_c) eds_nil)))) (eds_cons (ed_tup (eds_cons cs0 (eds_cons (ed_s (ev_op ev_c (ev_var rfl) (rv_addS (by rw [lA]; omega)))) eds_nil))) (eds_cons ed_dnew eds_nil))))) fun v8 H8 e8 r8 => ?_
  have E8 := E6.trans (e7.trans e8)
  obtain ⟨t1, t2, t3, t4, t5⟩ := hthing
  have sd : settledD d = d := if_pos t1
  have r6' := r6.ex (e7.trans e8)
  -- found = settled(thing)
  refine q_asgD (ed_sp1 (pre := short2) (f := settledD) (ed_var rfl r6') t2) fun v9 H9 e9 r9 => ?_
  rw [sd] at r9
  have E9 := E8.trans e9
  have r6'' := r6'.ex e9
  have r8' := r8.ex e9
  refine q_when (b := false) (et_is (et_or (et_B (ev_isD (ed_var rfl r9))) fun _ => et_or (et_test (ev_neD (ed_var rfl r9) (ed_var rfl r6'') t3 t3)) fun _ => et_test (ev_op (ev_isD (ed_var rfl r9)) (ev_isD (ed_var rfl r6'')) (rv_neS rfl))) ?_) (fun hb => nomatch hb) fun _ H10 e10 => ?_
  · rw [t4, t5]
    generalize isiB (kindD d) "int" = q
    cases q <;> decide
  -- told = settled(odd[..])
  have hd2 := getD_mem (d := PyData.none) (emod_lt_len (l := odds (10 ^ 60) x z (Str.ofString (toString x))) (cellV ns 3) (n := 14) rfl (by decide))
  refine q_asgD (ed_sp1 (pre := short2) (f := settledD) (ed_ixL (d := (odds (10 ^ 60) x z (Str.ofString (toString x))).getD (cellV ns 3 % 14).toNat .none) (ed_var rfl (r8'.ex e10)) (ev_op (ev_cell (j := 3) (ev_var rfl) ev_c (ex_l (E9.trans e10) hl) (by decide)) ev_c (rv_mod (by decide))) (atI_emod (odds (10 ^ 60) x z (Str.ofString (toString x))) _ .none (n := 14) rfl (by decide))) (odds_not bx hz hd2).2) fun v11 H11 e11 r11 => ?_
  have : settledD ((odds (10 ^ 60) x z (Str.ofString (toString x))).getD (cellV ns 3 % 14).toNat .none) = .tuple [.str "fault", .str "odd"] := if_neg (by rw [(odds_not bx hz hd2).1]; decide)
  rw [this] at r11
  have oO : okD (.tuple [.str "fault", .str "odd"]) := ⟨okF, ⟨by decide +kernel, by decide +kernel⟩, trivial⟩
  refine s_ret (v := .bl true) (ev_is (ev_andV (ev_isD (ed_var rfl r11)) fun _ => ev_eqD (ed_var rfl r11) (ed_tup (eds_cons cs0 (eds_cons cs0 eds_nil))) oO oO) (by rw [show PyData.eqv (.tuple [.str "fault", .str "odd"]) (.tuple [.str "fault", .str "odd"]) = true by decide +kernel]; rfl)) fun H12 _ => k H12
end Z


set_option Elab.async false
set_option linter.all false
set_option autoImplicit false
set_option maxRecDepth 100000
set_option maxHeartbeats 4000000
namespace Z
open PySem PySem.Spec PyProof.Rows L2 Evl
def top (i : Nat) : Stmt := PySem.Challenge.pw_lazycols_k04_settled.main.body.getD i (.Pass ⟨0, 0, 0, 0⟩)
abbrev s_is_whole : Stmt := top 2
abbrev N_is_whole : List Str := ["thing"]
theorem sc_is_whole : FnScope N_is_whole ["thing"] (defScope s_is_whole) := ⟨rfl, rfl, rfl, by decide +kernel, rfl, by decide +kernel, by decide +kernel⟩
abbrev s_is_name : Stmt := top 3
abbrev N_is_name : List Str := ["thing", "sign"]
theorem sc_is_name : FnScope N_is_name ["thing"] (defScope s_is_name) := ⟨rfl, rfl, rfl, by decide +kernel, rfl, by decide +kernel, by decide +kernel⟩
abbrev s_is_fault : Stmt := top 4
abbrev N_is_fault : List Str := ["thing"]
theorem sc_is_fault : FnScope N_is_fault ["thing"] (defScope s_is_fault) := ⟨rfl, rfl, rfl, by decide +kernel, rfl, by decide +kernel, by decide +kernel⟩
abbrev s_is_number : Stmt := top 5
abbrev N_is_number : List Str := ["thing"]
theorem sc_is_number : FnScope N_is_number ["thing"] (defScope s_is_number) := ⟨rfl, rfl, rfl, by decide +kernel, rfl, by decide +kernel, by decide +kernel⟩
abbrev s_is_value : Stmt := top 6
abbrev N_is_value : List Str := ["thing"]
theorem sc_is_value : FnScope N_is_value ["thing"] (defScope s_is_value) := ⟨rfl, rfl, rfl, by decide +kernel, rfl, by decide +kernel, by decide +kernel⟩
abbrev s_settled : Stmt := top 7
abbrev N_settled : List Str := ["thing"]
theorem sc_settled : FnScope N_settled ["thing"] (defScope s_settled) := ⟨rfl, rfl, rfl, by decide +kernel, rfl, by decide +kernel, by decide +kernel⟩
abbrev s_law_cell : Stmt := top 9
abbrev N_law_cell : List Str := ["script", "k", "seed"]
theorem sc_law_cell : FnScope N_law_cell ["script", "k"] (defScope s_law_cell) := ⟨rfl, rfl, rfl, by decide +kernel, rfl, by decide +kernel, by decide +kernel⟩
abbrev s_law : Stmt := top 10
abbrev N_law : List Str := ["script", "far", "number", "some", "k", "word", "thing", "odd", "found", "told"]
theorem sc_law : FnScope N_law ["script"] (defScope s_law) := ⟨rfl, rfl, rfl, by decide +kernel, rfl, by decide +kernel, by decide +kernel⟩
structure Txt (K : PySem.W.Frag) (mg : Str → Option Value) : Prop where
  n_abs : mg "abs" = none
  n_all : mg "all" = none
  n_bool : mg "bool" = none
  n_int : mg "int" = none
  n_isinstance : mg "isinstance" = none
  n_len : mg "len" = none
  n_range : mg "range" = none
  n_str : mg "str" = none
  n_tuple : mg "tuple" = none
  g_LETTERS : ∃ t, mg "LETTERS" = some (.str "abcdefghijklmnopqrstuvwxyz" t)
section
variable {P : Program} {w : World} {K : PySem.W.Frag} {mg : Str → Option Value} {base : Heap} {cdv : Value} {Ar : Around} {outer : List Env} {s : Shared} {H : Hp} {E : XK}
theorem d_is_whole (T : Txt K mg) {f : Addr}  (hr : Room 0 (Ar.deeper (envOfC "is_whole" (defScope s_is_whole) s.heap.objs.size f cdv))) :
    PSs (cxOf (L2.CX P w) P w K mg base N_is_whole "is_whole" (defScope s_is_whole) f cdv Ar outer s H E) (defBody s_is_whole) (t_is_whole K E) := by
  have hu := hu65 hr
  exact pss_one (ps_ret (pe_and (pe_callB call_isiA (by rfl) T.n_isinstance (by decide +kernel) (pa_cons (pv 0) (pa_cons (pe_bltn (v := .ty "int") (by rfl) T.n_int (by decide +kernel) rfl) pa_nil))) (pe_one (pe_not (pe_callB call_isiA (by rfl) T.n_isinstance (by decide +kernel) (pa_cons (pv 0) (pa_cons (pe_bltn (v := .ty "bool") (by rfl) T.n_bool (by decide +kernel) rfl) pa_nil)))))))
theorem cal_is_whole (T : Txt K mg) {f : Addr} {fd : FuncData}  (F : Fun K "is_whole" "is_whole" s_is_whole f fd) (hm : mg "is_whole" = some (.ref f)) (hb : Binds K fd ["thing"] []) :
    Cal P w K mg base 1 "is_whole" f ["thing"] (sp_is_whole K) := cal_of F sc_is_whole hm hb len_is_whole (t_is_whole K) (fun cdv Ar outer s H E hr => d_is_whole T  hr) (fun vs H Q E h => r_is_whole vs H Q E h)
theorem d_is_name (T : Txt K mg) {f : Addr}  (hr : Room 0 (Ar.deeper (envOfC "is_name" (defScope s_is_name) s.heap.objs.size f cdv))) :
    PSs (cxOf (L2.CX P w) P w K mg base N_is_name "is_name" (defScope s_is_name) f cdv Ar outer s H E) (defBody s_is_name) (t_is_name K E) := by
  have hu := hu65 hr
  exact pss_cons (ps_if (PW.pt (pw_or (pt_not (pt_val (pe_callB call_isiA (by rfl) T.n_isinstance (by decide +kernel) (pa_cons (pv 0) (pa_cons (pe_bltn (v := .ty "str") (by rfl) T.n_str (by decide +kernel) rfl) pa_nil))))) (pw_or1 (pt_not (pt_chain op_le op_le pe_int (pe_callB call_lenA (by rfl) T.n_len (by decide +kernel) (pa_cons (pv 0) pa_nil)) pe_int))))) (pss_one (ps_ret pe_bl)) pss_nil)
    (pss_one (ps_ret (pe_callB (cr_all rfl) (by rfl) T.n_all (by decide +kernel) (pa_cons (pe_lc (own := [("sign", 1)]) (g := gName 1) (tt := tYes) rfl sc_is_name.nd (pi_str (pv 0)) (blkOk_by (own := [("sign", 1)]) (N := N_is_name) (sc := defScope s_is_name) (by decide +kernel)) (fun _ _ _ _ _ => pg_name (i := 1) sc_is_name.nd rfl (Or.inl rfl)) (fun _ _ _ _ _ => pts_nil) (fun _ _ _ _ _ => pe_cmpR (op_inA hu) (pv 1) (pe_glob (v := .str "abcdefghijklmnopqrstuvwxyz") rfl (Exists.choose_spec T.g_LETTERS) ⟨_, rfl⟩) (by rfl))) pa_nil))))
theorem cal_is_name (T : Txt K mg) {f : Addr} {fd : FuncData}  (F : Fun K "is_name" "is_name" s_is_name f fd) (hm : mg "is_name" = some (.ref f)) (hb : Binds K fd ["thing"] []) :
    Cal P w K mg base 1 "is_name" f ["thing"] (sp_is_name K) := cal_of F sc_is_name hm hb len_is_name (t_is_name K) (fun cdv Ar outer s H E hr => d_is_name T  hr) (fun vs H Q E h => r_is_name vs H Q E h)
theorem d_is_fault (T : Txt K mg) {f : Addr} {f_is_name : Addr} (G_is_name : Cal P w K mg base 1 "is_name" f_is_name ["thing"] (sp_is_name K)) (hr : Room 1 (Ar.deeper (envOfC "is_fault" (defScope s_is_fault) s.heap.objs.size f cdv))) :
    PSs (cxOf (L2.CX P w) P w K mg base N_is_fault "is_fault" (defScope s_is_fault) f cdv Ar outer s H E) (defBody s_is_fault) (t_is_fault K E) := by
  have hu := hu65 hr
  have tk : Takes (cxOf (L2.CX P w) P w K mg base N_is_fault "is_fault" (defScope s_is_fault) f cdv Ar outer s H E) (fun cls d _ H => E cls d H) := takes_of rfl rfl rfl rfl
  exact pss_cons (ps_if (PW.pt (pw_or (pt_not (pt_val (pe_callB call_isiA (by rfl) T.n_isinstance (by decide +kernel) (pa_cons (pv 0) (pa_cons (pe_bltn (v := .ty "tuple") (by rfl) T.n_tuple (by decide +kernel) rfl) pa_nil))))) (pw_or1 (pt_cmpR (op_neA hu) (pe_callB call_lenA (by rfl) T.n_len (by decide +kernel) (pa_cons (pv 0) pa_nil)) pe_int (nomark _))))) (pss_one (ps_ret pe_bl)) pss_nil)
    (pss_one (ps_ret (pe_and (pe_callB call_isiA (by rfl) T.n_isinstance (by decide +kernel) (pa_cons (pe_ix (ix_A hu) (pv 0) pe_int (fun _ _ => rfl)) (pa_cons (pe_bltn (v := .ty "str") (by rfl) T.n_str (by decide +kernel) rfl) pa_nil))) (pe_and (pe_cmpR (op_eqA hu) (pe_ix (ix_A hu) (pv 0) pe_int (fun _ _ => rfl)) pe_str (nomark _)) (pe_one (pe_cal G_is_name (hr.mono (by decide)) tk (pa_cons (pe_ix (ix_A hu) (pv 0) pe_int (fun _ _ => rfl)) pa_nil)))))))
theorem cal_is_fault (T : Txt K mg) {f : Addr} {fd : FuncData} {f_is_name : Addr} (G_is_name : Cal P w K mg base 1 "is_name" f_is_name ["thing"] (sp_is_name K)) (F : Fun K "is_fault" "is_fault" s_is_fault f fd) (hm : mg "is_fault" = some (.ref f)) (hb : Binds K fd ["thing"] []) :
    Cal P w K mg base 2 "is_fault" f ["thing"] (sp_is_fault K) := cal_of F sc_is_fault hm hb len_is_fault (t_is_fault K) (fun cdv Ar outer s H E hr => d_is_fault T G_is_name hr) (fun vs H Q E h => r_is_fault vs H Q E h)
theorem d_is_number (T : Txt K mg) {f : Addr} {f_is_whole : Addr} (G_is_whole : Cal P w K mg base 1 "is_whole" f_is_whole ["thing"] (sp_is_whole K)) (hr : Room 1 (Ar.deeper (envOfC "is_number" (defScope s_is_number) s.heap.objs.size f cdv))) :
    PSs (cxOf (L2.CX P w) P w K mg base N_is_number "is_number" (defScope s_is_number) f cdv Ar outer s H E) (defBody s_is_number) (t_is_number K E) := by
  have hu := hu65 hr
  have tk : Takes (cxOf (L2.CX P w) P w K mg base N_is_number "is_number" (defScope s_is_number) f cdv Ar outer s H E) (fun cls d _ H => E cls d H) := takes_of rfl rfl rfl rfl
  exact pss_one (ps_ret (pe_and (pe_cal G_is_whole (hr.mono (by decide)) tk (pa_cons (pv 0) pa_nil)) (pe_one (pe_cmpR op_lt (pe_callB call_abs (by rfl) T.n_abs (by decide +kernel) (pa_cons (pv 0) pa_nil)) (pe_op op_pow pe_int pe_int) (nomark _)))))
theorem cal_is_number (T : Txt K mg) {f : Addr} {fd : FuncData} {f_is_whole : Addr} (G_is_whole : Cal P w K mg base 1 "is_whole" f_is_whole ["thing"] (sp_is_whole K)) (F : Fun K "is_number" "is_number" s_is_number f fd) (hm : mg "is_number" = some (.ref f)) (hb : Binds K fd ["thing"] []) :
    Cal P w K mg base 2 "is_number" f ["thing"] (sp_is_number K) := cal_of F sc_is_number hm hb len_is_number (t_is_number K) (fun cdv Ar outer s H E hr => d_is_number T G_is_whole hr) (fun vs H Q E h => r_is_number vs H Q E h)
theorem d_is_value (T : Txt K mg) {f : Addr} {f_is_number : Addr} (G_is_number : Cal P w K mg base 2 "is_number" f_is_number ["thing"] (sp_is_number K)) {f_is_fault : Addr} (G_is_fault : Cal P w K mg base 2 "is_fault" f_is_fault ["thing"] (sp_is_fault K)) (hr : Room 2 (Ar.deeper (envOfC "is_value" (defScope s_is_value) s.heap.objs.size f cdv))) :
    PSs (cxOf (L2.CX P w) P w K mg base N_is_value "is_value" (defScope s_is_value) f cdv Ar outer s H E) (defBody s_is_value) (t_is_value K E) := by
  have hu := hu65 hr
  have tk : Takes (cxOf (L2.CX P w) P w K mg base N_is_value "is_value" (defScope s_is_value) f cdv Ar outer s H E) (fun cls d _ H => E cls d H) := takes_of rfl rfl rfl rfl
  exact pss_one (ps_ret (pe_or (pe_cal G_is_number (hr.mono (by decide)) tk (pa_cons (pv 0) pa_nil)) (pe_one (pe_cal G_is_fault (hr.mono (by decide)) tk (pa_cons (pv 0) pa_nil)))))
theorem cal_is_value (T : Txt K mg) {f : Addr} {fd : FuncData} {f_is_number : Addr} (G_is_number : Cal P w K mg base 2 "is_number" f_is_number ["thing"] (sp_is_number K)) {f_is_fault : Addr} (G_is_fault : Cal P w K mg base 2 "is_fault" f_is_fault ["thing"] (sp_is_fault K)) (F : Fun K "is_value" "is_value" s_is_value f fd) (hm : mg "is_value" = some (.ref f)) (hb : Binds K fd ["thing"] []) :
    Cal P w K mg base 3 "is_value" f ["thing"] (sp_is_value K) := cal_of F sc_is_value hm hb len_is_value (t_is_value K) (fun cdv Ar outer s H E hr => d_is_value T G_is_number G_is_fault hr) (fun vs H Q E h => r_is_value vs H Q E h)
theorem d_settled (T : Txt K mg) {f : Addr} {f_is_value : Addr} (G_is_value : Cal P w K mg base 3 "is_value" f_is_value ["thing"] (sp_is_value K)) (hr : Room 3 (Ar.deeper (envOfC "settled" (defScope s_settled) s.heap.objs.size f cdv))) :
    PSs (cxOf (L2.CX P w) P w K mg base N_settled "settled" (defScope s_settled) f cdv Ar outer s H E) (defBody s_settled) (t_settled K E) := by
  have hu := hu65 hr
  have tk : Takes (cxOf (L2.CX P w) P w K mg base N_settled "settled" (defScope s_settled) f cdv Ar outer s H E) (fun cls d _ H => E cls d H) := takes_of rfl rfl rfl rfl
  exact pss_cons (ps_if (pt_val (pe_cal G_is_value (hr.mono (by decide)) tk (pa_cons (pv 0) pa_nil))) (pss_one (ps_ret (pv 0))) pss_nil)
    (pss_one (ps_ret (pe_tup (pa_cons pe_str (pa_cons pe_str pa_nil)))))
theorem cal_settled (T : Txt K mg) {f : Addr} {fd : FuncData} {f_is_value : Addr} (G_is_value : Cal P w K mg base 3 "is_value" f_is_value ["thing"] (sp_is_value K)) (F : Fun K "settled" "settled" s_settled f fd) (hm : mg "settled" = some (.ref f)) (hb : Binds K fd ["thing"] []) :
    Cal P w K mg base 4 "settled" f ["thing"] (sp_settled K) := cal_of F sc_settled hm hb len_settled (t_settled K) (fun cdv Ar outer s H E hr => d_settled T G_is_value hr) (fun vs H Q E h => r_settled vs H Q E h)
theorem d_law_cell (T : Txt K mg) {f : Addr}  (hr : Room 0 (Ar.deeper (envOfC "_law_cell" (defScope s_law_cell) s.heap.objs.size f cdv))) :
    PSs (cxOf (L2.CX P w) P w K mg base N_law_cell "_law_cell" (defScope s_law_cell) f cdv Ar outer s H E) (defBody s_law_cell) (t_law_cell K E) := by
  have hu := hu65 hr
  exact pss_cons (ps_if (pt_cmpR op_lt (pv 1) (pe_callB call_lenA (by rfl) T.n_len (by decide +kernel) (pa_cons (pv 0) pa_nil)) (nomark _)) (pss_one (ps_ret (pe_ix (ix_A hu) (pv 0) (pv 1) (fun _ _ => rfl)))) pss_nil)
    (pss_cons (ps_set (i := 2) sc_law_cell.nd rfl (Or.inl rfl) pe_int)
    (pss_cons (ps_if (pt_cmpR op_gt (pe_callB call_lenA (by rfl) T.n_len (by decide +kernel) (pa_cons (pv 0) pa_nil)) pe_int (nomark _)) (pss_one (ps_set (i := 2) sc_law_cell.nd rfl (Or.inl rfl) (pe_op op_modN (pe_ix (ix_A hu) (pv 0) (pe_op op_modN (pv 1) (pe_callB call_lenA (by rfl) T.n_len (by decide +kernel) (pa_cons (pv 0) pa_nil))) (fun _ _ => rfl)) pe_int))) pss_nil)
    (pss_one (ps_ret (pe_op op_modN (pe_op op_mulA (pe_op op_addA (pe_op op_addA (pv 2) (pe_op op_mulA (pv 1) (pv 1))) pe_int) (pe_op op_addA pe_int (pe_op op_mulA pe_int (pv 1)))) pe_int)))))
theorem cal_law_cell (T : Txt K mg) {f : Addr} {fd : FuncData}  (F : Fun K "_law_cell" "_law_cell" s_law_cell f fd) (hm : mg "_law_cell" = some (.ref f)) (hb : Binds K fd ["script", "k"] []) :
    Cal P w K mg base 1 "_law_cell" f ["script", "k"] (sp_law_cell K) := cal_of F sc_law_cell hm hb len_law_cell (t_law_cell K) (fun cdv Ar outer s H E hr => d_law_cell T  hr) (fun vs H Q E h => r_law_cell vs H Q E h)
theorem d_law (T : Txt K mg) {f : Addr} {f_law_cell : Addr} (G_law_cell : Cal P w K mg base 1 "_law_cell" f_law_cell ["script", "k"] (sp_law_cell K)) {f_settled : Addr} (G_settled : Cal P w K mg base 4 "settled" f_settled ["thing"] (sp_settled K)) (hr : Room 4 (Ar.deeper (envOfC "law" (defScope s_law) s.heap.objs.size f cdv))) :
    PSs (cxOf (L2.CX P w) P w K mg base N_law "law" (defScope s_law) f cdv Ar outer s H E) (defBody s_law) (t_law K E) := by
  have hu := hu65 hr
  have tk : Takes (cxOf (L2.CX P w) P w K mg base N_law "law" (defScope s_law) f cdv Ar outer s H E) (fun cls d _ H => E cls d H) := takes_of rfl rfl rfl rfl
  exact pss_cons (ps_set (i := 1) sc_law.nd rfl (Or.inl rfl) (pe_op op_pow pe_int pe_int))
    (pss_cons (ps_set (i := 2) sc_law.nd rfl (Or.inl rfl) (pe_op op_sub (pe_op op_modN (pe_cal G_law_cell (hr.mono (by decide)) tk (pa_cons (pv 0) (pa_cons pe_int pa_nil))) (pe_op op_sub (pe_op op_mulA pe_int (pv 1)) pe_int)) (pe_op op_sub (pv 1) pe_int)))
    (pss_cons (ps_set (i := 3) sc_law.nd rfl (Or.inl rfl) (pe_lst pa_nil))
    (pss_cons (ps_for (passes_of rfl) rfl (pi_range1 (by rfl) T.n_range (pa_cons (pe_op op_addA pe_int (pe_op op_modN (pe_cal G_law_cell (hr.mono (by decide)) tk (pa_cons (pv 0) (pa_cons pe_int pa_nil))) pe_int)) pa_nil)) (pg_name (i := 4) sc_law.nd rfl (Or.inl rfl)) (pss_one (ps_expr (pe_bm PySem.F.plainAttrs_list PySem.F.slot_list_append PySem.F.type_list_append mt_append (pv 3) (pa_cons (pe_ix (ix_A hu) pe_str (pe_op op_modN (pe_op op_fdivA (pe_cal G_law_cell (hr.mono (by decide)) tk (pa_cons (pv 0) (pa_cons (pe_op op_addA pe_int (pv 4)) pa_nil))) pe_int) pe_int) (fun _ _ => rfl)) pa_nil)))))
    (pss_cons (ps_set (i := 5) sc_law.nd rfl (Or.inl rfl) (pe_join pe_str (pv 3)))
    (pss_cons (ps_set (i := 6) sc_law.nd rfl (Or.inl rfl) (pe_ix (ix_A hu) (pe_lst (pa_cons (pv 2) (pa_cons (pe_tup (pa_cons pe_str (pa_cons (pv 5) pa_nil))) pa_nil))) (pe_op op_modN (pe_cal G_law_cell (hr.mono (by decide)) tk (pa_cons (pv 0) (pa_cons pe_int pa_nil))) pe_int) (fun _ _ => rfl)))
    (pss_cons (ps_set (i := 7) sc_law.nd rfl (Or.inl rfl) (pe_lst (pa_cons pe_bl (pa_cons pe_bl (pa_cons pe_non (pa_cons (pv 5) (pa_cons (pe_callTy call_str_int (by rfl) T.n_str (by decide +kernel) (pa_cons (pv 2) pa_nil)) (pa_cons (pe_lst (pa_cons (pv 2) pa_nil)) (pa_cons (pe_tup (pa_cons (pv 2) pa_nil)) (pa_cons (pv 1) (pa_cons (pe_op op_sub pe_int (pv 1)) (pa_cons (pe_op op_addA (pe_op op_mulA (pv 1) pe_int) (pv 2)) (pa_cons (pe_lst (pa_cons pe_str (pa_cons (pv 5) pa_nil))) pa_nil)))))))))))))
    (pss_cons (ps_set (i := 7) sc_law.nd rfl (Or.inl rfl) (pe_op op_addA (pv 7) (pe_lst (pa_cons (pe_tup (pa_cons pe_str (pa_cons (pv 5) (pa_cons pe_int pa_nil)))) (pa_cons (pe_tup (pa_cons pe_str (pa_cons (pe_op op_addA pe_str (pv 5)) pa_nil))) (pa_cons pe_dnewK pa_nil))))))
    (pss_cons (ps_set (i := 8) sc_law.nd rfl (Or.inl rfl) (pe_cal G_settled (hr.mono (by decide)) tk (pa_cons (pv 6) pa_nil)))
    (pss_cons (ps_if (PW.pt (pw_or (pt_val (pe_callB call_isiA (by rfl) T.n_isinstance (by decide +kernel) (pa_cons (pv 8) (pa_cons (pe_bltn (v := .ty "bool") (by rfl) T.n_bool (by decide +kernel) rfl) pa_nil)))) (pw_or (pt_cmpR (op_neA hu) (pv 8) (pv 6) (nomark _)) (pw_or1 (pt_cmpR (op_neA hu) (pe_callB call_isiA (by rfl) T.n_isinstance (by decide +kernel) (pa_cons (pv 8) (pa_cons (pe_bltn (v := .ty "int") (by rfl) T.n_int (by decide +kernel) rfl) pa_nil))) (pe_callB call_isiA (by rfl) T.n_isinstance (by decide +kernel) (pa_cons (pv 6) (pa_cons (pe_bltn (v := .ty "int") (by rfl) T.n_int (by decide +kernel) rfl) pa_nil))) (nomark _)))))) (pss_one (ps_ret pe_bl)) pss_nil)
    (pss_cons (ps_set (i := 9) sc_law.nd rfl (Or.inl rfl) (pe_cal G_settled (hr.mono (by decide)) tk (pa_cons (pe_ix (ix_A hu) (pv 7) (pe_op op_modN (pe_cal G_law_cell (hr.mono (by decide)) tk (pa_cons (pv 0) (pa_cons pe_int pa_nil))) pe_int) (fun _ _ => rfl)) pa_nil)))
    (pss_one (ps_ret (pe_and (pe_callB call_isiA (by rfl) T.n_isinstance (by decide +kernel) (pa_cons (pv 9) (pa_cons (pe_bltn (v := .ty "tuple") (by rfl) T.n_tuple (by decide +kernel) rfl) pa_nil))) (pe_one (pe_cmpR (op_eqA hu) (pv 9) (pe_tup (pa_cons pe_str (pa_cons pe_str pa_nil))) (nomark _))))))))))))))))
theorem fn_law (T : Txt K mg) {f : Addr} {fd : FuncData} {f_law_cell : Addr} (G_law_cell : Cal P w K mg base 1 "_law_cell" f_law_cell ["script", "k"] (sp_law_cell K)) {f_settled : Addr} (G_settled : Cal P w K mg base 4 "settled" f_settled ["thing"] (sp_settled K)) (F : Fun K "law" "law" s_law f fd) : FnOk P w K mg base (L2.CX P w) 5 f fd ["script"] (spLaw K) :=
  fnx_of F sc_law len_law (t_law K) (fun cdv Ar outer s H E hr => d_law T G_law_cell G_settled hr) (fun vs H Q E h => r_law vs H Q E h)
end
theorem all_mk {l : PySem.W.OpenLaw} {w : World} {K : PySem.W.Frag} {h : Heap} {mg : Str → Option Value} {fa : Addr} {f_is_whole f_is_name f_is_fault f_is_number f_is_value f_settled f_law_cell f_law : Addr} {od_is_whole an_is_whole od_is_name an_is_name od_is_fault an_is_fault od_is_number an_is_number od_is_value an_is_value od_settled an_settled od_law_cell an_law_cell od_law an_law : Option Addr} {sl_is_whole sl_is_name sl_is_fault sl_is_number sl_is_value sl_settled sl_law_cell sl_law : Array (Option Value)} {oc_is_whole kV_is_whole dc_is_whole pm_is_whole cd_is_whole ct_is_whole oc_is_name kV_is_name dc_is_name pm_is_name cd_is_name ct_is_name oc_is_fault kV_is_fault dc_is_fault pm_is_fault cd_is_fault ct_is_fault oc_is_number kV_is_number dc_is_number pm_is_number cd_is_number ct_is_number oc_is_value kV_is_value dc_is_value pm_is_value cd_is_value ct_is_value oc_settled kV_settled dc_settled pm_settled cd_settled ct_settled oc_law_cell kV_law_cell dc_law_cell pm_law_cell cd_law_cell ct_law_cell oc_law kV_law dc_law pm_law cd_law ct_law : Value} {tk_LETTERS : Tok} (X : K.In h) (G : h.Ns mainGlobals mg) (hfa : mg "law" = some (.ref fa))
    (a_is_whole : PySem.W.nsIn K mainGlobals "is_whole" = some (some (.ref f_is_whole)))
    (l_is_whole : K.lookup f_is_whole = some ⟨oc_is_whole, od_is_whole, .func (PySem.W.fnOf "is_whole" "is_whole" (defArgs s_is_whole) (defBody s_is_whole) (defScope s_is_whole) .none kV_is_whole dc_is_whole pm_is_whole an_is_whole cd_is_whole ct_is_whole), sl_is_whole⟩)
    (c_is_whole : PySem.W.codeIn K cd_is_whole "is_whole" = true)
    (k_is_whole : PySem.W.keepIn K (.ref f_is_whole) = true)
    (a_is_name : PySem.W.nsIn K mainGlobals "is_name" = some (some (.ref f_is_name)))
    (l_is_name : K.lookup f_is_name = some ⟨oc_is_name, od_is_name, .func (PySem.W.fnOf "is_name" "is_name" (defArgs s_is_name) (defBody s_is_name) (defScope s_is_name) .none kV_is_name dc_is_name pm_is_name an_is_name cd_is_name ct_is_name), sl_is_name⟩)
    (c_is_name : PySem.W.codeIn K cd_is_name "is_name" = true)
    (k_is_name : PySem.W.keepIn K (.ref f_is_name) = true)
    (a_is_fault : PySem.W.nsIn K mainGlobals "is_fault" = some (some (.ref f_is_fault)))
    (l_is_fault : K.lookup f_is_fault = some ⟨oc_is_fault, od_is_fault, .func (PySem.W.fnOf "is_fault" "is_fault" (defArgs s_is_fault) (defBody s_is_fault) (defScope s_is_fault) .none kV_is_fault dc_is_fault pm_is_fault an_is_fault cd_is_fault ct_is_fault), sl_is_fault⟩)
    (c_is_fault : PySem.W.codeIn K cd_is_fault "is_fault" = true)
    (k_is_fault : PySem.W.keepIn K (.ref f_is_fault) = true)
    (a_is_number : PySem.W.nsIn K mainGlobals "is_number" = some (some (.ref f_is_number)))
    (l_is_number : K.lookup f_is_number = some ⟨oc_is_number, od_is_number, .func (PySem.W.fnOf "is_number" "is_number" (defArgs s_is_number) (defBody s_is_number) (defScope s_is_number) .none kV_is_number dc_is_number pm_is_number an_is_number cd_is_number ct_is_number), sl_is_number⟩)
    (c_is_number : PySem.W.codeIn K cd_is_number "is_number" = true)
    (k_is_number : PySem.W.keepIn K (.ref f_is_number) = true)
    (a_is_value : PySem.W.nsIn K mainGlobals "is_value" = some (some (.ref f_is_value)))
    (l_is_value : K.lookup f_is_value = some ⟨oc_is_value, od_is_value, .func (PySem.W.fnOf "is_value" "is_value" (defArgs s_is_value) (defBody s_is_value) (defScope s_is_value) .none kV_is_value dc_is_value pm_is_value an_is_value cd_is_value ct_is_value), sl_is_value⟩)
    (c_is_value : PySem.W.codeIn K cd_is_value "is_value" = true)
    (k_is_value : PySem.W.keepIn K (.ref f_is_value) = true)
    (a_settled : PySem.W.nsIn K mainGlobals "settled" = some (some (.ref f_settled)))
    (l_settled : K.lookup f_settled = some ⟨oc_settled, od_settled, .func (PySem.W.fnOf "settled" "settled" (defArgs s_settled) (defBody s_settled) (defScope s_settled) .none kV_settled dc_settled pm_settled an_settled cd_settled ct_settled), sl_settled⟩)
    (c_settled : PySem.W.codeIn K cd_settled "settled" = true)
    (k_settled : PySem.W.keepIn K (.ref f_settled) = true)
    (a_law_cell : PySem.W.nsIn K mainGlobals "_law_cell" = some (some (.ref f_law_cell)))
    (l_law_cell : K.lookup f_law_cell = some ⟨oc_law_cell, od_law_cell, .func (PySem.W.fnOf "_law_cell" "_law_cell" (defArgs s_law_cell) (defBody s_law_cell) (defScope s_law_cell) .none kV_law_cell dc_law_cell pm_law_cell an_law_cell cd_law_cell ct_law_cell), sl_law_cell⟩)
    (c_law_cell : PySem.W.codeIn K cd_law_cell "_law_cell" = true)
    (k_law_cell : PySem.W.keepIn K (.ref f_law_cell) = true)
    (a_law : PySem.W.nsIn K mainGlobals "law" = some (some (.ref f_law)))
    (l_law : K.lookup f_law = some ⟨oc_law, od_law, .func (PySem.W.fnOf "law" "law" (defArgs s_law) (defBody s_law) (defScope s_law) .none kV_law dc_law pm_law an_law cd_law ct_law), sl_law⟩)
    (c_law : PySem.W.codeIn K cd_law "law" = true)
    (k_law : PySem.W.keepIn K (.ref f_law) = true)
    (n_abs : PySem.W.nsIn K mainGlobals "abs" = some none)
    (n_all : PySem.W.nsIn K mainGlobals "all" = some none)
    (n_bool : PySem.W.nsIn K mainGlobals "bool" = some none)
    (n_int : PySem.W.nsIn K mainGlobals "int" = some none)
    (n_isinstance : PySem.W.nsIn K mainGlobals "isinstance" = some none)
    (n_len : PySem.W.nsIn K mainGlobals "len" = some none)
    (n_range : PySem.W.nsIn K mainGlobals "range" = some none)
    (n_str : PySem.W.nsIn K mainGlobals "str" = some none)
    (n_tuple : PySem.W.nsIn K mainGlobals "tuple" = some none)
    (g_LETTERS : PySem.W.nsIn K mainGlobals "LETTERS" = some (some (.str "abcdefghijklmnopqrstuvwxyz" tk_LETTERS))) :
    ∃ fd : FuncData, (∀ (s : Shared) (v : Value), BindsTo s fd ⟨[v], []⟩ [("script", v)]) ∧ ∀ base : Heap, K.In base → base.Ns mainGlobals mg → FnOk l.prog w K mg base (L2.CX l.prog w) 5 fa fd ["script"] (spLaw K) := by
  have e := hfa.symm.trans (PySem.W.mg_of X G a_law)
  cases e
  have T : Txt K mg := { n_abs := PySem.W.mg_none_of X G n_abs, n_all := PySem.W.mg_none_of X G n_all, n_bool := PySem.W.mg_none_of X G n_bool, n_int := PySem.W.mg_none_of X G n_int, n_isinstance := PySem.W.mg_none_of X G n_isinstance, n_len := PySem.W.mg_none_of X G n_len, n_range := PySem.W.mg_none_of X G n_range, n_str := PySem.W.mg_none_of X G n_str, n_tuple := PySem.W.mg_none_of X G n_tuple, g_LETTERS := ⟨_, PySem.W.mg_of X G g_LETTERS⟩ }
  have F_is_whole := fun_mk (st := s_is_whole) l_is_whole c_is_whole k_is_whole
  have b_is_whole := F_is_whole.binds (ps := ["thing"]) fun _ _ _ _ _ _ us hl => match us, hl with | [_], _ => rfl
  have F_is_name := fun_mk (st := s_is_name) l_is_name c_is_name k_is_name
  have b_is_name := F_is_name.binds (ps := ["thing"]) fun _ _ _ _ _ _ us hl => match us, hl with | [_], _ => rfl
  have F_is_fault := fun_mk (st := s_is_fault) l_is_fault c_is_fault k_is_fault
  have b_is_fault := F_is_fault.binds (ps := ["thing"]) fun _ _ _ _ _ _ us hl => match us, hl with | [_], _ => rfl
  have F_is_number := fun_mk (st := s_is_number) l_is_number c_is_number k_is_number
  have b_is_number := F_is_number.binds (ps := ["thing"]) fun _ _ _ _ _ _ us hl => match us, hl with | [_], _ => rfl
  have F_is_value := fun_mk (st := s_is_value) l_is_value c_is_value k_is_value
  have b_is_value := F_is_value.binds (ps := ["thing"]) fun _ _ _ _ _ _ us hl => match us, hl with | [_], _ => rfl
  have F_settled := fun_mk (st := s_settled) l_settled c_settled k_settled
  have b_settled := F_settled.binds (ps := ["thing"]) fun _ _ _ _ _ _ us hl => match us, hl with | [_], _ => rfl
  have F_law_cell := fun_mk (st := s_law_cell) l_law_cell c_law_cell k_law_cell
  have b_law_cell := F_law_cell.binds (ps := ["script", "k"]) fun _ _ _ _ _ _ us hl => match us, hl with | [_, _], _ => rfl
  have F_law := fun_mk (st := s_law) l_law c_law k_law
  have b_law := F_law.binds (ps := ["script"]) fun _ _ _ _ _ _ us hl => match us, hl with | [_], _ => rfl
  refine ⟨PySem.W.fnOf "law" "law" (defArgs s_law) (defBody s_law) (defScope s_law) .none kV_law dc_law pm_law an_law cd_law ct_law, fun s v => .of_eq rfl, fun base _ _ => ?_⟩
  have G_is_whole := cal_is_whole (P := l.prog) (w := w) (base := base) T  F_is_whole (PySem.W.mg_of X G a_is_whole) b_is_whole
  have G_is_name := cal_is_name (P := l.prog) (w := w) (base := base) T  F_is_name (PySem.W.mg_of X G a_is_name) b_is_name
  have G_is_fault := cal_is_fault (P := l.prog) (w := w) (base := base) T G_is_name F_is_fault (PySem.W.mg_of X G a_is_fault) b_is_fault
  have G_is_number := cal_is_number (P := l.prog) (w := w) (base := base) T G_is_whole F_is_number (PySem.W.mg_of X G a_is_number) b_is_number
  have G_is_value := cal_is_value (P := l.prog) (w := w) (base := base) T G_is_number G_is_fault F_is_value (PySem.W.mg_of X G a_is_value) b_is_value
  have G_settled := cal_settled (P := l.prog) (w := w) (base := base) T G_is_value F_settled (PySem.W.mg_of X G a_settled) b_settled
  have G_law_cell := cal_law_cell (P := l.prog) (w := w) (base := base) T  F_law_cell (PySem.W.mg_of X G a_law_cell) b_law_cell
  exact fn_law (P := l.prog) (w := w) (base := base) T G_law_cell G_settled F_law
theorem walk {l : PySem.W.OpenLaw} {q : Program} {loose : List Str} {XP : (Str → Option Value) → Heap → Prop} {YP : World → Heap → Prop} {d : DefRec} {K : Params → PySem.W.Frag} (hn : l.most = some 63) (hdf : d.params.defaults = [])
    (hY : ∀ (w : World) (h : Heap), YP w h → (K w.params).In h)
    (F : ∀ (w : World) (mg : Str → Option Value) (fa : Addr) (h : Heap), (K w.params).In h → h.Ns mainGlobals mg → mg d.name = some (.ref fa) →
      ∃ fd : FuncData, (∀ (s : Shared) (u : Value), BindsTo s fd ⟨[u], []⟩ [("script", u)]) ∧ ∀ base : Heap, (K w.params).In base → base.Ns mainGlobals mg → FnOk l.prog w (K w.params) mg base (L2.CX l.prog w) 5 fa fd ["script"] (spLaw (K w.params))) :
    PySem.W.WalkO q loose XP YP l.row.toRowW d [] (fun f vs => PySem.call f vs) :=
  L2.walk_of (n := 63) (k := 5) (x := "script") (CX := fun w => L2.CX l.prog w) (sp := fun w => spLaw (K w.params)) hn (by decide) hdf ⟨rfl, by decide, by decide⟩ hY F (fun _ _ a ns hl _ hS => ⟨a, ns, rfl, hS, hl, fun _ => rfl⟩) (fun _ _ _ _ _ z => cx_no z)
end Z
open PySem PySem.W PyProof.Rows
set_option maxRecDepth 100000 in
set_option maxHeartbeats 0 in
theorem PySem.Challenge.cw_lazycols_k04_settled_holds : PySem.Challenge.rw_lazycols_k04_settled.Holds := by
  w_on; o_law; k_head; (case hw => w_witness2)
  k_fill
  refine Z.walk (l := PySem.Challenge.rw_lazycols_k04_settled) rfl rfl (fun w h Y => PySem.W.kIn_of Y) ?F
  case F =>
    intro w mg fa h KX G hmg
    refine' Z.all_mk KX G hmg ?a_is_whole ?l_is_whole ?c_is_whole ?k_is_whole ?a_is_name ?l_is_name ?c_is_name ?k_is_name ?a_is_fault ?l_is_fault ?c_is_fault ?k_is_fault ?a_is_number ?l_is_number ?c_is_number ?k_is_number ?a_is_value ?l_is_value ?c_is_value ?k_is_value ?a_settled ?l_settled ?c_settled ?k_settled ?a_law_cell ?l_law_cell ?c_law_cell ?k_law_cell ?a_law ?l_law ?c_law ?k_law ?n_abs ?n_all ?n_bool ?n_int ?n_isinstance ?n_len ?n_range ?n_str ?n_tuple ?g_LETTERS
    (case a_is_whole => k_is)
    (case l_is_whole => k_is)
    (case c_is_whole => k_is)
    (case k_is_whole => k_is)
    (case a_is_name => k_is)
    (case l_is_name => k_is)
    (case c_is_name => k_is)
    (case k_is_name => k_is)
    (case a_is_fault => k_is)
    (case l_is_fault => k_is)
    (case c_is_fault => k_is)
    (case k_is_fault => k_is)
    (case a_is_number => k_is)
    (case l_is_number => k_is)
    (case c_is_number => k_is)
    (case k_is_number => k_is)
    (case a_is_value => k_is)
    (case l_is_value => k_is)
    (case c_is_value => k_is)
    (case k_is_value => k_is)
    (case a_settled => k_is)
    (case l_settled => k_is)
    (case c_settled => k_is)
    (case k_settled => k_is)
    (case a_law_cell => k_is)
    (case l_law_cell => k_is)
    (case c_law_cell => k_is)
    (case k_law_cell => k_is)
    (case a_law => k_is)
    (case l_law => k_is)
    (case c_law => k_is)
    (case k_law => k_is)
    (case n_abs => k_is)
    (case n_all => k_is)
    (case n_bool => k_is)
    (case n_int => k_is)
    (case n_isinstance => k_is)
    (case n_len => k_is)
    (case n_range => k_is)
    (case n_str => k_is)
    (case n_tuple => k_is)
    (case g_LETTERS => k_is)
