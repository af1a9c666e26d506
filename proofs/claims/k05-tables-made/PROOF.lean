import PyProof.Rows.All
import Wide.All
import OpenK.AllK
import Wide.FinOn
import HandS.ForMost
import HandS.ForExc
import HandS.Style
import HandS.IsInst
import HandS.Evl
import HandS.More
import HandS.Deep
import HandS.Wide
import HandS.Conv
import HandS.TupLen
import HandS.Text
import HandS.WordsExc
import HandS.WordsDict
import HandS.Codes
import PyProof.StrBlock2
import HandS.SortInts
import HandS.ExcIs
import PySem.Challenge.RW_lazycols_k05_tables_made
set_option Elab.async false
set_option linter.all false
set_option autoImplicit false
set_option maxRecDepth 100000
set_option maxHeartbeats 4000000
namespace Z
open PySem PySem.Spec PyProof.Rows L2 Evl

/-! ### one rule for each operator, whatever the kinds -/
def rSubA : R2 := rI0 fun i j => .int (i - j)
def rLtA : R2 := rI0 fun i j => .bl (decide (i < j))
def rLeA : R2 := rI0 fun i j => .bl (decide (i ≤ j))
def rGtA : R2 := rI0 fun i j => .bl (decide (j < i))
def rGeA : R2 := rI0 fun i j => .bl (decide (j ≤ i))
def rModA : R2 := rI (fun _ j => j ≠ 0) fun i j => .int (i.fmod j)
def rPowA : R2 := rI CPow fun i j => .int (i ^ j.toNat)
def rNegA : V → Hp → VK → Prop := rU fun i => .int (-i)
def rAddI : R2 := rI0 fun i j => .int (i + j)
def rAddS : R2 := fun x y H Q => ∃ i j, x = .str i ∧ y = .str j ∧ i.length + j.length ≤ sizeLine ∧ Q (.str (i ++ j)) H
def rAddA (K : PySem.W.Frag) : R2 := fun x y H Q => rAddI x y H Q ∨ rAddS x y H Q ∨ rCat x y H Q ∨ rCatT K x y H Q
/-- a text n times -/
def repS (a : Str) (n : Int) : Str := SX.S (List.replicate n.toNat a.cps.toList).flatten
def rRepS : R2 := fun x y H Q => ∃ (a : Str) (n : Int), x = .str a ∧ y = .int n ∧ a.length ≤ 4000 ∧ -1000 ≤ n ∧ n ≤ 4000 ∧ Q (.str (repS a n)) H
def rMulA (K : PySem.W.Frag) : R2 := fun x y H Q => rI CMulW (fun i j => .int (i * j)) x y H Q ∨ rRep x y H Q ∨ rRepS x y H Q
def rDivA : R2 := fun x y H Q => rI CDivN (fun i j => .int (i.fdiv j)) x y H Q ∨ rI CDivW (fun i j => .int (i / j)) x y H Q
def rEqA (K : PySem.W.Frag) : R2 := fun x y H Q => rEq x y H Q ∨ rEqD K x y H Q
def rNeA (K : PySem.W.Frag) : R2 := fun x y H Q => rNe x y H Q ∨ rNeD K x y H Q
def rInDict (neg : Bool) : R2 := fun x y H Q => ∃ a o, y = .ref a ∧ DGet H a x o ∧ Q (.bl (if neg then !o.isSome else o.isSome)) H
def rInStr (neg : Bool) : R2 := fun x y H Q => ∃ (c : Nat) (z : Str), x = .str ⟨#[c]⟩ ∧ y = .str z ∧ Q (.bl (if neg then !decide (c ∈ z.cps.toList) else decide (c ∈ z.cps.toList))) H
def rInA (K : PySem.W.Frag) : R2 := fun x y H Q => rInStr false x y H Q ∨ rInDict false x y H Q ∨ rIn K false x y H Q ∨ rInD K x y H Q
def rNinA (K : PySem.W.Frag) : R2 := fun x y H Q => rInStr true x y H Q ∨ rInDict true x y H Q ∨ rIn K true x y H Q ∨ rNotInD K x y H Q
def rIsA : R2 := fun x y H Q => (y = .non ∧ Q (.bl (decide (x = .non))) H) ∨ rIsB x y H Q
def rIsnA : R2 := fun x y H Q => (y = .non ∧ Q (.bl (!decide (x = .non))) H) ∨ rNotB x y H Q
def rIxD : R2 := fun x y H Q => ∃ a v, x = .ref a ∧ DGet H a y (some v) ∧ Q v H
def rIxA (K : PySem.W.Frag) : R2 := fun x y H Q => rIx K x y H Q ∨ rIxD x y H Q
def rSetA : V → V → V → Hp → (Hp → Prop) → Prop := fun o i v H Q => rSetL o i v H Q ∨ ∃ a H', o = .ref a ∧ DPut H a i v H' ∧ Q H'
def rSlS : V → Option Int → Option Int → Hp → VK → Prop := fun x lo hi H Q => ∃ z, x = .str z ∧ z.length ≤ sizeLine ∧ Q (.str (cutS z lo hi)) H
def rSlA (K : PySem.W.Frag) : V → Option Int → Option Int → Hp → VK → Prop := fun x lo hi H Q => rSlL K x lo hi H Q ∨ rSlT K x lo hi H Q ∨ rSlS x lo hi H Q
def rLenD : List V → Hp → VK → Prop := fun xs H Q => ∃ a kvs, xs = [V.ref a] ∧ H a = some (.dK kvs) ∧ Q (.int kvs.length) H
def rLenA (K : PySem.W.Frag) : List V → Hp → VK → Prop := fun xs H Q => rLen K xs H Q ∨ rLenD xs H Q ∨ rLenT xs H Q
def rAbsA : List V → Hp → VK → Prop := fun xs H Q => ∃ i, xs = [V.int i] ∧ Q (.int (if i < 0 then -i else i)) H
def rStrA : List V → Hp → VK → Prop := fun xs H Q => ∃ i : Int, xs = [V.int i] ∧ i.natAbs.log2 < 1920 ∧ Q (.str (toString i)) H
def rIsiA (K : PySem.W.Frag) : List V → Hp → VK → Prop := fun xs H Q => rIsi K xs H Q ∨ rIsiT K xs H Q
def rListA (K : PySem.W.Frag) : List V → Hp → VK → Prop := fun xs H Q => (∃ p ys, xs = [V.ref p] ∧ (SqL K H p ys ∨ SqT K H p ys) ∧ ∀ l, H l = none → Q (.ref l) (upd H l (.lst ys))) ∨
  ∃ (a : Addr) (kvs : List (Key × V)), xs = [V.ref a] ∧ Rd H a (.dK kvs) ∧ ∀ p, H p = none → Q (.ref p) (upd H p (.lst (kvs.map fun kv => kV kv.1)))
def rDictA : List V → Hp → VK → Prop := fun xs H Q => ∃ (a : Addr) (kvs : List (Key × V)), xs = [V.ref a] ∧ Rd H a (.dK kvs) ∧ ∀ p, H p = none → Q (.ref p) (upd H p (.dK kvs))
def rInsA : V → List V → Hp → VK → Prop := fun x vs H Q => ∃ (l : Addr) (xs : List V) (i : Int) (y : V), x = .ref l ∧ vs = [.int i, y] ∧ H l = some (.lst xs) ∧ xs.length < sizeLine ∧ 0 ≤ i ∧ i < 2 ^ 63 ∧ Q .non (upd H l (.lst (xs.take i.toNat ++ [y] ++ xs.drop i.toNat)))
def rIntA : List V → Hp → VK → Prop := fun xs H Q => (∃ i, xs = [V.int i] ∧ Q (.int i) H) ∨ (∃ k, xs = [V.bl k] ∧ Q (.int (if k then 1 else 0)) H) ∨ ∃ a n, xs = [V.str a] ∧ PySem.intText? a = some n ∧ a.length ≤ 640 ∧ Q (.int n) H
section
variable {X : Cx}
theorem op_addA : OpR X (binaryOp .Add) (rAddA X.K) := op_add.or (op_add_str.or (op_cat.or op_catT))
theorem foldl_cps (l : List (Array Nat)) (acc : Array Nat) : (l.foldl (· ++ ·) acc).toList = acc.toList ++ (l.map (·.toList)).flatten := by
  induction l generalizing acc with
  | nil => simp
  | cons a r ih => rw [List.foldl_cons, ih, Array.toList_append, List.map_cons, List.flatten_cons, List.append_assoc]
theorem mul_repS (a : Str) (n : Int) : Txt.mul a n = repS a n := by
  have g : ∀ x y : Str, x.cps.toList = y.cps.toList → x = y := fun x y h => by
    obtain ⟨⟨x⟩⟩ := x
    obtain ⟨⟨y⟩⟩ := y
    have h : x = y := h
    rw [h]
  refine g _ _ ?_
  unfold Txt.mul repS
  by_cases h1 : n < 1
  · rw [if_pos h1, show n.toNat = 0 by omega]
    rfl
  · rw [if_neg h1]
    by_cases h2 : (n == 1 || a.length == 0) = true
    · rw [if_pos h2]
      rcases Bool.or_eq_true_iff.mp h2 with h | h
      · have h : n = 1 := by simpa using h
        subst h
        simp
      · have h : a.length = 0 := by simpa using h
        have e : a.cps.toList = [] := by
          have h : a.cps.size = 0 := h
          have : a.cps.toList.length = 0 := by simpa using h
          exact List.eq_nil_of_length_eq_zero this
        rw [e]
        simp
    · rw [if_neg h2]
      show (List.foldl (· ++ ·) #[] (List.replicate n.toNat a.cps)).toList = _
      rw [foldl_cps, List.map_replicate]
      simp
theorem op_repS : OpR X (binaryOp .Mult) rRepS := by
  intro pins s σ H x y v u Q I rx ry h
  obtain ⟨a, n, rfl, rfl, ha, hn, hm, q⟩ := h
  obtain ⟨t, rfl⟩ := rx
  obtain ⟨t', rfl⟩ := ry
  have hb : a.length * n.toNat ≤ 16000000 := Nat.le_trans (Nat.mul_le_mul ha (show n.toNat ≤ 4000 by omega)) (by decide)
  refine SB.mul ⟨?_, fun h1 _ => ?_, fun _ _ => ?_⟩ fun t2 k => ⟨.str (repS a n), H, I.tok k, ⟨t2, by rw [mul_repS]⟩, q⟩
  · rw [decide_eq_false (by omega), decide_eq_false (by omega)]
    rfl
  · have h2 : (9223372036854775807 : Int) / 4000 ≤ 9223372036854775807 / n := by
      refine (Int.le_ediv_iff_mul_le (by omega)).mpr ?_
      omega
    have h3 : (2 ^ 63 - 1 : Int) = 9223372036854775807 := rfl
    rw [h3]
    omega
  · unfold Builtin.Str.tooLong
    refine decide_eq_false ?_
    have : sizeLine = 16777216 := sizeLine_eq
    omega
theorem op_mulA : OpR X (binaryOp .Mult) (rMulA X.K) := op_mulW.or (op_rep.or op_repS)
theorem op_fdivA : OpR X (binaryOp .FloorDiv) rDivA := op_fdivN.or op_fdivW
theorem op_eqA (hu : X.A.units + 65 < cLine) : OpR X (compareOp .Eq) (rEqA X.K) := op_eq.or (op_eqD (by omega))
theorem op_neA (hu : X.A.units + 65 < cLine) : OpR X (compareOp .NotEq) (rNeA X.K) := op_ne.or (op_neD (by omega))
theorem op_inDict (hu : X.A.units + 65 < cLine) : OpR X (compareOp .In) (rInDict false) := by
  intro pins s σ H x y v u Q I rx ry h
  obtain ⟨a, o, rfl, g, q⟩ := h
  cases ry
  exact d_in (by omega) I g rx fun s' I' => ⟨.bl o.isSome, H, I', rfl, q⟩
theorem op_ninDict (hu : X.A.units + 65 < cLine) : OpR X (compareOp .NotIn) (rInDict true) := by
  intro pins s σ H x y v u Q I rx ry h
  obtain ⟨a, o, rfl, g, q⟩ := h
  cases ry
  exact d_notIn (by omega) I g rx fun s' I' => ⟨.bl (!o.isSome), H, I', rfl, q⟩
theorem op_inStr : OpR X (compareOp .In) (rInStr false) := op_in_sign
theorem op_ninStr : OpR X (compareOp .NotIn) (rInStr true) := op_notIn_sign
theorem op_inA (hu : X.A.units + 65 < cLine) : OpR X (compareOp .In) (rInA X.K) := op_inStr.or ((op_inDict hu).or (op_in_seq.or (op_inD hu)))
theorem op_ninA (hu : X.A.units + 65 < cLine) : OpR X (compareOp .NotIn) (rNinA X.K) := op_ninStr.or ((op_ninDict hu).or (op_notIn_seq.or (op_notInD hu)))
theorem op_isA : OpR X (compareOp .Is) rIsA := op_isN.or op_isBl
theorem op_isnA : OpR X (compareOp .IsNot) rIsnA := op_notN.or op_notBl
theorem ix_dict (hu : X.A.units + 65 < cLine) : IxR X rIxD := by
  intro value slice pins s σ H x y v u Q I rx ry h hs
  obtain ⟨a, w, rfl, g, q⟩ := h
  cases rx
  refine tail_any (dict_typeIs I g) PySem.F.slot_dict_getitem.lookup (d_getItem (by omega) I g ry fun w' s' I' r' => ⟨w, H, I', r', q⟩) hs
theorem ix_A (hu : X.A.units + 65 < cLine) : IxR X (rIxA X.K) := ix_seq.or (ix_dict hu)
theorem set_A (hu : X.A.units + 65 < cLine) : PSet X rSetA := by
  intro pins s σ H o i v ov iv u Q I ro ri rv h
  rcases h with h | ⟨a, H', rfl, g, q⟩
  · exact set_list pins s σ H o i v ov iv u Q I ro ri rv h
  · cases ro
    exact d_setItem (by omega) I g ri rv fun s' I' => ⟨H', I', q⟩
theorem sl_A : SlR X (rSlA X.K) := sl_list.or (sl_tup.or sl_str)
theorem call_lenA : CallR X (.builtin "len") (rLenA X.K) := call_len.or (call_lenD.or call_len_dT)
theorem call_isiA : CallR X (.builtin "isinstance") (rIsiA X.K) := call_isi.or call_isiT
theorem call_listA (hc : X.calm = true) : CallR X (.type "list") (rListA X.K) := call_list_of.or (call_listD hc)
theorem call_dictA (hc : X.calm = true) : CallR X (.type "dict") rDictA := call_dictD
theorem call_intA : CallR X (.type "int") rIntA := by
  intro pins s σ H xs us Q I r h
  rcases h with h | h | h
  · exact call_int1 pins s σ H xs us Q I r (.inl h)
  · exact call_int1 pins s σ H xs us Q I r (.inr h)
  · exact call_int_str pins s σ H xs us Q I r h
end
/-! ### built-in types of values -/
def tyO : Option HO → Option String
  | some (.lst _) => some "list"
  | some (.tup _) => some "tuple"
  | some (.dK _) => some "dict"
  | some (.dT _) => some "dict"
  | some (.frz _ (.lst _)) => some "list"
  | _ => none
def tyN (H : Hp) : V → Option String
  | .non => some "NoneType"
  | .bl _ => some "bool"
  | .int _ => some "int"
  | .str _ => some "str"
  | .ref a => tyO (H a)
  | _ => none
def kinds : List String := ["NoneType", "bool", "int", "str", "list", "tuple", "dict"]
def asked : List String := ["bool", "int", "str", "list", "tuple", "dict"]
def isiB (n c : String) : Bool := n == c || (n == "bool" && c == "int")
theorem tyN_ex {H H' : Hp} {x : V} {n : String} (e : Ex H H') (h : tyN H x = some n) : tyN H' x = some n := by
  cases x with
  | ref a =>
    have h : tyO (H a) = some n := h
    show tyO (H' a) = some n
    cases q : H a with
    | none => rw [q] at h; cases h
    | some o => rw [e a o q, ← q]; exact h
  | _ => exact h
theorem tyX_of {K : PySem.W.Frag} {H : Hp} {x : V} {n : String} (h : tyN H x = some n) : TyX K H x (.type n) := by
  cases x with
  | non => cases h; exact .base .non
  | bl b => cases h; exact .base (.bl b)
  | int i => cases h; exact .base (.int i)
  | str z => cases h; exact .base (.str z)
  | ref a =>
    have h : tyO (H a) = some n := h
    cases q : H a with
    | none => rw [q] at h; cases h
    | some o =>
      rw [q] at h
      unfold tyO at h
      split at h
      · rename_i w; cases w; cases h; exact .base (.lst q)
      · rename_i w; cases w; cases h; exact .base (.tup q)
      · rename_i w; cases w; cases h; exact .base (.dK q)
      · rename_i w; cases w; cases h; exact .base (.dT q)
      · rename_i w; cases w; cases h; exact .base (.frz q)
      · cases h
  | _ => cases h
theorem tyO_mem {o : Option HO} {n : String} (h : tyO o = some n) : n ∈ kinds := by
  unfold tyO at h
  split at h <;> first | (cases h; decide) | cases h
theorem tyN_mem {H : Hp} {x : V} {n : String} (h : tyN H x = some n) : n ∈ kinds := by
  cases x with
  | ref a => exact tyO_mem h
  | _ => first | (cases h; decide) | cases h
theorem kit_all : ∀ n ∈ kinds, ∀ c ∈ asked, kitB n c = some (isiB n c) := by decide +kernel

section
variable {K : PySem.W.Frag} {σ : L2.St} {H H' : Hp} {ta tb te tx : TE} {t u : TT} {x y z v : V} {r r' : R2}
theorem rc_isi {n c : String} (h : tyN H x = some n) (hc : c ∈ asked := by decide) : RC (rIsiA K) [x, .ty c] H (.bl (isiB n c)) := fun H1 e Q q =>
  .inl ⟨x, .ty c, .type n, .type c, isiB n c, rfl, .ty c, tyX_of (tyN_ex e h), kit_ty (kit_all n (tyN_mem h) c hc), q H1 (Ex.refl H1)⟩
theorem ev_cb {r : List V → Hp → VK → Prop} {ta : TA} {vs : List V} (ha : EvA ta σ H vs) (hr : RC r vs H z) : Ev (tCB r ta) σ H z := fun H1 e Q q =>
  ha H1 e _ fun H2 e2 => hr H2 (e.trans e2) Q fun H3 e3 => q H3 (e2.trans e3)
theorem ev_isi {n c : String} (ha : Ev ta σ H x) (h : tyN H x = some n) (hc : c ∈ asked := by decide) : Ev (tCB (rIsiA K) (tCons ta (tCons (tC (.ty c)) tNil))) σ H (.bl (isiB n c)) :=
  ev_cb (ea_cons ha (ea_cons ev_c ea_nil)) (rc_isi h hc)
/-- a op b op' c -/
theorem ev_chain {k : Bool} {w : V} (ha : Ev ta σ H x) (hb : Ev tb σ H y) (hr : RV r x y H (.bl k)) (h0 : k = false → w = .bl false) (h1 : k = true → ∃ z, Ev tx σ H z ∧ RV r' y z H w) : Ev (tChain r r' ta tb tx) σ H w := fun H1 e Q q =>
  ha H1 e _ fun H2 e2 => hb H2 (e.trans e2) _ fun H3 e3 => hr H3 ((e.trans e2).trans e3) _ fun H4 e4 => ⟨k, rfl, by
    have E4 : Ex H H4 := ((e.trans e2).trans e3).trans e4
    have F4 : Ex H1 H4 := (e2.trans e3).trans e4
    cases k with
    | true =>
      obtain ⟨z, hz, hw⟩ := h1 rfl
      show tx σ H4 _
      exact hz H4 E4 _ fun H5 e5 => hw H5 (E4.trans e5) Q fun H6 e6 => q H6 ((F4.trans e5).trans e6)
    | false =>
      show Q (.bl false) H4
      rw [← h0 rfl]
      exact q H4 F4⟩
/-- two comparisons of ints -/
theorem ev_chainI {g g' : Int → Int → Bool} {i j k : Int} (ha : Ev ta σ H (.int i)) (hb : Ev tb σ H (.int j)) (hc : Ev tx σ H (.int k)) :
    Ev (tChain (rI0 fun a b => .bl (g a b)) (rI0 fun a b => .bl (g' a b)) ta tb tx) σ H (.bl (g i j && g' j k)) :=
  ev_chain (k := g i j) ha hb rv_I0 (fun h => by rw [h]; rfl) fun h => ⟨.int k, hc, by rw [h]; exact rv_I0⟩
theorem rc_lenS {w : Str} (h : w.length ≤ 100000) : RC (rLenA K) [.str w] H (.int w.length) := fun H1 _ _ q => .inl ⟨.str w, w.length, rfl, ⟨sz_of h, rfl⟩, q H1 (Ex.refl H1)⟩
theorem rc_lenL {p : Addr} {xs : List V} (h : SqL K H p xs) : RC (rLenA K) [.ref p] H (.int xs.length) := fun H1 e _ q => .inl ⟨.ref p, xs.length, rfl, .inl ⟨xs, ex_l e h, rfl⟩, q H1 (Ex.refl H1)⟩
theorem rc_lenT {p : Addr} {xs : List V} (h : SqT K H p xs) : RC (rLenA K) [.ref p] H (.int xs.length) := fun H1 e _ q => .inl ⟨.ref p, xs.length, rfl, .inr ⟨xs, ex_t e h, rfl⟩, q H1 (Ex.refl H1)⟩
theorem ev_lenV {n : Nat} (ha : Ev ta σ H x) (hr : RC (rLenA K) [x] H (.int n)) : Ev (tCB (rLenA K) (tCons ta tNil)) σ H (.int n) := ev_cb (ea_cons ha ea_nil) hr
/-- all(..) of a list of truths that is made on the way -/
theorem ev_all {bs : List Bool} (ha : EvL ta σ H (bs.map V.bl)) : Ev (tCB (rAll K) (tCons ta tNil)) σ H (.bl (bs.all id)) := fun H1 e Q q =>
  ha H1 e _ fun p H2 _ e2 h2 => ⟨p, bs, rfl, sq_of h2, q H2 e2⟩
/-- a comprehension over a text -/
theorem el_lcS {a : Str} {tl : TE} {j : Nat} {vs : List Nat} (f : Nat → Bool) (v : Nat → V) (h : Ev tl σ H (.str a)) (hz : a.cps.size ≤ 40000) (hw : ∀ x, wipe ((wipe σ vs).set j (some x)) vs = wipe σ vs)
    (ht : ∀ (i : Nat) (c : Nat) H1, Ex H H1 → a.cps[i]? = some c → EvT t ((wipe σ vs).set j (some (.str ⟨#[c]⟩))) H1 (f i)) (he : ∀ (i : Nat) (c : Nat) H1, Ex H H1 → a.cps[i]? = some c → f i = true → Ev te ((wipe σ vs).set j (some (.str ⟨#[c]⟩))) H1 (v i)) :
    EvL (tLc (iStr tl) (gName j) t te vs) σ H (given a.cps.size f v) := fun H0 e Q q => h H0 e _ fun H1 e1 => ⟨a, rfl, fun Dl hD => by
  refine ⟨fun i m H' => m = a.cps.size - i ∧ i ≤ a.cps.size ∧ Cw H1 f v Dl i H', ⟨a.cps.size, by simp, Nat.zero_le _, hD, Ex.new hD, upd_same⟩, ?_⟩
  rintro i m H' ⟨rfl, hi, p⟩
  by_cases hlt : i < a.cps.size
  · refine .inr ⟨hlt, fun H2 => Cw H1 f v Dl (i + 1) H2, fun H2 p2 => ⟨a.cps.size - (i + 1), by omega, rfl, hlt, p2⟩, ?_⟩
    rintro x2 H2 ⟨rfl, c, hc, rfl⟩
    exact ⟨hw _, cw_turn p (by omega) (ht i c H1 (e.trans e1) hc) (fun hf => he i c H1 (e.trans e1) hc hf)⟩
  · have e0 : i = a.cps.size := by omega
    subst e0
    exact .inl ⟨Nat.le_refl _, q Dl H' (fresh_back e1 p.1) (e1.trans p.2.1) p.2.2⟩⟩
end
end Z

set_option Elab.async false
set_option linter.all false
set_option autoImplicit false
set_option maxRecDepth 100000
set_option maxHeartbeats 4000000
namespace Z
open PySem PySem.Spec PyProof.Rows L2 Evl
/-! ### a def that may be called: its promise, its name, its place -/
structure Cal (P : Program) (w : World) (K : PySem.W.Frag) (mg : Str → Option Value) (base : Heap) (k : Nat) (x : Str) (f : Addr) (ps : List Str) (sp : Sp) : Prop where
  ex : ∃ fd, FnOk P w K mg base (L2.CX P w) k f fd ps sp ∧ Binds K fd ps []
  mg : mg x = some (.ref f)
  kp : PySem.W.keepIn K (.ref f) = true
section
variable {X : Cx} {W : WX} {k : Nat} {f : Addr} {ps : List Str} {sp : Sp} {x : Str} {p pos : Pos} {e : Expr} {es : List Expr} {t : TA}
theorem pe_cal (C : Cal X.prog X.w X.K X.mg X.base k x f ps sp) (hr : Room k X.A) (tk : Takes X W) (ha : PA X (e :: es) t) (hg : Gl X x := by rfl) (hdb : (x == ("__debug__" : Str)) = false := by decide)
    (he : starEach (e :: es) X.env = (false, eval e X.env) :: starEach es X.env := by rfl) (hpl : (backTo pos (starEach es X.env)).any (·.1) = false := by rfl) :
    PE X (.Call (.Name x p) (e :: es) [] pos) (tCallS sp (WE W) t) := by
  obtain ⟨fd, F, b⟩ := C.ex
  exact pe_callS F hr hg C.mg C.kp b (fun σ => passAt tk σ) ha hdb he hpl
theorem pe_calB (C : Cal X.prog X.w X.K X.mg X.base k x f ps sp) (hr : Room k X.A) (ha : PA X (e :: es) t) (hg : Gl X x := by rfl) (hdb : (x == ("__debug__" : Str)) = false := by decide)
    (he : starEach (e :: es) X.env = (false, eval e X.env) :: starEach es X.env := by rfl) (hpl : (backTo pos (starEach es X.env)).any (·.1) = false := by rfl) :
    PE X (.Call (.Name x p) (e :: es) [] pos) (tCall sp [] E0 t) := by
  obtain ⟨fd, F, b⟩ := C.ex
  exact pe_call F hr hg C.mg C.kp b .nil passL ha hdb he hpl
end
theorem hu65 {A : Around} {k : Nat} (hr : Room k A) : A.units + 65 < cLine := by have := hr.un; omega
/-- a body and its reading make a def's promise -/
theorem cal_of {P : Program} {w : World} {K : PySem.W.Frag} {mg : Str → Option Value} {base : Heap} {st : Stmt} {x : Str} {f : Addr} {fd : FuncData} {N ps : List Str} {k : Nat} {sp : Sp} (F : Fun K x x st f fd) (S : FnScope N ps (defScope st)) (hm : mg x = some (.ref f)) (hb : Binds K fd ps [])
    (len : ∀ vs H Q E, sp vs H Q E → vs.length = ps.length) (t : XK → TS)
    (d : ∀ (cdv : Value) (A : Around) (outer : List Env) (s : Shared) (H : Hp) (E : XK), Room k (A.deeper (envOfC x (defScope st) s.heap.objs.size f cdv)) → PSs (cxOf (L2.CX P w) P w K mg base N x (defScope st) f cdv A outer s H E) (defBody st) (t E))
    (r : ∀ (vs : List V) (H : Hp) (Q : VK) (E : XK), sp vs H Q E → t E { nx := fun _ H' => Q .non H', rt := Q } (L2.start N vs) H) : Cal P w K mg base (k + 1) x f ps sp :=
  ⟨⟨fd, F.okX S len fun cdv A outer s H vs Q E hr h => ⟨t E, d cdv A outer s H E hr, r vs H Q E h⟩, hb⟩, hm, F.kp⟩

/-- the law itself -/
theorem fnx_of {P : Program} {w : World} {K : PySem.W.Frag} {mg : Str → Option Value} {base : Heap} {st : Stmt} {x : Str} {f : Addr} {fd : FuncData} {N ps : List Str} {k : Nat} {sp : Sp} (F : Fun K x x st f fd) (S : FnScope N ps (defScope st))
    (len : ∀ vs H Q E, sp vs H Q E → vs.length = ps.length) (t : XK → TS)
    (d : ∀ (cdv : Value) (A : Around) (outer : List Env) (s : Shared) (H : Hp) (E : XK), Room k (A.deeper (envOfC x (defScope st) s.heap.objs.size f cdv)) → PSs (cxOf (L2.CX P w) P w K mg base N x (defScope st) f cdv A outer s H E) (defBody st) (t E))
    (r : ∀ (vs : List V) (H : Hp) (Q : VK) (E : XK), sp vs H Q E → t E { nx := fun _ H' => Q .non H', rt := Q } (L2.start N vs) H) : FnOk P w K mg base (L2.CX P w) (k + 1) f fd ps sp :=
  F.okX S len fun cdv A outer s H vs Q E hr h => ⟨t E, d cdv A outer s H E hr, r vs H Q E h⟩
theorem cx_no {P : Program} {w : World} {H : Hp} {s : Shared} {e : Value} {s' : Shared} (h : L2.CX P w [] H s (fun _ _ _ => False) e s') : False := by
  obtain ⟨_, _, _, _, _, _, _, _, _, _, _, _, z⟩ := h
  exact z
section
variable {K : PySem.W.Frag} {σ : L2.St} {H H' : Hp} {ta tb te tx : TE} {t u : TT} {x y z v : V} {r r' : R2} {D : Ends}
/-! ### what the operators give -/
theorem rv_addI {i j : Int} : RV (rAddA K) (.int i) (.int j) H (.int (i + j)) := fun H1 _ _ q => .inl ⟨i, j, rfl, rfl, q H1 (Ex.refl H1)⟩
theorem rv_addS {i j : Str} (h : i.length + j.length ≤ 100000) : RV (rAddA K) (.str i) (.str j) H (.str (i ++ j)) := fun H1 _ _ q => .inr (.inl ⟨i, j, rfl, rfl, sz_of h, q H1 (Ex.refl H1)⟩)
theorem rv_subI {i j : Int} : RV rSubA (.int i) (.int j) H (.int (i - j)) := fun H1 _ _ q => ⟨i, j, rfl, rfl, q H1 (Ex.refl H1)⟩
theorem rv_lt {i j : Int} : RV rLtA (.int i) (.int j) H (.bl (decide (i < j))) := fun H1 _ _ q => ⟨i, j, rfl, rfl, q H1 (Ex.refl H1)⟩
theorem rv_le {i j : Int} : RV rLeA (.int i) (.int j) H (.bl (decide (i ≤ j))) := fun H1 _ _ q => ⟨i, j, rfl, rfl, q H1 (Ex.refl H1)⟩
theorem rv_gt {i j : Int} : RV rGtA (.int i) (.int j) H (.bl (decide (j < i))) := fun H1 _ _ q => ⟨i, j, rfl, rfl, q H1 (Ex.refl H1)⟩
theorem rv_ge {i j : Int} : RV rGeA (.int i) (.int j) H (.bl (decide (j ≤ i))) := fun H1 _ _ q => ⟨i, j, rfl, rfl, q H1 (Ex.refl H1)⟩
theorem rv_mod {i j : Int} (h : 0 < j) : RV rModA (.int i) (.int j) H (.int (i % j)) := fun H1 _ Q q => ⟨i, j, rfl, rfl, by omega, by
  show Q (.int (i.fmod j)) H1
  rw [Int.fmod_eq_emod_of_nonneg i (by omega)]
  exact q H1 (Ex.refl H1)⟩
theorem rv_div {i j : Int} (h : 0 < j ∧ j < 1073741824) : RV rDivA (.int i) (.int j) H (.int (i / j)) := fun H1 _ Q q => .inl ⟨i, j, rfl, rfl, ⟨by omega, by omega⟩, by
  show Q (.int (i.fdiv j)) H1
  rw [Int.fdiv_eq_ediv_of_nonneg i (by omega)]
  exact q H1 (Ex.refl H1)⟩
theorem rv_mulI {i j : Int} (h : CMulW i j) : RV (rMulA K) (.int i) (.int j) H (.int (i * j)) := fun H1 _ _ q => .inl ⟨i, j, rfl, rfl, h, q H1 (Ex.refl H1)⟩
theorem rv_rep {a : Str} {n : Int} (ha : a.length ≤ 4000) (hn : -1000 ≤ n ∧ n ≤ 4000) : RV (rMulA K) (.str a) (.int n) H (.str (repS a n)) := fun H1 _ _ q => .inr (.inr ⟨a, n, rfl, rfl, ha, hn.1, hn.2, q H1 (Ex.refl H1)⟩)
theorem rv_pow {i j : Int} (h : 0 ≤ j ∧ j ≤ 1000000 ∧ i.natAbs < 2 ^ 64) : RV rPowA (.int i) (.int j) H (.int (i ^ j.toNat)) := fun H1 _ _ q => ⟨i, j, rfl, rfl, h, q H1 (Ex.refl H1)⟩
theorem rv_eqS (h : scal x y = true) : RV (rEqA K) x y H (.bl (decide (x = y))) := fun H1 _ _ q => .inl ⟨h, q H1 (Ex.refl H1)⟩
theorem rv_neS (h : scal x y = true) : RV (rNeA K) x y H (.bl (!decide (x = y))) := fun H1 _ _ q => .inl ⟨h, q H1 (Ex.refl H1)⟩
theorem rv_isN : RV rIsA x .non H (.bl (decide (x = .non))) := fun H1 _ _ q => .inl ⟨rfl, q H1 (Ex.refl H1)⟩
theorem rv_isnN : RV rIsnA x .non H (.bl (!decide (x = .non))) := fun H1 _ _ q => .inl ⟨rfl, q H1 (Ex.refl H1)⟩
theorem rv_isB {a b : Bool} : RV rIsA (.bl a) (.bl b) H (.bl (decide (a = b))) := fun H1 _ _ q => .inr ⟨a, b, rfl, rfl, q H1 (Ex.refl H1)⟩
theorem rv_isnB {a b : Bool} : RV rIsnA (.bl a) (.bl b) H (.bl (!decide (a = b))) := fun H1 _ _ q => .inr ⟨a, b, rfl, rfl, q H1 (Ex.refl H1)⟩
theorem rv_inStr {c : Nat} {w : Str} : RV (rInA K) (.str ⟨#[c]⟩) (.str w) H (.bl (decide (c ∈ w.cps.toList))) := fun H1 _ _ q => .inl ⟨c, w, rfl, rfl, q H1 (Ex.refl H1)⟩
theorem rv_ninStr {c : Nat} {w : Str} : RV (rNinA K) (.str ⟨#[c]⟩) (.str w) H (.bl (!decide (c ∈ w.cps.toList))) := fun H1 _ _ q => .inl ⟨c, w, rfl, rfl, q H1 (Ex.refl H1)⟩
theorem rv_itL {p : Addr} {xs : List V} {i : Int} (h : SqL K H p xs) (ha : atI xs i = some v) : RV (rIxA K) (.ref p) (.int i) H v := fun H1 e _ q => .inl (.inl ⟨p, xs, i, v, rfl, rfl, ex_l e h, ha, q H1 (Ex.refl H1)⟩)
theorem rv_itT {p : Addr} {xs : List V} {i : Int} (h : SqT K H p xs) (ha : atI xs i = some v) : RV (rIxA K) (.ref p) (.int i) H v := fun H1 e _ q => .inl (.inr (.inl ⟨p, xs, i, v, rfl, rfl, ex_t e h, ha, q H1 (Ex.refl H1)⟩))
theorem rv_itS {w : Str} {i : Int} {c : Nat} (h : w.length ≤ 100000) (ha : atI w.cps.toList i = some c) : RV (rIxA K) (.str w) (.int i) H (.str ⟨#[c]⟩) := fun H1 _ _ q => .inl (.inr (.inr ⟨w, i, c, rfl, rfl, sz_of h, ha, q H1 (Ex.refl H1)⟩))
theorem rc_str {i : Int} (h : i.natAbs.log2 < 1920) : RC rStrA [.int i] H (.str (Str.ofString (toString i))) := fun H1 _ _ q => ⟨i, rfl, h, q H1 (Ex.refl H1)⟩
theorem rc_abs {i : Int} : RC rAbsA [.int i] H (.int (if i < 0 then -i else i)) := fun H1 _ _ q => ⟨i, rfl, q H1 (Ex.refl H1)⟩
theorem ev_callS {sp : Sp} {vs : List V} {E : L2.St → XK} {ta : TA} (h : EvA ta σ H vs) (hs : SpV sp vs H z) : Ev (tCallS sp E ta) σ H z := fun H1 e Q q =>
  h H1 e _ fun H2 e2 => hs H2 (e.trans e2) Q (fun H3 e3 => q H3 (e2.trans e3)) (E σ)
/-- a word between a statement and what follows -/
theorem q_cut2 {tu tz : TS} {M : L2.St → Hp → Prop} (h : ∀ nx : L2.St → Hp → Prop, (∀ σ' H', M σ' H' → nx σ' H') → tu { D with nx := nx } σ H) (k : ∀ σ' H', M σ' H' → tz D σ' H') : tSeq tu tz D σ H := h _ k
/-- a call, by its promise -/
theorem q_callS {sp : Sp} {vs : List V} {E : L2.St → XK} {ta : TA} {i : Nat} {tz : TS} (h : EvA ta σ H vs) (k : ∀ H1, Ex H H1 → sp vs H1 (fun v H2 => tz D (σ.set i (some v)) H2) (E σ)) : tSeq (tAsg (tCallS sp E ta) (gName i)) tz D σ H := h H (Ex.refl H) _ k
theorem s_callS {sp : Sp} {vs : List V} {E : L2.St → XK} {ta : TA} {i : Nat} (h : EvA ta σ H vs) (k : ∀ H1, Ex H H1 → sp vs H1 (fun v H2 => D.nx (σ.set i (some v)) H2) (E σ)) : tAsg (tCallS sp E ta) (gName i) D σ H := h H (Ex.refl H) _ k
theorem s_retS {sp : Sp} {vs : List V} {E : L2.St → XK} {ta : TA} (h : EvA ta σ H vs) (k : ∀ H1, Ex H H1 → sp vs H1 D.rt (E σ)) : tRet (tCallS sp E ta) D σ H := h H (Ex.refl H) _ k
theorem q_dropS {sp : Sp} {vs : List V} {E : L2.St → XK} {ta : TA} {tz : TS} (h : EvA ta σ H vs) (k : ∀ H1, Ex H H1 → sp vs H1 (fun _ H2 => tz D σ H2) (E σ)) : tSeq (tDrop (tCallS sp E ta)) tz D σ H := h H (Ex.refl H) _ k
theorem ev_neg {i : Int} (h : Ev ta σ H (.int i)) : Ev (tUn rNegA ta) σ H (.int (-i)) := ev_un h ru_neg
theorem ev_chainLL {i j k : Int} (ha : Ev ta σ H (.int i)) (hb : Ev tb σ H (.int j)) (hc : Ev tx σ H (.int k)) : Ev (tChain rLeA rLeA ta tb tx) σ H (.bl (decide (i ≤ j) && decide (j ≤ k))) :=
  ev_chainI (g := fun a b => decide (a ≤ b)) (g' := fun a b => decide (a ≤ b)) ha hb hc
theorem ev_chainLt {i j k : Int} (ha : Ev ta σ H (.int i)) (hb : Ev tb σ H (.int j)) (hc : Ev tx σ H (.int k)) : Ev (tChain rLeA rLtA ta tb tx) σ H (.bl (decide (i ≤ j) && decide (j < k))) :=
  ev_chainI (g := fun a b => decide (a ≤ b)) (g' := fun a b => decide (a < b)) ha hb hc
end
end Z

set_option Elab.async false
set_option linter.all false
set_option autoImplicit false
set_option maxRecDepth 100000
set_option maxHeartbeats 4000000
namespace Z
open PySem PySem.Spec PyProof.Rows L2 Evl
/-! ### data: what stands at a value, through and through -/
def kD : Key → PyData
  | .inl i => .int i
  | .inr x => .str x
mutual
inductive Dt (H : Hp) : V → PyData → Prop
  | non : Dt H .non .none
  | bl (b : Bool) : Dt H (.bl b) (.bool b)
  | int (i : Int) : Dt H (.int i) (.int i)
  | str (x : Str) : Dt H (.str x) (.str x)
  | lst {a : Addr} {xs : List V} {ds : List PyData} : H a = some (.lst xs) → DtAll H xs ds → Dt H (.ref a) (.list ds)
  | tup {a : Addr} {xs : List V} {ds : List PyData} : H a = some (.tup xs) → DtAll H xs ds → Dt H (.ref a) (.tuple ds)
  | dct {a : Addr} {kvs : List (Key × V)} {ds : List PyData} : H a = some (.dK kvs) → DtAll H (kvs.map (·.2)) ds → Dt H (.ref a) (.dict ((kvs.map fun kv => kD kv.1).zip ds))
inductive DtAll (H : Hp) : List V → List PyData → Prop
  | nil : DtAll H [] []
  | cons {v : V} {vs : List V} {d : PyData} {ds : List PyData} : Dt H v d → DtAll H vs ds → DtAll H (v :: vs) (d :: ds)
end
mutual
theorem Dt.ex {H H' : Hp} (e : Ex H H') : ∀ {v : V} {d : PyData}, Dt H v d → Dt H' v d
  | _, _, .non => .non
  | _, _, .bl b => .bl b
  | _, _, .int i => .int i
  | _, _, .str x => .str x
  | _, _, .lst h r => .lst (e _ _ h) (DtAll.ex e r)
  | _, _, .tup h r => .tup (e _ _ h) (DtAll.ex e r)
  | _, _, .dct h r => .dct (e _ _ h) (DtAll.ex e r)
theorem DtAll.ex {H H' : Hp} (e : Ex H H') : ∀ {vs : List V} {ds : List PyData}, DtAll H vs ds → DtAll H' vs ds
  | _, _, .nil => .nil
  | _, _, .cons a r => .cons (Dt.ex e a) (DtAll.ex e r)
end
mutual
def noDict : PyData → Bool
  | .list ds => noDicts ds
  | .tuple ds => noDicts ds
  | .dict _ => false
  | _ => true
def noDicts : List PyData → Bool
  | [] => true
  | d :: ds => noDict d && noDicts ds
end
mutual
theorem Dt.dp {K : PySem.W.Frag} {H : Hp} : ∀ {v : V} {d : PyData}, Dt H v d → noDict d = true → Dp K H v d
  | _, _, .non, _ => .non
  | _, _, .bl b, _ => .bl b
  | _, _, .int i, _ => .int i
  | _, _, .str x, _ => .str x
  | _, _, .lst h r, n => .lst (SqL.of h) (DtAll.dp r (by simpa [noDict] using n))
  | _, _, .tup h r, n => .tup (SqT.of h) (DtAll.dp r (by simpa [noDict] using n))
  | _, _, .dct h r, n => by simp [noDict] at n
theorem DtAll.dp {K : PySem.W.Frag} {H : Hp} : ∀ {vs : List V} {ds : List PyData}, DtAll H vs ds → noDicts ds = true → DpAll K H vs ds
  | _, _, .nil, _ => .nil
  | _, _, .cons a r, n => by
    simp only [noDicts, Bool.and_eq_true] at n
    exact .cons (Dt.dp a n.1) (DtAll.dp r n.2)
end
theorem DtAll.length {H : Hp} : ∀ {vs : List V} {ds : List PyData}, DtAll H vs ds → vs.length = ds.length
  | _, _, .nil => rfl
  | _, _, .cons _ r => by rw [List.length_cons, List.length_cons, r.length]
theorem DtAll.get {H : Hp} : ∀ {vs : List V} {ds : List PyData} {i : Nat} {d : PyData}, DtAll H vs ds → ds[i]? = some d → ∃ v, vs[i]? = some v ∧ Dt H v d
  | _, _, i, d, .nil, h => by simp at h
  | _, _, 0, d, .cons (v := v) a r, h => by
    rw [List.getElem?_cons_zero] at h
    cases h
    exact ⟨v, rfl, a⟩
  | _, _, i + 1, d, .cons a r, h => by
    obtain ⟨v, h1, h2⟩ := r.get (i := i) (d := d) (by simpa using h)
    exact ⟨v, by simpa using h1, h2⟩
theorem DtAll.getV {H : Hp} : ∀ {vs : List V} {ds : List PyData} {i : Nat} {v : V}, DtAll H vs ds → vs[i]? = some v → ∃ d, ds[i]? = some d ∧ Dt H v d
  | _, _, i, d, .nil, h => by simp at h
  | _, _, 0, v, .cons (d := d) a r, h => by
    rw [List.getElem?_cons_zero] at h
    cases h
    exact ⟨d, rfl, a⟩
  | _, _, i + 1, v, .cons a r, h => by
    obtain ⟨d, h1, h2⟩ := r.getV (i := i) (v := v) (by simpa using h)
    exact ⟨d, by simpa using h1, h2⟩
theorem DtAll.append {H : Hp} : ∀ {vs ws : List V} {ds es : List PyData}, DtAll H vs ds → DtAll H ws es → DtAll H (vs ++ ws) (ds ++ es)
  | _, _, _, _, .nil, s => s
  | _, _, _, _, .cons a r, s => .cons a (r.append s)
theorem atI_dt {H : Hp} {vs : List V} {ds : List PyData} {i : Int} {d : PyData} (h : DtAll H vs ds) (a : atI ds i = some d) : ∃ v, atI vs i = some v ∧ Dt H v d := by
  unfold atI at a ⊢
  rw [h.length]
  cases q : ixN ds.length i with
  | none => rw [q] at a; cases a
  | some j =>
    rw [q] at a
    exact h.get (show ds[j]? = some d from a)
/-! ### data of a size and depth that is compared -/
structure okS (z : Str) : Prop where
  len : z.length ≤ 30000
  cps : z.cps.all (· < 1114112) = true
theorem okS.app {x y : Str} (hx : okS x) (hy : okS y) (h : x.length + y.length ≤ 30000) : okS (x ++ y) := by
  refine ⟨by rw [Str.length_append]; exact h, ?_⟩
  show (x.cps ++ y.cps).all (· < 1114112) = true
  rw [Array.all_append, hx.cps, hy.cps]
  rfl
theorem okS_S {l : List Nat} (h : l.length ≤ 30000) (hc : ∀ c ∈ l, c < 128) : okS (SX.S l) := by
  refine ⟨by rw [SX.S_len]; exact h, ?_⟩
  show l.toArray.all (· < 1114112) = true
  rw [List.all_toArray]
  exact List.all_eq_true.mpr fun c h => decide_eq_true (by have := hc c h; omega)
theorem S_of (z : Str) : SX.S z.cps.toList = z := SX.S_tl z
theorem okS_of {z : Str} (h : z.length ≤ 30000) (hc : ∀ c ∈ z.cps.toList, c < 128) : okS z := by
  have q : z.cps.toList.length ≤ 30000 := by
    have e : z.cps.toList.length = z.length := by simp [Str.length]
    omega
  have := okS_S q hc
  rw [S_of] at this
  exact this
mutual
def okN : Nat → PyData → Prop
  | _, .str z => okS z
  | n + 1, .list ds => okNs n ds
  | n + 1, .tuple ds => okNs n ds
  | 0, .list _ => False
  | 0, .tuple _ => False
  | _, .dict _ => False
  | _, .none => True
  | _, .bool _ => True
  | _, .int _ => True
def okNs : Nat → List PyData → Prop
  | _, [] => True
  | n, d :: ds => okN n d ∧ okNs n ds
end
theorem okNs_iff {n : Nat} : ∀ {ds : List PyData}, okNs n ds ↔ ∀ d ∈ ds, okN n d
  | [] => by simp [okNs]
  | d :: ds => by
    rw [okNs, okNs_iff]
    simp
mutual
theorem okN_lay : ∀ (n : Nat) (d : PyData), okN n d → d.canLay0 = true ∧ d.depth ≤ n + 1 ∧ noDict d = true
  | n, .str z, h => by
    rw [okN] at h
    refine ⟨?_, by simp [PyData.depth], by simp [noDict]⟩
    simp only [PyData.canLay0]
    exact h.cps
  | n + 1, .list ds, h => by
    rw [okN] at h
    have := okNs_lay n ds h
    refine ⟨by simp only [PyData.canLay0]; exact this.1, ?_, by simp only [noDict]; exact this.2.2⟩
    have := this.2.1
    simp only [PyData.depth]
    omega
  | n + 1, .tuple ds, h => by
    rw [okN] at h
    have := okNs_lay n ds h
    refine ⟨by simp only [PyData.canLay0]; exact this.1, ?_, by simp only [noDict]; exact this.2.2⟩
    have := this.2.1
    simp only [PyData.depth]
    omega
  | 0, .list _, h => by rw [okN] at h; exact h.elim
  | 0, .tuple _, h => by rw [okN] at h; exact h.elim
  | _, .dict _, h => by rw [okN] at h; exact h.elim
  | _, .none, _ => ⟨by simp [PyData.canLay0], by simp [PyData.depth], by simp [noDict]⟩
  | _, .bool _, _ => ⟨by simp [PyData.canLay0], by simp [PyData.depth], by simp [noDict]⟩
  | _, .int _, _ => ⟨by simp [PyData.canLay0], by simp [PyData.depth], by simp [noDict]⟩
theorem okNs_lay : ∀ (n : Nat) (ds : List PyData), okNs n ds → PyData.canLayAll0 ds = true ∧ PyData.depthAll ds ≤ n + 1 ∧ noDicts ds = true
  | _, [], _ => ⟨by simp [PyData.canLayAll0], by simp [PyData.depthAll], by simp [noDicts]⟩
  | n, d :: ds, h => by
    rw [okNs] at h
    have h1 := okN_lay n d h.1
    have h2 := okNs_lay n ds h.2
    refine ⟨by simp only [PyData.canLayAll0, h1.1, h2.1, Bool.and_self], ?_, by simp only [noDicts, h1.2.2, h2.2.2, Bool.and_self]⟩
    have := h1.2.1
    have := h2.2.1
    simp only [PyData.depthAll]
    omega
end
/-- at most ten deep, no dict, texts of at most 30,000 signs -/
def okD (d : PyData) : Prop := okN 10 d
theorem okD.shaped {d : PyData} (h : okD d) : SeqAt.shaped d = true := by
  have := okN_lay 10 d h
  unfold SeqAt.shaped
  rw [this.1, Bool.true_and]
  exact decide_eq_true (by omega)
theorem okD.nd {d : PyData} (h : okD d) : noDict d = true := (okN_lay 10 d h).2.2
/-- the built-in type of data -/
def kindD : PyData → String
  | .none => "NoneType"
  | .bool _ => "bool"
  | .int _ => "int"
  | .str _ => "str"
  | .list _ => "list"
  | .tuple _ => "tuple"
  | .dict _ => "dict"
theorem Dt.ty {H : Hp} {v : V} {d : PyData} (h : Dt H v d) : tyN H v = some (kindD d) := by
  cases h with
  | non => rfl
  | bl b => rfl
  | int i => rfl
  | str x => rfl
  | lst e r => show tyO (H _) = _; rw [e]; rfl
  | tup e r => show tyO (H _) = _; rw [e]; rfl
  | dct e r => show tyO (H _) = _; rw [e]; rfl

/-! ### expressions that evaluate to data -/
def EvD (te : TE) (σ : L2.St) (H : Hp) (d : PyData) : Prop := ∀ H1, Ex H H1 → ∀ Q : VK, (∀ v H2, Ex H1 H2 → Dt H2 v d → Q v H2) → te σ H1 Q
def EvDs (ta : TA) (σ : L2.St) (H : Hp) (ds : List PyData) : Prop := ∀ H1, Ex H H1 → ∀ Q : List V → Hp → Prop, (∀ vs H2, Ex H1 H2 → DtAll H2 vs ds → Q vs H2) → ta σ H1 Q
section
variable {K : PySem.W.Frag} {σ : L2.St} {H H' : Hp} {ta tb te tx : TE} {tas : TA} {t u : TT} {x y z v : V} {d e : PyData} {ds es : List PyData} {D : Ends} {tu tw tz : TS}
theorem EvD.mono (e0 : Ex H H') (h : EvD te σ H d) : EvD te σ H' d := fun H1 a Q q => h H1 (e0.trans a) Q q
theorem ed_ev (h : Ev te σ H v) (r : Dt H v d) : EvD te σ H d := fun H1 e0 Q q => h H1 e0 _ fun H2 e2 => q v H2 e2 (r.ex (e0.trans e2))
theorem ed_i {i : Int} (h : Ev te σ H (.int i)) : EvD te σ H (.int i) := ed_ev h (.int i)
theorem ed_s {i : Str} (h : Ev te σ H (.str i)) : EvD te σ H (.str i) := ed_ev h (.str i)
theorem ed_b {i : Bool} (h : Ev te σ H (.bl i)) : EvD te σ H (.bool i) := ed_ev h (.bl i)
theorem ed_n (h : Ev te σ H .non) : EvD te σ H .none := ed_ev h .non
theorem ed_var {i : Nat} (h : σ[i]? = some (some v)) (r : Dt H v d) : EvD (tVar i) σ H d := ed_ev (ev_var h) r
theorem eds_nil : EvDs tNil σ H [] := fun H1 _ _ q => q [] H1 (Ex.refl H1) .nil
theorem eds_cons (h : EvD ta σ H d) (r : EvDs tas σ H ds) : EvDs (tCons ta tas) σ H (d :: ds) := fun H1 e0 Q q =>
  h H1 e0 _ fun v H2 e2 hv => r H2 (e0.trans e2) _ fun vs H3 e3 hvs => q _ H3 (e2.trans e3) (.cons (hv.ex e3) hvs)
theorem ed_lst (h : EvDs tas σ H ds) (hl : ds.length ≤ 100000 := by simp only [List.length_cons, List.length_nil, List.length_append]; omega) : EvD (tLst tas) σ H (.list ds) := fun H1 e0 Q q =>
  h H1 e0 _ fun vs H2 e2 hvs => ⟨sz_of (by rw [hvs.length]; exact hl), fun p hp => q _ _ (e2.trans (Ex.new hp)) (.lst upd_same (hvs.ex (Ex.new hp)))⟩
theorem ed_tup (h : EvDs tas σ H ds) (hl : ds.length ≤ 100000 := by simp only [List.length_cons, List.length_nil, List.length_append]; omega) : EvD (tTup tas) σ H (.tuple ds) := fun H1 e0 Q q =>
  h H1 e0 _ fun vs H2 e2 hvs => ⟨sz_of (by rw [hvs.length]; exact hl), fun p hp => q _ _ (e2.trans (Ex.new hp)) (.tup upd_same (hvs.ex (Ex.new hp)))⟩
theorem ed_dnew : EvD tDNewK σ H (.dict []) := fun H1 _ Q q p hp => q _ _ (Ex.new hp) (.dct (kvs := []) (ds := []) upd_same .nil)
theorem ed_ixL {i : Int} (h : EvD ta σ H (.list ds)) (hi : Ev tb σ H (.int i)) (a : atI ds i = some d) : EvD (tOp (rIxA K) ta tb) σ H d := fun H1 e0 Q q =>
  h H1 e0 _ fun v H2 e2 hv => hi H2 (e0.trans e2) _ fun H3 e3 => by
    cases hv with
    | lst hl r =>
      obtain ⟨w, h1, h2⟩ := atI_dt r a
      exact .inl (.inl ⟨_, _, i, w, rfl, rfl, SqL.of (e3 _ _ hl), h1, q w H3 (e2.trans e3) (h2.ex e3)⟩)
theorem ed_ixT {i : Int} (h : EvD ta σ H (.tuple ds)) (hi : Ev tb σ H (.int i)) (a : atI ds i = some d) : EvD (tOp (rIxA K) ta tb) σ H d := fun H1 e0 Q q =>
  h H1 e0 _ fun v H2 e2 hv => hi H2 (e0.trans e2) _ fun H3 e3 => by
    cases hv with
    | tup hl r =>
      obtain ⟨w, h1, h2⟩ := atI_dt r a
      exact .inl (.inr (.inl ⟨_, _, i, w, rfl, rfl, SqT.of (e3 _ _ hl), h1, q w H3 (e2.trans e3) (h2.ex e3)⟩))
theorem ed_catL (h : EvD ta σ H (.list ds)) (h2 : EvD tb σ H (.list es)) (hl : ds.length + es.length ≤ 100000 := by simp only [List.length_cons, List.length_nil, List.length_append]; omega) : EvD (tOp (rAddA K) ta tb) σ H (.list (ds ++ es)) := fun H1 e0 Q q =>
  h H1 e0 _ fun v H2 e2 hv => h2 H2 (e0.trans e2) _ fun w H3 e3 hw => by
    cases hv with
    | lst hv r =>
      cases hw with
      | lst hw r2 => exact .inr (.inr (.inl ⟨_, _, _, _, rfl, rfl, e3 _ _ hv, hw, sz_of (by rw [r.length, r2.length]; exact hl), fun p hp => q _ _ ((e2.trans e3).trans (Ex.new hp)) (.lst upd_same (((r.ex e3).append r2).ex (Ex.new hp)))⟩))
theorem ev_eqD (h : EvD ta σ H d) (h2 : EvD tb σ H e) (od : okD d) (oe : okD e) : Ev (tOp (rEqA K) ta tb) σ H (.bl (PyData.eqv d e)) := fun H1 e0 Q q =>
  h H1 e0 _ fun v H2 e2 hv => h2 H2 (e0.trans e2) _ fun w H3 e3 hw => .inr ⟨d, e, (hv.ex e3).dp od.nd, hw.dp oe.nd, od.shaped, oe.shaped, q H3 (e2.trans e3)⟩
theorem ev_neD (h : EvD ta σ H d) (h2 : EvD tb σ H e) (od : okD d) (oe : okD e) : Ev (tOp (rNeA K) ta tb) σ H (.bl (!PyData.eqv d e)) := fun H1 e0 Q q =>
  h H1 e0 _ fun v H2 e2 hv => h2 H2 (e0.trans e2) _ fun w H3 e3 hw => .inr ⟨d, e, (hv.ex e3).dp od.nd, hw.dp oe.nd, od.shaped, oe.shaped, q H3 (e2.trans e3)⟩
theorem ev_isD {c : String} (ha : EvD ta σ H d) (hc : c ∈ asked := by decide) : Ev (tCB (rIsiA K) (tCons ta (tCons (tC (.ty c)) tNil))) σ H (.bl (isiB (kindD d) c)) := fun H1 e0 Q q =>
  ha H1 e0 _ fun v H2 e2 hv => rc_isi (hv.ty) hc H2 (Ex.refl H2) Q fun H3 e3 => q H3 (e2.trans e3)
theorem s_asgD {i : Nat} (h : EvD te σ H d) (k : ∀ v H1, Ex H H1 → Dt H1 v d → D.nx (σ.set i (some v)) H1) : tAsg te (gName i) D σ H := h H (Ex.refl H) _ fun v H1 e1 hv => k v H1 e1 hv
theorem q_asgD {i : Nat} (h : EvD te σ H d) (k : ∀ v H1, Ex H H1 → Dt H1 v d → tz D (σ.set i (some v)) H1) : tSeq (tAsg te (gName i)) tz D σ H := s_asgD (D := { D with nx := tz D }) h k
theorem s_retD (h : EvD te σ H d) (k : ∀ v H1, Ex H H1 → Dt H1 v d → D.rt v H1) : tRet te D σ H := h H (Ex.refl H) _ k
/-- promises about data: arguments ds in, d out -/
def RetD (d : PyData) (H : Hp) (Q : VK) : Prop := ∀ v H2, Ex H H2 → Dt H2 v d → Q v H2
/-- a def from data to data, by a function -/
def spD (n : Nat) (pre : List PyData → Prop) (f : List PyData → PyData) : Sp := fun vs H Q _ => ∃ ds, ds.length = n ∧ DtAll H vs ds ∧ pre ds ∧ RetD (f ds) H Q
theorem ed_callS {n : Nat} {pre : List PyData → Prop} {f : List PyData → PyData} {E : L2.St → XK} {ta : TA} (h : EvDs ta σ H ds) (hn : ds.length = n) (hp : pre ds) : EvD (tCallS (spD n pre f) E ta) σ H (f ds) := fun H1 e0 Q q =>
  h H1 e0 _ fun vs H2 e2 hvs => ⟨ds, hn, hvs, hp, fun v H3 e3 hv => q v H3 (e2.trans e3) hv⟩
theorem ed_call {n : Nat} {pre : List PyData → Prop} {f : List PyData → PyData} {E : XK} {ta : TA} (h : EvDs ta σ H ds) (hn : ds.length = n) (hp : pre ds) : EvD (tCall (spD n pre f) [] E ta) σ H (f ds) := fun H1 e0 Q q =>
  h H1 e0 _ fun vs H2 e2 hvs => ⟨ds, hn, by rw [List.append_nil]; exact hvs, hp, fun v H3 e3 hv => q v H3 (e2.trans e3) hv⟩
theorem Dt.i {v : V} {i : Int} (h : Dt H v (.int i)) : v = .int i := by cases h; rfl
theorem Dt.s {v : V} {i : Str} (h : Dt H v (.str i)) : v = .str i := by cases h; rfl
theorem Dt.b {v : V} {i : Bool} (h : Dt H v (.bool i)) : v = .bl i := by cases h; rfl
theorem Dt.n {v : V} (h : Dt H v .none) : v = .non := by cases h; rfl
theorem ev_i {i : Int} (h : EvD te σ H (.int i)) : Ev te σ H (.int i) := fun H1 e0 Q q => h H1 e0 _ fun v H2 e2 hv => by rw [hv.i]; exact q H2 e2
theorem ev_s {i : Str} (h : EvD te σ H (.str i)) : Ev te σ H (.str i) := fun H1 e0 Q q => h H1 e0 _ fun v H2 e2 hv => by rw [hv.s]; exact q H2 e2
theorem ev_b {i : Bool} (h : EvD te σ H (.bool i)) : Ev te σ H (.bl i) := fun H1 e0 Q q => h H1 e0 _ fun v H2 e2 hv => by rw [hv.b]; exact q H2 e2
theorem ev_n (h : EvD te σ H .none) : Ev te σ H .non := fun H1 e0 Q q => h H1 e0 _ fun v H2 e2 hv => by rw [hv.n]; exact q H2 e2
end
end Z

set_option Elab.async false
set_option linter.all false
set_option autoImplicit false
set_option maxRecDepth 100000
set_option maxHeartbeats 4000000
/-! ev: what an expression comes to, by its form -/
local macro_rules | `(tactic| k_places) => `(tactic| (repeat' (first
  | (with_reducible exact ev_c)
  | (with_reducible exact ev_var rfl)
  | (with_reducible refine ev_chainLL ?_ ?_ ?_)
  | (with_reducible refine ev_chainLt ?_ ?_ ?_)
  | (with_reducible refine ev_op ?_ ?_ ?_)
  | (with_reducible refine ev_neg ?_)
  | (with_reducible refine et_test ?_)
  | (with_reducible refine et_B ?_)
  | (with_reducible refine et_not ?_)
  | (with_reducible refine et_and ?_ (fun _ => ?_))
  | (with_reducible refine et_or ?_ (fun _ => ?_))
  | (with_reducible refine ev_andV ?_ (fun _ => ?_))
  | (with_reducible refine ev_orV ?_ (fun _ => ?_))
  | (with_reducible refine ev_notV ?_)
  | (with_reducible exact rv_addI)
  | (with_reducible exact rv_subI)
  | (with_reducible exact rv_lt)
  | (with_reducible exact rv_le)
  | (with_reducible exact rv_gt)
  | (with_reducible exact rv_ge)
  | (with_reducible exact rv_isB)
  | (with_reducible exact rv_isnB)
  | (with_reducible exact rv_isN)
  | (with_reducible exact rv_isnN)
  | (with_reducible exact rv_eqS rfl)
  | (with_reducible exact rv_neS rfl)
  | (with_reducible exact rv_inStr)
  | (with_reducible exact rv_ninStr)
  | (with_reducible exact rv_mod (by first | decide | omega | assumption))
  | (with_reducible exact rv_div (by first | decide | omega | assumption))
  | (with_reducible exact rv_pow (by decide))
  | (with_reducible refine ed_i ?_; done)
  | (with_reducible exact ea_nil)
  | (with_reducible refine ea_cons ?_ ?_)
  | (with_reducible exact eds_nil)
  | (with_reducible refine eds_cons ?_ ?_)
  | (with_reducible exact ed_dnew)
  | (with_reducible refine ed_lst ?_ (by simp only [List.length_cons, List.length_nil]; omega))
  | (with_reducible refine ed_tup ?_ (by simp only [List.length_cons, List.length_nil]; omega)))))
namespace Z
open PySem PySem.Spec PyProof.Rows L2 Evl
/-! ### values.py -/
def lets : List Nat := ("abcdefghijklmnopqrstuvwxyz" : Str).cps.toList
def isName (z : Str) : Bool := decide (1 ≤ z.length ∧ z.length ≤ 8) && z.cps.toList.all fun c => decide (c ∈ lets)
def isWholeD (d : PyData) : Bool := kindD d == "int"
def isNameD : PyData → Bool
  | .str z => isName z
  | _ => false
def isFaultD : PyData → Bool
  | .tuple [.str f, w] => decide (f = ("fault" : Str)) && isNameD w
  | _ => false
def isNumD : PyData → Bool
  | .int i => decide (-(10 ^ 60) < i ∧ i < 10 ^ 60)
  | _ => false
def isValueD (d : PyData) : Bool := isNumD d || isFaultD d
def short : PyData → Prop
  | .str z => z.length ≤ 30000
  | _ => True
def short2 : PyData → Prop
  | .tuple [_, w] => short w
  | _ => True
/-- a def of one argument -/
def sp1 (pre : PyData → Prop) (f : PyData → PyData) : Sp := spD 1 (fun ds => pre (ds.getD 0 .none)) (fun ds => f (ds.getD 0 .none))
theorem sp1_open {pre : PyData → Prop} {f : PyData → PyData} {vs : List V} {H : Hp} {Q : VK} {E : XK} (h : sp1 pre f vs H Q E) : ∃ v d, vs = [v] ∧ Dt H v d ∧ pre d ∧ RetD (f d) H Q := by
  obtain ⟨ds, hn, ha, hp, k⟩ := h
  cases ha with
  | nil => cases hn
  | cons a r =>
    cases r with
    | nil => exact ⟨_, _, rfl, a, hp, k⟩
    | cons _ _ => simp at hn
def sp_is_whole (K : PySem.W.Frag) : Sp := sp1 (fun _ => True) fun d => .bool (isWholeD d)
def sp_is_name (K : PySem.W.Frag) : Sp := sp1 short fun d => .bool (isNameD d)
def sp_is_fault (K : PySem.W.Frag) : Sp := sp1 short2 fun d => .bool (isFaultD d)
def sp_is_number (K : PySem.W.Frag) : Sp := sp1 (fun _ => True) fun d => .bool (isNumD d)
def sp_is_value (K : PySem.W.Frag) : Sp := sp1 short2 fun d => .bool (isValueD d)
def t_is_whole (K : PySem.W.Frag) (E : XK) : TS :=
  tRet (tAndV (tCB (rIsiA K) (tCons (tVar 0) (tCons (tC (.ty "int")) tNil))) (tNotV (tCB (rIsiA K) (tCons (tVar 0) (tCons (tC (.ty "bool")) tNil)))))
def t_is_name (K : PySem.W.Frag) (E : XK) : TS :=
  tSeq (tIfS (tOr (tNot (tB (tCB (rIsiA K) (tCons (tVar 0) (tCons (tC (.ty "str")) tNil))))) (tNot (tTest (tChain rLeA rLeA (tC (.int 1)) (tCB (rLenA K) (tCons (tVar 0) tNil)) (tC (.int 8)))))) (tRet (tC (.bl false))) tNext)
    (tRet (tCB (rAll K) (tCons (tLc (iStr (tVar 0)) (gName 1) tYes (tOp (rInA K) (tVar 1) (tC (.str "abcdefghijklmnopqrstuvwxyz"))) [1]) tNil)))
def t_is_fault (K : PySem.W.Frag) (E : XK) : TS :=
  tSeq (tIfS (tOr (tNot (tB (tCB (rIsiA K) (tCons (tVar 0) (tCons (tC (.ty "tuple")) tNil))))) (tTest (tOp (rNeA K) (tCB (rLenA K) (tCons (tVar 0) tNil)) (tC (.int 2))))) (tRet (tC (.bl false))) tNext)
    (tRet (tAndV (tCB (rIsiA K) (tCons (tOp (rIxA K) (tVar 0) (tC (.int 0))) (tCons (tC (.ty "str")) tNil))) (tAndV (tOp (rEqA K) (tOp (rIxA K) (tVar 0) (tC (.int 0))) (tC (.str "fault"))) (tCallS (sp_is_name K) (WE fun cls d _ H => E cls d H) (tCons (tOp (rIxA K) (tVar 0) (tC (.int 1))) tNil)))))
def t_is_number (K : PySem.W.Frag) (E : XK) : TS :=
  tRet (tAndV (tCallS (sp_is_whole K) (WE fun cls d _ H => E cls d H) (tCons (tVar 0) tNil)) (tOp rLtA (tCB rAbsA (tCons (tVar 0) tNil)) (tOp rPowA (tC (.int 10)) (tC (.int 60)))))
def t_is_value (K : PySem.W.Frag) (E : XK) : TS :=
  tRet (tOrV (tCallS (sp_is_number K) (WE fun cls d _ H => E cls d H) (tCons (tVar 0) tNil)) (tCallS (sp_is_fault K) (WE fun cls d _ H => E cls d H) (tCons (tVar 0) tNil)))
section
variable {K : PySem.W.Frag} {σ : L2.St} {H H' : Hp} {te : TE} {d : PyData} {E : L2.St → XK}
theorem ed_sp1 {pre : PyData → Prop} {f : PyData → PyData} (h : EvD te σ H d) (hp : pre d) : EvD (tCallS (sp1 pre f) E (tCons te tNil)) σ H (f d) := ed_callS (ds := [d]) (eds_cons h eds_nil) rfl hp
theorem ev_spB {pre : PyData → Prop} {g : PyData → Bool} (h : EvD te σ H d) (hp : pre d) : Ev (tCallS (sp1 pre fun d => .bool (g d)) E (tCons te tNil)) σ H (.bl (g d)) := ev_b (ed_sp1 h hp)
end
theorem r_is_whole {K : PySem.W.Frag} (vs : List V) (H : Hp) (Q : VK) (E : XK) (h : sp_is_whole K vs H Q E) : t_is_whole K E { nx := fun _ H' => Q .non H', rt := Q } (L2.start ["thing"] vs) H := by
  obtain ⟨v, d, rfl, r, -, k⟩ := sp1_open h
  unfold t_is_whole
  refine s_ret (v := .bl (isWholeD d)) (ev_is (ev_andV (ev_isD (ed_var rfl r)) fun _ => ev_notV (ev_isD (ed_var rfl r))) ?_) fun H1 e1 => k _ H1 e1 (.bl _)
  cases d <;> rfl
theorem r_is_number {K : PySem.W.Frag} (vs : List V) (H : Hp) (Q : VK) (E : XK) (h : sp_is_number K vs H Q E) : t_is_number K E { nx := fun _ H' => Q .non H', rt := Q } (L2.start ["thing"] vs) H := by
  obtain ⟨v, d, rfl, r, -, k⟩ := sp1_open h
  unfold t_is_number
  refine s_ret (v := .bl (isNumD d)) ?_ fun H1 e1 => k _ H1 e1 (.bl _)
  by_cases hi : ∃ i, d = .int i
  · obtain ⟨i, rfl⟩ := hi
    obtain rfl := r.i
    refine ev_is (ev_andV (ev_spB (ed_var rfl r) trivial) fun _ => ev_op (ev_cb (ea_cons (ev_var rfl) ea_nil) rc_abs) (ev_op ev_c ev_c (rv_pow (by decide))) rv_lt) ?_
    have e : ((10 : Int) ^ (60 : Int).toNat) = 10 ^ 60 := rfl
    rw [e]
    show V.bl (true && decide ((if i < 0 then -i else i) < 10 ^ 60)) = V.bl (decide (-(10 ^ 60) < i ∧ i < 10 ^ 60))
    rw [Bool.true_and]
    congr 1
    refine decide_eq_decide.mpr ?_
    split <;> omega
  · have e1 : isNumD d = false := by
      cases d <;> first | rfl | exact absurd ⟨_, rfl⟩ hi
    have e2 : isWholeD d = false := by
      cases d <;> first | rfl | exact absurd ⟨_, rfl⟩ hi
    rw [e1]
    refine ev_is (v := .bl (isWholeD d && false)) (ev_andV (ev_spB (ed_var rfl r) trivial) fun z => ?_) (by rw [e2]; rfl)
    rw [e2] at z
    cases z
theorem r_is_name {K : PySem.W.Frag} (vs : List V) (H : Hp) (Q : VK) (E : XK) (h : sp_is_name K vs H Q E) : t_is_name K E { nx := fun _ H' => Q .non H', rt := Q } (L2.start ["thing", "sign"] vs) H := by
  obtain ⟨v, d, rfl, r, hs, k⟩ := sp1_open h
  unfold t_is_name
  by_cases hz : ∃ z, d = .str z
  · obtain ⟨z, rfl⟩ := hz
    obtain rfl := r.s
    have hs : z.length ≤ 30000 := hs
    refine q_when (b := !(decide ((1 : Int) ≤ z.length) && decide ((z.length : Int) ≤ 8))) (et_is (et_or (et_not (et_B (ev_isD (ed_var rfl r)))) fun _ => et_not (et_test (ev_chainLL ev_c (ev_lenV (ev_var rfl) (rc_lenS (by omega))) ev_c))) (by rfl)) (fun hb H1 e1 => ?_) fun hb H1 e1 => ?_
    · refine s_ret ev_c fun H2 e2 => ?_
      have : isNameD (.str z) = false := by
        show (decide (1 ≤ z.length ∧ z.length ≤ 8) && _) = false
        have h1 : ¬ (1 ≤ z.length ∧ z.length ≤ 8) := by
          intro hh
          rw [decide_eq_true (by omega : (1 : Int) ≤ z.length), decide_eq_true (by omega : (z.length : Int) ≤ 8)] at hb
          cases hb
        rw [decide_eq_false h1, Bool.false_and]
      rw [this] at k
      exact k _ H2 (e1.trans e2) (.bl _)
    · have h1 : 1 ≤ z.length ∧ z.length ≤ 8 := by
        cases q1 : decide ((1 : Int) ≤ z.length) with
        | false => rw [q1] at hb; cases hb
        | true =>
          cases q2 : decide ((z.length : Int) ≤ 8) with
          | false => rw [q1, q2] at hb; cases hb
          | true =>
            have := of_decide_eq_true q1
            have := of_decide_eq_true q2
            omega
      have zl : z.length = z.cps.size := rfl
      have E1 : given z.cps.size (fun _ => true) (fun i => .bl (decide (z.cps.toList.getD i 0 ∈ lets))) = (z.cps.toList.map fun c => decide (c ∈ lets)).map V.bl := by
        unfold given
        rw [List.filter_eq_self.mpr (fun _ _ => rfl), List.map_map]
        apply List.ext_getElem?
        intro i
        rw [List.getElem?_map, List.getElem?_map]
        by_cases hi : i < z.cps.size
        · have hi2 : i < z.cps.toList.length := by simpa using hi
          have e : z.cps.toList[i]? = some (z.cps.toList.getD i 0) := by
            rw [List.getD_eq_getElem?_getD, List.getElem?_eq_getElem hi2]
            rfl
          rw [List.getElem?_range hi, e]
          rfl
        · rw [List.getElem?_eq_none (by simpa using hi), List.getElem?_eq_none (by simpa using hi)]
          rfl
      refine s_ret (v := .bl (isNameD (.str z))) (ev_is (ev_all (bs := z.cps.toList.map fun c => decide (c ∈ lets)) ?_) ?_) fun H2 e2 => k _ H2 (e1.trans e2) (.bl _)
      · rw [← E1]
        refine el_lcS (fun _ => true) _ (ev_var rfl) (by omega) (fun _ => rfl) (fun i c H2 e2 hc => ?_) (fun i c H2 e2 hc _ => ?_)
        · exact fun H3 _ Q q => q H3 (Ex.refl H3)
        · refine ev_is (ev_op (ev_var rfl) ev_c rv_inStr) ?_
          have : z.cps.toList.getD i 0 = c := by
            rw [List.getD_eq_getElem?_getD, Array.getElem?_toList, hc]
            rfl
          rw [this]
          rfl
      · show V.bl ((z.cps.toList.map fun c => decide (c ∈ lets)).all id) = V.bl (decide (1 ≤ z.length ∧ z.length ≤ 8) && z.cps.toList.all fun c => decide (c ∈ lets))
        rw [decide_eq_true h1, Bool.true_and, List.all_map]
        rfl
  · have e1 : isNameD d = false := by
      cases d <;> first | rfl | exact absurd ⟨_, rfl⟩ hz
    have e2 : isiB (kindD d) "str" = false := by
      cases d <;> first | rfl | exact absurd ⟨_, rfl⟩ hz
    refine q_when (b := true) (et_is (b := true) (a := !(isiB (kindD d) "str") || true) (et_or (et_not (et_B (ev_isD (ed_var rfl r)))) fun z => ?_) (by rw [e2]; rfl)) (fun hb H1 e1' => ?_) fun hb => nomatch hb
    · rw [e2] at z
      cases z
    · refine s_ret ev_c fun H2 e2 => ?_
      rw [e1] at k
      exact k _ H2 (e1'.trans e2) (.bl _)
theorem r_is_fault {K : PySem.W.Frag} (vs : List V) (H : Hp) (Q : VK) (E : XK) (h : sp_is_fault K vs H Q E) : t_is_fault K E { nx := fun _ H' => Q .non H', rt := Q } (L2.start ["thing"] vs) H := by
  obtain ⟨v, d, rfl, r, hs, k⟩ := sp1_open h
  unfold t_is_fault
  by_cases hz : ∃ ds, d = .tuple ds
  · obtain ⟨ds, rfl⟩ := hz
    cases r with
    | @tup a xs _ ha r =>
    have el := r.length
    have hl : Ev (tCB (rLenA K) (tCons (tVar 0) tNil)) [some (V.ref a)] H (.int ds.length) := by
      rw [← el]
      exact ev_lenV (ev_var rfl) (rc_lenT (SqT.of ha))
    refine q_when (b := !decide ((ds.length : Int) = 2)) (et_is (et_or (et_not (et_B (ev_isi (n := "tuple") (ev_var rfl) (by show tyO (H a) = _; rw [ha]; rfl)))) fun _ => et_test (ev_op hl ev_c (rv_neS rfl))) ?_) (fun hb H1 e1 => ?_) fun hb H1 e1 => ?_
    · show (false || !decide (V.int ds.length = V.int 2)) = _
      rw [Bool.false_or]
      congr 1
      exact decide_eq_decide.mpr ⟨fun h => V.int.inj h, fun h => by rw [h]⟩
    · refine s_ret ev_c fun H2 e2 => ?_
      have : isFaultD (.tuple ds) = false := by
        unfold isFaultD
        split
        · rename_i q
          cases q
          cases hb
        · rfl
      rw [this] at k
      exact k _ H2 (e1.trans e2) (.bl _)
    · have h2 : ds.length = 2 := by
        cases q : decide ((ds.length : Int) = 2) with
        | false => rw [q] at hb; cases hb
        | true =>
          have := of_decide_eq_true q
          omega
      obtain ⟨f, w, rfl⟩ : ∃ f w, ds = [f, w] := by
        match ds, h2 with
        | [f, w], _ => exact ⟨f, w, rfl⟩
      have D0 : Dt H (.ref a) (.tuple [f, w]) := .tup ha r
      have i0 : EvD (tOp (rIxA K) (tVar 0) (tC (.int 0))) [some (V.ref a)] H f := ed_ixT (ed_var rfl D0) ev_c rfl
      have i1 : EvD (tOp (rIxA K) (tVar 0) (tC (.int 1))) [some (V.ref a)] H w := ed_ixT (ed_var rfl D0) ev_c rfl
      refine s_ret (v := .bl (isFaultD (.tuple [f, w]))) ?_ fun H2 e2 => k _ H2 (e1.trans e2) (.bl _)
      refine Ev.mono e1 ?_
      by_cases hf : ∃ z, f = .str z
      · obtain ⟨z, rfl⟩ := hf
        refine ev_is (ev_andV (ev_isD i0) fun _ => ev_andV (ev_op (ev_s i0) ev_c (rv_eqS rfl)) fun _ => ev_spB i1 hs) ?_
        show V.bl (true && (decide (V.str z = V.str "fault") && isNameD w)) = V.bl (decide (z = ("fault" : Str)) && isNameD w)
        rw [Bool.true_and]
        congr 2
        exact decide_eq_decide.mpr ⟨fun h => V.str.inj h, fun h => by rw [h]⟩
      · have e2 : isiB (kindD f) "str" = false := by
          cases f <;> first | rfl | exact absurd ⟨_, rfl⟩ hf
        refine ev_is (v := .bl (isiB (kindD f) "str" && false)) (ev_andV (ev_isD i0) fun z => ?_) ?_
        · rw [e2] at z
          cases z
        · rw [e2]
          cases f <;> first | rfl | exact absurd ⟨_, rfl⟩ hf
  · have e1 : isFaultD d = false := by
      cases d <;> first | rfl | exact absurd ⟨_, rfl⟩ hz
    have e2 : isiB (kindD d) "tuple" = false := by
      cases d <;> first | rfl | exact absurd ⟨_, rfl⟩ hz
    refine q_when (b := true) (et_is (b := true) (a := !(isiB (kindD d) "tuple") || true) (et_or (et_not (et_B (ev_isD (ed_var rfl r)))) fun z => ?_) (by rw [e2]; rfl)) (fun hb H1 e1' => ?_) fun hb => nomatch hb
    · rw [e2] at z
      cases z
    · refine s_ret ev_c fun H2 e2 => ?_
      rw [e1] at k
      exact k _ H2 (e1'.trans e2) (.bl _)
theorem r_is_value {K : PySem.W.Frag} (vs : List V) (H : Hp) (Q : VK) (E : XK) (h : sp_is_value K vs H Q E) : t_is_value K E { nx := fun _ H' => Q .non H', rt := Q } (L2.start ["thing"] vs) H := by
  obtain ⟨v, d, rfl, r, hs, k⟩ := sp1_open h
  unfold t_is_value
  exact s_ret (v := .bl (isValueD d)) (ev_orV (ev_spB (ed_var rfl r) trivial) fun _ => ev_spB (ed_var rfl r) hs) fun H1 e1 => k _ H1 e1 (.bl _)
end Z

set_option Elab.async false
set_option linter.all false
set_option autoImplicit false
set_option maxRecDepth 100000
set_option maxHeartbeats 4000000
/-! ev: what an expression comes to, by its form -/
local macro_rules | `(tactic| k_places) => `(tactic| (repeat' (first
  | (with_reducible exact ev_c)
  | (with_reducible exact ev_var rfl)
  | (with_reducible refine ev_chainLL ?_ ?_ ?_)
  | (with_reducible refine ev_chainLt ?_ ?_ ?_)
  | (with_reducible refine ev_op ?_ ?_ ?_)
  | (with_reducible refine ev_neg ?_)
  | (with_reducible refine et_test ?_)
  | (with_reducible refine et_B ?_)
  | (with_reducible refine et_not ?_)
  | (with_reducible refine et_and ?_ (fun _ => ?_))
  | (with_reducible refine et_or ?_ (fun _ => ?_))
  | (with_reducible refine ev_andV ?_ (fun _ => ?_))
  | (with_reducible refine ev_orV ?_ (fun _ => ?_))
  | (with_reducible refine ev_notV ?_)
  | (with_reducible exact rv_addI)
  | (with_reducible exact rv_subI)
  | (with_reducible exact rv_lt)
  | (with_reducible exact rv_le)
  | (with_reducible exact rv_gt)
  | (with_reducible exact rv_ge)
  | (with_reducible exact rv_isB)
  | (with_reducible exact rv_isnB)
  | (with_reducible exact rv_isN)
  | (with_reducible exact rv_isnN)
  | (with_reducible exact rv_eqS rfl)
  | (with_reducible exact rv_neS rfl)
  | (with_reducible exact rv_inStr)
  | (with_reducible exact rv_ninStr)
  | (with_reducible exact rv_mod (by first | decide | omega | assumption))
  | (with_reducible exact rv_div (by first | decide | omega | assumption))
  | (with_reducible exact rv_pow (by decide))
  | (with_reducible refine ed_i ?_; done)
  | (with_reducible exact ea_nil)
  | (with_reducible refine ea_cons ?_ ?_)
  | (with_reducible exact eds_nil)
  | (with_reducible refine eds_cons ?_ ?_)
  | (with_reducible exact ed_dnew)
  | (with_reducible refine ed_lst ?_ (by simp only [List.length_cons, List.length_nil]; omega))
  | (with_reducible refine ed_tup ?_ (by simp only [List.length_cons, List.length_nil]; omega)))))
namespace Z
open PySem PySem.Spec PyProof.Rows L2 Evl
/-! ### texts and draws -/
def tJoin (K : PySem.W.Frag) : TE → TE → TE := tM1 (fun x xs H Q => ∃ a p, ∃ ys : List Str, x = .str a ∧ xs = [.ref p] ∧ (SqL K H p (ys.map V.str) ∨ SqT K H p (ys.map V.str)) ∧
      (ys.map (·.length)).sum + ys.length * a.length ≤ 16777216 ∧ Q (.str (Txt.join a ys)) H)
theorem toL_joinL0 : ∀ l : List Nat, TL.joinL [] (l.map fun c => [c]) = l
  | [] => rfl
  | [c] => rfl
  | c :: d :: r => by
    have ih := toL_joinL0 (d :: r)
    show [c] ++ ([] ++ TL.joinL [] ((d :: r).map fun c => [c])) = c :: d :: r
    rw [ih]
    rfl
theorem join_signs (l : List Nat) : Txt.join (SX.S []) (l.map fun c => SX.S [c]) = SX.S l := by
  have h := SX.join_S [] (l.map fun c => [c])
  rw [List.map_map] at h
  rw [toL_joinL0] at h
  exact h
theorem sum_ones (l : List Nat) : ((l.map fun c => SX.S [c]).map (·.length)).sum = l.length := by
  induction l with
  | nil => rfl
  | cons a r ih =>
    rw [List.map_cons, List.map_cons, List.sum_cons, ih, List.length_cons]
    show 1 + r.length = r.length + 1
    omega
theorem atI_emod {α : Type} (l : List α) (x : Int) (d : α) {n : Int} (hn : n = l.length) (h : 0 < n) : atI l (x % n) = some (l.getD (x % n).toNat d) := by
  have h1 := Int.emod_nonneg x (show n ≠ 0 by omega)
  have h2 := Int.emod_lt_of_pos x h
  have hl : (x % n).toNat < l.length := by omega
  have e : x % n = (((x % n).toNat : Nat) : Int) := by omega
  have g : l[(x % n).toNat]? = some (l.getD (x % n).toNat d) := by
    rw [List.getD_eq_getElem?_getD, List.getElem?_eq_getElem hl]
    rfl
  have q := atI_nat g
  rw [← e] at q
  exact q
theorem getD_mem {α : Type} {l : List α} {i : Nat} {d : α} (h : i < l.length) : l.getD i d ∈ l := by
  rw [List.getD_eq_getElem?_getD, List.getElem?_eq_getElem h]
  exact List.getElem_mem h
theorem emod_lt_len {α : Type} {l : List α} (x : Int) {n : Int} (hn : n = l.length) (h : 0 < n) : (x % n).toNat < l.length := by
  have h1 := Int.emod_nonneg x (show n ≠ 0 by omega)
  have h2 := Int.emod_lt_of_pos x h
  omega
theorem emod_bd (x : Int) {n : Int} (h : 0 < n) : 0 ≤ x % n ∧ x % n < n := ⟨Int.emod_nonneg x (by omega), Int.emod_lt_of_pos x h⟩
theorem map_str_S (l : List Nat) : (l.map fun c => SX.S [c]).map V.str = l.map fun c => V.str ⟨#[c]⟩ := by
  rw [List.map_map]
  rfl
section
variable {K : PySem.W.Frag} {σ : L2.St} {H H' : Hp} {ta tb te tx : TE} {D : Ends}
theorem ev_joinP {a : Str} {ys : List Str} {p : Addr} (ha : Ev ta σ H (.str a)) (hb : Ev tb σ H (.ref p)) (hs : H p = some (.lst (ys.map V.str))) (hl : (ys.map (·.length)).sum + ys.length * a.length ≤ 16777216) : Ev (tJoin K ta tb) σ H (.str (Txt.join a ys)) := fun H1 e Q q =>
  ha H1 e _ fun H2 e2 => ⟨⟨a, rfl⟩, hb H2 (e.trans e2) _ fun H3 e3 => ⟨a, p, ys, rfl, rfl, .inl (SqL.of (((e.trans e2).trans e3) _ _ hs)), hl, q H3 (e2.trans e3)⟩⟩
/-- "".join of a list of signs -/
theorem ev_joinSigns {l : List Nat} {p : Addr} (hb : Ev tb σ H (.ref p)) (hs : H p = some (.lst (l.map fun c => V.str ⟨#[c]⟩))) (hl : l.length ≤ 1000000) : Ev (tJoin K (tC (.str "")) tb) σ H (.str (SX.S l)) := by
  refine ev_is (ev_joinP (a := SX.S []) (ys := l.map fun c => SX.S [c]) (ev_is ev_c rfl) hb (by rw [map_str_S]; exact hs) ?_) (by rw [join_signs])
  rw [sum_ones, List.length_map]
  show l.length + l.length * 0 ≤ 16777216
  omega
/-- "abc"[x % n] -/
theorem ev_sign {w : Str} {x n : Int} (ha : Ev ta σ H (.str w)) (hb : Ev tb σ H (.int (x % n))) (hn : n = w.cps.toList.length) (h : 0 < n) (hw : w.length ≤ 100000) : Ev (tOp (rIxA K) ta tb) σ H (.str ⟨#[w.cps.toList.getD (x % n).toNat 0]⟩) :=
  ev_op ha hb (rv_itS hw (atI_emod _ x 0 hn h))
end
section
variable {K : PySem.W.Frag} {σ : L2.St} {H H' : Hp} {ta tb te tx : TE} {tl : TE} {D : Ends} {tu tz : TS}
/-- for c in a text -/
theorem s_forS {a : Str} {j : Nat} (h : Ev tl σ H (.str a)) (Pv : Nat → L2.St → Hp → Prop) (h0 : ∀ H1, Ex H H1 → Pv 0 σ H1)
    (hs : ∀ i c σ' H', a.cps.toList[i]? = some c → Pv i σ' H' → tu { D with nx := Pv (i + 1), ct := Pv (i + 1), bk := D.nx } (σ'.set j (some (.str ⟨#[c]⟩))) H') (hd : ∀ σ' H', Pv a.cps.toList.length σ' H' → D.nx σ' H') : tFor (iStr tl) (gName j) tu D σ H := by
  refine h H (Ex.refl H) _ fun H1 e => ⟨a, rfl, ?_⟩
  refine ⟨fun i m σ' H' => m = a.cps.toList.length - i ∧ i ≤ a.cps.toList.length ∧ Pv i σ' H', ⟨a.cps.toList.length, by simp, Nat.zero_le _, h0 H1 e⟩, ?_⟩
  rintro i m σ' H' ⟨rfl, hi, p⟩
  by_cases hlt : i < a.cps.toList.length
  · refine .inr ⟨show i < a.cps.size by simpa using hlt, fun σ2 H2 => Pv (i + 1) σ2 H2, fun σ2 H2 p2 => ⟨a.cps.toList.length - (i + 1), by omega, rfl, hlt, p2⟩, ?_⟩
    rintro x2 H2 ⟨rfl, c, hc, rfl⟩
    exact hs i c σ' _ (by rw [Array.getElem?_toList]; exact hc) p
  · have e0 : i = a.cps.toList.length := by omega
    subst e0
    exact .inl ⟨show a.cps.size ≤ a.cps.toList.length by simp, hd σ' H' p⟩
theorem q_forS {a : Str} {j : Nat} (h : Ev tl σ H (.str a)) (Pv : Nat → L2.St → Hp → Prop) (h0 : ∀ H1, Ex H H1 → Pv 0 σ H1)
    (hs : ∀ i c σ' H', a.cps.toList[i]? = some c → Pv i σ' H' → tu { D with nx := Pv (i + 1), ct := Pv (i + 1), bk := tz D } (σ'.set j (some (.str ⟨#[c]⟩))) H') (hd : ∀ σ' H', Pv a.cps.toList.length σ' H' → tz D σ' H') : tSeq (tFor (iStr tl) (gName j) tu) tz D σ H := s_forS (D := { D with nx := tz D }) h Pv h0 hs hd
/-- {i: v}, v no object -/
theorem ed_disp1 {i : Int} {v : V} {d : PyData} (hk : Ev ta σ H (.int i)) (hv : Ev tb σ H v) (hd : ∀ H, Dt H v d) : EvD (tDisp ((ta, tb) :: [])) σ H (.dict [(.int i, d)]) := fun H1 e0 Q q p hp => by
  show ta σ (upd H1 p (.dK [])) _
  have e1 : Ex H1 (upd H1 p (.dK [])) := Ex.new hp
  refine hk _ (e0.trans e1) _ fun H2 e2 => hv H2 ((e0.trans e1).trans e2) _ fun H3 e3 => ⟨(e2.trans e3) _ _ upd_same, [(.inl i, v)], rfl, (show 1 ≤ 15 by decide), ?_⟩
  refine q _ _ (Ex.mut ((e1.trans e2).trans e3) hp) ?_
  exact .dct (kvs := [(.inl i, v)]) (ds := [d]) upd_same (.cons (hd _) .nil)
/-- xs[i] = v -/
theorem s_setA {l : Addr} {xs : List V} {j : Nat} {v : V} (hl : H l = some (.lst xs)) (h : Ev te σ H v) (ho : Ev ta σ H (.ref l)) (hi : Ev tb σ H (.int (j : Int))) (hj : j < xs.length) (k : ∀ H1, Ex H H1 → D.nx σ (upd H1 l (.lst (xs.set j v)))) :
    tAsg te (gSub ta tb rSetA) D σ H := h H (Ex.refl H) _ fun H1 e1 => ho H1 e1 _ fun H2 e2 => hi H2 (e1.trans e2) _ fun H3 e3 =>
  .inl ⟨l, xs, (j : Int), j, rfl, rfl, ((e1.trans e2).trans e3) l _ hl, ixN_nat hj, k H3 ((e1.trans e2).trans e3)⟩
end
/-! ### _law_cell -/
def cellV (ns : List Int) (k : Nat) : Int :=
  if k < ns.length then ns.getD k 0
  else ((if 0 < ns.length then ns.getD (k % ns.length) 0 % 2147483647 else 41) + (k : Int) * k + 5) * (48271 + 16807 * (k : Int)) % 2147483629
def sp_law_cell (K : PySem.W.Frag) : Sp := fun vs H Q _ => ∃ (l : Addr) (ns : List Int) (j : Nat), vs = [.ref l, .int (j : Int)] ∧ SqL K H l (ns.map V.int) ∧ j ≤ 100000 ∧ RetV (.int (cellV ns j)) H Q
def t_law_cell (K : PySem.W.Frag) (E : XK) : TS :=
  tSeq (tIfS (tTest (tOp rLtA (tVar 1) (tCB (rLenA K) (tCons (tVar 0) tNil)))) (tRet (tOp (rIxA K) (tVar 0) (tVar 1))) tNext)
    (tSeq (tAsg (tC (.int 41)) (gName 2))
    (tSeq (tIfS (tTest (tOp rGtA (tCB (rLenA K) (tCons (tVar 0) tNil)) (tC (.int 0)))) (tAsg (tOp rModA (tOp (rIxA K) (tVar 0) (tOp rModA (tVar 1) (tCB (rLenA K) (tCons (tVar 0) tNil)))) (tC (.int 2147483647))) (gName 2)) tNext)
    (tRet (tOp rModA (tOp (rMulA K) (tOp (rAddA K) (tOp (rAddA K) (tVar 2) (tOp (rMulA K) (tVar 1) (tVar 1))) (tC (.int 5))) (tOp (rAddA K) (tC (.int 48271)) (tOp (rMulA K) (tC (.int 16807)) (tVar 1)))) (tC (.int 2147483629))))))
theorem ints_at {ns : List Int} {k : Nat} (h : k < ns.length) : atI (ns.map V.int) (k : Int) = some (.int (ns.getD k 0)) := by
  refine atI_nat ?_
  rw [List.getElem?_map, List.getElem?_eq_getElem h, List.getD_eq_getElem?_getD, List.getElem?_eq_getElem h]
  rfl
theorem r_law_cell {K : PySem.W.Frag} (vs : List V) (H : Hp) (Q : VK) (E : XK) (h : sp_law_cell K vs H Q E) : t_law_cell K E { nx := fun _ H' => Q .non H', rt := Q } (L2.start ["script", "k", "seed"] vs) H := by
  obtain ⟨l, ns, j, rfl, hl, hj, k⟩ := h
  unfold t_law_cell
  have hlen : ∀ {σ : L2.St} {H1 : Hp}, σ[0]? = some (some (V.ref l)) → Ex H H1 → Ev (tCB (rLenA K) (tCons (tVar 0) tNil)) σ H1 (.int ns.length) := fun h0 e => by
    have := ev_lenV (ta := tVar 0) (ev_var h0) (rc_lenL (K := K) (ex_l e hl))
    rw [List.length_map] at this
    exact this
  refine q_when (et_test (ev_op (ev_var rfl) (hlen rfl (Ex.refl H)) rv_lt)) (fun hb H1 e1 => ?_) (fun hb H1 e1 => ?_)
  · have hb := of_decide_eq_true hb
    refine s_ret (ev_op (ev_var rfl) (ev_var rfl) (rv_itL (ex_l e1 hl) (ints_at (show j < ns.length by omega)))) fun H2 e2 => ?_
    unfold RetV cellV at k
    rw [if_pos (by omega)] at k
    exact k H2 (e1.trans e2)
  · have hb := of_decide_eq_false hb
    refine q_asg ev_c fun H2 e2 => ?_
    refine q_ifAsg (v := .int (if 0 < ns.length then ns.getD (j % ns.length) 0 % 2147483647 else 41)) (et_test (ev_op (hlen rfl (e1.trans e2)) ev_c rv_gt)) (fun hp => ?_) (fun hp => ?_) fun H3 e3 => ?_
    · have hp := of_decide_eq_true hp
      have hp : 0 < ns.length := by omega
      rw [if_pos hp]
      refine ev_op (ev_op (ev_var rfl) (ev_is (ev_op (ev_var rfl) (hlen rfl (e1.trans e2)) (rv_mod (by omega))) (by rw [← Int.natCast_emod])) (rv_itL (ex_l (e1.trans e2) hl) (ints_at (Nat.mod_lt _ hp)))) ev_c (rv_mod (by decide))
    · have hp := of_decide_eq_false hp
      rw [if_neg (by omega)]
      rfl
    · generalize hs : (if 0 < ns.length then ns.getD (j % ns.length) 0 % 2147483647 else 41) = sd at *
      have b : 0 ≤ sd ∧ sd < 2147483647 := by
        rw [← hs]
        split
        · exact emod_bd _ (by decide)
        · decide
      have j2 : (j : Int) * j < 2 ^ 40 ∧ 0 ≤ (j : Int) * j := by
        have h1 : j * j ≤ 100000 * 100000 := Nat.mul_le_mul hj hj
        have h2 : ((j * j : Nat) : Int) = (j : Int) * j := Int.natCast_mul j j
        rw [← h2]
        omega
      refine s_ret (ev_op (ev_op (ev_op (ev_op (ev_var rfl) (ev_op (ev_var rfl) (ev_var rfl) (rv_mulI (wide_mul (a := 20) (b := 20) (by omega) (by omega) (by decide) (by decide) (by decide)))) rv_addI) ev_c rv_addI) (ev_op ev_c (ev_op ev_c (ev_var rfl) (rv_mulI (wide_mul (a := 20) (b := 20) (by omega) (by omega) (by decide) (by decide) (by decide)))) rv_addI) (rv_mulI (wide_mul (a := 50) (b := 50) (by omega) (by omega) (by decide) (by decide) (by decide)))) ev_c (rv_mod (by decide))) fun H4 e4 => ?_
      unfold RetV cellV at k
      rw [if_neg (by omega), hs] at k
      exact k H4 (((e1.trans e2).trans e3).trans e4)
section
variable {K : PySem.W.Frag} {σ : L2.St} {H H' : Hp} {ta tb te tx : TE} {E : L2.St → XK}
theorem ev_cell {l : Addr} {ns : List Int} {j : Nat} (ha : Ev ta σ H (.ref l)) (hb : Ev tb σ H (.int (j : Int))) (hl : SqL K H l (ns.map V.int)) (hj : j ≤ 100000) : Ev (tCallS (sp_law_cell K) E (tCons ta (tCons tb tNil))) σ H (.int (cellV ns j)) :=
  ev_callS (ea_cons ha (ea_cons hb ea_nil)) fun H1 e Q q E => ⟨l, ns, j, rfl, ex_l e hl, hj, fun H2 e2 => q H2 e2⟩
end
/-! ### often wanted -/
theorem lt60 {i : Int} (h : -(10 ^ 62) < i) (h2 : i < 10 ^ 62) : i.natAbs.log2 < 1000 := by
  refine PySem.Flt.log2_lt_of (by decide) (Nat.lt_trans (m := 10 ^ 62) (by omega) (by decide +kernel))
theorem name_of {l : List Nat} (h1 : 1 ≤ l.length) (h2 : l.length ≤ 8) (h : ∀ c ∈ l, c ∈ lets) : isName (SX.S l) = true := by
  unfold isName
  rw [decide_eq_true (by rw [SX.S_len]; exact ⟨h1, h2⟩), Bool.true_and]
  exact List.all_eq_true.mpr fun c hc => decide_eq_true (h c hc)
theorem name_len {z : Str} (h : isName z = true) : 1 ≤ z.length ∧ z.length ≤ 8 := by
  unfold isName at h
  exact of_decide_eq_true (Bool.and_eq_true_iff.mp h).1
theorem isFault_pair (f : Str) (w : PyData) : isFaultD (.tuple [.str f, w]) = (decide (f = ("fault" : Str)) && isNameD w) := rfl
theorem lets_lt : ∀ c ∈ lets, c < 128 := by decide +kernel
theorem name_ok {z : Str} (h : isName z = true) : okS z := by
  have := name_len h
  unfold isName at h
  refine okS_of (by omega) fun c hc => lets_lt c ?_
  exact of_decide_eq_true (List.all_eq_true.mp (Bool.and_eq_true_iff.mp h).2 c hc)
theorem okF : okS "fault" := ⟨by decide +kernel, by decide +kernel⟩
theorem okS_rep {z : Str} (h : okS z) {n : Int} (hn : z.length * n.toNat ≤ 30000) : okS (repS z n) := by
  unfold repS
  have e : z.cps.toList.length = z.length := by simp [Str.length]
  refine ⟨?_, ?_⟩
  · rw [SX.S_len, List.length_flatten, List.map_replicate, e]
    have : ∀ n : Nat, (List.replicate n z.length).sum = z.length * n := fun n => by
      induction n with
      | zero => rfl
      | succ n ih => rw [List.replicate_succ, List.sum_cons, ih, Nat.mul_succ, Nat.add_comm]
    rw [this]
    exact hn
  · show ((List.replicate n.toNat z.cps.toList).flatten).toArray.all (· < 1114112) = true
    rw [List.all_toArray]
    refine List.all_eq_true.mpr fun c hc => ?_
    obtain ⟨l, h1, h2⟩ := List.mem_flatten.mp hc
    rw [List.eq_of_mem_replicate h1] at h2
    have h3 := h.cps
    rw [← Array.all_toList] at h3
    exact List.all_eq_true.mp h3 c h2
theorem isNum_iff (x : Int) : isNumD (.int x) = decide (-(10 ^ 60) < x ∧ x < 10 ^ 60) := rfl
theorem ev_chainT {K : PySem.W.Frag} {σ : L2.St} {H : Hp} {ta tb tx : TE} {i j k : Int} (ha : Ev ta σ H (.int i)) (hb : Ev tb σ H (.int j)) (hc : Ev tx σ H (.int k)) : Ev (tChain rLtA rLtA ta tb tx) σ H (.bl (decide (i < j) && decide (j < k))) :=
  ev_chainI (g := fun a b => decide (a < b)) (g' := fun a b => decide (a < b)) ha hb hc
theorem len_is_whole {K : PySem.W.Frag} (vs : List V) (H : Hp) (Q : VK) (E : XK) (h : sp_is_whole K vs H Q E) : vs.length = 1 := by obtain ⟨_, _, rfl, _⟩ := sp1_open h; rfl
theorem len_is_name {K : PySem.W.Frag} (vs : List V) (H : Hp) (Q : VK) (E : XK) (h : sp_is_name K vs H Q E) : vs.length = 1 := by obtain ⟨_, _, rfl, _⟩ := sp1_open h; rfl
theorem len_is_fault {K : PySem.W.Frag} (vs : List V) (H : Hp) (Q : VK) (E : XK) (h : sp_is_fault K vs H Q E) : vs.length = 1 := by obtain ⟨_, _, rfl, _⟩ := sp1_open h; rfl
theorem len_is_number {K : PySem.W.Frag} (vs : List V) (H : Hp) (Q : VK) (E : XK) (h : sp_is_number K vs H Q E) : vs.length = 1 := by obtain ⟨_, _, rfl, _⟩ := sp1_open h; rfl
theorem len_is_value {K : PySem.W.Frag} (vs : List V) (H : Hp) (Q : VK) (E : XK) (h : sp_is_value K vs H Q E) : vs.length = 1 := by obtain ⟨_, _, rfl, _⟩ := sp1_open h; rfl
theorem len_law_cell {K : PySem.W.Frag} (vs : List V) (H : Hp) (Q : VK) (E : XK) (h : sp_law_cell K vs H Q E) : vs.length = 2 := by obtain ⟨_, _, _, rfl, _⟩ := h; rfl
end Z

set_option Elab.async false
set_option linter.all false
set_option autoImplicit false
set_option maxRecDepth 100000
set_option maxHeartbeats 4000000
/-! ev: what an expression comes to, by its form -/
local macro_rules | `(tactic| k_places) => `(tactic| (repeat' (first
  | (with_reducible exact ev_c)
  | (with_reducible exact ev_var rfl)
  | (with_reducible refine ev_chainLL ?_ ?_ ?_)
  | (with_reducible refine ev_chainLt ?_ ?_ ?_)
  | (with_reducible refine ev_op ?_ ?_ ?_)
  | (with_reducible refine ev_neg ?_)
  | (with_reducible refine et_test ?_)
  | (with_reducible refine et_B ?_)
  | (with_reducible refine et_not ?_)
  | (with_reducible refine et_and ?_ (fun _ => ?_))
  | (with_reducible refine et_or ?_ (fun _ => ?_))
  | (with_reducible refine ev_andV ?_ (fun _ => ?_))
  | (with_reducible refine ev_orV ?_ (fun _ => ?_))
  | (with_reducible refine ev_notV ?_)
  | (with_reducible exact rv_addI)
  | (with_reducible exact rv_subI)
  | (with_reducible exact rv_lt)
  | (with_reducible exact rv_le)
  | (with_reducible exact rv_gt)
  | (with_reducible exact rv_ge)
  | (with_reducible exact rv_isB)
  | (with_reducible exact rv_isnB)
  | (with_reducible exact rv_isN)
  | (with_reducible exact rv_isnN)
  | (with_reducible exact rv_eqS rfl)
  | (with_reducible exact rv_neS rfl)
  | (with_reducible exact rv_inStr)
  | (with_reducible exact rv_ninStr)
  | (with_reducible exact rv_mod (by first | decide | omega | assumption))
  | (with_reducible exact rv_div (by first | decide | omega | assumption))
  | (with_reducible exact rv_pow (by decide))
  | (with_reducible refine ed_i ?_; done)
  | (with_reducible exact ea_nil)
  | (with_reducible refine ea_cons ?_ ?_)
  | (with_reducible exact eds_nil)
  | (with_reducible refine eds_cons ?_ ?_)
  | (with_reducible exact ed_dnew)
  | (with_reducible refine ed_lst ?_ (by simp only [List.length_cons, List.length_nil]; omega))
  | (with_reducible refine ed_tup ?_ (by simp only [List.length_cons, List.length_nil]; omega)))))
namespace Z
open PySem PySem.Spec PyProof.Rows L2 Evl
/-! ### a caught exception that is kept by a name -/
def exA (a : Addr) (cls : Value) (d : Option Addr) : HO := .ext fun h => ∃ o : Obj, h.get? a = some o ∧ o.cls = cls ∧ o.dict = d ∧ ∃ vs, o.data = .fields vs
theorem exA_ok {P : Program} {w : World} {H : Hp} {h : Heap} {a : Addr} {cls : Value} {d : Option Addr} {o : Obj} (e : h.get? a = some o) (z : Zc cls d o) (f : ∃ vs, o.data = .fields vs) : ObjOk P w H h a (exA a cls d) :=
  ⟨⟨o, e, z.1, z.2, f⟩, ⟨o, e⟩, fun _ _ ⟨o, e, r⟩ k => ⟨o, k o e, r⟩⟩
theorem exA_at {P : Program} {w : World} {H : Hp} {h : Heap} {a : Addr} {cls : Value} {d : Option Addr} (ok : HOk P w H h) (e : H a = some (exA a cls d)) : ∃ o : Obj, h.get? a = some o ∧ o.cls = cls ∧ o.dict = d ∧ ∃ vs, o.data = .fields vs := by
  have x := ok a _ e
  exact x.1
section
variable {X : Cx} {pins : List (Addr × Obj)} {σ : L2.St} {H : Hp} {s : Shared}
/-- an object that was only known by its place is written into the heap that is told -/
theorem inv_track {a : Addr} {oe : Obj} {cls : Value} {d : Option Addr} (I : Inv X ((a, oe) :: pins) σ H s) (z : Zc cls d oe) (f : ∃ vs, oe.data = .fields vs) (h0 : X.s_0.heap.get? a = none) (hp : ∀ p ∈ X.pn ++ pins, p.1 ≠ a) : Inv X pins σ (upd H a (exA a cls d)) s := by
  obtain ⟨ga, na, nL, nF, nC⟩ := I.pin (a, oe) (List.mem_append_right _ List.mem_cons_self)
  have ga : s.heap.get? a = some oe := ga
  have na : H a = none := na
  have nL : a ≠ X.env.locals := nL
  refine ⟨I.ok, I.os, I.bare, ⟨I.base.keep, I.base.slot, fun b o e n hx => ?_, I.base.there, fun b xs e => ?_, fun b o u e => ?_, fun b ps e => ?_⟩, I.loc, I.cell, ?_, fun x c e => ?_, fun p hq => ?_, fun b o e => ?_, I.len⟩
  · have hb : b ≠ a := fun q => by rw [q, h0] at e; cases e
    rw [upd_ne hb]
    exact I.base.free b o e n hx
  · have q := I.base.tups b xs e
    rw [upd_ne (ne_of_none q na)]
    exact q
  · have q := I.base.frzs b o u e
    rw [upd_ne (ne_of_none q na)]
    exact q
  · obtain ⟨m, q⟩ := I.base.tbls b ps e
    exact ⟨m, by rw [upd_ne (ne_of_none q na)]; exact q⟩
  · rw [upd_ne (Ne.symm nL)]
    exact I.free
  · have hc : c ≠ a := fun q => by
      obtain ⟨v, o, ho, hd⟩ := I.cell x c e
      rw [q, ga] at ho
      cases ho
      obtain ⟨vs, hv⟩ := f
      rw [hv] at hd
      cases hd
    rw [upd_ne hc]
    exact I.freeC x c e
  · obtain ⟨g, n, l1, l2, l3⟩ := I.pin p (by
      rcases List.mem_append.mp hq with q | q
      · exact List.mem_append_left _ q
      · exact List.mem_append_right _ (List.mem_cons_of_mem _ q))
    refine ⟨g, ?_, l1, l2, l3⟩
    rw [upd_ne (hp p hq)]
    exact n
  · by_cases hb : b = a
    · subst hb
      rw [upd_same] at e
      cases e
      exact exA_ok ga z f
    · rw [upd_ne hb] at e
      refine (I.hok b o e).stay (fun _ _ _ q => q) (fun c q => ?_) fun c xs q => ?_
      · rw [upd_ne (ne_of_none q na)]
        exact q
      · rw [upd_ne (ne_of_none q na)]
        exact q
end
/-- what «except x as n: y = n» wishes of an exception of the body: slots i of n, j of y -/
def wKeep (K : PySem.W.Frag) (c : Value) (i j : Nat) (Wout : WX) (D : Ends) : WX := fun cls d σ H =>
  ∃ b, PySem.W.exmOne K cls c = some b ∧ (b = true → ∀ a, H a = none → D.nx (((σ.set i (some (.ref a))).set j (some (.ref a))).set i none) (upd H a (exA a cls d))) ∧ (b = false → Wout cls d σ H)
def tTryK (K : PySem.W.Frag) (c : Value) (i j : Nat) (Wout : WX) (tb : WX → TS) : TS := fun D σ H => tb (wKeep K c i j Wout D) D σ H
section
variable {X : Cx} {x n y : Str} {c : Value} {i j : Nat} {body : List Stmt} {np pos pos' py pn' pa : Pos} {tb : WX → TS} {Wout : WX}
theorem ps_try_keep (hs : X.stack = X.env :: X.outer) (hf : X.env.frame = some X.env.locals) (hex : X.ex = []) (hN : X.N.Nodup) (hi : X.N[i]? = some n) (hln : X.env.scope.names.lookup n = some .local) (hj : X.N[j]? = some y) (hly : X.env.scope.names.lookup y = some .local) (hc : Names X x c) (tk : Takes X Wout)
    (hb : ∀ (W : WX) (pn : List (Addr × Obj)) (xe : Value → Shared → Prop), Takes (X.tr pn xe) W → PassesOwn (model X.prog X.w) X.A X.env xe → PSs (X.tr pn xe) body (tb W))
    (hd1 : (n == ("__debug__" : Str)) = false := by decide) (hd2 : (n == ("__classdict__" : Str)) = false := by decide) (hsw : swapsWith (.Name n pn') (some (.Name y py)) pa.line X.env = pure false := by rfl) :
    PS X (.Try body [.ExceptHandler (some (.Name x np)) (some n) [.Assign [.Name y py] (.Name n pn') pa] pos'] [] [] pos) (tTryK X.K c i j Wout tb) := by
  refine ⟨fun pins s σ H D I h => ?_⟩
  have ok := I.ok
  have ih : i < σ.length := by rw [I.len]; exact (List.getElem?_eq_some_iff.mp hi).1
  have stk : X.A.frames = some (X.env :: X.outer) := by rw [ok.frames, hs]
  refine wpAny_Try_except (wpAny_mono ((hb (wKeep X.K c i j Wout D) (X.pn ++ pins) _ (fun u s' xx => ?caught) PassesOwn.looking).run [] s σ H D (I.toTry _) h) (fun f s1 hsp => ?thru) (fun e s1 he => he))
  case thru =>
    cases f with
    | next =>
      obtain ⟨σ', H', J, q⟩ := hsp
      exact wpAny_execs_nil ⟨σ', H', J.ofTry ok, q⟩
    | brk =>
      obtain ⟨σ', H', J, q⟩ := hsp
      exact ⟨σ', H', J.ofTry ok, q⟩
    | cont =>
      obtain ⟨σ', H', J, q⟩ := hsp
      exact ⟨σ', H', J.ofTry ok, q⟩
    | ret u =>
      obtain ⟨v, σ', H', J, r, q⟩ := hsp
      exact ⟨v, σ', H', J.ofTry ok, r, q⟩
  case caught =>
    obtain ⟨a, B, sI, pins', σ', H', cls, d, rfl, J', nb, up, sky, na, os, ag, b, hb1, hyes, hno⟩ := xx
    have J : Inv X pins σ' H' sI := J'.ofTry ok
    rw [hs] at sky nb
    show wpAny (model X.prog X.w) X.A (noteFrame (.ref a) X.env) _ _ _
    refine Sky.land Zc.steady stk hf sky fun h3 fl3 up3 => ?_
    have J3 : Inv X pins σ' H' { s' with heap := h3 } := J.landed (by rw [hs]; exact nb) fl3.1 (up.trans up3) os ag
    obtain ⟨oe3, vs3, he3, hz3, hd3⟩ := fl3.there
    have off : a ∉ frs (X.env :: X.outer) := fun hm => by
      obtain ⟨_, o', e', hnf⟩ := fl3.2.2.1.mem hm
      rw [he3] at e'
      cases e'
      exact hnf _ hd3
    have nL : a ≠ X.env.locals := fun q => off (List.mem_filterMap.mpr ⟨X.env, List.mem_cons_self, by rw [hf, q]⟩)
    have nF : a ∉ X.fs := fun hm => by
      obtain ⟨e, he, q⟩ := List.mem_filterMap.mp hm
      exact off (List.mem_filterMap.mpr ⟨e, List.mem_cons_of_mem _ he, q⟩)
    have newI : sI.heap.get? a = none := by
      cases q : sI.heap.get? a with
      | none => rfl
      | some o =>
        have z := nb a o q off
        rw [fl3.2.1] at z
        cases z
    have new0 : X.s_0.heap.get? a = none := by
      cases q : X.s_0.heap.get? a with
      | none => rfl
      | some o =>
        obtain ⟨o', e'⟩ := J.base.there a o q (by rw [hex]; simp)
        rw [newI] at e'
        cases e'
    have pinsNe : ∀ p ∈ X.pn ++ pins, p.1 ≠ a := fun p hp q => by
      have z := (J.pin p hp).1
      rw [q, newI] at z
      cases z
    have S3 := J3.suite he3 hd3 na nL nF
    refine wpAny_handleBy_cons (codeAny_handlers_test ?_) (by intro q; cases q)
    have LT : PySem.W.Looks (model X.prog X.w) h3 (typeOf (.ref a)) cls := fun A Q E s k q => wpAny_typeOf_ref (k _ _ he3) (by rw [hz3.1]; exact q)
    have LM := PySem.W.exm_one (M := model X.prog X.w) J3.kIn LT hb1
    have test : ∀ {Q : Value → Shared → Prop} {E : Value → Shared → Prop}, Q c { s' with heap := h3 } → wpAny (model X.prog X.w) (X.A.mark (some (.ref a))) (eval (.Name x np) X.env) Q E { s' with heap := h3 } := fun {Q E} q => by
      obtain ⟨hg, hdb, hm | ⟨hm, hv, hnn⟩⟩ := hc
      · exact ld_glob (X := X.suite a ((a, oe3) :: (X.pn ++ pins))) S3 hg hm q hdb
      · exact ld_blt (X := X.suite a ((a, oe3) :: (X.pn ++ pins))) S3 hg hm hv q hnn hdb
    refine test (LM.here ?_)
    cases b with
    | false =>
      show wpAny _ X.A (handleBy (.ref a) X.env []) _ _ _
      refine wpAny_handleBy_nil ?_
      obtain ⟨k1, k2, k3, oe, vs, T, oT, ts', he, hz, hd, h1, hr⟩ := id fl3
      unfold PySem.passOn
      refine wpAny_bind (wpAny_field he hd h1 ?_)
      rw [if_neg (show ¬ ((Value.ref T == Value.none) = true) from by simp)]
      have fin : wpAny (model X.prog X.w) X.A (setFlight (.ref a) X.env.frame) (fun _ s4 => wpAny (model X.prog X.w) X.A (throw (.ref a) : Sem Flow) (SP X pins D) X.xe s4) X.xe { s' with heap := h3 } := by
        rw [hf]
        refine HandSPX.setFlight_upZ fl3 fun h4 hh4 up4 => wpAny_throw (tk _ _ ?_)
        exact ⟨a, B, sI, pins, σ', H', cls, d, rfl, J, by rw [hs]; exact nb, (up.trans up3).trans up4, .inr (.inr (by rw [hs]; exact hh4)), na, os, ag, hno rfl⟩
      first
        | exact wpAny_bind (wpAny_pure (wpAny_bind fin))
        | exact wpAny_bind fin
    | true =>
      refine codeAny_handlers_suite_as (HandSPX.lands_againZ fl3 fun h4 fl4 up4 => ?_)
      have J4 : Inv X pins σ' H' { s' with heap := h4 } := J.landed (by rw [hs]; exact nb) fl4.1 ((up.trans up3).trans up4) os ag
      obtain ⟨oe4, vs4, he4, hz4, hd4⟩ := fl4.there
      have S4 := J4.suite he4 hd4 na nL nF
      refine store_ok (X := X.suite a ((a, oe4) :: (X.pn ++ pins))) (v := .ref a) S4 hN hi (.inl hln) rfl (fun s5 S5 => ?_) (.inr hln)
      have body1 : PSs (X.suite a ((a, oe4) :: (X.pn ++ pins))) [.Assign [.Name y py] (.Name n pn') pa] (tAsg (tVar i) (gName j)) :=
        pss_one (ps_set (X := X.suite a ((a, oe4) :: (X.pn ++ pins))) (i := j) hN hj (.inl hly) (pe_var hi (.inl hln) hd1 hd2) hsw (.inr hly))
      have ih' : i < σ'.length := by rw [J.len]; exact (List.getElem?_eq_some_iff.mp hi).1
      refine wpAny_mono (body1.run [] s5 _ H' { nx := fun σ6 H6 => σ6 = (σ'.set i (some (.ref a))).set j (some (.ref a)) ∧ H6 = H', rt := fun _ _ => False } S5 ⟨.ref a, by rw [List.getElem?_set_self ih'], rfl, rfl⟩) (fun f s6 hsp => ?_) (fun _ _ z => False.elim z)
      cases f with
      | next =>
        obtain ⟨σ6, H6, S6, e6, eH⟩ := hsp
        subst e6 eH
        have pa6 := S6.pin (a, oe4) (List.mem_append_left _ List.mem_cons_self)
        have K6 : Inv X ((a, oe4) :: pins) ((σ'.set i (some (.ref a))).set j (some (.ref a))) H6 s6 := by
          refine (S6.unsuite ok).pins_of fun p hp => ?_
          rcases List.mem_cons.mp hp with e | hp
          · rw [e]
            exact pa6
          · exact S6.pin p (List.mem_append_left _ (List.mem_cons_of_mem _ (List.mem_append_right _ hp)))
        refine gone_ok K6 hN hi hln fun s7 J7 => ⟨_, _, inv_track J7 hz4 ⟨_, hd4⟩ new0 pinsNe, hyes rfl a na⟩
      | brk =>
        obtain ⟨_, _, _, z⟩ := hsp
        exact False.elim z
      | cont =>
        obtain ⟨_, _, _, z⟩ := hsp
        exact False.elim z
      | ret u =>
        obtain ⟨_, _, _, _, _, z⟩ := hsp
        exact False.elim z
end
/-! ### isinstance of a kept exception -/
def rIsX (K : PySem.W.Frag) : List V → Hp → VK → Prop := fun xs H Q => ∃ (a D : Addr) (c : V) (u : Value) (b : Bool), xs = [.ref a, c] ∧ H a = some (exA a (.ref D) none) ∧ ExcC K D ∧ ClsV c u ∧ PySem.W.kitOne K (.ref D) u = some b ∧ Q (.bl b) H
theorem call_isX {X : Cx} : CallR X (.builtin "isinstance") (rIsX X.K) := by
  intro pins s σ H xs us Q I r h
  obtain ⟨a, D, c, u, b, rfl, ha, C, k, e, q⟩ := h
  obtain ⟨u1, u2, rfl, r1, r2⟩ := vals2 r
  have e2 := k.eq r2
  subst e2
  cases (show u1 = Value.ref a from r1)
  obtain ⟨⟨oc, od, oda, osl⟩, g, h1, h2, vs, h3⟩ := exA_at I.hok ha
  dsimp only at h1 h2 h3
  subst h1 h2 h3
  have J : PySem.W.InstAt s.heap a ⟨.ref D, none, .fields vs, osl⟩ D none := ⟨g, rfl, rfl, trivial⟩
  exact PySem.W.kia_one (PySem.W.handS_kitx_exc C.hg C.hk C.hs C.hd C.ha C.hn C.ht C.hm) I.kIn J e (fun z => nomatch z) fun tk => ⟨.bl b, H, I.tok tk, rfl, q⟩
/-! ### the program's classes -/
inductive Cn
  | ColsError | NoName | NoValue | NoTable | NoColumn | NoPlace | NoSize | NoText | NoRow | NoBack | TooMuch | Ruled | Ring | Nobody | Several
  | Table | Cells | Above | Group | Lookup | Mend | Sheet | View | Some | Ordered | Cut | Together | Beside | Desk | Shelf | Changes | Other
  deriving DecidableEq
/-- is D the class X, or below it: errors -/
def subE (D X : Cn) : Bool := D == X || X == .ColsError
/-- what is known of an error's class D, asked of the classes in L -/
structure ExK (K : PySem.W.Frag) (A : Cn → Addr) (L : List Cn) (D : Cn) : Prop where
  cc : ExcC K (A D)
  em : PySem.W.exmOne K (.ref (A D)) (.ref (A .ColsError)) = some true
  kt : ∀ X ∈ L, PySem.W.kitOne K (.ref (A D)) (.ref (A X)) = some (subE D X)
  kv : PySem.W.kitOne K (.ref (A D)) (.type "ValueError") = some true
theorem kit_of {K : PySem.W.Frag} {D X : Addr} {b : Bool} (i : PySem.W.isClsIn K X = true) (t : PySem.W.typeIn K (.ref X) = some (.type "type")) (s : PySem.W.subIn K (.ref D) (.ref X) = some b) (r : PySem.W.subIn K (.ref D) (.ref D) = some true) : PySem.W.kitOne K (.ref D) (.ref X) = some b := by
  unfold PySem.W.kitOne
  split
  · rename_i h
    have h : Value.ref D = Value.ref X := by simpa using h
    cases h
    rw [r] at s
    exact s
  · have e2 : ((PySem.W.clsIn K X).isSome && PySem.W.typeIn K (.ref X) == some (.type "type")) = true := by
      have h2' : (PySem.W.clsIn K X).isSome = true := i
      rw [h2', t] <;> rfl
    show (if ((PySem.W.clsIn K X).isSome && PySem.W.typeIn K (.ref X) == some (.type "type")) = true then PySem.W.subIn K (.ref D) (.ref X) else none) = some b
    rw [if_pos e2]
    exact s
theorem exm_of {K : PySem.W.Frag} {D X : Addr} {b : Bool} (h1 : PySem.W.subIn K (.ref X) (.type "BaseException") = some true) (i : PySem.W.isClsIn K X = true) (t : PySem.W.typeIn K (.ref X) = some (.type "type")) (s : PySem.W.subIn K (.ref D) (.ref X) = some b) : PySem.W.exmOne K (.ref D) (.ref X) = some b := by
  have e1 : (PySem.W.subIn K (.ref X) (.type "BaseException") == some true) = true := by rw [h1] <;> rfl
  have e2 : ((PySem.W.clsIn K X).isSome && PySem.W.typeIn K (.ref X) == some (.type "type")) = true := by
    have h2' : (PySem.W.clsIn K X).isSome = true := i
    rw [h2', t] <;> rfl
  show (if (PySem.W.subIn K (.ref X) (.type "BaseException") == some true) = true then (if ((PySem.W.clsIn K X).isSome && PySem.W.typeIn K (.ref X) == some (.type "type")) = true then PySem.W.subIn K (.ref D) (.ref X) else none) else none) = some b
  rw [if_pos e1, if_pos e2]
  exact s
theorem kitv_of {K : PySem.W.Frag} {D : Addr} (s : PySem.W.subIn K (.ref D) (.type "ValueError") = some true) : PySem.W.kitOne K (.ref D) (.type "ValueError") = some true := by
  unfold PySem.W.kitOne
  rw [if_neg (fun h => nomatch (show Value.ref D = Value.type "ValueError" by simpa using h))]
  show (if PySem.W.kitMeta "ValueError" = true then PySem.W.subIn K (.ref D) (.type "ValueError") else none) = some true
  rw [if_pos (by decide +kernel)]
  exact s
/-- raise X('..') -/
def tRaiseA (W : WX) (C : Addr) : TS := fun _ σ H => W (.ref C) none σ H
section
variable {K : PySem.W.Frag} {σ : L2.St} {H H' : Hp} {ta tb : TE} {D : Ends} {tz : TS} {A : Cn → Addr} {L : List Cn} {Dn X : Cn}
theorem rc_isX {a : Addr} (h : H a = some (exA a (.ref (A Dn)) none)) (E : ExK K A L Dn) (hX : X ∈ L) : RC (rIsX K) [.ref a, .ref (A X)] H (.bl (subE Dn X)) := fun H1 e Q q =>
  ⟨a, A Dn, .ref (A X), .ref (A X), subE Dn X, rfl, e a _ h, E.cc, .own _, E.kt X hX, q H1 (Ex.refl H1)⟩
theorem rc_isXV {a : Addr} (h : H a = some (exA a (.ref (A Dn)) none)) (E : ExK K A L Dn) : RC (rIsX K) [.ref a, .ty "ValueError"] H (.bl true) := fun H1 e Q q =>
  ⟨a, A Dn, .ty "ValueError", .type "ValueError", true, rfl, e a _ h, E.cc, .ty _, E.kv, q H1 (Ex.refl H1)⟩
theorem ev_isX {a : Addr} (ha : Ev ta σ H (.ref a)) (h : H a = some (exA a (.ref (A Dn)) none)) (E : ExK K A L Dn) (hX : X ∈ L) : Ev (tCB (rIsX K) (tCons ta (tCons (tC (.ref (A X))) tNil))) σ H (.bl (subE Dn X)) :=
  ev_cb (ea_cons ha (ea_cons ev_c ea_nil)) (rc_isX h E hX)
theorem ev_isXV {a : Addr} (ha : Ev ta σ H (.ref a)) (h : H a = some (exA a (.ref (A Dn)) none)) (E : ExK K A L Dn) : Ev (tCB (rIsX K) (tCons ta (tCons (tC (.ty "ValueError")) tNil))) σ H (.bl true) :=
  ev_cb (ea_cons ha (ea_cons ev_c ea_nil)) (rc_isXV h E)
/-- the try suite: what its body does is told for every wish W that the caught error's way on fulfils -/
theorem q_try {i j : Nat} {Wout : WX} {tbb : WX → TS} (h : ∀ W : WX, (∀ Dn : Cn, (∃ L, ExK K A L Dn) → ∀ H1, Ex H H1 → (∀ a, H1 a = none → tz D (((σ.set i (some (.ref a))).set j (some (.ref a))).set i none) (upd H1 a (exA a (.ref (A Dn)) none))) → W (.ref (A Dn)) none σ H1) → tbb W { D with nx := tz D } σ H) :
    tSeq (tTryK K (.ref (A .ColsError)) i j Wout tbb) tz D σ H :=
  h _ fun Dn ⟨L, E⟩ H1 _ k => ⟨true, E.em, fun _ a ha => k a ha, fun q => nomatch q⟩
end
end Z

set_option Elab.async false
set_option linter.all false
set_option autoImplicit false
set_option maxRecDepth 100000
set_option maxHeartbeats 4000000
/-! ev: what an expression comes to, by its form -/
local macro_rules | `(tactic| k_places) => `(tactic| (repeat' (first
  | (with_reducible exact ev_c)
  | (with_reducible exact ev_var rfl)
  | (with_reducible refine ev_chainLL ?_ ?_ ?_)
  | (with_reducible refine ev_chainLt ?_ ?_ ?_)
  | (with_reducible refine ev_op ?_ ?_ ?_)
  | (with_reducible refine ev_neg ?_)
  | (with_reducible refine et_test ?_)
  | (with_reducible refine et_B ?_)
  | (with_reducible refine et_not ?_)
  | (with_reducible refine et_and ?_ (fun _ => ?_))
  | (with_reducible refine et_or ?_ (fun _ => ?_))
  | (with_reducible refine ev_andV ?_ (fun _ => ?_))
  | (with_reducible refine ev_orV ?_ (fun _ => ?_))
  | (with_reducible refine ev_notV ?_)
  | (with_reducible exact rv_addI)
  | (with_reducible exact rv_subI)
  | (with_reducible exact rv_lt)
  | (with_reducible exact rv_le)
  | (with_reducible exact rv_gt)
  | (with_reducible exact rv_ge)
  | (with_reducible exact rv_isB)
  | (with_reducible exact rv_isnB)
  | (with_reducible exact rv_isN)
  | (with_reducible exact rv_isnN)
  | (with_reducible exact rv_eqS rfl)
  | (with_reducible exact rv_neS rfl)
  | (with_reducible exact rv_inStr)
  | (with_reducible exact rv_ninStr)
  | (with_reducible exact rv_mod (by first | decide | omega | assumption))
  | (with_reducible exact rv_div (by first | decide | omega | assumption))
  | (with_reducible exact rv_pow (by decide))
  | (with_reducible refine ed_i ?_; done)
  | (with_reducible exact ea_nil)
  | (with_reducible refine ea_cons ?_ ?_)
  | (with_reducible exact eds_nil)
  | (with_reducible refine eds_cons ?_ ?_)
  | (with_reducible exact ed_dnew)
  | (with_reducible refine ed_lst ?_ (by simp only [List.length_cons, List.length_nil]; omega))
  | (with_reducible refine ed_tup ?_ (by simp only [List.length_cons, List.length_nil]; omega)))))
namespace Z
open PySem PySem.Spec PyProof.Rows L2 Evl
/-! ### texts, faults -/
section
variable {K : PySem.W.Frag} {σ : L2.St} {H H' : Hp} {ta tb te tx : TE} {tl th : TO} {D : Ends} {tz : TS} {A : Cn → Addr}
theorem ev_slS {z : Str} {lo hi : Option Int} (h : Ev te σ H (.str z)) (h1 : EvO tl σ H lo) (h2 : EvO th σ H hi) (hz : z.length ≤ 100000) : Ev (tSl (rSlA K) te tl th) σ H (.str (cutS z lo hi)) := fun H1 e Q q =>
  h H1 e _ fun H2 e2 => h1 H2 (e.trans e2) _ fun H3 e3 => h2 H3 ((e.trans e2).trans e3) _ fun H4 e4 => .inr (.inr ⟨z, rfl, sz_of hz, q H4 ((e2.trans e3).trans e4)⟩)
theorem s_dropS {sp : Sp} {vs : List V} {E : L2.St → XK} {tas : TA} (h : EvA tas σ H vs) (k : ∀ H1, Ex H H1 → sp vs H1 (fun _ H2 => D.nx σ H2) (E σ)) : tDrop (tCallS sp E tas) D σ H := h H (Ex.refl H) _ k
theorem not_name {z : Str} {c : Nat} (h : c ∈ z.cps.toList) (hc : c ∉ lets) : isName z = false := by
  unfold isName
  have : (z.cps.toList.all fun c => decide (c ∈ lets)) = false := by
    rw [← Bool.not_eq_true]
    intro q
    exact hc (of_decide_eq_true (List.all_eq_true.mp q c h))
  rw [this, Bool.and_false]
theorem not_name_len {z : Str} (h : ¬ (1 ≤ z.length ∧ z.length ≤ 8)) : isName z = false := by
  unfold isName
  rw [decide_eq_false h, Bool.false_and]
theorem app_mem {x y : Str} {c : Nat} : c ∈ (x ++ y).cps.toList ↔ c ∈ x.cps.toList ∨ c ∈ y.cps.toList := by
  show c ∈ (x.cps ++ y.cps).toList ↔ _
  rw [Array.toList_append, List.mem_append]
theorem repS_len (z : Str) (n : Int) : (repS z n).length = z.length * n.toNat := by
  unfold repS
  have e : z.cps.toList.length = z.length := by simp [Str.length]
  rw [SX.S_len, List.length_flatten, List.map_replicate, e]
  have : ∀ n : Nat, (List.replicate n z.length).sum = z.length * n := fun n => by
    induction n with
    | zero => rfl
    | succ n ih => rw [List.replicate_succ, List.sum_cons, ih, Nat.mul_succ, Nat.add_comm]
  rw [this]
theorem okS_cut {z : Str} (h : okS z) (lo hi : Option Int) : okS (cutS z lo hi) := by
  refine ⟨Nat.le_trans (cutS_length z lo hi) h.len, ?_⟩
  have h3 := h.cps
  rw [← Array.all_toList] at h3
  show (((z.cps.toList.drop _).take _).toArray).all _ = true
  rw [List.all_toArray]
  exact List.all_eq_true.mpr fun c hc => List.all_eq_true.mp h3 c (List.mem_of_mem_drop (List.mem_of_mem_take hc))
/-- fault(word) -/
def faultD (d : PyData) : PyData := .tuple [.str "fault", d]
def sp_fault (K : PySem.W.Frag) (A : Cn → Addr) : Sp := fun vs H Q E => ∃ v d, vs = [v] ∧ Dt H v d ∧ short d ∧ (isNameD d = true → RetD (faultD d) H Q) ∧ (isNameD d = false → ∀ H1, Ex H H1 → E (.ref (A .NoName)) none H1)
def t_fault (K : PySem.W.Frag) (A : Cn → Addr) (E : XK) : TS :=
  tSeq (tIfS (tNot (tB (tCallS (sp_is_name K) (WE (fun cls d _ H => E cls d H)) (tCons (tVar 0) tNil)))) (tRaiseA (fun cls d _ H => E cls d H) (A .NoName)) tNext)
    (tRet (tTup (tCons (tC (.str "fault")) (tCons (tVar 0) tNil))))
theorem len_fault (vs : List V) (H : Hp) (Q : VK) (E : XK) (h : sp_fault K A vs H Q E) : vs.length = 1 := by obtain ⟨_, _, rfl, _⟩ := h; rfl
theorem r_fault (vs : List V) (H : Hp) (Q : VK) (E : XK) (h : sp_fault K A vs H Q E) : t_fault K A E { nx := fun _ H' => Q .non H', rt := Q } (L2.start ["word"] vs) H := by
  obtain ⟨v, d, rfl, r, hs, k1, k2⟩ := h
  unfold t_fault
  refine q_when (et_not (et_B (ev_spB (g := isNameD) (pre := short) (ed_var rfl r) hs))) (fun hb H1 e1 => k2 ?_ H1 e1) (fun hb H1 e1 => ?_)
  · cases q : isNameD d with
    | false => rfl
    | true => rw [q] at hb; cases hb
  · refine s_retD (ed_tup (eds_cons (ed_s ev_c) (eds_cons (ed_var rfl (r.ex e1)) eds_nil))) fun v2 H2 e2 r2 => k1 ?_ v2 H2 (e1.trans e2) r2
    cases q : isNameD d with
    | true => rfl
    | false => rw [q] at hb; cases hb
theorem ed_fault {d : PyData} {E : L2.St → XK} (h : EvD te σ H d) (hs : short d) (hn : isNameD d = true) : EvD (tCallS (sp_fault K A) E (tCons te tNil)) σ H (faultD d) := fun H1 e Q q =>
  h H1 e _ fun v H2 e2 r => ⟨v, d, rfl, r, hs, fun _ v3 H3 e3 r3 => q v3 H3 (e2.trans e3) r3, fun z => by rw [hn] at z; cases z⟩
/-! ### what a law asks of a caught error -/
def tIsE (K : PySem.W.Frag) (A : Cn → Addr) (j : Nat) (X : Cn) : TE := tCB (rIsX K) (tCons (tVar j) (tCons (tC (.ref (A X))) tNil))
theorem q_not3 {j : Nat} {a : Addr} {L : List Cn} {Dn X1 X2 X3 : Cn} (hv : σ[j]? = some (some (.ref a))) (h : H a = some (exA a (.ref (A Dn)) none)) (E : ExK K A L Dn) (m : X1 ∈ L ∧ X2 ∈ L ∧ X3 ∈ L) (s : (subE Dn X1 || (subE Dn X2 || subE Dn X3)) = false) (k : ∀ H1, Ex H H1 → tz D σ H1) :
    tSeq (tIfS (tOr (tB (tIsE K A j X1)) (tOr (tB (tIsE K A j X2)) (tB (tIsE K A j X3)))) (tRet (tC (.bl false))) tNext) tz D σ H :=
  q_when (b := false) (et_is (et_or (et_B (ev_isX (ev_var hv) h E m.1)) fun _ => et_or (et_B (ev_isX (ev_var hv) h E m.2.1)) fun _ => et_B (ev_isX (ev_var hv) h E m.2.2)) s) (fun q => nomatch q) fun _ H1 e1 => k H1 e1
theorem s_isE {j : Nat} {a : Addr} {L : List Cn} {Dn Y : Cn} (hv : σ[j]? = some (some (.ref a))) (h : H a = some (exA a (.ref (A Dn)) none)) (E : ExK K A L Dn) (m : Dn ∈ L ∧ Y ∈ L) (s : subE Dn Y = false) (k : ∀ H1, Ex H H1 → D.rt (.bl true) H1) :
    tRet (tAndV (tIsE K A j Dn) (tAndV (tCB (rIsX K) (tCons (tVar j) (tCons (tC (.ty "ValueError")) tNil))) (tNotV (tIsE K A j Y)))) D σ H :=
  s_ret (ev_is (ev_andV (ev_isX (ev_var hv) h E m.1) fun _ => ev_andV (ev_isXV (ev_var hv) h E) fun _ => ev_notV (ev_isX (ev_var hv) h E m.2)) (by rw [s, show subE Dn Dn = true by unfold subE; simp]; rfl)) k
/-- the whole of it -/
theorem q_tail {j : Nat} {a : Addr} {L : List Cn} {Dn X1 X2 X3 X4 X5 X6 X7 X8 X9 X10 X11 X12 Y : Cn} (hv : σ[j]? = some (some (.ref a))) (h : H a = some (exA a (.ref (A Dn)) none)) (E : ExK K A L Dn) (m : ∀ X ∈ [X1, X2, X3, X4, X5, X6, X7, X8, X9, X10, X11, X12, Dn, Y], X ∈ L)
    (s : ∀ X ∈ [X1, X2, X3, X4, X5, X6, X7, X8, X9, X10, X11, X12, Y], subE Dn X = false) (k : ∀ H1, Ex H H1 → D.rt (.bl true) H1) :
    tSeq (tIfS (tOr (tB (tIsE K A j X1)) (tOr (tB (tIsE K A j X2)) (tB (tIsE K A j X3)))) (tRet (tC (.bl false))) tNext)
    (tSeq (tIfS (tOr (tB (tIsE K A j X4)) (tOr (tB (tIsE K A j X5)) (tB (tIsE K A j X6)))) (tRet (tC (.bl false))) tNext)
    (tSeq (tIfS (tOr (tB (tIsE K A j X7)) (tOr (tB (tIsE K A j X8)) (tB (tIsE K A j X9)))) (tRet (tC (.bl false))) tNext)
    (tSeq (tIfS (tOr (tB (tIsE K A j X10)) (tOr (tB (tIsE K A j X11)) (tB (tIsE K A j X12)))) (tRet (tC (.bl false))) tNext)
    (tRet (tAndV (tIsE K A j Dn) (tAndV (tCB (rIsX K) (tCons (tVar j) (tCons (tC (.ty "ValueError")) tNil))) (tNotV (tIsE K A j Y)))))))) D σ H := by
  refine q_not3 hv h E ⟨m _ (by simp), m _ (by simp), m _ (by simp)⟩ (by rw [s _ (by simp), s _ (by simp), s _ (by simp)]; rfl) fun H1 e1 => ?_
  refine q_not3 hv (e1 a _ h) E ⟨m _ (by simp), m _ (by simp), m _ (by simp)⟩ (by rw [s _ (by simp), s _ (by simp), s _ (by simp)]; rfl) fun H2 e2 => ?_
  refine q_not3 hv ((e1.trans e2) a _ h) E ⟨m _ (by simp), m _ (by simp), m _ (by simp)⟩ (by rw [s _ (by simp), s _ (by simp), s _ (by simp)]; rfl) fun H3 e3 => ?_
  refine q_not3 hv (((e1.trans e2).trans e3) a _ h) E ⟨m _ (by simp), m _ (by simp), m _ (by simp)⟩ (by rw [s _ (by simp), s _ (by simp), s _ (by simp)]; rfl) fun H4 e4 => ?_
  exact s_isE hv ((((e1.trans e2).trans e3).trans e4) a _ h) E ⟨m _ (by simp), m _ (by simp)⟩ (s _ (by simp)) fun H5 e5 => k H5 ((((e1.trans e2).trans e3).trans e4).trans e5)
end
end Z

set_option Elab.async false
set_option linter.all false
set_option autoImplicit false
set_option maxRecDepth 100000
set_option maxHeartbeats 4000000
/-! ev: what an expression comes to, by its form -/
local macro_rules | `(tactic| k_places) => `(tactic| (repeat' (first
  | (with_reducible exact ev_c)
  | (with_reducible exact ev_var rfl)
  | (with_reducible refine ev_chainLL ?_ ?_ ?_)
  | (with_reducible refine ev_chainLt ?_ ?_ ?_)
  | (with_reducible refine ev_op ?_ ?_ ?_)
  | (with_reducible refine ev_neg ?_)
  | (with_reducible refine et_test ?_)
  | (with_reducible refine et_B ?_)
  | (with_reducible refine et_not ?_)
  | (with_reducible refine et_and ?_ (fun _ => ?_))
  | (with_reducible refine et_or ?_ (fun _ => ?_))
  | (with_reducible refine ev_andV ?_ (fun _ => ?_))
  | (with_reducible refine ev_orV ?_ (fun _ => ?_))
  | (with_reducible refine ev_notV ?_)
  | (with_reducible exact rv_addI)
  | (with_reducible exact rv_subI)
  | (with_reducible exact rv_lt)
  | (with_reducible exact rv_le)
  | (with_reducible exact rv_gt)
  | (with_reducible exact rv_ge)
  | (with_reducible exact rv_isB)
  | (with_reducible exact rv_isnB)
  | (with_reducible exact rv_isN)
  | (with_reducible exact rv_isnN)
  | (with_reducible exact rv_eqS rfl)
  | (with_reducible exact rv_neS rfl)
  | (with_reducible exact rv_inStr)
  | (with_reducible exact rv_ninStr)
  | (with_reducible exact rv_mod (by first | decide | omega | assumption))
  | (with_reducible exact rv_div (by first | decide | omega | assumption))
  | (with_reducible exact rv_pow (by decide))
  | (with_reducible refine ed_i ?_; done)
  | (with_reducible exact ea_nil)
  | (with_reducible refine ea_cons ?_ ?_)
  | (with_reducible exact eds_nil)
  | (with_reducible refine eds_cons ?_ ?_)
  | (with_reducible exact ed_dnew)
  | (with_reducible refine ed_lst ?_ (by simp only [List.length_cons, List.length_nil]; omega))
  | (with_reducible refine ed_tup ?_ (by simp only [List.length_cons, List.length_nil]; omega)))))
namespace Z
open PySem PySem.Spec PyProof.Rows L2 Evl
/-! ### methods and classes -/
def tMetS (C : Addr) (m : Str) (sp : Sp) (E : L2.St → XK) (ta : TE) (t : TA) : TE := fun σ H Q => ta σ H fun x H1 => ∃ a dx fs, x = .ref a ∧ H1 a = some (.ins C dx fs) ∧ fs.lookup m = none ∧ t σ H1 fun vs H2 => sp (x :: vs) H2 Q (E σ)
def tMakS (C : Addr) (sp : Sp) (E : L2.St → XK) (t : TA) : TE := fun σ H Q => t σ H fun vs H1 => ∀ x dx, H1 x = none → H1 dx = none → dx ≠ x →
  sp (.ref x :: vs) (upd (upd H1 dx (.own x)) x (.ins C dx [])) (fun v H2 => v = .non ∧ Q (.ref x) H2) (E σ)
/-- a method of a class -/
structure Met (P : Program) (w : World) (K : PySem.W.Frag) (mg : Str → Option Value) (base : Heap) (k : Nat) (C : Addr) (m : Str) (f : Addr) (ps : List Str) (sp : Sp) : Prop where
  ex : ∃ fd, FnOk P w K mg base (L2.CX P w) k f fd ps sp ∧ Binds K fd ps []
  mt : Meth K C m f
  cl : Cls K C
/-- a class that may be made -/
structure Mak (P : Program) (w : World) (K : PySem.W.Frag) (mg : Str → Option Value) (base : Heap) (k : Nat) (C : Addr) (c : Str) (f : Addr) (ps : List Str) (sp : Sp) : Prop where
  ex : ∃ fd, FnOk P w K mg base (L2.CX P w) k f fd ps sp ∧ Binds K fd ps []
  mak : Mk K C f
  mg : mg c = some (.ref C)
section
variable {X : Cx} {W : WX} {k : Nat} {f C : Addr} {ps : List Str} {sp : Sp} {x m : Str} {p pos apos : Pos} {e o : Expr} {es : List Expr} {t : TA} {ta : TE} {pl : Sem Bool}
theorem pe_metX {E : L2.St → XK} (M : Met X.prog X.w X.K X.mg X.base k C m f ps sp) (he : PE X o ta) (hr : Room k X.A) (hx : ∀ σ, PassesAt (L2.CX X.prog X.w) X σ (E σ)) (ha : PA X (e :: es) t)
    (hst : starEach (e :: es) X.env = (false, eval e X.env) :: starEach es X.env := by rfl) (hpl : (backTo pos (starEach es X.env)).any (·.1) = false := by rfl)
    (ht : eval (.Call (.Attribute o m apos) (e :: es) [] pos) X.env = (do
      let ov ← eval o X.env
      standAt apos.atName
      let (f, first) ← holding [ov] (getMethod ov m pl)
      callWith pos f first (backTo pos (starEach (e :: es) X.env)) (backToKw pos (keywordEach [] X.env))) := by rfl) :
    PE X (.Call (.Attribute o m apos) (e :: es) [] pos) (tMetS C m sp E ta t) := by
  obtain ⟨fd, F, b⟩ := M.ex
  refine ⟨fun pins s σ H Q I h => ?_⟩
  refine PySem.W.methodCall_KW (pl := pl) (thn (he.run pins s σ H _ I h) fun u s1 ⟨x, H1, I1, rx, a, dx, fs, ex, ea, l, q⟩ => ?_) ht
  subst ex
  obtain rfl : u = Value.ref a := rx
  refine getmeth_ok I1 ea M.cl M.mt l ?_
  refine PySem.W.callWith_K (first := [.ref a]) (h₀ := X.base) I.ok.mod.kin M.mt.kp (thn (ha.run pos pins s1 σ H1 _ I1 q) fun us s2 ⟨vs, H2, I2, r, q2⟩ => ⟨I2.kIn, ?_⟩) hst hpl
  exact run_fnS (us := .ref a :: us) (vs := .ref a :: vs) F hr b (hx σ) I2 (.cons rfl r) q2
theorem pe_met0X {E : L2.St → XK} (M : Met X.prog X.w X.K X.mg X.base k C m f ps sp) (he : PE X o ta) (hr : Room k X.A) (hx : ∀ σ, PassesAt (L2.CX X.prog X.w) X σ (E σ))
    (ht : eval (.Call (.Attribute o m apos) [] [] pos) X.env = (do
      let ov ← eval o X.env
      standAt apos.atName
      let (f, first) ← holding [ov] (getMethod ov m pl)
      callWith pos f first (backTo pos (starEach [] X.env)) (backToKw pos (keywordEach [] X.env))) := by rfl) :
    PE X (.Call (.Attribute o m apos) [] [] pos) (tMetS C m sp E ta tNil) := by
  obtain ⟨fd, F, b⟩ := M.ex
  refine ⟨fun pins s σ H Q I h => ?_⟩
  refine PySem.W.methodCall_KW (pl := pl) (thn (he.run pins s σ H _ I h) fun u s1 ⟨x, H1, I1, rx, a, dx, fs, ex, ea, l, q⟩ => ?_) ht
  subst ex
  obtain rfl : u = Value.ref a := rx
  refine getmeth_ok I1 ea M.cl M.mt l ?_
  exact PySem.W.callWith_K0 (first := [.ref a]) I1.kIn M.mt.kp (run_fnS (us := [.ref a]) (vs := [.ref a]) F hr b (hx σ) I1 (.cons rfl .nil) q)
theorem pe_met (M : Met X.prog X.w X.K X.mg X.base k C m f ps sp) (he : PE X o ta) (hr : Room k X.A) (tk : Takes X W) (ha : PA X (e :: es) t)
    (hst : starEach (e :: es) X.env = (false, eval e X.env) :: starEach es X.env := by rfl) (hpl : (backTo pos (starEach es X.env)).any (·.1) = false := by rfl)
    (ht : eval (.Call (.Attribute o m apos) (e :: es) [] pos) X.env = (do
      let ov ← eval o X.env
      standAt apos.atName
      let (f, first) ← holding [ov] (getMethod ov m pl)
      callWith pos f first (backTo pos (starEach (e :: es) X.env)) (backToKw pos (keywordEach [] X.env))) := by rfl) :
    PE X (.Call (.Attribute o m apos) (e :: es) [] pos) (tMetS C m sp (WE W) ta t) := pe_metX M he hr (fun σ => passAt tk σ) ha hst hpl ht
theorem pe_met0 (M : Met X.prog X.w X.K X.mg X.base k C m f ps sp) (he : PE X o ta) (hr : Room k X.A) (tk : Takes X W)
    (ht : eval (.Call (.Attribute o m apos) [] [] pos) X.env = (do
      let ov ← eval o X.env
      standAt apos.atName
      let (f, first) ← holding [ov] (getMethod ov m pl)
      callWith pos f first (backTo pos (starEach [] X.env)) (backToKw pos (keywordEach [] X.env))) := by rfl) :
    PE X (.Call (.Attribute o m apos) [] [] pos) (tMetS C m sp (WE W) ta tNil) := pe_met0X M he hr (fun σ => passAt tk σ) ht
theorem passB {X : Cx} (σ : L2.St) : PassesAt (L2.CX X.prog X.w) X σ E0 := fun pins H s e s' _ c => by
  obtain ⟨_, _, _, _, _, _, _, _, _, _, _, _, z⟩ := c
  exact z.elim
theorem pe_metB (M : Met X.prog X.w X.K X.mg X.base k C m f ps sp) (he : PE X o ta) (hr : Room k X.A) (ha : PA X (e :: es) t)
    (hst : starEach (e :: es) X.env = (false, eval e X.env) :: starEach es X.env := by rfl) (hpl : (backTo pos (starEach es X.env)).any (·.1) = false := by rfl)
    (ht : eval (.Call (.Attribute o m apos) (e :: es) [] pos) X.env = (do
      let ov ← eval o X.env
      standAt apos.atName
      let (f, first) ← holding [ov] (getMethod ov m pl)
      callWith pos f first (backTo pos (starEach (e :: es) X.env)) (backToKw pos (keywordEach [] X.env))) := by rfl) :
    PE X (.Call (.Attribute o m apos) (e :: es) [] pos) (tMetS C m sp (fun _ => E0) ta t) := pe_metX M he hr passB ha hst hpl ht
theorem pe_metB0 (M : Met X.prog X.w X.K X.mg X.base k C m f ps sp) (he : PE X o ta) (hr : Room k X.A)
    (ht : eval (.Call (.Attribute o m apos) [] [] pos) X.env = (do
      let ov ← eval o X.env
      standAt apos.atName
      let (f, first) ← holding [ov] (getMethod ov m pl)
      callWith pos f first (backTo pos (starEach [] X.env)) (backToKw pos (keywordEach [] X.env))) := by rfl) :
    PE X (.Call (.Attribute o m apos) [] [] pos) (tMetS C m sp (fun _ => E0) ta tNil) := pe_met0X M he hr passB ht
theorem run_mak {pins : List (Addr × Obj)} {σ : L2.St} {H : Hp} {s : Shared} {Q : VK} {us : List Value} {vs : List V} {fd : FuncData} {E : XK} (M : Mk X.K C f) (F : FnOk X.prog X.w X.K X.mg X.base (L2.CX X.prog X.w) k f fd ps sp) (hr : Room (k + 1) X.A) (hb : Binds X.K fd ps [])
    (hx : PassesAt (L2.CX X.prog X.w) X σ E) (I : Inv X pins σ H s) (r : Vals vs us)
    (h : ∀ x dx, H x = none → H dx = none → dx ≠ x → sp (.ref x :: vs) (upd (upd H dx (.own x)) x (.ins C dx [])) (fun v H2 => v = .non ∧ Q (.ref x) H2) E) :
    wpAny (model X.prog X.w) X.A (call (.ref C) us) (EP X pins σ Q) X.xe s := by
  have hq := h (s.heap.objs.size + 1) s.heap.objs.size (I.hok.fresh (Nat.le_succ _)) (I.hok.fresh (Nat.le_refl _)) (Nat.ne_of_lt (Nat.lt_succ_self _))
  have I2 := Inv.made (C := C) I
  have r2 : Vals (V.ref (s.heap.objs.size + 1) :: vs) (Value.ref (s.heap.objs.size + 1) :: us) := .cons rfl r
  have hl : (Value.ref (s.heap.objs.size + 1) :: us ++ []).length = ps.length := by
    have e := r2.length
    rw [F.len _ _ _ _ hq] at e
    rw [List.append_nil]
    exact e.symm
  have b := hb _ (Value.ref (s.heap.objs.size + 1) :: us) I2.kIn hl
  rw [List.append_nil] at b
  refine wpAny_call (make_map (f := f) I.kIn M.makes M.init (beq_iff_eq.mp M.fn) (codeAny_mono (F.run _ X.stack _ _ ⟨Value.ref (s.heap.objs.size + 1) :: us, []⟩ (Value.ref (s.heap.objs.size + 1) :: us) _ _ E (hr.make C us [])
    (I2.env0.make C us []) b r2 hq) fun r s' hq' => ?_))
  cases r with
  | error e => exact hx pins _ _ e s' I2 hq'
  | ok fl =>
    cases fl with
    | ret u =>
      obtain ⟨v, H', I3, rv, ev, q3⟩ := I2.after hq'
      subst ev
      exact ⟨rv, ⟨V.ref (s.heap.objs.size + 1), H', I3, rfl, q3⟩⟩
    | next => exact False.elim hq'
    | brk => exact False.elim hq'
    | cont => exact False.elim hq'
theorem pe_mak (M : Mak X.prog X.w X.K X.mg X.base k C x f ps sp) (hr : Room (k + 1) X.A) (tk : Takes X W) (ha : PA X (e :: es) t) (hg : Gl X x := by rfl) (hdb : (x == ("__debug__" : Str)) = false := by decide)
    (he : starEach (e :: es) X.env = (false, eval e X.env) :: starEach es X.env := by rfl) (hpl : (backTo pos (starEach es X.env)).any (·.1) = false := by rfl) :
    PE X (.Call (.Name x p) (e :: es) [] pos) (tMakS C sp (WE W) t) := by
  obtain ⟨fd, F, b⟩ := M.ex
  refine ⟨fun pins s σ H Q I h => ?_⟩
  refine wpAny_Call_Name_kw (ld_glob I hg M.mg ?_ hdb)
  refine PySem.W.callWith_K (h₀ := X.base) I.ok.mod.kin M.mak.kp (thn (ha.run pos pins s σ H _ I h) fun us s1 ⟨vs, H1, I1, r, q⟩ => ⟨I1.kIn, ?_⟩) he hpl
  exact run_mak M.mak F hr b (passAt tk σ) I1 r q
theorem pe_mak0 (M : Mak X.prog X.w X.K X.mg X.base k C x f ps sp) (hr : Room (k + 1) X.A) (tk : Takes X W) (hg : Gl X x := by rfl) (hdb : (x == ("__debug__" : Str)) = false := by decide) : PE X (.Call (.Name x p) [] [] pos) (tMakS C sp (WE W) tNil) := by
  obtain ⟨fd, F, b⟩ := M.ex
  refine ⟨fun pins s σ H Q I h => ?_⟩
  refine wpAny_Call_Name_kw (ld_glob I hg M.mg ?_ hdb)
  exact PySem.W.callWith_K0 I.kIn M.mak.kp (run_mak (us := []) M.mak F hr b (passAt tk σ) I .nil h)
end
theorem met_of {P : Program} {w : World} {K : PySem.W.Frag} {mg : Str → Option Value} {base : Heap} {st : Stmt} {x qual : Str} {f C : Addr} {fd : FuncData} {N ps : List Str} {k : Nat} {sp : Sp} (F : Fun K x qual st f fd) (S : FnScope N ps (defScope st)) (hm : Meth K C x f) (hc : Cls K C) (hb : Binds K fd ps [])
    (len : ∀ vs H Q E, sp vs H Q E → vs.length = ps.length) (t : XK → TS)
    (d : ∀ (cdv : Value) (A : Around) (outer : List Env) (s : Shared) (H : Hp) (E : XK), Room k (A.deeper (envOfC qual (defScope st) s.heap.objs.size f cdv)) → PSs (cxOf (L2.CX P w) P w K mg base N qual (defScope st) f cdv A outer s H E) (defBody st) (t E))
    (r : ∀ (vs : List V) (H : Hp) (Q : VK) (E : XK), sp vs H Q E → t E { nx := fun _ H' => Q .non H', rt := Q } (L2.start N vs) H) : Met P w K mg base (k + 1) C x f ps sp :=
  ⟨⟨fd, F.okX S len fun cdv A outer s H vs Q E hr h => ⟨t E, d cdv A outer s H E hr, r vs H Q E h⟩, hb⟩, hm, hc⟩
theorem mak_of {P : Program} {w : World} {K : PySem.W.Frag} {mg : Str → Option Value} {base : Heap} {st : Stmt} {c qual : Str} {f C : Addr} {fd : FuncData} {N ps : List Str} {k : Nat} {sp : Sp} (F : Fun K "__init__" qual st f fd) (S : FnScope N ps (defScope st)) (hm : Mk K C f) (hg : mg c = some (.ref C)) (hb : Binds K fd ps [])
    (len : ∀ vs H Q E, sp vs H Q E → vs.length = ps.length) (t : XK → TS)
    (d : ∀ (cdv : Value) (A : Around) (outer : List Env) (s : Shared) (H : Hp) (E : XK), Room k (A.deeper (envOfC qual (defScope st) s.heap.objs.size f cdv)) → PSs (cxOf (L2.CX P w) P w K mg base N qual (defScope st) f cdv A outer s H E) (defBody st) (t E))
    (r : ∀ (vs : List V) (H : Hp) (Q : VK) (E : XK), sp vs H Q E → t E { nx := fun _ H' => Q .non H', rt := Q } (L2.start N vs) H) : Mak P w K mg base (k + 1) C c f ps sp :=
  ⟨⟨fd, F.okX S len fun cdv A outer s H vs Q E hr h => ⟨t E, d cdv A outer s H E hr, r vs H Q E h⟩, hb⟩, hm, hg⟩
/-! ### fields -/
structure ClK (K : PySem.W.Frag) (C : Addr) (fs : List Str) : Prop where
  cl : Cls K C
  na : ∀ f ∈ fs, NoAttr K C f
theorem putF_len (f : Str) (v : V) : ∀ fs : List (Str × V), (putF f v fs).length ≤ fs.length + 1
  | [] => Nat.le_refl _
  | (g, x) :: r => by
    show (if g = f then (g, v) :: r else (g, x) :: putF f v r).length ≤ _
    split
    · exact Nat.le_succ _
    · exact Nat.succ_le_succ (putF_len f v r)
theorem putF_lt {f : Str} {v : V} {fs : List (Str × V)} {n m : Nat} (h : fs.length < n) (e : n + 1 = m) : (putF f v fs).length < m := by
  have := putF_len f v fs
  omega
section
variable {K : PySem.W.Frag} {σ : L2.St} {H H' : Hp} {ta tb tv : TE} {D : Ends} {tz : TS} {C a dx : Addr} {fs : List (Str × V)} {ns : List Str} {f : Str} {v : V}
theorem ev_fld (ha : Ev ta σ H (.ref a)) (hi : H a = some (.ins C dx fs)) (c : ClK K C ns) (hf : f ∈ ns) (l : fs.lookup f = some v) : Ev (tFld K ta f) σ H v := fun H1 e Q q =>
  ha H1 e _ fun H2 e2 => ⟨a, C, dx, fs, v, rfl, (e.trans e2) _ _ hi, c.cl, c.na f hf, l, q H2 e2⟩
theorem s_fld (hv : Ev tv σ H v) (ha : Ev ta σ H (.ref a)) (hi : H a = some (.ins C dx fs)) (c : ClK K C ns) (hf : f ∈ ns) (hl : fs.length < 1000) (k : ∀ H1, Ex H H1 → D.nx σ (upd H1 a (.ins C dx (putF f v fs)))) : sFld K ta tv f D σ H :=
  hv H (Ex.refl H) _ fun H1 e1 => ha H1 e1 _ fun H2 e2 => ⟨a, C, dx, fs, rfl, (e1.trans e2) _ _ hi, c.cl, c.na f hf, hl, k H2 (e1.trans e2)⟩
theorem q_fld (hv : Ev tv σ H v) (ha : Ev ta σ H (.ref a)) (hi : H a = some (.ins C dx fs)) (c : ClK K C ns) (hf : f ∈ ns) (hl : fs.length < 1000) (k : ∀ H1, Ex H H1 → tz D σ (upd H1 a (.ins C dx (putF f v fs)))) : tSeq (sFld K ta tv f) tz D σ H :=
  s_fld (D := { D with nx := tz D }) hv ha hi c hf hl k
theorem q_fldL {xs : List V} (hv : EvL tv σ H xs) (ha : Ev ta σ H (.ref a)) (hi : H a = some (.ins C dx fs)) (c : ClK K C ns) (hf : f ∈ ns) (hl : fs.length < 1000) (k : ∀ p H1, H p = none → Ex H H1 → H1 p = some (.lst xs) → tz D σ (upd H1 a (.ins C dx (putF f (.ref p) fs)))) : tSeq (sFld K ta tv f) tz D σ H :=
  hv H (Ex.refl H) _ fun p H1 hp e1 h1 => ha H1 e1 _ fun H2 e2 => ⟨a, C, dx, fs, rfl, (e1.trans e2) _ _ hi, c.cl, c.na f hf, hl, k p H2 hp (e1.trans e2) (e2 _ _ h1)⟩
/-- a method without change: a value -/
theorem ev_met {m : Str} {sp : Sp} {vs : List V} {E : L2.St → XK} {tas : TA} {z : V} (ho : Ev ta σ H (.ref a)) (hi : H a = some (.ins C dx fs)) (l : fs.lookup m = none) (h : EvA tas σ H vs) (hs : SpV sp (.ref a :: vs) H z) : Ev (tMetS C m sp E ta tas) σ H z := fun H1 e Q q =>
  ho H1 e _ fun H2 e2 => ⟨a, dx, fs, rfl, (e.trans e2) _ _ hi, l, h H2 (e.trans e2) _ fun H3 e3 => hs H3 ((e.trans e2).trans e3) Q (fun H4 e4 => q H4 ((e2.trans e3).trans e4)) (E σ)⟩
theorem el_met {m : Str} {sp : Sp} {vs : List V} {E : L2.St → XK} {tas : TA} {xs : List V} (ho : Ev ta σ H (.ref a)) (hi : H a = some (.ins C dx fs)) (l : fs.lookup m = none) (h : EvA tas σ H vs) (hs : SpL sp (.ref a :: vs) H xs) : EvL (tMetS C m sp E ta tas) σ H xs := fun H1 e Q q =>
  ho H1 e _ fun H2 e2 => ⟨a, dx, fs, rfl, (e.trans e2) _ _ hi, l, h H2 (e.trans e2) _ fun H3 e3 => hs H3 ((e.trans e2).trans e3) Q (fun p H4 hp e4 h4 => q p H4 (fresh_back (e2.trans e3) hp) ((e2.trans e3).trans e4) h4) (E σ)⟩
/-- a method, by its promise -/
theorem s_metS {m : Str} {sp : Sp} {vs : List V} {E : L2.St → XK} {tas : TA} (ho : Ev ta σ H (.ref a)) (hi : H a = some (.ins C dx fs)) (l : fs.lookup m = none) (h : EvA tas σ H vs) (k : ∀ H1, Ex H H1 → sp (.ref a :: vs) H1 (fun _ H2 => D.nx σ H2) (E σ)) : tDrop (tMetS C m sp E ta tas) D σ H :=
  ho H (Ex.refl H) _ fun H2 e2 => ⟨a, dx, fs, rfl, e2 _ _ hi, l, h H2 e2 _ fun H3 e3 => k H3 (e2.trans e3)⟩
theorem q_metS {m : Str} {sp : Sp} {vs : List V} {E : L2.St → XK} {tas : TA} (ho : Ev ta σ H (.ref a)) (hi : H a = some (.ins C dx fs)) (l : fs.lookup m = none) (h : EvA tas σ H vs) (k : ∀ H1, Ex H H1 → sp (.ref a :: vs) H1 (fun _ H2 => tz D σ H2) (E σ)) : tSeq (tDrop (tMetS C m sp E ta tas)) tz D σ H :=
  s_metS (D := { D with nx := tz D }) ho hi l h k
theorem s_metAsg {m : Str} {sp : Sp} {vs : List V} {E : L2.St → XK} {tas : TA} {i : Nat} (ho : Ev ta σ H (.ref a)) (hi : H a = some (.ins C dx fs)) (l : fs.lookup m = none) (h : EvA tas σ H vs) (k : ∀ H1, Ex H H1 → sp (.ref a :: vs) H1 (fun v H2 => D.nx (σ.set i (some v)) H2) (E σ)) : tAsg (tMetS C m sp E ta tas) (gName i) D σ H :=
  ho H (Ex.refl H) _ fun H2 e2 => ⟨a, dx, fs, rfl, e2 _ _ hi, l, h H2 e2 _ fun H3 e3 => k H3 (e2.trans e3)⟩
theorem q_metAsg {m : Str} {sp : Sp} {vs : List V} {E : L2.St → XK} {tas : TA} {i : Nat} (ho : Ev ta σ H (.ref a)) (hi : H a = some (.ins C dx fs)) (l : fs.lookup m = none) (h : EvA tas σ H vs) (k : ∀ H1, Ex H H1 → sp (.ref a :: vs) H1 (fun v H2 => tz D (σ.set i (some v)) H2) (E σ)) : tSeq (tAsg (tMetS C m sp E ta tas) (gName i)) tz D σ H :=
  s_metAsg (D := { D with nx := tz D }) ho hi l h k
theorem q_makS {sp : Sp} {vs : List V} {E : L2.St → XK} {tas : TA} {i : Nat} (h : EvA tas σ H vs) (k : ∀ H1, Ex H H1 → ∀ x dx, H1 x = none → H1 dx = none → dx ≠ x → sp (.ref x :: vs) (upd (upd H1 dx (.own x)) x (.ins C dx [])) (fun v H2 => v = .non ∧ tz D (σ.set i (some (.ref x))) H2) (E σ)) :
    tSeq (tAsg (tMakS C sp E tas) (gName i)) tz D σ H := h H (Ex.refl H) _ fun H1 e1 x dx h1 h2 h3 => k H1 e1 x dx h1 h2 h3
theorem s_makDrop {sp : Sp} {vs : List V} {E : L2.St → XK} {tas : TA} (h : EvA tas σ H vs) (k : ∀ H1, Ex H H1 → ∀ x dx, H1 x = none → H1 dx = none → dx ≠ x → sp (.ref x :: vs) (upd (upd H1 dx (.own x)) x (.ins C dx [])) (fun v H2 => v = .non ∧ D.nx σ H2) (E σ)) :
    tDrop (tMakS C sp E tas) D σ H := h H (Ex.refl H) _ fun H1 e1 x dx h1 h2 h3 => k H1 e1 x dx h1 h2 h3
end
end Z

set_option Elab.async false
set_option linter.all false
set_option autoImplicit false
set_option maxRecDepth 100000
set_option maxHeartbeats 4000000
/-! ev: what an expression comes to, by its form -/
local macro_rules | `(tactic| k_places) => `(tactic| (repeat' (first
  | (with_reducible exact ev_c)
  | (with_reducible exact ev_var rfl)
  | (with_reducible refine ev_chainLL ?_ ?_ ?_)
  | (with_reducible refine ev_chainLt ?_ ?_ ?_)
  | (with_reducible refine ev_op ?_ ?_ ?_)
  | (with_reducible refine ev_neg ?_)
  | (with_reducible refine et_test ?_)
  | (with_reducible refine et_B ?_)
  | (with_reducible refine et_not ?_)
  | (with_reducible refine et_and ?_ (fun _ => ?_))
  | (with_reducible refine et_or ?_ (fun _ => ?_))
  | (with_reducible refine ev_andV ?_ (fun _ => ?_))
  | (with_reducible refine ev_orV ?_ (fun _ => ?_))
  | (with_reducible refine ev_notV ?_)
  | (with_reducible exact rv_addI)
  | (with_reducible exact rv_subI)
  | (with_reducible exact rv_lt)
  | (with_reducible exact rv_le)
  | (with_reducible exact rv_gt)
  | (with_reducible exact rv_ge)
  | (with_reducible exact rv_isB)
  | (with_reducible exact rv_isnB)
  | (with_reducible exact rv_isN)
  | (with_reducible exact rv_isnN)
  | (with_reducible exact rv_eqS rfl)
  | (with_reducible exact rv_neS rfl)
  | (with_reducible exact rv_inStr)
  | (with_reducible exact rv_ninStr)
  | (with_reducible exact rv_mod (by first | decide | omega | assumption))
  | (with_reducible exact rv_div (by first | decide | omega | assumption))
  | (with_reducible exact rv_pow (by decide))
  | (with_reducible refine ed_i ?_; done)
  | (with_reducible exact ea_nil)
  | (with_reducible refine ea_cons ?_ ?_)
  | (with_reducible exact eds_nil)
  | (with_reducible refine eds_cons ?_ ?_)
  | (with_reducible exact ed_dnew)
  | (with_reducible refine ed_lst ?_ (by simp only [List.length_cons, List.length_nil]; omega))
  | (with_reducible refine ed_tup ?_ (by simp only [List.length_cons, List.length_nil]; omega)))))
namespace Z
open PySem PySem.Spec PyProof.Rows L2 Evl
/-! ### tables.py -/
section
variable {K : PySem.W.Frag} {σ : L2.St} {H H' : Hp} {ta tb te tx : TE} {D : Ends} {tz : TS}
theorem ed_L {xs : List V} {ds : List PyData} (h : EvL te σ H xs) (r : ∀ H', Ex H H' → DtAll H' xs ds) : EvD te σ H (.list ds) := fun H1 e Q q =>
  h H1 e _ fun p H2 _ e2 hp => q _ H2 e2 (.lst hp (r H2 (e.trans e2)))
theorem dt_ints : ∀ (ns : List Int), DtAll H (ns.map V.int) (ns.map PyData.int)
  | [] => .nil
  | n :: ns => .cons (.int n) (dt_ints ns)
theorem dt_strs : ∀ (ns : List Str), DtAll H (ns.map V.str) (ns.map PyData.str)
  | [] => .nil
  | n :: ns => .cons (.str n) (dt_strs ns)
/-- 0, 1, .. -/
def upto (n : Nat) : List Int := (List.range n).map Int.ofNat
theorem upto_len (n : Nat) : (upto n).length = n := by unfold upto; rw [List.length_map, List.length_range]
theorem el_listRg {n : Int} (h : Ev te σ H (.int n)) (hn : 0 ≤ n ∧ n ≤ 100000) : EvL (tLstRg (tRg1 te)) σ H ((upto n.toNat).map V.int) := fun H1 e Q q =>
  h H1 e _ fun H2 e2 => ⟨n, rfl, .of_le (by omega) (by omega) (by omega) (by omega), fun p hp => q p _ (fresh_back e2 hp) (e2.trans (Ex.new hp)) (by
    rw [upd_same]
    unfold rgV upto
    rw [List.map_map, Int.sub_zero]
    congr 2
    exact List.map_congr_left fun i _ => by show V.int (0 + (i : Int)) = V.int (i : Int); rw [Int.zero_add])⟩
/-- [k for k in range(n)] -/
theorem el_upto {tas : TA} {n : Int} {j : Nat} (h : EvA tas σ H [.int n]) (hn : 0 ≤ n ∧ n ≤ 40000) (hw : ∀ x, wipe ((wipe σ [j]).set j (some x)) [j] = wipe σ [j]) (hj : ∀ x, ((wipe σ [j]).set j (some x))[j]? = some (some x)) : EvL (tLc (iRng1 tas) (gName j) tYes (tVar j) [j]) σ H ((upto n.toNat).map V.int) := by
  have := el_lcR1 (t := tYes) (te := tVar j) (fun _ => true) (fun i => V.int i) h hn hw (fun i H1 _ _ => fun H2 _ Q q => q H2 (Ex.refl H2)) (fun i H1 _ _ _ => ev_var (hj _))
  refine fun H1 e Q q => this H1 e Q fun p H2 hp e2 h2 => q p H2 hp e2 ?_
  rw [h2]
  unfold given upto
  rw [List.filter_eq_self.mpr (fun _ _ => rfl), List.map_map]
  rfl
theorem el_listA {p : Addr} {xs : List V} (ha : Ev ta σ H (.ref p)) (h : SqL K H p xs) : EvL (tCB (rListA K) (tCons ta tNil)) σ H xs := fun H1 e Q q =>
  ha H1 e _ fun H2 e2 => .inl ⟨p, xs, rfl, .inl (ex_l (e.trans e2) h), fun l hl => q l _ (fresh_back e2 hl) (e2.trans (Ex.new hl)) upd_same⟩
theorem el_listK {p : Addr} {kvs : List (Key × V)} (ha : Ev ta σ H (.ref p)) (h : H p = some (.dK kvs)) : EvL (tCB (rListA K) (tCons ta tNil)) σ H (kvs.map fun kv => kV kv.1) := fun H1 e Q q =>
  ha H1 e _ fun H2 e2 => .inr ⟨p, kvs, rfl, .inl ((e.trans e2) _ _ h), fun l hl => q l _ (fresh_back e2 hl) (e2.trans (Ex.new hl)) upd_same⟩
theorem rc_lenD {p : Addr} {kvs : List (Key × V)} (h : H p = some (.dK kvs)) : RC (rLenA K) [.ref p] H (.int kvs.length) := fun H1 e _ q => .inr (.inl ⟨p, kvs, rfl, e _ _ h, q H1 (Ex.refl H1)⟩)
/-- made(..).append(v) -/
theorem q_appN {v : V} {xs : List V} (ha : EvL ta σ H xs) (h : Ev te σ H v) (hz : xs.length < 100000) (k : ∀ p H1, H p = none → Ex H H1 → H1 p = some (.lst xs) → tz D σ (upd H1 p (.lst (xs ++ [v])))) :
    tSeq (tDrop (tBM K "list" rAppend ta (tCons te tNil))) tz D σ H := ha H (Ex.refl H) _ fun p H1 hp e1 h1 =>
  ⟨Or.inl ⟨rfl, xs, sq_of h1⟩, h H1 e1 _ fun H2 e2 => ⟨p, xs, v, rfl, rfl, e2 _ _ h1, sz_lt hz, k p H2 hp (e1.trans e2) (e2 _ _ h1)⟩⟩
end
/-! is_below -/
def isBelow (n : Int) : PyData → Bool
  | .int i => decide (0 ≤ i ∧ i < n)
  | _ => false
def sp_is_below (K : PySem.W.Frag) : Sp := fun vs H Q _ => ∃ (v : V) (d : PyData) (n : Int), vs = [v, .int n] ∧ Dt H v d ∧ RetV (.bl (isBelow n d)) H Q
def t_is_below (K : PySem.W.Frag) (E : XK) : TS :=
  tRet (tAndV (tCallS (sp_is_whole K) (WE (fun cls d _ H => E cls d H)) (tCons (tVar 0) tNil)) (tChain rLeA rLtA (tC (.int 0)) (tVar 0) (tVar 1)))
theorem len_is_below {K : PySem.W.Frag} (vs : List V) (H : Hp) (Q : VK) (E : XK) (h : sp_is_below K vs H Q E) : vs.length = 2 := by obtain ⟨_, _, _, rfl, _⟩ := h; rfl
theorem r_is_below {K : PySem.W.Frag} (vs : List V) (H : Hp) (Q : VK) (E : XK) (h : sp_is_below K vs H Q E) : t_is_below K E { nx := fun _ H' => Q .non H', rt := Q } (L2.start ["thing", "many"] vs) H := by
  obtain ⟨v, d, n, rfl, r, k⟩ := h
  unfold t_is_below
  refine s_ret (v := .bl (isBelow n d)) ?_ k
  by_cases hi : ∃ i, d = .int i
  · obtain ⟨i, rfl⟩ := hi
    obtain rfl := r.i
    refine ev_is (ev_andV (ev_spB (g := isWholeD) (ed_var rfl r) trivial) fun _ => ev_chainLt ev_c (ev_var rfl) (ev_var rfl)) ?_
    show V.bl (true && (decide (0 ≤ i) && decide (i < n))) = V.bl (decide (0 ≤ i ∧ i < n))
    rw [Bool.true_and, Bool.decide_and]
  · have e1 : isBelow n d = false := by
      cases d <;> first | rfl | exact absurd ⟨_, rfl⟩ hi
    have e2 : isWholeD d = false := by
      cases d <;> first | rfl | exact absurd ⟨_, rfl⟩ hi
    rw [e1]
    refine ev_is (v := .bl (isWholeD d && false)) (ev_andV (ev_spB (ed_var rfl r) trivial) fun z => ?_) (by rw [e2]; rfl)
    rw [e2] at z
    cases z
theorem ev_below {K : PySem.W.Frag} {σ : L2.St} {H : Hp} {ta tb : TE} {E : L2.St → XK} {d : PyData} {n : Int} (h : EvD ta σ H d) (hb : Ev tb σ H (.int n)) : Ev (tCallS (sp_is_below K) E (tCons ta (tCons tb tNil))) σ H (.bl (isBelow n d)) := fun H1 e Q q =>
  h H1 e _ fun v H2 e2 r => hb H2 (e.trans e2) _ fun H3 e3 => ⟨v, d, n, rfl, r.ex e3, fun H4 e4 => q H4 ((e2.trans e3).trans e4)⟩
/-! the object -/
structure Tb where
  rows : List Int
  coming : Int
  cols : List (Str × List PyData)
/-- values: numbers and faults -/
inductive Vt (H : Hp) : V → PyData → Prop
  | int (i : Int) : Vt H (.int i) (.int i)
  | flt {a : Addr} {f w : Str} : H a = some (.tup [.str f, .str w]) → Vt H (.ref a) (.tuple [.str f, .str w])
inductive VtAll (H : Hp) : List V → List PyData → Prop
  | nil : VtAll H [] []
  | cons {v : V} {vs : List V} {d : PyData} {ds : List PyData} : Vt H v d → VtAll H vs ds → VtAll H (v :: vs) (d :: ds)
def Tup (H H' : Hp) : Prop := ∀ b xs, H b = some (.tup xs) → H' b = some (.tup xs)
theorem Vt.tup {H H' : Hp} (e : Tup H H') {v : V} {d : PyData} : Vt H v d → Vt H' v d
  | .int i => .int i
  | .flt h => .flt (e _ _ h)
theorem VtAll.tup {H H' : Hp} (e : Tup H H') : ∀ {vs : List V} {ds : List PyData}, VtAll H vs ds → VtAll H' vs ds
  | _, _, .nil => .nil
  | _, _, .cons a r => .cons (a.tup e) (r.tup e)
theorem Vt.dt {H : Hp} {v : V} {d : PyData} : Vt H v d → Dt H v d
  | .int i => .int i
  | .flt h => .tup h (.cons (.str _) (.cons (.str _) .nil))
theorem VtAll.dt {H : Hp} : ∀ {vs : List V} {ds : List PyData}, VtAll H vs ds → DtAll H vs ds
  | _, _, .nil => .nil
  | _, _, .cons a r => .cons a.dt r.dt
theorem vt_of {H : Hp} {v : V} {d : PyData} (r : Dt H v d) (h : isValueD d = true) : Vt H v d := by
  cases r with
  | int i => exact .int i
  | @tup a xs ds e r =>
    have h : (false || isFaultD (.tuple ds)) = true := h
    rw [Bool.false_or] at h
    unfold isFaultD at h
    split at h
    · rename_i f w q
      cases q
      cases r with
      | cons r1 r2 =>
        cases r2 with
        | cons r2 r3 =>
          cases r3
          cases r1
          cases w with
          | str z =>
            cases r2
            exact .flt e
          | _ => exact absurd h (by show ¬ ((decide _ && false) = true); rw [Bool.and_false]; decide)
    · cases h
  | non => cases h
  | bl b => cases h
  | str x => cases h
  | lst e r => cases h
  | dct e r => cases h
theorem VtAll.length {H : Hp} {vs : List V} {ds : List PyData} (h : VtAll H vs ds) : vs.length = ds.length := h.dt.length
inductive ColsAt (H : Hp) : List (Key × V) → List (Str × List PyData) → List Addr → Prop
  | nil : ColsAt H [] [] []
  | cons {l : Addr} {n : Str} {vs : List V} {ds : List PyData} {kvs : List (Key × V)} {cs : List (Str × List PyData)} {ls : List Addr} : H l = some (.lst vs) → VtAll H vs ds → ColsAt H kvs cs ls → ColsAt H ((.inr n, .ref l) :: kvs) ((n, ds) :: cs) (l :: ls)
/-- the table tb stands at t, its places F -/
structure TabAt (A : Cn → Addr) (F : List Addr) (H : Hp) (t : Addr) (tb : Tb) : Prop where
  ex : ∃ (dx r h : Addr) (ls : List Addr) (kvs : List (Key × V)), F = t :: r :: h :: ls ∧ F.Nodup ∧ H t = some (.ins (A .Table) dx [("rows_now", .ref r), ("coming", .int tb.coming), ("held", .ref h)]) ∧ H r = some (.lst (tb.rows.map V.int)) ∧ H h = some (.dK kvs) ∧ ColsAt H kvs tb.cols ls
theorem ColsAt.keys {H : Hp} : ∀ {kvs : List (Key × V)} {cs : List (Str × List PyData)} {ls : List Addr}, ColsAt H kvs cs ls → (kvs.map fun kv => kV kv.1) = (cs.map (·.1)).map V.str
  | _, _, _, .nil => rfl
  | _, _, _, .cons _ _ r => by rw [List.map_cons, r.keys]; rfl
theorem ColsAt.len {H : Hp} : ∀ {kvs : List (Key × V)} {cs : List (Str × List PyData)} {ls : List Addr}, ColsAt H kvs cs ls → kvs.length = cs.length ∧ ls.length = cs.length
  | _, _, _, .nil => ⟨rfl, rfl⟩
  | _, _, _, .cons _ _ r => ⟨by rw [List.length_cons, List.length_cons, r.len.1], by rw [List.length_cons, List.length_cons, r.len.2]⟩
theorem ColsAt.ex {H H' : Hp} : ∀ {kvs : List (Key × V)} {cs : List (Str × List PyData)} {ls : List Addr}, Tup H H' → (∀ l ∈ ls, ∀ o, H l = some o → H' l = some o) → ColsAt H kvs cs ls → ColsAt H' kvs cs ls
  | _, _, _, _, _, .nil => .nil
  | _, _, _, e, k, .cons h v r => .cons (k _ (List.mem_cons_self) _ h) (v.tup e) (r.ex e fun l hl => k l (List.mem_cons_of_mem _ hl))
theorem Tup.of_ex {H H' : Hp} (e : Ex H H') : Tup H H' := fun b xs h => e b _ h
theorem TabAt.keep {A : Cn → Addr} {F : List Addr} {H H' : Hp} {t : Addr} {tb : Tb} (h : TabAt A F H t tb) (e : Tup H H') (k : ∀ l ∈ F, ∀ o, H l = some o → H' l = some o) : TabAt A F H' t tb := by
  obtain ⟨dx, r, hh, ls, kvs, rfl, nd, h1, h2, h3, h4⟩ := h.ex
  exact ⟨dx, r, hh, ls, kvs, rfl, nd, k _ (by simp) _ h1, k _ (by simp) _ h2, k _ (by simp) _ h3, h4.ex e fun l hl => k l (by simp [hl])⟩
theorem TabAt.ex' {A : Cn → Addr} {F : List Addr} {H H' : Hp} {t : Addr} {tb : Tb} (h : TabAt A F H t tb) (e : Ex H H') : TabAt A F H' t tb := h.keep (.of_ex e) fun l _ o => e l o
theorem TabAt.there {A : Cn → Addr} {F : List Addr} {H : Hp} {t : Addr} {tb : Tb} (h : TabAt A F H t tb) : ∀ l ∈ F, ∃ o, H l = some o := by
  obtain ⟨dx, r, hh, ls, kvs, rfl, nd, h1, h2, h3, h4⟩ := h.ex
  have g : ∀ {kvs : List (Key × V)} {cs : List (Str × List PyData)} {ls : List Addr}, ColsAt H kvs cs ls → ∀ l ∈ ls, ∃ o, H l = some o := by
    intro kvs cs ls h
    induction h with
    | nil => intro l hl; cases hl
    | cons h v r ih =>
      intro l hl
      rcases List.mem_cons.mp hl with e | hl
      · exact ⟨_, e ▸ h⟩
      · exact ih l hl
  intro l hl
  simp only [List.mem_cons] at hl
  rcases hl with rfl | rfl | rfl | hl
  · exact ⟨_, h1⟩
  · exact ⟨_, h2⟩
  · exact ⟨_, h3⟩
  · exact g h4 l hl
/-- all but F stays -/
def Fr (F : List Addr) (H H' : Hp) : Prop := ∀ b o, H b = some o → b ∉ F → H' b = some o
theorem Fr.of_ex {F : List Addr} {H H' : Hp} (e : Ex H H') : Fr F H H' := fun b o h _ => e b o h
theorem Fr.trans {F : List Addr} {H H1 H2 : Hp} (a : Fr F H H1) (b : Fr F H1 H2) : Fr F H H2 := fun x o h n => b x o (a x o h n) n
theorem TabAt.off {A : Cn → Addr} {F : List Addr} {H : Hp} {t : Addr} {tb : Tb} (h : TabAt A F H t tb) {p : Addr} (hp : H p = none) : p ∉ F := fun q => by
  obtain ⟨o, e⟩ := h.there p q
  rw [hp] at e
  cases e
theorem Tup.upd {H : Hp} {p : Addr} {xs : List V} {o : HO} (h : H p = some (.lst xs)) : Tup H (upd H p o) := fun b ys e => by
  rw [upd_ne (fun q => by rw [q, h] at e; cases e)]
  exact e
theorem TabAt.upd {A : Cn → Addr} {F : List Addr} {H : Hp} {t : Addr} {tb : Tb} (h : TabAt A F H t tb) {p : Addr} {xs : List V} {o : HO} (hp : p ∉ F) (hl : H p = some (.lst xs)) : TabAt A F (L2.upd H p o) t tb :=
  h.keep (.upd hl) fun l hl o e => by rw [upd_ne (show l ≠ p from fun q => hp (by rw [← q]; exact hl))]; exact e
abbrev tabF : List Str := ["rows_now", "coming", "held"]
/-! __init__, many, numbers, columns -/
def sp_Table_init (K : PySem.W.Frag) (A : Cn → Addr) : Sp := fun vs H Q E => ∃ (x dx : Addr) (v : V) (d : PyData), vs = [.ref x, v] ∧ H x = some (.ins (A .Table) dx []) ∧ Dt H v d ∧
  (∀ n : Nat, d = .int n → n < 31 → ∀ H' r h, Fr [x] H H' → H r = none → H h = none → TabAt A [x, r, h] H' x ⟨upto n, n, []⟩ → Q .non H') ∧ (isBelow 31 d = false → ∀ H1, Ex H H1 → E (.ref (A .NoSize)) none H1)
def t_Table_init (K : PySem.W.Frag) (A : Cn → Addr) (E : XK) : TS :=
  tSeq (tIfS (tNot (tB (tCallS (sp_is_below K) (WE (fun cls d _ H => E cls d H)) (tCons (tVar 1) (tCons (tOp (rAddA K) (tC (.int 30)) (tC (.int 1))) tNil))))) (tRaiseA (fun cls d _ H => E cls d H) (A .NoSize)) tNext)
    (tSeq (sFld K (tVar 0) (tLstRg (tRg1 (tVar 1))) "rows_now")
    (tSeq (sFld K (tVar 0) (tVar 1) "coming")
    (sFld K (tVar 0) tDNewK "held")))
section
variable {K : PySem.W.Frag} {A : Cn → Addr} {H H' : Hp} {Q : VK} {E : XK} {vs : List V}
theorem len_Table_init (vs : List V) (H : Hp) (Q : VK) (E : XK) (h : sp_Table_init K A vs H Q E) : vs.length = 2 := by obtain ⟨_, _, _, _, rfl, _⟩ := h; rfl
theorem r_Table_init (c : ClK K (A .Table) tabF) (vs : List V) (H : Hp) (Q : VK) (E : XK) (h : sp_Table_init K A vs H Q E) : t_Table_init K A E { nx := fun _ H' => Q .non H', rt := Q } (L2.start ["self", "many"] vs) H := by
  obtain ⟨x, dx, v, d, rfl, hx, r, k1, k2⟩ := h
  unfold t_Table_init
  refine q_when (et_not (et_B (ev_below (ed_var rfl r) (ev_is (ev_op ev_c ev_c rv_addI) rfl)))) (fun hb H1 e1 => k2 ?_ H1 e1) (fun hb H1 e1 => ?_)
  · cases q : isBelow 31 d with
    | false => rfl
    | true => rw [show (30 + 1 : Int) = 31 from rfl, q] at hb; cases hb
  · have hb : isBelow 31 d = true := by
      cases q : isBelow 31 d with
      | true => rfl
      | false => rw [show (30 + 1 : Int) = 31 from rfl, q] at hb; cases hb
    obtain ⟨i, rfl, hi⟩ : ∃ i, d = .int i ∧ 0 ≤ i ∧ i < 31 := by
      cases d <;> first | (simp [isBelow] at hb; done) | exact ⟨_, rfl, of_decide_eq_true hb⟩
    obtain rfl := r.i
    obtain ⟨n, rfl⟩ : ∃ n : Nat, i = n := ⟨i.toNat, by omega⟩
    -- self.rows_now
    refine q_fldL (el_listRg (n := (n : Int)) (ev_var rfl) (by omega)) (ev_var rfl) (e1 _ _ hx) c (by decide) (by decide) fun rw_ H2 nr e2 hr => ?_
    have xr : x ≠ rw_ := fun q => by rw [← q, e1 _ _ hx] at nr; cases nr
    -- self.coming
    refine q_fld (v := .int n) (ev_var rfl) (ev_var rfl) upd_same c (by decide) (putF_lt (n := 999) (by decide) rfl) fun H3 e3 => ?_
    -- self.held
    show tDNewK _ _ _
    intro hd nh
    have nh1 : H3 hd = none := by
      cases q : H3 hd with
      | none => rfl
      | some o =>
        by_cases hx' : hd = x
        · rw [hx', upd_same] at nh; cases nh
        · rw [upd_ne hx', q] at nh; cases nh
    have hne : hd ≠ x := fun q => by rw [q, upd_same] at nh; cases nh
    refine ⟨_, rfl, x, A .Table, dx, _, rfl, (by rw [upd_ne hne.symm, upd_same]), c.cl, c.na _ (by decide), (putF_lt (putF_lt (n := 998) (by decide) rfl) rfl), ?_⟩
    have f1 : Fr [x] H H3 := fun b o h n => e3 b o (by rw [upd_ne (by simpa using n)]; exact e2 b o (e1 b o h))
    have nh0 : H hd = none := by
      cases q : H hd with
      | none => rfl
      | some o => rw [f1 hd o q (by simpa using hne)] at nh1; cases nh1
    refine k1 n rfl (by omega) _ rw_ hd (fun b o h nb => ?_) (fresh_back e1 nr) nh0 ⟨dx, rw_, hd, [], [], rfl, ?_, ?_, ?_, ?_, .nil⟩
    · have nb' : b ≠ x := by simpa using nb
      have bh : b ≠ hd := fun q => by rw [q, nh0] at h; cases h
      rw [upd_ne nb', upd_ne bh, upd_ne nb']
      exact f1 b o h nb
    · have hr2 : H3 rw_ = some (.lst ((upto n).map V.int)) := e3 _ _ (by rw [upd_ne xr.symm]; exact hr)
      have rh : rw_ ≠ hd := fun q => by rw [q, nh1] at hr2; cases hr2
      simp [xr, hne.symm, rh]
    · rw [upd_same]
      rfl
    · have hr2 : H3 rw_ = some (.lst ((upto n).map V.int)) := e3 _ _ (by rw [upd_ne xr.symm]; exact hr)
      have rh : rw_ ≠ hd := fun q => by rw [q, nh1] at hr2; cases hr2
      rw [upd_ne xr.symm, upd_ne rh, upd_ne xr.symm]
      exact hr2
    · rw [upd_ne hne, upd_same]
def sp_Table_many (K : PySem.W.Frag) (A : Cn → Addr) : Sp := fun vs H Q _ => ∃ F t tb, vs = [.ref t] ∧ TabAt A F H t tb ∧ RetV (.int tb.rows.length) H Q
def sp_Table_numbers (K : PySem.W.Frag) (A : Cn → Addr) : Sp := fun vs H Q _ => ∃ F t tb, vs = [.ref t] ∧ TabAt A F H t tb ∧ RetL (tb.rows.map V.int) H Q
def sp_Table_columns (K : PySem.W.Frag) (A : Cn → Addr) : Sp := fun vs H Q _ => ∃ F t tb, vs = [.ref t] ∧ TabAt A F H t tb ∧ RetL ((tb.cols.map (·.1)).map V.str) H Q
def t_Table_many (K : PySem.W.Frag) (E : XK) : TS := tRet (tCB (rLenA K) (tCons (tFld K (tVar 0) "rows_now") tNil))
def t_Table_numbers (K : PySem.W.Frag) (E : XK) : TS := tRet (tCB (rListA K) (tCons (tFld K (tVar 0) "rows_now") tNil))
def t_Table_columns (K : PySem.W.Frag) (E : XK) : TS := tRet (tCB (rListA K) (tCons (tFld K (tVar 0) "held") tNil))
theorem len_Table_many (vs : List V) (H : Hp) (Q : VK) (E : XK) (h : sp_Table_many K A vs H Q E) : vs.length = 1 := by obtain ⟨_, _, _, rfl, _⟩ := h; rfl
theorem len_Table_numbers (vs : List V) (H : Hp) (Q : VK) (E : XK) (h : sp_Table_numbers K A vs H Q E) : vs.length = 1 := by obtain ⟨_, _, _, rfl, _⟩ := h; rfl
theorem len_Table_columns (vs : List V) (H : Hp) (Q : VK) (E : XK) (h : sp_Table_columns K A vs H Q E) : vs.length = 1 := by obtain ⟨_, _, _, rfl, _⟩ := h; rfl
theorem r_Table_many (c : ClK K (A .Table) tabF) (vs : List V) (H : Hp) (Q : VK) (E : XK) (h : sp_Table_many K A vs H Q E) : t_Table_many K E { nx := fun _ H' => Q .non H', rt := Q } (L2.start ["self"] vs) H := by
  obtain ⟨F, t, tb, rfl, T, k⟩ := h
  obtain ⟨dx, r, hh, ls, kvs, rfl, nd, h1, h2, h3, h4⟩ := T.ex
  have := rc_lenL (K := K) (SqL.of h2)
  rw [List.length_map] at this
  exact s_ret (ev_lenV (ev_fld (ev_var rfl) h1 c (by decide) rfl) this) k
theorem r_Table_numbers (c : ClK K (A .Table) tabF) (vs : List V) (H : Hp) (Q : VK) (E : XK) (h : sp_Table_numbers K A vs H Q E) : t_Table_numbers K E { nx := fun _ H' => Q .non H', rt := Q } (L2.start ["self"] vs) H := by
  obtain ⟨F, t, tb, rfl, T, k⟩ := h
  obtain ⟨dx, r, hh, ls, kvs, rfl, nd, h1, h2, h3, h4⟩ := T.ex
  exact s_retL (el_listA (ev_fld (ev_var rfl) h1 c (by decide) rfl) (SqL.of h2)) fun p H2 hp e2 hl => k p H2 hp e2 hl
theorem r_Table_columns (c : ClK K (A .Table) tabF) (vs : List V) (H : Hp) (Q : VK) (E : XK) (h : sp_Table_columns K A vs H Q E) : t_Table_columns K E { nx := fun _ H' => Q .non H', rt := Q } (L2.start ["self"] vs) H := by
  obtain ⟨F, t, tb, rfl, T, k⟩ := h
  obtain ⟨dx, r, hh, ls, kvs, rfl, nd, h1, h2, h3, h4⟩ := T.ex
  have := el_listK (K := K) (ta := tFld K (tVar 0) "held") (σ := L2.start ["self"] [.ref t]) (ev_fld (ev_var rfl) h1 c (by decide) rfl) h3
  rw [h4.keys] at this
  exact s_retL this fun p H2 hp e2 hl => k p H2 hp e2 hl
/-! their calls -/
variable {σ : L2.St} {ta : TE} {F : List Addr} {t : Addr} {tb : Tb} {Ex0 : L2.St → XK}
theorem TabAt.ins (T : TabAt A F H t tb) : ∃ dx fs, H t = some (.ins (A .Table) dx fs) ∧ fs.map (·.1) = tabF := by
  obtain ⟨dx, r, hh, ls, kvs, rfl, nd, h1, h2, h3, h4⟩ := T.ex
  exact ⟨dx, _, h1, rfl⟩
theorem look_none {fs : List (Str × V)} {m : Str} (h : fs.map (·.1) = tabF) (hm : m ∉ tabF) : fs.lookup m = none := by
  have : ∀ fs : List (Str × V), m ∉ fs.map (·.1) → fs.lookup m = none := by
    intro fs
    induction fs with
    | nil => intro _; rfl
    | cons a r ih =>
      intro h
      rw [List.map_cons, List.mem_cons, not_or] at h
      obtain ⟨n, v⟩ := a
      rw [List.lookup_cons, show (m == n) = false from beq_eq_false_iff_ne.mpr h.1]
      exact ih h.2
  exact this fs (by rw [h]; exact hm)
theorem ev_many (T : TabAt A F H t tb) (ho : Ev ta σ H (.ref t)) : Ev (tMetS (A .Table) "many" (sp_Table_many K A) Ex0 ta tNil) σ H (.int tb.rows.length) := by
  obtain ⟨dx, fs, h1, hf⟩ := T.ins
  exact ev_met ho h1 (look_none hf (by decide)) ea_nil fun H1 e Q q E => ⟨F, t, tb, rfl, T.ex' e, fun H2 e2 => q H2 e2⟩
theorem el_numbers (T : TabAt A F H t tb) (ho : Ev ta σ H (.ref t)) : EvL (tMetS (A .Table) "numbers" (sp_Table_numbers K A) Ex0 ta tNil) σ H (tb.rows.map V.int) := by
  obtain ⟨dx, fs, h1, hf⟩ := T.ins
  exact el_met ho h1 (look_none hf (by decide)) ea_nil fun H1 e Q q E => ⟨F, t, tb, rfl, T.ex' e, fun p H2 hp e2 h => q p H2 hp e2 h⟩
theorem el_columns (T : TabAt A F H t tb) (ho : Ev ta σ H (.ref t)) : EvL (tMetS (A .Table) "columns" (sp_Table_columns K A) Ex0 ta tNil) σ H ((tb.cols.map (·.1)).map V.str) := by
  obtain ⟨dx, fs, h1, hf⟩ := T.ins
  exact el_met ho h1 (look_none hf (by decide)) ea_nil fun H1 e Q q E => ⟨F, t, tb, rfl, T.ex' e, fun p H2 hp e2 h => q p H2 hp e2 h⟩
/-- x = Table(n) -/
theorem q_table {D : Ends} {tz : TS} {n : Nat} {i : Nat} (ha : Ev ta σ H (.int n)) (hn : n < 31) (k : ∀ x r h H2, Ex H H2 → H x = none → H r = none → H h = none → TabAt A [x, r, h] H2 x ⟨upto n, n, []⟩ → tz D (σ.set i (some (.ref x))) H2) :
    tSeq (tAsg (tMakS (A .Table) (sp_Table_init K A) Ex0 (tCons ta tNil)) (gName i)) tz D σ H := by
  refine q_makS (ea_cons ha ea_nil) fun H1 e1 x dx nx nd ne => ?_
  refine ⟨x, dx, .int n, .int n, rfl, upd_same, .int _, fun m hm _ H' r h fr hr hh T => ⟨rfl, ?_⟩, fun hb => ?_⟩
  · have e : (n : Int) = m := by
      have := PyData.int.inj hm
      exact this
    have e : n = m := by omega
    subst e
    have back : ∀ {b : Addr}, upd (upd H1 dx (.own x)) x (.ins (A .Table) dx []) b = none → H1 b = none := fun {b} q => by
      by_cases q1 : b = x
      · rw [q1]; exact nx
      · by_cases q2 : b = dx
        · rw [q2]; exact nd
        · rw [upd_ne q1, upd_ne q2] at q
          exact q
    refine k x r h H' (fun b o hb => fr b o ?_ ?_) (fresh_back e1 nx) (fresh_back e1 (back hr)) (fresh_back e1 (back hh)) T
    · have h1 := e1 b o hb
      have b1 : b ≠ x := fun q => by rw [q, nx] at h1; cases h1
      have b2 : b ≠ dx := fun q => by rw [q, nd] at h1; cases h1
      rw [upd_ne b1, upd_ne b2]
      exact h1
    · intro q
      have h1 := e1 b o hb
      rw [List.mem_singleton.mp q, nx] at h1
      cases h1
  · exfalso
    have : isBelow 31 (.int n) = true := decide_eq_true (by omega)
    rw [this] at hb
    cases hb
end
end Z

set_option Elab.async false
set_option linter.all false
set_option autoImplicit false
set_option maxRecDepth 100000
set_option maxHeartbeats 4000000
/-! ev: what an expression comes to, by its form -/
local macro_rules | `(tactic| k_places) => `(tactic| (repeat' (first
  | (with_reducible exact ev_c)
  | (with_reducible exact ev_var rfl)
  | (with_reducible refine ev_chainLL ?_ ?_ ?_)
  | (with_reducible refine ev_chainLt ?_ ?_ ?_)
  | (with_reducible refine ev_op ?_ ?_ ?_)
  | (with_reducible refine ev_neg ?_)
  | (with_reducible refine et_test ?_)
  | (with_reducible refine et_B ?_)
  | (with_reducible refine et_not ?_)
  | (with_reducible refine et_and ?_ (fun _ => ?_))
  | (with_reducible refine et_or ?_ (fun _ => ?_))
  | (with_reducible refine ev_andV ?_ (fun _ => ?_))
  | (with_reducible refine ev_orV ?_ (fun _ => ?_))
  | (with_reducible refine ev_notV ?_)
  | (with_reducible exact rv_addI)
  | (with_reducible exact rv_subI)
  | (with_reducible exact rv_lt)
  | (with_reducible exact rv_le)
  | (with_reducible exact rv_gt)
  | (with_reducible exact rv_ge)
  | (with_reducible exact rv_isB)
  | (with_reducible exact rv_isnB)
  | (with_reducible exact rv_isN)
  | (with_reducible exact rv_isnN)
  | (with_reducible exact rv_eqS rfl)
  | (with_reducible exact rv_neS rfl)
  | (with_reducible exact rv_inStr)
  | (with_reducible exact rv_ninStr)
  | (with_reducible exact rv_mod (by first | decide | omega | assumption))
  | (with_reducible exact rv_div (by first | decide | omega | assumption))
  | (with_reducible exact rv_pow (by decide))
  | (with_reducible refine ed_i ?_; done)
  | (with_reducible exact ea_nil)
  | (with_reducible refine ea_cons ?_ ?_)
  | (with_reducible exact eds_nil)
  | (with_reducible refine eds_cons ?_ ?_)
  | (with_reducible exact ed_dnew)
  | (with_reducible refine ed_lst ?_ (by simp only [List.length_cons, List.length_nil]; omega))
  | (with_reducible refine ed_tup ?_ (by simp only [List.length_cons, List.length_nil]; omega)))))
--TDEFS _law_refused law
namespace Z
open PySem PySem.Spec PyProof.Rows L2 Evl
def sp_law_refused (K : PySem.W.Frag) : Sp := fun vs H Q _ => ∃ v d, vs = [v] ∧ Dt H v d ∧ isBelow 31 d = false ∧ RetV (.bl true) H Q
def spLaw (K : PySem.W.Frag) : Sp := fun vs H Q _ => ∃ (a : Addr) (ns : List Int), vs = [.ref a] ∧ SqL K H a (ns.map V.int) ∧ ns.length ≤ 63 ∧ ∀ H', Q (.bl true) H'
abbrev Lk : List Cn := [.Nobody, .NoBack, .NoColumn, .NoPlace, .NoRow, .NoName, .NoTable, .NoText, .NoValue, .Ring, .Ruled, .Several, .NoSize, .TooMuch]
def t_law_refused (K : PySem.W.Frag) (A : Cn → Addr) (E : XK) : TS :=
  tSeq (tAsg (tC .non) (gName 1))
    (tSeq (tTryK K (.ref (A .ColsError)) 2 1 (fun cls d _ H => E cls d H) (fun W => tDrop (tMakS (A .Table) (sp_Table_init K A) (WE W) (tCons (tVar 0) tNil))))
    (tSeq (tIfS (tOr (tB (tCB (rIsX K) (tCons (tVar 1) (tCons (tC (.ref (A .Nobody))) tNil)))) (tOr (tB (tCB (rIsX K) (tCons (tVar 1) (tCons (tC (.ref (A .NoBack))) tNil)))) (tB (tCB (rIsX K) (tCons (tVar 1) (tCons (tC (.ref (A .NoColumn))) tNil)))))) (tRet (tC (.bl false))) tNext)
    (tSeq (tIfS (tOr (tB (tCB (rIsX K) (tCons (tVar 1) (tCons (tC (.ref (A .NoPlace))) tNil)))) (tOr (tB (tCB (rIsX K) (tCons (tVar 1) (tCons (tC (.ref (A .NoRow))) tNil)))) (tB (tCB (rIsX K) (tCons (tVar 1) (tCons (tC (.ref (A .NoName))) tNil)))))) (tRet (tC (.bl false))) tNext)
    (tSeq (tIfS (tOr (tB (tCB (rIsX K) (tCons (tVar 1) (tCons (tC (.ref (A .NoTable))) tNil)))) (tOr (tB (tCB (rIsX K) (tCons (tVar 1) (tCons (tC (.ref (A .NoText))) tNil)))) (tB (tCB (rIsX K) (tCons (tVar 1) (tCons (tC (.ref (A .NoValue))) tNil)))))) (tRet (tC (.bl false))) tNext)
    (tSeq (tIfS (tOr (tB (tCB (rIsX K) (tCons (tVar 1) (tCons (tC (.ref (A .Ring))) tNil)))) (tOr (tB (tCB (rIsX K) (tCons (tVar 1) (tCons (tC (.ref (A .Ruled))) tNil)))) (tB (tCB (rIsX K) (tCons (tVar 1) (tCons (tC (.ref (A .Several))) tNil)))))) (tRet (tC (.bl false))) tNext)
    (tRet (tAndV (tCB (rIsX K) (tCons (tVar 1) (tCons (tC (.ref (A .NoSize))) tNil))) (tAndV (tCB (rIsX K) (tCons (tVar 1) (tCons (tC (.ty "ValueError")) tNil))) (tNotV (tCB (rIsX K) (tCons (tVar 1) (tCons (tC (.ref (A .TooMuch))) tNil))))))))))))
def t_law (K : PySem.W.Frag) (A : Cn → Addr) (E : XK) : TS :=
  tSeq (tAsg (tOp rModA (tCallS (sp_law_cell K) (WE (fun cls d _ H => E cls d H)) (tCons (tVar 0) (tCons (tC (.int 0)) tNil))) (tC (.int 31))) (gName 1))
    (tSeq (tAsg (tOp (rAddA K) (tOp rPowA (tC (.int 10)) (tC (.int 59))) (tOp rModA (tCallS (sp_law_cell K) (WE (fun cls d _ H => E cls d H)) (tCons (tVar 0) (tCons (tC (.int 1)) tNil))) (tOp rPowA (tC (.int 10)) (tC (.int 59))))) (gName 2))
    (tSeq (tAsg (tLst (tCons (tC (.int 31)) (tCons (tUn rNegA (tC (.int 1))) (tCons (tVar 2) (tCons (tOp rSubA (tC (.int 0)) (tVar 2)) (tCons (tC (.bl true)) (tCons (tC (.bl false)) (tCons (tC .non) (tCons (tCB rStrA (tCons (tVar 1) tNil)) (tCons (tLst (tCons (tVar 1) tNil)) (tCons (tTup (tCons (tVar 1) tNil)) tNil))))))))))) (gName 3))
    (tSeq (tIfS (tNot (tB (tCallS (sp_law_refused K) (WE (fun cls d _ H => E cls d H)) (tCons (tOp (rIxA K) (tVar 3) (tOp rModA (tCallS (sp_law_cell K) (WE (fun cls d _ H => E cls d H)) (tCons (tVar 0) (tCons (tC (.int 2)) tNil))) (tC (.int 10)))) tNil)))) (tRet (tC (.bl false))) tNext)
    (tSeq (tAsg (tMakS (A .Table) (sp_Table_init K A) (WE (fun cls d _ H => E cls d H)) (tCons (tVar 1) tNil)) (gName 4))
    (tSeq (tAsg (tMakS (A .Table) (sp_Table_init K A) (WE (fun cls d _ H => E cls d H)) (tCons (tOp rModA (tOp (rAddA K) (tVar 1) (tC (.int 1))) (tC (.int 31))) tNil)) (gName 5))
    (tSeq (tAsg (tMetS (A .Table) "numbers" (sp_Table_numbers K A) (WE (fun cls d _ H => E cls d H)) (tVar 4) tNil) (gName 6))
    (tSeq (tAsg (tMetS (A .Table) "many" (sp_Table_many K A) (WE (fun cls d _ H => E cls d H)) (tVar 4) tNil) (gName 7))
    (tSeq (tIfS (tOr (tNot (tB (tCB (rIsiA K) (tCons (tVar 7) (tCons (tC (.ty "int")) tNil))))) (tOr (tB (tCB (rIsiA K) (tCons (tVar 7) (tCons (tC (.ty "bool")) tNil)))) (tTest (tOp (rNeA K) (tVar 7) (tVar 1))))) (tRet (tC (.bl false))) tNext)
    (tSeq (tIfS (tOr (tNot (tB (tCB (rIsiA K) (tCons (tVar 6) (tCons (tC (.ty "list")) tNil))))) (tOr (tTest (tOp (rNeA K) (tVar 6) (tLc (iRng1 (tCons (tVar 1) tNil)) (gName 8) tYes (tVar 8) [8]))) (tTest (tOp (rNeA K) (tMetS (A .Table) "columns" (sp_Table_columns K A) (WE (fun cls d _ H => E cls d H)) (tVar 4) tNil) (tLst tNil))))) (tRet (tC (.bl false))) tNext)
    (tSeq (tDrop (tBM K "list" rAppend (tVar 6) (tCons (tC (.int 7)) tNil)))
    (tSeq (tDrop (tBM K "list" rAppend (tMetS (A .Table) "columns" (sp_Table_columns K A) (WE (fun cls d _ H => E cls d H)) (tVar 4) tNil) (tCons (tC (.str "a")) tNil)))
    (tSeq (tIfS (tOr (tTest (tOp (rNeA K) (tMetS (A .Table) "numbers" (sp_Table_numbers K A) (WE (fun cls d _ H => E cls d H)) (tVar 4) tNil) (tLc (iRng1 (tCons (tVar 1) tNil)) (gName 8) tYes (tVar 8) [8]))) (tOr (tTest (tOp (rNeA K) (tMetS (A .Table) "columns" (sp_Table_columns K A) (WE (fun cls d _ H => E cls d H)) (tVar 4) tNil) (tLst tNil))) (tTest (tOp (rNeA K) (tMetS (A .Table) "many" (sp_Table_many K A) (WE (fun cls d _ H => E cls d H)) (tVar 4) tNil) (tVar 1))))) (tRet (tC (.bl false))) tNext)
    (tRet (tAndV (tOp (rEqA K) (tMetS (A .Table) "many" (sp_Table_many K A) (WE (fun cls d _ H => E cls d H)) (tVar 5) tNil) (tOp rModA (tOp (rAddA K) (tVar 1) (tC (.int 1))) (tC (.int 31)))) (tOp (rEqA K) (tMetS (A .Table) "numbers" (sp_Table_numbers K A) (WE (fun cls d _ H => E cls d H)) (tVar 5) tNil) (tLc (iRng1 (tCons (tOp rModA (tOp (rAddA K) (tVar 1) (tC (.int 1))) (tC (.int 31))) tNil)) (gName 8) tYes (tVar 8) [8]))))))))))))))))

theorem len_law_refused {K : PySem.W.Frag} (vs : List V) (H : Hp) (Q : VK) (E : XK) (h : sp_law_refused K vs H Q E) : vs.length = 1 := by obtain ⟨_, _, rfl, _⟩ := h; rfl
theorem len_law {K : PySem.W.Frag} (vs : List V) (H : Hp) (Q : VK) (E : XK) (h : spLaw K vs H Q E) : vs.length = 1 := by obtain ⟨_, _, rfl, _⟩ := h; rfl
theorem r_law_refused {K : PySem.W.Frag} {A : Cn → Addr} (hE : ExK K A Lk .NoSize) (vs : List V) (H : Hp) (Q : VK) (E : XK) (h : sp_law_refused K vs H Q E) : t_law_refused K A E { nx := fun _ H' => Q .non H', rt := Q } (L2.start ["many", "caught", "e"] vs) H := by
  obtain ⟨v, d, rfl, r, hn, k⟩ := h
  unfold t_law_refused
  refine q_asg ev_c fun H1 e1 => ?_
  refine q_try fun W hW => ?_
  refine s_makDrop (ea_cons (ev_var rfl) ea_nil) fun H2 e2 x dx nx nd ne => ?_
  have e3 : Ex H2 (upd (upd H2 dx (.own x)) x (.ins (A .Table) dx [])) := fun b o h => by
    rw [upd_ne (fun q => by rw [q, nx] at h; cases h), upd_ne (fun q => by rw [q, nd] at h; cases h)]
    exact h
  refine ⟨x, dx, v, d, rfl, upd_same, r.ex ((e1.trans e2).trans e3), fun n hd hn' => (by exfalso; subst hd; rw [show isBelow 31 (.int n) = true from decide_eq_true (by omega)] at hn; cases hn), fun _ H4 e4 => ?_⟩
  refine hW .NoSize ⟨_, hE⟩ H4 (e2.trans (e3.trans e4)) fun a ha => ?_
  exact q_tail (Dn := .NoSize) rfl upd_same hE (by decide) (by decide) fun H5 e5 => k H5 ((e1.trans e2).trans ((e3.trans e4).trans ((Ex.new ha).trans e5)))
def odds (m : Nat) (far : Int) : List PyData := [.int 31, .int (-1), .int far, .int (0 - far), .bool true, .bool false, .none, .str (toString (m : Int)), .list [.int m], .tuple [.int m]]
theorem odds_not {m : Nat} {far : Int} (hf : 10 ^ 59 ≤ far) {d : PyData} (h : d ∈ odds m far) : isBelow 31 d = false := by
  have nn : ∀ y : Int, ¬ (0 ≤ y ∧ y < 31) → isBelow 31 (.int y) = false := fun y hy => decide_eq_false hy
  simp only [odds, List.mem_cons, List.not_mem_nil, or_false] at h
  rcases h with rfl | rfl | rfl | rfl | rfl | rfl | rfl | rfl | rfl | rfl
  · exact nn _ (by omega)
  · exact nn _ (by omega)
  · exact nn _ (by omega)
  · exact nn _ (by omega)
  all_goals rfl
theorem okI (n : Nat) : okD (.list ((upto n).map PyData.int)) := by
  show okNs 9 _
  refine okNs_iff.mpr fun d hd => ?_
  obtain ⟨i, -, rfl⟩ := List.mem_map.mp hd
  trivial
theorem eqvI (n : List Int) : PyData.eqv (.list (n.map PyData.int)) (.list (n.map PyData.int)) = true := by
  rw [PyData.eqv]
  induction n with
  | nil => rfl
  | cons a r ih => rw [List.map_cons, PyData.eqvAll, ih]; simp [PyData.eqv]
theorem r_law {K : PySem.W.Frag} {A : Cn → Addr} (vs : List V) (H : Hp) (Q : VK) (E : XK) (h : spLaw K vs H Q E) : t_law K A E { nx := fun _ H' => Q .non H', rt := Q } (L2.start ["script", "many", "far", "odd", "one", "other", "found", "count", "k"] vs) H := by
  obtain ⟨l, ns, rfl, hl, -, k⟩ := h
  unfold t_law
  refine q_asg (ev_op (ev_cell (j := 0) (ev_var rfl) ev_c hl (by decide)) ev_c (rv_mod (by decide))) fun H1 e1 => ?_
  have bm := emod_bd (cellV ns 0) (n := 31) (by decide)
  obtain ⟨m, hm⟩ : ∃ m : Nat, cellV ns 0 % 31 = m := ⟨(cellV ns 0 % 31).toNat, by omega⟩
  rw [hm]
  have hm31 : m < 31 := by omega
  clear hm bm
  have bf := emod_bd (cellV ns 1) (n := 10 ^ 59) (by decide +kernel)
  refine q_asg (v := .int (10 ^ 59 + cellV ns 1 % 10 ^ 59)) (ev_is (ev_op (ev_op ev_c ev_c (rv_pow (by decide))) (ev_op (ev_cell (j := 1) (ev_var rfl) ev_c (ex_l e1 hl) (by decide)) (ev_is (ev_op ev_c ev_c (rv_pow (by decide))) rfl) (rv_mod (j := 10 ^ 59) (by decide +kernel))) rv_addI) rfl) fun H2 e2 => ?_
  have hf : 10 ^ 59 ≤ 10 ^ 59 + cellV ns 1 % 10 ^ 59 := by omega
  generalize 10 ^ 59 + cellV ns 1 % 10 ^ 59 = far at hf
  have hlog : ((m : Int).natAbs).log2 < 1920 := Nat.lt_trans (PySem.Flt.log2_lt_of (by decide) (show (m : Int).natAbs < 2 ^ 10 by omega)) (by decide)
  refine q_asgD (ed_lst (eds_cons (ed_i ev_c) (eds_cons (ed_i (ev_neg ev_c)) (eds_cons (ed_i (ev_var rfl)) (eds_cons (ed_i (ev_op ev_c (ev_var rfl) rv_subI)) (eds_cons (ed_b ev_c) (eds_cons (ed_b ev_c) (eds_cons (ed_n ev_c) (eds_cons (ed_s (ev_cb (ea_cons (ev_var rfl) ea_nil) (rc_str hlog))) (eds_cons (ed_lst (eds_cons (ed_i (ev_var rfl)) eds_nil)) (eds_cons (ed_tup (eds_cons (ed_i (ev_var rfl)) eds_nil)) eds_nil))))))))))) fun v3 H3 e3 r3 => ?_
  have E3 := (e1.trans e2).trans e3
  have hd := getD_mem (d := PyData.none) (emod_lt_len (l := odds m far) (cellV ns 2) (n := 10) rfl (by decide))
  have on := odds_not hf hd
  refine q_when (b := false) (et_not (a := true) (et_B ?_)) (fun hb => nomatch hb) fun _ H4 e4 => ?_
  · intro H5 e5 Q1 q1
    refine ed_ixL (d := (odds m far).getD (cellV ns 2 % 10).toNat .none) (ed_var rfl r3) (ev_op (ev_cell (j := 2) (ev_var rfl) ev_c (ex_l E3 hl) (by decide)) ev_c (rv_mod (by decide))) (atI_emod (odds m far) _ .none (n := 10) rfl (by decide)) H5 e5 _ fun v6 H6 e6 r6 => ?_
    exact ⟨v6, _, rfl, r6, on, fun H7 e7 => q1 H7 (e6.trans e7)⟩
  refine q_table (ev_var rfl) hm31 fun x r h H5 e5 nx nr nh T1 => ?_
  have hm2 : ((m : Int) + 1) % 31 = ((m + 1) % 31 : Nat) := by omega
  have hm3 : (m + 1) % 31 < 31 := Nat.mod_lt _ (by decide)
  generalize (m + 1) % 31 = m2 at hm2 hm3
  have em2 : ∀ {σ : L2.St} {H : Hp}, σ[1]? = some (some (V.int m)) → Ev (tOp rModA (tOp (rAddA K) (tVar 1) (tC (.int 1))) (tC (.int 31))) σ H (.int m2) := fun h => ev_is (ev_op (ev_op (ev_var h) ev_c rv_addI) ev_c (rv_mod (by decide))) (by rw [hm2])
  refine q_table (em2 rfl) hm3 fun x2 r2 h2 H6 e6 nx2 nr2 nh2 T2 => ?_
  have T1 := T1.ex' e6
  refine q_asgL (el_numbers T1 (ev_var rfl)) fun p H7 np e7 hp => ?_
  have op1 := T1.off np
  have op2 := T2.off np
  have T1 := T1.ex' e7
  have T2 := T2.ex' e7
  refine q_asg (ev_many T1 (ev_var rfl)) fun H8 e8 => ?_
  rw [show (upto m).length = m from upto_len m]
  refine q_when (b := false) (et_is (et_or (et_not (et_B (ev_isi (n := "int") (ev_var rfl) rfl))) fun _ => et_or (et_B (ev_isi (n := "int") (ev_var rfl) rfl)) fun _ => et_test (ev_op (ev_var rfl) (ev_var rfl) (rv_neS rfl))) (by simp; decide)) (fun hb => nomatch hb) fun _ H9 e9 => ?_
  have hp9 := (e8.trans e9) _ _ hp
  have T1 := T1.ex' (e8.trans e9)
  have T2 := T2.ex' (e8.trans e9)
  have ed_k : ∀ {σ : L2.St} {H : Hp} {n : Nat} {ta : TE}, n < 31 → Ev ta σ H (.int n) → (∀ x, wipe ((wipe σ [8]).set 8 (some x)) [8] = wipe σ [8]) → (∀ x, ((wipe σ [8]).set 8 (some x))[8]? = some (some x)) → EvD (tLc (iRng1 (tCons ta tNil)) (gName 8) tYes (tVar 8) [8]) σ H (.list ((upto n).map PyData.int)) := fun {σ H n ta} hn h h1 h2 =>
    ed_L (el_upto (n := (n : Int)) (ea_cons h ea_nil) (by omega) h1 h2) fun H' _ => dt_ints _
  have cols : ∀ {σ : L2.St} {H : Hp} {F : List Addr} {t : Addr} {n : Nat} {Ex0 : L2.St → XK} {ta : TE}, TabAt A F H t ⟨upto n, n, []⟩ → Ev ta σ H (.ref t) → EvD (tMetS (A .Table) "columns" (sp_Table_columns K A) Ex0 ta tNil) σ H (.list []) := fun T h => ed_L (el_columns T h) fun _ _ => .nil
  have nums : ∀ {σ : L2.St} {H : Hp} {F : List Addr} {t : Addr} {n : Nat} {Ex0 : L2.St → XK} {ta : TE}, TabAt A F H t ⟨upto n, n, []⟩ → Ev ta σ H (.ref t) → EvD (tMetS (A .Table) "numbers" (sp_Table_numbers K A) Ex0 ta tNil) σ H (.list ((upto n).map PyData.int)) := fun T h => ed_L (el_numbers T h) fun _ _ => dt_ints _
  have dp : Dt H9 (.ref p) (.list ((upto m).map PyData.int)) := .lst hp9 (dt_ints _)
  have oE : okD (.list []) := trivial
  refine q_when (b := false) (et_is (et_or (et_not (et_B (ev_isD (ed_var rfl dp)))) fun _ => et_or (et_test (ev_neD (ed_var rfl dp) (ed_k hm31 (ev_var rfl) (fun _ => rfl) (fun _ => rfl)) (okI m) (okI m))) fun _ => et_test (ev_neD (cols T1 (ev_var rfl)) (ed_lst eds_nil) oE oE)) (by rw [eqvI]; rfl)) (fun hb => nomatch hb) fun _ H10 e10 => ?_
  -- found.append(7)
  refine q_app (e10 _ _ hp9) (ev_var rfl) ev_c (by rw [List.length_map, upto_len]; omega) fun H11 e11 => ?_
  have E11 := e10.trans e11
  have hp11 := E11 _ _ hp9
  have T1 := (T1.ex' E11).upd (o := .lst ((upto m).map V.int ++ [V.int 7])) op1 hp11
  have T2 := (T2.ex' E11).upd (o := .lst ((upto m).map V.int ++ [V.int 7])) op2 hp11
  -- one.columns().append('a')
  refine q_appN (el_columns T1 (ev_var rfl)) ev_c (show 0 < 100000 by decide) fun q H12 nq e12 hq => ?_
  have oq1 := T1.off nq
  have oq2 := T2.off nq
  have T1 := (T1.ex' e12).upd (o := .lst ([] ++ [V.str "a"])) oq1 hq
  have T2 := (T2.ex' e12).upd (o := .lst ([] ++ [V.str "a"])) oq2 hq
  refine q_when (b := false) (et_is (et_or (et_test (ev_neD (nums T1 (ev_var rfl)) (ed_k hm31 (ev_var rfl) (fun _ => rfl) (fun _ => rfl)) (okI m) (okI m))) fun _ => et_or (et_test (ev_neD (cols T1 (ev_var rfl)) (ed_lst eds_nil) oE oE)) fun _ => et_test (ev_op (ev_many T1 (ev_var rfl)) (ev_var rfl) (rv_neS rfl))) (by rw [eqvI, show (upto m).length = m from upto_len m]; simp; decide)) (fun hb => nomatch hb) fun _ H13 e13 => ?_
  have T2 := T2.ex' e13
  refine s_ret (v := .bl true) (ev_is (ev_andV (ev_op (ev_many T2 (ev_var rfl)) (em2 rfl) (rv_eqS rfl)) fun _ => ev_eqD (nums T2 (ev_var rfl)) (ed_k hm3 (em2 rfl) (fun _ => rfl) (fun _ => rfl)) (okI m2) (okI m2)) (by rw [eqvI, show (upto m2).length = m2 from upto_len m2]; simp)) fun H14 _ => k H14
end Z


set_option Elab.async false
set_option linter.all false
set_option autoImplicit false
set_option maxRecDepth 100000
set_option maxHeartbeats 4000000
namespace Z
open PySem PySem.Spec PyProof.Rows L2 Evl
def top (i : Nat) : Stmt := PySem.Challenge.pw_lazycols_k05_tables_made.main.body.getD i (.Pass ⟨0, 0, 0, 0⟩)
abbrev s_is_whole : Stmt := top 19
abbrev N_is_whole : List Str := ["thing"]
theorem sc_is_whole : FnScope N_is_whole ["thing"] (defScope s_is_whole) := ⟨rfl, rfl, rfl, by decide +kernel, rfl, by decide +kernel, by decide +kernel⟩
abbrev s_is_below : Stmt := top 26
abbrev N_is_below : List Str := ["thing", "many"]
theorem sc_is_below : FnScope N_is_below ["thing", "many"] (defScope s_is_below) := ⟨rfl, rfl, rfl, by decide +kernel, rfl, by decide +kernel, by decide +kernel⟩
abbrev s_Table_init : Stmt := inClass (top 27) 0
abbrev N_Table_init : List Str := ["self", "many"]
theorem sc_Table_init : FnScope N_Table_init ["self", "many"] (defScope s_Table_init) := ⟨rfl, rfl, rfl, by decide +kernel, rfl, by decide +kernel, by decide +kernel⟩
abbrev s_Table_many : Stmt := inClass (top 27) 1
abbrev N_Table_many : List Str := ["self"]
theorem sc_Table_many : FnScope N_Table_many ["self"] (defScope s_Table_many) := ⟨rfl, rfl, rfl, by decide +kernel, rfl, by decide +kernel, by decide +kernel⟩
abbrev s_Table_numbers : Stmt := inClass (top 27) 2
abbrev N_Table_numbers : List Str := ["self"]
theorem sc_Table_numbers : FnScope N_Table_numbers ["self"] (defScope s_Table_numbers) := ⟨rfl, rfl, rfl, by decide +kernel, rfl, by decide +kernel, by decide +kernel⟩
abbrev s_Table_columns : Stmt := inClass (top 27) 3
abbrev N_Table_columns : List Str := ["self"]
theorem sc_Table_columns : FnScope N_Table_columns ["self"] (defScope s_Table_columns) := ⟨rfl, rfl, rfl, by decide +kernel, rfl, by decide +kernel, by decide +kernel⟩
abbrev s_law_cell : Stmt := top 29
abbrev N_law_cell : List Str := ["script", "k", "seed"]
theorem sc_law_cell : FnScope N_law_cell ["script", "k"] (defScope s_law_cell) := ⟨rfl, rfl, rfl, by decide +kernel, rfl, by decide +kernel, by decide +kernel⟩
abbrev s_law_refused : Stmt := top 30
abbrev N_law_refused : List Str := ["many", "caught", "e"]
theorem sc_law_refused : FnScope N_law_refused ["many"] (defScope s_law_refused) := ⟨rfl, rfl, rfl, by decide +kernel, rfl, by decide +kernel, by decide +kernel⟩
abbrev s_law : Stmt := top 31
abbrev N_law : List Str := ["script", "many", "far", "odd", "one", "other", "found", "count", "k"]
theorem sc_law : FnScope N_law ["script"] (defScope s_law) := ⟨rfl, rfl, rfl, by decide +kernel, rfl, by decide +kernel, by decide +kernel⟩
structure Txt (K : PySem.W.Frag) (mg : Str → Option Value) (A : Cn → Addr) : Prop where
  n_ValueError : mg "ValueError" = none
  n_bool : mg "bool" = none
  n_int : mg "int" = none
  n_isinstance : mg "isinstance" = none
  n_len : mg "len" = none
  n_list : mg "list" = none
  n_range : mg "range" = none
  n_str : mg "str" = none
  g_MOST_ROWS : ∃ t, mg "MOST_ROWS" = some (.int 30 t)
  g_ColsError : mg "ColsError" = some (.ref (A .ColsError))
  g_NoName : mg "NoName" = some (.ref (A .NoName))
  g_NoValue : mg "NoValue" = some (.ref (A .NoValue))
  g_NoTable : mg "NoTable" = some (.ref (A .NoTable))
  g_NoColumn : mg "NoColumn" = some (.ref (A .NoColumn))
  g_NoPlace : mg "NoPlace" = some (.ref (A .NoPlace))
  g_NoSize : mg "NoSize" = some (.ref (A .NoSize))
  g_NoText : mg "NoText" = some (.ref (A .NoText))
  g_NoRow : mg "NoRow" = some (.ref (A .NoRow))
  g_NoBack : mg "NoBack" = some (.ref (A .NoBack))
  g_TooMuch : mg "TooMuch" = some (.ref (A .TooMuch))
  g_Ruled : mg "Ruled" = some (.ref (A .Ruled))
  g_Ring : mg "Ring" = some (.ref (A .Ring))
  g_Nobody : mg "Nobody" = some (.ref (A .Nobody))
  g_Several : mg "Several" = some (.ref (A .Several))
  g_Table : mg "Table" = some (.ref (A .Table))
  fx_Table : ClK K (A .Table) ["rows_now", "coming", "held"]
  x_NoSize : PySem.W.excIn K (A .NoSize) [.type "ValueError", .type "Exception", .type "BaseException", .type "object"] "ValueError.__new__" = true
  k_NoSize : PySem.W.keepIn K (.ref (A .NoSize)) = true
  b_NoSize : PySem.W.subIn K (.ref (A .NoSize)) (.type "BaseException") = some true
  t_NoSize : PySem.W.typeIn K (.ref (A .NoSize)) = some (.type "type")
  ek_NoSize : ExK K A Lk .NoSize
section
variable {P : Program} {w : World} {K : PySem.W.Frag} {mg : Str → Option Value} {base : Heap} {A : Cn → Addr} {cdv : Value} {Ar : Around} {outer : List Env} {s : Shared} {H : Hp} {E : XK}
theorem d_is_whole (T : Txt K mg A) {f : Addr}  (hr : Room 0 (Ar.deeper (envOfC "is_whole" (defScope s_is_whole) s.heap.objs.size f cdv))) :
    PSs (cxOf (L2.CX P w) P w K mg base N_is_whole "is_whole" (defScope s_is_whole) f cdv Ar outer s H E) (defBody s_is_whole) (t_is_whole K E) := by
  have hu := hu65 hr
  exact pss_one (ps_ret (pe_and (pe_callB call_isiA (by rfl) T.n_isinstance (by decide +kernel) (pa_cons (pv 0) (pa_cons (pe_bltn (v := .ty "int") (by rfl) T.n_int (by decide +kernel) rfl) pa_nil))) (pe_one (pe_not (pe_callB call_isiA (by rfl) T.n_isinstance (by decide +kernel) (pa_cons (pv 0) (pa_cons (pe_bltn (v := .ty "bool") (by rfl) T.n_bool (by decide +kernel) rfl) pa_nil)))))))
theorem cal_is_whole (T : Txt K mg A) {f : Addr} {fd : FuncData}  (F : Fun K "is_whole" "is_whole" s_is_whole f fd) (hm : mg "is_whole" = some (.ref f)) (hb : Binds K fd ["thing"] []) :
    Cal P w K mg base 1 "is_whole" f ["thing"] (sp_is_whole K) := cal_of F sc_is_whole hm hb len_is_whole (t_is_whole K) (fun cdv Ar outer s H E hr => d_is_whole T  hr) (fun vs H Q E h => r_is_whole vs H Q E h)
theorem d_is_below (T : Txt K mg A) {f : Addr} {f_is_whole : Addr} (G_is_whole : Cal P w K mg base 1 "is_whole" f_is_whole ["thing"] (sp_is_whole K)) (hr : Room 1 (Ar.deeper (envOfC "is_below" (defScope s_is_below) s.heap.objs.size f cdv))) :
    PSs (cxOf (L2.CX P w) P w K mg base N_is_below "is_below" (defScope s_is_below) f cdv Ar outer s H E) (defBody s_is_below) (t_is_below K E) := by
  have hu := hu65 hr
  have tk : Takes (cxOf (L2.CX P w) P w K mg base N_is_below "is_below" (defScope s_is_below) f cdv Ar outer s H E) (fun cls d _ H => E cls d H) := takes_of rfl rfl rfl rfl
  exact pss_one (ps_ret (pe_and (pe_cal G_is_whole (hr.mono (by decide)) tk (pa_cons (pv 0) pa_nil)) (pe_one (pe_chain op_le op_lt pe_int (pv 0) (pv 1)))))
theorem cal_is_below (T : Txt K mg A) {f : Addr} {fd : FuncData} {f_is_whole : Addr} (G_is_whole : Cal P w K mg base 1 "is_whole" f_is_whole ["thing"] (sp_is_whole K)) (F : Fun K "is_below" "is_below" s_is_below f fd) (hm : mg "is_below" = some (.ref f)) (hb : Binds K fd ["thing", "many"] []) :
    Cal P w K mg base 2 "is_below" f ["thing", "many"] (sp_is_below K) := cal_of F sc_is_below hm hb len_is_below (t_is_below K) (fun cdv Ar outer s H E hr => d_is_below T G_is_whole hr) (fun vs H Q E h => r_is_below vs H Q E h)
theorem d_Table_init (T : Txt K mg A) {f : Addr} {f_is_below : Addr} (G_is_below : Cal P w K mg base 2 "is_below" f_is_below ["thing", "many"] (sp_is_below K)) (hr : Room 2 (Ar.deeper (envOfC "Table.__init__" (defScope s_Table_init) s.heap.objs.size f cdv))) :
    PSs (cxOf (L2.CX P w) P w K mg base N_Table_init "Table.__init__" (defScope s_Table_init) f cdv Ar outer s H E) (defBody s_Table_init) (t_Table_init K A E) := by
  have hu := hu65 hr
  have tk : Takes (cxOf (L2.CX P w) P w K mg base N_Table_init "Table.__init__" (defScope s_Table_init) f cdv Ar outer s H E) (fun cls d _ H => E cls d H) := takes_of rfl rfl rfl rfl
  exact pss_cons (ps_if (pt_not (pt_val (pe_cal G_is_below (hr.mono (by decide)) tk (pa_cons (pv 1) (pa_cons (pe_op op_addA (pe_glob (v := .int 30) rfl (Exists.choose_spec T.g_MOST_ROWS) ⟨_, rfl⟩) pe_int) pa_nil))))) (pss_one (ps_raise rfl tk (pmk_own PySem.F.excBase_ValueError T.x_NoSize T.g_NoSize T.k_NoSize (raises_own T.b_NoSize T.t_NoSize) rfl))) pss_nil)
    (pss_cons (ps_fld (pv 0) (pe_listRg rfl (by rfl) T.n_list (prg_1 (by rfl) T.n_range (pv 1))) rfl)
    (pss_cons (ps_fld (pv 0) (pv 1) rfl)
    (pss_one (ps_fld (pv 0) pe_dnewK rfl))))
theorem cal_Table_init (T : Txt K mg A) {f : Addr} {fd : FuncData} {f_is_below : Addr} (G_is_below : Cal P w K mg base 2 "is_below" f_is_below ["thing", "many"] (sp_is_below K)) (F : Fun K "__init__" "Table.__init__" s_Table_init f fd) (hm : Mk K (A .Table) f) (hg : mg "Table" = some (.ref (A .Table))) (hb : Binds K fd ["self", "many"] []) :
    Mak P w K mg base 3 (A .Table) "Table" f ["self", "many"] (sp_Table_init K A) := mak_of F sc_Table_init hm hg hb len_Table_init (t_Table_init K A) (fun cdv Ar outer s H E hr => d_Table_init T G_is_below hr) (fun vs H Q E h => r_Table_init T.fx_Table vs H Q E h)
theorem d_Table_many (T : Txt K mg A) {f : Addr}  (hr : Room 0 (Ar.deeper (envOfC "Table.many" (defScope s_Table_many) s.heap.objs.size f cdv))) :
    PSs (cxOf (L2.CX P w) P w K mg base N_Table_many "Table.many" (defScope s_Table_many) f cdv Ar outer s H E) (defBody s_Table_many) (t_Table_many K E) := by
  have hu := hu65 hr
  exact pss_one (ps_ret (pe_callB call_lenA (by rfl) T.n_len (by decide +kernel) (pa_cons (pe_fld (pv 0) rfl) pa_nil)))
theorem cal_Table_many (T : Txt K mg A) {f : Addr} {fd : FuncData}  (F : Fun K "many" "Table.many" s_Table_many f fd) (hm : Meth K (A .Table) "many" f) (hb : Binds K fd ["self"] []) :
    Met P w K mg base 1 (A .Table) "many" f ["self"] (sp_Table_many K A) := met_of F sc_Table_many hm T.fx_Table.cl hb len_Table_many (t_Table_many K) (fun cdv Ar outer s H E hr => d_Table_many T  hr) (fun vs H Q E h => r_Table_many T.fx_Table vs H Q E h)
theorem d_Table_numbers (T : Txt K mg A) {f : Addr}  (hr : Room 0 (Ar.deeper (envOfC "Table.numbers" (defScope s_Table_numbers) s.heap.objs.size f cdv))) :
    PSs (cxOf (L2.CX P w) P w K mg base N_Table_numbers "Table.numbers" (defScope s_Table_numbers) f cdv Ar outer s H E) (defBody s_Table_numbers) (t_Table_numbers K E) := by
  have hu := hu65 hr
  exact pss_one (ps_ret (pe_callTy (call_listA rfl) (by rfl) T.n_list (by decide +kernel) (pa_cons (pe_fld (pv 0) rfl) pa_nil)))
theorem cal_Table_numbers (T : Txt K mg A) {f : Addr} {fd : FuncData}  (F : Fun K "numbers" "Table.numbers" s_Table_numbers f fd) (hm : Meth K (A .Table) "numbers" f) (hb : Binds K fd ["self"] []) :
    Met P w K mg base 1 (A .Table) "numbers" f ["self"] (sp_Table_numbers K A) := met_of F sc_Table_numbers hm T.fx_Table.cl hb len_Table_numbers (t_Table_numbers K) (fun cdv Ar outer s H E hr => d_Table_numbers T  hr) (fun vs H Q E h => r_Table_numbers T.fx_Table vs H Q E h)
theorem d_Table_columns (T : Txt K mg A) {f : Addr}  (hr : Room 0 (Ar.deeper (envOfC "Table.columns" (defScope s_Table_columns) s.heap.objs.size f cdv))) :
    PSs (cxOf (L2.CX P w) P w K mg base N_Table_columns "Table.columns" (defScope s_Table_columns) f cdv Ar outer s H E) (defBody s_Table_columns) (t_Table_columns K E) := by
  have hu := hu65 hr
  exact pss_one (ps_ret (pe_callTy (call_listA rfl) (by rfl) T.n_list (by decide +kernel) (pa_cons (pe_fld (pv 0) rfl) pa_nil)))
theorem cal_Table_columns (T : Txt K mg A) {f : Addr} {fd : FuncData}  (F : Fun K "columns" "Table.columns" s_Table_columns f fd) (hm : Meth K (A .Table) "columns" f) (hb : Binds K fd ["self"] []) :
    Met P w K mg base 1 (A .Table) "columns" f ["self"] (sp_Table_columns K A) := met_of F sc_Table_columns hm T.fx_Table.cl hb len_Table_columns (t_Table_columns K) (fun cdv Ar outer s H E hr => d_Table_columns T  hr) (fun vs H Q E h => r_Table_columns T.fx_Table vs H Q E h)
theorem d_law_cell (T : Txt K mg A) {f : Addr}  (hr : Room 0 (Ar.deeper (envOfC "_law_cell" (defScope s_law_cell) s.heap.objs.size f cdv))) :
    PSs (cxOf (L2.CX P w) P w K mg base N_law_cell "_law_cell" (defScope s_law_cell) f cdv Ar outer s H E) (defBody s_law_cell) (t_law_cell K E) := by
  have hu := hu65 hr
  exact pss_cons (ps_if (pt_cmpR op_lt (pv 1) (pe_callB call_lenA (by rfl) T.n_len (by decide +kernel) (pa_cons (pv 0) pa_nil)) (nomark _)) (pss_one (ps_ret (pe_ix (ix_A hu) (pv 0) (pv 1) (fun _ _ => rfl)))) pss_nil)
    (pss_cons (ps_set (i := 2) sc_law_cell.nd rfl (Or.inl rfl) pe_int)
    (pss_cons (ps_if (pt_cmpR op_gt (pe_callB call_lenA (by rfl) T.n_len (by decide +kernel) (pa_cons (pv 0) pa_nil)) pe_int (nomark _)) (pss_one (ps_set (i := 2) sc_law_cell.nd rfl (Or.inl rfl) (pe_op op_modN (pe_ix (ix_A hu) (pv 0) (pe_op op_modN (pv 1) (pe_callB call_lenA (by rfl) T.n_len (by decide +kernel) (pa_cons (pv 0) pa_nil))) (fun _ _ => rfl)) pe_int))) pss_nil)
    (pss_one (ps_ret (pe_op op_modN (pe_op op_mulA (pe_op op_addA (pe_op op_addA (pv 2) (pe_op op_mulA (pv 1) (pv 1))) pe_int) (pe_op op_addA pe_int (pe_op op_mulA pe_int (pv 1)))) pe_int)))))
theorem cal_law_cell (T : Txt K mg A) {f : Addr} {fd : FuncData}  (F : Fun K "_law_cell" "_law_cell" s_law_cell f fd) (hm : mg "_law_cell" = some (.ref f)) (hb : Binds K fd ["script", "k"] []) :
    Cal P w K mg base 1 "_law_cell" f ["script", "k"] (sp_law_cell K) := cal_of F sc_law_cell hm hb len_law_cell (t_law_cell K) (fun cdv Ar outer s H E hr => d_law_cell T  hr) (fun vs H Q E h => r_law_cell vs H Q E h)
theorem d_law_refused (T : Txt K mg A) {f : Addr} {f_Table_init : Addr} (G_Table_init : Mak P w K mg base 3 (A .Table) "Table" f_Table_init ["self", "many"] (sp_Table_init K A)) (hr : Room 4 (Ar.deeper (envOfC "_law_refused" (defScope s_law_refused) s.heap.objs.size f cdv))) :
    PSs (cxOf (L2.CX P w) P w K mg base N_law_refused "_law_refused" (defScope s_law_refused) f cdv Ar outer s H E) (defBody s_law_refused) (t_law_refused K A E) := by
  have hu := hu65 hr
  have tk : Takes (cxOf (L2.CX P w) P w K mg base N_law_refused "_law_refused" (defScope s_law_refused) f cdv Ar outer s H E) (fun cls d _ H => E cls d H) := takes_of rfl rfl rfl rfl
  exact pss_cons (ps_set (i := 1) sc_law_refused.nd rfl (Or.inl rfl) pe_non)
    (pss_cons (ps_try_keep (i := 2) (j := 1) rfl rfl rfl sc_law_refused.nd rfl rfl rfl rfl ⟨rfl, by decide, .inl T.g_ColsError⟩ tk (fun W pn xe tk _ => pss_one (ps_expr (pe_mak G_Table_init (hr.mono (by decide)) tk (pa_cons (pv 0) pa_nil)))))
    (pss_cons (ps_if (PW.pt (pw_or (pt_val (pe_callB call_isX (by rfl) T.n_isinstance (by decide +kernel) (pa_cons (pv 1) (pa_cons (pe_glob (v := .ref (A .Nobody)) rfl T.g_Nobody rfl) pa_nil)))) (pw_or (pt_val (pe_callB call_isX (by rfl) T.n_isinstance (by decide +kernel) (pa_cons (pv 1) (pa_cons (pe_glob (v := .ref (A .NoBack)) rfl T.g_NoBack rfl) pa_nil)))) (pw_or1 (pt_val (pe_callB call_isX (by rfl) T.n_isinstance (by decide +kernel) (pa_cons (pv 1) (pa_cons (pe_glob (v := .ref (A .NoColumn)) rfl T.g_NoColumn rfl) pa_nil)))))))) (pss_one (ps_ret pe_bl)) pss_nil)
    (pss_cons (ps_if (PW.pt (pw_or (pt_val (pe_callB call_isX (by rfl) T.n_isinstance (by decide +kernel) (pa_cons (pv 1) (pa_cons (pe_glob (v := .ref (A .NoPlace)) rfl T.g_NoPlace rfl) pa_nil)))) (pw_or (pt_val (pe_callB call_isX (by rfl) T.n_isinstance (by decide +kernel) (pa_cons (pv 1) (pa_cons (pe_glob (v := .ref (A .NoRow)) rfl T.g_NoRow rfl) pa_nil)))) (pw_or1 (pt_val (pe_callB call_isX (by rfl) T.n_isinstance (by decide +kernel) (pa_cons (pv 1) (pa_cons (pe_glob (v := .ref (A .NoName)) rfl T.g_NoName rfl) pa_nil)))))))) (pss_one (ps_ret pe_bl)) pss_nil)
    (pss_cons (ps_if (PW.pt (pw_or (pt_val (pe_callB call_isX (by rfl) T.n_isinstance (by decide +kernel) (pa_cons (pv 1) (pa_cons (pe_glob (v := .ref (A .NoTable)) rfl T.g_NoTable rfl) pa_nil)))) (pw_or (pt_val (pe_callB call_isX (by rfl) T.n_isinstance (by decide +kernel) (pa_cons (pv 1) (pa_cons (pe_glob (v := .ref (A .NoText)) rfl T.g_NoText rfl) pa_nil)))) (pw_or1 (pt_val (pe_callB call_isX (by rfl) T.n_isinstance (by decide +kernel) (pa_cons (pv 1) (pa_cons (pe_glob (v := .ref (A .NoValue)) rfl T.g_NoValue rfl) pa_nil)))))))) (pss_one (ps_ret pe_bl)) pss_nil)
    (pss_cons (ps_if (PW.pt (pw_or (pt_val (pe_callB call_isX (by rfl) T.n_isinstance (by decide +kernel) (pa_cons (pv 1) (pa_cons (pe_glob (v := .ref (A .Ring)) rfl T.g_Ring rfl) pa_nil)))) (pw_or (pt_val (pe_callB call_isX (by rfl) T.n_isinstance (by decide +kernel) (pa_cons (pv 1) (pa_cons (pe_glob (v := .ref (A .Ruled)) rfl T.g_Ruled rfl) pa_nil)))) (pw_or1 (pt_val (pe_callB call_isX (by rfl) T.n_isinstance (by decide +kernel) (pa_cons (pv 1) (pa_cons (pe_glob (v := .ref (A .Several)) rfl T.g_Several rfl) pa_nil)))))))) (pss_one (ps_ret pe_bl)) pss_nil)
    (pss_one (ps_ret (pe_and (pe_callB call_isX (by rfl) T.n_isinstance (by decide +kernel) (pa_cons (pv 1) (pa_cons (pe_glob (v := .ref (A .NoSize)) rfl T.g_NoSize rfl) pa_nil))) (pe_and (pe_callB call_isX (by rfl) T.n_isinstance (by decide +kernel) (pa_cons (pv 1) (pa_cons (pe_bltn (v := .ty "ValueError") (by rfl) T.n_ValueError (by decide +kernel) rfl) pa_nil))) (pe_one (pe_not (pe_callB call_isX (by rfl) T.n_isinstance (by decide +kernel) (pa_cons (pv 1) (pa_cons (pe_glob (v := .ref (A .TooMuch)) rfl T.g_TooMuch rfl) pa_nil))))))))))))))
theorem cal_law_refused (T : Txt K mg A) {f : Addr} {fd : FuncData} {f_Table_init : Addr} (G_Table_init : Mak P w K mg base 3 (A .Table) "Table" f_Table_init ["self", "many"] (sp_Table_init K A)) (F : Fun K "_law_refused" "_law_refused" s_law_refused f fd) (hm : mg "_law_refused" = some (.ref f)) (hb : Binds K fd ["many"] []) :
    Cal P w K mg base 5 "_law_refused" f ["many"] (sp_law_refused K) := cal_of F sc_law_refused hm hb len_law_refused (t_law_refused K A) (fun cdv Ar outer s H E hr => d_law_refused T G_Table_init hr) (fun vs H Q E h => r_law_refused T.ek_NoSize vs H Q E h)
theorem d_law (T : Txt K mg A) {f : Addr} {f_law_cell : Addr} (G_law_cell : Cal P w K mg base 1 "_law_cell" f_law_cell ["script", "k"] (sp_law_cell K)) {f_law_refused : Addr} (G_law_refused : Cal P w K mg base 5 "_law_refused" f_law_refused ["many"] (sp_law_refused K)) {f_Table_many : Addr} (G_Table_many : Met P w K mg base 1 (A .Table) "many" f_Table_many ["self"] (sp_Table_many K A)) {f_Table_numbers : Addr} (G_Table_numbers : Met P w K mg base 1 (A .Table) "numbers" f_Table_numbers ["self"] (sp_Table_numbers K A)) {f_Table_columns : Addr} (G_Table_columns : Met P w K mg base 1 (A .Table) "columns" f_Table_columns ["self"] (sp_Table_columns K A)) {f_Table_init : Addr} (G_Table_init : Mak P w K mg base 3 (A .Table) "Table" f_Table_init ["self", "many"] (sp_Table_init K A)) (hr : Room 5 (Ar.deeper (envOfC "law" (defScope s_law) s.heap.objs.size f cdv))) :
    PSs (cxOf (L2.CX P w) P w K mg base N_law "law" (defScope s_law) f cdv Ar outer s H E) (defBody s_law) (t_law K A E) := by
  have hu := hu65 hr
  have tk : Takes (cxOf (L2.CX P w) P w K mg base N_law "law" (defScope s_law) f cdv Ar outer s H E) (fun cls d _ H => E cls d H) := takes_of rfl rfl rfl rfl
  exact pss_cons (ps_set (i := 1) sc_law.nd rfl (Or.inl rfl) (pe_op op_modN (pe_cal G_law_cell (hr.mono (by decide)) tk (pa_cons (pv 0) (pa_cons pe_int pa_nil))) pe_int))
    (pss_cons (ps_set (i := 2) sc_law.nd rfl (Or.inl rfl) (pe_op op_addA (pe_op op_pow pe_int pe_int) (pe_op op_modN (pe_cal G_law_cell (hr.mono (by decide)) tk (pa_cons (pv 0) (pa_cons pe_int pa_nil))) (pe_op op_pow pe_int pe_int))))
    (pss_cons (ps_set (i := 3) sc_law.nd rfl (Or.inl rfl) (pe_lst (pa_cons pe_int (pa_cons (pe_un un_neg pe_int) (pa_cons (pv 2) (pa_cons (pe_op op_sub pe_int (pv 2)) (pa_cons pe_bl (pa_cons pe_bl (pa_cons pe_non (pa_cons (pe_callTy call_str_int (by rfl) T.n_str (by decide +kernel) (pa_cons (pv 1) pa_nil)) (pa_cons (pe_lst (pa_cons (pv 1) pa_nil)) (pa_cons (pe_tup (pa_cons (pv 1) pa_nil)) pa_nil))))))))))))
    (pss_cons (ps_if (pt_not (pt_val (pe_cal G_law_refused (hr.mono (by decide)) tk (pa_cons (pe_ix (ix_A hu) (pv 3) (pe_op op_modN (pe_cal G_law_cell (hr.mono (by decide)) tk (pa_cons (pv 0) (pa_cons pe_int pa_nil))) pe_int) (fun _ _ => rfl)) pa_nil)))) (pss_one (ps_ret pe_bl)) pss_nil)
    (pss_cons (ps_set (i := 4) sc_law.nd rfl (Or.inl rfl) (pe_mak G_Table_init (hr.mono (by decide)) tk (pa_cons (pv 1) pa_nil)))
    (pss_cons (ps_set (i := 5) sc_law.nd rfl (Or.inl rfl) (pe_mak G_Table_init (hr.mono (by decide)) tk (pa_cons (pe_op op_modN (pe_op op_addA (pv 1) pe_int) pe_int) pa_nil)))
    (pss_cons (ps_set (i := 6) sc_law.nd rfl (Or.inl rfl) (pe_met0 G_Table_numbers (pv 4) (hr.mono (by decide)) tk))
    (pss_cons (ps_set (i := 7) sc_law.nd rfl (Or.inl rfl) (pe_met0 G_Table_many (pv 4) (hr.mono (by decide)) tk))
    (pss_cons (ps_if (PW.pt (pw_or (pt_not (pt_val (pe_callB call_isiA (by rfl) T.n_isinstance (by decide +kernel) (pa_cons (pv 7) (pa_cons (pe_bltn (v := .ty "int") (by rfl) T.n_int (by decide +kernel) rfl) pa_nil))))) (pw_or (pt_val (pe_callB call_isiA (by rfl) T.n_isinstance (by decide +kernel) (pa_cons (pv 7) (pa_cons (pe_bltn (v := .ty "bool") (by rfl) T.n_bool (by decide +kernel) rfl) pa_nil)))) (pw_or1 (pt_cmpR (op_neA hu) (pv 7) (pv 1) (nomark _)))))) (pss_one (ps_ret pe_bl)) pss_nil)
    (pss_cons (ps_if (PW.pt (pw_or (pt_not (pt_val (pe_callB call_isiA (by rfl) T.n_isinstance (by decide +kernel) (pa_cons (pv 6) (pa_cons (pe_bltn (v := .ty "list") (by rfl) T.n_list (by decide +kernel) rfl) pa_nil))))) (pw_or (pt_cmpR (op_neA hu) (pv 6) (pe_lc (own := [("k", 8)]) (g := gName 8) (tt := tYes) rfl sc_law.nd (pi_range1 (by rfl) T.n_range (pa_cons (pv 1) pa_nil)) (blkOk_by (own := [("k", 8)]) (N := N_law) (sc := defScope s_law) (by decide +kernel)) (fun _ _ _ _ _ => pg_name (i := 8) sc_law.nd rfl (Or.inl rfl)) (fun _ _ _ _ _ => pts_nil) (fun _ _ _ _ _ => pv 8)) (nomark _)) (pw_or1 (pt_cmpR (op_neA hu) (pe_met0 G_Table_columns (pv 4) (hr.mono (by decide)) tk) (pe_lst pa_nil) (nomark _)))))) (pss_one (ps_ret pe_bl)) pss_nil)
    (pss_cons (ps_expr (pe_bm PySem.F.plainAttrs_list PySem.F.slot_list_append PySem.F.type_list_append mt_append (pv 6) (pa_cons pe_int pa_nil)))
    (pss_cons (ps_expr (pe_bm PySem.F.plainAttrs_list PySem.F.slot_list_append PySem.F.type_list_append mt_append (pe_met0 G_Table_columns (pv 4) (hr.mono (by decide)) tk) (pa_cons pe_str pa_nil)))
    (pss_cons (ps_if (PW.pt (pw_or (pt_cmpR (op_neA hu) (pe_met0 G_Table_numbers (pv 4) (hr.mono (by decide)) tk) (pe_lc (own := [("k", 8)]) (g := gName 8) (tt := tYes) rfl sc_law.nd (pi_range1 (by rfl) T.n_range (pa_cons (pv 1) pa_nil)) (blkOk_by (own := [("k", 8)]) (N := N_law) (sc := defScope s_law) (by decide +kernel)) (fun _ _ _ _ _ => pg_name (i := 8) sc_law.nd rfl (Or.inl rfl)) (fun _ _ _ _ _ => pts_nil) (fun _ _ _ _ _ => pv 8)) (nomark _)) (pw_or (pt_cmpR (op_neA hu) (pe_met0 G_Table_columns (pv 4) (hr.mono (by decide)) tk) (pe_lst pa_nil) (nomark _)) (pw_or1 (pt_cmpR (op_neA hu) (pe_met0 G_Table_many (pv 4) (hr.mono (by decide)) tk) (pv 1) (nomark _)))))) (pss_one (ps_ret pe_bl)) pss_nil)
    (pss_one (ps_ret (pe_and (pe_cmpR (op_eqA hu) (pe_met0 G_Table_many (pv 5) (hr.mono (by decide)) tk) (pe_op op_modN (pe_op op_addA (pv 1) pe_int) pe_int) (nomark _)) (pe_one (pe_cmpR (op_eqA hu) (pe_met0 G_Table_numbers (pv 5) (hr.mono (by decide)) tk) (pe_lc (own := [("k", 8)]) (g := gName 8) (tt := tYes) rfl sc_law.nd (pi_range1 (by rfl) T.n_range (pa_cons (pe_op op_modN (pe_op op_addA (pv 1) pe_int) pe_int) pa_nil)) (blkOk_by (own := [("k", 8)]) (N := N_law) (sc := defScope s_law) (by decide +kernel)) (fun _ _ _ _ _ => pg_name (i := 8) sc_law.nd rfl (Or.inl rfl)) (fun _ _ _ _ _ => pts_nil) (fun _ _ _ _ _ => pv 8)) (nomark _))))))))))))))))))
theorem fn_law (T : Txt K mg A) {f : Addr} {fd : FuncData} {f_law_cell : Addr} (G_law_cell : Cal P w K mg base 1 "_law_cell" f_law_cell ["script", "k"] (sp_law_cell K)) {f_law_refused : Addr} (G_law_refused : Cal P w K mg base 5 "_law_refused" f_law_refused ["many"] (sp_law_refused K)) {f_Table_many : Addr} (G_Table_many : Met P w K mg base 1 (A .Table) "many" f_Table_many ["self"] (sp_Table_many K A)) {f_Table_numbers : Addr} (G_Table_numbers : Met P w K mg base 1 (A .Table) "numbers" f_Table_numbers ["self"] (sp_Table_numbers K A)) {f_Table_columns : Addr} (G_Table_columns : Met P w K mg base 1 (A .Table) "columns" f_Table_columns ["self"] (sp_Table_columns K A)) {f_Table_init : Addr} (G_Table_init : Mak P w K mg base 3 (A .Table) "Table" f_Table_init ["self", "many"] (sp_Table_init K A)) (F : Fun K "law" "law" s_law f fd) : FnOk P w K mg base (L2.CX P w) 6 f fd ["script"] (spLaw K) :=
  fnx_of F sc_law len_law (t_law K A) (fun cdv Ar outer s H E hr => d_law T G_law_cell G_law_refused G_Table_many G_Table_numbers G_Table_columns G_Table_init hr) (fun vs H Q E h => r_law vs H Q E h)
end
theorem all_mk {l : PySem.W.OpenLaw} {w : World} {K : PySem.W.Frag} {h : Heap} {mg : Str → Option Value} {fa : Addr} {C_ColsError C_NoName C_NoValue C_NoTable C_NoColumn C_NoPlace C_NoSize C_NoText C_NoRow C_NoBack C_TooMuch C_Ruled C_Ring C_Nobody C_Several C_Table : Addr} {f_is_whole f_is_below f_Table_init f_Table_many f_Table_numbers f_Table_columns f_law_cell f_law_refused f_law : Addr} {od_is_whole an_is_whole od_is_below an_is_below od_Table_init an_Table_init od_Table_many an_Table_many od_Table_numbers an_Table_numbers od_Table_columns an_Table_columns od_law_cell an_law_cell od_law_refused an_law_refused od_law an_law : Option Addr} {sl_is_whole sl_is_below sl_Table_init sl_Table_many sl_Table_numbers sl_Table_columns sl_law_cell sl_law_refused sl_law : Array (Option Value)} {oc_is_whole kV_is_whole dc_is_whole pm_is_whole cd_is_whole ct_is_whole oc_is_below kV_is_below dc_is_below pm_is_below cd_is_below ct_is_below oc_Table_init kV_Table_init dc_Table_init pm_Table_init cd_Table_init ct_Table_init oc_Table_many kV_Table_many dc_Table_many pm_Table_many cd_Table_many ct_Table_many oc_Table_numbers kV_Table_numbers dc_Table_numbers pm_Table_numbers cd_Table_numbers ct_Table_numbers oc_Table_columns kV_Table_columns dc_Table_columns pm_Table_columns cd_Table_columns ct_Table_columns oc_law_cell kV_law_cell dc_law_cell pm_law_cell cd_law_cell ct_law_cell oc_law_refused kV_law_refused dc_law_refused pm_law_refused cd_law_refused ct_law_refused oc_law kV_law dc_law pm_law cd_law ct_law : Value} {tk_MOST_ROWS : Tok} (X : K.In h) (G : h.Ns mainGlobals mg) (hfa : mg "law" = some (.ref fa))
    (a_ColsError : PySem.W.nsIn K mainGlobals "ColsError" = some (some (.ref C_ColsError)))
    (a_NoName : PySem.W.nsIn K mainGlobals "NoName" = some (some (.ref C_NoName)))
    (a_NoValue : PySem.W.nsIn K mainGlobals "NoValue" = some (some (.ref C_NoValue)))
    (a_NoTable : PySem.W.nsIn K mainGlobals "NoTable" = some (some (.ref C_NoTable)))
    (a_NoColumn : PySem.W.nsIn K mainGlobals "NoColumn" = some (some (.ref C_NoColumn)))
    (a_NoPlace : PySem.W.nsIn K mainGlobals "NoPlace" = some (some (.ref C_NoPlace)))
    (a_NoSize : PySem.W.nsIn K mainGlobals "NoSize" = some (some (.ref C_NoSize)))
    (a_NoText : PySem.W.nsIn K mainGlobals "NoText" = some (some (.ref C_NoText)))
    (a_NoRow : PySem.W.nsIn K mainGlobals "NoRow" = some (some (.ref C_NoRow)))
    (a_NoBack : PySem.W.nsIn K mainGlobals "NoBack" = some (some (.ref C_NoBack)))
    (a_TooMuch : PySem.W.nsIn K mainGlobals "TooMuch" = some (some (.ref C_TooMuch)))
    (a_Ruled : PySem.W.nsIn K mainGlobals "Ruled" = some (some (.ref C_Ruled)))
    (a_Ring : PySem.W.nsIn K mainGlobals "Ring" = some (some (.ref C_Ring)))
    (a_Nobody : PySem.W.nsIn K mainGlobals "Nobody" = some (some (.ref C_Nobody)))
    (a_Several : PySem.W.nsIn K mainGlobals "Several" = some (some (.ref C_Several)))
    (a_Table : PySem.W.nsIn K mainGlobals "Table" = some (some (.ref C_Table)))
    (a_is_whole : PySem.W.nsIn K mainGlobals "is_whole" = some (some (.ref f_is_whole)))
    (l_is_whole : K.lookup f_is_whole = some ⟨oc_is_whole, od_is_whole, .func (PySem.W.fnOf "is_whole" "is_whole" (defArgs s_is_whole) (defBody s_is_whole) (defScope s_is_whole) .none kV_is_whole dc_is_whole pm_is_whole an_is_whole cd_is_whole ct_is_whole), sl_is_whole⟩)
    (c_is_whole : PySem.W.codeIn K cd_is_whole "is_whole" = true)
    (k_is_whole : PySem.W.keepIn K (.ref f_is_whole) = true)
    (a_is_below : PySem.W.nsIn K mainGlobals "is_below" = some (some (.ref f_is_below)))
    (l_is_below : K.lookup f_is_below = some ⟨oc_is_below, od_is_below, .func (PySem.W.fnOf "is_below" "is_below" (defArgs s_is_below) (defBody s_is_below) (defScope s_is_below) .none kV_is_below dc_is_below pm_is_below an_is_below cd_is_below ct_is_below), sl_is_below⟩)
    (c_is_below : PySem.W.codeIn K cd_is_below "is_below" = true)
    (k_is_below : PySem.W.keepIn K (.ref f_is_below) = true)
    (a_Table_init : PySem.W.findIn K (.ref C_Table) "__init__" = some (some (.ref f_Table_init)))
    (i_Table_init : PySem.W.isFn K (.ref f_Table_init) = true)
    (mkk_Table : PySem.W.makesIn K C_Table = true)
    (kc_Table : PySem.W.keepIn K (.ref C_Table) = true)
    (l_Table_init : K.lookup f_Table_init = some ⟨oc_Table_init, od_Table_init, .func (PySem.W.fnOf "__init__" "Table.__init__" (defArgs s_Table_init) (defBody s_Table_init) (defScope s_Table_init) .none kV_Table_init dc_Table_init pm_Table_init an_Table_init cd_Table_init ct_Table_init), sl_Table_init⟩)
    (c_Table_init : PySem.W.codeIn K cd_Table_init "Table.__init__" = true)
    (k_Table_init : PySem.W.keepIn K (.ref f_Table_init) = true)
    (a_Table_many : PySem.W.findIn K (.ref C_Table) "many" = some (some (.ref f_Table_many)))
    (i_Table_many : PySem.W.isFn K (.ref f_Table_many) = true)
    (l_Table_many : K.lookup f_Table_many = some ⟨oc_Table_many, od_Table_many, .func (PySem.W.fnOf "many" "Table.many" (defArgs s_Table_many) (defBody s_Table_many) (defScope s_Table_many) .none kV_Table_many dc_Table_many pm_Table_many an_Table_many cd_Table_many ct_Table_many), sl_Table_many⟩)
    (c_Table_many : PySem.W.codeIn K cd_Table_many "Table.many" = true)
    (k_Table_many : PySem.W.keepIn K (.ref f_Table_many) = true)
    (a_Table_numbers : PySem.W.findIn K (.ref C_Table) "numbers" = some (some (.ref f_Table_numbers)))
    (i_Table_numbers : PySem.W.isFn K (.ref f_Table_numbers) = true)
    (l_Table_numbers : K.lookup f_Table_numbers = some ⟨oc_Table_numbers, od_Table_numbers, .func (PySem.W.fnOf "numbers" "Table.numbers" (defArgs s_Table_numbers) (defBody s_Table_numbers) (defScope s_Table_numbers) .none kV_Table_numbers dc_Table_numbers pm_Table_numbers an_Table_numbers cd_Table_numbers ct_Table_numbers), sl_Table_numbers⟩)
    (c_Table_numbers : PySem.W.codeIn K cd_Table_numbers "Table.numbers" = true)
    (k_Table_numbers : PySem.W.keepIn K (.ref f_Table_numbers) = true)
    (a_Table_columns : PySem.W.findIn K (.ref C_Table) "columns" = some (some (.ref f_Table_columns)))
    (i_Table_columns : PySem.W.isFn K (.ref f_Table_columns) = true)
    (l_Table_columns : K.lookup f_Table_columns = some ⟨oc_Table_columns, od_Table_columns, .func (PySem.W.fnOf "columns" "Table.columns" (defArgs s_Table_columns) (defBody s_Table_columns) (defScope s_Table_columns) .none kV_Table_columns dc_Table_columns pm_Table_columns an_Table_columns cd_Table_columns ct_Table_columns), sl_Table_columns⟩)
    (c_Table_columns : PySem.W.codeIn K cd_Table_columns "Table.columns" = true)
    (k_Table_columns : PySem.W.keepIn K (.ref f_Table_columns) = true)
    (a_law_cell : PySem.W.nsIn K mainGlobals "_law_cell" = some (some (.ref f_law_cell)))
    (l_law_cell : K.lookup f_law_cell = some ⟨oc_law_cell, od_law_cell, .func (PySem.W.fnOf "_law_cell" "_law_cell" (defArgs s_law_cell) (defBody s_law_cell) (defScope s_law_cell) .none kV_law_cell dc_law_cell pm_law_cell an_law_cell cd_law_cell ct_law_cell), sl_law_cell⟩)
    (c_law_cell : PySem.W.codeIn K cd_law_cell "_law_cell" = true)
    (k_law_cell : PySem.W.keepIn K (.ref f_law_cell) = true)
    (a_law_refused : PySem.W.nsIn K mainGlobals "_law_refused" = some (some (.ref f_law_refused)))
    (l_law_refused : K.lookup f_law_refused = some ⟨oc_law_refused, od_law_refused, .func (PySem.W.fnOf "_law_refused" "_law_refused" (defArgs s_law_refused) (defBody s_law_refused) (defScope s_law_refused) .none kV_law_refused dc_law_refused pm_law_refused an_law_refused cd_law_refused ct_law_refused), sl_law_refused⟩)
    (c_law_refused : PySem.W.codeIn K cd_law_refused "_law_refused" = true)
    (k_law_refused : PySem.W.keepIn K (.ref f_law_refused) = true)
    (a_law : PySem.W.nsIn K mainGlobals "law" = some (some (.ref f_law)))
    (l_law : K.lookup f_law = some ⟨oc_law, od_law, .func (PySem.W.fnOf "law" "law" (defArgs s_law) (defBody s_law) (defScope s_law) .none kV_law dc_law pm_law an_law cd_law ct_law), sl_law⟩)
    (c_law : PySem.W.codeIn K cd_law "law" = true)
    (k_law : PySem.W.keepIn K (.ref f_law) = true)
    (n_ValueError : PySem.W.nsIn K mainGlobals "ValueError" = some none)
    (n_bool : PySem.W.nsIn K mainGlobals "bool" = some none)
    (n_int : PySem.W.nsIn K mainGlobals "int" = some none)
    (n_isinstance : PySem.W.nsIn K mainGlobals "isinstance" = some none)
    (n_len : PySem.W.nsIn K mainGlobals "len" = some none)
    (n_list : PySem.W.nsIn K mainGlobals "list" = some none)
    (n_range : PySem.W.nsIn K mainGlobals "range" = some none)
    (n_str : PySem.W.nsIn K mainGlobals "str" = some none)
    (g_MOST_ROWS : PySem.W.nsIn K mainGlobals "MOST_ROWS" = some (some (.int 30 tk_MOST_ROWS)))
    (pg_Table : PySem.W.plainGet K C_Table Str.empty = true)
    (hd_Table : PySem.W.hasDictIn K C_Table = true)
    (po_Table : PySem.W.plainOver K C_Table = true)
    (sa_Table : PySem.W.findIn K (.ref C_Table) "__setattr__" = some (some (.builtin "object.__setattr__")))
    (na_Table_held : PySem.W.findIn K (.ref C_Table) "held" = some none)
    (na_Table_coming : PySem.W.findIn K (.ref C_Table) "coming" = some none)
    (na_Table_rows_now : PySem.W.findIn K (.ref C_Table) "rows_now" = some none)
    (xx_NoSize : PySem.W.excIn K C_NoSize [.type "ValueError", .type "Exception", .type "BaseException", .type "object"] "ValueError.__new__" = true)
    (xk_NoSize : PySem.W.keepIn K (.ref C_NoSize) = true)
    (xb_NoSize : PySem.W.subIn K (.ref C_NoSize) (.type "BaseException") = some true)
    (xt_NoSize : PySem.W.typeIn K (.ref C_NoSize) = some (.type "type"))
    (xcg_NoSize : PySem.W.findIn K (.ref C_NoSize) "__getattribute__" = some (some (.builtin "BaseException.__getattribute__")))
    (xck_NoSize : PySem.W.findIn K (.ref C_NoSize) "__getattr__" = some none)
    (xcd_NoSize : PySem.W.hasDictIn K C_NoSize = true)
    (xca_NoSize : PySem.W.findIn K (.ref C_NoSize) "__class__" = some (some (.builtin "object.__class__")))
    (xcn : PySem.W.specialIn K (.builtin "object.__class__") "__get__" = some (some (.builtin "getset_descriptor.__get__")))
    (xct : PySem.W.takesIn K (.builtin "object.__class__") = some true)
    (xcm_NoSize : PySem.W.mroIn K C_NoSize (.type "object") = some true)
    (xb_ColsError : PySem.W.subIn K (.ref C_ColsError) (.type "BaseException") = some true)
    (xv_NoSize : PySem.W.subIn K (.ref C_NoSize) (.type "ValueError") = some true)
    (yy_NoSize_NoSize : PySem.W.subIn K (.ref C_NoSize) (.ref C_NoSize) = some true)
    (xi_Nobody : PySem.W.isClsIn K C_Nobody = true)
    (xt_Nobody : PySem.W.typeIn K (.ref C_Nobody) = some (.type "type"))
    (yy_NoSize_Nobody : PySem.W.subIn K (.ref C_NoSize) (.ref C_Nobody) = some false)
    (xi_NoBack : PySem.W.isClsIn K C_NoBack = true)
    (xt_NoBack : PySem.W.typeIn K (.ref C_NoBack) = some (.type "type"))
    (yy_NoSize_NoBack : PySem.W.subIn K (.ref C_NoSize) (.ref C_NoBack) = some false)
    (xi_NoColumn : PySem.W.isClsIn K C_NoColumn = true)
    (xt_NoColumn : PySem.W.typeIn K (.ref C_NoColumn) = some (.type "type"))
    (yy_NoSize_NoColumn : PySem.W.subIn K (.ref C_NoSize) (.ref C_NoColumn) = some false)
    (xi_NoPlace : PySem.W.isClsIn K C_NoPlace = true)
    (xt_NoPlace : PySem.W.typeIn K (.ref C_NoPlace) = some (.type "type"))
    (yy_NoSize_NoPlace : PySem.W.subIn K (.ref C_NoSize) (.ref C_NoPlace) = some false)
    (xi_NoRow : PySem.W.isClsIn K C_NoRow = true)
    (xt_NoRow : PySem.W.typeIn K (.ref C_NoRow) = some (.type "type"))
    (yy_NoSize_NoRow : PySem.W.subIn K (.ref C_NoSize) (.ref C_NoRow) = some false)
    (xi_NoName : PySem.W.isClsIn K C_NoName = true)
    (xt_NoName : PySem.W.typeIn K (.ref C_NoName) = some (.type "type"))
    (yy_NoSize_NoName : PySem.W.subIn K (.ref C_NoSize) (.ref C_NoName) = some false)
    (xi_NoTable : PySem.W.isClsIn K C_NoTable = true)
    (xt_NoTable : PySem.W.typeIn K (.ref C_NoTable) = some (.type "type"))
    (yy_NoSize_NoTable : PySem.W.subIn K (.ref C_NoSize) (.ref C_NoTable) = some false)
    (xi_NoText : PySem.W.isClsIn K C_NoText = true)
    (xt_NoText : PySem.W.typeIn K (.ref C_NoText) = some (.type "type"))
    (yy_NoSize_NoText : PySem.W.subIn K (.ref C_NoSize) (.ref C_NoText) = some false)
    (xi_NoValue : PySem.W.isClsIn K C_NoValue = true)
    (xt_NoValue : PySem.W.typeIn K (.ref C_NoValue) = some (.type "type"))
    (yy_NoSize_NoValue : PySem.W.subIn K (.ref C_NoSize) (.ref C_NoValue) = some false)
    (xi_Ring : PySem.W.isClsIn K C_Ring = true)
    (xt_Ring : PySem.W.typeIn K (.ref C_Ring) = some (.type "type"))
    (yy_NoSize_Ring : PySem.W.subIn K (.ref C_NoSize) (.ref C_Ring) = some false)
    (xi_Ruled : PySem.W.isClsIn K C_Ruled = true)
    (xt_Ruled : PySem.W.typeIn K (.ref C_Ruled) = some (.type "type"))
    (yy_NoSize_Ruled : PySem.W.subIn K (.ref C_NoSize) (.ref C_Ruled) = some false)
    (xi_Several : PySem.W.isClsIn K C_Several = true)
    (xt_Several : PySem.W.typeIn K (.ref C_Several) = some (.type "type"))
    (yy_NoSize_Several : PySem.W.subIn K (.ref C_NoSize) (.ref C_Several) = some false)
    (xi_NoSize : PySem.W.isClsIn K C_NoSize = true)
    (xi_TooMuch : PySem.W.isClsIn K C_TooMuch = true)
    (xt_TooMuch : PySem.W.typeIn K (.ref C_TooMuch) = some (.type "type"))
    (yy_NoSize_TooMuch : PySem.W.subIn K (.ref C_NoSize) (.ref C_TooMuch) = some false)
    (xi_ColsError : PySem.W.isClsIn K C_ColsError = true)
    (xt_ColsError : PySem.W.typeIn K (.ref C_ColsError) = some (.type "type"))
    (yy_NoSize_ColsError : PySem.W.subIn K (.ref C_NoSize) (.ref C_ColsError) = some true) :
    ∃ fd : FuncData, (∀ (s : Shared) (v : Value), BindsTo s fd ⟨[v], []⟩ [("script", v)]) ∧ ∀ base : Heap, K.In base → base.Ns mainGlobals mg → FnOk l.prog w K mg base (L2.CX l.prog w) 6 fa fd ["script"] (spLaw K) := by
  have e := hfa.symm.trans (PySem.W.mg_of X G a_law)
  cases e
  let A : Cn → Addr := fun | .ColsError => C_ColsError | .NoName => C_NoName | .NoValue => C_NoValue | .NoTable => C_NoTable | .NoColumn => C_NoColumn | .NoPlace => C_NoPlace | .NoSize => C_NoSize | .NoText => C_NoText | .NoRow => C_NoRow | .NoBack => C_NoBack | .TooMuch => C_TooMuch | .Ruled => C_Ruled | .Ring => C_Ring | .Nobody => C_Nobody | .Several => C_Several | .Table => C_Table | _ => 0
  have T : Txt K mg A := { n_ValueError := PySem.W.mg_none_of X G n_ValueError, n_bool := PySem.W.mg_none_of X G n_bool, n_int := PySem.W.mg_none_of X G n_int, n_isinstance := PySem.W.mg_none_of X G n_isinstance, n_len := PySem.W.mg_none_of X G n_len, n_list := PySem.W.mg_none_of X G n_list, n_range := PySem.W.mg_none_of X G n_range, n_str := PySem.W.mg_none_of X G n_str, g_MOST_ROWS := ⟨_, PySem.W.mg_of X G g_MOST_ROWS⟩, g_ColsError := PySem.W.mg_of X G a_ColsError, g_NoName := PySem.W.mg_of X G a_NoName, g_NoValue := PySem.W.mg_of X G a_NoValue, g_NoTable := PySem.W.mg_of X G a_NoTable, g_NoColumn := PySem.W.mg_of X G a_NoColumn, g_NoPlace := PySem.W.mg_of X G a_NoPlace, g_NoSize := PySem.W.mg_of X G a_NoSize, g_NoText := PySem.W.mg_of X G a_NoText, g_NoRow := PySem.W.mg_of X G a_NoRow, g_NoBack := PySem.W.mg_of X G a_NoBack, g_TooMuch := PySem.W.mg_of X G a_TooMuch, g_Ruled := PySem.W.mg_of X G a_Ruled, g_Ring := PySem.W.mg_of X G a_Ring, g_Nobody := PySem.W.mg_of X G a_Nobody, g_Several := PySem.W.mg_of X G a_Several, g_Table := PySem.W.mg_of X G a_Table, fx_Table := ⟨⟨pg_Table, hd_Table, po_Table, sa_Table⟩, List.forall_mem_cons.mpr ⟨na_Table_rows_now, List.forall_mem_cons.mpr ⟨na_Table_coming, List.forall_mem_cons.mpr ⟨na_Table_held, List.forall_mem_nil _⟩⟩⟩⟩, x_NoSize := xx_NoSize, k_NoSize := xk_NoSize, b_NoSize := xb_NoSize, t_NoSize := xt_NoSize, ek_NoSize := ⟨⟨xcg_NoSize, xck_NoSize, xb_NoSize, xcd_NoSize, xca_NoSize, xcn, xct, xcm_NoSize⟩, exm_of xb_ColsError xi_ColsError xt_ColsError yy_NoSize_ColsError, List.forall_mem_cons.mpr ⟨kit_of xi_Nobody xt_Nobody yy_NoSize_Nobody yy_NoSize_NoSize, List.forall_mem_cons.mpr ⟨kit_of xi_NoBack xt_NoBack yy_NoSize_NoBack yy_NoSize_NoSize, List.forall_mem_cons.mpr ⟨kit_of xi_NoColumn xt_NoColumn yy_NoSize_NoColumn yy_NoSize_NoSize, List.forall_mem_cons.mpr ⟨kit_of xi_NoPlace xt_NoPlace yy_NoSize_NoPlace yy_NoSize_NoSize, List.forall_mem_cons.mpr ⟨kit_of xi_NoRow xt_NoRow yy_NoSize_NoRow yy_NoSize_NoSize, List.forall_mem_cons.mpr ⟨kit_of xi_NoName xt_NoName yy_NoSize_NoName yy_NoSize_NoSize, List.forall_mem_cons.mpr ⟨kit_of xi_NoTable xt_NoTable yy_NoSize_NoTable yy_NoSize_NoSize, List.forall_mem_cons.mpr ⟨kit_of xi_NoText xt_NoText yy_NoSize_NoText yy_NoSize_NoSize, List.forall_mem_cons.mpr ⟨kit_of xi_NoValue xt_NoValue yy_NoSize_NoValue yy_NoSize_NoSize, List.forall_mem_cons.mpr ⟨kit_of xi_Ring xt_Ring yy_NoSize_Ring yy_NoSize_NoSize, List.forall_mem_cons.mpr ⟨kit_of xi_Ruled xt_Ruled yy_NoSize_Ruled yy_NoSize_NoSize, List.forall_mem_cons.mpr ⟨kit_of xi_Several xt_Several yy_NoSize_Several yy_NoSize_NoSize, List.forall_mem_cons.mpr ⟨kit_of xi_NoSize xt_NoSize yy_NoSize_NoSize yy_NoSize_NoSize, List.forall_mem_cons.mpr ⟨kit_of xi_TooMuch xt_TooMuch yy_NoSize_TooMuch yy_NoSize_NoSize, List.forall_mem_nil _⟩⟩⟩⟩⟩⟩⟩⟩⟩⟩⟩⟩⟩⟩, kitv_of xv_NoSize⟩ }
  have F_is_whole := fun_mk (st := s_is_whole) l_is_whole c_is_whole k_is_whole
  have b_is_whole := F_is_whole.binds (ps := ["thing"]) fun _ _ _ _ _ _ us hl => match us, hl with | [_], _ => rfl
  have F_is_below := fun_mk (st := s_is_below) l_is_below c_is_below k_is_below
  have b_is_below := F_is_below.binds (ps := ["thing", "many"]) fun _ _ _ _ _ _ us hl => match us, hl with | [_, _], _ => rfl
  have F_Table_init := fun_mk (st := s_Table_init) l_Table_init c_Table_init k_Table_init
  have b_Table_init := F_Table_init.binds (ps := ["self", "many"]) fun _ _ _ _ _ _ us hl => match us, hl with | [_, _], _ => rfl
  have F_Table_many := fun_mk (st := s_Table_many) l_Table_many c_Table_many k_Table_many
  have b_Table_many := F_Table_many.binds (ps := ["self"]) fun _ _ _ _ _ _ us hl => match us, hl with | [_], _ => rfl
  have F_Table_numbers := fun_mk (st := s_Table_numbers) l_Table_numbers c_Table_numbers k_Table_numbers
  have b_Table_numbers := F_Table_numbers.binds (ps := ["self"]) fun _ _ _ _ _ _ us hl => match us, hl with | [_], _ => rfl
  have F_Table_columns := fun_mk (st := s_Table_columns) l_Table_columns c_Table_columns k_Table_columns
  have b_Table_columns := F_Table_columns.binds (ps := ["self"]) fun _ _ _ _ _ _ us hl => match us, hl with | [_], _ => rfl
  have F_law_cell := fun_mk (st := s_law_cell) l_law_cell c_law_cell k_law_cell
  have b_law_cell := F_law_cell.binds (ps := ["script", "k"]) fun _ _ _ _ _ _ us hl => match us, hl with | [_, _], _ => rfl
  have F_law_refused := fun_mk (st := s_law_refused) l_law_refused c_law_refused k_law_refused
  have b_law_refused := F_law_refused.binds (ps := ["many"]) fun _ _ _ _ _ _ us hl => match us, hl with | [_], _ => rfl
  have F_law := fun_mk (st := s_law) l_law c_law k_law
  have b_law := F_law.binds (ps := ["script"]) fun _ _ _ _ _ _ us hl => match us, hl with | [_], _ => rfl
  refine ⟨PySem.W.fnOf "law" "law" (defArgs s_law) (defBody s_law) (defScope s_law) .none kV_law dc_law pm_law an_law cd_law ct_law, fun s v => .of_eq rfl, fun base _ _ => ?_⟩
  have G_is_whole := cal_is_whole (P := l.prog) (w := w) (base := base) T  F_is_whole (PySem.W.mg_of X G a_is_whole) b_is_whole
  have G_is_below := cal_is_below (P := l.prog) (w := w) (base := base) T G_is_whole F_is_below (PySem.W.mg_of X G a_is_below) b_is_below
  have G_Table_init := cal_Table_init (P := l.prog) (w := w) (base := base) T G_is_below F_Table_init ⟨mkk_Table, a_Table_init, i_Table_init, kc_Table⟩ T.g_Table b_Table_init
  have G_Table_many := cal_Table_many (P := l.prog) (w := w) (base := base) T  F_Table_many ⟨a_Table_many, i_Table_many, k_Table_many⟩ b_Table_many
  have G_Table_numbers := cal_Table_numbers (P := l.prog) (w := w) (base := base) T  F_Table_numbers ⟨a_Table_numbers, i_Table_numbers, k_Table_numbers⟩ b_Table_numbers
  have G_Table_columns := cal_Table_columns (P := l.prog) (w := w) (base := base) T  F_Table_columns ⟨a_Table_columns, i_Table_columns, k_Table_columns⟩ b_Table_columns
  have G_law_cell := cal_law_cell (P := l.prog) (w := w) (base := base) T  F_law_cell (PySem.W.mg_of X G a_law_cell) b_law_cell
  have G_law_refused := cal_law_refused (P := l.prog) (w := w) (base := base) T G_Table_init F_law_refused (PySem.W.mg_of X G a_law_refused) b_law_refused
  exact fn_law (P := l.prog) (w := w) (base := base) T G_law_cell G_law_refused G_Table_many G_Table_numbers G_Table_columns G_Table_init F_law
theorem walk {l : PySem.W.OpenLaw} {q : Program} {loose : List Str} {XP : (Str → Option Value) → Heap → Prop} {YP : World → Heap → Prop} {d : DefRec} {K : Params → PySem.W.Frag} (hn : l.most = some 63) (hdf : d.params.defaults = [])
    (hY : ∀ (w : World) (h : Heap), YP w h → (K w.params).In h)
    (F : ∀ (w : World) (mg : Str → Option Value) (fa : Addr) (h : Heap), (K w.params).In h → h.Ns mainGlobals mg → mg d.name = some (.ref fa) →
      ∃ fd : FuncData, (∀ (s : Shared) (u : Value), BindsTo s fd ⟨[u], []⟩ [("script", u)]) ∧ ∀ base : Heap, (K w.params).In base → base.Ns mainGlobals mg → FnOk l.prog w (K w.params) mg base (L2.CX l.prog w) 6 fa fd ["script"] (spLaw (K w.params))) :
    PySem.W.WalkO q loose XP YP l.row.toRowW d [] (fun f vs => PySem.call f vs) :=
  L2.walk_of (n := 63) (k := 6) (x := "script") (CX := fun w => L2.CX l.prog w) (sp := fun w => spLaw (K w.params)) hn (by decide) hdf ⟨rfl, by decide, by decide⟩ hY F (fun _ _ a ns hl _ hS => ⟨a, ns, rfl, hS, hl, fun _ => rfl⟩) (fun _ _ _ _ _ z => cx_no z)
end Z
open PySem PySem.W PyProof.Rows
set_option maxRecDepth 100000 in
set_option maxHeartbeats 0 in
theorem PySem.Challenge.cw_lazycols_k05_tables_made_holds : PySem.Challenge.rw_lazycols_k05_tables_made.Holds := by
  w_on; o_law; k_head; (case hw => w_witness2)
  k_fill
  refine Z.walk (l := PySem.Challenge.rw_lazycols_k05_tables_made) rfl rfl (fun w h Y => PySem.W.kIn_of Y) ?F
  case F =>
    intro w mg fa h KX G hmg
    refine' Z.all_mk KX G hmg ?a_ColsError ?a_NoName ?a_NoValue ?a_NoTable ?a_NoColumn ?a_NoPlace ?a_NoSize ?a_NoText ?a_NoRow ?a_NoBack ?a_TooMuch ?a_Ruled ?a_Ring ?a_Nobody ?a_Several ?a_Table ?a_is_whole ?l_is_whole ?c_is_whole ?k_is_whole ?a_is_below ?l_is_below ?c_is_below ?k_is_below ?a_Table_init ?i_Table_init ?mkk_Table ?kc_Table ?l_Table_init ?c_Table_init ?k_Table_init ?a_Table_many ?i_Table_many ?l_Table_many ?c_Table_many ?k_Table_many ?a_Table_numbers ?i_Table_numbers ?l_Table_numbers ?c_Table_numbers ?k_Table_numbers ?a_Table_columns ?i_Table_columns ?l_Table_columns ?c_Table_columns ?k_Table_columns ?a_law_cell ?l_law_cell ?c_law_cell ?k_law_cell ?a_law_refused ?l_law_refused ?c_law_refused ?k_law_refused ?a_law ?l_law ?c_law ?k_law ?n_ValueError ?n_bool ?n_int ?n_isinstance ?n_len ?n_list ?n_range ?n_str ?g_MOST_ROWS ?pg_Table ?hd_Table ?po_Table ?sa_Table ?na_Table_held ?na_Table_coming ?na_Table_rows_now ?xx_NoSize ?xk_NoSize ?xb_NoSize ?xt_NoSize ?xcg_NoSize ?xck_NoSize ?xcd_NoSize ?xca_NoSize ?xcn ?xct ?xcm_NoSize ?xb_ColsError ?xv_NoSize ?yy_NoSize_NoSize ?xi_Nobody ?xt_Nobody ?yy_NoSize_Nobody ?xi_NoBack ?xt_NoBack ?yy_NoSize_NoBack ?xi_NoColumn ?xt_NoColumn ?yy_NoSize_NoColumn ?xi_NoPlace ?xt_NoPlace ?yy_NoSize_NoPlace ?xi_NoRow ?xt_NoRow ?yy_NoSize_NoRow ?xi_NoName ?xt_NoName ?yy_NoSize_NoName ?xi_NoTable ?xt_NoTable ?yy_NoSize_NoTable ?xi_NoText ?xt_NoText ?yy_NoSize_NoText ?xi_NoValue ?xt_NoValue ?yy_NoSize_NoValue ?xi_Ring ?xt_Ring ?yy_NoSize_Ring ?xi_Ruled ?xt_Ruled ?yy_NoSize_Ruled ?xi_Several ?xt_Several ?yy_NoSize_Several ?xi_NoSize ?xi_TooMuch ?xt_TooMuch ?yy_NoSize_TooMuch ?xi_ColsError ?xt_ColsError ?yy_NoSize_ColsError
    (case a_ColsError => k_is)
    (case a_NoName => k_is)
    (case a_NoValue => k_is)
    (case a_NoTable => k_is)
    (case a_NoColumn => k_is)
    (case a_NoPlace => k_is)
    (case a_NoSize => k_is)
    (case a_NoText => k_is)
    (case a_NoRow => k_is)
    (case a_NoBack => k_is)
    (case a_TooMuch => k_is)
    (case a_Ruled => k_is)
    (case a_Ring => k_is)
    (case a_Nobody => k_is)
    (case a_Several => k_is)
    (case a_Table => k_is)
    (case a_is_whole => k_is)
    (case l_is_whole => k_is)
    (case c_is_whole => k_is)
    (case k_is_whole => k_is)
    (case a_is_below => k_is)
    (case l_is_below => k_is)
    (case c_is_below => k_is)
    (case k_is_below => k_is)
    (case a_Table_init => k_is)
    (case i_Table_init => k_is)
    (case mkk_Table => k_is)
    (case kc_Table => k_is)
    (case l_Table_init => k_is)
    (case c_Table_init => k_is)
    (case k_Table_init => k_is)
    (case a_Table_many => k_is)
    (case i_Table_many => k_is)
    (case l_Table_many => k_is)
    (case c_Table_many => k_is)
    (case k_Table_many => k_is)
    (case a_Table_numbers => k_is)
    (case i_Table_numbers => k_is)
    (case l_Table_numbers => k_is)
    (case c_Table_numbers => k_is)
    (case k_Table_numbers => k_is)
    (case a_Table_columns => k_is)
    (case i_Table_columns => k_is)
    (case l_Table_columns => k_is)
    (case c_Table_columns => k_is)
    (case k_Table_columns => k_is)
    (case a_law_cell => k_is)
    (case l_law_cell => k_is)
    (case c_law_cell => k_is)
    (case k_law_cell => k_is)
    (case a_law_refused => k_is)
    (case l_law_refused => k_is)
    (case c_law_refused => k_is)
    (case k_law_refused => k_is)
    (case a_law => k_is)
    (case l_law => k_is)
    (case c_law => k_is)
    (case k_law => k_is)
    (case n_ValueError => k_is)
    (case n_bool => k_is)
    (case n_int => k_is)
    (case n_isinstance => k_is)
    (case n_len => k_is)
    (case n_list => k_is)
    (case n_range => k_is)
    (case n_str => k_is)
    (case g_MOST_ROWS => k_is)
    (case pg_Table => k_is)
    (case hd_Table => k_is)
    (case po_Table => k_is)
    (case sa_Table => k_is)
    (case na_Table_held => k_is)
    (case na_Table_coming => k_is)
    (case na_Table_rows_now => k_is)
    (case xx_NoSize => k_exc)
    (case xk_NoSize => k_is)
    (case xb_NoSize => k_is)
    (case xt_NoSize => k_is)
    (case xcg_NoSize => k_is)
    (case xck_NoSize => k_is)
    (case xcd_NoSize => k_is)
    (case xca_NoSize => k_is)
    (case xcn => k_is)
    (case xct => k_is)
    (case xcm_NoSize => k_is)
    (case xb_ColsError => k_is)
    (case xv_NoSize => k_is)
    (case yy_NoSize_NoSize => first | rfl | k_is)
    (case xi_Nobody => k_is)
    (case xt_Nobody => k_is)
    (case yy_NoSize_Nobody => first | rfl | k_is)
    (case xi_NoBack => k_is)
    (case xt_NoBack => k_is)
    (case yy_NoSize_NoBack => first | rfl | k_is)
    (case xi_NoColumn => k_is)
    (case xt_NoColumn => k_is)
    (case yy_NoSize_NoColumn => first | rfl | k_is)
    (case xi_NoPlace => k_is)
    (case xt_NoPlace => k_is)
    (case yy_NoSize_NoPlace => first | rfl | k_is)
    (case xi_NoRow => k_is)
    (case xt_NoRow => k_is)
    (case yy_NoSize_NoRow => first | rfl | k_is)
    (case xi_NoName => k_is)
    (case xt_NoName => k_is)
    (case yy_NoSize_NoName => first | rfl | k_is)
    (case xi_NoTable => k_is)
    (case xt_NoTable => k_is)
    (case yy_NoSize_NoTable => first | rfl | k_is)
    (case xi_NoText => k_is)
    (case xt_NoText => k_is)
    (case yy_NoSize_NoText => first | rfl | k_is)
    (case xi_NoValue => k_is)
    (case xt_NoValue => k_is)
    (case yy_NoSize_NoValue => first | rfl | k_is)
    (case xi_Ring => k_is)
    (case xt_Ring => k_is)
    (case yy_NoSize_Ring => first | rfl | k_is)
    (case xi_Ruled => k_is)
    (case xt_Ruled => k_is)
    (case yy_NoSize_Ruled => first | rfl | k_is)
    (case xi_Several => k_is)
    (case xt_Several => k_is)
    (case yy_NoSize_Several => first | rfl | k_is)
    (case xi_NoSize => k_is)
    (case xi_TooMuch => k_is)
    (case xt_TooMuch => k_is)
    (case yy_NoSize_TooMuch => first | rfl | k_is)
    (case xi_ColsError => k_is)
    (case xt_ColsError => k_is)
    (case yy_NoSize_ColsError => first | rfl | k_is)
