import PyProof.Rows.All
import Wide.All
import OpenK.AllK
import Wide.FinOn
import HandS.ForMost
import HandS.ForExc
import HandS.TupLe
import HandS.IsInst
import HandS.Small
import HandS.Wide
import HandS.ExcIs
import HandS.DictComp
import HandS.Rev
import HandS.Codes
import HandS.HotCalls
import HandS.SortInts
import KE.Datum
import HandS.AnyAll
import HandS.GenList
import HandS.EndTab
import PyProof.GenQ
import HandS.Style
import HandS.Flow
import HandS.More
import HandS.DictTup
import HandS.TupLen
import HandS.Deep
import KE.SortData
import PySem.Challenge.RW_laminae_k10_blocks_that_are_no_nodes
set_option Elab.async false
set_option linter.all false
set_option maxRecDepth 100000
set_option maxHeartbeats 4000000
namespace U
open PySem PySem.Spec PyProof.Rows L2
section weaken
variable {X : Cx}
theorem orR {f : Value → Value → Sem Value} {r r' : R2} (h : OpR X f r) (g : OpR X f r') : OpR X f (fun x y H Q => r x y H Q ∨ r' x y H Q) :=
  fun pins s σ H x y v u Q I rx ry q => q.elim (h pins s σ H x y v u Q I rx ry) (g pins s σ H x y v u Q I rx ry)
theorem wR {f : Value → Value → Sem Value} {r r' : R2} (h : OpR X f r) (k : ∀ x y H Q, r' x y H Q → r x y H Q) : OpR X f r' :=
  fun pins s σ H x y v u Q I rx ry q => h pins s σ H x y v u Q I rx ry (k _ _ _ _ q)
theorem wC {f : Value} {r r' : List V → Hp → VK → Prop} (h : CallR X f r) (k : ∀ xs H Q, r' xs H Q → r xs H Q) : CallR X f r' :=
  fun pins s σ H xs us Q I rx q => h pins s σ H xs us Q I rx (k _ _ _ q)
theorem orC {f : Value} {r r' : List V → Hp → VK → Prop} (h : CallR X f r) (g : CallR X f r') : CallR X f (fun xs H Q => r xs H Q ∨ r' xs H Q) :=
  fun pins s σ H xs us Q I rx q => q.elim (h pins s σ H xs us Q I rx) (g pins s σ H xs us Q I rx)
end weaken
section ops
variable {X : Cx}
/-- text times number -/
theorem op_strmul : OpR X (binaryOp .Mult) (fun x y H Q => ∃ (z : Str) (n : Int), x = .str z ∧ y = .int n ∧ MulOk z n ∧ Q (.str (Txt.mul z n)) H) := by
  intro pins s σ H x y v u Q I rx ry h
  obtain ⟨z, n, rfl, rfl, ok, q⟩ := h
  obtain ⟨t, rfl⟩ := rx
  obtain ⟨t', rfl⟩ := ry
  exact SB.mul ok fun t1 k => ⟨.str (Txt.mul z n), H, I.tok _, ⟨_, rfl⟩, q⟩
def uAdd (K : PySem.W.Frag) : R2 := fun x y H Q => match x, y with
  | .int i, .int j => Q (.int (i + j)) H
  | .str i, .str j => i.length + j.length ≤ sizeLine ∧ Q (.str (i ++ j)) H
  | .ref a, .ref b => rCat (.ref a) (.ref b) H Q ∨ rCatT K (.ref a) (.ref b) H Q
  | _, _ => False
theorem o_add : OpR X (binaryOp .Add) (uAdd X.K) := by
  refine wR (orR op_add (orR op_add_str (orR op_cat op_catT))) fun x y H Q q => ?_
  unfold uAdd at q
  split at q
  · exact .inl ⟨_, _, rfl, rfl, q⟩
  · exact .inr (.inl ⟨_, _, rfl, rfl, q⟩)
  · exact .inr (.inr q)
  · exact q.elim
def uSub : R2 := fun x y H Q => match x, y with
  | .int i, .int j => Q (.int (i - j)) H
  | _, _ => False
theorem o_sub : OpR X (binaryOp .Sub) uSub := by
  refine wR op_sub fun x y H Q q => ?_
  unfold uSub at q
  split at q
  · exact ⟨_, _, rfl, rfl, q⟩
  · exact q.elim
def uMul : R2 := fun x y H Q => match x, y with
  | .int i, .int j => (CMul i j ∨ CMulW i j) ∧ Q (.int (i * j)) H
  | .str z, .int n => MulOk z n ∧ Q (.str (Txt.mul z n)) H
  | .ref a, .int n => rRep (.ref a) (.int n) H Q
  | _, _ => False
theorem o_mul : OpR X (binaryOp .Mult) uMul := by
  refine wR (orR op_mul (orR op_mulW (orR op_strmul op_rep))) fun x y H Q q => ?_
  unfold uMul at q
  split at q
  · obtain ⟨c | c, q⟩ := q
    · exact .inl ⟨_, _, rfl, rfl, c, q⟩
    · exact .inr (.inl ⟨_, _, rfl, rfl, c, q⟩)
  · exact .inr (.inr (.inl ⟨_, _, rfl, rfl, q⟩))
  · exact .inr (.inr (.inr q))
  · exact q.elim
def uDiv : R2 := fun x y H Q => match x, y with
  | .int i, .int j => (0 < j ∧ j < 2 ^ 200) ∧ Q (.int (i / j)) H
  | _, _ => False
theorem o_div : OpR X (binaryOp .FloorDiv) uDiv := by
  refine wR op_fdivW fun x y H Q q => ?_
  unfold uDiv at q
  split at q
  · obtain ⟨⟨c1, c2⟩, q⟩ := q
    exact ⟨_, _, rfl, rfl, wide_div (b := 200) c1 (by omega) (by decide) (by decide), q⟩
  · exact q.elim
def uMod : R2 := fun x y H Q => match x, y with
  | .int i, .int j => 0 < j ∧ Q (.int (i % j)) H
  | _, _ => False
theorem o_mod : OpR X (binaryOp .Mod) uMod := by
  refine wR op_mod fun x y H Q q => ?_
  unfold uMod at q
  split at q
  · exact ⟨_, _, rfl, rfl, q⟩
  · exact q.elim
def uPow : R2 := fun x y H Q => match x, y with
  | .int i, .int j => CPow i j ∧ Q (.int (i ^ j.toNat)) H
  | _, _ => False
theorem o_pow : OpR X (binaryOp .Pow) uPow := by
  refine wR op_pow fun x y H Q q => ?_
  unfold uPow at q
  split at q
  · exact ⟨_, _, rfl, rfl, q⟩
  · exact q.elim
def uNeg : V → Hp → VK → Prop := fun x H Q => match x with
  | .int i => Q (.int (-i)) H
  | _ => False
theorem o_neg : UnR X (unaryOp .USub) uNeg := fun pins s σ H x v Q I rx q => by
  unfold uNeg at q
  split at q
  · exact un_neg pins s σ H _ v Q I rx ⟨_, rfl, q⟩
  · exact q.elim
/-- == of data without dicts -/
def rEqP (K : PySem.W.Frag) : R2 := fun x y H Q => ∃ d e, Dp K H x d ∧ Dp K H y e ∧ (d.plain = true ∧ d.depth ≤ 60) ∧ e.plain = true ∧ Q (.bl (PyData.eqv d e)) H
def rNeP (K : PySem.W.Frag) : R2 := fun x y H Q => ∃ d e, Dp K H x d ∧ Dp K H y e ∧ (d.plain = true ∧ d.depth ≤ 60) ∧ e.plain = true ∧ Q (.bl (!PyData.eqv d e)) H
theorem op_eqP (hu : X.A.units + 64 < cLine) : OpR X (compareOp .Eq) (rEqP X.K) := by
  intro pins s σ H x y v u Q I rx ry h
  obtain ⟨d, e, hd, he, ⟨p1, dp⟩, p2, q⟩ := h
  obtain ⟨as, r1⟩ := Dp.reads I d x v hd rx
  obtain ⟨bs, r2⟩ := Dp.reads I e y u he ry
  exact PySem.SeqAt.eq_plain r1 r2 p1 p2 (by have := Nat.min_le_left d.depth e.depth; omega) ⟨.bl _, H, I, rfl, q⟩
theorem op_neP (hu : X.A.units + 64 < cLine) : OpR X (compareOp .NotEq) (rNeP X.K) := by
  intro pins s σ H x y v u Q I rx ry h
  obtain ⟨d, e, hd, he, ⟨p1, dp⟩, p2, q⟩ := h
  obtain ⟨as, r1⟩ := Dp.reads I d x v hd rx
  obtain ⟨bs, r2⟩ := Dp.reads I e y u he ry
  exact PySem.SeqAt.ne_plain r1 r2 p1 p2 (by have := Nat.min_le_left d.depth e.depth; omega) ⟨.bl _, H, I, rfl, q⟩
theorem d_int (i j : Int) : decide (V.int i = V.int j) = decide (i = j) := decide_eq_decide.mpr ⟨fun h => V.int.inj h, fun h => h ▸ rfl⟩
theorem d_str (i j : Str) : decide (V.str i = V.str j) = decide (i = j) := decide_eq_decide.mpr ⟨fun h => V.str.inj h, fun h => h ▸ rfl⟩
theorem d_bl (i j : Bool) : decide (V.bl i = V.bl j) = decide (i = j) := decide_eq_decide.mpr ⟨fun h => V.bl.inj h, fun h => h ▸ rfl⟩
/-- the same value, of two scalars -/
def sameS : V → V → Bool
  | .non, .non => true
  | .int i, .int j => decide (i = j)
  | .str i, .str j => decide (i = j)
  | .bl i, .bl j => decide (i = j)
  | .byt i, .byt j => decide (i = j)
  | _, _ => false
theorem sameS_eq {x y : V} (h : scal x y = true) : decide (x = y) = sameS x y := by
  cases x <;> cases y <;> first
    | (cases h; done)
    | exact d_int _ _
    | exact d_str _ _
    | exact d_bl _ _
    | rfl
    | (exact decide_eq_decide.mpr ⟨fun h => V.byt.inj h, fun h => h ▸ rfl⟩)
    | (exact decide_eq_false (fun q => nomatch q))
def uEq (K : PySem.W.Frag) : R2 := fun x y H Q => match x, y with
  | .int i, .int j => Q (.bl (decide (i = j))) H
  | .str i, .str j => Q (.bl (decide (i = j))) H
  | .bl i, .bl j => Q (.bl (decide (i = j))) H
  | x, y => (scal x y = true ∧ Q (.bl (sameS x y)) H) ∨ rEqP K x y H Q
theorem o_eq (hu : X.A.units + 64 < cLine) : OpR X (compareOp .Eq) (uEq X.K) := by
  refine wR (orR op_eq (op_eqP hu)) fun x y H Q q => ?_
  unfold uEq at q
  split at q
  · exact .inl ⟨rfl, (d_int _ _).symm ▸ q⟩
  · exact .inl ⟨rfl, (d_str _ _).symm ▸ q⟩
  · exact .inl ⟨rfl, (d_bl _ _).symm ▸ q⟩
  · rcases q with ⟨h, q⟩ | q
    · exact .inl ⟨h, (sameS_eq h).symm ▸ q⟩
    · exact .inr q
def uNe (K : PySem.W.Frag) : R2 := fun x y H Q => match x, y with
  | .int i, .int j => Q (.bl (!decide (i = j))) H
  | .str i, .str j => Q (.bl (!decide (i = j))) H
  | .bl i, .bl j => Q (.bl (!decide (i = j))) H
  | x, y => (scal x y = true ∧ Q (.bl (!sameS x y)) H) ∨ rNeP K x y H Q
theorem o_ne (hu : X.A.units + 64 < cLine) : OpR X (compareOp .NotEq) (uNe X.K) := by
  refine wR (orR op_ne (op_neP hu)) fun x y H Q q => ?_
  unfold uNe at q
  split at q
  · exact .inl ⟨rfl, (d_int _ _).symm ▸ q⟩
  · exact .inl ⟨rfl, (d_str _ _).symm ▸ q⟩
  · exact .inl ⟨rfl, (d_bl _ _).symm ▸ q⟩
  · rcases q with ⟨h, q⟩ | q
    · exact .inl ⟨h, (sameS_eq h).symm ▸ q⟩
    · exact .inr q
/-- tuples of ints in their order -/
theorem lexAt_eq (ns ms : List Int) (op : Int → Int → Bool) (z : Bool) (f : List Int → List Int → Bool)
    (h0 : ∀ i, i = ns.length ∨ i = ms.length → i ≤ ns.length → i ≤ ms.length → f (ns.drop i) (ms.drop i) = z)
    (h1 : ∀ x xs y ys, f (x :: xs) (y :: ys) = if x = y then f xs ys else op x y) :
    ∀ k i, i + k = min ns.length ms.length → Ob.lexAt (fun j => decide (ns.getD j 0 = ms.getD j 0)) (fun j => op (ns.getD j 0) (ms.getD j 0)) z i k = f (ns.drop i) (ms.drop i)
  | 0, i, h => by
    rw [Ob.lexAt_zero, h0 i (by omega) (by omega) (by omega)]
  | k + 1, i, h => by
    have a : i < ns.length := by omega
    have b : i < ms.length := by omega
    rw [Ob.lexAt_succ, List.drop_eq_getElem_cons a, List.drop_eq_getElem_cons b, h1, lexAt_eq ns ms op z f h0 h1 k (i + 1) (by omega)]
    simp only [List.getD_eq_getElem?_getD, List.getElem?_eq_getElem a, List.getElem?_eq_getElem b, Option.getD_some, decide_eq_true_eq]
def lexLe (a b : List Int) : Bool := !HT.lexLt b a
theorem lexLe_cons (x y : Int) (xs ys : List Int) : lexLe (x :: xs) (y :: ys) = if x = y then lexLe xs ys else decide (x ≤ y) := by
  unfold lexLe
  rw [HT.lexLt_cons]
  by_cases h : x = y
  · rw [if_pos h, if_pos h.symm]
  · rw [if_neg h, if_neg (fun e => h e.symm), ← decide_not]
    exact decide_eq_decide.mpr (by omega)
theorem lexLe_end (ns ms : List Int) (i : Nat) (h : i = ns.length ∨ i = ms.length) (h1 : i ≤ ns.length) (h2 : i ≤ ms.length) : lexLe (ns.drop i) (ms.drop i) = decide (ns.length ≤ ms.length) := by
  unfold lexLe
  by_cases a : i = ns.length
  · have e : ns.drop i = [] := List.drop_eq_nil_of_le (by omega)
    rw [e, decide_eq_true (by omega)]
    cases ms.drop i <;> rfl
  · have e : ms.drop i = [] := List.drop_eq_nil_of_le (by omega)
    rw [e, decide_eq_false (by omega)]
    cases e2 : ns.drop i with
    | nil => exact absurd (List.drop_eq_nil_iff.mp e2) (by omega)
    | cons x r => rfl
theorem lexAt_le (ns ms : List Int) : Ob.lexAt (fun j => decide (ns.getD j 0 = ms.getD j 0)) (fun j => decide (ns.getD j 0 ≤ ms.getD j 0)) (decide (ns.length ≤ ms.length)) 0 (min ns.length ms.length) = lexLe ns ms :=
  lexAt_eq ns ms (fun x y => decide (x ≤ y)) _ lexLe (fun i h a b => lexLe_end ns ms i h a b) (fun x xs y ys => lexLe_cons x y xs ys) _ 0 (by omega)
def lexGe (a b : List Int) : Bool := !HT.lexLt a b
theorem lexGe_le (a b : List Int) : lexGe a b = lexLe b a := rfl
theorem lexAt_ge (ns ms : List Int) : Ob.lexAt (fun j => decide (ns.getD j 0 = ms.getD j 0)) (fun j => decide (ns.getD j 0 ≥ ms.getD j 0)) (decide (ns.length ≥ ms.length)) 0 (min ns.length ms.length) = lexGe ns ms := by
  refine lexAt_eq ns ms (fun x y => decide (x ≥ y)) _ lexGe (fun i h a b => ?_) (fun x xs y ys => ?_) _ 0 (by omega)
  · rw [lexGe_le, lexLe_end ms ns i (by omega) b a]
  · rw [lexGe_le, lexLe_cons, lexGe_le]
    by_cases h : x = y
    · rw [if_pos h, if_pos h.symm]
    · rw [if_neg h, if_neg (fun e => h e.symm)]
def rGeT (K : PySem.W.Frag) : R2 := fun x y H Q => ∃ (a b : Addr) (ns ms : List Int), x = .ref a ∧ y = .ref b ∧ SqT K H a (ns.map V.int) ∧ SqT K H b (ms.map V.int) ∧ Q (.bl (lexGe ns ms)) H
theorem ints_at {us : List Value} {ns : List Int} (h : IntsAre us ns) (j : Nat) (h1 : j < us.toArray.size) : ∃ t, us.toArray[j] = .int (ns.getD j 0) t := PyProof.Rows.IntsAre.int_at h _ _ (by simp at h1; simp [h1])
theorem op_geT (hu : X.A.units < cLine) : OpR X (compareOp .GtE) (rGeT X.K) := by
  intro pins s σ H x y v u Q I rx ry h
  obtain ⟨a, b, ns, ms, rfl, rfl, ha, hb, q⟩ := h
  cases rx; cases ry
  obtain ⟨us, r1, p1, _⟩ := I.tuple ha
  obtain ⟨ws, r2, p2, _⟩ := I.tuple hb
  have j1 : IntsAre us ns := Vals.ints r1
  have j2 : IntsAre ws ms := Vals.ints r2
  have n1 : us.toArray.size = ns.length := List.size_toArray.trans j1.length
  have n2 : ws.toArray.size = ms.length := List.size_toArray.trans j2.length
  have R := Ob.RcOp.tuples_ge (A := X.A) (s := s) (e := fun j => decide (ns.getD j 0 = ms.getD j 0)) (r := fun j => decide (ns.getD j 0 ≥ ms.getD j 0)) p1 p2 hu
    (fun j h1 h2 => by
      obtain ⟨t, e1⟩ := ints_at j1 j h1
      obtain ⟨t', e2⟩ := ints_at j2 j h2
      rw [e1, e2, ← Bool.beq_eq_decide_eq]
      exact SeqAt.EqAt.int_int _ _ _ _)
    (fun j h1 h2 _ => by
      obtain ⟨t, e1⟩ := ints_at j1 j h1
      obtain ⟨t', e2⟩ := ints_at j2 j h2
      rw [e1, e2]
      exact Ob.RcOp.ge_int _ _ _ _)
  rw [n1, n2, lexAt_ge] at R
  exact R X.prog X.w X.xe (EP X pins σ Q) ⟨.bl _, H, I, rfl, q⟩
def uLt (K : PySem.W.Frag) : R2 := fun x y H Q => match x, y with
  | .int i, .int j => Q (.bl (decide (i < j))) H
  | .ref a, .ref b => ∃ ns ms : List Int, SqT K H a (ns.map V.int) ∧ SqT K H b (ms.map V.int) ∧ Q (.bl (HT.lexLt ns ms)) H
  | _, _ => False
theorem o_lt (hu : X.A.units < cLine) : OpR X (compareOp .Lt) (uLt X.K) := by
  refine wR (orR op_lt (op_ltT hu)) fun x y H Q q => ?_
  unfold uLt at q
  split at q
  · exact .inl ⟨_, _, rfl, rfl, q⟩
  · obtain ⟨ns, ms, a, b, q⟩ := q
    exact .inr ⟨_, _, ns, ms, rfl, rfl, a, b, q⟩
  · exact q.elim
def uLe (K : PySem.W.Frag) : R2 := fun x y H Q => match x, y with
  | .int i, .int j => Q (.bl (decide (i ≤ j))) H
  | .ref a, .ref b => ∃ ns ms : List Int, SqT K H a (ns.map V.int) ∧ SqT K H b (ms.map V.int) ∧ Q (.bl (lexLe ns ms)) H
  | _, _ => False
theorem o_le (hu : X.A.units < cLine) : OpR X (compareOp .LtE) (uLe X.K) := by
  refine wR (orR op_le (op_leT hu)) fun x y H Q q => ?_
  unfold uLe at q
  split at q
  · exact .inl ⟨_, _, rfl, rfl, q⟩
  · obtain ⟨ns, ms, a, b, q⟩ := q
    exact .inr ⟨_, _, ns, ms, rfl, rfl, a, b, by rw [lexAt_le]; exact q⟩
  · exact q.elim
def uGe (K : PySem.W.Frag) : R2 := fun x y H Q => match x, y with
  | .int i, .int j => Q (.bl (decide (j ≤ i))) H
  | .ref a, .ref b => ∃ ns ms : List Int, SqT K H a (ns.map V.int) ∧ SqT K H b (ms.map V.int) ∧ Q (.bl (lexGe ns ms)) H
  | _, _ => False
theorem o_ge (hu : X.A.units < cLine) : OpR X (compareOp .GtE) (uGe X.K) := by
  refine wR (orR op_ge (op_geT hu)) fun x y H Q q => ?_
  unfold uGe at q
  split at q
  · exact .inl ⟨_, _, rfl, rfl, q⟩
  · obtain ⟨ns, ms, a, b, q⟩ := q
    exact .inr ⟨_, _, ns, ms, rfl, rfl, a, b, q⟩
  · exact q.elim
def uGt : R2 := fun x y H Q => match x, y with
  | .int i, .int j => Q (.bl (decide (j < i))) H
  | _, _ => False
theorem o_gt : OpR X (compareOp .Gt) uGt := by
  refine wR op_gt fun x y H Q q => ?_
  unfold uGt at q
  split at q
  · exact ⟨_, _, rfl, rfl, q⟩
  · exact q.elim
def isNon : V → Bool
  | .non => true
  | _ => false
theorem isNon_eq (x : V) : decide (x = .non) = isNon x := by
  cases x <;> first | rfl | exact decide_eq_false (fun q => nomatch q)
def uIs : R2 := fun x y H Q => match y with
  | .non => Q (.bl (isNon x)) H
  | .bl b => ∃ a, x = .bl a ∧ Q (.bl (decide (a = b))) H
  | _ => False
theorem o_is : OpR X (compareOp .Is) uIs := by
  refine wR (orR op_isN op_is_bl) fun x y H Q q => ?_
  unfold uIs at q
  split at q
  · exact .inl ⟨rfl, (isNon_eq x).symm ▸ q⟩
  · obtain ⟨a, e, q⟩ := q
    exact .inr ⟨a, _, e, rfl, q⟩
  · exact q.elim
def uIsnt : R2 := fun x y H Q => match y with
  | .non => Q (.bl (!isNon x)) H
  | .bl b => ∃ a, x = .bl a ∧ Q (.bl (!decide (a = b))) H
  | _ => False
theorem o_isnt : OpR X (compareOp .IsNot) uIsnt := by
  refine wR (orR op_notN op_isnot_bl) fun x y H Q q => ?_
  unfold uIsnt at q
  split at q
  · exact .inl ⟨rfl, (isNon_eq x).symm ▸ q⟩
  · obtain ⟨a, e, q⟩ := q
    exact .inr ⟨a, _, e, rfl, q⟩
  · exact q.elim
theorem op_ninD (hu : X.A.units + 1 < cLine) : OpR X (compareOp .NotIn) (fun x y H Q => ∃ a o, y = .ref a ∧ DGet H a x o ∧ Q (.bl (!o.isSome)) H) := by
  intro pins s σ H x y v u Q I rx ry h
  obtain ⟨a, o, rfl, g, q⟩ := h
  cases ry
  exact d_notIn hu I g rx fun s' I' => ⟨.bl (!o.isSome), H, I', rfl, q⟩
/-- in a list, a tuple of scalars; a dict -/
def uIn (K : PySem.W.Frag) : R2 := fun x y H Q => match y with
  | .ref a => (∃ xs, (SqL K H a xs ∨ SqT K H a xs) ∧ flatV x = true ∧ xs.all flatV = true ∧ Q (.bl (inV x xs)) H) ∨ ∃ o, DGet H a x o ∧ Q (.bl o.isSome) H
  | _ => False
def uNin (K : PySem.W.Frag) : R2 := fun x y H Q => match y with
  | .ref a => (∃ xs, (SqL K H a xs ∨ SqT K H a xs) ∧ flatV x = true ∧ xs.all flatV = true ∧ Q (.bl (!inV x xs)) H) ∨ ∃ o, DGet H a x o ∧ Q (.bl (!o.isSome)) H
  | _ => False
theorem o_nin (hu : X.A.units + 1 < cLine) : OpR X (compareOp .NotIn) (uNin X.K) := by
  refine wR (orR op_notIn_seq (op_ninD hu)) fun x y H Q q => ?_
  unfold uNin at q
  split at q
  · rcases q with ⟨xs, a, b, c, q⟩ | ⟨o, g, q⟩
    · exact .inl ⟨_, xs, rfl, a, b, c, q⟩
    · exact .inr ⟨_, o, rfl, g, q⟩
  · exact q.elim
end ops
section subs
variable {X : Cx}
/-- a[b] of lists, tuples, texts -/
def uIx (K : PySem.W.Frag) : R2 := fun x y H Q => match x, y with
  | .ref p, .int i => ∃ xs v, (SqL K H p xs ∨ SqT K H p xs) ∧ atI xs i = some v ∧ Q v H
  | .str z, .int i => z.length ≤ sizeLine ∧ ∃ c, atI z.cps.toList i = some c ∧ Q (.str ⟨#[c]⟩) H
  | _, _ => False
theorem ix_u : IxR X (uIx X.K) := by
  intro value slice pins s σ H x y v u Q I rx ry h hs
  refine ix_seq value slice pins s σ H x y v u Q I rx ry ?_ hs
  unfold uIx at h
  split at h
  · obtain ⟨xs, v, e | e, g, q⟩ := h
    · exact .inl ⟨_, xs, _, v, rfl, rfl, e, g, q⟩
    · exact .inr (.inl ⟨_, xs, _, v, rfl, rfl, e, g, q⟩)
  · obtain ⟨z, c, e, q⟩ := h
    exact .inr (.inr ⟨_, _, c, rfl, rfl, z, e, q⟩)
  · exact h.elim
theorem e_ix {a b : Expr} {ta tb : TE} {pos : Pos} (ha : PE X a ta) (hb : PE X b tb) (hs : PlainIx b := by exact fun _ _ => rfl) : PE X (.Subscript a b pos) (tOp (uIx X.K) ta tb) := pe_ix ix_u ha hb hs
/-- a[lo:hi] -/
def uSl (K : PySem.W.Frag) : V → Option Int → Option Int → Hp → VK → Prop := fun x lo hi H Q => rSlL K x lo hi H Q ∨ rSlT K x lo hi H Q ∨ rSlS x lo hi H Q
theorem sl_u : SlR X (uSl X.K) := SlR.or sl_list (SlR.or sl_tup sl_str)
theorem e_sl {e : Expr} {lo hi : Option Expr} {te : TE} {tl th : TO} {p2 pos : Pos} (he : PE X e te) (hl : PO X lo tl) (hh : PO X hi th) : PE X (.Subscript e (.Slice lo hi none p2) pos) (tSl (uSl X.K) te tl th) := pe_slice sl_u he hl hh
/-- a[i] by values, for a[i] += e -/
def uGet (K : PySem.W.Frag) : V → V → Hp → VK → Prop := fun x y H Q => match x, y with
  | .ref p, .int i => (0 ≤ i ∧ ∃ xs v, SqL K H p xs ∧ xs[i.toNat]? = some v ∧ Q v H) ∨ ∃ v, DGet H p (.int i) (some v) ∧ Q v H
  | .ref p, y => ∃ v, DGet H p y (some v) ∧ Q v H
  | _, _ => False
/-- a[i] = v -/
def uSet : TSet := fun o i v H Q => match o, i with
  | .ref p, .int k => (∃ xs j, H p = some (.lst xs) ∧ ixN xs.length k = some j ∧ Q (upd H p (.lst (xs.set j v)))) ∨ ∃ H', DPut H p (.int k) v H' ∧ Q H'
  | .ref p, i => ∃ H', DPut H p i v H' ∧ Q H'
  | _, _ => False
theorem set_u (hu : X.A.units + 1 < cLine) : PSet X uSet := by
  intro pins s σ H o i v ov iv u Q I ro ri rv h
  unfold uSet at h
  split at h
  · rcases h with ⟨xs, j, e, g, q⟩ | ⟨H', g, q⟩
    · exact set_list pins s σ H _ _ v ov iv u Q I ro ri rv ⟨_, xs, _, j, rfl, rfl, e, g, q⟩
    · exact set_dict hu pins s σ H _ _ v ov iv u Q I ro ri rv ⟨_, H', rfl, g, q⟩
  · obtain ⟨H', g, q⟩ := h
    exact set_dict hu pins s σ H _ _ v ov iv u Q I ro ri rv ⟨_, H', rfl, g, q⟩
  · exact h.elim
end subs
section calls
variable {X : Cx}
/-- len -/
def uLen (K : PySem.W.Frag) : List V → Hp → VK → Prop := fun xs H Q => match xs with
  | [.ref p] => (∃ ys, (SqL K H p ys ∨ SqT K H p ys) ∧ Q (.int ys.length) H) ∨ ∃ kvs, H p = some (.dK kvs) ∧ Q (.int kvs.length) H
  | [.str z] => z.length ≤ sizeLine ∧ Q (.int z.length) H
  | _ => False
theorem c_len : CallR X (.builtin "len") (uLen X.K) := by
  refine wC (orC call_len_seq (orC call_len_str call_lenD)) fun xs H Q q => ?_
  unfold uLen at q
  split at q
  · rcases q with ⟨ys, a, q⟩ | ⟨kvs, a, q⟩
    · exact .inl ⟨_, ys, rfl, a, q⟩
    · exact .inr (.inr ⟨_, kvs, rfl, a, q⟩)
  · exact .inr (.inl ⟨_, rfl, q⟩)
  · exact q.elim
/-- list(x), tuple(x) -/
def uList (K : PySem.W.Frag) : List V → Hp → VK → Prop := fun xs H Q => match xs with
  | [.ref p] => ∃ ys, (SqL K H p ys ∨ SqT K H p ys) ∧ ∀ l, H l = none → Q (.ref l) (upd H l (.lst ys))
  | _ => False
theorem c_list : CallR X (.type "list") (uList X.K) := by
  refine wC call_list_of fun xs H Q q => ?_
  unfold uList at q
  split at q
  · obtain ⟨ys, a, q⟩ := q
    exact ⟨_, ys, rfl, a, q⟩
  · exact q.elim
def uTuple (K : PySem.W.Frag) : List V → Hp → VK → Prop := fun xs H Q => match xs with
  | [.ref p] => ∃ ys, (SqL K H p ys ∧ ∀ l, H l = none → Q (.ref l) (upd H l (.tup ys))) ∨ (SqT K H p ys ∧ Q (.ref p) H)
  | _ => False
theorem c_tuple : CallR X (.type "tuple") (uTuple X.K) := by
  refine wC call_tuple_of fun xs H Q q => ?_
  unfold uTuple at q
  split at q
  · obtain ⟨ys, q⟩ := q
    exact ⟨_, ys, rfl, q⟩
  · exact q.elim
def uAbs : List V → Hp → VK → Prop := fun xs H Q => match xs with
  | [.int i] => Q (.int (if i < 0 then -i else i)) H
  | _ => False
def uMax (K : PySem.W.Frag) : List V → Hp → VK → Prop := fun xs H Q => match xs with
  | [.int i, .int j] => Q (.int (if j > i then j else i)) H
  | [.ref a] => ∃ ns : List Int, SqL K H a (ns.map V.int) ∧ 0 < ns.length ∧ ∀ m, m ∈ ns → (∀ y, y ∈ ns → y ≤ m) → Q (.int m) H
  | _ => False
def uMin (K : PySem.W.Frag) : List V → Hp → VK → Prop := fun xs H Q => match xs with
  | [.int i, .int j] => Q (.int (if j < i then j else i)) H
  | [.ref a] => ∃ ns : List Int, SqL K H a (ns.map V.int) ∧ 0 < ns.length ∧ ∀ m, m ∈ ns → (∀ y, y ∈ ns → m ≤ y) → Q (.int m) H
  | _ => False
def uInt : List V → Hp → VK → Prop := fun xs H Q => match xs with
  | [.int i] => Q (.int i) H
  | [.bl k] => Q (.int (if k then 1 else 0)) H
  | _ => False
inductive Ty | int | bool | str | list | tuple | dict
def Ty.nm : Ty → String
  | .int => "int" | .bool => "bool" | .str => "str" | .list => "list" | .tuple => "tuple" | .dict => "dict"
/-- of a scalar -/
def isS : Ty → V → Bool
  | .int, .int _ => true
  | .int, .bl _ => true
  | .bool, .bl _ => true
  | .str, .str _ => true
  | _, _ => false
/-- of an object that is a list, a tuple, a dict -/
inductive Ob | list | tuple | dict
def Ob.nm : Ob → String
  | .list => "list" | .tuple => "tuple" | .dict => "dict"
def isO : Ty → Ob → Bool
  | .list, .list => true
  | .tuple, .tuple => true
  | .dict, .dict => true
  | _, _ => false
def uIsi (K : PySem.W.Frag) (n : Ty) : List V → Hp → VK → Prop := fun xs H Q => match xs with
  | [.int i, .ty m] => m = n.nm ∧ Q (.bl (isS n (.int i))) H
  | [.bl i, .ty m] => m = n.nm ∧ Q (.bl (isS n (.bl i))) H
  | [.str i, .ty m] => m = n.nm ∧ Q (.bl (isS n (.str i))) H
  | [.non, .ty m] => m = n.nm ∧ Q (.bl (isS n .non)) H
  | [.ref a, .ty m] => m = n.nm ∧ ∃ o : Ob, TyX K H (.ref a) (.type o.nm) ∧ Q (.bl (isO n o)) H
  | _ => False
theorem kit_int : ∀ n : Ty, kitB "int" n.nm = some (isS n (.int 0)) := fun n => by cases n <;> decide +kernel
theorem kit_bool : ∀ n : Ty, kitB "bool" n.nm = some (isS n (.bl true)) := fun n => by cases n <;> decide +kernel
theorem kit_str : ∀ n : Ty, kitB "str" n.nm = some (isS n (.str Str.empty)) := fun n => by cases n <;> decide +kernel
theorem kit_non : ∀ n : Ty, kitB "NoneType" n.nm = some (isS n .non) := fun n => by cases n <;> decide +kernel
theorem kit_obj : ∀ (n : Ty) (o : Ob), kitB o.nm n.nm = some (isO n o) := fun n o => by cases n <;> cases o <;> decide +kernel
theorem c_isi (n : Ty) : CallR X (.builtin "isinstance") (uIsi X.K n) := by
  refine wC call_isi fun xs H Q q => ?_
  unfold uIsi at q
  split at q
  · obtain ⟨rfl, q⟩ := q
    exact ⟨_, _, .type "int", .type n.nm, _, rfl, .ty n.nm, .base (.int _), kit_ty (kit_int n), by cases n <;> exact q⟩
  · obtain ⟨rfl, q⟩ := q
    exact ⟨_, _, .type "bool", .type n.nm, _, rfl, .ty n.nm, .base (.bl _), kit_ty (kit_bool n), by cases n <;> exact q⟩
  · obtain ⟨rfl, q⟩ := q
    exact ⟨_, _, .type "str", .type n.nm, _, rfl, .ty n.nm, .base (.str _), kit_ty (kit_str n), by cases n <;> exact q⟩
  · obtain ⟨rfl, q⟩ := q
    exact ⟨_, _, .type "NoneType", .type n.nm, _, rfl, .ty n.nm, .base .non, kit_ty (kit_non n), by cases n <;> exact q⟩
  · obtain ⟨rfl, o, t, q⟩ := q
    exact ⟨_, _, .type o.nm, .type n.nm, _, rfl, .ty n.nm, t, kit_ty (kit_obj n o), q⟩
  · exact q.elim
end calls
section own
variable {X : Cx} {k : Nat} {f C : Addr} {fd : FuncData} {ps : List Str} {sp : Sp} {W : WX} {x m : Str} {p pos apos : Pos} {e o : Expr} {es : List Expr} {ta : TE} {t : TA}
def uCall (sp : Sp) (W : WX) (t : TA) : TE := fun σ H Q => t σ H fun vs H1 => sp vs H1 Q fun c d H2 => W c d σ H2
theorem e_call (F : FnOk X.prog X.w X.K X.mg X.base (L2.CX X.prog X.w) k f fd ps sp) (hr : Room k X.A) (hm : X.mg x = some (.ref f)) (hk : PySem.W.keepIn X.K (.ref f) = true) (hb : Binds X.K fd ps []) (tk : Takes X W)
    (ha : PA X (e :: es) t) (hg : Gl X x := by rfl) (hdb : (x == ("__debug__" : Str)) = false := by decide) (he : starEach (e :: es) X.env = (false, eval e X.env) :: starEach es X.env := by rfl) (hpl : (backTo pos (starEach es X.env)).any (·.1) = false := by rfl) :
    PE X (.Call (.Name x p) (e :: es) [] pos) (uCall sp W t) := pe_callS (E := WE W) F hr hg hm hk hb (fun σ => passAt tk σ) ha hdb he hpl
/-- o.m(..) -/
def uMeth (C : Addr) (m : Str) (sp : Sp) (W : WX) (ta : TE) (t : TA) : TE := fun σ H Q => ta σ H fun x H1 => ∃ a dx fs, x = .ref a ∧ H1 a = some (.ins C dx fs) ∧ fs.lookup m = none ∧
  t σ H1 fun vs H2 => sp (x :: vs) H2 Q fun c d H3 => W c d σ H3
/-- what a body wants of exceptions, as a wish -/
abbrev WB (E : XK) : WX := fun c d _ H => E c d H
/-- C(..), what is raised goes to W at the slots -/
def uMake (C : Addr) (sp : Sp) (W : WX) (t : TA) : TE := fun σ H Q => t σ H fun vs H1 => ∀ x dx, H1 x = none → H1 dx = none → dx ≠ x → sp (.ref x :: vs) (upd (upd H1 dx (.own x)) x (.ins C dx [])) (fun v H2 => v = .non ∧ Q (.ref x) H2) fun c d H2 => W c d σ H2
/-- what the top has of an own exception class -/
structure Exc (K : PySem.W.Frag) (mg : Str → Option Value) (n : Str) (C : Addr) : Prop where
  ex : PySem.W.excIn K C [.type "ValueError", .type "Exception", .type "BaseException", .type "object"] "ValueError.__new__" = true
  g : mg n = some (.ref C)
  kp : PySem.W.keepIn K (.ref C) = true
  sub : PySem.W.subIn K (.ref C) (.type "BaseException") = some true
  ty : PySem.W.typeIn K (.ref C) = some (.type "type")
def uRaise (C : Addr) (W : WX) : TS := fun _ σ H => W (.ref C) none σ H
theorem pmk0 {n : Str} (T : Exc X.K X.mg n C) (hg : Gl X n := by rfl) (hdb : (n == ("__debug__" : Str)) = false := by decide) : PMk X (.Call (.Name n p) [] [] pos) (fun _ H Q => Q (.ref C) none H) := by
  intro pins s σ H Q I h
  refine wpAny_Call_Name_kw (ld_glob I hg T.g (PySem.W.callWith_K0 I.kIn T.kp ?_) hdb)
  obtain ⟨bm, N, nm, qn, bs, hdct, sn, sub, ab, col, dd, k0, k1, k2, k3, k5, mN, hC, hN, hni, Z⟩ := exc_obj I.kIn T.ex
  exact wpAny_call_exc_subT PySem.F.excBase_ValueError Z hC hN hni (fun h' e hm => mk_of I hm (raises_own T.sub T.ty) h (I.hok.gone hm.new)) (Nat.zero_le _)
theorem s_raise {n : Str} (T : Exc X.K X.mg n C) (tk : Takes X W) {pos2 : Pos} (hc : X.calm = true := by rfl) (hg : Gl X n := by rfl) (hdb : (n == ("__debug__" : Str)) = false := by decide) :
    PS X (.Raise (some (.Call (.Name n p) [] [] pos)) none pos2) (uRaise C W) := ps_raise hc tk (pmk0 T hg hdb)
end own
section tries
variable {X : Cx} {x n : Str} {c : Value} {i : Nat} {body suite : List Stmt} {b₀ : Stmt} {np pos pos' : Pos} {tb : WX → TS} {ts : Addr → Value → Option Addr → TS} {W : WX}
def uTryAs (K : PySem.W.Frag) (c : Value) (i : Nat) (tb : WX → TS) (ts : Addr → Value → Option Addr → TS) (W : WX) : TS := fun D σ H => tb (wAs K c i ts W D) D σ H
def uTry (K : PySem.W.Frag) (c : Value) (tb : WX → TS) (ts : Addr → Value → Option Addr → TS) (W : WX) : TS := fun D σ H => tb (wOnly K c ts W D) D σ H
theorem s_tryAs (hs : X.stack = X.env :: X.outer) (hf : X.env.frame = some X.env.locals) (hN : X.N.Nodup) (hi : X.N[i]? = some n) (hln : X.env.kindOf n = some .local) (hc : Names X x c) (tk : Takes X W)
    (hb : ∀ (W' : WX) (pn : List (Addr × Obj)) (xe : Value → Shared → Prop), Takes (X.tr pn xe) W' → PassesOwn (model X.prog X.w) X.A X.env xe → PSs (X.tr pn xe) body (tb W'))
    (hsu : ∀ (a : Addr) (oe : Obj) (cls : Value) (d : Option Addr) (pn : List (Addr × Obj)), Zc cls d oe → (∃ vs, oe.data = .fields vs) → PSs (X.suite a ((a, oe) :: pn)) (b₀ :: suite) (ts a cls d)) :
    PS X (.Try body [.ExceptHandler (some (.Name x np)) (some n) (b₀ :: suite) pos'] [] [] pos) (uTryAs X.K c i tb ts W) := ps_try_as hs hf hN hi hln hc tk hb hsu
theorem w_tryAs {K : PySem.W.Frag} {D : Ends} {σ : L2.St} {H : Hp} (h : tb (wAs K c i ts W D) D σ H) : uTryAs K c i tb ts W D σ H := h
theorem w_try {K : PySem.W.Frag} {D : Ends} {σ : L2.St} {H : Hp} (h : tb (wOnly K c ts W D) D σ H) : uTry K c tb ts W D σ H := h
theorem w_asT {K : PySem.W.Frag} {D : Ends} {σ : L2.St} {H : Hp} {cls : Value} {d : Option Addr} (e : PySem.W.exmOne K cls c = some true)
    (h : ∀ a, H a = none → ts a cls d { nx := fun σ' H' => D.nx (σ'.set i none) H', rt := D.rt, bk := fun σ' H' => D.bk (σ'.set i none) H', ct := fun σ' H' => D.ct (σ'.set i none) H' } (σ.set i (some (.ref a))) H) :
    wAs K c i ts W D cls d σ H := ⟨true, e, fun _ => h, fun q => Bool.noConfusion q⟩
theorem w_asF {K : PySem.W.Frag} {D : Ends} {σ : L2.St} {H : Hp} {cls : Value} {d : Option Addr} (e : PySem.W.exmOne K cls c = some false) (h : W cls d σ H) : wAs K c i ts W D cls d σ H := ⟨false, e, fun q => Bool.noConfusion q, fun _ => h⟩
theorem w_onT {K : PySem.W.Frag} {D : Ends} {σ : L2.St} {H : Hp} {cls : Value} {d : Option Addr} (e : PySem.W.exmOne K cls c = some true) (h : ∀ a, H a = none → ts a cls d D σ H) : wOnly K c ts W D cls d σ H := ⟨true, e, fun _ => h, fun q => Bool.noConfusion q⟩
theorem w_onF {K : PySem.W.Frag} {D : Ends} {σ : L2.St} {H : Hp} {cls : Value} {d : Option Addr} (e : PySem.W.exmOne K cls c = some false) (h : W cls d σ H) : wOnly K c ts W D cls d σ H := ⟨false, e, fun q => Bool.noConfusion q, fun _ => h⟩
/-- isinstance(e, C) of the exception that a suite holds -/
def uIsE (K : PySem.W.Frag) (a : Addr) (cls : Value) (d : Option Addr) : List V → Hp → VK → Prop := fun xs H Q => ∃ (D C : Addr) (b : Bool), cls = .ref D ∧ d = none ∧ ExcC K D ∧ xs = [.ref a, .ref C] ∧ PySem.W.kitOne K (.ref D) (.ref C) = some b ∧ Q (.bl b) H
theorem c_isE {a : Addr} {oe : Obj} {cls : Value} {d : Option Addr} {pn : List (Addr × Obj)} (hz : Zc cls d oe) (hf : ∃ vs, oe.data = .fields vs) : CallR (X.suite a ((a, oe) :: pn)) (.builtin "isinstance") (uIsE X.K a cls d) := by
  intro pins s σ H xs us Q I r h
  obtain ⟨D, C, b, rfl, rfl, x, rfl, e, q⟩ := h
  exact call_isE x hz hf pins s σ H _ us Q I r ⟨.ref C, .ref C, b, rfl, fun u h => h, e, q⟩
theorem w_isE {K : PySem.W.Frag} {H : Hp} {Q : VK} {a D C : Addr} {b : Bool} (x : ExcC K D) (e : PySem.W.kitOne K (.ref D) (.ref C) = some b) (h : Q (.bl b) H) : uIsE K a (.ref D) none [.ref a, .ref C] H Q := ⟨D, C, b, rfl, rfl, x, rfl, e, h⟩
theorem kit_ne {K : PySem.W.Frag} {R A : Addr} {b : Bool} (n : (Value.ref R == Value.ref A) = false) (h1 : PySem.W.subIn K (.ref A) (.type "BaseException") = some true) (hd : PySem.W.hasDictIn K A = true) (ht : PySem.W.typeIn K (.ref A) = some (.type "type")) (h4 : PySem.W.subIn K (.ref R) (.ref A) = some b) : PySem.W.kitOne K (.ref R) (.ref A) = some b := by
  have z := PySem.W.exm_ref h1 hd ht h4
  have e1 : (PySem.W.subIn K (.ref A) (.type "BaseException") == some true) = true := by rw [h1]; rfl
  unfold PySem.W.exmOne at z
  rw [if_pos e1] at z
  unfold PySem.W.kitOne
  rw [if_neg (by rw [n]; exact Bool.false_ne_true)]
  exact z
theorem kit_same {K : PySem.W.Frag} {R : Addr} : PySem.W.kitOne K (.ref R) (.ref R) = some true := by
  unfold PySem.W.kitOne
  rw [if_pos (beq_self_eq_true _)]
end tries
section fields
variable {X : Cx} {C : Addr} {f : Str} {e o v : Expr} {ta tv : TE} {pos pos' : Pos}
def uFld (C : Addr) (f : Str) (ta : TE) : TE := fun σ H Q => ta σ H fun x H1 => ∃ a dx fs v, x = .ref a ∧ H1 a = some (.ins C dx fs) ∧ fs.lookup f = some v ∧ Q v H1
def uSetF (C : Addr) (f : Str) (ta tv : TE) : TS := fun D σ H => tv σ H fun y H1 => ta σ H1 fun x H2 => ∃ a dx fs, x = .ref a ∧ H2 a = some (.ins C dx fs) ∧ fs.length < 1000 ∧ D.nx σ (upd H2 a (.ins C dx (putF f y fs)))
/-- o.f += e -/
def uAugF (C : Addr) (f : Str) (r : V → V → Hp → VK → Prop) (ta tv : TE) : TS := fun D σ H => ta σ H fun x H1 => ∃ a dx fs v, x = .ref a ∧ H1 a = some (.ins C dx fs) ∧ fs.lookup f = some v ∧
  tv σ H1 fun y H2 => r v y H2 fun z H3 => ∃ dx' fs', H3 a = some (.ins C dx' fs') ∧ fs'.length < 1000 ∧ D.nx σ (upd H3 a (.ins C dx' (putF f z fs')))
end fields
section truth
variable {X : Cx} {e : Expr} {te : TE}
def truV (K : PySem.W.Frag) (x : V) (H1 : Hp) (Q : Bool → Hp → Prop) : Prop := match x with
  | .bl b => Q b H1
  | .non => Q false H1
  | .int i => Q (!decide (i = 0)) H1
  | .str z => z.length ≤ sizeLine ∧ Q (!decide (z.length = 0)) H1
  | .ref p => (∃ xs, (SqL K H1 p xs ∨ SqT K H1 p xs) ∧ Q (!xs.isEmpty) H1) ∨ ∃ kvs, H1 p = some (.dK kvs) ∧ Q (!kvs.isEmpty) H1
  | _ => False
def uTru (K : PySem.W.Frag) (te : TE) : TT := fun σ H Q => te σ H fun x H1 => truV K x H1 Q
theorem t_tru (he : PE X e te) (hw : ∀ whole, isTrue e X.env whole = (do let v ← whole; standAt e.pos; holding [v] (truthy v)) := by intro _; rfl) : PT X e (uTru X.K te) := by
  refine ⟨fun pins s σ H Q I h => isTrue_plain (thn (he.run pins s σ H _ I h) fun v s1 hh => ?_) (hw _)⟩
  obtain ⟨x, H1, I1, r1, q⟩ := hh
  refine tru_ok pins s1 σ H1 x v Q I1 r1 ?_
  unfold truV at q
  split at q
  · exact ⟨_, rfl, q⟩
  · exact ⟨_, rfl, q⟩
  · rename_i i
    refine ⟨_, rfl, ?_⟩
    rw [show (i != 0) = !decide (i = 0) by rw [bne, Bool.beq_eq_decide_eq]]
    exact q
  · rename_i z
    refine ⟨_, ⟨q.1, rfl⟩, ?_⟩
    rw [show ((z.length : Int) != 0) = !decide (z.length = 0) by rw [bne, Bool.beq_eq_decide_eq]; congr 1; exact decide_eq_decide.mpr (by omega)]
    exact q.2
  · rcases q with ⟨xs, a | a, q⟩ | ⟨kvs, a, q⟩
    · exact ⟨_, .inl ⟨xs, a, rfl⟩, q⟩
    · exact ⟨_, .inr (.inl ⟨xs, a, rfl⟩), q⟩
    · exact ⟨_, .inr (.inr ⟨kvs, a, rfl⟩), q⟩
  · exact q.elim
end truth
def forQ (g : TG) (tb : TS) (D : Ends) (σ : L2.St) (J : It) (H1 : Hp) : Prop := ∃ W : Nat → Nat → L2.St → Hp → Prop, (∃ m, W 0 m σ H1) ∧ ∀ i m σ H, W i m σ H →
  (J.stop i H ∧ D.nx σ H) ∨ (J.go i H ∧ ∃ N : L2.St → Hp → Prop, (∀ σ' H', N σ' H' → ∃ m', m' < m ∧ W (i + 1) m' σ' H') ∧ ∀ x H', J.yld i H x H' → g x σ H' fun σ2 H2 => tb { D with nx := N, ct := N, bk := D.nx } σ2 H2)
def newT (xs : List V) (H1 : Hp) (Q : VK) : Prop := xs.length ≤ sizeLine ∧ ∀ p, H1 p = none → Q (.ref p) (upd H1 p (.tup xs))
def newL (xs : List V) (H1 : Hp) (Q : VK) : Prop := xs.length ≤ sizeLine ∧ ∀ p, H1 p = none → Q (.ref p) (upd H1 p (.lst xs))
def bmQ (K : PySem.W.Frag) (T : String) (q : V → List V → Hp → VK → Prop) (tA : TA) (σ : L2.St) (x : V) (H1 : Hp) (Q : VK) : Prop := tyV K T x H1 ∧ tA σ H1 fun xs H2 => q x xs H2 Q
def rng1Q (vs : List V) (H1 : Hp) (R : It → Hp → Prop) : Prop := ∃ j : Int, vs = [.int j] ∧ -(2 ^ 62) ≤ j ∧ j < 2 ^ 62 ∧ R (Itr 0 j.toNat) H1
def rng2Q (vs : List V) (H1 : Hp) (R : It → Hp → Prop) : Prop := ∃ i j : Int, vs = [.int i, .int j] ∧ (-(2 ^ 62) ≤ i ∧ i < 2 ^ 62 ∧ -(2 ^ 62) ≤ j ∧ j < 2 ^ 62) ∧ R (Itr i (j - i).toNat) H1
def listQ (K : PySem.W.Frag) (x : V) (H1 : Hp) (R : It → Hp → Prop) : Prop := ∃ a, x = .ref a ∧ (∃ xs, SqL K H1 a xs) ∧ R (Itl K a) H1
def tupQ (K : PySem.W.Frag) (x : V) (H1 : Hp) (R : It → Hp → Prop) : Prop := ∃ a, x = .ref a ∧ (∃ xs, SqT K H1 a xs) ∧ R (Itt K a) H1
def strQ (x : V) (H1 : Hp) (R : It → Hp → Prop) : Prop := ∃ z, x = .str z ∧ R (Its z) H1
def revQ (K : PySem.W.Frag) (vs : List V) (H1 : Hp) (R : It → Hp → Prop) : Prop := ∃ (a : Addr) (xs : List V), vs = [.ref a] ∧ SqL K H1 a xs ∧ R (Itv K a xs.length) H1
def fldQ (C : Addr) (f : Str) (x : V) (H1 : Hp) (Q : VK) : Prop := ∃ a dx fs v, x = .ref a ∧ H1 a = some (.ins C dx fs) ∧ fs.lookup f = some v ∧ Q v H1
def methQ (C : Addr) (m : Str) (sp : Sp) (W : WX) (t : TA) (σ : L2.St) (x : V) (H1 : Hp) (Q : VK) : Prop := ∃ a dx fs, x = .ref a ∧ H1 a = some (.ins C dx fs) ∧ fs.lookup m = none ∧ t σ H1 fun vs H2 => sp (x :: vs) H2 Q fun c d H3 => W c d σ H3
def setfQ (C : Addr) (f : Str) (x y : V) (H2 : Hp) (N : Hp → Prop) : Prop := ∃ a dx fs, x = .ref a ∧ H2 a = some (.ins C dx fs) ∧ fs.length < 1000 ∧ N (upd H2 a (.ins C dx (putF f y fs)))
section steps
variable {K : PySem.W.Frag} {D : Ends} {σ : L2.St} {H : Hp} {Q : VK} {QB : Bool → Hp → Prop} {QA : List V → Hp → Prop} {t u : TS} {te ta tb tv : TE} {tA : TA} {c c1 c2 : TT} {g : TG} {i : Nat} {v x y : V} {r r' : R2} {W : WX} {sp : Sp} {b : Bool} {C a : Addr} {f : Str}
theorem w_seq (h : t { D with nx := u D } σ H) : tSeq t u D σ H := h
theorem w_next (h : D.nx σ H) : tNext D σ H := h
theorem w_asg (h : te σ H fun x H1 => g x σ H1 D.nx) : tAsg te g D σ H := h
theorem w_name {N : L2.St → Hp → Prop} (h : N (σ.set i (some v)) H) : gName i v σ H N := h
theorem w_ret (h : te σ H D.rt) : tRet te D σ H := h
theorem w_retN (h : D.rt .non H) : tRetN D σ H := h
theorem w_if (h : c σ H fun b H1 => if b = true then t D σ H1 else u D σ H1) : tIfS c t u D σ H := h
theorem w_drop (h : te σ H fun _ H1 => D.nx σ H1) : tDrop te D σ H := h
theorem w_brk (h : D.bk σ H) : tBreak D σ H := h
theorem w_cont (h : D.ct σ H) : tCont D σ H := h
theorem w_aug {ti : TIp} (e : σ[i]? = some (some x)) (h : te σ H fun y H1 => ti x y H1 fun z H2 => D.nx (σ.set i (some z)) H2) : tAug i te ti D σ H := ⟨x, e, h⟩
theorem w_ipI {k : Int → Int → Int} {m n : Int} (h : Q (.int (k m n)) H) : ipI k (.int m) (.int n) H Q := ⟨m, n, rfl, rfl, h⟩
theorem w_test (h : te σ H fun x H1 => ∃ k, x = .bl k ∧ QB k H1) : tTest te σ H QB := h
theorem w_not (h : c σ H fun k H1 => QB (!k) H1) : tNot c σ H QB := h
theorem w_and (h : c1 σ H fun k H1 => if k = true then c2 σ H1 QB else QB false H1) : tAnd c1 c2 σ H QB := h
theorem w_or (h : c1 σ H fun k H1 => if k = true then QB true H1 else c2 σ H1 QB) : tOr c1 c2 σ H QB := h
theorem w_andV (h : ta σ H fun x H1 => ∃ k, x = .bl k ∧ if k = true then tb σ H1 Q else Q (.bl false) H1) : tAndV ta tb σ H Q := h
theorem w_orV (h : ta σ H fun x H1 => ∃ k, x = .bl k ∧ if k = true then Q (.bl true) H1 else tb σ H1 Q) : tOrV ta tb σ H Q := h
theorem w_notV (h : ta σ H fun x H1 => ∃ k, x = .bl k ∧ Q (.bl (!k)) H1) : tNotV ta σ H Q := h
theorem w_blP {P : Bool → Prop} (h : P b) : ∃ k, V.bl b = .bl k ∧ P k := ⟨b, rfl, h⟩
theorem w_ifE (h : c σ H fun k H1 => if k = true then ta σ H1 Q else tb σ H1 Q) : tIf c ta tb σ H Q := h
theorem w_var (e : σ[i]? = some (some v)) (h : Q v H) : tVar i σ H Q := ⟨v, e, h⟩
theorem w_c (h : Q v H) : tC v σ H Q := h
theorem w_op (h : ta σ H fun x H1 => tb σ H1 fun y H2 => r x y H2 Q) : tOp r ta tb σ H Q := h
theorem w_un {ru : V → Hp → VK → Prop} (h : ta σ H fun x H1 => ru x H1 Q) : tUn ru ta σ H Q := h
theorem w_neg {m : Int} (h : Q (.int (-m)) H) : uNeg (.int m) H Q := h
theorem w_chain {tc : TE} (h : ta σ H fun x H1 => tb σ H1 fun y H2 => r x y H2 fun z H3 => ∃ k, z = .bl k ∧ if k = true then tc σ H3 fun w H4 => r' y w H4 Q else Q (.bl false) H3) : tChain r r' ta tb tc σ H Q := h
theorem w_cons (h : te σ H fun x H1 => tA σ H1 fun xs H2 => QA (x :: xs) H2) : tCons te tA σ H QA := h
theorem w_nil (h : QA [] H) : tNil σ H QA := h
theorem w_tup (h : tA σ H fun xs H1 => newT xs H1 Q) : tTup tA σ H Q := h
theorem w_lst (h : tA σ H fun xs H1 => newL xs H1 Q) : tLst tA σ H Q := h
theorem small9 {n : Nat} (h : n ≤ 100000) : n ≤ sizeLine := Nat.le_trans h (by decide)
theorem w_newT {xs : List V} (s : xs.length ≤ 100000) (h : ∀ p, H p = none → Q (.ref p) (upd H p (.tup xs))) : newT xs H Q := ⟨small9 s, h⟩
theorem w_newL {xs : List V} (s : xs.length ≤ 100000) (h : ∀ p, H p = none → Q (.ref p) (upd H p (.lst xs))) : newL xs H Q := ⟨small9 s, h⟩
theorem w_add {m n : Int} (h : Q (.int (m + n)) H) : uAdd K (.int m) (.int n) H Q := h
theorem w_sub {m n : Int} (h : Q (.int (m - n)) H) : uSub (.int m) (.int n) H Q := h
theorem w_mul {m n : Int} (s : CMul m n) (h : Q (.int (m * n)) H) : uMul (.int m) (.int n) H Q := ⟨.inl s, h⟩
theorem w_div {m n : Int} (s : 0 < n ∧ n < 2 ^ 200) (h : Q (.int (m / n)) H) : uDiv (.int m) (.int n) H Q := ⟨s, h⟩
theorem w_mod {m n : Int} (s : 0 < n) (h : Q (.int (m % n)) H) : uMod (.int m) (.int n) H Q := ⟨s, h⟩
theorem w_pow {m n : Int} (s : CPow m n) (h : Q (.int (m ^ n.toNat)) H) : uPow (.int m) (.int n) H Q := ⟨s, h⟩
theorem w_eqI {m n : Int} (h : Q (.bl (decide (m = n))) H) : uEq K (.int m) (.int n) H Q := h
theorem w_eqS {m n : Str} (h : Q (.bl (decide (m = n))) H) : uEq K (.str m) (.str n) H Q := h
theorem w_eqB {m n : Bool} (h : Q (.bl (decide (m = n))) H) : uEq K (.bl m) (.bl n) H Q := h
theorem w_eqNI {n : Int} (h : Q (.bl false) H) : uEq K .non (.int n) H Q := .inl ⟨rfl, h⟩
theorem w_neNI {n : Int} (h : Q (.bl true) H) : uNe K .non (.int n) H Q := .inl ⟨rfl, h⟩
theorem w_eqIN {n : Int} (h : Q (.bl false) H) : uEq K (.int n) .non H Q := .inl ⟨rfl, h⟩
theorem w_neIN {n : Int} (h : Q (.bl true) H) : uNe K (.int n) .non H Q := .inl ⟨rfl, h⟩
theorem w_neI {m n : Int} (h : Q (.bl (!decide (m = n))) H) : uNe K (.int m) (.int n) H Q := h
theorem w_neS {m n : Str} (h : Q (.bl (!decide (m = n))) H) : uNe K (.str m) (.str n) H Q := h
theorem w_neB {m n : Bool} (h : Q (.bl (!decide (m = n))) H) : uNe K (.bl m) (.bl n) H Q := h
theorem w_lt {m n : Int} (h : Q (.bl (decide (m < n))) H) : uLt K (.int m) (.int n) H Q := h
theorem w_le {m n : Int} (h : Q (.bl (decide (m ≤ n))) H) : uLe K (.int m) (.int n) H Q := h
theorem w_gt {m n : Int} (h : Q (.bl (decide (n < m))) H) : uGt (.int m) (.int n) H Q := h
theorem w_ge {m n : Int} (h : Q (.bl (decide (n ≤ m))) H) : uGe K (.int m) (.int n) H Q := h
theorem w_isN (h : Q (.bl (isNon x)) H) : uIs x .non H Q := h
theorem w_isntN (h : Q (.bl (!isNon x)) H) : uIsnt x .non H Q := h
theorem w_cb {q : List V → Hp → VK → Prop} (h : tA σ H fun vs H1 => q vs H1 Q) : tCB q tA σ H Q := h
theorem w_call (h : tA σ H fun vs H1 => sp vs H1 Q fun c d H2 => W c d σ H2) : uCall sp W tA σ H Q := h
theorem w_tru (h : te σ H fun x H1 => truV K x H1 QB) : uTru K te σ H QB := h
theorem w_truB {b : Bool} (h : QB b H) : truV K (.bl b) H QB := h
theorem w_truN (h : QB false H) : truV K .non H QB := h
theorem w_truI {m : Int} (h : QB (!decide (m = 0)) H) : truV K (.int m) H QB := h
theorem w_isi_int_int {m : Int} (h : Q (.bl true) H) : uIsi K .int [(.int m), .ty "int"] H Q := ⟨rfl, h⟩
theorem w_isi_int_bl {m : Bool} (h : Q (.bl true) H) : uIsi K .int [(.bl m), .ty "int"] H Q := ⟨rfl, h⟩
theorem w_isi_int_str {m : Str} (h : Q (.bl false) H) : uIsi K .int [(.str m), .ty "int"] H Q := ⟨rfl, h⟩
theorem w_isi_int_non  (h : Q (.bl false) H) : uIsi K .int [.non, .ty "int"] H Q := ⟨rfl, h⟩
theorem w_isi_bool_int {m : Int} (h : Q (.bl false) H) : uIsi K .bool [(.int m), .ty "bool"] H Q := ⟨rfl, h⟩
theorem w_isi_bool_bl {m : Bool} (h : Q (.bl true) H) : uIsi K .bool [(.bl m), .ty "bool"] H Q := ⟨rfl, h⟩
theorem w_isi_bool_str {m : Str} (h : Q (.bl false) H) : uIsi K .bool [(.str m), .ty "bool"] H Q := ⟨rfl, h⟩
theorem w_isi_bool_non  (h : Q (.bl false) H) : uIsi K .bool [.non, .ty "bool"] H Q := ⟨rfl, h⟩
theorem w_isi_str_int {m : Int} (h : Q (.bl false) H) : uIsi K .str [(.int m), .ty "str"] H Q := ⟨rfl, h⟩
theorem w_isi_str_bl {m : Bool} (h : Q (.bl false) H) : uIsi K .str [(.bl m), .ty "str"] H Q := ⟨rfl, h⟩
theorem w_isi_str_str {m : Str} (h : Q (.bl true) H) : uIsi K .str [(.str m), .ty "str"] H Q := ⟨rfl, h⟩
theorem w_isi_str_non  (h : Q (.bl false) H) : uIsi K .str [.non, .ty "str"] H Q := ⟨rfl, h⟩
theorem w_isi_list_int {m : Int} (h : Q (.bl false) H) : uIsi K .list [(.int m), .ty "list"] H Q := ⟨rfl, h⟩
theorem w_isi_list_bl {m : Bool} (h : Q (.bl false) H) : uIsi K .list [(.bl m), .ty "list"] H Q := ⟨rfl, h⟩
theorem w_isi_list_str {m : Str} (h : Q (.bl false) H) : uIsi K .list [(.str m), .ty "list"] H Q := ⟨rfl, h⟩
theorem w_isi_list_non  (h : Q (.bl false) H) : uIsi K .list [.non, .ty "list"] H Q := ⟨rfl, h⟩
theorem w_isi_tuple_int {m : Int} (h : Q (.bl false) H) : uIsi K .tuple [(.int m), .ty "tuple"] H Q := ⟨rfl, h⟩
theorem w_isi_tuple_bl {m : Bool} (h : Q (.bl false) H) : uIsi K .tuple [(.bl m), .ty "tuple"] H Q := ⟨rfl, h⟩
theorem w_isi_tuple_str {m : Str} (h : Q (.bl false) H) : uIsi K .tuple [(.str m), .ty "tuple"] H Q := ⟨rfl, h⟩
theorem w_isi_tuple_non  (h : Q (.bl false) H) : uIsi K .tuple [.non, .ty "tuple"] H Q := ⟨rfl, h⟩
theorem w_is_int {m : Int} (h : Q (.bl false) H) : uIs (.int m) .non H Q := h
theorem w_isnt_int {m : Int} (h : Q (.bl true) H) : uIsnt (.int m) .non H Q := h
theorem w_is_bl {m : Bool} (h : Q (.bl false) H) : uIs (.bl m) .non H Q := h
theorem w_isnt_bl {m : Bool} (h : Q (.bl true) H) : uIsnt (.bl m) .non H Q := h
theorem w_is_str {m : Str} (h : Q (.bl false) H) : uIs (.str m) .non H Q := h
theorem w_isnt_str {m : Str} (h : Q (.bl true) H) : uIsnt (.str m) .non H Q := h
theorem w_is_non  (h : Q (.bl true) H) : uIs .non .non H Q := h
theorem w_isnt_non  (h : Q (.bl false) H) : uIsnt .non .non H Q := h
theorem w_is_ref {m : Addr} (h : Q (.bl false) H) : uIs (.ref m) .non H Q := h
theorem w_isnt_ref {m : Addr} (h : Q (.bl true) H) : uIsnt (.ref m) .non H Q := h
theorem ifNT {A B : Prop} (h : B) : if (!true) = true then A else B := iteF h
theorem ifNF {A B : Prop} (h : A) : if (!false) = true then A else B := iteT h
theorem w_max {m n : Int} (h : Q (.int (if n > m then n else m)) H) : uMax K [.int m, .int n] H Q := h
theorem w_min {m n : Int} (h : Q (.int (if n < m then n else m)) H) : uMin K [.int m, .int n] H Q := h
theorem w_abs {m : Int} (h : Q (.int (if m < 0 then -m else m)) H) : uAbs [.int m] H Q := h
theorem w_intI {m : Int} (h : Q (.int m) H) : uInt [.int m] H Q := h
theorem w_intB {m : Bool} (h : Q (.int (if m then 1 else 0)) H) : uInt [.bl m] H Q := h
theorem w_lenL {p : Addr} {xs : List V} (e : SqL K H p xs) (h : Q (.int xs.length) H) : uLen K [.ref p] H Q := .inl ⟨xs, .inl e, h⟩
theorem w_lenT {p : Addr} {xs : List V} (e : SqT K H p xs) (h : Q (.int xs.length) H) : uLen K [.ref p] H Q := .inl ⟨xs, .inr e, h⟩
theorem w_ixL {p : Addr} {xs : List V} {n : Int} {k : Nat} (e : SqL K H p xs) (ek : n = (k : Int)) (ev : xs[k]? = some v) (h : Q v H) : uIx K (.ref p) (.int n) H Q := ⟨xs, v, .inl e, by rw [ek]; exact atI_nat ev, h⟩
theorem w_ixT {p : Addr} {xs : List V} {n : Int} {k : Nat} (e : SqT K H p xs) (ek : n = (k : Int)) (ev : xs[k]? = some v) (h : Q v H) : uIx K (.ref p) (.int n) H Q := ⟨xs, v, .inr e, by rw [ek]; exact atI_nat ev, h⟩
theorem w_app {p : Addr} {xs : List V} (e : H p = some (.lst xs)) (s : xs.length < sizeLine) (h : Q .non (upd H p (.lst (xs ++ [y])))) : rAppend (.ref p) [y] H Q := ⟨p, xs, y, rfl, rfl, e, s, h⟩
theorem w_ixI {p : Addr} {ns : List Int} {n : Int} (e : SqL K H p (ns.map V.int)) (h0 : 0 ≤ n ∧ n.toNat < ns.length) (h : Q (.int (ns.getD n.toNat 0)) H) : uIx K (.ref p) (.int n) H Q :=
  ⟨_, .int (ns.getD n.toNat 0), .inl e, by
    have z : (ns.map V.int)[n.toNat]? = some (.int (ns.getD n.toNat 0)) := by rw [List.getElem?_map, List.getElem?_eq_getElem h0.2, List.getD_eq_getElem?_getD, List.getElem?_eq_getElem h0.2]; rfl
    have y := atI_nat z
    rw [show ((n.toNat : Nat) : Int) = n by omega] at y
    exact y, h⟩
theorem w_ixTI {p : Addr} {ns : List Int} {n : Int} (e : SqT K H p (ns.map V.int)) (h0 : 0 ≤ n ∧ n.toNat < ns.length) (h : Q (.int (ns.getD n.toNat 0)) H) : uIx K (.ref p) (.int n) H Q :=
  ⟨_, .int (ns.getD n.toNat 0), .inr e, by
    have z : (ns.map V.int)[n.toNat]? = some (.int (ns.getD n.toNat 0)) := by rw [List.getElem?_map, List.getElem?_eq_getElem h0.2, List.getD_eq_getElem?_getD, List.getElem?_eq_getElem h0.2]; rfl
    have y := atI_nat z
    rw [show ((n.toNat : Nat) : Int) = n by omega] at y
    exact y, h⟩
theorem w_appI {p : Addr} {ns : List Int} {z : Int} (e : H p = some (.lst (ns.map V.int))) (s : ns.length < 10000000) (h : Q .non (upd H p (.lst ((ns ++ [z]).map V.int)))) : rAppend (.ref p) [.int z] H Q :=
  ⟨p, _, _, rfl, rfl, e, by rw [List.length_map]; exact Nat.lt_of_lt_of_le s (by decide), by rw [List.map_append] at h; exact h⟩
theorem w_gsub {to ti : TE} {ts : TSet} {N : L2.St → Hp → Prop} (h : to σ H fun o H1 => ti σ H1 fun i H2 => ts o i v H2 fun H3 => N σ H3) : gSub to ti ts v σ H N := h
theorem w_ixA {p : Addr} {xs : List V} {n : Int} (e : SqL K H p xs) (h0 : 0 ≤ n ∧ n.toNat < xs.length) (h : ∀ v, xs[n.toNat]? = some v → Q v H) : uIx K (.ref p) (.int n) H Q :=
  ⟨xs, xs[n.toNat]'h0.2, .inl e, by
    have y := atI_nat (List.getElem?_eq_getElem h0.2)
    rw [show ((n.toNat : Nat) : Int) = n by omega] at y
    exact y, h _ (List.getElem?_eq_getElem h0.2)⟩
theorem w_ttupL {p : Addr} {xs : List V} (e : SqL K H p xs) (h : ∀ l, H l = none → Q (.ref l) (upd H l (.tup xs))) : uTuple K [.ref p] H Q := ⟨xs, .inl ⟨e, h⟩⟩
def partQ (x : V) (H1 : Hp) (Q : Option Int → Hp → Prop) : Prop := ∃ i, x = .int i ∧ Q (some i) H1
theorem w_sl {rs : V → Option Int → Option Int → Hp → VK → Prop} {tl th : TO} (h : te σ H fun x H1 => tl σ H1 fun l H2 => th σ H2 fun u H3 => rs x l u H3 Q) : tSl rs te tl th σ H Q := h
theorem w_part {Q : Option Int → Hp → Prop} (h : te σ H fun x H1 => partQ x H1 Q) : tPart te σ H Q := h
theorem w_partI {Q : Option Int → Hp → Prop} {n : Int} (h : Q (some n) H) : partQ (.int n) H Q := ⟨n, rfl, h⟩
theorem w_noPart {Q : Option Int → Hp → Prop} (h : Q none H) : tNoPart σ H Q := h
theorem cut_drop (xs : List V) (k : Nat) : cutV xs (some (k : Int)) none = xs.drop k := by
  unfold cutV
  rw [HT.sIx_nat, HT.sIx_none]
  rcases Nat.le_total k xs.length with h | h
  · rw [Nat.min_eq_left h]; exact List.take_of_length_le (by rw [List.length_drop]; exact Nat.le_refl _)
  · rw [Nat.min_eq_right h, List.drop_length, List.drop_eq_nil_of_le h, List.take_nil]
theorem cut_mid (xs : List V) (i j : Nat) (h : i ≤ j) (hj : j ≤ xs.length) : cutV xs (some (i : Int)) (some (j : Int)) = (xs.drop i).take (j - i) := by
  unfold cutV
  rw [HT.sIx_nat, HT.sIx_nat, Nat.min_eq_left (Nat.le_trans h hj), Nat.min_eq_left hj]
theorem w_slL {p : Addr} {xs : List V} {lo hi : Option Int} (e : SqL K H p xs) (h : ∀ q, H q = none → Q (.ref q) (upd H q (.lst (cutV xs lo hi)))) : uSl K (.ref p) lo hi H Q := .inl ⟨p, xs, rfl, e, h⟩
theorem w_ixTl {p : Addr} {xs : List V} {n : Int} (e : SqT K H p xs) (ev : xs[n.toNat]? = some v) (h0 : 0 ≤ n) (h : Q v H) : uIx K (.ref p) (.int n) H Q := w_ixT (k := n.toNat) e (by omega) ev h
theorem w_ixLl {p : Addr} {xs : List V} {n : Int} (e : SqL K H p xs) (ev : xs[n.toNat]? = some v) (h0 : 0 ≤ n) (h : Q v H) : uIx K (.ref p) (.int n) H Q := w_ixL (k := n.toNat) e (by omega) ev h
theorem w_bm {T : String} {q : V → List V → Hp → VK → Prop} (h : te σ H fun x H1 => bmQ K T q tA σ x H1 Q) : tBM K T q te tA σ H Q := h
theorem w_bmL {q : V → List V → Hp → VK → Prop} {p : Addr} {xs : List V} (e : H p = some (.lst xs)) (h : tA σ H fun vs H2 => q (.ref p) vs H2 Q) : bmQ K "list" q tA σ (.ref p) H Q := ⟨.inl ⟨rfl, _, .inl (.inl e)⟩, h⟩
theorem w_bmS {q : V → List V → Hp → VK → Prop} {z : Str} (h : tA σ H fun vs H2 => q (.str z) vs H2 Q) : bmQ K "str" q tA σ (.str z) H Q := ⟨rfl, h⟩
theorem w_tlist {p : Addr} {xs : List V} (e : SqL K H p xs) (h : ∀ l, H l = none → Q (.ref l) (upd H l (.lst xs))) : uList K [.ref p] H Q := ⟨xs, .inl e, h⟩
theorem w_for {wi : TI} {tb : TS} (h : wi σ H fun J H1 => forQ g tb D σ J H1) : tFor wi g tb D σ H := h
theorem f_range {tb : TS} {lo : Int} {n : Nat} (Pv : Nat → L2.St → Hp → Prop) (h0 : Pv 0 σ H)
    (hs : ∀ i σ H, i < n → Pv i σ H → g (.int (lo + i)) σ H fun σ2 H2 => tb { D with nx := Pv (i + 1), ct := Pv (i + 1), bk := D.nx } σ2 H2) (hd : ∀ σ H, Pv n σ H → D.nx σ H) : forQ g tb D σ (Itr lo n) H := for_range Pv h0 hs hd
theorem w_rng1 {R : It → Hp → Prop} (h : tA σ H fun vs H1 => rng1Q vs H1 R) : iRng1 tA σ H R := h
theorem w_rng1v {R : It → Hp → Prop} {n : Int} (h1 : -(2 ^ 62) ≤ n) (h2 : n < 2 ^ 62) (h : R (Itr 0 n.toNat) H) : rng1Q [.int n] H R := ⟨n, rfl, h1, h2, h⟩
theorem w_rng2 {R : It → Hp → Prop} (h : tA σ H fun vs H1 => rng2Q vs H1 R) : iRng2 tA σ H R := h
theorem w_rng2v {R : It → Hp → Prop} {m n : Int} (h1 : -(2 ^ 62) ≤ m ∧ m < 2 ^ 62 ∧ -(2 ^ 62) ≤ n ∧ n < 2 ^ 62) (h : R (Itr m (n - m).toNat) H) : rng2Q [.int m, .int n] H R := ⟨m, n, rfl, h1, h⟩
theorem w_iList {R : It → Hp → Prop} (h : te σ H fun x H1 => listQ K x H1 R) : iList K te σ H R := h
theorem w_iListv {R : It → Hp → Prop} {p : Addr} {xs : List V} (e : SqL K H p xs) (h : R (Itl K p) H) : listQ K (.ref p) H R := ⟨p, rfl, ⟨xs, e⟩, h⟩
theorem w_iTup {R : It → Hp → Prop} (h : te σ H fun x H1 => tupQ K x H1 R) : iTup K te σ H R := h
theorem w_iTupv {R : It → Hp → Prop} {p : Addr} {xs : List V} (e : SqT K H p xs) (h : R (Itt K p) H) : tupQ K (.ref p) H R := ⟨p, rfl, ⟨xs, e⟩, h⟩
theorem w_iStr {R : It → Hp → Prop} (h : te σ H fun x H1 => strQ x H1 R) : iStr te σ H R := h
theorem w_iStrv {R : It → Hp → Prop} {z : Str} (h : R (Its z) H) : strQ (.str z) H R := ⟨z, rfl, h⟩
theorem w_iRev {R : It → Hp → Prop} (h : tA σ H fun vs H1 => revQ K vs H1 R) : iRev K tA σ H R := h
theorem w_iRevv {R : It → Hp → Prop} {p : Addr} {xs : List V} (e : SqL K H p xs) (h : R (Itv K p xs.length) H) : revQ K [.ref p] H R := ⟨p, xs, rfl, e, h⟩
theorem w_raise {C : Addr} (h : W (.ref C) none σ H) : uRaise C W D σ H := h
theorem w_fld {C : Addr} (h : te σ H fun x H1 => fldQ C f x H1 Q) : uFld C f te σ H Q := h
theorem w_fldv {C p dx : Addr} {fs : List (Str × V)} (e : H p = some (.ins C dx fs)) (l : fs.lookup f = some v) (h : Q v H) : fldQ C f (.ref p) H Q := ⟨p, dx, fs, v, rfl, e, l, h⟩
theorem w_meth {C : Addr} {m : Str} (h : te σ H fun x H1 => methQ C m sp W tA σ x H1 Q) : uMeth C m sp W te tA σ H Q := h
theorem w_methv {C p dx : Addr} {m : Str} {fs : List (Str × V)} (e : H p = some (.ins C dx fs)) (l : fs.lookup m = none) (h : tA σ H fun vs H2 => sp (.ref p :: vs) H2 Q fun c d H3 => W c d σ H3) : methQ C m sp W tA σ (.ref p) H Q := ⟨p, dx, fs, rfl, e, l, h⟩
theorem w_setf {C : Addr} (h : tv σ H fun y H1 => te σ H1 fun x H2 => setfQ C f x y H2 (D.nx σ)) : uSetF C f te tv D σ H := h
theorem w_setfv {C p dx : Addr} {fs fs' : List (Str × V)} {N : Hp → Prop} (e : H p = some (.ins C dx fs)) (l : fs.length < 1000) (e2 : putF f y fs = fs') (h : N (upd H p (.ins C dx fs'))) : setfQ C f (.ref p) y H N := ⟨p, dx, fs, rfl, e, l, by rw [e2]; exact h⟩
theorem ifP {p A B : Prop} [Decidable p] (h1 : p → A) (h2 : ¬ p → B) : if decide p = true then A else B := by
  by_cases h : p
  · rw [if_pos (decide_eq_true h)]; exact h1 h
  · rw [if_neg (by rw [decide_eq_false h]; decide)]; exact h2 h
theorem ifN {p A B : Prop} [Decidable p] (h2 : ¬ p → A) (h1 : p → B) : if (!decide p) = true then A else B := by
  by_cases h : p
  · rw [if_neg (by rw [decide_eq_true h]; decide)]; exact h1 h
  · rw [if_pos (by rw [decide_eq_false h]; rfl)]; exact h2 h
theorem ifB {A B : Prop} (h1 : b = true → A) (h2 : b = false → B) : if b = true then A else B := by
  cases b
  · rw [if_neg Bool.false_ne_true]; exact h2 rfl
  · rw [if_pos rfl]; exact h1 rfl
end steps
section heaps
variable {K : PySem.W.Frag} {H H' : Hp} {p q : Addr} {o u : HO} {xs : List V}
theorem upd_old (h : H q = some u) (n : H p = none) : upd H p o q = some u := by rw [upd_ne (ne_of_none h n)]; exact h
theorem upd_oth (h : H q = some u) (n : q ≠ p) : upd H p o q = some u := by rw [upd_ne n]; exact h
theorem none_of_upd (h : upd H p o q = none) : H q = none ∧ q ≠ p := by
  unfold upd at h
  split at h
  · cases h
  · exact ⟨h, by assumption⟩
theorem rd_old (h : Rd H q u) (n : H p = none) : Rd (upd H p o) q u := by
  rcases h with h | ⟨o', h⟩
  · exact .inl (upd_old h n)
  · exact .inr ⟨o', upd_old h n⟩
theorem sql_old (h : SqL K H q xs) (n : H p = none) : SqL K (upd H p o) q xs := h.imp (fun h => rd_old h n) id
theorem sqt_old (h : SqT K H q xs) (n : H p = none) : SqT K (upd H p o) q xs := h.imp (fun h => rd_old h n) id
/-- a tuple is never the thing that is written -/
theorem sqt_wr {w : HO} (h : SqT K H q xs) (hw : H p = some w) (n : ∀ ys, w ≠ .tup ys) (n2 : ∀ ob ys, w ≠ .frz ob ys) : SqT K (upd H p o) q xs := by
  refine h.imp (fun h => ?_) id
  rcases h with h | ⟨o', h⟩
  · exact .inl (upd_oth h fun e => by subst e; rw [hw] at h; exact n _ (Option.some.inj h))
  · exact .inr ⟨o', upd_oth h fun e => by subst e; rw [hw] at h; exact n2 _ _ (Option.some.inj h)⟩
theorem same_new (n : H p = none) : Same H (upd H p o) := fun b w h => upd_old h n
theorem same_upd {H1 : Hp} (s : Same H H1) (n : H p = none) : Same H (upd H1 p o) := fun b w h => by rw [upd_ne (ne_of_none h n)]; exact s b w h
theorem same_updN {H1 : Hp} (s : Same H H1) (n : H1 p = none) : Same H (upd H1 p o) := fun b w h => upd_old (s b w h) n
theorem Same.sqt (e : Same H H') (h : SqT K H q xs) : SqT K H' q xs := by
  rcases h with (h | ⟨o, h⟩) | h
  · exact .inl (.inl (e _ _ h))
  · exact .inl (.inr ⟨o, e _ _ h⟩)
  · exact .inr h
end heaps
section steps2
variable {K : PySem.W.Frag} {σ : L2.St} {H : Hp} {Q : VK} {C p : Addr} {sp : Sp} {W : WX} {t : TA} {te td ty tv : TE} {x y v : V} {kvs : List (Key × V)} {i : Int} {N : L2.St → Hp → Prop}
def mkQ (C : Addr) (sp : Sp) (W : WX) (σ : L2.St) (vs : List V) (H1 : Hp) (Q : VK) : Prop := ∀ x dx, H1 x = none → H1 dx = none → dx ≠ x → sp (.ref x :: vs) (upd (upd H1 dx (.own x)) x (.ins C dx [])) (fun v H2 => v = .non ∧ Q (.ref x) H2) fun c d H2 => W c d σ H2
theorem w_make (h : t σ H fun vs H1 => mkQ C sp W σ vs H1 Q) : uMake C sp W t σ H Q := h
def dgQ (x y : V) (H : Hp) (Q : VK) : Prop := ∃ a v, x = .ref a ∧ DGet H a y (some v) ∧ Q v H
theorem w_dget (h : td σ H fun x H1 => ty σ H1 fun y H2 => dgQ x y H2 Q) : tDGet td ty σ H Q := h
theorem w_inD (e : H p = some (.dK kvs)) (h : Q (.bl (valV kvs (.inl i)).isSome) H) : uIn K (.int i) (.ref p) H Q := .inr ⟨_, DGet.k (k := .inl i) e, h⟩
theorem w_ninD (e : H p = some (.dK kvs)) (h : Q (.bl (!(valV kvs (.inl i)).isSome)) H) : uNin K (.int i) (.ref p) H Q := .inr ⟨_, DGet.k (k := .inl i) e, h⟩
def dpQ (x y v : V) (H : Hp) (N : Hp → Prop) : Prop := ∃ a H4, x = .ref a ∧ DPut H a y v H4 ∧ N H4
theorem w_dput {D : Ends} (h : tv σ H fun v H1 => td σ H1 fun x H2 => ty σ H2 fun y H3 => dpQ x y v H3 (D.nx σ)) : sDPut td ty tv D σ H := h
theorem w_newD (h : ∀ p, H p = none → Q (.ref p) (upd H p (.dK []))) : tDNewK σ H Q := h
/-- a list times a number -/
theorem w_rep {xs : List V} {k : Int} (e : H p = some (.lst xs)) (h0 : 0 ≤ k) (h1 : k ≤ 100000) (h2 : xs.length ≤ 100) (h : ∀ q, H q = none → Q (.ref q) (upd H q (.lst (List.replicate k.toNat xs).flatten))) : uMul (.ref p) (.int k) H Q := by
  refine ⟨p, k, xs, rfl, rfl, e, by omega, by omega, ?_, h⟩
  have h3 : k.toNat ≤ 100000 := by omega
  have h4 : xs.length * k.toNat ≤ 100 * 100000 := Nat.mul_le_mul h2 h3
  exact Nat.le_trans h4 (by decide)
theorem rep1 (n : Nat) (z : Int) : (List.replicate n [V.int z]).flatten = (List.replicate n z).map V.int := by
  induction n with
  | zero => rfl
  | succ n ih => rw [List.replicate_succ, List.flatten_cons, ih, List.replicate_succ, List.map_cons]; rfl
theorem w_rep1 {z k : Int} (e : H p = some (.lst [.int z])) (h0 : 0 ≤ k) (h1 : k ≤ 100000) (h : ∀ q, H q = none → Q (.ref q) (upd H q (.lst ((List.replicate k.toNat z).map V.int)))) : uMul (.ref p) (.int k) H Q :=
  w_rep e h0 h1 (by simp) fun q hq => by rw [rep1]; exact h q hq
theorem w_gtup2 {a : Addr} {u : TGs} (e : SqT K H a [x, y]) (h : u [x, y] σ H N) : gTup K 2 u (.ref a) σ H N := ⟨a, _, rfl, e, rfl, h⟩
theorem w_gtup3 {a : Addr} {u : TGs} {z : V} (e : SqT K H a [x, y, z]) (h : u [x, y, z] σ H N) : gTup K 3 u (.ref a) σ H N := ⟨a, _, rfl, e, rfl, h⟩
theorem w_gtup4 {a : Addr} {u : TGs} {z w : V} (e : SqT K H a [x, y, z, w]) (h : u [x, y, z, w] σ H N) : gTup K 4 u (.ref a) σ H N := ⟨a, _, rfl, e, rfl, h⟩
theorem w_gcons {g : TG} {u : TGs} {r : List V} (h : g v σ H fun σ' H' => u r σ' H' N) : gCons g u (v :: r) σ H N := ⟨v, r, rfl, h⟩
theorem w_gnil (h : N σ H) : gNil [] σ H N := ⟨rfl, h⟩
def augQ (C : Addr) (f : Str) (r : V → V → Hp → VK → Prop) (tv : TE) (D : Ends) (σ : L2.St) (x : V) (H1 : Hp) : Prop := ∃ a dx fs v, x = .ref a ∧ H1 a = some (.ins C dx fs) ∧ fs.lookup f = some v ∧
  tv σ H1 fun y H2 => r v y H2 fun z H3 => ∃ dx' fs', H3 a = some (.ins C dx' fs') ∧ fs'.length < 1000 ∧ D.nx σ (upd H3 a (.ins C dx' (putF f z fs')))
theorem w_augf {D : Ends} {f : Str} {r : V → V → Hp → VK → Prop} (h : te σ H fun x H1 => augQ C f r tv D σ x H1) : uAugF C f r te tv D σ H := h
theorem w_augsub {D : Ends} {f : Str} {dx : Addr} {fs : List (Str × V)} {i j : Int} (e : H p = some (.ins C dx fs)) (l : fs.lookup f = some (.int i)) (s : fs.length < 1000) (h : D.nx σ (upd H p (.ins C dx (putF f (.int (i - j)) fs)))) : augQ C f rSub (tC (.int j)) D σ (.ref p) H :=
  ⟨p, dx, fs, _, rfl, e, l, i, j, rfl, rfl, dx, fs, e, s, h⟩
theorem w_augadd {D : Ends} {f : Str} {dx : Addr} {fs : List (Str × V)} {i j : Int} (e : H p = some (.ins C dx fs)) (l : fs.lookup f = some (.int i)) (s : fs.length < 1000) (h : D.nx σ (upd H p (.ins C dx (putF f (.int (i + j)) fs)))) : augQ C f rAdd (tC (.int j)) D σ (.ref p) H :=
  ⟨p, dx, fs, _, rfl, e, l, i, j, rfl, rfl, dx, fs, e, s, h⟩
end steps2
section whiles
variable {D : Ends} {σ : L2.St} {H : Hp} {c : TT} {tb : TS}
def whQ (P : L2.St → Hp → Prop) (μ : L2.St → Hp → Nat) (m : Nat) (tb : TS) (D : Ends) (σ : L2.St) (H : Hp) : Prop :=
  ∃ N : L2.St → Hp → Prop, (∀ σ' H', N σ' H' → ∃ m', m' < m ∧ (m' = μ σ' H' ∧ P σ' H')) ∧ tb { D with nx := N, ct := N, bk := D.nx } σ H
theorem w_wh {P : L2.St → Hp → Prop} {μ : L2.St → Hp → Nat} {m : Nat} (h : tb { D with nx := fun σ' H' => P σ' H' ∧ μ σ' H' < m, ct := fun σ' H' => P σ' H' ∧ μ σ' H' < m, bk := D.nx } σ H) : whQ P μ m tb D σ H := ⟨_, fun _ _ n => ⟨_, n.2, rfl, n.1⟩, h⟩
end whiles
section data
variable {K : PySem.W.Frag} {H : Hp} {Q : VK} {α β : Type} [DecidableEq α] [PySem.W.Datum α] [DecidableEq β] [PySem.W.Datum β]
def Dt (K : PySem.W.Frag) (H : Hp) (v : V) (a : α) : Prop := Dp K H v (PySem.W.Datum.toD a)
def DtAll (K : PySem.W.Frag) (H : Hp) (vs : List V) (as : List α) : Prop := DpAll K H vs (as.map PySem.W.Datum.toD)
theorem Dt.int {i : Int} : Dt K H (.int i) i := Dp.int i
theorem Dt.bl {i : Bool} : Dt K H (.bl i) i := Dp.bl i
theorem Dt.str {i : Str} : Dt K H (.str i) i := Dp.str i
theorem Dt.list {p : Addr} {vs : List V} {as : List α} (e : SqL K H p vs) (h : DtAll K H vs as) : Dt K H (.ref p) as := Dp.lst e h
theorem Dt.tup {p : Addr} {vs : List V} {as : List α} (e : SqT K H p vs) (h : DtAll K H vs as) : Dt K H (.ref p) (PySem.W.Tup.mk as) := Dp.tup e h
theorem Dt.pair {p : Addr} {x y : V} {a : α} {b : β} (e : SqT K H p [x, y]) (h1 : Dt K H x a) (h2 : Dt K H y b) : Dt K H (.ref p) (a, b) := Dp.tup e (DpAll.cons h1 (DpAll.cons h2 DpAll.nil))
theorem DtAll.nil : DtAll K H [] ([] : List α) := DpAll.nil
theorem DtAll.cons {v : V} {vs : List V} {a : α} {as : List α} (h : Dt K H v a) (hs : DtAll K H vs as) : DtAll K H (v :: vs) (a :: as) := DpAll.cons h hs
theorem DtAll.ints : ∀ (ns : List Int), DtAll K H (ns.map V.int) ns
  | [] => DpAll.nil
  | _ :: ns => DpAll.cons (Dp.int _) (DtAll.ints ns)
theorem DtAll.get : ∀ {vs : List V} {as : List α} {i : Nat} {v : V}, DtAll K H vs as → vs[i]? = some v → ∃ a, as[i]? = some a ∧ Dt K H v a
  | [], [], _, _, _, e => by cases e
  | [], _ :: _, _, _, h, _ => by cases h
  | _ :: _, [], _, _, h, _ => by cases h
  | _ :: _, a :: as, 0, v, h, e => by
    cases h with
    | cons h1 h2 => cases e; exact ⟨a, rfl, h1⟩
  | _ :: _, _ :: _, i + 1, v, h, e => by
    cases h with
    | cons h1 h2 => exact DtAll.get (i := i) h2 e
theorem DtAll.length : ∀ {vs : List V} {as : List α}, DtAll K H vs as → vs.length = as.length
  | [], [], _ => rfl
  | [], _ :: _, h => by cases h
  | _ :: _, [], h => by cases h
  | _ :: vs, _ :: as, h => by
    cases h with
    | cons h1 h2 => rw [List.length_cons, List.length_cons, DtAll.length h2]
theorem DtAll.append : ∀ {vs ws : List V} {as bs : List α}, DtAll K H vs as → DtAll K H ws bs → DtAll K H (vs ++ ws) (as ++ bs)
  | [], _, [], _, _, k => k
  | [], _, _ :: _, _, h, _ => by cases h
  | _ :: _, _, [], _, h, _ => by cases h
  | _ :: _, _, _ :: _, _, h, k => by
    cases h with
    | cons h1 h2 => exact DpAll.cons h1 (DtAll.append h2 k)
mutual
theorem Dp.same {H' : Hp} (s : Same H H') : ∀ {d : PyData} {v : V}, Dp K H v d → Dp K H' v d
  | .none, _, h => by cases h; exact .non
  | .bool _, _, h => by cases h; exact .bl _
  | .int _, _, h => by cases h; exact .int _
  | .str _, _, h => by cases h; exact .str _
  | .list _, _, h => by
    cases h with
    | lst e a => exact .lst (s.seq e) (DpAll.same s a)
  | .tuple _, _, h => by
    cases h with
    | tup e a =>
      refine .tup ?_ (DpAll.same s a)
      rcases e with (e | ⟨o, e⟩) | e
      · exact .inl (.inl (s _ _ e))
      · exact .inl (.inr ⟨o, s _ _ e⟩)
      · exact .inr e
  | .dict _, _, h => by cases h
theorem DpAll.same {H' : Hp} (s : Same H H') : ∀ {ds : List PyData} {vs : List V}, DpAll K H vs ds → DpAll K H' vs ds
  | [], _, h => by cases h; exact .nil
  | _ :: _, _, h => by
    cases h with
    | cons h1 h2 => exact .cons (Dp.same s h1) (DpAll.same s h2)
end
theorem Dt.same {H' : Hp} (s : Same H H') {v : V} {a : α} (h : Dt K H v a) : Dt K H' v a := Dp.same s h
theorem DtAll.same {H' : Hp} (s : Same H H') {vs : List V} {as : List α} (h : DtAll K H vs as) : DtAll K H' vs as := DpAll.same s h
end data
section tups
variable {K : PySem.W.Frag} {H : Hp}
mutual
def tupOnly : PyData → Bool
  | .list _ => false
  | .dict _ => false
  | .tuple ds => tupOnlyAll ds
  | _ => true
def tupOnlyAll : List PyData → Bool
  | [] => true
  | d :: ds => tupOnly d && tupOnlyAll ds
end
mutual
theorem Dp.wr {p : Addr} {w o : HO} (hw : H p = some w) (n : ∀ ys, w ≠ .tup ys) (n2 : ∀ ob ys, w ≠ .frz ob ys) : ∀ {d : PyData} {v : V}, tupOnly d = true → Dp K H v d → Dp K (upd H p o) v d
  | .none, _, _, h => by cases h; exact .non
  | .bool _, _, _, h => by cases h; exact .bl _
  | .int _, _, _, h => by cases h; exact .int _
  | .str _, _, _, h => by cases h; exact .str _
  | .list _, _, t, _ => by simp [tupOnly] at t
  | .tuple ds, _, t, h => by
    cases h with
    | tup e a => exact .tup (sqt_wr e hw n n2) (DpAll.wr hw n n2 (by simpa [tupOnly] using t) a)
  | .dict _, _, _, h => by cases h
theorem DpAll.wr {p : Addr} {w o : HO} (hw : H p = some w) (n : ∀ ys, w ≠ .tup ys) (n2 : ∀ ob ys, w ≠ .frz ob ys) : ∀ {ds : List PyData} {vs : List V}, tupOnlyAll ds = true → DpAll K H vs ds → DpAll K (upd H p o) vs ds
  | [], _, _, h => by cases h; exact .nil
  | d :: ds, _, t, h => by
    have t' := Bool.and_eq_true_iff.mp (show (tupOnly d && tupOnlyAll ds) = true by simpa [tupOnlyAll] using t)
    cases h with
    | cons h1 h2 => exact .cons (Dp.wr hw n n2 t'.1 h1) (DpAll.wr hw n n2 t'.2 h2)
end
theorem tupOnly_ints : ∀ ns : List Int, tupOnlyAll (ns.map PyData.int) = true
  | [] => by simp [tupOnlyAll]
  | _ :: ns => by simp [tupOnlyAll, tupOnly, tupOnly_ints ns]
end tups
section comps
variable {K : PySem.W.Frag} {σ : L2.St} {H1 : Hp} {Q : VK} {g : TG} {tt : TT} {te : TE} {vs : List Nat}
def lcQ (g : TG) (tt : TT) (te : TE) (vs : List Nat) (σ : L2.St) (J : It) (H1 : Hp) (Q : VK) : Prop := ∀ D, H1 D = none → ∃ W : Nat → Nat → Hp → Prop, (∃ m, W 0 m (upd H1 D (.lst []))) ∧ ∀ i m H, W i m H →
  (J.stop i H ∧ Q (.ref D) H) ∨ (J.go i H ∧ ∃ Nx : Hp → Prop, (∀ H', Nx H' → ∃ m', m' < m ∧ W (i + 1) m' H') ∧ ∀ x H', J.yld i H x H' → g x (wipe σ vs) H' fun σ2 H2 => wipe σ2 vs = wipe σ vs ∧ tt σ2 H2 fun b H3 =>
    if b = true then te σ2 H3 fun y H4 => ∃ acc, H4 D = some (.lst acc) ∧ acc.length < sizeLine ∧ Nx (upd H4 D (.lst (acc ++ [y]))) else Nx H3)
theorem w_lc {wi : TI} (h : wi σ H1 fun J H2 => lcQ g tt te vs σ J H2 Q) : tLc wi g tt te vs σ H1 Q := h
theorem w_yes {QB : Bool → Hp → Prop} (h : QB true H1) : tYes σ H1 QB := h
end comps
section texts
/-- the text of these signs -/
def tx (l : List Nat) : Str := ⟨l.toArray⟩
theorem tx_list (l : List Nat) : (tx l).cps.toList = l := rfl
theorem tx_len (l : List Nat) : (tx l).length = l.length := by unfold tx Str.length; exact List.size_toArray
theorem tx_app (l m : List Nat) : tx l ++ tx m = tx (l ++ m) := PySem.Str.ext' (by rw [PySem.Str.cps_append]; exact Array.toList_inj.mp (by rw [Array.toList_append]; rfl))
theorem tx_inj {l m : List Nat} : tx l = tx m ↔ l = m := ⟨fun h => by have := congrArg (fun z : Str => z.cps.toList) h; exact this, fun h => by rw [h]⟩
theorem cut_tk (l : List Nat) (k : Nat) : cutS (tx l) none (some (k : Int)) = tx (l.take k) := by
  unfold cutS
  rw [tx_len, HT.sIx_nat, HT.sIx_none, List.drop_zero, Nat.sub_zero, tx_list, ← List.take_take, List.take_length]
  rfl
theorem cut_dp (l : List Nat) (k : Nat) : cutS (tx l) (some (k : Int)) none = tx (l.drop k) := by
  unfold cutS
  rw [tx_len, HT.sIx_nat, HT.sIx_none, tx_list]
  rcases Nat.le_total k l.length with h | h
  · rw [Nat.min_eq_left h, List.take_of_length_le (by rw [List.length_drop]; exact Nat.le_refl _)]; rfl
  · rw [Nat.min_eq_right h, List.drop_length, List.drop_eq_nil_of_le h, List.take_nil]; rfl
theorem fold_rep (c : Nat) : ∀ (n : Nat) (a : Array Nat), (List.replicate n #[c]).foldl (· ++ ·) a = a ++ (List.replicate n c).toArray
  | 0, a => by simp
  | n + 1, a => by
    rw [List.replicate_succ, List.foldl_cons, fold_rep c n]
    apply Array.toList_inj.mp
    simp [List.replicate_succ]
theorem mul_one (c : Nat) (n : Nat) : Txt.mul (tx [c]) (n : Int) = tx (List.replicate n c) := by
  unfold Txt.mul
  by_cases h : (n : Int) < 1
  · rw [if_pos h]; obtain rfl : n = 0 := by omega
    rfl
  · rw [if_neg h]
    by_cases h2 : ((n : Int) == 1 || (tx [c]).length == 0) = true
    · rw [if_pos h2]
      have : (n : Int) = 1 := by
        rcases Bool.or_eq_true_iff.mp h2 with h2 | h2
        · exact eq_of_beq h2
        · cases h2
      obtain rfl : n = 1 := by omega
      rfl
    · rw [if_neg h2, Int.toNat_natCast]
      exact PySem.Str.ext' (by show (List.replicate n #[c]).foldl (· ++ ·) #[] = _; rw [fold_rep]; simp [tx])
theorem mulOk_one (c : Nat) {n : Int} (h0 : 0 ≤ n) (h1 : n ≤ 100000) : MulOk (tx [c]) n := by
  have e : (tx [c]).length = 1 := rfl
  refine ⟨?_, fun h _ => ?_, fun h _ => ?_⟩
  · rw [decide_eq_false (by omega), decide_eq_false (by omega)]; rfl
  · rw [e]
    have : (1 : Int) ≤ (2 ^ 63 - 1) / n := Int.le_ediv_of_mul_le (by omega) (by omega)
    omega
  · rw [e]; unfold Builtin.Str.tooLong
    rw [decide_eq_false]
    have : (100000 : Nat) ≤ sizeLine := by decide
    omega
/-- the first place of a sign in a text, or -1 -/
def ixc (l : List Nat) (c : Nat) : Int := if c ∈ l then (l.idxOf c : Int) else -1
theorem tx_find (l : List Nat) (c : Nat) : Txt.find (tx l) (tx [c]) = ixc l c := by
  unfold Txt.find ixc
  have key : ∀ i, PySem.StrLaws.At (tx l) (tx [c]) (tx l).length i ↔ l[i]? = some c := fun i => PySem.StrLaws.subAt_one (tx l) c i
  rcases PySem.StrLaws.occ_head (tx l) (tx [c]) 1 (Nat.le_refl 1) with ⟨e, hn⟩ | ⟨i, r, e, ha, hn⟩
  · rw [e, if_neg]
    intro hm
    obtain ⟨i, hi⟩ := List.getElem?_of_mem hm
    exact hn i ((key i).mpr hi)
  · rw [e]
    have hi := (key i).mp ha
    rw [if_pos (List.mem_of_getElem? hi)]
    have hl : i < l.length := (List.getElem?_eq_some_iff.mp hi).1
    have hg : l[i] = c := (List.getElem?_eq_some_iff.mp hi).2
    have h1 : l.idxOf c < l.length := List.idxOf_lt_length_iff.mpr (List.mem_of_getElem? hi)
    have h2 : l[l.idxOf c] = c := List.getElem_idxOf h1
    have h3 : ¬ l.idxOf c < i := fun q => hn _ q ((key _).mpr (by rw [List.getElem?_eq_getElem h1, h2]))
    have h4 : ¬ i < l.idxOf c := fun q => by
      have := List.not_of_lt_findIdx (p := (· == c)) (xs := l) (i := i) q
      simp [hg] at this
    have : l.idxOf c = i := by omega
    rw [this]
theorem cnt_eq (c : Nat) : ∀ l : List Nat, PyProof.Rows.cnt c l = (l.count c : Nat)
  | [] => rfl
  | n :: l => by
    rw [PyProof.Rows.cnt_cons, cnt_eq c l, List.count_cons]
    by_cases h : n = c
    · subst h; simp; omega
    · simp [h]
theorem tx_count (l : List Nat) (c : Nat) : Txt.count (tx l) (tx [c]) = (l.count c : Nat) := (PyProof.Rows.count_is (tx l) c).trans (cnt_eq c l)
end texts
section textsteps
variable {X : Cx} {K : PySem.W.Frag} {H : Hp} {Q : VK} {l m : List Nat} {c : Nat} {n : Int}
def uFind : V → List V → Hp → VK → Prop := fun x xs H Q => match x, xs with
  | .str a, [.str b] => Q (.int (Txt.find a b)) H
  | _, _ => False
def uCount : V → List V → Hp → VK → Prop := fun x xs H Q => match x, xs with
  | .str a, [.str b] => Q (.int (Txt.count a b)) H
  | _, _ => False
theorem w_addX (s : l.length + m.length ≤ 100000) (h : Q (.str (tx (l ++ m))) H) : uAdd K (.str (tx l)) (.str (tx m)) H Q := ⟨by rw [tx_len, tx_len]; exact small9 s, by rw [tx_app]; exact h⟩
theorem w_mulX (h0 : 0 ≤ n) (h1 : n ≤ 100000) (h : Q (.str (tx (List.replicate n.toNat c))) H) : uMul (.str (tx [c])) (.int n) H Q := by
  obtain ⟨k, rfl⟩ := Int.eq_ofNat_of_zero_le h0
  exact ⟨mulOk_one c h0 h1, by rw [mul_one]; exact h⟩
theorem w_lenX (s : l.length ≤ 100000) (h : Q (.int l.length) H) : uLen K [.str (tx l)] H Q := ⟨by rw [tx_len]; exact small9 s, by rw [tx_len]; exact h⟩
theorem w_truX {QB : Bool → Hp → Prop} (s : l.length ≤ 100000) (h : QB (!decide (l.length = 0)) H) : truV K (.str (tx l)) H QB := ⟨by rw [tx_len]; exact small9 s, by rw [tx_len]; exact h⟩
theorem d_tx : decide (tx l = tx m) = decide (l = m) := decide_eq_decide.mpr tx_inj
theorem w_eqX (h : Q (.bl (decide (l = m))) H) : uEq K (.str (tx l)) (.str (tx m)) H Q := by
  rw [← d_tx] at h; exact h
theorem w_neX (h : Q (.bl (!decide (l = m))) H) : uNe K (.str (tx l)) (.str (tx m)) H Q := by
  rw [← d_tx] at h; exact h
theorem w_tkX (s : l.length ≤ 100000) (h0 : 0 ≤ n) (h : Q (.str (tx (l.take n.toNat))) H) : uSl K (.str (tx l)) none (some n) H Q := by
  obtain ⟨k, rfl⟩ := Int.eq_ofNat_of_zero_le h0
  exact .inr (.inr ⟨_, rfl, by rw [tx_len]; exact small9 s, by rw [cut_tk]; exact h⟩)
theorem w_dpX (s : l.length ≤ 100000) (h0 : 0 ≤ n) (h : Q (.str (tx (l.drop n.toNat))) H) : uSl K (.str (tx l)) (some n) none H Q := by
  obtain ⟨k, rfl⟩ := Int.eq_ofNat_of_zero_le h0
  exact .inr (.inr ⟨_, rfl, by rw [tx_len]; exact small9 s, by rw [cut_dp]; exact h⟩)
theorem w_ixX (s : l.length ≤ 100000) (h0 : 0 ≤ n ∧ n.toNat < l.length) (h : Q (.str (tx [l.getD n.toNat 0])) H) : uIx K (.str (tx l)) (.int n) H Q := by
  refine ⟨by rw [tx_len]; exact small9 s, l.getD n.toNat 0, ?_, h⟩
  have y := atI_nat (show l[n.toNat]? = some (l.getD n.toNat 0) by rw [List.getD_eq_getElem?_getD, List.getElem?_eq_getElem h0.2]; rfl)
  rw [show ((n.toNat : Nat) : Int) = n by omega] at y
  exact y
theorem w_findX (h : Q (.int (ixc l c)) H) : uFind (.str (tx l)) [.str (tx [c])] H Q := by
  rw [← tx_find] at h; exact h
theorem w_countX (h : Q (.int ((l.count c : Nat) : Int)) H) : uCount (.str (tx l)) [.str (tx [c])] H Q := by
  rw [← tx_count] at h; exact h
end textsteps
section steps3
variable {X : Cx} {K : PySem.W.Frag} {H H' H0 : Hp} {Q : VK} {p q : Addr} {xs ys : List V} {o w : HO}
theorem w_cat (e1 : H p = some (.lst xs)) (e2 : H q = some (.lst ys)) (s : xs.length + ys.length ≤ 1000000) (h : ∀ l, H l = none → Q (.ref l) (upd H l (.lst (xs ++ ys)))) : uAdd K (.ref p) (.ref q) H Q :=
  .inl ⟨p, q, xs, ys, rfl, rfl, e1, e2, Nat.le_trans s (by decide), h⟩
end steps3
section steps4
variable {X : Cx} {K : PySem.W.Frag} {D : Ends} {σ : L2.St} {H H1 : Hp} {Q : VK} {g : TG} {tb : TS} {tt : TT} {te td ty tx : TE} {tA : TA} {p q a b : Addr} {xs ys : List V} {kvs : List (Key × V)} {x y z v : V} {i : Int} {vs : List Nat}
def enumQ (K : PySem.W.Frag) (vs : List V) (H1 : Hp) (R : It → Hp → Prop) : Prop := ∃ a xs, vs = [.ref a] ∧ SqL K H1 a xs ∧ R (Ite K a) H1
theorem w_iEnum {R : It → Hp → Prop} (h : tA σ H fun vs H1 => enumQ K vs H1 R) : iEnum K tA σ H R := h
theorem w_iEnumv {R : It → Hp → Prop} (e : SqL K H p xs) (h : R (Ite K p) H) : enumQ K [.ref p] H R := ⟨p, xs, rfl, e, h⟩
def zipQ (K : PySem.W.Frag) (vs : List V) (H1 : Hp) (R : It → Hp → Prop) : Prop := ∃ a b xs ys, vs = [.ref a, .ref b] ∧ SqL K H1 a xs ∧ SqL K H1 b ys ∧ R (Itz K a b) H1
theorem w_iZip {R : It → Hp → Prop} (h : tA σ H fun vs H1 => zipQ K vs H1 R) : iZip K tA σ H R := h
theorem w_iZipv {R : It → Hp → Prop} (e : SqL K H p xs) (e2 : SqL K H q ys) (h : R (Itz K p q) H) : zipQ K [.ref p, .ref q] H R := ⟨p, q, xs, ys, rfl, e, e2, h⟩
def keysQ (x : V) (H1 : Hp) (R : It → Hp → Prop) : Prop := ∃ d o, x = .ref d ∧ ((∃ kvs, H1 d = some (.frz o (.dK kvs)) ∧ R (Itk d o kvs) H1) ∨ ∃ kvs, H1 d = some (.frz o (.dT kvs)) ∧ R (Itkt d o kvs) H1)
theorem w_iKeys {R : It → Hp → Prop} (h : te σ H fun x H1 => keysQ x H1 R) : iKeys te σ H R := h
/-- d.get(k, e), d.get(k) -/
def get2Q (ty tx : TE) (σ : L2.St) (x : V) (H1 : Hp) (Q : VK) : Prop := ∃ a, x = .ref a ∧ IsD H1 a ∧ ty σ H1 fun y H2 => tx σ H2 fun z H3 => ∃ o, DGet H3 a y o ∧ Q (o.getD z) H3
def getQ (p : Addr) (y z : V) (H : Hp) (Q : VK) : Prop := ∃ o, DGet H p y o ∧ Q (o.getD z) H
theorem w_dget2 (h : td σ H fun x H1 => get2Q ty tx σ x H1 Q) : tDGet2 td ty tx σ H Q := h
theorem w_dget2v (e : H p = some (.dK kvs)) (h : ty σ H fun y H2 => tx σ H2 fun z H3 => getQ p y z H3 Q) : get2Q ty tx σ (.ref p) H Q := ⟨p, rfl, .inl ⟨kvs, .inl e⟩, h⟩
def get1Q (ty : TE) (σ : L2.St) (x : V) (H1 : Hp) (Q : VK) : Prop := ∃ a, x = .ref a ∧ IsD H1 a ∧ ty σ H1 fun y H2 => getQ a y .non H2 Q
theorem w_dget1 (h : td σ H fun x H1 => get1Q ty σ x H1 Q) : tDGet1 td ty σ H Q := h
theorem w_dget1v (e : H p = some (.dK kvs)) (h : ty σ H fun y H2 => getQ p y .non H2 Q) : get1Q ty σ (.ref p) H Q := ⟨p, rfl, .inl ⟨kvs, .inl e⟩, h⟩
theorem w_getI (e : H p = some (.dK kvs)) (h : Q ((valV kvs (.inl i)).getD z) H) : getQ p (.int i) z H Q := ⟨_, DGet.k (k := .inl i) e, h⟩
/-- d.pop(k) -/
def pop1Q (ty : TE) (σ : L2.St) (x : V) (H1 : Hp) (Q : VK) : Prop := ∃ a, x = .ref a ∧ IsD H1 a ∧ ty σ H1 fun y H2 => popQ1 a y H2 Q
where popQ1 (a : Addr) (y : V) (H2 : Hp) (Q : VK) : Prop := ∃ kvs k v, H2 a = some (.dK kvs) ∧ y = kV k ∧ valV kvs k = some v ∧ Q v (upd H2 a (.dK (dropK kvs k)))
theorem w_dpop1 (h : td σ H fun x H1 => pop1Q ty σ x H1 Q) : tDPop1 td ty σ H Q := h
theorem w_dpop1v (e : H p = some (.dK kvs)) (h : ty σ H fun y H2 => pop1Q.popQ1 p y H2 Q) : pop1Q ty σ (.ref p) H Q := ⟨p, rfl, .inl ⟨kvs, .inl e⟩, h⟩
/-- del d[k] -/
def delQ (x y : V) (H2 : Hp) (N : Hp → Prop) : Prop := ∃ a kvs k, x = .ref a ∧ H2 a = some (.dK kvs) ∧ y = kV k ∧ (valV kvs k).isSome = true ∧ N (upd H2 a (.dK (dropK kvs k)))
theorem w_ddel (h : td σ H fun x H1 => ty σ H1 fun y H2 => delQ x y H2 (D.nx σ)) : sDDel td ty D σ H := h
end steps4
section hotdefs
variable {P : Program} {w : World} {K : PySem.W.Frag} {mg : Str → Option Value} {base : Heap}
variable {X : Cx}
def uCallX (a : Addr) (cls : Value) (d : Option Addr) (sp : Addr → Value → Sp) (t : TA) : TE := fun σ H Q => d = none ∧ t σ H fun vs H1 => sp a cls vs H1 Q fun _ _ _ => False
theorem w_callX {a : Addr} {cls : Value} {sp : Addr → Value → Sp} {t : TA} {σ : L2.St} {H : Hp} {Q : VK} (h : t σ H fun vs H1 => sp a cls vs H1 Q fun _ _ _ => False) : uCallX a cls none sp t σ H Q := ⟨rfl, h⟩
end hotdefs
section steps5
variable {K : PySem.W.Frag} {H : Hp} {Q : VK} {s t : Str} {A B : Prop}
theorem ifSF (h : decide (s = t) = false) (k : B) : if decide (s = t) = true then A else B := by rw [h]; exact iteF k
theorem ifST (h : decide (s = t) = true) (k : A) : if decide (s = t) = true then A else B := by rw [h]; exact iteT k
theorem ifSNF (h : decide (s = t) = true) (k : B) : if (!decide (s = t)) = true then A else B := by rw [h]; exact iteF k
theorem ifSNT (h : decide (s = t) = false) (k : A) : if (!decide (s = t)) = true then A else B := by rw [h]; exact iteT k
theorem w_neNN (h : Q (.bl false) H) : uNe K .non .non H Q := .inl ⟨rfl, h⟩
theorem w_eqNN (h : Q (.bl true) H) : uEq K .non .non H Q := .inl ⟨rfl, h⟩
end steps5
section steps6
variable {K : PySem.W.Frag} {H : Hp} {Q : VK} {p : Addr} {n : Int}
theorem w_ixBl {bs : List Bool} (e : SqL K H p (bs.map V.bl)) (h0 : 0 ≤ n ∧ n.toNat < bs.length) (h : Q (.bl (bs.getD n.toNat false)) H) : uIx K (.ref p) (.int n) H Q :=
  ⟨_, .bl (bs.getD n.toNat false), .inl e, by
    have z : (bs.map V.bl)[n.toNat]? = some (.bl (bs.getD n.toNat false)) := by rw [List.getElem?_map, List.getElem?_eq_getElem h0.2, List.getD_eq_getElem?_getD, List.getElem?_eq_getElem h0.2]; rfl
    have y := atI_nat z
    rw [show ((n.toNat : Nat) : Int) = n by omega] at y
    exact y, h⟩
def augSQ (ti te : TE) (g : V → V → Hp → VK → Prop) (op : TIp) (ts : TSet) (D : Ends) (σ : L2.St) (x : V) (H1 : Hp) : Prop := ti σ H1 fun i H2 => g x i H2 fun v H3 => te σ H3 fun y H4 => op v y H4 fun z H5 => ts x i z H5 fun H6 => D.nx σ H6
theorem w_getI2 {ns : List Int} (e : SqL K H p (ns.map V.int)) (h0 : 0 ≤ n ∧ n.toNat < ns.length) (h : Q (.int (ns.getD n.toNat 0)) H) : uGet K (.ref p) (.int n) H Q :=
  .inl ⟨h0.1, _, .int (ns.getD n.toNat 0), e, by rw [List.getElem?_map, List.getElem?_eq_getElem h0.2, List.getD_eq_getElem?_getD, List.getElem?_eq_getElem h0.2]; rfl, h⟩
theorem w_augS {D : Ends} {σ : L2.St} {to ti te : TE} {g : V → V → Hp → VK → Prop} {op : TIp} {ts : TSet} (h : to σ H fun o H1 => augSQ ti te g op ts D σ o H1) : tAugS to ti te g op ts D σ H := h
theorem w_augSQ {D : Ends} {σ : L2.St} {ti te : TE} {g : V → V → Hp → VK → Prop} {op : TIp} {ts : TSet} {x : V} (h : ti σ H fun i H2 => g x i H2 fun v H3 => te σ H3 fun y H4 => op v y H4 fun z H5 => ts x i z H5 fun H6 => D.nx σ H6) : augSQ ti te g op ts D σ x H := h
end steps6
end U
namespace U
open PySem PySem.Spec PyProof.Rows L2
section gxloop
variable {prog : Program} {w : World} {A : Around} {elt iter : Expr} {x : Str} {px gpos : Pos} {scope : Scope} {it : Addr} {cenv : Env}
abbrev gxC (elt iter : Expr) (x : Str) (px gpos : Pos) (scope : Scope) (it : Addr) (cenv : Env) : Code := .compLoop (.GeneratorExp elt [⟨.Name x px, iter, [], 0⟩] scope gpos) 0 (.ref it) .none cenv
abbrev gxR (JE : Shared → Prop) : GenEnd := fun _ _ r s₁ => r = .ok .next ∧ JE s₁
abbrev gxY (J : Nat → Nat → Shared → Prop) (JF : Shared → Prop) : Protocol := fun k _ v s kap => ∃ b : Bool, v = .bool b ∧ ((b = true ∧ ∃ i m, m < k ∧ J i m s ∧ ∀ s'', J i m s'' → kap (.send .none) s'') ∨ (b = false ∧ JF s))
/-- one turn of the generator's loop -/
def GxTurn (prog : Program) (w : World) (A' : Around) (elt : Expr) (x : Str) (px : Pos) (it : Addr) (cenv : Env) (J : Nat → Nat → Shared → Prop) (JF JE : Shared → Prop) : Prop :=
  ∀ i m s, J i m s → wpAny (model prog w) A' (pyNext (.ref it)) (fun r s1 => match r with
    | none => JE s1
    | some v => wpAny (model prog w) A' (letOwnedTupleGo (.Name x px) (.ref it) v) (fun _ s2 => wpAny (model prog w) A' (assign (.Name x px) cenv v) (fun _ s3 => wpAny (model prog w) A' (eval elt cenv) (fun y s4 =>
        ∃ b : Bool, y = .bool b ∧ ((b = true ∧ ∃ m', m' < m ∧ J (i + 1) m' s4) ∨ (b = false ∧ JF s4))) (fun _ _ => False) s3) (fun _ _ => False) s2) (fun _ _ => False) s1) (fun _ _ => False) s
theorem seg_gx (J : Nat → Nat → Shared → Prop) (JF JE : Shared → Prop) (hco : cenv.scope.isCoroutine = false)
    (turn : GxTurn prog w (A.over (gxC elt iter x px gpos scope it cenv) []) elt x px it cenv J JF JE) :
    ∀ (n m i : Nat) (s₀ s : Shared), m < n → J i m s → Seg (model prog w) A (gxR JE) (gxY J JF) n s₀ (gxC elt iter x px gpos scope it cenv) ((model prog w).den (gxC elt iter x px gpos scope it cenv)) [] s := by
  intro n
  induction n with
  | zero => intro m i s₀ s h; exact absurd h (Nat.not_lt_zero _)
  | succ n ih =>
    intro m i s₀ s hm hJ
    show Seg _ A _ _ _ s₀ _ ((compTurn (.GeneratorExp elt [⟨.Name x px, iter, [], 0⟩] scope gpos) 0 (.ref it) .none cenv).onRaise (leaving cenv)) [] s
    rw [compTurn_gen, Sem.onRaise_eq_wrap]
    refine seg_bind_wrap (wpAny_standAt ?_)
    refine seg_bind_wrap (wpAny_mono (turn i m s hJ) (fun r s1 h1 => ?_) fun _ _ e => e.elim)
    cases r with
    | none => exact seg_end (.ok .next) ⟨rfl, h1⟩
    | some v =>
      refine seg_bind_wrap (wpAny_mono h1 (fun _ s2 h2 => ?_) fun _ _ e => e.elim)
      refine seg_bind_wrap (wpAny_mono h2 (fun _ s3 h3 => ?_) fun _ _ e => e.elim)
      refine seg_bind_wrap ?_
      simp only [List.forIn_nil]
      refine wpAny_pure ?_
      simp only [if_true]
      have hy : ∀ v, yieldOut cenv v = yieldValue v := fun v => by simp only [yieldOut, hco, Bool.false_eq_true, if_false]
      simp only [hy]
      rw [Sem.bind_eq_wrap', Sem.bind_eq_wrap', Sem.wrap_wrap, Sem.wrap_wrap]
      refine seg_wrap (wpAny_mono h3 (fun y s4 h4 => ?_) fun _ _ e => e.elim)
      obtain ⟨b, rfl, h4⟩ := h4
      refine seg_at (seg_yield rfl rfl rfl ⟨b, rfl, ?_⟩)
      rcases h4 with ⟨hb, m', hm', hJ'⟩ | h4
      · refine .inl ⟨hb, i + 1, m', by omega, hJ', fun s'' hJ'' => ?_⟩
        exact seg_again rfl (ih m' (i + 1) s'' s'' (by omega) hJ'')
      · exact .inr h4
theorem seg_gxStart (J : Nat → Nat → Shared → Prop) (JF JE : Shared → Prop) (hco : cenv.scope.isCoroutine = false)
    (turn : GxTurn prog w (A.over (gxC elt iter x px gpos scope it cenv) []) elt x px it cenv J JF JE)
    {n m : Nat} {s₀ s : Shared} (hm : m < n) (hJ : J 0 m s) (self : ∀ (A' : Around) (Q : Value → Shared → Prop) (E : Value → Shared → Prop), Q (.ref it) s → wpAny (model prog w) A' (pyIter (.ref it)) Q E s) :
    Seg (model prog w) A (gxR JE) (gxY J JF) n s₀ (.compStart (.GeneratorExp elt [⟨.Name x px, iter, [], 0⟩] scope gpos) 0 (.ref it) .none cenv)
      ((model prog w).den (.compStart (.GeneratorExp elt [⟨.Name x px, iter, [], 0⟩] scope gpos) 0 (.ref it) .none cenv)) [] s := by
  have loop := seg_gx (iter := iter) (scope := scope) (gpos := gpos) J JF JE hco turn n m 0 s₀ s hm hJ
  show Seg _ A _ _ _ s₀ _ ((compStart (.GeneratorExp elt [⟨.Name x px, iter, [], 0⟩] scope gpos) 0 (.ref it) .none cenv).onRaise (leaving cenv)) [] s
  unfold compStart
  rw [Sem.onRaise_eq_wrap]
  show Seg _ A _ _ _ s₀ _ ((ask >>= _).wrap _ _ _ _) [] s
  refine seg_bind_wrap (wpAny_askSetting ?_)
  split
  · exact seg_again rfl loop
  · refine seg_bind_wrap (wpAny_rule ?_)
    show Seg _ A _ _ _ s₀ _ ((standAt iter.pos >>= _).wrap _ _ _ _) [] s
    exact seg_bind_wrap (wpAny_standAt (seg_bind_wrap (self _ _ _ (seg_again rfl loop))))
end gxloop
section gxall
variable {prog : Program} {w : World} {A : Around} {R : Result → Shared → Prop} {g : Nat} {ga : Addr}
/-- all's loop over a generator -/
theorem all_gx (J : Nat → Nat → Shared → Prop) (JF JE : Shared → Prop) (hh : A.handled = none) (hroom : A.depth < recursionLimit)
    (jg : ∀ i m s y, J i m s → y.bare = true → J i m (s.setGen g y)) (jo : ∀ i m s, J i m s → s.heap.NoLimit ∧ s.heap.IsGen ga g ∧ g < s.gens.size)
    (hE : ∀ s y h', JE s → y.bare = true → (∀ b o, s.heap.get? b = some o → h'.get? b = some o) → R (.ok (.ret (.bool true))) { s.setGen g y with heap := h' })
    (hF : ∀ s y, JF s → y.bare = true → R (.ok (.ret (.bool false))) (s.setGen g y)) :
    ∀ (n i m : Nat) (s : Shared) (gs : GenState), s.gens[g]? = some gs → J i m s → (∀ s'', J i m s'' → gs.Goes (model prog w) A.in1.in1 (gxR JE) (gxY J JF) n (.send .none) s'') →
      codeAny (model prog w) A (.builtin "all.loop" ⟨[.ref ga], []⟩) R s := by
  intro n
  induction n with
  | zero =>
    intro i m s gs hgs hJ hgo
    obtain ⟨hl, hg, _⟩ := jo i m s hJ
    refine codeAny_builtin F.entry_all_loop ?_
    rw [Around.under_plainId F.plain_all_loop _]
    show wpAny _ A.in1 (pyNext (.ref ga) >>= _) _ _ s
    refine wpAny_bind (wpAny_pyNext_genexpQ (A := A.in1) (P := fun _ _ s₁ => JE s₁) hh hl hroom hg hgs (hgo _ (jg _ _ _ _ hJ rfl)) (fun v s₁ gs' hb hv => ?_) (fun s₁ hp h' hk => ?_))
    · obtain ⟨b, rfl, hv⟩ := hv
      refine wpAny_bind (wpAny_holding (wpAny_truthy_bool ?_))
      refine wpAny_bind (wpAny_letGo ?_)
      rcases hv with ⟨_, i', m', _, hJ', kap⟩ | ⟨rfl, hv⟩
      · exact (kap s₁ hJ').elim
      · simp only [Bool.false_eq_true, if_false]
        exact wpAny_bind (wpAny_rule (wpAny_pure (hF s₁ gs' hv hb)))
    · exact wpAny_bind (wpAny_rule (wpAny_pure (hE s₁ .finished h' hp rfl hk)))
  | succ n ih =>
    intro i m s gs hgs hJ hgo
    obtain ⟨hl, hg, _⟩ := jo i m s hJ
    refine codeAny_builtin F.entry_all_loop ?_
    rw [Around.under_plainId F.plain_all_loop _]
    show wpAny _ A.in1 (pyNext (.ref ga) >>= _) _ _ s
    refine wpAny_bind (wpAny_pyNext_genexpQ (A := A.in1) (P := fun _ _ s₁ => JE s₁) hh hl hroom hg hgs (hgo _ (jg _ _ _ _ hJ rfl)) (fun v s₁ gs' hb hv => ?_) (fun s₁ hp h' hk => ?_))
    · obtain ⟨b, rfl, hv⟩ := hv
      refine wpAny_bind (wpAny_holding (wpAny_truthy_bool ?_))
      refine wpAny_bind (wpAny_letGo ?_)
      rcases hv with ⟨rfl, i', m', _, hJ', kap⟩ | ⟨rfl, hv⟩
      · simp only [if_true]
        obtain ⟨_, _, hlt⟩ := jo i' m' s₁ hJ'
        exact wpAny_pure ⟨plainId_quiet F.plain_all_loop _, ih i' m' _ gs' (setGen_at hlt) (jg _ _ _ _ hJ' hb) kap⟩
      · simp only [Bool.false_eq_true, if_false]
        exact wpAny_bind (wpAny_rule (wpAny_pure (hF s₁ gs' hv hb)))
    · exact wpAny_bind (wpAny_rule (wpAny_pure (hE s₁ .finished h' hp rfl hk)))
end gxall
/-- the context of a generator expression's frame -/
abbrev gxCx (X : Cx) (A : Around) (s : Shared) (H : Hp) (cenv : Env) (fp : List Addr) (x : Str) : Cx :=
  { X with A := A, N := [x], s_0 := s, H_0 := H, env := cenv, outer := X.stack, stack := cenv :: X.stack, ex := fp, fn := fun _ => false, pn := [], xe := fun _ _ => False }
/-- its scope: no names but its own -/
structure GenL (scope : Scope) (x : Str) : Prop where
  kind : scope.kind = .function
  co : scope.isCoroutine = false
  loc : ∀ y ∈ scope.names, y.2 ≠ .free ∧ y.2 ≠ .cell
  dot : scope.names.lookup (".0" : Str) = some NameKind.local
  var : scope.names.lookup x = some .local
section gxs
variable {X : Cx} {pins : List (Addr × Obj)} {σ : L2.St} {H : Hp} {s : Shared}
theorem clo_nil {cells : List (Str × Addr)} {names : List (Str × NameKind)} (h : ∀ y ∈ names, y.2 ≠ .free ∧ y.2 ≠ .cell) : cloFrom cells names [] = [] := by
  cases q : cloFrom cells names [] with
  | nil => rfl
  | cons p l =>
    have hm : (p.1, p.2) ∈ cloFrom cells names [] := by rw [q]; exact List.mem_cons_self ..
    rcases cloFrom_mem hm with z | ⟨z, _⟩
    · cases z
    · exact absurd rfl (h _ z).1
theorem gx_start {A' : Around} {scope : Scope} {x : Str} {code : Value} {fp : List Addr} {ga : Addr} {go : Obj} {h5 : Heap} {gs : GenState} {tk : Nat} {m : Str → Option Value} (I : Inv X pins σ H s) (hc : X.calm = true) (S : GenL scope x)
    (hh : A'.handled = none) (hfr : A'.frames = some (genEnv scope [] s.heap.objs.size code builtinsNs X.env :: X.stack)) (hfp : ∀ b ∈ fp, FpOk X pins H b ∧ b < s.heap.objs.size)
    (hk : ∀ b o, s.heap.get? b = some o → h5.get? b = some o) (hn : h5.Ns s.heap.objs.size m) (hga : s.heap.objs.size < ga) (hgo : h5.get? ga = some go) (hgc : ∀ v, go.data ≠ .cell v) (hgb : gs.bare = true) :
    Inv (gxCx X A' s H (genEnv scope [] s.heap.objs.size code builtinsNs X.env) fp x) [(ga, go)] [none] H { s with heap := h5, gens := s.gens.push gs, toks := tk } := by
  have nokind : ∀ y k, scope.names.lookup y = some k → k ≠ .free ∧ k ≠ .cell := fun y k e => S.loc _ (PySem.mem_of_lookup e)
  have okB : (gxCx X A' s H (genEnv scope [] s.heap.objs.size code builtinsNs X.env) fp x).Ok := by
    refine ⟨I.ok.mod, S.kind, I.ok.glob, rfl, Nat.le_refl _, fun y z c e1 e2 => ?_, fun y hy => ?_, fun y c z e => ?_, fun _ => hh, hfr, .inr ⟨rfl, rfl⟩, fun b hb => ⟨?_, fun y c e z => ?_⟩, I.bs, Nat.le_trans I.ok.bsz I.sz, fun b o e hb => ?_, fun b hb z => ?_, I.stack, I.stkFree⟩
    · cases e1
    · exfalso
      rcases hy with hy | hy
      · exact (nokind y _ hy).2 rfl
      · exact (nokind y _ hy).1 rfl
    · cases z
    · exact Nat.ne_of_lt (hfp b hb).2
    · cases e
    · rcases (hfp b hb).1.2.2.2.1 with z | z
      · exact I.ok.noex b o e z
      · exact absurd (Nat.lt_of_lt_of_le (Heap.lt_size e) (Nat.le_trans I.ok.bsz z)) (Nat.lt_irrefl _)
    · rcases List.mem_cons.mp (I.stkSub b z) with z | z
      · exact (hfp b hb).1.2.1 z
      · exact (hfp b hb).1.2.2.1 z
  refine ⟨okB, rfl, I.bare.push hgb, Un.kept hk, ⟨m, hn, fun i y av e1 e2 e3 => ?_⟩, fun y c e => ?_, I.hok.fresh (Nat.le_refl _), fun y c e => ?_, fun p hp => ?_, I.hok.kept hk, rfl⟩
  · cases i with
    | zero => cases e2
    | succ i => simp at e2
  · cases e
  · cases e
  · have hp : p = (ga, go) := by simpa using hp
    subst hp
    refine ⟨hgo, I.hok.fresh (Nat.le_of_lt hga), Nat.ne_of_gt hga, fun hb => ?_, hgc⟩
    rcases List.mem_cons.mp (I.stkSub ga hb) with z | z
    · have := I.lt
      rw [← z] at this
      exact absurd (Nat.lt_trans this hga) (Nat.lt_irrefl _)
    · exact I.nofs (Nat.le_of_lt hga) z
/-- all(elt for x in ..): what it reads. P: the def's table -/
def tAllC (P : Addr) (wi : TI) (te : TE) : TE := fun σ H Q => wi σ H fun J H1 => GxR.TabG H1 P ∧ ∀ H2, GxR.Tabbed P H1 H2 →
  ∃ W : Nat → Nat → Hp → Prop, (∃ m, W 0 m H2) ∧ ∀ i m H, W i m H →
    (J.stop i H ∧ Q (.bl true) H) ∨ (J.go i H ∧ ∃ Nx : Hp → Prop, (∀ H', Nx H' → ∃ m', m' < m ∧ W (i + 1) m' H') ∧ ∀ y H', J.yld i H y H' → te [some y] H' fun z H3 => ∃ b : Bool, z = .bl b ∧ if b = true then Nx H3 else Q (.bl false) H3)
theorem Inv.gens {X : Cx} {pins : List (Addr × Obj)} {σ : L2.St} {H : Hp} {s : Shared} {G : Array GenState} (I : Inv X pins σ H s) (h : AllBare G) : Inv X pins σ H { s with gens := G } :=
  ⟨I.ok, I.os, h, I.base, I.loc, I.cell, I.free, I.freeC, I.pin, I.hok, I.len⟩
theorem over_gx {A : Around} {elt iter : Expr} {x : Str} {px gpos : Pos} {scope : Scope} {it : Addr} {cenv : Env} {l : List Env} (hf : A.frames = some l) : (A.over (gxC elt iter x px gpos scope it cenv) []).frames = some (cenv :: l) := by
  show pushEnvs (Code.envs (gxC elt iter x px gpos scope it cenv)) (pushEnvs (envsOf (([] : List Frame).map Frame.where_)) A.frames) = some (cenv :: l)
  rw [hf]
  rfl
theorem room_gx {A : Around} {elt iter : Expr} {x : Str} {px gpos : Pos} {scope : Scope} {it : Addr} {cenv : Env} {k : Nat} (hr : Room (k + 1) A) : Room k (A.in1.in1.over (gxC elt iter x px gpos scope it cenv) []) :=
  ⟨hr.hd, by
    have := hr.dp
    show A.depth + 0 + 1 + 3 * k + 5 < _
    omega, by
    have := hr.un
    show A.units + 1 + 1 + 0 + 3 + 16 * k + 200 < _
    omega⟩
theorem pe_allC {c P : Addr} {elt iter : Expr} {x : Str} {px p pos gpos : Pos} {scope : Scope} {wi : TI} {te : TE} {k : Nat}
    (hr : Room (k + 1) X.A) (hc : X.calm = true) (hg : Gl X "all") (hm : X.mg "all" = none) (hb : bootBuiltins "all" = some (.builtin "all")) (TB : GxR.TabB X.base X.mg c P) (hcode : X.env.code = .ref c) (S : GenL scope x) (hi : PI X (.Name x px) iter wi)
    (hel : ∀ (A' : Around), Room k A' → ∀ (s : Shared) (H : Hp) (C : Addr) (code : Value) (fp : List Addr), PE (gxCx X A' s H (genEnv scope [] C code builtinsNs X.env) fp x) elt te)
    (hs : ∀ v, genFold iter X.env v = pure v)
    (he : starEach [.GeneratorExp elt [⟨.Name x px, iter, [], 0⟩] scope gpos] X.env = (false, eval (.GeneratorExp elt [⟨.Name x px, iter, [], 0⟩] scope gpos) X.env) :: starEach [] X.env := by rfl) :
    PE X (.Call (.Name "all" p) [.GeneratorExp elt [⟨.Name x px, iter, [], 0⟩] scope gpos] [] pos) (tAllC P wi te) := by
  refine ⟨fun pins s σ H Q I h => ?_⟩
  refine wpAny_Call_Name_kw (ld_blt I hg hm hb ?_)
  refine PyProof.Rows.callWith_builtin1 ?_ he (by rfl)
  rw [he]
  show wpAny _ _ (spliced ((false, eval (.GeneratorExp elt [⟨.Name x px, iter, [], 0⟩] scope gpos) X.env) :: backTo pos (starEach [] X.env))) _ _ s
  refine Calls.spliced_cons ?_
  have hclos : closureFor scope X.env = pure ([] : List (Str × Addr)) := by
    rw [closure_ok (fun y hy e => absurd e (S.loc y hy).1), clo_nil S.loc]
  refine wpAny_GeneratorExp_make S.co hclos (fun y hy e => (S.loc y hy).2 e) S.dot S.kind (by have := hr.dp; omega) ?_ hs
  refine thn (hi.run pins s σ H _ I h) fun xv s1 h1 => thn h1 fun itv s2 h2 => ?_
  obtain ⟨it, fp, tn, J, H2, rfl, I2, T, st2, f2, ⟨ps, hP, ht⟩, hW⟩ := h2
  have hPs : s2.heap.get? P = some { cls := .none, data := .fields ps } := I2.hok P _ hP
  have cd : PySem.W.CodeHd s2.heap c P := TB.code.keeps fun b u e => I2.bk b u e
  refine ⟨I2.nolimit, ?_⟩
  have cont : ∀ (code : Value) (h3 : Heap) (tk : Nat) (ps' : Array Value), Heap.ExtBut P s2.heap h3 → s2.heap.objs.size ≤ h3.objs.size → h3.get? P = some { cls := .none, data := .fields ps' } → (∃ more, ps' = ps ++ more) → TriplesOk ps'.toList →
      wpAny (model X.prog X.w) X.A (builtinsFor X.env.globals X.env.builtins) (fun bi s₄ => ∀ h', h'.Ns s₄.heap.objs.size (fun y => if y = ".0" then some (.ref it) else none) → Heap.SameBut s₄.heap.objs.size (s₄.heap.push { cls := .type "frame", data := .dict #[] }) h' →
        wpAny (model X.prog X.w) X.A ((fun v => spliced (backTo pos (starEach [] X.env)) >>= fun vs => pure (v :: vs)) (Value.ref h'.objs.size)) (fun vs s' => wpAny (model X.prog X.w) X.A (call (.builtin "all") vs) (EP X pins σ Q) X.xe s') X.xe { s₄ with
            gens := s₄.gens.push (.fresh (.compStart (.GeneratorExp elt [⟨.Name x px, iter, [], 0⟩] scope gpos) 0 (.ref it) .none (genEnv scope [] s₄.heap.objs.size code bi X.env))),
            toks := s₄.toks + 1 + 1 + 1,
            heap := h'.push { cls := .type "generator", data := .fields #[.int s₄.gens.size 0, .str "<genexpr>" (s₄.toks + 1), .str (X.env.qual ++ "<genexpr>") (s₄.toks + 1 + 1)] } }) X.xe { s2 with heap := h3, toks := tk } := by
    intro code h3 tk ps' hx hsz hP3 hmore ht3
    obtain ⟨bm, ob, e1, e2, e3, e4, e5, e6, e7, e8⟩ := TB.bm
    obtain ⟨more, em⟩ := hmore
    have I3 := GxR.inv_tab (more := more) (h' := h3) (g' := s2.gens) (d' := s2.drawn) (t' := tk) I2 hP (fun b o hb e => hx b o hb e) (by rw [← em]; exact hP3) I2.bare
    refine wpAny_builtinsFor (m := X.mg) (by rw [I2.ok.glob]; exact (I2.mod.glob.keeps I2.bk).extBut hx TB.gP) e1 e2 (hx _ _ e4 (I2.bk _ _ e5)) e6 e7 e8 ?_
    obtain ⟨W, ⟨m0, w0⟩, turn⟩ := hW (upd H2 P (.tbl (ps ++ more))) ⟨⟨ps ++ more, upd_same, by rw [← em]; exact ht3⟩, fun b hb => upd_ne hb⟩
    have nP : ∀ b ∈ fp, b ≠ P := fun b hb e => by
      have := (f2 b hb).1
      rw [e, hP] at this
      cases this
    have st3 : tn 0 h3 := T.keep _ _ _ st2 fun b hb o e => hx b o (nP b hb) e
    have f3 : ∀ b ∈ fp, FpOk X pins (upd H2 P (.tbl (ps ++ more))) b ∧ b < h3.objs.size := fun b hb => by
      obtain ⟨o, e, _⟩ := T.obj _ _ st2 b hb
      refine ⟨⟨?_, (f2 b hb).2⟩, Nat.lt_of_lt_of_le (Heap.lt_size e) hsz⟩
      rw [upd_ne (nP b hb)]
      exact (f2 b hb).1
    generalize hH3 : upd H2 P (.tbl (ps ++ more)) = H3 at *
    generalize hs3 : ({ s2 with heap := h3, toks := tk } : Shared) = s3
    have I3 : Inv X pins σ H3 s3 := by rw [← hs3]; exact I3
    have hp3 : s3.heap = h3 := by rw [← hs3]
    intro h' hn' hs'
    rw [hp3] at hn' hs'
    have sz' : h'.objs.size = h3.objs.size + 1 := by rw [hs'.1, Heap.size_push]
    have keep5 : ∀ (go : Obj) b o, s3.heap.get? b = some o → (h'.push go).get? b = some o := fun go b o e => by
      rw [hp3] at e
      exact Heap.get?_push_of_some _ (hs'.extBut b o (Nat.ne_of_lt (Heap.lt_size e)) (Heap.get?_push_of_some _ e))
    have fr := over_gx (elt := elt) (iter := iter) (x := x) (px := px) (gpos := gpos) (scope := scope) (it := it) (cenv := genEnv scope [] s3.heap.objs.size code builtinsNs X.env) (A := X.A.in1.in1) I.ok.frames
    have rm := room_gx (elt := elt) (iter := iter) (x := x) (px := px) (gpos := gpos) (scope := scope) (it := it) (cenv := genEnv scope [] s3.heap.objs.size code builtinsNs X.env) hr
    generalize hgo : ({ cls := .type "generator", data := .fields #[.int s3.gens.size 0, .str "<genexpr>" (s3.toks + 1), .str (X.env.qual ++ "<genexpr>") (s3.toks + 1 + 1)] } : Obj) = go
    have I5 := gx_start (A' := X.A.in1.in1.over (gxC elt iter x px gpos scope it (genEnv scope [] s3.heap.objs.size code builtinsNs X.env)) []) (code := code) (ga := h'.objs.size) (go := go) (h5 := h'.push go) (tk := s3.toks + 1 + 1 + 1)
      (gs := .fresh (.compStart (.GeneratorExp elt [⟨.Name x px, iter, [], 0⟩] scope gpos) 0 (.ref it) .none (genEnv scope [] s3.heap.objs.size code builtinsNs X.env))) I3 hc S rm.hd fr (by rw [hp3]; exact f3) (keep5 go)
      (by rw [hp3]; exact hn'.push _) (by rw [hp3, sz']; exact Nat.lt_succ_self _) (Heap.get?_push_size _ (by rw [← hgo]; rfl)) (fun v => by rw [← hgo]; intro z; cases z) rfl
    have hgen : ∀ h : Heap, h.get? h'.objs.size = some go → h.IsGen h'.objs.size s3.gens.size := fun h e => by
      rw [← hgo] at e
      exact ⟨_, _, _, e, rfl, rfl, rfl⟩
    have st5 : tn 0 (h'.push go) := T.keep _ _ _ st3 fun b hb o e => keep5 go b o (by rw [hp3]; exact e)
    have n3 : ∀ b ∈ fp, H3 b = none := fun b hb => (f3 b hb).1.1
    have fga : ∀ b ∈ fp, b ≠ h'.objs.size := fun b hb => Nat.ne_of_lt (by rw [sz']; exact Nat.lt_succ_of_lt (f3 b hb).2)
    generalize hce : genEnv scope [] s3.heap.objs.size code builtinsNs X.env = ce at *
    have pe := hel _ rm s3 H3 s3.heap.objs.size code fp
    rw [hce] at pe
    have hco : ce.scope.isCoroutine = false := by rw [← hce]; exact S.co
    have hlc : Loc ce.scope x := by rw [← hce]; exact .inl S.var
    have hlf : ce.scope.names.lookup x = some .local := by rw [← hce]; exact S.var
    generalize hga : h'.objs.size = ga at *
    -- back in the def
    have back : ∀ {pn σ' H' s'}, Inv (gxCx X (X.A.in1.in1.over (gxC elt iter x px gpos scope it ce) []) s3 H3 ce fp x) pn σ' H' s' → Inv X pins σ H' s' := fun I6 =>
      I3.call' (ch := fp) I6.os I6.base I6.hok I6.bare fun b hb => ⟨(f3 b hb).1.2.2.2.1, (f3 b hb).1.2.1, (f3 b hb).1.2.2.2.2.1, (f3 b hb).1.2.2.2.2.2⟩
    have stat : ∀ {σ' : L2.St} {H' : Hp} {s' : Shared}, Inv (gxCx X (X.A.in1.in1.over (gxC elt iter x px gpos scope it ce) []) s3 H3 ce fp x) [(ga, go)] σ' H' s' → (∀ b ∈ fp, H' b = none) → ∀ b ∈ fp, FpOk (gxCx X (X.A.in1.in1.over (gxC elt iter x px gpos scope it ce) []) s3 H3 ce fp x) [(ga, go)] H' b := fun {σ' H' s'} I' hn b hb =>
      ⟨hn b hb, (I'.ok.exf b hb).1, I'.ok.exfs b hb, .inl hb, fun x c e => (I'.ok.exf b hb).2 x c e, fun p hp => by
        have hp : p = (ga, go) := by simpa using hp
        rw [hp]
        exact (fga b hb).symm⟩
    refine wpAny_bind (Calls.spliced_nil (wpAny_pure ?_))
    refine call_function_tree F.kind_all F.plain_all F.entry_all (F.args_all1 _) ?_
    unfold Builtin.«all»
    refine wpAny_bind (m := oneArg "all" _) (wpAny_pure ?_)
    have gaAt : (h'.push go).get? ga = some go := by rw [← hga]; exact Heap.get?_push_size _ (by rw [← hgo]; rfl)
    refine wpAny_bind (wpAny_pyIter_gen (hgen _ gaAt) ?_)
    refine wpAny_pure ⟨plainId_quiet F.plain_all_loop _, ?_⟩
    have turnG : GxTurn X.prog X.w (X.A.in1.in1.over (gxC elt iter x px gpos scope it ce) []) elt x px it ce
      (fun i m s' => ∃ σ' H', Inv (gxCx X (X.A.in1.in1.over (gxC elt iter x px gpos scope it ce) []) s3 H3 ce fp x) [(ga, go)] σ' H' s' ∧ tn i s'.heap ∧ (∀ b ∈ fp, H' b = none) ∧ W i m H' ∧ s3.gens.size < s'.gens.size)
      (fun s' => ∃ σ' H', Inv (gxCx X (X.A.in1.in1.over (gxC elt iter x px gpos scope it ce) []) s3 H3 ce fp x) [(ga, go)] σ' H' s' ∧ Q (.bl false) H')
      (fun s' => ∃ σ' H', Inv (gxCx X (X.A.in1.in1.over (gxC elt iter x px gpos scope it ce) []) s3 H3 ce fp x) [(ga, go)] σ' H' s' ∧ Q (.bl true) H') := by
      rintro i m s6 ⟨σ6, H6, I6, st6, n6, w6, g6⟩
      rcases turn i m H6 w6 with ⟨stop, qq⟩ | ⟨go', Nx, hNx, step⟩
      · refine thnF (T.done (gxCx X (X.A.in1.in1.over (gxC elt iter x px gpos scope it ce) []) s3 H3 ce fp x) rfl rfl rfl hc i [(ga, go)] s6 _ H6 (fun _ _ => False) I6 (stat I6 n6) st6 stop) fun r s7 ⟨hr', I7⟩ => ?_
        subst hr'
        exact ⟨_, _, I7, qq⟩
      · refine GenW.wpAny_gsz (n := s3.gens.size + 1) g6 (thnF (T.item (gxCx X (X.A.in1.in1.over (gxC elt iter x px gpos scope it ce) []) s3 H3 ce fp x) rfl rfl rfl hc i [(ga, go)] s6 _ H6 (fun _ _ => False) I6 (stat I6 n6) st6 go') fun r s7 ⟨u, hr', h7⟩ g7 => ?_)
        subst hr'
        refine GenW.wpAny_gsz (n := s3.gens.size + 1) g7 (thnF h7 fun _ s8 ⟨y, H8, I8, r8, y8, st8, n8⟩ g8 => ?_)
        have I8' := I8.pinned (stat I8 n8) (T.obj _ _ st8)
        have pg : PG (gxCx X (X.A.in1.in1.over (gxC elt iter x px gpos scope it ce) []) s3 H3 ce fp x) (.Name x px) (gName 0) := pg_name (i := 0) (by simp) rfl hlc (.inr hlf)
        have l6 : ∃ a, σ6 = [a] := by
          have := I8.len
          match σ6, this with
          | [a], _ => exact ⟨a, rfl⟩
        obtain ⟨a, rfl⟩ := l6
        refine GenW.wpAny_gsz (n := s3.gens.size + 1) g8 (thnF (pg.run _ s8 _ H8 y u (fun σ9 H9 => σ9 = [some y] ∧ H9 = H8) I8' r8 ⟨rfl, rfl⟩) fun _ s9 ⟨σ9, H9, I9, e9, e9'⟩ g9 => ?_)
        subst e9 e9'
        refine GenW.wpAny_gsz (n := s3.gens.size + 1) g9 (thnF (pe.run _ s9 _ _ _ I9 (step y _ y8)) fun z s10 ⟨zv, H10, I10, r10, b, hz, q10⟩ g10 => ?_)
        subst hz
        have r10 : z = .bool b := r10
        refine ⟨b, r10, ?_⟩
        have pin' : ∀ b ∈ fp, ∀ o, s8.heap.get? b = some o → s10.heap.get? b = some o ∧ H10 b = none := fun b hb o e =>
          let z := I10.pin (b, o) (List.mem_append_right _ (List.mem_append_right _ (mem_pinsAt hb e)))
          ⟨z.1, z.2.1⟩
        cases b with
        | true =>
          simp only [if_true] at q10
          obtain ⟨m', hm', w'⟩ := hNx _ q10
          refine .inl ⟨rfl, m', hm', _, _, I10.unpinned, T.keep _ _ _ st8 fun b hb o e => (pin' b hb o e).1, fun b hb => ?_, w', g10⟩
          obtain ⟨o, e, _⟩ := T.obj _ _ st8 b hb
          exact (pin' b hb o e).2
        | false =>
          simp only [Bool.false_eq_true, if_false] at q10
          exact .inr ⟨rfl, _, _, I10.unpinned, q10⟩
    refine all_gx (g := s3.gens.size) (ga := ga) _ _ _ hr.hd (by have := hr.dp; omega) ?_ ?_ ?_ ?_ (m0 + 1) 0 m0 _ _ (Array.getElem?_push_size ..) ⟨_, _, I5, st5, n3, w0, by show s3.gens.size < (s3.gens.push _).size; rw [Array.size_push]; exact Nat.lt_succ_self _⟩
      (fun s'' hJ => ⟨rfl, seg_gxStart (A := X.A.in1.in1) _ _ _ hco turnG (Nat.lt_succ_self _) hJ (fun A' Q' E' hq => T.self A' 0 s'' Q' E' hJ.choose_spec.choose_spec.2.1 hq)⟩)
    · rintro i m s6 y ⟨σ6, H6, I6, st6, n6, w6, g6⟩ hy
      exact ⟨σ6, H6, Inv.gens I6 (allBare_setGen I6.bare hy), st6, n6, w6, by rw [GenW.setGen_size]; exact g6⟩
    · rintro i m s6 ⟨σ6, H6, I6, st6, n6, w6, g6⟩
      exact ⟨I6.nolimit, hgen _ (I6.pin (ga, go) (List.mem_append_right _ (List.mem_singleton.mpr rfl))).1, g6⟩
    · rintro s6 y h6 ⟨σ6, H6, I6, qq⟩ hy hk6
      exact ⟨.bl true, H6, back (Inv.kept (Inv.gens I6 (allBare_setGen I6.bare hy)) hk6), rfl, qq⟩
    · rintro s6 y ⟨σ6, H6, I6, qq⟩ hy
      exact ⟨.bl false, H6, back (Inv.gens I6 (allBare_setGen I6.bare hy)), rfl, qq⟩
  cases hf : codeAmong gpos ps.toList with
  | none =>
    refine wpAny_genexprCodeX hcode (cd.code hPs ht) (cd.tab hPs) hf fun c' h' tk hx hge hlt hco' _ htab' _ => ?_
    obtain ⟨o1, vs, f1, tf, fl, tg, inF, tx, tt, op, _, _, _, _, _, _, _, _, _, htr, _⟩ := hco'
    have z := cont (.ref c') h' tk _ hx (Nat.le_trans hge (Nat.le_of_lt hlt)) htab'.2 ⟨_, rfl⟩ htr
    exact z
  | some cv =>
    refine wpAny_genexprCode_hit hcode (cd.code hPs ht) hf ?_
    exact cont cv s2.heap s2.toks ps (Heap.ExtBut.refl _ _) (Nat.le_refl _) hPs ⟨#[], by simp⟩ ht
end gxs
end U
namespace U
open PySem PySem.Spec PyProof.Rows L2
/-- as Fun.okX, for a def whose code object is known -/
theorem okXt {P : Program} {w : World} {K : PySem.W.Frag} {mg : Str → Option Value} {base : Heap} {x qual : Str} {st : Stmt} {f c : Addr} {fd : FuncData} {N ps : List Str} {k : Nat} {sp : Sp} (F : Fun K x qual st f fd) (hc : fd.code = .ref c) (S : FnScope N ps (defScope st)) (len : ∀ vs H Q E, sp vs H Q E → vs.length = ps.length)
    (hbody : ∀ (A : Around) (outer : List Env) (s : Shared) (H : Hp) (vs : List V) (Q : VK) (E : XK), Room k (A.deeper (envOfC qual (defScope st) s.heap.objs.size f (.ref c))) → sp vs H Q E →
      ∃ t, PSs (cxOf (L2.CX P w) P w K mg base N qual (defScope st) f (.ref c) A outer s H E) (defBody st) t ∧ t { nx := fun _ H' => Q .non H', rt := Q } (start N vs) H) : FnOk P w K mg base (L2.CX P w) (k + 1) f fd ps sp := by
  obtain ⟨oc, od, kV, doc, pm, an, cdv, ct, osl, rfl, lk, hcd⟩ := F.ex
  obtain rfl : cdv = .ref c := hc
  exact fn_of lk hcd S len fun A outer s H vs Q E hr hsp => hbody A outer s H vs Q E hr hsp
/-- the table of the code object at c -/
def tabOf (K : PySem.W.Frag) (c : Addr) : Option Addr := match K.lookup c with
  | some ⟨_, _, .fields vs, _⟩ => (match (vs[11]? : Option Value) with
    | some (.ref P) => some P
    | _ => none)
  | _ => none
/-- the end of a law that reaches a def nm with a generator expression: its table is tracked from the start -/
theorem walkT {l : PySem.W.OpenLaw} {n k : Nat} {q : Program} {loose : List Str} {XP : (Str → Option Value) → Heap → Prop} {YP : World → Heap → Prop} {d : DefRec} {K : Params → PySem.W.Frag} {CX : World → CXT} {x nm : Str} {sp : World → Addr → Sp}
    (hn : l.most = some n) (hn2 : n ≤ sizeLine) (hdf : d.params.defaults = []) (hr : Room k callerA) (hrec : ((recsOf q).any fun e => e.name == nm) = true) (hY : ∀ (w : World) (h : Heap), YP w h → (K w.params).In h)
    (F : ∀ (w : World) (mg : Str → Option Value) (fa : Addr) (h : Heap), (K w.params).In h → h.Ns mainGlobals mg → mg d.name = some (.ref fa) →
      ∃ (fd : FuncData) (c P fa2 : Addr) (o2 : Obj) (fd2 : FuncData), (∀ (s : Shared) (u : Value), BindsTo s fd ⟨[u], []⟩ [(x, u)]) ∧ mg nm = some (.ref fa2) ∧ (K w.params).lookup fa2 = some o2 ∧ o2.data = .func fd2 ∧ fd2.code = .ref c ∧ (K w.params).lookup P = none ∧ PySem.W.codeHdIn (K w.params) c P = true ∧
        ∀ base : Heap, (K w.params).In base → base.Ns mainGlobals mg → GxR.TabB base mg c P → FnOk l.prog w (K w.params) mg base (CX w) k fa fd [x] (sp w P))
    (hsp : ∀ (w : World) (P : Addr) (H : Hp) (a : Addr) (ns : List Int), ns.length ≤ n → H P = some (.tbl #[]) → SqL (K w.params) H a (ns.map V.int) → sp w P [.ref a] H (fun v _ => v = .bl true) fun _ _ _ => False)
    (hCX : ∀ (w : World) (H : Hp) (s : Shared) (e : Value) (s' : Shared), CX w [] H s (fun _ _ _ => False) e s' → False) :
    PySem.W.WalkO q loose XP YP l.row.toRowW d [] (fun f vs => PySem.call f vs) := by
  refine Att.attach_callB hn hdf fun w s₀ s₁ mg mb fa o pm cd doc a vs ns G Y ho hd hcd hmg hobj hints hlen hbits hg => ?_
  have KX := hY w _ Y
  obtain ⟨fd, c, P, fa2, o2, fd2, hb, h1, h2, h3, h4, nT, hC, hF⟩ := F w mg fa _ KX G.T.g hmg
  have C := PySem.W.codeHd_of_K KX hC
  have hT : s₁.heap.get? P = some { cls := .none, data := .fields #[] } := by
    obtain ⟨dL, hm, hn1⟩ := List.any_eq_true.mp hrec
    have hn2 : dL.name = nm := beq_iff_eq.mp hn1
    obtain ⟨a', o', fd', c', P', k1, k2, k3, k4, k5, k6⟩ := G.T.tab dL hm
    rw [hn2, h1] at k1
    cases k1
    have g1 := KX _ _ h2
    rw [g1] at k2
    cases k2
    rw [h3] at k3
    cases k3
    rw [h4] at k4
    cases k4
    obtain ⟨⟨oc, vc, e1, _, e3, e4⟩, hP⟩ := k6
    obtain ⟨o9, us, file, tf, flags, tg, inF, text, tt, f1, f2, f3, f4, _⟩ := C
    rw [f1] at e1
    cases e1
    rw [f3] at e3
    cases e3
    rw [f4] at e4
    cases e4
    exact hP
  refine LamX.law_callTs (cs := [(c, P)]) KX G.T.g G.T.b G.T.builtins G.T.nolimit hg (fun p hp => ?_) (fun p hp => ?_) (fun p hp => ?_) G.T.bmain hobj hints (Nat.le_trans hlen hn2) hr (fun base hK hN hTB => ?_) hb (fun H hH hS => hsp w P H a ns hlen (hH (c, P) (List.mem_singleton.mpr rfl)) hS) fun H e s' => hCX w H s₁ e s'
  · rw [List.mem_singleton.mp hp]; exact hT
  · rw [List.mem_singleton.mp hp]; exact nT
  · rw [List.mem_singleton.mp hp]; exact C
  · obtain ⟨t1, t2, t3⟩ := hTB (c, P) (List.mem_singleton.mpr rfl)
    exact hF base hK hN ⟨t1, t2, t3⟩
end U
namespace U
open PySem PySem.Spec PyProof.Rows L2
section anyi
variable {X : Cx}
theorem truth_intsV {prog : Program} {w : World} {A : Around} {ns : List Int} {its : List Value} (rv : Vals (ns.map V.int) its) :
    TruthOf prog w A (fun i v => its.toArray[i]? = some v) (fun i => (ns.map fun n => decide (n ≠ 0)).getD i false) := fun i v s Q E hv hq => by
  have hv' : its[i]? = some v := by simpa using hv
  have hi : i < ns.length := by
    have := (List.getElem?_eq_some_iff.mp hv').1
    rw [← rv.length, List.length_map] at this
    exact this
  have hb : (ns.map V.int)[i]? = some (V.int ns[i]) := by rw [List.getElem?_map, List.getElem?_eq_getElem hi]; rfl
  obtain ⟨u, hu, ru⟩ := rv.get hb
  rw [hv'] at hu
  cases hu
  obtain ⟨t, rfl⟩ := (show ∃ t, v = Value.int ns[i] t from ru)
  have hg : (ns.map fun n => decide (n ≠ 0)).getD i false = decide (ns[i] ≠ 0) := by rw [List.getD_eq_getElem?_getD, List.getElem?_map, List.getElem?_eq_getElem hi]; rfl
  have hq' : Q ((ns.map fun n => decide (n ≠ 0)).getD i false) s := hq
  rw [hg] at hq'
  have e : decide (ns[i] ≠ 0) = (ns[i] != 0) := by
    by_cases q : ns[i] = 0
    · rw [q]; rfl
    · rw [decide_eq_true q]; exact (bne_iff_ne.mpr q).symm
  rw [e] at hq'
  exact PySem.P.truthy_int hq'
/-- any(xs), ints -/
def uAnyI (K : PySem.W.Frag) : List V → Hp → VK → Prop := fun vs H Q => ∃ (a : Addr) (ns : List Int), vs = [V.ref a] ∧ SqL K H a (ns.map V.int) ∧ Q (.bl (ns.any fun n => decide (n ≠ 0))) H
theorem c_anyI (hc : X.calm = true) : CallR X (.builtin "any") (uAnyI X.K) := by
  intro pins s σ H vs us Q I r h
  obtain ⟨a, ns, rfl, hs, q⟩ := h
  obtain ⟨its, rv, hl, _⟩ := I.list hs
  rw [Vals.ref1 r]
  have hlen : its.length = ns.length := by rw [← rv.length, List.length_map]
  refine call_any_walk (iter_any hl.isList fun s₂ e2 st hne => ?_)
  subst e2
  refine ⟨_, _, _, _, _, _, _, rfl, Walks.list (A := X.A.in1) (I.ok.hd hc) _ a hne its.toArray, st, truth_intsV rv, fun h' tk hk => ?_⟩
  refine ⟨.bl _, H, I.kept fun b o eo => hk b o (fun hmem => ?_) (Heap.get?_push_of_some _ eo), ?_, q⟩
  · rcases List.mem_cons.mp hmem with e1 | hmem
    · exact absurd (e1 ▸ Heap.lt_size eo) (Nat.lt_irrefl _)
    · cases hmem
  · show Value.bool _ = Value.bool _
    have z := any_range (ns.map fun n => decide (n ≠ 0))
    rw [List.length_map, List.any_map] at z
    rw [List.size_toArray, hlen]
    exact congrArg Value.bool z
end anyi
end U
namespace U
open PySem PySem.Spec PyProof.Rows L2
end U
namespace U
open PySem PySem.Spec PyProof.Rows L2
def IsTup (o : HO) : Prop := (∃ ys, o = .tup ys) ∨ ∃ ob ys, o = .frz ob (.tup ys)
def TupS (H H' : Hp) : Prop := ∀ b o, H b = some o → IsTup o → H' b = some o
theorem TupS.refl {H : Hp} : TupS H H := fun _ _ h _ => h
theorem TupS.trans {H1 H2 H3 : Hp} (x : TupS H1 H2) (y : TupS H2 H3) : TupS H1 H3 := fun b o h i => y b o (x b o h i) i
theorem TupS.same {H H' : Hp} (s : Same H H') : TupS H H' := fun b o h _ => s b o h
theorem SqT.tups {K : PySem.W.Frag} {H H' : Hp} {q : Addr} {xs : List V} (t : TupS H H') (h : SqT K H q xs) : SqT K H' q xs := by
  rcases h with (e | ⟨o, e⟩) | e
  · exact .inl (.inl (t _ _ e (.inl ⟨_, rfl⟩)))
  · exact .inl (.inr ⟨o, t _ _ e (.inr ⟨_, _, rfl⟩)⟩)
  · exact .inr e
class Imm (α : Type) [DecidableEq α] [PySem.W.Datum α] : Prop where
  im : ∀ a : α, tupOnly (PySem.W.Datum.toD a) = true
instance : Imm Int := ⟨fun _ => rfl⟩
instance : Imm Bool := ⟨fun _ => rfl⟩
instance : Imm Str := ⟨fun _ => rfl⟩
instance : Imm Unit := ⟨fun _ => rfl⟩
section
variable {α β : Type} [DecidableEq α] [PySem.W.Datum α] [DecidableEq β] [PySem.W.Datum β] [Imm α] [Imm β]
theorem Imm.all : ∀ as : List α, tupOnlyAll (as.map PySem.W.Datum.toD) = true
  | [] => rfl
  | a :: as => by
    show (tupOnly _ && tupOnlyAll _) = true
    rw [Imm.im a, Imm.all as]
    rfl
instance : Imm (PySem.W.Tup α) := ⟨fun a => by
  show tupOnly (.tuple (a.items.map PySem.W.Datum.toD)) = true
  rw [tupOnly]
  exact Imm.all _⟩
instance : Imm (α × β) := ⟨fun a => by
  show tupOnly (.tuple [PySem.W.Datum.toD a.1, PySem.W.Datum.toD a.2]) = true
  rw [tupOnly]
  show (tupOnly _ && (tupOnly _ && true)) = true
  rw [Imm.im, Imm.im]
  rfl⟩
end
section
variable {K : PySem.W.Frag} {H : Hp} {α β : Type} [DecidableEq α] [PySem.W.Datum α] [DecidableEq β] [PySem.W.Datum β]
theorem Dt.int_inv {v : V} {i : Int} (h : Dt K H v i) : v = .int i := by
  have h : Dp K H v (.int i) := h
  cases h
  rfl
theorem dpAll_ints : ∀ {xs : List V} {ns : List Int}, DpAll K H xs (ns.map PySem.W.Datum.toD) → xs = ns.map V.int
  | [], [], _ => rfl
  | [], _ :: _, h => by cases h
  | _ :: _, [], h => by cases h
  | x :: xs, n :: ns, h => by
    cases h with
    | cons h1 h2 =>
      have e : x = .int n := Dt.int_inv h1
      rw [e, dpAll_ints h2]
      rfl
theorem Dt.ti_inv {v : V} {ns : List Int} (h : Dt K H v (PySem.W.Tup.mk ns)) : ∃ p, v = .ref p ∧ SqT K H p (ns.map V.int) := by
  have h : Dp K H v (.tuple (ns.map PySem.W.Datum.toD)) := h
  cases h with
  | tup e x => exact ⟨_, rfl, by rw [← dpAll_ints x]; exact e⟩
theorem Dt.ti {p : Addr} {ns : List Int} (h : SqT K H p (ns.map V.int)) : Dt K H (.ref p) (PySem.W.Tup.mk ns) := Dt.tup h (DtAll.ints ns)
/-- item by item -/
theorem DtAll.iff {vs : List V} {as : List α} : DtAll K H vs as ↔ vs.length = as.length ∧ ∀ (i : Nat) v, vs[i]? = some v → ∃ a, as[i]? = some a ∧ Dt K H v a := by
  refine ⟨fun h => ⟨h.length, fun i v e => h.get e⟩, fun hh => ?_⟩
  obtain ⟨hl, h⟩ := hh
  induction vs generalizing as with
  | nil =>
    cases as with
    | nil => exact .nil
    | cons a as => cases hl
  | cons v vs ih =>
    cases as with
    | nil => cases hl
    | cons a as =>
      obtain ⟨a', e, d⟩ := h 0 v rfl
      cases e
      exact .cons d (ih (Nat.succ.inj hl) (fun i w e => h (i + 1) w e))
theorem DtAll.at' {vs : List V} {as : List α} (h : DtAll K H vs as) {i : Nat} {a : α} (e : as[i]? = some a) : ∃ v, vs[i]? = some v ∧ Dt K H v a := by
  have hl := h.length
  have hi := (List.getElem?_eq_some_iff.mp e).1
  obtain ⟨a', e', d⟩ := h.get (List.getElem?_eq_getElem (show i < vs.length by omega))
  rw [e] at e'
  cases e'
  exact ⟨_, List.getElem?_eq_getElem (by omega), d⟩
theorem DtAll.atI {vs : List V} {as : List α} (h : DtAll K H vs as) {i : Int} {a : α} (e : L2.atI as i = some a) : ∃ v, L2.atI vs i = some v ∧ Dt K H v a := by
  unfold L2.atI at e ⊢
  rw [h.length]
  cases hn : ixN as.length i with
  | none => rw [hn] at e; cases e
  | some j =>
    rw [hn] at e
    exact h.at' e
theorem DtAll.tk {vs : List V} {as : List α} (h : DtAll K H vs as) (n : Nat) : DtAll K H (vs.take n) (as.take n) := by
  have hl := h.length
  refine DtAll.iff.mpr ⟨by rw [List.length_take, List.length_take, hl], fun i v e => ?_⟩
  rw [List.getElem?_take] at e ⊢
  split at e
  · rename_i q
    rw [if_pos q]
    exact h.get e
  · cases e
theorem DtAll.dp {vs : List V} {as : List α} (h : DtAll K H vs as) (n : Nat) : DtAll K H (vs.drop n) (as.drop n) := by
  have hl := h.length
  refine DtAll.iff.mpr ⟨by rw [List.length_drop, List.length_drop, hl], fun i v e => ?_⟩
  rw [List.getElem?_drop] at e ⊢
  exact h.get e
theorem DtAll.st {vs : List V} {as : List α} (h : DtAll K H vs as) {v : V} {a : α} (d : Dt K H v a) (n : Nat) : DtAll K H (vs.set n v) (as.set n a) := by
  have hl := h.length
  refine DtAll.iff.mpr ⟨by rw [List.length_set, List.length_set, hl], fun i w e => ?_⟩
  by_cases q : n = i
  · subst q
    have hi : n < vs.length := by
      have := (List.getElem?_eq_some_iff.mp e).1
      rw [List.length_set] at this
      exact this
    rw [List.getElem?_set_self hi] at e
    cases e
    exact ⟨a, List.getElem?_set_self (by omega), d⟩
  · rw [List.getElem?_set_ne q] at e ⊢
    exact h.get e
end
abbrev As := Addr → Prop
mutual
def FzD (K : PySem.W.Frag) (f : As) (H : Hp) : PyData → V → Prop
  | .none, v => v = .non
  | .bool b, v => v = .bl b
  | .int i, v => v = .int i
  | .str z, v => v = .str z
  | .list ds, v => ∃ p vs, v = .ref p ∧ f p ∧ H p = some (.lst vs) ∧ FzL K f H ds vs
  | .tuple ds, v => ∃ p vs, v = .ref p ∧ SqT K H p vs ∧ FzL K f H ds vs
  | .dict _, _ => False
def FzL (K : PySem.W.Frag) (f : As) (H : Hp) : List PyData → List V → Prop
  | [], vs => vs = []
  | d :: ds, vs => ∃ v r, vs = v :: r ∧ FzD K f H d v ∧ FzL K f H ds r
end
section
variable {K : PySem.W.Frag} {f f' : As} {H H' : Hp}
mutual
theorem FzD.dp : ∀ {d : PyData} {v : V}, FzD K f H d v → Dp K H v d
  | .none, _, h => by unfold FzD at h; rw [h]; exact .non
  | .bool _, _, h => by unfold FzD at h; rw [h]; exact .bl _
  | .int _, _, h => by unfold FzD at h; rw [h]; exact .int _
  | .str _, _, h => by unfold FzD at h; rw [h]; exact .str _
  | .list ds, _, h => by
    unfold FzD at h
    obtain ⟨p, vs, rfl, _, e, a⟩ := h
    exact .lst (SqL.of e) (FzL.dp a)
  | .tuple ds, _, h => by
    unfold FzD at h
    obtain ⟨p, vs, rfl, e, a⟩ := h
    exact .tup e (FzL.dp a)
  | .dict _, _, h => by unfold FzD at h; exact h.elim
theorem FzL.dp : ∀ {ds : List PyData} {vs : List V}, FzL K f H ds vs → DpAll K H vs ds
  | [], _, h => by unfold FzL at h; rw [h]; exact .nil
  | d :: ds, _, h => by
    unfold FzL at h
    obtain ⟨v, r, rfl, h1, h2⟩ := h
    exact .cons (FzD.dp h1) (FzL.dp h2)
end
mutual
theorem FzD.of : ∀ {d : PyData} {v : V}, tupOnly d = true → Dp K H v d → FzD K f H d v
  | .none, _, _, h => by unfold FzD; cases h; rfl
  | .bool _, _, _, h => by unfold FzD; cases h; rfl
  | .int _, _, _, h => by unfold FzD; cases h; rfl
  | .str _, _, _, h => by unfold FzD; cases h; rfl
  | .list _, _, z, _ => by simp [tupOnly] at z
  | .tuple ds, _, z, h => by
    unfold FzD
    cases h with
    | tup e a => exact ⟨_, _, rfl, e, FzL.of (by simpa [tupOnly] using z) a⟩
  | .dict _, _, _, h => by cases h
theorem FzL.of : ∀ {ds : List PyData} {vs : List V}, tupOnlyAll ds = true → DpAll K H vs ds → FzL K f H ds vs
  | [], _, _, h => by unfold FzL; cases h; rfl
  | d :: ds, _, z, h => by
    have z' := Bool.and_eq_true_iff.mp (show (tupOnly d && tupOnlyAll ds) = true by simpa [tupOnlyAll] using z)
    unfold FzL
    cases h with
    | cons h1 h2 => exact ⟨_, _, rfl, FzD.of z'.1 h1, FzL.of z'.2 h2⟩
end
mutual
theorem FzD.go (k : ∀ b, f b → f' b) (t1 : ∀ b o, f b → H b = some o → H' b = some o) (t : TupS H H') : ∀ {d : PyData} {v : V}, FzD K f H d v → FzD K f' H' d v
  | .none, _, h => by unfold FzD at h ⊢; exact h
  | .bool _, _, h => by unfold FzD at h ⊢; exact h
  | .int _, _, h => by unfold FzD at h ⊢; exact h
  | .str _, _, h => by unfold FzD at h ⊢; exact h
  | .list ds, _, h => by
    unfold FzD at h ⊢
    obtain ⟨p, vs, rfl, hf, e, a⟩ := h
    exact ⟨p, vs, rfl, k p hf, t1 p _ hf e, FzL.go k t1 t a⟩
  | .tuple ds, _, h => by
    unfold FzD at h ⊢
    obtain ⟨p, vs, rfl, e, a⟩ := h
    exact ⟨p, vs, rfl, SqT.tups t e, FzL.go k t1 t a⟩
  | .dict _, _, h => by unfold FzD at h; exact h.elim
theorem FzL.go (k : ∀ b, f b → f' b) (t1 : ∀ b o, f b → H b = some o → H' b = some o) (t : TupS H H') : ∀ {ds : List PyData} {vs : List V}, FzL K f H ds vs → FzL K f' H' ds vs
  | [], _, h => by unfold FzL at h ⊢; exact h
  | d :: ds, _, h => by
    unfold FzL at h ⊢
    obtain ⟨v, r, rfl, h1, h2⟩ := h
    exact ⟨v, r, rfl, FzD.go k t1 t h1, FzL.go k t1 t h2⟩
end
end
/-- the same, of typed data -/
def Ft (K : PySem.W.Frag) (f : As) (H : Hp) {α : Type} [DecidableEq α] [PySem.W.Datum α] (v : V) (a : α) : Prop := FzD K f H (PySem.W.Datum.toD a) v
def FtAll (K : PySem.W.Frag) (f : As) (H : Hp) {α : Type} [DecidableEq α] [PySem.W.Datum α] (vs : List V) (as : List α) : Prop := FzL K f H (as.map PySem.W.Datum.toD) vs
section
variable {K : PySem.W.Frag} {f f' : As} {H H' : Hp} {α β : Type} [DecidableEq α] [PySem.W.Datum α] [DecidableEq β] [PySem.W.Datum β] {v w : V} {a : α} {b : β} {vs ws : List V} {as bs : List α}
theorem Ft.dt (h : Ft K f H v a) : Dt K H v a := FzD.dp h
theorem FtAll.dt (h : FtAll K f H vs as) : DtAll K H vs as := FzL.dp h
theorem Dt.ft [Imm α] (h : Dt K H v a) : Ft K f H v a := FzD.of (Imm.im a) h
theorem DtAll.ft [Imm α] (h : DtAll K H vs as) : FtAll K f H vs as := FzL.of (Imm.all as) h
theorem Ft.go (k : ∀ b, f b → f' b) (t1 : ∀ b o, f b → H b = some o → H' b = some o) (t : TupS H H') (h : Ft K f H v a) : Ft K f' H' v a := FzD.go k t1 t h
theorem FtAll.go (k : ∀ b, f b → f' b) (t1 : ∀ b o, f b → H b = some o → H' b = some o) (t : TupS H H') (h : FtAll K f H vs as) : FtAll K f' H' vs as := FzL.go k t1 t h
theorem Ft.same (s : Same H H') (h : Ft K f H v a) : Ft K f H' v a := h.go (fun _ q => q) (fun b o _ e => s b o e) (.same s)
theorem FtAll.same (s : Same H H') (h : FtAll K f H vs as) : FtAll K f H' vs as := h.go (fun _ q => q) (fun b o _ e => s b o e) (.same s)
theorem FtAll.nil : FtAll K f H [] ([] : List α) := by show FzL K f H [] []; unfold FzL; rfl
theorem FtAll.cons (h1 : Ft K f H v a) (h2 : FtAll K f H vs as) : FtAll K f H (v :: vs) (a :: as) := by
  show FzL K f H (_ :: _) _
  unfold FzL
  exact ⟨v, vs, rfl, h1, h2⟩
theorem FtAll.uncons (h : FtAll K f H vs (a :: as)) : ∃ v r, vs = v :: r ∧ Ft K f H v a ∧ FtAll K f H r as := by
  have h : FzL K f H (_ :: _) vs := h
  unfold FzL at h
  exact h
theorem FtAll.nil_inv (h : FtAll K f H vs ([] : List α)) : vs = [] := by
  have h : FzL K f H [] vs := h
  unfold FzL at h
  exact h
theorem FtAll.length : ∀ {vs : List V} {as : List α}, FtAll K f H vs as → vs.length = as.length
  | vs, [], h => by rw [h.nil_inv]; rfl
  | vs, a :: as, h => by
    obtain ⟨v, r, rfl, _, h2⟩ := h.uncons
    rw [List.length_cons, List.length_cons, h2.length]
theorem FtAll.get : ∀ {vs : List V} {as : List α}, FtAll K f H vs as → ∀ {i : Nat} {v : V}, vs[i]? = some v → ∃ a, as[i]? = some a ∧ Ft K f H v a
  | vs, [], h, i, v, e => by rw [h.nil_inv] at e; cases e
  | vs, a :: as, h, i, v, e => by
    obtain ⟨w, r, rfl, h1, h2⟩ := h.uncons
    cases i with
    | zero => cases e; exact ⟨a, rfl, h1⟩
    | succ i => exact h2.get e
theorem FtAll.iff {vs : List V} {as : List α} : FtAll K f H vs as ↔ vs.length = as.length ∧ ∀ (i : Nat) v, vs[i]? = some v → ∃ a, as[i]? = some a ∧ Ft K f H v a := by
  refine ⟨fun h => ⟨h.length, fun i v e => h.get e⟩, fun hh => ?_⟩
  obtain ⟨hl, h⟩ := hh
  induction vs generalizing as with
  | nil =>
    cases as with
    | nil => exact .nil
    | cons a as => cases hl
  | cons v vs ih =>
    cases as with
    | nil => cases hl
    | cons a as =>
      obtain ⟨a', e, d⟩ := h 0 v rfl
      cases e
      exact .cons d (ih (Nat.succ.inj hl) (fun i w e => h (i + 1) w e))
theorem FtAll.at' (h : FtAll K f H vs as) {i : Nat} {a : α} (e : as[i]? = some a) : ∃ v, vs[i]? = some v ∧ Ft K f H v a := by
  have hl := h.length
  have hi := (List.getElem?_eq_some_iff.mp e).1
  obtain ⟨a', e', d⟩ := h.get (List.getElem?_eq_getElem (show i < vs.length by omega))
  rw [e] at e'
  cases e'
  exact ⟨_, List.getElem?_eq_getElem (by omega), d⟩
theorem FtAll.atI (h : FtAll K f H vs as) {i : Int} {a : α} (e : L2.atI as i = some a) : ∃ v, L2.atI vs i = some v ∧ Ft K f H v a := by
  unfold L2.atI at e ⊢
  rw [h.length]
  cases hn : ixN as.length i with
  | none => rw [hn] at e; cases e
  | some j =>
    rw [hn] at e
    exact h.at' e
theorem FtAll.append (h1 : FtAll K f H vs as) (h2 : FtAll K f H ws bs) : FtAll K f H (vs ++ ws) (as ++ bs) := by
  induction as generalizing vs with
  | nil => rw [h1.nil_inv]; exact h2
  | cons a as ih =>
    obtain ⟨v, r, rfl, d, h1⟩ := h1.uncons
    exact .cons d (ih h1)
theorem FtAll.tk (h : FtAll K f H vs as) (n : Nat) : FtAll K f H (vs.take n) (as.take n) := by
  have hl := h.length
  refine FtAll.iff.mpr ⟨by rw [List.length_take, List.length_take, hl], fun i v e => ?_⟩
  rw [List.getElem?_take] at e ⊢
  split at e
  · rename_i q
    rw [if_pos q]
    exact h.get e
  · cases e
theorem FtAll.dp' (h : FtAll K f H vs as) (n : Nat) : FtAll K f H (vs.drop n) (as.drop n) := by
  have hl := h.length
  refine FtAll.iff.mpr ⟨by rw [List.length_drop, List.length_drop, hl], fun i v e => ?_⟩
  rw [List.getElem?_drop] at e ⊢
  exact h.get e
theorem FtAll.st (h : FtAll K f H vs as) (d : Ft K f H v a) (n : Nat) : FtAll K f H (vs.set n v) (as.set n a) := by
  have hl := h.length
  refine FtAll.iff.mpr ⟨by rw [List.length_set, List.length_set, hl], fun i w e => ?_⟩
  by_cases q : n = i
  · subst q
    have hi : n < vs.length := by
      have := (List.getElem?_eq_some_iff.mp e).1
      rw [List.length_set] at this
      exact this
    rw [List.getElem?_set_self hi] at e
    cases e
    exact ⟨a, List.getElem?_set_self (by omega), d⟩
  · rw [List.getElem?_set_ne q] at e ⊢
    exact h.get e
theorem FtAll.rep (h : FtAll K f H vs as) : ∀ n, FtAll K f H (List.replicate n vs).flatten (List.replicate n as).flatten
  | 0 => .nil
  | n + 1 => by
    rw [List.replicate_succ, List.replicate_succ, List.flatten_cons, List.flatten_cons]
    exact h.append (FtAll.rep h n)
theorem Ft.int {i : Int} : Ft K f H (.int i) i := Dt.ft Dt.int
theorem Ft.bl {i : Bool} : Ft K f H (.bl i) i := Dt.ft Dt.bl
theorem Ft.str {i : Str} : Ft K f H (.str i) i := Dt.ft Dt.str
theorem FtAll.ints (ns : List Int) : FtAll K f H (ns.map V.int) ns := (DtAll.ints ns).ft
theorem Ft.pair {p : Addr} (e : SqT K H p [v, w]) (h1 : Ft K f H v a) (h2 : Ft K f H w b) : Ft K f H (.ref p) (a, b) := by
  show FzD K f H (.tuple [_, _]) _
  unfold FzD
  exact ⟨p, _, rfl, e, (FtAll.cons h1 (FtAll.nil (α := α)) : FzL K f H [_] [v]) |> fun _ => by
    unfold FzL
    refine ⟨v, [w], rfl, h1, ?_⟩
    unfold FzL
    refine ⟨w, [], rfl, h2, ?_⟩
    unfold FzL
    rfl⟩
theorem Ft.pair_inv {v : V} {a : α} {b : β} (h : Ft K f H v (a, b)) : ∃ p x y, v = .ref p ∧ SqT K H p [x, y] ∧ Ft K f H x a ∧ Ft K f H y b := by
  have h : FzD K f H (.tuple [_, _]) v := h
  unfold FzD at h
  obtain ⟨p, vs, rfl, e, h⟩ := h
  unfold FzL at h
  obtain ⟨x, r, rfl, h1, h⟩ := h
  unfold FzL at h
  obtain ⟨y, r, rfl, h2, h⟩ := h
  unfold FzL at h
  subst h
  exact ⟨p, x, y, rfl, e, h1, h2⟩
theorem Ft.tup {p : Addr} (e : SqT K H p vs) (h : FtAll K f H vs as) : Ft K f H (.ref p) (PySem.W.Tup.mk as) := by
  show FzD K f H (.tuple _) _
  unfold FzD
  exact ⟨p, vs, rfl, e, h⟩
theorem Ft.tup_inv {t : PySem.W.Tup α} (h : Ft K f H v t) : ∃ p vs, v = .ref p ∧ SqT K H p vs ∧ FtAll K f H vs t.items := by
  have h : FzD K f H (.tuple _) v := h
  unfold FzD at h
  exact h
theorem Ft.list {p : Addr} (hf : f p) (e : H p = some (.lst vs)) (h : FtAll K f H vs as) : Ft K f H (.ref p) as := by
  show FzD K f H (.list _) _
  unfold FzD
  exact ⟨p, vs, rfl, hf, e, h⟩
end
/-- a part of a list -/
def cutA {α : Type} (xs : List α) (lo hi : Option Int) : List α := (xs.drop (HT.sIx xs.length 0 lo)).take (HT.sIx xs.length xs.length hi - HT.sIx xs.length 0 lo)
theorem DtAll.cut {K : PySem.W.Frag} {H : Hp} {α : Type} [DecidableEq α] [PySem.W.Datum α] {vs : List V} {as : List α} (h : DtAll K H vs as) (lo hi : Option Int) : DtAll K H (cutV vs lo hi) (cutA as lo hi) := by
  unfold cutV cutA
  rw [h.length]
  exact (h.dp _).tk _
theorem FtAll.cut {K : PySem.W.Frag} {f : As} {H : Hp} {α : Type} [DecidableEq α] [PySem.W.Datum α] {vs : List V} {as : List α} (h : FtAll K f H vs as) (lo hi : Option Int) : FtAll K f H (cutV vs lo hi) (cutA as lo hi) := by
  unfold cutV cutA
  rw [h.length]
  exact (h.dp' _).tk _
structure Ad where
  w : As
  f : As
/-- one more that may be written -/
def Ad.wr (X : Ad) (p : Addr) : Ad := ⟨fun b => X.w b ∨ b = p, X.f⟩
structure Go (X : Ad) (H : Hp) (X' : Ad) (H' : Hp) : Prop where
  st : ∀ b o, H b = some o → ¬ X.w b → H' b = some o
  wr : ∀ b, X'.w b → X.w b ∨ H b = none
  fz : ∀ b, X'.f b → X.f b ∨ X.w b ∨ H b = none
  up : ∀ b, X.f b → X'.f b
  tp : TupS H H'
theorem Go.refl {X : Ad} {H : Hp} : Go X H X H := ⟨fun _ _ h _ => h, fun _ h => .inl h, fun _ h => .inl h, fun _ h => h, .refl⟩
theorem Go.none {X X1 : Ad} {H H1 : Hp} (x : Go X H X1 H1) {b : Addr} (h : H1 b = none) : X.w b ∨ H b = none := by
  by_cases n : X.w b
  · exact .inl n
  · cases e : H b with
    | none => exact .inr rfl
    | some o => rw [x.st b o e n] at h; cases h
theorem Go.trans {X X1 X2 : Ad} {H H1 H2 : Hp} (x : Go X H X1 H1) (y : Go X1 H1 X2 H2) : Go X H X2 H2 := by
  refine ⟨fun b o h n => y.st b o (x.st b o h n) fun q => ?_, fun b hb => ?_, fun b hb => ?_, fun b h => y.up b (x.up b h), x.tp.trans y.tp⟩
  · rcases x.wr b q with z | z
    · exact n z
    · rw [h] at z; cases z
  · rcases y.wr b hb with q | q
    · exact x.wr b q
    · exact x.none q
  · rcases y.fz b hb with q | q | q
    · exact x.fz b q
    · exact .inr (x.wr b q)
    · exact .inr (x.none q)
theorem Go.same {X : Ad} {H H' : Hp} (s : Same H H') : Go X H X H' := ⟨fun b o h _ => s b o h, fun _ h => .inl h, fun _ h => .inl h, fun _ h => h, .same s⟩
structure Atom (K : PySem.W.Frag) where
  P : Hp → As → As → Prop
  im : Bool
  loc : ∀ {H H' x f f'}, P H x f → (∀ b, x b → ∀ o, H b = some o → H' b = some o) → (∀ b, f b → ∀ o, H b = some o → H' b = some o) → (∀ b, f b → f' b) → TupS H H' → P H' x f'
  ex : ∀ {H x f}, P H x f → ∀ b, x b → H b ≠ none
  no : ∀ {H x f}, im = true → P H x f → P H (fun _ => False) f
section atoms
variable {K : PySem.W.Frag}
def empA : Atom K := ⟨fun _ x _ => ∀ b, ¬ x b, true, fun h _ _ _ _ => h, fun h b q => absurd q (h b), fun _ _ _ q => q⟩
/-- a value that never changes -/
def imA {α : Type} [DecidableEq α] [PySem.W.Datum α] (v : V) (a : α) : Atom K :=
  ⟨fun H x f => (∀ b, ¬ x b) ∧ Ft K f H v a, true, fun h _ k u t => ⟨h.1, h.2.go u (fun b o hb e => k b hb o e) t⟩, fun h b q => absurd q (h.1 b), fun _ h => ⟨fun _ q => q, h.2⟩⟩
/-- a list of such values -/
def lsA {α : Type} [DecidableEq α] [PySem.W.Datum α] (p : Addr) (as : List α) : Atom K :=
  ⟨fun H x f => (∀ b, x b ↔ b = p) ∧ ∃ vs, H p = some (.lst vs) ∧ FtAll K f H vs as, false, fun h k kf u t => by
    obtain ⟨hx, vs, e, d⟩ := h
    exact ⟨hx, vs, k p ((hx p).mpr rfl) _ e, d.go u (fun b o hb e => kf b hb o e) t⟩, fun h b q => by
    obtain ⟨hx, vs, e, d⟩ := h
    rw [(hx b).mp q, e]
    exact (fun z => by cases z), fun z _ => by cases z⟩
/-- a tuple by its values -/
def tpA (v : V) (vs : List V) : Atom K :=
  ⟨fun H x _ => (∀ b, ¬ x b) ∧ ∃ p, v = .ref p ∧ SqT K H p vs, true, fun h _ _ _ t => by
    obtain ⟨hx, p, e, s⟩ := h
    exact ⟨hx, p, e, SqT.tups t s⟩, fun h b q => absurd q (h.1 b), fun _ h => ⟨fun _ q => q, h.2⟩⟩
/-- a list that is read only, perhaps one of the written part -/
def roA {α : Type} [DecidableEq α] [PySem.W.Datum α] (p : Addr) (as : List α) : Atom K :=
  ⟨fun H x f => ∃ vs, FtAll K f H vs as ∧ (((∀ b, x b ↔ b = p) ∧ Rd H p (.lst vs)) ∨ ((∀ b, ¬ x b) ∧ ∀ G, SqL K G p vs)), false, fun h k kf u t => by
    obtain ⟨vs, d, ⟨hx, e⟩ | ⟨hx, e⟩⟩ := h
    · refine ⟨vs, d.go u (fun b o hb e => kf b hb o e) t, .inl ⟨hx, ?_⟩⟩
      rcases e with e | ⟨o, e⟩
      · exact .inl (k p ((hx p).mpr rfl) _ e)
      · exact .inr ⟨o, k p ((hx p).mpr rfl) _ e⟩
    · exact ⟨vs, d.go u (fun b o hb e => kf b hb o e) t, .inr ⟨hx, e⟩⟩, fun h b q => by
    obtain ⟨vs, d, ⟨hx, e⟩ | ⟨hx, e⟩⟩ := h
    · rw [(hx b).mp q]
      rcases e with e | ⟨o, e⟩ <;> rw [e] <;> exact (fun z => by cases z)
    · exact absurd q (hx b), fun z _ => by cases z⟩
def SatW (H : Hp) : As → As → List (Atom K) → Prop
  | _, _, [] => True
  | X, f, A :: L => ∃ x : As, A.P H x f ∧ (∀ b, x b → X b) ∧ SatW H (fun b => X b ∧ ¬ x b) f L
structure Sat (H : Hp) (X : Ad) (L : List (Atom K)) : Prop where
  ok : ∀ b, X.f b → ¬ X.w b ∧ H b ≠ none
  at_ : SatW H X.w X.f L
variable {H H' : Hp} {X Y : Ad} {x y f f' : As} {L L' R : List (Atom K)} {A B : Atom K} {i : Nat}
theorem SatW.mono : ∀ {L : List (Atom K)} {x y : As}, (∀ b, x b → y b) → SatW H x f L → SatW H y f L
  | [], _, _, _, _ => trivial
  | A :: L, X, Y, h, s => by
    obtain ⟨x, p, hx, s⟩ := s
    exact ⟨x, p, fun b hb => h b (hx b hb), SatW.mono (fun b hb => ⟨h b hb.1, hb.2⟩) s⟩
theorem SatW.loc : ∀ {L : List (Atom K)} {x : As}, SatW H x f L → (∀ b, x b → ∀ o, H b = some o → H' b = some o) → (∀ b, f b → ∀ o, H b = some o → H' b = some o) → (∀ b, f b → f' b) → TupS H H' → SatW H' x f' L
  | [], _, _, _, _, _, _ => trivial
  | A :: L, X, s, k, kf, u, t => by
    obtain ⟨x, p, hx, s⟩ := s
    exact ⟨x, A.loc p (fun b hb => k b (hx b hb)) kf u t, hx, SatW.loc s (fun b hb => k b hb.1) kf u t⟩
/-- exactly what is held -/
theorem SatW.exact : ∀ {L : List (Atom K)} {x : As}, SatW H x f L → ∃ y : As, SatW H y f L ∧ (∀ b, y b → x b) ∧ ∀ b, y b → H b ≠ none
  | [], x, _ => ⟨fun _ => False, trivial, fun _ h => h.elim, fun _ h => h.elim⟩
  | A :: L, X, s => by
    obtain ⟨x, p, hx, s⟩ := s
    obtain ⟨y, s, hy, ey⟩ := SatW.exact s
    refine ⟨fun b => x b ∨ y b, ⟨x, p, fun b h => .inl h, SatW.mono (fun b h => ⟨.inr h, (hy b h).2⟩) s⟩, fun b h => h.elim (hx b) fun h => (hy b h).1, fun b h => h.elim (A.ex p b) (ey b)⟩
theorem SatW.cut : ∀ {L R : List (Atom K)} {x : As}, SatW H x f (L ++ R) → ∃ x1 x2 : As, SatW H x1 f L ∧ SatW H x2 f R ∧ (∀ b, x1 b → x b) ∧ (∀ b, x2 b → x b) ∧ (∀ b, x2 b → ¬ x1 b) ∧ ∀ b, x2 b → H b ≠ none
  | [], R, x, s => by
    obtain ⟨y, s, h1, h2⟩ := SatW.exact s
    exact ⟨fun _ => False, y, trivial, s, fun _ h => h.elim, h1, fun _ _ h => h, h2⟩
  | A :: L, R, X, s => by
    obtain ⟨x, p, hx, s⟩ := s
    obtain ⟨X1, X2, s1, s2, h1, h2, h3, h4⟩ := SatW.cut (L := L) s
    refine ⟨fun b => x b ∨ X1 b, X2, ⟨x, p, fun b h => .inl h, SatW.mono (fun b h => ⟨.inr h, (h1 b h).2⟩) s1⟩, s2, fun b h => h.elim (hx b) fun h => (h1 b h).1, fun b h => (h2 b h).1, fun b h q => ?_, h4⟩
    rcases q with q | q
    · exact (h2 b h).2 q
    · exact h3 b h q
theorem SatW.join : ∀ {L R : List (Atom K)} {x y : As}, SatW H x f L → SatW H y f R → (∀ b, x b → ¬ y b) → SatW H (fun b => x b ∨ y b) f (L ++ R)
  | [], R, x, y, _, s, _ => SatW.mono (fun _ h => .inr h) s
  | A :: L, R, X, Y, s, r, d => by
    obtain ⟨x, p, hx, s⟩ := s
    refine ⟨x, p, fun b h => .inl (hx b h), SatW.mono (fun b h => ?_) (SatW.join s r fun b h => d b h.1)⟩
    rcases h with h | h
    · exact ⟨.inl h.1, h.2⟩
    · exact ⟨.inr h, fun q => d b (hx b q) h⟩
theorem Sat.call {L : List (Atom K)} (s : Sat H X (L ++ R)) : ∃ X1 : Ad, X1.f = X.f ∧ Sat H X1 L ∧ ∀ H' X1' L', Go X1 H X1' H' → Sat H' X1' L' → ∃ X', X'.f = X1'.f ∧ Go X H X' H' ∧ Sat H' X' (L' ++ R) := by
  obtain ⟨x1, x2, s1, s2, h1, h2, h3, h4⟩ := SatW.cut s.at_
  refine ⟨⟨x1, X.f⟩, rfl, ⟨fun b hb => ⟨fun q => (s.ok b hb).1 (h1 b q), (s.ok b hb).2⟩, s1⟩, fun H' X1' L' g s' => ⟨⟨fun b => X1'.w b ∨ x2 b, X1'.f⟩, rfl, ⟨fun b o h n => g.st b o h fun q => n (h1 b q), fun b h => ?_, fun b h => ?_, g.up, g.tp⟩, fun b hb => ⟨fun q => ?_, (s'.ok b hb).2⟩, SatW.join s'.at_ (s2.loc (fun b hb o e => g.st b o e (h3 b hb)) (fun b hb o e => g.st b o e fun q => (s.ok b hb).1 (h1 b q)) g.up g.tp) fun b h q => ?_⟩⟩
  · rcases h with h | h
    · exact (g.wr b h).imp_left (h1 b)
    · exact .inl (h2 b h)
  · rcases g.fz b h with q | q | q
    · exact .inl q
    · exact .inr (.inl (h1 b q))
    · exact .inr (.inr q)
  · rcases q with q | q
    · exact (s'.ok b hb).1 q
    · rcases g.fz b hb with z | z | z
      · exact (s.ok b z).1 (h2 b q)
      · exact h3 b q z
      · exact h4 b q z
  · rcases g.wr b h with z | z
    · exact h3 b q z
    · exact h4 b q z
theorem SatW.get : ∀ {L : List (Atom K)} {X : As} {i : Nat} {A : Atom K}, SatW H X f L → L[i]? = some A → ∃ x : As, A.P H x f ∧ (∀ b, x b → X b) ∧ SatW H (fun b => X b ∧ ¬ x b) f (L.set i empA)
  | [], _, _, _, _, e => by cases e
  | B :: L, X, 0, A, s, e => by
    cases e
    obtain ⟨x, p, hx, s⟩ := s
    exact ⟨x, p, hx, fun _ => False, fun _ h => h, fun _ h => h.elim, SatW.mono (fun b h => ⟨h, fun q => q⟩) s⟩
  | B :: L, X, i + 1, A, s, e => by
    obtain ⟨x, p, hx, s⟩ := s
    obtain ⟨y, q, hy, s⟩ := SatW.get (i := i) s e
    refine ⟨y, q, fun b h => (hy b h).1, x, p, fun b h => ⟨hx b h, fun z => (hy b z).2 h⟩, SatW.mono (fun b h => ⟨⟨h.1.1, h.2⟩, h.1.2⟩) s⟩
theorem Sat.get {A : Atom K} (s : Sat H X L) (e : L[i]? = some A) : ∃ x : As, A.P H x X.f ∧ (∀ b, x b → X.w b) ∧ SatW H (fun b => X.w b ∧ ¬ x b) X.f (L.set i empA) := s.at_.get e
/-- another item at a place -/
theorem SatW.put : ∀ {L : List (Atom K)} {X Y x : As} {i : Nat} {A B : Atom K}, SatW H X f (L.set i B) → B.P H (fun b => False) f → A.P H x f → (∀ b, x b → Y b) → (∀ b, X b → Y b ∧ ¬ x b) → i < L.length → SatW H Y f (L.set i A) := by
  intro L
  induction L with
  | nil => intro X Y x i A B s hB hA hx hX hi; exact absurd hi (Nat.not_lt_zero _)
  | cons C L ih =>
    intro X Y x i A B s hB hA hx hX hi
    cases i with
    | zero =>
      obtain ⟨y, p, hy, s⟩ := s
      exact ⟨x, hA, hx, SatW.mono (fun b h => hX b h.1) s⟩
    | succ i =>
      obtain ⟨y, p, hy, s⟩ := s
      refine ⟨y, p, fun b h => (hX b (hy b h)).1, ih (Y := fun b => Y b ∧ ¬ y b) s hB hA (fun b h => ⟨hx b h, fun q => (hX b (hy b q)).2 h⟩) (fun b h => ⟨⟨(hX b h.1).1, h.2⟩, (hX b h.1).2⟩) (Nat.lt_of_succ_lt_succ hi)⟩
/-- some of the items, in any order; what never changes may be taken twice -/
def subL : List (Atom K) → List Nat → List (Atom K)
  | _, [] => []
  | L, i :: is => match L[i]? with
    | some A => A :: subL (match A.im with | true => L | false => L.set i empA) is
    | none => []
theorem SatW.sub : ∀ (is : List Nat) {L : List (Atom K)} {X : As}, SatW H X f L → SatW H X f (subL L is)
  | [], _, _, _ => trivial
  | i :: is, L, X, s => by
    unfold subL
    cases e : L[i]? with
    | none => exact trivial
    | some A =>
      obtain ⟨x, p, hx, s'⟩ := s.get e
      dsimp only
      cases q : A.im with
      | true => exact ⟨fun _ => False, A.no q p, fun _ h => h.elim, SatW.mono (fun b h => ⟨h, fun z => z⟩) (SatW.sub is s)⟩
      | false => exact ⟨x, p, hx, SatW.sub is s'⟩
theorem Sat.sub (is : List Nat) (s : Sat H X L) : Sat H X (subL L is) := ⟨s.ok, s.at_.sub is⟩
/-- one that never changes, known aside -/
theorem Sat.im {A : Atom K} (s : Sat H X L) (h : A.P H (fun _ => False) X.f) : Sat H X (A :: L) := ⟨s.ok, _, h, fun _ q => q.elim, SatW.mono (fun b h => ⟨h, fun q => q⟩) s.at_⟩
theorem Sat.same (s : Sat H X L) (e : Same H H') : Sat H' X L := ⟨fun b hb => ⟨(s.ok b hb).1, by
  have := (s.ok b hb).2
  cases q : H b with
  | none => exact absurd q this
  | some o => rw [e b o q]; simp⟩, s.at_.loc (fun b _ o h => e b o h) (fun b _ o h => e b o h) (fun _ h => h) (.same e)⟩
variable {α β : Type} [DecidableEq α] [PySem.W.Datum α] [DecidableEq β] [PySem.W.Datum β]
theorem Sat.ft {v : V} {a : α} (s : Sat H X L) (i : Nat) (e : L[i]? = some (imA v a)) : Ft K X.f H v a := by
  obtain ⟨x, p, _⟩ := s.get e
  exact p.2
theorem Sat.dt {v : V} {a : α} (s : Sat H X L) (i : Nat) (e : L[i]? = some (imA v a)) : Dt K H v a := (s.ft i e).dt
theorem Sat.imf {v : V} {a : α} (s : Sat H X L) (d : Ft K X.f H v a) : Sat H X (imA v a :: L) := s.im ⟨fun _ q => q, d⟩
theorem Sat.imd [Imm α] {v : V} {a : α} (s : Sat H X L) (d : Dt K H v a) : Sat H X (imA v a :: L) := s.imf d.ft
theorem Sat.tp {v : V} {vs : List V} (s : Sat H X L) (i : Nat) (e : L[i]? = some (tpA v vs)) : ∃ p, v = .ref p ∧ SqT K H p vs := by
  obtain ⟨x, p, _⟩ := s.get e
  exact p.2
theorem Sat.ls {p : Addr} {as : List α} (s : Sat H X L) (i : Nat) (e : L[i]? = some (lsA p as)) : ∃ vs, H p = some (.lst vs) ∧ FtAll K X.f H vs as := by
  obtain ⟨x, q, _⟩ := s.get e
  exact q.2
theorem Sat.ro {p : Addr} {as : List α} (s : Sat H X L) (i : Nat) (e : L[i]? = some (roA p as)) : ∃ vs, SqL K H p vs ∧ FtAll K X.f H vs as := by
  obtain ⟨x, ⟨vs, d, ⟨_, h⟩ | ⟨_, h⟩⟩, _⟩ := s.get e
  · exact ⟨vs, .inl h, d⟩
  · exact ⟨vs, h _, d⟩
/-- an item that is new -/
theorem Sat.new {p : Addr} {o : HO} {A : Atom K} (s : Sat H X L) (n : H p = none) (h : ∀ f, (∀ b, f b → X.f b) → (∀ b, X.f b → f b) → A.P (upd H p o) (fun b => b = p) f) : Go X H (X.wr p) (upd H p o) ∧ Sat (upd H p o) (X.wr p) (A :: L) := by
  have e := same_new (o := o) n
  have s' := s.same e
  obtain ⟨y, sy, hy, ey⟩ := s.at_.exact
  refine ⟨⟨fun b o h _ => e b o h, fun b h => h.elim .inl fun q => .inr (by rw [q]; exact n), fun b h => .inl h, fun _ h => h, .same e⟩, fun b hb => ⟨fun q => ?_, (s'.ok b hb).2⟩, fun b => b = p, h X.f (fun _ h => h) (fun _ h => h), fun b h => .inr h, SatW.mono (fun b h => ⟨.inl (hy b h), fun q => ey b h (by rw [q]; exact n)⟩) (sy.loc (fun b _ o h => e b o h) (fun b _ o h => e b o h) (fun _ h => h) (.same e))⟩
  rcases q with q | q
  · exact (s.ok b hb).1 q
  · exact (s.ok b hb).2 (by rw [q]; exact n)
/-- a new list -/
theorem Sat.newL {p : Addr} {vs : List V} {as : List α} (s : Sat H X L) (n : H p = none) (d : FtAll K X.f H vs as) : Go X H (X.wr p) (upd H p (.lst vs)) ∧ Sat (upd H p (.lst vs)) (X.wr p) (lsA p as :: L) := s.new n fun f k1 k2 => ⟨fun b => Iff.rfl, vs, upd_same, d.go k2 (fun b o _ e => same_new n b o e) (.same (same_new n))⟩
/-- a new tuple -/
theorem Sat.newT {p : Addr} {vs : List V} (s : Sat H X L) (n : H p = none) : Go X H X (upd H p (.tup vs)) ∧ Sat (upd H p (.tup vs)) X (tpA (.ref p) vs :: L) := by
  have e := same_new (o := .tup vs) n
  exact ⟨.same e, (s.same e).im ⟨fun _ q => q, p, rfl, SqT.of upd_same⟩⟩
/-- what one owns is written -/
theorem Sat.wr {p : Addr} {o u : HO} {A B : Atom K} (s : Sat H X L) (i : Nat) (e : L[i]? = some A) (hA : ∀ x f, A.P H x f → (∀ b, x b ↔ b = p)) (ho : H p = some u) (nt : ¬ IsTup u) (hB : ∀ f, (∀ b, X.f b → f b) → (∀ b o', X.f b → H b = some o' → upd H p o b = some o') → TupS H (upd H p o) → B.P (upd H p o) (fun b => b = p) f) : Go X H X (upd H p o) ∧ Sat (upd H p o) X (L.set i B) := by
  obtain ⟨x, pa, hX, s'⟩ := s.get e
  have hx := hA x _ pa
  have k : ∀ b, b ≠ p → ∀ o', H b = some o' → upd H p o b = some o' := fun b n o' h => upd_oth h n
  have nf : ∀ b, X.f b → b ≠ p := fun b hb q => (s.ok b hb).1 (hX b ((hx b).mpr q))
  have t : TupS H (upd H p o) := fun b o' h i => by
    by_cases q : b = p
    · rw [q, ho] at h
      cases h
      exact absurd i nt
    · exact k b q o' h
  have ex : ∀ b, x b ↔ b = p := hx
  have xe : x = fun b => b = p := funext fun b => propext (hx b)
  refine ⟨⟨fun b o' h n => k b (fun q => n (by rw [q]; exact hX p ((hx p).mpr rfl))) o' h, fun b h => .inl h, fun b h => .inl h, fun _ h => h, t⟩, fun b hb => ⟨(s.ok b hb).1, by rw [upd_ne (nf b hb)]; exact (s.ok b hb).2⟩, ?_⟩
  exact SatW.put (X := fun b => X.w b ∧ ¬ x b) (x := fun b => b = p) (B := empA) (s'.loc (fun b h o e => k b (fun q => h.2 ((hx b).mpr q)) o e) (fun b hb o e => k b (nf b hb) o e) (fun _ h => h) t) (fun _ q => q) (hB X.f (fun _ h => h) (fun b o' hb e => k b (nf b hb) o' e) t) (fun b h => hX b ((hx b).mpr h)) (fun b h => ⟨h.1, fun q => h.2 ((hx b).mpr q)⟩) (List.getElem?_eq_some_iff.mp e).1
/-- a list is written -/
theorem Sat.wrL {p : Addr} {vs : List V} {as : List α} {bs : List β} (s : Sat H X L) (i : Nat) (e : L[i]? = some (lsA p as)) (d : FtAll K X.f H vs bs) : Go X H X (upd H p (.lst vs)) ∧ Sat (upd H p (.lst vs)) X (L.set i (lsA p bs)) := by
  obtain ⟨ws, ew, _⟩ := s.ls i e
  exact s.wr i e (fun x f h => h.1) ew (by rintro (⟨_, z⟩ | ⟨_, _, z⟩) <;> cases z) fun f u k t => ⟨fun b => Iff.rfl, vs, upd_same, d.go u k t⟩
/-- a list that is not written any more stands for ever -/
theorem Sat.frz {p : Addr} {as : List α} (s : Sat H X (lsA p as :: L)) : ∃ X', Go X H X' H ∧ Sat H X' (imA (.ref p) as :: L) := by
  obtain ⟨x, ⟨hx, vs, e, d⟩, hX, s'⟩ := s.at_
  refine ⟨⟨fun b => X.w b ∧ ¬ x b, fun b => X.f b ∨ b = p⟩, ⟨fun _ _ h _ => h, fun b h => .inl h.1, fun b h => h.elim .inl fun q => .inr (.inl (hX b ((hx b).mpr q))), fun b h => .inl h, .refl⟩, fun b hb => ?_, fun _ => False, ⟨fun _ q => q, Ft.list (.inr rfl) e (d.go (fun _ h => .inl h) (fun _ _ _ h => h) .refl)⟩, fun _ h => h.elim, SatW.mono (fun b h => ⟨h, fun q => q⟩) (s'.loc (fun _ _ _ h => h) (fun _ _ _ h => h) (fun _ h => .inl h) .refl)⟩
  rcases hb with hb | hb
  · exact ⟨fun q => (s.ok b hb).1 q.1, (s.ok b hb).2⟩
  · refine ⟨fun q => q.2 ((hx b).mpr hb), by rw [hb, e]; simp⟩
end atoms
end U
namespace U
open PySem PySem.Spec PyProof.Rows L2
theorem Sat.swap {K : PySem.W.Frag} {H : Hp} {X : Ad} {A B : Atom K} {L : List (Atom K)} (s : Sat H X (A :: B :: L)) : Sat H X (B :: A :: L) := by
  obtain ⟨x, p, hx, y, q, hy, s'⟩ := s.at_
  exact ⟨s.ok, y, q, fun b h => (hy b h).1, x, p, fun b h => ⟨hx b h, fun z => (hy b z).2 h⟩, SatW.mono (fun b h => ⟨⟨h.1.1, h.2⟩, h.1.2⟩) s'⟩
end U
namespace U
open PySem PySem.Spec PyProof.Rows L2
end U
namespace U
open PySem PySem.Spec PyProof.Rows L2
class NN (α : Type) [DecidableEq α] [PySem.W.Datum α] : Prop where
  nn : ∀ a : α, PyData.eqv .none (PySem.W.Datum.toD a) = false ∧ PyData.eqv (PySem.W.Datum.toD a) .none = false
instance : NN Int := ⟨fun a => ⟨by simp [PySem.W.Datum.toD, PyData.eqv], by simp [PySem.W.Datum.toD, PyData.eqv]⟩⟩
instance : NN Bool := ⟨fun a => ⟨by simp [PySem.W.Datum.toD, PyData.eqv], by simp [PySem.W.Datum.toD, PyData.eqv]⟩⟩
instance : NN Str := ⟨fun a => ⟨by simp [PySem.W.Datum.toD, PyData.eqv], by simp [PySem.W.Datum.toD, PyData.eqv]⟩⟩
section
variable {α β : Type} [DecidableEq α] [PySem.W.Datum α] [DecidableEq β] [PySem.W.Datum β]
instance : NN (PySem.W.Tup α) := ⟨fun a => ⟨by simp [PySem.W.Datum.toD, PyData.eqv], by simp [PySem.W.Datum.toD, PyData.eqv]⟩⟩
instance : NN (α × β) := ⟨fun a => ⟨by simp [PySem.W.Datum.toD, PyData.eqv], by simp [PySem.W.Datum.toD, PyData.eqv]⟩⟩
instance : NN (List α) := ⟨fun a => ⟨by simp [PySem.W.Datum.toD, PyData.eqv], by simp [PySem.W.Datum.toD, PyData.eqv]⟩⟩
def optD : Option α → PyData
  | none => .none
  | some a => PySem.W.Datum.toD a
instance [NN α] : PySem.W.Datum (Option α) where
  toD := optD
  plain a := by
    cases a with
    | none => rfl
    | some a => exact PySem.W.Datum.plain a
  eqv a b := by
    cases a with
    | none =>
      cases b with
      | none => simp [optD, PyData.eqv]
      | some b => exact (NN.nn b).1.trans (decide_eq_false (fun q => by cases q)).symm
    | some a =>
      cases b with
      | none => exact (NN.nn a).2.trans (decide_eq_false (fun q => by cases q)).symm
      | some b => exact (PySem.W.Datum.eqv a b).trans (decide_eq_decide.mpr ⟨fun h => by rw [h], fun h => Option.some.inj h⟩)
  depth := PySem.W.Datum.depth α
  depth_le a := by
    cases a with
    | none => exact Nat.zero_le _
    | some a => exact PySem.W.Datum.depth_le a
instance [NN α] [Imm α] : Imm (Option α) := ⟨fun a => by
  cases a with
  | none => rfl
  | some a => exact Imm.im a⟩
variable {K : PySem.W.Frag} {H : Hp} {v : V}
theorem Dt.non : Dt K H .non () := Dp.non
theorem Ft.none_ [NN α] {f : As} : Ft K f H .non (none : Option α) := by
  show FzD K f H .none .non
  unfold FzD
  rfl
theorem Ft.non {f : As} : Ft K f H .non () := by
  show FzD K f H .none .non
  unfold FzD
  rfl
theorem Ft.some_ [NN α] {f : As} {a : α} (h : Ft K f H v a) : Ft K f H v (some a) := h
theorem Ft.of_some [NN α] {f : As} {a : α} (h : Ft K f H v (some a)) : Ft K f H v a := h
theorem Dt.none_inv [NN α] (h : Dt K H v (none : Option α)) : v = .non := by
  have h : Dp K H v .none := h
  cases h
  rfl
theorem Dt.isNon [NN α] {o : Option α} (h : Dt K H v o) : U.isNon v = o.isNone := by
  cases o with
  | none => rw [Dt.none_inv h]; rfl
  | some a =>
    cases v with
    | non =>
      exfalso
      have h : Dp K H .non (PySem.W.Datum.toD a) := h
      have z := (NN.nn a).1
      cases e : PySem.W.Datum.toD a with
      | none => rw [e] at z; simp [PyData.eqv] at z
      | _ => rw [e] at h; cases h
    | _ => rfl
/-- == of data -/
theorem a_eq {Q : VK} {w : V} {a b : α} (h1 : Dt K H v a) (h2 : Dt K H w b) (hd : PySem.W.Datum.depth α ≤ 60) (h : Q (.bl (decide (a = b))) H) : uEq K v w H Q := by
  have z : rEqP K v w H Q := ⟨_, _, h1, h2, ⟨PySem.W.Datum.plain a, Nat.le_trans (PySem.W.Datum.depth_le a) hd⟩, PySem.W.Datum.plain b, by rw [PySem.W.Datum.eqv]; exact h⟩
  have e := PySem.W.Datum.eqv a b
  unfold uEq
  split
  · rename_i i j
    have h1 : Dp K H (.int i) (PySem.W.Datum.toD a) := h1
    have h2 : Dp K H (.int j) (PySem.W.Datum.toD b) := h2
    generalize PySem.W.Datum.toD a = x at *
    generalize PySem.W.Datum.toD b = y at *
    cases h1
    cases h2
    simp only [PyData.eqv] at e
    rw [← e, PySem.W.beq_decide] at h
    exact h
  · rename_i i j
    have h1 : Dp K H (.str i) (PySem.W.Datum.toD a) := h1
    have h2 : Dp K H (.str j) (PySem.W.Datum.toD b) := h2
    generalize PySem.W.Datum.toD a = x at *
    generalize PySem.W.Datum.toD b = y at *
    cases h1
    cases h2
    simp only [PyData.eqv] at e
    rw [← e, PySem.W.beq_decide] at h
    exact h
  · rename_i i j
    have h1 : Dp K H (.bl i) (PySem.W.Datum.toD a) := h1
    have h2 : Dp K H (.bl j) (PySem.W.Datum.toD b) := h2
    generalize PySem.W.Datum.toD a = x at *
    generalize PySem.W.Datum.toD b = y at *
    cases h1
    cases h2
    simp only [PyData.eqv] at e
    rw [← e, PySem.W.beq_decide] at h
    exact h
  · exact .inr z
theorem a_ne {Q : VK} {w : V} {a b : α} (h1 : Dt K H v a) (h2 : Dt K H w b) (hd : PySem.W.Datum.depth α ≤ 60) (h : Q (.bl (!decide (a = b))) H) : uNe K v w H Q := by
  have z : rNeP K v w H Q := ⟨_, _, h1, h2, ⟨PySem.W.Datum.plain a, Nat.le_trans (PySem.W.Datum.depth_le a) hd⟩, PySem.W.Datum.plain b, by rw [PySem.W.Datum.eqv]; exact h⟩
  have e := PySem.W.Datum.eqv a b
  unfold uNe
  split
  · rename_i i j
    have h1 : Dp K H (.int i) (PySem.W.Datum.toD a) := h1
    have h2 : Dp K H (.int j) (PySem.W.Datum.toD b) := h2
    generalize PySem.W.Datum.toD a = x at *
    generalize PySem.W.Datum.toD b = y at *
    cases h1
    cases h2
    simp only [PyData.eqv] at e
    rw [← e, PySem.W.beq_decide] at h
    exact h
  · rename_i i j
    have h1 : Dp K H (.str i) (PySem.W.Datum.toD a) := h1
    have h2 : Dp K H (.str j) (PySem.W.Datum.toD b) := h2
    generalize PySem.W.Datum.toD a = x at *
    generalize PySem.W.Datum.toD b = y at *
    cases h1
    cases h2
    simp only [PyData.eqv] at e
    rw [← e, PySem.W.beq_decide] at h
    exact h
  · rename_i i j
    have h1 : Dp K H (.bl i) (PySem.W.Datum.toD a) := h1
    have h2 : Dp K H (.bl j) (PySem.W.Datum.toD b) := h2
    generalize PySem.W.Datum.toD a = x at *
    generalize PySem.W.Datum.toD b = y at *
    cases h1
    cases h2
    simp only [PyData.eqv] at e
    rw [← e, PySem.W.beq_decide] at h
    exact h
  · exact .inr z
end
inductive Ec | LaminaError | NotValid | PowerOff | NoProcess | BadHandle | NoVolume | ReadOnly | BadName | Missing | WrongKind | Exists | LoopFound | CrossVolume | Busy | NotEmpty | TooMany | TooLong | OverQuota | NoSpace | BadImage
  deriving DecidableEq
inductive Res (α : Type) | ok (a : α) | err (e : Ec) | div
def M (σ α : Type) : Type := σ → Res α × σ
namespace M
variable {σ α β γ : Type}
def ret (a : α) : M σ α := fun s => (.ok a, s)
def bind (m : M σ α) (f : α → M σ β) : M σ β := fun s => match m s with
  | (.ok a, s') => f a s'
  | (.err e, s') => (.err e, s')
  | (.div, s') => (.div, s')
def div : M σ α := fun s => (.div, s)
/-- what is there -/
def need (o : Option α) (f : α → M σ β) : M σ β := match o with
  | some a => f a
  | none => div
/-- where it holds -/
def chk (c : Prop) [Decidable c] (f : M σ β) : M σ β := if c then f else div
/-- what is raised is not said -/
def calm (m : M σ α) : M σ α := fun s => match m s with
  | (.ok a, s') => (.ok a, s')
  | (_, s') => (.div, s')
def join (b : (β → M σ γ) → M σ γ) (k : β → M σ γ) : M σ γ := b k
def mFor (body : α → β → (β → M σ γ) → (β → M σ γ) → M σ γ) (kn : β → M σ γ) : List α → β → M σ γ
  | [], b => kn b
  | x :: xs, b => body x b (mFor body kn xs) kn
/-- a comprehension: keep an item, or leave it -/
def mMap (f : α → (β → M σ γ) → M σ γ → M σ γ) (kn : List β → M σ γ) : List α → List β → M σ γ
  | [], acc => kn acc
  | x :: xs, acc => f x (fun y => chk (acc.length < 1000000) (mMap f kn xs (acc ++ [y]))) (mMap f kn xs acc)
end M
def WpP {σ α : Type} (m : M σ α) (s : σ) (ok : α → σ → Prop) (er : Ec → σ → Prop) : Prop := match m s with
  | (.ok a, s') => ok a s'
  | (.err e, s') => er e s'
  | (.div, _) => False
/-- what is wanted of a model's answer -/
structure Wp {σ α : Type} (m : M σ α) (s : σ) (ok : α → σ → Prop) (er : Ec → σ → Prop) : Prop where
  p : WpP m s ok er
namespace Wp
variable {σ α β γ : Type} {m : M σ α} {s : σ} {ok : β → σ → Prop} {er : Ec → σ → Prop}
theorem bind_iff {f : α → M σ β} : Wp (M.bind m f) s ok er ↔ Wp m s (fun a s' => Wp (f a) s' ok er) er := by
  constructor
  · intro h
    have h := h.p
    refine ⟨?_⟩
    unfold WpP M.bind at h
    unfold WpP
    cases e : m s with
    | mk r s' =>
      rw [e] at h
      cases r with
      | ok a => exact ⟨h⟩
      | err a => exact h
      | div => exact h
  · intro h
    have h := h.p
    refine ⟨?_⟩
    unfold WpP at h
    unfold WpP M.bind
    cases e : m s with
    | mk r s' =>
      rw [e] at h
      cases r with
      | ok a => exact h.p
      | err a => exact h
      | div => exact h
theorem bind {f : α → M σ β} (h : Wp (M.bind m f) s ok er) : Wp m s (fun a s' => Wp (f a) s' ok er) er := bind_iff.mp h
theorem ret {a : β} (h : Wp (M.ret a) s ok er) : ok a s := h.p
theorem retI {a : β} (h : ok a s) : Wp (M.ret a) s ok er := ⟨h⟩
theorem need {o : Option α} {f : α → M σ β} (h : Wp (M.need o f) s ok er) : ∃ a, o = some a ∧ Wp (f a) s ok er := by
  cases o with
  | none => exact h.p.elim
  | some a => exact ⟨a, rfl, h⟩
theorem needI {o : Option α} {f : α → M σ β} {a : α} (e : o = some a) (h : Wp (f a) s ok er) : Wp (M.need o f) s ok er := by subst e; exact h
theorem chk {c : Prop} [Decidable c] {f : M σ β} (h : Wp (M.chk c f) s ok er) : c ∧ Wp f s ok er := by
  unfold M.chk at h
  split at h
  · exact ⟨by assumption, h⟩
  · exact h.p.elim
theorem chkI {c : Prop} [Decidable c] {f : M σ β} (hc : c) (h : Wp f s ok er) : Wp (M.chk c f) s ok er := by
  unfold M.chk
  rw [if_pos hc]
  exact h
theorem calm0 {m : M σ β} (h : Wp (M.calm m) s ok er) : Wp m s ok (fun _ _ => False) := by
  have h := h.p
  refine ⟨?_⟩
  unfold WpP M.calm at h
  unfold WpP
  cases e : m s with
  | mk r s' =>
    rw [e] at h
    cases r <;> exact h
theorem calm0I {m : M σ β} (h : Wp m s ok (fun _ _ => False)) : Wp (M.calm m) s ok er := by
  have h := h.p
  refine ⟨?_⟩
  unfold WpP at h
  unfold WpP M.calm
  cases e : m s with
  | mk r s' =>
    rw [e] at h
    cases r with
    | ok a => exact h
    | err a => exact h.elim
    | div => exact h
theorem calm {f : α → M σ β} (h : Wp (M.bind (M.calm m) f) s ok er) : Wp m s (fun a s' => Wp (f a) s' ok er) (fun _ _ => False) := calm0 (bind h)
theorem ite_t {c : Prop} [Decidable c] {m1 m2 : M σ β} (hc : c) (h : Wp (if c then m1 else m2) s ok er) : Wp m1 s ok er := by rw [if_pos hc] at h; exact h
theorem ite_f {c : Prop} [Decidable c] {m1 m2 : M σ β} (hc : ¬ c) (h : Wp (if c then m1 else m2) s ok er) : Wp m2 s ok er := by rw [if_neg hc] at h; exact h
theorem mono {m : M σ β} {ok' : β → σ → Prop} {er' : Ec → σ → Prop} (h : Wp m s ok er) (h1 : ∀ a s', ok a s' → ok' a s') (h2 : ∀ e s', er e s' → er' e s') : Wp m s ok' er' := by
  have h := h.p
  refine ⟨?_⟩
  unfold WpP at *
  cases q : m s with
  | mk r s' =>
    rw [q] at h
    cases r with
    | ok a => exact h1 a s' h
    | err e => exact h2 e s' h
    | div => exact h
end Wp
section steps
variable {K : PySem.W.Frag} {H : Hp} {X : Ad} {L : List (Atom K)} {Q : VK} {σ : L2.St} {p q : Addr} {v w : V} {n : Int}
variable {α β : Type} [DecidableEq α] [PySem.W.Datum α] [DecidableEq β] [PySem.W.Datum β]
theorem a_ixL {as : List α} {x : α} (s : Sat H X L) (i : Nat) (e : L[i]? = some (lsA p as)) (hx : L2.atI as n = some x) (k : ∀ w, Sat H X (imA w x :: L) → Q w H) : uIx K (.ref p) (.int n) H Q := by
  obtain ⟨vs, ev, d⟩ := s.ls i e
  obtain ⟨w, ew, dw⟩ := d.atI hx
  exact ⟨vs, w, .inl (SqL.of ev), ew, k w (s.imf dw)⟩
theorem a_ixR {as : List α} {x : α} (s : Sat H X L) (i : Nat) (e : L[i]? = some (roA p as)) (hx : L2.atI as n = some x) (k : ∀ w, Sat H X (imA w x :: L) → Q w H) : uIx K (.ref p) (.int n) H Q := by
  obtain ⟨vs, ev, d⟩ := s.ro i e
  obtain ⟨w, ew, dw⟩ := d.atI hx
  exact ⟨vs, w, .inl ev, ew, k w (s.imf dw)⟩
theorem Dt.tup_inv {v : V} {t : PySem.W.Tup α} (h : Dt K H v t) : ∃ p vs, v = .ref p ∧ SqT K H p vs ∧ DtAll K H vs t.items := by
  have h : Dp K H v (.tuple (t.items.map PySem.W.Datum.toD)) := h
  cases h with
  | tup e x => exact ⟨_, _, rfl, e, x⟩
theorem a_ixT {t : PySem.W.Tup α} {x : α} (d : Ft K X.f H v t) (s : Sat H X L) (hx : L2.atI t.items n = some x) (k : ∀ w, Sat H X (imA w x :: L) → Q w H) : uIx K v (.int n) H Q := by
  obtain ⟨p, vs, rfl, ev, d⟩ := d.tup_inv
  obtain ⟨w, ew, dw⟩ := d.atI hx
  exact ⟨vs, w, .inr ev, ew, k w (s.imf dw)⟩
theorem a_ixP0 {t : α × β} (d : Ft K X.f H v t) (s : Sat H X L) (k : ∀ w, Sat H X (imA w t.1 :: L) → Q w H) : uIx K v (.int 0) H Q := by
  obtain ⟨p, x, y, rfl, e, d1, d2⟩ := Ft.pair_inv (a := t.1) (b := t.2) d
  exact ⟨[x, y], x, .inr e, rfl, k x (s.imf d1)⟩
theorem a_slL {as : List α} {lo hi : Option Int} (s : Sat H X L) (i : Nat) (e : L[i]? = some (lsA p as)) (k : ∀ q H' X', Go X H X' H' → Sat H' X' (lsA q (cutA as lo hi) :: L) → Q (.ref q) H') : uSl K (.ref p) lo hi H Q := by
  obtain ⟨vs, ev, d⟩ := s.ls i e
  refine w_slL (SqL.of ev) fun q hq => ?_
  obtain ⟨g, s⟩ := s.newL hq (d.cut lo hi)
  exact k q _ _ g s
theorem a_newT {vs : List V} (s : Sat H X L) (h : vs.length ≤ 100000) (k : ∀ q H' X', Go X H X' H' → Sat H' X' (tpA (.ref q) vs :: L) → Q (.ref q) H') : newT vs H Q := w_newT h fun q hq => by
  obtain ⟨g, s⟩ := s.newT (vs := vs) hq
  exact k q _ _ g s
theorem a_newTi (ns : List Int) (s : Sat H X L) (h : ns.length ≤ 100000) (k : ∀ q H' X', Go X H X' H' → Sat H' X' (imA (.ref q) (PySem.W.Tup.mk ns) :: L) → Q (.ref q) H') : newT (ns.map V.int) H Q := w_newT (by rw [List.length_map]; exact h) fun q hq => by
  have e := same_new (o := .tup (ns.map V.int)) hq
  exact k q _ _ (.same e) ((s.same e).imd (Dt.ti (SqT.of upd_same)))
theorem a_newTp {a : α} {b : β} (s : Sat H X L) (d1 : Ft K X.f H v a) (d2 : Ft K X.f H w b) (k : ∀ q H' X', Go X H X' H' → Sat H' X' (imA (.ref q) (a, b) :: L) → Q (.ref q) H') : newT [v, w] H Q := w_newT (Nat.le_of_ble_eq_true rfl) fun q hq => by
  have e := same_new (o := .tup [v, w]) hq
  exact k q _ _ (.same e) ((s.same e).imf (Ft.pair (SqT.of upd_same) (d1.same e) (d2.same e)))
theorem a_newL {vs : List V} {as : List α} (s : Sat H X L) (d : FtAll K X.f H vs as) (h : vs.length ≤ 100000) (k : ∀ q H' X', Go X H X' H' → Sat H' X' (lsA q as :: L) → Q (.ref q) H') : newL vs H Q := w_newL h fun q hq => by
  obtain ⟨g, s⟩ := s.newL hq d
  exact k q _ _ g s
theorem a_cat {as bs : List α} (s : Sat H X L) (i j : Nat) (e : L[i]? = some (lsA p as)) (e2 : L[j]? = some (lsA q bs)) (h : as.length + bs.length ≤ 1000000) (k : ∀ q H' X', Go X H X' H' → Sat H' X' (lsA q (as ++ bs) :: L) → Q (.ref q) H') : uAdd K (.ref p) (.ref q) H Q := by
  obtain ⟨vs, ev, d⟩ := s.ls i e
  obtain ⟨ws, ew, d2⟩ := s.ls j e2
  refine w_cat ev ew (by rw [d.length, d2.length]; exact h) fun l hl => ?_
  obtain ⟨g, s⟩ := s.newL hl (d.append d2)
  exact k l _ _ g s
theorem a_rep {as : List α} (s : Sat H X L) (i : Nat) (e : L[i]? = some (lsA p as)) (h : 0 ≤ n ∧ n ≤ 100000 ∧ as.length ≤ 100) (k : ∀ q H' X', Go X H X' H' → Sat H' X' (lsA q (List.replicate n.toNat as).flatten :: L) → Q (.ref q) H') : uMul (.ref p) (.int n) H Q := by
  obtain ⟨vs, ev, d⟩ := s.ls i e
  refine w_rep ev h.1 h.2.1 (by rw [d.length]; exact h.2.2) fun l hl => ?_
  obtain ⟨g, s⟩ := s.newL hl (d.rep _)
  exact k l _ _ g s
theorem a_bm {T : V → List V → Hp → VK → Prop} {tA : TA} {as : List α} (s : Sat H X L) (i : Nat) (e : L[i]? = some (lsA p as)) (h : tA σ H fun vs H2 => T (.ref p) vs H2 Q) : bmQ K "list" T tA σ (.ref p) H Q := by
  obtain ⟨vs, ev, _⟩ := s.ls i e
  exact w_bmL ev h
theorem a_app {as : List α} {a : α} (s : Sat H X L) (i : Nat) (e : L[i]? = some (lsA p as)) (d : Ft K X.f H v a) (h : as.length < 1000000) (k : ∀ H' X', Go X H X' H' → Sat H' X' (L.set i (lsA p (as ++ [a]))) → Q .non H') : rAppend (.ref p) [v] H Q := by
  obtain ⟨vs, ev, ds⟩ := s.ls i e
  refine w_app ev (Nat.lt_of_lt_of_le (by rw [ds.length]; exact h) (by decide)) ?_
  obtain ⟨g, s⟩ := s.wrL i e (ds.append (FtAll.cons d FtAll.nil))
  exact k _ _ g s
theorem Ft.at_ {X' : Ad} {H' : Hp} {a : α} (s : Sat H X L) (g : Go X H X' H') (h : Ft K X.f H v a) : Ft K X'.f H' v a := h.go g.up (fun b o hb e => g.st b o e (s.ok b hb).1) g.tp
def setI (as : List α) (n : Int) (a : α) : Option (List α) := (ixN as.length n).map fun j => as.set j a
theorem a_setL {as bs : List α} {a : α} {N : Hp → Prop} (s : Sat H X L) (i : Nat) (e : L[i]? = some (lsA p as)) (d : Ft K X.f H v a) (hx : setI as n a = some bs) (k : ∀ H' X', Go X H X' H' → Sat H' X' (L.set i (lsA p bs)) → N H') : uSet (.ref p) (.int n) v H N := by
  obtain ⟨vs, ev, ds⟩ := s.ls i e
  unfold setI at hx
  obtain ⟨j, ej, rfl⟩ := Option.map_eq_some_iff.mp hx
  obtain ⟨g, s⟩ := s.wrL i e (ds.st d j)
  exact .inl ⟨vs, j, ev, by rw [ds.length]; exact ej, k _ _ g s⟩
theorem a_lenR {as : List α} (s : Sat H X L) (i : Nat) (e : L[i]? = some (roA p as)) (k : Q (.int as.length) H) : uLen K [.ref p] H Q := by
  obtain ⟨vs, ev, d⟩ := s.ro i e
  exact w_lenL ev (by rw [d.length]; exact k)
theorem a_list {as : List α} (s : Sat H X L) (i : Nat) (e : L[i]? = some (lsA p as)) (k : ∀ q H' X', Go X H X' H' → Sat H' X' (lsA q as :: L) → Q (.ref q) H') : uList K [.ref p] H Q := by
  obtain ⟨vs, ev, d⟩ := s.ls i e
  refine w_tlist (SqL.of ev) fun l hl => ?_
  obtain ⟨g, s⟩ := s.newL hl d
  exact k l _ _ g s
theorem a_tupL {as : List α} (s : Sat H X L) (i : Nat) (e : L[i]? = some (lsA p as)) (k : ∀ q H' X', Go X H X' H' → Sat H' X' (imA (.ref q) (PySem.W.Tup.mk as) :: L) → Q (.ref q) H') : uTuple K [.ref p] H Q := by
  obtain ⟨vs, ev, d⟩ := s.ls i e
  refine w_ttupL (SqL.of ev) fun l hl => ?_
  have e := same_new (o := .tup vs) hl
  exact k l _ _ (.same e) ((s.same e).imf (Ft.tup (SqT.of upd_same) (d.same e)))
theorem a_ge {t u : PySem.W.Tup Int} (d1 : Dt K H v t) (d2 : Dt K H w u) (k : Q (.bl (lexGe t.items u.items)) H) : uGe K v w H Q := by
  obtain ⟨p, rfl, e1⟩ := Dt.ti_inv (ns := t.items) d1
  obtain ⟨q, rfl, e2⟩ := Dt.ti_inv (ns := u.items) d2
  exact ⟨_, _, e1, e2, k⟩
theorem a_isN [NN α] {o : Option α} (d : Dt K H v o) (k : Q (.bl o.isNone) H) : uIs v .non H Q := w_isN (by rw [d.isNon]; exact k)
theorem a_isntN [NN α] {o : Option α} (d : Dt K H v o) (k : Q (.bl (!o.isNone)) H) : uIsnt v .non H Q := w_isntN (by rw [d.isNon]; exact k)
theorem a_gtp {vs : List V} {m : Nat} {u : TGs} {N : L2.St → Hp → Prop} (s : Sat H X L) (i : Nat) (e : L[i]? = some (tpA v vs)) (h : vs.length = m) (k : u vs σ H N) : gTup K m u v σ H N := by
  obtain ⟨p, rfl, e'⟩ := s.tp i e
  exact ⟨p, _, rfl, e', h, k⟩
variable {D : Ends} {tb : TS} {g : TG}
/-- an item of a list, and the list's length -/
theorem Sat.item {as : List α} {x : α} (s : Sat H X L) (j : Nat) (e : L[j]? = some (lsA p as)) {i : Nat} (hx : as[i]? = some x) : ∃ vs v, SqL K H p vs ∧ vs[i]? = some v ∧ vs.length = as.length ∧ Sat H X (imA v x :: L) := by
  obtain ⟨vs, ev, d⟩ := s.ls j e
  obtain ⟨v, e1, d1⟩ := d.at' hx
  exact ⟨vs, v, SqL.of ev, e1, d.length, s.imf d1⟩
theorem Sat.size {as : List α} (s : Sat H X L) (j : Nat) (e : L[j]? = some (lsA p as)) : ∃ vs, SqL K H p vs ∧ vs.length = as.length := by
  obtain ⟨vs, ev, d⟩ := s.ls j e
  exact ⟨vs, SqL.of ev, d.length⟩
theorem a_forL {as : List α} (Inv : List α → L2.St → Hp → Prop) (h0 : Inv as σ H)
    (hs : ∀ (i : Nat) x r σ H, Inv (x :: r) σ H → as[i]? = some x → ∃ vs v, SqL K H p vs ∧ vs[i]? = some v ∧ vs.length = as.length ∧ g v σ H fun σ2 H2 => tb { D with nx := Inv r, ct := Inv r, bk := D.nx } σ2 H2)
    (hd : ∀ σ H, Inv [] σ H → (∃ vs, SqL K H p vs ∧ vs.length = as.length) ∧ D.nx σ H) : forQ g tb D σ (Itl K p) H := by
  refine ⟨fun i m σ H => m = as.length - i ∧ i ≤ as.length ∧ Inv (as.drop i) σ H, ⟨_, rfl, Nat.zero_le _, h0⟩, fun i m σ H q => ?_⟩
  obtain ⟨rfl, hi, c⟩ := q
  rcases Nat.lt_or_ge i as.length with h | h
  · rw [List.drop_eq_getElem_cons h] at c
    obtain ⟨vs, v, ev, e1, hl, k⟩ := hs i _ _ _ _ c (List.getElem?_eq_getElem h)
    refine .inr ⟨⟨vs, v, ev, e1⟩, Inv (as.drop (i + 1)), fun σ' H' p' => ⟨_, by omega, rfl, h, p'⟩, fun x H' y => ?_⟩
    obtain ⟨rfl, y⟩ := y
    have y := y vs ev
    rw [e1] at y
    cases y
    exact k
  · rw [List.drop_eq_nil_of_le h] at c
    obtain ⟨⟨vs, ev, hl⟩, k⟩ := hd σ H c
    exact .inl ⟨⟨vs, ev, by omega⟩, k⟩
/-- the ints from lo on -/
def rngL (lo : Int) (n : Nat) : List Int := (List.range n).map fun (i : Nat) => lo + (i : Int)
theorem a_forR {lo : Int} {n : Nat} (Inv : List Int → L2.St → Hp → Prop) (h0 : Inv (rngL lo n) σ H)
    (hs : ∀ x r σ H, Inv (x :: r) σ H → g (.int x) σ H fun σ2 H2 => tb { D with nx := Inv r, ct := Inv r, bk := D.nx } σ2 H2) (hd : ∀ σ H, Inv [] σ H → D.nx σ H) : forQ g tb D σ (Itr lo n) H := by
  have ll : (rngL lo n).length = n := by unfold rngL; rw [List.length_map, List.length_range]
  refine f_range (fun i σ H => Inv ((rngL lo n).drop i) σ H) h0 (fun i σ H hi c => ?_) (fun σ H c => ?_)
  · rw [List.drop_eq_getElem_cons (by omega)] at c
    have e : (rngL lo n)[i]'(by omega) = lo + (i : Int) := by
      have z : (rngL lo n)[i]? = some (lo + (i : Int)) := by unfold rngL; rw [List.getElem?_map, List.getElem?_range hi]; rfl
      rw [List.getElem?_eq_getElem (by omega)] at z
      exact Option.some.inj z
    rw [e] at c
    exact hs _ _ σ H c
  · rw [List.drop_eq_nil_of_le (by omega)] at c
    exact hd σ H c
theorem w_tst {c : TT} {QB : Bool → Hp → Prop} (P : Bool → Hp → Prop) (h : ∀ QB' : Bool → Hp → Prop, (∀ b H, P b H → QB' b H) → c σ H QB') (f : ∀ b H, P b H → QB b H) : c σ H QB := h QB f
end steps
end U
namespace U
open PySem PySem.Spec PyProof.Rows L2
namespace M
variable {σ α β γ : Type}
def opt (o : Option α) (n : M σ β) (f : α → M σ β) : M σ β := match o with
  | none => n
  | some a => f a
end M
namespace Wp
variable {σ α β γ δ : Type} {s : σ} {ok : γ → σ → Prop} {er : Ec → σ → Prop}
theorem opt_n {n : M σ γ} {f : α → M σ γ} (h : Wp (M.opt none n f) s ok er) : Wp n s ok er := h
theorem opt_s {n : M σ γ} {f : α → M σ γ} {a : α} (h : Wp (M.opt (some a) n f) s ok er) : Wp (f a) s ok er := h
theorem join {b : (β → M σ γ) → M σ γ} {k : β → M σ γ} (h : Wp (M.join b k) s ok er) : ∃ j, j = k ∧ Wp (b j) s ok er := ⟨_, rfl, h⟩
theorem at_ {g g' : β → M σ γ} {b : β} (h : Wp (g' b) s ok er) (e : g' = g) : Wp (g b) s ok er := e ▸ h
theorem fr {f : α → β → (β → M σ γ) → (β → M σ γ) → M σ γ} {g : β → M σ γ} {xs : List α} {b : β} (h : Wp (M.mFor f g xs b) s ok er) : ∃ f', f' = f ∧ ∃ g', g' = g ∧ Wp (M.mFor f' g' xs b) s ok er := ⟨_, rfl, _, rfl, h⟩
theorem frC {f f' : α → β → (β → M σ γ) → (β → M σ γ) → M σ γ} {g : β → M σ γ} {x : α} {xs : List α} {b : β} (h : Wp (M.mFor f' g (x :: xs) b) s ok er) (e : f' = f) : Wp (f x b (M.mFor f' g xs) g) s ok er := e ▸ h
theorem frN {f : α → β → (β → M σ γ) → (β → M σ γ) → M σ γ} {g g' : β → M σ γ} {b : β} (h : Wp (M.mFor f g' [] b) s ok er) (e : g' = g) : Wp (g b) s ok er := e ▸ h
theorem mp {f : α → (β → M σ γ) → M σ γ → M σ γ} {g : List β → M σ γ} {xs : List α} {acc : List β} (h : Wp (M.mMap f g xs acc) s ok er) : ∃ f', f' = f ∧ ∃ g', g' = g ∧ Wp (M.mMap f' g' xs acc) s ok er := ⟨_, rfl, _, rfl, h⟩
end Wp
section steps2
variable {K : PySem.W.Frag} {H : Hp} {X : Ad} {L : List (Atom K)} {Q : VK} {σ : L2.St} {p q : Addr} {v w : V} {n : Int} {g : TG} {tt : TT} {te : TE} {vs : List Nat}
variable {α β : Type} [DecidableEq α] [PySem.W.Datum α] [DecidableEq β] [PySem.W.Datum β]
theorem a_iList {R : It → Hp → Prop} {as : List α} (s : Sat H X L) (i : Nat) (e : L[i]? = some (lsA p as)) (h : R (Itl K p) H) : listQ K (.ref p) H R := by
  obtain ⟨vs, ev, _⟩ := s.ls i e
  exact w_iListv (SqL.of ev) h
end steps2
end U
namespace U
open PySem PySem.Spec PyProof.Rows L2
theorem ne_t {b : Bool} (h : b = false) : ¬ (b = true) := by rw [h]; exact Bool.false_ne_true
theorem ifNF' {A B : Prop} (h : B) : if (!true) = true then A else B := iteF h
theorem ifNT' {A B : Prop} (h : A) : if (!false) = true then A else B := iteT h
section steps3
variable {K : PySem.W.Frag} {H : Hp} {X : Ad} {L : List (Atom K)} {Q : VK} {σ : L2.St} {p q : Addr} {v w : V} {n : Int} {m : Int}
variable {α β : Type} [DecidableEq α] [PySem.W.Datum α] [DecidableEq β] [PySem.W.Datum β]
theorem Sat.dtL {as : List α} (s : Sat H X L) (i : Nat) (e : L[i]? = some (lsA p as)) : Dt K H (.ref p) as := by
  obtain ⟨vs, ev, d⟩ := s.ls i e
  exact Dt.list (SqL.of ev) d.dt
theorem w_mulU (s : CMul m n ∨ CMulW m n) (h : Q (.int (m * n)) H) : uMul (.int m) (.int n) H Q := ⟨s, h⟩
end steps3
end U
namespace U
open PySem PySem.Spec PyProof.Rows L2
end U
namespace U
open PySem PySem.Spec PyProof.Rows L2
end U
namespace U
open PySem PySem.Spec PyProof.Rows L2
section raw
variable {K : PySem.W.Frag} {H : Hp} {X : Ad} {L : List (Atom K)} {Q : VK} {p : Addr} {v w : V} {n : Int} {vs : List V}
/-- a list by its values -/
def rwA (p : Addr) (vs : List V) : Atom K :=
  ⟨fun H x _ => (∀ b, x b ↔ b = p) ∧ H p = some (.lst vs), false, fun h k _ _ _ => ⟨h.1, k p ((h.1 p).mpr rfl) _ h.2⟩, fun h b q => by
    rw [(h.1 b).mp q, h.2]
    exact (fun z => by cases z), fun z _ => by cases z⟩
theorem Sat.rw {p : Addr} {vs : List V} (s : Sat H X L) (i : Nat) (e : L[i]? = some (rwA p vs)) : H p = some (.lst vs) := by
  obtain ⟨x, q, _⟩ := s.get e
  exact q.2
end raw
end U
namespace U
open PySem PySem.Spec PyProof.Rows L2
end U
namespace U
open PySem PySem.Spec PyProof.Rows L2
def rngB (n : Int) : Bool := decide (-4611686018427387904 ≤ n) && decide (n < 4611686018427387904)
def rngOk (n : Int) : Prop := rngB n = true
instance (n : Int) : Decidable (rngOk n) := inferInstanceAs (Decidable (_ = true))
theorem rngOk.lim {n : Int} (h : rngOk n) : -(2 ^ 62) ≤ n ∧ n < 2 ^ 62 := by
  have h : rngB n = true := h
  unfold rngB at h
  rw [Bool.and_eq_true, decide_eq_true_eq, decide_eq_true_eq] at h
  exact ⟨by omega, by omega⟩
theorem rngOk.of {n : Int} (h1 : -4611686018427387904 ≤ n) (h2 : n < 4611686018427387904) : rngOk n := by
  show rngB n = true
  unfold rngB
  rw [decide_eq_true h1, decide_eq_true h2]
  rfl
section
variable {K : PySem.W.Frag} {H : Hp} {X : Ad} {L : List (Atom K)} {Q : VK} {σ : L2.St} {p : Addr} {te : TE}
theorem a_rng1v {R : It → Hp → Prop} {n : Int} (h : rngOk n) (k : R (Itr 0 n.toNat) H) : rng1Q [.int n] H R := w_rng1v h.lim.1 h.lim.2 k
end
end U
namespace U
open PySem PySem.Spec PyProof.Rows L2
end U
namespace U
open PySem PySem.Spec PyProof.Rows L2
section tk
variable {K : PySem.W.Frag} {H H' : Hp} {X : Ad} {L : List (Atom K)} {Q : VK}
def tkA (v : V) (t : PySem.W.Tup Int) : Atom K :=
  ⟨fun H x _ => (∀ b, ¬ x b) ∧ ∃ p, v = .ref p ∧ H p = some (.tup (t.items.map V.int)), true, fun h _ _ _ u => by
    obtain ⟨hx, p, e, s⟩ := h
    exact ⟨hx, p, e, u _ _ s (.inl ⟨_, rfl⟩)⟩, fun h b q => absurd q (h.1 b), fun _ h => ⟨fun _ q => q, h.2⟩⟩
theorem Sat.tk {v : V} {t : PySem.W.Tup Int} (s : Sat H X L) (i : Nat) (e : L[i]? = some (tkA v t)) : ∃ p, v = .ref p ∧ H p = some (.tup (t.items.map V.int)) := by
  obtain ⟨x, p, _⟩ := s.get e
  exact p.2
end tk
section al
variable {κ α : Type} [DecidableEq κ]
def aHas (m : List (κ × α)) (c : κ) : Bool := m.any fun e => decide (e.1 = c)
def aDrop (m : List (κ × α)) (c : κ) : List (κ × α) := m.filter fun e => decide (e.1 ≠ c)
end al
class DKey (κ : Type) where
  ky : κ → Key
  inj : ∀ a b, ky a = ky b → a = b
instance : DKey Int := ⟨Sum.inl, fun _ _ h => Sum.inl.inj h⟩
instance : DKey Str := ⟨Sum.inr, fun _ _ h => Sum.inr.inj h⟩
section da
variable {K : PySem.W.Frag} {fz fz' : As} {H H' : Hp} {κ κ' α : Type} [DecidableEq κ] [DecidableEq κ'] [DecidableEq α] [PySem.W.Datum α]
def DA (K : PySem.W.Frag) (fz : As) (H : Hp) (f : κ → κ') : List (κ' × V) → List (κ × α) → Prop
  | [], [] => True
  | e :: r, c :: m => e.1 = f c.1 ∧ Ft K fz H e.2 c.2 ∧ DA K fz H f r m
  | _, _ => False
variable {f : κ → κ'}
theorem DA.len : ∀ {kvs : List (κ' × V)} {m : List (κ × α)}, DA K fz H f kvs m → kvs.length = m.length
  | [], [], _ => rfl
  | _ :: _, _ :: _, h => by rw [List.length_cons, List.length_cons, DA.len h.2.2]
theorem DA.go (u : ∀ b, fz b → fz' b) (k : ∀ b o, fz b → H b = some o → H' b = some o) (t : TupS H H') : ∀ {kvs : List (κ' × V)} {m : List (κ × α)}, DA K fz H f kvs m → DA K fz' H' f kvs m
  | [], [], _ => trivial
  | _ :: _, _ :: _, h => ⟨h.1, h.2.1.go u k t, DA.go u k t h.2.2⟩
theorem DA.any (fi : ∀ a b, f a = f b → a = b) (c : κ) : ∀ {kvs : List (κ' × V)} {m : List (κ × α)}, DA K fz H f kvs m → (kvs.any fun kv => decide (kv.1 = f c)) = aHas m c
  | [], [], _ => rfl
  | e :: r, d :: m, h => by
    have ih := DA.any fi c h.2.2
    unfold aHas at ih ⊢
    rw [List.any_cons, List.any_cons, ih, h.1]
    congr 1
    exact decide_eq_decide.mpr ⟨fun q => fi _ _ q, fun q => by rw [q]⟩
theorem DA.map (fi : ∀ a b, f a = f b → a = b) (c : κ) {v : V} {a : α} (d : Ft K fz H v a) : ∀ {kvs : List (κ' × V)} {m : List (κ × α)}, DA K fz H f kvs m → DA K fz H f (kvs.map fun kv => if kv.1 = f c then (kv.1, v) else kv) (m.map fun e => if e.1 = c then (e.1, a) else e)
  | [], [], _ => trivial
  | e :: r, b :: m, h => by
    rw [List.map_cons, List.map_cons]
    refine ⟨?_, ?_, DA.map fi c d h.2.2⟩
    · by_cases q : b.1 = c
      · rw [if_pos q, if_pos (h.1.trans (by rw [q]))]
        exact h.1
      · rw [if_neg q, if_neg (fun z => q (fi _ _ (h.1.symm.trans z)))]
        exact h.1
    · by_cases q : b.1 = c
      · rw [if_pos q, if_pos (h.1.trans (by rw [q]))]
        exact d
      · rw [if_neg q, if_neg (fun z => q (fi _ _ (h.1.symm.trans z)))]
        exact h.2.1
theorem DA.drop (fi : ∀ a b, f a = f b → a = b) (c : κ) : ∀ {kvs : List (κ' × V)} {m : List (κ × α)}, DA K fz H f kvs m → DA K fz H f (dropK kvs (f c)) (aDrop m c)
  | [], [], _ => trivial
  | e :: r, b :: m, h => by
    unfold dropK aDrop
    rw [List.filter_cons, List.filter_cons]
    have ih := DA.drop fi c h.2.2
    unfold dropK aDrop at ih
    by_cases q : b.1 = c
    · rw [if_neg (by simp [h.1, q]), if_neg (by simp [q])]
      exact ih
    · rw [if_pos (by simp only [decide_eq_true_eq]; exact fun z => q (fi _ _ (h.1.symm.trans z))), if_pos (by simp [q])]
      exact ⟨h.1, h.2.1, ih⟩
theorem DA.get (i : Nat) : ∀ {kvs : List (κ' × V)} {m : List (κ × α)}, DA K fz H f kvs m → ∀ {e : κ' × V}, kvs[i]? = some e → ∃ b, m[i]? = some b ∧ e.1 = f b.1 ∧ Ft K fz H e.2 b.2
  | [], [], _, _, h => by cases h
  | e :: r, b :: m, h, e', he => by
    cases i with
    | zero => cases he; exact ⟨b, rfl, h.1, h.2.1⟩
    | succ i => exact DA.get i h.2.2 he
end da
/-- the object that holds a table -/
structure DMk (κ' : Type) where
  ob : List (κ' × V) → HO
  nt : ∀ kvs, ¬ IsTup (ob kvs)
end U
namespace U
open PySem PySem.Spec PyProof.Rows L2
/-- a product that the machine makes -/
def mulOk (m n : Int) : Prop := (-18446744073709551616 < m ∧ m < 18446744073709551616) ∨ (-18446744073709551616 < n ∧ n < 18446744073709551616) ∨ (m.natAbs < 2 ^ 400000 ∧ n.natAbs < 2 ^ 400000)
instance (m n : Int) : Decidable (mulOk m n) := inferInstanceAs (Decidable (_ ∨ _))
theorem mulOk.c {m n : Int} (h : mulOk m n) : CMul m n ∨ CMulW m n := by
  rcases h with h | h | ⟨h1, h2⟩
  · exact .inl (.inl ⟨by have : (2 : Int) ^ 64 = 18446744073709551616 := by decide
                         omega, by have : (2 : Int) ^ 64 = 18446744073709551616 := by decide
                                   omega⟩)
  · exact .inl (.inr ⟨by have : (2 : Int) ^ 64 = 18446744073709551616 := by decide
                         omega, by have : (2 : Int) ^ 64 = 18446744073709551616 := by decide
                                   omega⟩)
  · have lg : ∀ a : Nat, a < 2 ^ 400000 → a.log2 < 400000 := fun a h => by
      by_cases h0 : a = 0
      · rw [h0]; decide
      · exact (Nat.log2_lt h0).mpr h
    exact .inr (by unfold CMulW; have := lg _ h1; have := lg _ h2; omega)
section s4
variable {K : PySem.W.Frag} {H : Hp} {X : Ad} {L : List (Atom K)} {Q : VK} {σ : L2.St} {p : Addr} {v w : V}
variable {α β κ : Type} [DecidableEq α] [PySem.W.Datum α] [DecidableEq β] [PySem.W.Datum β] [DecidableEq κ] [DKey κ]
theorem w_powc {m n r : Int} (s : CPow m n) (e : m ^ n.toNat = r) (h : Q (.int r) H) : uPow (.int m) (.int n) H Q := ⟨s, by rw [e]; exact h⟩
theorem tyx_tup' {p : Addr} {xs : List V} (h : SqT K H p xs) : TyX K H (.ref p) (.type Ob.tuple.nm) := by
  rcases h with (h | ⟨o, h⟩) | ⟨o, its, n, e, c, _⟩
  · exact .base (.tup h)
  · exact .fTuple h
  · exact .kTuple e c
theorem isi_tup {xs : List V} {n : Ty} {b : Bool} (h : SqT K H p xs) (hb : isO n .tuple = b) (k : Q (.bl b) H) : uIsi K n [.ref p, .ty n.nm] H Q := ⟨rfl, .tuple, tyx_tup' h, by rw [hb]; exact k⟩
theorem a_isiV {vs : List V} {n : Ty} {b : Bool} (s : Sat H X L) (i : Nat) (e : L[i]? = some (tpA v vs)) (hb : isO n .tuple = b) (k : Q (.bl b) H) : uIsi K n [v, .ty n.nm] H Q := by
  obtain ⟨p, rfl, e'⟩ := s.tp i e
  exact isi_tup e' hb k
end s4
end U
namespace U
open PySem PySem.Spec PyProof.Rows L2
end U
namespace U
open PySem PySem.Spec PyProof.Rows L2
section
open PySem.W
variable {α β : Type} [DecidableEq α] [Datum α] [DecidableEq β] [Datum β]
def tupD : PyData → Bool
  | .tuple (_ :: _) => true
  | _ => false
def flaD : PyData → Bool
  | .none => false
  | .tuple _ => false
  | _ => true
/-- a list that sorted takes -/
def srtOk (as : List α) : Bool := (as.all fun a => tupD (Datum.toD a)) || as.all fun a => flaD (Datum.toD a)
theorem srtOk.ok {as : List α} (h : srtOk as = true) : Sortable (as.map Datum.toD) := by
  unfold srtOk at h
  rcases Bool.or_eq_true _ _ ▸ h with q | q
  · refine .inl fun d hd => ?_
    obtain ⟨a, ha, rfl⟩ := List.mem_map.mp hd
    have z := List.all_eq_true.mp q a ha
    generalize Datum.toD a = e at z
    unfold tupD at z
    split at z
    · exact ⟨_, _, rfl⟩
    · cases z
  · refine .inr fun d hd => ?_
    obtain ⟨a, ha, rfl⟩ := List.mem_map.mp hd
    have z := List.all_eq_true.mp q a ha
    generalize Datum.toD a = e at z
    refine ⟨fun c => ?_, fun xs c => ?_⟩
    · rw [c] at z; cases z
    · rw [c] at z; cases z
variable {K : PySem.W.Frag} {H : Hp} {X : Ad} {L : List (Atom K)} {Q : VK} {p : Addr} {v : V}
theorem plain_all (as : List α) : PyData.plainAll (as.map Datum.toD) = true := by
  induction as with
  | nil => simp [PyData.plainAll]
  | cons a as ih =>
    show PyData.plainAll (Datum.toD a :: as.map Datum.toD) = true
    rw [PyData.plainAll, Datum.plain, ih]
    rfl
end
end U
namespace U
open PySem PySem.Spec PyProof.Rows L2
section lkd
variable {K : PySem.W.Frag} {H H' : Hp} {X : Ad} {L : List (Atom K)} {Q : VK} {κ κ' α β : Type} [DecidableEq κ] [DecidableEq κ'] [DecidableEq α] [PySem.W.Datum α] [DecidableEq β] [PySem.W.Datum β] {p : Addr} {M M' : DMk κ'} {f : κ → κ'}
/-- the key of a turn -/
theorem DA.at_ {κ' : Type} {fz : As} {f : κ → κ'} (i : Nat) : ∀ {kvs : List (κ' × V)} {m : List (κ × α)}, DA K fz H f kvs m → ∀ {b : κ}, (m.map (·.1))[i]? = some b → ∃ v, kvs[i]? = some (f b, v)
  | [], [], _, _, h => by cases h
  | e :: r, b :: m, h, b', he => by
    cases i with
    | zero =>
      cases he
      exact ⟨e.2, by rw [← h.1]; rfl⟩
    | succ i => exact DA.at_ i h.2.2 he
end lkd
end U
namespace U
open PySem PySem.Spec PyProof.Rows L2
namespace M
variable {σ α γ : Type}
def tryB (m : M σ α) (p : Ec → Bool) (h : M σ γ) (f : α → M σ γ) : M σ γ := fun s => match m s with
  | (.ok a, s') => f a s'
  | (.err e, s') => if p e = true then h s' else (.err e, s')
  | (.div, s') => (.div, s')
end M
theorem Wp.tryB_iff {σ α γ : Type} {m : M σ α} {p : Ec → Bool} {h : M σ γ} {f : α → M σ γ} {s : σ} {ok : γ → σ → Prop} {er : Ec → σ → Prop} :
    Wp (M.tryB m p h f) s ok er ↔ Wp m s (fun a s' => Wp (f a) s' ok er) (fun e s' => if p e = true then Wp h s' ok er else er e s') := by
  have key : WpP (M.tryB m p h f) s ok er ↔ WpP m s (fun a s' => Wp (f a) s' ok er) (fun e s' => if p e = true then Wp h s' ok er else er e s') := by
    unfold WpP M.tryB
    rcases m s with ⟨r, s'⟩
    cases r with
    | ok a => exact ⟨fun q => ⟨q⟩, fun q => q.p⟩
    | err e =>
      dsimp only
      by_cases q : p e = true
      · rw [if_pos q, if_pos q]; exact ⟨fun q => ⟨q⟩, fun q => q.p⟩
      · rw [if_neg q, if_neg q]
    | div => exact Iff.rfl
  exact ⟨fun q => ⟨key.mp q.p⟩, fun q => ⟨key.mpr q.p⟩⟩
theorem Wp.tryB {σ α γ : Type} {m : M σ α} {p : Ec → Bool} {h : M σ γ} {f : α → M σ γ} {s : σ} {ok : γ → σ → Prop} {er : Ec → σ → Prop} (k : Wp (M.tryB m p h f) s ok er) : Wp m s (fun a s' => Wp (f a) s' ok er) (fun e s' => if p e = true then Wp h s' ok er else er e s') := Wp.tryB_iff.mp k
theorem catchT {c : Bool} {P Q : Prop} (hc : c = true) (k : if c = true then P else Q) : P := by rwa [if_pos hc] at k
theorem catchF {c : Bool} {P Q : Prop} (hc : c = false) (k : if c = true then P else Q) : Q := by rwa [if_neg (by rw [hc]; exact Bool.false_ne_true)] at k
/-- isinstance(e, T), T a builtin class -/
def uIsB (K : PySem.W.Frag) (a : Addr) (cls : Value) (d : Option Addr) (T : String) : List V → Hp → VK → Prop := fun xs H Q => ∃ (D : Addr) (b : Bool), cls = .ref D ∧ d = none ∧ ExcC K D ∧ xs = [.ref a, .ty T] ∧ PySem.W.kitOne K (.ref D) (.type T) = some b ∧ Q (.bl b) H
theorem c_isB {X : Cx} {T : String} {a : Addr} {oe : Obj} {cls : Value} {d : Option Addr} {pn : List (Addr × Obj)} (hz : Zc cls d oe) (hf : ∃ vs, oe.data = .fields vs) : CallR (X.suite a ((a, oe) :: pn)) (.builtin "isinstance") (uIsB X.K a cls d T) := by
  intro pins s σ H xs us Q I r h
  obtain ⟨D, b, rfl, rfl, x, rfl, e, q⟩ := h
  exact call_isE x hz hf pins s σ H _ us Q I r ⟨.ty T, .type T, b, rfl, fun u h => h, e, q⟩
theorem w_isB {K : PySem.W.Frag} {H : Hp} {Q : VK} {T : String} {a D : Addr} {b : Bool} (x : ExcC K D) (e : PySem.W.kitOne K (.ref D) (.type T) = some b) (h : Q (.bl b) H) : uIsB K a (.ref D) none T [.ref a, .ty T] H Q := ⟨D, b, rfl, rfl, x, rfl, e, h⟩
theorem kit_ty {K : PySem.W.Frag} {R : Addr} {T : String} {b : Bool} (hm : PySem.W.kitMeta T = true) (h : PySem.W.subIn K (.ref R) (.type T) = some b) : PySem.W.kitOne K (.ref R) (.type T) = some b := by
  have n : (Value.ref R == Value.type T) = false := rfl
  unfold PySem.W.kitOne
  rw [if_neg (by rw [n]; exact Bool.false_ne_true)]
  show (if PySem.W.kitMeta T = true then PySem.W.subIn K (.ref R) (.type T) else none) = some b
  rw [if_pos hm]
  exact h
section
variable {K : PySem.W.Frag} {H : Hp} {X : Ad} {L : List (Atom K)} {α : Type} [DecidableEq α] [PySem.W.Datum α]
/-- a tuple of a number and a list, as data -/
theorem Sat.dtNd {v : V} {k : Int} {l : Addr} {as : List α} (s : Sat H X L) (i j : Nat) (e1 : L[i]? = some (tpA v [.int k, .ref l])) (e2 : L[j]? = some (lsA l as)) : Dt K H v ((k, as) : Int × List α) := by
  obtain ⟨p, rfl, e⟩ := s.tp i e1
  exact Dt.pair e Dt.int (s.dtL j e2)
end
end U
namespace Lam
open PySem PySem.Spec L2 U
local macro_rules | `(tactic| walk_at "te") => `(tactic| fail "no fact")
local macro_rules | `(tactic| walk_at "kt") => `(tactic| fail "no fact")
local macro_rules | `(tactic| walk_at "xc") => `(tactic| fail "no fact")
local macro_rules | `(tactic| walk_at "x") => `(tactic| fail "no step")
local macro_rules | `(tactic| walk_at "hk") => `(tactic| first
  | assumption | exact upd_same | exact SqL.of upd_same | exact SqT.of upd_same
  | (apply sql_old; (· walk_at "hk"); (· assumption)) | (apply upd_old; (· walk_at "hk"); (· assumption)) | (apply sqt_old; (· walk_at "hk"); (· assumption))
  | exact L2.Same.seq (by assumption) (by assumption) | exact U.Same.sqt (by assumption) (by assumption) | exact (by assumption : L2.Same _ _) _ _ (by assumption)
  | (apply SqL.of; walk_at "hk") | (apply SqT.of; walk_at "hk"))
local macro_rules | `(tactic| walk_at "nn") => `(tactic| first | assumption | exact L2.Same.free (by assumption) (by assumption) | exact (none_of_upd (by assumption)).1)
local macro_rules | `(tactic| walk_at "sm") => `(tactic| first | assumption | exact L2.Same.refl _ | (apply same_updN; (· walk_at "sm"); (· assumption)) | (apply same_upd; (· walk_at "sm"); (· walk_at "nn")) | exact L2.Same.trans (by assumption) (by assumption))
local macro_rules | `(tactic| walk_at "s") => `(tactic| first
    | with_reducible refine w_seq ?_
    | with_reducible refine w_op ?_
    | with_reducible refine w_asg ?_
    | with_reducible refine w_name ?_
    | with_reducible refine w_c ?_
    | with_reducible refine w_if ?_
    | with_reducible refine w_test ?_
    | with_reducible refine w_blP ?_
    | with_reducible refine w_cons ?_
    | with_reducible refine w_nil ?_
    | with_reducible refine w_ret ?_
    | with_reducible refine w_call ?_
    | ((with_reducible refine' w_var ?e ?_); (case e => rfl))
    | ((with_reducible refine ifST ?h ?_); (case h => decide +kernel))
    | ((with_reducible refine ifSF ?h ?_); (case h => decide +kernel))
    | ((with_reducible refine ifSNT ?h ?_); (case h => decide +kernel))
    | ((with_reducible refine ifSNF ?h ?_); (case h => decide +kernel))
    | with_reducible refine iteT ?_
    | with_reducible refine iteF ?_
    | with_reducible refine ifNT ?_
    | with_reducible refine ifNF ?_
    | (((with_reducible show @ite Prop (_ = true) _ _ _); refine @ifP _ _ _ _ ?_ ?_) <;> intro h <;> first | (with_reducible exact absurd rfl h) | skip)
    | (((with_reducible show @ite Prop (_ = true) _ _ _); refine @ifN _ _ _ _ ?_ ?_) <;> intro h <;> first | (with_reducible exact absurd rfl h) | skip)
    | with_reducible refine w_eqX ?_
    | with_reducible refine w_neX ?_
    | with_reducible refine w_add ?_
    | with_reducible refine w_sub ?_
    | with_reducible refine w_eqI ?_
    | with_reducible refine w_neI ?_
    | with_reducible refine w_lt ?_
    | with_reducible refine w_le ?_
    | with_reducible refine w_gt ?_
    | with_reducible refine w_ge ?_
    | with_reducible refine w_eqS ?_
    | with_reducible refine w_eqB ?_
    | with_reducible refine w_neS ?_
    | with_reducible refine w_neB ?_
    | with_reducible refine w_cb ?_
    | with_reducible refine w_tup ?_
    | with_reducible refine w_lst ?_
    | with_reducible refine w_next ?_
    | with_reducible refine w_drop ?_
    | with_reducible refine w_not ?_
    | with_reducible refine w_tru ?_
    | with_reducible refine w_and ?_
    | with_reducible refine w_or ?_
    | with_reducible refine w_andV ?_
    | with_reducible refine w_orV ?_
    | with_reducible refine w_notV ?_
    | with_reducible refine w_ifE ?_
    | with_reducible refine w_chain ?_
    | with_reducible refine w_retN ?_
    | with_reducible refine w_bm ?_
    | with_reducible refine w_raise ?_
    | with_reducible refine w_fld ?_
    | with_reducible refine w_meth ?_
    | with_reducible refine w_setf ?_
    | with_reducible refine w_for ?_
    | with_reducible refine w_rng1 ?_
    | with_reducible refine w_rng2 ?_
    | with_reducible refine w_iList ?_
    | with_reducible refine w_iTup ?_
    | with_reducible refine w_iStr ?_
    | with_reducible refine w_iRev ?_
    | with_reducible refine w_brk ?_
    | with_reducible refine w_cont ?_
    | with_reducible refine w_un ?_
    | with_reducible refine w_lc ?_
    | with_reducible refine w_yes ?_
    | with_reducible refine w_gsub ?_
    | with_reducible refine w_sl ?_
    | with_reducible refine w_part ?_
    | with_reducible refine w_noPart ?_
    | with_reducible refine w_wh ?_
    | with_reducible refine w_tryAs ?_
    | with_reducible refine w_try ?_
    | with_reducible refine w_make ?_
    | with_reducible refine w_dget ?_
    | with_reducible refine w_dput ?_
    | with_reducible refine w_gcons ?_
    | with_reducible refine w_gnil ?_
    | with_reducible refine w_augf ?_
    | with_reducible refine w_iEnum ?_
    | with_reducible refine w_iZip ?_
    | with_reducible refine w_iKeys ?_
    | with_reducible refine w_dget2 ?_
    | with_reducible refine w_dget1 ?_
    | with_reducible refine w_dpop1 ?_
    | with_reducible refine w_ddel ?_
    | with_reducible refine w_callX ?_
    | with_reducible refine w_augS ?_
    | with_reducible refine w_augSQ ?_
    | ((with_reducible refine' w_aug ?e ?_); (case e => rfl))
    | ((with_reducible refine w_mul ?s ?_); (case s => first | exact Or.inr ⟨by omega, by omega⟩ | exact Or.inl ⟨by omega, by omega⟩))
    | ((with_reducible refine w_div ?s ?_); (case s => omega))
    | ((with_reducible refine w_mod ?s ?_); (case s => first | omega | decide))
    | ((with_reducible refine w_pow ?s ?_); (case s => first | exact ⟨by decide, by decide, by decide⟩ | exact ⟨by decide, by decide, by omega⟩))
    | ((with_reducible refine w_newL ?s ?_); (case s => (first | exact (by decide) | (simp only [List.length_cons, List.length_nil]; omega))); intro _ _)
    | ((with_reducible refine w_newT ?s ?_); (case s => (first | exact (by decide) | (simp only [List.length_cons, List.length_nil]; omega))); intro _ _)
    | with_reducible refine w_eqX ?_
    | with_reducible refine w_neX ?_
    | with_reducible refine w_findX ?_
    | with_reducible refine w_countX ?_
    | ((with_reducible refine w_lenX ?s ?_); (case s => (first | omega | (simp only [List.length_append, List.length_cons, List.length_nil, List.length_take, List.length_drop, List.length_replicate, List.length_map, List.length_range] at *; omega) | (simp only [List.length_append, List.length_cons, List.length_nil, List.length_take, List.length_drop, List.length_replicate, List.length_map, List.length_range]; omega) | decide)))
    | ((with_reducible refine w_truX ?s ?_); (case s => (first | omega | (simp only [List.length_append, List.length_cons, List.length_nil, List.length_take, List.length_drop, List.length_replicate, List.length_map, List.length_range] at *; omega) | (simp only [List.length_append, List.length_cons, List.length_nil, List.length_take, List.length_drop, List.length_replicate, List.length_map, List.length_range]; omega) | decide)))
    | ((with_reducible refine w_addX ?s ?_); (case s => (first | omega | (simp only [List.length_append, List.length_cons, List.length_nil, List.length_take, List.length_drop, List.length_replicate, List.length_map, List.length_range] at *; omega) | (simp only [List.length_append, List.length_cons, List.length_nil, List.length_take, List.length_drop, List.length_replicate, List.length_map, List.length_range]; omega) | decide)))
    | ((with_reducible refine w_mulX ?h0 ?h1 ?_); (case h0 => (first | omega | (simp only [List.length_append, List.length_cons, List.length_nil, List.length_take, List.length_drop, List.length_replicate, List.length_map, List.length_range] at *; omega) | (simp only [List.length_append, List.length_cons, List.length_nil, List.length_take, List.length_drop, List.length_replicate, List.length_map, List.length_range]; omega) | decide)); (case h1 => (first | omega | (simp only [List.length_append, List.length_cons, List.length_nil, List.length_take, List.length_drop, List.length_replicate, List.length_map, List.length_range] at *; omega) | (simp only [List.length_append, List.length_cons, List.length_nil, List.length_take, List.length_drop, List.length_replicate, List.length_map, List.length_range]; omega) | decide)))
    | ((with_reducible refine w_tkX ?s ?h0 ?_); (case s => (first | omega | (simp only [List.length_append, List.length_cons, List.length_nil, List.length_take, List.length_drop, List.length_replicate, List.length_map, List.length_range] at *; omega) | (simp only [List.length_append, List.length_cons, List.length_nil, List.length_take, List.length_drop, List.length_replicate, List.length_map, List.length_range]; omega) | decide)); (case h0 => (first | omega | (simp only [List.length_append, List.length_cons, List.length_nil, List.length_take, List.length_drop, List.length_replicate, List.length_map, List.length_range] at *; omega) | (simp only [List.length_append, List.length_cons, List.length_nil, List.length_take, List.length_drop, List.length_replicate, List.length_map, List.length_range]; omega) | decide)))
    | ((with_reducible refine w_dpX ?s ?h0 ?_); (case s => (first | omega | (simp only [List.length_append, List.length_cons, List.length_nil, List.length_take, List.length_drop, List.length_replicate, List.length_map, List.length_range] at *; omega) | (simp only [List.length_append, List.length_cons, List.length_nil, List.length_take, List.length_drop, List.length_replicate, List.length_map, List.length_range]; omega) | decide)); (case h0 => (first | omega | (simp only [List.length_append, List.length_cons, List.length_nil, List.length_take, List.length_drop, List.length_replicate, List.length_map, List.length_range] at *; omega) | (simp only [List.length_append, List.length_cons, List.length_nil, List.length_take, List.length_drop, List.length_replicate, List.length_map, List.length_range]; omega) | decide)))
    | ((with_reducible refine w_ixX ?s ?h0 ?_); (case s => (first | omega | (simp only [List.length_append, List.length_cons, List.length_nil, List.length_take, List.length_drop, List.length_replicate, List.length_map, List.length_range] at *; omega) | (simp only [List.length_append, List.length_cons, List.length_nil, List.length_take, List.length_drop, List.length_replicate, List.length_map, List.length_range]; omega) | decide)); (case h0 => (first | omega | (simp only [List.length_append, List.length_cons, List.length_nil, List.length_take, List.length_drop, List.length_replicate, List.length_map, List.length_range] at *; omega) | (simp only [List.length_append, List.length_cons, List.length_nil, List.length_take, List.length_drop, List.length_replicate, List.length_map, List.length_range]; omega) | decide)))
    | with_reducible refine w_max ?_
    | with_reducible refine w_min ?_
    | with_reducible refine w_eqNI ?_
    | with_reducible refine w_neNI ?_
    | with_reducible refine w_eqIN ?_
    | with_reducible refine w_neIN ?_
    | with_reducible refine w_neNN ?_
    | with_reducible refine w_eqNN ?_
    | with_reducible refine w_abs ?_
    | with_reducible refine w_intI ?_
    | with_reducible refine w_intB ?_
    | with_reducible refine w_ipI ?_
    | with_reducible refine w_bmS ?_
    | with_reducible refine w_iStrv ?_
    | with_reducible refine w_neg ?_
    | with_reducible refine w_partI ?_
    | with_reducible refine w_truB ?_
    | with_reducible refine w_truN ?_
    | with_reducible refine w_truI ?_
    | with_reducible refine w_isi_int_int ?_
    | with_reducible refine w_isi_int_bl ?_
    | with_reducible refine w_isi_int_str ?_
    | with_reducible refine w_isi_int_non ?_
    | with_reducible refine w_isi_bool_int ?_
    | with_reducible refine w_isi_bool_bl ?_
    | with_reducible refine w_isi_bool_str ?_
    | with_reducible refine w_isi_bool_non ?_
    | with_reducible refine w_isi_str_int ?_
    | with_reducible refine w_isi_str_bl ?_
    | with_reducible refine w_isi_str_str ?_
    | with_reducible refine w_isi_str_non ?_
    | with_reducible refine w_isi_list_int ?_
    | with_reducible refine w_isi_list_bl ?_
    | with_reducible refine w_isi_list_str ?_
    | with_reducible refine w_isi_list_non ?_
    | with_reducible refine w_isi_tuple_int ?_
    | with_reducible refine w_isi_tuple_bl ?_
    | with_reducible refine w_isi_tuple_str ?_
    | with_reducible refine w_isi_tuple_non ?_
    | with_reducible refine w_is_int ?_
    | with_reducible refine w_isnt_int ?_
    | with_reducible refine w_is_bl ?_
    | with_reducible refine w_isnt_bl ?_
    | with_reducible refine w_is_str ?_
    | with_reducible refine w_isnt_str ?_
    | with_reducible refine w_is_non ?_
    | with_reducible refine w_isnt_non ?_
    | with_reducible refine w_is_ref ?_
    | with_reducible refine w_isnt_ref ?_
    | ((with_reducible refine w_asT ?e ?_); (case e => walk_at "te"); intro _ _)
    | ((with_reducible refine w_onT ?e ?_); (case e => walk_at "te"); intro _ _)
    | ((with_reducible refine w_asF ?e ?_); (case e => walk_at "te"))
    | ((with_reducible refine w_onF ?e ?_); (case e => walk_at "te"))
    | ((with_reducible apply w_isE); (· walk_at "xc"); (· walk_at "kt"))
    | ((with_reducible apply w_lenL); (· walk_at "hk"))
    | ((with_reducible apply w_lenT); (· walk_at "hk"))
    | ((with_reducible apply w_bmL); (· walk_at "hk"))
    | ((with_reducible refine w_rng1v ?h1 ?h2 ?_); (case h1 => (first | omega | (simp only [List.length_map] at *; omega))); (case h2 => (first | omega | (simp only [List.length_map] at *; omega))))
    | ((with_reducible refine w_rng2v ?h1 ?_); (case h1 => (first | omega | (simp only [List.length_map] at *; omega))))
    | ((with_reducible apply w_ixI); (· walk_at "hk"); (· (first | omega | (simp only [List.length_map] at *; omega))))
    | ((with_reducible apply w_ixTI); (· walk_at "hk"); (· (first | omega | (simp only [List.length_map] at *; omega))))
    | ((with_reducible apply w_ixBl); (· walk_at "hk"); (· (first | omega | (simp only [List.length_map] at *; omega))))
    | ((with_reducible apply w_getI2); (· walk_at "hk"); (· (first | omega | (simp only [List.length_map] at *; omega))))
    | ((with_reducible apply w_ixTl); (· walk_at "hk"); (· rfl); (· decide))
    | ((with_reducible apply w_ixLl); (· walk_at "hk"); (· rfl); (· decide))
    | ((with_reducible apply w_appI); (· walk_at "hk"); (· (first | omega | (simp only [List.length_append, List.length_cons, List.length_nil]; omega))))
    | ((with_reducible apply w_iListv); (· walk_at "hk"))
    | ((with_reducible apply w_iTupv); (· walk_at "hk"))
    | ((with_reducible apply w_iRevv); (· walk_at "hk"))
    | ((with_reducible apply w_iEnumv); (· walk_at "hk"))
    | ((with_reducible apply w_iZipv); (· walk_at "hk"); (· walk_at "hk"))
    | ((with_reducible apply w_dget2v); (· walk_at "hk"))
    | ((with_reducible apply w_dget1v); (· walk_at "hk"))
    | ((with_reducible apply w_dpop1v); (· walk_at "hk"))
    | ((with_reducible apply w_getI); (· walk_at "hk"))
    | ((with_reducible apply w_inD); (· walk_at "hk"))
    | ((with_reducible apply w_ninD); (· walk_at "hk"))
    | ((with_reducible apply w_rep1); (· walk_at "hk"); (· (first | omega | (simp only [List.length_append, List.length_cons, List.length_nil, List.length_take, List.length_drop, List.length_replicate, List.length_map, List.length_range] at *; omega) | (simp only [List.length_append, List.length_cons, List.length_nil, List.length_take, List.length_drop, List.length_replicate, List.length_map, List.length_range]; omega) | decide)); (· (first | omega | (simp only [List.length_append, List.length_cons, List.length_nil, List.length_take, List.length_drop, List.length_replicate, List.length_map, List.length_range] at *; omega) | (simp only [List.length_append, List.length_cons, List.length_nil, List.length_take, List.length_drop, List.length_replicate, List.length_map, List.length_range]; omega) | decide)); intro _ _)
    | ((with_reducible apply w_gtup2); (· walk_at "hk"))
    | ((with_reducible apply w_gtup3); (· walk_at "hk"))
    | ((with_reducible apply w_gtup4); (· walk_at "hk"))
    | ((with_reducible refine w_newD ?_); intro _ _)
    | ((with_reducible apply w_augsub); (· walk_at "hk"); (· rfl); (· exact Nat.le_of_ble_eq_true rfl))
    | ((with_reducible apply w_augadd); (· walk_at "hk"); (· rfl); (· exact Nat.le_of_ble_eq_true rfl))
    | ((with_reducible apply w_fldv); (· walk_at "hk"); (· rfl))
    | ((with_reducible apply w_methv); (· walk_at "hk"); (· rfl))
    | ((with_reducible apply w_setfv); (· walk_at "hk"); (· exact Nat.le_of_ble_eq_true rfl); (· rfl))
    | walk_at "x")
local macro_rules | `(tactic| walk_at "run1") => `(tactic| repeat (first
    | with_reducible refine w_seq ?_
    | with_reducible refine w_op ?_
    | with_reducible refine w_asg ?_
    | with_reducible refine w_name ?_
    | with_reducible refine w_c ?_
    | with_reducible refine w_if ?_
    | with_reducible refine w_test ?_
    | with_reducible refine w_blP ?_
    | with_reducible refine w_cons ?_
    | with_reducible refine w_nil ?_
    | with_reducible refine w_ret ?_
    | with_reducible refine w_call ?_
    | ((with_reducible refine' w_var ?e ?_); (case e => rfl))
    | ((with_reducible refine ifST ?h ?_); (case h => decide +kernel))
    | ((with_reducible refine ifSF ?h ?_); (case h => decide +kernel))
    | ((with_reducible refine ifSNT ?h ?_); (case h => decide +kernel))
    | ((with_reducible refine ifSNF ?h ?_); (case h => decide +kernel))
    | with_reducible refine iteT ?_
    | with_reducible refine iteF ?_
    | with_reducible refine ifNT ?_
    | with_reducible refine ifNF ?_
    | (((with_reducible show @ite Prop (_ = true) _ _ _); refine @ifP _ _ _ _ ?_ ?_) <;> intro h <;> first | (with_reducible exact absurd rfl h) | skip)
    | (((with_reducible show @ite Prop (_ = true) _ _ _); refine @ifN _ _ _ _ ?_ ?_) <;> intro h <;> first | (with_reducible exact absurd rfl h) | skip)
    | with_reducible refine w_eqX ?_
    | with_reducible refine w_neX ?_
    | with_reducible refine w_add ?_
    | with_reducible refine w_sub ?_
    | with_reducible refine w_eqI ?_
    | with_reducible refine w_neI ?_
    | with_reducible refine w_lt ?_
    | with_reducible refine w_le ?_
    | with_reducible refine w_gt ?_
    | with_reducible refine w_ge ?_
    | with_reducible refine w_eqS ?_
    | with_reducible refine w_eqB ?_
    | with_reducible refine w_neS ?_
    | with_reducible refine w_neB ?_
    | with_reducible refine w_cb ?_
    | with_reducible refine w_tup ?_
    | with_reducible refine w_lst ?_
    | with_reducible refine w_next ?_
    | with_reducible refine w_drop ?_
    | with_reducible refine w_not ?_
    | with_reducible refine w_tru ?_
    | with_reducible refine w_and ?_
    | with_reducible refine w_or ?_
    | with_reducible refine w_andV ?_
    | with_reducible refine w_orV ?_
    | with_reducible refine w_notV ?_
    | with_reducible refine w_ifE ?_
    | with_reducible refine w_chain ?_
    | with_reducible refine w_retN ?_
    | with_reducible refine w_bm ?_
    | with_reducible refine w_raise ?_
    | with_reducible refine w_fld ?_
    | with_reducible refine w_meth ?_
    | with_reducible refine w_setf ?_
    | with_reducible refine w_for ?_
    | with_reducible refine w_rng1 ?_
    | with_reducible refine w_rng2 ?_
    | with_reducible refine w_iList ?_
    | with_reducible refine w_iTup ?_
    | with_reducible refine w_iStr ?_
    | with_reducible refine w_iRev ?_
    | with_reducible refine w_brk ?_
    | with_reducible refine w_cont ?_
    | with_reducible refine w_un ?_
    | with_reducible refine w_lc ?_
    | with_reducible refine w_yes ?_
    | with_reducible refine w_gsub ?_
    | with_reducible refine w_sl ?_
    | with_reducible refine w_part ?_
    | with_reducible refine w_noPart ?_
    | with_reducible refine w_wh ?_
    | with_reducible refine w_tryAs ?_
    | with_reducible refine w_try ?_
    | with_reducible refine w_make ?_
    | with_reducible refine w_dget ?_
    | with_reducible refine w_dput ?_
    | with_reducible refine w_gcons ?_
    | with_reducible refine w_gnil ?_
    | with_reducible refine w_augf ?_
    | with_reducible refine w_iEnum ?_
    | with_reducible refine w_iZip ?_
    | with_reducible refine w_iKeys ?_
    | with_reducible refine w_dget2 ?_
    | with_reducible refine w_dget1 ?_
    | with_reducible refine w_dpop1 ?_
    | with_reducible refine w_ddel ?_
    | with_reducible refine w_callX ?_
    | with_reducible refine w_augS ?_
    | with_reducible refine w_augSQ ?_
    | ((with_reducible refine' w_aug ?e ?_); (case e => rfl))
    | ((with_reducible refine w_mul ?s ?_); (case s => first | exact Or.inr ⟨by omega, by omega⟩ | exact Or.inl ⟨by omega, by omega⟩))
    | ((with_reducible refine w_div ?s ?_); (case s => omega))
    | ((with_reducible refine w_mod ?s ?_); (case s => first | omega | decide))
    | ((with_reducible refine w_pow ?s ?_); (case s => first | exact ⟨by decide, by decide, by decide⟩ | exact ⟨by decide, by decide, by omega⟩))
    | ((with_reducible refine w_newL ?s ?_); (case s => (first | exact (by decide) | (simp only [List.length_cons, List.length_nil]; omega))); intro _ _)
    | ((with_reducible refine w_newT ?s ?_); (case s => (first | exact (by decide) | (simp only [List.length_cons, List.length_nil]; omega))); intro _ _)
    | with_reducible refine w_eqX ?_
    | with_reducible refine w_neX ?_
    | with_reducible refine w_findX ?_
    | with_reducible refine w_countX ?_
    | ((with_reducible refine w_lenX ?s ?_); (case s => (first | omega | (simp only [List.length_append, List.length_cons, List.length_nil, List.length_take, List.length_drop, List.length_replicate, List.length_map, List.length_range] at *; omega) | (simp only [List.length_append, List.length_cons, List.length_nil, List.length_take, List.length_drop, List.length_replicate, List.length_map, List.length_range]; omega) | decide)))
    | ((with_reducible refine w_truX ?s ?_); (case s => (first | omega | (simp only [List.length_append, List.length_cons, List.length_nil, List.length_take, List.length_drop, List.length_replicate, List.length_map, List.length_range] at *; omega) | (simp only [List.length_append, List.length_cons, List.length_nil, List.length_take, List.length_drop, List.length_replicate, List.length_map, List.length_range]; omega) | decide)))
    | ((with_reducible refine w_addX ?s ?_); (case s => (first | omega | (simp only [List.length_append, List.length_cons, List.length_nil, List.length_take, List.length_drop, List.length_replicate, List.length_map, List.length_range] at *; omega) | (simp only [List.length_append, List.length_cons, List.length_nil, List.length_take, List.length_drop, List.length_replicate, List.length_map, List.length_range]; omega) | decide)))
    | ((with_reducible refine w_mulX ?h0 ?h1 ?_); (case h0 => (first | omega | (simp only [List.length_append, List.length_cons, List.length_nil, List.length_take, List.length_drop, List.length_replicate, List.length_map, List.length_range] at *; omega) | (simp only [List.length_append, List.length_cons, List.length_nil, List.length_take, List.length_drop, List.length_replicate, List.length_map, List.length_range]; omega) | decide)); (case h1 => (first | omega | (simp only [List.length_append, List.length_cons, List.length_nil, List.length_take, List.length_drop, List.length_replicate, List.length_map, List.length_range] at *; omega) | (simp only [List.length_append, List.length_cons, List.length_nil, List.length_take, List.length_drop, List.length_replicate, List.length_map, List.length_range]; omega) | decide)))
    | ((with_reducible refine w_tkX ?s ?h0 ?_); (case s => (first | omega | (simp only [List.length_append, List.length_cons, List.length_nil, List.length_take, List.length_drop, List.length_replicate, List.length_map, List.length_range] at *; omega) | (simp only [List.length_append, List.length_cons, List.length_nil, List.length_take, List.length_drop, List.length_replicate, List.length_map, List.length_range]; omega) | decide)); (case h0 => (first | omega | (simp only [List.length_append, List.length_cons, List.length_nil, List.length_take, List.length_drop, List.length_replicate, List.length_map, List.length_range] at *; omega) | (simp only [List.length_append, List.length_cons, List.length_nil, List.length_take, List.length_drop, List.length_replicate, List.length_map, List.length_range]; omega) | decide)))
    | ((with_reducible refine w_dpX ?s ?h0 ?_); (case s => (first | omega | (simp only [List.length_append, List.length_cons, List.length_nil, List.length_take, List.length_drop, List.length_replicate, List.length_map, List.length_range] at *; omega) | (simp only [List.length_append, List.length_cons, List.length_nil, List.length_take, List.length_drop, List.length_replicate, List.length_map, List.length_range]; omega) | decide)); (case h0 => (first | omega | (simp only [List.length_append, List.length_cons, List.length_nil, List.length_take, List.length_drop, List.length_replicate, List.length_map, List.length_range] at *; omega) | (simp only [List.length_append, List.length_cons, List.length_nil, List.length_take, List.length_drop, List.length_replicate, List.length_map, List.length_range]; omega) | decide)))
    | ((with_reducible refine w_ixX ?s ?h0 ?_); (case s => (first | omega | (simp only [List.length_append, List.length_cons, List.length_nil, List.length_take, List.length_drop, List.length_replicate, List.length_map, List.length_range] at *; omega) | (simp only [List.length_append, List.length_cons, List.length_nil, List.length_take, List.length_drop, List.length_replicate, List.length_map, List.length_range]; omega) | decide)); (case h0 => (first | omega | (simp only [List.length_append, List.length_cons, List.length_nil, List.length_take, List.length_drop, List.length_replicate, List.length_map, List.length_range] at *; omega) | (simp only [List.length_append, List.length_cons, List.length_nil, List.length_take, List.length_drop, List.length_replicate, List.length_map, List.length_range]; omega) | decide)))
    | with_reducible refine w_max ?_
    | with_reducible refine w_min ?_
    | with_reducible refine w_eqNI ?_
    | with_reducible refine w_neNI ?_
    | with_reducible refine w_eqIN ?_
    | with_reducible refine w_neIN ?_
    | with_reducible refine w_neNN ?_
    | with_reducible refine w_eqNN ?_
    | with_reducible refine w_abs ?_
    | with_reducible refine w_intI ?_
    | with_reducible refine w_intB ?_
    | with_reducible refine w_ipI ?_
    | with_reducible refine w_bmS ?_
    | with_reducible refine w_iStrv ?_
    | with_reducible refine w_neg ?_
    | with_reducible refine w_partI ?_
    | with_reducible refine w_truB ?_
    | with_reducible refine w_truN ?_
    | with_reducible refine w_truI ?_
    | with_reducible refine w_isi_int_int ?_
    | with_reducible refine w_isi_int_bl ?_
    | with_reducible refine w_isi_int_str ?_
    | with_reducible refine w_isi_int_non ?_
    | with_reducible refine w_isi_bool_int ?_
    | with_reducible refine w_isi_bool_bl ?_
    | with_reducible refine w_isi_bool_str ?_
    | with_reducible refine w_isi_bool_non ?_
    | with_reducible refine w_isi_str_int ?_
    | with_reducible refine w_isi_str_bl ?_
    | with_reducible refine w_isi_str_str ?_
    | with_reducible refine w_isi_str_non ?_
    | with_reducible refine w_isi_list_int ?_
    | with_reducible refine w_isi_list_bl ?_
    | with_reducible refine w_isi_list_str ?_
    | with_reducible refine w_isi_list_non ?_
    | with_reducible refine w_isi_tuple_int ?_
    | with_reducible refine w_isi_tuple_bl ?_
    | with_reducible refine w_isi_tuple_str ?_
    | with_reducible refine w_isi_tuple_non ?_
    | with_reducible refine w_is_int ?_
    | with_reducible refine w_isnt_int ?_
    | with_reducible refine w_is_bl ?_
    | with_reducible refine w_isnt_bl ?_
    | with_reducible refine w_is_str ?_
    | with_reducible refine w_isnt_str ?_
    | with_reducible refine w_is_non ?_
    | with_reducible refine w_isnt_non ?_
    | with_reducible refine w_is_ref ?_
    | with_reducible refine w_isnt_ref ?_
    | ((with_reducible refine w_asT ?e ?_); (case e => walk_at "te"); intro _ _)
    | ((with_reducible refine w_onT ?e ?_); (case e => walk_at "te"); intro _ _)
    | ((with_reducible refine w_asF ?e ?_); (case e => walk_at "te"))
    | ((with_reducible refine w_onF ?e ?_); (case e => walk_at "te"))
    | ((with_reducible apply w_isE); (· walk_at "xc"); (· walk_at "kt"))
    | ((with_reducible apply w_lenL); (· walk_at "hk"))
    | ((with_reducible apply w_lenT); (· walk_at "hk"))
    | ((with_reducible apply w_bmL); (· walk_at "hk"))
    | ((with_reducible refine w_rng1v ?h1 ?h2 ?_); (case h1 => (first | omega | (simp only [List.length_map] at *; omega))); (case h2 => (first | omega | (simp only [List.length_map] at *; omega))))
    | ((with_reducible refine w_rng2v ?h1 ?_); (case h1 => (first | omega | (simp only [List.length_map] at *; omega))))
    | ((with_reducible apply w_ixI); (· walk_at "hk"); (· (first | omega | (simp only [List.length_map] at *; omega))))
    | ((with_reducible apply w_ixTI); (· walk_at "hk"); (· (first | omega | (simp only [List.length_map] at *; omega))))
    | ((with_reducible apply w_ixBl); (· walk_at "hk"); (· (first | omega | (simp only [List.length_map] at *; omega))))
    | ((with_reducible apply w_getI2); (· walk_at "hk"); (· (first | omega | (simp only [List.length_map] at *; omega))))
    | ((with_reducible apply w_ixTl); (· walk_at "hk"); (· rfl); (· decide))
    | ((with_reducible apply w_ixLl); (· walk_at "hk"); (· rfl); (· decide))
    | ((with_reducible apply w_appI); (· walk_at "hk"); (· (first | omega | (simp only [List.length_append, List.length_cons, List.length_nil]; omega))))
    | ((with_reducible apply w_iListv); (· walk_at "hk"))
    | ((with_reducible apply w_iTupv); (· walk_at "hk"))
    | ((with_reducible apply w_iRevv); (· walk_at "hk"))
    | ((with_reducible apply w_iEnumv); (· walk_at "hk"))
    | ((with_reducible apply w_iZipv); (· walk_at "hk"); (· walk_at "hk"))
    | ((with_reducible apply w_dget2v); (· walk_at "hk"))
    | ((with_reducible apply w_dget1v); (· walk_at "hk"))
    | ((with_reducible apply w_dpop1v); (· walk_at "hk"))
    | ((with_reducible apply w_getI); (· walk_at "hk"))
    | ((with_reducible apply w_inD); (· walk_at "hk"))
    | ((with_reducible apply w_ninD); (· walk_at "hk"))
    | ((with_reducible apply w_rep1); (· walk_at "hk"); (· (first | omega | (simp only [List.length_append, List.length_cons, List.length_nil, List.length_take, List.length_drop, List.length_replicate, List.length_map, List.length_range] at *; omega) | (simp only [List.length_append, List.length_cons, List.length_nil, List.length_take, List.length_drop, List.length_replicate, List.length_map, List.length_range]; omega) | decide)); (· (first | omega | (simp only [List.length_append, List.length_cons, List.length_nil, List.length_take, List.length_drop, List.length_replicate, List.length_map, List.length_range] at *; omega) | (simp only [List.length_append, List.length_cons, List.length_nil, List.length_take, List.length_drop, List.length_replicate, List.length_map, List.length_range]; omega) | decide)); intro _ _)
    | ((with_reducible apply w_gtup2); (· walk_at "hk"))
    | ((with_reducible apply w_gtup3); (· walk_at "hk"))
    | ((with_reducible apply w_gtup4); (· walk_at "hk"))
    | ((with_reducible refine w_newD ?_); intro _ _)
    | ((with_reducible apply w_augsub); (· walk_at "hk"); (· rfl); (· exact Nat.le_of_ble_eq_true rfl))
    | ((with_reducible apply w_augadd); (· walk_at "hk"); (· rfl); (· exact Nat.le_of_ble_eq_true rfl))
    | ((with_reducible apply w_fldv); (· walk_at "hk"); (· rfl))
    | ((with_reducible apply w_methv); (· walk_at "hk"); (· rfl))
    | ((with_reducible apply w_setfv); (· walk_at "hk"); (· exact Nat.le_of_ble_eq_true rfl); (· rfl))
    | walk_at "x"))
local macro_rules | `(tactic| walk_at "run") => `(tactic| repeat' (first
    | with_reducible refine w_seq ?_
    | with_reducible refine w_op ?_
    | with_reducible refine w_asg ?_
    | with_reducible refine w_name ?_
    | with_reducible refine w_c ?_
    | with_reducible refine w_if ?_
    | with_reducible refine w_test ?_
    | with_reducible refine w_blP ?_
    | with_reducible refine w_cons ?_
    | with_reducible refine w_nil ?_
    | with_reducible refine w_ret ?_
    | with_reducible refine w_call ?_
    | ((with_reducible refine' w_var ?e ?_); (case e => rfl))
    | ((with_reducible refine ifST ?h ?_); (case h => decide +kernel))
    | ((with_reducible refine ifSF ?h ?_); (case h => decide +kernel))
    | ((with_reducible refine ifSNT ?h ?_); (case h => decide +kernel))
    | ((with_reducible refine ifSNF ?h ?_); (case h => decide +kernel))
    | with_reducible refine iteT ?_
    | with_reducible refine iteF ?_
    | with_reducible refine ifNT ?_
    | with_reducible refine ifNF ?_
    | (((with_reducible show @ite Prop (_ = true) _ _ _); refine @ifP _ _ _ _ ?_ ?_) <;> intro h <;> first | (with_reducible exact absurd rfl h) | skip)
    | (((with_reducible show @ite Prop (_ = true) _ _ _); refine @ifN _ _ _ _ ?_ ?_) <;> intro h <;> first | (with_reducible exact absurd rfl h) | skip)
    | with_reducible refine w_eqX ?_
    | with_reducible refine w_neX ?_
    | with_reducible refine w_add ?_
    | with_reducible refine w_sub ?_
    | with_reducible refine w_eqI ?_
    | with_reducible refine w_neI ?_
    | with_reducible refine w_lt ?_
    | with_reducible refine w_le ?_
    | with_reducible refine w_gt ?_
    | with_reducible refine w_ge ?_
    | with_reducible refine w_eqS ?_
    | with_reducible refine w_eqB ?_
    | with_reducible refine w_neS ?_
    | with_reducible refine w_neB ?_
    | with_reducible refine w_cb ?_
    | with_reducible refine w_tup ?_
    | with_reducible refine w_lst ?_
    | with_reducible refine w_next ?_
    | with_reducible refine w_drop ?_
    | with_reducible refine w_not ?_
    | with_reducible refine w_tru ?_
    | with_reducible refine w_and ?_
    | with_reducible refine w_or ?_
    | with_reducible refine w_andV ?_
    | with_reducible refine w_orV ?_
    | with_reducible refine w_notV ?_
    | with_reducible refine w_ifE ?_
    | with_reducible refine w_chain ?_
    | with_reducible refine w_retN ?_
    | with_reducible refine w_bm ?_
    | with_reducible refine w_raise ?_
    | with_reducible refine w_fld ?_
    | with_reducible refine w_meth ?_
    | with_reducible refine w_setf ?_
    | with_reducible refine w_for ?_
    | with_reducible refine w_rng1 ?_
    | with_reducible refine w_rng2 ?_
    | with_reducible refine w_iList ?_
    | with_reducible refine w_iTup ?_
    | with_reducible refine w_iStr ?_
    | with_reducible refine w_iRev ?_
    | with_reducible refine w_brk ?_
    | with_reducible refine w_cont ?_
    | with_reducible refine w_un ?_
    | with_reducible refine w_lc ?_
    | with_reducible refine w_yes ?_
    | with_reducible refine w_gsub ?_
    | with_reducible refine w_sl ?_
    | with_reducible refine w_part ?_
    | with_reducible refine w_noPart ?_
    | with_reducible refine w_wh ?_
    | with_reducible refine w_tryAs ?_
    | with_reducible refine w_try ?_
    | with_reducible refine w_make ?_
    | with_reducible refine w_dget ?_
    | with_reducible refine w_dput ?_
    | with_reducible refine w_gcons ?_
    | with_reducible refine w_gnil ?_
    | with_reducible refine w_augf ?_
    | with_reducible refine w_iEnum ?_
    | with_reducible refine w_iZip ?_
    | with_reducible refine w_iKeys ?_
    | with_reducible refine w_dget2 ?_
    | with_reducible refine w_dget1 ?_
    | with_reducible refine w_dpop1 ?_
    | with_reducible refine w_ddel ?_
    | with_reducible refine w_callX ?_
    | with_reducible refine w_augS ?_
    | with_reducible refine w_augSQ ?_
    | ((with_reducible refine' w_aug ?e ?_); (case e => rfl))
    | ((with_reducible refine w_mul ?s ?_); (case s => first | exact Or.inr ⟨by omega, by omega⟩ | exact Or.inl ⟨by omega, by omega⟩))
    | ((with_reducible refine w_div ?s ?_); (case s => omega))
    | ((with_reducible refine w_mod ?s ?_); (case s => first | omega | decide))
    | ((with_reducible refine w_pow ?s ?_); (case s => first | exact ⟨by decide, by decide, by decide⟩ | exact ⟨by decide, by decide, by omega⟩))
    | ((with_reducible refine w_newL ?s ?_); (case s => (first | exact (by decide) | (simp only [List.length_cons, List.length_nil]; omega))); intro _ _)
    | ((with_reducible refine w_newT ?s ?_); (case s => (first | exact (by decide) | (simp only [List.length_cons, List.length_nil]; omega))); intro _ _)
    | with_reducible refine w_eqX ?_
    | with_reducible refine w_neX ?_
    | with_reducible refine w_findX ?_
    | with_reducible refine w_countX ?_
    | ((with_reducible refine w_lenX ?s ?_); (case s => (first | omega | (simp only [List.length_append, List.length_cons, List.length_nil, List.length_take, List.length_drop, List.length_replicate, List.length_map, List.length_range] at *; omega) | (simp only [List.length_append, List.length_cons, List.length_nil, List.length_take, List.length_drop, List.length_replicate, List.length_map, List.length_range]; omega) | decide)))
    | ((with_reducible refine w_truX ?s ?_); (case s => (first | omega | (simp only [List.length_append, List.length_cons, List.length_nil, List.length_take, List.length_drop, List.length_replicate, List.length_map, List.length_range] at *; omega) | (simp only [List.length_append, List.length_cons, List.length_nil, List.length_take, List.length_drop, List.length_replicate, List.length_map, List.length_range]; omega) | decide)))
    | ((with_reducible refine w_addX ?s ?_); (case s => (first | omega | (simp only [List.length_append, List.length_cons, List.length_nil, List.length_take, List.length_drop, List.length_replicate, List.length_map, List.length_range] at *; omega) | (simp only [List.length_append, List.length_cons, List.length_nil, List.length_take, List.length_drop, List.length_replicate, List.length_map, List.length_range]; omega) | decide)))
    | ((with_reducible refine w_mulX ?h0 ?h1 ?_); (case h0 => (first | omega | (simp only [List.length_append, List.length_cons, List.length_nil, List.length_take, List.length_drop, List.length_replicate, List.length_map, List.length_range] at *; omega) | (simp only [List.length_append, List.length_cons, List.length_nil, List.length_take, List.length_drop, List.length_replicate, List.length_map, List.length_range]; omega) | decide)); (case h1 => (first | omega | (simp only [List.length_append, List.length_cons, List.length_nil, List.length_take, List.length_drop, List.length_replicate, List.length_map, List.length_range] at *; omega) | (simp only [List.length_append, List.length_cons, List.length_nil, List.length_take, List.length_drop, List.length_replicate, List.length_map, List.length_range]; omega) | decide)))
    | ((with_reducible refine w_tkX ?s ?h0 ?_); (case s => (first | omega | (simp only [List.length_append, List.length_cons, List.length_nil, List.length_take, List.length_drop, List.length_replicate, List.length_map, List.length_range] at *; omega) | (simp only [List.length_append, List.length_cons, List.length_nil, List.length_take, List.length_drop, List.length_replicate, List.length_map, List.length_range]; omega) | decide)); (case h0 => (first | omega | (simp only [List.length_append, List.length_cons, List.length_nil, List.length_take, List.length_drop, List.length_replicate, List.length_map, List.length_range] at *; omega) | (simp only [List.length_append, List.length_cons, List.length_nil, List.length_take, List.length_drop, List.length_replicate, List.length_map, List.length_range]; omega) | decide)))
    | ((with_reducible refine w_dpX ?s ?h0 ?_); (case s => (first | omega | (simp only [List.length_append, List.length_cons, List.length_nil, List.length_take, List.length_drop, List.length_replicate, List.length_map, List.length_range] at *; omega) | (simp only [List.length_append, List.length_cons, List.length_nil, List.length_take, List.length_drop, List.length_replicate, List.length_map, List.length_range]; omega) | decide)); (case h0 => (first | omega | (simp only [List.length_append, List.length_cons, List.length_nil, List.length_take, List.length_drop, List.length_replicate, List.length_map, List.length_range] at *; omega) | (simp only [List.length_append, List.length_cons, List.length_nil, List.length_take, List.length_drop, List.length_replicate, List.length_map, List.length_range]; omega) | decide)))
    | ((with_reducible refine w_ixX ?s ?h0 ?_); (case s => (first | omega | (simp only [List.length_append, List.length_cons, List.length_nil, List.length_take, List.length_drop, List.length_replicate, List.length_map, List.length_range] at *; omega) | (simp only [List.length_append, List.length_cons, List.length_nil, List.length_take, List.length_drop, List.length_replicate, List.length_map, List.length_range]; omega) | decide)); (case h0 => (first | omega | (simp only [List.length_append, List.length_cons, List.length_nil, List.length_take, List.length_drop, List.length_replicate, List.length_map, List.length_range] at *; omega) | (simp only [List.length_append, List.length_cons, List.length_nil, List.length_take, List.length_drop, List.length_replicate, List.length_map, List.length_range]; omega) | decide)))
    | with_reducible refine w_max ?_
    | with_reducible refine w_min ?_
    | with_reducible refine w_eqNI ?_
    | with_reducible refine w_neNI ?_
    | with_reducible refine w_eqIN ?_
    | with_reducible refine w_neIN ?_
    | with_reducible refine w_neNN ?_
    | with_reducible refine w_eqNN ?_
    | with_reducible refine w_abs ?_
    | with_reducible refine w_intI ?_
    | with_reducible refine w_intB ?_
    | with_reducible refine w_ipI ?_
    | with_reducible refine w_bmS ?_
    | with_reducible refine w_iStrv ?_
    | with_reducible refine w_neg ?_
    | with_reducible refine w_partI ?_
    | with_reducible refine w_truB ?_
    | with_reducible refine w_truN ?_
    | with_reducible refine w_truI ?_
    | with_reducible refine w_isi_int_int ?_
    | with_reducible refine w_isi_int_bl ?_
    | with_reducible refine w_isi_int_str ?_
    | with_reducible refine w_isi_int_non ?_
    | with_reducible refine w_isi_bool_int ?_
    | with_reducible refine w_isi_bool_bl ?_
    | with_reducible refine w_isi_bool_str ?_
    | with_reducible refine w_isi_bool_non ?_
    | with_reducible refine w_isi_str_int ?_
    | with_reducible refine w_isi_str_bl ?_
    | with_reducible refine w_isi_str_str ?_
    | with_reducible refine w_isi_str_non ?_
    | with_reducible refine w_isi_list_int ?_
    | with_reducible refine w_isi_list_bl ?_
    | with_reducible refine w_isi_list_str ?_
    | with_reducible refine w_isi_list_non ?_
    | with_reducible refine w_isi_tuple_int ?_
    | with_reducible refine w_isi_tuple_bl ?_
    | with_reducible refine w_isi_tuple_str ?_
    | with_reducible refine w_isi_tuple_non ?_
    | with_reducible refine w_is_int ?_
    | with_reducible refine w_isnt_int ?_
    | with_reducible refine w_is_bl ?_
    | with_reducible refine w_isnt_bl ?_
    | with_reducible refine w_is_str ?_
    | with_reducible refine w_isnt_str ?_
    | with_reducible refine w_is_non ?_
    | with_reducible refine w_isnt_non ?_
    | with_reducible refine w_is_ref ?_
    | with_reducible refine w_isnt_ref ?_
    | ((with_reducible refine w_asT ?e ?_); (case e => walk_at "te"); intro _ _)
    | ((with_reducible refine w_onT ?e ?_); (case e => walk_at "te"); intro _ _)
    | ((with_reducible refine w_asF ?e ?_); (case e => walk_at "te"))
    | ((with_reducible refine w_onF ?e ?_); (case e => walk_at "te"))
    | ((with_reducible apply w_isE); (· walk_at "xc"); (· walk_at "kt"))
    | ((with_reducible apply w_lenL); (· walk_at "hk"))
    | ((with_reducible apply w_lenT); (· walk_at "hk"))
    | ((with_reducible apply w_bmL); (· walk_at "hk"))
    | ((with_reducible refine w_rng1v ?h1 ?h2 ?_); (case h1 => (first | omega | (simp only [List.length_map] at *; omega))); (case h2 => (first | omega | (simp only [List.length_map] at *; omega))))
    | ((with_reducible refine w_rng2v ?h1 ?_); (case h1 => (first | omega | (simp only [List.length_map] at *; omega))))
    | ((with_reducible apply w_ixI); (· walk_at "hk"); (· (first | omega | (simp only [List.length_map] at *; omega))))
    | ((with_reducible apply w_ixTI); (· walk_at "hk"); (· (first | omega | (simp only [List.length_map] at *; omega))))
    | ((with_reducible apply w_ixBl); (· walk_at "hk"); (· (first | omega | (simp only [List.length_map] at *; omega))))
    | ((with_reducible apply w_getI2); (· walk_at "hk"); (· (first | omega | (simp only [List.length_map] at *; omega))))
    | ((with_reducible apply w_ixTl); (· walk_at "hk"); (· rfl); (· decide))
    | ((with_reducible apply w_ixLl); (· walk_at "hk"); (· rfl); (· decide))
    | ((with_reducible apply w_appI); (· walk_at "hk"); (· (first | omega | (simp only [List.length_append, List.length_cons, List.length_nil]; omega))))
    | ((with_reducible apply w_iListv); (· walk_at "hk"))
    | ((with_reducible apply w_iTupv); (· walk_at "hk"))
    | ((with_reducible apply w_iRevv); (· walk_at "hk"))
    | ((with_reducible apply w_iEnumv); (· walk_at "hk"))
    | ((with_reducible apply w_iZipv); (· walk_at "hk"); (· walk_at "hk"))
    | ((with_reducible apply w_dget2v); (· walk_at "hk"))
    | ((with_reducible apply w_dget1v); (· walk_at "hk"))
    | ((with_reducible apply w_dpop1v); (· walk_at "hk"))
    | ((with_reducible apply w_getI); (· walk_at "hk"))
    | ((with_reducible apply w_inD); (· walk_at "hk"))
    | ((with_reducible apply w_ninD); (· walk_at "hk"))
    | ((with_reducible apply w_rep1); (· walk_at "hk"); (· (first | omega | (simp only [List.length_append, List.length_cons, List.length_nil, List.length_take, List.length_drop, List.length_replicate, List.length_map, List.length_range] at *; omega) | (simp only [List.length_append, List.length_cons, List.length_nil, List.length_take, List.length_drop, List.length_replicate, List.length_map, List.length_range]; omega) | decide)); (· (first | omega | (simp only [List.length_append, List.length_cons, List.length_nil, List.length_take, List.length_drop, List.length_replicate, List.length_map, List.length_range] at *; omega) | (simp only [List.length_append, List.length_cons, List.length_nil, List.length_take, List.length_drop, List.length_replicate, List.length_map, List.length_range]; omega) | decide)); intro _ _)
    | ((with_reducible apply w_gtup2); (· walk_at "hk"))
    | ((with_reducible apply w_gtup3); (· walk_at "hk"))
    | ((with_reducible apply w_gtup4); (· walk_at "hk"))
    | ((with_reducible refine w_newD ?_); intro _ _)
    | ((with_reducible apply w_augsub); (· walk_at "hk"); (· rfl); (· exact Nat.le_of_ble_eq_true rfl))
    | ((with_reducible apply w_augadd); (· walk_at "hk"); (· rfl); (· exact Nat.le_of_ble_eq_true rfl))
    | ((with_reducible apply w_fldv); (· walk_at "hk"); (· rfl))
    | ((with_reducible apply w_methv); (· walk_at "hk"); (· rfl))
    | ((with_reducible apply w_setfv); (· walk_at "hk"); (· exact Nat.le_of_ble_eq_true rfl); (· rfl))
    | walk_at "x"))
local macro_rules | `(tactic| walk_at "v") => `(tactic| ((with_reducible refine' w_var ?e ?_); (case e => rfl)))
local macro_rules | `(tactic| walk_at "ag") => `(tactic| ((with_reducible refine' w_aug ?e ?_); (case e => rfl)))
/-- the addresses that the readings speak of -/
structure Ex where
  (LaminaError NotValid PowerOff NoProcess BadHandle NoVolume ReadOnly BadName Missing WrongKind Exists LoopFound CrossVolume Busy NotEmpty TooMany TooLong OverQuota NoSpace BadImage : Addr := 0)
  (Disk Head Space Store OpenFiles Handles Processes Log Accounts Session System : Addr := 0)
  (POINTER_KINDS MODES LENGTHS T_from_block : Addr := 0)
/-- what is known of the exceptions' classes -/
structure Fa (K : PySem.W.Frag) (C : Ex) : Prop where
  fa0 : True
  te_LaminaError_BadImage : PySem.W.exmOne K (.ref C.LaminaError) (.ref C.BadImage) = some false
  te_NotValid_BadImage : PySem.W.exmOne K (.ref C.NotValid) (.ref C.BadImage) = some false
  te_BadImage_BadImage : PySem.W.exmOne K (.ref C.BadImage) (.ref C.BadImage) = some true
  kt_LaminaError_LaminaError : PySem.W.kitOne K (.ref C.LaminaError) (.ref C.LaminaError) = some true
  kt_NotValid_LaminaError : PySem.W.kitOne K (.ref C.NotValid) (.ref C.LaminaError) = some true
  kt_BadImage_LaminaError : PySem.W.kitOne K (.ref C.BadImage) (.ref C.LaminaError) = some true
  kb_LaminaError_ValueError : PySem.W.kitOne K (.ref C.LaminaError) (.type "ValueError") = some true
  kb_NotValid_ValueError : PySem.W.kitOne K (.ref C.NotValid) (.type "ValueError") = some true
  kb_BadImage_ValueError : PySem.W.kitOne K (.ref C.BadImage) (.type "ValueError") = some true
  xc_LaminaError : ExcC K C.LaminaError
  xc_NotValid : ExcC K C.NotValid
  xc_BadImage : ExcC K C.BadImage
local macro_rules | `(tactic| walk_at "te") => `(tactic| first | exact Fa.te_LaminaError_BadImage (by assumption) | exact Fa.te_NotValid_BadImage (by assumption) | exact Fa.te_BadImage_BadImage (by assumption))
local macro_rules | `(tactic| walk_at "kt") => `(tactic| first | exact Fa.kt_LaminaError_LaminaError (by assumption) | exact Fa.kt_NotValid_LaminaError (by assumption) | exact Fa.kt_BadImage_LaminaError (by assumption))
local macro_rules | `(tactic| walk_at "xc") => `(tactic| first | exact Fa.xc_LaminaError (by assumption) | exact Fa.xc_NotValid (by assumption) | exact Fa.xc_BadImage (by assumption))
def S1 (f : V → Hp → VK → XK → Prop) : Sp := fun vs H Q E => ∃ a, vs = [a] ∧ f a H Q E
def S2 (f : V → V → Hp → VK → XK → Prop) : Sp := fun vs H Q E => ∃ a b, vs = [a, b] ∧ f a b H Q E
section
variable {vs : List V} {H : Hp} {Q : VK} {E : XK} {a b c d e : V}
theorem len1 {f} (h : S1 f vs H Q E) : vs.length = 1 := by obtain ⟨_, rfl, _⟩ := h; rfl
theorem len2 {f} (h : S2 f vs H Q E) : vs.length = 2 := by obtain ⟨_, _, rfl, _⟩ := h; rfl
theorem w_S1 {f} (h : f a H Q E) : S1 f [a] H Q E := ⟨a, rfl, h⟩
theorem w_S2 {f} (h : f a b H Q E) : S2 f [a, b] H Q E := ⟨a, b, rfl, h⟩
end
theorem lt_line {n : Nat} (h : n < 10000000) : n < sizeLine := Nat.lt_of_lt_of_le h (by decide)
/-- .. of a law that reaches a def with a generator expression, its table at T -/
abbrev spLawT (K : PySem.W.Frag) (T : Addr) : Sp := S1 fun a H Q _ => ∃ (p : Addr) (ns : List Int), a = .ref p ∧ SqL K H p (ns.map V.int) ∧ ns.length ≤ 63 ∧ H T = some (.tbl #[]) ∧ ∀ H', Q (.bl true) H'
theorem int_at {ns : List Int} {i : Nat} (h : i < ns.length) : (ns.map V.int)[i]? = some (.int (ns.getD i 0)) := by
  rw [List.getElem?_map, List.getElem?_eq_getElem h, List.getD_eq_getElem?_getD, List.getElem?_eq_getElem h]
  rfl
/-- of the objects of H all but those of S stand in H'; S' is of S or new -/
def Stp (S : List Addr) (H : Hp) (S' : List Addr) (H' : Hp) : Prop := (∀ b o, H b = some o → b ∉ S → H' b = some o) ∧ ∀ b ∈ S', b ∈ S ∨ H b = none
theorem Stp.refl {S : List Addr} {H : Hp} : Stp S H S H := ⟨fun _ _ h _ => h, fun _ h => .inl h⟩
theorem Stp.trans {S S1 S2 : List Addr} {H H1 H2 : Hp} (x : Stp S H S1 H1) (y : Stp S1 H1 S2 H2) : Stp S H S2 H2 := by
  refine ⟨fun b o h n => y.1 b o (x.1 b o h n) fun q => ?_, fun b hb => ?_⟩
  · rcases x.2 b q with z | z
    · exact n z
    · rw [h] at z; cases z
  · rcases y.2 b hb with q | q
    · exact x.2 b q
    · by_cases n : b ∈ S
      · exact .inl n
      · cases e : H b with
        | none => exact .inr rfl
        | some o => rw [x.1 b o e n] at q; cases q
theorem Stp.same {S : List Addr} {H H' : Hp} (s : Same H H') : Stp S H S H' := ⟨fun b o h _ => s b o h, fun _ h => .inl h⟩
theorem Stp.upd {S : List Addr} {H H' : Hp} {p : Addr} {o : HO} (x : Stp S H S H') (h : p ∈ S) : Stp S H S (upd H' p o) :=
  ⟨fun b w e n => by rw [upd_ne (fun q => n (by rw [q]; exact h))]; exact x.1 b w e n, x.2⟩
theorem Stp.new {S : List Addr} {H H' : Hp} {p : Addr} {o : HO} (x : Stp S H S H') (h : H' p = none) : Stp S H S (L2.upd H' p o) := x.trans (.same (same_new h))
theorem Stp.fresh {S S' : List Addr} {H H' : Hp} {p : Addr} (x : Stp S H S' H') (n : H' p = none) : p ∈ S ∨ H p = none := by
  by_cases q : p ∈ S
  · exact .inl q
  · cases e : H p with
    | none => exact .inr rfl
    | some o => rw [x.1 p o e q] at n; cases n
theorem Stp.keep {S S' : List Addr} {H H' : Hp} {b : Addr} {o : HO} (x : Stp S H S' H') (h : H b = some o) (n : b ∉ S) : H' b = some o ∧ b ∉ S' :=
  ⟨x.1 b o h n, fun q => (x.2 b q).elim n fun z => by rw [h] at z; cases z⟩
/-- a list of eight words -/
def RowAt (H : Hp) (v : V) (r : List Int) : Prop := r.length = 8 ∧ ∃ p, v = .ref p ∧ H p = some (.lst (r.map V.int))
def AllRef (vs : List V) : Prop := ∀ x ∈ vs, ∃ p, x = V.ref p
theorem RowAt.same {H H' : Hp} {v : V} {r : List Int} (x : RowAt H v r) (s : Same H H') : RowAt H' v r := by
  obtain ⟨l, p, rfl, h⟩ := x
  exact ⟨l, p, rfl, s _ _ h⟩
theorem RowAt.upd {H : Hp} {v : V} {r : List Int} {q : Addr} {o u : HO} (x : RowAt H v r) (h : H q = some u) (n : r.length = 8 → HO.lst (r.map V.int) ≠ u) : RowAt (upd H q o) v r := by
  obtain ⟨l, p, rfl, e⟩ := x
  exact ⟨l, p, rfl, by rw [upd_ne (ne_of e h (n l))]; exact e⟩
/-- what may be written without a row's loss -/
def NoRow (u : HO) : Prop := ∀ r : List Int, r.length = 8 → HO.lst (r.map V.int) ≠ u
def RowsAt (H : Hp) (vs : List V) (rs : List (List Int)) : Prop := vs.length = rs.length ∧ ∀ (i : Nat) v, vs[i]? = some v → ∃ r, rs[i]? = some r ∧ RowAt H v r
theorem RowsAt.ref {H : Hp} {vs : List V} {rs : List (List Int)} (x : RowsAt H vs rs) : AllRef vs := fun v hv => by
  obtain ⟨i, hi⟩ := List.getElem?_of_mem hv
  obtain ⟨r, _, _, p, e, _⟩ := x.2 i v hi
  exact ⟨p, e⟩
theorem RowsAt.map {H H' : Hp} {vs : List V} {rs : List (List Int)} (x : RowsAt H vs rs) (f : ∀ v r, RowAt H v r → RowAt H' v r) : RowsAt H' vs rs := ⟨x.1, fun i v h => by
  obtain ⟨r, e, y⟩ := x.2 i v h
  exact ⟨r, e, f v r y⟩⟩
theorem RowsAt.same {H H' : Hp} {vs : List V} {rs : List (List Int)} (x : RowsAt H vs rs) (s : Same H H') : RowsAt H' vs rs := x.map fun _ _ y => y.same s
theorem RowsAt.upd {H : Hp} {vs : List V} {rs : List (List Int)} {q : Addr} {o u : HO} (x : RowsAt H vs rs) (h : H q = some u) (n : NoRow u) : RowsAt (upd H q o) vs rs := x.map fun _ r y => y.upd h (n r)
theorem RowsAt.nil {H : Hp} : RowsAt H [] [] := ⟨rfl, fun i v h => by simp at h⟩
theorem RowsAt.set {H : Hp} {vs : List V} {rs : List (List Int)} {v : V} {r : List Int} {j : Nat} (x : RowsAt H vs rs) (y : RowAt H v r) : RowsAt H (vs.set j v) (rs.set j r) := by
  refine ⟨by rw [List.length_set, List.length_set, x.1], fun i w h => ?_⟩
  by_cases q : j = i
  · subst q
    have hl : j < vs.length := by
      have := (List.getElem?_eq_some_iff.mp h).1
      rw [List.length_set] at this
      exact this
    rw [List.getElem?_set_self hl] at h
    cases h
    exact ⟨r, List.getElem?_set_self (by rw [← x.1]; exact hl), y⟩
  · rw [List.getElem?_set_ne q] at h
    obtain ⟨r', e, z⟩ := x.2 i w h
    exact ⟨r', by rw [List.getElem?_set_ne q]; exact e, z⟩
/-- eight words -/
def Row8 (r : List Int) : Prop := r.length = 8 ∧ ∀ z ∈ r, 0 ≤ z
theorem Row8.set {r : List Int} {i : Nat} {z : Int} (h : Row8 r) (hz : 0 ≤ z) : Row8 (r.set i z) := ⟨by rw [List.length_set]; exact h.1, fun y hy => by
  rcases List.mem_or_eq_of_mem_set hy with q | q
  · exact h.2 y q
  · rw [q]; exact hz⟩
/-- an item: key and body, tuples of ints -/
abbrev NIt := PySem.W.Tup Int × PySem.W.Tup Int
theorem dp_ints {K : PySem.W.Frag} {H : Hp} : ∀ {xs : List V} {ns : List Int}, DpAll K H xs (ns.map PySem.W.Datum.toD) → xs = ns.map V.int
  | [], [], _ => rfl
  | [], _ :: _, h => by cases h
  | _ :: _, [], h => by cases h
  | x :: xs, n :: ns, h => by
    cases h with
    | cons h1 h2 =>
      have e : x = .int n := by
        have h1 : Dp K H x (.int n) := h1
        cases h1
        rfl
      rw [e, dp_ints h2]
      rfl
theorem it_of {K : PySem.W.Frag} {H : Hp} {v : V} {i : NIt} (h : Dt K H v i) : ∃ p a b, v = .ref p ∧ SqT K H p [.ref a, .ref b] ∧ SqT K H a (i.1.items.map V.int) ∧ SqT K H b (i.2.items.map V.int) := by
  obtain ⟨⟨k⟩, ⟨b⟩⟩ := i
  have h : Dp K H v (.tuple [.tuple (k.map PySem.W.Datum.toD), .tuple (b.map PySem.W.Datum.toD)]) := h
  cases h with
  | tup hs ha =>
    cases ha with
    | cons h1 h2 =>
      cases h2 with
      | cons h2 h3 =>
        cases h3
        cases h1 with
        | tup s1 d1 =>
          cases h2 with
          | tup s2 d2 =>
            exact ⟨_, _, _, rfl, hs, by rw [← dp_ints d1]; exact s1, by rw [← dp_ints d2]; exact s2⟩
theorem of_it {K : PySem.W.Frag} {H : Hp} {p a b : Addr} {k d : List Int} (h : SqT K H p [.ref a, .ref b]) (h1 : SqT K H a (k.map V.int)) (h2 : SqT K H b (d.map V.int)) : Dt K H (.ref p) ((⟨k⟩, ⟨d⟩) : NIt) :=
  Dp.tup h (DpAll.cons (Dp.tup h1 (DtAll.ints k)) (DpAll.cons (Dp.tup h2 (DtAll.ints d)) DpAll.nil))
def keysN (its : List NIt) : List (List Int) := its.map fun i => i.1.items
def ascB : List (List Int) → Bool
  | a :: b :: r => HT.lexLt a b && ascB (b :: r)
  | _ => true
theorem ascB_iff : ∀ {ks : List (List Int)}, ascB ks = true ↔ ∀ i, i + 1 < ks.length → HT.lexLt (ks.getD i []) (ks.getD (i + 1) []) = true
  | [] => ⟨fun _ i h => by simp at h, fun _ => rfl⟩
  | [a] => ⟨fun _ i h => by simp at h, fun _ => rfl⟩
  | a :: b :: r => by
    have ih := ascB_iff (ks := b :: r)
    constructor
    · intro h i hi
      have h : (HT.lexLt a b && ascB (b :: r)) = true := h
      rw [Bool.and_eq_true] at h
      cases i with
      | zero => exact h.1
      | succ i => exact ih.mp h.2 i (by simp at hi ⊢; omega)
    · intro h
      show (HT.lexLt a b && ascB (b :: r)) = true
      rw [Bool.and_eq_true]
      exact ⟨h 0 (by simp), ih.mpr fun i hi => h (i + 1) (by simp at hi ⊢; omega)⟩
def mostN (k : Int) : Int := if k = 1 then 4 else 5
def sizeN (k : Int) : Int := if k = 1 then 7 else 5
def sp_most_items (K : PySem.W.Frag) (C : Ex) : Sp := S1 fun x H Q E => ∃ k : Int, x = .int k ∧ ((k ≠ 1 ∧ k ≠ 2 → E (.ref C.NotValid) none H) ∧ (k = 1 ∨ k = 2 → Q (.int (mostN k)) H))
def t_most_items (K : PySem.W.Frag) (C : Ex) (E : XK) : TS :=
  tSeq (tIfS (tTest (tOp (uEq K) (tVar 0) (tC (.int 1)))) (tRet (tC (.int 4))) (tNext))
  (tSeq (tIfS (tTest (tOp (uEq K) (tVar 0) (tC (.int 2)))) (tRet (tC (.int 5))) (tNext))
  (uRaise C.NotValid (WB E)))
theorem pure_most_items {K : PySem.W.Frag} {C : Ex} {vs : List V} {H : Hp} {Q : VK} {E : XK} (F : Fa K C) (h : sp_most_items K C vs H Q E) : t_most_items K C E { nx := fun _ H' => Q .non H', rt := Q } (start ["kind"] vs) H := by
  obtain ⟨x, rfl, k, rfl, k1, k2⟩ := h
  unfold t_most_items
  walk_at "run1"
  · rename_i h
    have z := k2 (.inl h)
    unfold mostN at z
    rw [if_pos h] at z
    exact z
  · walk_at "run1"
    · rename_i h1 h
      have z := k2 (.inr h)
      unfold mostN at z
      rw [if_neg h1] at z
      exact z
    · walk_at "run1"
      rename_i h1 h2
      exact k1 ⟨h1, h2⟩
def sp_item_words (K : PySem.W.Frag) (C : Ex) : Sp := S1 fun x H Q _ => ∃ k : Int, x = .int k ∧ Q (.int (sizeN k)) H
def t_item_words (K : PySem.W.Frag) (C : Ex) (E : XK) : TS :=
  tSeq (tIfS (tTest (tOp (uEq K) (tVar 0) (tC (.int 1)))) (tRet (tC (.int 7))) (tNext))
  (tRet (tC (.int 5)))
theorem pure_item_words {K : PySem.W.Frag} {C : Ex} {vs : List V} {H : Hp} {Q : VK} {E : XK} (F : Fa K C) (h : sp_item_words K C vs H Q E) : t_item_words K C E { nx := fun _ H' => Q .non H', rt := Q } (start ["kind"] vs) H := by
  obtain ⟨x, rfl, k, rfl, k1⟩ := h
  unfold sizeN at k1
  unfold t_item_words
  walk_at "run1"
  · rename_i h
    rw [if_pos h] at k1
    exact k1
  · walk_at "run1"
    rename_i h
    rw [if_neg h] at k1
    exact k1
def sp_own_pointer (K : PySem.W.Frag) (C : Ex) : Sp := S1 fun x H Q _ => ∃ (p : Addr) (ws : List Int), x = .ref p ∧ SqL K H p (ws.map V.int) ∧ 4 ≤ ws.length ∧ ∀ l, H l = none → Q (.ref l) (upd H l (.tup [.int (ws.getD 2 0), .int (ws.getD 3 0)]))
def t_own_pointer (K : PySem.W.Frag) (C : Ex) (E : XK) : TS :=
  tRet (tTup (tCons (tOp (uIx K) (tVar 0) (tC (.int 2))) (tCons (tOp (uIx K) (tVar 0) (tC (.int 3))) (tNil))))
theorem pure_own_pointer {K : PySem.W.Frag} {C : Ex} {vs : List V} {H : Hp} {Q : VK} {E : XK} (F : Fa K C) (h : sp_own_pointer K C vs H Q E) : t_own_pointer K C E { nx := fun _ H' => Q .non H', rt := Q } (start ["block"] vs) H := by
  obtain ⟨x, rfl, p, ws, rfl, hS, hl, k⟩ := h
  unfold t_own_pointer
  walk_at "run1"
  rename_i l hl0
  exact k l hl0
def isPtr (a b : Int) : Bool := decide (5 ≤ a ∧ a < 256 ∧ 1 ≤ b)
def sp_is_block_pointer (K : PySem.W.Frag) (C : Ex) : Sp := S1 fun x H Q _ => ∃ (p : Addr) (a b : Int) (r : List Int), x = .ref p ∧ SqT K H p ((a :: b :: r).map V.int) ∧ Q (.bl (isPtr a b)) H
def t_is_block_pointer (K : PySem.W.Frag) (C : Ex) (E : XK) : TS :=
  tRet (tAndV (tChain (uLe K) (uLt K) (tC (.int 5)) (tOp (uIx K) (tVar 0) (tC (.int 0))) (tC (.int 256))) (tOp (uGe K) (tOp (uIx K) (tVar 0) (tC (.int 1))) (tC (.int 1))))
theorem pure_is_block_pointer {K : PySem.W.Frag} {C : Ex} {vs : List V} {H : Hp} {Q : VK} {E : XK} (F : Fa K C) (h : sp_is_block_pointer K C vs H Q E) : t_is_block_pointer K C E { nx := fun _ H' => Q .non H', rt := Q } (start ["pointer"] vs) H := by
  obtain ⟨x, rfl, p, a, b, r, rfl, hS, k⟩ := h
  unfold isPtr at k
  unfold t_is_block_pointer
  walk_at "run1"
  · rename_i h1 h2
    show Q (.bl (decide (1 ≤ b))) H
    rw [show decide (1 ≤ b) = decide (5 ≤ a ∧ a < 256 ∧ 1 ≤ b) from decide_eq_decide.mpr ⟨fun h => ⟨h1, h2, h⟩, fun h => h.2.2⟩]
    exact k
  · rename_i h1 h2
    rw [decide_eq_false (fun h => h2 h.2.1)] at k
    exact k
  · rename_i h1
    rw [decide_eq_false (fun h => h1 h.1)] at k
    exact ⟨false, rfl, k⟩
def sp_are_ascending (K : PySem.W.Frag) (C : Ex) : Sp := S1 fun x H Q _ => ∃ (p : Addr) (vs : List V) (its : List NIt), x = .ref p ∧ SqL K H p vs ∧ DtAll K H vs its ∧ vs.length ≤ 1000 ∧ Q (.bl (ascB (keysN its))) H
def t_are_ascending (K : PySem.W.Frag) (C : Ex) (E : XK) : TS :=
  tSeq (tFor (iRng2 (tCons (tC (.int 1)) (tCons (tCB (uLen K) (tCons (tVar 0) (tNil))) (tNil)))) (gName 1)
  (tIfS (tTest (tOp (uGe K) (tOp (uIx K) (tOp (uIx K) (tVar 0) (tOp (uSub) (tVar 1) (tC (.int 1)))) (tC (.int 0))) (tOp (uIx K) (tOp (uIx K) (tVar 0) (tVar 1)) (tC (.int 0))))) (tRet (tC (.bl false))) (tNext)))
  (tRet (tC (.bl true)))
theorem pure_are_ascending {K : PySem.W.Frag} {C : Ex} {vs : List V} {H : Hp} {Q : VK} {E : XK} (F : Fa K C) (h : sp_are_ascending K C vs H Q E) : t_are_ascending K C E { nx := fun _ H' => Q .non H', rt := Q } (start ["items", "index"] vs) H := by
  obtain ⟨x, rfl, p, vs, its, rfl, hS, hd, hz, k⟩ := h
  have hl := hd.length
  have lk : (keysN its).length = its.length := List.length_map ..
  have at_ : ∀ i : Nat, i < its.length → ∃ q a b, vs[i]? = some (.ref q) ∧ SqT K H q [.ref a, .ref b] ∧ SqT K H a (((keysN its).getD i []).map V.int) := fun i hi => by
    obtain ⟨x, hx, hv⟩ := hd.get (List.getElem?_eq_getElem (show i < vs.length by omega))
    obtain ⟨q, a, b, e, h1, h2, _⟩ := it_of hv
    refine ⟨q, a, b, by rw [List.getElem?_eq_getElem (show i < vs.length by omega), e], h1, ?_⟩
    unfold keysN
    rw [List.getD_eq_getElem?_getD, List.getElem?_map, hx]
    exact h2
  unfold t_are_ascending
  walk_at "run1"
  refine f_range (fun j σ H' => H' = H ∧ (∃ v1, σ = [some (.ref p), v1]) ∧ ∀ i, i < j → HT.lexLt ((keysN its).getD i []) ((keysN its).getD (i + 1) []) = true) ⟨rfl, ⟨none, rfl⟩, fun i hi => absurd hi (Nat.not_lt_zero _)⟩ ?_ ?_
  · rintro j σ H' hj ⟨rfl, ⟨v1, rfl⟩, hi⟩
    have hj1 : j + 1 < its.length := by omega
    obtain ⟨q1, a1, b1, e1, s1, k1⟩ := at_ j (by omega)
    obtain ⟨q2, a2, b2, e2, s2, k2⟩ := at_ (j + 1) hj1
    walk_at "run1"
    refine w_ixA hS ⟨by omega, by omega⟩ fun v hv => ?_
    rw [show ((1 : Int) + (j : Int) - 1).toNat = j by omega, e1] at hv
    cases hv
    walk_at "run1"
    refine w_ixA hS ⟨by omega, by omega⟩ fun v hv => ?_
    rw [show ((1 : Int) + (j : Int)).toNat = j + 1 by omega, e2] at hv
    cases hv
    walk_at "run1"
    refine ⟨_, _, k1, k2, ?_⟩
    refine ⟨_, rfl, ?_⟩
    unfold lexGe
    cases hlt : HT.lexLt ((keysN its).getD j []) ((keysN its).getD (j + 1) []) with
    | true =>
      rw [show (!true) = false from rfl]
      walk_at "run1"
      refine ⟨rfl, ⟨_, rfl⟩, fun i h => ?_⟩
      rcases Nat.lt_succ_iff_lt_or_eq.mp h with q | q
      · exact hi i q
      · rw [q]; exact hlt
    | false =>
      rw [show (!false) = true from rfl]
      walk_at "run1"
      have z : ascB (keysN its) = false := by
        cases q : ascB (keysN its) with
        | false => rfl
        | true =>
          rw [ascB_iff.mp q j (by omega)] at hlt
          cases hlt
      rw [z] at k
      exact k
  · rintro σ H' ⟨rfl, ⟨v1, rfl⟩, hi⟩
    walk_at "run1"
    rw [ascB_iff.mpr fun i h => hi i (by omega)] at k
    exact k
def itN (ws : List Int) (i : Nat) : NIt :=
  (⟨(ws.drop (4 + (sizeN (ws.getD 0 0)).toNat * i)).take 3⟩, ⟨(ws.drop (4 + (sizeN (ws.getD 0 0)).toNat * i + 3)).take ((sizeN (ws.getD 0 0)).toNat - 3)⟩)
def itemsN (ws : List Int) : List NIt := (List.range (ws.getD 1 0).toNat).map (itN ws)
def ptrIt (i : NIt) : Bool := isPtr (i.2.items.getD 0 0) (i.2.items.getD 1 0)
/-- the form of a node's block -/
def okN (ws : List Int) : Bool :=
  decide (ws.getD 0 0 = 1 ∨ ws.getD 0 0 = 2) && decide (ws.getD 1 0 ≤ mostN (ws.getD 0 0)) && isPtr (ws.getD 2 0) (ws.getD 3 0) &&
    (ws.drop (4 + (sizeN (ws.getD 0 0)).toNat * (ws.getD 1 0).toNat)).all (fun w => decide (w = 0)) && ascB (keysN (itemsN ws)) && (decide (ws.getD 0 0 ≠ 2) || (itemsN ws).all ptrIt)
theorem cut_ints {ws : List Int} {i j : Nat} (h : i ≤ j) (hj : j ≤ ws.length) : cutV (ws.map V.int) (some (i : Int)) (some (j : Int)) = ((ws.drop i).take (j - i)).map V.int := by
  rw [cut_mid _ _ _ h (by rw [List.length_map]; exact hj), List.map_take, List.map_drop]
theorem inV_12 (k : Int) : inV (V.int k) [V.int 1, V.int 2] = decide (k = 1 ∨ k = 2) := by
  by_cases h1 : k = 1
  · subst h1; rfl
  · by_cases h2 : k = 2
    · subst h2; rfl
    · have e1 : (V.int k == V.int 1) = false := by simpa using h1
      rw [decide_eq_false (fun h => h.elim h1 h2)]
      have a1 : eqV (V.int 1) (V.int k) = false := by unfold eqV; simp; omega
      have a2 : eqV (V.int 2) (V.int k) = false := by unfold eqV; simp; omega
      unfold inV
      rw [List.any_cons, List.any_cons, List.any_nil, a1, a2]
      rfl
theorem TabG.same {T : Addr} {H H' : Hp} (s : Same H H') (h : GxR.TabG H T) : GxR.TabG H' T := by
  obtain ⟨ps, e, t⟩ := h
  exact ⟨ps, s _ _ e, t⟩
theorem tupN : ∀ its : List NIt, tupOnlyAll (its.map PySem.W.Datum.toD) = true
  | [] => rfl
  | i :: its => by
    show (tupOnlyAll [PyData.tuple (i.1.items.map PyData.int), PyData.tuple (i.2.items.map PyData.int)] && tupOnlyAll (its.map PySem.W.Datum.toD)) = true
    rw [tupN its, Bool.and_true]
    show (tupOnlyAll (i.1.items.map PyData.int) && (tupOnlyAll (i.2.items.map PyData.int) && true)) = true
    rw [tupOnly_ints, tupOnly_ints]
    rfl
def sp_from_block (K : PySem.W.Frag) (C : Ex) : Sp := S1 fun x H Q E => ∃ (p : Addr) (ws : List Int), x = .ref p ∧ SqL K H p (ws.map V.int) ∧ ws.length = 32 ∧ (∀ w ∈ ws, 0 ≤ w) ∧ GxR.TabG H C.T_from_block ∧
  (okN ws = false → ∀ H', Stp [C.T_from_block] H [C.T_from_block] H' → GxR.TabG H' C.T_from_block → E (.ref C.BadImage) none H') ∧
  (okN ws = true → ∀ H' l r vs, Stp [C.T_from_block] H [C.T_from_block] H' → GxR.TabG H' C.T_from_block → H' l = some (.lst vs) → DtAll K H' vs (itemsN ws) → H l = none → H' r = some (.tup [.int (ws.getD 0 0), .ref l]) → H r = none → Q (.ref r) H')
def t_from_block (K : PySem.W.Frag) (C : Ex) (E : XK) : TS :=
  tSeq (tAsg (tOp (uIx K) (tVar 0) (tC (.int 0))) (gName 1))
  (tSeq (tIfS (tOr (tTest (tOp (uNin K) (tVar 1) (tTup (tCons (tC (.int 1)) (tCons (tC (.int 2)) (tNil)))))) (tTest (tOp (uGt) (tOp (uIx K) (tVar 0) (tC (.int 1))) (uCall (sp_most_items K C) (WB E) (tCons (tVar 1) (tNil)))))) (uRaise C.BadImage (WB E)) (tNext))
  (tSeq (tIfS (tNot (uTru K (uCall (sp_is_block_pointer K C) (WB E) (tCons (uCall (sp_own_pointer K C) (WB E) (tCons (tVar 0) (tNil))) (tNil))))) (uRaise C.BadImage (WB E)) (tNext))
  (tSeq (tAsg (uCall (sp_item_words K C) (WB E) (tCons (tVar 1) (tNil))) (gName 2))
  (tSeq (tAsg (tLst (tNil)) (gName 3))
  (tSeq (tFor (iRng1 (tCons (tOp (uIx K) (tVar 0) (tC (.int 1))) (tNil))) (gName 4)
  (tSeq (tAsg (tOp (uAdd K) (tC (.int 4)) (tOp (uMul) (tVar 2) (tVar 4))) (gName 5))
  (tDrop (tBM K "list" (rAppend) (tVar 3) (tCons (tTup (tCons (tCB (uTuple K) (tCons (tSl (uSl K) (tVar 0) (tPart (tVar 5)) (tPart (tOp (uAdd K) (tVar 5) (tC (.int 3))))) (tNil))) (tCons (tCB (uTuple K) (tCons (tSl (uSl K) (tVar 0) (tPart (tOp (uAdd K) (tVar 5) (tC (.int 3)))) (tPart (tOp (uAdd K) (tVar 5) (tVar 2)))) (tNil))) (tNil)))) (tNil))))))
  (tSeq (tIfS (tOr (uTru K (tCB (uAnyI K) (tCons (tSl (uSl K) (tVar 0) (tPart (tOp (uAdd K) (tC (.int 4)) (tOp (uMul) (tVar 2) (tOp (uIx K) (tVar 0) (tC (.int 1)))))) (tNoPart)) (tNil)))) (tNot (uTru K (uCall (sp_are_ascending K C) (WB E) (tCons (tVar 3) (tNil)))))) (uRaise C.BadImage (WB E)) (tNext))
  (tSeq (tIfS (tAnd (tTest (tOp (uEq K) (tVar 1) (tC (.int 2)))) (tNot (uTru K (tAllC C.T_from_block (iList K (tVar 3)) (uCall (sp_is_block_pointer K C) (fun _ _ _ _ => False) (tCons (tOp (uIx K) (tVar 0) (tC (.int 1))) (tNil))))))) (uRaise C.BadImage (WB E)) (tNext))
  (tRet (tTup (tCons (tVar 1) (tCons (tVar 3) (tNil))))))))))))
theorem pure_from_block {K : PySem.W.Frag} {C : Ex} {vs : List V} {H : Hp} {Q : VK} {E : XK} (F : Fa K C) (h : sp_from_block K C vs H Q E) : t_from_block K C E { nx := fun _ H' => Q .non H', rt := Q } (start ["block", "kind", "size", "items", "index", "at", "item"] vs) H := by
  obtain ⟨x, rfl, p, ws, rfl, hS, hl, h0, tb, k1, k2⟩ := h
  unfold t_from_block
  have e0 : ws.getD 0 0 = ws.getD (Int.toNat 0) 0 := rfl
  walk_at "run1"
  rename_i t0 ht0
  refine .inl ⟨[.int 1, .int 2], .inr (SqT.of upd_same), rfl, rfl, ?_⟩
  have s1 := same_new (o := .tup [.int 1, .int 2]) ht0
  generalize upd H t0 _ = H1 at *
  have hS1 := s1.seq hS
  have tb1 := TabG.same s1 tb
  have bad : ∀ H', Same H H' → okN ws = false → E (.ref C.BadImage) none H' := fun H' s h => k1 h H' (.same s) (TabG.same s tb)
  rw [inV_12]
  by_cases hk : ws.getD 0 0 = 1 ∨ ws.getD 0 0 = 2
  · rw [decide_eq_true (show ws.getD (Int.toNat 0) 0 = 1 ∨ ws.getD (Int.toNat 0) 0 = 2 from hk)]
    walk_at "run1"
    refine w_S1 ⟨_, rfl, fun h => (hk.elim h.1 h.2).elim, fun _ => ?_⟩
    walk_at "run1"
    · rename_i hg
      walk_at "run1"
      refine bad _ s1 ?_
      unfold okN
      rw [decide_eq_false (p := ws.getD 1 0 ≤ mostN (ws.getD 0 0)) (fun h => by have h2 : mostN (ws.getD 0 0) < ws.getD 1 0 := hg; omega)]
      simp
    rename_i hg
    have hg : ws.getD 1 0 ≤ mostN (ws.getD 0 0) := by
      have : ¬ mostN (ws.getD 0 0) < ws.getD 1 0 := hg
      omega
    walk_at "run1"
    refine w_S1 ⟨p, ws, rfl, hS1, by omega, fun t1 ht1 => ?_⟩
    have e1 : upd H1 t1 (.tup [.int (ws.getD 2 0), .int (ws.getD 3 0)]) t1 = some (.tup [.int (ws.getD 2 0), .int (ws.getD 3 0)]) := upd_same
    have s2 := same_updN (o := .tup [.int (ws.getD 2 0), .int (ws.getD 3 0)]) s1 ht1
    generalize upd H1 t1 _ = H2 at *
    have hS2 := s2.seq hS
    walk_at "run1"
    refine w_S1 ⟨t1, ws.getD 2 0, ws.getD 3 0, [], rfl, SqT.of e1, ?_⟩
    cases hp : isPtr (ws.getD 2 0) (ws.getD 3 0) with
    | false =>
      walk_at "run1"
      refine bad _ s2 ?_
      unfold okN
      rw [hp]
      simp
    | true =>
    walk_at "run1"
    refine w_S1 ⟨_, rfl, ?_⟩
    have hz : sizeN (ws.getD (Int.toNat 0) 0) = 7 ∧ ws.getD 1 0 ≤ 4 ∨ sizeN (ws.getD (Int.toNat 0) 0) = 5 ∧ ws.getD 1 0 ≤ 5 := by
      unfold mostN at hg
      rcases hk with h | h
      · rw [if_pos h] at hg
        exact .inl ⟨by rw [show ws.getD (Int.toNat 0) 0 = 1 from h]; rfl, hg⟩
      · rw [if_neg (by omega)] at hg
        exact .inr ⟨by rw [show ws.getD (Int.toNat 0) 0 = 2 from h]; rfl, hg⟩
    have hn0 : 0 ≤ ws.getD 1 0 := by
      rw [List.getD_eq_getElem?_getD, List.getElem?_eq_getElem (show 1 < ws.length by omega)]
      exact h0 _ (List.getElem_mem _)
    have hit : ∀ j : Nat, itN ws j = (⟨(ws.drop (4 + (sizeN (ws.getD (Int.toNat 0) 0)).toNat * j)).take 3⟩, ⟨(ws.drop (4 + (sizeN (ws.getD (Int.toNat 0) 0)).toNat * j + 3)).take ((sizeN (ws.getD (Int.toNat 0) 0)).toNat - 3)⟩) := fun j => rfl
    generalize hzz : sizeN (ws.getD (Int.toNat 0) 0) = z at *
    walk_at "run1"
    rename_i l hl0
    have hlH : H l = none := by
      cases q : H l with
      | none => rfl
      | some o => rw [s2 _ _ q] at hl0; cases hl0
    have s3 := same_updN (o := .lst []) s2 hl0
    have el3 : upd H2 l (.lst []) l = some (.lst []) := upd_same
    generalize upd H2 l _ = H3 at *
    have hS3 := s3.seq hS
    have hA : 0 ≤ ws.getD (Int.toNat 1) 0 := hn0
    have hB : ws.getD (Int.toNat 1) 0 ≤ 5 := by have : ws.getD 1 0 ≤ 5 := by omega
                                                exact this
    walk_at "run1"
    refine f_range (fun j σ H' => Same H H' ∧ (∃ v4 v5, σ = [some (.ref p), some (.int (ws.getD (Int.toNat 0) 0)), some (.int z), some (.ref l), v4, v5, none]) ∧ ∃ vs, H' l = some (.lst vs) ∧ DtAll K H' vs ((List.range j).map (itN ws))) ⟨s3, ⟨none, none, rfl⟩, [], el3, DtAll.nil⟩ ?_ ?_
    · rintro j σ H' hj ⟨s', ⟨v4, v5, rfl⟩, vs, el, dv⟩
      have hj : (j : Int) < ws.getD 1 0 := by have : j < (ws.getD 1 0 - 0).toNat := by simpa using hj
                                              omega
      have hS' := s'.seq hS
      have lv := dv.length
      rw [List.length_map, List.length_range] at lv
      have b1 : 4 + z.toNat * j + z.toNat ≤ 32 := by
        rcases hz with ⟨rfl, h⟩ | ⟨rfl, h⟩
        · show 4 + 7 * j + 7 ≤ 32
          omega
        · show 4 + 5 * j + 5 ≤ 32
          omega
      have b2 : 5 ≤ z.toNat ∧ z = (z.toNat : Int) := by
        rcases hz with ⟨rfl, h⟩ | ⟨rfl, h⟩ <;> exact ⟨by decide, by decide⟩
      have ez : z * (0 + (j : Int)) = ((z.toNat * j : Nat) : Int) := by rw [Int.natCast_mul, ← b2.2, Int.zero_add]
      have hat : 4 + z * (0 + (j : Int)) = ((4 + z.toNat * j : Nat) : Int) := by rw [ez]; omega
      have hj' := hit j
      generalize 4 + z.toNat * j = a at *
      walk_at "run1"
      rw [hat]
      refine w_slL hS' fun q1 hq1 => ?_
      rw [show ((a : Int) + 3) = ((a + 3 : Nat) : Int) by omega, cut_ints (by omega) (by omega), show a + 3 - a = 3 by omega]
      have s4 := same_updN (o := .lst (((ws.drop a).take 3).map V.int)) s' hq1
      have el4 := upd_old (o := .lst (((ws.drop a).take 3).map V.int)) el hq1
      have dv4 := dv.same (same_new (o := .lst (((ws.drop a).take 3).map V.int)) hq1)
      have eq1 : upd H' q1 (.lst (((ws.drop a).take 3).map V.int)) q1 = some (.lst (((ws.drop a).take 3).map V.int)) := upd_same
      generalize upd H' q1 _ = H4 at *
      have hS4 := s4.seq hS
      walk_at "run1"
      refine w_ttupL (SqL.of eq1) fun t2 ht2 => ?_
      have s5 := same_updN (o := .tup (((ws.drop a).take 3).map V.int)) s4 ht2
      have el5 := upd_old (o := .tup (((ws.drop a).take 3).map V.int)) el4 ht2
      have dv5 := dv4.same (same_new (o := .tup (((ws.drop a).take 3).map V.int)) ht2)
      have et2 : upd H4 t2 (.tup (((ws.drop a).take 3).map V.int)) t2 = some (.tup (((ws.drop a).take 3).map V.int)) := upd_same
      generalize upd H4 t2 _ = H5 at *
      have hS5 := s5.seq hS
      have b3 : (a : Int) + z = ((a + z.toNat : Nat) : Int) := by have := b2.2; omega
      walk_at "run1"
      refine w_slL hS5 fun q3 hq3 => ?_
      rw [show ((a : Int) + 3) = ((a + 3 : Nat) : Int) by omega, b3, cut_ints (by omega) (by omega), show a + z.toNat - (a + 3) = z.toNat - 3 by omega]
      have s6 := same_updN (o := .lst (((ws.drop (a + 3)).take (z.toNat - 3)).map V.int)) s5 hq3
      have el6 := upd_old (o := .lst (((ws.drop (a + 3)).take (z.toNat - 3)).map V.int)) el5 hq3
      have et6 := upd_old (o := .lst (((ws.drop (a + 3)).take (z.toNat - 3)).map V.int)) et2 hq3
      have dv6 := dv5.same (same_new (o := .lst (((ws.drop (a + 3)).take (z.toNat - 3)).map V.int)) hq3)
      have eq3 : upd H5 q3 (.lst (((ws.drop (a + 3)).take (z.toNat - 3)).map V.int)) q3 = some (.lst (((ws.drop (a + 3)).take (z.toNat - 3)).map V.int)) := upd_same
      generalize upd H5 q3 _ = H6 at *
      walk_at "run1"
      refine w_ttupL (SqL.of eq3) fun t4 ht4 => ?_
      have s7 := same_updN (o := .tup (((ws.drop (a + 3)).take (z.toNat - 3)).map V.int)) s6 ht4
      have el7 := upd_old (o := .tup (((ws.drop (a + 3)).take (z.toNat - 3)).map V.int)) el6 ht4
      have et7 := upd_old (o := .tup (((ws.drop (a + 3)).take (z.toNat - 3)).map V.int)) et6 ht4
      have dv7 := dv6.same (same_new (o := .tup (((ws.drop (a + 3)).take (z.toNat - 3)).map V.int)) ht4)
      have et4 : upd H6 t4 (.tup (((ws.drop (a + 3)).take (z.toNat - 3)).map V.int)) t4 = some (.tup (((ws.drop (a + 3)).take (z.toNat - 3)).map V.int)) := upd_same
      generalize upd H6 t4 _ = H7 at *
      walk_at "run1"
      rename_i t5 ht5
      have s8 := same_updN (o := .tup [.ref t2, .ref t4]) s7 ht5
      have el8 := upd_old (o := .tup [.ref t2, .ref t4]) el7 ht5
      have et8 := upd_old (o := .tup [.ref t2, .ref t4]) et7 ht5
      have et9 := upd_old (o := .tup [.ref t2, .ref t4]) et4 ht5
      have dv8 := dv7.same (same_new (o := .tup [.ref t2, .ref t4]) ht5)
      have et5 : upd H7 t5 (.tup [.ref t2, .ref t4]) t5 = some (.tup [.ref t2, .ref t4]) := upd_same
      generalize upd H7 t5 _ = H8 at *
      refine w_app el8 (lt_line (by omega)) ?_
      have dn : DtAll K H8 (vs ++ [.ref t5]) ((List.range (j + 1)).map (itN ws)) := by
        rw [List.range_succ, List.map_append]
        refine dv8.append (DtAll.cons ?_ DtAll.nil)
        show Dt K H8 (.ref t5) (itN ws j)
        rw [hj']
        exact of_it (SqT.of et5) (SqT.of et8) (SqT.of et9)
      exact ⟨same_upd s8 hlH, ⟨_, _, rfl⟩, _, upd_same, DpAll.wr el8 (fun _ q => nomatch q) (fun _ _ q => nomatch q) (tupN _) dn⟩
    · rintro σ H' ⟨s', ⟨v4, v5, rfl⟩, vs, el, dv⟩
      have dvN : DtAll K H' vs (itemsN ws) := dv
      have lvN := dvN.length
      have lN : (itemsN ws).length = (ws.getD 1 0).toNat := by unfold itemsN; rw [List.length_map, List.length_range]
      have hzn : z = (z.toNat : Int) := by rcases hz with ⟨rfl, h⟩ | ⟨rfl, h⟩ <;> decide
      have em : 4 + z * ws.getD (Int.toNat 1) 0 = ((4 + z.toNat * (ws.getD 1 0).toNat : Nat) : Int) := by
        have e : z * ws.getD (Int.toNat 1) 0 = ((z.toNat * (ws.getD 1 0).toNat : Nat) : Int) := by
          rw [Int.natCast_mul, ← hzn, show (((ws.getD 1 0).toNat : Nat) : Int) = ws.getD (Int.toNat 1) 0 from Int.toNat_of_nonneg hn0]
        rw [e]; omega
      have okE : okN ws = ((ws.drop (4 + z.toNat * (ws.getD 1 0).toNat)).all (fun w => decide (w = 0)) && ascB (keysN (itemsN ws)) && (decide (ws.getD 0 0 ≠ 2) || (itemsN ws).all ptrIt)) := by
        unfold okN
        rw [decide_eq_true hk, decide_eq_true hg, hp, show sizeN (ws.getD 0 0) = z from hzz]
        rfl
      generalize 4 + z.toNat * (ws.getD 1 0).toNat = m at *
      have hS' := s'.seq hS
      walk_at "run1"
      rw [em]
      refine w_slL hS' fun q1 hq1 => ?_
      rw [cut_drop, ← List.map_drop]
      have s4 := same_updN (o := .lst ((ws.drop m).map V.int)) s' hq1
      have el4 := upd_old (o := .lst ((ws.drop m).map V.int)) el hq1
      have dv4 := dvN.same (same_new (o := .lst ((ws.drop m).map V.int)) hq1)
      have eq1 : upd H' q1 (.lst ((ws.drop m).map V.int)) q1 = some (.lst ((ws.drop m).map V.int)) := upd_same
      generalize upd H' q1 _ = H4 at *
      walk_at "run1"
      refine ⟨q1, ws.drop m, rfl, SqL.of eq1, ?_⟩
      have eany : (ws.drop m).all (fun w => decide (w = 0)) = !((ws.drop m).any fun n => decide (n ≠ 0)) := by
        rw [List.not_any_eq_all_not]
        congr 1
        funext n
        by_cases q : n = 0
        · rw [decide_eq_true q, decide_eq_false (fun h => h q)]; rfl
        · rw [decide_eq_false q, decide_eq_true q]; rfl
      rw [eany] at okE
      cases ha : (ws.drop m).any fun n => decide (n ≠ 0) with
      | true =>
        rw [ha] at okE
        walk_at "run1"
        exact bad _ s4 okE
      | false =>
      rw [ha] at okE
      walk_at "run1"
      refine w_S1 ⟨l, vs, itemsN ws, rfl, SqL.of el4, dv4, by omega, ?_⟩
      cases hb : ascB (keysN (itemsN ws)) with
      | false =>
        rw [hb] at okE
        walk_at "run1"
        exact bad _ s4 okE
      | true =>
      rw [hb] at okE
      walk_at "run1"
      · rename_i hk2
        have hk2 : ws.getD 0 0 = 2 := hk2
        rw [decide_eq_false (p := ws.getD 0 0 ≠ 2) (fun h => h hk2)] at okE
        unfold tAllC
        walk_at "run1"
        refine ⟨TabG.same s4 tb, fun H5 hT => ?_⟩
        obtain ⟨⟨ps5, e5, tr5⟩, hoth⟩ := hT
        obtain ⟨ps4, e4, _⟩ := TabG.same s4 tb
        have eH5 : H5 = upd H4 C.T_from_block (.tbl ps5) := funext fun b => by
          by_cases q : b = C.T_from_block
          · rw [q, upd_same, e5]
          · rw [upd_ne q, hoth b q]
        have st5 : Stp [C.T_from_block] H [C.T_from_block] H5 := by
          rw [eH5]
          exact (Stp.same s4).upd (List.mem_cons_self ..)
        have tb5 : GxR.TabG H5 C.T_from_block := ⟨ps5, e5, tr5⟩
        have nl : l ≠ C.T_from_block := ne_of el4 e4 fun z => nomatch z
        have el5 : H5 l = some (.lst vs) := by rw [hoth l nl]; exact el4
        have dv5 : DtAll K H5 vs (itemsN ws) := by
          rw [eH5]
          exact DpAll.wr e4 (fun _ q => nomatch q) (fun _ _ q => nomatch q) (tupN _) dv4
        refine ⟨fun i m H => m = (itemsN ws).length - i ∧ i ≤ (itemsN ws).length ∧ H = H5 ∧ ∀ (j : Nat) x, j < i → (itemsN ws)[j]? = some x → ptrIt x = true, ⟨_, rfl, Nat.zero_le _, rfl, fun j x hj => absurd hj (Nat.not_lt_zero _)⟩, ?_⟩
        rintro i m H6 ⟨rfl, hi, rfl, hpt⟩
        rcases Nat.lt_or_ge i (itemsN ws).length with hlt | hge
        · obtain ⟨x, hx⟩ : ∃ x, (itemsN ws)[i]? = some x := ⟨_, List.getElem?_eq_getElem hlt⟩
          obtain ⟨v, hv⟩ : ∃ v, vs[i]? = some v := ⟨_, List.getElem?_eq_getElem (by omega)⟩
          obtain ⟨x', hx', hdx⟩ := dv5.get hv
          rw [hx] at hx'
          cases hx'
          obtain ⟨pp, aa, bb, rfl, g1, g2, g3⟩ := it_of hdx
          have z5 : z = 5 := by rw [← hzz, show ws.getD (Int.toNat 0) 0 = 2 from hk2]; rfl
          have hxi : x = itN ws i := by
            have q := hx
            unfold itemsN at q
            rw [List.getElem?_map, List.getElem?_range (by omega)] at q
            exact (Option.some.inj q).symm
          obtain ⟨ba, bc, hb2⟩ : ∃ ba bc, x.2.items = [ba, bc] := by
            have ln : x.2.items.length = 2 := by
              rw [hxi, hit i, z5]
              show ((ws.drop (4 + 5 * i + 3)).take (5 - 3)).length = 2
              rw [List.length_take, List.length_drop]
              omega
            match x.2.items, ln with
            | [a, b], _ => exact ⟨a, b, rfl⟩
          rw [hb2] at g3
          have hpx : ptrIt x = isPtr ba bc := by unfold ptrIt; rw [hb2]; rfl
          refine .inr ⟨⟨vs, _, SqL.of el5, hv⟩, fun H' => H' = H6 ∧ ptrIt x = true, ?_, ?_⟩
          · rintro H' ⟨rfl, hp2⟩
            refine ⟨_, ?_, rfl, hlt, rfl, fun j y hj hy => ?_⟩
            · omega
            · rcases Nat.lt_succ_iff_lt_or_eq.mp hj with q | q
              · exact hpt j y q hy
              · rw [q, hx] at hy
                cases hy
                exact hp2
          · rintro y H' ⟨rfl, hy⟩
            have hy := hy vs (SqL.of el5)
            rw [hv] at hy
            cases hy
            walk_at "run1"
            refine w_S1 ⟨bb, ba, bc, [], rfl, g3, ?_⟩
            refine ⟨_, rfl, ?_⟩
            cases hpb : isPtr ba bc with
            | true =>
              rw [if_pos rfl]
              exact ⟨rfl, by rw [hpx]; exact hpb⟩
            | false =>
              rw [if_neg Bool.false_ne_true]
              walk_at "run1"
              refine k1 ?_ _ st5 tb5
              rw [okE]
              have na : (itemsN ws).all ptrIt = false := by
                cases q : (itemsN ws).all ptrIt with
                | false => rfl
                | true =>
                  have := List.all_eq_true.mp q x (List.mem_of_getElem? hx)
                  rw [hpx, hpb] at this
                  cases this
              rw [na]
              rfl
        · refine .inl ⟨⟨vs, SqL.of el5, by omega⟩, ?_⟩
          have al : (itemsN ws).all ptrIt = true := List.all_eq_true.mpr fun x hx => by
            obtain ⟨j, hj⟩ := List.mem_iff_getElem?.mp hx
            exact hpt j x (Nat.lt_of_lt_of_le (List.getElem?_eq_some_iff.mp hj).1 hge) hj
          rw [al] at okE
          walk_at "run1"
          rename_i r hr
          have s5 := same_new (o := .tup [.int (ws.getD (Int.toNat 0) 0), .ref l]) hr
          have hrH : H r = none := by
            rcases st5.fresh hr with q | q
            · rw [List.mem_singleton.mp q, e5] at hr; cases hr
            · exact q
          exact k2 okE _ l r vs (st5.new hr) (TabG.same s5 tb5) (upd_old el5 hr) (dv5.same s5) hlH upd_same hrH
      · rename_i hk2
        have hk2 : ws.getD 0 0 ≠ 2 := hk2
        rw [decide_eq_true hk2] at okE
        walk_at "run1"
        rename_i r hr
        have s5 := same_updN (o := .tup [.int (ws.getD (Int.toNat 0) 0), .ref l]) s4 hr
        have hrH : H r = none := by
          cases q : H r with
          | none => rfl
          | some o => rw [s4 _ _ q] at hr; cases hr
        exact k2 okE _ l r vs (.same s5) (TabG.same s5 tb) (upd_old el4 hr) (dv4.same (same_new hr)) hlH upd_same hrH
  · rw [decide_eq_false (show ¬ (ws.getD (Int.toNat 0) 0 = 1 ∨ ws.getD (Int.toNat 0) 0 = 2) from hk)]
    walk_at "run1"
    refine bad _ s1 ?_
    unfold okN
    rw [decide_eq_false hk]
    rfl
abbrev TI := PySem.W.Tup Int
def blkB (ws : List Int) : Bool := decide (ws.length = 32) && ws.all fun z => decide (0 ≤ z)
def Blk (r : List Int) : Prop := r.length = 32 ∧ ∀ z ∈ r, 0 ≤ z
theorem blkB_iff {ws : List Int} : blkB ws = true ↔ Blk ws := by
  unfold blkB Blk
  rw [Bool.and_eq_true, List.all_eq_true, decide_eq_true_eq]
  exact ⟨fun h => ⟨h.1, fun z hz => of_decide_eq_true (h.2 z hz)⟩, fun h => ⟨h.1, fun z hz => decide_eq_true (h.2 z hz)⟩⟩
def exA (C : Ex) : Ec → Addr
  | .LaminaError => C.LaminaError | .NotValid => C.NotValid | .PowerOff => C.PowerOff | .NoProcess => C.NoProcess | .BadHandle => C.BadHandle | .NoVolume => C.NoVolume | .ReadOnly => C.ReadOnly
  | .BadName => C.BadName | .Missing => C.Missing | .WrongKind => C.WrongKind | .Exists => C.Exists | .LoopFound => C.LoopFound | .CrossVolume => C.CrossVolume | .Busy => C.Busy | .NotEmpty => C.NotEmpty
  | .TooMany => C.TooMany | .TooLong => C.TooLong | .OverQuota => C.OverQuota | .NoSpace => C.NoSpace | .BadImage => C.BadImage
theorem TabG.loc {T : Addr} {H H' : Hp} (h : GxR.TabG H T) (k : ∀ o, H T = some o → H' T = some o) : GxR.TabG H' T := by
  obtain ⟨ps, e, t⟩ := h
  exact ⟨ps, k _ e, t⟩
/-- the code's table of from_block -/
def tbA {K : PySem.W.Frag} (C : Ex) : Atom K :=
  ⟨fun H x _ => (∀ b, x b ↔ b = C.T_from_block) ∧ GxR.TabG H C.T_from_block, false, fun h k _ _ _ => ⟨h.1, TabG.loc h.2 fun o e => k _ ((h.1 _).mpr rfl) o e⟩, fun h b hb => by
    obtain ⟨ps, e, _⟩ := h.2
    rw [(h.1 b).mp hb, e]
    simp, fun z _ => by cases z⟩
section tbl
variable {K : PySem.W.Frag} {C : Ex} {H H' : Hp} {X : Ad} {R L : List (Atom K)}
/-- the table has changed, and perhaps a list is new -/
theorem tab_go {Y : Ad} (s : Sat H X (tbA C :: R)) (st : Stp [C.T_from_block] H [C.T_from_block] H') : TupS H H' := by
  obtain ⟨x, ⟨hx, ps, e0, _⟩, _⟩ := s.at_
  exact fun b o e i => st.1 b o e fun q => by
    rw [List.mem_singleton.mp q, e0] at e
    cases e
    rcases i with ⟨_, z⟩ | ⟨_, _, z⟩ <;> cases z
theorem sat_T (s : Sat H X (tbA C :: R)) (st : Stp [C.T_from_block] H [C.T_from_block] H') (tb : GxR.TabG H' C.T_from_block) : ∃ X', Go X H X' H' ∧ Sat H' X' (tbA C :: R) := by
  obtain ⟨X1, hf1, s1, fr⟩ := Sat.call (L := [tbA C]) (R := R) s
  have tt := tab_go (Y := X) s1 st
  obtain ⟨x, ⟨hx, tb0⟩, hX1, _⟩ := s1.at_
  have nT : ∀ b, X1.f b → b ≠ C.T_from_block := fun b hb q => (s1.ok b hb).1 (hX1 b ((hx b).mpr q))
  have g0 : Go X1 H ⟨fun b => b = C.T_from_block, X1.f⟩ H' := ⟨fun b o h n => st.1 b o h fun q => n (hX1 b ((hx b).mpr (List.mem_singleton.mp q))), fun b h => .inl (hX1 b ((hx b).mpr h)), fun b h => .inl h, fun _ h => h, tt⟩
  have s0 : Sat (K := K) H' ⟨fun b => b = C.T_from_block, X1.f⟩ [tbA C] := ⟨fun b hb => ⟨nT b hb, by
    cases e : H b with
    | none => exact absurd e (s1.ok b hb).2
    | some o => rw [st.1 b o e fun q => nT b hb (List.mem_singleton.mp q)]; simp⟩, fun b => b = C.T_from_block, ⟨fun b => Iff.rfl, tb⟩, fun _ h => h, trivial⟩
  obtain ⟨X', _, g, s'⟩ := fr _ _ _ g0 s0
  exact ⟨X', g, s'⟩
end tbl
section nad
variable {K : PySem.W.Frag} {C : Ex} {H H' : Hp} {X : Ad} {R L : List (Atom K)} {Q : VK} {E : XK} {v : V} {p : TI} {er : Ec → Unit → Prop}
theorem sat_T2 {α : Type} [DecidableEq α] [PySem.W.Datum α] {l : Addr} {vs : List V} {as : List α} (s : Sat H X (tbA C :: R)) (st : Stp [C.T_from_block] H [C.T_from_block] H') (tb : GxR.TabG H' C.T_from_block) (n : H l = none) (h : H' l = some (.lst vs)) (d : ∀ f, FtAll K f H' vs as) : ∃ X', Go X H X' H' ∧ Sat H' X' (tbA C :: lsA l as :: R) := by
  obtain ⟨X1, hf1, s1, fr⟩ := Sat.call (L := [tbA C]) (R := R) s
  have tt := tab_go (Y := X) s1 st
  obtain ⟨x, ⟨hx, tb0⟩, hX1, _⟩ := s1.at_
  obtain ⟨ps, e0, _⟩ := tb0
  have nl : l ≠ C.T_from_block := fun q => by rw [q, e0] at n; cases n
  have nT : ∀ b, X1.f b → b ≠ C.T_from_block := fun b hb q => (s1.ok b hb).1 (hX1 b ((hx b).mpr q))
  have g0 : Go X1 H ⟨fun b => b = C.T_from_block ∨ b = l, X1.f⟩ H' := ⟨fun b o h n => st.1 b o h fun q => n (hX1 b ((hx b).mpr (List.mem_singleton.mp q))), fun b h => by
    rcases h with h | h
    · exact .inl (hX1 b ((hx b).mpr h))
    · exact .inr (by rw [h]; exact n), fun b h => .inl h, fun _ h => h, tt⟩
  have s0 : Sat (K := K) H' ⟨fun b => b = C.T_from_block ∨ b = l, X1.f⟩ [tbA C, lsA l as] := ⟨fun b hb => ⟨fun q => by
    rcases q with q | q
    · exact nT b hb q
    · exact (s1.ok b hb).2 (by rw [q]; exact n), by
    cases e : H b with
    | none => exact absurd e (s1.ok b hb).2
    | some o => rw [st.1 b o e fun q => nT b hb (List.mem_singleton.mp q)]; simp⟩, fun b => b = C.T_from_block, ⟨fun b => Iff.rfl, tb⟩, fun _ h => .inl h, fun b => b = l, ⟨fun b => Iff.rfl, vs, h, d _⟩, fun b h => ⟨.inr h, fun q => nl (h.symm.trans q)⟩, trivial⟩
  obtain ⟨X', _, g, s'⟩ := fr _ _ _ g0 s0
  exact ⟨X', g, s'⟩
def mFromBlock (ws : List Int) : M Unit (Int × List NIt) := M.chk (blkB ws = true) fun s => if okN ws = true then (.ok (ws.getD 0 0, itemsN ws), s) else (.err .BadImage, s)
theorem u_from_block {ok : Int × List NIt → Unit → Prop} {q : Addr} {ws : List Int} (s : Sat H X (tbA C :: lsA q ws :: R)) (k : Wp (mFromBlock ws) () ok er)
    (hk : ∀ r S', ok r S' → ∀ v l H' X', Go X H X' H' → Sat H' X' (tbA C :: tpA v [.int r.1, .ref l] :: lsA l r.2 :: lsA q ws :: R) → Q v H') (he : ∀ e S', er e S' → ∀ H' X', Go X H X' H' → Sat H' X' (tbA C :: lsA q ws :: R) → E (.ref (exA C e)) none H') : sp_from_block K C [.ref q] H Q E := by
  obtain ⟨vs, ev, dv⟩ := s.ls 1 rfl
  obtain ⟨c, k⟩ := k.chk
  have b := blkB_iff.mp c
  have e : vs = ws.map V.int := dpAll_ints dv.dt
  subst e
  have tb : GxR.TabG H C.T_from_block := by
    obtain ⟨x, ⟨_, t⟩, _⟩ := s.at_
    exact t
  replace k := k.p
  unfold WpP at k
  dsimp only at k
  refine w_S1 ⟨q, ws, rfl, SqL.of ev, b.1, b.2, tb, fun h H' st tb' => ?_, fun h H' l r vs' st tb' e1 d1 n1 e2 n2 => ?_⟩
  · rw [if_neg (by rw [h]; exact Bool.false_ne_true)] at k
    obtain ⟨X', g, s'⟩ := sat_T s st tb'
    exact he _ _ k _ _ g s'
  · rw [if_pos h] at k
    obtain ⟨X', g, s'⟩ := sat_T2 s st tb' n1 e1 fun f => d1.ft
    exact hk _ _ k (.ref r) l H' X' g ((s'.im (A := tpA (.ref r) [.int (ws.getD 0 0), .ref l]) ⟨fun _ q => q, r, rfl, SqT.of e2⟩).swap)
end nad
namespace PL
variable {σ α β γ : Type} {s : σ} {ok : γ → σ → Prop} {er : Ec → σ → Prop}
theorem bindI {m : M σ α} {f : α → M σ γ} (h : Wp m s (fun a s' => Wp (f a) s' ok er) er) : Wp (M.bind m f) s ok er := Wp.bind_iff.mpr h
theorem iteI {c : Prop} [Decidable c] {m1 m2 : M σ γ} (h1 : c → Wp m1 s ok er) (h2 : ¬ c → Wp m2 s ok er) : Wp (if c then m1 else m2) s ok er := by
  by_cases h : c
  · rw [if_pos h]; exact h1 h
  · rw [if_neg h]; exact h2 h
theorem itT {c : Prop} [Decidable c] {m1 m2 : M σ γ} (h : c) (h1 : Wp m1 s ok er) : Wp (if c then m1 else m2) s ok er := by rw [if_pos h]; exact h1
theorem itF {c : Prop} [Decidable c] {m1 m2 : M σ γ} (h : ¬ c) (h1 : Wp m2 s ok er) : Wp (if c then m1 else m2) s ok er := by rw [if_neg h]; exact h1
theorem for_ind {f : α → β → (β → M σ γ) → (β → M σ γ) → M σ γ} {g : β → M σ γ} (I : List α → β → σ → Prop) (h0 : ∀ b s, I [] b s → Wp (g b) s ok er)
    (hs : ∀ x xs b s, I (x :: xs) b s → ∀ nx : β → M σ γ, (∀ b' s', I xs b' s' → Wp (nx b') s' ok er) → Wp (f x b nx g) s ok er) : ∀ xs b s, I xs b s → Wp (M.mFor f g xs b) s ok er
  | [], b, s, h => h0 b s h
  | x :: xs, b, s, h => hs x xs b s h _ fun b' s' h' => for_ind I h0 hs xs b' s' h'
end PL
open PL
theorem law_sat {K : PySem.W.Frag} {C : Ex} {H : Hp} {p : Addr} {ns : List Int} (tb : H C.T_from_block = some (.tbl #[])) (h : SqL K H p (ns.map V.int)) : ∃ X, Sat (K := K) H X [tbA C, roA p ns] := by
  have t : GxR.TabG H C.T_from_block := ⟨#[], tb, trivial⟩
  have one : ∀ (y : As), (roA (K := K) p ns).P H y (fun _ => False) → (∀ b, y b → b ≠ C.T_from_block) → ∃ X, Sat (K := K) H X [tbA C, roA p ns] := fun y hy n => ⟨⟨fun b => b = C.T_from_block ∨ y b, fun _ => False⟩, fun b hb => hb.elim, fun b => b = C.T_from_block, ⟨fun b => Iff.rfl, t⟩, fun b h => .inl h, y, hy, fun b h => ⟨.inr h, n b h⟩, trivial⟩
  rcases h with h | h
  · refine one (fun b => b = p) ⟨ns.map V.int, FtAll.ints ns, .inl ⟨fun b => Iff.rfl, h⟩⟩ fun b hb q => ?_
    rw [hb] at q
    subst q
    rcases h with h | ⟨o, h⟩
    · rw [tb] at h; cases h
    · rw [tb] at h; cases h
  · exact one (fun _ => False) ⟨ns.map V.int, FtAll.ints ns, .inr ⟨fun b q => q, fun G => .inr h⟩⟩ fun b hb => hb.elim
def m__law_cell (y1 : List Int) (y4 : Int) : M Unit Int :=
  if y4 < (y1.length : Int) then M.need (L2.atI y1 y4) fun x6 => M.ret x6 else M.ret 0
def sp__law_cell (K : PySem.W.Frag) (C : Ex) : Sp := S2 fun z1 z2 H Q E => ∃ (N : Nat) (y1 : List Int) (p2 : Addr) (y4 : Int) (X : Ad) (ok : Int → Unit → Prop) (er : Ec → Unit → Prop), z1 = .ref p2 ∧ z2 = .int y4 ∧ Sat (K := K) H X [roA p2 y1] ∧ Wp (m__law_cell y1 y4) () ok er ∧ (∀ r S', ok r S' → ∀ H' X', Go X H X' H' → Sat (K := K) H' X' [roA p2 y1] → Q (.int r) H') ∧ (∀ e S', er e S' → ∀ H' X', Go X H X' H' → Sat (K := K) H' X' [roA p2 y1] → E (.ref (exA C e)) none H')
def t__law_cell (K : PySem.W.Frag) (C : Ex) (E : XK) : TS :=
  tSeq (tIfS (tTest (tOp (uLt K) (tVar 1) (tCB (uLen K) (tCons (tVar 0) (tNil))))) (tRet (tOp (uIx K) (tVar 0) (tVar 1))) (tNext))
  (tRet (tC (.int 0)))
theorem pure__law_cell {K : PySem.W.Frag} {C : Ex} {vs : List V} {H : Hp} {Q : VK} {E : XK} (F : Fa K C) (h : sp__law_cell K C vs H Q E) : t__law_cell K C E { nx := fun _ H' => Q .non H', rt := Q } (start ["_law_script", "_law_k"] vs) H := by
  obtain ⟨z1, z2, rfl, N, y1, p2, y4, X, ok, er, rfl, rfl, sat, k, hok, her⟩ := h
  have go : Go X H X H := .refl
  unfold t__law_cell
  unfold m__law_cell at k
  with_reducible refine w_seq ?_
  with_reducible refine w_if ?_
  with_reducible refine w_test ?_
  with_reducible refine w_op ?_
  walk_at "v"
  with_reducible refine w_cb ?_
  with_reducible refine w_cons ?_
  walk_at "v"
  with_reducible refine w_nil ?_
  refine a_lenR sat 0 rfl ?_
  refine w_lt ?_
  refine w_blP ?_
  refine ifP (fun h5 => ?_) (fun h5 => ?_)
  · replace k := Wp.ite_t h5 k
    with_reducible refine w_ret ?_
    with_reducible refine w_op ?_
    walk_at "v"
    walk_at "v"
    obtain ⟨x6, h8, k⟩ := Wp.need k
    refine a_ixR sat 0 rfl h8 ?_
    clear sat
    intro w7 sat
    obtain rfl := Dt.int_inv (sat.dt 0 rfl)
    exact hok _ _ (Wp.ret k) _ _ go (sat.sub [1])
  · replace k := Wp.ite_f h5 k
    with_reducible refine w_next ?_
    with_reducible refine w_ret ?_
    with_reducible refine w_c ?_
    exact hok _ _ (Wp.ret k) _ _ go (sat.sub [0])
theorem u__law_cell {K : PySem.W.Frag} {C : Ex} {H : Hp} {Q : VK} {E : XK} {y1 : List Int} {p2 : Addr} {y4 : Int}  {X : Ad} {R : List (Atom K)} {ok : Int → Unit → Prop} {er : Ec → Unit → Prop} (sat : Sat H X ([roA p2 y1] ++ R)) (k : Wp (m__law_cell y1 y4) () ok er) (hok : ∀ r S', ok r S' → ∀ H' X', Go X H X' H' → Sat (K := K) H' X' ([roA p2 y1] ++ R) → Q (.int r) H') (her : ∀ e S', er e S' → ∀ H' X', Go X H X' H' → Sat (K := K) H' X' ([roA p2 y1] ++ R) → E (.ref (exA C e)) none H') : sp__law_cell K C [.ref p2, .int y4] H Q E := by
  obtain ⟨X1, -, s1, fr⟩ := Sat.call (R := R) sat
  exact w_S2 ⟨0, y1, p2, y4, X1, ok, er, rfl, rfl, s1, k, fun r S' h H' X' g s => by obtain ⟨X2, -, g2, s2⟩ := fr _ _ _ g s; exact hok r S' h _ _ g2 s2, fun e S' h H' X' g s => by obtain ⟨X2, -, g2, s2⟩ := fr _ _ _ g s; exact her e S' h _ _ g2 s2⟩
def m__law_word (N : Nat) (y1 : Int) : M Unit Int :=
  if (y1 % 2) = 0 then M.need (L2.atI (⟨[0, 1, 2, 3, 4, 5, 6, 255, 256, 4611686018427387903]⟩ : TI).items ((y1 / 2) % 10)) fun x7 => M.ret x7 else M.ret ((y1 / 2) % 4611686018427387904)
def sp__law_word (K : PySem.W.Frag) (C : Ex) : Sp := S1 fun z1 H Q E => ∃ (N : Nat) (y1 : Int) (X : Ad) (ok : Int → Unit → Prop) (er : Ec → Unit → Prop), z1 = .int y1 ∧ Sat (K := K) H X [] ∧ Wp (m__law_word N y1) () ok er ∧ (∀ r S', ok r S' → ∀ H' X', Go X H X' H' → Sat (K := K) H' X' [] → Q (.int r) H') ∧ (∀ e S', er e S' → ∀ H' X', Go X H X' H' → Sat (K := K) H' X' [] → E (.ref (exA C e)) none H')
def t__law_word (K : PySem.W.Frag) (C : Ex) (E : XK) : TS :=
  tSeq (tAsg (tTup (tCons (tC (.int 0)) (tCons (tC (.int 1)) (tCons (tC (.int 2)) (tCons (tC (.int 3)) (tCons (tC (.int 4)) (tCons (tC (.int 5)) (tCons (tC (.int 6)) (tCons (tC (.int 255)) (tCons (tC (.int 256)) (tCons (tC (.int 4611686018427387903)) (tNil)))))))))))) (gName 1))
  (tSeq (tIfS (tTest (tOp (uEq K) (tOp (uMod) (tVar 0) (tC (.int 2))) (tC (.int 0)))) (tRet (tOp (uIx K) (tVar 1) (tOp (uMod) (tOp (uDiv) (tVar 0) (tC (.int 2))) (tC (.int 10))))) (tNext))
  (tRet (tOp (uMod) (tOp (uDiv) (tVar 0) (tC (.int 2))) (tC (.int 4611686018427387904)))))
theorem pure__law_word {K : PySem.W.Frag} {C : Ex} {vs : List V} {H : Hp} {Q : VK} {E : XK} (F : Fa K C) (h : sp__law_word K C vs H Q E) : t__law_word K C E { nx := fun _ H' => Q .non H', rt := Q } (start ["_law_cell_here", "_law_menu"] vs) H := by
  obtain ⟨z1, rfl, N, y1, X, ok, er, rfl, sat, k, hok, her⟩ := h
  have go : Go X H X H := .refl
  unfold t__law_word
  unfold m__law_word at k
  with_reducible refine w_seq ?_
  with_reducible refine w_asg ?_
  with_reducible refine w_tup ?_
  with_reducible refine w_cons ?_
  with_reducible refine w_c ?_
  with_reducible refine w_cons ?_
  with_reducible refine w_c ?_
  with_reducible refine w_cons ?_
  with_reducible refine w_c ?_
  with_reducible refine w_cons ?_
  with_reducible refine w_c ?_
  with_reducible refine w_cons ?_
  with_reducible refine w_c ?_
  with_reducible refine w_cons ?_
  with_reducible refine w_c ?_
  with_reducible refine w_cons ?_
  with_reducible refine w_c ?_
  with_reducible refine w_cons ?_
  with_reducible refine w_c ?_
  with_reducible refine w_cons ?_
  with_reducible refine w_c ?_
  with_reducible refine w_cons ?_
  with_reducible refine w_c ?_
  with_reducible refine w_nil ?_
  refine a_newTi [0, 1, 2, 3, 4, 5, 6, 255, 256, 4611686018427387903] sat (Nat.le_of_ble_eq_true rfl) ?_
  clear sat
  intro p2 H4 X5 g sat
  replace go := go.trans g
  clear g
  with_reducible refine w_name ?_
  with_reducible refine w_seq ?_
  with_reducible refine w_if ?_
  with_reducible refine w_test ?_
  with_reducible refine w_op ?_
  with_reducible refine w_op ?_
  walk_at "v"
  with_reducible refine w_c ?_
  refine w_mod (by decide) ?_
  with_reducible refine w_c ?_
  refine w_eqI ?_
  refine w_blP ?_
  refine ifP (fun h6 => ?_) (fun h6 => ?_)
  · replace k := Wp.ite_t h6 k
    with_reducible refine w_ret ?_
    with_reducible refine w_op ?_
    walk_at "v"
    with_reducible refine w_op ?_
    with_reducible refine w_op ?_
    walk_at "v"
    with_reducible refine w_c ?_
    refine w_div ⟨by decide, by decide⟩ ?_
    with_reducible refine w_c ?_
    refine w_mod (by decide) ?_
    obtain ⟨x7, h9, k⟩ := Wp.need k
    refine a_ixT (sat.ft 0 rfl) sat h9 ?_
    clear sat
    intro w8 sat
    obtain rfl := Dt.int_inv (sat.dt 0 rfl)
    exact hok _ _ (Wp.ret k) _ _ go (sat.sub [])
  · replace k := Wp.ite_f h6 k
    with_reducible refine w_next ?_
    with_reducible refine w_ret ?_
    with_reducible refine w_op ?_
    with_reducible refine w_op ?_
    walk_at "v"
    with_reducible refine w_c ?_
    refine w_div ⟨by decide, by decide⟩ ?_
    with_reducible refine w_c ?_
    refine w_mod (by decide) ?_
    exact hok _ _ (Wp.ret k) _ _ go (sat.sub [])
theorem u__law_word {K : PySem.W.Frag} {C : Ex} {H : Hp} {Q : VK} {E : XK} {N : Nat} {y1 : Int}  {X : Ad} {R : List (Atom K)} {ok : Int → Unit → Prop} {er : Ec → Unit → Prop} (sat : Sat H X ([] ++ R)) (k : Wp (m__law_word N y1) () ok er) (hok : ∀ r S', ok r S' → ∀ H' X', Go X H X' H' → Sat (K := K) H' X' ([] ++ R) → Q (.int r) H') (her : ∀ e S', er e S' → ∀ H' X', Go X H X' H' → Sat (K := K) H' X' ([] ++ R) → E (.ref (exA C e)) none H') : sp__law_word K C [.int y1] H Q E := by
  obtain ⟨X1, -, s1, fr⟩ := Sat.call (R := R) sat
  exact w_S1 ⟨N, y1, X1, ok, er, rfl, s1, k, fun r S' h H' X' g s => by obtain ⟨X2, -, g2, s2⟩ := fr _ _ _ g s; exact hok r S' h _ _ g2 s2, fun e S' h H' X' g s => by obtain ⟨X2, -, g2, s2⟩ := fr _ _ _ g s; exact her e S' h _ _ g2 s2⟩
def m__law_node (N : Nat) (y1 : List Int) : M Unit ((List Int) × Int) :=
  M.bind (m__law_cell y1 0) fun r8 => M.bind (m__law_cell y1 0) fun r11 => M.chk (0 < (4 + (1 + (r8 % 2)))) <| M.bind (m__law_cell y1 1) fun r15 => M.bind (m__law_cell y1 1) fun r18 => M.need (L2.atI [(1 + (r8 % 2)), ((r11 / 2) % (4 + (1 + (r8 % 2)))), (5 + (r15 % 251)), (1 + ((r18 / 251) % 99))] 1) fun x25 => M.chk (rngOk x25) <| M.mFor (fun (x42 : Int) (y30 : List Int) (nx37 bk38 : (List Int) → M Unit ((List Int) × Int)) => M.bind (m__law_cell y1 (2 + x42)) fun r49 => M.chk (y30.length + [(1 + (x42 / 2)), ((r49 % 3) + (3 * x42)), ((r49 / 3) % 100)].length ≤ 1000000) <| if (1 + (r8 % 2)) = 2 then M.chk ((y30 ++ [(1 + (x42 / 2)), ((r49 % 3) + (3 * x42)), ((r49 / 3) % 100)]).length + [(5 + (r49 % 251)), (1 + ((r49 / 251) % 5))].length ≤ 1000000) <| nx37 ((y30 ++ [(1 + (x42 / 2)), ((r49 % 3) + (3 * x42)), ((r49 / 3) % 100)]) ++ [(5 + (r49 % 251)), (1 + ((r49 / 251) % 5))]) else M.chk ((y30 ++ [(1 + (x42 / 2)), ((r49 % 3) + (3 * x42)), ((r49 / 3) % 100)]).length + [(r49 % 7), ((r49 / 7) % 7), 0, ((r49 / 49) % 1000000000000)].length ≤ 1000000) <| nx37 ((y30 ++ [(1 + (x42 / 2)), ((r49 % 3) + (3 * x42)), ((r49 / 3) % 100)]) ++ [(r49 % 7), ((r49 / 7) % 7), 0, ((r49 / 49) % 1000000000000)])) (fun (y30 : List Int) => M.chk ((0 : Int) ≤ 32 ∧ (32 : Int) ≤ 100000 ∧ [0].length ≤ 100) <| M.chk (y30.length + ((List.replicate (32 : Int).toNat [0]).flatten).length ≤ 1000000) <| M.ret ((cutA (y30 ++ (List.replicate (32 : Int).toNat [0]).flatten) none (some 32)), (9 - (2 * (1 + (r8 % 2)))))) (rngL 0 x25.toNat) [(1 + (r8 % 2)), ((r11 / 2) % (4 + (1 + (r8 % 2)))), (5 + (r15 % 251)), (1 + ((r18 / 251) % 99))]
def sp__law_node (K : PySem.W.Frag) (C : Ex) : Sp := S1 fun z1 H Q E => ∃ (N : Nat) (y1 : List Int) (p2 : Addr) (X : Ad) (ok : ((List Int) × Int) → Unit → Prop) (er : Ec → Unit → Prop), z1 = .ref p2 ∧ Sat (K := K) H X [roA p2 y1] ∧ Wp (m__law_node N y1) () ok er ∧ (∀ r S', ok r S' → ∀ v4 p5 H' X', Go X H X' H' → Sat (K := K) H' X' [tpA v4 [.ref p5, .int r.2], lsA p5 r.1, roA p2 y1] → Q v4 H') ∧ (∀ e S', er e S' → ∀ H' X', Go X H X' H' → Sat (K := K) H' X' [roA p2 y1] → E (.ref (exA C e)) none H')
def t__law_node (K : PySem.W.Frag) (C : Ex) (E : XK) : TS :=
  tSeq (tAsg (tOp (uAdd K) (tC (.int 1)) (tOp (uMod) (uCall (sp__law_cell K C) (WB E) (tCons (tVar 0) (tCons (tC (.int 0)) (tNil)))) (tC (.int 2)))) (gName 1))
  (tSeq (tAsg (tOp (uSub) (tC (.int 9)) (tOp (uMul) (tC (.int 2)) (tVar 1))) (gName 2))
  (tSeq (tAsg (tOp (uMod) (tOp (uDiv) (uCall (sp__law_cell K C) (WB E) (tCons (tVar 0) (tCons (tC (.int 0)) (tNil)))) (tC (.int 2))) (tOp (uAdd K) (tC (.int 4)) (tVar 1))) (gName 3))
  (tSeq (tAsg (tLst (tCons (tVar 1) (tCons (tVar 3) (tCons (tOp (uAdd K) (tC (.int 5)) (tOp (uMod) (uCall (sp__law_cell K C) (WB E) (tCons (tVar 0) (tCons (tC (.int 1)) (tNil)))) (tC (.int 251)))) (tCons (tOp (uAdd K) (tC (.int 1)) (tOp (uMod) (tOp (uDiv) (uCall (sp__law_cell K C) (WB E) (tCons (tVar 0) (tCons (tC (.int 1)) (tNil)))) (tC (.int 251))) (tC (.int 99)))) (tNil)))))) (gName 4))
  (tSeq (tFor (iRng1 (tCons (tOp (uIx K) (tVar 4) (tC (.int 1))) (tNil))) (gName 5)
  (tSeq (tAsg (uCall (sp__law_cell K C) (WB E) (tCons (tVar 0) (tCons (tOp (uAdd K) (tC (.int 2)) (tVar 5)) (tNil)))) (gName 6))
  (tSeq (tAsg (tOp (uAdd K) (tVar 4) (tLst (tCons (tOp (uAdd K) (tC (.int 1)) (tOp (uDiv) (tVar 5) (tC (.int 2)))) (tCons (tOp (uAdd K) (tOp (uMod) (tVar 6) (tC (.int 3))) (tOp (uMul) (tC (.int 3)) (tVar 5))) (tCons (tOp (uMod) (tOp (uDiv) (tVar 6) (tC (.int 3))) (tC (.int 100))) (tNil)))))) (gName 4))
  (tIfS (tTest (tOp (uEq K) (tVar 1) (tC (.int 2)))) (tAsg (tOp (uAdd K) (tVar 4) (tLst (tCons (tOp (uAdd K) (tC (.int 5)) (tOp (uMod) (tVar 6) (tC (.int 251)))) (tCons (tOp (uAdd K) (tC (.int 1)) (tOp (uMod) (tOp (uDiv) (tVar 6) (tC (.int 251))) (tC (.int 5)))) (tNil))))) (gName 4)) (tAsg (tOp (uAdd K) (tVar 4) (tLst (tCons (tOp (uMod) (tVar 6) (tC (.int 7))) (tCons (tOp (uMod) (tOp (uDiv) (tVar 6) (tC (.int 7))) (tC (.int 7))) (tCons (tC (.int 0)) (tCons (tOp (uMod) (tOp (uDiv) (tVar 6) (tC (.int 49))) (tOp (uPow) (tC (.int 10)) (tC (.int 12)))) (tNil))))))) (gName 4))))))
  (tRet (tTup (tCons (tSl (uSl K) (tOp (uAdd K) (tVar 4) (tOp (uMul) (tLst (tCons (tC (.int 0)) (tNil))) (tC (.int 32)))) (tNoPart) (tPart (tC (.int 32)))) (tCons (tVar 2) (tNil)))))))))
theorem pure__law_node {K : PySem.W.Frag} {C : Ex} {vs : List V} {H : Hp} {Q : VK} {E : XK} (F : Fa K C) (h : sp__law_node K C vs H Q E) : t__law_node K C E { nx := fun _ H' => Q .non H', rt := Q } (start ["_law_script", "_law_kind", "_law_size", "_law_many", "_law_words", "_law_turn", "_law_cell_here"] vs) H := by
  obtain ⟨z1, rfl, N, y1, p2, X, ok, er, rfl, sat, k, hok, her⟩ := h
  have go : Go X H X H := .refl
  unfold t__law_node
  unfold m__law_node at k
  with_reducible refine w_seq ?_
  with_reducible refine w_asg ?_
  with_reducible refine w_op ?_
  with_reducible refine w_c ?_
  with_reducible refine w_op ?_
  with_reducible refine w_call ?_
  with_reducible refine w_cons ?_
  walk_at "v"
  with_reducible refine w_cons ?_
  with_reducible refine w_c ?_
  with_reducible refine w_nil ?_
  refine u__law_cell (R := []) (sat.sub [0]) (Wp.bind k) ?_ (fun e S k H X g sat => her e _ k _ _ (go.trans g) (sat.sub [0]))
  clear sat k
  intro r8 _ k H9 X10 g sat
  replace go := go.trans g
  clear g
  with_reducible refine w_c ?_
  refine w_mod (by decide) ?_
  refine w_add ?_
  with_reducible refine w_name ?_
  with_reducible refine w_seq ?_
  with_reducible refine w_asg ?_
  with_reducible refine w_op ?_
  with_reducible refine w_c ?_
  with_reducible refine w_op ?_
  with_reducible refine w_c ?_
  walk_at "v"
  refine w_mulU (.inl (.inl ⟨by decide, by decide⟩)) ?_
  refine w_sub ?_
  with_reducible refine w_name ?_
  with_reducible refine w_seq ?_
  with_reducible refine w_asg ?_
  with_reducible refine w_op ?_
  with_reducible refine w_op ?_
  with_reducible refine w_call ?_
  with_reducible refine w_cons ?_
  walk_at "v"
  with_reducible refine w_cons ?_
  with_reducible refine w_c ?_
  with_reducible refine w_nil ?_
  refine u__law_cell (R := []) (sat.sub [0]) (Wp.bind k) ?_ (fun e S k H X g sat => her e _ k _ _ (go.trans g) (sat.sub [0]))
  clear sat k
  intro r11 _ k H12 X13 g sat
  replace go := go.trans g
  clear g
  with_reducible refine w_c ?_
  refine w_div ⟨by decide, by decide⟩ ?_
  with_reducible refine w_op ?_
  with_reducible refine w_c ?_
  walk_at "v"
  refine w_add ?_
  obtain ⟨h14, k⟩ := Wp.chk k
  refine w_mod h14 ?_
  with_reducible refine w_name ?_
  with_reducible refine w_seq ?_
  with_reducible refine w_asg ?_
  with_reducible refine w_lst ?_
  with_reducible refine w_cons ?_
  walk_at "v"
  with_reducible refine w_cons ?_
  walk_at "v"
  with_reducible refine w_cons ?_
  with_reducible refine w_op ?_
  with_reducible refine w_c ?_
  with_reducible refine w_op ?_
  with_reducible refine w_call ?_
  with_reducible refine w_cons ?_
  walk_at "v"
  with_reducible refine w_cons ?_
  with_reducible refine w_c ?_
  with_reducible refine w_nil ?_
  refine u__law_cell (R := []) (sat.sub [0]) (Wp.bind k) ?_ (fun e S k H X g sat => her e _ k _ _ (go.trans g) (sat.sub [0]))
  clear sat k
  intro r15 _ k H16 X17 g sat
  replace go := go.trans g
  clear g
  with_reducible refine w_c ?_
  refine w_mod (by decide) ?_
  refine w_add ?_
  with_reducible refine w_cons ?_
  with_reducible refine w_op ?_
  with_reducible refine w_c ?_
  with_reducible refine w_op ?_
  with_reducible refine w_op ?_
  with_reducible refine w_call ?_
  with_reducible refine w_cons ?_
  walk_at "v"
  with_reducible refine w_cons ?_
  with_reducible refine w_c ?_
  with_reducible refine w_nil ?_
  refine u__law_cell (R := []) (sat.sub [0]) (Wp.bind k) ?_ (fun e S k H X g sat => her e _ k _ _ (go.trans g) (sat.sub [0]))
  clear sat k
  intro r18 _ k H19 X20 g sat
  replace go := go.trans g
  clear g
  with_reducible refine w_c ?_
  refine w_div ⟨by decide, by decide⟩ ?_
  with_reducible refine w_c ?_
  refine w_mod (by decide) ?_
  refine w_add ?_
  with_reducible refine w_nil ?_
  refine a_newL (as := ([(1 + (r8 % 2)), ((r11 / 2) % (4 + (1 + (r8 % 2)))), (5 + (r15 % 251)), (1 + ((r18 / 251) % 99))] : List Int)) sat (FtAll.cons Ft.int (FtAll.cons Ft.int (FtAll.cons Ft.int (FtAll.cons Ft.int FtAll.nil)))) (Nat.le_of_ble_eq_true rfl) ?_
  clear sat
  intro p21 H23 X24 g sat
  replace go := go.trans g
  clear g
  with_reducible refine w_name ?_
  with_reducible refine w_seq ?_
  with_reducible refine w_for ?_
  with_reducible refine w_rng1 ?_
  with_reducible refine w_cons ?_
  with_reducible refine w_op ?_
  walk_at "v"
  with_reducible refine w_c ?_
  obtain ⟨x25, h27, k⟩ := Wp.need k
  refine a_ixL sat 0 rfl h27 ?_
  clear sat
  intro w26 sat
  obtain rfl := Dt.int_inv (sat.dt 0 rfl)
  with_reducible refine w_nil ?_
  obtain ⟨h29, k⟩ := Wp.chk k
  refine a_rng1v h29 ?_
  obtain ⟨f33, ef35, g34, eg36, k⟩ := Wp.fr k
  refine a_forR (fun r41 σ47 H39 => ∃ (y30 : List Int) (p31 : Addr) (u44 : Option V) (u45 : Option V) (u46 : Option V) (X40 : Ad), σ47 = [some (.ref p2), some (.int (1 + (r8 % 2))), some (.int (9 - (2 * (1 + (r8 % 2))))), u44, some (.ref p31), u45, u46] ∧ Go X H X40 H39 ∧ Sat (K := K) H39 X40 [roA p2 y1, lsA p31 y30] ∧ Wp (M.mFor f33 g34 r41 y30) () ok er) ⟨_, _, _, _, _, _, rfl, go, (sat.sub [2, 1]), k⟩ ?_ ?_
  · rintro x42 r41 σ47 H39 ⟨y30, p31, u44, u45, u46, X40, rfl, go, sat, k⟩
    replace k := Wp.frC k ef35
    with_reducible refine w_name ?_
    with_reducible refine w_seq ?_
    with_reducible refine w_asg ?_
    with_reducible refine w_call ?_
    with_reducible refine w_cons ?_
    walk_at "v"
    with_reducible refine w_cons ?_
    with_reducible refine w_op ?_
    with_reducible refine w_c ?_
    walk_at "v"
    refine w_add ?_
    with_reducible refine w_nil ?_
    refine u__law_cell (R := [lsA p31 y30]) (sat.sub [0, 1]) (Wp.bind k) ?_ (fun e S k H X g sat => her e _ k _ _ (go.trans g) (sat.sub [0]))
    clear sat k
    intro r49 _ k H50 X51 g sat
    replace go := go.trans g
    clear g
    with_reducible refine w_name ?_
    with_reducible refine w_seq ?_
    with_reducible refine w_asg ?_
    with_reducible refine w_op ?_
    walk_at "v"
    with_reducible refine w_lst ?_
    with_reducible refine w_cons ?_
    with_reducible refine w_op ?_
    with_reducible refine w_c ?_
    with_reducible refine w_op ?_
    walk_at "v"
    with_reducible refine w_c ?_
    refine w_div ⟨by decide, by decide⟩ ?_
    refine w_add ?_
    with_reducible refine w_cons ?_
    with_reducible refine w_op ?_
    with_reducible refine w_op ?_
    walk_at "v"
    with_reducible refine w_c ?_
    refine w_mod (by decide) ?_
    with_reducible refine w_op ?_
    with_reducible refine w_c ?_
    walk_at "v"
    refine w_mulU (.inl (.inl ⟨by decide, by decide⟩)) ?_
    refine w_add ?_
    with_reducible refine w_cons ?_
    with_reducible refine w_op ?_
    with_reducible refine w_op ?_
    walk_at "v"
    with_reducible refine w_c ?_
    refine w_div ⟨by decide, by decide⟩ ?_
    with_reducible refine w_c ?_
    refine w_mod (by decide) ?_
    with_reducible refine w_nil ?_
    refine a_newL (as := ([(1 + (x42 / 2)), ((r49 % 3) + (3 * x42)), ((r49 / 3) % 100)] : List Int)) sat (FtAll.cons Ft.int (FtAll.cons Ft.int (FtAll.cons Ft.int FtAll.nil))) (Nat.le_of_ble_eq_true rfl) ?_
    clear sat
    intro p52 H54 X55 g sat
    replace go := go.trans g
    clear g
    obtain ⟨h56, k⟩ := Wp.chk k
    refine a_cat sat 2 0 rfl rfl h56 ?_
    clear sat
    intro p57 H59 X60 g sat
    replace go := go.trans g
    clear g
    with_reducible refine w_name ?_
    with_reducible refine w_if ?_
    with_reducible refine w_test ?_
    with_reducible refine w_op ?_
    walk_at "v"
    with_reducible refine w_c ?_
    refine w_eqI ?_
    refine w_blP ?_
    refine ifP (fun h61 => ?_) (fun h61 => ?_)
    · replace k := Wp.ite_t h61 k
      with_reducible refine w_asg ?_
      with_reducible refine w_op ?_
      walk_at "v"
      with_reducible refine w_lst ?_
      with_reducible refine w_cons ?_
      with_reducible refine w_op ?_
      with_reducible refine w_c ?_
      with_reducible refine w_op ?_
      walk_at "v"
      with_reducible refine w_c ?_
      refine w_mod (by decide) ?_
      refine w_add ?_
      with_reducible refine w_cons ?_
      with_reducible refine w_op ?_
      with_reducible refine w_c ?_
      with_reducible refine w_op ?_
      with_reducible refine w_op ?_
      walk_at "v"
      with_reducible refine w_c ?_
      refine w_div ⟨by decide, by decide⟩ ?_
      with_reducible refine w_c ?_
      refine w_mod (by decide) ?_
      refine w_add ?_
      with_reducible refine w_nil ?_
      refine a_newL (as := ([(5 + (r49 % 251)), (1 + ((r49 / 251) % 5))] : List Int)) sat (FtAll.cons Ft.int (FtAll.cons Ft.int FtAll.nil)) (Nat.le_of_ble_eq_true rfl) ?_
      clear sat
      intro p62 H64 X65 g sat
      replace go := go.trans g
      clear g
      obtain ⟨h66, k⟩ := Wp.chk k
      refine a_cat sat 1 0 rfl rfl h66 ?_
      clear sat
      intro p67 H69 X70 g sat
      replace go := go.trans g
      clear g
      with_reducible refine w_name ?_
      exact ⟨_, _, _, _, _, _, rfl, go, (sat.sub [4, 0]), k⟩
    · replace k := Wp.ite_f h61 k
      with_reducible refine w_asg ?_
      with_reducible refine w_op ?_
      walk_at "v"
      with_reducible refine w_lst ?_
      with_reducible refine w_cons ?_
      with_reducible refine w_op ?_
      walk_at "v"
      with_reducible refine w_c ?_
      refine w_mod (by decide) ?_
      with_reducible refine w_cons ?_
      with_reducible refine w_op ?_
      with_reducible refine w_op ?_
      walk_at "v"
      with_reducible refine w_c ?_
      refine w_div ⟨by decide, by decide⟩ ?_
      with_reducible refine w_c ?_
      refine w_mod (by decide) ?_
      with_reducible refine w_cons ?_
      with_reducible refine w_c ?_
      with_reducible refine w_cons ?_
      with_reducible refine w_op ?_
      with_reducible refine w_op ?_
      walk_at "v"
      with_reducible refine w_c ?_
      refine w_div ⟨by decide, by decide⟩ ?_
      with_reducible refine w_op ?_
      with_reducible refine w_c ?_
      with_reducible refine w_c ?_
      refine w_powc (r := 1000000000000) ⟨by decide, by decide, by decide⟩ (by decide +kernel) ?_
      refine w_mod (by decide) ?_
      with_reducible refine w_nil ?_
      refine a_newL (as := ([(r49 % 7), ((r49 / 7) % 7), 0, ((r49 / 49) % 1000000000000)] : List Int)) sat (FtAll.cons Ft.int (FtAll.cons Ft.int (FtAll.cons Ft.int (FtAll.cons Ft.int FtAll.nil)))) (Nat.le_of_ble_eq_true rfl) ?_
      clear sat
      intro p71 H73 X74 g sat
      replace go := go.trans g
      clear g
      obtain ⟨h75, k⟩ := Wp.chk k
      refine a_cat sat 1 0 rfl rfl h75 ?_
      clear sat
      intro p76 H78 X79 g sat
      replace go := go.trans g
      clear g
      with_reducible refine w_name ?_
      exact ⟨_, _, _, _, _, _, rfl, go, (sat.sub [4, 0]), k⟩
  rintro σ47 H39 ⟨y30, p31, u44, u45, u46, X40, rfl, go, sat, k⟩
  replace k := Wp.frN k eg36
  with_reducible refine w_ret ?_
  with_reducible refine w_tup ?_
  with_reducible refine w_cons ?_
  with_reducible refine w_sl ?_
  with_reducible refine w_op ?_
  walk_at "v"
  with_reducible refine w_op ?_
  with_reducible refine w_lst ?_
  with_reducible refine w_cons ?_
  with_reducible refine w_c ?_
  with_reducible refine w_nil ?_
  refine a_newL (as := ([0] : List Int)) sat (FtAll.cons Ft.int FtAll.nil) (Nat.le_of_ble_eq_true rfl) ?_
  clear sat
  intro p80 H82 X83 g sat
  replace go := go.trans g
  clear g
  with_reducible refine w_c ?_
  obtain ⟨h84, k⟩ := Wp.chk k
  refine a_rep sat 0 rfl h84 ?_
  clear sat
  intro p85 H87 X88 g sat
  replace go := go.trans g
  clear g
  obtain ⟨h89, k⟩ := Wp.chk k
  refine a_cat sat 3 0 rfl rfl h89 ?_
  clear sat
  intro p90 H92 X93 g sat
  replace go := go.trans g
  clear g
  with_reducible refine w_noPart ?_
  with_reducible refine w_part ?_
  with_reducible refine w_c ?_
  refine w_partI ?_
  refine a_slL sat 0 rfl ?_
  clear sat
  intro p94 H96 X97 g sat
  replace go := go.trans g
  clear g
  with_reducible refine w_cons ?_
  walk_at "v"
  with_reducible refine w_nil ?_
  refine a_newT sat (Nat.le_of_ble_eq_true rfl) ?_
  clear sat
  intro p98 H100 X101 g sat
  replace go := go.trans g
  clear g
  exact hok _ _ (Wp.ret k) _ _ _ _ go (sat.sub [0, 1, 5])
theorem u__law_node {K : PySem.W.Frag} {C : Ex} {H : Hp} {Q : VK} {E : XK} {N : Nat} {y1 : List Int} {p2 : Addr}  {X : Ad} {R : List (Atom K)} {ok : ((List Int) × Int) → Unit → Prop} {er : Ec → Unit → Prop} (sat : Sat H X ([roA p2 y1] ++ R)) (k : Wp (m__law_node N y1) () ok er) (hok : ∀ r S', ok r S' → ∀ v4 p5 H' X', Go X H X' H' → Sat (K := K) H' X' ([tpA v4 [.ref p5, .int r.2], lsA p5 r.1, roA p2 y1] ++ R) → Q v4 H') (her : ∀ e S', er e S' → ∀ H' X', Go X H X' H' → Sat (K := K) H' X' ([roA p2 y1] ++ R) → E (.ref (exA C e)) none H') : sp__law_node K C [.ref p2] H Q E := by
  obtain ⟨X1, -, s1, fr⟩ := Sat.call (R := R) sat
  exact w_S1 ⟨N, y1, p2, X1, ok, er, rfl, s1, k, fun r S' h v4 p5 H' X' g s => by obtain ⟨X2, -, g2, s2⟩ := fr _ _ _ g s; exact hok r S' h _ _ _ _ g2 s2, fun e S' h H' X' g s => by obtain ⟨X2, -, g2, s2⟩ := fr _ _ _ g s; exact her e S' h _ _ g2 s2⟩
def m__law_pointer (N : Nat) (y1 : List Int) : M Unit Bool :=
  M.need (L2.atI y1 0) fun x4 => if 5 ≤ x4 then if x4 ≤ 255 then M.need (L2.atI y1 1) fun x10 => M.ret (decide (1 ≤ x10)) else M.ret false else if false = true then M.need (L2.atI y1 1) fun x15 => M.ret (decide (1 ≤ x15)) else M.ret false
def sp__law_pointer (K : PySem.W.Frag) (C : Ex) : Sp := S1 fun z1 H Q E => ∃ (N : Nat) (y1 : List Int) (p2 : Addr) (X : Ad) (ok : Bool → Unit → Prop) (er : Ec → Unit → Prop), z1 = .ref p2 ∧ Sat (K := K) H X [lsA p2 y1] ∧ Wp (m__law_pointer N y1) () ok er ∧ (∀ r S', ok r S' → ∀ H' X', Go X H X' H' → Sat (K := K) H' X' [lsA p2 y1] → Q (.bl r) H') ∧ (∀ e S', er e S' → ∀ H' X', Go X H X' H' → Sat (K := K) H' X' [lsA p2 y1] → E (.ref (exA C e)) none H')
def t__law_pointer (K : PySem.W.Frag) (C : Ex) (E : XK) : TS :=
  tRet (tAndV (tChain (uLe K) (uLe K) (tC (.int 5)) (tOp (uIx K) (tVar 0) (tC (.int 0))) (tC (.int 255))) (tOp (uGe K) (tOp (uIx K) (tVar 0) (tC (.int 1))) (tC (.int 1))))
theorem pure__law_pointer {K : PySem.W.Frag} {C : Ex} {vs : List V} {H : Hp} {Q : VK} {E : XK} (F : Fa K C) (h : sp__law_pointer K C vs H Q E) : t__law_pointer K C E { nx := fun _ H' => Q .non H', rt := Q } (start ["_law_words"] vs) H := by
  obtain ⟨z1, rfl, N, y1, p2, X, ok, er, rfl, sat, k, hok, her⟩ := h
  have go : Go X H X H := .refl
  unfold t__law_pointer
  unfold m__law_pointer at k
  with_reducible refine w_ret ?_
  with_reducible refine w_andV ?_
  with_reducible refine w_chain ?_
  with_reducible refine w_c ?_
  with_reducible refine w_op ?_
  walk_at "v"
  with_reducible refine w_c ?_
  obtain ⟨x4, h6, k⟩ := Wp.need k
  refine a_ixL sat 0 rfl h6 ?_
  clear sat
  intro w5 sat
  obtain rfl := Dt.int_inv (sat.dt 0 rfl)
  refine w_le ?_
  refine w_blP ?_
  refine ifP (fun h8 => ?_) (fun h8 => ?_)
  · replace k := Wp.ite_t h8 k
    with_reducible refine w_c ?_
    refine w_le ?_
    refine w_blP ?_
    refine ifP (fun h9 => ?_) (fun h9 => ?_)
    · replace k := Wp.ite_t h9 k
      with_reducible refine w_op ?_
      with_reducible refine w_op ?_
      walk_at "v"
      with_reducible refine w_c ?_
      obtain ⟨x10, h12, k⟩ := Wp.need k
      refine a_ixL sat 1 rfl h12 ?_
      clear sat
      intro w11 sat
      obtain rfl := Dt.int_inv (sat.dt 0 rfl)
      with_reducible refine w_c ?_
      refine w_ge ?_
      exact hok _ _ (Wp.ret k) _ _ go (sat.sub [2])
    · replace k := Wp.ite_f h9 k
      exact hok _ _ (Wp.ret k) _ _ go (sat.sub [1])
  · replace k := Wp.ite_f h8 k
    refine w_blP ?_
    refine ifB (fun h14 => ?_) (fun h14 => ?_)
    · replace k := Wp.ite_t h14 k
      with_reducible refine w_op ?_
      with_reducible refine w_op ?_
      walk_at "v"
      with_reducible refine w_c ?_
      obtain ⟨x15, h17, k⟩ := Wp.need k
      refine a_ixL sat 1 rfl h17 ?_
      clear sat
      intro w16 sat
      obtain rfl := Dt.int_inv (sat.dt 0 rfl)
      with_reducible refine w_c ?_
      refine w_ge ?_
      exact hok _ _ (Wp.ret k) _ _ go (sat.sub [2])
    · replace k := Wp.ite_f (ne_t h14) k
      exact hok _ _ (Wp.ret k) _ _ go (sat.sub [1])
theorem u__law_pointer {K : PySem.W.Frag} {C : Ex} {H : Hp} {Q : VK} {E : XK} {N : Nat} {y1 : List Int} {p2 : Addr}  {X : Ad} {R : List (Atom K)} {ok : Bool → Unit → Prop} {er : Ec → Unit → Prop} (sat : Sat H X ([lsA p2 y1] ++ R)) (k : Wp (m__law_pointer N y1) () ok er) (hok : ∀ r S', ok r S' → ∀ H' X', Go X H X' H' → Sat (K := K) H' X' ([lsA p2 y1] ++ R) → Q (.bl r) H') (her : ∀ e S', er e S' → ∀ H' X', Go X H X' H' → Sat (K := K) H' X' ([lsA p2 y1] ++ R) → E (.ref (exA C e)) none H') : sp__law_pointer K C [.ref p2] H Q E := by
  obtain ⟨X1, -, s1, fr⟩ := Sat.call (R := R) sat
  exact w_S1 ⟨N, y1, p2, X1, ok, er, rfl, s1, k, fun r S' h H' X' g s => by obtain ⟨X2, -, g2, s2⟩ := fr _ _ _ g s; exact hok r S' h _ _ g2 s2, fun e S' h H' X' g s => by obtain ⟨X2, -, g2, s2⟩ := fr _ _ _ g s; exact her e S' h _ _ g2 s2⟩
def m__law_due (N : Nat) (y1 : List Int) : M Unit (Option (Int × (List (TI × TI)))) :=
  M.join (fun j6 => M.need (L2.atI y1 0) fun x13 => if ¬ (x13 = 1) then M.need (L2.atI y1 0) fun x18 => j6 (!decide (x18 = 2)) else j6 false) fun b12 => if b12 = true then M.ret none else M.need (L2.atI y1 0) fun x24 => M.join (fun j28 => M.need (L2.atI y1 1) fun x35 => M.need (L2.atI y1 0) fun x39 => if (3 + x39) < x35 then j28 true else M.bind (m__law_pointer N (cutA y1 (some 2) (some 4))) fun r48 => j28 (!r48)) fun b34 => if b34 = true then M.ret none else M.need (L2.atI y1 1) fun x57 => M.chk (rngOk x57) <| M.mFor (fun (x72 : Int) (y62 : List (TI × TI)) (nx67 bk68 : (List (TI × TI)) → M Unit (Option (Int × (List (TI × TI))))) => M.chk (mulOk (9 - (2 * x24)) x72) <| M.chk (mulOk (9 - (2 * x24)) (x72 + 1)) <| M.need (L2.atI (cutA y1 (some (4 + ((9 - (2 * x24)) * x72))) (some (4 + ((9 - (2 * x24)) * (x72 + 1))))) 0) fun x84 => M.need (L2.atI (cutA y1 (some (4 + ((9 - (2 * x24)) * x72))) (some (4 + ((9 - (2 * x24)) * (x72 + 1))))) 1) fun x88 => M.need (L2.atI (cutA y1 (some (4 + ((9 - (2 * x24)) * x72))) (some (4 + ((9 - (2 * x24)) * (x72 + 1))))) 2) fun x92 => M.join (fun j100 => if ¬ (y62 = ([] : List (TI × TI))) then M.need (L2.atI y62 (-1)) fun x112 => j100 (lexGe x112.1.items (⟨[x84, x88, x92]⟩ : TI).items) else j100 false) fun b106 => if b106 = true then M.ret none else M.join (fun j122 => M.need (L2.atI y1 0) fun x129 => if x129 = 2 then M.bind (m__law_pointer N (cutA (cutA y1 (some (4 + ((9 - (2 * x24)) * x72))) (some (4 + ((9 - (2 * x24)) * (x72 + 1))))) (some 3) none)) fun r138 => j122 (!r138) else j122 false) fun b128 => if b128 = true then M.ret none else M.chk (y62.length < 1000000) <| nx67 (y62 ++ [(((⟨[x84, x88, x92]⟩ : TI), (⟨(cutA (cutA y1 (some (4 + ((9 - (2 * x24)) * x72))) (some (4 + ((9 - (2 * x24)) * (x72 + 1))))) (some 3) none)⟩ : TI)) : TI × TI)])) (fun (y62 : List (TI × TI)) => M.need (L2.atI y1 1) fun x162 => M.chk (mulOk (9 - (2 * x24)) x162) <| M.mFor (fun (x179 : Int) (_ : Unit) (nx174 bk175 : Unit → M Unit (Option (Int × (List (TI × TI))))) => if ¬ (x179 = 0) then M.ret none else nx174 ()) (fun (_ : Unit) => M.need (L2.atI y1 0) fun x191 => M.ret (some ((x191, y62) : Int × (List (TI × TI))))) (cutA y1 (some (4 + ((9 - (2 * x24)) * x162))) none) ()) (rngL 0 x57.toNat) ([] : List (TI × TI))
def sp__law_due (K : PySem.W.Frag) (C : Ex) : Sp := S1 fun z1 H Q E => ∃ (N : Nat) (y1 : List Int) (p2 : Addr) (X : Ad) (ok : (Option (Int × (List (TI × TI)))) → Unit → Prop) (er : Ec → Unit → Prop), z1 = .ref p2 ∧ Sat (K := K) H X [lsA p2 y1] ∧ Wp (m__law_due N y1) () ok er ∧ (∀ r S', ok r S' → ∀ v4 H' X', Go X H X' H' → Sat (K := K) H' X' [imA v4 r, lsA p2 y1] → Q v4 H') ∧ (∀ e S', er e S' → ∀ H' X', Go X H X' H' → Sat (K := K) H' X' [lsA p2 y1] → E (.ref (exA C e)) none H')
def t__law_due (K : PySem.W.Frag) (C : Ex) (E : XK) : TS :=
  tSeq (tIfS (tAnd (tTest (tOp (uNe K) (tOp (uIx K) (tVar 0) (tC (.int 0))) (tC (.int 1)))) (tTest (tOp (uNe K) (tOp (uIx K) (tVar 0) (tC (.int 0))) (tC (.int 2))))) (tRet (tC .non)) (tNext))
  (tSeq (tAsg (tOp (uSub) (tC (.int 9)) (tOp (uMul) (tC (.int 2)) (tOp (uIx K) (tVar 0) (tC (.int 0))))) (gName 1))
  (tSeq (tIfS (tOr (tTest (tOp (uGt) (tOp (uIx K) (tVar 0) (tC (.int 1))) (tOp (uAdd K) (tC (.int 3)) (tOp (uIx K) (tVar 0) (tC (.int 0)))))) (tNot (uTru K (uCall (sp__law_pointer K C) (WB E) (tCons (tSl (uSl K) (tVar 0) (tPart (tC (.int 2))) (tPart (tC (.int 4)))) (tNil)))))) (tRet (tC .non)) (tNext))
  (tSeq (tAsg (tLst (tNil)) (gName 2))
  (tSeq (tFor (iRng1 (tCons (tOp (uIx K) (tVar 0) (tC (.int 1))) (tNil))) (gName 3)
  (tSeq (tAsg (tSl (uSl K) (tVar 0) (tPart (tOp (uAdd K) (tC (.int 4)) (tOp (uMul) (tVar 1) (tVar 3)))) (tPart (tOp (uAdd K) (tC (.int 4)) (tOp (uMul) (tVar 1) (tOp (uAdd K) (tVar 3) (tC (.int 1))))))) (gName 4))
  (tSeq (tAsg (tTup (tCons (tOp (uIx K) (tVar 4) (tC (.int 0))) (tCons (tOp (uIx K) (tVar 4) (tC (.int 1))) (tCons (tOp (uIx K) (tVar 4) (tC (.int 2))) (tNil))))) (gName 5))
  (tSeq (tIfS (tAnd (tTest (tOp (uNe K) (tVar 2) (tLst (tNil)))) (tTest (tOp (uGe K) (tOp (uIx K) (tOp (uIx K) (tVar 2) (tUn uNeg (tC (.int 1)))) (tC (.int 0))) (tVar 5)))) (tRet (tC .non)) (tNext))
  (tSeq (tIfS (tAnd (tTest (tOp (uEq K) (tOp (uIx K) (tVar 0) (tC (.int 0))) (tC (.int 2)))) (tNot (uTru K (uCall (sp__law_pointer K C) (WB E) (tCons (tSl (uSl K) (tVar 4) (tPart (tC (.int 3))) (tNoPart)) (tNil)))))) (tRet (tC .non)) (tNext))
  (tDrop (tBM K "list" (rAppend) (tVar 2) (tCons (tTup (tCons (tVar 5) (tCons (tCB (uTuple K) (tCons (tSl (uSl K) (tVar 4) (tPart (tC (.int 3))) (tNoPart)) (tNil))) (tNil)))) (tNil)))))))))
  (tSeq (tFor (iList K (tSl (uSl K) (tVar 0) (tPart (tOp (uAdd K) (tC (.int 4)) (tOp (uMul) (tVar 1) (tOp (uIx K) (tVar 0) (tC (.int 1)))))) (tNoPart))) (gName 6)
  (tIfS (tTest (tOp (uNe K) (tVar 6) (tC (.int 0)))) (tRet (tC .non)) (tNext)))
  (tRet (tTup (tCons (tOp (uIx K) (tVar 0) (tC (.int 0))) (tCons (tVar 2) (tNil))))))))))
theorem pure__law_due {K : PySem.W.Frag} {C : Ex} {vs : List V} {H : Hp} {Q : VK} {E : XK} (F : Fa K C) (h : sp__law_due K C vs H Q E) : t__law_due K C E { nx := fun _ H' => Q .non H', rt := Q } (start ["_law_words", "_law_size", "_law_items", "_law_turn", "_law_part", "_law_key", "_law_word_here"] vs) H := by
  obtain ⟨z1, rfl, N, y1, p2, X, ok, er, rfl, sat, k, hok, her⟩ := h
  have go : Go X H X H := .refl
  unfold t__law_due
  unfold m__law_due at k
  with_reducible refine w_seq ?_
  with_reducible refine w_if ?_
  obtain ⟨j6, ej203, k⟩ := Wp.join k
  refine w_tst (fun b12 H10 => ∃ X11, Go X H X11 H10 ∧ Sat (K := K) H10 X11 [lsA p2 y1] ∧ Wp (j6 b12) () ok er) (fun QB8 hq9 => ?_) ?_
  · with_reducible refine w_and ?_
    with_reducible refine w_test ?_
    with_reducible refine w_op ?_
    with_reducible refine w_op ?_
    walk_at "v"
    with_reducible refine w_c ?_
    obtain ⟨x13, h15, k⟩ := Wp.need k
    refine a_ixL sat 0 rfl h15 ?_
    clear sat
    intro w14 sat
    obtain rfl := Dt.int_inv (sat.dt 0 rfl)
    with_reducible refine w_c ?_
    refine w_neI ?_
    refine w_blP ?_
    refine ifN (fun h17 => ?_) (fun h17 => ?_)
    · replace k := Wp.ite_t h17 k
      with_reducible refine w_test ?_
      with_reducible refine w_op ?_
      with_reducible refine w_op ?_
      walk_at "v"
      with_reducible refine w_c ?_
      obtain ⟨x18, h20, k⟩ := Wp.need k
      refine a_ixL sat 1 rfl h20 ?_
      clear sat
      intro w19 sat
      obtain rfl := Dt.int_inv (sat.dt 0 rfl)
      with_reducible refine w_c ?_
      refine w_neI ?_
      refine w_blP ?_
      exact hq9 _ _ ⟨_, go, (sat.sub [2]), k⟩
    · replace k := Wp.ite_f (fun q => q h17) k
      exact hq9 _ _ ⟨_, go, (sat.sub [1]), k⟩
  rintro b12 H10 ⟨X11, go, sat, k⟩
  replace k := Wp.at_ k ej203
  refine ifB (fun h22 => ?_) (fun h22 => ?_)
  · replace k := Wp.ite_t h22 k
    with_reducible refine w_ret ?_
    with_reducible refine w_c ?_
    replace sat := sat.imf (Ft.none_ (α := Int × (List (TI × TI))))
    exact hok _ _ (Wp.ret k) _ _ _ go (sat.sub [0, 1])
  · replace k := Wp.ite_f (ne_t h22) k
    with_reducible refine w_next ?_
    with_reducible refine w_seq ?_
    with_reducible refine w_asg ?_
    with_reducible refine w_op ?_
    with_reducible refine w_c ?_
    with_reducible refine w_op ?_
    with_reducible refine w_c ?_
    with_reducible refine w_op ?_
    walk_at "v"
    with_reducible refine w_c ?_
    obtain ⟨x24, h26, k⟩ := Wp.need k
    refine a_ixL sat 0 rfl h26 ?_
    clear sat
    intro w25 sat
    obtain rfl := Dt.int_inv (sat.dt 0 rfl)
    refine w_mulU (.inl (.inl ⟨by decide, by decide⟩)) ?_
    refine w_sub ?_
    with_reducible refine w_name ?_
    with_reducible refine w_seq ?_
    with_reducible refine w_if ?_
    obtain ⟨j28, ej202, k⟩ := Wp.join k
    refine w_tst (fun b34 H32 => ∃ X33, Go X H X33 H32 ∧ Sat (K := K) H32 X33 [lsA p2 y1] ∧ Wp (j28 b34) () ok er) (fun QB30 hq31 => ?_) ?_
    · with_reducible refine w_or ?_
      with_reducible refine w_test ?_
      with_reducible refine w_op ?_
      with_reducible refine w_op ?_
      walk_at "v"
      with_reducible refine w_c ?_
      obtain ⟨x35, h37, k⟩ := Wp.need k
      refine a_ixL sat 1 rfl h37 ?_
      clear sat
      intro w36 sat
      obtain rfl := Dt.int_inv (sat.dt 0 rfl)
      with_reducible refine w_op ?_
      with_reducible refine w_c ?_
      with_reducible refine w_op ?_
      walk_at "v"
      with_reducible refine w_c ?_
      obtain ⟨x39, h41, k⟩ := Wp.need k
      refine a_ixL sat 2 rfl h41 ?_
      clear sat
      intro w40 sat
      obtain rfl := Dt.int_inv (sat.dt 0 rfl)
      refine w_add ?_
      refine w_gt ?_
      refine w_blP ?_
      refine ifP (fun h43 => ?_) (fun h43 => ?_)
      · replace k := Wp.ite_t h43 k
        exact hq31 _ _ ⟨_, go, (sat.sub [3]), k⟩
      · replace k := Wp.ite_f h43 k
        with_reducible refine w_not ?_
        with_reducible refine w_tru ?_
        with_reducible refine w_call ?_
        with_reducible refine w_cons ?_
        with_reducible refine w_sl ?_
        walk_at "v"
        with_reducible refine w_part ?_
        with_reducible refine w_c ?_
        refine w_partI ?_
        with_reducible refine w_part ?_
        with_reducible refine w_c ?_
        refine w_partI ?_
        refine a_slL sat 3 rfl ?_
        clear sat
        intro p44 H46 X47 g sat
        replace go := go.trans g
        clear g
        with_reducible refine w_nil ?_
        refine u__law_pointer (R := [lsA p2 y1]) (sat.sub [0, 4]) (Wp.bind k) ?_ (fun e S k H X g sat => her e _ k _ _ (go.trans g) (sat.sub [1]))
        clear sat k
        intro r48 _ k H49 X50 g sat
        replace go := go.trans g
        clear g
        refine w_truB ?_
        exact hq31 _ _ ⟨_, go, (sat.sub [1]), k⟩
    rintro b34 H32 ⟨X33, go, sat, k⟩
    replace k := Wp.at_ k ej202
    refine ifB (fun h51 => ?_) (fun h51 => ?_)
    · replace k := Wp.ite_t h51 k
      with_reducible refine w_ret ?_
      with_reducible refine w_c ?_
      replace sat := sat.imf (Ft.none_ (α := Int × (List (TI × TI))))
      exact hok _ _ (Wp.ret k) _ _ _ go (sat.sub [0, 1])
    · replace k := Wp.ite_f (ne_t h51) k
      with_reducible refine w_next ?_
      with_reducible refine w_seq ?_
      with_reducible refine w_asg ?_
      with_reducible refine w_lst ?_
      with_reducible refine w_nil ?_
      refine a_newL (as := ([] : List (TI × TI))) sat FtAll.nil (Nat.le_of_ble_eq_true rfl) ?_
      clear sat
      intro p53 H55 X56 g sat
      replace go := go.trans g
      clear g
      with_reducible refine w_name ?_
      with_reducible refine w_seq ?_
      with_reducible refine w_for ?_
      with_reducible refine w_rng1 ?_
      with_reducible refine w_cons ?_
      with_reducible refine w_op ?_
      walk_at "v"
      with_reducible refine w_c ?_
      obtain ⟨x57, h59, k⟩ := Wp.need k
      refine a_ixL sat 1 rfl h59 ?_
      clear sat
      intro w58 sat
      obtain rfl := Dt.int_inv (sat.dt 0 rfl)
      with_reducible refine w_nil ?_
      obtain ⟨h61, k⟩ := Wp.chk k
      refine a_rng1v h61 ?_
      obtain ⟨f63, ef65, g64, eg66, k⟩ := Wp.fr k
      refine a_forR (fun r71 σ78 H69 => ∃ (y62 : List (TI × TI)) (u74 : Option V) (u75 : Option V) (u76 : Option V) (u77 : Option V) (X70 : Ad), σ78 = [some (.ref p2), some (.int (9 - (2 * x24))), some (.ref p53), u74, u75, u76, u77] ∧ Go X H X70 H69 ∧ Sat (K := K) H69 X70 [lsA p2 y1, lsA p53 y62] ∧ Wp (M.mFor f63 g64 r71 y62) () ok er) ⟨_, _, _, _, _, _, rfl, go, (sat.sub [2, 1]), k⟩ ?_ ?_
      · rintro x72 r71 σ78 H69 ⟨y62, u74, u75, u76, u77, X70, rfl, go, sat, k⟩
        replace k := Wp.frC k ef65
        with_reducible refine w_name ?_
        with_reducible refine w_seq ?_
        with_reducible refine w_asg ?_
        with_reducible refine w_sl ?_
        walk_at "v"
        with_reducible refine w_part ?_
        with_reducible refine w_op ?_
        with_reducible refine w_c ?_
        with_reducible refine w_op ?_
        walk_at "v"
        walk_at "v"
        obtain ⟨h161, k⟩ := Wp.chk k
        refine w_mulU h161.c ?_
        refine w_add ?_
        refine w_partI ?_
        with_reducible refine w_part ?_
        with_reducible refine w_op ?_
        with_reducible refine w_c ?_
        with_reducible refine w_op ?_
        walk_at "v"
        with_reducible refine w_op ?_
        walk_at "v"
        with_reducible refine w_c ?_
        refine w_add ?_
        obtain ⟨h160, k⟩ := Wp.chk k
        refine w_mulU h160.c ?_
        refine w_add ?_
        refine w_partI ?_
        refine a_slL sat 0 rfl ?_
        clear sat
        intro p80 H82 X83 g sat
        replace go := go.trans g
        clear g
        with_reducible refine w_name ?_
        with_reducible refine w_seq ?_
        with_reducible refine w_asg ?_
        with_reducible refine w_tup ?_
        with_reducible refine w_cons ?_
        with_reducible refine w_op ?_
        walk_at "v"
        with_reducible refine w_c ?_
        obtain ⟨x84, h86, k⟩ := Wp.need k
        refine a_ixL sat 0 rfl h86 ?_
        clear sat
        intro w85 sat
        obtain rfl := Dt.int_inv (sat.dt 0 rfl)
        with_reducible refine w_cons ?_
        with_reducible refine w_op ?_
        walk_at "v"
        with_reducible refine w_c ?_
        obtain ⟨x88, h90, k⟩ := Wp.need k
        refine a_ixL sat 1 rfl h90 ?_
        clear sat
        intro w89 sat
        obtain rfl := Dt.int_inv (sat.dt 0 rfl)
        with_reducible refine w_cons ?_
        with_reducible refine w_op ?_
        walk_at "v"
        with_reducible refine w_c ?_
        obtain ⟨x92, h94, k⟩ := Wp.need k
        refine a_ixL sat 2 rfl h94 ?_
        clear sat
        intro w93 sat
        obtain rfl := Dt.int_inv (sat.dt 0 rfl)
        with_reducible refine w_nil ?_
        refine a_newTi [x84, x88, x92] sat (Nat.le_of_ble_eq_true rfl) ?_
        clear sat
        intro p96 H98 X99 g sat
        replace go := go.trans g
        clear g
        with_reducible refine w_name ?_
        with_reducible refine w_seq ?_
        with_reducible refine w_if ?_
        obtain ⟨j100, ej159, k⟩ := Wp.join k
        refine w_tst (fun b106 H104 => ∃ X105, Go X H X105 H104 ∧ Sat (K := K) H104 X105 [lsA p2 y1, lsA p53 y62, lsA p80 (cutA y1 (some (4 + ((9 - (2 * x24)) * x72))) (some (4 + ((9 - (2 * x24)) * (x72 + 1))))), imA (.ref p96) (⟨[x84, x88, x92]⟩ : TI)] ∧ Wp (j100 b106) () ok er) (fun QB102 hq103 => ?_) ?_
        · with_reducible refine w_and ?_
          with_reducible refine w_test ?_
          with_reducible refine w_op ?_
          walk_at "v"
          with_reducible refine w_lst ?_
          with_reducible refine w_nil ?_
          refine a_newL (as := ([] : List (TI × TI))) sat FtAll.nil (Nat.le_of_ble_eq_true rfl) ?_
          clear sat
          intro p107 H109 X110 g sat
          replace go := go.trans g
          clear g
          refine a_ne (sat.dtL 7 rfl) (sat.dtL 0 rfl) (by decide) ?_
          refine w_blP ?_
          refine ifN (fun h111 => ?_) (fun h111 => ?_)
          · replace k := Wp.ite_t h111 k
            with_reducible refine w_test ?_
            with_reducible refine w_op ?_
            with_reducible refine w_op ?_
            with_reducible refine w_op ?_
            walk_at "v"
            with_reducible refine w_un ?_
            with_reducible refine w_c ?_
            refine w_neg ?_
            obtain ⟨x112, h114, k⟩ := Wp.need k
            refine a_ixL sat 7 rfl h114 ?_
            clear sat
            intro w113 sat
            with_reducible refine w_c ?_
            refine a_ixP0 (sat.ft 0 rfl) sat ?_
            clear sat
            intro w117 sat
            walk_at "v"
            refine a_ge (sat.dt 0 rfl) (sat.dt 3 rfl) ?_
            refine w_blP ?_
            exact hq103 _ _ ⟨_, go, (sat.sub [8, 9, 7, 3]), k⟩
          · replace k := Wp.ite_f (fun q => q h111) k
            exact hq103 _ _ ⟨_, go, (sat.sub [6, 7, 5, 1]), k⟩
        rintro b106 H104 ⟨X105, go, sat, k⟩
        replace k := Wp.at_ k ej159
        refine ifB (fun h120 => ?_) (fun h120 => ?_)
        · replace k := Wp.ite_t h120 k
          with_reducible refine w_ret ?_
          with_reducible refine w_c ?_
          replace sat := sat.imf (Ft.none_ (α := Int × (List (TI × TI))))
          exact hok _ _ (Wp.ret k) _ _ _ go (sat.sub [0, 1])
        · replace k := Wp.ite_f (ne_t h120) k
          with_reducible refine w_next ?_
          with_reducible refine w_seq ?_
          with_reducible refine w_if ?_
          obtain ⟨j122, ej158, k⟩ := Wp.join k
          refine w_tst (fun b128 H126 => ∃ X127, Go X H X127 H126 ∧ Sat (K := K) H126 X127 [lsA p2 y1, lsA p53 y62, lsA p80 (cutA y1 (some (4 + ((9 - (2 * x24)) * x72))) (some (4 + ((9 - (2 * x24)) * (x72 + 1))))), imA (.ref p96) (⟨[x84, x88, x92]⟩ : TI)] ∧ Wp (j122 b128) () ok er) (fun QB124 hq125 => ?_) ?_
          · with_reducible refine w_and ?_
            with_reducible refine w_test ?_
            with_reducible refine w_op ?_
            with_reducible refine w_op ?_
            walk_at "v"
            with_reducible refine w_c ?_
            obtain ⟨x129, h131, k⟩ := Wp.need k
            refine a_ixL sat 0 rfl h131 ?_
            clear sat
            intro w130 sat
            obtain rfl := Dt.int_inv (sat.dt 0 rfl)
            with_reducible refine w_c ?_
            refine w_eqI ?_
            refine w_blP ?_
            refine ifP (fun h133 => ?_) (fun h133 => ?_)
            · replace k := Wp.ite_t h133 k
              with_reducible refine w_not ?_
              with_reducible refine w_tru ?_
              with_reducible refine w_call ?_
              with_reducible refine w_cons ?_
              with_reducible refine w_sl ?_
              walk_at "v"
              with_reducible refine w_part ?_
              with_reducible refine w_c ?_
              refine w_partI ?_
              with_reducible refine w_noPart ?_
              refine a_slL sat 3 rfl ?_
              clear sat
              intro p134 H136 X137 g sat
              replace go := go.trans g
              clear g
              with_reducible refine w_nil ?_
              refine u__law_pointer (R := [lsA p2 y1, lsA p53 y62, lsA p80 (cutA y1 (some (4 + ((9 - (2 * x24)) * x72))) (some (4 + ((9 - (2 * x24)) * (x72 + 1))))), imA (.ref p96) (⟨[x84, x88, x92]⟩ : TI)]) (sat.sub [0, 2, 3, 4, 5]) (Wp.bind k) ?_ (fun e S k H X g sat => her e _ k _ _ (go.trans g) (sat.sub [1]))
              clear sat k
              intro r138 _ k H139 X140 g sat
              replace go := go.trans g
              clear g
              refine w_truB ?_
              exact hq125 _ _ ⟨_, go, (sat.sub [1, 2, 3, 4]), k⟩
            · replace k := Wp.ite_f h133 k
              exact hq125 _ _ ⟨_, go, (sat.sub [1, 2, 3, 4]), k⟩
          rintro b128 H126 ⟨X127, go, sat, k⟩
          replace k := Wp.at_ k ej158
          refine ifB (fun h141 => ?_) (fun h141 => ?_)
          · replace k := Wp.ite_t h141 k
            with_reducible refine w_ret ?_
            with_reducible refine w_c ?_
            replace sat := sat.imf (Ft.none_ (α := Int × (List (TI × TI))))
            exact hok _ _ (Wp.ret k) _ _ _ go (sat.sub [0, 1])
          · replace k := Wp.ite_f (ne_t h141) k
            with_reducible refine w_next ?_
            with_reducible refine w_drop ?_
            with_reducible refine w_bm ?_
            walk_at "v"
            refine a_bm sat 1 rfl ?_
            with_reducible refine w_cons ?_
            with_reducible refine w_tup ?_
            with_reducible refine w_cons ?_
            walk_at "v"
            with_reducible refine w_cons ?_
            with_reducible refine w_cb ?_
            with_reducible refine w_cons ?_
            with_reducible refine w_sl ?_
            walk_at "v"
            with_reducible refine w_part ?_
            with_reducible refine w_c ?_
            refine w_partI ?_
            with_reducible refine w_noPart ?_
            refine a_slL sat 2 rfl ?_
            clear sat
            intro p143 H145 X146 g sat
            replace go := go.trans g
            clear g
            with_reducible refine w_nil ?_
            refine a_tupL sat 0 rfl ?_
            clear sat
            intro p147 H149 X150 g sat
            replace go := go.trans g
            clear g
            with_reducible refine w_nil ?_
            refine a_newTp (a := ((⟨[x84, x88, x92]⟩ : TI) : TI)) (b := ((⟨(cutA (cutA y1 (some (4 + ((9 - (2 * x24)) * x72))) (some (4 + ((9 - (2 * x24)) * (x72 + 1))))) (some 3) none)⟩ : TI) : TI)) sat (sat.ft 5 rfl) (sat.ft 0 rfl) ?_
            clear sat
            intro p151 H153 X154 g sat
            replace go := go.trans g
            clear g
            with_reducible refine w_nil ?_
            obtain ⟨h155, k⟩ := Wp.chk k
            refine a_app (a := (((⟨[x84, x88, x92]⟩ : TI), (⟨(cutA (cutA y1 (some (4 + ((9 - (2 * x24)) * x72))) (some (4 + ((9 - (2 * x24)) * (x72 + 1))))) (some 3) none)⟩ : TI)) : TI × TI)) sat 4 rfl (sat.ft 0 rfl) h155 ?_
            clear sat
            intro H156 X157 g sat
            replace go := go.trans g
            clear g
            exact ⟨_, _, _, _, _, _, rfl, go, (sat.sub [3, 4]), k⟩
      rintro σ78 H69 ⟨y62, u74, u75, u76, u77, X70, rfl, go, sat, k⟩
      replace k := Wp.frN k eg66
      with_reducible refine w_seq ?_
      with_reducible refine w_for ?_
      with_reducible refine w_iList ?_
      with_reducible refine w_sl ?_
      walk_at "v"
      with_reducible refine w_part ?_
      with_reducible refine w_op ?_
      with_reducible refine w_c ?_
      with_reducible refine w_op ?_
      walk_at "v"
      with_reducible refine w_op ?_
      walk_at "v"
      with_reducible refine w_c ?_
      obtain ⟨x162, h164, k⟩ := Wp.need k
      refine a_ixL sat 0 rfl h164 ?_
      clear sat
      intro w163 sat
      obtain rfl := Dt.int_inv (sat.dt 0 rfl)
      obtain ⟨h201, k⟩ := Wp.chk k
      refine w_mulU h201.c ?_
      refine w_add ?_
      refine w_partI ?_
      with_reducible refine w_noPart ?_
      refine a_slL sat 1 rfl ?_
      clear sat
      intro p166 H168 X169 g sat
      replace go := go.trans g
      clear g
      refine a_iList sat 0 rfl ?_
      obtain ⟨f170, ef172, g171, eg173, k⟩ := Wp.fr k
      refine a_forL (fun r178 σ186 H176 => ∃ (u181 : Option V) (u182 : Option V) (u183 : Option V) (u184 : Option V) (u185 : Option V) (X177 : Ad), σ186 = [some (.ref p2), u181, some (.ref p53), u182, u183, u184, u185] ∧ Go X H X177 H176 ∧ Sat (K := K) H176 X177 [lsA p2 y1, lsA p53 y62, lsA p166 (cutA y1 (some (4 + ((9 - (2 * x24)) * x162))) none)] ∧ Wp (M.mFor f170 g171 r178 ()) () ok er) ⟨_, _, _, _, _, _, rfl, go, (sat.sub [2, 3, 0]), k⟩ ?_ ?_
      · rintro i x179 r178 σ186 H176 ⟨u181, u182, u183, u184, u185, X177, rfl, go, sat, k⟩ ei
        replace k := Wp.frC k ef172
        obtain ⟨vs, v180, e1, e2, e3, sat2⟩ := sat.item 2 rfl ei
        refine ⟨vs, v180, e1, e2, e3, ?_⟩
        clear sat e1 e2 e3 ei
        have sat := sat2
        clear sat2
        obtain rfl := Dt.int_inv (sat.dt 0 rfl)
        with_reducible refine w_name ?_
        with_reducible refine w_if ?_
        with_reducible refine w_test ?_
        with_reducible refine w_op ?_
        walk_at "v"
        with_reducible refine w_c ?_
        refine w_neI ?_
        refine w_blP ?_
        refine ifN (fun h189 => ?_) (fun h189 => ?_)
        · replace k := Wp.ite_t h189 k
          with_reducible refine w_ret ?_
          with_reducible refine w_c ?_
          replace sat := sat.imf (Ft.none_ (α := Int × (List (TI × TI))))
          exact hok _ _ (Wp.ret k) _ _ _ go (sat.sub [0, 2])
        · replace k := Wp.ite_f (fun q => q h189) k
          with_reducible refine w_next ?_
          exact ⟨_, _, _, _, _, _, rfl, go, (sat.sub [1, 2, 3]), k⟩
      rintro σ186 H176 ⟨u181, u182, u183, u184, u185, X177, rfl, go, sat, k⟩
      refine ⟨sat.size 2 rfl, ?_⟩
      replace k := Wp.frN k eg173
      with_reducible refine w_ret ?_
      with_reducible refine w_tup ?_
      with_reducible refine w_cons ?_
      with_reducible refine w_op ?_
      walk_at "v"
      with_reducible refine w_c ?_
      obtain ⟨x191, h193, k⟩ := Wp.need k
      refine a_ixL sat 0 rfl h193 ?_
      clear sat
      intro w192 sat
      obtain rfl := Dt.int_inv (sat.dt 0 rfl)
      with_reducible refine w_cons ?_
      walk_at "v"
      with_reducible refine w_nil ?_
      replace sat := (sat.sub [2, 0, 1, 3])
      obtain ⟨X195, g, sat2⟩ := sat.frz
      replace go := go.trans g
      clear g sat
      have sat := sat2
      clear sat2
      refine a_newTp (a := (x191 : Int)) (b := (y62 : List (TI × TI))) sat Ft.int (sat.ft 0 rfl) ?_
      clear sat
      intro p196 H198 X199 g sat
      replace go := go.trans g
      clear g
      replace sat := sat.imf (Ft.some_ (α := Int × (List (TI × TI))) (sat.ft 0 rfl))
      exact hok _ _ (Wp.ret k) _ _ _ go (sat.sub [0, 4])
theorem u__law_due {K : PySem.W.Frag} {C : Ex} {H : Hp} {Q : VK} {E : XK} {N : Nat} {y1 : List Int} {p2 : Addr}  {X : Ad} {R : List (Atom K)} {ok : (Option (Int × (List (TI × TI)))) → Unit → Prop} {er : Ec → Unit → Prop} (sat : Sat H X ([lsA p2 y1] ++ R)) (k : Wp (m__law_due N y1) () ok er) (hok : ∀ r S', ok r S' → ∀ v4 H' X', Go X H X' H' → Sat (K := K) H' X' ([imA v4 r, lsA p2 y1] ++ R) → Q v4 H') (her : ∀ e S', er e S' → ∀ H' X', Go X H X' H' → Sat (K := K) H' X' ([lsA p2 y1] ++ R) → E (.ref (exA C e)) none H') : sp__law_due K C [.ref p2] H Q E := by
  obtain ⟨X1, -, s1, fr⟩ := Sat.call (R := R) sat
  exact w_S1 ⟨N, y1, p2, X1, ok, er, rfl, s1, k, fun r S' h v4 H' X' g s => by obtain ⟨X2, -, g2, s2⟩ := fr _ _ _ g s; exact hok r S' h _ _ _ g2 s2, fun e S' h H' X' g s => by obtain ⟨X2, -, g2, s2⟩ := fr _ _ _ g s; exact her e S' h _ _ g2 s2⟩
def m_law (N : Nat) (y1 : List Int) : M Unit Bool :=
  M.bind (M.calm (m__law_node N y1)) fun r4 => M.bind (M.calm (m__law_cell y1 8)) fun r11 => M.chk (rngOk (r11 % 4)) <| M.mFor (fun (x25 : Int) (y15 : List Int) (nx20 bk21 : (List Int) → M Unit Bool) => M.bind (M.calm (m__law_cell y1 (9 + x25))) fun r35 => M.bind (M.calm (m__law_word N (r35 / 32))) fun r38 => M.need (setI y15 (r35 % 32) r38) fun x41 => nx20 x41) (fun (y15 : List Int) => M.bind (M.calm (m__law_due N y15)) fun r45 => M.tryB (mFromBlock y15) (fun e => decide (e = .BadImage)) (M.opt r45 (M.ret true) fun x63 => M.ret false) fun r54 => M.opt r45 (M.ret false) fun x69 => M.ret (decide (((r54.1, r54.2) : Int × (List (TI × TI))) = x69))) (rngL 0 (r11 % 4).toNat) r4.1
open PL
namespace PL
variable {σ α β γ : Type} {s : σ} {ok : γ → σ → Prop} {er : Ec → σ → Prop}
theorem calmI {m : M σ α} {f : α → M σ γ} (h : Wp m s (fun a s' => Wp (f a) s' ok er) (fun _ _ => False)) : Wp (M.bind (M.calm m) f) s ok er := bindI (Wp.calm0I h)
end PL
def sp_lawM (K : PySem.W.Frag) (C : Ex) : Sp := S1 fun z1 H Q E => ∃ (N : Nat) (y1 : List Int) (p2 : Addr) (X : Ad) (ok : Bool → Unit → Prop), z1 = .ref p2 ∧ Sat (K := K) H X [tbA C, roA p2 y1] ∧ Wp (m_law N y1) () ok (fun _ _ => False) ∧ (∀ r S', ok r S' → ∀ H' X', Go X H X' H' → Sat (K := K) H' X' [tbA C, roA p2 y1] → Q (.bl r) H')
def t_law (K : PySem.W.Frag) (C : Ex) (E : XK) : TS :=
  tSeq (tAsg (uCall (sp__law_node K C) (WB E) (tCons (tVar 0) (tNil))) (gTup K 2 (gCons (gName 1) (gCons (gName 2) (gNil)))))
  (tSeq (tFor (iRng1 (tCons (tOp (uMod) (uCall (sp__law_cell K C) (WB E) (tCons (tVar 0) (tCons (tC (.int 8)) (tNil)))) (tC (.int 4))) (tNil))) (gName 3)
  (tSeq (tAsg (uCall (sp__law_cell K C) (WB E) (tCons (tVar 0) (tCons (tOp (uAdd K) (tC (.int 9)) (tVar 3)) (tNil)))) (gName 4))
  (tAsg (uCall (sp__law_word K C) (WB E) (tCons (tOp (uDiv) (tVar 4) (tC (.int 32))) (tNil))) (gSub (tVar 1) (tOp (uMod) (tVar 4) (tC (.int 32))) uSet))))
  (tSeq (tAsg (uCall (sp__law_due K C) (WB E) (tCons (tVar 1) (tNil))) (gName 5))
  (tSeq (uTryAs K (.ref C.BadImage) 7 (fun W => tAsg (uCall (sp_from_block K C) W (tCons (tCB (uList K) (tCons (tVar 1) (tNil))) (tNil))) (gName 6)) (fun a cls d => tRet (tAndV (tOp (uIs) (tVar 5) (tC .non)) (tAndV (tCB (uIsE K a cls d) (tCons (tVar 7) (tCons (tC (.ref C.LaminaError)) (tNil)))) (tCB (uIsB K a cls d "ValueError") (tCons (tVar 7) (tCons (tC (.ty "ValueError")) (tNil))))))) (WB E))
  (tRet (tAndV (tOp (uIsnt) (tVar 5) (tC .non)) (tAndV (tCB (uIsi K .tuple) (tCons (tVar 6) (tCons (tC (.ty "tuple")) (tNil)))) (tOp (uEq K) (tVar 6) (tVar 5))))))))
theorem walk_law {K : PySem.W.Frag} {C : Ex} {vs : List V} {H : Hp} {Q : VK} {E : XK} (F : Fa K C) (h : sp_lawM K C vs H Q E) : t_law K C E { nx := fun _ H' => Q .non H', rt := Q } (start ["_law_script", "_law_words", "_law_size", "_law_turn", "_law_cell_here", "_law_due_here", "_law_told", "e"] vs) H := by
  obtain ⟨z1, rfl, N, y1, p2, X, ok, rfl, sat, k, hok⟩ := h
  generalize her_ : (fun (_ : Ec) (_ : Unit) => False) = er at k
  have go : Go X H X H := .refl
  unfold t_law
  unfold m_law at k
  with_reducible refine w_seq ?_
  with_reducible refine w_asg ?_
  with_reducible refine w_call ?_
  with_reducible refine w_cons ?_
  walk_at "v"
  with_reducible refine w_nil ?_
  refine u__law_node (R := [tbA C]) (sat.sub [1, 0]) (Wp.calm k) ?_ (fun _ _ k => k.elim)
  clear sat k
  intro r4 _ k v5 p6 H9 X10 g sat
  replace go := go.trans g
  clear g
  refine a_gtp sat 0 rfl rfl ?_
  with_reducible refine w_gcons ?_
  with_reducible refine w_name ?_
  with_reducible refine w_gcons ?_
  with_reducible refine w_name ?_
  with_reducible refine w_gnil ?_
  with_reducible refine w_seq ?_
  with_reducible refine w_for ?_
  with_reducible refine w_rng1 ?_
  with_reducible refine w_cons ?_
  with_reducible refine w_op ?_
  with_reducible refine w_call ?_
  with_reducible refine w_cons ?_
  walk_at "v"
  with_reducible refine w_cons ?_
  with_reducible refine w_c ?_
  with_reducible refine w_nil ?_
  refine u__law_cell (R := [tbA C, lsA p6 r4.1]) (sat.sub [2, 3, 1]) (Wp.calm k) ?_ (fun _ _ k => k.elim)
  clear sat k
  intro r11 _ k H12 X13 g sat
  replace go := go.trans g
  clear g
  with_reducible refine w_c ?_
  refine w_mod (by decide) ?_
  with_reducible refine w_nil ?_
  obtain ⟨h14, k⟩ := Wp.chk k
  refine a_rng1v h14 ?_
  obtain ⟨f16, ef18, g17, eg19, k⟩ := Wp.fr k
  refine a_forR (fun r24 σ33 H22 => ∃ (y15 : List Int) (u27 : Option V) (u28 : Option V) (u29 : Option V) (u30 : Option V) (u31 : Option V) (u32 : Option V) (X23 : Ad), σ33 = [some (.ref p2), some (.ref p6), u27, u28, u29, u30, u31, u32] ∧ Go X H X23 H22 ∧ Sat (K := K) H22 X23 [tbA C, roA p2 y1, lsA p6 y15] ∧ Wp (M.mFor f16 g17 r24 y15) () ok er) ⟨_, _, _, _, _, _, _, _, rfl, go, (sat.sub [1, 0, 2]), k⟩ ?_ ?_
  · rintro x25 r24 σ33 H22 ⟨y15, u27, u28, u29, u30, u31, u32, X23, rfl, go, sat, k⟩
    replace k := Wp.frC k ef18
    with_reducible refine w_name ?_
    with_reducible refine w_seq ?_
    with_reducible refine w_asg ?_
    with_reducible refine w_call ?_
    with_reducible refine w_cons ?_
    walk_at "v"
    with_reducible refine w_cons ?_
    with_reducible refine w_op ?_
    with_reducible refine w_c ?_
    walk_at "v"
    refine w_add ?_
    with_reducible refine w_nil ?_
    refine u__law_cell (R := [tbA C, lsA p6 y15]) (sat.sub [1, 0, 2]) (Wp.calm k) ?_ (fun _ _ k => k.elim)
    clear sat k
    intro r35 _ k H36 X37 g sat
    replace go := go.trans g
    clear g
    with_reducible refine w_name ?_
    with_reducible refine w_asg ?_
    with_reducible refine w_call ?_
    with_reducible refine w_cons ?_
    with_reducible refine w_op ?_
    walk_at "v"
    with_reducible refine w_c ?_
    refine w_div ⟨by decide, by decide⟩ ?_
    with_reducible refine w_nil ?_
    refine u__law_word (R := [tbA C, roA p2 y1, lsA p6 y15]) (sat.sub [1, 0, 2]) (Wp.calm k) ?_ (fun _ _ k => k.elim)
    clear sat k
    intro r38 _ k H39 X40 g sat
    replace go := go.trans g
    clear g
    with_reducible refine w_gsub ?_
    walk_at "v"
    with_reducible refine w_op ?_
    walk_at "v"
    with_reducible refine w_c ?_
    refine w_mod (by decide) ?_
    obtain ⟨x41, h42, k⟩ := Wp.need k
    refine a_setL (a := r38) sat 2 rfl Ft.int h42 ?_
    clear sat
    intro H43 X44 g sat
    replace go := go.trans g
    clear g
    exact ⟨_, _, _, _, _, _, _, _, rfl, go, (sat.sub [0, 1, 2]), k⟩
  rintro σ33 H22 ⟨y15, u27, u28, u29, u30, u31, u32, X23, rfl, go, sat, k⟩
  replace k := Wp.frN k eg19
  with_reducible refine w_seq ?_
  with_reducible refine w_asg ?_
  with_reducible refine w_call ?_
  with_reducible refine w_cons ?_
  walk_at "v"
  with_reducible refine w_nil ?_
  refine u__law_due (R := [tbA C, roA p2 y1]) (sat.sub [2, 0, 1]) (Wp.calm k) ?_ (fun _ _ k => k.elim)
  clear sat k
  intro r45 _ k v46 H48 X49 g sat
  replace go := go.trans g
  clear g
  with_reducible refine w_name ?_
  with_reducible refine w_seq ?_
  with_reducible refine w_tryAs ?_
  with_reducible refine w_asg ?_
  with_reducible refine w_call ?_
  with_reducible refine w_cons ?_
  with_reducible refine w_cb ?_
  with_reducible refine w_cons ?_
  walk_at "v"
  with_reducible refine w_nil ?_
  refine a_list sat 1 rfl ?_
  clear sat
  intro p50 H52 X53 g sat
  replace go := go.trans g
  clear g
  with_reducible refine w_nil ?_
  refine u_from_block (R := [lsA p6 y15, imA v46 r45, roA p2 y1]) (sat.sub [3, 0, 2, 1, 4]) (Wp.tryB k) ?_ ?_
  · clear sat k
    intro r54 _ k v55 p56 H66 X67 g sat
    replace go := go.trans g
    clear g
    with_reducible refine w_name ?_
    with_reducible refine w_ret ?_
    with_reducible refine w_andV ?_
    with_reducible refine w_op ?_
    walk_at "v"
    with_reducible refine w_c ?_
    refine a_isntN (sat.dt 5 rfl) ?_
    refine w_blP ?_
    rcases r45 with _ | x69
    · refine ifNF' ?_
      replace k := Wp.opt_n k
      exact hok _ _ (Wp.ret k) _ _ go (sat.sub [0, 6])
    · refine ifNT' ?_
      replace k := Wp.opt_s k
      replace sat := sat.imf (Ft.of_some (sat.ft 5 rfl))
      with_reducible refine w_andV ?_
      with_reducible refine w_cb ?_
      with_reducible refine w_cons ?_
      walk_at "v"
      with_reducible refine w_cons ?_
      with_reducible refine w_c ?_
      with_reducible refine w_nil ?_
      refine a_isiV (n := .tuple) (b := true) sat 2 rfl rfl ?_
      refine w_blP ?_
      refine iteT ?_
      with_reducible refine w_op ?_
      walk_at "v"
      walk_at "v"
      refine a_eq (sat.dtNd 2 3 rfl rfl) (sat.dt 0 rfl) (by decide) ?_
      exact hok _ _ (Wp.ret k) _ _ go (sat.sub [1, 7])
  · intro e _ k H59 X60 g sat
    replace go := go.trans g
    clear g
    by_cases he : e = .BadImage
    · subst he
      replace k := catchT (decide_eq_true rfl) k
      refine w_asT F.te_BadImage_BadImage (fun a61 _ => ?_)
      with_reducible refine w_ret ?_
      with_reducible refine w_andV ?_
      with_reducible refine w_op ?_
      walk_at "v"
      with_reducible refine w_c ?_
      refine a_isN (sat.dt 3 rfl) ?_
      refine w_blP ?_
      rcases r45 with _ | x63
      · refine iteT ?_
        replace k := Wp.opt_n k
        with_reducible refine w_andV ?_
        with_reducible refine w_cb ?_
        with_reducible refine w_cons ?_
        walk_at "v"
        with_reducible refine w_cons ?_
        with_reducible refine w_c ?_
        with_reducible refine w_nil ?_
        refine w_isE F.xc_BadImage F.kt_BadImage_LaminaError ?_
        refine w_blP ?_
        refine iteT ?_
        with_reducible refine w_cb ?_
        with_reducible refine w_cons ?_
        walk_at "v"
        with_reducible refine w_cons ?_
        with_reducible refine w_c ?_
        with_reducible refine w_nil ?_
        refine w_isB F.xc_BadImage F.kb_BadImage_ValueError ?_
        exact hok _ _ (Wp.ret k) _ _ go (sat.sub [0, 4])
      · refine iteF ?_
        replace k := Wp.opt_s k
        replace sat := sat.imf (Ft.of_some (sat.ft 3 rfl))
        exact hok _ _ (Wp.ret k) _ _ go (sat.sub [1, 5])
    · replace k := catchF (decide_eq_false he) k
      rw [← her_] at k
      exact k.elim
open PL
theorem cell_wp {ts : List Int} {i : Nat} {ok : Int → Unit → Prop} {er : Ec → Unit → Prop} (h : ok (ts.getD i 0) ()) : Wp (m__law_cell ts (i : Int)) () ok er := by
  unfold m__law_cell
  refine iteI (fun hl => ?_) fun hl => Wp.retI ?_
  · have hi : i < ts.length := by omega
    refine Wp.needI (L2.atI_nat (List.getElem?_eq_getElem hi)) (Wp.retI ?_)
    rw [List.getD_eq_getElem?_getD, List.getElem?_eq_getElem hi] at h
    exact h
  · rw [List.getD_eq_getElem?_getD, List.getElem?_eq_none (by omega)] at h
    exact h
theorem joinG {σ β γ : Type} {s : σ} {ok : γ → σ → Prop} {er : Ec → σ → Prop} {B : (β → M σ γ) → M σ γ} {k : β → M σ γ} (P : β → Prop) (hk : ∀ x, P x → Wp (k x) s ok er) (hB : ∀ j : β → M σ γ, (∀ x, P x → Wp (j x) s ok er) → Wp (B j) s ok er) : Wp (M.join B k) s ok er := hB k hk
theorem at_lst {α : Type} {A : List α} {i : α} (h : A.getLast? = some i) : L2.atI A (-1) = some i := by
  cases A with
  | nil => cases h
  | cons a r =>
    have hn : a :: r ≠ [] := by simp
    rw [List.getLast?_eq_some_getLast hn] at h
    cases h
    have z := L2.atI_last (a :: r).dropLast ((a :: r).getLast hn)
    rwa [List.dropLast_concat_getLast] at z
theorem atI_lit {l : List Int} {i : Int} (h : 0 ≤ i ∧ i < (l.length : Int)) : L2.atI l i = some (l.getD i.toNat 0) := by
  have e := L2.atI_nat (xs := l) (j := i.toNat) (List.getElem?_eq_getElem (by omega))
  rw [Int.toNat_of_nonneg h.1] at e
  rw [e, List.getD_eq_getElem?_getD, List.getElem?_eq_getElem (by omega)]
  rfl
open PL
def WsOk (ws : List Int) : Prop := ws.length = 32 ∧ ∀ w ∈ ws, 0 ≤ w
theorem at_nat {ws : List Int} {j : Nat} (h : j < ws.length) : L2.atI ws (j : Int) = some (ws.getD j 0) := by
  rw [L2.atI_nat (List.getElem?_eq_getElem h), List.getD_eq_getElem?_getD, List.getElem?_eq_getElem h]
  rfl
theorem cut_nat {ws : List Int} {i j : Nat} (h : i ≤ j) (hj : j ≤ ws.length) : cutA ws (some (i : Int)) (some (j : Int)) = (ws.drop i).take (j - i) := by
  unfold cutA
  rw [show HT.sIx ws.length ws.length (some (j : Int)) = min j ws.length from HT.sIx_nat .., show HT.sIx ws.length 0 (some (i : Int)) = min i ws.length from HT.sIx_nat .., Nat.min_eq_left hj, Nat.min_eq_left (by omega)]
theorem cut_from {ws : List Int} {i : Nat} (h : i ≤ ws.length) : cutA ws (some (i : Int)) none = ws.drop i := by
  unfold cutA
  rw [show HT.sIx ws.length ws.length none = ws.length from rfl, show HT.sIx ws.length 0 (some (i : Int)) = min i ws.length from HT.sIx_nat .., Nat.min_eq_left h]
  exact List.take_of_length_le (by rw [List.length_drop]; omega)
theorem getD_drop_take {ws : List Int} {a n k : Nat} (h : k < n) : ((ws.drop a).take n).getD k 0 = ws.getD (a + k) 0 := by
  rw [List.getD_eq_getElem?_getD, List.getD_eq_getElem?_getD, List.getElem?_take_of_lt h, List.getElem?_drop]
theorem take3 {l : List Int} (h : 3 ≤ l.length) : l.take 3 = [l.getD 0 0, l.getD 1 0, l.getD 2 0] := by
  match l, h with
  | a :: b :: c :: r, _ => rfl
theorem pointer_wp {l : List Int} {N : Nat} {a b : Int} {ok : Bool → Unit → Prop} {er : Ec → Unit → Prop} (h0 : L2.atI l 0 = some a) (h1 : L2.atI l 1 = some b) (h : ok (isPtr a b) ()) : Wp (m__law_pointer N l) () ok er := by
  unfold m__law_pointer
  unfold isPtr at h
  refine Wp.needI h0 (iteI (fun q => iteI (fun q2 => Wp.needI h1 (Wp.retI ?_)) fun q2 => Wp.retI ?_) fun q => itF (by decide) (Wp.retI ?_))
  · rwa [show decide (5 ≤ a ∧ a < 256 ∧ 1 ≤ b) = decide (1 ≤ b) from decide_eq_decide.mpr ⟨fun z => z.2.2, fun z => ⟨q, by omega, z⟩⟩] at h
  · rwa [decide_eq_false (by omega)] at h
  · rwa [decide_eq_false (by omega)] at h
theorem okN_iff {ws : List Int} : okN ws = true ↔ (ws.getD 0 0 = 1 ∨ ws.getD 0 0 = 2) ∧ ws.getD 1 0 ≤ mostN (ws.getD 0 0) ∧ isPtr (ws.getD 2 0) (ws.getD 3 0) = true ∧
    (∀ w ∈ ws.drop (4 + (sizeN (ws.getD 0 0)).toNat * (ws.getD 1 0).toNat), w = 0) ∧ ascB (keysN (itemsN ws)) = true ∧ (ws.getD 0 0 = 2 → ∀ i ∈ itemsN ws, ptrIt i = true) := by
  unfold okN
  simp only [Bool.and_eq_true, decide_eq_true_eq, List.all_eq_true, Bool.or_eq_true]
  constructor
  · rintro ⟨⟨⟨⟨⟨h1, h2⟩, h3⟩, h4⟩, h5⟩, h6⟩
    exact ⟨h1, h2, h3, h4, h5, fun e => h6.resolve_left fun n => n e⟩
  · rintro ⟨h1, h2, h3, h4, h5, h6⟩
    refine ⟨⟨⟨⟨⟨h1, h2⟩, h3⟩, h4⟩, h5⟩, ?_⟩
    by_cases e : ws.getD 0 0 = 2
    · exact .inr (h6 e)
    · exact .inl e
/-- the keys ascend up to i -/
def Good (ws : List Int) (i : Nat) : Prop := ∀ j, j + 1 < i → HT.lexLt (itN ws j).1.items (itN ws (j + 1)).1.items = true
theorem key_at {ws : List Int} {n j : Nat} (h : j < n) : (keysN ((List.range n).map (itN ws))).getD j [] = (itN ws j).1.items := by
  unfold keysN
  rw [List.getD_eq_getElem?_getD, List.getElem?_map, List.getElem?_map, List.getElem?_range h]
  rfl
theorem good_iff {ws : List Int} {n : Nat} : ascB (keysN ((List.range n).map (itN ws))) = true ↔ Good ws n := by
  have hl : (keysN ((List.range n).map (itN ws))).length = n := by unfold keysN; rw [List.length_map, List.length_map, List.length_range]
  rw [ascB_iff, hl]
  exact ⟨fun h j hj => by have := h j hj; rwa [key_at (by omega), key_at (by omega)] at this, fun h j hj => by rw [key_at (by omega), key_at (by omega)]; exact h j hj⟩
theorem last_rng {ws : List Int} {i : Nat} : ((List.range (i + 1)).map (itN ws)).getLast? = some (itN ws i) := by
  rw [List.range_succ, List.map_append, List.map_singleton, List.getLast?_concat]
theorem rng_at {n i : Nat} {x : Int} {xs : List Int} (h : x :: xs = (rngL 0 n).drop i) : i < n ∧ x = (i : Int) ∧ xs = (rngL 0 n).drop (i + 1) := by
  have ll : (rngL 0 n).length = n := by unfold rngL; rw [List.length_map, List.length_range]
  have hi : i < n := by
    have := congrArg List.length h
    rw [List.length_cons, List.length_drop, ll] at this
    omega
  rw [List.drop_eq_getElem_cons (by omega)] at h
  injection h with h1 h2
  refine ⟨hi, ?_, h2⟩
  have z : (rngL 0 n)[i]? = some (0 + (i : Int)) := by unfold rngL; rw [List.getElem?_map, List.getElem?_range hi]; rfl
  rw [List.getElem?_eq_getElem (by omega)] at z
  rw [h1]
  have := Option.some.inj z
  omega
theorem due_wp {ws : List Int} {N : Nat} {ok : Option (Int × List NIt) → Unit → Prop} {er : Ec → Unit → Prop} (hw : WsOk ws) (h1 : okN ws = true → ok (some (ws.getD 0 0, itemsN ws)) ()) (h2 : okN ws = false → ok none ()) : Wp (m__law_due N ws) () ok er := by
  obtain ⟨hl, hn⟩ := hw
  have no : (okN ws = true → False) → Wp (M.ret none) () ok er := fun h => Wp.retI (h2 (by cases e : okN ws with | false => rfl | true => exact (h e).elim))
  have a0 : L2.atI ws 0 = some (ws.getD 0 0) := at_nat (j := 0) (by omega)
  have a1 : L2.atI ws 1 = some (ws.getD 1 0) := at_nat (j := 1) (by omega)
  have nn : ∀ j, 0 ≤ ws.getD j 0 := fun j => by
    rw [List.getD_eq_getElem?_getD]
    cases e : ws[j]? with
    | none => exact Int.le_refl 0
    | some w => exact hn w (List.mem_of_getElem? e)
  unfold m__law_due
  refine joinG (fun b => b = !decide (ws.getD 0 0 = 1 ∨ ws.getD 0 0 = 2)) (fun b hb => ?_) fun j hj => ?_
  rotate_left
  · exact Wp.needI a0 (iteI (fun h => Wp.needI a0 (hj _ (congrArg not (decide_eq_decide.mpr ⟨fun q => .inr q, fun q => q.resolve_left h⟩)))) fun h => hj _ (by rw [decide_eq_true (.inl (Classical.byContradiction h))]; rfl))
  subst hb
  by_cases hk : ws.getD 0 0 = 1 ∨ ws.getD 0 0 = 2
  rotate_left
  · exact itT (by rw [decide_eq_false hk]; rfl) (no fun e => hk (okN_iff.mp e).1)
  refine itF (by rw [decide_eq_true hk]; decide) (Wp.needI a0 ?_)
  have mo : mostN (ws.getD 0 0) = 3 + ws.getD 0 0 := by
    unfold mostN
    rcases hk with e | e <;> rw [e] <;> rfl
  refine joinG (fun b => b = !(decide (ws.getD 1 0 ≤ 3 + ws.getD 0 0) && isPtr (ws.getD 2 0) (ws.getD 3 0))) (fun b hb => ?_) fun j hj => ?_
  rotate_left
  · refine Wp.needI a1 (Wp.needI a0 (iteI (fun h => hj _ (by rw [decide_eq_false (by omega)]; rfl)) fun h => ?_))
    have e24 : cutA ws (some 2) (some 4) = (ws.drop 2).take 2 := cut_nat (i := 2) (j := 4) (by omega) (by omega)
    have l2 : ((ws.drop 2).take 2).length = 2 := by rw [List.length_take, List.length_drop]; omega
    rw [e24]
    refine bindI (pointer_wp (a := ws.getD 2 0) (b := ws.getD 3 0) ?_ ?_ (hj _ ?_))
    · exact (at_nat (j := 0) (by omega)).trans (congrArg some (getD_drop_take (by omega)))
    · exact (at_nat (j := 1) (by omega)).trans (congrArg some (getD_drop_take (by omega)))
    · rw [decide_eq_true (by omega), Bool.true_and]
  subst hb
  by_cases hm : ws.getD 1 0 ≤ 3 + ws.getD 0 0
  rotate_left
  · exact itT (by rw [decide_eq_false hm]; rfl) (no fun e => hm (by rw [← mo]; exact (okN_iff.mp e).2.1))
  cases hp : isPtr (ws.getD 2 0) (ws.getD 3 0)
  · exact itT (by rw [Bool.and_false]; rfl) (no fun e => by have := (okN_iff.mp e).2.2.1; rw [hp] at this; cases this)
  refine itF (by rw [decide_eq_true hm]; decide) (Wp.needI a1 ?_)
  obtain ⟨n, en⟩ : ∃ n : Nat, ws.getD 1 0 = (n : Int) := ⟨(ws.getD 1 0).toNat, (Int.toNat_of_nonneg (nn 1)).symm⟩
  obtain ⟨sz, es, es2, es3⟩ : ∃ sz : Nat, 9 - 2 * ws.getD 0 0 = (sz : Int) ∧ (sizeN (ws.getD 0 0)).toNat = sz ∧ ((ws.getD 0 0 = 1 ∧ sz = 7) ∨ (ws.getD 0 0 = 2 ∧ sz = 5)) := by
    unfold sizeN
    rcases hk with e | e <;> rw [e]
    · exact ⟨7, rfl, rfl, .inl ⟨rfl, rfl⟩⟩
    · exact ⟨5, rfl, rfl, .inr ⟨rfl, rfl⟩⟩
  have n5 : sz * n ≤ 28 ∧ n ≤ 5 := by
    rcases es3 with ⟨e, e'⟩ | ⟨e, e'⟩ <;> rw [e] at hm <;> rw [e'] <;> omega
  have ei : itemsN ws = (List.range n).map (itN ws) := by
    unfold itemsN
    rw [en]
    rfl
  rw [en, es]
  refine Wp.chkI (rngOk.of (by omega) (by omega)) ?_
  refine for_ind (fun xs b _ => ∃ i, i ≤ n ∧ xs = (rngL 0 n).drop i ∧ b = (List.range i).map (itN ws) ∧ Good ws i ∧ (ws.getD 0 0 = 2 → ∀ t ∈ b, ptrIt t = true)) (fun b s hI => ?_) (fun x xs b s hI nx hnx => ?_) _ _ () ⟨0, Nat.zero_le _, rfl, rfl, fun j hj => by omega, fun _ t ht => by cases ht⟩
  · obtain ⟨i, hi, hx, rfl, hg, hpt⟩ := hI
    have ll : (rngL 0 n).length = n := by unfold rngL; rw [List.length_map, List.length_range]
    have : i = n := by
      have := congrArg List.length hx
      rw [List.length_nil, List.length_drop, ll] at this
      omega
    subst this
    refine Wp.needI (en ▸ a1) (Wp.chkI (.inl ⟨by omega, by omega⟩) ?_)
    have ec : cutA ws (some (4 + (sz : Int) * (i : Int))) none = ws.drop (4 + sz * i) := by
      have e : (4 : Int) + (sz : Int) * (i : Int) = ((4 + sz * i : Nat) : Int) := by push_cast; rfl
      rw [e]
      exact cut_from (by omega)
    rw [ec]
    refine for_ind (fun ys _ _ => (∀ w ∈ ys, w ∈ ws.drop (4 + sz * i)) ∧ ((∀ w ∈ ys, w = 0) → ∀ w ∈ ws.drop (4 + sz * i), w = 0)) (fun b s hI => ?_) (fun y ys b s hI nx hnx => ?_) _ () s ⟨fun w h => h, fun h => h⟩
    · refine Wp.needI a0 (Wp.retI ?_)
      rw [← ei]
      refine h1 (okN_iff.mpr ⟨hk, by rw [mo]; exact hm, hp, ?_, by rw [ei]; exact good_iff.mpr hg, fun e => by rw [ei]; exact hpt e⟩)
      rw [es2, en]
      exact hI.2 fun w hw => by cases hw
    · refine iteI (fun h => no fun e => h ?_) fun h => hnx _ _ ⟨fun w hw => hI.1 w (List.mem_cons_of_mem _ hw), fun hz => hI.2 fun w hw => ?_⟩
      · have := (okN_iff.mp e).2.2.2.1
        rw [es2, en] at this
        exact this y (hI.1 y (List.mem_cons_self ..))
      · rcases List.mem_cons.mp hw with rfl | hw
        · exact Classical.byContradiction h
        · exact hz w hw
  · obtain ⟨i, hi, hx, rfl, hg, hpt⟩ := hI
    obtain ⟨hin, rfl, hxs⟩ := rng_at hx
    have hA : sz * i + sz ≤ sz * n := by
      have := Nat.mul_le_mul_left sz (show i + 1 ≤ n by omega)
      rw [Nat.mul_add, Nat.mul_one] at this
      exact this
    have s5 : 5 ≤ sz := by rcases es3 with ⟨_, e⟩ | ⟨_, e⟩ <;> omega
    refine Wp.chkI (.inl ⟨by omega, by omega⟩) (Wp.chkI (.inl ⟨by omega, by omega⟩) ?_)
    have ep : cutA ws (some (4 + (sz : Int) * (i : Int))) (some (4 + (sz : Int) * ((i : Int) + 1))) = (ws.drop (4 + sz * i)).take sz := by
      have e1 : (4 : Int) + (sz : Int) * (i : Int) = ((4 + sz * i : Nat) : Int) := by push_cast; rfl
      have e2 : (4 : Int) + (sz : Int) * ((i : Int) + 1) = ((4 + sz * i + sz : Nat) : Int) := by push_cast; rw [Int.mul_add]; omega
      rw [e1, e2, cut_nat (by omega) (by omega)]
      congr 1
      omega
    rw [ep]
    generalize eA : 4 + sz * i = A at *
    have pl : ((ws.drop A).take sz).length = sz := by rw [List.length_take, List.length_drop]; omega
    have pa : ∀ k : Nat, k < sz → L2.atI ((ws.drop A).take sz) (k : Int) = some (ws.getD (A + k) 0) := fun k h => by rw [at_nat (by omega), getD_drop_take h]
    have e3 : cutA ((ws.drop A).take sz) (some 3) none = ((ws.drop A).take sz).drop 3 := cut_from (i := 3) (by omega)
    have eit : itN ws i = ((⟨[ws.getD (A + 0) 0, ws.getD (A + 1) 0, ws.getD (A + 2) 0]⟩ : TI), (⟨((ws.drop A).take sz).drop 3⟩ : TI)) := by
      unfold itN
      rw [es2, eA, take3 (by rw [List.length_drop]; omega), List.drop_take, List.drop_drop]
      have gd : ∀ k, (ws.drop A).getD k 0 = ws.getD (A + k) 0 := fun k => by rw [List.getD_eq_getElem?_getD, List.getD_eq_getElem?_getD, List.getElem?_drop]
      rw [gd, gd, gd]
    have l5 : ((List.range i).map (itN ws)).length = i := by rw [List.length_map, List.length_range]
    refine Wp.needI (pa 0 (by omega)) (Wp.needI (pa 1 (by omega)) (Wp.needI (pa 2 (by omega)) ?_))
    rw [e3]
    refine joinG (fun b => (b = true → ¬ Good ws n) ∧ (b = false → Good ws (i + 1))) (fun b hb => ?_) fun j hj => ?_
    · refine iteI (fun h => no fun e => hb.1 h (good_iff.mp (by rw [← ei]; exact (okN_iff.mp e).2.2.2.2.1))) fun h => ?_
      have hg' : Good ws (i + 1) := hb.2 (by cases b with | false => rfl | true => exact (h rfl).elim)
      refine joinG (fun b => b = (decide (ws.getD 0 0 = 2) && !ptrIt (itN ws i))) (fun b hb => ?_) fun j hj => ?_
      · refine iteI (fun h => no fun e => ?_) fun h => ?_
        · rw [hb, Bool.and_eq_true, decide_eq_true_eq, Bool.not_eq_true'] at h
          have := (okN_iff.mp e).2.2.2.2.2 h.1 (itN ws i) (by rw [ei]; exact List.mem_map.mpr ⟨i, List.mem_range.mpr hin, rfl⟩)
          rw [h.2] at this
          cases this
        · refine Wp.chkI (by omega) (hnx _ _ ⟨i + 1, hin, hxs, ?_, hg', fun e t ht => ?_⟩)
          · rw [List.range_succ, List.map_append, List.map_singleton, eit]
          · rcases List.mem_append.mp ht with ht | ht
            · exact hpt e t ht
            · rw [List.mem_singleton.mp ht, ← eit]
              rw [hb, Bool.not_eq_true, Bool.and_eq_false_iff, decide_eq_false_iff_not, Bool.not_eq_false'] at h
              exact h.resolve_left fun q => q e
      · refine Wp.needI a0 (iteI (fun h => ?_) fun h => hj _ (by rw [decide_eq_false h]; rfl))
        have z5 : sz = 5 := by rcases es3 with ⟨e, _⟩ | ⟨_, e⟩ <;> omega
        have dl : (((ws.drop A).take sz).drop 3).length = 2 := by rw [List.length_drop, pl]; omega
        have ptr : ptrIt (itN ws i) = isPtr ((((ws.drop A).take sz).drop 3).getD 0 0) ((((ws.drop A).take sz).drop 3).getD 1 0) := by rw [eit]; rfl
        refine bindI (pointer_wp (at_nat (j := 0) (by omega)) (at_nat (j := 1) (by omega)) (hj _ ?_))
        rw [decide_eq_true h, Bool.true_and, ptr]
    · refine iteI (fun hne => ?_) fun hne => hj _ ⟨fun q => (by cases q), fun _ => ?_⟩
      · cases i with
        | zero => exact (hne rfl).elim
        | succ m =>
          refine Wp.needI (at_lst last_rng) (hj _ ⟨fun q hG => ?_, fun q j hj2 => ?_⟩)
          · have z := hG m (by omega)
            rw [eit] at z
            unfold lexGe at q
            rw [Bool.not_eq_true'] at q
            rw [q] at z
            cases z
          · by_cases ej : j + 1 < m + 1
            · exact hg j ej
            · obtain rfl : j = m := by omega
              unfold lexGe at q
              rw [Bool.not_eq_false'] at q
              rw [eit]
              exact q
      · have : i = 0 := by
          cases i with
          | zero => rfl
          | succ m =>
            have hne := Classical.byContradiction hne
            have := congrArg List.length hne
            rw [l5] at this
            cases this
        subst this
        exact fun j hj => by omega
theorem getD_nn2 {l : List Int} (h : ∀ w ∈ l, 0 ≤ w) (j : Nat) : 0 ≤ l.getD j 0 := by
  rw [List.getD_eq_getElem?_getD]
  cases e : l[j]? with
  | none => exact Int.le_refl 0
  | some w => exact h w (List.mem_of_getElem? e)
theorem word_wp {c : Int} {N : Nat} {ok : Int → Unit → Prop} {er : Ec → Unit → Prop} (h : ∀ w, 0 ≤ w → ok w ()) : Wp (m__law_word N c) () ok er := by
  unfold m__law_word
  refine iteI (fun _ => Wp.needI (atI_lit ⟨by omega, by show c / 2 % 10 < 10; omega⟩) (Wp.retI (h _ (getD_nn2 (fun w hw => ?_) _)))) fun _ => Wp.retI (h _ (by omega))
  simp only [List.mem_cons, List.not_mem_nil, or_false] at hw
  omega
theorem node_wp {ts : List Int} {N : Nat} {ok : List Int × Int → Unit → Prop} {er : Ec → Unit → Prop} (h : ∀ ws z, WsOk ws → ok (ws, z) ()) : Wp (m__law_node N ts) () ok er := by
  unfold m__law_node
  refine bindI (cell_wp (i := 0) (bindI (cell_wp (i := 0) ?_)))
  generalize ts.getD 0 0 = c0
  refine Wp.chkI (by omega) (bindI (cell_wp (i := 1) (bindI (cell_wp (i := 1) ?_))))
  generalize ts.getD 1 0 = c1
  have n0 : 0 ≤ c0 / 2 % (4 + (1 + c0 % 2)) := Int.emod_nonneg _ (by omega)
  have n1 : c0 / 2 % (4 + (1 + c0 % 2)) < 4 + (1 + c0 % 2) := Int.emod_lt_of_pos _ (by omega)
  generalize c0 / 2 % (4 + (1 + c0 % 2)) = n at n0 n1 ⊢
  refine Wp.needI (a := n) rfl (Wp.chkI (rngOk.of (by omega) (by omega)) ?_)
  refine for_ind (fun xs b _ => (∀ w ∈ b, 0 ≤ w) ∧ b.length + 7 * xs.length ≤ 100 ∧ ∀ x ∈ xs, 0 ≤ x) (fun b s hI => ?_) (fun x xs b s hI nx hnx => ?_) _ _ () ⟨fun w hw => ?_, ?_, fun x hx => ?_⟩
  · obtain ⟨hb, hl, _⟩ := hI
    rw [List.length_nil] at hl
    have rl : ((List.replicate (32 : Int).toNat [(0 : Int)]).flatten).length = 32 := rfl
    have rl2 : ((List.replicate (32 : Int).toNat [(0 : Nat)]).flatten).length = 32 := rfl
    refine Wp.chkI (by decide) (Wp.chkI (by rw [rl2]; omega) (Wp.retI (h _ _ ⟨?_, fun w hw => ?_⟩)))
    · unfold cutA
      rw [show HT.sIx (b ++ (List.replicate (32 : Int).toNat [(0 : Int)]).flatten).length (b ++ (List.replicate (32 : Int).toNat [(0 : Int)]).flatten).length (some 32) = min 32 (b ++ (List.replicate (32 : Int).toNat [(0 : Int)]).flatten).length from HT.sIx_nat .., show HT.sIx (b ++ (List.replicate (32 : Int).toNat [(0 : Int)]).flatten).length 0 none = 0 from rfl, List.drop_zero, List.length_take, List.length_append, rl]
      omega
    · rcases List.mem_append.mp (List.mem_of_mem_drop (List.mem_of_mem_take hw)) with q | q
      · exact hb w q
      · obtain ⟨l, hl, hw⟩ := List.mem_flatten.mp q
        rw [List.eq_of_mem_replicate hl, List.mem_singleton] at hw
        omega
  · obtain ⟨hb, hl, hx⟩ := hI
    rw [List.length_cons] at hl
    have x0 : 0 ≤ x := hx x (List.mem_cons_self ..)
    have ex : (2 : Int) + x = ((2 + x.toNat : Nat) : Int) := by omega
    rw [ex]
    refine bindI (cell_wp ?_)
    generalize ts.getD (2 + x.toNat) 0 = c
    have xs0 : ∀ y ∈ xs, 0 ≤ y := fun y hy => hx y (List.mem_cons_of_mem _ hy)
    refine Wp.chkI (by simp only [List.length_cons, List.length_nil]; omega) (iteI (fun _ => ?_) fun _ => ?_)
    · refine Wp.chkI (by simp only [List.length_append, List.length_cons, List.length_nil]; omega) (hnx _ _ ⟨fun w hw => ?_, by simp only [List.length_append, List.length_cons, List.length_nil]; omega, xs0⟩)
      simp only [List.mem_append, List.mem_cons, List.not_mem_nil, or_false] at hw
      rcases hw with (hw | hw) | hw
      · exact hb w hw
      · omega
      · omega
    · refine Wp.chkI (by simp only [List.length_append, List.length_cons, List.length_nil]; omega) (hnx _ _ ⟨fun w hw => ?_, by simp only [List.length_append, List.length_cons, List.length_nil]; omega, xs0⟩)
      simp only [List.mem_append, List.mem_cons, List.not_mem_nil, or_false] at hw
      rcases hw with (hw | hw) | hw
      · exact hb w hw
      · omega
      · omega
  · simp only [List.mem_cons, List.not_mem_nil, or_false] at hw
    omega
  · unfold rngL
    simp only [List.length_map, List.length_range, List.length_cons, List.length_nil]
    omega
  · unfold rngL at hx
    obtain ⟨j, hj, rfl⟩ := List.mem_map.mp hx
    omega
theorem from_any {ws : List Int} {ok : Int × List NIt → Unit → Prop} {er : Ec → Unit → Prop} (hw : WsOk ws) (h1 : okN ws = true → ok (ws.getD 0 0, itemsN ws) ()) (h2 : okN ws = false → er .BadImage ()) : Wp (mFromBlock ws) () ok er := by
  unfold mFromBlock
  refine Wp.chkI (blkB_iff.mpr hw) ⟨?_⟩
  unfold WpP
  cases e : okN ws with
  | true => exact h1 e
  | false => exact h2 e
theorem set_some {ws : List Int} {i : Int} {w : Int} (h0 : 0 ≤ i) (h1 : i < ws.length) : setI ws i w = some (ws.set i.toNat w) := by
  unfold setI ixN
  rw [if_pos h0, if_pos h1]
  rfl
theorem law_true (N : Nat) (ts : List Int) : Wp (m_law N ts) () (fun r _ => r = true) (fun _ _ => False) := by
  unfold m_law
  refine calmI (node_wp fun ws z hws => calmI (cell_wp (i := 8) ?_))
  generalize ts.getD 8 0 = c8
  refine Wp.chkI (rngOk.of (by omega) (by omega)) ?_
  refine for_ind (fun xs b _ => WsOk b ∧ ∀ x ∈ xs, 0 ≤ x) (fun b s hI => ?_) (fun x xs b s hI nx hnx => ?_) _ _ () ⟨hws, fun x hx => ?_⟩
  · obtain ⟨hb, _⟩ := hI
    refine calmI (due_wp hb (fun e => ?_) fun e => ?_)
    · exact Wp.tryB_iff.mpr (from_any hb (fun _ => Wp.retI (decide_eq_true rfl)) fun q => by rw [e] at q; cases q)
    · refine Wp.tryB_iff.mpr (from_any hb (fun q => by rw [e] at q; cases q) fun _ => ?_)
      rw [if_pos (decide_eq_true rfl)]
      exact Wp.retI rfl
  · obtain ⟨hb, hx⟩ := hI
    have x0 : 0 ≤ x := hx x (List.mem_cons_self ..)
    have ex : (9 : Int) + x = ((9 + x.toNat : Nat) : Int) := by omega
    rw [ex]
    refine calmI (cell_wp ?_)
    generalize ts.getD (9 + x.toNat) 0 = c
    refine calmI (word_wp fun w hw => Wp.needI (set_some (by omega) (by rw [hb.1]; omega)) (hnx _ _ ⟨⟨by rw [List.length_set]; exact hb.1, fun v hv => ?_⟩, fun y hy => hx y (List.mem_cons_of_mem _ hy)⟩))
    rcases List.mem_or_eq_of_mem_set hv with q | q
    · exact hb.2 v q
    · rw [q]; exact hw
  · unfold rngL at hx
    obtain ⟨j, hj, rfl⟩ := List.mem_map.mp hx
    omega
abbrev sp_law (K : PySem.W.Frag) (C : Ex) : Sp := spLawT K C.T_from_block
theorem pure_law {K : PySem.W.Frag} {C : Ex} {vs : List V} {H : Hp} {Q : VK} {E : XK} (F : Fa K C) (h : sp_law K C vs H Q E) : t_law K C E { nx := fun _ H' => Q .non H', rt := Q } (start ["_law_script", "_law_words", "_law_size", "_law_turn", "_law_cell_here", "_law_due_here", "_law_told", "e"] vs) H := by
  obtain ⟨a, rfl, p, ns, rfl, e, _, tb, k⟩ := h
  obtain ⟨X, sat⟩ := law_sat (C := C) tb e
  exact walk_law F (w_S1 ⟨100, ns, p, X, fun r _ => r = true, rfl, sat, law_true 100 ns, fun r S' h H' X' _ _ => by rw [h]; exact k H'⟩)
def topS (i : Nat) : Stmt := PySem.Challenge.pw_laminae_k10_blocks_that_are_no_nodes.main.body.getD i (.Pass ⟨0, 0, 0, 0⟩)
abbrev s_most_items : Stmt := topS 11
theorem sc_most_items : FnScope ["kind"] ["kind"] (defScope s_most_items) := ⟨rfl, rfl, rfl, by decide +kernel, rfl, by decide +kernel, by decide +kernel⟩
abbrev s_are_ascending : Stmt := topS 12
theorem sc_are_ascending : FnScope ["items", "index"] ["items"] (defScope s_are_ascending) := ⟨rfl, rfl, rfl, by decide +kernel, rfl, by decide +kernel, by decide +kernel⟩
abbrev s_is_block_pointer : Stmt := topS 13
theorem sc_is_block_pointer : FnScope ["pointer"] ["pointer"] (defScope s_is_block_pointer) := ⟨rfl, rfl, rfl, by decide +kernel, rfl, by decide +kernel, by decide +kernel⟩
abbrev s_item_words : Stmt := topS 14
theorem sc_item_words : FnScope ["kind"] ["kind"] (defScope s_item_words) := ⟨rfl, rfl, rfl, by decide +kernel, rfl, by decide +kernel, by decide +kernel⟩
abbrev s_from_block : Stmt := topS 15
theorem sc_from_block : FnScope ["block", "kind", "size", "items", "index", "at", "item"] ["block"] (defScope s_from_block) := ⟨rfl, rfl, rfl, by decide +kernel, rfl, by decide +kernel, by decide +kernel⟩
abbrev s_own_pointer : Stmt := topS 16
theorem sc_own_pointer : FnScope ["block"] ["block"] (defScope s_own_pointer) := ⟨rfl, rfl, rfl, by decide +kernel, rfl, by decide +kernel, by decide +kernel⟩
abbrev s__law_cell : Stmt := topS 18
theorem sc__law_cell : FnScope ["_law_script", "_law_k"] ["_law_script", "_law_k"] (defScope s__law_cell) := ⟨rfl, rfl, rfl, by decide +kernel, rfl, by decide +kernel, by decide +kernel⟩
abbrev s__law_word : Stmt := topS 19
theorem sc__law_word : FnScope ["_law_cell_here", "_law_menu"] ["_law_cell_here"] (defScope s__law_word) := ⟨rfl, rfl, rfl, by decide +kernel, rfl, by decide +kernel, by decide +kernel⟩
abbrev s__law_node : Stmt := topS 20
theorem sc__law_node : FnScope ["_law_script", "_law_kind", "_law_size", "_law_many", "_law_words", "_law_turn", "_law_cell_here"] ["_law_script"] (defScope s__law_node) := ⟨rfl, rfl, rfl, by decide +kernel, rfl, by decide +kernel, by decide +kernel⟩
abbrev s__law_pointer : Stmt := topS 21
theorem sc__law_pointer : FnScope ["_law_words"] ["_law_words"] (defScope s__law_pointer) := ⟨rfl, rfl, rfl, by decide +kernel, rfl, by decide +kernel, by decide +kernel⟩
abbrev s__law_due : Stmt := topS 22
theorem sc__law_due : FnScope ["_law_words", "_law_size", "_law_items", "_law_turn", "_law_part", "_law_key", "_law_word_here"] ["_law_words"] (defScope s__law_due) := ⟨rfl, rfl, rfl, by decide +kernel, rfl, by decide +kernel, by decide +kernel⟩
abbrev s_law : Stmt := topS 23
theorem sc_law : FnScope ["_law_script", "_law_words", "_law_size", "_law_turn", "_law_cell_here", "_law_due_here", "_law_told", "e"] ["_law_script"] (defScope s_law) := ⟨rfl, rfl, rfl, by decide +kernel, rfl, by decide +kernel, by decide +kernel⟩
structure Adr where
  ex : Ex
  f_most_items : Addr
  d_most_items : FuncData
  f_are_ascending : Addr
  d_are_ascending : FuncData
  f_is_block_pointer : Addr
  d_is_block_pointer : FuncData
  f_item_words : Addr
  d_item_words : FuncData
  f_from_block : Addr
  d_from_block : FuncData
  cc_from_block : Addr
  f_own_pointer : Addr
  d_own_pointer : FuncData
  f__law_cell : Addr
  d__law_cell : FuncData
  f__law_word : Addr
  d__law_word : FuncData
  f__law_node : Addr
  d__law_node : FuncData
  f__law_pointer : Addr
  d__law_pointer : FuncData
  f__law_due : Addr
  d__law_due : FuncData
  f_law : Addr
  d_law : FuncData
structure Top (K : PySem.W.Frag) (mg : Str → Option Value) (A : Adr) : Prop where
  F_most_items : Fun K "most_items" "most_items" s_most_items A.f_most_items A.d_most_items
  b_most_items : Binds K A.d_most_items ["kind"] []
  g_most_items : mg "most_items" = some (.ref A.f_most_items)
  F_are_ascending : Fun K "are_ascending" "are_ascending" s_are_ascending A.f_are_ascending A.d_are_ascending
  b_are_ascending : Binds K A.d_are_ascending ["items"] []
  g_are_ascending : mg "are_ascending" = some (.ref A.f_are_ascending)
  F_is_block_pointer : Fun K "is_block_pointer" "is_block_pointer" s_is_block_pointer A.f_is_block_pointer A.d_is_block_pointer
  b_is_block_pointer : Binds K A.d_is_block_pointer ["pointer"] []
  g_is_block_pointer : mg "is_block_pointer" = some (.ref A.f_is_block_pointer)
  F_item_words : Fun K "item_words" "item_words" s_item_words A.f_item_words A.d_item_words
  b_item_words : Binds K A.d_item_words ["kind"] []
  g_item_words : mg "item_words" = some (.ref A.f_item_words)
  F_from_block : Fun K "from_block" "from_block" s_from_block A.f_from_block A.d_from_block
  b_from_block : Binds K A.d_from_block ["block"] []
  cc_from_block : A.d_from_block.code = .ref A.cc_from_block
  g_from_block : mg "from_block" = some (.ref A.f_from_block)
  F_own_pointer : Fun K "own_pointer" "own_pointer" s_own_pointer A.f_own_pointer A.d_own_pointer
  b_own_pointer : Binds K A.d_own_pointer ["block"] []
  g_own_pointer : mg "own_pointer" = some (.ref A.f_own_pointer)
  F__law_cell : Fun K "_law_cell" "_law_cell" s__law_cell A.f__law_cell A.d__law_cell
  b__law_cell : Binds K A.d__law_cell ["_law_script", "_law_k"] []
  g__law_cell : mg "_law_cell" = some (.ref A.f__law_cell)
  F__law_word : Fun K "_law_word" "_law_word" s__law_word A.f__law_word A.d__law_word
  b__law_word : Binds K A.d__law_word ["_law_cell_here"] []
  g__law_word : mg "_law_word" = some (.ref A.f__law_word)
  F__law_node : Fun K "_law_node" "_law_node" s__law_node A.f__law_node A.d__law_node
  b__law_node : Binds K A.d__law_node ["_law_script"] []
  g__law_node : mg "_law_node" = some (.ref A.f__law_node)
  F__law_pointer : Fun K "_law_pointer" "_law_pointer" s__law_pointer A.f__law_pointer A.d__law_pointer
  b__law_pointer : Binds K A.d__law_pointer ["_law_words"] []
  g__law_pointer : mg "_law_pointer" = some (.ref A.f__law_pointer)
  F__law_due : Fun K "_law_due" "_law_due" s__law_due A.f__law_due A.d__law_due
  b__law_due : Binds K A.d__law_due ["_law_words"] []
  g__law_due : mg "_law_due" = some (.ref A.f__law_due)
  F_law : Fun K "law" "law" s_law A.f_law A.d_law
  b_law : Binds K A.d_law ["_law_script"] []
  g_law : mg "law" = some (.ref A.f_law)
  n_ValueError : mg "ValueError" = none
  n_all : mg "all" = none
  n_any : mg "any" = none
  n_isinstance : mg "isinstance" = none
  n_len : mg "len" = none
  n_list : mg "list" = none
  n_range : mg "range" = none
  n_tuple : mg "tuple" = none
  k_FIRST_BLOCK : ∃ t, mg "FIRST_BLOCK" = some (.int 5 t)
  k_INNER : ∃ t, mg "INNER" = some (.int 2 t)
  k_INNER_ITEMS : ∃ t, mg "INNER_ITEMS" = some (.int 5 t)
  k_LEAF : ∃ t, mg "LEAF" = some (.int 1 t)
  k_LEAF_ITEMS : ∃ t, mg "LEAF_ITEMS" = some (.int 4 t)
  k_MAX_BLOCKS : ∃ t, mg "MAX_BLOCKS" = some (.int 256 t)
  x_BadImage : Exc K mg "BadImage" A.ex.BadImage
  x_LaminaError : Exc K mg "LaminaError" A.ex.LaminaError
  x_NotValid : Exc K mg "NotValid" A.ex.NotValid
  fa : Fa K A.ex
section
variable {P : Program} {w : World} {K : PySem.W.Frag} {mg : Str → Option Value} {base : Heap} {A : Adr}
theorem ok_most_items (T : Top K mg A) (TB : GxR.TabB base mg A.cc_from_block A.ex.T_from_block) : FnOk P w K mg base (L2.CX P w) 1 A.f_most_items A.d_most_items ["kind"] (sp_most_items K A.ex) := by
  refine T.F_most_items.okX sc_most_items (fun vs H Q E h => len1 h) (fun cdv Ar outer s H vs Q E hr h => ⟨t_most_items K A.ex E, ?_, pure_most_items T.fa h⟩)
  have tk : Takes (cxOf (L2.CX P w) P w K mg base ["kind"] "most_items" (defScope s_most_items) A.f_most_items cdv Ar outer s H E) (WB E) := takes_of rfl rfl rfl rfl
  exact pss_cons (ps_if (pt_cmpR (o_eq hr.units) (pv 0) (pe_glob rfl T.k_LEAF.choose_spec ⟨_, rfl⟩) (nomark _)) (pss_one (ps_ret (pe_glob rfl T.k_LEAF_ITEMS.choose_spec ⟨_, rfl⟩))) (pss_nil))
        (pss_cons (ps_if (pt_cmpR (o_eq hr.units) (pv 0) (pe_glob rfl T.k_INNER.choose_spec ⟨_, rfl⟩) (nomark _)) (pss_one (ps_ret (pe_glob rfl T.k_INNER_ITEMS.choose_spec ⟨_, rfl⟩))) (pss_nil))
        (pss_one (s_raise T.x_NotValid tk)))
theorem ok_are_ascending (T : Top K mg A) (TB : GxR.TabB base mg A.cc_from_block A.ex.T_from_block) : FnOk P w K mg base (L2.CX P w) 1 A.f_are_ascending A.d_are_ascending ["items"] (sp_are_ascending K A.ex) := by
  refine T.F_are_ascending.okX sc_are_ascending (fun vs H Q E h => len1 h) (fun cdv Ar outer s H vs Q E hr h => ⟨t_are_ascending K A.ex E, ?_, pure_are_ascending T.fa h⟩)
  have tk : Takes (cxOf (L2.CX P w) P w K mg base ["items", "index"] "are_ascending" (defScope s_are_ascending) A.f_are_ascending cdv Ar outer s H E) (WB E) := takes_of rfl rfl rfl rfl
  have po : PassesOwn (model P w) (cxOf (L2.CX P w) P w K mg base ["items", "index"] "are_ascending" (defScope s_are_ascending) A.f_are_ascending cdv Ar outer s H E).A (cxOf (L2.CX P w) P w K mg base ["items", "index"] "are_ascending" (defScope s_are_ascending) A.f_are_ascending cdv Ar outer s H E).env (cxOf (L2.CX P w) P w K mg base ["items", "index"] "are_ascending" (defScope s_are_ascending) A.f_are_ascending cdv Ar outer s H E).xe := passes_of rfl
  have hu := hu_of hr
  have hl := Nat.lt_of_succ_lt hu
  exact pss_cons (ps_for po rfl (pi_range2 (by rfl) T.n_range (pa_cons (pe_int) (pa_cons (pe_callB (c_len) (by rfl) T.n_len (by decide +kernel) (pa_cons (pv 0) (pa_nil))) (pa_nil)))) (pg_name (i := 1) sc_are_ascending.nd rfl (Or.inl rfl))
        (pss_one (ps_if (pt_cmpR (o_ge hl) (e_ix (e_ix (pv 0) (pe_op o_sub (pv 1) (pe_int))) (pe_int)) (e_ix (e_ix (pv 0) (pv 1)) (pe_int)) (nomark _)) (pss_one (ps_ret (pe_bl))) (pss_nil))))
        (pss_one (ps_ret (pe_bl)))
theorem ok_is_block_pointer (T : Top K mg A) (TB : GxR.TabB base mg A.cc_from_block A.ex.T_from_block) : FnOk P w K mg base (L2.CX P w) 1 A.f_is_block_pointer A.d_is_block_pointer ["pointer"] (sp_is_block_pointer K A.ex) := by
  refine T.F_is_block_pointer.okX sc_is_block_pointer (fun vs H Q E h => len1 h) (fun cdv Ar outer s H vs Q E hr h => ⟨t_is_block_pointer K A.ex E, ?_, pure_is_block_pointer T.fa h⟩)
  have tk : Takes (cxOf (L2.CX P w) P w K mg base ["pointer"] "is_block_pointer" (defScope s_is_block_pointer) A.f_is_block_pointer cdv Ar outer s H E) (WB E) := takes_of rfl rfl rfl rfl
  have hu := hu_of hr
  have hl := Nat.lt_of_succ_lt hu
  exact pss_one (ps_ret (pe_and (pe_chain (o_le hl) (o_lt hl) (pe_glob rfl T.k_FIRST_BLOCK.choose_spec ⟨_, rfl⟩) (e_ix (pv 0) (pe_int)) (pe_glob rfl T.k_MAX_BLOCKS.choose_spec ⟨_, rfl⟩)) (pe_one (pe_cmpR (o_ge hl) (e_ix (pv 0) (pe_int)) (pe_int) (nomark _)))))
theorem ok_item_words (T : Top K mg A) (TB : GxR.TabB base mg A.cc_from_block A.ex.T_from_block) : FnOk P w K mg base (L2.CX P w) 1 A.f_item_words A.d_item_words ["kind"] (sp_item_words K A.ex) := by
  refine T.F_item_words.okX sc_item_words (fun vs H Q E h => len1 h) (fun cdv Ar outer s H vs Q E hr h => ⟨t_item_words K A.ex E, ?_, pure_item_words T.fa h⟩)
  have tk : Takes (cxOf (L2.CX P w) P w K mg base ["kind"] "item_words" (defScope s_item_words) A.f_item_words cdv Ar outer s H E) (WB E) := takes_of rfl rfl rfl rfl
  exact pss_cons (ps_if (pt_cmpR (o_eq hr.units) (pv 0) (pe_glob rfl T.k_LEAF.choose_spec ⟨_, rfl⟩) (nomark _)) (pss_one (ps_ret (pe_int))) (pss_nil))
        (pss_one (ps_ret (pe_int)))
theorem ok_own_pointer (T : Top K mg A) (TB : GxR.TabB base mg A.cc_from_block A.ex.T_from_block) : FnOk P w K mg base (L2.CX P w) 1 A.f_own_pointer A.d_own_pointer ["block"] (sp_own_pointer K A.ex) := by
  refine T.F_own_pointer.okX sc_own_pointer (fun vs H Q E h => len1 h) (fun cdv Ar outer s H vs Q E hr h => ⟨t_own_pointer K A.ex E, ?_, pure_own_pointer T.fa h⟩)
  have tk : Takes (cxOf (L2.CX P w) P w K mg base ["block"] "own_pointer" (defScope s_own_pointer) A.f_own_pointer cdv Ar outer s H E) (WB E) := takes_of rfl rfl rfl rfl
  exact pss_one (ps_ret (pe_tup (pa_cons (e_ix (pv 0) (pe_int)) (pa_cons (e_ix (pv 0) (pe_int)) (pa_nil)))))
theorem ok_from_block (T : Top K mg A) (TB : GxR.TabB base mg A.cc_from_block A.ex.T_from_block) : FnOk P w K mg base (L2.CX P w) 3 A.f_from_block A.d_from_block ["block"] (sp_from_block K A.ex) := by
  refine okXt T.F_from_block T.cc_from_block sc_from_block (fun vs H Q E h => len1 h) (fun Ar outer s H vs Q E hr h => ⟨t_from_block K A.ex E, ?_, pure_from_block T.fa h⟩)
  have tk : Takes (cxOf (L2.CX P w) P w K mg base ["block", "kind", "size", "items", "index", "at", "item"] "from_block" (defScope s_from_block) A.f_from_block (.ref A.cc_from_block) Ar outer s H E) (WB E) := takes_of rfl rfl rfl rfl
  have po : PassesOwn (model P w) (cxOf (L2.CX P w) P w K mg base ["block", "kind", "size", "items", "index", "at", "item"] "from_block" (defScope s_from_block) A.f_from_block (.ref A.cc_from_block) Ar outer s H E).A (cxOf (L2.CX P w) P w K mg base ["block", "kind", "size", "items", "index", "at", "item"] "from_block" (defScope s_from_block) A.f_from_block (.ref A.cc_from_block) Ar outer s H E).env (cxOf (L2.CX P w) P w K mg base ["block", "kind", "size", "items", "index", "at", "item"] "from_block" (defScope s_from_block) A.f_from_block (.ref A.cc_from_block) Ar outer s H E).xe := passes_of rfl
  have hu := hu_of hr
  exact pss_cons (ps_set (i := 1) sc_from_block.nd rfl (Or.inl rfl) (e_ix (pv 0) (pe_int)))
        (pss_cons (ps_if (PW.pt (pw_or (pt_cmpR (o_nin hu) (pv 1) (pe_tup (pa_cons (pe_glob rfl T.k_LEAF.choose_spec ⟨_, rfl⟩) (pa_cons (pe_glob rfl T.k_INNER.choose_spec ⟨_, rfl⟩) (pa_nil)))) (by rfl)) (pw_or1 (pt_cmpR (o_gt) (e_ix (pv 0) (pe_int)) (e_call (ok_most_items T TB) (hr.mono (by decide)) T.g_most_items T.F_most_items.kp T.b_most_items tk (pa_cons (pv 1) (pa_nil))) (nomark _))))) (pss_one (s_raise T.x_BadImage tk)) (pss_nil))
        (pss_cons (ps_if (pt_not (t_tru (e_call (ok_is_block_pointer T TB) (hr.mono (by decide)) T.g_is_block_pointer T.F_is_block_pointer.kp T.b_is_block_pointer tk (pa_cons (e_call (ok_own_pointer T TB) (hr.mono (by decide)) T.g_own_pointer T.F_own_pointer.kp T.b_own_pointer tk (pa_cons (pv 0) (pa_nil))) (pa_nil))))) (pss_one (s_raise T.x_BadImage tk)) (pss_nil))
        (pss_cons (ps_set (i := 2) sc_from_block.nd rfl (Or.inl rfl) (e_call (ok_item_words T TB) (hr.mono (by decide)) T.g_item_words T.F_item_words.kp T.b_item_words tk (pa_cons (pv 1) (pa_nil))))
        (pss_cons (ps_set (i := 3) sc_from_block.nd rfl (Or.inl rfl) (pe_lst (pa_nil)))
        (pss_cons (ps_for po rfl (pi_range1 (by rfl) T.n_range (pa_cons (e_ix (pv 0) (pe_int)) (pa_nil))) (pg_name (i := 4) sc_from_block.nd rfl (Or.inl rfl))
        (pss_cons (ps_set (i := 5) sc_from_block.nd rfl (Or.inl rfl) (pe_op o_add (pe_int) (pe_op o_mul (pv 2) (pv 4))))
        (pss_one (ps_expr (pe_bm PySem.F.plainAttrs_list PySem.F.slot_list_append PySem.F.type_list_append mt_append (pv 3) (pa_cons (pe_tup (pa_cons (pe_callTy (c_tuple) (by rfl) T.n_tuple (by decide +kernel) (pa_cons (e_sl (pv 0) (po_some (pv 5)) (po_some (pe_op o_add (pv 5) (pe_int)))) (pa_nil))) (pa_cons (pe_callTy (c_tuple) (by rfl) T.n_tuple (by decide +kernel) (pa_cons (e_sl (pv 0) (po_some (pe_op o_add (pv 5) (pe_int))) (po_some (pe_op o_add (pv 5) (pv 2)))) (pa_nil))) (pa_nil)))) (pa_nil)))))))
        (pss_cons (ps_if (PW.pt (pw_or (t_tru (pe_callB (c_anyI rfl) (by rfl) T.n_any (by decide +kernel) (pa_cons (e_sl (pv 0) (po_some (pe_op o_add (pe_int) (pe_op o_mul (pv 2) (e_ix (pv 0) (pe_int))))) (po_none)) (pa_nil)))) (pw_or1 (pt_not (t_tru (e_call (ok_are_ascending T TB) (hr.mono (by decide)) T.g_are_ascending T.F_are_ascending.kp T.b_are_ascending tk (pa_cons (pv 3) (pa_nil)))))))) (pss_one (s_raise T.x_BadImage tk)) (pss_nil))
        (pss_cons (ps_if (PW.pt (pw_and (pt_cmpR (o_eq hr.units) (pv 1) (pe_glob rfl T.k_INNER.choose_spec ⟨_, rfl⟩) (nomark _)) (pw_and1 (pt_not (t_tru (pe_allC (k := 1) (hr.mono (by decide)) rfl rfl T.n_all (by decide +kernel) TB rfl ⟨rfl, rfl, by decide +kernel, rfl, rfl⟩ (pi_list (pv 3)) (fun A' hr s H cc code fp => e_call (ok_is_block_pointer T TB) (hr.mono (by decide)) T.g_is_block_pointer T.F_is_block_pointer.kp T.b_is_block_pointer takes0 (pa_cons (e_ix (pv 0) (pe_int)) (pa_nil))) (fun _ => rfl))))))) (pss_one (s_raise T.x_BadImage tk)) (pss_nil))
        (pss_one (ps_ret (pe_tup (pa_cons (pv 1) (pa_cons (pv 3) (pa_nil)))))))))))))
theorem ok__law_cell (T : Top K mg A) (TB : GxR.TabB base mg A.cc_from_block A.ex.T_from_block) : FnOk P w K mg base (L2.CX P w) 1 A.f__law_cell A.d__law_cell ["_law_script", "_law_k"] (sp__law_cell K A.ex) := by
  refine T.F__law_cell.okX sc__law_cell (fun vs H Q E h => len2 h) (fun cdv Ar outer s H vs Q E hr h => ⟨t__law_cell K A.ex E, ?_, pure__law_cell T.fa h⟩)
  have tk : Takes (cxOf (L2.CX P w) P w K mg base ["_law_script", "_law_k"] "_law_cell" (defScope s__law_cell) A.f__law_cell cdv Ar outer s H E) (WB E) := takes_of rfl rfl rfl rfl
  have hu := hu_of hr
  have hl := Nat.lt_of_succ_lt hu
  exact pss_cons (ps_if (pt_cmpR (o_lt hl) (pv 1) (pe_callB (c_len) (by rfl) T.n_len (by decide +kernel) (pa_cons (pv 0) (pa_nil))) (nomark _)) (pss_one (ps_ret (e_ix (pv 0) (pv 1)))) (pss_nil))
        (pss_one (ps_ret (pe_int)))
theorem ok__law_word (T : Top K mg A) (TB : GxR.TabB base mg A.cc_from_block A.ex.T_from_block) : FnOk P w K mg base (L2.CX P w) 1 A.f__law_word A.d__law_word ["_law_cell_here"] (sp__law_word K A.ex) := by
  refine T.F__law_word.okX sc__law_word (fun vs H Q E h => len1 h) (fun cdv Ar outer s H vs Q E hr h => ⟨t__law_word K A.ex E, ?_, pure__law_word T.fa h⟩)
  have tk : Takes (cxOf (L2.CX P w) P w K mg base ["_law_cell_here", "_law_menu"] "_law_word" (defScope s__law_word) A.f__law_word cdv Ar outer s H E) (WB E) := takes_of rfl rfl rfl rfl
  exact pss_cons (ps_set (i := 1) sc__law_word.nd rfl (Or.inl rfl) (pe_tup (pa_cons (pe_int) (pa_cons (pe_int) (pa_cons (pe_int) (pa_cons (pe_int) (pa_cons (pe_int) (pa_cons (pe_int) (pa_cons (pe_int) (pa_cons (pe_int) (pa_cons (pe_int) (pa_cons (pe_int) (pa_nil)))))))))))))
        (pss_cons (ps_if (pt_cmpR (o_eq hr.units) (pe_op o_mod (pv 0) (pe_int)) (pe_int) (nomark _)) (pss_one (ps_ret (e_ix (pv 1) (pe_op o_mod (pe_op o_div (pv 0) (pe_int)) (pe_int))))) (pss_nil))
        (pss_one (ps_ret (pe_op o_mod (pe_op o_div (pv 0) (pe_int)) (pe_int)))))
theorem ok__law_node (T : Top K mg A) (TB : GxR.TabB base mg A.cc_from_block A.ex.T_from_block) : FnOk P w K mg base (L2.CX P w) 2 A.f__law_node A.d__law_node ["_law_script"] (sp__law_node K A.ex) := by
  refine T.F__law_node.okX sc__law_node (fun vs H Q E h => len1 h) (fun cdv Ar outer s H vs Q E hr h => ⟨t__law_node K A.ex E, ?_, pure__law_node T.fa h⟩)
  have tk : Takes (cxOf (L2.CX P w) P w K mg base ["_law_script", "_law_kind", "_law_size", "_law_many", "_law_words", "_law_turn", "_law_cell_here"] "_law_node" (defScope s__law_node) A.f__law_node cdv Ar outer s H E) (WB E) := takes_of rfl rfl rfl rfl
  have po : PassesOwn (model P w) (cxOf (L2.CX P w) P w K mg base ["_law_script", "_law_kind", "_law_size", "_law_many", "_law_words", "_law_turn", "_law_cell_here"] "_law_node" (defScope s__law_node) A.f__law_node cdv Ar outer s H E).A (cxOf (L2.CX P w) P w K mg base ["_law_script", "_law_kind", "_law_size", "_law_many", "_law_words", "_law_turn", "_law_cell_here"] "_law_node" (defScope s__law_node) A.f__law_node cdv Ar outer s H E).env (cxOf (L2.CX P w) P w K mg base ["_law_script", "_law_kind", "_law_size", "_law_many", "_law_words", "_law_turn", "_law_cell_here"] "_law_node" (defScope s__law_node) A.f__law_node cdv Ar outer s H E).xe := passes_of rfl
  exact pss_cons (ps_set (i := 1) sc__law_node.nd rfl (Or.inl rfl) (pe_op o_add (pe_int) (pe_op o_mod (e_call (ok__law_cell T TB) (hr.mono (by decide)) T.g__law_cell T.F__law_cell.kp T.b__law_cell tk (pa_cons (pv 0) (pa_cons (pe_int) (pa_nil)))) (pe_int))))
        (pss_cons (ps_set (i := 2) sc__law_node.nd rfl (Or.inl rfl) (pe_op o_sub (pe_int) (pe_op o_mul (pe_int) (pv 1))))
        (pss_cons (ps_set (i := 3) sc__law_node.nd rfl (Or.inl rfl) (pe_op o_mod (pe_op o_div (e_call (ok__law_cell T TB) (hr.mono (by decide)) T.g__law_cell T.F__law_cell.kp T.b__law_cell tk (pa_cons (pv 0) (pa_cons (pe_int) (pa_nil)))) (pe_int)) (pe_op o_add (pe_int) (pv 1))))
        (pss_cons (ps_set (i := 4) sc__law_node.nd rfl (Or.inl rfl) (pe_lst (pa_cons (pv 1) (pa_cons (pv 3) (pa_cons (pe_op o_add (pe_int) (pe_op o_mod (e_call (ok__law_cell T TB) (hr.mono (by decide)) T.g__law_cell T.F__law_cell.kp T.b__law_cell tk (pa_cons (pv 0) (pa_cons (pe_int) (pa_nil)))) (pe_int))) (pa_cons (pe_op o_add (pe_int) (pe_op o_mod (pe_op o_div (e_call (ok__law_cell T TB) (hr.mono (by decide)) T.g__law_cell T.F__law_cell.kp T.b__law_cell tk (pa_cons (pv 0) (pa_cons (pe_int) (pa_nil)))) (pe_int)) (pe_int))) (pa_nil)))))))
        (pss_cons (ps_for po rfl (pi_range1 (by rfl) T.n_range (pa_cons (e_ix (pv 4) (pe_int)) (pa_nil))) (pg_name (i := 5) sc__law_node.nd rfl (Or.inl rfl))
        (pss_cons (ps_set (i := 6) sc__law_node.nd rfl (Or.inl rfl) (e_call (ok__law_cell T TB) (hr.mono (by decide)) T.g__law_cell T.F__law_cell.kp T.b__law_cell tk (pa_cons (pv 0) (pa_cons (pe_op o_add (pe_int) (pv 5)) (pa_nil)))))
        (pss_cons (ps_set (i := 4) sc__law_node.nd rfl (Or.inl rfl) (pe_op o_add (pv 4) (pe_lst (pa_cons (pe_op o_add (pe_int) (pe_op o_div (pv 5) (pe_int))) (pa_cons (pe_op o_add (pe_op o_mod (pv 6) (pe_int)) (pe_op o_mul (pe_int) (pv 5))) (pa_cons (pe_op o_mod (pe_op o_div (pv 6) (pe_int)) (pe_int)) (pa_nil)))))))
        (pss_one (ps_if (pt_cmpR (o_eq hr.units) (pv 1) (pe_int) (nomark _)) (pss_one (ps_set (i := 4) sc__law_node.nd rfl (Or.inl rfl) (pe_op o_add (pv 4) (pe_lst (pa_cons (pe_op o_add (pe_int) (pe_op o_mod (pv 6) (pe_int))) (pa_cons (pe_op o_add (pe_int) (pe_op o_mod (pe_op o_div (pv 6) (pe_int)) (pe_int))) (pa_nil))))))) (pss_one (ps_set (i := 4) sc__law_node.nd rfl (Or.inl rfl) (pe_op o_add (pv 4) (pe_lst (pa_cons (pe_op o_mod (pv 6) (pe_int)) (pa_cons (pe_op o_mod (pe_op o_div (pv 6) (pe_int)) (pe_int)) (pa_cons (pe_int) (pa_cons (pe_op o_mod (pe_op o_div (pv 6) (pe_int)) (pe_op o_pow (pe_int) (pe_int))) (pa_nil))))))))))))))
        (pss_one (ps_ret (pe_tup (pa_cons (e_sl (pe_op o_add (pv 4) (pe_op o_mul (pe_lst (pa_cons (pe_int) (pa_nil))) (pe_int))) (po_none) (po_some (pe_int))) (pa_cons (pv 2) (pa_nil))))))))))
theorem ok__law_pointer (T : Top K mg A) (TB : GxR.TabB base mg A.cc_from_block A.ex.T_from_block) : FnOk P w K mg base (L2.CX P w) 1 A.f__law_pointer A.d__law_pointer ["_law_words"] (sp__law_pointer K A.ex) := by
  refine T.F__law_pointer.okX sc__law_pointer (fun vs H Q E h => len1 h) (fun cdv Ar outer s H vs Q E hr h => ⟨t__law_pointer K A.ex E, ?_, pure__law_pointer T.fa h⟩)
  have tk : Takes (cxOf (L2.CX P w) P w K mg base ["_law_words"] "_law_pointer" (defScope s__law_pointer) A.f__law_pointer cdv Ar outer s H E) (WB E) := takes_of rfl rfl rfl rfl
  have hu := hu_of hr
  have hl := Nat.lt_of_succ_lt hu
  exact pss_one (ps_ret (pe_and (pe_chain (o_le hl) (o_le hl) (pe_int) (e_ix (pv 0) (pe_int)) (pe_int)) (pe_one (pe_cmpR (o_ge hl) (e_ix (pv 0) (pe_int)) (pe_int) (nomark _)))))
theorem ok__law_due (T : Top K mg A) (TB : GxR.TabB base mg A.cc_from_block A.ex.T_from_block) : FnOk P w K mg base (L2.CX P w) 2 A.f__law_due A.d__law_due ["_law_words"] (sp__law_due K A.ex) := by
  refine T.F__law_due.okX sc__law_due (fun vs H Q E h => len1 h) (fun cdv Ar outer s H vs Q E hr h => ⟨t__law_due K A.ex E, ?_, pure__law_due T.fa h⟩)
  have tk : Takes (cxOf (L2.CX P w) P w K mg base ["_law_words", "_law_size", "_law_items", "_law_turn", "_law_part", "_law_key", "_law_word_here"] "_law_due" (defScope s__law_due) A.f__law_due cdv Ar outer s H E) (WB E) := takes_of rfl rfl rfl rfl
  have po : PassesOwn (model P w) (cxOf (L2.CX P w) P w K mg base ["_law_words", "_law_size", "_law_items", "_law_turn", "_law_part", "_law_key", "_law_word_here"] "_law_due" (defScope s__law_due) A.f__law_due cdv Ar outer s H E).A (cxOf (L2.CX P w) P w K mg base ["_law_words", "_law_size", "_law_items", "_law_turn", "_law_part", "_law_key", "_law_word_here"] "_law_due" (defScope s__law_due) A.f__law_due cdv Ar outer s H E).env (cxOf (L2.CX P w) P w K mg base ["_law_words", "_law_size", "_law_items", "_law_turn", "_law_part", "_law_key", "_law_word_here"] "_law_due" (defScope s__law_due) A.f__law_due cdv Ar outer s H E).xe := passes_of rfl
  have hu := hu_of hr
  have hl := Nat.lt_of_succ_lt hu
  exact pss_cons (ps_if (PW.pt (pw_and (pt_cmpR (o_ne hr.units) (e_ix (pv 0) (pe_int)) (pe_int) (nomark _)) (pw_and1 (pt_cmpR (o_ne hr.units) (e_ix (pv 0) (pe_int)) (pe_int) (nomark _))))) (pss_one (ps_ret (pe_non))) (pss_nil))
        (pss_cons (ps_set (i := 1) sc__law_due.nd rfl (Or.inl rfl) (pe_op o_sub (pe_int) (pe_op o_mul (pe_int) (e_ix (pv 0) (pe_int)))))
        (pss_cons (ps_if (PW.pt (pw_or (pt_cmpR (o_gt) (e_ix (pv 0) (pe_int)) (pe_op o_add (pe_int) (e_ix (pv 0) (pe_int))) (nomark _)) (pw_or1 (pt_not (t_tru (e_call (ok__law_pointer T TB) (hr.mono (by decide)) T.g__law_pointer T.F__law_pointer.kp T.b__law_pointer tk (pa_cons (e_sl (pv 0) (po_some (pe_int)) (po_some (pe_int))) (pa_nil)))))))) (pss_one (ps_ret (pe_non))) (pss_nil))
        (pss_cons (ps_set (i := 2) sc__law_due.nd rfl (Or.inl rfl) (pe_lst (pa_nil)))
        (pss_cons (ps_for po rfl (pi_range1 (by rfl) T.n_range (pa_cons (e_ix (pv 0) (pe_int)) (pa_nil))) (pg_name (i := 3) sc__law_due.nd rfl (Or.inl rfl))
        (pss_cons (ps_set (i := 4) sc__law_due.nd rfl (Or.inl rfl) (e_sl (pv 0) (po_some (pe_op o_add (pe_int) (pe_op o_mul (pv 1) (pv 3)))) (po_some (pe_op o_add (pe_int) (pe_op o_mul (pv 1) (pe_op o_add (pv 3) (pe_int)))))))
        (pss_cons (ps_set (i := 5) sc__law_due.nd rfl (Or.inl rfl) (pe_tup (pa_cons (e_ix (pv 4) (pe_int)) (pa_cons (e_ix (pv 4) (pe_int)) (pa_cons (e_ix (pv 4) (pe_int)) (pa_nil))))))
        (pss_cons (ps_if (PW.pt (pw_and (pt_cmpR (o_ne hr.units) (pv 2) (pe_lst (pa_nil)) (nomark _)) (pw_and1 (pt_cmpR (o_ge hl) (e_ix (e_ix (pv 2) (pe_un o_neg (pe_int))) (pe_int)) (pv 5) (nomark _))))) (pss_one (ps_ret (pe_non))) (pss_nil))
        (pss_cons (ps_if (PW.pt (pw_and (pt_cmpR (o_eq hr.units) (e_ix (pv 0) (pe_int)) (pe_int) (nomark _)) (pw_and1 (pt_not (t_tru (e_call (ok__law_pointer T TB) (hr.mono (by decide)) T.g__law_pointer T.F__law_pointer.kp T.b__law_pointer tk (pa_cons (e_sl (pv 4) (po_some (pe_int)) (po_none)) (pa_nil)))))))) (pss_one (ps_ret (pe_non))) (pss_nil))
        (pss_one (ps_expr (pe_bm PySem.F.plainAttrs_list PySem.F.slot_list_append PySem.F.type_list_append mt_append (pv 2) (pa_cons (pe_tup (pa_cons (pv 5) (pa_cons (pe_callTy (c_tuple) (by rfl) T.n_tuple (by decide +kernel) (pa_cons (e_sl (pv 4) (po_some (pe_int)) (po_none)) (pa_nil))) (pa_nil)))) (pa_nil))))))))))
        (pss_cons (ps_for po rfl (pi_list (e_sl (pv 0) (po_some (pe_op o_add (pe_int) (pe_op o_mul (pv 1) (e_ix (pv 0) (pe_int))))) (po_none))) (pg_name (i := 6) sc__law_due.nd rfl (Or.inl rfl))
        (pss_one (ps_if (pt_cmpR (o_ne hr.units) (pv 6) (pe_int) (nomark _)) (pss_one (ps_ret (pe_non))) (pss_nil))))
        (pss_one (ps_ret (pe_tup (pa_cons (e_ix (pv 0) (pe_int)) (pa_cons (pv 2) (pa_nil)))))))))))
theorem ok_law (T : Top K mg A) (TB : GxR.TabB base mg A.cc_from_block A.ex.T_from_block) : FnOk P w K mg base (L2.CX P w) 4 A.f_law A.d_law ["_law_script"] (sp_law K A.ex) := by
  refine T.F_law.okX sc_law (fun vs H Q E h => len1 (show spLawT K A.ex.T_from_block vs H Q E from h)) (fun cdv Ar outer s H vs Q E hr h => ⟨t_law K A.ex E, ?_, pure_law T.fa h⟩)
  have tk : Takes (cxOf (L2.CX P w) P w K mg base ["_law_script", "_law_words", "_law_size", "_law_turn", "_law_cell_here", "_law_due_here", "_law_told", "e"] "law" (defScope s_law) A.f_law cdv Ar outer s H E) (WB E) := takes_of rfl rfl rfl rfl
  have po : PassesOwn (model P w) (cxOf (L2.CX P w) P w K mg base ["_law_script", "_law_words", "_law_size", "_law_turn", "_law_cell_here", "_law_due_here", "_law_told", "e"] "law" (defScope s_law) A.f_law cdv Ar outer s H E).A (cxOf (L2.CX P w) P w K mg base ["_law_script", "_law_words", "_law_size", "_law_turn", "_law_cell_here", "_law_due_here", "_law_told", "e"] "law" (defScope s_law) A.f_law cdv Ar outer s H E).env (cxOf (L2.CX P w) P w K mg base ["_law_script", "_law_words", "_law_size", "_law_turn", "_law_cell_here", "_law_due_here", "_law_told", "e"] "law" (defScope s_law) A.f_law cdv Ar outer s H E).xe := passes_of rfl
  have hu := hu_of hr
  exact pss_cons (ps_asg (e_call (ok__law_node T TB) (hr.mono (by decide)) T.g__law_node T.F__law_node.kp T.b__law_node tk (pa_cons (pv 0) (pa_nil))) (pg_tup rfl (pgs_cons (pg_name (i := 1) sc_law.nd rfl (Or.inl rfl)) (pgs_cons (pg_name (i := 2) sc_law.nd rfl (Or.inl rfl)) (pgs_nil)))))
        (pss_cons (ps_for po rfl (pi_range1 (by rfl) T.n_range (pa_cons (pe_op o_mod (e_call (ok__law_cell T TB) (hr.mono (by decide)) T.g__law_cell T.F__law_cell.kp T.b__law_cell tk (pa_cons (pv 0) (pa_cons (pe_int) (pa_nil)))) (pe_int)) (pa_nil))) (pg_name (i := 3) sc_law.nd rfl (Or.inl rfl))
        (pss_cons (ps_set (i := 4) sc_law.nd rfl (Or.inl rfl) (e_call (ok__law_cell T TB) (hr.mono (by decide)) T.g__law_cell T.F__law_cell.kp T.b__law_cell tk (pa_cons (pv 0) (pa_cons (pe_op o_add (pe_int) (pv 3)) (pa_nil)))))
        (pss_one (ps_asg (e_call (ok__law_word T TB) (hr.mono (by decide)) T.g__law_word T.F__law_word.kp T.b__law_word tk (pa_cons (pe_op o_div (pv 4) (pe_int)) (pa_nil))) (pg_sub (pv 1) (pe_op o_mod (pv 4) (pe_int)) (set_u hu))))))
        (pss_cons (ps_set (i := 5) sc_law.nd rfl (Or.inl rfl) (e_call (ok__law_due T TB) (hr.mono (by decide)) T.g__law_due T.F__law_due.kp T.b__law_due tk (pa_cons (pv 1) (pa_nil))))
        (pss_cons (s_tryAs (i := 7) rfl rfl sc_law.nd rfl rfl ⟨rfl, by decide, Or.inl T.x_BadImage.g⟩ tk (fun W pn xe tk po => pss_one (ps_set (i := 6) sc_law.nd rfl (Or.inl rfl) (e_call (ok_from_block T TB) (hr.mono (by decide)) T.g_from_block T.F_from_block.kp T.b_from_block tk (pa_cons (pe_callTy (c_list) (by rfl) T.n_list (by decide +kernel) (pa_cons (pv 1) (pa_nil))) (pa_nil))))) (fun a oe cls d pn hz hf => pss_one (ps_ret (pe_and (pe_cmpR (o_is) (pv 5) (pe_non) (nomark _)) (pe_and (pe_callB (c_isE hz hf) (by rfl) T.n_isinstance (by decide +kernel) (pa_cons (pv 7) (pa_cons (pe_glob rfl T.x_LaminaError.g rfl) (pa_nil)))) (pe_one (pe_callB (c_isB hz hf) (by rfl) T.n_isinstance (by decide +kernel) (pa_cons (pv 7) (pa_cons (pe_bltn rfl T.n_ValueError (by decide +kernel) rfl) (pa_nil))))))))))
        (pss_one (ps_ret (pe_and (pe_cmpR (o_isnt) (pv 5) (pe_non) (nomark _)) (pe_and (pe_callB (c_isi .tuple) (by rfl) T.n_isinstance (by decide +kernel) (pa_cons (pv 6) (pa_cons (pe_bltn rfl T.n_tuple (by decide +kernel) rfl) (pa_nil)))) (pe_one (pe_cmpR (o_eq hr.units) (pv 6) (pv 5) (nomark _))))))))))
end
theorem all_mk {P : Program} {w : World} {K : PySem.W.Frag} {h : Heap} {mg : Str → Option Value} {fa : Addr} (X : K.In h) (G : h.Ns mainGlobals mg) (hfa : mg "law" = some (.ref fa))
    {f_most_items f_are_ascending f_is_block_pointer f_item_words f_from_block f_own_pointer f__law_cell f__law_word f__law_node f__law_pointer f__law_due f_law : Addr}
    {C_LaminaError C_NotValid C_BadImage : Addr}
    {od_most_items an_most_items : Option Addr} {sl_most_items : Array (Option Value)} {oc_most_items kV_most_items dc_most_items pm_most_items cd_most_items ct_most_items : Value}
    {od_are_ascending an_are_ascending : Option Addr} {sl_are_ascending : Array (Option Value)} {oc_are_ascending kV_are_ascending dc_are_ascending pm_are_ascending cd_are_ascending ct_are_ascending : Value}
    {od_is_block_pointer an_is_block_pointer : Option Addr} {sl_is_block_pointer : Array (Option Value)} {oc_is_block_pointer kV_is_block_pointer dc_is_block_pointer pm_is_block_pointer cd_is_block_pointer ct_is_block_pointer : Value}
    {od_item_words an_item_words : Option Addr} {sl_item_words : Array (Option Value)} {oc_item_words kV_item_words dc_item_words pm_item_words cd_item_words ct_item_words : Value}
    {od_from_block an_from_block : Option Addr} {sl_from_block : Array (Option Value)} {oc_from_block kV_from_block dc_from_block pm_from_block ct_from_block : Value} {cc_from_block T_from_block : Addr}
    {od_own_pointer an_own_pointer : Option Addr} {sl_own_pointer : Array (Option Value)} {oc_own_pointer kV_own_pointer dc_own_pointer pm_own_pointer cd_own_pointer ct_own_pointer : Value}
    {od__law_cell an__law_cell : Option Addr} {sl__law_cell : Array (Option Value)} {oc__law_cell kV__law_cell dc__law_cell pm__law_cell cd__law_cell ct__law_cell : Value}
    {od__law_word an__law_word : Option Addr} {sl__law_word : Array (Option Value)} {oc__law_word kV__law_word dc__law_word pm__law_word cd__law_word ct__law_word : Value}
    {od__law_node an__law_node : Option Addr} {sl__law_node : Array (Option Value)} {oc__law_node kV__law_node dc__law_node pm__law_node cd__law_node ct__law_node : Value}
    {od__law_pointer an__law_pointer : Option Addr} {sl__law_pointer : Array (Option Value)} {oc__law_pointer kV__law_pointer dc__law_pointer pm__law_pointer cd__law_pointer ct__law_pointer : Value}
    {od__law_due an__law_due : Option Addr} {sl__law_due : Array (Option Value)} {oc__law_due kV__law_due dc__law_due pm__law_due cd__law_due ct__law_due : Value}
    {od_law an_law : Option Addr} {sl_law : Array (Option Value)} {oc_law kV_law dc_law pm_law cd_law ct_law : Value}
    {t_FIRST_BLOCK : Tok}
    {t_INNER : Tok}
    {t_INNER_ITEMS : Tok}
    {t_LEAF : Tok}
    {t_LEAF_ITEMS : Tok}
    {t_MAX_BLOCKS : Tok}
    (aC_BadImage : PySem.W.nsIn K mainGlobals "BadImage" = some (some (.ref C_BadImage)))
    (aC_LaminaError : PySem.W.nsIn K mainGlobals "LaminaError" = some (some (.ref C_LaminaError)))
    (aC_NotValid : PySem.W.nsIn K mainGlobals "NotValid" = some (some (.ref C_NotValid)))
    (a_most_items : PySem.W.nsIn K mainGlobals "most_items" = some (some (.ref f_most_items)))
    (l_most_items : K.lookup f_most_items = some ⟨oc_most_items, od_most_items, .func (PySem.W.fnOf "most_items" "most_items" (defArgs s_most_items) (defBody s_most_items) (defScope s_most_items) .none kV_most_items dc_most_items pm_most_items an_most_items cd_most_items ct_most_items), sl_most_items⟩)
    (c_most_items : PySem.W.codeIn K cd_most_items "most_items" = true)
    (k_most_items : PySem.W.keepIn K (.ref f_most_items) = true)
    (a_are_ascending : PySem.W.nsIn K mainGlobals "are_ascending" = some (some (.ref f_are_ascending)))
    (l_are_ascending : K.lookup f_are_ascending = some ⟨oc_are_ascending, od_are_ascending, .func (PySem.W.fnOf "are_ascending" "are_ascending" (defArgs s_are_ascending) (defBody s_are_ascending) (defScope s_are_ascending) .none kV_are_ascending dc_are_ascending pm_are_ascending an_are_ascending cd_are_ascending ct_are_ascending), sl_are_ascending⟩)
    (c_are_ascending : PySem.W.codeIn K cd_are_ascending "are_ascending" = true)
    (k_are_ascending : PySem.W.keepIn K (.ref f_are_ascending) = true)
    (a_is_block_pointer : PySem.W.nsIn K mainGlobals "is_block_pointer" = some (some (.ref f_is_block_pointer)))
    (l_is_block_pointer : K.lookup f_is_block_pointer = some ⟨oc_is_block_pointer, od_is_block_pointer, .func (PySem.W.fnOf "is_block_pointer" "is_block_pointer" (defArgs s_is_block_pointer) (defBody s_is_block_pointer) (defScope s_is_block_pointer) .none kV_is_block_pointer dc_is_block_pointer pm_is_block_pointer an_is_block_pointer cd_is_block_pointer ct_is_block_pointer), sl_is_block_pointer⟩)
    (c_is_block_pointer : PySem.W.codeIn K cd_is_block_pointer "is_block_pointer" = true)
    (k_is_block_pointer : PySem.W.keepIn K (.ref f_is_block_pointer) = true)
    (a_item_words : PySem.W.nsIn K mainGlobals "item_words" = some (some (.ref f_item_words)))
    (l_item_words : K.lookup f_item_words = some ⟨oc_item_words, od_item_words, .func (PySem.W.fnOf "item_words" "item_words" (defArgs s_item_words) (defBody s_item_words) (defScope s_item_words) .none kV_item_words dc_item_words pm_item_words an_item_words cd_item_words ct_item_words), sl_item_words⟩)
    (c_item_words : PySem.W.codeIn K cd_item_words "item_words" = true)
    (k_item_words : PySem.W.keepIn K (.ref f_item_words) = true)
    (a_from_block : PySem.W.nsIn K mainGlobals "from_block" = some (some (.ref f_from_block)))
    (l_from_block : K.lookup f_from_block = some ⟨oc_from_block, od_from_block, .func (PySem.W.fnOf "from_block" "from_block" (defArgs s_from_block) (defBody s_from_block) (defScope s_from_block) .none kV_from_block dc_from_block pm_from_block an_from_block (.ref cc_from_block) ct_from_block), sl_from_block⟩)
    (c_from_block : PySem.W.codeIn K (.ref cc_from_block) "from_block" = true)
    (ta_from_block : U.tabOf K cc_from_block = some T_from_block)
    (th_from_block : PySem.W.codeHdIn K cc_from_block T_from_block = true)
    (tn_from_block : K.lookup T_from_block = none)
    (k_from_block : PySem.W.keepIn K (.ref f_from_block) = true)
    (a_own_pointer : PySem.W.nsIn K mainGlobals "own_pointer" = some (some (.ref f_own_pointer)))
    (l_own_pointer : K.lookup f_own_pointer = some ⟨oc_own_pointer, od_own_pointer, .func (PySem.W.fnOf "own_pointer" "own_pointer" (defArgs s_own_pointer) (defBody s_own_pointer) (defScope s_own_pointer) .none kV_own_pointer dc_own_pointer pm_own_pointer an_own_pointer cd_own_pointer ct_own_pointer), sl_own_pointer⟩)
    (c_own_pointer : PySem.W.codeIn K cd_own_pointer "own_pointer" = true)
    (k_own_pointer : PySem.W.keepIn K (.ref f_own_pointer) = true)
    (a__law_cell : PySem.W.nsIn K mainGlobals "_law_cell" = some (some (.ref f__law_cell)))
    (l__law_cell : K.lookup f__law_cell = some ⟨oc__law_cell, od__law_cell, .func (PySem.W.fnOf "_law_cell" "_law_cell" (defArgs s__law_cell) (defBody s__law_cell) (defScope s__law_cell) .none kV__law_cell dc__law_cell pm__law_cell an__law_cell cd__law_cell ct__law_cell), sl__law_cell⟩)
    (c__law_cell : PySem.W.codeIn K cd__law_cell "_law_cell" = true)
    (k__law_cell : PySem.W.keepIn K (.ref f__law_cell) = true)
    (a__law_word : PySem.W.nsIn K mainGlobals "_law_word" = some (some (.ref f__law_word)))
    (l__law_word : K.lookup f__law_word = some ⟨oc__law_word, od__law_word, .func (PySem.W.fnOf "_law_word" "_law_word" (defArgs s__law_word) (defBody s__law_word) (defScope s__law_word) .none kV__law_word dc__law_word pm__law_word an__law_word cd__law_word ct__law_word), sl__law_word⟩)
    (c__law_word : PySem.W.codeIn K cd__law_word "_law_word" = true)
    (k__law_word : PySem.W.keepIn K (.ref f__law_word) = true)
    (a__law_node : PySem.W.nsIn K mainGlobals "_law_node" = some (some (.ref f__law_node)))
    (l__law_node : K.lookup f__law_node = some ⟨oc__law_node, od__law_node, .func (PySem.W.fnOf "_law_node" "_law_node" (defArgs s__law_node) (defBody s__law_node) (defScope s__law_node) .none kV__law_node dc__law_node pm__law_node an__law_node cd__law_node ct__law_node), sl__law_node⟩)
    (c__law_node : PySem.W.codeIn K cd__law_node "_law_node" = true)
    (k__law_node : PySem.W.keepIn K (.ref f__law_node) = true)
    (a__law_pointer : PySem.W.nsIn K mainGlobals "_law_pointer" = some (some (.ref f__law_pointer)))
    (l__law_pointer : K.lookup f__law_pointer = some ⟨oc__law_pointer, od__law_pointer, .func (PySem.W.fnOf "_law_pointer" "_law_pointer" (defArgs s__law_pointer) (defBody s__law_pointer) (defScope s__law_pointer) .none kV__law_pointer dc__law_pointer pm__law_pointer an__law_pointer cd__law_pointer ct__law_pointer), sl__law_pointer⟩)
    (c__law_pointer : PySem.W.codeIn K cd__law_pointer "_law_pointer" = true)
    (k__law_pointer : PySem.W.keepIn K (.ref f__law_pointer) = true)
    (a__law_due : PySem.W.nsIn K mainGlobals "_law_due" = some (some (.ref f__law_due)))
    (l__law_due : K.lookup f__law_due = some ⟨oc__law_due, od__law_due, .func (PySem.W.fnOf "_law_due" "_law_due" (defArgs s__law_due) (defBody s__law_due) (defScope s__law_due) .none kV__law_due dc__law_due pm__law_due an__law_due cd__law_due ct__law_due), sl__law_due⟩)
    (c__law_due : PySem.W.codeIn K cd__law_due "_law_due" = true)
    (k__law_due : PySem.W.keepIn K (.ref f__law_due) = true)
    (a_law : PySem.W.nsIn K mainGlobals "law" = some (some (.ref f_law)))
    (l_law : K.lookup f_law = some ⟨oc_law, od_law, .func (PySem.W.fnOf "law" "law" (defArgs s_law) (defBody s_law) (defScope s_law) .none kV_law dc_law pm_law an_law cd_law ct_law), sl_law⟩)
    (c_law : PySem.W.codeIn K cd_law "law" = true)
    (k_law : PySem.W.keepIn K (.ref f_law) = true)
    (n_ValueError : PySem.W.nsIn K mainGlobals "ValueError" = some none)
    (n_all : PySem.W.nsIn K mainGlobals "all" = some none)
    (n_any : PySem.W.nsIn K mainGlobals "any" = some none)
    (n_isinstance : PySem.W.nsIn K mainGlobals "isinstance" = some none)
    (n_len : PySem.W.nsIn K mainGlobals "len" = some none)
    (n_list : PySem.W.nsIn K mainGlobals "list" = some none)
    (n_range : PySem.W.nsIn K mainGlobals "range" = some none)
    (n_tuple : PySem.W.nsIn K mainGlobals "tuple" = some none)
    (kc_FIRST_BLOCK : PySem.W.nsIn K mainGlobals "FIRST_BLOCK" = some (some (.int 5 t_FIRST_BLOCK)))
    (kc_INNER : PySem.W.nsIn K mainGlobals "INNER" = some (some (.int 2 t_INNER)))
    (kc_INNER_ITEMS : PySem.W.nsIn K mainGlobals "INNER_ITEMS" = some (some (.int 5 t_INNER_ITEMS)))
    (kc_LEAF : PySem.W.nsIn K mainGlobals "LEAF" = some (some (.int 1 t_LEAF)))
    (kc_LEAF_ITEMS : PySem.W.nsIn K mainGlobals "LEAF_ITEMS" = some (some (.int 4 t_LEAF_ITEMS)))
    (kc_MAX_BLOCKS : PySem.W.nsIn K mainGlobals "MAX_BLOCKS" = some (some (.int 256 t_MAX_BLOCKS)))
    (ex_BadImage : PySem.W.excIn K C_BadImage [.type "ValueError", .type "Exception", .type "BaseException", .type "object"] "ValueError.__new__" = true)
    (kc_BadImage : PySem.W.keepIn K (.ref C_BadImage) = true)
    (sb_BadImage : PySem.W.subIn K (.ref C_BadImage) (.type "BaseException") = some true)
    (ty_BadImage : PySem.W.typeIn K (.ref C_BadImage) = some (.type "type"))
    (ex_LaminaError : PySem.W.excIn K C_LaminaError [.type "ValueError", .type "Exception", .type "BaseException", .type "object"] "ValueError.__new__" = true)
    (kc_LaminaError : PySem.W.keepIn K (.ref C_LaminaError) = true)
    (sb_LaminaError : PySem.W.subIn K (.ref C_LaminaError) (.type "BaseException") = some true)
    (ty_LaminaError : PySem.W.typeIn K (.ref C_LaminaError) = some (.type "type"))
    (ex_NotValid : PySem.W.excIn K C_NotValid [.type "ValueError", .type "Exception", .type "BaseException", .type "object"] "ValueError.__new__" = true)
    (kc_NotValid : PySem.W.keepIn K (.ref C_NotValid) = true)
    (sb_NotValid : PySem.W.subIn K (.ref C_NotValid) (.type "BaseException") = some true)
    (ty_NotValid : PySem.W.typeIn K (.ref C_NotValid) = some (.type "type"))
    (su_BadImage_BadImage : PySem.W.subIn K (.ref C_BadImage) (.ref C_BadImage) = some true)
    (su_BadImage_LaminaError : PySem.W.subIn K (.ref C_BadImage) (.ref C_LaminaError) = some true)
    (su_LaminaError_BadImage : PySem.W.subIn K (.ref C_LaminaError) (.ref C_BadImage) = some false)
    (su_NotValid_BadImage : PySem.W.subIn K (.ref C_NotValid) (.ref C_BadImage) = some false)
    (su_NotValid_LaminaError : PySem.W.subIn K (.ref C_NotValid) (.ref C_LaminaError) = some true)
    (hx_BadImage : PySem.W.hasDictIn K C_BadImage = true)
    (hx_LaminaError : PySem.W.hasDictIn K C_LaminaError = true)
    (hx_NotValid : PySem.W.hasDictIn K C_NotValid = true)
    (ne_NotValid_LaminaError : (Value.ref C_NotValid == Value.ref C_LaminaError) = false)
    (ne_BadImage_LaminaError : (Value.ref C_BadImage == Value.ref C_LaminaError) = false)
    (sv_LaminaError_ValueError : PySem.W.subIn K (.ref C_LaminaError) (.type "ValueError") = some true)
    (sv_NotValid_ValueError : PySem.W.subIn K (.ref C_NotValid) (.type "ValueError") = some true)
    (sv_BadImage_ValueError : PySem.W.subIn K (.ref C_BadImage) (.type "ValueError") = some true)
    (ga_LaminaError : PySem.W.findIn K (.ref C_LaminaError) "__getattribute__" = some (some (.builtin "BaseException.__getattribute__")))
    (gg_LaminaError : PySem.W.findIn K (.ref C_LaminaError) "__getattr__" = some none)
    (cl_LaminaError : PySem.W.findIn K (.ref C_LaminaError) "__class__" = some (some (.builtin "object.__class__")))
    (om_LaminaError : PySem.W.mroIn K C_LaminaError (.type "object") = some true)
    (ga_NotValid : PySem.W.findIn K (.ref C_NotValid) "__getattribute__" = some (some (.builtin "BaseException.__getattribute__")))
    (gg_NotValid : PySem.W.findIn K (.ref C_NotValid) "__getattr__" = some none)
    (cl_NotValid : PySem.W.findIn K (.ref C_NotValid) "__class__" = some (some (.builtin "object.__class__")))
    (om_NotValid : PySem.W.mroIn K C_NotValid (.type "object") = some true)
    (ga_BadImage : PySem.W.findIn K (.ref C_BadImage) "__getattribute__" = some (some (.builtin "BaseException.__getattribute__")))
    (gg_BadImage : PySem.W.findIn K (.ref C_BadImage) "__getattr__" = some none)
    (cl_BadImage : PySem.W.findIn K (.ref C_BadImage) "__class__" = some (some (.builtin "object.__class__")))
    (om_BadImage : PySem.W.mroIn K C_BadImage (.type "object") = some true)
    (sp_cls : PySem.W.specialIn K (.builtin "object.__class__") "__get__" = some (some (.builtin "getset_descriptor.__get__")))
    (tk_cls : PySem.W.takesIn K (.builtin "object.__class__") = some true) :
    ∃ (fd : FuncData) (c T fa2 : Addr) (o2 : Obj) (fd2 : FuncData), (∀ (s : Shared) (v : Value), BindsTo s fd ⟨[v], []⟩ [("_law_script", v)]) ∧ mg "from_block" = some (.ref fa2) ∧ K.lookup fa2 = some o2 ∧ o2.data = .func fd2 ∧ fd2.code = .ref c ∧ K.lookup T = none ∧ PySem.W.codeHdIn K c T = true ∧ ∀ base : Heap, K.In base → base.Ns mainGlobals mg → GxR.TabB base mg c T → FnOk P w K mg base (L2.CX P w) 4 fa fd ["_law_script"] (spLawT K T) := by
  have e := hfa.symm.trans (PySem.W.mg_of X G a_law)
  cases e
  have F_most_items := fun_mk (st := s_most_items) l_most_items c_most_items k_most_items
  have F_are_ascending := fun_mk (st := s_are_ascending) l_are_ascending c_are_ascending k_are_ascending
  have F_is_block_pointer := fun_mk (st := s_is_block_pointer) l_is_block_pointer c_is_block_pointer k_is_block_pointer
  have F_item_words := fun_mk (st := s_item_words) l_item_words c_item_words k_item_words
  have F_from_block := fun_mk (st := s_from_block) l_from_block c_from_block k_from_block
  have F_own_pointer := fun_mk (st := s_own_pointer) l_own_pointer c_own_pointer k_own_pointer
  have F__law_cell := fun_mk (st := s__law_cell) l__law_cell c__law_cell k__law_cell
  have F__law_word := fun_mk (st := s__law_word) l__law_word c__law_word k__law_word
  have F__law_node := fun_mk (st := s__law_node) l__law_node c__law_node k__law_node
  have F__law_pointer := fun_mk (st := s__law_pointer) l__law_pointer c__law_pointer k__law_pointer
  have F__law_due := fun_mk (st := s__law_due) l__law_due c__law_due k__law_due
  have F_law := fun_mk (st := s_law) l_law c_law k_law
  let A : Adr := {
    ex := { ({ } : Ex) with LaminaError := C_LaminaError, NotValid := C_NotValid, BadImage := C_BadImage, T_from_block := T_from_block },
    f_most_items := f_most_items, d_most_items := PySem.W.fnOf "most_items" "most_items" (defArgs s_most_items) (defBody s_most_items) (defScope s_most_items) .none kV_most_items dc_most_items pm_most_items an_most_items cd_most_items ct_most_items,
    f_are_ascending := f_are_ascending, d_are_ascending := PySem.W.fnOf "are_ascending" "are_ascending" (defArgs s_are_ascending) (defBody s_are_ascending) (defScope s_are_ascending) .none kV_are_ascending dc_are_ascending pm_are_ascending an_are_ascending cd_are_ascending ct_are_ascending,
    f_is_block_pointer := f_is_block_pointer, d_is_block_pointer := PySem.W.fnOf "is_block_pointer" "is_block_pointer" (defArgs s_is_block_pointer) (defBody s_is_block_pointer) (defScope s_is_block_pointer) .none kV_is_block_pointer dc_is_block_pointer pm_is_block_pointer an_is_block_pointer cd_is_block_pointer ct_is_block_pointer,
    f_item_words := f_item_words, d_item_words := PySem.W.fnOf "item_words" "item_words" (defArgs s_item_words) (defBody s_item_words) (defScope s_item_words) .none kV_item_words dc_item_words pm_item_words an_item_words cd_item_words ct_item_words,
    f_from_block := f_from_block, d_from_block := PySem.W.fnOf "from_block" "from_block" (defArgs s_from_block) (defBody s_from_block) (defScope s_from_block) .none kV_from_block dc_from_block pm_from_block an_from_block (.ref cc_from_block) ct_from_block, cc_from_block := cc_from_block,
    f_own_pointer := f_own_pointer, d_own_pointer := PySem.W.fnOf "own_pointer" "own_pointer" (defArgs s_own_pointer) (defBody s_own_pointer) (defScope s_own_pointer) .none kV_own_pointer dc_own_pointer pm_own_pointer an_own_pointer cd_own_pointer ct_own_pointer,
    f__law_cell := f__law_cell, d__law_cell := PySem.W.fnOf "_law_cell" "_law_cell" (defArgs s__law_cell) (defBody s__law_cell) (defScope s__law_cell) .none kV__law_cell dc__law_cell pm__law_cell an__law_cell cd__law_cell ct__law_cell,
    f__law_word := f__law_word, d__law_word := PySem.W.fnOf "_law_word" "_law_word" (defArgs s__law_word) (defBody s__law_word) (defScope s__law_word) .none kV__law_word dc__law_word pm__law_word an__law_word cd__law_word ct__law_word,
    f__law_node := f__law_node, d__law_node := PySem.W.fnOf "_law_node" "_law_node" (defArgs s__law_node) (defBody s__law_node) (defScope s__law_node) .none kV__law_node dc__law_node pm__law_node an__law_node cd__law_node ct__law_node,
    f__law_pointer := f__law_pointer, d__law_pointer := PySem.W.fnOf "_law_pointer" "_law_pointer" (defArgs s__law_pointer) (defBody s__law_pointer) (defScope s__law_pointer) .none kV__law_pointer dc__law_pointer pm__law_pointer an__law_pointer cd__law_pointer ct__law_pointer,
    f__law_due := f__law_due, d__law_due := PySem.W.fnOf "_law_due" "_law_due" (defArgs s__law_due) (defBody s__law_due) (defScope s__law_due) .none kV__law_due dc__law_due pm__law_due an__law_due cd__law_due ct__law_due,
    f_law := fa, d_law := PySem.W.fnOf "law" "law" (defArgs s_law) (defBody s_law) (defScope s_law) .none kV_law dc_law pm_law an_law cd_law ct_law }
  have T : Top K mg A := {
    F_most_items := F_most_items,
    b_most_items := F_most_items.binds (ps := ["kind"]) fun _ _ _ _ _ _ us hl => match us, hl with | [_], _ => rfl,
    g_most_items := PySem.W.mg_of X G a_most_items,
    F_are_ascending := F_are_ascending,
    b_are_ascending := F_are_ascending.binds (ps := ["items"]) fun _ _ _ _ _ _ us hl => match us, hl with | [_], _ => rfl,
    g_are_ascending := PySem.W.mg_of X G a_are_ascending,
    F_is_block_pointer := F_is_block_pointer,
    b_is_block_pointer := F_is_block_pointer.binds (ps := ["pointer"]) fun _ _ _ _ _ _ us hl => match us, hl with | [_], _ => rfl,
    g_is_block_pointer := PySem.W.mg_of X G a_is_block_pointer,
    F_item_words := F_item_words,
    b_item_words := F_item_words.binds (ps := ["kind"]) fun _ _ _ _ _ _ us hl => match us, hl with | [_], _ => rfl,
    g_item_words := PySem.W.mg_of X G a_item_words,
    F_from_block := F_from_block,
    cc_from_block := rfl,
    b_from_block := F_from_block.binds (ps := ["block"]) fun _ _ _ _ _ _ us hl => match us, hl with | [_], _ => rfl,
    g_from_block := PySem.W.mg_of X G a_from_block,
    F_own_pointer := F_own_pointer,
    b_own_pointer := F_own_pointer.binds (ps := ["block"]) fun _ _ _ _ _ _ us hl => match us, hl with | [_], _ => rfl,
    g_own_pointer := PySem.W.mg_of X G a_own_pointer,
    F__law_cell := F__law_cell,
    b__law_cell := F__law_cell.binds (ps := ["_law_script", "_law_k"]) fun _ _ _ _ _ _ us hl => match us, hl with | [_, _], _ => rfl,
    g__law_cell := PySem.W.mg_of X G a__law_cell,
    F__law_word := F__law_word,
    b__law_word := F__law_word.binds (ps := ["_law_cell_here"]) fun _ _ _ _ _ _ us hl => match us, hl with | [_], _ => rfl,
    g__law_word := PySem.W.mg_of X G a__law_word,
    F__law_node := F__law_node,
    b__law_node := F__law_node.binds (ps := ["_law_script"]) fun _ _ _ _ _ _ us hl => match us, hl with | [_], _ => rfl,
    g__law_node := PySem.W.mg_of X G a__law_node,
    F__law_pointer := F__law_pointer,
    b__law_pointer := F__law_pointer.binds (ps := ["_law_words"]) fun _ _ _ _ _ _ us hl => match us, hl with | [_], _ => rfl,
    g__law_pointer := PySem.W.mg_of X G a__law_pointer,
    F__law_due := F__law_due,
    b__law_due := F__law_due.binds (ps := ["_law_words"]) fun _ _ _ _ _ _ us hl => match us, hl with | [_], _ => rfl,
    g__law_due := PySem.W.mg_of X G a__law_due,
    F_law := F_law,
    b_law := F_law.binds (ps := ["_law_script"]) fun _ _ _ _ _ _ us hl => match us, hl with | [_], _ => rfl,
    g_law := PySem.W.mg_of X G a_law,
    n_ValueError := PySem.W.mg_none_of X G n_ValueError,
    n_all := PySem.W.mg_none_of X G n_all,
    n_any := PySem.W.mg_none_of X G n_any,
    n_isinstance := PySem.W.mg_none_of X G n_isinstance,
    n_len := PySem.W.mg_none_of X G n_len,
    n_list := PySem.W.mg_none_of X G n_list,
    n_range := PySem.W.mg_none_of X G n_range,
    n_tuple := PySem.W.mg_none_of X G n_tuple,
    k_FIRST_BLOCK := ⟨_, PySem.W.mg_of X G kc_FIRST_BLOCK⟩,
    k_INNER := ⟨_, PySem.W.mg_of X G kc_INNER⟩,
    k_INNER_ITEMS := ⟨_, PySem.W.mg_of X G kc_INNER_ITEMS⟩,
    k_LEAF := ⟨_, PySem.W.mg_of X G kc_LEAF⟩,
    k_LEAF_ITEMS := ⟨_, PySem.W.mg_of X G kc_LEAF_ITEMS⟩,
    k_MAX_BLOCKS := ⟨_, PySem.W.mg_of X G kc_MAX_BLOCKS⟩,
    x_BadImage := ⟨ex_BadImage, PySem.W.mg_of X G aC_BadImage, kc_BadImage, sb_BadImage, ty_BadImage⟩,
    x_LaminaError := ⟨ex_LaminaError, PySem.W.mg_of X G aC_LaminaError, kc_LaminaError, sb_LaminaError, ty_LaminaError⟩,
    x_NotValid := ⟨ex_NotValid, PySem.W.mg_of X G aC_NotValid, kc_NotValid, sb_NotValid, ty_NotValid⟩,
    fa := { fa0 := trivial, te_LaminaError_BadImage := PySem.W.exm_ref sb_BadImage hx_BadImage ty_BadImage su_LaminaError_BadImage, te_NotValid_BadImage := PySem.W.exm_ref sb_BadImage hx_BadImage ty_BadImage su_NotValid_BadImage, te_BadImage_BadImage := PySem.W.exm_ref sb_BadImage hx_BadImage ty_BadImage su_BadImage_BadImage, kt_LaminaError_LaminaError := kit_same, kt_NotValid_LaminaError := kit_ne ne_NotValid_LaminaError sb_LaminaError hx_LaminaError ty_LaminaError su_NotValid_LaminaError, kt_BadImage_LaminaError := kit_ne ne_BadImage_LaminaError sb_LaminaError hx_LaminaError ty_LaminaError su_BadImage_LaminaError, kb_LaminaError_ValueError := U.kit_ty (by decide +kernel) sv_LaminaError_ValueError, kb_NotValid_ValueError := U.kit_ty (by decide +kernel) sv_NotValid_ValueError, kb_BadImage_ValueError := U.kit_ty (by decide +kernel) sv_BadImage_ValueError, xc_LaminaError := ⟨ga_LaminaError, gg_LaminaError, sb_LaminaError, hx_LaminaError, cl_LaminaError, sp_cls, tk_cls, om_LaminaError⟩, xc_NotValid := ⟨ga_NotValid, gg_NotValid, sb_NotValid, hx_NotValid, cl_NotValid, sp_cls, tk_cls, om_NotValid⟩, xc_BadImage := ⟨ga_BadImage, gg_BadImage, sb_BadImage, hx_BadImage, cl_BadImage, sp_cls, tk_cls, om_BadImage⟩ } }
  exact ⟨_, cc_from_block, T_from_block, f_from_block, _, _, fun s v => .of_eq rfl, PySem.W.mg_of X G a_from_block, l_from_block, rfl, rfl, tn_from_block, th_from_block, fun base _ _ TB => ok_law (A := A) T TB⟩
theorem walk {l : PySem.W.OpenLaw} {q : Program} {loose : List Str} {XP : (Str → Option Value) → Heap → Prop} {YP : World → Heap → Prop} {d : DefRec} {K : Params → PySem.W.Frag} (hn : l.most = some 63) (hdf : d.params.defaults = [])
    (hrec : ((PyProof.Rows.recsOf q).any fun e => e.name == "from_block") = true) (hY : ∀ (w : World) (h : Heap), YP w h → (K w.params).In h)
    (F : ∀ (w : World) (mg : Str → Option Value) (fa : Addr) (h : Heap), (K w.params).In h → h.Ns mainGlobals mg → mg d.name = some (.ref fa) →
      ∃ (fd : FuncData) (c T fa2 : Addr) (o2 : Obj) (fd2 : FuncData), (∀ (s : Shared) (u : Value), BindsTo s fd ⟨[u], []⟩ [("_law_script", u)]) ∧ mg "from_block" = some (.ref fa2) ∧ (K w.params).lookup fa2 = some o2 ∧ o2.data = .func fd2 ∧ fd2.code = .ref c ∧ (K w.params).lookup T = none ∧ PySem.W.codeHdIn (K w.params) c T = true ∧
        ∀ base : Heap, (K w.params).In base → base.Ns mainGlobals mg → GxR.TabB base mg c T → FnOk l.prog w (K w.params) mg base (L2.CX l.prog w) 4 fa fd ["_law_script"] (spLawT (K w.params) T)) :
    PySem.W.WalkO q loose XP YP l.row.toRowW d [] (fun f vs => PySem.call f vs) :=
  U.walkT (n := 63) (k := 4) (x := "_law_script") (nm := "from_block") (CX := fun w => L2.CX l.prog w) (sp := fun w T => spLawT (K w.params) T) hn (by decide) hdf ⟨rfl, by decide, by decide⟩ hrec hY F (fun _ _ _ a ns hl hT hS => ⟨_, rfl, a, ns, rfl, hS, hl, hT, fun _ => rfl⟩) fun _ _ _ _ _ ⟨_, _, _, _, _, _, _, _, _, _, _, _, z⟩ => z
end Lam
open PySem PySem.W PyProof.Rows
set_option maxRecDepth 100000 in
set_option maxHeartbeats 0 in
theorem PySem.Challenge.cw_laminae_k10_blocks_that_are_no_nodes_holds : PySem.Challenge.rw_laminae_k10_blocks_that_are_no_nodes.Holds := by
  w_on; o_law; k_head; (case hw => w_witness2)
  k_fill
  refine Lam.walk (l := PySem.Challenge.rw_laminae_k10_blocks_that_are_no_nodes) rfl rfl (by decide +kernel) (fun w h Y => PySem.W.kIn_of Y) ?F
  case F =>
    intro w mg fa h KX G hmg
    refine' Lam.all_mk KX G hmg ?aC_BadImage ?aC_LaminaError ?aC_NotValid ?a_most_items ?l_most_items ?c_most_items ?k_most_items ?a_are_ascending ?l_are_ascending ?c_are_ascending ?k_are_ascending ?a_is_block_pointer ?l_is_block_pointer ?c_is_block_pointer ?k_is_block_pointer ?a_item_words ?l_item_words ?c_item_words ?k_item_words ?a_from_block ?l_from_block ?c_from_block ?ta_from_block ?th_from_block ?tn_from_block ?k_from_block ?a_own_pointer ?l_own_pointer ?c_own_pointer ?k_own_pointer ?a__law_cell ?l__law_cell ?c__law_cell ?k__law_cell ?a__law_word ?l__law_word ?c__law_word ?k__law_word ?a__law_node ?l__law_node ?c__law_node ?k__law_node ?a__law_pointer ?l__law_pointer ?c__law_pointer ?k__law_pointer ?a__law_due ?l__law_due ?c__law_due ?k__law_due ?a_law ?l_law ?c_law ?k_law ?n_ValueError ?n_all ?n_any ?n_isinstance ?n_len ?n_list ?n_range ?n_tuple ?kc_FIRST_BLOCK ?kc_INNER ?kc_INNER_ITEMS ?kc_LEAF ?kc_LEAF_ITEMS ?kc_MAX_BLOCKS ?ex_BadImage ?kc_BadImage ?sb_BadImage ?ty_BadImage ?ex_LaminaError ?kc_LaminaError ?sb_LaminaError ?ty_LaminaError ?ex_NotValid ?kc_NotValid ?sb_NotValid ?ty_NotValid ?su_BadImage_BadImage ?su_BadImage_LaminaError ?su_LaminaError_BadImage ?su_NotValid_BadImage ?su_NotValid_LaminaError ?hx_BadImage ?hx_LaminaError ?hx_NotValid ?ne_NotValid_LaminaError ?ne_BadImage_LaminaError ?sv_LaminaError_ValueError ?sv_NotValid_ValueError ?sv_BadImage_ValueError ?ga_LaminaError ?gg_LaminaError ?cl_LaminaError ?om_LaminaError ?ga_NotValid ?gg_NotValid ?cl_NotValid ?om_NotValid ?ga_BadImage ?gg_BadImage ?cl_BadImage ?om_BadImage ?sp_cls ?tk_cls
    (case aC_BadImage => k_is); (case aC_LaminaError => k_is); (case aC_NotValid => k_is); (case a_most_items => k_is); (case l_most_items => k_is); (case c_most_items => k_is)
    (case k_most_items => k_is); (case a_are_ascending => k_is); (case l_are_ascending => k_is); (case c_are_ascending => k_is); (case k_are_ascending => k_is); (case a_is_block_pointer => k_is)
    (case l_is_block_pointer => k_is); (case c_is_block_pointer => k_is); (case k_is_block_pointer => k_is); (case a_item_words => k_is); (case l_item_words => k_is); (case c_item_words => k_is)
    (case k_item_words => k_is); (case a_from_block => k_is); (case l_from_block => k_is); (case c_from_block => k_is); (case ta_from_block => rfl); (case th_from_block => rfl)
    (case tn_from_block => rfl); (case k_from_block => k_is); (case a_own_pointer => k_is); (case l_own_pointer => k_is); (case c_own_pointer => k_is); (case k_own_pointer => k_is)
    (case a__law_cell => k_is); (case l__law_cell => k_is); (case c__law_cell => k_is); (case k__law_cell => k_is); (case a__law_word => k_is); (case l__law_word => k_is)
    (case c__law_word => k_is); (case k__law_word => k_is); (case a__law_node => k_is); (case l__law_node => k_is); (case c__law_node => k_is); (case k__law_node => k_is)
    (case a__law_pointer => k_is); (case l__law_pointer => k_is); (case c__law_pointer => k_is); (case k__law_pointer => k_is); (case a__law_due => k_is); (case l__law_due => k_is)
    (case c__law_due => k_is); (case k__law_due => k_is); (case a_law => k_is); (case l_law => k_is); (case c_law => k_is); (case k_law => k_is)
    (case n_ValueError => k_is); (case n_all => k_is); (case n_any => k_is); (case n_isinstance => k_is); (case n_len => k_is); (case n_list => k_is)
    (case n_range => k_is); (case n_tuple => k_is); (case kc_FIRST_BLOCK => k_is); (case kc_INNER => k_is); (case kc_INNER_ITEMS => k_is); (case kc_LEAF => k_is)
    (case kc_LEAF_ITEMS => k_is); (case kc_MAX_BLOCKS => k_is); (case ex_BadImage => k_exc); (case kc_BadImage => k_is); (case sb_BadImage => k_is); (case ty_BadImage => k_is)
    (case ex_LaminaError => k_exc); (case kc_LaminaError => k_is); (case sb_LaminaError => k_is); (case ty_LaminaError => k_is); (case ex_NotValid => k_exc); (case kc_NotValid => k_is)
    (case sb_NotValid => k_is); (case ty_NotValid => k_is); (case su_BadImage_BadImage => k_is); (case su_BadImage_LaminaError => k_is); (case su_LaminaError_BadImage => k_is); (case su_NotValid_BadImage => k_is)
    (case su_NotValid_LaminaError => k_is); (case hx_BadImage => k_is); (case hx_LaminaError => k_is); (case hx_NotValid => k_is); (case ne_NotValid_LaminaError => decide); (case ne_BadImage_LaminaError => decide)
    (case sv_LaminaError_ValueError => k_is); (case sv_NotValid_ValueError => k_is); (case sv_BadImage_ValueError => k_is); (case ga_LaminaError => k_is); (case gg_LaminaError => k_is); (case cl_LaminaError => k_is)
    (case om_LaminaError => k_is); (case ga_NotValid => k_is); (case gg_NotValid => k_is); (case cl_NotValid => k_is); (case om_NotValid => k_is); (case ga_BadImage => k_is)
    (case gg_BadImage => k_is); (case cl_BadImage => k_is); (case om_BadImage => k_is); (case sp_cls => k_is); (case tk_cls => k_is)
#print axioms PySem.Challenge.cw_laminae_k10_blocks_that_are_no_nodes_holds
