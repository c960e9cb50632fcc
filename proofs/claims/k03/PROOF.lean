import PyProof.Rows.All
import Wide.All
import OpenK.AllK
import Wide.FinOn
import HandS.ForMost
import HandS.ForExc
import HandS.TupLe
import HandS.IsInst
import HandS.Small
import HandS.Wide
import HandS.ExcIs
import HandS.DictComp
import HandS.Rev
import HandS.Codes
import KE.Datum
import PySem.Challenge.RW_laminae_k03_words
set_option Elab.async false
set_option linter.all false
set_option maxRecDepth 100000
set_option maxHeartbeats 4000000
namespace U
open PySem PySem.Spec PyProof.Rows L2
section weaken
variable {X : Cx}
theorem orR {f : Value → Value → Sem Value} {r r' : R2} (h : OpR X f r) (g : OpR X f r') : OpR X f (fun x y H Q => r x y H Q ∨ r' x y H Q) :=
  fun pins s σ H x y v u Q I rx ry q => q.elim (h pins s σ H x y v u Q I rx ry) (g pins s σ H x y v u Q I rx ry)
theorem wR {f : Value → Value → Sem Value} {r r' : R2} (h : OpR X f r) (k : ∀ x y H Q, r' x y H Q → r x y H Q) : OpR X f r' :=
  fun pins s σ H x y v u Q I rx ry q => h pins s σ H x y v u Q I rx ry (k _ _ _ _ q)
theorem wC {f : Value} {r r' : List V → Hp → VK → Prop} (h : CallR X f r) (k : ∀ xs H Q, r' xs H Q → r xs H Q) : CallR X f r' :=
  fun pins s σ H xs us Q I rx q => h pins s σ H xs us Q I rx (k _ _ _ q)
theorem orC {f : Value} {r r' : List V → Hp → VK → Prop} (h : CallR X f r) (g : CallR X f r') : CallR X f (fun xs H Q => r xs H Q ∨ r' xs H Q) :=
  fun pins s σ H xs us Q I rx q => q.elim (h pins s σ H xs us Q I rx) (g pins s σ H xs us Q I rx)
end weaken
def tCut (t u : TS) : TS := C8.tCut t u
theorem pss_cut {X : Cx} {st : Stmt} {rest : List Stmt} {t u : TS} (h1 : PS X st t) (h2 : PSs X rest u) : PSs X (st :: rest) (tCut t u) := C8.pss_cut h1 h2
section ops
variable {X : Cx}
/-- text times number -/
theorem op_strmul : OpR X (binaryOp .Mult) (fun x y H Q => ∃ (z : Str) (n : Int), x = .str z ∧ y = .int n ∧ MulOk z n ∧ Q (.str (Txt.mul z n)) H) := by
  intro pins s σ H x y v u Q I rx ry h
  obtain ⟨z, n, rfl, rfl, ok, q⟩ := h
  obtain ⟨t, rfl⟩ := rx
  obtain ⟨t', rfl⟩ := ry
  exact SB.mul ok fun t1 k => ⟨.str (Txt.mul z n), H, I.tok _, ⟨_, rfl⟩, q⟩
def uAdd (K : PySem.W.Frag) : R2 := fun x y H Q => match x, y with
  | .int i, .int j => Q (.int (i + j)) H
  | .str i, .str j => i.length + j.length ≤ sizeLine ∧ Q (.str (i ++ j)) H
  | .ref a, .ref b => rCat (.ref a) (.ref b) H Q ∨ rCatT K (.ref a) (.ref b) H Q
  | _, _ => False
theorem o_add : OpR X (binaryOp .Add) (uAdd X.K) := by
  refine wR (orR op_add (orR op_add_str (orR op_cat op_catT))) fun x y H Q q => ?_
  unfold uAdd at q
  split at q
  · exact .inl ⟨_, _, rfl, rfl, q⟩
  · exact .inr (.inl ⟨_, _, rfl, rfl, q⟩)
  · exact .inr (.inr q)
  · exact q.elim
def uSub : R2 := fun x y H Q => match x, y with
  | .int i, .int j => Q (.int (i - j)) H
  | _, _ => False
theorem o_sub : OpR X (binaryOp .Sub) uSub := by
  refine wR op_sub fun x y H Q q => ?_
  unfold uSub at q
  split at q
  · exact ⟨_, _, rfl, rfl, q⟩
  · exact q.elim
def uMul : R2 := fun x y H Q => match x, y with
  | .int i, .int j => (CMul i j ∨ CMulW i j) ∧ Q (.int (i * j)) H
  | .str z, .int n => MulOk z n ∧ Q (.str (Txt.mul z n)) H
  | .ref a, .int n => rRep (.ref a) (.int n) H Q
  | _, _ => False
theorem o_mul : OpR X (binaryOp .Mult) uMul := by
  refine wR (orR op_mul (orR op_mulW (orR op_strmul op_rep))) fun x y H Q q => ?_
  unfold uMul at q
  split at q
  · obtain ⟨c | c, q⟩ := q
    · exact .inl ⟨_, _, rfl, rfl, c, q⟩
    · exact .inr (.inl ⟨_, _, rfl, rfl, c, q⟩)
  · exact .inr (.inr (.inl ⟨_, _, rfl, rfl, q⟩))
  · exact .inr (.inr (.inr q))
  · exact q.elim
def uDiv : R2 := fun x y H Q => match x, y with
  | .int i, .int j => (0 < j ∧ j < 2 ^ 200) ∧ Q (.int (i / j)) H
  | _, _ => False
theorem o_div : OpR X (binaryOp .FloorDiv) uDiv := by
  refine wR op_fdivW fun x y H Q q => ?_
  unfold uDiv at q
  split at q
  · obtain ⟨⟨c1, c2⟩, q⟩ := q
    exact ⟨_, _, rfl, rfl, wide_div (b := 200) c1 (by omega) (by decide) (by decide), q⟩
  · exact q.elim
def uMod : R2 := fun x y H Q => match x, y with
  | .int i, .int j => 0 < j ∧ Q (.int (i % j)) H
  | _, _ => False
theorem o_mod : OpR X (binaryOp .Mod) uMod := by
  refine wR op_mod fun x y H Q q => ?_
  unfold uMod at q
  split at q
  · exact ⟨_, _, rfl, rfl, q⟩
  · exact q.elim
def uPow : R2 := fun x y H Q => match x, y with
  | .int i, .int j => CPow i j ∧ Q (.int (i ^ j.toNat)) H
  | _, _ => False
theorem o_pow : OpR X (binaryOp .Pow) uPow := by
  refine wR op_pow fun x y H Q q => ?_
  unfold uPow at q
  split at q
  · exact ⟨_, _, rfl, rfl, q⟩
  · exact q.elim
def uNeg : V → Hp → VK → Prop := fun x H Q => match x with
  | .int i => Q (.int (-i)) H
  | _ => False
theorem o_neg : UnR X (unaryOp .USub) uNeg := fun pins s σ H x v Q I rx q => by
  unfold uNeg at q
  split at q
  · exact un_neg pins s σ H _ v Q I rx ⟨_, rfl, q⟩
  · exact q.elim
/-- == of data without dicts -/
def rEqP (K : PySem.W.Frag) : R2 := fun x y H Q => ∃ d e, Dp K H x d ∧ Dp K H y e ∧ (d.plain = true ∧ d.depth ≤ 60) ∧ e.plain = true ∧ Q (.bl (PyData.eqv d e)) H
def rNeP (K : PySem.W.Frag) : R2 := fun x y H Q => ∃ d e, Dp K H x d ∧ Dp K H y e ∧ (d.plain = true ∧ d.depth ≤ 60) ∧ e.plain = true ∧ Q (.bl (!PyData.eqv d e)) H
theorem op_eqP (hu : X.A.units + 64 < cLine) : OpR X (compareOp .Eq) (rEqP X.K) := by
  intro pins s σ H x y v u Q I rx ry h
  obtain ⟨d, e, hd, he, ⟨p1, dp⟩, p2, q⟩ := h
  obtain ⟨as, r1⟩ := Dp.reads I d x v hd rx
  obtain ⟨bs, r2⟩ := Dp.reads I e y u he ry
  exact PySem.SeqAt.eq_plain r1 r2 p1 p2 (by have := Nat.min_le_left d.depth e.depth; omega) ⟨.bl _, H, I, rfl, q⟩
theorem op_neP (hu : X.A.units + 64 < cLine) : OpR X (compareOp .NotEq) (rNeP X.K) := by
  intro pins s σ H x y v u Q I rx ry h
  obtain ⟨d, e, hd, he, ⟨p1, dp⟩, p2, q⟩ := h
  obtain ⟨as, r1⟩ := Dp.reads I d x v hd rx
  obtain ⟨bs, r2⟩ := Dp.reads I e y u he ry
  exact PySem.SeqAt.ne_plain r1 r2 p1 p2 (by have := Nat.min_le_left d.depth e.depth; omega) ⟨.bl _, H, I, rfl, q⟩
theorem d_int (i j : Int) : decide (V.int i = V.int j) = decide (i = j) := decide_eq_decide.mpr ⟨fun h => V.int.inj h, fun h => h ▸ rfl⟩
theorem d_str (i j : Str) : decide (V.str i = V.str j) = decide (i = j) := decide_eq_decide.mpr ⟨fun h => V.str.inj h, fun h => h ▸ rfl⟩
theorem d_bl (i j : Bool) : decide (V.bl i = V.bl j) = decide (i = j) := decide_eq_decide.mpr ⟨fun h => V.bl.inj h, fun h => h ▸ rfl⟩
/-- the same value, of two scalars -/
def sameS : V → V → Bool
  | .non, .non => true
  | .int i, .int j => decide (i = j)
  | .str i, .str j => decide (i = j)
  | .bl i, .bl j => decide (i = j)
  | .byt i, .byt j => decide (i = j)
  | _, _ => false
theorem sameS_eq {x y : V} (h : scal x y = true) : decide (x = y) = sameS x y := by
  cases x <;> cases y <;> first
    | (cases h; done)
    | exact d_int _ _
    | exact d_str _ _
    | exact d_bl _ _
    | rfl
    | (exact decide_eq_decide.mpr ⟨fun h => V.byt.inj h, fun h => h ▸ rfl⟩)
    | (exact decide_eq_false (fun q => nomatch q))
def uEq (K : PySem.W.Frag) : R2 := fun x y H Q => match x, y with
  | .int i, .int j => Q (.bl (decide (i = j))) H
  | .str i, .str j => Q (.bl (decide (i = j))) H
  | .bl i, .bl j => Q (.bl (decide (i = j))) H
  | x, y => (scal x y = true ∧ Q (.bl (sameS x y)) H) ∨ rEqP K x y H Q
theorem o_eq (hu : X.A.units + 64 < cLine) : OpR X (compareOp .Eq) (uEq X.K) := by
  refine wR (orR op_eq (op_eqP hu)) fun x y H Q q => ?_
  unfold uEq at q
  split at q
  · exact .inl ⟨rfl, (d_int _ _).symm ▸ q⟩
  · exact .inl ⟨rfl, (d_str _ _).symm ▸ q⟩
  · exact .inl ⟨rfl, (d_bl _ _).symm ▸ q⟩
  · rcases q with ⟨h, q⟩ | q
    · exact .inl ⟨h, (sameS_eq h).symm ▸ q⟩
    · exact .inr q
def uNe (K : PySem.W.Frag) : R2 := fun x y H Q => match x, y with
  | .int i, .int j => Q (.bl (!decide (i = j))) H
  | .str i, .str j => Q (.bl (!decide (i = j))) H
  | .bl i, .bl j => Q (.bl (!decide (i = j))) H
  | x, y => (scal x y = true ∧ Q (.bl (!sameS x y)) H) ∨ rNeP K x y H Q
theorem o_ne (hu : X.A.units + 64 < cLine) : OpR X (compareOp .NotEq) (uNe X.K) := by
  refine wR (orR op_ne (op_neP hu)) fun x y H Q q => ?_
  unfold uNe at q
  split at q
  · exact .inl ⟨rfl, (d_int _ _).symm ▸ q⟩
  · exact .inl ⟨rfl, (d_str _ _).symm ▸ q⟩
  · exact .inl ⟨rfl, (d_bl _ _).symm ▸ q⟩
  · rcases q with ⟨h, q⟩ | q
    · exact .inl ⟨h, (sameS_eq h).symm ▸ q⟩
    · exact .inr q
/-- tuples of ints in their order -/
theorem lexAt_eq (ns ms : List Int) (op : Int → Int → Bool) (z : Bool) (f : List Int → List Int → Bool)
    (h0 : ∀ i, i = ns.length ∨ i = ms.length → i ≤ ns.length → i ≤ ms.length → f (ns.drop i) (ms.drop i) = z)
    (h1 : ∀ x xs y ys, f (x :: xs) (y :: ys) = if x = y then f xs ys else op x y) :
    ∀ k i, i + k = min ns.length ms.length → Ob.lexAt (fun j => decide (ns.getD j 0 = ms.getD j 0)) (fun j => op (ns.getD j 0) (ms.getD j 0)) z i k = f (ns.drop i) (ms.drop i)
  | 0, i, h => by
    rw [Ob.lexAt_zero, h0 i (by omega) (by omega) (by omega)]
  | k + 1, i, h => by
    have a : i < ns.length := by omega
    have b : i < ms.length := by omega
    rw [Ob.lexAt_succ, List.drop_eq_getElem_cons a, List.drop_eq_getElem_cons b, h1, lexAt_eq ns ms op z f h0 h1 k (i + 1) (by omega)]
    simp only [List.getD_eq_getElem?_getD, List.getElem?_eq_getElem a, List.getElem?_eq_getElem b, Option.getD_some, decide_eq_true_eq]
def lexLe (a b : List Int) : Bool := !HT.lexLt b a
theorem lexLe_cons (x y : Int) (xs ys : List Int) : lexLe (x :: xs) (y :: ys) = if x = y then lexLe xs ys else decide (x ≤ y) := by
  unfold lexLe
  rw [HT.lexLt_cons]
  by_cases h : x = y
  · rw [if_pos h, if_pos h.symm]
  · rw [if_neg h, if_neg (fun e => h e.symm), ← decide_not]
    exact decide_eq_decide.mpr (by omega)
theorem lexLe_end (ns ms : List Int) (i : Nat) (h : i = ns.length ∨ i = ms.length) (h1 : i ≤ ns.length) (h2 : i ≤ ms.length) : lexLe (ns.drop i) (ms.drop i) = decide (ns.length ≤ ms.length) := by
  unfold lexLe
  by_cases a : i = ns.length
  · have e : ns.drop i = [] := List.drop_eq_nil_of_le (by omega)
    rw [e, decide_eq_true (by omega)]
    cases ms.drop i <;> rfl
  · have e : ms.drop i = [] := List.drop_eq_nil_of_le (by omega)
    rw [e, decide_eq_false (by omega)]
    cases e2 : ns.drop i with
    | nil => exact absurd (List.drop_eq_nil_iff.mp e2) (by omega)
    | cons x r => rfl
def lexGe (a b : List Int) : Bool := !HT.lexLt a b
theorem lexGe_le (a b : List Int) : lexGe a b = lexLe b a := rfl
theorem lexAt_ge (ns ms : List Int) : Ob.lexAt (fun j => decide (ns.getD j 0 = ms.getD j 0)) (fun j => decide (ns.getD j 0 ≥ ms.getD j 0)) (decide (ns.length ≥ ms.length)) 0 (min ns.length ms.length) = lexGe ns ms := by
  refine lexAt_eq ns ms (fun x y => decide (x ≥ y)) _ lexGe (fun i h a b => ?_) (fun x xs y ys => ?_) _ 0 (by omega)
  · rw [lexGe_le, lexLe_end ms ns i (by omega) b a]
  · rw [lexGe_le, lexLe_cons, lexGe_le]
    by_cases h : x = y
    · rw [if_pos h, if_pos h.symm]
    · rw [if_neg h, if_neg (fun e => h e.symm)]
def rGeT (K : PySem.W.Frag) : R2 := fun x y H Q => ∃ (a b : Addr) (ns ms : List Int), x = .ref a ∧ y = .ref b ∧ SqT K H a (ns.map V.int) ∧ SqT K H b (ms.map V.int) ∧ Q (.bl (lexGe ns ms)) H
theorem ints_at {us : List Value} {ns : List Int} (h : IntsAre us ns) (j : Nat) (h1 : j < us.toArray.size) : ∃ t, us.toArray[j] = .int (ns.getD j 0) t := PyProof.Rows.IntsAre.int_at h _ _ (by simp at h1; simp [h1])
theorem op_geT (hu : X.A.units < cLine) : OpR X (compareOp .GtE) (rGeT X.K) := by
  intro pins s σ H x y v u Q I rx ry h
  obtain ⟨a, b, ns, ms, rfl, rfl, ha, hb, q⟩ := h
  cases rx; cases ry
  obtain ⟨us, r1, p1, _⟩ := I.tuple ha
  obtain ⟨ws, r2, p2, _⟩ := I.tuple hb
  have j1 : IntsAre us ns := Vals.ints r1
  have j2 : IntsAre ws ms := Vals.ints r2
  have n1 : us.toArray.size = ns.length := List.size_toArray.trans j1.length
  have n2 : ws.toArray.size = ms.length := List.size_toArray.trans j2.length
  have R := Ob.RcOp.tuples_ge (A := X.A) (s := s) (e := fun j => decide (ns.getD j 0 = ms.getD j 0)) (r := fun j => decide (ns.getD j 0 ≥ ms.getD j 0)) p1 p2 hu
    (fun j h1 h2 => by
      obtain ⟨t, e1⟩ := ints_at j1 j h1
      obtain ⟨t', e2⟩ := ints_at j2 j h2
      rw [e1, e2, ← Bool.beq_eq_decide_eq]
      exact SeqAt.EqAt.int_int _ _ _ _)
    (fun j h1 h2 _ => by
      obtain ⟨t, e1⟩ := ints_at j1 j h1
      obtain ⟨t', e2⟩ := ints_at j2 j h2
      rw [e1, e2]
      exact Ob.RcOp.ge_int _ _ _ _)
  rw [n1, n2, lexAt_ge] at R
  exact R X.prog X.w X.xe (EP X pins σ Q) ⟨.bl _, H, I, rfl, q⟩
def uLt (K : PySem.W.Frag) : R2 := fun x y H Q => match x, y with
  | .int i, .int j => Q (.bl (decide (i < j))) H
  | .ref a, .ref b => ∃ ns ms : List Int, SqT K H a (ns.map V.int) ∧ SqT K H b (ms.map V.int) ∧ Q (.bl (HT.lexLt ns ms)) H
  | _, _ => False
theorem o_lt (hu : X.A.units < cLine) : OpR X (compareOp .Lt) (uLt X.K) := by
  refine wR (orR op_lt (op_ltT hu)) fun x y H Q q => ?_
  unfold uLt at q
  split at q
  · exact .inl ⟨_, _, rfl, rfl, q⟩
  · obtain ⟨ns, ms, a, b, q⟩ := q
    exact .inr ⟨_, _, ns, ms, rfl, rfl, a, b, q⟩
  · exact q.elim
def uLe (K : PySem.W.Frag) : R2 := fun x y H Q => match x, y with
  | .int i, .int j => Q (.bl (decide (i ≤ j))) H
  | .ref a, .ref b => ∃ ns ms : List Int, SqT K H a (ns.map V.int) ∧ SqT K H b (ms.map V.int) ∧ Q (.bl (lexLe ns ms)) H
  | _, _ => False
def uGe (K : PySem.W.Frag) : R2 := fun x y H Q => match x, y with
  | .int i, .int j => Q (.bl (decide (j ≤ i))) H
  | .ref a, .ref b => ∃ ns ms : List Int, SqT K H a (ns.map V.int) ∧ SqT K H b (ms.map V.int) ∧ Q (.bl (lexGe ns ms)) H
  | _, _ => False
theorem o_ge (hu : X.A.units < cLine) : OpR X (compareOp .GtE) (uGe X.K) := by
  refine wR (orR op_ge (op_geT hu)) fun x y H Q q => ?_
  unfold uGe at q
  split at q
  · exact .inl ⟨_, _, rfl, rfl, q⟩
  · obtain ⟨ns, ms, a, b, q⟩ := q
    exact .inr ⟨_, _, ns, ms, rfl, rfl, a, b, q⟩
  · exact q.elim
def uGt : R2 := fun x y H Q => match x, y with
  | .int i, .int j => Q (.bl (decide (j < i))) H
  | _, _ => False
theorem o_gt : OpR X (compareOp .Gt) uGt := by
  refine wR op_gt fun x y H Q q => ?_
  unfold uGt at q
  split at q
  · exact ⟨_, _, rfl, rfl, q⟩
  · exact q.elim
def isNon : V → Bool
  | .non => true
  | _ => false
def uIs : R2 := fun x y H Q => match y with
  | .non => Q (.bl (isNon x)) H
  | .bl b => ∃ a, x = .bl a ∧ Q (.bl (decide (a = b))) H
  | _ => False
def uIsnt : R2 := fun x y H Q => match y with
  | .non => Q (.bl (!isNon x)) H
  | .bl b => ∃ a, x = .bl a ∧ Q (.bl (!decide (a = b))) H
  | _ => False
end ops
section subs
variable {X : Cx}
/-- a[b] of lists, tuples, texts -/
def uIx (K : PySem.W.Frag) : R2 := fun x y H Q => match x, y with
  | .ref p, .int i => ∃ xs v, (SqL K H p xs ∨ SqT K H p xs) ∧ atI xs i = some v ∧ Q v H
  | .str z, .int i => z.length ≤ sizeLine ∧ ∃ c, atI z.cps.toList i = some c ∧ Q (.str ⟨#[c]⟩) H
  | _, _ => False
theorem ix_u : IxR X (uIx X.K) := by
  intro value slice pins s σ H x y v u Q I rx ry h hs
  refine ix_seq value slice pins s σ H x y v u Q I rx ry ?_ hs
  unfold uIx at h
  split at h
  · obtain ⟨xs, v, e | e, g, q⟩ := h
    · exact .inl ⟨_, xs, _, v, rfl, rfl, e, g, q⟩
    · exact .inr (.inl ⟨_, xs, _, v, rfl, rfl, e, g, q⟩)
  · obtain ⟨z, c, e, q⟩ := h
    exact .inr (.inr ⟨_, _, c, rfl, rfl, z, e, q⟩)
  · exact h.elim
theorem e_ix {a b : Expr} {ta tb : TE} {pos : Pos} (ha : PE X a ta) (hb : PE X b tb) (hs : PlainIx b := by exact fun _ _ => rfl) : PE X (.Subscript a b pos) (tOp (uIx X.K) ta tb) := pe_ix ix_u ha hb hs
/-- a[i] = v -/
def uSet : TSet := fun o i v H Q => match o, i with
  | .ref p, .int k => (∃ xs j, H p = some (.lst xs) ∧ ixN xs.length k = some j ∧ Q (upd H p (.lst (xs.set j v)))) ∨ ∃ H', DPut H p (.int k) v H' ∧ Q H'
  | .ref p, i => ∃ H', DPut H p i v H' ∧ Q H'
  | _, _ => False
theorem set_u (hu : X.A.units + 1 < cLine) : PSet X uSet := by
  intro pins s σ H o i v ov iv u Q I ro ri rv h
  unfold uSet at h
  split at h
  · rcases h with ⟨xs, j, e, g, q⟩ | ⟨H', g, q⟩
    · exact set_list pins s σ H _ _ v ov iv u Q I ro ri rv ⟨_, xs, _, j, rfl, rfl, e, g, q⟩
    · exact set_dict hu pins s σ H _ _ v ov iv u Q I ro ri rv ⟨_, H', rfl, g, q⟩
  · obtain ⟨H', g, q⟩ := h
    exact set_dict hu pins s σ H _ _ v ov iv u Q I ro ri rv ⟨_, H', rfl, g, q⟩
  · exact h.elim
end subs
section calls
variable {X : Cx}
/-- len -/
def uLen (K : PySem.W.Frag) : List V → Hp → VK → Prop := fun xs H Q => match xs with
  | [.ref p] => (∃ ys, (SqL K H p ys ∨ SqT K H p ys) ∧ Q (.int ys.length) H) ∨ ∃ kvs, H p = some (.dK kvs) ∧ Q (.int kvs.length) H
  | [.str z] => z.length ≤ sizeLine ∧ Q (.int z.length) H
  | _ => False
theorem c_len : CallR X (.builtin "len") (uLen X.K) := by
  refine wC (orC call_len_seq (orC call_len_str call_lenD)) fun xs H Q q => ?_
  unfold uLen at q
  split at q
  · rcases q with ⟨ys, a, q⟩ | ⟨kvs, a, q⟩
    · exact .inl ⟨_, ys, rfl, a, q⟩
    · exact .inr (.inr ⟨_, kvs, rfl, a, q⟩)
  · exact .inr (.inl ⟨_, rfl, q⟩)
  · exact q.elim
/-- list(x), tuple(x) -/
def uList (K : PySem.W.Frag) : List V → Hp → VK → Prop := fun xs H Q => match xs with
  | [.ref p] => ∃ ys, (SqL K H p ys ∨ SqT K H p ys) ∧ ∀ l, H l = none → Q (.ref l) (upd H l (.lst ys))
  | _ => False
theorem c_list : CallR X (.type "list") (uList X.K) := by
  refine wC call_list_of fun xs H Q q => ?_
  unfold uList at q
  split at q
  · obtain ⟨ys, a, q⟩ := q
    exact ⟨_, ys, rfl, a, q⟩
  · exact q.elim
def uTuple (K : PySem.W.Frag) : List V → Hp → VK → Prop := fun xs H Q => match xs with
  | [.ref p] => ∃ ys, (SqL K H p ys ∧ ∀ l, H l = none → Q (.ref l) (upd H l (.tup ys))) ∨ (SqT K H p ys ∧ Q (.ref p) H)
  | _ => False
theorem c_tuple : CallR X (.type "tuple") (uTuple X.K) := by
  refine wC call_tuple_of fun xs H Q q => ?_
  unfold uTuple at q
  split at q
  · obtain ⟨ys, q⟩ := q
    exact ⟨_, ys, rfl, q⟩
  · exact q.elim
def uAbs : List V → Hp → VK → Prop := fun xs H Q => match xs with
  | [.int i] => Q (.int (if i < 0 then -i else i)) H
  | _ => False
theorem c_abs : CallR X (.builtin "abs") uAbs := by
  refine wC call_abs fun xs H Q q => ?_
  unfold uAbs at q
  split at q
  · exact ⟨_, rfl, q⟩
  · exact q.elim
def uMax : List V → Hp → VK → Prop := fun xs H Q => match xs with
  | [.int i, .int j] => Q (.int (if j > i then j else i)) H
  | _ => False
def uMin : List V → Hp → VK → Prop := fun xs H Q => match xs with
  | [.int i, .int j] => Q (.int (if j < i then j else i)) H
  | _ => False
def uInt : List V → Hp → VK → Prop := fun xs H Q => match xs with
  | [.int i] => Q (.int i) H
  | [.bl k] => Q (.int (if k then 1 else 0)) H
  | _ => False
theorem c_int : CallR X (.type "int") uInt := by
  refine wC call_int1 fun xs H Q q => ?_
  unfold uInt at q
  split at q
  · exact .inl ⟨_, rfl, q⟩
  · exact .inr ⟨_, rfl, q⟩
  · exact q.elim
inductive Ty | int | bool | str | list | tuple | dict
def Ty.nm : Ty → String
  | .int => "int" | .bool => "bool" | .str => "str" | .list => "list" | .tuple => "tuple" | .dict => "dict"
/-- of a scalar -/
def isS : Ty → V → Bool
  | .int, .int _ => true
  | .int, .bl _ => true
  | .bool, .bl _ => true
  | .str, .str _ => true
  | _, _ => false
/-- of an object that is a list, a tuple, a dict -/
inductive Ob | list | tuple | dict
def Ob.nm : Ob → String
  | .list => "list" | .tuple => "tuple" | .dict => "dict"
def isO : Ty → Ob → Bool
  | .list, .list => true
  | .tuple, .tuple => true
  | .dict, .dict => true
  | _, _ => false
def uIsi (K : PySem.W.Frag) (n : Ty) : List V → Hp → VK → Prop := fun xs H Q => match xs with
  | [.int i, .ty m] => m = n.nm ∧ Q (.bl (isS n (.int i))) H
  | [.bl i, .ty m] => m = n.nm ∧ Q (.bl (isS n (.bl i))) H
  | [.str i, .ty m] => m = n.nm ∧ Q (.bl (isS n (.str i))) H
  | [.non, .ty m] => m = n.nm ∧ Q (.bl (isS n .non)) H
  | [.ref a, .ty m] => m = n.nm ∧ ∃ o : Ob, TyX K H (.ref a) (.type o.nm) ∧ Q (.bl (isO n o)) H
  | _ => False
theorem kit_int : ∀ n : Ty, kitB "int" n.nm = some (isS n (.int 0)) := fun n => by cases n <;> decide +kernel
theorem kit_bool : ∀ n : Ty, kitB "bool" n.nm = some (isS n (.bl true)) := fun n => by cases n <;> decide +kernel
theorem kit_str : ∀ n : Ty, kitB "str" n.nm = some (isS n (.str Str.empty)) := fun n => by cases n <;> decide +kernel
theorem kit_non : ∀ n : Ty, kitB "NoneType" n.nm = some (isS n .non) := fun n => by cases n <;> decide +kernel
theorem kit_obj : ∀ (n : Ty) (o : Ob), kitB o.nm n.nm = some (isO n o) := fun n o => by cases n <;> cases o <;> decide +kernel
theorem c_isi (n : Ty) : CallR X (.builtin "isinstance") (uIsi X.K n) := by
  refine wC call_isi fun xs H Q q => ?_
  unfold uIsi at q
  split at q
  · obtain ⟨rfl, q⟩ := q
    exact ⟨_, _, .type "int", .type n.nm, _, rfl, .ty n.nm, .base (.int _), kit_ty (kit_int n), by cases n <;> exact q⟩
  · obtain ⟨rfl, q⟩ := q
    exact ⟨_, _, .type "bool", .type n.nm, _, rfl, .ty n.nm, .base (.bl _), kit_ty (kit_bool n), by cases n <;> exact q⟩
  · obtain ⟨rfl, q⟩ := q
    exact ⟨_, _, .type "str", .type n.nm, _, rfl, .ty n.nm, .base (.str _), kit_ty (kit_str n), by cases n <;> exact q⟩
  · obtain ⟨rfl, q⟩ := q
    exact ⟨_, _, .type "NoneType", .type n.nm, _, rfl, .ty n.nm, .base .non, kit_ty (kit_non n), by cases n <;> exact q⟩
  · obtain ⟨rfl, o, t, q⟩ := q
    exact ⟨_, _, .type o.nm, .type n.nm, _, rfl, .ty n.nm, t, kit_ty (kit_obj n o), q⟩
  · exact q.elim
end calls
section own
variable {X : Cx} {k : Nat} {f C : Addr} {fd : FuncData} {ps : List Str} {sp : Sp} {W : WX} {x m : Str} {p pos apos : Pos} {e o : Expr} {es : List Expr} {ta : TE} {t : TA}
def uCall (sp : Sp) (W : WX) (t : TA) : TE := fun σ H Q => t σ H fun vs H1 => sp vs H1 Q fun c d H2 => W c d σ H2
theorem e_call (F : FnOk X.prog X.w X.K X.mg X.base (L2.CX X.prog X.w) k f fd ps sp) (hr : Room k X.A) (hm : X.mg x = some (.ref f)) (hk : PySem.W.keepIn X.K (.ref f) = true) (hb : Binds X.K fd ps []) (tk : Takes X W)
    (ha : PA X (e :: es) t) (hg : Gl X x := by rfl) (hdb : (x == ("__debug__" : Str)) = false := by decide) (he : starEach (e :: es) X.env = (false, eval e X.env) :: starEach es X.env := by rfl) (hpl : (backTo pos (starEach es X.env)).any (·.1) = false := by rfl) :
    PE X (.Call (.Name x p) (e :: es) [] pos) (uCall sp W t) := pe_callS (E := WE W) F hr hg hm hk hb (fun σ => passAt tk σ) ha hdb he hpl
/-- o.m(..) -/
def uMeth (C : Addr) (m : Str) (sp : Sp) (W : WX) (ta : TE) (t : TA) : TE := fun σ H Q => ta σ H fun x H1 => ∃ a dx fs, x = .ref a ∧ H1 a = some (.ins C dx fs) ∧ fs.lookup m = none ∧
  t σ H1 fun vs H2 => sp (x :: vs) H2 Q fun c d H3 => W c d σ H3
/-- what a body wants of exceptions, as a wish -/
abbrev WB (E : XK) : WX := fun c d _ H => E c d H
def uRaise (C : Addr) (W : WX) : TS := fun _ σ H => W (.ref C) none σ H
end own
section fields
variable {X : Cx} {C : Addr} {f : Str} {e o v : Expr} {ta tv : TE} {pos pos' : Pos}
def uFld (C : Addr) (f : Str) (ta : TE) : TE := fun σ H Q => ta σ H fun x H1 => ∃ a dx fs v, x = .ref a ∧ H1 a = some (.ins C dx fs) ∧ fs.lookup f = some v ∧ Q v H1
def uSetF (C : Addr) (f : Str) (ta tv : TE) : TS := fun D σ H => tv σ H fun y H1 => ta σ H1 fun x H2 => ∃ a dx fs, x = .ref a ∧ H2 a = some (.ins C dx fs) ∧ fs.length < 1000 ∧ D.nx σ (upd H2 a (.ins C dx (putF f y fs)))
end fields
section truth
variable {X : Cx} {e : Expr} {te : TE}
def truV (K : PySem.W.Frag) (x : V) (H1 : Hp) (Q : Bool → Hp → Prop) : Prop := match x with
  | .bl b => Q b H1
  | .non => Q false H1
  | .int i => Q (!decide (i = 0)) H1
  | .str z => z.length ≤ sizeLine ∧ Q (!decide (z.length = 0)) H1
  | .ref p => (∃ xs, (SqL K H1 p xs ∨ SqT K H1 p xs) ∧ Q (!xs.isEmpty) H1) ∨ ∃ kvs, H1 p = some (.dK kvs) ∧ Q (!kvs.isEmpty) H1
  | _ => False
def uTru (K : PySem.W.Frag) (te : TE) : TT := fun σ H Q => te σ H fun x H1 => truV K x H1 Q
theorem t_tru (he : PE X e te) (hw : ∀ whole, isTrue e X.env whole = (do let v ← whole; standAt e.pos; holding [v] (truthy v)) := by intro _; rfl) : PT X e (uTru X.K te) := by
  refine ⟨fun pins s σ H Q I h => isTrue_plain (thn (he.run pins s σ H _ I h) fun v s1 hh => ?_) (hw _)⟩
  obtain ⟨x, H1, I1, r1, q⟩ := hh
  refine tru_ok pins s1 σ H1 x v Q I1 r1 ?_
  unfold truV at q
  split at q
  · exact ⟨_, rfl, q⟩
  · exact ⟨_, rfl, q⟩
  · rename_i i
    refine ⟨_, rfl, ?_⟩
    rw [show (i != 0) = !decide (i = 0) by rw [bne, Bool.beq_eq_decide_eq]]
    exact q
  · rename_i z
    refine ⟨_, ⟨q.1, rfl⟩, ?_⟩
    rw [show ((z.length : Int) != 0) = !decide (z.length = 0) by rw [bne, Bool.beq_eq_decide_eq]; congr 1; exact decide_eq_decide.mpr (by omega)]
    exact q.2
  · rcases q with ⟨xs, a | a, q⟩ | ⟨kvs, a, q⟩
    · exact ⟨_, .inl ⟨xs, a, rfl⟩, q⟩
    · exact ⟨_, .inr (.inl ⟨xs, a, rfl⟩), q⟩
    · exact ⟨_, .inr (.inr ⟨kvs, a, rfl⟩), q⟩
  · exact q.elim
end truth
def forQ (g : TG) (tb : TS) (D : Ends) (σ : L2.St) (J : It) (H1 : Hp) : Prop := ∃ W : Nat → Nat → L2.St → Hp → Prop, (∃ m, W 0 m σ H1) ∧ ∀ i m σ H, W i m σ H →
  (J.stop i H ∧ D.nx σ H) ∨ (J.go i H ∧ ∃ N : L2.St → Hp → Prop, (∀ σ' H', N σ' H' → ∃ m', m' < m ∧ W (i + 1) m' σ' H') ∧ ∀ x H', J.yld i H x H' → g x σ H' fun σ2 H2 => tb { D with nx := N, ct := N, bk := D.nx } σ2 H2)
def newT (xs : List V) (H1 : Hp) (Q : VK) : Prop := xs.length ≤ sizeLine ∧ ∀ p, H1 p = none → Q (.ref p) (upd H1 p (.tup xs))
def newL (xs : List V) (H1 : Hp) (Q : VK) : Prop := xs.length ≤ sizeLine ∧ ∀ p, H1 p = none → Q (.ref p) (upd H1 p (.lst xs))
def bmQ (K : PySem.W.Frag) (T : String) (q : V → List V → Hp → VK → Prop) (tA : TA) (σ : L2.St) (x : V) (H1 : Hp) (Q : VK) : Prop := tyV K T x H1 ∧ tA σ H1 fun xs H2 => q x xs H2 Q
def rng1Q (vs : List V) (H1 : Hp) (R : It → Hp → Prop) : Prop := ∃ j : Int, vs = [.int j] ∧ -(2 ^ 62) ≤ j ∧ j < 2 ^ 62 ∧ R (Itr 0 j.toNat) H1
def rng2Q (vs : List V) (H1 : Hp) (R : It → Hp → Prop) : Prop := ∃ i j : Int, vs = [.int i, .int j] ∧ (-(2 ^ 62) ≤ i ∧ i < 2 ^ 62 ∧ -(2 ^ 62) ≤ j ∧ j < 2 ^ 62) ∧ R (Itr i (j - i).toNat) H1
def listQ (K : PySem.W.Frag) (x : V) (H1 : Hp) (R : It → Hp → Prop) : Prop := ∃ a, x = .ref a ∧ (∃ xs, SqL K H1 a xs) ∧ R (Itl K a) H1
def tupQ (K : PySem.W.Frag) (x : V) (H1 : Hp) (R : It → Hp → Prop) : Prop := ∃ a, x = .ref a ∧ (∃ xs, SqT K H1 a xs) ∧ R (Itt K a) H1
def strQ (x : V) (H1 : Hp) (R : It → Hp → Prop) : Prop := ∃ z, x = .str z ∧ R (Its z) H1
def revQ (K : PySem.W.Frag) (vs : List V) (H1 : Hp) (R : It → Hp → Prop) : Prop := ∃ (a : Addr) (xs : List V), vs = [.ref a] ∧ SqL K H1 a xs ∧ R (Itv K a xs.length) H1
def fldQ (C : Addr) (f : Str) (x : V) (H1 : Hp) (Q : VK) : Prop := ∃ a dx fs v, x = .ref a ∧ H1 a = some (.ins C dx fs) ∧ fs.lookup f = some v ∧ Q v H1
def methQ (C : Addr) (m : Str) (sp : Sp) (W : WX) (t : TA) (σ : L2.St) (x : V) (H1 : Hp) (Q : VK) : Prop := ∃ a dx fs, x = .ref a ∧ H1 a = some (.ins C dx fs) ∧ fs.lookup m = none ∧ t σ H1 fun vs H2 => sp (x :: vs) H2 Q fun c d H3 => W c d σ H3
def setfQ (C : Addr) (f : Str) (x y : V) (H2 : Hp) (N : Hp → Prop) : Prop := ∃ a dx fs, x = .ref a ∧ H2 a = some (.ins C dx fs) ∧ fs.length < 1000 ∧ N (upd H2 a (.ins C dx (putF f y fs)))
section steps
variable {K : PySem.W.Frag} {D : Ends} {σ : L2.St} {H : Hp} {Q : VK} {QB : Bool → Hp → Prop} {QA : List V → Hp → Prop} {t u : TS} {te ta tb tv : TE} {tA : TA} {c c1 c2 : TT} {g : TG} {i : Nat} {v x y : V} {r r' : R2} {W : WX} {sp : Sp} {b : Bool} {C a : Addr} {f : Str}
theorem w_seq (h : t { D with nx := u D } σ H) : tSeq t u D σ H := h
theorem w_cut (P : L2.St → Hp → Prop) (h1 : t { D with nx := P } σ H) (h2 : ∀ σ H, P σ H → u D σ H) : tCut t u D σ H := ⟨P, h1, h2⟩
theorem w_next (h : D.nx σ H) : tNext D σ H := h
theorem w_asg (h : te σ H fun x H1 => g x σ H1 D.nx) : tAsg te g D σ H := h
theorem w_name {N : L2.St → Hp → Prop} (h : N (σ.set i (some v)) H) : gName i v σ H N := h
theorem w_ret (h : te σ H D.rt) : tRet te D σ H := h
theorem w_retN (h : D.rt .non H) : tRetN D σ H := h
theorem w_if (h : c σ H fun b H1 => if b = true then t D σ H1 else u D σ H1) : tIfS c t u D σ H := h
theorem w_drop (h : te σ H fun _ H1 => D.nx σ H1) : tDrop te D σ H := h
theorem w_brk (h : D.bk σ H) : tBreak D σ H := h
theorem w_cont (h : D.ct σ H) : tCont D σ H := h
theorem w_aug {ti : TIp} (e : σ[i]? = some (some x)) (h : te σ H fun y H1 => ti x y H1 fun z H2 => D.nx (σ.set i (some z)) H2) : tAug i te ti D σ H := ⟨x, e, h⟩
theorem w_ipI {k : Int → Int → Int} {m n : Int} (h : Q (.int (k m n)) H) : ipI k (.int m) (.int n) H Q := ⟨m, n, rfl, rfl, h⟩
theorem w_test (h : te σ H fun x H1 => ∃ k, x = .bl k ∧ QB k H1) : tTest te σ H QB := h
theorem w_bl (h : QB b H) : ∃ k, V.bl b = .bl k ∧ QB k H := ⟨b, rfl, h⟩
theorem w_not (h : c σ H fun k H1 => QB (!k) H1) : tNot c σ H QB := h
theorem w_and (h : c1 σ H fun k H1 => if k = true then c2 σ H1 QB else QB false H1) : tAnd c1 c2 σ H QB := h
theorem w_or (h : c1 σ H fun k H1 => if k = true then QB true H1 else c2 σ H1 QB) : tOr c1 c2 σ H QB := h
theorem w_andV (h : ta σ H fun x H1 => ∃ k, x = .bl k ∧ if k = true then tb σ H1 Q else Q (.bl false) H1) : tAndV ta tb σ H Q := h
theorem w_orV (h : ta σ H fun x H1 => ∃ k, x = .bl k ∧ if k = true then Q (.bl true) H1 else tb σ H1 Q) : tOrV ta tb σ H Q := h
theorem w_notV (h : ta σ H fun x H1 => ∃ k, x = .bl k ∧ Q (.bl (!k)) H1) : tNotV ta σ H Q := h
theorem w_blP {P : Bool → Prop} (h : P b) : ∃ k, V.bl b = .bl k ∧ P k := ⟨b, rfl, h⟩
theorem w_ifE (h : c σ H fun k H1 => if k = true then ta σ H1 Q else tb σ H1 Q) : tIf c ta tb σ H Q := h
theorem w_var (e : σ[i]? = some (some v)) (h : Q v H) : tVar i σ H Q := ⟨v, e, h⟩
theorem w_c (h : Q v H) : tC v σ H Q := h
theorem w_op (h : ta σ H fun x H1 => tb σ H1 fun y H2 => r x y H2 Q) : tOp r ta tb σ H Q := h
theorem w_un {ru : V → Hp → VK → Prop} (h : ta σ H fun x H1 => ru x H1 Q) : tUn ru ta σ H Q := h
theorem w_neg {m : Int} (h : Q (.int (-m)) H) : uNeg (.int m) H Q := h
theorem w_chain {tc : TE} (h : ta σ H fun x H1 => tb σ H1 fun y H2 => r x y H2 fun z H3 => ∃ k, z = .bl k ∧ if k = true then tc σ H3 fun w H4 => r' y w H4 Q else Q (.bl false) H3) : tChain r r' ta tb tc σ H Q := h
theorem w_cons (h : te σ H fun x H1 => tA σ H1 fun xs H2 => QA (x :: xs) H2) : tCons te tA σ H QA := h
theorem w_nil (h : QA [] H) : tNil σ H QA := h
theorem w_tup (h : tA σ H fun xs H1 => newT xs H1 Q) : tTup tA σ H Q := h
theorem w_lst (h : tA σ H fun xs H1 => newL xs H1 Q) : tLst tA σ H Q := h
theorem small9 {n : Nat} (h : n ≤ 100000) : n ≤ sizeLine := Nat.le_trans h (by decide)
theorem w_newT {xs : List V} (s : xs.length ≤ 100000) (h : ∀ p, H p = none → Q (.ref p) (upd H p (.tup xs))) : newT xs H Q := ⟨small9 s, h⟩
theorem w_newL {xs : List V} (s : xs.length ≤ 100000) (h : ∀ p, H p = none → Q (.ref p) (upd H p (.lst xs))) : newL xs H Q := ⟨small9 s, h⟩
theorem w_add {m n : Int} (h : Q (.int (m + n)) H) : uAdd K (.int m) (.int n) H Q := h
theorem w_sub {m n : Int} (h : Q (.int (m - n)) H) : uSub (.int m) (.int n) H Q := h
theorem w_mul {m n : Int} (s : CMul m n) (h : Q (.int (m * n)) H) : uMul (.int m) (.int n) H Q := ⟨.inl s, h⟩
theorem w_div {m n : Int} (s : 0 < n ∧ n < 2 ^ 200) (h : Q (.int (m / n)) H) : uDiv (.int m) (.int n) H Q := ⟨s, h⟩
theorem w_mod {m n : Int} (s : 0 < n) (h : Q (.int (m % n)) H) : uMod (.int m) (.int n) H Q := ⟨s, h⟩
theorem w_pow {m n : Int} (s : CPow m n) (h : Q (.int (m ^ n.toNat)) H) : uPow (.int m) (.int n) H Q := ⟨s, h⟩
theorem w_eqP {o : Addr} (h : rEqP K x (.ref o) H Q) : uEq K x (.ref o) H Q := by cases x <;> exact Or.inr h
theorem w_eqI {m n : Int} (h : Q (.bl (decide (m = n))) H) : uEq K (.int m) (.int n) H Q := h
theorem w_eqS {m n : Str} (h : Q (.bl (decide (m = n))) H) : uEq K (.str m) (.str n) H Q := h
theorem w_eqB {m n : Bool} (h : Q (.bl (decide (m = n))) H) : uEq K (.bl m) (.bl n) H Q := h
theorem w_neI {m n : Int} (h : Q (.bl (!decide (m = n))) H) : uNe K (.int m) (.int n) H Q := h
theorem w_neS {m n : Str} (h : Q (.bl (!decide (m = n))) H) : uNe K (.str m) (.str n) H Q := h
theorem w_neB {m n : Bool} (h : Q (.bl (!decide (m = n))) H) : uNe K (.bl m) (.bl n) H Q := h
theorem w_lt {m n : Int} (h : Q (.bl (decide (m < n))) H) : uLt K (.int m) (.int n) H Q := h
theorem w_le {m n : Int} (h : Q (.bl (decide (m ≤ n))) H) : uLe K (.int m) (.int n) H Q := h
theorem w_gt {m n : Int} (h : Q (.bl (decide (n < m))) H) : uGt (.int m) (.int n) H Q := h
theorem w_ge {m n : Int} (h : Q (.bl (decide (n ≤ m))) H) : uGe K (.int m) (.int n) H Q := h
theorem w_cb {q : List V → Hp → VK → Prop} (h : tA σ H fun vs H1 => q vs H1 Q) : tCB q tA σ H Q := h
theorem w_call (h : tA σ H fun vs H1 => sp vs H1 Q fun c d H2 => W c d σ H2) : uCall sp W tA σ H Q := h
theorem w_tru (h : te σ H fun x H1 => truV K x H1 QB) : uTru K te σ H QB := h
theorem w_truB {b : Bool} (h : QB b H) : truV K (.bl b) H QB := h
theorem w_truN (h : QB false H) : truV K .non H QB := h
theorem w_truI {m : Int} (h : QB (!decide (m = 0)) H) : truV K (.int m) H QB := h
theorem w_isi_int_int {m : Int} (h : Q (.bl true) H) : uIsi K .int [(.int m), .ty "int"] H Q := ⟨rfl, h⟩
theorem w_isi_int_bl {m : Bool} (h : Q (.bl true) H) : uIsi K .int [(.bl m), .ty "int"] H Q := ⟨rfl, h⟩
theorem w_isi_int_str {m : Str} (h : Q (.bl false) H) : uIsi K .int [(.str m), .ty "int"] H Q := ⟨rfl, h⟩
theorem w_isi_int_non  (h : Q (.bl false) H) : uIsi K .int [.non, .ty "int"] H Q := ⟨rfl, h⟩
theorem w_isi_bool_int {m : Int} (h : Q (.bl false) H) : uIsi K .bool [(.int m), .ty "bool"] H Q := ⟨rfl, h⟩
theorem w_isi_bool_bl {m : Bool} (h : Q (.bl true) H) : uIsi K .bool [(.bl m), .ty "bool"] H Q := ⟨rfl, h⟩
theorem w_isi_bool_str {m : Str} (h : Q (.bl false) H) : uIsi K .bool [(.str m), .ty "bool"] H Q := ⟨rfl, h⟩
theorem w_isi_bool_non  (h : Q (.bl false) H) : uIsi K .bool [.non, .ty "bool"] H Q := ⟨rfl, h⟩
theorem w_isi_str_int {m : Int} (h : Q (.bl false) H) : uIsi K .str [(.int m), .ty "str"] H Q := ⟨rfl, h⟩
theorem w_isi_str_bl {m : Bool} (h : Q (.bl false) H) : uIsi K .str [(.bl m), .ty "str"] H Q := ⟨rfl, h⟩
theorem w_isi_str_str {m : Str} (h : Q (.bl true) H) : uIsi K .str [(.str m), .ty "str"] H Q := ⟨rfl, h⟩
theorem w_isi_str_non  (h : Q (.bl false) H) : uIsi K .str [.non, .ty "str"] H Q := ⟨rfl, h⟩
theorem w_isi_list_int {m : Int} (h : Q (.bl false) H) : uIsi K .list [(.int m), .ty "list"] H Q := ⟨rfl, h⟩
theorem w_isi_list_bl {m : Bool} (h : Q (.bl false) H) : uIsi K .list [(.bl m), .ty "list"] H Q := ⟨rfl, h⟩
theorem w_isi_list_str {m : Str} (h : Q (.bl false) H) : uIsi K .list [(.str m), .ty "list"] H Q := ⟨rfl, h⟩
theorem w_isi_list_non  (h : Q (.bl false) H) : uIsi K .list [.non, .ty "list"] H Q := ⟨rfl, h⟩
theorem w_isi_tuple_int {m : Int} (h : Q (.bl false) H) : uIsi K .tuple [(.int m), .ty "tuple"] H Q := ⟨rfl, h⟩
theorem w_isi_tuple_bl {m : Bool} (h : Q (.bl false) H) : uIsi K .tuple [(.bl m), .ty "tuple"] H Q := ⟨rfl, h⟩
theorem w_isi_tuple_str {m : Str} (h : Q (.bl false) H) : uIsi K .tuple [(.str m), .ty "tuple"] H Q := ⟨rfl, h⟩
theorem w_isi_tuple_non  (h : Q (.bl false) H) : uIsi K .tuple [.non, .ty "tuple"] H Q := ⟨rfl, h⟩
theorem w_is_int {m : Int} (h : Q (.bl false) H) : uIs (.int m) .non H Q := h
theorem w_isnt_int {m : Int} (h : Q (.bl true) H) : uIsnt (.int m) .non H Q := h
theorem w_is_bl {m : Bool} (h : Q (.bl false) H) : uIs (.bl m) .non H Q := h
theorem w_isnt_bl {m : Bool} (h : Q (.bl true) H) : uIsnt (.bl m) .non H Q := h
theorem w_is_str {m : Str} (h : Q (.bl false) H) : uIs (.str m) .non H Q := h
theorem w_isnt_str {m : Str} (h : Q (.bl true) H) : uIsnt (.str m) .non H Q := h
theorem w_is_non  (h : Q (.bl true) H) : uIs .non .non H Q := h
theorem w_isnt_non  (h : Q (.bl false) H) : uIsnt .non .non H Q := h
theorem w_is_ref {m : Addr} (h : Q (.bl false) H) : uIs (.ref m) .non H Q := h
theorem w_isnt_ref {m : Addr} (h : Q (.bl true) H) : uIsnt (.ref m) .non H Q := h
theorem ifNT {A B : Prop} (h : B) : if (!true) = true then A else B := iteF h
theorem ifNF {A B : Prop} (h : A) : if (!false) = true then A else B := iteT h
theorem w_max {m n : Int} (h : Q (.int (if n > m then n else m)) H) : uMax [.int m, .int n] H Q := h
theorem w_min {m n : Int} (h : Q (.int (if n < m then n else m)) H) : uMin [.int m, .int n] H Q := h
theorem w_abs {m : Int} (h : Q (.int (if m < 0 then -m else m)) H) : uAbs [.int m] H Q := h
theorem w_intI {m : Int} (h : Q (.int m) H) : uInt [.int m] H Q := h
theorem w_intB {m : Bool} (h : Q (.int (if m then 1 else 0)) H) : uInt [.bl m] H Q := h
theorem w_lenL {p : Addr} {xs : List V} (e : SqL K H p xs) (h : Q (.int xs.length) H) : uLen K [.ref p] H Q := .inl ⟨xs, .inl e, h⟩
theorem w_lenT {p : Addr} {xs : List V} (e : SqT K H p xs) (h : Q (.int xs.length) H) : uLen K [.ref p] H Q := .inl ⟨xs, .inr e, h⟩
theorem w_ixL {p : Addr} {xs : List V} {n : Int} {k : Nat} (e : SqL K H p xs) (ek : n = (k : Int)) (ev : xs[k]? = some v) (h : Q v H) : uIx K (.ref p) (.int n) H Q := ⟨xs, v, .inl e, by rw [ek]; exact atI_nat ev, h⟩
theorem w_ixI {p : Addr} {ns : List Int} {n : Int} (e : SqL K H p (ns.map V.int)) (h0 : 0 ≤ n ∧ n.toNat < ns.length) (h : Q (.int (ns.getD n.toNat 0)) H) : uIx K (.ref p) (.int n) H Q :=
  ⟨_, .int (ns.getD n.toNat 0), .inl e, by
    have z : (ns.map V.int)[n.toNat]? = some (.int (ns.getD n.toNat 0)) := by rw [List.getElem?_map, List.getElem?_eq_getElem h0.2, List.getD_eq_getElem?_getD, List.getElem?_eq_getElem h0.2]; rfl
    have y := atI_nat z
    rw [show ((n.toNat : Nat) : Int) = n by omega] at y
    exact y, h⟩
theorem w_ixTI {p : Addr} {ns : List Int} {n : Int} (e : SqT K H p (ns.map V.int)) (h0 : 0 ≤ n ∧ n.toNat < ns.length) (h : Q (.int (ns.getD n.toNat 0)) H) : uIx K (.ref p) (.int n) H Q :=
  ⟨_, .int (ns.getD n.toNat 0), .inr e, by
    have z : (ns.map V.int)[n.toNat]? = some (.int (ns.getD n.toNat 0)) := by rw [List.getElem?_map, List.getElem?_eq_getElem h0.2, List.getD_eq_getElem?_getD, List.getElem?_eq_getElem h0.2]; rfl
    have y := atI_nat z
    rw [show ((n.toNat : Nat) : Int) = n by omega] at y
    exact y, h⟩
theorem w_appI {p : Addr} {ns : List Int} {z : Int} (e : H p = some (.lst (ns.map V.int))) (s : ns.length < 10000000) (h : Q .non (upd H p (.lst ((ns ++ [z]).map V.int)))) : rAppend (.ref p) [.int z] H Q :=
  ⟨p, _, _, rfl, rfl, e, by rw [List.length_map]; exact Nat.lt_of_lt_of_le s (by decide), by rw [List.map_append] at h; exact h⟩
theorem w_gsub {to ti : TE} {ts : TSet} {N : L2.St → Hp → Prop} (h : to σ H fun o H1 => ti σ H1 fun i H2 => ts o i v H2 fun H3 => N σ H3) : gSub to ti ts v σ H N := h
theorem ixN_in {n : Nat} {k : Int} (h : 0 ≤ k ∧ k.toNat < n) : ixN n k = some k.toNat := by unfold ixN; rw [if_pos h.1, if_pos (by omega)]
theorem w_setL {p : Addr} {xs : List V} {k : Int} {N : Hp → Prop} (e : H p = some (.lst xs)) (h0 : 0 ≤ k ∧ k.toNat < xs.length) (h : N (upd H p (.lst (xs.set k.toNat y)))) : uSet (.ref p) (.int k) y H N := .inl ⟨xs, _, e, ixN_in h0, h⟩
theorem w_ttupL {p : Addr} {xs : List V} (e : SqL K H p xs) (h : ∀ l, H l = none → Q (.ref l) (upd H l (.tup xs))) : uTuple K [.ref p] H Q := ⟨xs, .inl ⟨e, h⟩⟩
theorem w_bm {T : String} {q : V → List V → Hp → VK → Prop} (h : te σ H fun x H1 => bmQ K T q tA σ x H1 Q) : tBM K T q te tA σ H Q := h
theorem w_bmL {q : V → List V → Hp → VK → Prop} {p : Addr} {xs : List V} (e : H p = some (.lst xs)) (h : tA σ H fun vs H2 => q (.ref p) vs H2 Q) : bmQ K "list" q tA σ (.ref p) H Q := ⟨.inl ⟨rfl, _, .inl (.inl e)⟩, h⟩
theorem w_bmS {q : V → List V → Hp → VK → Prop} {z : Str} (h : tA σ H fun vs H2 => q (.str z) vs H2 Q) : bmQ K "str" q tA σ (.str z) H Q := ⟨rfl, h⟩
theorem w_tlist {p : Addr} {xs : List V} (e : SqL K H p xs) (h : ∀ l, H l = none → Q (.ref l) (upd H l (.lst xs))) : uList K [.ref p] H Q := ⟨xs, .inl e, h⟩
theorem w_for {wi : TI} {tb : TS} (h : wi σ H fun J H1 => forQ g tb D σ J H1) : tFor wi g tb D σ H := h
theorem f_range {tb : TS} {lo : Int} {n : Nat} (Pv : Nat → L2.St → Hp → Prop) (h0 : Pv 0 σ H)
    (hs : ∀ i σ H, i < n → Pv i σ H → g (.int (lo + i)) σ H fun σ2 H2 => tb { D with nx := Pv (i + 1), ct := Pv (i + 1), bk := D.nx } σ2 H2) (hd : ∀ σ H, Pv n σ H → D.nx σ H) : forQ g tb D σ (Itr lo n) H := for_range Pv h0 hs hd
theorem f_list {tb : TS} {a : Addr} {xs : List V} (Pv : Nat → L2.St → Hp → Prop) (h0 : Pv 0 σ H) (hl : ∀ i σ H, i ≤ xs.length → Pv i σ H → SqL K H a xs)
    (hs : ∀ i x σ H, xs[i]? = some x → Pv i σ H → g x σ H fun σ2 H2 => tb { D with nx := Pv (i + 1), ct := Pv (i + 1), bk := D.nx } σ2 H2) (hd : ∀ σ H, Pv xs.length σ H → D.nx σ H) : forQ g tb D σ (Itl K a) H := for_list Pv h0 hl hs hd
theorem w_rng1 {R : It → Hp → Prop} (h : tA σ H fun vs H1 => rng1Q vs H1 R) : iRng1 tA σ H R := h
theorem w_rng1v {R : It → Hp → Prop} {n : Int} (h1 : -(2 ^ 62) ≤ n) (h2 : n < 2 ^ 62) (h : R (Itr 0 n.toNat) H) : rng1Q [.int n] H R := ⟨n, rfl, h1, h2, h⟩
theorem w_rng2 {R : It → Hp → Prop} (h : tA σ H fun vs H1 => rng2Q vs H1 R) : iRng2 tA σ H R := h
theorem w_rng2v {R : It → Hp → Prop} {m n : Int} (h1 : -(2 ^ 62) ≤ m ∧ m < 2 ^ 62 ∧ -(2 ^ 62) ≤ n ∧ n < 2 ^ 62) (h : R (Itr m (n - m).toNat) H) : rng2Q [.int m, .int n] H R := ⟨m, n, rfl, h1, h⟩
theorem w_iList {R : It → Hp → Prop} (h : te σ H fun x H1 => listQ K x H1 R) : iList K te σ H R := h
theorem w_iListv {R : It → Hp → Prop} {p : Addr} {xs : List V} (e : SqL K H p xs) (h : R (Itl K p) H) : listQ K (.ref p) H R := ⟨p, rfl, ⟨xs, e⟩, h⟩
theorem w_iTup {R : It → Hp → Prop} (h : te σ H fun x H1 => tupQ K x H1 R) : iTup K te σ H R := h
theorem w_iTupv {R : It → Hp → Prop} {p : Addr} {xs : List V} (e : SqT K H p xs) (h : R (Itt K p) H) : tupQ K (.ref p) H R := ⟨p, rfl, ⟨xs, e⟩, h⟩
theorem w_iStr {R : It → Hp → Prop} (h : te σ H fun x H1 => strQ x H1 R) : iStr te σ H R := h
theorem w_iStrv {R : It → Hp → Prop} {z : Str} (h : R (Its z) H) : strQ (.str z) H R := ⟨z, rfl, h⟩
theorem w_iRev {R : It → Hp → Prop} (h : tA σ H fun vs H1 => revQ K vs H1 R) : iRev K tA σ H R := h
theorem w_iRevv {R : It → Hp → Prop} {p : Addr} {xs : List V} (e : SqL K H p xs) (h : R (Itv K p xs.length) H) : revQ K [.ref p] H R := ⟨p, xs, rfl, e, h⟩
theorem w_raise {C : Addr} (h : W (.ref C) none σ H) : uRaise C W D σ H := h
theorem w_fld {C : Addr} (h : te σ H fun x H1 => fldQ C f x H1 Q) : uFld C f te σ H Q := h
theorem w_meth {C : Addr} {m : Str} (h : te σ H fun x H1 => methQ C m sp W tA σ x H1 Q) : uMeth C m sp W te tA σ H Q := h
theorem w_setf {C : Addr} (h : tv σ H fun y H1 => te σ H1 fun x H2 => setfQ C f x y H2 (D.nx σ)) : uSetF C f te tv D σ H := h
theorem ifP {p A B : Prop} [Decidable p] (h1 : p → A) (h2 : ¬ p → B) : if decide p = true then A else B := by
  by_cases h : p
  · rw [if_pos (decide_eq_true h)]; exact h1 h
  · rw [if_neg (by rw [decide_eq_false h]; decide)]; exact h2 h
theorem ifN {p A B : Prop} [Decidable p] (h2 : ¬ p → A) (h1 : p → B) : if (!decide p) = true then A else B := by
  by_cases h : p
  · rw [if_neg (by rw [decide_eq_true h]; decide)]; exact h1 h
  · rw [if_pos (by rw [decide_eq_false h]; rfl)]; exact h2 h
theorem ifB {A B : Prop} (h1 : b = true → A) (h2 : b = false → B) : if b = true then A else B := by
  cases b
  · rw [if_neg Bool.false_ne_true]; exact h2 rfl
  · rw [if_pos rfl]; exact h1 rfl
theorem ifBN {A B : Prop} (h1 : b = false → A) (h2 : b = true → B) : if (!b) = true then A else B := by
  cases b
  · exact iteT (h1 rfl)
  · exact iteF (h2 rfl)
end steps
section data
variable {K : PySem.W.Frag} {H : Hp} {Q : VK} {α β : Type} [DecidableEq α] [PySem.W.Datum α] [DecidableEq β] [PySem.W.Datum β]
def Dt (K : PySem.W.Frag) (H : Hp) (v : V) (a : α) : Prop := Dp K H v (PySem.W.Datum.toD a)
def DtAll (K : PySem.W.Frag) (H : Hp) (vs : List V) (as : List α) : Prop := DpAll K H vs (as.map PySem.W.Datum.toD)
theorem Dt.int {i : Int} : Dt K H (.int i) i := Dp.int i
theorem Dt.bl {i : Bool} : Dt K H (.bl i) i := Dp.bl i
theorem Dt.str {i : Str} : Dt K H (.str i) i := Dp.str i
theorem Dt.list {p : Addr} {vs : List V} {as : List α} (e : SqL K H p vs) (h : DtAll K H vs as) : Dt K H (.ref p) as := Dp.lst e h
theorem Dt.tup {p : Addr} {vs : List V} {as : List α} (e : SqT K H p vs) (h : DtAll K H vs as) : Dt K H (.ref p) (PySem.W.Tup.mk as) := Dp.tup e h
theorem DtAll.nil : DtAll K H [] ([] : List α) := DpAll.nil
theorem DtAll.cons {v : V} {vs : List V} {a : α} {as : List α} (h : Dt K H v a) (hs : DtAll K H vs as) : DtAll K H (v :: vs) (a :: as) := DpAll.cons h hs
theorem DtAll.ints : ∀ (ns : List Int), DtAll K H (ns.map V.int) ns
  | [] => DpAll.nil
  | _ :: ns => DpAll.cons (Dp.int _) (DtAll.ints ns)
theorem DtAll.length : ∀ {vs : List V} {as : List α}, DtAll K H vs as → vs.length = as.length
  | [], [], _ => rfl
  | [], _ :: _, h => by cases h
  | _ :: _, [], h => by cases h
  | _ :: vs, _ :: as, h => by
    cases h with
    | cons h1 h2 => rw [List.length_cons, List.length_cons, DtAll.length h2]
mutual
theorem Dp.same {H' : Hp} (s : Same H H') : ∀ {d : PyData} {v : V}, Dp K H v d → Dp K H' v d
  | .none, _, h => by cases h; exact .non
  | .bool _, _, h => by cases h; exact .bl _
  | .int _, _, h => by cases h; exact .int _
  | .str _, _, h => by cases h; exact .str _
  | .list _, _, h => by
    cases h with
    | lst e a => exact .lst (s.seq e) (DpAll.same s a)
  | .tuple _, _, h => by
    cases h with
    | tup e a =>
      refine .tup ?_ (DpAll.same s a)
      rcases e with (e | ⟨o, e⟩) | e
      · exact .inl (.inl (s _ _ e))
      · exact .inl (.inr ⟨o, s _ _ e⟩)
      · exact .inr e
  | .dict _, _, h => by cases h
theorem DpAll.same {H' : Hp} (s : Same H H') : ∀ {ds : List PyData} {vs : List V}, DpAll K H vs ds → DpAll K H' vs ds
  | [], _, h => by cases h; exact .nil
  | _ :: _, _, h => by
    cases h with
    | cons h1 h2 => exact .cons (Dp.same s h1) (DpAll.same s h2)
end
theorem Dt.same {H' : Hp} (s : Same H H') {v : V} {a : α} (h : Dt K H v a) : Dt K H' v a := Dp.same s h
theorem DtAll.same {H' : Hp} (s : Same H H') {vs : List V} {as : List α} (h : DtAll K H vs as) : DtAll K H' vs as := DpAll.same s h
end data
section comps
variable {K : PySem.W.Frag} {σ : L2.St} {H1 : Hp} {Q : VK} {g : TG} {tt : TT} {te : TE} {vs : List Nat}
def lcQ (g : TG) (tt : TT) (te : TE) (vs : List Nat) (σ : L2.St) (J : It) (H1 : Hp) (Q : VK) : Prop := ∀ D, H1 D = none → ∃ W : Nat → Nat → Hp → Prop, (∃ m, W 0 m (upd H1 D (.lst []))) ∧ ∀ i m H, W i m H →
  (J.stop i H ∧ Q (.ref D) H) ∨ (J.go i H ∧ ∃ Nx : Hp → Prop, (∀ H', Nx H' → ∃ m', m' < m ∧ W (i + 1) m' H') ∧ ∀ x H', J.yld i H x H' → g x (wipe σ vs) H' fun σ2 H2 => wipe σ2 vs = wipe σ vs ∧ tt σ2 H2 fun b H3 =>
    if b = true then te σ2 H3 fun y H4 => ∃ acc, H4 D = some (.lst acc) ∧ acc.length < sizeLine ∧ Nx (upd H4 D (.lst (acc ++ [y]))) else Nx H3)
theorem w_lc {wi : TI} (h : wi σ H1 fun J H2 => lcQ g tt te vs σ J H2 Q) : tLc wi g tt te vs σ H1 Q := h
theorem w_yes {QB : Bool → Hp → Prop} (h : QB true H1) : tYes σ H1 QB := h
/-- what a turn of a comprehension wants: the new item, put behind the list at D -/
def putQ (D : Addr) (N : Hp → Prop) (y : V) (H4 : Hp) : Prop := ∃ acc, H4 D = some (.lst acc) ∧ acc.length < sizeLine ∧ N (upd H4 D (.lst (acc ++ [y])))
/-- a comprehension over anything that yields by its place, P the heap between the turns -/
theorem l_any {J : It} {n : Nat} {item : Nat → V → Prop} (P : Addr → Nat → Hp → Prop) (h0 : ∀ D, H1 D = none → P D 0 (upd H1 D (.lst [])))
    (hgo : ∀ D i H, H1 D = none → i < n → P D i H → J.go i H ∧ ∀ x H', J.yld i H x H' → H' = H ∧ item i x) (hst : ∀ D H, H1 D = none → P D n H → J.stop n H)
    (hs : ∀ D i x H, H1 D = none → i < n → item i x → P D i H → g x (wipe σ vs) H fun σ2 H2 => wipe σ2 vs = wipe σ vs ∧ tt σ2 H2 fun b H3 => if b = true then te σ2 H3 (putQ D (P D (i + 1))) else P D (i + 1) H3)
    (hd : ∀ D H, H1 D = none → P D n H → Q (.ref D) H) : lcQ g tt te vs σ J H1 Q := by
  intro D hD
  refine ⟨fun i m H => m = n - i ∧ i ≤ n ∧ P D i H, ⟨n, by simp, Nat.zero_le _, h0 D hD⟩, fun i m H q => ?_⟩
  obtain ⟨rfl, hi, p⟩ := q
  rcases Nat.lt_or_ge i n with hl | hl
  · obtain ⟨a, b⟩ := hgo D i H hD hl p
    refine .inr ⟨a, P D (i + 1), fun H' p' => ⟨n - (i + 1), by omega, rfl, hl, p'⟩, fun x H' y => ?_⟩
    obtain ⟨rfl, c⟩ := b x H' y
    exact hs D i x _ hD hl c p
  · obtain rfl : i = n := Nat.le_antisymm hi hl
    exact .inl ⟨hst D H hD p, hd D H hD p⟩
theorem l_range {lo : Int} {n : Nat} (P : Addr → Nat → Hp → Prop) (h0 : ∀ D, H1 D = none → P D 0 (upd H1 D (.lst [])))
    (hs : ∀ D i H, H1 D = none → i < n → P D i H → g (.int (lo + (i : Nat))) (wipe σ vs) H fun σ2 H2 => wipe σ2 vs = wipe σ vs ∧ tt σ2 H2 fun b H3 => if b = true then te σ2 H3 (putQ D (P D (i + 1))) else P D (i + 1) H3)
    (hd : ∀ D H, H1 D = none → P D n H → Q (.ref D) H) : lcQ g tt te vs σ (Itr lo n) H1 Q :=
  l_any (n := n) (item := fun i x => x = .int (lo + (i : Nat))) P h0 (fun _ i _ _ h _ => ⟨h, fun _ _ y => y⟩) (fun _ _ _ _ => Nat.le_refl _) (fun D i x H a b c p => by rw [c]; exact hs D i H a b p) hd
/-- each turn makes the item f i, and no object -/
theorem l_rangeP {lo : Int} {n : Nat} (f : Nat → V) (hn : n ≤ 100000)
    (hs : ∀ D i H N, H1 D = none → i < n → (∀ b o, H1 b = some o → H b = some o) → N (f i) H → g (.int (lo + (i : Nat))) (wipe σ vs) H fun σ2 H2 => wipe σ2 vs = wipe σ vs ∧ tt σ2 H2 fun b H3 => b = true ∧ te σ2 H3 N)
    (hd : ∀ D, H1 D = none → Q (.ref D) (upd H1 D (.lst ((List.range n).map f)))) (mg : ∀ x σ H P P', (∀ a b, P a b → P' a b) → g x σ H P → g x σ H P') (mt : ∀ σ H P P', (∀ a b, P a b → P' a b) → tt σ H P → tt σ H P') : lcQ g tt te vs σ (Itr lo n) H1 Q := by
  refine l_range (fun D i H => H = upd H1 D (.lst ((List.range i).map f))) (fun D _ => rfl) (fun D i H hD hi p => ?_) (fun D H hD p => by rw [p]; exact hd D hD)
  subst p
  refine mg _ _ _ _ _ (fun σ2 H2 q => ⟨q.1, mt _ _ _ _ (fun b H3 q3 => ?_) q.2⟩) (hs D i _ (putQ D fun H => H = upd H1 D (.lst ((List.range (i + 1)).map f))) hD hi (fun b o h => by rw [upd_ne (ne_of_none h hD)]; exact h) ⟨_, upd_same, by rw [List.length_map, List.length_range]; exact Nat.lt_of_lt_of_le (Nat.lt_of_lt_of_le hi hn) (by decide), by rw [upd_upd, List.range_succ, List.map_append]; rfl⟩)
  obtain ⟨rfl, q3⟩ := q3
  exact iteT q3
end comps
section heaps
variable {K : PySem.W.Frag} {H H' : Hp} {p q : Addr} {o u : HO} {xs : List V}
theorem upd_old (h : H q = some u) (n : H p = none) : upd H p o q = some u := by rw [upd_ne (ne_of_none h n)]; exact h
theorem none_of_upd (h : upd H p o q = none) : H q = none ∧ q ≠ p := by
  unfold upd at h
  split at h
  · cases h
  · exact ⟨h, by assumption⟩
theorem rd_old (h : Rd H q u) (n : H p = none) : Rd (upd H p o) q u := by
  rcases h with h | ⟨o', h⟩
  · exact .inl (upd_old h n)
  · exact .inr ⟨o', upd_old h n⟩
theorem sql_old (h : SqL K H q xs) (n : H p = none) : SqL K (upd H p o) q xs := h.imp (fun h => rd_old h n) id
theorem sqt_old (h : SqT K H q xs) (n : H p = none) : SqT K (upd H p o) q xs := h.imp (fun h => rd_old h n) id
theorem same_new (n : H p = none) : Same H (upd H p o) := fun b w h => upd_old h n
theorem same_upd {H1 : Hp} (s : Same H H1) (n : H p = none) : Same H (upd H1 p o) := fun b w h => by rw [upd_ne (ne_of_none h n)]; exact s b w h
theorem same_updN {H1 : Hp} (s : Same H H1) (n : H1 p = none) : Same H (upd H1 p o) := fun b w h => upd_old (s b w h) n
theorem Same.sqt (e : Same H H') (h : SqT K H q xs) : SqT K H' q xs := by
  rcases h with (h | ⟨o, h⟩) | h
  · exact .inl (.inl (e _ _ h))
  · exact .inl (.inr ⟨o, e _ _ h⟩)
  · exact .inr h
end heaps
end U
namespace Lam
open PySem PySem.Spec L2 U
local macro_rules | `(tactic| walk_at "x") => `(tactic| fail "no step")
local macro_rules | `(tactic| walk_at "hk") => `(tactic| first
  | assumption | exact upd_same | exact SqL.of upd_same | exact SqT.of upd_same
  | (apply sql_old; (· walk_at "hk"); (· assumption)) | (apply upd_old; (· walk_at "hk"); (· assumption)) | (apply sqt_old; (· walk_at "hk"); (· assumption))
  | exact L2.Same.seq (by assumption) (by assumption) | exact U.Same.sqt (by assumption) (by assumption) | exact (by assumption : L2.Same _ _) _ _ (by assumption)
  | (apply SqL.of; walk_at "hk") | (apply SqT.of; walk_at "hk"))
local macro_rules | `(tactic| walk_at "nn") => `(tactic| first | assumption | exact L2.Same.free (by assumption) (by assumption) | exact (none_of_upd (by assumption)).1)
local macro_rules | `(tactic| walk_at "sm") => `(tactic| first | assumption | exact L2.Same.refl _ | (apply same_updN; (· walk_at "sm"); (· assumption)) | (apply same_upd; (· walk_at "sm"); (· walk_at "nn")) | exact L2.Same.trans (by assumption) (by assumption))
local macro_rules | `(tactic| walk_at "s") => `(tactic| first
    | with_reducible refine w_seq ?_
    | with_reducible refine w_op ?_
    | with_reducible refine w_asg ?_
    | with_reducible refine w_name ?_
    | with_reducible refine w_c ?_
    | with_reducible refine w_if ?_
    | with_reducible refine w_test ?_
    | with_reducible refine w_bl ?_
    | with_reducible refine w_cons ?_
    | with_reducible refine w_nil ?_
    | with_reducible refine w_ret ?_
    | with_reducible refine w_call ?_
    | ((with_reducible refine' w_var ?e ?_); (case e => rfl))
    | with_reducible refine iteT ?_
    | with_reducible refine iteF ?_
    | with_reducible refine ifNT ?_
    | with_reducible refine ifNF ?_
    | ((with_reducible refine ifP ?_ ?_) <;> intro h <;> first | (with_reducible exact absurd rfl h) | skip)
    | ((with_reducible refine ifN ?_ ?_) <;> intro h <;> first | (with_reducible exact absurd rfl h) | skip)
    | with_reducible refine w_add ?_
    | with_reducible refine w_sub ?_
    | with_reducible refine w_eqI ?_
    | with_reducible refine w_neI ?_
    | with_reducible refine w_lt ?_
    | with_reducible refine w_le ?_
    | with_reducible refine w_gt ?_
    | with_reducible refine w_ge ?_
    | with_reducible refine w_eqS ?_
    | with_reducible refine w_eqB ?_
    | with_reducible refine w_neS ?_
    | with_reducible refine w_neB ?_
    | with_reducible refine w_cb ?_
    | with_reducible refine w_tup ?_
    | with_reducible refine w_lst ?_
    | with_reducible refine w_next ?_
    | with_reducible refine w_drop ?_
    | with_reducible refine w_not ?_
    | with_reducible refine w_tru ?_
    | with_reducible refine w_and ?_
    | with_reducible refine w_or ?_
    | with_reducible refine w_andV ?_
    | with_reducible refine w_orV ?_
    | with_reducible refine w_notV ?_
    | with_reducible refine w_ifE ?_
    | with_reducible refine w_chain ?_
    | with_reducible refine w_blP ?_
    | with_reducible refine w_retN ?_
    | with_reducible refine w_bm ?_
    | with_reducible refine w_raise ?_
    | with_reducible refine w_fld ?_
    | with_reducible refine w_meth ?_
    | with_reducible refine w_setf ?_
    | with_reducible refine w_for ?_
    | with_reducible refine w_rng1 ?_
    | with_reducible refine w_rng2 ?_
    | with_reducible refine w_iList ?_
    | with_reducible refine w_iTup ?_
    | with_reducible refine w_iStr ?_
    | with_reducible refine w_iRev ?_
    | with_reducible refine w_brk ?_
    | with_reducible refine w_cont ?_
    | with_reducible refine w_un ?_
    | with_reducible refine w_lc ?_
    | with_reducible refine w_yes ?_
    | with_reducible refine w_gsub ?_
    | ((with_reducible refine' w_aug ?e ?_); (case e => rfl))
    | ((with_reducible refine w_mul ?s ?_); (case s => first | exact Or.inr ⟨by omega, by omega⟩ | exact Or.inl ⟨by omega, by omega⟩))
    | ((with_reducible refine w_div ?s ?_); (case s => omega))
    | ((with_reducible refine w_mod ?s ?_); (case s => omega))
    | ((with_reducible refine w_pow ?s ?_); (case s => exact ⟨by decide, by decide, by decide⟩))
    | ((with_reducible refine w_newL ?s ?_); (case s => (first | exact (by decide) | (simp only [List.length_cons, List.length_nil]; omega))); intro _ _)
    | ((with_reducible refine w_newT ?s ?_); (case s => (first | exact (by decide) | (simp only [List.length_cons, List.length_nil]; omega))); intro _ _)
    | with_reducible refine w_max ?_
    | with_reducible refine w_min ?_
    | with_reducible refine w_abs ?_
    | with_reducible refine w_intI ?_
    | with_reducible refine w_intB ?_
    | with_reducible refine w_ipI ?_
    | with_reducible refine w_bmS ?_
    | with_reducible refine w_iStrv ?_
    | with_reducible refine w_neg ?_
    | with_reducible refine w_truB ?_
    | with_reducible refine w_truN ?_
    | with_reducible refine w_truI ?_
    | with_reducible refine w_isi_int_int ?_
    | with_reducible refine w_isi_int_bl ?_
    | with_reducible refine w_isi_int_str ?_
    | with_reducible refine w_isi_int_non ?_
    | with_reducible refine w_isi_bool_int ?_
    | with_reducible refine w_isi_bool_bl ?_
    | with_reducible refine w_isi_bool_str ?_
    | with_reducible refine w_isi_bool_non ?_
    | with_reducible refine w_isi_str_int ?_
    | with_reducible refine w_isi_str_bl ?_
    | with_reducible refine w_isi_str_str ?_
    | with_reducible refine w_isi_str_non ?_
    | with_reducible refine w_isi_list_int ?_
    | with_reducible refine w_isi_list_bl ?_
    | with_reducible refine w_isi_list_str ?_
    | with_reducible refine w_isi_list_non ?_
    | with_reducible refine w_isi_tuple_int ?_
    | with_reducible refine w_isi_tuple_bl ?_
    | with_reducible refine w_isi_tuple_str ?_
    | with_reducible refine w_isi_tuple_non ?_
    | with_reducible refine w_is_int ?_
    | with_reducible refine w_isnt_int ?_
    | with_reducible refine w_is_bl ?_
    | with_reducible refine w_isnt_bl ?_
    | with_reducible refine w_is_str ?_
    | with_reducible refine w_isnt_str ?_
    | with_reducible refine w_is_non ?_
    | with_reducible refine w_isnt_non ?_
    | with_reducible refine w_is_ref ?_
    | with_reducible refine w_isnt_ref ?_
    | ((with_reducible apply w_lenL); (· walk_at "hk"))
    | ((with_reducible apply w_lenT); (· walk_at "hk"))
    | ((with_reducible apply w_bmL); (· walk_at "hk"))
    | ((with_reducible refine w_rng1v ?h1 ?h2 ?_); (case h1 => (first | omega | (simp only [List.length_map] at *; omega))); (case h2 => (first | omega | (simp only [List.length_map] at *; omega))))
    | ((with_reducible refine w_rng2v ?h1 ?_); (case h1 => (first | omega | (simp only [List.length_map] at *; omega))))
    | ((with_reducible apply w_ixI); (· walk_at "hk"); (· (first | omega | (simp only [List.length_map] at *; omega))))
    | ((with_reducible apply w_ixTI); (· walk_at "hk"); (· (first | omega | (simp only [List.length_map] at *; omega))))
    | ((with_reducible apply w_appI); (· walk_at "hk"); (· (first | omega | (simp only [List.length_append, List.length_cons, List.length_nil]; omega))))
    | ((with_reducible apply w_iListv); (· walk_at "hk"))
    | ((with_reducible apply w_iTupv); (· walk_at "hk"))
    | ((with_reducible apply w_iRevv); (· walk_at "hk"))
    | walk_at "x")
local macro_rules | `(tactic| walk_at "run1") => `(tactic| repeat (first
    | with_reducible refine w_seq ?_
    | with_reducible refine w_op ?_
    | with_reducible refine w_asg ?_
    | with_reducible refine w_name ?_
    | with_reducible refine w_c ?_
    | with_reducible refine w_if ?_
    | with_reducible refine w_test ?_
    | with_reducible refine w_bl ?_
    | with_reducible refine w_cons ?_
    | with_reducible refine w_nil ?_
    | with_reducible refine w_ret ?_
    | with_reducible refine w_call ?_
    | ((with_reducible refine' w_var ?e ?_); (case e => rfl))
    | with_reducible refine iteT ?_
    | with_reducible refine iteF ?_
    | with_reducible refine ifNT ?_
    | with_reducible refine ifNF ?_
    | ((with_reducible refine ifP ?_ ?_) <;> intro h <;> first | (with_reducible exact absurd rfl h) | skip)
    | ((with_reducible refine ifN ?_ ?_) <;> intro h <;> first | (with_reducible exact absurd rfl h) | skip)
    | with_reducible refine w_add ?_
    | with_reducible refine w_sub ?_
    | with_reducible refine w_eqI ?_
    | with_reducible refine w_neI ?_
    | with_reducible refine w_lt ?_
    | with_reducible refine w_le ?_
    | with_reducible refine w_gt ?_
    | with_reducible refine w_ge ?_
    | with_reducible refine w_eqS ?_
    | with_reducible refine w_eqB ?_
    | with_reducible refine w_neS ?_
    | with_reducible refine w_neB ?_
    | with_reducible refine w_cb ?_
    | with_reducible refine w_tup ?_
    | with_reducible refine w_lst ?_
    | with_reducible refine w_next ?_
    | with_reducible refine w_drop ?_
    | with_reducible refine w_not ?_
    | with_reducible refine w_tru ?_
    | with_reducible refine w_and ?_
    | with_reducible refine w_or ?_
    | with_reducible refine w_andV ?_
    | with_reducible refine w_orV ?_
    | with_reducible refine w_notV ?_
    | with_reducible refine w_ifE ?_
    | with_reducible refine w_chain ?_
    | with_reducible refine w_blP ?_
    | with_reducible refine w_retN ?_
    | with_reducible refine w_bm ?_
    | with_reducible refine w_raise ?_
    | with_reducible refine w_fld ?_
    | with_reducible refine w_meth ?_
    | with_reducible refine w_setf ?_
    | with_reducible refine w_for ?_
    | with_reducible refine w_rng1 ?_
    | with_reducible refine w_rng2 ?_
    | with_reducible refine w_iList ?_
    | with_reducible refine w_iTup ?_
    | with_reducible refine w_iStr ?_
    | with_reducible refine w_iRev ?_
    | with_reducible refine w_brk ?_
    | with_reducible refine w_cont ?_
    | with_reducible refine w_un ?_
    | with_reducible refine w_lc ?_
    | with_reducible refine w_yes ?_
    | with_reducible refine w_gsub ?_
    | ((with_reducible refine' w_aug ?e ?_); (case e => rfl))
    | ((with_reducible refine w_mul ?s ?_); (case s => first | exact Or.inr ⟨by omega, by omega⟩ | exact Or.inl ⟨by omega, by omega⟩))
    | ((with_reducible refine w_div ?s ?_); (case s => omega))
    | ((with_reducible refine w_mod ?s ?_); (case s => omega))
    | ((with_reducible refine w_pow ?s ?_); (case s => exact ⟨by decide, by decide, by decide⟩))
    | ((with_reducible refine w_newL ?s ?_); (case s => (first | exact (by decide) | (simp only [List.length_cons, List.length_nil]; omega))); intro _ _)
    | ((with_reducible refine w_newT ?s ?_); (case s => (first | exact (by decide) | (simp only [List.length_cons, List.length_nil]; omega))); intro _ _)
    | with_reducible refine w_max ?_
    | with_reducible refine w_min ?_
    | with_reducible refine w_abs ?_
    | with_reducible refine w_intI ?_
    | with_reducible refine w_intB ?_
    | with_reducible refine w_ipI ?_
    | with_reducible refine w_bmS ?_
    | with_reducible refine w_iStrv ?_
    | with_reducible refine w_neg ?_
    | with_reducible refine w_truB ?_
    | with_reducible refine w_truN ?_
    | with_reducible refine w_truI ?_
    | with_reducible refine w_isi_int_int ?_
    | with_reducible refine w_isi_int_bl ?_
    | with_reducible refine w_isi_int_str ?_
    | with_reducible refine w_isi_int_non ?_
    | with_reducible refine w_isi_bool_int ?_
    | with_reducible refine w_isi_bool_bl ?_
    | with_reducible refine w_isi_bool_str ?_
    | with_reducible refine w_isi_bool_non ?_
    | with_reducible refine w_isi_str_int ?_
    | with_reducible refine w_isi_str_bl ?_
    | with_reducible refine w_isi_str_str ?_
    | with_reducible refine w_isi_str_non ?_
    | with_reducible refine w_isi_list_int ?_
    | with_reducible refine w_isi_list_bl ?_
    | with_reducible refine w_isi_list_str ?_
    | with_reducible refine w_isi_list_non ?_
    | with_reducible refine w_isi_tuple_int ?_
    | with_reducible refine w_isi_tuple_bl ?_
    | with_reducible refine w_isi_tuple_str ?_
    | with_reducible refine w_isi_tuple_non ?_
    | with_reducible refine w_is_int ?_
    | with_reducible refine w_isnt_int ?_
    | with_reducible refine w_is_bl ?_
    | with_reducible refine w_isnt_bl ?_
    | with_reducible refine w_is_str ?_
    | with_reducible refine w_isnt_str ?_
    | with_reducible refine w_is_non ?_
    | with_reducible refine w_isnt_non ?_
    | with_reducible refine w_is_ref ?_
    | with_reducible refine w_isnt_ref ?_
    | ((with_reducible apply w_lenL); (· walk_at "hk"))
    | ((with_reducible apply w_lenT); (· walk_at "hk"))
    | ((with_reducible apply w_bmL); (· walk_at "hk"))
    | ((with_reducible refine w_rng1v ?h1 ?h2 ?_); (case h1 => (first | omega | (simp only [List.length_map] at *; omega))); (case h2 => (first | omega | (simp only [List.length_map] at *; omega))))
    | ((with_reducible refine w_rng2v ?h1 ?_); (case h1 => (first | omega | (simp only [List.length_map] at *; omega))))
    | ((with_reducible apply w_ixI); (· walk_at "hk"); (· (first | omega | (simp only [List.length_map] at *; omega))))
    | ((with_reducible apply w_ixTI); (· walk_at "hk"); (· (first | omega | (simp only [List.length_map] at *; omega))))
    | ((with_reducible apply w_appI); (· walk_at "hk"); (· (first | omega | (simp only [List.length_append, List.length_cons, List.length_nil]; omega))))
    | ((with_reducible apply w_iListv); (· walk_at "hk"))
    | ((with_reducible apply w_iTupv); (· walk_at "hk"))
    | ((with_reducible apply w_iRevv); (· walk_at "hk"))
    | walk_at "x"))
local macro_rules | `(tactic| walk_at "run") => `(tactic| repeat' (first
    | with_reducible refine w_seq ?_
    | with_reducible refine w_op ?_
    | with_reducible refine w_asg ?_
    | with_reducible refine w_name ?_
    | with_reducible refine w_c ?_
    | with_reducible refine w_if ?_
    | with_reducible refine w_test ?_
    | with_reducible refine w_bl ?_
    | with_reducible refine w_cons ?_
    | with_reducible refine w_nil ?_
    | with_reducible refine w_ret ?_
    | with_reducible refine w_call ?_
    | ((with_reducible refine' w_var ?e ?_); (case e => rfl))
    | with_reducible refine iteT ?_
    | with_reducible refine iteF ?_
    | with_reducible refine ifNT ?_
    | with_reducible refine ifNF ?_
    | ((with_reducible refine ifP ?_ ?_) <;> intro h <;> first | (with_reducible exact absurd rfl h) | skip)
    | ((with_reducible refine ifN ?_ ?_) <;> intro h <;> first | (with_reducible exact absurd rfl h) | skip)
    | with_reducible refine w_add ?_
    | with_reducible refine w_sub ?_
    | with_reducible refine w_eqI ?_
    | with_reducible refine w_neI ?_
    | with_reducible refine w_lt ?_
    | with_reducible refine w_le ?_
    | with_reducible refine w_gt ?_
    | with_reducible refine w_ge ?_
    | with_reducible refine w_eqS ?_
    | with_reducible refine w_eqB ?_
    | with_reducible refine w_neS ?_
    | with_reducible refine w_neB ?_
    | with_reducible refine w_cb ?_
    | with_reducible refine w_tup ?_
    | with_reducible refine w_lst ?_
    | with_reducible refine w_next ?_
    | with_reducible refine w_drop ?_
    | with_reducible refine w_not ?_
    | with_reducible refine w_tru ?_
    | with_reducible refine w_and ?_
    | with_reducible refine w_or ?_
    | with_reducible refine w_andV ?_
    | with_reducible refine w_orV ?_
    | with_reducible refine w_notV ?_
    | with_reducible refine w_ifE ?_
    | with_reducible refine w_chain ?_
    | with_reducible refine w_blP ?_
    | with_reducible refine w_retN ?_
    | with_reducible refine w_bm ?_
    | with_reducible refine w_raise ?_
    | with_reducible refine w_fld ?_
    | with_reducible refine w_meth ?_
    | with_reducible refine w_setf ?_
    | with_reducible refine w_for ?_
    | with_reducible refine w_rng1 ?_
    | with_reducible refine w_rng2 ?_
    | with_reducible refine w_iList ?_
    | with_reducible refine w_iTup ?_
    | with_reducible refine w_iStr ?_
    | with_reducible refine w_iRev ?_
    | with_reducible refine w_brk ?_
    | with_reducible refine w_cont ?_
    | with_reducible refine w_un ?_
    | with_reducible refine w_lc ?_
    | with_reducible refine w_yes ?_
    | with_reducible refine w_gsub ?_
    | ((with_reducible refine' w_aug ?e ?_); (case e => rfl))
    | ((with_reducible refine w_mul ?s ?_); (case s => first | exact Or.inr ⟨by omega, by omega⟩ | exact Or.inl ⟨by omega, by omega⟩))
    | ((with_reducible refine w_div ?s ?_); (case s => omega))
    | ((with_reducible refine w_mod ?s ?_); (case s => omega))
    | ((with_reducible refine w_pow ?s ?_); (case s => exact ⟨by decide, by decide, by decide⟩))
    | ((with_reducible refine w_newL ?s ?_); (case s => (first | exact (by decide) | (simp only [List.length_cons, List.length_nil]; omega))); intro _ _)
    | ((with_reducible refine w_newT ?s ?_); (case s => (first | exact (by decide) | (simp only [List.length_cons, List.length_nil]; omega))); intro _ _)
    | with_reducible refine w_max ?_
    | with_reducible refine w_min ?_
    | with_reducible refine w_abs ?_
    | with_reducible refine w_intI ?_
    | with_reducible refine w_intB ?_
    | with_reducible refine w_ipI ?_
    | with_reducible refine w_bmS ?_
    | with_reducible refine w_iStrv ?_
    | with_reducible refine w_neg ?_
    | with_reducible refine w_truB ?_
    | with_reducible refine w_truN ?_
    | with_reducible refine w_truI ?_
    | with_reducible refine w_isi_int_int ?_
    | with_reducible refine w_isi_int_bl ?_
    | with_reducible refine w_isi_int_str ?_
    | with_reducible refine w_isi_int_non ?_
    | with_reducible refine w_isi_bool_int ?_
    | with_reducible refine w_isi_bool_bl ?_
    | with_reducible refine w_isi_bool_str ?_
    | with_reducible refine w_isi_bool_non ?_
    | with_reducible refine w_isi_str_int ?_
    | with_reducible refine w_isi_str_bl ?_
    | with_reducible refine w_isi_str_str ?_
    | with_reducible refine w_isi_str_non ?_
    | with_reducible refine w_isi_list_int ?_
    | with_reducible refine w_isi_list_bl ?_
    | with_reducible refine w_isi_list_str ?_
    | with_reducible refine w_isi_list_non ?_
    | with_reducible refine w_isi_tuple_int ?_
    | with_reducible refine w_isi_tuple_bl ?_
    | with_reducible refine w_isi_tuple_str ?_
    | with_reducible refine w_isi_tuple_non ?_
    | with_reducible refine w_is_int ?_
    | with_reducible refine w_isnt_int ?_
    | with_reducible refine w_is_bl ?_
    | with_reducible refine w_isnt_bl ?_
    | with_reducible refine w_is_str ?_
    | with_reducible refine w_isnt_str ?_
    | with_reducible refine w_is_non ?_
    | with_reducible refine w_isnt_non ?_
    | with_reducible refine w_is_ref ?_
    | with_reducible refine w_isnt_ref ?_
    | ((with_reducible apply w_lenL); (· walk_at "hk"))
    | ((with_reducible apply w_lenT); (· walk_at "hk"))
    | ((with_reducible apply w_bmL); (· walk_at "hk"))
    | ((with_reducible refine w_rng1v ?h1 ?h2 ?_); (case h1 => (first | omega | (simp only [List.length_map] at *; omega))); (case h2 => (first | omega | (simp only [List.length_map] at *; omega))))
    | ((with_reducible refine w_rng2v ?h1 ?_); (case h1 => (first | omega | (simp only [List.length_map] at *; omega))))
    | ((with_reducible apply w_ixI); (· walk_at "hk"); (· (first | omega | (simp only [List.length_map] at *; omega))))
    | ((with_reducible apply w_ixTI); (· walk_at "hk"); (· (first | omega | (simp only [List.length_map] at *; omega))))
    | ((with_reducible apply w_appI); (· walk_at "hk"); (· (first | omega | (simp only [List.length_append, List.length_cons, List.length_nil]; omega))))
    | ((with_reducible apply w_iListv); (· walk_at "hk"))
    | ((with_reducible apply w_iTupv); (· walk_at "hk"))
    | ((with_reducible apply w_iRevv); (· walk_at "hk"))
    | walk_at "x"))
/-- the addresses that the readings speak of -/
structure Ex where
  (LaminaError NotValid PowerOff NoProcess BadHandle NoVolume ReadOnly BadName Missing WrongKind Exists LoopFound CrossVolume Busy NotEmpty TooMany TooLong OverQuota NoSpace BadImage : Addr := 0)
  (Disk Head Space Store OpenFiles Handles Processes Log Accounts Session System : Addr := 0)
  (POINTER_KINDS MODES : Addr := 0)
def S1 (f : V → Hp → VK → XK → Prop) : Sp := fun vs H Q E => ∃ a, vs = [a] ∧ f a H Q E
def S2 (f : V → V → Hp → VK → XK → Prop) : Sp := fun vs H Q E => ∃ a b, vs = [a, b] ∧ f a b H Q E
section
variable {vs : List V} {H : Hp} {Q : VK} {E : XK} {a b c d e : V}
theorem len1 {f} (h : S1 f vs H Q E) : vs.length = 1 := by obtain ⟨_, rfl, _⟩ := h; rfl
theorem len2 {f} (h : S2 f vs H Q E) : vs.length = 2 := by obtain ⟨_, _, rfl, _⟩ := h; rfl
theorem w_S1 {f} (h : f a H Q E) : S1 f [a] H Q E := ⟨a, rfl, h⟩
theorem w_S2 {f} (h : f a b H Q E) : S2 f [a, b] H Q E := ⟨a, b, rfl, h⟩
end
/-- what isinstance may ask: a scalar, or an object that is a list, a tuple, a dict -/
def Known (K : PySem.W.Frag) (H : Hp) : V → Prop
  | .ref a => ∃ o : Ob, TyX K H (.ref a) (.type o.nm)
  | .byt _ => False
  | .flt _ => False
  | .ty _ => False
  | _ => True
abbrev spLaw (K : PySem.W.Frag) : Sp := S1 fun a H Q _ => ∃ (p : Addr) (ns : List Int), a = .ref p ∧ SqL K H p (ns.map V.int) ∧ ns.length ≤ 63 ∧ ∀ H', Q (.bl true) H'
theorem int_at {ns : List Int} {i : Nat} (h : i < ns.length) : (ns.map V.int)[i]? = some (.int (ns.getD i 0)) := by
  rw [List.getElem?_map, List.getElem?_eq_getElem h, List.getD_eq_getElem?_getD, List.getElem?_eq_getElem h]
  rfl
theorem tyx_list {K : PySem.W.Frag} {H : Hp} {p : Addr} {xs : List V} (h : SqL K H p xs) : TyX K H (.ref p) (.type U.Ob.list.nm) := by
  rcases h with (h | ⟨o, h⟩) | ⟨o, its, n, e, c, _⟩
  · exact .base (.lst h)
  · exact .base (.frz h)
  · exact .kList e c
theorem tyx_tup {K : PySem.W.Frag} {H : Hp} {p : Addr} {xs : List V} (h : SqT K H p xs) : TyX K H (.ref p) (.type U.Ob.tuple.nm) := by
  rcases h with (h | ⟨o, h⟩) | ⟨o, its, n, e, c, _⟩
  · exact .base (.tup h)
  · exact .fTuple h
  · exact .kTuple e c
theorem w_isiO {K : PySem.W.Frag} {H : Hp} {Q : VK} {p : Addr} {n : Ty} (o : U.Ob) (t : TyX K H (.ref p) (.type o.nm)) (h : Q (.bl (isO n o)) H) : uIsi K n [.ref p, .ty n.nm] H Q := ⟨rfl, o, t, h⟩
theorem w_isi_list_L {K : PySem.W.Frag} {H : Hp} {Q : VK} {p : Addr} {xs : List V} (e : SqL K H p xs) (h : Q (.bl true) H) : uIsi K .list [.ref p, .ty "list"] H Q := ⟨rfl, .list, tyx_list e, h⟩
/-- a value that is known not to be a list -/
def NoList (K : PySem.W.Frag) (H : Hp) : V → Prop
  | .ref a => ∃ o : U.Ob, o ≠ .list ∧ TyX K H (.ref a) (.type o.nm)
  | .byt _ => False
  | .flt _ => False
  | .ty _ => False
  | _ => True
theorem all_take {α : Type} {p : α → Bool} {xs : List α} {i : Nat} {x : α} (h : xs[i]? = some x) (ha : (xs.take i).all p = true) (hx : p x = true) : (xs.take (i + 1)).all p = true := by
  have hb := (List.getElem?_eq_some_iff.mp h)
  obtain ⟨hl, he⟩ := hb
  rw [List.take_succ_eq_append_getElem hl, List.all_append, ha, he]
  simp [hx]
theorem all_not {α : Type} {p : α → Bool} {xs : List α} {i : Nat} {x : α} (h : xs[i]? = some x) (hx : p x = false) : xs.all p = false := by
  rw [List.all_eq_false]
  exact ⟨x, List.mem_of_getElem? h, by simp [hx]⟩
def isWord : V → Bool
  | .int i => decide (0 ≤ i)
  | _ => false
def sp_is_word (K : PySem.W.Frag) (_ : Ex) : Sp := S1 fun a H Q _ => Known K H a ∧ Q (.bl (isWord a)) H
def t_is_word (K : PySem.W.Frag) (C : Ex) (E : XK) : TS :=
  tSeq (tIfS (tOr (tNot (uTru K (tCB (uIsi K .int) (tCons (tVar 0) (tCons (tC (.ty "int")) (tNil)))))) (uTru K (tCB (uIsi K .bool) (tCons (tVar 0) (tCons (tC (.ty "bool")) (tNil)))))) (tRet (tC (.bl false))) (tNext))
  (tRet (tOp (uGe K) (tVar 0) (tC (.int 0))))
theorem pure_is_word {K : PySem.W.Frag} {C : Ex} {vs : List V} {H : Hp} {Q : VK} {E : XK} (h : sp_is_word K C vs H Q E) : t_is_word K C E { nx := fun _ H' => Q .non H', rt := Q } (start ["value"] vs) H := by
  obtain ⟨a, rfl, hk, k⟩ := h
  unfold t_is_word
  cases a with
  | non => walk_at "run"; exact k
  | bl b => walk_at "run"; exact k
  | int i => walk_at "run"; exact k
  | str z => walk_at "run"; exact k
  | ref p =>
    obtain ⟨o, ho⟩ := hk
    walk_at "run1"
    refine ⟨rfl, o, ho, ?_⟩
    cases o <;> (walk_at "run"; exact k)
  | _ => exact hk.elim
def sp_are_words (K : PySem.W.Frag) (_ : Ex) : Sp := S2 fun a b H Q _ => ∃ m : Int, b = .int m ∧
  ((∃ p xs, a = .ref p ∧ SqL K H p xs ∧ (∀ x ∈ xs, Known K H x) ∧ Q (.bl (decide ((xs.length : Int) = m) && xs.all isWord)) H) ∨ (NoList K H a ∧ Q (.bl false) H))
def t_are_words (K : PySem.W.Frag) (C : Ex) (E : XK) : TS :=
  tSeq (tIfS (tOr (tNot (uTru K (tCB (uIsi K .list) (tCons (tVar 0) (tCons (tC (.ty "list")) (tNil)))))) (tTest (tOp (uNe K) (tCB (uLen K) (tCons (tVar 0) (tNil))) (tVar 1)))) (tRet (tC (.bl false))) (tNext))
  (tSeq (tFor (iList K (tVar 0)) (gName 2)
  (tIfS (tNot (uTru K (uCall (sp_is_word K C) (WB E) (tCons (tVar 2) (tNil))))) (tRet (tC (.bl false))) (tNext)))
  (tRet (tC (.bl true))))
theorem pure_are_words {K : PySem.W.Frag} {C : Ex} {vs : List V} {H : Hp} {Q : VK} {E : XK} (h : sp_are_words K C vs H Q E) : t_are_words K C E { nx := fun _ H' => Q .non H', rt := Q } (start ["values", "many", "value"] vs) H := by
  obtain ⟨a, b, rfl, m, rfl, ⟨p, xs, rfl, hS, hk, k⟩ | ⟨hn, k⟩⟩ := h
  · unfold t_are_words
    walk_at "run1"
    refine w_isi_list_L hS ?_
    walk_at "run1"
    · walk_at "run1"
      rename_i hne
      rw [decide_eq_false hne] at k
      exact k
    · walk_at "run1"
      rename_i he
      refine f_list (xs := xs) (fun i σ H' => H' = H ∧ (∃ v, σ = [some (.ref p), some (.int m), v]) ∧ (xs.take i).all isWord = true) ⟨rfl, ⟨none, rfl⟩, rfl⟩ (by rintro i σ H' _ ⟨rfl, _⟩; exact hS) ?_ ?_
      · rintro i x σ H' hx ⟨rfl, ⟨v, rfl⟩, ha⟩
        walk_at "run1"
        refine w_S1 ⟨hk x (List.mem_of_getElem? hx), ?_⟩
        walk_at "run1"
        refine ifBN (fun hf => ?_) (fun ht => ?_)
        · walk_at "run1"
          rw [all_not hx hf, Bool.and_false] at k
          exact k
        · walk_at "run1"
          exact ⟨rfl, ⟨_, rfl⟩, all_take hx ha ht⟩
      · rintro σ H' ⟨rfl, ⟨v, rfl⟩, ha⟩
        walk_at "run1"
        rw [List.take_length] at ha
        rw [ha, decide_eq_true he] at k
        exact k
  · unfold t_are_words
    cases a with
    | ref p =>
      obtain ⟨o, ho, ht⟩ := hn
      walk_at "run1"
      refine ⟨rfl, o, ht, ?_⟩
      cases o with
      | list => exact absurd rfl ho
      | _ => walk_at "run"; exact k
    | byt _ => exact hn.elim
    | flt _ => exact hn.elim
    | ty _ => exact hn.elim
    | _ => walk_at "run"; exact k
def TapeOk (ts : List Int) : Prop := (∀ t ∈ ts, 0 ≤ t ∧ t < 1000) ∧ ts.length ≤ 3780
theorem TapeOk.app {ts : List Int} {z : Int} (h : ∀ t ∈ ts, 0 ≤ t ∧ t < 1000) (h0 : 0 ≤ z) (h1 : z < 1000) : ∀ t ∈ ts ++ [z], 0 ≤ t ∧ t < 1000 := by
  intro t ht
  rcases List.mem_append.mp ht with ht | ht
  · exact h t ht
  · rw [List.mem_singleton.mp ht]; exact ⟨h0, h1⟩
def sp__law_tape (K : PySem.W.Frag) (_ : Ex) : Sp := S1 fun a H Q _ => ∃ (p : Addr) (ns : List Int), a = .ref p ∧ SqL K H p (ns.map V.int) ∧ ns.length ≤ 63 ∧
  ∀ H' l ts, Same H H' → H l = none → H' l = some (.lst (ts.map V.int)) → TapeOk ts → Q (.ref l) H'
def t__law_tape (K : PySem.W.Frag) (C : Ex) (E : XK) : TS :=
  tSeq (tAsg (tLst (tNil)) (gName 1))
  (tSeq (tFor (iRng1 (tCons (tCB (uLen K) (tCons (tVar 0) (tNil))) (tNil))) (gName 2)
  (tSeq (tAsg (tCB (uAbs) (tCons (tCB (uInt) (tCons (tOp (uIx K) (tVar 0) (tVar 2)) (tNil))) (tNil))) (gName 3))
  (tIfS (tTest (tOp (uGe K) (tVar 3) (tOp (uPow) (tC (.int 10)) (tC (.int 18))))) (tFor (iRng1 (tCons (tC (.int 60)) (tNil))) (gName 4)
  (tIfS (tTest (tOp (uGt) (tVar 3) (tC (.int 0)))) (tSeq (tDrop (tBM K "list" (rAppend) (tVar 1) (tCons (tOp (uMod) (tVar 3) (tC (.int 1000))) (tNil))))
  (tAsg (tOp (uDiv) (tVar 3) (tC (.int 1000))) (gName 3))) (tNext))) (tFor (iRng1 (tCons (tC (.int 4)) (tNil))) (gName 4)
  (tSeq (tAsg (tOp (uMod) (tOp (uAdd K) (tOp (uAdd K) (tOp (uMul) (tVar 3) (tC (.int 48271))) (tOp (uMul) (tC (.int 69621)) (tOp (uAdd K) (tVar 2) (tC (.int 1))))) (tOp (uMul) (tC (.int 7)) (tVar 4))) (tC (.int 2147483647))) (gName 3))
  (tSeq (tAsg (tOp (uMod) (tOp (uMul) (tVar 3) (tC (.int 16807))) (tC (.int 2147483647))) (gName 3))
  (tDrop (tBM K "list" (rAppend) (tVar 1) (tCons (tOp (uMod) (tOp (uDiv) (tVar 3) (tC (.int 1000))) (tC (.int 1000))) (tNil))))))))))
  (tRet (tVar 1)))
theorem pure__law_tape {K : PySem.W.Frag} {C : Ex} {vs : List V} {H : Hp} {Q : VK} {E : XK} (h : sp__law_tape K C vs H Q E) : t__law_tape K C E { nx := fun _ H' => Q .non H', rt := Q } (start ["_law_script", "_law_tape_here", "_law_k", "_law_value_here", "_law_step"] vs) H := by
  obtain ⟨a, rfl, p, ns, rfl, hS, hn, k⟩ := h
  unfold t__law_tape
  walk_at "run1"
  rename_i l hl
  refine f_range (fun i σ H' => ∃ v2 v3 v4 ts, σ = [some (.ref p), some (.ref l), v2, v3, v4] ∧ Same H H' ∧ H' l = some (.lst (ts.map V.int)) ∧ (∀ t ∈ ts, 0 ≤ t ∧ t < 1000) ∧ ts.length ≤ 60 * i)
    ⟨none, none, none, [], rfl, same_new hl, upd_same, by simp, Nat.zero_le _⟩ ?_ ?_
  · rintro i σ H1 hi ⟨v2, v3, v4, ts, rfl, hs, hl1, ht, hz⟩
    have hi' : i < ns.length := by simp only [List.length_map] at hi; omega
    have hS1 := hs.seq hS
    walk_at "run1"
    · have h0 : 0 ≤ (if ns.getD (0 + (i : Int)).toNat 0 < 0 then -ns.getD (0 + (i : Int)).toNat 0 else ns.getD (0 + (i : Int)).toNat 0) := by split <;> omega
      generalize (if ns.getD (0 + (i : Int)).toNat 0 < 0 then -ns.getD (0 + (i : Int)).toNat 0 else ns.getD (0 + (i : Int)).toNat 0) = z at *
      refine f_range (fun j σ H' => ∃ (z : Int) (v4 : Option V) (ts : List Int), σ = [some (.ref p), some (.ref l), some (.int (0 + (i : Int))), some (.int z), v4] ∧ 0 ≤ z ∧ Same H H' ∧ H' l = some (.lst (ts.map V.int)) ∧ (∀ t ∈ ts, 0 ≤ t ∧ t < 1000) ∧ ts.length ≤ 60 * i + j)
        ⟨z, v4, ts, rfl, h0, hs, hl1, ht, hz⟩ ?_ ?_
      · rintro j σ H2 hj ⟨z, v4, ts, rfl, hz0, hs, hl1, ht, hz⟩
        have hj' : j < 60 := hj
        walk_at "run1"
        · exact ⟨_, _, _, rfl, by omega, same_upd hs hl, upd_same, TapeOk.app ht (by omega) (by omega), by simp only [List.length_append, List.length_cons, List.length_nil]; omega⟩
        · walk_at "run1"
          exact ⟨_, _, _, rfl, by omega, hs, hl1, ht, by omega⟩
      · rintro σ H2 ⟨z, v4, ts, rfl, hz0, hs, hl1, ht, hz⟩
        exact ⟨_, _, _, _, rfl, hs, hl1, ht, by have : (60 : Int).toNat = 60 := rfl; omega⟩
    · have h0 : 0 ≤ (if ns.getD (0 + (i : Int)).toNat 0 < 0 then -ns.getD (0 + (i : Int)).toNat 0 else ns.getD (0 + (i : Int)).toNat 0) := by split <;> omega
      generalize (if ns.getD (0 + (i : Int)).toNat 0 < 0 then -ns.getD (0 + (i : Int)).toNat 0 else ns.getD (0 + (i : Int)).toNat 0) = z at *
      have h18 : z < 10 ^ 18 := by
        have e : (18 : Int).toNat = 18 := rfl
        rename_i hne
        rw [e] at hne
        omega
      walk_at "run1"
      refine f_range (fun j σ H' => ∃ (z : Int) (v4 : Option V) (ts : List Int), σ = [some (.ref p), some (.ref l), some (.int (0 + (i : Int))), some (.int z), v4] ∧ (0 ≤ z ∧ z < 10 ^ 18) ∧ Same H H' ∧ H' l = some (.lst (ts.map V.int)) ∧ (∀ t ∈ ts, 0 ≤ t ∧ t < 1000) ∧ ts.length ≤ 60 * i + j)
        ⟨z, v4, ts, rfl, ⟨h0, h18⟩, hs, hl1, ht, hz⟩ ?_ ?_
      · rintro j σ H2 hj ⟨z, v4, ts, rfl, hz0, hs, hl1, ht, hz⟩
        have hj' : j < 4 := hj
        walk_at "run1"
        exact ⟨_, _, _, rfl, by omega, same_upd hs hl, upd_same, TapeOk.app ht (by omega) (by omega), by simp only [List.length_append, List.length_cons, List.length_nil]; omega⟩
      · rintro σ H2 ⟨z, v4, ts, rfl, hz0, hs, hl1, ht, hz⟩
        exact ⟨_, _, _, _, rfl, hs, hl1, ht, by have : (4 : Int).toNat = 4 := rfl; omega⟩
  · rintro σ H1 ⟨v2, v3, v4, ts, rfl, hs, hl1, ht, hz⟩
    walk_at "run1"
    exact k _ _ ts hs hl hl1 ⟨ht, by simp only [List.length_map] at hz; omega⟩
def sp__law_at (K : PySem.W.Frag) (_ : Ex) : Sp := S2 fun a b H Q _ => ∃ (p : Addr) (ts : List Int) (k : Int), a = .ref p ∧ b = .int k ∧ SqL K H p (ts.map V.int) ∧ 0 ≤ k ∧ Q (.int (ts.getD k.toNat 0)) H
def t__law_at (K : PySem.W.Frag) (C : Ex) (E : XK) : TS :=
  tSeq (tIfS (tTest (tOp (uLt K) (tVar 1) (tCB (uLen K) (tCons (tVar 0) (tNil))))) (tRet (tOp (uIx K) (tVar 0) (tVar 1))) (tNext))
  (tRet (tC (.int 0)))
theorem pure__law_at {K : PySem.W.Frag} {C : Ex} {vs : List V} {H : Hp} {Q : VK} {E : XK} (h : sp__law_at K C vs H Q E) : t__law_at K C E { nx := fun _ H' => Q .non H', rt := Q } (start ["_law_tape_here", "_law_k"] vs) H := by
  obtain ⟨a, b, rfl, p, ts, k, rfl, rfl, hS, hk, q⟩ := h
  unfold t__law_at
  walk_at "run1"
  · walk_at "run1"
    exact q
  · walk_at "run1"
    rename_i hlt
    rw [List.getD_eq_getElem?_getD, List.getElem?_eq_none (by simp only [List.length_map] at hlt; omega)] at q
    exact q
theorem TapeOk.at {ts : List Int} (h : TapeOk ts) (k : Nat) : 0 ≤ ts.getD k 0 ∧ ts.getD k 0 < 1000 := by
  rw [List.getD_eq_getElem?_getD]
  cases e : ts[k]? with
  | none => exact ⟨Int.le_refl 0, by decide⟩
  | some z => exact h.1 z (List.mem_of_getElem? e)
theorem u__law_at {K : PySem.W.Frag} {C : Ex} {H : Hp} {Q : VK} {E : XK} {p : Addr} {ts : List Int} {k : Int} (e : SqL K H p (ts.map V.int)) (h0 : 0 ≤ k) (h : Q (.int (ts.getD k.toNat 0)) H) : sp__law_at K C [.ref p, .int k] H Q E := w_S2 ⟨p, ts, k, rfl, rfl, e, h0, h⟩
local macro_rules | `(tactic| walk_at "x") => `(tactic| ((with_reducible apply u__law_at); (· walk_at "hk"); (· omega)))
/-- the values of the menu, a drawn int -/
def VOk (K : PySem.W.Frag) (H : Hp) : V → Prop
  | .int _ => True
  | .bl _ => True
  | .non => True
  | .str _ => True
  | .ref p => H p = some (.tup [.int 1, .int 2]) ∨ H p = some (.lst [.int 1])
  | _ => False
theorem VOk.same {K : PySem.W.Frag} {H H' : Hp} {v : V} (h : VOk K H v) (s : Same H H') : VOk K H' v := by
  cases v <;> first | exact trivial | exact h.elim | skip
  exact h.elim (fun e => .inl (s _ _ e)) (fun e => .inr (s _ _ e))
theorem VOk.known {K : PySem.W.Frag} {H : Hp} {v : V} (h : VOk K H v) : Known K H v := by
  cases v <;> first | exact trivial | exact h.elim | skip
  rcases h with e | e
  · exact ⟨.tuple, tyx_tup (SqT.of e)⟩
  · exact ⟨.list, tyx_list (SqL.of e)⟩
def sp__law_value (K : PySem.W.Frag) (_ : Ex) : Sp := S2 fun a b H Q _ => ∃ c n : Int, a = .int c ∧ b = .int n ∧ 0 ≤ n ∧ ∀ H' v, Same H H' → VOk K H' v → Q v H'
def t__law_value (K : PySem.W.Frag) (C : Ex) (E : XK) : TS :=
  tSeq (tAsg (tLst (tCons (tC (.bl true)) (tCons (tC (.bl false)) (tCons (tC .non) (tCons (tC (.str "7")) (tCons (tC (.str "")) (tCons (tTup (tCons (tC (.int 1)) (tCons (tC (.int 2)) (tNil)))) (tCons (tLst (tCons (tC (.int 1)) (tNil))) (tCons (tUn uNeg (tC (.int 1))) (tCons (tC (.int 0)) (tNil))))))))))) (gName 2))
  (tSeq (tIfS (tTest (tOp (uEq K) (tOp (uMod) (tVar 1) (tC (.int 3))) (tC (.int 0)))) (tRet (tOp (uIx K) (tVar 2) (tOp (uMod) (tOp (uDiv) (tVar 1) (tC (.int 3))) (tC (.int 9))))) (tNext))
  (tSeq (tIfS (tTest (tOp (uEq K) (tOp (uMod) (tVar 1) (tC (.int 3))) (tC (.int 1)))) (tRet (tCB (uInt) (tCons (tVar 0) (tNil)))) (tNext))
  (tRet (tCB (uAbs) (tCons (tCB (uInt) (tCons (tVar 0) (tNil))) (tNil))))))
theorem pure__law_value {K : PySem.W.Frag} {C : Ex} {vs : List V} {H : Hp} {Q : VK} {E : XK} (h : sp__law_value K C vs H Q E) : t__law_value K C E { nx := fun _ H' => Q .non H', rt := Q } (start ["_law_cell", "_law_number", "_law_menu"] vs) H := by
  obtain ⟨a, b, rfl, c, n, rfl, rfl, hn, k⟩ := h
  unfold t__law_value
  walk_at "run1"
  · rename_i b hb l hl m hm hne
    obtain ⟨j, hj, hj9⟩ : ∃ j : Nat, n / 3 % 9 = (j : Int) ∧ j < 9 := ⟨(n / 3 % 9).toNat, by omega, by omega⟩
    refine w_ixL (SqL.of upd_same) hj (List.getElem?_eq_getElem hj9) ?_
    refine k _ _ (by walk_at "sm") ?_
    have hv : ∀ v ∈ [V.bl true, V.bl false, V.non, V.str (Str.ofString "7"), V.str (Str.ofString ""), V.ref b, V.ref l, V.int (-1), V.int 0], VOk K (upd (upd (upd H b (.tup [.int 1, .int 2])) l (.lst [.int 1])) m (.lst [V.bl true, V.bl false, V.non, V.str (Str.ofString "7"), V.str (Str.ofString ""), V.ref b, V.ref l, V.int (-1), V.int 0])) v := by
      intro v hv
      simp only [List.mem_cons, List.not_mem_nil, or_false] at hv
      rcases hv with rfl | rfl | rfl | rfl | rfl | rfl | rfl | rfl | rfl <;> first | exact trivial | skip
      · exact .inl (upd_old (upd_old upd_same hl) hm)
      · exact .inr (upd_old upd_same hm)
    exact hv _ (List.getElem_mem _)
  · walk_at "run1"
    · walk_at "run1"
      exact k _ _ (by walk_at "sm") trivial
    · walk_at "run1"
      exact k _ _ (by walk_at "sm") trivial
/-- the same answer whoever asks -/
theorem VOk.isb {K : PySem.W.Frag} {H : Hp} {v : V} (h : VOk K H v) : ∃ b, ∀ Q : VK, Q (.bl b) H → uIsi K .bool [v, .ty "bool"] H Q := by
  cases v with
  | int i => exact ⟨false, fun Q q => w_isi_bool_int q⟩
  | bl i => exact ⟨true, fun Q q => w_isi_bool_bl q⟩
  | str i => exact ⟨false, fun Q q => w_isi_bool_str q⟩
  | non => exact ⟨false, fun Q q => w_isi_bool_non q⟩
  | ref p =>
    obtain ⟨o, ho⟩ := h.known
    exact ⟨false, fun Q q => w_isiO o ho (by cases o <;> exact q)⟩
  | byt _ => exact h.elim
  | flt _ => exact h.elim
  | ty _ => exact h.elim
theorem VOk.dp {K : PySem.W.Frag} {H : Hp} {v : V} (h : VOk K H v) : ∃ d, Dp K H v d ∧ (d.plain = true ∧ d.depth ≤ 60) ∧ PyData.eqv d d = true ∧ (PyData.eqv d (.list [.int 1]) = true ↔ ∃ p, v = .ref p ∧ H p = some (.lst [.int 1])) := by
  cases v with
  | int i => exact ⟨_, .int i, ⟨rfl, by simp [PyData.depth]⟩, by simp [PyData.eqv], by simp [PyData.eqv]⟩
  | bl i => exact ⟨_, .bl i, ⟨rfl, by simp [PyData.depth]⟩, by simp [PyData.eqv], by simp [PyData.eqv]⟩
  | str i => exact ⟨_, .str i, ⟨rfl, by simp [PyData.depth]⟩, by simp [PyData.eqv], by simp [PyData.eqv]⟩
  | non => exact ⟨_, .non, ⟨rfl, by simp [PyData.depth]⟩, by simp [PyData.eqv], by simp [PyData.eqv]⟩
  | ref p =>
    rcases h with e | e
    · refine ⟨_, .tup (SqT.of e) (.cons (.int 1) (.cons (.int 2) .nil)), ⟨by simp [PyData.plain, PyData.plainAll], by simp [PyData.depth, PyData.depthAll]⟩, by simp [PyData.eqv, PyData.eqvAll], ?_⟩
      simp [PyData.eqv, e]
    · refine ⟨_, .lst (SqL.of e) (.cons (.int 1) .nil), ⟨by simp [PyData.plain, PyData.plainAll], by simp [PyData.depth, PyData.depthAll]⟩, by simp [PyData.eqv, PyData.eqvAll], ?_⟩
      simp [PyData.eqv, PyData.eqvAll, e]
  | byt _ => exact h.elim
  | flt _ => exact h.elim
  | ty _ => exact h.elim
theorem VOk.ne {K : PySem.W.Frag} {H : Hp} {v : V} {Q : VK} (h : VOk K H v) (q : Q (.bl false) H) : uNe K v v H Q := by
  obtain ⟨d, hd, hp, he, _⟩ := h.dp
  have z : rNeP K v v H Q := ⟨d, d, hd, hd, hp, hp.1, by rw [he]; exact q⟩
  cases v with
  | int i => exact w_neI (by simpa using q)
  | bl i => exact w_neB (by simpa using q)
  | str i => exact w_neS (by simpa using q)
  | _ => exact .inr z
def sp__law_is_word (K : PySem.W.Frag) (_ : Ex) : Sp := S1 fun a H Q _ => Known K H a ∧ Q (.bl (isWord a)) H
def t__law_is_word (K : PySem.W.Frag) (C : Ex) (E : XK) : TS :=
  tRet (tAndV (tCB (uIsi K .int) (tCons (tVar 0) (tCons (tC (.ty "int")) (tNil)))) (tAndV (tNotV (tCB (uIsi K .bool) (tCons (tVar 0) (tCons (tC (.ty "bool")) (tNil))))) (tOp (uGe K) (tVar 0) (tC (.int 0)))))
theorem pure__law_is_word {K : PySem.W.Frag} {C : Ex} {vs : List V} {H : Hp} {Q : VK} {E : XK} (h : sp__law_is_word K C vs H Q E) : t__law_is_word K C E { nx := fun _ H' => Q .non H', rt := Q } (start ["_law_value_here"] vs) H := by
  obtain ⟨a, rfl, hk, k⟩ := h
  unfold t__law_is_word
  cases a with
  | ref p =>
    obtain ⟨o, ho⟩ := hk
    walk_at "run1"
    refine ⟨rfl, o, ho, ?_⟩
    cases o <;> (walk_at "run"; exact k)
  | byt _ => exact hk.elim
  | flt _ => exact hk.elim
  | ty _ => exact hk.elim
  | _ => walk_at "run"; exact k
def sp__law_right (K : PySem.W.Frag) (_ : Ex) : Sp := S2 fun a b H Q _ => ∃ x y : Bool, a = .bl x ∧ b = .bl y ∧ Q (.bl (decide (x = y))) H
def t__law_right (K : PySem.W.Frag) (C : Ex) (E : XK) : TS :=
  tRet (tAndV (tCB (uIsi K .bool) (tCons (tVar 0) (tCons (tC (.ty "bool")) (tNil)))) (tOp (uEq K) (tVar 0) (tVar 1)))
theorem pure__law_right {K : PySem.W.Frag} {C : Ex} {vs : List V} {H : Hp} {Q : VK} {E : XK} (h : sp__law_right K C vs H Q E) : t__law_right K C E { nx := fun _ H' => Q .non H', rt := Q } (start ["_law_told", "_law_due"] vs) H := by
  obtain ⟨a, b, rfl, x, y, rfl, rfl, k⟩ := h
  unfold t__law_right
  walk_at "run1"
  exact k
def sp_law (K : PySem.W.Frag) (_ : Ex) : Sp := spLaw K
def t_law (K : PySem.W.Frag) (C : Ex) (E : XK) : TS :=
  tSeq (tAsg (uCall (sp__law_tape K C) (WB E) (tCons (tVar 0) (tNil))) (gName 1))
  (tSeq (tAsg (tC (.int 0)) (gName 2))
  (tCut (tIfS (tTest (tOp (uGt) (tCB (uLen K) (tCons (tVar 0) (tNil))) (tC (.int 0)))) (tAsg (tOp (uIx K) (tVar 0) (tC (.int 0))) (gName 2)) (tNext))
  (tSeq (tAsg (uCall (sp__law_value K C) (WB E) (tCons (tVar 2) (tCons (uCall (sp__law_at K C) (WB E) (tCons (tVar 1) (tCons (tC (.int 0)) (tNil)))) (tNil)))) (gName 3))
  (tSeq (tIfS (tNot (uTru K (uCall (sp__law_right K C) (WB E) (tCons (uCall (sp_is_word K C) (WB E) (tCons (tVar 3) (tNil))) (tCons (uCall (sp__law_is_word K C) (WB E) (tCons (tVar 3) (tNil))) (tNil)))))) (tRet (tC (.bl false))) (tNext))
  (tSeq (tAsg (tOp (uMod) (uCall (sp__law_at K C) (WB E) (tCons (tVar 1) (tCons (tC (.int 1)) (tNil)))) (tC (.int 41))) (gName 4))
  (tCut (tIfS (tTest (tOp (uEq K) (tOp (uMod) (uCall (sp__law_at K C) (WB E) (tCons (tVar 1) (tCons (tC (.int 1)) (tNil)))) (tC (.int 4))) (tC (.int 0)))) (tAsg (tOp (uIx K) (tLst (tCons (tC (.int 8)) (tCons (tC (.int 32)) (tCons (tC (.int 0)) (tCons (tC (.int 1)) (tNil)))))) (tOp (uMod) (uCall (sp__law_at K C) (WB E) (tCons (tVar 1) (tCons (tC (.int 2)) (tNil)))) (tC (.int 4)))) (gName 4)) (tNext))
  (tSeq (tAsg (tLc (iRng1 (tCons (tVar 4) (tNil))) (gName 5) (tYes) (uCall (sp__law_at K C) (fun _ _ _ _ => False) (tCons (tVar 1) (tCons (tOp (uAdd K) (tC (.int 3)) (tVar 5)) (tNil)))) [5]) (gName 6))
  (tSeq (tAsg (tC (.bl true)) (gName 7))
  (tCut (tIfS (tAnd (tTest (tOp (uGt) (tVar 4) (tC (.int 0)))) (tTest (tOp (uEq K) (tOp (uMod) (uCall (sp__law_at K C) (WB E) (tCons (tVar 1) (tCons (tC (.int 2)) (tNil)))) (tC (.int 2))) (tC (.int 1))))) (tSeq (tAsg (tVar 3) (gSub (tVar 6) (tOp (uMod) (uCall (sp__law_at K C) (WB E) (tCons (tVar 1) (tCons (tC (.int 60)) (tNil)))) (tVar 4)) uSet))
  (tAsg (uCall (sp__law_is_word K C) (WB E) (tCons (tVar 3) (tNil))) (gName 7))) (tNext))
  (tSeq (tAsg (tCB (uList K) (tCons (tVar 6) (tNil))) (gName 8))
  (tSeq (tFor (iList K (tLst (tCons (tVar 4) (tCons (tOp (uAdd K) (tVar 4) (tC (.int 1))) (tCons (tOp (uSub) (tVar 4) (tC (.int 1))) (tCons (tC (.int 8)) (tCons (tC (.int 32)) (tNil)))))))) (gName 9)
  (tIfS (tNot (uTru K (uCall (sp__law_right K C) (WB E) (tCons (uCall (sp_are_words K C) (WB E) (tCons (tVar 6) (tCons (tVar 9) (tNil)))) (tCons (tAndV (tVar 7) (tOp (uEq K) (tVar 9) (tVar 4))) (tNil)))))) (tRet (tC (.bl false))) (tNext)))
  (tSeq (tIfS (tTest (tOp (uNe K) (tCB (uLen K) (tCons (tVar 6) (tNil))) (tCB (uLen K) (tCons (tVar 8) (tNil))))) (tRet (tC (.bl false))) (tNext))
  (tSeq (tFor (iRng1 (tCons (tCB (uLen K) (tCons (tVar 8) (tNil))) (tNil))) (gName 5)
  (tIfS (tOr (tTest (tOp (uNe K) (tCB (uIsi K .bool) (tCons (tOp (uIx K) (tVar 6) (tVar 5)) (tCons (tC (.ty "bool")) (tNil)))) (tCB (uIsi K .bool) (tCons (tOp (uIx K) (tVar 8) (tVar 5)) (tCons (tC (.ty "bool")) (tNil)))))) (tTest (tOp (uNe K) (tOp (uIx K) (tVar 6) (tVar 5)) (tOp (uIx K) (tVar 8) (tVar 5))))) (tRet (tC (.bl false))) (tNext)))
  (tRet (tAndV (uCall (sp__law_right K C) (WB E) (tCons (uCall (sp_are_words K C) (WB E) (tCons (tCB (uTuple K) (tCons (tVar 6) (tNil))) (tCons (tVar 4) (tNil)))) (tCons (tC (.bl false)) (tNil)))) (uCall (sp__law_right K C) (WB E) (tCons (uCall (sp_are_words K C) (WB E) (tCons (tVar 3) (tCons (tC (.int 1)) (tNil)))) (tCons (tOp (uEq K) (tVar 3) (tLst (tCons (tC (.int 1)) (tNil)))) (tNil)))))))))))))))))))
theorem pure_law {K : PySem.W.Frag} {C : Ex} {vs : List V} {H : Hp} {Q : VK} {E : XK} (h : sp_law K C vs H Q E) : t_law K C E { nx := fun _ H' => Q .non H', rt := Q } (start ["_law_script", "_law_tape_here", "_law_cell", "_law_value_here", "_law_many", "_law_k", "_law_values", "_law_due", "_law_kept", "_law_size"] vs) H := by
  obtain ⟨a, rfl, p, ns, rfl, hS, hn, k⟩ := h
  unfold t_law
  walk_at "run1"
  refine w_S1 ⟨p, ns, rfl, hS, hn, fun H1 l ts s1 hl0 hl ht => ?_⟩
  have hS1 := s1.seq hS
  walk_at "run1"
  refine w_cut (fun σ H => H = H1 ∧ ∃ c : Int, σ = [some (.ref p), some (.ref l), some (.int c), none, none, none, none, none, none, none]) ?_ ?_
  · walk_at "run1"
    · walk_at "run1"
      exact ⟨rfl, _, rfl⟩
    · walk_at "run1"
      exact ⟨rfl, _, rfl⟩
  rintro σ H0 ⟨rfl, c, rfl⟩
  walk_at "run1"
  refine w_S2 ⟨_, _, rfl, rfl, (ht.at _).1, fun H2 v s2 hv => ?_⟩
  walk_at "run1"
  refine w_S1 ⟨hv.known, ?_⟩
  walk_at "run1"
  refine w_S1 ⟨hv.known, ?_⟩
  walk_at "run1"
  refine w_S2 ⟨_, _, rfl, rfl, ?_⟩
  walk_at "run1"
  have hl2 := s2 _ _ hl
  walk_at "run1"
  refine w_cut (fun σ H' => Same H2 H' ∧ ∃ m : Nat, m ≤ 40 ∧ σ = [some (.ref p), some (.ref l), some (.int c), some v, some (.int m), none, none, none, none, none]) ?_ ?_
  · have h1 := ht.at (1 : Int).toNat
    have h2 := ht.at (2 : Int).toNat
    walk_at "run1"
    · rename_i b hb
      obtain ⟨j, hj, hj9⟩ : ∃ j : Nat, ts.getD (2 : Int).toNat 0 % 4 = (j : Int) ∧ j < 4 := ⟨(ts.getD (2 : Int).toNat 0 % 4).toNat, by omega, by omega⟩
      match j, hj9, hj with
      | 0, _, hj => refine w_ixL (SqL.of upd_same) hj rfl ?_; walk_at "run1"; exact ⟨by walk_at "sm", 8, by decide, rfl⟩
      | 1, _, hj => refine w_ixL (SqL.of upd_same) hj rfl ?_; walk_at "run1"; exact ⟨by walk_at "sm", 32, by decide, rfl⟩
      | 2, _, hj => refine w_ixL (SqL.of upd_same) hj rfl ?_; walk_at "run1"; exact ⟨by walk_at "sm", 0, by decide, rfl⟩
      | 3, _, hj => refine w_ixL (SqL.of upd_same) hj rfl ?_; walk_at "run1"; exact ⟨by walk_at "sm", 1, by decide, rfl⟩
    · walk_at "run1"
      refine ⟨L2.Same.refl _, (ts.getD (1 : Int).toNat 0 % 41).toNat, by omega, ?_⟩
      rw [Int.toNat_of_nonneg (by omega)]
      rfl
  rintro σ H3 ⟨s3, m, hm, rfl⟩
  have hl3 := s3 _ _ hl2
  have hv3 := hv.same s3
  walk_at "run1"
  refine l_rangeP (fun i => .int (ts.getD (3 + i) 0)) (by omega) (fun D i H N hD hi hs hN => ?_) (fun D hD => ?_) (fun _ _ _ _ _ h q => h _ _ q) (fun _ _ _ _ h q => h _ _ q)
  · have hl4 := hs _ _ hl3
    walk_at "run1"
    refine ⟨rfl, ?_⟩
    walk_at "run1"
    refine ⟨rfl, ?_⟩
    walk_at "run1"
    rw [show (3 + (0 + (i : Int))).toNat = 3 + i by omega]
    exact hN
  walk_at "run1"
  rw [Int.toNat_natCast]
  have hl4 : (upd H3 D (.lst ((List.range m).map fun i => V.int (ts.getD (3 + i) 0)))) l = some (.lst (ts.map V.int)) := upd_old hl3 hD
  refine w_cut (fun σ H' => Same H3 H' ∧ ∃ (xs : List V) (due : Bool), xs.length = m ∧ (∀ x ∈ xs, VOk K H' x) ∧ due = xs.all isWord ∧ H' D = some (.lst xs) ∧ σ = [some (.ref p), some (.ref l), some (.int c), some v, some (.int m), none, some (.ref D), some (.bl due), none, none]) ?_ ?_
  · have hx : ∀ x ∈ (List.range m).map fun i => V.int (ts.getD (3 + i) 0), isWord x = true ∧ ∃ z, x = .int z := by
      intro x hx
      obtain ⟨i, _, rfl⟩ := List.mem_map.mp hx
      exact ⟨decide_eq_true (ht.at _).1, _, rfl⟩
    have base : Same H3 (upd H3 D (.lst ((List.range m).map fun i => V.int (ts.getD (3 + i) 0)))) ∧ ∃ (xs : List V) (due : Bool), xs.length = m ∧ (∀ x ∈ xs, VOk K (upd H3 D (.lst ((List.range m).map fun i => V.int (ts.getD (3 + i) 0)))) x) ∧ due = xs.all isWord ∧
        (upd H3 D (.lst ((List.range m).map fun i => V.int (ts.getD (3 + i) 0)))) D = some (.lst xs) ∧ [some (V.ref p), some (.ref l), some (.int c), some v, some (.int m), none, some (.ref D), some (.bl true), none, none] = [some (.ref p), some (.ref l), some (.int c), some v, some (.int m), none, some (.ref D), some (.bl due), none, none] := by
      refine ⟨by walk_at "sm", _, true, by simp, fun x h => ?_, (List.all_eq_true.mpr fun x h => (hx x h).1).symm, upd_same, rfl⟩
      obtain ⟨_, z, rfl⟩ := hx x h
      trivial
    walk_at "run1"
    · have hz := ht.at (60 : Int).toNat
      rename_i hm0 _
      have hm0' : (0 : Int) < (m : Int) := hm0
      have hb1 := Int.emod_nonneg (ts.getD (60 : Int).toNat 0) (b := (m : Int)) (by omega)
      have hb2 := Int.emod_lt_of_pos (ts.getD (60 : Int).toNat 0) hm0'
      refine w_setL upd_same ⟨hb1, by rw [List.length_map, List.length_range]; omega⟩ ?_
      rw [upd_upd]
      walk_at "run1"
      refine w_S1 ⟨VOk.known (hv3.same (by walk_at "sm")), ?_⟩
      walk_at "run1"
      refine ⟨by walk_at "sm", _, _, by simp, fun x h => ?_, ?_, upd_same, rfl⟩
      · rcases List.mem_or_eq_of_mem_set h with h | rfl
        · obtain ⟨_, z, rfl⟩ := hx x h
          trivial
        · exact hv3.same (by walk_at "sm")
      · rw [Bool.eq_iff_iff, List.all_eq_true]
        refine ⟨fun hw x h => ?_, fun h => h v (List.mem_set (by rw [List.length_map, List.length_range]; omega) v)⟩
        rcases List.mem_or_eq_of_mem_set h with h | rfl
        · exact (hx x h).1
        · exact hw
    · walk_at "run1"
      exact base
    · walk_at "run1"
      exact base
  rintro σ H4 ⟨s4, xs, due, hxm, hxs, hdue, hD4, rfl⟩
  have hv4 := hv3.same s4
  have hkn : ∀ x ∈ xs, Known K H4 x := fun x h => (hxs x h).known
  walk_at "run1"
  refine w_tlist (SqL.of hD4) fun kp hkp => ?_
  walk_at "run1"
  rename_i ll hll
  have s5 : Same H4 (upd (upd H4 kp (.lst xs)) ll (.lst [.int m, .int (m + 1), .int (m - 1), .int 8, .int 32])) := by walk_at "sm"
  have hD5 := s5 _ _ hD4
  refine f_list (xs := [.int m, .int (m + 1), .int (m - 1), .int 8, .int 32]) (fun i σ H' => H' = upd (upd H4 kp (.lst xs)) ll (.lst [.int m, .int (m + 1), .int (m - 1), .int 8, .int 32]) ∧ ∃ w, σ = [some (.ref p), some (.ref l), some (.int c), some v, some (.int m), none, some (.ref D), some (.bl due), some (.ref kp), w])
    ⟨rfl, _, rfl⟩ (by rintro i σ H' _ ⟨rfl, _⟩; exact SqL.of upd_same) ?_ ?_
  · rintro i x σ H' hx ⟨rfl, w, rfl⟩
    obtain ⟨z, rfl⟩ : ∃ z, x = .int z := by
      have := List.mem_of_getElem? hx
      simp only [List.mem_cons, List.not_mem_nil, or_false] at this
      rcases this with rfl | rfl | rfl | rfl | rfl <;> exact ⟨_, rfl⟩
    walk_at "run1"
    refine w_S2 ⟨z, rfl, .inl ⟨D, xs, rfl, SqL.of hD5, fun x h => ((hxs x h).same s5).known, ?_⟩⟩
    walk_at "run1"
    refine ifB (fun hd => ?_) (fun hd => ?_)
    · walk_at "run1"
      refine w_S2 ⟨_, _, rfl, rfl, ?_⟩
      walk_at "run1"
      · rename_i hne
        refine absurd ?_ hne
        rw [← hdue, hd, Bool.and_true, hxm]
        exact decide_eq_decide.mpr ⟨Eq.symm, Eq.symm⟩
      · walk_at "run1"
        exact ⟨rfl, _, rfl⟩
    · walk_at "run1"
      refine w_S2 ⟨_, _, rfl, rfl, ?_⟩
      walk_at "run1"
      · rename_i hne
        refine absurd ?_ hne
        rw [← hdue, hd, Bool.and_false]
      · walk_at "run1"
        exact ⟨rfl, _, rfl⟩
  rintro σ H' ⟨rfl, w, rfl⟩
  have hk5 : (upd (upd H4 kp (.lst xs)) ll (.lst [.int m, .int (m + 1), .int (m - 1), .int 8, .int 32])) kp = some (.lst xs) := upd_old upd_same hll
  walk_at "run1"
  walk_at "run1"
  refine f_range (fun i σ H' => H' = upd (upd H4 kp (.lst xs)) ll (.lst [.int m, .int (m + 1), .int (m - 1), .int 8, .int 32]) ∧ ∃ w u, σ = [some (.ref p), some (.ref l), some (.int c), some v, some (.int m), u, some (.ref D), some (.bl due), some (.ref kp), w])
    ⟨rfl, _, _, rfl⟩ ?_ ?_
  · rintro i σ H' hi ⟨rfl, w, u, rfl⟩
    have hi' : i < xs.length := by omega
    have hx : xs[i]? = some xs[i] := List.getElem?_eq_getElem hi'
    have hvx := (hxs _ (List.getElem_mem hi')).same s5
    obtain ⟨b, hb⟩ := hvx.isb
    walk_at "run1"
    refine w_ixL (SqL.of hD5) (Int.zero_add _) hx ?_
    walk_at "run1"
    refine hb _ ?_
    walk_at "run1"
    refine w_ixL (SqL.of hk5) (Int.zero_add _) hx ?_
    walk_at "run1"
    refine hb _ ?_
    walk_at "run1"
    walk_at "run1"
    refine w_ixL (SqL.of hD5) (Int.zero_add _) hx ?_
    walk_at "run1"
    refine w_ixL (SqL.of hk5) (Int.zero_add _) hx ?_
    walk_at "run1"
    refine hvx.ne ?_
    walk_at "run1"
    exact ⟨rfl, _, _, rfl⟩
  rintro σ H' ⟨rfl, w, u, rfl⟩
  walk_at "run1"
  refine w_ttupL (SqL.of hD5) fun tp htp => ?_
  walk_at "run1"
  refine w_S2 ⟨_, rfl, .inr ⟨⟨.tuple, (fun q => nomatch q), tyx_tup (SqT.of upd_same)⟩, ?_⟩⟩
  walk_at "run1"
  refine w_S2 ⟨_, _, rfl, rfl, ?_⟩
  walk_at "run1"
  have s6 : Same H4 (upd (upd (upd H4 kp (.lst xs)) ll (.lst [.int m, .int (m + 1), .int (m - 1), .int 8, .int 32])) tp (.tup xs)) := by walk_at "sm"
  have hv6 := hv4.same s6
  by_cases hq : ∃ q, v = .ref q ∧ (upd (upd (upd H4 kp (.lst xs)) ll (.lst [.int m, .int (m + 1), .int (m - 1), .int 8, .int 32])) tp (.tup xs)) q = some (.lst [.int 1])
  · obtain ⟨q, rfl, e⟩ := hq
    refine w_S2 ⟨_, rfl, .inl ⟨q, _, rfl, SqL.of e, fun x h => ?_, ?_⟩⟩
    · rw [List.mem_singleton.mp h]; trivial
    walk_at "run1"
    rename_i o ho
    obtain ⟨d, hd, hp, _, he⟩ := (hv6.same (same_new (o := .lst [.int 1]) ho)).dp
    refine Or.inr ⟨d, _, hd, .lst (SqL.of upd_same) (.cons (.int 1) .nil), hp, by simp [PyData.plain, PyData.plainAll], ?_⟩
    rw [he.mpr ⟨q, rfl, upd_old e ho⟩]
    walk_at "run1"
    exact w_S2 ⟨_, _, rfl, rfl, k _⟩
  · have hno : NoList K (upd (upd (upd H4 kp (.lst xs)) ll (.lst [.int m, .int (m + 1), .int (m - 1), .int 8, .int 32])) tp (.tup xs)) v := by
      cases v with
      | ref q =>
        rcases hv6 with e | e
        · exact ⟨.tuple, (fun q => nomatch q), tyx_tup (SqT.of e)⟩
        · exact absurd ⟨q, rfl, e⟩ hq
      | byt _ => exact hv6.elim
      | flt _ => exact hv6.elim
      | ty _ => exact hv6.elim
      | _ => exact trivial
    refine w_S2 ⟨_, rfl, .inr ⟨hno, ?_⟩⟩
    walk_at "run1"
    rename_i o ho
    obtain ⟨d, hd, hp, _, he⟩ := (hv6.same (same_new (o := .lst [.int 1]) ho)).dp
    have z : ∀ Q : VK, Q (.bl false) (upd (upd (upd (upd H4 kp (.lst xs)) ll (.lst [.int m, .int (m + 1), .int (m - 1), .int 8, .int 32])) tp (.tup xs)) o (.lst [.int 1])) → rEqP K v (.ref o) (upd (upd (upd (upd H4 kp (.lst xs)) ll (.lst [.int m, .int (m + 1), .int (m - 1), .int 8, .int 32])) tp (.tup xs)) o (.lst [.int 1])) Q := fun Q q => by
      refine ⟨d, _, hd, .lst (SqL.of upd_same) (.cons (.int 1) .nil), hp, by simp [PyData.plain, PyData.plainAll], ?_⟩
      have e : PyData.eqv d (.list [.int 1]) = false := Bool.eq_false_iff.mpr fun t => by
        obtain ⟨q, rfl, e⟩ := he.mp t
        rcases hv6 with e2 | e2
        · rw [upd_old e2 ho] at e; cases e
        · exact hq ⟨q, rfl, e2⟩
      rw [e]; exact q
    refine w_eqP (z _ ?_)
    walk_at "run1"
    exact w_S2 ⟨_, _, rfl, rfl, k _⟩
def topS (i : Nat) : Stmt := PySem.Challenge.pw_laminae_k03_words.main.body.getD i (.Pass ⟨0, 0, 0, 0⟩)
abbrev s_is_word : Stmt := topS 1
theorem sc_is_word : FnScope ["value"] ["value"] (defScope s_is_word) := ⟨rfl, rfl, rfl, by decide +kernel, rfl, by decide +kernel, by decide +kernel⟩
abbrev s_are_words : Stmt := topS 2
theorem sc_are_words : FnScope ["values", "many", "value"] ["values", "many"] (defScope s_are_words) := ⟨rfl, rfl, rfl, by decide +kernel, rfl, by decide +kernel, by decide +kernel⟩
abbrev s__law_tape : Stmt := topS 4
theorem sc__law_tape : FnScope ["_law_script", "_law_tape_here", "_law_k", "_law_value_here", "_law_step"] ["_law_script"] (defScope s__law_tape) := ⟨rfl, rfl, rfl, by decide +kernel, rfl, by decide +kernel, by decide +kernel⟩
abbrev s__law_at : Stmt := topS 5
theorem sc__law_at : FnScope ["_law_tape_here", "_law_k"] ["_law_tape_here", "_law_k"] (defScope s__law_at) := ⟨rfl, rfl, rfl, by decide +kernel, rfl, by decide +kernel, by decide +kernel⟩
abbrev s__law_value : Stmt := topS 6
theorem sc__law_value : FnScope ["_law_cell", "_law_number", "_law_menu"] ["_law_cell", "_law_number"] (defScope s__law_value) := ⟨rfl, rfl, rfl, by decide +kernel, rfl, by decide +kernel, by decide +kernel⟩
abbrev s__law_is_word : Stmt := topS 7
theorem sc__law_is_word : FnScope ["_law_value_here"] ["_law_value_here"] (defScope s__law_is_word) := ⟨rfl, rfl, rfl, by decide +kernel, rfl, by decide +kernel, by decide +kernel⟩
abbrev s__law_right : Stmt := topS 8
theorem sc__law_right : FnScope ["_law_told", "_law_due"] ["_law_told", "_law_due"] (defScope s__law_right) := ⟨rfl, rfl, rfl, by decide +kernel, rfl, by decide +kernel, by decide +kernel⟩
abbrev s_law : Stmt := topS 9
theorem sc_law : FnScope ["_law_script", "_law_tape_here", "_law_cell", "_law_value_here", "_law_many", "_law_k", "_law_values", "_law_due", "_law_kept", "_law_size"] ["_law_script"] (defScope s_law) := ⟨rfl, rfl, rfl, by decide +kernel, rfl, by decide +kernel, by decide +kernel⟩
structure Adr where
  ex : Ex
  f_is_word : Addr
  d_is_word : FuncData
  f_are_words : Addr
  d_are_words : FuncData
  f__law_tape : Addr
  d__law_tape : FuncData
  f__law_at : Addr
  d__law_at : FuncData
  f__law_value : Addr
  d__law_value : FuncData
  f__law_is_word : Addr
  d__law_is_word : FuncData
  f__law_right : Addr
  d__law_right : FuncData
  f_law : Addr
  d_law : FuncData
structure Top (K : PySem.W.Frag) (mg : Str → Option Value) (A : Adr) : Prop where
  F_is_word : Fun K "is_word" "is_word" s_is_word A.f_is_word A.d_is_word
  b_is_word : Binds K A.d_is_word ["value"] []
  g_is_word : mg "is_word" = some (.ref A.f_is_word)
  F_are_words : Fun K "are_words" "are_words" s_are_words A.f_are_words A.d_are_words
  b_are_words : Binds K A.d_are_words ["values", "many"] []
  g_are_words : mg "are_words" = some (.ref A.f_are_words)
  F__law_tape : Fun K "_law_tape" "_law_tape" s__law_tape A.f__law_tape A.d__law_tape
  b__law_tape : Binds K A.d__law_tape ["_law_script"] []
  g__law_tape : mg "_law_tape" = some (.ref A.f__law_tape)
  F__law_at : Fun K "_law_at" "_law_at" s__law_at A.f__law_at A.d__law_at
  b__law_at : Binds K A.d__law_at ["_law_tape_here", "_law_k"] []
  g__law_at : mg "_law_at" = some (.ref A.f__law_at)
  F__law_value : Fun K "_law_value" "_law_value" s__law_value A.f__law_value A.d__law_value
  b__law_value : Binds K A.d__law_value ["_law_cell", "_law_number"] []
  g__law_value : mg "_law_value" = some (.ref A.f__law_value)
  F__law_is_word : Fun K "_law_is_word" "_law_is_word" s__law_is_word A.f__law_is_word A.d__law_is_word
  b__law_is_word : Binds K A.d__law_is_word ["_law_value_here"] []
  g__law_is_word : mg "_law_is_word" = some (.ref A.f__law_is_word)
  F__law_right : Fun K "_law_right" "_law_right" s__law_right A.f__law_right A.d__law_right
  b__law_right : Binds K A.d__law_right ["_law_told", "_law_due"] []
  g__law_right : mg "_law_right" = some (.ref A.f__law_right)
  F_law : Fun K "law" "law" s_law A.f_law A.d_law
  b_law : Binds K A.d_law ["_law_script"] []
  g_law : mg "law" = some (.ref A.f_law)
  n_abs : mg "abs" = none
  n_bool : mg "bool" = none
  n_int : mg "int" = none
  n_isinstance : mg "isinstance" = none
  n_len : mg "len" = none
  n_list : mg "list" = none
  n_range : mg "range" = none
  n_tuple : mg "tuple" = none
section
variable {P : Program} {w : World} {K : PySem.W.Frag} {mg : Str → Option Value} {base : Heap} {A : Adr}
theorem ok_is_word (T : Top K mg A) : FnOk P w K mg base (L2.CX P w) 1 A.f_is_word A.d_is_word ["value"] (sp_is_word K A.ex) := by
  refine T.F_is_word.okX sc_is_word (fun vs H Q E h => len1 h) (fun cdv Ar outer s H vs Q E hr h => ⟨t_is_word K A.ex E, ?_, pure_is_word h⟩)
  have tk : Takes (cxOf (L2.CX P w) P w K mg base ["value"] "is_word" (defScope s_is_word) A.f_is_word cdv Ar outer s H E) (WB E) := takes_of rfl rfl rfl rfl
  have hu := hu_of hr
  have hl := Nat.lt_of_succ_lt hu
  exact pss_cons (ps_if (PW.pt (pw_or (pt_not (t_tru (pe_callB (c_isi .int) (by rfl) T.n_isinstance (by decide +kernel) (pa_cons (pv 0) (pa_cons (pe_bltn rfl T.n_int (by decide +kernel) rfl) (pa_nil)))))) (pw_or1 (t_tru (pe_callB (c_isi .bool) (by rfl) T.n_isinstance (by decide +kernel) (pa_cons (pv 0) (pa_cons (pe_bltn rfl T.n_bool (by decide +kernel) rfl) (pa_nil)))))))) (pss_one (ps_ret (pe_bl))) (pss_nil))
        (pss_one (ps_ret (pe_cmpR (o_ge hl) (pv 0) (pe_int) (nomark _))))
theorem ok_are_words (T : Top K mg A) : FnOk P w K mg base (L2.CX P w) 2 A.f_are_words A.d_are_words ["values", "many"] (sp_are_words K A.ex) := by
  refine T.F_are_words.okX sc_are_words (fun vs H Q E h => len2 h) (fun cdv Ar outer s H vs Q E hr h => ⟨t_are_words K A.ex E, ?_, pure_are_words h⟩)
  have tk : Takes (cxOf (L2.CX P w) P w K mg base ["values", "many", "value"] "are_words" (defScope s_are_words) A.f_are_words cdv Ar outer s H E) (WB E) := takes_of rfl rfl rfl rfl
  have po : PassesOwn (model P w) (cxOf (L2.CX P w) P w K mg base ["values", "many", "value"] "are_words" (defScope s_are_words) A.f_are_words cdv Ar outer s H E).A (cxOf (L2.CX P w) P w K mg base ["values", "many", "value"] "are_words" (defScope s_are_words) A.f_are_words cdv Ar outer s H E).env (cxOf (L2.CX P w) P w K mg base ["values", "many", "value"] "are_words" (defScope s_are_words) A.f_are_words cdv Ar outer s H E).xe := passes_of rfl
  exact pss_cons (ps_if (PW.pt (pw_or (pt_not (t_tru (pe_callB (c_isi .list) (by rfl) T.n_isinstance (by decide +kernel) (pa_cons (pv 0) (pa_cons (pe_bltn rfl T.n_list (by decide +kernel) rfl) (pa_nil)))))) (pw_or1 (pt_cmpR (o_ne hr.units) (pe_callB (c_len) (by rfl) T.n_len (by decide +kernel) (pa_cons (pv 0) (pa_nil))) (pv 1) (nomark _))))) (pss_one (ps_ret (pe_bl))) (pss_nil))
        (pss_cons (ps_for po rfl (pi_list (pv 0)) (pg_name (i := 2) sc_are_words.nd rfl (Or.inl rfl))
        (pss_one (ps_if (pt_not (t_tru (e_call (ok_is_word T) (hr.mono (by decide)) T.g_is_word T.F_is_word.kp T.b_is_word tk (pa_cons (pv 2) (pa_nil))))) (pss_one (ps_ret (pe_bl))) (pss_nil))))
        (pss_one (ps_ret (pe_bl))))
theorem ok__law_tape (T : Top K mg A) : FnOk P w K mg base (L2.CX P w) 1 A.f__law_tape A.d__law_tape ["_law_script"] (sp__law_tape K A.ex) := by
  refine T.F__law_tape.okX sc__law_tape (fun vs H Q E h => len1 h) (fun cdv Ar outer s H vs Q E hr h => ⟨t__law_tape K A.ex E, ?_, pure__law_tape h⟩)
  have tk : Takes (cxOf (L2.CX P w) P w K mg base ["_law_script", "_law_tape_here", "_law_k", "_law_value_here", "_law_step"] "_law_tape" (defScope s__law_tape) A.f__law_tape cdv Ar outer s H E) (WB E) := takes_of rfl rfl rfl rfl
  have po : PassesOwn (model P w) (cxOf (L2.CX P w) P w K mg base ["_law_script", "_law_tape_here", "_law_k", "_law_value_here", "_law_step"] "_law_tape" (defScope s__law_tape) A.f__law_tape cdv Ar outer s H E).A (cxOf (L2.CX P w) P w K mg base ["_law_script", "_law_tape_here", "_law_k", "_law_value_here", "_law_step"] "_law_tape" (defScope s__law_tape) A.f__law_tape cdv Ar outer s H E).env (cxOf (L2.CX P w) P w K mg base ["_law_script", "_law_tape_here", "_law_k", "_law_value_here", "_law_step"] "_law_tape" (defScope s__law_tape) A.f__law_tape cdv Ar outer s H E).xe := passes_of rfl
  have hu := hu_of hr
  have hl := Nat.lt_of_succ_lt hu
  exact pss_cons (ps_set (i := 1) sc__law_tape.nd rfl (Or.inl rfl) (pe_lst (pa_nil)))
        (pss_cons (ps_for po rfl (pi_range1 (by rfl) T.n_range (pa_cons (pe_callB (c_len) (by rfl) T.n_len (by decide +kernel) (pa_cons (pv 0) (pa_nil))) (pa_nil))) (pg_name (i := 2) sc__law_tape.nd rfl (Or.inl rfl))
        (pss_cons (ps_set (i := 3) sc__law_tape.nd rfl (Or.inl rfl) (pe_callB (c_abs) (by rfl) T.n_abs (by decide +kernel) (pa_cons (pe_callTy (c_int) (by rfl) T.n_int (by decide +kernel) (pa_cons (e_ix (pv 0) (pv 2)) (pa_nil))) (pa_nil))))
        (pss_one (ps_if (pt_cmpR (o_ge hl) (pv 3) (pe_op o_pow (pe_int) (pe_int)) (nomark _)) (pss_one (ps_for po rfl (pi_range1 (by rfl) T.n_range (pa_cons (pe_int) (pa_nil))) (pg_name (i := 4) sc__law_tape.nd rfl (Or.inl rfl))
        (pss_one (ps_if (pt_cmpR (o_gt) (pv 3) (pe_int) (nomark _)) (pss_cons (ps_expr (pe_bm PySem.F.plainAttrs_list PySem.F.slot_list_append PySem.F.type_list_append mt_append (pv 1) (pa_cons (pe_op o_mod (pv 3) (pe_int)) (pa_nil))))
        (pss_one (ps_set (i := 3) sc__law_tape.nd rfl (Or.inl rfl) (pe_op o_div (pv 3) (pe_int))))) (pss_nil))))) (pss_one (ps_for po rfl (pi_range1 (by rfl) T.n_range (pa_cons (pe_int) (pa_nil))) (pg_name (i := 4) sc__law_tape.nd rfl (Or.inl rfl))
        (pss_cons (ps_set (i := 3) sc__law_tape.nd rfl (Or.inl rfl) (pe_op o_mod (pe_op o_add (pe_op o_add (pe_op o_mul (pv 3) (pe_int)) (pe_op o_mul (pe_int) (pe_op o_add (pv 2) (pe_int)))) (pe_op o_mul (pe_int) (pv 4))) (pe_int)))
        (pss_cons (ps_set (i := 3) sc__law_tape.nd rfl (Or.inl rfl) (pe_op o_mod (pe_op o_mul (pv 3) (pe_int)) (pe_int)))
        (pss_one (ps_expr (pe_bm PySem.F.plainAttrs_list PySem.F.slot_list_append PySem.F.type_list_append mt_append (pv 1) (pa_cons (pe_op o_mod (pe_op o_div (pv 3) (pe_int)) (pe_int)) (pa_nil)))))))))))))
        (pss_one (ps_ret (pv 1))))
theorem ok__law_at (T : Top K mg A) : FnOk P w K mg base (L2.CX P w) 1 A.f__law_at A.d__law_at ["_law_tape_here", "_law_k"] (sp__law_at K A.ex) := by
  refine T.F__law_at.okX sc__law_at (fun vs H Q E h => len2 h) (fun cdv Ar outer s H vs Q E hr h => ⟨t__law_at K A.ex E, ?_, pure__law_at h⟩)
  have tk : Takes (cxOf (L2.CX P w) P w K mg base ["_law_tape_here", "_law_k"] "_law_at" (defScope s__law_at) A.f__law_at cdv Ar outer s H E) (WB E) := takes_of rfl rfl rfl rfl
  have hu := hu_of hr
  have hl := Nat.lt_of_succ_lt hu
  exact pss_cons (ps_if (pt_cmpR (o_lt hl) (pv 1) (pe_callB (c_len) (by rfl) T.n_len (by decide +kernel) (pa_cons (pv 0) (pa_nil))) (nomark _)) (pss_one (ps_ret (e_ix (pv 0) (pv 1)))) (pss_nil))
        (pss_one (ps_ret (pe_int)))
theorem ok__law_value (T : Top K mg A) : FnOk P w K mg base (L2.CX P w) 1 A.f__law_value A.d__law_value ["_law_cell", "_law_number"] (sp__law_value K A.ex) := by
  refine T.F__law_value.okX sc__law_value (fun vs H Q E h => len2 h) (fun cdv Ar outer s H vs Q E hr h => ⟨t__law_value K A.ex E, ?_, pure__law_value h⟩)
  have tk : Takes (cxOf (L2.CX P w) P w K mg base ["_law_cell", "_law_number", "_law_menu"] "_law_value" (defScope s__law_value) A.f__law_value cdv Ar outer s H E) (WB E) := takes_of rfl rfl rfl rfl
  exact pss_cons (ps_set (i := 2) sc__law_value.nd rfl (Or.inl rfl) (pe_lst (pa_cons (pe_bl) (pa_cons (pe_bl) (pa_cons (pe_non) (pa_cons (pe_str) (pa_cons (pe_str) (pa_cons (pe_tup (pa_cons (pe_int) (pa_cons (pe_int) (pa_nil)))) (pa_cons (pe_lst (pa_cons (pe_int) (pa_nil))) (pa_cons (pe_un o_neg (pe_int)) (pa_cons (pe_int) (pa_nil))))))))))))
        (pss_cons (ps_if (pt_cmpR (o_eq hr.units) (pe_op o_mod (pv 1) (pe_int)) (pe_int) (nomark _)) (pss_one (ps_ret (e_ix (pv 2) (pe_op o_mod (pe_op o_div (pv 1) (pe_int)) (pe_int))))) (pss_nil))
        (pss_cons (ps_if (pt_cmpR (o_eq hr.units) (pe_op o_mod (pv 1) (pe_int)) (pe_int) (nomark _)) (pss_one (ps_ret (pe_callTy (c_int) (by rfl) T.n_int (by decide +kernel) (pa_cons (pv 0) (pa_nil))))) (pss_nil))
        (pss_one (ps_ret (pe_callB (c_abs) (by rfl) T.n_abs (by decide +kernel) (pa_cons (pe_callTy (c_int) (by rfl) T.n_int (by decide +kernel) (pa_cons (pv 0) (pa_nil))) (pa_nil)))))))
theorem ok__law_is_word (T : Top K mg A) : FnOk P w K mg base (L2.CX P w) 1 A.f__law_is_word A.d__law_is_word ["_law_value_here"] (sp__law_is_word K A.ex) := by
  refine T.F__law_is_word.okX sc__law_is_word (fun vs H Q E h => len1 h) (fun cdv Ar outer s H vs Q E hr h => ⟨t__law_is_word K A.ex E, ?_, pure__law_is_word h⟩)
  have tk : Takes (cxOf (L2.CX P w) P w K mg base ["_law_value_here"] "_law_is_word" (defScope s__law_is_word) A.f__law_is_word cdv Ar outer s H E) (WB E) := takes_of rfl rfl rfl rfl
  have hu := hu_of hr
  have hl := Nat.lt_of_succ_lt hu
  exact pss_one (ps_ret (pe_and (pe_callB (c_isi .int) (by rfl) T.n_isinstance (by decide +kernel) (pa_cons (pv 0) (pa_cons (pe_bltn rfl T.n_int (by decide +kernel) rfl) (pa_nil)))) (pe_and (pe_not (pe_callB (c_isi .bool) (by rfl) T.n_isinstance (by decide +kernel) (pa_cons (pv 0) (pa_cons (pe_bltn rfl T.n_bool (by decide +kernel) rfl) (pa_nil))))) (pe_one (pe_cmpR (o_ge hl) (pv 0) (pe_int) (nomark _))))))
theorem ok__law_right (T : Top K mg A) : FnOk P w K mg base (L2.CX P w) 1 A.f__law_right A.d__law_right ["_law_told", "_law_due"] (sp__law_right K A.ex) := by
  refine T.F__law_right.okX sc__law_right (fun vs H Q E h => len2 h) (fun cdv Ar outer s H vs Q E hr h => ⟨t__law_right K A.ex E, ?_, pure__law_right h⟩)
  have tk : Takes (cxOf (L2.CX P w) P w K mg base ["_law_told", "_law_due"] "_law_right" (defScope s__law_right) A.f__law_right cdv Ar outer s H E) (WB E) := takes_of rfl rfl rfl rfl
  exact pss_one (ps_ret (pe_and (pe_callB (c_isi .bool) (by rfl) T.n_isinstance (by decide +kernel) (pa_cons (pv 0) (pa_cons (pe_bltn rfl T.n_bool (by decide +kernel) rfl) (pa_nil)))) (pe_one (pe_cmpR (o_eq hr.units) (pv 0) (pv 1) (nomark _)))))
theorem ok_law (T : Top K mg A) : FnOk P w K mg base (L2.CX P w) 3 A.f_law A.d_law ["_law_script"] (sp_law K A.ex) := by
  refine T.F_law.okX sc_law (fun vs H Q E h => len1 (show spLaw K vs H Q E from h)) (fun cdv Ar outer s H vs Q E hr h => ⟨t_law K A.ex E, ?_, pure_law h⟩)
  have tk : Takes (cxOf (L2.CX P w) P w K mg base ["_law_script", "_law_tape_here", "_law_cell", "_law_value_here", "_law_many", "_law_k", "_law_values", "_law_due", "_law_kept", "_law_size"] "law" (defScope s_law) A.f_law cdv Ar outer s H E) (WB E) := takes_of rfl rfl rfl rfl
  have po : PassesOwn (model P w) (cxOf (L2.CX P w) P w K mg base ["_law_script", "_law_tape_here", "_law_cell", "_law_value_here", "_law_many", "_law_k", "_law_values", "_law_due", "_law_kept", "_law_size"] "law" (defScope s_law) A.f_law cdv Ar outer s H E).A (cxOf (L2.CX P w) P w K mg base ["_law_script", "_law_tape_here", "_law_cell", "_law_value_here", "_law_many", "_law_k", "_law_values", "_law_due", "_law_kept", "_law_size"] "law" (defScope s_law) A.f_law cdv Ar outer s H E).env (cxOf (L2.CX P w) P w K mg base ["_law_script", "_law_tape_here", "_law_cell", "_law_value_here", "_law_many", "_law_k", "_law_values", "_law_due", "_law_kept", "_law_size"] "law" (defScope s_law) A.f_law cdv Ar outer s H E).xe := passes_of rfl
  have hu := hu_of hr
  exact pss_cons (ps_set (i := 1) sc_law.nd rfl (Or.inr rfl) (e_call (ok__law_tape T) (hr.mono (by decide)) T.g__law_tape T.F__law_tape.kp T.b__law_tape tk (pa_cons (pv 0) (pa_nil))))
        (pss_cons (ps_set (i := 2) sc_law.nd rfl (Or.inl rfl) (pe_int))
        (pss_cut (ps_if (pt_cmpR (o_gt) (pe_callB (c_len) (by rfl) T.n_len (by decide +kernel) (pa_cons (pv 0) (pa_nil))) (pe_int) (nomark _)) (pss_one (ps_set (i := 2) sc_law.nd rfl (Or.inl rfl) (e_ix (pv 0) (pe_int)))) (pss_nil))
        (pss_cons (ps_set (i := 3) sc_law.nd rfl (Or.inl rfl) (e_call (ok__law_value T) (hr.mono (by decide)) T.g__law_value T.F__law_value.kp T.b__law_value tk (pa_cons (pv 2) (pa_cons (e_call (ok__law_at T) (hr.mono (by decide)) T.g__law_at T.F__law_at.kp T.b__law_at tk (pa_cons (pv 1) (pa_cons (pe_int) (pa_nil)))) (pa_nil)))))
        (pss_cons (ps_if (pt_not (t_tru (e_call (ok__law_right T) (hr.mono (by decide)) T.g__law_right T.F__law_right.kp T.b__law_right tk (pa_cons (e_call (ok_is_word T) (hr.mono (by decide)) T.g_is_word T.F_is_word.kp T.b_is_word tk (pa_cons (pv 3) (pa_nil))) (pa_cons (e_call (ok__law_is_word T) (hr.mono (by decide)) T.g__law_is_word T.F__law_is_word.kp T.b__law_is_word tk (pa_cons (pv 3) (pa_nil))) (pa_nil)))))) (pss_one (ps_ret (pe_bl))) (pss_nil))
        (pss_cons (ps_set (i := 4) sc_law.nd rfl (Or.inl rfl) (pe_op o_mod (e_call (ok__law_at T) (hr.mono (by decide)) T.g__law_at T.F__law_at.kp T.b__law_at tk (pa_cons (pv 1) (pa_cons (pe_int) (pa_nil)))) (pe_int)))
        (pss_cut (ps_if (pt_cmpR (o_eq hr.units) (pe_op o_mod (e_call (ok__law_at T) (hr.mono (by decide)) T.g__law_at T.F__law_at.kp T.b__law_at tk (pa_cons (pv 1) (pa_cons (pe_int) (pa_nil)))) (pe_int)) (pe_int) (nomark _)) (pss_one (ps_set (i := 4) sc_law.nd rfl (Or.inl rfl) (e_ix (pe_lst (pa_cons (pe_int) (pa_cons (pe_int) (pa_cons (pe_int) (pa_cons (pe_int) (pa_nil)))))) (pe_op o_mod (e_call (ok__law_at T) (hr.mono (by decide)) T.g__law_at T.F__law_at.kp T.b__law_at tk (pa_cons (pv 1) (pa_cons (pe_int) (pa_nil)))) (pe_int))))) (pss_nil))
        (pss_cons (ps_setLc (i := 6) (own := [("_law_k", 5)]) (by rfl) sc_law.nd rfl rfl (sw_true rfl rfl rfl (by decide +kernel)) (pi_range1 (by rfl) T.n_range (pa_cons (pv 4) (pa_nil))) (blkOk_by (N := ["_law_script", "_law_tape_here", "_law_cell", "_law_value_here", "_law_many", "_law_k", "_law_values", "_law_due", "_law_kept", "_law_size"]) (sc := defScope s_law) (by decide +kernel)) (fun _ _ _ _ _ => pg_name (i := 5) sc_law.nd rfl (Or.inl rfl)) (fun _ _ _ _ _ => pts_nil) (fun _ _ _ _ _ => e_call (ok__law_at T) (hr.mono (by decide)) T.g__law_at T.F__law_at.kp T.b__law_at takes0 (pa_cons (pv 1) (pa_cons (pe_op o_add (pe_int) (pv 5)) (pa_nil)))))
        (pss_cons (ps_set (i := 7) sc_law.nd rfl (Or.inl rfl) (pe_bl))
        (pss_cut (ps_if (PW.pt (pw_and (pt_cmpR (o_gt) (pv 4) (pe_int) (nomark _)) (pw_and1 (pt_cmpR (o_eq hr.units) (pe_op o_mod (e_call (ok__law_at T) (hr.mono (by decide)) T.g__law_at T.F__law_at.kp T.b__law_at tk (pa_cons (pv 1) (pa_cons (pe_int) (pa_nil)))) (pe_int)) (pe_int) (nomark _))))) (pss_cons (ps_asg (pv 3) (pg_sub (pv 6) (pe_op o_mod (e_call (ok__law_at T) (hr.mono (by decide)) T.g__law_at T.F__law_at.kp T.b__law_at tk (pa_cons (pv 1) (pa_cons (pe_int) (pa_nil)))) (pv 4)) (set_u hu)))
        (pss_one (ps_set (i := 7) sc_law.nd rfl (Or.inl rfl) (e_call (ok__law_is_word T) (hr.mono (by decide)) T.g__law_is_word T.F__law_is_word.kp T.b__law_is_word tk (pa_cons (pv 3) (pa_nil)))))) (pss_nil))
        (pss_cons (ps_set (i := 8) sc_law.nd rfl (Or.inl rfl) (pe_callTy (c_list) (by rfl) T.n_list (by decide +kernel) (pa_cons (pv 6) (pa_nil))))
        (pss_cons (ps_for po rfl (pi_list (pe_lst (pa_cons (pv 4) (pa_cons (pe_op o_add (pv 4) (pe_int)) (pa_cons (pe_op o_sub (pv 4) (pe_int)) (pa_cons (pe_int) (pa_cons (pe_int) (pa_nil)))))))) (pg_name (i := 9) sc_law.nd rfl (Or.inl rfl))
        (pss_one (ps_if (pt_not (t_tru (e_call (ok__law_right T) (hr.mono (by decide)) T.g__law_right T.F__law_right.kp T.b__law_right tk (pa_cons (e_call (ok_are_words T) (hr.mono (by decide)) T.g_are_words T.F_are_words.kp T.b_are_words tk (pa_cons (pv 6) (pa_cons (pv 9) (pa_nil)))) (pa_cons (pe_and (pv 7) (pe_one (pe_cmpR (o_eq hr.units) (pv 9) (pv 4) (nomark _)))) (pa_nil)))))) (pss_one (ps_ret (pe_bl))) (pss_nil))))
        (pss_cons (ps_if (pt_cmpR (o_ne hr.units) (pe_callB (c_len) (by rfl) T.n_len (by decide +kernel) (pa_cons (pv 6) (pa_nil))) (pe_callB (c_len) (by rfl) T.n_len (by decide +kernel) (pa_cons (pv 8) (pa_nil))) (nomark _)) (pss_one (ps_ret (pe_bl))) (pss_nil))
        (pss_cons (ps_for po rfl (pi_range1 (by rfl) T.n_range (pa_cons (pe_callB (c_len) (by rfl) T.n_len (by decide +kernel) (pa_cons (pv 8) (pa_nil))) (pa_nil))) (pg_name (i := 5) sc_law.nd rfl (Or.inl rfl))
        (pss_one (ps_if (PW.pt (pw_or (pt_cmpR (o_ne hr.units) (pe_callB (c_isi .bool) (by rfl) T.n_isinstance (by decide +kernel) (pa_cons (e_ix (pv 6) (pv 5)) (pa_cons (pe_bltn rfl T.n_bool (by decide +kernel) rfl) (pa_nil)))) (pe_callB (c_isi .bool) (by rfl) T.n_isinstance (by decide +kernel) (pa_cons (e_ix (pv 8) (pv 5)) (pa_cons (pe_bltn rfl T.n_bool (by decide +kernel) rfl) (pa_nil)))) (nomark _)) (pw_or1 (pt_cmpR (o_ne hr.units) (e_ix (pv 6) (pv 5)) (e_ix (pv 8) (pv 5)) (nomark _))))) (pss_one (ps_ret (pe_bl))) (pss_nil))))
        (pss_one (ps_ret (pe_and (e_call (ok__law_right T) (hr.mono (by decide)) T.g__law_right T.F__law_right.kp T.b__law_right tk (pa_cons (e_call (ok_are_words T) (hr.mono (by decide)) T.g_are_words T.F_are_words.kp T.b_are_words tk (pa_cons (pe_callTy (c_tuple) (by rfl) T.n_tuple (by decide +kernel) (pa_cons (pv 6) (pa_nil))) (pa_cons (pv 4) (pa_nil)))) (pa_cons (pe_bl) (pa_nil)))) (pe_one (e_call (ok__law_right T) (hr.mono (by decide)) T.g__law_right T.F__law_right.kp T.b__law_right tk (pa_cons (e_call (ok_are_words T) (hr.mono (by decide)) T.g_are_words T.F_are_words.kp T.b_are_words tk (pa_cons (pv 3) (pa_cons (pe_int) (pa_nil)))) (pa_cons (pe_cmpR (o_eq hr.units) (pv 3) (pe_lst (pa_cons (pe_int) (pa_nil))) (nomark _)) (pa_nil)))))))))))))))))))))
end
theorem all_mk {P : Program} {w : World} {K : PySem.W.Frag} {h : Heap} {mg : Str → Option Value} {fa : Addr} (X : K.In h) (G : h.Ns mainGlobals mg) (hfa : mg "law" = some (.ref fa))
    {f_is_word f_are_words f__law_tape f__law_at f__law_value f__law_is_word f__law_right f_law : Addr}
    {od_is_word an_is_word : Option Addr} {sl_is_word : Array (Option Value)} {oc_is_word kV_is_word dc_is_word pm_is_word cd_is_word ct_is_word : Value}
    {od_are_words an_are_words : Option Addr} {sl_are_words : Array (Option Value)} {oc_are_words kV_are_words dc_are_words pm_are_words cd_are_words ct_are_words : Value}
    {od__law_tape an__law_tape : Option Addr} {sl__law_tape : Array (Option Value)} {oc__law_tape kV__law_tape dc__law_tape pm__law_tape cd__law_tape ct__law_tape : Value}
    {od__law_at an__law_at : Option Addr} {sl__law_at : Array (Option Value)} {oc__law_at kV__law_at dc__law_at pm__law_at cd__law_at ct__law_at : Value}
    {od__law_value an__law_value : Option Addr} {sl__law_value : Array (Option Value)} {oc__law_value kV__law_value dc__law_value pm__law_value cd__law_value ct__law_value : Value}
    {od__law_is_word an__law_is_word : Option Addr} {sl__law_is_word : Array (Option Value)} {oc__law_is_word kV__law_is_word dc__law_is_word pm__law_is_word cd__law_is_word ct__law_is_word : Value}
    {od__law_right an__law_right : Option Addr} {sl__law_right : Array (Option Value)} {oc__law_right kV__law_right dc__law_right pm__law_right cd__law_right ct__law_right : Value}
    {od_law an_law : Option Addr} {sl_law : Array (Option Value)} {oc_law kV_law dc_law pm_law cd_law ct_law : Value}
    (a_is_word : PySem.W.nsIn K mainGlobals "is_word" = some (some (.ref f_is_word)))
    (l_is_word : K.lookup f_is_word = some ⟨oc_is_word, od_is_word, .func (PySem.W.fnOf "is_word" "is_word" (defArgs s_is_word) (defBody s_is_word) (defScope s_is_word) .none kV_is_word dc_is_word pm_is_word an_is_word cd_is_word ct_is_word), sl_is_word⟩)
    (c_is_word : PySem.W.codeIn K cd_is_word "is_word" = true)
    (k_is_word : PySem.W.keepIn K (.ref f_is_word) = true)
    (a_are_words : PySem.W.nsIn K mainGlobals "are_words" = some (some (.ref f_are_words)))
    (l_are_words : K.lookup f_are_words = some ⟨oc_are_words, od_are_words, .func (PySem.W.fnOf "are_words" "are_words" (defArgs s_are_words) (defBody s_are_words) (defScope s_are_words) .none kV_are_words dc_are_words pm_are_words an_are_words cd_are_words ct_are_words), sl_are_words⟩)
    (c_are_words : PySem.W.codeIn K cd_are_words "are_words" = true)
    (k_are_words : PySem.W.keepIn K (.ref f_are_words) = true)
    (a__law_tape : PySem.W.nsIn K mainGlobals "_law_tape" = some (some (.ref f__law_tape)))
    (l__law_tape : K.lookup f__law_tape = some ⟨oc__law_tape, od__law_tape, .func (PySem.W.fnOf "_law_tape" "_law_tape" (defArgs s__law_tape) (defBody s__law_tape) (defScope s__law_tape) .none kV__law_tape dc__law_tape pm__law_tape an__law_tape cd__law_tape ct__law_tape), sl__law_tape⟩)
    (c__law_tape : PySem.W.codeIn K cd__law_tape "_law_tape" = true)
    (k__law_tape : PySem.W.keepIn K (.ref f__law_tape) = true)
    (a__law_at : PySem.W.nsIn K mainGlobals "_law_at" = some (some (.ref f__law_at)))
    (l__law_at : K.lookup f__law_at = some ⟨oc__law_at, od__law_at, .func (PySem.W.fnOf "_law_at" "_law_at" (defArgs s__law_at) (defBody s__law_at) (defScope s__law_at) .none kV__law_at dc__law_at pm__law_at an__law_at cd__law_at ct__law_at), sl__law_at⟩)
    (c__law_at : PySem.W.codeIn K cd__law_at "_law_at" = true)
    (k__law_at : PySem.W.keepIn K (.ref f__law_at) = true)
    (a__law_value : PySem.W.nsIn K mainGlobals "_law_value" = some (some (.ref f__law_value)))
    (l__law_value : K.lookup f__law_value = some ⟨oc__law_value, od__law_value, .func (PySem.W.fnOf "_law_value" "_law_value" (defArgs s__law_value) (defBody s__law_value) (defScope s__law_value) .none kV__law_value dc__law_value pm__law_value an__law_value cd__law_value ct__law_value), sl__law_value⟩)
    (c__law_value : PySem.W.codeIn K cd__law_value "_law_value" = true)
    (k__law_value : PySem.W.keepIn K (.ref f__law_value) = true)
    (a__law_is_word : PySem.W.nsIn K mainGlobals "_law_is_word" = some (some (.ref f__law_is_word)))
    (l__law_is_word : K.lookup f__law_is_word = some ⟨oc__law_is_word, od__law_is_word, .func (PySem.W.fnOf "_law_is_word" "_law_is_word" (defArgs s__law_is_word) (defBody s__law_is_word) (defScope s__law_is_word) .none kV__law_is_word dc__law_is_word pm__law_is_word an__law_is_word cd__law_is_word ct__law_is_word), sl__law_is_word⟩)
    (c__law_is_word : PySem.W.codeIn K cd__law_is_word "_law_is_word" = true)
    (k__law_is_word : PySem.W.keepIn K (.ref f__law_is_word) = true)
    (a__law_right : PySem.W.nsIn K mainGlobals "_law_right" = some (some (.ref f__law_right)))
    (l__law_right : K.lookup f__law_right = some ⟨oc__law_right, od__law_right, .func (PySem.W.fnOf "_law_right" "_law_right" (defArgs s__law_right) (defBody s__law_right) (defScope s__law_right) .none kV__law_right dc__law_right pm__law_right an__law_right cd__law_right ct__law_right), sl__law_right⟩)
    (c__law_right : PySem.W.codeIn K cd__law_right "_law_right" = true)
    (k__law_right : PySem.W.keepIn K (.ref f__law_right) = true)
    (a_law : PySem.W.nsIn K mainGlobals "law" = some (some (.ref f_law)))
    (l_law : K.lookup f_law = some ⟨oc_law, od_law, .func (PySem.W.fnOf "law" "law" (defArgs s_law) (defBody s_law) (defScope s_law) .none kV_law dc_law pm_law an_law cd_law ct_law), sl_law⟩)
    (c_law : PySem.W.codeIn K cd_law "law" = true)
    (k_law : PySem.W.keepIn K (.ref f_law) = true)
    (n_abs : PySem.W.nsIn K mainGlobals "abs" = some none)
    (n_bool : PySem.W.nsIn K mainGlobals "bool" = some none)
    (n_int : PySem.W.nsIn K mainGlobals "int" = some none)
    (n_isinstance : PySem.W.nsIn K mainGlobals "isinstance" = some none)
    (n_len : PySem.W.nsIn K mainGlobals "len" = some none)
    (n_list : PySem.W.nsIn K mainGlobals "list" = some none)
    (n_range : PySem.W.nsIn K mainGlobals "range" = some none)
    (n_tuple : PySem.W.nsIn K mainGlobals "tuple" = some none) :
    ∃ fd : FuncData, (∀ (s : Shared) (v : Value), BindsTo s fd ⟨[v], []⟩ [("_law_script", v)]) ∧ ∀ base : Heap, K.In base → base.Ns mainGlobals mg → FnOk P w K mg base (L2.CX P w) 3 fa fd ["_law_script"] (spLaw K) := by
  have e := hfa.symm.trans (PySem.W.mg_of X G a_law)
  cases e
  have F_is_word := fun_mk (st := s_is_word) l_is_word c_is_word k_is_word
  have F_are_words := fun_mk (st := s_are_words) l_are_words c_are_words k_are_words
  have F__law_tape := fun_mk (st := s__law_tape) l__law_tape c__law_tape k__law_tape
  have F__law_at := fun_mk (st := s__law_at) l__law_at c__law_at k__law_at
  have F__law_value := fun_mk (st := s__law_value) l__law_value c__law_value k__law_value
  have F__law_is_word := fun_mk (st := s__law_is_word) l__law_is_word c__law_is_word k__law_is_word
  have F__law_right := fun_mk (st := s__law_right) l__law_right c__law_right k__law_right
  have F_law := fun_mk (st := s_law) l_law c_law k_law
  let A : Adr := {
    ex := { },
    f_is_word := f_is_word, d_is_word := PySem.W.fnOf "is_word" "is_word" (defArgs s_is_word) (defBody s_is_word) (defScope s_is_word) .none kV_is_word dc_is_word pm_is_word an_is_word cd_is_word ct_is_word,
    f_are_words := f_are_words, d_are_words := PySem.W.fnOf "are_words" "are_words" (defArgs s_are_words) (defBody s_are_words) (defScope s_are_words) .none kV_are_words dc_are_words pm_are_words an_are_words cd_are_words ct_are_words,
    f__law_tape := f__law_tape, d__law_tape := PySem.W.fnOf "_law_tape" "_law_tape" (defArgs s__law_tape) (defBody s__law_tape) (defScope s__law_tape) .none kV__law_tape dc__law_tape pm__law_tape an__law_tape cd__law_tape ct__law_tape,
    f__law_at := f__law_at, d__law_at := PySem.W.fnOf "_law_at" "_law_at" (defArgs s__law_at) (defBody s__law_at) (defScope s__law_at) .none kV__law_at dc__law_at pm__law_at an__law_at cd__law_at ct__law_at,
    f__law_value := f__law_value, d__law_value := PySem.W.fnOf "_law_value" "_law_value" (defArgs s__law_value) (defBody s__law_value) (defScope s__law_value) .none kV__law_value dc__law_value pm__law_value an__law_value cd__law_value ct__law_value,
    f__law_is_word := f__law_is_word, d__law_is_word := PySem.W.fnOf "_law_is_word" "_law_is_word" (defArgs s__law_is_word) (defBody s__law_is_word) (defScope s__law_is_word) .none kV__law_is_word dc__law_is_word pm__law_is_word an__law_is_word cd__law_is_word ct__law_is_word,
    f__law_right := f__law_right, d__law_right := PySem.W.fnOf "_law_right" "_law_right" (defArgs s__law_right) (defBody s__law_right) (defScope s__law_right) .none kV__law_right dc__law_right pm__law_right an__law_right cd__law_right ct__law_right,
    f_law := fa, d_law := PySem.W.fnOf "law" "law" (defArgs s_law) (defBody s_law) (defScope s_law) .none kV_law dc_law pm_law an_law cd_law ct_law }
  have T : Top K mg A := {
    F_is_word := F_is_word,
    b_is_word := F_is_word.binds (ps := ["value"]) fun _ _ _ _ _ _ us hl => match us, hl with | [_], _ => rfl,
    g_is_word := PySem.W.mg_of X G a_is_word,
    F_are_words := F_are_words,
    b_are_words := F_are_words.binds (ps := ["values", "many"]) fun _ _ _ _ _ _ us hl => match us, hl with | [_, _], _ => rfl,
    g_are_words := PySem.W.mg_of X G a_are_words,
    F__law_tape := F__law_tape,
    b__law_tape := F__law_tape.binds (ps := ["_law_script"]) fun _ _ _ _ _ _ us hl => match us, hl with | [_], _ => rfl,
    g__law_tape := PySem.W.mg_of X G a__law_tape,
    F__law_at := F__law_at,
    b__law_at := F__law_at.binds (ps := ["_law_tape_here", "_law_k"]) fun _ _ _ _ _ _ us hl => match us, hl with | [_, _], _ => rfl,
    g__law_at := PySem.W.mg_of X G a__law_at,
    F__law_value := F__law_value,
    b__law_value := F__law_value.binds (ps := ["_law_cell", "_law_number"]) fun _ _ _ _ _ _ us hl => match us, hl with | [_, _], _ => rfl,
    g__law_value := PySem.W.mg_of X G a__law_value,
    F__law_is_word := F__law_is_word,
    b__law_is_word := F__law_is_word.binds (ps := ["_law_value_here"]) fun _ _ _ _ _ _ us hl => match us, hl with | [_], _ => rfl,
    g__law_is_word := PySem.W.mg_of X G a__law_is_word,
    F__law_right := F__law_right,
    b__law_right := F__law_right.binds (ps := ["_law_told", "_law_due"]) fun _ _ _ _ _ _ us hl => match us, hl with | [_, _], _ => rfl,
    g__law_right := PySem.W.mg_of X G a__law_right,
    F_law := F_law,
    b_law := F_law.binds (ps := ["_law_script"]) fun _ _ _ _ _ _ us hl => match us, hl with | [_], _ => rfl,
    g_law := PySem.W.mg_of X G a_law,
    n_abs := PySem.W.mg_none_of X G n_abs,
    n_bool := PySem.W.mg_none_of X G n_bool,
    n_int := PySem.W.mg_none_of X G n_int,
    n_isinstance := PySem.W.mg_none_of X G n_isinstance,
    n_len := PySem.W.mg_none_of X G n_len,
    n_list := PySem.W.mg_none_of X G n_list,
    n_range := PySem.W.mg_none_of X G n_range,
    n_tuple := PySem.W.mg_none_of X G n_tuple }
  exact ⟨_, fun s v => .of_eq rfl, fun base _ _ => ok_law (A := A) T⟩
theorem walk {l : PySem.W.OpenLaw} {q : Program} {loose : List Str} {XP : (Str → Option Value) → Heap → Prop} {YP : World → Heap → Prop} {d : DefRec} {K : Params → PySem.W.Frag} (hn : l.most = some 63) (hdf : d.params.defaults = [])
    (hY : ∀ (w : World) (h : Heap), YP w h → (K w.params).In h)
    (F : ∀ (w : World) (mg : Str → Option Value) (fa : Addr) (h : Heap), (K w.params).In h → h.Ns mainGlobals mg → mg d.name = some (.ref fa) →
      ∃ fd : FuncData, (∀ (s : Shared) (u : Value), BindsTo s fd ⟨[u], []⟩ [("_law_script", u)]) ∧ ∀ base : Heap, (K w.params).In base → base.Ns mainGlobals mg → FnOk l.prog w (K w.params) mg base (L2.CX l.prog w) 3 fa fd ["_law_script"] (spLaw (K w.params))) :
    PySem.W.WalkO q loose XP YP l.row.toRowW d [] (fun f vs => PySem.call f vs) :=
  L2.walk_of (n := 63) (k := 3) (x := "_law_script") (CX := fun w => L2.CX l.prog w) (sp := fun w => spLaw (K w.params)) hn (by decide) hdf ⟨rfl, by decide, by decide⟩ hY F (fun _ _ a ns hl _ hS => ⟨_, rfl, a, ns, rfl, hS, hl, fun _ => rfl⟩) fun _ _ _ _ _ ⟨_, _, _, _, _, _, _, _, _, _, _, _, z⟩ => z
end Lam
open PySem PySem.W PyProof.Rows
set_option maxRecDepth 100000 in
set_option maxHeartbeats 0 in
theorem PySem.Challenge.cw_laminae_k03_words_holds : PySem.Challenge.rw_laminae_k03_words.Holds := by
  w_on; o_law; k_head; (case hw => w_witness2)
  k_fill
  refine Lam.walk (l := PySem.Challenge.rw_laminae_k03_words) rfl rfl (fun w h Y => PySem.W.kIn_of Y) ?F
  case F =>
    intro w mg fa h KX G hmg
    refine' Lam.all_mk KX G hmg ?a_is_word ?l_is_word ?c_is_word ?k_is_word ?a_are_words ?l_are_words ?c_are_words ?k_are_words ?a__law_tape ?l__law_tape ?c__law_tape ?k__law_tape ?a__law_at ?l__law_at ?c__law_at ?k__law_at ?a__law_value ?l__law_value ?c__law_value ?k__law_value ?a__law_is_word ?l__law_is_word ?c__law_is_word ?k__law_is_word ?a__law_right ?l__law_right ?c__law_right ?k__law_right ?a_law ?l_law ?c_law ?k_law ?n_abs ?n_bool ?n_int ?n_isinstance ?n_len ?n_list ?n_range ?n_tuple
    (case a_is_word => k_is); (case l_is_word => k_is); (case c_is_word => k_is); (case k_is_word => k_is); (case a_are_words => k_is); (case l_are_words => k_is)
    (case c_are_words => k_is); (case k_are_words => k_is); (case a__law_tape => k_is); (case l__law_tape => k_is); (case c__law_tape => k_is); (case k__law_tape => k_is)
    (case a__law_at => k_is); (case l__law_at => k_is); (case c__law_at => k_is); (case k__law_at => k_is); (case a__law_value => k_is); (case l__law_value => k_is)
    (case c__law_value => k_is); (case k__law_value => k_is); (case a__law_is_word => k_is); (case l__law_is_word => k_is); (case c__law_is_word => k_is); (case k__law_is_word => k_is)
    (case a__law_right => k_is); (case l__law_right => k_is); (case c__law_right => k_is); (case k__law_right => k_is); (case a_law => k_is); (case l_law => k_is)
    (case c_law => k_is); (case k_law => k_is); (case n_abs => k_is); (case n_bool => k_is); (case n_int => k_is); (case n_isinstance => k_is)
    (case n_len => k_is); (case n_list => k_is); (case n_range => k_is); (case n_tuple => k_is)
#print axioms PySem.Challenge.cw_laminae_k03_words_holds
