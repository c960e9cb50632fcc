import PyProof.Rows.All
import Wide.All
import OpenK.AllK
import Wide.FinOn
import HandS.ForMost
import HandS.ForExc
import HandS.TupLe
import HandS.IsInst
import HandS.Small
import HandS.Wide
import HandS.ExcIs
import HandS.DictComp
import HandS.Rev
import HandS.Codes
import HandS.HotCalls
import HandS.SortInts
import KE.Datum
import PySem.Challenge.RW_laminae_k21_space
set_option Elab.async false
set_option linter.all false
set_option maxRecDepth 100000
set_option maxHeartbeats 4000000
namespace U
open PySem PySem.Spec PyProof.Rows L2
section weaken
variable {X : Cx}
theorem orR {f : Value → Value → Sem Value} {r r' : R2} (h : OpR X f r) (g : OpR X f r') : OpR X f (fun x y H Q => r x y H Q ∨ r' x y H Q) :=
  fun pins s σ H x y v u Q I rx ry q => q.elim (h pins s σ H x y v u Q I rx ry) (g pins s σ H x y v u Q I rx ry)
theorem wR {f : Value → Value → Sem Value} {r r' : R2} (h : OpR X f r) (k : ∀ x y H Q, r' x y H Q → r x y H Q) : OpR X f r' :=
  fun pins s σ H x y v u Q I rx ry q => h pins s σ H x y v u Q I rx ry (k _ _ _ _ q)
theorem wC {f : Value} {r r' : List V → Hp → VK → Prop} (h : CallR X f r) (k : ∀ xs H Q, r' xs H Q → r xs H Q) : CallR X f r' :=
  fun pins s σ H xs us Q I rx q => h pins s σ H xs us Q I rx (k _ _ _ q)
theorem orC {f : Value} {r r' : List V → Hp → VK → Prop} (h : CallR X f r) (g : CallR X f r') : CallR X f (fun xs H Q => r xs H Q ∨ r' xs H Q) :=
  fun pins s σ H xs us Q I rx q => q.elim (h pins s σ H xs us Q I rx) (g pins s σ H xs us Q I rx)
end weaken
def tCut (t u : TS) : TS := C8.tCut t u
theorem pss_cut {X : Cx} {st : Stmt} {rest : List Stmt} {t u : TS} (h1 : PS X st t) (h2 : PSs X rest u) : PSs X (st :: rest) (tCut t u) := C8.pss_cut h1 h2
section ops
variable {X : Cx}
/-- text times number -/
theorem op_strmul : OpR X (binaryOp .Mult) (fun x y H Q => ∃ (z : Str) (n : Int), x = .str z ∧ y = .int n ∧ MulOk z n ∧ Q (.str (Txt.mul z n)) H) := by
  intro pins s σ H x y v u Q I rx ry h
  obtain ⟨z, n, rfl, rfl, ok, q⟩ := h
  obtain ⟨t, rfl⟩ := rx
  obtain ⟨t', rfl⟩ := ry
  exact SB.mul ok fun t1 k => ⟨.str (Txt.mul z n), H, I.tok _, ⟨_, rfl⟩, q⟩
def uAdd (K : PySem.W.Frag) : R2 := fun x y H Q => match x, y with
  | .int i, .int j => Q (.int (i + j)) H
  | .str i, .str j => i.length + j.length ≤ sizeLine ∧ Q (.str (i ++ j)) H
  | .ref a, .ref b => rCat (.ref a) (.ref b) H Q ∨ rCatT K (.ref a) (.ref b) H Q
  | _, _ => False
theorem o_add : OpR X (binaryOp .Add) (uAdd X.K) := by
  refine wR (orR op_add (orR op_add_str (orR op_cat op_catT))) fun x y H Q q => ?_
  unfold uAdd at q
  split at q
  · exact .inl ⟨_, _, rfl, rfl, q⟩
  · exact .inr (.inl ⟨_, _, rfl, rfl, q⟩)
  · exact .inr (.inr q)
  · exact q.elim
def uSub : R2 := fun x y H Q => match x, y with
  | .int i, .int j => Q (.int (i - j)) H
  | _, _ => False
theorem o_sub : OpR X (binaryOp .Sub) uSub := by
  refine wR op_sub fun x y H Q q => ?_
  unfold uSub at q
  split at q
  · exact ⟨_, _, rfl, rfl, q⟩
  · exact q.elim
def uMul : R2 := fun x y H Q => match x, y with
  | .int i, .int j => (CMul i j ∨ CMulW i j) ∧ Q (.int (i * j)) H
  | .str z, .int n => MulOk z n ∧ Q (.str (Txt.mul z n)) H
  | .ref a, .int n => rRep (.ref a) (.int n) H Q
  | _, _ => False
theorem o_mul : OpR X (binaryOp .Mult) uMul := by
  refine wR (orR op_mul (orR op_mulW (orR op_strmul op_rep))) fun x y H Q q => ?_
  unfold uMul at q
  split at q
  · obtain ⟨c | c, q⟩ := q
    · exact .inl ⟨_, _, rfl, rfl, c, q⟩
    · exact .inr (.inl ⟨_, _, rfl, rfl, c, q⟩)
  · exact .inr (.inr (.inl ⟨_, _, rfl, rfl, q⟩))
  · exact .inr (.inr (.inr q))
  · exact q.elim
def uDiv : R2 := fun x y H Q => match x, y with
  | .int i, .int j => (0 < j ∧ j < 2 ^ 200) ∧ Q (.int (i / j)) H
  | _, _ => False
theorem o_div : OpR X (binaryOp .FloorDiv) uDiv := by
  refine wR op_fdivW fun x y H Q q => ?_
  unfold uDiv at q
  split at q
  · obtain ⟨⟨c1, c2⟩, q⟩ := q
    exact ⟨_, _, rfl, rfl, wide_div (b := 200) c1 (by omega) (by decide) (by decide), q⟩
  · exact q.elim
def uMod : R2 := fun x y H Q => match x, y with
  | .int i, .int j => 0 < j ∧ Q (.int (i % j)) H
  | _, _ => False
theorem o_mod : OpR X (binaryOp .Mod) uMod := by
  refine wR op_mod fun x y H Q q => ?_
  unfold uMod at q
  split at q
  · exact ⟨_, _, rfl, rfl, q⟩
  · exact q.elim
def uPow : R2 := fun x y H Q => match x, y with
  | .int i, .int j => CPow i j ∧ Q (.int (i ^ j.toNat)) H
  | _, _ => False
theorem o_pow : OpR X (binaryOp .Pow) uPow := by
  refine wR op_pow fun x y H Q q => ?_
  unfold uPow at q
  split at q
  · exact ⟨_, _, rfl, rfl, q⟩
  · exact q.elim
def uNeg : V → Hp → VK → Prop := fun x H Q => match x with
  | .int i => Q (.int (-i)) H
  | _ => False
theorem o_neg : UnR X (unaryOp .USub) uNeg := fun pins s σ H x v Q I rx q => by
  unfold uNeg at q
  split at q
  · exact un_neg pins s σ H _ v Q I rx ⟨_, rfl, q⟩
  · exact q.elim
/-- == of data without dicts -/
def rEqP (K : PySem.W.Frag) : R2 := fun x y H Q => ∃ d e, Dp K H x d ∧ Dp K H y e ∧ (d.plain = true ∧ d.depth ≤ 60) ∧ e.plain = true ∧ Q (.bl (PyData.eqv d e)) H
def rNeP (K : PySem.W.Frag) : R2 := fun x y H Q => ∃ d e, Dp K H x d ∧ Dp K H y e ∧ (d.plain = true ∧ d.depth ≤ 60) ∧ e.plain = true ∧ Q (.bl (!PyData.eqv d e)) H
theorem op_eqP (hu : X.A.units + 64 < cLine) : OpR X (compareOp .Eq) (rEqP X.K) := by
  intro pins s σ H x y v u Q I rx ry h
  obtain ⟨d, e, hd, he, ⟨p1, dp⟩, p2, q⟩ := h
  obtain ⟨as, r1⟩ := Dp.reads I d x v hd rx
  obtain ⟨bs, r2⟩ := Dp.reads I e y u he ry
  exact PySem.SeqAt.eq_plain r1 r2 p1 p2 (by have := Nat.min_le_left d.depth e.depth; omega) ⟨.bl _, H, I, rfl, q⟩
theorem op_neP (hu : X.A.units + 64 < cLine) : OpR X (compareOp .NotEq) (rNeP X.K) := by
  intro pins s σ H x y v u Q I rx ry h
  obtain ⟨d, e, hd, he, ⟨p1, dp⟩, p2, q⟩ := h
  obtain ⟨as, r1⟩ := Dp.reads I d x v hd rx
  obtain ⟨bs, r2⟩ := Dp.reads I e y u he ry
  exact PySem.SeqAt.ne_plain r1 r2 p1 p2 (by have := Nat.min_le_left d.depth e.depth; omega) ⟨.bl _, H, I, rfl, q⟩
theorem d_int (i j : Int) : decide (V.int i = V.int j) = decide (i = j) := decide_eq_decide.mpr ⟨fun h => V.int.inj h, fun h => h ▸ rfl⟩
theorem d_str (i j : Str) : decide (V.str i = V.str j) = decide (i = j) := decide_eq_decide.mpr ⟨fun h => V.str.inj h, fun h => h ▸ rfl⟩
theorem d_bl (i j : Bool) : decide (V.bl i = V.bl j) = decide (i = j) := decide_eq_decide.mpr ⟨fun h => V.bl.inj h, fun h => h ▸ rfl⟩
/-- the same value, of two scalars -/
def sameS : V → V → Bool
  | .non, .non => true
  | .int i, .int j => decide (i = j)
  | .str i, .str j => decide (i = j)
  | .bl i, .bl j => decide (i = j)
  | .byt i, .byt j => decide (i = j)
  | _, _ => false
theorem sameS_eq {x y : V} (h : scal x y = true) : decide (x = y) = sameS x y := by
  cases x <;> cases y <;> first
    | (cases h; done)
    | exact d_int _ _
    | exact d_str _ _
    | exact d_bl _ _
    | rfl
    | (exact decide_eq_decide.mpr ⟨fun h => V.byt.inj h, fun h => h ▸ rfl⟩)
    | (exact decide_eq_false (fun q => nomatch q))
def uEq (K : PySem.W.Frag) : R2 := fun x y H Q => match x, y with
  | .int i, .int j => Q (.bl (decide (i = j))) H
  | .str i, .str j => Q (.bl (decide (i = j))) H
  | .bl i, .bl j => Q (.bl (decide (i = j))) H
  | x, y => (scal x y = true ∧ Q (.bl (sameS x y)) H) ∨ rEqP K x y H Q
theorem o_eq (hu : X.A.units + 64 < cLine) : OpR X (compareOp .Eq) (uEq X.K) := by
  refine wR (orR op_eq (op_eqP hu)) fun x y H Q q => ?_
  unfold uEq at q
  split at q
  · exact .inl ⟨rfl, (d_int _ _).symm ▸ q⟩
  · exact .inl ⟨rfl, (d_str _ _).symm ▸ q⟩
  · exact .inl ⟨rfl, (d_bl _ _).symm ▸ q⟩
  · rcases q with ⟨h, q⟩ | q
    · exact .inl ⟨h, (sameS_eq h).symm ▸ q⟩
    · exact .inr q
def uNe (K : PySem.W.Frag) : R2 := fun x y H Q => match x, y with
  | .int i, .int j => Q (.bl (!decide (i = j))) H
  | .str i, .str j => Q (.bl (!decide (i = j))) H
  | .bl i, .bl j => Q (.bl (!decide (i = j))) H
  | x, y => (scal x y = true ∧ Q (.bl (!sameS x y)) H) ∨ rNeP K x y H Q
theorem o_ne (hu : X.A.units + 64 < cLine) : OpR X (compareOp .NotEq) (uNe X.K) := by
  refine wR (orR op_ne (op_neP hu)) fun x y H Q q => ?_
  unfold uNe at q
  split at q
  · exact .inl ⟨rfl, (d_int _ _).symm ▸ q⟩
  · exact .inl ⟨rfl, (d_str _ _).symm ▸ q⟩
  · exact .inl ⟨rfl, (d_bl _ _).symm ▸ q⟩
  · rcases q with ⟨h, q⟩ | q
    · exact .inl ⟨h, (sameS_eq h).symm ▸ q⟩
    · exact .inr q
/-- tuples of ints in their order -/
theorem lexAt_eq (ns ms : List Int) (op : Int → Int → Bool) (z : Bool) (f : List Int → List Int → Bool)
    (h0 : ∀ i, i = ns.length ∨ i = ms.length → i ≤ ns.length → i ≤ ms.length → f (ns.drop i) (ms.drop i) = z)
    (h1 : ∀ x xs y ys, f (x :: xs) (y :: ys) = if x = y then f xs ys else op x y) :
    ∀ k i, i + k = min ns.length ms.length → Ob.lexAt (fun j => decide (ns.getD j 0 = ms.getD j 0)) (fun j => op (ns.getD j 0) (ms.getD j 0)) z i k = f (ns.drop i) (ms.drop i)
  | 0, i, h => by
    rw [Ob.lexAt_zero, h0 i (by omega) (by omega) (by omega)]
  | k + 1, i, h => by
    have a : i < ns.length := by omega
    have b : i < ms.length := by omega
    rw [Ob.lexAt_succ, List.drop_eq_getElem_cons a, List.drop_eq_getElem_cons b, h1, lexAt_eq ns ms op z f h0 h1 k (i + 1) (by omega)]
    simp only [List.getD_eq_getElem?_getD, List.getElem?_eq_getElem a, List.getElem?_eq_getElem b, Option.getD_some, decide_eq_true_eq]
def lexLe (a b : List Int) : Bool := !HT.lexLt b a
theorem lexLe_cons (x y : Int) (xs ys : List Int) : lexLe (x :: xs) (y :: ys) = if x = y then lexLe xs ys else decide (x ≤ y) := by
  unfold lexLe
  rw [HT.lexLt_cons]
  by_cases h : x = y
  · rw [if_pos h, if_pos h.symm]
  · rw [if_neg h, if_neg (fun e => h e.symm), ← decide_not]
    exact decide_eq_decide.mpr (by omega)
theorem lexLe_end (ns ms : List Int) (i : Nat) (h : i = ns.length ∨ i = ms.length) (h1 : i ≤ ns.length) (h2 : i ≤ ms.length) : lexLe (ns.drop i) (ms.drop i) = decide (ns.length ≤ ms.length) := by
  unfold lexLe
  by_cases a : i = ns.length
  · have e : ns.drop i = [] := List.drop_eq_nil_of_le (by omega)
    rw [e, decide_eq_true (by omega)]
    cases ms.drop i <;> rfl
  · have e : ms.drop i = [] := List.drop_eq_nil_of_le (by omega)
    rw [e, decide_eq_false (by omega)]
    cases e2 : ns.drop i with
    | nil => exact absurd (List.drop_eq_nil_iff.mp e2) (by omega)
    | cons x r => rfl
theorem lexAt_le (ns ms : List Int) : Ob.lexAt (fun j => decide (ns.getD j 0 = ms.getD j 0)) (fun j => decide (ns.getD j 0 ≤ ms.getD j 0)) (decide (ns.length ≤ ms.length)) 0 (min ns.length ms.length) = lexLe ns ms :=
  lexAt_eq ns ms (fun x y => decide (x ≤ y)) _ lexLe (fun i h a b => lexLe_end ns ms i h a b) (fun x xs y ys => lexLe_cons x y xs ys) _ 0 (by omega)
def lexGe (a b : List Int) : Bool := !HT.lexLt a b
theorem lexGe_le (a b : List Int) : lexGe a b = lexLe b a := rfl
theorem lexAt_ge (ns ms : List Int) : Ob.lexAt (fun j => decide (ns.getD j 0 = ms.getD j 0)) (fun j => decide (ns.getD j 0 ≥ ms.getD j 0)) (decide (ns.length ≥ ms.length)) 0 (min ns.length ms.length) = lexGe ns ms := by
  refine lexAt_eq ns ms (fun x y => decide (x ≥ y)) _ lexGe (fun i h a b => ?_) (fun x xs y ys => ?_) _ 0 (by omega)
  · rw [lexGe_le, lexLe_end ms ns i (by omega) b a]
  · rw [lexGe_le, lexLe_cons, lexGe_le]
    by_cases h : x = y
    · rw [if_pos h, if_pos h.symm]
    · rw [if_neg h, if_neg (fun e => h e.symm)]
def rGeT (K : PySem.W.Frag) : R2 := fun x y H Q => ∃ (a b : Addr) (ns ms : List Int), x = .ref a ∧ y = .ref b ∧ SqT K H a (ns.map V.int) ∧ SqT K H b (ms.map V.int) ∧ Q (.bl (lexGe ns ms)) H
theorem ints_at {us : List Value} {ns : List Int} (h : IntsAre us ns) (j : Nat) (h1 : j < us.toArray.size) : ∃ t, us.toArray[j] = .int (ns.getD j 0) t := PyProof.Rows.IntsAre.int_at h _ _ (by simp at h1; simp [h1])
theorem op_geT (hu : X.A.units < cLine) : OpR X (compareOp .GtE) (rGeT X.K) := by
  intro pins s σ H x y v u Q I rx ry h
  obtain ⟨a, b, ns, ms, rfl, rfl, ha, hb, q⟩ := h
  cases rx; cases ry
  obtain ⟨us, r1, p1, _⟩ := I.tuple ha
  obtain ⟨ws, r2, p2, _⟩ := I.tuple hb
  have j1 : IntsAre us ns := Vals.ints r1
  have j2 : IntsAre ws ms := Vals.ints r2
  have n1 : us.toArray.size = ns.length := List.size_toArray.trans j1.length
  have n2 : ws.toArray.size = ms.length := List.size_toArray.trans j2.length
  have R := Ob.RcOp.tuples_ge (A := X.A) (s := s) (e := fun j => decide (ns.getD j 0 = ms.getD j 0)) (r := fun j => decide (ns.getD j 0 ≥ ms.getD j 0)) p1 p2 hu
    (fun j h1 h2 => by
      obtain ⟨t, e1⟩ := ints_at j1 j h1
      obtain ⟨t', e2⟩ := ints_at j2 j h2
      rw [e1, e2, ← Bool.beq_eq_decide_eq]
      exact SeqAt.EqAt.int_int _ _ _ _)
    (fun j h1 h2 _ => by
      obtain ⟨t, e1⟩ := ints_at j1 j h1
      obtain ⟨t', e2⟩ := ints_at j2 j h2
      rw [e1, e2]
      exact Ob.RcOp.ge_int _ _ _ _)
  rw [n1, n2, lexAt_ge] at R
  exact R X.prog X.w X.xe (EP X pins σ Q) ⟨.bl _, H, I, rfl, q⟩
def uLt (K : PySem.W.Frag) : R2 := fun x y H Q => match x, y with
  | .int i, .int j => Q (.bl (decide (i < j))) H
  | .ref a, .ref b => ∃ ns ms : List Int, SqT K H a (ns.map V.int) ∧ SqT K H b (ms.map V.int) ∧ Q (.bl (HT.lexLt ns ms)) H
  | _, _ => False
theorem o_lt (hu : X.A.units < cLine) : OpR X (compareOp .Lt) (uLt X.K) := by
  refine wR (orR op_lt (op_ltT hu)) fun x y H Q q => ?_
  unfold uLt at q
  split at q
  · exact .inl ⟨_, _, rfl, rfl, q⟩
  · obtain ⟨ns, ms, a, b, q⟩ := q
    exact .inr ⟨_, _, ns, ms, rfl, rfl, a, b, q⟩
  · exact q.elim
def uLe (K : PySem.W.Frag) : R2 := fun x y H Q => match x, y with
  | .int i, .int j => Q (.bl (decide (i ≤ j))) H
  | .ref a, .ref b => ∃ ns ms : List Int, SqT K H a (ns.map V.int) ∧ SqT K H b (ms.map V.int) ∧ Q (.bl (lexLe ns ms)) H
  | _, _ => False
theorem o_le (hu : X.A.units < cLine) : OpR X (compareOp .LtE) (uLe X.K) := by
  refine wR (orR op_le (op_leT hu)) fun x y H Q q => ?_
  unfold uLe at q
  split at q
  · exact .inl ⟨_, _, rfl, rfl, q⟩
  · obtain ⟨ns, ms, a, b, q⟩ := q
    exact .inr ⟨_, _, ns, ms, rfl, rfl, a, b, by rw [lexAt_le]; exact q⟩
  · exact q.elim
def uGe (K : PySem.W.Frag) : R2 := fun x y H Q => match x, y with
  | .int i, .int j => Q (.bl (decide (j ≤ i))) H
  | .ref a, .ref b => ∃ ns ms : List Int, SqT K H a (ns.map V.int) ∧ SqT K H b (ms.map V.int) ∧ Q (.bl (lexGe ns ms)) H
  | _, _ => False
theorem o_ge (hu : X.A.units < cLine) : OpR X (compareOp .GtE) (uGe X.K) := by
  refine wR (orR op_ge (op_geT hu)) fun x y H Q q => ?_
  unfold uGe at q
  split at q
  · exact .inl ⟨_, _, rfl, rfl, q⟩
  · obtain ⟨ns, ms, a, b, q⟩ := q
    exact .inr ⟨_, _, ns, ms, rfl, rfl, a, b, q⟩
  · exact q.elim
def uGt : R2 := fun x y H Q => match x, y with
  | .int i, .int j => Q (.bl (decide (j < i))) H
  | _, _ => False
theorem o_gt : OpR X (compareOp .Gt) uGt := by
  refine wR op_gt fun x y H Q q => ?_
  unfold uGt at q
  split at q
  · exact ⟨_, _, rfl, rfl, q⟩
  · exact q.elim
def isNon : V → Bool
  | .non => true
  | _ => false
theorem isNon_eq (x : V) : decide (x = .non) = isNon x := by
  cases x <;> first | rfl | exact decide_eq_false (fun q => nomatch q)
def uIs : R2 := fun x y H Q => match y with
  | .non => Q (.bl (isNon x)) H
  | .bl b => ∃ a, x = .bl a ∧ Q (.bl (decide (a = b))) H
  | _ => False
theorem o_is : OpR X (compareOp .Is) uIs := by
  refine wR (orR op_isN op_is_bl) fun x y H Q q => ?_
  unfold uIs at q
  split at q
  · exact .inl ⟨rfl, (isNon_eq x).symm ▸ q⟩
  · obtain ⟨a, e, q⟩ := q
    exact .inr ⟨a, _, e, rfl, q⟩
  · exact q.elim
def uIsnt : R2 := fun x y H Q => match y with
  | .non => Q (.bl (!isNon x)) H
  | .bl b => ∃ a, x = .bl a ∧ Q (.bl (!decide (a = b))) H
  | _ => False
/-- in a list, a tuple of scalars; a dict -/
def uIn (K : PySem.W.Frag) : R2 := fun x y H Q => match y with
  | .ref a => (∃ xs, (SqL K H a xs ∨ SqT K H a xs) ∧ flatV x = true ∧ xs.all flatV = true ∧ Q (.bl (inV x xs)) H) ∨ ∃ o, DGet H a x o ∧ Q (.bl o.isSome) H
  | _ => False
def uNin (K : PySem.W.Frag) : R2 := fun x y H Q => match y with
  | .ref a => (∃ xs, (SqL K H a xs ∨ SqT K H a xs) ∧ flatV x = true ∧ xs.all flatV = true ∧ Q (.bl (!inV x xs)) H) ∨ ∃ o, DGet H a x o ∧ Q (.bl (!o.isSome)) H
  | _ => False
end ops
section subs
variable {X : Cx}
/-- a[b] of lists, tuples, texts -/
def uIx (K : PySem.W.Frag) : R2 := fun x y H Q => match x, y with
  | .ref p, .int i => ∃ xs v, (SqL K H p xs ∨ SqT K H p xs) ∧ atI xs i = some v ∧ Q v H
  | .str z, .int i => z.length ≤ sizeLine ∧ ∃ c, atI z.cps.toList i = some c ∧ Q (.str ⟨#[c]⟩) H
  | _, _ => False
theorem ix_u : IxR X (uIx X.K) := by
  intro value slice pins s σ H x y v u Q I rx ry h hs
  refine ix_seq value slice pins s σ H x y v u Q I rx ry ?_ hs
  unfold uIx at h
  split at h
  · obtain ⟨xs, v, e | e, g, q⟩ := h
    · exact .inl ⟨_, xs, _, v, rfl, rfl, e, g, q⟩
    · exact .inr (.inl ⟨_, xs, _, v, rfl, rfl, e, g, q⟩)
  · obtain ⟨z, c, e, q⟩ := h
    exact .inr (.inr ⟨_, _, c, rfl, rfl, z, e, q⟩)
  · exact h.elim
theorem e_ix {a b : Expr} {ta tb : TE} {pos : Pos} (ha : PE X a ta) (hb : PE X b tb) (hs : PlainIx b := by exact fun _ _ => rfl) : PE X (.Subscript a b pos) (tOp (uIx X.K) ta tb) := pe_ix ix_u ha hb hs
/-- a[lo:hi] -/
def uSl (K : PySem.W.Frag) : V → Option Int → Option Int → Hp → VK → Prop := fun x lo hi H Q => rSlL K x lo hi H Q ∨ rSlT K x lo hi H Q ∨ rSlS x lo hi H Q
/-- a[i] by values, for a[i] += e -/
def uGet (K : PySem.W.Frag) : V → V → Hp → VK → Prop := fun x y H Q => match x, y with
  | .ref p, .int i => (0 ≤ i ∧ ∃ xs v, SqL K H p xs ∧ xs[i.toNat]? = some v ∧ Q v H) ∨ ∃ v, DGet H p (.int i) (some v) ∧ Q v H
  | .ref p, y => ∃ v, DGet H p y (some v) ∧ Q v H
  | _, _ => False
theorem get_u (hu : X.A.units + 1 < cLine) : PGet X (uGet X.K) := by
  intro pins s σ H o i ov iv Q I ro ri h
  unfold uGet at h
  split at h
  · cases ro
    rcases h with ⟨h0, xs, v, hq, e, q⟩ | ⟨v, g, q⟩
    · obtain ⟨t, rfl⟩ := ri
      obtain ⟨us, r, pl, hz⟩ := I.list hq
      obtain ⟨w, ew, rw'⟩ := r.get e
      have hn := line63
      have hl := r.length
      have hb := (List.getElem?_eq_some_iff.mp e).1
      exact wpAny_getItem_list pl.isList h0 (by omega) (by rw [List.getElem?_toArray]; exact ew) ⟨v, H, I, rw', q⟩
    · exact d_getItem hu I g ri fun w' s' I' rv => ⟨v, H, I', rv, q⟩
  · cases ro
    obtain ⟨v, g, q⟩ := h
    exact d_getItem hu I g ri fun w' s' I' rv => ⟨v, H, I', rv, q⟩
  · exact h.elim
/-- a[i] = v -/
def uSet : TSet := fun o i v H Q => match o, i with
  | .ref p, .int k => (∃ xs j, H p = some (.lst xs) ∧ ixN xs.length k = some j ∧ Q (upd H p (.lst (xs.set j v)))) ∨ ∃ H', DPut H p (.int k) v H' ∧ Q H'
  | .ref p, i => ∃ H', DPut H p i v H' ∧ Q H'
  | _, _ => False
theorem set_u (hu : X.A.units + 1 < cLine) : PSet X uSet := by
  intro pins s σ H o i v ov iv u Q I ro ri rv h
  unfold uSet at h
  split at h
  · rcases h with ⟨xs, j, e, g, q⟩ | ⟨H', g, q⟩
    · exact set_list pins s σ H _ _ v ov iv u Q I ro ri rv ⟨_, xs, _, j, rfl, rfl, e, g, q⟩
    · exact set_dict hu pins s σ H _ _ v ov iv u Q I ro ri rv ⟨_, H', rfl, g, q⟩
  · obtain ⟨H', g, q⟩ := h
    exact set_dict hu pins s σ H _ _ v ov iv u Q I ro ri rv ⟨_, H', rfl, g, q⟩
  · exact h.elim
end subs
section calls
variable {X : Cx}
/-- len -/
def uLen (K : PySem.W.Frag) : List V → Hp → VK → Prop := fun xs H Q => match xs with
  | [.ref p] => (∃ ys, (SqL K H p ys ∨ SqT K H p ys) ∧ Q (.int ys.length) H) ∨ ∃ kvs, H p = some (.dK kvs) ∧ Q (.int kvs.length) H
  | [.str z] => z.length ≤ sizeLine ∧ Q (.int z.length) H
  | _ => False
theorem c_len : CallR X (.builtin "len") (uLen X.K) := by
  refine wC (orC call_len_seq (orC call_len_str call_lenD)) fun xs H Q q => ?_
  unfold uLen at q
  split at q
  · rcases q with ⟨ys, a, q⟩ | ⟨kvs, a, q⟩
    · exact .inl ⟨_, ys, rfl, a, q⟩
    · exact .inr (.inr ⟨_, kvs, rfl, a, q⟩)
  · exact .inr (.inl ⟨_, rfl, q⟩)
  · exact q.elim
/-- list(x), tuple(x) -/
def uList (K : PySem.W.Frag) : List V → Hp → VK → Prop := fun xs H Q => match xs with
  | [.ref p] => ∃ ys, (SqL K H p ys ∨ SqT K H p ys) ∧ ∀ l, H l = none → Q (.ref l) (upd H l (.lst ys))
  | _ => False
theorem c_list : CallR X (.type "list") (uList X.K) := by
  refine wC call_list_of fun xs H Q q => ?_
  unfold uList at q
  split at q
  · obtain ⟨ys, a, q⟩ := q
    exact ⟨_, ys, rfl, a, q⟩
  · exact q.elim
def uAbs : List V → Hp → VK → Prop := fun xs H Q => match xs with
  | [.int i] => Q (.int (if i < 0 then -i else i)) H
  | _ => False
theorem c_abs : CallR X (.builtin "abs") uAbs := by
  refine wC call_abs fun xs H Q q => ?_
  unfold uAbs at q
  split at q
  · exact ⟨_, rfl, q⟩
  · exact q.elim
def uMax (K : PySem.W.Frag) : List V → Hp → VK → Prop := fun xs H Q => match xs with
  | [.int i, .int j] => Q (.int (if j > i then j else i)) H
  | [.ref a] => ∃ ns : List Int, SqL K H a (ns.map V.int) ∧ 0 < ns.length ∧ ∀ m, m ∈ ns → (∀ y, y ∈ ns → y ≤ m) → Q (.int m) H
  | _ => False
theorem c_max (hc : X.calm = true) : CallR X (.builtin "max") (uMax X.K) := by
  refine wC (orC (call_max2 hc) (cr_max hc)) fun xs H Q q => ?_
  unfold uMax at q
  split at q
  · exact .inl ⟨_, _, rfl, q⟩
  · obtain ⟨ns, a, b, c⟩ := q
    exact .inr ⟨_, ns, rfl, a, b, c⟩
  · exact q.elim
def uMin (K : PySem.W.Frag) : List V → Hp → VK → Prop := fun xs H Q => match xs with
  | [.int i, .int j] => Q (.int (if j < i then j else i)) H
  | [.ref a] => ∃ ns : List Int, SqL K H a (ns.map V.int) ∧ 0 < ns.length ∧ ∀ m, m ∈ ns → (∀ y, y ∈ ns → m ≤ y) → Q (.int m) H
  | _ => False
theorem c_min (hc : X.calm = true) : CallR X (.builtin "min") (uMin X.K) := by
  refine wC (orC (call_min2 hc) (cr_min hc)) fun xs H Q q => ?_
  unfold uMin at q
  split at q
  · exact .inl ⟨_, _, rfl, q⟩
  · obtain ⟨ns, a, b, c⟩ := q
    exact .inr ⟨_, ns, rfl, a, b, c⟩
  · exact q.elim
def uInt : List V → Hp → VK → Prop := fun xs H Q => match xs with
  | [.int i] => Q (.int i) H
  | [.bl k] => Q (.int (if k then 1 else 0)) H
  | _ => False
theorem c_int : CallR X (.type "int") uInt := by
  refine wC call_int1 fun xs H Q q => ?_
  unfold uInt at q
  split at q
  · exact .inl ⟨_, rfl, q⟩
  · exact .inr ⟨_, rfl, q⟩
  · exact q.elim
inductive Ty | int | bool | str | list | tuple | dict
def Ty.nm : Ty → String
  | .int => "int" | .bool => "bool" | .str => "str" | .list => "list" | .tuple => "tuple" | .dict => "dict"
/-- of a scalar -/
def isS : Ty → V → Bool
  | .int, .int _ => true
  | .int, .bl _ => true
  | .bool, .bl _ => true
  | .str, .str _ => true
  | _, _ => false
/-- of an object that is a list, a tuple, a dict -/
inductive Ob | list | tuple | dict
def Ob.nm : Ob → String
  | .list => "list" | .tuple => "tuple" | .dict => "dict"
def isO : Ty → Ob → Bool
  | .list, .list => true
  | .tuple, .tuple => true
  | .dict, .dict => true
  | _, _ => false
def uIsi (K : PySem.W.Frag) (n : Ty) : List V → Hp → VK → Prop := fun xs H Q => match xs with
  | [.int i, .ty m] => m = n.nm ∧ Q (.bl (isS n (.int i))) H
  | [.bl i, .ty m] => m = n.nm ∧ Q (.bl (isS n (.bl i))) H
  | [.str i, .ty m] => m = n.nm ∧ Q (.bl (isS n (.str i))) H
  | [.non, .ty m] => m = n.nm ∧ Q (.bl (isS n .non)) H
  | [.ref a, .ty m] => m = n.nm ∧ ∃ o : Ob, TyX K H (.ref a) (.type o.nm) ∧ Q (.bl (isO n o)) H
  | _ => False
theorem kit_int : ∀ n : Ty, kitB "int" n.nm = some (isS n (.int 0)) := fun n => by cases n <;> decide +kernel
theorem kit_bool : ∀ n : Ty, kitB "bool" n.nm = some (isS n (.bl true)) := fun n => by cases n <;> decide +kernel
theorem kit_str : ∀ n : Ty, kitB "str" n.nm = some (isS n (.str Str.empty)) := fun n => by cases n <;> decide +kernel
theorem kit_non : ∀ n : Ty, kitB "NoneType" n.nm = some (isS n .non) := fun n => by cases n <;> decide +kernel
theorem kit_obj : ∀ (n : Ty) (o : Ob), kitB o.nm n.nm = some (isO n o) := fun n o => by cases n <;> cases o <;> decide +kernel
theorem c_isi (n : Ty) : CallR X (.builtin "isinstance") (uIsi X.K n) := by
  refine wC call_isi fun xs H Q q => ?_
  unfold uIsi at q
  split at q
  · obtain ⟨rfl, q⟩ := q
    exact ⟨_, _, .type "int", .type n.nm, _, rfl, .ty n.nm, .base (.int _), kit_ty (kit_int n), by cases n <;> exact q⟩
  · obtain ⟨rfl, q⟩ := q
    exact ⟨_, _, .type "bool", .type n.nm, _, rfl, .ty n.nm, .base (.bl _), kit_ty (kit_bool n), by cases n <;> exact q⟩
  · obtain ⟨rfl, q⟩ := q
    exact ⟨_, _, .type "str", .type n.nm, _, rfl, .ty n.nm, .base (.str _), kit_ty (kit_str n), by cases n <;> exact q⟩
  · obtain ⟨rfl, q⟩ := q
    exact ⟨_, _, .type "NoneType", .type n.nm, _, rfl, .ty n.nm, .base .non, kit_ty (kit_non n), by cases n <;> exact q⟩
  · obtain ⟨rfl, o, t, q⟩ := q
    exact ⟨_, _, .type o.nm, .type n.nm, _, rfl, .ty n.nm, t, kit_ty (kit_obj n o), q⟩
  · exact q.elim
end calls
section own
variable {X : Cx} {k : Nat} {f C : Addr} {fd : FuncData} {ps : List Str} {sp : Sp} {W : WX} {x m : Str} {p pos apos : Pos} {e o : Expr} {es : List Expr} {ta : TE} {t : TA}
def uCall (sp : Sp) (W : WX) (t : TA) : TE := fun σ H Q => t σ H fun vs H1 => sp vs H1 Q fun c d H2 => W c d σ H2
theorem e_call (F : FnOk X.prog X.w X.K X.mg X.base (L2.CX X.prog X.w) k f fd ps sp) (hr : Room k X.A) (hm : X.mg x = some (.ref f)) (hk : PySem.W.keepIn X.K (.ref f) = true) (hb : Binds X.K fd ps []) (tk : Takes X W)
    (ha : PA X (e :: es) t) (hg : Gl X x := by rfl) (hdb : (x == ("__debug__" : Str)) = false := by decide) (he : starEach (e :: es) X.env = (false, eval e X.env) :: starEach es X.env := by rfl) (hpl : (backTo pos (starEach es X.env)).any (·.1) = false := by rfl) :
    PE X (.Call (.Name x p) (e :: es) [] pos) (uCall sp W t) := pe_callS (E := WE W) F hr hg hm hk hb (fun σ => passAt tk σ) ha hdb he hpl
/-- o.m(..) -/
def uMeth (C : Addr) (m : Str) (sp : Sp) (W : WX) (ta : TE) (t : TA) : TE := fun σ H Q => ta σ H fun x H1 => ∃ a dx fs, x = .ref a ∧ H1 a = some (.ins C dx fs) ∧ fs.lookup m = none ∧
  t σ H1 fun vs H2 => sp (x :: vs) H2 Q fun c d H3 => W c d σ H3
theorem e_meth {pl : Sem Bool} (ho : PE X o ta) (c : Cls X.K C) (hm : Meth X.K C m f) (F : FnOk X.prog X.w X.K X.mg X.base (L2.CX X.prog X.w) k f fd ps sp) (hr : Room k X.A) (hb : Binds X.K fd ps []) (tk : Takes X W) (ha : PA X (e :: es) t)
    (hst : starEach (e :: es) X.env = (false, eval e X.env) :: starEach es X.env := by rfl) (hpl : (backTo pos (starEach es X.env)).any (·.1) = false := by rfl)
    (ht : eval (.Call (.Attribute o m apos) (e :: es) [] pos) X.env = (do let ov ← eval o X.env; standAt apos.atName; let (f, first) ← holding [ov] (getMethod ov m pl); callWith pos f first (backTo pos (starEach (e :: es) X.env)) (backToKw pos (keywordEach [] X.env))) := by rfl) :
    PE X (.Call (.Attribute o m apos) (e :: es) [] pos) (uMeth C m sp W ta t) := by
  refine ⟨fun pins s σ H Q I h => PySem.W.methodCall_KW (pl := pl) (thn (ho.run pins s σ H _ I h) fun u s1 hh => ?_) ht⟩
  obtain ⟨x, H1, I1, rx, a, dx, fs, rfl, ea, l, q⟩ := hh
  cases (show u = Value.ref a from rx)
  refine getmeth_ok I1 ea c hm l (PySem.W.callWith_K (first := [.ref a]) (h₀ := X.base) I.ok.mod.kin hm.kp (thn (ha.run pos pins s1 σ H1 _ I1 q) fun us s2 hh => ?_) hst hpl)
  obtain ⟨vs, H2, I2, r, q2⟩ := hh
  exact ⟨I2.kIn, run_fnS (us := .ref a :: us) (vs := .ref a :: vs) (E := WE W) F hr hb (passAt tk σ) I2 (.cons rfl r) q2⟩
theorem e_meth0 {pl : Sem Bool} (ho : PE X o ta) (c : Cls X.K C) (hm : Meth X.K C m f) (F : FnOk X.prog X.w X.K X.mg X.base (L2.CX X.prog X.w) k f fd ps sp) (hr : Room k X.A) (hb : Binds X.K fd ps []) (tk : Takes X W)
    (ht : eval (.Call (.Attribute o m apos) [] [] pos) X.env = (do let ov ← eval o X.env; standAt apos.atName; let (f, first) ← holding [ov] (getMethod ov m pl); callWith pos f first (backTo pos (starEach [] X.env)) (backToKw pos (keywordEach [] X.env))) := by rfl) :
    PE X (.Call (.Attribute o m apos) [] [] pos) (uMeth C m sp W ta tNil) := by
  refine ⟨fun pins s σ H Q I h => PySem.W.methodCall_KW (pl := pl) (thn (ho.run pins s σ H _ I h) fun u s1 hh => ?_) ht⟩
  obtain ⟨x, H1, I1, rx, a, dx, fs, rfl, ea, l, q⟩ := hh
  cases (show u = Value.ref a from rx)
  exact getmeth_ok I1 ea c hm l (PySem.W.callWith_K0 (first := [.ref a]) I1.kIn hm.kp (run_fnS (us := [.ref a]) (vs := [.ref a]) (E := WE W) F hr hb (passAt tk σ) I1 (.cons rfl .nil) q))
/-- what a body wants of exceptions, as a wish -/
abbrev WB (E : XK) : WX := fun c d _ H => E c d H
/-- C(..), what is raised goes to W at the slots -/
def uMake (C : Addr) (sp : Sp) (W : WX) (t : TA) : TE := fun σ H Q => t σ H fun vs H1 => ∀ x dx, H1 x = none → H1 dx = none → dx ≠ x → sp (.ref x :: vs) (upd (upd H1 dx (.own x)) x (.ins C dx [])) (fun v H2 => v = .non ∧ Q (.ref x) H2) fun c d H2 => W c d σ H2
theorem make_at {pins : List (Addr × Obj)} {σ : L2.St} {H : Hp} {s : Shared} {Q : VK} {us : List Value} {vs : List V} (M : Mk X.K C f) (F : FnOk X.prog X.w X.K X.mg X.base (L2.CX X.prog X.w) k f fd ps sp) (hr : Room (k + 1) X.A) (hb : Binds X.K fd ps []) (tk : Takes X W)
    (I : Inv X pins σ H s) (r : Vals vs us)
    (h : ∀ x dx, H x = none → H dx = none → dx ≠ x → sp (.ref x :: vs) (upd (upd H dx (.own x)) x (.ins C dx [])) (fun v H2 => v = .non ∧ Q (.ref x) H2) fun c d H2 => W c d σ H2) :
    wpAny (model X.prog X.w) X.A (call (.ref C) us) (EP X pins σ Q) X.xe s := by
  let n := s.heap.objs.size
  have q0 : sp (.ref (n + 1) :: vs) _ _ _ := h (n + 1) n (I.hok.fresh (Nat.le_succ n)) (I.hok.fresh (Nat.le_refl n)) (Nat.ne_of_lt n.lt_succ_self)
  have J := Inv.made (C := C) I
  have rr : Vals (V.ref (n + 1) :: vs) (Value.ref (n + 1) :: us) := .cons rfl r
  have size : (Value.ref (n + 1) :: us).length = ps.length := rr.length.symm.trans (F.len _ _ _ _ q0)
  have go := F.run _ X.stack _ _ ⟨Value.ref (n + 1) :: us, []⟩ (Value.ref (n + 1) :: us) _ _ _ (hr.make C us []) (J.env0.make C us []) (by have z := hb _ (Value.ref (n + 1) :: us) J.kIn (by rw [List.append_nil]; exact size); rw [List.append_nil] at z; exact z) rr q0
  refine wpAny_call (make_map (f := f) I.kIn M.makes M.init (beq_iff_eq.mp M.fn) (codeAny_mono go ?_))
  rintro (e | fl) s' hq
  · exact passAt tk σ pins _ _ e s' J hq
  · cases fl with
    | ret u =>
      obtain ⟨v, H', I3, rv, ev, z⟩ := J.after hq
      cases ev
      exact ⟨rv, .ref (n + 1), H', I3, rfl, z⟩
    | next => exact hq.elim
    | brk => exact hq.elim
    | cont => exact hq.elim
theorem e_mk (M : Mk X.K C f) (F : FnOk X.prog X.w X.K X.mg X.base (L2.CX X.prog X.w) k f fd ps sp) (hr : Room (k + 1) X.A) (hm : X.mg x = some (.ref C)) (hb : Binds X.K fd ps []) (tk : Takes X W) (ha : PA X (e :: es) t)
    (hg : Gl X x := by rfl) (hdb : (x == ("__debug__" : Str)) = false := by decide) (he : starEach (e :: es) X.env = (false, eval e X.env) :: starEach es X.env := by rfl) (hpl : (backTo pos (starEach es X.env)).any (·.1) = false := by rfl) :
    PE X (.Call (.Name x p) (e :: es) [] pos) (uMake C sp W t) :=
  ⟨fun pins s σ H Q I h => wpAny_Call_Name_kw (ld_glob I hg hm (PySem.W.callWith_K (h₀ := X.base) I.ok.mod.kin M.kp (thn (ha.run pos pins s σ H _ I h) fun us s1 hh => by
    obtain ⟨vs, H1, I1, r, q⟩ := hh
    exact ⟨I1.kIn, make_at M F hr hb tk I1 r q⟩) he hpl) hdb)⟩
/-- what the top has of an own exception class -/
structure Exc (K : PySem.W.Frag) (mg : Str → Option Value) (n : Str) (C : Addr) : Prop where
  ex : PySem.W.excIn K C [.type "ValueError", .type "Exception", .type "BaseException", .type "object"] "ValueError.__new__" = true
  g : mg n = some (.ref C)
  kp : PySem.W.keepIn K (.ref C) = true
  sub : PySem.W.subIn K (.ref C) (.type "BaseException") = some true
  ty : PySem.W.typeIn K (.ref C) = some (.type "type")
def uRaise (C : Addr) (W : WX) : TS := fun _ σ H => W (.ref C) none σ H
theorem pmk0 {n : Str} (T : Exc X.K X.mg n C) (hg : Gl X n := by rfl) (hdb : (n == ("__debug__" : Str)) = false := by decide) : PMk X (.Call (.Name n p) [] [] pos) (fun _ H Q => Q (.ref C) none H) := by
  intro pins s σ H Q I h
  refine wpAny_Call_Name_kw (ld_glob I hg T.g (PySem.W.callWith_K0 I.kIn T.kp ?_) hdb)
  obtain ⟨bm, N, nm, qn, bs, hdct, sn, sub, ab, col, dd, k0, k1, k2, k3, k5, mN, hC, hN, hni, Z⟩ := exc_obj I.kIn T.ex
  exact wpAny_call_exc_subT PySem.F.excBase_ValueError Z hC hN hni (fun h' e hm => mk_of I hm (raises_own T.sub T.ty) h (I.hok.gone hm.new)) (Nat.zero_le _)
theorem s_raise {n : Str} (T : Exc X.K X.mg n C) (tk : Takes X W) {pos2 : Pos} (hc : X.calm = true := by rfl) (hg : Gl X n := by rfl) (hdb : (n == ("__debug__" : Str)) = false := by decide) :
    PS X (.Raise (some (.Call (.Name n p) [] [] pos)) none pos2) (uRaise C W) := ps_raise hc tk (pmk0 T hg hdb)
end own
section tries
variable {X : Cx} {x n : Str} {c : Value} {i : Nat} {body suite : List Stmt} {b₀ : Stmt} {np pos pos' : Pos} {tb : WX → TS} {ts : Addr → Value → Option Addr → TS} {W : WX}
def uTryAs (K : PySem.W.Frag) (c : Value) (i : Nat) (tb : WX → TS) (ts : Addr → Value → Option Addr → TS) (W : WX) : TS := fun D σ H => tb (wAs K c i ts W D) D σ H
def uTry (K : PySem.W.Frag) (c : Value) (tb : WX → TS) (ts : Addr → Value → Option Addr → TS) (W : WX) : TS := fun D σ H => tb (wOnly K c ts W D) D σ H
theorem s_tryAs (hs : X.stack = X.env :: X.outer) (hf : X.env.frame = some X.env.locals) (hN : X.N.Nodup) (hi : X.N[i]? = some n) (hln : X.env.kindOf n = some .local) (hc : Names X x c) (tk : Takes X W)
    (hb : ∀ (W' : WX) (pn : List (Addr × Obj)) (xe : Value → Shared → Prop), Takes (X.tr pn xe) W' → PassesOwn (model X.prog X.w) X.A X.env xe → PSs (X.tr pn xe) body (tb W'))
    (hsu : ∀ (a : Addr) (oe : Obj) (cls : Value) (d : Option Addr) (pn : List (Addr × Obj)), Zc cls d oe → (∃ vs, oe.data = .fields vs) → PSs (X.suite a ((a, oe) :: pn)) (b₀ :: suite) (ts a cls d)) :
    PS X (.Try body [.ExceptHandler (some (.Name x np)) (some n) (b₀ :: suite) pos'] [] [] pos) (uTryAs X.K c i tb ts W) := ps_try_as hs hf hN hi hln hc tk hb hsu
theorem w_tryAs {K : PySem.W.Frag} {D : Ends} {σ : L2.St} {H : Hp} (h : tb (wAs K c i ts W D) D σ H) : uTryAs K c i tb ts W D σ H := h
theorem w_try {K : PySem.W.Frag} {D : Ends} {σ : L2.St} {H : Hp} (h : tb (wOnly K c ts W D) D σ H) : uTry K c tb ts W D σ H := h
theorem w_asT {K : PySem.W.Frag} {D : Ends} {σ : L2.St} {H : Hp} {cls : Value} {d : Option Addr} (e : PySem.W.exmOne K cls c = some true)
    (h : ∀ a, H a = none → ts a cls d { nx := fun σ' H' => D.nx (σ'.set i none) H', rt := D.rt, bk := fun σ' H' => D.bk (σ'.set i none) H', ct := fun σ' H' => D.ct (σ'.set i none) H' } (σ.set i (some (.ref a))) H) :
    wAs K c i ts W D cls d σ H := ⟨true, e, fun _ => h, fun q => Bool.noConfusion q⟩
theorem w_asF {K : PySem.W.Frag} {D : Ends} {σ : L2.St} {H : Hp} {cls : Value} {d : Option Addr} (e : PySem.W.exmOne K cls c = some false) (h : W cls d σ H) : wAs K c i ts W D cls d σ H := ⟨false, e, fun q => Bool.noConfusion q, fun _ => h⟩
theorem w_onT {K : PySem.W.Frag} {D : Ends} {σ : L2.St} {H : Hp} {cls : Value} {d : Option Addr} (e : PySem.W.exmOne K cls c = some true) (h : ∀ a, H a = none → ts a cls d D σ H) : wOnly K c ts W D cls d σ H := ⟨true, e, fun _ => h, fun q => Bool.noConfusion q⟩
theorem w_onF {K : PySem.W.Frag} {D : Ends} {σ : L2.St} {H : Hp} {cls : Value} {d : Option Addr} (e : PySem.W.exmOne K cls c = some false) (h : W cls d σ H) : wOnly K c ts W D cls d σ H := ⟨false, e, fun q => Bool.noConfusion q, fun _ => h⟩
/-- isinstance(e, C) of the exception that a suite holds -/
def uIsE (K : PySem.W.Frag) (a : Addr) (cls : Value) (d : Option Addr) : List V → Hp → VK → Prop := fun xs H Q => ∃ (D C : Addr) (b : Bool), cls = .ref D ∧ d = none ∧ ExcC K D ∧ xs = [.ref a, .ref C] ∧ PySem.W.kitOne K (.ref D) (.ref C) = some b ∧ Q (.bl b) H
theorem w_isE {K : PySem.W.Frag} {H : Hp} {Q : VK} {a D C : Addr} {b : Bool} (x : ExcC K D) (e : PySem.W.kitOne K (.ref D) (.ref C) = some b) (h : Q (.bl b) H) : uIsE K a (.ref D) none [.ref a, .ref C] H Q := ⟨D, C, b, rfl, rfl, x, rfl, e, h⟩
theorem kit_ne {K : PySem.W.Frag} {R A : Addr} {b : Bool} (n : (Value.ref R == Value.ref A) = false) (h1 : PySem.W.subIn K (.ref A) (.type "BaseException") = some true) (hd : PySem.W.hasDictIn K A = true) (ht : PySem.W.typeIn K (.ref A) = some (.type "type")) (h4 : PySem.W.subIn K (.ref R) (.ref A) = some b) : PySem.W.kitOne K (.ref R) (.ref A) = some b := by
  have z := PySem.W.exm_ref h1 hd ht h4
  have e1 : (PySem.W.subIn K (.ref A) (.type "BaseException") == some true) = true := by rw [h1]; rfl
  unfold PySem.W.exmOne at z
  rw [if_pos e1] at z
  unfold PySem.W.kitOne
  rw [if_neg (by rw [n]; exact Bool.false_ne_true)]
  exact z
theorem kit_same {K : PySem.W.Frag} {R : Addr} : PySem.W.kitOne K (.ref R) (.ref R) = some true := by
  unfold PySem.W.kitOne
  rw [if_pos (beq_self_eq_true _)]
end tries
section fields
variable {X : Cx} {C : Addr} {f : Str} {e o v : Expr} {ta tv : TE} {pos pos' : Pos}
def uFld (C : Addr) (f : Str) (ta : TE) : TE := fun σ H Q => ta σ H fun x H1 => ∃ a dx fs v, x = .ref a ∧ H1 a = some (.ins C dx fs) ∧ fs.lookup f = some v ∧ Q v H1
theorem e_fld (c : Cls X.K C) (n : NoAttr X.K C f) (he : PE X e ta) (hb : attributeBase e f X.env (eval e X.env) = eval e X.env := by rfl) : PE X (.Attribute e f pos) (uFld C f ta) :=
  ⟨fun pins s σ H Q I h => attr_of hb (thn (he.run pins s σ H _ I h) fun u s1 hh => by
    obtain ⟨x, H1, I1, rx, a, dx, fs, v, rfl, ea, l, q⟩ := hh
    cases (show u = Value.ref a from rx)
    exact getattr_ok I1 ea c n l fun u' s2 I2 ru => ⟨v, H1, I2, ru, q⟩)⟩
def uSetF (C : Addr) (f : Str) (ta tv : TE) : TS := fun D σ H => tv σ H fun y H1 => ta σ H1 fun x H2 => ∃ a dx fs, x = .ref a ∧ H2 a = some (.ins C dx fs) ∧ fs.length < 1000 ∧ D.nx σ (upd H2 a (.ins C dx (putF f y fs)))
theorem s_fld (c : Cls X.K C) (n : NoAttr X.K C f) (ho : PE X o ta) (hv : PE X v tv) (hs : swapsWith v (some (.Attribute o f pos')) pos.line X.env = pure false := by rfl) : PS X (.Assign [.Attribute o f pos'] v pos) (uSetF C f ta tv) :=
  ⟨fun pins s σ H D I h => plainObj_wpAny_Assign_Attribute (thn (hv.run pins s σ H _ I h) fun u s1 ⟨y, H1, I1, ry, q⟩ => thn (ho.run pins s1 σ H1 _ I1 q) fun ov s2 hh => by
    obtain ⟨x, H2, I2, rx, a, dx, fs, rfl, ea, l, q2⟩ := hh
    cases (show ov = Value.ref a from rx)
    exact setattr_ok I2 ea c n l ry fun s3 I3 => ⟨σ, _, I3, q2⟩) hs⟩
/-- o.f += e -/
def uAugF (C : Addr) (f : Str) (r : V → V → Hp → VK → Prop) (ta tv : TE) : TS := fun D σ H => ta σ H fun x H1 => ∃ a dx fs v, x = .ref a ∧ H1 a = some (.ins C dx fs) ∧ fs.lookup f = some v ∧
  tv σ H1 fun y H2 => r v y H2 fun z H3 => ∃ dx' fs', H3 a = some (.ins C dx' fs') ∧ fs'.length < 1000 ∧ D.nx σ (upd H3 a (.ins C dx' (putF f z fs')))
theorem s_augf {op : Operator} {r : V → V → Hp → VK → Prop} {tpos : Pos} (c : Cls X.K C) (n : NoAttr X.K C f) (ho : PE X o ta) (hv : PE X v tv) (hop : InOp X op r) : PS X (.AugAssign (.Attribute o f tpos) op v pos) (uAugF C f r ta tv) :=
  ⟨fun pins s σ H D I h => wpAny_AugAssign_AttributeAny (thn (ho.run pins s σ H _ I h) fun ov s1 hh => by
    obtain ⟨x, H1, I1, rx, a, dx, fs, v, rfl, ea, l, q⟩ := hh
    cases (show ov = Value.ref a from rx)
    refine getattr_ok I1 ea c n l fun u s2 I2 ru => thn (hv.run pins s2 σ H1 _ I2 q) fun w3 s3 hh => ?_
    obtain ⟨y, H2, I3, ry, q3⟩ := hh
    refine thn (hop pins s3 σ H2 v y u w3 _ I3 ru ry q3) fun w4 s4 hh => ?_
    obtain ⟨z, H3, I4, rz, dx', fs', ea', l', q4⟩ := hh
    exact setattr_ok I4 ea' c n l' rz fun s5 I5 => ⟨σ, _, I5, q4⟩)⟩
end fields
section truth
variable {X : Cx} {e : Expr} {te : TE}
def truV (K : PySem.W.Frag) (x : V) (H1 : Hp) (Q : Bool → Hp → Prop) : Prop := match x with
  | .bl b => Q b H1
  | .non => Q false H1
  | .int i => Q (!decide (i = 0)) H1
  | .str z => z.length ≤ sizeLine ∧ Q (!decide (z.length = 0)) H1
  | .ref p => (∃ xs, (SqL K H1 p xs ∨ SqT K H1 p xs) ∧ Q (!xs.isEmpty) H1) ∨ ∃ kvs, H1 p = some (.dK kvs) ∧ Q (!kvs.isEmpty) H1
  | _ => False
def uTru (K : PySem.W.Frag) (te : TE) : TT := fun σ H Q => te σ H fun x H1 => truV K x H1 Q
theorem t_tru (he : PE X e te) (hw : ∀ whole, isTrue e X.env whole = (do let v ← whole; standAt e.pos; holding [v] (truthy v)) := by intro _; rfl) : PT X e (uTru X.K te) := by
  refine ⟨fun pins s σ H Q I h => isTrue_plain (thn (he.run pins s σ H _ I h) fun v s1 hh => ?_) (hw _)⟩
  obtain ⟨x, H1, I1, r1, q⟩ := hh
  refine tru_ok pins s1 σ H1 x v Q I1 r1 ?_
  unfold truV at q
  split at q
  · exact ⟨_, rfl, q⟩
  · exact ⟨_, rfl, q⟩
  · rename_i i
    refine ⟨_, rfl, ?_⟩
    rw [show (i != 0) = !decide (i = 0) by rw [bne, Bool.beq_eq_decide_eq]]
    exact q
  · rename_i z
    refine ⟨_, ⟨q.1, rfl⟩, ?_⟩
    rw [show ((z.length : Int) != 0) = !decide (z.length = 0) by rw [bne, Bool.beq_eq_decide_eq]; congr 1; exact decide_eq_decide.mpr (by omega)]
    exact q.2
  · rcases q with ⟨xs, a | a, q⟩ | ⟨kvs, a, q⟩
    · exact ⟨_, .inl ⟨xs, a, rfl⟩, q⟩
    · exact ⟨_, .inr (.inl ⟨xs, a, rfl⟩), q⟩
    · exact ⟨_, .inr (.inr ⟨kvs, a, rfl⟩), q⟩
  · exact q.elim
end truth
def forQ (g : TG) (tb : TS) (D : Ends) (σ : L2.St) (J : It) (H1 : Hp) : Prop := ∃ W : Nat → Nat → L2.St → Hp → Prop, (∃ m, W 0 m σ H1) ∧ ∀ i m σ H, W i m σ H →
  (J.stop i H ∧ D.nx σ H) ∨ (J.go i H ∧ ∃ N : L2.St → Hp → Prop, (∀ σ' H', N σ' H' → ∃ m', m' < m ∧ W (i + 1) m' σ' H') ∧ ∀ x H', J.yld i H x H' → g x σ H' fun σ2 H2 => tb { D with nx := N, ct := N, bk := D.nx } σ2 H2)
def newT (xs : List V) (H1 : Hp) (Q : VK) : Prop := xs.length ≤ sizeLine ∧ ∀ p, H1 p = none → Q (.ref p) (upd H1 p (.tup xs))
def newL (xs : List V) (H1 : Hp) (Q : VK) : Prop := xs.length ≤ sizeLine ∧ ∀ p, H1 p = none → Q (.ref p) (upd H1 p (.lst xs))
def bmQ (K : PySem.W.Frag) (T : String) (q : V → List V → Hp → VK → Prop) (tA : TA) (σ : L2.St) (x : V) (H1 : Hp) (Q : VK) : Prop := tyV K T x H1 ∧ tA σ H1 fun xs H2 => q x xs H2 Q
def rng1Q (vs : List V) (H1 : Hp) (R : It → Hp → Prop) : Prop := ∃ j : Int, vs = [.int j] ∧ -(2 ^ 62) ≤ j ∧ j < 2 ^ 62 ∧ R (Itr 0 j.toNat) H1
def rng2Q (vs : List V) (H1 : Hp) (R : It → Hp → Prop) : Prop := ∃ i j : Int, vs = [.int i, .int j] ∧ (-(2 ^ 62) ≤ i ∧ i < 2 ^ 62 ∧ -(2 ^ 62) ≤ j ∧ j < 2 ^ 62) ∧ R (Itr i (j - i).toNat) H1
def listQ (K : PySem.W.Frag) (x : V) (H1 : Hp) (R : It → Hp → Prop) : Prop := ∃ a, x = .ref a ∧ (∃ xs, SqL K H1 a xs) ∧ R (Itl K a) H1
def tupQ (K : PySem.W.Frag) (x : V) (H1 : Hp) (R : It → Hp → Prop) : Prop := ∃ a, x = .ref a ∧ (∃ xs, SqT K H1 a xs) ∧ R (Itt K a) H1
def strQ (x : V) (H1 : Hp) (R : It → Hp → Prop) : Prop := ∃ z, x = .str z ∧ R (Its z) H1
def revQ (K : PySem.W.Frag) (vs : List V) (H1 : Hp) (R : It → Hp → Prop) : Prop := ∃ (a : Addr) (xs : List V), vs = [.ref a] ∧ SqL K H1 a xs ∧ R (Itv K a xs.length) H1
def fldQ (C : Addr) (f : Str) (x : V) (H1 : Hp) (Q : VK) : Prop := ∃ a dx fs v, x = .ref a ∧ H1 a = some (.ins C dx fs) ∧ fs.lookup f = some v ∧ Q v H1
def methQ (C : Addr) (m : Str) (sp : Sp) (W : WX) (t : TA) (σ : L2.St) (x : V) (H1 : Hp) (Q : VK) : Prop := ∃ a dx fs, x = .ref a ∧ H1 a = some (.ins C dx fs) ∧ fs.lookup m = none ∧ t σ H1 fun vs H2 => sp (x :: vs) H2 Q fun c d H3 => W c d σ H3
def setfQ (C : Addr) (f : Str) (x y : V) (H2 : Hp) (N : Hp → Prop) : Prop := ∃ a dx fs, x = .ref a ∧ H2 a = some (.ins C dx fs) ∧ fs.length < 1000 ∧ N (upd H2 a (.ins C dx (putF f y fs)))
section steps
variable {K : PySem.W.Frag} {D : Ends} {σ : L2.St} {H : Hp} {Q : VK} {QB : Bool → Hp → Prop} {QA : List V → Hp → Prop} {t u : TS} {te ta tb tv : TE} {tA : TA} {c c1 c2 : TT} {g : TG} {i : Nat} {v x y : V} {r r' : R2} {W : WX} {sp : Sp} {b : Bool} {C a : Addr} {f : Str}
theorem w_seq (h : t { D with nx := u D } σ H) : tSeq t u D σ H := h
theorem w_cut (P : L2.St → Hp → Prop) (h1 : t { D with nx := P } σ H) (h2 : ∀ σ H, P σ H → u D σ H) : tCut t u D σ H := ⟨P, h1, h2⟩
theorem w_next (h : D.nx σ H) : tNext D σ H := h
theorem w_asg (h : te σ H fun x H1 => g x σ H1 D.nx) : tAsg te g D σ H := h
theorem w_name {N : L2.St → Hp → Prop} (h : N (σ.set i (some v)) H) : gName i v σ H N := h
theorem w_ret (h : te σ H D.rt) : tRet te D σ H := h
theorem w_retN (h : D.rt .non H) : tRetN D σ H := h
theorem w_if (h : c σ H fun b H1 => if b = true then t D σ H1 else u D σ H1) : tIfS c t u D σ H := h
theorem w_drop (h : te σ H fun _ H1 => D.nx σ H1) : tDrop te D σ H := h
theorem w_brk (h : D.bk σ H) : tBreak D σ H := h
theorem w_cont (h : D.ct σ H) : tCont D σ H := h
theorem w_aug {ti : TIp} (e : σ[i]? = some (some x)) (h : te σ H fun y H1 => ti x y H1 fun z H2 => D.nx (σ.set i (some z)) H2) : tAug i te ti D σ H := ⟨x, e, h⟩
theorem w_ipI {k : Int → Int → Int} {m n : Int} (h : Q (.int (k m n)) H) : ipI k (.int m) (.int n) H Q := ⟨m, n, rfl, rfl, h⟩
theorem w_test (h : te σ H fun x H1 => ∃ k, x = .bl k ∧ QB k H1) : tTest te σ H QB := h
theorem w_not (h : c σ H fun k H1 => QB (!k) H1) : tNot c σ H QB := h
theorem w_and (h : c1 σ H fun k H1 => if k = true then c2 σ H1 QB else QB false H1) : tAnd c1 c2 σ H QB := h
theorem w_or (h : c1 σ H fun k H1 => if k = true then QB true H1 else c2 σ H1 QB) : tOr c1 c2 σ H QB := h
theorem w_andV (h : ta σ H fun x H1 => ∃ k, x = .bl k ∧ if k = true then tb σ H1 Q else Q (.bl false) H1) : tAndV ta tb σ H Q := h
theorem w_orV (h : ta σ H fun x H1 => ∃ k, x = .bl k ∧ if k = true then Q (.bl true) H1 else tb σ H1 Q) : tOrV ta tb σ H Q := h
theorem w_notV (h : ta σ H fun x H1 => ∃ k, x = .bl k ∧ Q (.bl (!k)) H1) : tNotV ta σ H Q := h
theorem w_blP {P : Bool → Prop} (h : P b) : ∃ k, V.bl b = .bl k ∧ P k := ⟨b, rfl, h⟩
theorem w_ifE (h : c σ H fun k H1 => if k = true then ta σ H1 Q else tb σ H1 Q) : tIf c ta tb σ H Q := h
theorem w_var (e : σ[i]? = some (some v)) (h : Q v H) : tVar i σ H Q := ⟨v, e, h⟩
theorem w_c (h : Q v H) : tC v σ H Q := h
theorem w_op (h : ta σ H fun x H1 => tb σ H1 fun y H2 => r x y H2 Q) : tOp r ta tb σ H Q := h
theorem w_un {ru : V → Hp → VK → Prop} (h : ta σ H fun x H1 => ru x H1 Q) : tUn ru ta σ H Q := h
theorem w_neg {m : Int} (h : Q (.int (-m)) H) : uNeg (.int m) H Q := h
theorem w_chain {tc : TE} (h : ta σ H fun x H1 => tb σ H1 fun y H2 => r x y H2 fun z H3 => ∃ k, z = .bl k ∧ if k = true then tc σ H3 fun w H4 => r' y w H4 Q else Q (.bl false) H3) : tChain r r' ta tb tc σ H Q := h
theorem w_cons (h : te σ H fun x H1 => tA σ H1 fun xs H2 => QA (x :: xs) H2) : tCons te tA σ H QA := h
theorem w_nil (h : QA [] H) : tNil σ H QA := h
theorem w_tup (h : tA σ H fun xs H1 => newT xs H1 Q) : tTup tA σ H Q := h
theorem w_lst (h : tA σ H fun xs H1 => newL xs H1 Q) : tLst tA σ H Q := h
theorem small9 {n : Nat} (h : n ≤ 100000) : n ≤ sizeLine := Nat.le_trans h (by decide)
theorem w_newT {xs : List V} (s : xs.length ≤ 100000) (h : ∀ p, H p = none → Q (.ref p) (upd H p (.tup xs))) : newT xs H Q := ⟨small9 s, h⟩
theorem w_newL {xs : List V} (s : xs.length ≤ 100000) (h : ∀ p, H p = none → Q (.ref p) (upd H p (.lst xs))) : newL xs H Q := ⟨small9 s, h⟩
theorem w_add {m n : Int} (h : Q (.int (m + n)) H) : uAdd K (.int m) (.int n) H Q := h
theorem w_sub {m n : Int} (h : Q (.int (m - n)) H) : uSub (.int m) (.int n) H Q := h
theorem w_mul {m n : Int} (s : CMul m n) (h : Q (.int (m * n)) H) : uMul (.int m) (.int n) H Q := ⟨.inl s, h⟩
theorem w_div {m n : Int} (s : 0 < n ∧ n < 2 ^ 200) (h : Q (.int (m / n)) H) : uDiv (.int m) (.int n) H Q := ⟨s, h⟩
theorem w_mod {m n : Int} (s : 0 < n) (h : Q (.int (m % n)) H) : uMod (.int m) (.int n) H Q := ⟨s, h⟩
theorem w_pow {m n : Int} (s : CPow m n) (h : Q (.int (m ^ n.toNat)) H) : uPow (.int m) (.int n) H Q := ⟨s, h⟩
theorem w_neP {o : Addr} (h : rNeP K x (.ref o) H Q) : uNe K x (.ref o) H Q := by cases x <;> exact Or.inr h
theorem w_eqI {m n : Int} (h : Q (.bl (decide (m = n))) H) : uEq K (.int m) (.int n) H Q := h
theorem w_eqS {m n : Str} (h : Q (.bl (decide (m = n))) H) : uEq K (.str m) (.str n) H Q := h
theorem w_eqB {m n : Bool} (h : Q (.bl (decide (m = n))) H) : uEq K (.bl m) (.bl n) H Q := h
theorem w_eqNI {n : Int} (h : Q (.bl false) H) : uEq K .non (.int n) H Q := .inl ⟨rfl, h⟩
theorem w_neNI {n : Int} (h : Q (.bl true) H) : uNe K .non (.int n) H Q := .inl ⟨rfl, h⟩
theorem w_eqIN {n : Int} (h : Q (.bl false) H) : uEq K (.int n) .non H Q := .inl ⟨rfl, h⟩
theorem w_neIN {n : Int} (h : Q (.bl true) H) : uNe K (.int n) .non H Q := .inl ⟨rfl, h⟩
theorem w_neI {m n : Int} (h : Q (.bl (!decide (m = n))) H) : uNe K (.int m) (.int n) H Q := h
theorem w_neS {m n : Str} (h : Q (.bl (!decide (m = n))) H) : uNe K (.str m) (.str n) H Q := h
theorem w_neB {m n : Bool} (h : Q (.bl (!decide (m = n))) H) : uNe K (.bl m) (.bl n) H Q := h
theorem w_lt {m n : Int} (h : Q (.bl (decide (m < n))) H) : uLt K (.int m) (.int n) H Q := h
theorem w_le {m n : Int} (h : Q (.bl (decide (m ≤ n))) H) : uLe K (.int m) (.int n) H Q := h
theorem w_gt {m n : Int} (h : Q (.bl (decide (n < m))) H) : uGt (.int m) (.int n) H Q := h
theorem w_ge {m n : Int} (h : Q (.bl (decide (n ≤ m))) H) : uGe K (.int m) (.int n) H Q := h
theorem w_cb {q : List V → Hp → VK → Prop} (h : tA σ H fun vs H1 => q vs H1 Q) : tCB q tA σ H Q := h
theorem w_call (h : tA σ H fun vs H1 => sp vs H1 Q fun c d H2 => W c d σ H2) : uCall sp W tA σ H Q := h
theorem w_tru (h : te σ H fun x H1 => truV K x H1 QB) : uTru K te σ H QB := h
theorem w_truB {b : Bool} (h : QB b H) : truV K (.bl b) H QB := h
theorem w_truN (h : QB false H) : truV K .non H QB := h
theorem w_truI {m : Int} (h : QB (!decide (m = 0)) H) : truV K (.int m) H QB := h
theorem w_isi_int_int {m : Int} (h : Q (.bl true) H) : uIsi K .int [(.int m), .ty "int"] H Q := ⟨rfl, h⟩
theorem w_isi_int_bl {m : Bool} (h : Q (.bl true) H) : uIsi K .int [(.bl m), .ty "int"] H Q := ⟨rfl, h⟩
theorem w_isi_int_str {m : Str} (h : Q (.bl false) H) : uIsi K .int [(.str m), .ty "int"] H Q := ⟨rfl, h⟩
theorem w_isi_int_non  (h : Q (.bl false) H) : uIsi K .int [.non, .ty "int"] H Q := ⟨rfl, h⟩
theorem w_isi_bool_int {m : Int} (h : Q (.bl false) H) : uIsi K .bool [(.int m), .ty "bool"] H Q := ⟨rfl, h⟩
theorem w_isi_bool_bl {m : Bool} (h : Q (.bl true) H) : uIsi K .bool [(.bl m), .ty "bool"] H Q := ⟨rfl, h⟩
theorem w_isi_bool_str {m : Str} (h : Q (.bl false) H) : uIsi K .bool [(.str m), .ty "bool"] H Q := ⟨rfl, h⟩
theorem w_isi_bool_non  (h : Q (.bl false) H) : uIsi K .bool [.non, .ty "bool"] H Q := ⟨rfl, h⟩
theorem w_isi_str_int {m : Int} (h : Q (.bl false) H) : uIsi K .str [(.int m), .ty "str"] H Q := ⟨rfl, h⟩
theorem w_isi_str_bl {m : Bool} (h : Q (.bl false) H) : uIsi K .str [(.bl m), .ty "str"] H Q := ⟨rfl, h⟩
theorem w_isi_str_str {m : Str} (h : Q (.bl true) H) : uIsi K .str [(.str m), .ty "str"] H Q := ⟨rfl, h⟩
theorem w_isi_str_non  (h : Q (.bl false) H) : uIsi K .str [.non, .ty "str"] H Q := ⟨rfl, h⟩
theorem w_isi_list_int {m : Int} (h : Q (.bl false) H) : uIsi K .list [(.int m), .ty "list"] H Q := ⟨rfl, h⟩
theorem w_isi_list_bl {m : Bool} (h : Q (.bl false) H) : uIsi K .list [(.bl m), .ty "list"] H Q := ⟨rfl, h⟩
theorem w_isi_list_str {m : Str} (h : Q (.bl false) H) : uIsi K .list [(.str m), .ty "list"] H Q := ⟨rfl, h⟩
theorem w_isi_list_non  (h : Q (.bl false) H) : uIsi K .list [.non, .ty "list"] H Q := ⟨rfl, h⟩
theorem w_isi_tuple_int {m : Int} (h : Q (.bl false) H) : uIsi K .tuple [(.int m), .ty "tuple"] H Q := ⟨rfl, h⟩
theorem w_isi_tuple_bl {m : Bool} (h : Q (.bl false) H) : uIsi K .tuple [(.bl m), .ty "tuple"] H Q := ⟨rfl, h⟩
theorem w_isi_tuple_str {m : Str} (h : Q (.bl false) H) : uIsi K .tuple [(.str m), .ty "tuple"] H Q := ⟨rfl, h⟩
theorem w_isi_tuple_non  (h : Q (.bl false) H) : uIsi K .tuple [.non, .ty "tuple"] H Q := ⟨rfl, h⟩
theorem w_is_int {m : Int} (h : Q (.bl false) H) : uIs (.int m) .non H Q := h
theorem w_isnt_int {m : Int} (h : Q (.bl true) H) : uIsnt (.int m) .non H Q := h
theorem w_is_bl {m : Bool} (h : Q (.bl false) H) : uIs (.bl m) .non H Q := h
theorem w_isnt_bl {m : Bool} (h : Q (.bl true) H) : uIsnt (.bl m) .non H Q := h
theorem w_is_str {m : Str} (h : Q (.bl false) H) : uIs (.str m) .non H Q := h
theorem w_isnt_str {m : Str} (h : Q (.bl true) H) : uIsnt (.str m) .non H Q := h
theorem w_is_non  (h : Q (.bl true) H) : uIs .non .non H Q := h
theorem w_isnt_non  (h : Q (.bl false) H) : uIsnt .non .non H Q := h
theorem w_is_ref {m : Addr} (h : Q (.bl false) H) : uIs (.ref m) .non H Q := h
theorem w_isnt_ref {m : Addr} (h : Q (.bl true) H) : uIsnt (.ref m) .non H Q := h
theorem ifNT {A B : Prop} (h : B) : if (!true) = true then A else B := iteF h
theorem ifNF {A B : Prop} (h : A) : if (!false) = true then A else B := iteT h
theorem w_max {m n : Int} (h : Q (.int (if n > m then n else m)) H) : uMax K [.int m, .int n] H Q := h
theorem w_min {m n : Int} (h : Q (.int (if n < m then n else m)) H) : uMin K [.int m, .int n] H Q := h
theorem w_abs {m : Int} (h : Q (.int (if m < 0 then -m else m)) H) : uAbs [.int m] H Q := h
theorem w_intI {m : Int} (h : Q (.int m) H) : uInt [.int m] H Q := h
theorem w_intB {m : Bool} (h : Q (.int (if m then 1 else 0)) H) : uInt [.bl m] H Q := h
theorem w_lenL {p : Addr} {xs : List V} (e : SqL K H p xs) (h : Q (.int xs.length) H) : uLen K [.ref p] H Q := .inl ⟨xs, .inl e, h⟩
theorem w_lenT {p : Addr} {xs : List V} (e : SqT K H p xs) (h : Q (.int xs.length) H) : uLen K [.ref p] H Q := .inl ⟨xs, .inr e, h⟩
theorem w_ixL {p : Addr} {xs : List V} {n : Int} {k : Nat} (e : SqL K H p xs) (ek : n = (k : Int)) (ev : xs[k]? = some v) (h : Q v H) : uIx K (.ref p) (.int n) H Q := ⟨xs, v, .inl e, by rw [ek]; exact atI_nat ev, h⟩
theorem w_ixT {p : Addr} {xs : List V} {n : Int} {k : Nat} (e : SqT K H p xs) (ek : n = (k : Int)) (ev : xs[k]? = some v) (h : Q v H) : uIx K (.ref p) (.int n) H Q := ⟨xs, v, .inr e, by rw [ek]; exact atI_nat ev, h⟩
theorem w_ixI {p : Addr} {ns : List Int} {n : Int} (e : SqL K H p (ns.map V.int)) (h0 : 0 ≤ n ∧ n.toNat < ns.length) (h : Q (.int (ns.getD n.toNat 0)) H) : uIx K (.ref p) (.int n) H Q :=
  ⟨_, .int (ns.getD n.toNat 0), .inl e, by
    have z : (ns.map V.int)[n.toNat]? = some (.int (ns.getD n.toNat 0)) := by rw [List.getElem?_map, List.getElem?_eq_getElem h0.2, List.getD_eq_getElem?_getD, List.getElem?_eq_getElem h0.2]; rfl
    have y := atI_nat z
    rw [show ((n.toNat : Nat) : Int) = n by omega] at y
    exact y, h⟩
theorem w_ixTI {p : Addr} {ns : List Int} {n : Int} (e : SqT K H p (ns.map V.int)) (h0 : 0 ≤ n ∧ n.toNat < ns.length) (h : Q (.int (ns.getD n.toNat 0)) H) : uIx K (.ref p) (.int n) H Q :=
  ⟨_, .int (ns.getD n.toNat 0), .inr e, by
    have z : (ns.map V.int)[n.toNat]? = some (.int (ns.getD n.toNat 0)) := by rw [List.getElem?_map, List.getElem?_eq_getElem h0.2, List.getD_eq_getElem?_getD, List.getElem?_eq_getElem h0.2]; rfl
    have y := atI_nat z
    rw [show ((n.toNat : Nat) : Int) = n by omega] at y
    exact y, h⟩
theorem w_appI {p : Addr} {ns : List Int} {z : Int} (e : H p = some (.lst (ns.map V.int))) (s : ns.length < 10000000) (h : Q .non (upd H p (.lst ((ns ++ [z]).map V.int)))) : rAppend (.ref p) [.int z] H Q :=
  ⟨p, _, _, rfl, rfl, e, by rw [List.length_map]; exact Nat.lt_of_lt_of_le s (by decide), by rw [List.map_append] at h; exact h⟩
theorem w_gsub {to ti : TE} {ts : TSet} {N : L2.St → Hp → Prop} (h : to σ H fun o H1 => ti σ H1 fun i H2 => ts o i v H2 fun H3 => N σ H3) : gSub to ti ts v σ H N := h
theorem ixN_in {n : Nat} {k : Int} (h : 0 ≤ k ∧ k.toNat < n) : ixN n k = some k.toNat := by unfold ixN; rw [if_pos h.1, if_pos (by omega)]
theorem w_setL {p : Addr} {xs : List V} {k : Int} {N : Hp → Prop} (e : H p = some (.lst xs)) (h0 : 0 ≤ k ∧ k.toNat < xs.length) (h : N (upd H p (.lst (xs.set k.toNat y)))) : uSet (.ref p) (.int k) y H N := .inl ⟨xs, _, e, ixN_in h0, h⟩
theorem w_ixA {p : Addr} {xs : List V} {n : Int} (e : SqL K H p xs) (h0 : 0 ≤ n ∧ n.toNat < xs.length) (h : ∀ v, xs[n.toNat]? = some v → Q v H) : uIx K (.ref p) (.int n) H Q :=
  ⟨xs, xs[n.toNat]'h0.2, .inl e, by
    have y := atI_nat (List.getElem?_eq_getElem h0.2)
    rw [show ((n.toNat : Nat) : Int) = n by omega] at y
    exact y, h _ (List.getElem?_eq_getElem h0.2)⟩
def partQ (x : V) (H1 : Hp) (Q : Option Int → Hp → Prop) : Prop := ∃ i, x = .int i ∧ Q (some i) H1
theorem w_sl {rs : V → Option Int → Option Int → Hp → VK → Prop} {tl th : TO} (h : te σ H fun x H1 => tl σ H1 fun l H2 => th σ H2 fun u H3 => rs x l u H3 Q) : tSl rs te tl th σ H Q := h
theorem w_part {Q : Option Int → Hp → Prop} (h : te σ H fun x H1 => partQ x H1 Q) : tPart te σ H Q := h
theorem w_partI {Q : Option Int → Hp → Prop} {n : Int} (h : Q (some n) H) : partQ (.int n) H Q := ⟨n, rfl, h⟩
theorem w_noPart {Q : Option Int → Hp → Prop} (h : Q none H) : tNoPart σ H Q := h
theorem w_ixTl {p : Addr} {xs : List V} {n : Int} (e : SqT K H p xs) (ev : xs[n.toNat]? = some v) (h0 : 0 ≤ n) (h : Q v H) : uIx K (.ref p) (.int n) H Q := w_ixT (k := n.toNat) e (by omega) ev h
theorem w_ixLl {p : Addr} {xs : List V} {n : Int} (e : SqL K H p xs) (ev : xs[n.toNat]? = some v) (h0 : 0 ≤ n) (h : Q v H) : uIx K (.ref p) (.int n) H Q := w_ixL (k := n.toNat) e (by omega) ev h
theorem w_bm {T : String} {q : V → List V → Hp → VK → Prop} (h : te σ H fun x H1 => bmQ K T q tA σ x H1 Q) : tBM K T q te tA σ H Q := h
theorem w_bmL {q : V → List V → Hp → VK → Prop} {p : Addr} {xs : List V} (e : H p = some (.lst xs)) (h : tA σ H fun vs H2 => q (.ref p) vs H2 Q) : bmQ K "list" q tA σ (.ref p) H Q := ⟨.inl ⟨rfl, _, .inl (.inl e)⟩, h⟩
theorem w_bmS {q : V → List V → Hp → VK → Prop} {z : Str} (h : tA σ H fun vs H2 => q (.str z) vs H2 Q) : bmQ K "str" q tA σ (.str z) H Q := ⟨rfl, h⟩
theorem w_tlist {p : Addr} {xs : List V} (e : SqL K H p xs) (h : ∀ l, H l = none → Q (.ref l) (upd H l (.lst xs))) : uList K [.ref p] H Q := ⟨xs, .inl e, h⟩
theorem w_for {wi : TI} {tb : TS} (h : wi σ H fun J H1 => forQ g tb D σ J H1) : tFor wi g tb D σ H := h
theorem f_range {tb : TS} {lo : Int} {n : Nat} (Pv : Nat → L2.St → Hp → Prop) (h0 : Pv 0 σ H)
    (hs : ∀ i σ H, i < n → Pv i σ H → g (.int (lo + i)) σ H fun σ2 H2 => tb { D with nx := Pv (i + 1), ct := Pv (i + 1), bk := D.nx } σ2 H2) (hd : ∀ σ H, Pv n σ H → D.nx σ H) : forQ g tb D σ (Itr lo n) H := for_range Pv h0 hs hd
theorem w_rng1 {R : It → Hp → Prop} (h : tA σ H fun vs H1 => rng1Q vs H1 R) : iRng1 tA σ H R := h
theorem w_rng1v {R : It → Hp → Prop} {n : Int} (h1 : -(2 ^ 62) ≤ n) (h2 : n < 2 ^ 62) (h : R (Itr 0 n.toNat) H) : rng1Q [.int n] H R := ⟨n, rfl, h1, h2, h⟩
theorem w_rng2 {R : It → Hp → Prop} (h : tA σ H fun vs H1 => rng2Q vs H1 R) : iRng2 tA σ H R := h
theorem w_rng2v {R : It → Hp → Prop} {m n : Int} (h1 : -(2 ^ 62) ≤ m ∧ m < 2 ^ 62 ∧ -(2 ^ 62) ≤ n ∧ n < 2 ^ 62) (h : R (Itr m (n - m).toNat) H) : rng2Q [.int m, .int n] H R := ⟨m, n, rfl, h1, h⟩
theorem w_iList {R : It → Hp → Prop} (h : te σ H fun x H1 => listQ K x H1 R) : iList K te σ H R := h
theorem w_iListv {R : It → Hp → Prop} {p : Addr} {xs : List V} (e : SqL K H p xs) (h : R (Itl K p) H) : listQ K (.ref p) H R := ⟨p, rfl, ⟨xs, e⟩, h⟩
theorem w_iTup {R : It → Hp → Prop} (h : te σ H fun x H1 => tupQ K x H1 R) : iTup K te σ H R := h
theorem w_iTupv {R : It → Hp → Prop} {p : Addr} {xs : List V} (e : SqT K H p xs) (h : R (Itt K p) H) : tupQ K (.ref p) H R := ⟨p, rfl, ⟨xs, e⟩, h⟩
theorem w_iStr {R : It → Hp → Prop} (h : te σ H fun x H1 => strQ x H1 R) : iStr te σ H R := h
theorem w_iStrv {R : It → Hp → Prop} {z : Str} (h : R (Its z) H) : strQ (.str z) H R := ⟨z, rfl, h⟩
theorem w_iRev {R : It → Hp → Prop} (h : tA σ H fun vs H1 => revQ K vs H1 R) : iRev K tA σ H R := h
theorem w_iRevv {R : It → Hp → Prop} {p : Addr} {xs : List V} (e : SqL K H p xs) (h : R (Itv K p xs.length) H) : revQ K [.ref p] H R := ⟨p, xs, rfl, e, h⟩
theorem w_raise {C : Addr} (h : W (.ref C) none σ H) : uRaise C W D σ H := h
theorem w_fld {C : Addr} (h : te σ H fun x H1 => fldQ C f x H1 Q) : uFld C f te σ H Q := h
theorem w_fldv {C p dx : Addr} {fs : List (Str × V)} (e : H p = some (.ins C dx fs)) (l : fs.lookup f = some v) (h : Q v H) : fldQ C f (.ref p) H Q := ⟨p, dx, fs, v, rfl, e, l, h⟩
theorem w_meth {C : Addr} {m : Str} (h : te σ H fun x H1 => methQ C m sp W tA σ x H1 Q) : uMeth C m sp W te tA σ H Q := h
theorem w_methv {C p dx : Addr} {m : Str} {fs : List (Str × V)} (e : H p = some (.ins C dx fs)) (l : fs.lookup m = none) (h : tA σ H fun vs H2 => sp (.ref p :: vs) H2 Q fun c d H3 => W c d σ H3) : methQ C m sp W tA σ (.ref p) H Q := ⟨p, dx, fs, rfl, e, l, h⟩
theorem w_setf {C : Addr} (h : tv σ H fun y H1 => te σ H1 fun x H2 => setfQ C f x y H2 (D.nx σ)) : uSetF C f te tv D σ H := h
theorem w_setfv {C p dx : Addr} {fs fs' : List (Str × V)} {N : Hp → Prop} (e : H p = some (.ins C dx fs)) (l : fs.length < 1000) (e2 : putF f y fs = fs') (h : N (upd H p (.ins C dx fs'))) : setfQ C f (.ref p) y H N := ⟨p, dx, fs, rfl, e, l, by rw [e2]; exact h⟩
theorem ifP {p A B : Prop} [Decidable p] (h1 : p → A) (h2 : ¬ p → B) : if decide p = true then A else B := by
  by_cases h : p
  · rw [if_pos (decide_eq_true h)]; exact h1 h
  · rw [if_neg (by rw [decide_eq_false h]; decide)]; exact h2 h
theorem ifN {p A B : Prop} [Decidable p] (h2 : ¬ p → A) (h1 : p → B) : if (!decide p) = true then A else B := by
  by_cases h : p
  · rw [if_neg (by rw [decide_eq_true h]; decide)]; exact h1 h
  · rw [if_pos (by rw [decide_eq_false h]; rfl)]; exact h2 h
theorem ifB {A B : Prop} (h1 : b = true → A) (h2 : b = false → B) : if b = true then A else B := by
  cases b
  · rw [if_neg Bool.false_ne_true]; exact h2 rfl
  · rw [if_pos rfl]; exact h1 rfl
theorem ifBN {A B : Prop} (h1 : b = false → A) (h2 : b = true → B) : if (!b) = true then A else B := by
  cases b
  · exact iteT (h1 rfl)
  · exact iteF (h2 rfl)
end steps
section heaps
variable {K : PySem.W.Frag} {H H' : Hp} {p q : Addr} {o u : HO} {xs : List V}
theorem upd_old (h : H q = some u) (n : H p = none) : upd H p o q = some u := by rw [upd_ne (ne_of_none h n)]; exact h
theorem upd_oth (h : H q = some u) (n : q ≠ p) : upd H p o q = some u := by rw [upd_ne n]; exact h
theorem none_of_upd (h : upd H p o q = none) : H q = none ∧ q ≠ p := by
  unfold upd at h
  split at h
  · cases h
  · exact ⟨h, by assumption⟩
theorem rd_old (h : Rd H q u) (n : H p = none) : Rd (upd H p o) q u := by
  rcases h with h | ⟨o', h⟩
  · exact .inl (upd_old h n)
  · exact .inr ⟨o', upd_old h n⟩
theorem sql_old (h : SqL K H q xs) (n : H p = none) : SqL K (upd H p o) q xs := h.imp (fun h => rd_old h n) id
theorem sqt_old (h : SqT K H q xs) (n : H p = none) : SqT K (upd H p o) q xs := h.imp (fun h => rd_old h n) id
theorem same_new (n : H p = none) : Same H (upd H p o) := fun b w h => upd_old h n
theorem same_upd {H1 : Hp} (s : Same H H1) (n : H p = none) : Same H (upd H1 p o) := fun b w h => by rw [upd_ne (ne_of_none h n)]; exact s b w h
theorem same_updN {H1 : Hp} (s : Same H H1) (n : H1 p = none) : Same H (upd H1 p o) := fun b w h => upd_old (s b w h) n
theorem Same.sqt (e : Same H H') (h : SqT K H q xs) : SqT K H' q xs := by
  rcases h with (h | ⟨o, h⟩) | h
  · exact .inl (.inl (e _ _ h))
  · exact .inl (.inr ⟨o, e _ _ h⟩)
  · exact .inr h
end heaps
section steps2
variable {K : PySem.W.Frag} {σ : L2.St} {H : Hp} {Q : VK} {C p : Addr} {sp : Sp} {W : WX} {t : TA} {te td ty tv : TE} {x y v : V} {kvs : List (Key × V)} {i : Int} {N : L2.St → Hp → Prop}
def mkQ (C : Addr) (sp : Sp) (W : WX) (σ : L2.St) (vs : List V) (H1 : Hp) (Q : VK) : Prop := ∀ x dx, H1 x = none → H1 dx = none → dx ≠ x → sp (.ref x :: vs) (upd (upd H1 dx (.own x)) x (.ins C dx [])) (fun v H2 => v = .non ∧ Q (.ref x) H2) fun c d H2 => W c d σ H2
theorem w_make (h : t σ H fun vs H1 => mkQ C sp W σ vs H1 Q) : uMake C sp W t σ H Q := h
def dgQ (x y : V) (H : Hp) (Q : VK) : Prop := ∃ a v, x = .ref a ∧ DGet H a y (some v) ∧ Q v H
theorem w_dget (h : td σ H fun x H1 => ty σ H1 fun y H2 => dgQ x y H2 Q) : tDGet td ty σ H Q := h
theorem w_inD (e : H p = some (.dK kvs)) (h : Q (.bl (valV kvs (.inl i)).isSome) H) : uIn K (.int i) (.ref p) H Q := .inr ⟨_, DGet.k (k := .inl i) e, h⟩
theorem w_ninD (e : H p = some (.dK kvs)) (h : Q (.bl (!(valV kvs (.inl i)).isSome)) H) : uNin K (.int i) (.ref p) H Q := .inr ⟨_, DGet.k (k := .inl i) e, h⟩
def dpQ (x y v : V) (H : Hp) (N : Hp → Prop) : Prop := ∃ a H4, x = .ref a ∧ DPut H a y v H4 ∧ N H4
theorem w_dput {D : Ends} (h : tv σ H fun v H1 => td σ H1 fun x H2 => ty σ H2 fun y H3 => dpQ x y v H3 (D.nx σ)) : sDPut td ty tv D σ H := h
theorem w_newD (h : ∀ p, H p = none → Q (.ref p) (upd H p (.dK []))) : tDNewK σ H Q := h
/-- a list times a number -/
theorem w_rep {xs : List V} {k : Int} (e : H p = some (.lst xs)) (h0 : 0 ≤ k) (h1 : k ≤ 100000) (h2 : xs.length ≤ 100) (h : ∀ q, H q = none → Q (.ref q) (upd H q (.lst (List.replicate k.toNat xs).flatten))) : uMul (.ref p) (.int k) H Q := by
  refine ⟨p, k, xs, rfl, rfl, e, by omega, by omega, ?_, h⟩
  have h3 : k.toNat ≤ 100000 := by omega
  have h4 : xs.length * k.toNat ≤ 100 * 100000 := Nat.mul_le_mul h2 h3
  exact Nat.le_trans h4 (by decide)
theorem rep1 (n : Nat) (z : Int) : (List.replicate n [V.int z]).flatten = (List.replicate n z).map V.int := by
  induction n with
  | zero => rfl
  | succ n ih => rw [List.replicate_succ, List.flatten_cons, ih, List.replicate_succ, List.map_cons]; rfl
theorem w_rep1 {z k : Int} (e : H p = some (.lst [.int z])) (h0 : 0 ≤ k) (h1 : k ≤ 100000) (h : ∀ q, H q = none → Q (.ref q) (upd H q (.lst ((List.replicate k.toNat z).map V.int)))) : uMul (.ref p) (.int k) H Q :=
  w_rep e h0 h1 (by simp) fun q hq => by rw [rep1]; exact h q hq
theorem w_gtup2 {a : Addr} {u : TGs} (e : SqT K H a [x, y]) (h : u [x, y] σ H N) : gTup K 2 u (.ref a) σ H N := ⟨a, _, rfl, e, rfl, h⟩
theorem w_gtup3 {a : Addr} {u : TGs} {z : V} (e : SqT K H a [x, y, z]) (h : u [x, y, z] σ H N) : gTup K 3 u (.ref a) σ H N := ⟨a, _, rfl, e, rfl, h⟩
theorem w_gtup4 {a : Addr} {u : TGs} {z w : V} (e : SqT K H a [x, y, z, w]) (h : u [x, y, z, w] σ H N) : gTup K 4 u (.ref a) σ H N := ⟨a, _, rfl, e, rfl, h⟩
theorem w_gcons {g : TG} {u : TGs} {r : List V} (h : g v σ H fun σ' H' => u r σ' H' N) : gCons g u (v :: r) σ H N := ⟨v, r, rfl, h⟩
theorem w_gnil (h : N σ H) : gNil [] σ H N := ⟨rfl, h⟩
def augQ (C : Addr) (f : Str) (r : V → V → Hp → VK → Prop) (tv : TE) (D : Ends) (σ : L2.St) (x : V) (H1 : Hp) : Prop := ∃ a dx fs v, x = .ref a ∧ H1 a = some (.ins C dx fs) ∧ fs.lookup f = some v ∧
  tv σ H1 fun y H2 => r v y H2 fun z H3 => ∃ dx' fs', H3 a = some (.ins C dx' fs') ∧ fs'.length < 1000 ∧ D.nx σ (upd H3 a (.ins C dx' (putF f z fs')))
theorem w_augf {D : Ends} {f : Str} {r : V → V → Hp → VK → Prop} (h : te σ H fun x H1 => augQ C f r tv D σ x H1) : uAugF C f r te tv D σ H := h
theorem w_augsub {D : Ends} {f : Str} {dx : Addr} {fs : List (Str × V)} {i j : Int} (e : H p = some (.ins C dx fs)) (l : fs.lookup f = some (.int i)) (s : fs.length < 1000) (h : D.nx σ (upd H p (.ins C dx (putF f (.int (i - j)) fs)))) : augQ C f rSub (tC (.int j)) D σ (.ref p) H :=
  ⟨p, dx, fs, _, rfl, e, l, i, j, rfl, rfl, dx, fs, e, s, h⟩
theorem w_augadd {D : Ends} {f : Str} {dx : Addr} {fs : List (Str × V)} {i j : Int} (e : H p = some (.ins C dx fs)) (l : fs.lookup f = some (.int i)) (s : fs.length < 1000) (h : D.nx σ (upd H p (.ins C dx (putF f (.int (i + j)) fs)))) : augQ C f rAdd (tC (.int j)) D σ (.ref p) H :=
  ⟨p, dx, fs, _, rfl, e, l, i, j, rfl, rfl, dx, fs, e, s, h⟩
end steps2
section whiles
variable {D : Ends} {σ : L2.St} {H : Hp} {c : TT} {tb : TS}
def whQ (P : L2.St → Hp → Prop) (μ : L2.St → Hp → Nat) (m : Nat) (tb : TS) (D : Ends) (σ : L2.St) (H : Hp) : Prop :=
  ∃ N : L2.St → Hp → Prop, (∀ σ' H', N σ' H' → ∃ m', m' < m ∧ (m' = μ σ' H' ∧ P σ' H')) ∧ tb { D with nx := N, ct := N, bk := D.nx } σ H
theorem f_while (P : L2.St → Hp → Prop) (μ : L2.St → Hp → Nat) (h0 : P σ H) (hs : ∀ σ H, P σ H → c σ H fun b H1 => if b = true then whQ P μ (μ σ H) tb D σ H1 else D.nx σ H1) : tWhile c tb D σ H := by
  refine ⟨fun m σ H => m = μ σ H ∧ P σ H, ⟨_, rfl, h0⟩, fun m σ H q => ?_⟩
  obtain ⟨rfl, p⟩ := q
  exact hs σ H p
theorem w_wh {P : L2.St → Hp → Prop} {μ : L2.St → Hp → Nat} {m : Nat} (h : tb { D with nx := fun σ' H' => P σ' H' ∧ μ σ' H' < m, ct := fun σ' H' => P σ' H' ∧ μ σ' H' < m, bk := D.nx } σ H) : whQ P μ m tb D σ H := ⟨_, fun _ _ n => ⟨_, n.2, rfl, n.1⟩, h⟩
end whiles
section data
variable {K : PySem.W.Frag} {H : Hp} {Q : VK} {α β : Type} [DecidableEq α] [PySem.W.Datum α] [DecidableEq β] [PySem.W.Datum β]
def Dt (K : PySem.W.Frag) (H : Hp) (v : V) (a : α) : Prop := Dp K H v (PySem.W.Datum.toD a)
def DtAll (K : PySem.W.Frag) (H : Hp) (vs : List V) (as : List α) : Prop := DpAll K H vs (as.map PySem.W.Datum.toD)
theorem Dt.int {i : Int} : Dt K H (.int i) i := Dp.int i
theorem Dt.bl {i : Bool} : Dt K H (.bl i) i := Dp.bl i
theorem Dt.str {i : Str} : Dt K H (.str i) i := Dp.str i
theorem Dt.list {p : Addr} {vs : List V} {as : List α} (e : SqL K H p vs) (h : DtAll K H vs as) : Dt K H (.ref p) as := Dp.lst e h
theorem Dt.tup {p : Addr} {vs : List V} {as : List α} (e : SqT K H p vs) (h : DtAll K H vs as) : Dt K H (.ref p) (PySem.W.Tup.mk as) := Dp.tup e h
theorem DtAll.nil : DtAll K H [] ([] : List α) := DpAll.nil
theorem DtAll.cons {v : V} {vs : List V} {a : α} {as : List α} (h : Dt K H v a) (hs : DtAll K H vs as) : DtAll K H (v :: vs) (a :: as) := DpAll.cons h hs
theorem DtAll.ints : ∀ (ns : List Int), DtAll K H (ns.map V.int) ns
  | [] => DpAll.nil
  | _ :: ns => DpAll.cons (Dp.int _) (DtAll.ints ns)
theorem DtAll.get : ∀ {vs : List V} {as : List α} {i : Nat} {v : V}, DtAll K H vs as → vs[i]? = some v → ∃ a, as[i]? = some a ∧ Dt K H v a
  | [], [], _, _, _, e => by cases e
  | [], _ :: _, _, _, h, _ => by cases h
  | _ :: _, [], _, _, h, _ => by cases h
  | _ :: _, a :: as, 0, v, h, e => by
    cases h with
    | cons h1 h2 => cases e; exact ⟨a, rfl, h1⟩
  | _ :: _, _ :: _, i + 1, v, h, e => by
    cases h with
    | cons h1 h2 => exact DtAll.get (i := i) h2 e
theorem DtAll.length : ∀ {vs : List V} {as : List α}, DtAll K H vs as → vs.length = as.length
  | [], [], _ => rfl
  | [], _ :: _, h => by cases h
  | _ :: _, [], h => by cases h
  | _ :: vs, _ :: as, h => by
    cases h with
    | cons h1 h2 => rw [List.length_cons, List.length_cons, DtAll.length h2]
theorem w_eqD {x y : V} {a b : α} (h1 : Dt K H x a) (h2 : Dt K H y b) (hd : PySem.W.Datum.depth α ≤ 60) (hx : ∃ p, x = .ref p) (h : Q (.bl (decide (a = b))) H) : uEq K x y H Q := by
  obtain ⟨p, rfl⟩ := hx
  have z : rEqP K (.ref p) y H Q := ⟨_, _, h1, h2, ⟨PySem.W.Datum.plain a, Nat.le_trans (PySem.W.Datum.depth_le a) hd⟩, PySem.W.Datum.plain b, by rw [PySem.W.Datum.eqv]; exact h⟩
  unfold uEq; exact .inr z
theorem w_neD {x y : V} {a b : α} (h1 : Dt K H x a) (h2 : Dt K H y b) (hd : PySem.W.Datum.depth α ≤ 60) (hx : ∃ p, x = .ref p) (h : Q (.bl (!decide (a = b))) H) : uNe K x y H Q := by
  obtain ⟨p, rfl⟩ := hx
  have z : rNeP K (.ref p) y H Q := ⟨_, _, h1, h2, ⟨PySem.W.Datum.plain a, Nat.le_trans (PySem.W.Datum.depth_le a) hd⟩, PySem.W.Datum.plain b, by rw [PySem.W.Datum.eqv]; exact h⟩
  unfold uNe; exact .inr z
mutual
theorem Dp.same {H' : Hp} (s : Same H H') : ∀ {d : PyData} {v : V}, Dp K H v d → Dp K H' v d
  | .none, _, h => by cases h; exact .non
  | .bool _, _, h => by cases h; exact .bl _
  | .int _, _, h => by cases h; exact .int _
  | .str _, _, h => by cases h; exact .str _
  | .list _, _, h => by
    cases h with
    | lst e a => exact .lst (s.seq e) (DpAll.same s a)
  | .tuple _, _, h => by
    cases h with
    | tup e a =>
      refine .tup ?_ (DpAll.same s a)
      rcases e with (e | ⟨o, e⟩) | e
      · exact .inl (.inl (s _ _ e))
      · exact .inl (.inr ⟨o, s _ _ e⟩)
      · exact .inr e
  | .dict _, _, h => by cases h
theorem DpAll.same {H' : Hp} (s : Same H H') : ∀ {ds : List PyData} {vs : List V}, DpAll K H vs ds → DpAll K H' vs ds
  | [], _, h => by cases h; exact .nil
  | _ :: _, _, h => by
    cases h with
    | cons h1 h2 => exact .cons (Dp.same s h1) (DpAll.same s h2)
end
theorem Dt.same {H' : Hp} (s : Same H H') {v : V} {a : α} (h : Dt K H v a) : Dt K H' v a := Dp.same s h
theorem DtAll.same {H' : Hp} (s : Same H H') {vs : List V} {as : List α} (h : DtAll K H vs as) : DtAll K H' vs as := DpAll.same s h
end data
section comps
variable {K : PySem.W.Frag} {σ : L2.St} {H1 : Hp} {Q : VK} {g : TG} {tt : TT} {te : TE} {vs : List Nat}
def lcQ (g : TG) (tt : TT) (te : TE) (vs : List Nat) (σ : L2.St) (J : It) (H1 : Hp) (Q : VK) : Prop := ∀ D, H1 D = none → ∃ W : Nat → Nat → Hp → Prop, (∃ m, W 0 m (upd H1 D (.lst []))) ∧ ∀ i m H, W i m H →
  (J.stop i H ∧ Q (.ref D) H) ∨ (J.go i H ∧ ∃ Nx : Hp → Prop, (∀ H', Nx H' → ∃ m', m' < m ∧ W (i + 1) m' H') ∧ ∀ x H', J.yld i H x H' → g x (wipe σ vs) H' fun σ2 H2 => wipe σ2 vs = wipe σ vs ∧ tt σ2 H2 fun b H3 =>
    if b = true then te σ2 H3 fun y H4 => ∃ acc, H4 D = some (.lst acc) ∧ acc.length < sizeLine ∧ Nx (upd H4 D (.lst (acc ++ [y]))) else Nx H3)
theorem w_lc {wi : TI} (h : wi σ H1 fun J H2 => lcQ g tt te vs σ J H2 Q) : tLc wi g tt te vs σ H1 Q := h
theorem w_yes {QB : Bool → Hp → Prop} (h : QB true H1) : tYes σ H1 QB := h
/-- what a turn of a comprehension wants: the new item, put behind the list at D -/
def putQ (D : Addr) (N : Hp → Prop) (y : V) (H4 : Hp) : Prop := ∃ acc, H4 D = some (.lst acc) ∧ acc.length < sizeLine ∧ N (upd H4 D (.lst (acc ++ [y])))
/-- a comprehension over anything that yields by its place, P the heap between the turns -/
theorem l_any {J : It} {n : Nat} {item : Nat → V → Prop} (P : Addr → Nat → Hp → Prop) (h0 : ∀ D, H1 D = none → P D 0 (upd H1 D (.lst [])))
    (hgo : ∀ D i H, H1 D = none → i < n → P D i H → J.go i H ∧ ∀ x H', J.yld i H x H' → H' = H ∧ item i x) (hst : ∀ D H, H1 D = none → P D n H → J.stop n H)
    (hs : ∀ D i x H, H1 D = none → i < n → item i x → P D i H → g x (wipe σ vs) H fun σ2 H2 => wipe σ2 vs = wipe σ vs ∧ tt σ2 H2 fun b H3 => if b = true then te σ2 H3 (putQ D (P D (i + 1))) else P D (i + 1) H3)
    (hd : ∀ D H, H1 D = none → P D n H → Q (.ref D) H) : lcQ g tt te vs σ J H1 Q := by
  intro D hD
  refine ⟨fun i m H => m = n - i ∧ i ≤ n ∧ P D i H, ⟨n, by simp, Nat.zero_le _, h0 D hD⟩, fun i m H q => ?_⟩
  obtain ⟨rfl, hi, p⟩ := q
  rcases Nat.lt_or_ge i n with hl | hl
  · obtain ⟨a, b⟩ := hgo D i H hD hl p
    refine .inr ⟨a, P D (i + 1), fun H' p' => ⟨n - (i + 1), by omega, rfl, hl, p'⟩, fun x H' y => ?_⟩
    obtain ⟨rfl, c⟩ := b x H' y
    exact hs D i x _ hD hl c p
  · obtain rfl : i = n := Nat.le_antisymm hi hl
    exact .inl ⟨hst D H hD p, hd D H hD p⟩
theorem l_range {lo : Int} {n : Nat} (P : Addr → Nat → Hp → Prop) (h0 : ∀ D, H1 D = none → P D 0 (upd H1 D (.lst [])))
    (hs : ∀ D i H, H1 D = none → i < n → P D i H → g (.int (lo + (i : Nat))) (wipe σ vs) H fun σ2 H2 => wipe σ2 vs = wipe σ vs ∧ tt σ2 H2 fun b H3 => if b = true then te σ2 H3 (putQ D (P D (i + 1))) else P D (i + 1) H3)
    (hd : ∀ D H, H1 D = none → P D n H → Q (.ref D) H) : lcQ g tt te vs σ (Itr lo n) H1 Q :=
  l_any (n := n) (item := fun i x => x = .int (lo + (i : Nat))) P h0 (fun _ i _ _ h _ => ⟨h, fun _ _ y => y⟩) (fun _ _ _ _ => Nat.le_refl _) (fun D i x H a b c p => by rw [c]; exact hs D i H a b p) hd
theorem l_list {a : Addr} {xs : List V} (P : Addr → Nat → Hp → Prop) (h0 : ∀ D, H1 D = none → P D 0 (upd H1 D (.lst []))) (hl : ∀ D i H, H1 D = none → P D i H → SqL K H a xs)
    (hs : ∀ D i x H, H1 D = none → xs[i]? = some x → P D i H → g x (wipe σ vs) H fun σ2 H2 => wipe σ2 vs = wipe σ vs ∧ tt σ2 H2 fun b H3 => if b = true then te σ2 H3 (putQ D (P D (i + 1))) else P D (i + 1) H3)
    (hd : ∀ D H, H1 D = none → P D xs.length H → Q (.ref D) H) : lcQ g tt te vs σ (Itl K a) H1 Q :=
  l_any (n := xs.length) (item := fun i x => xs[i]? = some x) P h0 (fun D i H hD h p => ⟨⟨xs, xs[i], hl D i H hD p, List.getElem?_eq_getElem h⟩, fun x H' y => ⟨y.1, y.2 xs (hl D i H hD p)⟩⟩)
    (fun D H hD p => ⟨xs, hl D _ H hD p, Nat.le_refl _⟩) (fun D i x H a b c p => hs D i x H a c p) hd
end comps
section texts
/-- the text of these signs -/
def tx (l : List Nat) : Str := ⟨l.toArray⟩
theorem tx_list (l : List Nat) : (tx l).cps.toList = l := rfl
theorem tx_len (l : List Nat) : (tx l).length = l.length := by unfold tx Str.length; exact List.size_toArray
theorem tx_app (l m : List Nat) : tx l ++ tx m = tx (l ++ m) := PySem.Str.ext' (by rw [PySem.Str.cps_append]; exact Array.toList_inj.mp (by rw [Array.toList_append]; rfl))
theorem tx_inj {l m : List Nat} : tx l = tx m ↔ l = m := ⟨fun h => by have := congrArg (fun z : Str => z.cps.toList) h; exact this, fun h => by rw [h]⟩
theorem cut_tk (l : List Nat) (k : Nat) : cutS (tx l) none (some (k : Int)) = tx (l.take k) := by
  unfold cutS
  rw [tx_len, HT.sIx_nat, HT.sIx_none, List.drop_zero, Nat.sub_zero, tx_list, ← List.take_take, List.take_length]
  rfl
theorem cut_dp (l : List Nat) (k : Nat) : cutS (tx l) (some (k : Int)) none = tx (l.drop k) := by
  unfold cutS
  rw [tx_len, HT.sIx_nat, HT.sIx_none, tx_list]
  rcases Nat.le_total k l.length with h | h
  · rw [Nat.min_eq_left h, List.take_of_length_le (by rw [List.length_drop]; exact Nat.le_refl _)]; rfl
  · rw [Nat.min_eq_right h, List.drop_length, List.drop_eq_nil_of_le h, List.take_nil]; rfl
theorem fold_rep (c : Nat) : ∀ (n : Nat) (a : Array Nat), (List.replicate n #[c]).foldl (· ++ ·) a = a ++ (List.replicate n c).toArray
  | 0, a => by simp
  | n + 1, a => by
    rw [List.replicate_succ, List.foldl_cons, fold_rep c n]
    apply Array.toList_inj.mp
    simp [List.replicate_succ]
theorem mul_one (c : Nat) (n : Nat) : Txt.mul (tx [c]) (n : Int) = tx (List.replicate n c) := by
  unfold Txt.mul
  by_cases h : (n : Int) < 1
  · rw [if_pos h]; obtain rfl : n = 0 := by omega
    rfl
  · rw [if_neg h]
    by_cases h2 : ((n : Int) == 1 || (tx [c]).length == 0) = true
    · rw [if_pos h2]
      have : (n : Int) = 1 := by
        rcases Bool.or_eq_true_iff.mp h2 with h2 | h2
        · exact eq_of_beq h2
        · cases h2
      obtain rfl : n = 1 := by omega
      rfl
    · rw [if_neg h2, Int.toNat_natCast]
      exact PySem.Str.ext' (by show (List.replicate n #[c]).foldl (· ++ ·) #[] = _; rw [fold_rep]; simp [tx])
theorem mulOk_one (c : Nat) {n : Int} (h0 : 0 ≤ n) (h1 : n ≤ 100000) : MulOk (tx [c]) n := by
  have e : (tx [c]).length = 1 := rfl
  refine ⟨?_, fun h _ => ?_, fun h _ => ?_⟩
  · rw [decide_eq_false (by omega), decide_eq_false (by omega)]; rfl
  · rw [e]
    have : (1 : Int) ≤ (2 ^ 63 - 1) / n := Int.le_ediv_of_mul_le (by omega) (by omega)
    omega
  · rw [e]; unfold Builtin.Str.tooLong
    rw [decide_eq_false]
    have : (100000 : Nat) ≤ sizeLine := by decide
    omega
/-- the first place of a sign in a text, or -1 -/
def ixc (l : List Nat) (c : Nat) : Int := if c ∈ l then (l.idxOf c : Int) else -1
theorem tx_find (l : List Nat) (c : Nat) : Txt.find (tx l) (tx [c]) = ixc l c := by
  unfold Txt.find ixc
  have key : ∀ i, PySem.StrLaws.At (tx l) (tx [c]) (tx l).length i ↔ l[i]? = some c := fun i => PySem.StrLaws.subAt_one (tx l) c i
  rcases PySem.StrLaws.occ_head (tx l) (tx [c]) 1 (Nat.le_refl 1) with ⟨e, hn⟩ | ⟨i, r, e, ha, hn⟩
  · rw [e, if_neg]
    intro hm
    obtain ⟨i, hi⟩ := List.getElem?_of_mem hm
    exact hn i ((key i).mpr hi)
  · rw [e]
    have hi := (key i).mp ha
    rw [if_pos (List.mem_of_getElem? hi)]
    have hl : i < l.length := (List.getElem?_eq_some_iff.mp hi).1
    have hg : l[i] = c := (List.getElem?_eq_some_iff.mp hi).2
    have h1 : l.idxOf c < l.length := List.idxOf_lt_length_iff.mpr (List.mem_of_getElem? hi)
    have h2 : l[l.idxOf c] = c := List.getElem_idxOf h1
    have h3 : ¬ l.idxOf c < i := fun q => hn _ q ((key _).mpr (by rw [List.getElem?_eq_getElem h1, h2]))
    have h4 : ¬ i < l.idxOf c := fun q => by
      have := List.not_of_lt_findIdx (p := (· == c)) (xs := l) (i := i) q
      simp [hg] at this
    have : l.idxOf c = i := by omega
    rw [this]
theorem cnt_eq (c : Nat) : ∀ l : List Nat, PyProof.Rows.cnt c l = (l.count c : Nat)
  | [] => rfl
  | n :: l => by
    rw [PyProof.Rows.cnt_cons, cnt_eq c l, List.count_cons]
    by_cases h : n = c
    · subst h; simp; omega
    · simp [h]
theorem tx_count (l : List Nat) (c : Nat) : Txt.count (tx l) (tx [c]) = (l.count c : Nat) := (PyProof.Rows.count_is (tx l) c).trans (cnt_eq c l)
end texts
section textsteps
variable {X : Cx} {K : PySem.W.Frag} {H : Hp} {Q : VK} {l m : List Nat} {c : Nat} {n : Int}
def uFind : V → List V → Hp → VK → Prop := fun x xs H Q => match x, xs with
  | .str a, [.str b] => Q (.int (Txt.find a b)) H
  | _, _ => False
def uCount : V → List V → Hp → VK → Prop := fun x xs H Q => match x, xs with
  | .str a, [.str b] => Q (.int (Txt.count a b)) H
  | _, _ => False
theorem w_addX (s : l.length + m.length ≤ 100000) (h : Q (.str (tx (l ++ m))) H) : uAdd K (.str (tx l)) (.str (tx m)) H Q := ⟨by rw [tx_len, tx_len]; exact small9 s, by rw [tx_app]; exact h⟩
theorem w_mulX (h0 : 0 ≤ n) (h1 : n ≤ 100000) (h : Q (.str (tx (List.replicate n.toNat c))) H) : uMul (.str (tx [c])) (.int n) H Q := by
  obtain ⟨k, rfl⟩ := Int.eq_ofNat_of_zero_le h0
  exact ⟨mulOk_one c h0 h1, by rw [mul_one]; exact h⟩
theorem w_lenX (s : l.length ≤ 100000) (h : Q (.int l.length) H) : uLen K [.str (tx l)] H Q := ⟨by rw [tx_len]; exact small9 s, by rw [tx_len]; exact h⟩
theorem w_truX {QB : Bool → Hp → Prop} (s : l.length ≤ 100000) (h : QB (!decide (l.length = 0)) H) : truV K (.str (tx l)) H QB := ⟨by rw [tx_len]; exact small9 s, by rw [tx_len]; exact h⟩
theorem d_tx : decide (tx l = tx m) = decide (l = m) := decide_eq_decide.mpr tx_inj
theorem w_eqX (h : Q (.bl (decide (l = m))) H) : uEq K (.str (tx l)) (.str (tx m)) H Q := by
  rw [← d_tx] at h; exact h
theorem w_neX (h : Q (.bl (!decide (l = m))) H) : uNe K (.str (tx l)) (.str (tx m)) H Q := by
  rw [← d_tx] at h; exact h
theorem w_tkX (s : l.length ≤ 100000) (h0 : 0 ≤ n) (h : Q (.str (tx (l.take n.toNat))) H) : uSl K (.str (tx l)) none (some n) H Q := by
  obtain ⟨k, rfl⟩ := Int.eq_ofNat_of_zero_le h0
  exact .inr (.inr ⟨_, rfl, by rw [tx_len]; exact small9 s, by rw [cut_tk]; exact h⟩)
theorem w_dpX (s : l.length ≤ 100000) (h0 : 0 ≤ n) (h : Q (.str (tx (l.drop n.toNat))) H) : uSl K (.str (tx l)) (some n) none H Q := by
  obtain ⟨k, rfl⟩ := Int.eq_ofNat_of_zero_le h0
  exact .inr (.inr ⟨_, rfl, by rw [tx_len]; exact small9 s, by rw [cut_dp]; exact h⟩)
theorem w_ixX (s : l.length ≤ 100000) (h0 : 0 ≤ n ∧ n.toNat < l.length) (h : Q (.str (tx [l.getD n.toNat 0])) H) : uIx K (.str (tx l)) (.int n) H Q := by
  refine ⟨by rw [tx_len]; exact small9 s, l.getD n.toNat 0, ?_, h⟩
  have y := atI_nat (show l[n.toNat]? = some (l.getD n.toNat 0) by rw [List.getD_eq_getElem?_getD, List.getElem?_eq_getElem h0.2]; rfl)
  rw [show ((n.toNat : Nat) : Int) = n by omega] at y
  exact y
theorem w_findX (h : Q (.int (ixc l c)) H) : uFind (.str (tx l)) [.str (tx [c])] H Q := by
  rw [← tx_find] at h; exact h
theorem w_countX (h : Q (.int ((l.count c : Nat) : Int)) H) : uCount (.str (tx l)) [.str (tx [c])] H Q := by
  rw [← tx_count] at h; exact h
end textsteps
section steps4
variable {X : Cx} {K : PySem.W.Frag} {D : Ends} {σ : L2.St} {H H1 : Hp} {Q : VK} {g : TG} {tb : TS} {tt : TT} {te td ty tx : TE} {tA : TA} {p q a b : Addr} {xs ys : List V} {kvs : List (Key × V)} {x y z v : V} {i : Int} {vs : List Nat}
def enumQ (K : PySem.W.Frag) (vs : List V) (H1 : Hp) (R : It → Hp → Prop) : Prop := ∃ a xs, vs = [.ref a] ∧ SqL K H1 a xs ∧ R (Ite K a) H1
theorem w_iEnum {R : It → Hp → Prop} (h : tA σ H fun vs H1 => enumQ K vs H1 R) : iEnum K tA σ H R := h
theorem w_iEnumv {R : It → Hp → Prop} (e : SqL K H p xs) (h : R (Ite K p) H) : enumQ K [.ref p] H R := ⟨p, xs, rfl, e, h⟩
def zipQ (K : PySem.W.Frag) (vs : List V) (H1 : Hp) (R : It → Hp → Prop) : Prop := ∃ a b xs ys, vs = [.ref a, .ref b] ∧ SqL K H1 a xs ∧ SqL K H1 b ys ∧ R (Itz K a b) H1
theorem w_iZip {R : It → Hp → Prop} (h : tA σ H fun vs H1 => zipQ K vs H1 R) : iZip K tA σ H R := h
theorem w_iZipv {R : It → Hp → Prop} (e : SqL K H p xs) (e2 : SqL K H q ys) (h : R (Itz K p q) H) : zipQ K [.ref p, .ref q] H R := ⟨p, q, xs, ys, rfl, e, e2, h⟩
/-- a comprehension over two lists of one length -/
theorem l_zip (he : xs.length = ys.length) (P : Addr → Nat → Hp → Prop) (h0 : ∀ D, H1 D = none → P D 0 (upd H1 D (.lst []))) (hl : ∀ D i H, H1 D = none → P D i H → SqL K H a xs ∧ SqL K H b ys)
    (hs : ∀ D i x y H T, H1 D = none → xs[i]? = some x → ys[i]? = some y → P D i H → H T = none → g (.ref T) (wipe σ vs) (upd H T (.tup [x, y])) fun σ2 H2 => wipe σ2 vs = wipe σ vs ∧ tt σ2 H2 fun b H3 => if b = true then te σ2 H3 (putQ D (P D (i + 1))) else P D (i + 1) H3)
    (hd : ∀ D H, H1 D = none → P D xs.length H → Q (.ref D) H) : lcQ g tt te vs σ (Itz K a b) H1 Q := by
  intro D hD
  refine ⟨fun i m H => m = xs.length - i ∧ i ≤ xs.length ∧ P D i H, ⟨_, rfl, Nat.zero_le _, h0 D hD⟩, fun i m H q => ?_⟩
  obtain ⟨rfl, hi, p⟩ := q
  obtain ⟨e1, e2⟩ := hl D i H hD p
  rcases Nat.lt_or_ge i xs.length with hlt | hge
  · refine .inr ⟨⟨xs, ys, xs[i], ys[i]'(by omega), e1, e2, List.getElem?_eq_getElem hlt, List.getElem?_eq_getElem (by omega)⟩, P D (i + 1), fun H' p' => ⟨_, by omega, rfl, hlt, p'⟩, fun x H' y => ?_⟩
    obtain ⟨T, x', y', rfl, hT, rfl, hx, hy⟩ := y
    exact hs D i x' y' H T hD (hx xs e1) (hy ys e2) p hT
  · obtain rfl : i = xs.length := by omega
    exact .inl ⟨⟨xs, ys, e1, e2, .inl (Nat.le_refl _)⟩, hd D H hD p⟩
def keysQ (x : V) (H1 : Hp) (R : It → Hp → Prop) : Prop := ∃ d o, x = .ref d ∧ ((∃ kvs, H1 d = some (.frz o (.dK kvs)) ∧ R (Itk d o kvs) H1) ∨ ∃ kvs, H1 d = some (.frz o (.dT kvs)) ∧ R (Itkt d o kvs) H1)
theorem w_iKeys {R : It → Hp → Prop} (h : te σ H fun x H1 => keysQ x H1 R) : iKeys te σ H R := h
/-- d.get(k, e), d.get(k) -/
def get2Q (ty tx : TE) (σ : L2.St) (x : V) (H1 : Hp) (Q : VK) : Prop := ∃ a, x = .ref a ∧ IsD H1 a ∧ ty σ H1 fun y H2 => tx σ H2 fun z H3 => ∃ o, DGet H3 a y o ∧ Q (o.getD z) H3
def getQ (p : Addr) (y z : V) (H : Hp) (Q : VK) : Prop := ∃ o, DGet H p y o ∧ Q (o.getD z) H
theorem w_dget2 (h : td σ H fun x H1 => get2Q ty tx σ x H1 Q) : tDGet2 td ty tx σ H Q := h
theorem w_dget2v (e : H p = some (.dK kvs)) (h : ty σ H fun y H2 => tx σ H2 fun z H3 => getQ p y z H3 Q) : get2Q ty tx σ (.ref p) H Q := ⟨p, rfl, .inl ⟨kvs, .inl e⟩, h⟩
def get1Q (ty : TE) (σ : L2.St) (x : V) (H1 : Hp) (Q : VK) : Prop := ∃ a, x = .ref a ∧ IsD H1 a ∧ ty σ H1 fun y H2 => getQ a y .non H2 Q
theorem w_dget1 (h : td σ H fun x H1 => get1Q ty σ x H1 Q) : tDGet1 td ty σ H Q := h
theorem w_dget1v (e : H p = some (.dK kvs)) (h : ty σ H fun y H2 => getQ p y .non H2 Q) : get1Q ty σ (.ref p) H Q := ⟨p, rfl, .inl ⟨kvs, .inl e⟩, h⟩
theorem w_getI (e : H p = some (.dK kvs)) (h : Q ((valV kvs (.inl i)).getD z) H) : getQ p (.int i) z H Q := ⟨_, DGet.k (k := .inl i) e, h⟩
/-- d.pop(k) -/
def pop1Q (ty : TE) (σ : L2.St) (x : V) (H1 : Hp) (Q : VK) : Prop := ∃ a, x = .ref a ∧ IsD H1 a ∧ ty σ H1 fun y H2 => popQ1 a y H2 Q
where popQ1 (a : Addr) (y : V) (H2 : Hp) (Q : VK) : Prop := ∃ kvs k v, H2 a = some (.dK kvs) ∧ y = kV k ∧ valV kvs k = some v ∧ Q v (upd H2 a (.dK (dropK kvs k)))
theorem w_dpop1 (h : td σ H fun x H1 => pop1Q ty σ x H1 Q) : tDPop1 td ty σ H Q := h
theorem w_dpop1v (e : H p = some (.dK kvs)) (h : ty σ H fun y H2 => pop1Q.popQ1 p y H2 Q) : pop1Q ty σ (.ref p) H Q := ⟨p, rfl, .inl ⟨kvs, .inl e⟩, h⟩
/-- del d[k] -/
def delQ (x y : V) (H2 : Hp) (N : Hp → Prop) : Prop := ∃ a kvs k, x = .ref a ∧ H2 a = some (.dK kvs) ∧ y = kV k ∧ (valV kvs k).isSome = true ∧ N (upd H2 a (.dK (dropK kvs k)))
theorem w_ddel (h : td σ H fun x H1 => ty σ H1 fun y H2 => delQ x y H2 (D.nx σ)) : sDDel td ty D σ H := h
end steps4
section hotdefs
variable {P : Program} {w : World} {K : PySem.W.Frag} {mg : Str → Option Value} {base : Heap}
structure FnX (P : Program) (w : World) (K : PySem.W.Frag) (mg : Str → Option Value) (base : Heap) (k : Nat) (f : Addr) (fd : FuncData) (ps : List Str) (sp : Addr → Value → Sp) : Prop where
  len : ∀ a c vs H Q E, sp a c vs H Q E → vs.length = ps.length
  run : ∀ (A : Around) (outer : List Env) (s : Shared) (H : Hp) (args : Args) (us : List Value) (vs : List V) (Q : VK) (E : XK) (p : Addr × Obj) (cls : Value), L2H.RoomH k A → L2H.PinOk outer H s p → Zc cls none p.2 → (∃ fs, p.2.data = .fields fs) →
    Env0 P w K mg base A outer s H → BindsTo s fd args (ps.zip us) → Vals vs us → sp p.1 cls vs H Q E → codeAny (model P w) A (.call (.ref f) args) (CR (L2.CX P w) outer P w H s Q E) s
theorem okH {x qual : Str} {st : Stmt} {f : Addr} {fd : FuncData} {N ps : List Str} {k : Nat} {sp : Addr → Value → Sp} (F : Fun K x qual st f fd) (S : FnScope N ps (defScope st)) (len : ∀ a c vs H Q E, sp a c vs H Q E → vs.length = ps.length)
    (hbody : ∀ (cdv : Value) (A : Around) (outer : List Env) (s : Shared) (H : Hp) (vs : List V) (Q : VK) (E : XK) (p : Addr × Obj) (cls : Value), Zc cls none p.2 → (∃ fs, p.2.data = .fields fs) → L2H.RoomH k (A.deeper (envOfC qual (defScope st) s.heap.objs.size f cdv)) → sp p.1 cls vs H Q E →
      ∃ t, PSs (L2H.cxH (L2.CX P w) P w K mg base N qual (defScope st) f cdv A outer s H E p) (defBody st) t ∧ t { nx := fun _ H' => Q .non H', rt := Q } (start N vs) H) : FnX P w K mg base (k + 1) f fd ps sp := by
  obtain ⟨oc, od, kV, doc, pm, an, cdv, ct, osl, rfl, lk, hcd⟩ := F.ex
  refine ⟨len, fun A outer s H args us vs Q E p cls hr hpin hz hf e0 hb r hsp => ?_⟩
  have hl := len _ _ _ _ _ _ hsp
  have KX : K.In s.heap := e0.mod.kin.keeps fun b o e => (e0.bs b o e).1
  have lim : s.heap.NoLimit := e0.mod.nolimit.keeps fun b o e => (e0.bs b o e).1
  have hkind : ∀ y ∈ ps.zip us, (defScope st).names.lookup y.1 = some .local ∨ ((defScope st).names.lookup y.1 = some .cell ∧ ((cellsFrom (s.heap.objs.size + 1) (defScope st).names []).lookup y.1).isSome = true) := fun ⟨n, v⟩ hy => by
    rcases S.par n (List.of_mem_zip hy).1 with q | q
    · exact .inl q
    · exact .inr ⟨q, PySem.W.cellsFrom_some _ _ _ (.inl q)⟩
  refine codeAny_call_function hr.depth (KX _ _ lk) rfl S.co S.gen rfl (PySem.W.codeRec_of KX hcd) (hb _ _ _ _ ?_)
  refine wpAny_newFunctionEnv_cells S.kind hkind fun env he s1 x => ?_
  subst he
  refine ⟨lim.keeps x.toInCall.keep, codeAny_func ?_⟩
  obtain ⟨t, ht, hq⟩ := hbody cdv A outer s H vs Q E p cls hz hf (hr.deeper _) hsp
  have I : Inv (L2H.cxH (L2.CX P w) P w K mg base N qual (defScope st) f cdv A outer s H E p) [] (L2.start N vs) H s1 := L2H.inv_startH S hpin e0 hl r x
  refine wpAny_mono (ht.run [] s1 (L2.start N vs) H _ I hq) (fun fl s' hs => ?_) fun e s' hs => hs
  have fin : ∀ {σ' : L2.St} {H' : Hp} {v : V} {u : Value}, Inv (L2H.cxH (L2.CX P w) P w K mg base N qual (defScope st) f cdv A outer s H E p) [] σ' H' s' → RelV v u → Q v H' → CE outer P w H s Q u s' :=
    fun {σ' H' v u} J rv q => ⟨v, H', J.os, J.bare, J.base, J.hok, rv, q⟩
  cases fl with
  | ret u =>
    obtain ⟨v, σ', H', J, rv, q⟩ := hs
    exact fin J rv q
  | next =>
    obtain ⟨σ', H', J, q⟩ := hs
    exact fin (v := V.non) (u := Value.none) J rfl q
  | brk =>
    obtain ⟨_, _, _, q⟩ := hs
    exact False.elim q
  | cont =>
    obtain ⟨_, _, _, q⟩ := hs
    exact False.elim q
variable {X : Cx}
theorem c_isP {a : Addr} {oe : Obj} {cls : Value} {d : Option Addr} (hp : (a, oe) ∈ X.pn) (hz : Zc cls d oe) (hf : ∃ fs, oe.data = .fields fs) : CallR X (.builtin "isinstance") (uIsE X.K a cls d) := by
  intro pins s σ H xs us Q I r h
  obtain ⟨D, C, b, rfl, rfl, x, rfl, e, q⟩ := h
  cases r with
  | cons rx rr =>
    cases rr with
    | cons rt rr =>
      cases rr
      cases rx
      cases rt
      obtain ⟨hget, _⟩ := I.pin (a, oe) (List.mem_append.mpr (.inl hp))
      obtain ⟨vs, hv⟩ := hf
      have J : PySem.W.InstAt s.heap a oe D none := by
        obtain ⟨oc, od, oda, osl⟩ := oe
        obtain ⟨h1, h2⟩ := hz
        dsimp only at h1 h2 hv
        subst h1 h2 hv
        exact ⟨hget, rfl, rfl, trivial⟩
      exact PySem.W.kia_one (PySem.W.handS_kitx_exc x.hg x.hk x.hs x.hd x.ha x.hn x.ht x.hm) I.kIn J e (fun z => nomatch z) fun tk => ⟨.bl b, H, I.kept (t' := tk) fun _ _ z => z, rfl, q⟩
def uCallX (a : Addr) (cls : Value) (d : Option Addr) (sp : Addr → Value → Sp) (t : TA) : TE := fun σ H Q => d = none ∧ t σ H fun vs H1 => sp a cls vs H1 Q fun _ _ _ => False
theorem w_callX {a : Addr} {cls : Value} {sp : Addr → Value → Sp} {t : TA} {σ : L2.St} {H : Hp} {Q : VK} (h : t σ H fun vs H1 => sp a cls vs H1 Q fun _ _ _ => False) : uCallX a cls none sp t σ H Q := ⟨rfl, h⟩
theorem e_callX {k : Nat} {f a : Addr} {oe : Obj} {cls : Value} {d : Option Addr} {fd : FuncData} {ps : List Str} {sp : Addr → Value → Sp} {x : Str} {q pos : Pos} {e : Expr} {es : List Expr} {t : TA} (F : FnX X.prog X.w X.K X.mg X.base k f fd ps sp) (hr : L2H.RoomH k X.A)
    (hp : (a, oe) ∈ X.pn) (hz : Zc cls d oe) (hf : ∃ fs, oe.data = .fields fs) (hm : X.mg x = some (.ref f)) (hk : PySem.W.keepIn X.K (.ref f) = true) (hb : Binds X.K fd ps []) (ha : PA X (e :: es) t) (hg : Gl X x := by rfl) (hdb : (x == ("__debug__" : Str)) = false := by decide)
    (he : starEach (e :: es) X.env = (false, eval e X.env) :: starEach es X.env := by rfl) (hpl : (backTo pos (starEach es X.env)).any (·.1) = false := by rfl) : PE X (.Call (.Name x q) (e :: es) [] pos) (uCallX a cls d sp t) := by
  refine ⟨fun pins s σ H Q I h => ?_⟩
  obtain ⟨rfl, h⟩ := h
  refine wpAny_Call_Name_kw (ld_glob I hg hm ?_ hdb)
  refine PySem.W.callWith_K (h₀ := X.base) I.ok.mod.kin hk (thn (ha.run pos pins s σ H _ I h) fun us s1 ⟨vs, H1, I1, r, q⟩ => ⟨I1.kIn, ?_⟩) he hpl
  have hl : us.length = ps.length := by rw [← r.length]; exact F.len _ _ _ _ _ _ q
  have b := hb s1 us I1.kIn (by rw [List.append_nil]; exact hl)
  rw [List.append_nil] at b
  have P1 := I1.pin (a, oe) (List.mem_append_left _ hp)
  have hpin : L2H.PinOk X.stack H1 s1 (a, oe) := ⟨P1.1, P1.2.1, fun hm => (List.mem_cons.mp (I1.stkSub a hm)).elim P1.2.2.1 P1.2.2.2.1, P1.2.2.2.2⟩
  refine wpAny_call (codeAny_mono (F.run X.A X.stack s1 H1 ⟨us, []⟩ us vs Q _ (a, oe) cls hr hpin hz hf I1.env0 b r q) fun r s' hq => ?_)
  cases r with
  | error e =>
    obtain ⟨_, _, _, _, _, _, _, _, _, _, _, _, z⟩ := hq
    exact z.elim
  | ok fl =>
    cases fl with
    | ret u => exact I1.after hq
    | next => exact False.elim hq
    | brk => exact False.elim hq
    | cont => exact False.elim hq
end hotdefs
section steps5
variable {K : PySem.W.Frag} {H : Hp} {Q : VK} {s t : Str} {A B : Prop}
theorem ifSF (h : decide (s = t) = false) (k : B) : if decide (s = t) = true then A else B := by rw [h]; exact iteF k
theorem ifST (h : decide (s = t) = true) (k : A) : if decide (s = t) = true then A else B := by rw [h]; exact iteT k
theorem ifSNF (h : decide (s = t) = true) (k : B) : if (!decide (s = t)) = true then A else B := by rw [h]; exact iteF k
theorem ifSNT (h : decide (s = t) = false) (k : A) : if (!decide (s = t)) = true then A else B := by rw [h]; exact iteT k
theorem w_neNN (h : Q (.bl false) H) : uNe K .non .non H Q := .inl ⟨rfl, h⟩
theorem w_eqNN (h : Q (.bl true) H) : uEq K .non .non H Q := .inl ⟨rfl, h⟩
end steps5
section steps6
variable {K : PySem.W.Frag} {H : Hp} {Q : VK} {p : Addr} {n : Int}
theorem w_ixBl {bs : List Bool} (e : SqL K H p (bs.map V.bl)) (h0 : 0 ≤ n ∧ n.toNat < bs.length) (h : Q (.bl (bs.getD n.toNat false)) H) : uIx K (.ref p) (.int n) H Q :=
  ⟨_, .bl (bs.getD n.toNat false), .inl e, by
    have z : (bs.map V.bl)[n.toNat]? = some (.bl (bs.getD n.toNat false)) := by rw [List.getElem?_map, List.getElem?_eq_getElem h0.2, List.getD_eq_getElem?_getD, List.getElem?_eq_getElem h0.2]; rfl
    have y := atI_nat z
    rw [show ((n.toNat : Nat) : Int) = n by omega] at y
    exact y, h⟩
theorem at_bl {bs : List Bool} {i : Nat} {x : V} (h : (bs.map V.bl)[i]? = some x) : ∃ n, bs[i]? = some n ∧ x = .bl n := by
  rw [List.getElem?_map] at h
  cases e : bs[i]? with
  | none => rw [e] at h; cases h
  | some n => rw [e] at h; exact ⟨n, rfl, (Option.some.inj h).symm⟩
def augSQ (ti te : TE) (g : V → V → Hp → VK → Prop) (op : TIp) (ts : TSet) (D : Ends) (σ : L2.St) (x : V) (H1 : Hp) : Prop := ti σ H1 fun i H2 => g x i H2 fun v H3 => te σ H3 fun y H4 => op v y H4 fun z H5 => ts x i z H5 fun H6 => D.nx σ H6
theorem w_getI2 {ns : List Int} (e : SqL K H p (ns.map V.int)) (h0 : 0 ≤ n ∧ n.toNat < ns.length) (h : Q (.int (ns.getD n.toNat 0)) H) : uGet K (.ref p) (.int n) H Q :=
  .inl ⟨h0.1, _, .int (ns.getD n.toNat 0), e, by rw [List.getElem?_map, List.getElem?_eq_getElem h0.2, List.getD_eq_getElem?_getD, List.getElem?_eq_getElem h0.2]; rfl, h⟩
theorem w_augS {D : Ends} {σ : L2.St} {to ti te : TE} {g : V → V → Hp → VK → Prop} {op : TIp} {ts : TSet} (h : to σ H fun o H1 => augSQ ti te g op ts D σ o H1) : tAugS to ti te g op ts D σ H := h
theorem w_augSQ {D : Ends} {σ : L2.St} {ti te : TE} {g : V → V → Hp → VK → Prop} {op : TIp} {ts : TSet} {x : V} (h : ti σ H fun i H2 => g x i H2 fun v H3 => te σ H3 fun y H4 => op v y H4 fun z H5 => ts x i z H5 fun H6 => D.nx σ H6) : augSQ ti te g op ts D σ x H := h
end steps6
end U
namespace Lam
open PySem PySem.Spec L2 U
local macro_rules | `(tactic| walk_at "te") => `(tactic| fail "no fact")
local macro_rules | `(tactic| walk_at "kt") => `(tactic| fail "no fact")
local macro_rules | `(tactic| walk_at "xc") => `(tactic| fail "no fact")
local macro_rules | `(tactic| walk_at "x") => `(tactic| fail "no step")
local macro_rules | `(tactic| walk_at "hk") => `(tactic| first
  | assumption | exact upd_same | exact SqL.of upd_same | exact SqT.of upd_same
  | (apply sql_old; (· walk_at "hk"); (· assumption)) | (apply upd_old; (· walk_at "hk"); (· assumption)) | (apply sqt_old; (· walk_at "hk"); (· assumption))
  | exact L2.Same.seq (by assumption) (by assumption) | exact U.Same.sqt (by assumption) (by assumption) | exact (by assumption : L2.Same _ _) _ _ (by assumption)
  | (apply SqL.of; walk_at "hk") | (apply SqT.of; walk_at "hk"))
local macro_rules | `(tactic| walk_at "nn") => `(tactic| first | assumption | exact L2.Same.free (by assumption) (by assumption) | exact (none_of_upd (by assumption)).1)
local macro_rules | `(tactic| walk_at "sm") => `(tactic| first | assumption | exact L2.Same.refl _ | (apply same_updN; (· walk_at "sm"); (· assumption)) | (apply same_upd; (· walk_at "sm"); (· walk_at "nn")) | exact L2.Same.trans (by assumption) (by assumption))
local macro_rules | `(tactic| walk_at "s") => `(tactic| first
    | with_reducible refine w_seq ?_
    | with_reducible refine w_op ?_
    | with_reducible refine w_asg ?_
    | with_reducible refine w_name ?_
    | with_reducible refine w_c ?_
    | with_reducible refine w_if ?_
    | with_reducible refine w_test ?_
    | with_reducible refine w_blP ?_
    | with_reducible refine w_cons ?_
    | with_reducible refine w_nil ?_
    | with_reducible refine w_ret ?_
    | with_reducible refine w_call ?_
    | ((with_reducible refine' w_var ?e ?_); (case e => rfl))
    | ((with_reducible refine ifST ?h ?_); (case h => decide +kernel))
    | ((with_reducible refine ifSF ?h ?_); (case h => decide +kernel))
    | ((with_reducible refine ifSNT ?h ?_); (case h => decide +kernel))
    | ((with_reducible refine ifSNF ?h ?_); (case h => decide +kernel))
    | with_reducible refine iteT ?_
    | with_reducible refine iteF ?_
    | with_reducible refine ifNT ?_
    | with_reducible refine ifNF ?_
    | (((with_reducible show @ite Prop (_ = true) _ _ _); refine @ifP _ _ _ _ ?_ ?_) <;> intro h <;> first | (with_reducible exact absurd rfl h) | skip)
    | (((with_reducible show @ite Prop (_ = true) _ _ _); refine @ifN _ _ _ _ ?_ ?_) <;> intro h <;> first | (with_reducible exact absurd rfl h) | skip)
    | with_reducible refine w_eqX ?_
    | with_reducible refine w_neX ?_
    | with_reducible refine w_add ?_
    | with_reducible refine w_sub ?_
    | with_reducible refine w_eqI ?_
    | with_reducible refine w_neI ?_
    | with_reducible refine w_lt ?_
    | with_reducible refine w_le ?_
    | with_reducible refine w_gt ?_
    | with_reducible refine w_ge ?_
    | with_reducible refine w_eqS ?_
    | with_reducible refine w_eqB ?_
    | with_reducible refine w_neS ?_
    | with_reducible refine w_neB ?_
    | with_reducible refine w_cb ?_
    | with_reducible refine w_tup ?_
    | with_reducible refine w_lst ?_
    | with_reducible refine w_next ?_
    | with_reducible refine w_drop ?_
    | with_reducible refine w_not ?_
    | with_reducible refine w_tru ?_
    | with_reducible refine w_and ?_
    | with_reducible refine w_or ?_
    | with_reducible refine w_andV ?_
    | with_reducible refine w_orV ?_
    | with_reducible refine w_notV ?_
    | with_reducible refine w_ifE ?_
    | with_reducible refine w_chain ?_
    | with_reducible refine w_retN ?_
    | with_reducible refine w_bm ?_
    | with_reducible refine w_raise ?_
    | with_reducible refine w_fld ?_
    | with_reducible refine w_meth ?_
    | with_reducible refine w_setf ?_
    | with_reducible refine w_for ?_
    | with_reducible refine w_rng1 ?_
    | with_reducible refine w_rng2 ?_
    | with_reducible refine w_iList ?_
    | with_reducible refine w_iTup ?_
    | with_reducible refine w_iStr ?_
    | with_reducible refine w_iRev ?_
    | with_reducible refine w_brk ?_
    | with_reducible refine w_cont ?_
    | with_reducible refine w_un ?_
    | with_reducible refine w_lc ?_
    | with_reducible refine w_yes ?_
    | with_reducible refine w_gsub ?_
    | with_reducible refine w_sl ?_
    | with_reducible refine w_part ?_
    | with_reducible refine w_noPart ?_
    | with_reducible refine w_wh ?_
    | with_reducible refine w_tryAs ?_
    | with_reducible refine w_try ?_
    | with_reducible refine w_make ?_
    | with_reducible refine w_dget ?_
    | with_reducible refine w_dput ?_
    | with_reducible refine w_gcons ?_
    | with_reducible refine w_gnil ?_
    | with_reducible refine w_augf ?_
    | with_reducible refine w_iEnum ?_
    | with_reducible refine w_iZip ?_
    | with_reducible refine w_iKeys ?_
    | with_reducible refine w_dget2 ?_
    | with_reducible refine w_dget1 ?_
    | with_reducible refine w_dpop1 ?_
    | with_reducible refine w_ddel ?_
    | with_reducible refine w_callX ?_
    | with_reducible refine w_augS ?_
    | with_reducible refine w_augSQ ?_
    | ((with_reducible refine' w_aug ?e ?_); (case e => rfl))
    | ((with_reducible refine w_mul ?s ?_); (case s => first | exact Or.inr ⟨by omega, by omega⟩ | exact Or.inl ⟨by omega, by omega⟩))
    | ((with_reducible refine w_div ?s ?_); (case s => omega))
    | ((with_reducible refine w_mod ?s ?_); (case s => first | omega | decide))
    | ((with_reducible refine w_pow ?s ?_); (case s => first | exact ⟨by decide, by decide, by decide⟩ | exact ⟨by decide, by decide, by omega⟩))
    | ((with_reducible refine w_newL ?s ?_); (case s => (first | exact (by decide) | (simp only [List.length_cons, List.length_nil]; omega))); intro _ _)
    | ((with_reducible refine w_newT ?s ?_); (case s => (first | exact (by decide) | (simp only [List.length_cons, List.length_nil]; omega))); intro _ _)
    | with_reducible refine w_eqX ?_
    | with_reducible refine w_neX ?_
    | with_reducible refine w_findX ?_
    | with_reducible refine w_countX ?_
    | ((with_reducible refine w_lenX ?s ?_); (case s => (first | omega | (simp only [List.length_append, List.length_cons, List.length_nil, List.length_take, List.length_drop, List.length_replicate, List.length_map, List.length_range] at *; omega) | (simp only [List.length_append, List.length_cons, List.length_nil, List.length_take, List.length_drop, List.length_replicate, List.length_map, List.length_range]; omega) | decide)))
    | ((with_reducible refine w_truX ?s ?_); (case s => (first | omega | (simp only [List.length_append, List.length_cons, List.length_nil, List.length_take, List.length_drop, List.length_replicate, List.length_map, List.length_range] at *; omega) | (simp only [List.length_append, List.length_cons, List.length_nil, List.length_take, List.length_drop, List.length_replicate, List.length_map, List.length_range]; omega) | decide)))
    | ((with_reducible refine w_addX ?s ?_); (case s => (first | omega | (simp only [List.length_append, List.length_cons, List.length_nil, List.length_take, List.length_drop, List.length_replicate, List.length_map, List.length_range] at *; omega) | (simp only [List.length_append, List.length_cons, List.length_nil, List.length_take, List.length_drop, List.length_replicate, List.length_map, List.length_range]; omega) | decide)))
    | ((with_reducible refine w_mulX ?h0 ?h1 ?_); (case h0 => (first | omega | (simp only [List.length_append, List.length_cons, List.length_nil, List.length_take, List.length_drop, List.length_replicate, List.length_map, List.length_range] at *; omega) | (simp only [List.length_append, List.length_cons, List.length_nil, List.length_take, List.length_drop, List.length_replicate, List.length_map, List.length_range]; omega) | decide)); (case h1 => (first | omega | (simp only [List.length_append, List.length_cons, List.length_nil, List.length_take, List.length_drop, List.length_replicate, List.length_map, List.length_range] at *; omega) | (simp only [List.length_append, List.length_cons, List.length_nil, List.length_take, List.length_drop, List.length_replicate, List.length_map, List.length_range]; omega) | decide)))
    | ((with_reducible refine w_tkX ?s ?h0 ?_); (case s => (first | omega | (simp only [List.length_append, List.length_cons, List.length_nil, List.length_take, List.length_drop, List.length_replicate, List.length_map, List.length_range] at *; omega) | (simp only [List.length_append, List.length_cons, List.length_nil, List.length_take, List.length_drop, List.length_replicate, List.length_map, List.length_range]; omega) | decide)); (case h0 => (first | omega | (simp only [List.length_append, List.length_cons, List.length_nil, List.length_take, List.length_drop, List.length_replicate, List.length_map, List.length_range] at *; omega) | (simp only [List.length_append, List.length_cons, List.length_nil, List.length_take, List.length_drop, List.length_replicate, List.length_map, List.length_range]; omega) | decide)))
    | ((with_reducible refine w_dpX ?s ?h0 ?_); (case s => (first | omega | (simp only [List.length_append, List.length_cons, List.length_nil, List.length_take, List.length_drop, List.length_replicate, List.length_map, List.length_range] at *; omega) | (simp only [List.length_append, List.length_cons, List.length_nil, List.length_take, List.length_drop, List.length_replicate, List.length_map, List.length_range]; omega) | decide)); (case h0 => (first | omega | (simp only [List.length_append, List.length_cons, List.length_nil, List.length_take, List.length_drop, List.length_replicate, List.length_map, List.length_range] at *; omega) | (simp only [List.length_append, List.length_cons, List.length_nil, List.length_take, List.length_drop, List.length_replicate, List.length_map, List.length_range]; omega) | decide)))
    | ((with_reducible refine w_ixX ?s ?h0 ?_); (case s => (first | omega | (simp only [List.length_append, List.length_cons, List.length_nil, List.length_take, List.length_drop, List.length_replicate, List.length_map, List.length_range] at *; omega) | (simp only [List.length_append, List.length_cons, List.length_nil, List.length_take, List.length_drop, List.length_replicate, List.length_map, List.length_range]; omega) | decide)); (case h0 => (first | omega | (simp only [List.length_append, List.length_cons, List.length_nil, List.length_take, List.length_drop, List.length_replicate, List.length_map, List.length_range] at *; omega) | (simp only [List.length_append, List.length_cons, List.length_nil, List.length_take, List.length_drop, List.length_replicate, List.length_map, List.length_range]; omega) | decide)))
    | with_reducible refine w_max ?_
    | with_reducible refine w_min ?_
    | with_reducible refine w_eqNI ?_
    | with_reducible refine w_neNI ?_
    | with_reducible refine w_eqIN ?_
    | with_reducible refine w_neIN ?_
    | with_reducible refine w_neNN ?_
    | with_reducible refine w_eqNN ?_
    | with_reducible refine w_abs ?_
    | with_reducible refine w_intI ?_
    | with_reducible refine w_intB ?_
    | with_reducible refine w_ipI ?_
    | with_reducible refine w_bmS ?_
    | with_reducible refine w_iStrv ?_
    | with_reducible refine w_neg ?_
    | with_reducible refine w_partI ?_
    | with_reducible refine w_truB ?_
    | with_reducible refine w_truN ?_
    | with_reducible refine w_truI ?_
    | with_reducible refine w_isi_int_int ?_
    | with_reducible refine w_isi_int_bl ?_
    | with_reducible refine w_isi_int_str ?_
    | with_reducible refine w_isi_int_non ?_
    | with_reducible refine w_isi_bool_int ?_
    | with_reducible refine w_isi_bool_bl ?_
    | with_reducible refine w_isi_bool_str ?_
    | with_reducible refine w_isi_bool_non ?_
    | with_reducible refine w_isi_str_int ?_
    | with_reducible refine w_isi_str_bl ?_
    | with_reducible refine w_isi_str_str ?_
    | with_reducible refine w_isi_str_non ?_
    | with_reducible refine w_isi_list_int ?_
    | with_reducible refine w_isi_list_bl ?_
    | with_reducible refine w_isi_list_str ?_
    | with_reducible refine w_isi_list_non ?_
    | with_reducible refine w_isi_tuple_int ?_
    | with_reducible refine w_isi_tuple_bl ?_
    | with_reducible refine w_isi_tuple_str ?_
    | with_reducible refine w_isi_tuple_non ?_
    | with_reducible refine w_is_int ?_
    | with_reducible refine w_isnt_int ?_
    | with_reducible refine w_is_bl ?_
    | with_reducible refine w_isnt_bl ?_
    | with_reducible refine w_is_str ?_
    | with_reducible refine w_isnt_str ?_
    | with_reducible refine w_is_non ?_
    | with_reducible refine w_isnt_non ?_
    | with_reducible refine w_is_ref ?_
    | with_reducible refine w_isnt_ref ?_
    | ((with_reducible refine w_asT ?e ?_); (case e => walk_at "te"); intro _ _)
    | ((with_reducible refine w_onT ?e ?_); (case e => walk_at "te"); intro _ _)
    | ((with_reducible refine w_asF ?e ?_); (case e => walk_at "te"))
    | ((with_reducible refine w_onF ?e ?_); (case e => walk_at "te"))
    | ((with_reducible apply w_isE); (· walk_at "xc"); (· walk_at "kt"))
    | ((with_reducible apply w_lenL); (· walk_at "hk"))
    | ((with_reducible apply w_lenT); (· walk_at "hk"))
    | ((with_reducible apply w_bmL); (· walk_at "hk"))
    | ((with_reducible refine w_rng1v ?h1 ?h2 ?_); (case h1 => (first | omega | (simp only [List.length_map] at *; omega))); (case h2 => (first | omega | (simp only [List.length_map] at *; omega))))
    | ((with_reducible refine w_rng2v ?h1 ?_); (case h1 => (first | omega | (simp only [List.length_map] at *; omega))))
    | ((with_reducible apply w_ixI); (· walk_at "hk"); (· (first | omega | (simp only [List.length_map] at *; omega))))
    | ((with_reducible apply w_ixTI); (· walk_at "hk"); (· (first | omega | (simp only [List.length_map] at *; omega))))
    | ((with_reducible apply w_ixBl); (· walk_at "hk"); (· (first | omega | (simp only [List.length_map] at *; omega))))
    | ((with_reducible apply w_getI2); (· walk_at "hk"); (· (first | omega | (simp only [List.length_map] at *; omega))))
    | ((with_reducible apply w_ixTl); (· walk_at "hk"); (· rfl); (· decide))
    | ((with_reducible apply w_ixLl); (· walk_at "hk"); (· rfl); (· decide))
    | ((with_reducible apply w_appI); (· walk_at "hk"); (· (first | omega | (simp only [List.length_append, List.length_cons, List.length_nil]; omega))))
    | ((with_reducible apply w_iListv); (· walk_at "hk"))
    | ((with_reducible apply w_iTupv); (· walk_at "hk"))
    | ((with_reducible apply w_iRevv); (· walk_at "hk"))
    | ((with_reducible apply w_iEnumv); (· walk_at "hk"))
    | ((with_reducible apply w_iZipv); (· walk_at "hk"); (· walk_at "hk"))
    | ((with_reducible apply w_dget2v); (· walk_at "hk"))
    | ((with_reducible apply w_dget1v); (· walk_at "hk"))
    | ((with_reducible apply w_dpop1v); (· walk_at "hk"))
    | ((with_reducible apply w_getI); (· walk_at "hk"))
    | ((with_reducible apply w_inD); (· walk_at "hk"))
    | ((with_reducible apply w_ninD); (· walk_at "hk"))
    | ((with_reducible apply w_rep1); (· walk_at "hk"); (· (first | omega | (simp only [List.length_append, List.length_cons, List.length_nil, List.length_take, List.length_drop, List.length_replicate, List.length_map, List.length_range] at *; omega) | (simp only [List.length_append, List.length_cons, List.length_nil, List.length_take, List.length_drop, List.length_replicate, List.length_map, List.length_range]; omega) | decide)); (· (first | omega | (simp only [List.length_append, List.length_cons, List.length_nil, List.length_take, List.length_drop, List.length_replicate, List.length_map, List.length_range] at *; omega) | (simp only [List.length_append, List.length_cons, List.length_nil, List.length_take, List.length_drop, List.length_replicate, List.length_map, List.length_range]; omega) | decide)); intro _ _)
    | ((with_reducible apply w_gtup2); (· walk_at "hk"))
    | ((with_reducible apply w_gtup3); (· walk_at "hk"))
    | ((with_reducible apply w_gtup4); (· walk_at "hk"))
    | ((with_reducible refine w_newD ?_); intro _ _)
    | ((with_reducible apply w_augsub); (· walk_at "hk"); (· rfl); (· exact Nat.le_of_ble_eq_true rfl))
    | ((with_reducible apply w_augadd); (· walk_at "hk"); (· rfl); (· exact Nat.le_of_ble_eq_true rfl))
    | ((with_reducible apply w_fldv); (· walk_at "hk"); (· rfl))
    | ((with_reducible apply w_methv); (· walk_at "hk"); (· rfl))
    | ((with_reducible apply w_setfv); (· walk_at "hk"); (· exact Nat.le_of_ble_eq_true rfl); (· rfl))
    | walk_at "x")
local macro_rules | `(tactic| walk_at "run1") => `(tactic| repeat (first
    | with_reducible refine w_seq ?_
    | with_reducible refine w_op ?_
    | with_reducible refine w_asg ?_
    | with_reducible refine w_name ?_
    | with_reducible refine w_c ?_
    | with_reducible refine w_if ?_
    | with_reducible refine w_test ?_
    | with_reducible refine w_blP ?_
    | with_reducible refine w_cons ?_
    | with_reducible refine w_nil ?_
    | with_reducible refine w_ret ?_
    | with_reducible refine w_call ?_
    | ((with_reducible refine' w_var ?e ?_); (case e => rfl))
    | ((with_reducible refine ifST ?h ?_); (case h => decide +kernel))
    | ((with_reducible refine ifSF ?h ?_); (case h => decide +kernel))
    | ((with_reducible refine ifSNT ?h ?_); (case h => decide +kernel))
    | ((with_reducible refine ifSNF ?h ?_); (case h => decide +kernel))
    | with_reducible refine iteT ?_
    | with_reducible refine iteF ?_
    | with_reducible refine ifNT ?_
    | with_reducible refine ifNF ?_
    | (((with_reducible show @ite Prop (_ = true) _ _ _); refine @ifP _ _ _ _ ?_ ?_) <;> intro h <;> first | (with_reducible exact absurd rfl h) | skip)
    | (((with_reducible show @ite Prop (_ = true) _ _ _); refine @ifN _ _ _ _ ?_ ?_) <;> intro h <;> first | (with_reducible exact absurd rfl h) | skip)
    | with_reducible refine w_eqX ?_
    | with_reducible refine w_neX ?_
    | with_reducible refine w_add ?_
    | with_reducible refine w_sub ?_
    | with_reducible refine w_eqI ?_
    | with_reducible refine w_neI ?_
    | with_reducible refine w_lt ?_
    | with_reducible refine w_le ?_
    | with_reducible refine w_gt ?_
    | with_reducible refine w_ge ?_
    | with_reducible refine w_eqS ?_
    | with_reducible refine w_eqB ?_
    | with_reducible refine w_neS ?_
    | with_reducible refine w_neB ?_
    | with_reducible refine w_cb ?_
    | with_reducible refine w_tup ?_
    | with_reducible refine w_lst ?_
    | with_reducible refine w_next ?_
    | with_reducible refine w_drop ?_
    | with_reducible refine w_not ?_
    | with_reducible refine w_tru ?_
    | with_reducible refine w_and ?_
    | with_reducible refine w_or ?_
    | with_reducible refine w_andV ?_
    | with_reducible refine w_orV ?_
    | with_reducible refine w_notV ?_
    | with_reducible refine w_ifE ?_
    | with_reducible refine w_chain ?_
    | with_reducible refine w_retN ?_
    | with_reducible refine w_bm ?_
    | with_reducible refine w_raise ?_
    | with_reducible refine w_fld ?_
    | with_reducible refine w_meth ?_
    | with_reducible refine w_setf ?_
    | with_reducible refine w_for ?_
    | with_reducible refine w_rng1 ?_
    | with_reducible refine w_rng2 ?_
    | with_reducible refine w_iList ?_
    | with_reducible refine w_iTup ?_
    | with_reducible refine w_iStr ?_
    | with_reducible refine w_iRev ?_
    | with_reducible refine w_brk ?_
    | with_reducible refine w_cont ?_
    | with_reducible refine w_un ?_
    | with_reducible refine w_lc ?_
    | with_reducible refine w_yes ?_
    | with_reducible refine w_gsub ?_
    | with_reducible refine w_sl ?_
    | with_reducible refine w_part ?_
    | with_reducible refine w_noPart ?_
    | with_reducible refine w_wh ?_
    | with_reducible refine w_tryAs ?_
    | with_reducible refine w_try ?_
    | with_reducible refine w_make ?_
    | with_reducible refine w_dget ?_
    | with_reducible refine w_dput ?_
    | with_reducible refine w_gcons ?_
    | with_reducible refine w_gnil ?_
    | with_reducible refine w_augf ?_
    | with_reducible refine w_iEnum ?_
    | with_reducible refine w_iZip ?_
    | with_reducible refine w_iKeys ?_
    | with_reducible refine w_dget2 ?_
    | with_reducible refine w_dget1 ?_
    | with_reducible refine w_dpop1 ?_
    | with_reducible refine w_ddel ?_
    | with_reducible refine w_callX ?_
    | with_reducible refine w_augS ?_
    | with_reducible refine w_augSQ ?_
    | ((with_reducible refine' w_aug ?e ?_); (case e => rfl))
    | ((with_reducible refine w_mul ?s ?_); (case s => first | exact Or.inr ⟨by omega, by omega⟩ | exact Or.inl ⟨by omega, by omega⟩))
    | ((with_reducible refine w_div ?s ?_); (case s => omega))
    | ((with_reducible refine w_mod ?s ?_); (case s => first | omega | decide))
    | ((with_reducible refine w_pow ?s ?_); (case s => first | exact ⟨by decide, by decide, by decide⟩ | exact ⟨by decide, by decide, by omega⟩))
    | ((with_reducible refine w_newL ?s ?_); (case s => (first | exact (by decide) | (simp only [List.length_cons, List.length_nil]; omega))); intro _ _)
    | ((with_reducible refine w_newT ?s ?_); (case s => (first | exact (by decide) | (simp only [List.length_cons, List.length_nil]; omega))); intro _ _)
    | with_reducible refine w_eqX ?_
    | with_reducible refine w_neX ?_
    | with_reducible refine w_findX ?_
    | with_reducible refine w_countX ?_
    | ((with_reducible refine w_lenX ?s ?_); (case s => (first | omega | (simp only [List.length_append, List.length_cons, List.length_nil, List.length_take, List.length_drop, List.length_replicate, List.length_map, List.length_range] at *; omega) | (simp only [List.length_append, List.length_cons, List.length_nil, List.length_take, List.length_drop, List.length_replicate, List.length_map, List.length_range]; omega) | decide)))
    | ((with_reducible refine w_truX ?s ?_); (case s => (first | omega | (simp only [List.length_append, List.length_cons, List.length_nil, List.length_take, List.length_drop, List.length_replicate, List.length_map, List.length_range] at *; omega) | (simp only [List.length_append, List.length_cons, List.length_nil, List.length_take, List.length_drop, List.length_replicate, List.length_map, List.length_range]; omega) | decide)))
    | ((with_reducible refine w_addX ?s ?_); (case s => (first | omega | (simp only [List.length_append, List.length_cons, List.length_nil, List.length_take, List.length_drop, List.length_replicate, List.length_map, List.length_range] at *; omega) | (simp only [List.length_append, List.length_cons, List.length_nil, List.length_take, List.length_drop, List.length_replicate, List.length_map, List.length_range]; omega) | decide)))
    | ((with_reducible refine w_mulX ?h0 ?h1 ?_); (case h0 => (first | omega | (simp only [List.length_append, List.length_cons, List.length_nil, List.length_take, List.length_drop, List.length_replicate, List.length_map, List.length_range] at *; omega) | (simp only [List.length_append, List.length_cons, List.length_nil, List.length_take, List.length_drop, List.length_replicate, List.length_map, List.length_range]; omega) | decide)); (case h1 => (first | omega | (simp only [List.length_append, List.length_cons, List.length_nil, List.length_take, List.length_drop, List.length_replicate, List.length_map, List.length_range] at *; omega) | (simp only [List.length_append, List.length_cons, List.length_nil, List.length_take, List.length_drop, List.length_replicate, List.length_map, List.length_range]; omega) | decide)))
    | ((with_reducible refine w_tkX ?s ?h0 ?_); (case s => (first | omega | (simp only [List.length_append, List.length_cons, List.length_nil, List.length_take, List.length_drop, List.length_replicate, List.length_map, List.length_range] at *; omega) | (simp only [List.length_append, List.length_cons, List.length_nil, List.length_take, List.length_drop, List.length_replicate, List.length_map, List.length_range]; omega) | decide)); (case h0 => (first | omega | (simp only [List.length_append, List.length_cons, List.length_nil, List.length_take, List.length_drop, List.length_replicate, List.length_map, List.length_range] at *; omega) | (simp only [List.length_append, List.length_cons, List.length_nil, List.length_take, List.length_drop, List.length_replicate, List.length_map, List.length_range]; omega) | decide)))
    | ((with_reducible refine w_dpX ?s ?h0 ?_); (case s => (first | omega | (simp only [List.length_append, List.length_cons, List.length_nil, List.length_take, List.length_drop, List.length_replicate, List.length_map, List.length_range] at *; omega) | (simp only [List.length_append, List.length_cons, List.length_nil, List.length_take, List.length_drop, List.length_replicate, List.length_map, List.length_range]; omega) | decide)); (case h0 => (first | omega | (simp only [List.length_append, List.length_cons, List.length_nil, List.length_take, List.length_drop, List.length_replicate, List.length_map, List.length_range] at *; omega) | (simp only [List.length_append, List.length_cons, List.length_nil, List.length_take, List.length_drop, List.length_replicate, List.length_map, List.length_range]; omega) | decide)))
    | ((with_reducible refine w_ixX ?s ?h0 ?_); (case s => (first | omega | (simp only [List.length_append, List.length_cons, List.length_nil, List.length_take, List.length_drop, List.length_replicate, List.length_map, List.length_range] at *; omega) | (simp only [List.length_append, List.length_cons, List.length_nil, List.length_take, List.length_drop, List.length_replicate, List.length_map, List.length_range]; omega) | decide)); (case h0 => (first | omega | (simp only [List.length_append, List.length_cons, List.length_nil, List.length_take, List.length_drop, List.length_replicate, List.length_map, List.length_range] at *; omega) | (simp only [List.length_append, List.length_cons, List.length_nil, List.length_take, List.length_drop, List.length_replicate, List.length_map, List.length_range]; omega) | decide)))
    | with_reducible refine w_max ?_
    | with_reducible refine w_min ?_
    | with_reducible refine w_eqNI ?_
    | with_reducible refine w_neNI ?_
    | with_reducible refine w_eqIN ?_
    | with_reducible refine w_neIN ?_
    | with_reducible refine w_neNN ?_
    | with_reducible refine w_eqNN ?_
    | with_reducible refine w_abs ?_
    | with_reducible refine w_intI ?_
    | with_reducible refine w_intB ?_
    | with_reducible refine w_ipI ?_
    | with_reducible refine w_bmS ?_
    | with_reducible refine w_iStrv ?_
    | with_reducible refine w_neg ?_
    | with_reducible refine w_partI ?_
    | with_reducible refine w_truB ?_
    | with_reducible refine w_truN ?_
    | with_reducible refine w_truI ?_
    | with_reducible refine w_isi_int_int ?_
    | with_reducible refine w_isi_int_bl ?_
    | with_reducible refine w_isi_int_str ?_
    | with_reducible refine w_isi_int_non ?_
    | with_reducible refine w_isi_bool_int ?_
    | with_reducible refine w_isi_bool_bl ?_
    | with_reducible refine w_isi_bool_str ?_
    | with_reducible refine w_isi_bool_non ?_
    | with_reducible refine w_isi_str_int ?_
    | with_reducible refine w_isi_str_bl ?_
    | with_reducible refine w_isi_str_str ?_
    | with_reducible refine w_isi_str_non ?_
    | with_reducible refine w_isi_list_int ?_
    | with_reducible refine w_isi_list_bl ?_
    | with_reducible refine w_isi_list_str ?_
    | with_reducible refine w_isi_list_non ?_
    | with_reducible refine w_isi_tuple_int ?_
    | with_reducible refine w_isi_tuple_bl ?_
    | with_reducible refine w_isi_tuple_str ?_
    | with_reducible refine w_isi_tuple_non ?_
    | with_reducible refine w_is_int ?_
    | with_reducible refine w_isnt_int ?_
    | with_reducible refine w_is_bl ?_
    | with_reducible refine w_isnt_bl ?_
    | with_reducible refine w_is_str ?_
    | with_reducible refine w_isnt_str ?_
    | with_reducible refine w_is_non ?_
    | with_reducible refine w_isnt_non ?_
    | with_reducible refine w_is_ref ?_
    | with_reducible refine w_isnt_ref ?_
    | ((with_reducible refine w_asT ?e ?_); (case e => walk_at "te"); intro _ _)
    | ((with_reducible refine w_onT ?e ?_); (case e => walk_at "te"); intro _ _)
    | ((with_reducible refine w_asF ?e ?_); (case e => walk_at "te"))
    | ((with_reducible refine w_onF ?e ?_); (case e => walk_at "te"))
    | ((with_reducible apply w_isE); (· walk_at "xc"); (· walk_at "kt"))
    | ((with_reducible apply w_lenL); (· walk_at "hk"))
    | ((with_reducible apply w_lenT); (· walk_at "hk"))
    | ((with_reducible apply w_bmL); (· walk_at "hk"))
    | ((with_reducible refine w_rng1v ?h1 ?h2 ?_); (case h1 => (first | omega | (simp only [List.length_map] at *; omega))); (case h2 => (first | omega | (simp only [List.length_map] at *; omega))))
    | ((with_reducible refine w_rng2v ?h1 ?_); (case h1 => (first | omega | (simp only [List.length_map] at *; omega))))
    | ((with_reducible apply w_ixI); (· walk_at "hk"); (· (first | omega | (simp only [List.length_map] at *; omega))))
    | ((with_reducible apply w_ixTI); (· walk_at "hk"); (· (first | omega | (simp only [List.length_map] at *; omega))))
    | ((with_reducible apply w_ixBl); (· walk_at "hk"); (· (first | omega | (simp only [List.length_map] at *; omega))))
    | ((with_reducible apply w_getI2); (· walk_at "hk"); (· (first | omega | (simp only [List.length_map] at *; omega))))
    | ((with_reducible apply w_ixTl); (· walk_at "hk"); (· rfl); (· decide))
    | ((with_reducible apply w_ixLl); (· walk_at "hk"); (· rfl); (· decide))
    | ((with_reducible apply w_appI); (· walk_at "hk"); (· (first | omega | (simp only [List.length_append, List.length_cons, List.length_nil]; omega))))
    | ((with_reducible apply w_iListv); (· walk_at "hk"))
    | ((with_reducible apply w_iTupv); (· walk_at "hk"))
    | ((with_reducible apply w_iRevv); (· walk_at "hk"))
    | ((with_reducible apply w_iEnumv); (· walk_at "hk"))
    | ((with_reducible apply w_iZipv); (· walk_at "hk"); (· walk_at "hk"))
    | ((with_reducible apply w_dget2v); (· walk_at "hk"))
    | ((with_reducible apply w_dget1v); (· walk_at "hk"))
    | ((with_reducible apply w_dpop1v); (· walk_at "hk"))
    | ((with_reducible apply w_getI); (· walk_at "hk"))
    | ((with_reducible apply w_inD); (· walk_at "hk"))
    | ((with_reducible apply w_ninD); (· walk_at "hk"))
    | ((with_reducible apply w_rep1); (· walk_at "hk"); (· (first | omega | (simp only [List.length_append, List.length_cons, List.length_nil, List.length_take, List.length_drop, List.length_replicate, List.length_map, List.length_range] at *; omega) | (simp only [List.length_append, List.length_cons, List.length_nil, List.length_take, List.length_drop, List.length_replicate, List.length_map, List.length_range]; omega) | decide)); (· (first | omega | (simp only [List.length_append, List.length_cons, List.length_nil, List.length_take, List.length_drop, List.length_replicate, List.length_map, List.length_range] at *; omega) | (simp only [List.length_append, List.length_cons, List.length_nil, List.length_take, List.length_drop, List.length_replicate, List.length_map, List.length_range]; omega) | decide)); intro _ _)
    | ((with_reducible apply w_gtup2); (· walk_at "hk"))
    | ((with_reducible apply w_gtup3); (· walk_at "hk"))
    | ((with_reducible apply w_gtup4); (· walk_at "hk"))
    | ((with_reducible refine w_newD ?_); intro _ _)
    | ((with_reducible apply w_augsub); (· walk_at "hk"); (· rfl); (· exact Nat.le_of_ble_eq_true rfl))
    | ((with_reducible apply w_augadd); (· walk_at "hk"); (· rfl); (· exact Nat.le_of_ble_eq_true rfl))
    | ((with_reducible apply w_fldv); (· walk_at "hk"); (· rfl))
    | ((with_reducible apply w_methv); (· walk_at "hk"); (· rfl))
    | ((with_reducible apply w_setfv); (· walk_at "hk"); (· exact Nat.le_of_ble_eq_true rfl); (· rfl))
    | walk_at "x"))
local macro_rules | `(tactic| walk_at "run") => `(tactic| repeat' (first
    | with_reducible refine w_seq ?_
    | with_reducible refine w_op ?_
    | with_reducible refine w_asg ?_
    | with_reducible refine w_name ?_
    | with_reducible refine w_c ?_
    | with_reducible refine w_if ?_
    | with_reducible refine w_test ?_
    | with_reducible refine w_blP ?_
    | with_reducible refine w_cons ?_
    | with_reducible refine w_nil ?_
    | with_reducible refine w_ret ?_
    | with_reducible refine w_call ?_
    | ((with_reducible refine' w_var ?e ?_); (case e => rfl))
    | ((with_reducible refine ifST ?h ?_); (case h => decide +kernel))
    | ((with_reducible refine ifSF ?h ?_); (case h => decide +kernel))
    | ((with_reducible refine ifSNT ?h ?_); (case h => decide +kernel))
    | ((with_reducible refine ifSNF ?h ?_); (case h => decide +kernel))
    | with_reducible refine iteT ?_
    | with_reducible refine iteF ?_
    | with_reducible refine ifNT ?_
    | with_reducible refine ifNF ?_
    | (((with_reducible show @ite Prop (_ = true) _ _ _); refine @ifP _ _ _ _ ?_ ?_) <;> intro h <;> first | (with_reducible exact absurd rfl h) | skip)
    | (((with_reducible show @ite Prop (_ = true) _ _ _); refine @ifN _ _ _ _ ?_ ?_) <;> intro h <;> first | (with_reducible exact absurd rfl h) | skip)
    | with_reducible refine w_eqX ?_
    | with_reducible refine w_neX ?_
    | with_reducible refine w_add ?_
    | with_reducible refine w_sub ?_
    | with_reducible refine w_eqI ?_
    | with_reducible refine w_neI ?_
    | with_reducible refine w_lt ?_
    | with_reducible refine w_le ?_
    | with_reducible refine w_gt ?_
    | with_reducible refine w_ge ?_
    | with_reducible refine w_eqS ?_
    | with_reducible refine w_eqB ?_
    | with_reducible refine w_neS ?_
    | with_reducible refine w_neB ?_
    | with_reducible refine w_cb ?_
    | with_reducible refine w_tup ?_
    | with_reducible refine w_lst ?_
    | with_reducible refine w_next ?_
    | with_reducible refine w_drop ?_
    | with_reducible refine w_not ?_
    | with_reducible refine w_tru ?_
    | with_reducible refine w_and ?_
    | with_reducible refine w_or ?_
    | with_reducible refine w_andV ?_
    | with_reducible refine w_orV ?_
    | with_reducible refine w_notV ?_
    | with_reducible refine w_ifE ?_
    | with_reducible refine w_chain ?_
    | with_reducible refine w_retN ?_
    | with_reducible refine w_bm ?_
    | with_reducible refine w_raise ?_
    | with_reducible refine w_fld ?_
    | with_reducible refine w_meth ?_
    | with_reducible refine w_setf ?_
    | with_reducible refine w_for ?_
    | with_reducible refine w_rng1 ?_
    | with_reducible refine w_rng2 ?_
    | with_reducible refine w_iList ?_
    | with_reducible refine w_iTup ?_
    | with_reducible refine w_iStr ?_
    | with_reducible refine w_iRev ?_
    | with_reducible refine w_brk ?_
    | with_reducible refine w_cont ?_
    | with_reducible refine w_un ?_
    | with_reducible refine w_lc ?_
    | with_reducible refine w_yes ?_
    | with_reducible refine w_gsub ?_
    | with_reducible refine w_sl ?_
    | with_reducible refine w_part ?_
    | with_reducible refine w_noPart ?_
    | with_reducible refine w_wh ?_
    | with_reducible refine w_tryAs ?_
    | with_reducible refine w_try ?_
    | with_reducible refine w_make ?_
    | with_reducible refine w_dget ?_
    | with_reducible refine w_dput ?_
    | with_reducible refine w_gcons ?_
    | with_reducible refine w_gnil ?_
    | with_reducible refine w_augf ?_
    | with_reducible refine w_iEnum ?_
    | with_reducible refine w_iZip ?_
    | with_reducible refine w_iKeys ?_
    | with_reducible refine w_dget2 ?_
    | with_reducible refine w_dget1 ?_
    | with_reducible refine w_dpop1 ?_
    | with_reducible refine w_ddel ?_
    | with_reducible refine w_callX ?_
    | with_reducible refine w_augS ?_
    | with_reducible refine w_augSQ ?_
    | ((with_reducible refine' w_aug ?e ?_); (case e => rfl))
    | ((with_reducible refine w_mul ?s ?_); (case s => first | exact Or.inr ⟨by omega, by omega⟩ | exact Or.inl ⟨by omega, by omega⟩))
    | ((with_reducible refine w_div ?s ?_); (case s => omega))
    | ((with_reducible refine w_mod ?s ?_); (case s => first | omega | decide))
    | ((with_reducible refine w_pow ?s ?_); (case s => first | exact ⟨by decide, by decide, by decide⟩ | exact ⟨by decide, by decide, by omega⟩))
    | ((with_reducible refine w_newL ?s ?_); (case s => (first | exact (by decide) | (simp only [List.length_cons, List.length_nil]; omega))); intro _ _)
    | ((with_reducible refine w_newT ?s ?_); (case s => (first | exact (by decide) | (simp only [List.length_cons, List.length_nil]; omega))); intro _ _)
    | with_reducible refine w_eqX ?_
    | with_reducible refine w_neX ?_
    | with_reducible refine w_findX ?_
    | with_reducible refine w_countX ?_
    | ((with_reducible refine w_lenX ?s ?_); (case s => (first | omega | (simp only [List.length_append, List.length_cons, List.length_nil, List.length_take, List.length_drop, List.length_replicate, List.length_map, List.length_range] at *; omega) | (simp only [List.length_append, List.length_cons, List.length_nil, List.length_take, List.length_drop, List.length_replicate, List.length_map, List.length_range]; omega) | decide)))
    | ((with_reducible refine w_truX ?s ?_); (case s => (first | omega | (simp only [List.length_append, List.length_cons, List.length_nil, List.length_take, List.length_drop, List.length_replicate, List.length_map, List.length_range] at *; omega) | (simp only [List.length_append, List.length_cons, List.length_nil, List.length_take, List.length_drop, List.length_replicate, List.length_map, List.length_range]; omega) | decide)))
    | ((with_reducible refine w_addX ?s ?_); (case s => (first | omega | (simp only [List.length_append, List.length_cons, List.length_nil, List.length_take, List.length_drop, List.length_replicate, List.length_map, List.length_range] at *; omega) | (simp only [List.length_append, List.length_cons, List.length_nil, List.length_take, List.length_drop, List.length_replicate, List.length_map, List.length_range]; omega) | decide)))
    | ((with_reducible refine w_mulX ?h0 ?h1 ?_); (case h0 => (first | omega | (simp only [List.length_append, List.length_cons, List.length_nil, List.length_take, List.length_drop, List.length_replicate, List.length_map, List.length_range] at *; omega) | (simp only [List.length_append, List.length_cons, List.length_nil, List.length_take, List.length_drop, List.length_replicate, List.length_map, List.length_range]; omega) | decide)); (case h1 => (first | omega | (simp only [List.length_append, List.length_cons, List.length_nil, List.length_take, List.length_drop, List.length_replicate, List.length_map, List.length_range] at *; omega) | (simp only [List.length_append, List.length_cons, List.length_nil, List.length_take, List.length_drop, List.length_replicate, List.length_map, List.length_range]; omega) | decide)))
    | ((with_reducible refine w_tkX ?s ?h0 ?_); (case s => (first | omega | (simp only [List.length_append, List.length_cons, List.length_nil, List.length_take, List.length_drop, List.length_replicate, List.length_map, List.length_range] at *; omega) | (simp only [List.length_append, List.length_cons, List.length_nil, List.length_take, List.length_drop, List.length_replicate, List.length_map, List.length_range]; omega) | decide)); (case h0 => (first | omega | (simp only [List.length_append, List.length_cons, List.length_nil, List.length_take, List.length_drop, List.length_replicate, List.length_map, List.length_range] at *; omega) | (simp only [List.length_append, List.length_cons, List.length_nil, List.length_take, List.length_drop, List.length_replicate, List.length_map, List.length_range]; omega) | decide)))
    | ((with_reducible refine w_dpX ?s ?h0 ?_); (case s => (first | omega | (simp only [List.length_append, List.length_cons, List.length_nil, List.length_take, List.length_drop, List.length_replicate, List.length_map, List.length_range] at *; omega) | (simp only [List.length_append, List.length_cons, List.length_nil, List.length_take, List.length_drop, List.length_replicate, List.length_map, List.length_range]; omega) | decide)); (case h0 => (first | omega | (simp only [List.length_append, List.length_cons, List.length_nil, List.length_take, List.length_drop, List.length_replicate, List.length_map, List.length_range] at *; omega) | (simp only [List.length_append, List.length_cons, List.length_nil, List.length_take, List.length_drop, List.length_replicate, List.length_map, List.length_range]; omega) | decide)))
    | ((with_reducible refine w_ixX ?s ?h0 ?_); (case s => (first | omega | (simp only [List.length_append, List.length_cons, List.length_nil, List.length_take, List.length_drop, List.length_replicate, List.length_map, List.length_range] at *; omega) | (simp only [List.length_append, List.length_cons, List.length_nil, List.length_take, List.length_drop, List.length_replicate, List.length_map, List.length_range]; omega) | decide)); (case h0 => (first | omega | (simp only [List.length_append, List.length_cons, List.length_nil, List.length_take, List.length_drop, List.length_replicate, List.length_map, List.length_range] at *; omega) | (simp only [List.length_append, List.length_cons, List.length_nil, List.length_take, List.length_drop, List.length_replicate, List.length_map, List.length_range]; omega) | decide)))
    | with_reducible refine w_max ?_
    | with_reducible refine w_min ?_
    | with_reducible refine w_eqNI ?_
    | with_reducible refine w_neNI ?_
    | with_reducible refine w_eqIN ?_
    | with_reducible refine w_neIN ?_
    | with_reducible refine w_neNN ?_
    | with_reducible refine w_eqNN ?_
    | with_reducible refine w_abs ?_
    | with_reducible refine w_intI ?_
    | with_reducible refine w_intB ?_
    | with_reducible refine w_ipI ?_
    | with_reducible refine w_bmS ?_
    | with_reducible refine w_iStrv ?_
    | with_reducible refine w_neg ?_
    | with_reducible refine w_partI ?_
    | with_reducible refine w_truB ?_
    | with_reducible refine w_truN ?_
    | with_reducible refine w_truI ?_
    | with_reducible refine w_isi_int_int ?_
    | with_reducible refine w_isi_int_bl ?_
    | with_reducible refine w_isi_int_str ?_
    | with_reducible refine w_isi_int_non ?_
    | with_reducible refine w_isi_bool_int ?_
    | with_reducible refine w_isi_bool_bl ?_
    | with_reducible refine w_isi_bool_str ?_
    | with_reducible refine w_isi_bool_non ?_
    | with_reducible refine w_isi_str_int ?_
    | with_reducible refine w_isi_str_bl ?_
    | with_reducible refine w_isi_str_str ?_
    | with_reducible refine w_isi_str_non ?_
    | with_reducible refine w_isi_list_int ?_
    | with_reducible refine w_isi_list_bl ?_
    | with_reducible refine w_isi_list_str ?_
    | with_reducible refine w_isi_list_non ?_
    | with_reducible refine w_isi_tuple_int ?_
    | with_reducible refine w_isi_tuple_bl ?_
    | with_reducible refine w_isi_tuple_str ?_
    | with_reducible refine w_isi_tuple_non ?_
    | with_reducible refine w_is_int ?_
    | with_reducible refine w_isnt_int ?_
    | with_reducible refine w_is_bl ?_
    | with_reducible refine w_isnt_bl ?_
    | with_reducible refine w_is_str ?_
    | with_reducible refine w_isnt_str ?_
    | with_reducible refine w_is_non ?_
    | with_reducible refine w_isnt_non ?_
    | with_reducible refine w_is_ref ?_
    | with_reducible refine w_isnt_ref ?_
    | ((with_reducible refine w_asT ?e ?_); (case e => walk_at "te"); intro _ _)
    | ((with_reducible refine w_onT ?e ?_); (case e => walk_at "te"); intro _ _)
    | ((with_reducible refine w_asF ?e ?_); (case e => walk_at "te"))
    | ((with_reducible refine w_onF ?e ?_); (case e => walk_at "te"))
    | ((with_reducible apply w_isE); (· walk_at "xc"); (· walk_at "kt"))
    | ((with_reducible apply w_lenL); (· walk_at "hk"))
    | ((with_reducible apply w_lenT); (· walk_at "hk"))
    | ((with_reducible apply w_bmL); (· walk_at "hk"))
    | ((with_reducible refine w_rng1v ?h1 ?h2 ?_); (case h1 => (first | omega | (simp only [List.length_map] at *; omega))); (case h2 => (first | omega | (simp only [List.length_map] at *; omega))))
    | ((with_reducible refine w_rng2v ?h1 ?_); (case h1 => (first | omega | (simp only [List.length_map] at *; omega))))
    | ((with_reducible apply w_ixI); (· walk_at "hk"); (· (first | omega | (simp only [List.length_map] at *; omega))))
    | ((with_reducible apply w_ixTI); (· walk_at "hk"); (· (first | omega | (simp only [List.length_map] at *; omega))))
    | ((with_reducible apply w_ixBl); (· walk_at "hk"); (· (first | omega | (simp only [List.length_map] at *; omega))))
    | ((with_reducible apply w_getI2); (· walk_at "hk"); (· (first | omega | (simp only [List.length_map] at *; omega))))
    | ((with_reducible apply w_ixTl); (· walk_at "hk"); (· rfl); (· decide))
    | ((with_reducible apply w_ixLl); (· walk_at "hk"); (· rfl); (· decide))
    | ((with_reducible apply w_appI); (· walk_at "hk"); (· (first | omega | (simp only [List.length_append, List.length_cons, List.length_nil]; omega))))
    | ((with_reducible apply w_iListv); (· walk_at "hk"))
    | ((with_reducible apply w_iTupv); (· walk_at "hk"))
    | ((with_reducible apply w_iRevv); (· walk_at "hk"))
    | ((with_reducible apply w_iEnumv); (· walk_at "hk"))
    | ((with_reducible apply w_iZipv); (· walk_at "hk"); (· walk_at "hk"))
    | ((with_reducible apply w_dget2v); (· walk_at "hk"))
    | ((with_reducible apply w_dget1v); (· walk_at "hk"))
    | ((with_reducible apply w_dpop1v); (· walk_at "hk"))
    | ((with_reducible apply w_getI); (· walk_at "hk"))
    | ((with_reducible apply w_inD); (· walk_at "hk"))
    | ((with_reducible apply w_ninD); (· walk_at "hk"))
    | ((with_reducible apply w_rep1); (· walk_at "hk"); (· (first | omega | (simp only [List.length_append, List.length_cons, List.length_nil, List.length_take, List.length_drop, List.length_replicate, List.length_map, List.length_range] at *; omega) | (simp only [List.length_append, List.length_cons, List.length_nil, List.length_take, List.length_drop, List.length_replicate, List.length_map, List.length_range]; omega) | decide)); (· (first | omega | (simp only [List.length_append, List.length_cons, List.length_nil, List.length_take, List.length_drop, List.length_replicate, List.length_map, List.length_range] at *; omega) | (simp only [List.length_append, List.length_cons, List.length_nil, List.length_take, List.length_drop, List.length_replicate, List.length_map, List.length_range]; omega) | decide)); intro _ _)
    | ((with_reducible apply w_gtup2); (· walk_at "hk"))
    | ((with_reducible apply w_gtup3); (· walk_at "hk"))
    | ((with_reducible apply w_gtup4); (· walk_at "hk"))
    | ((with_reducible refine w_newD ?_); intro _ _)
    | ((with_reducible apply w_augsub); (· walk_at "hk"); (· rfl); (· exact Nat.le_of_ble_eq_true rfl))
    | ((with_reducible apply w_augadd); (· walk_at "hk"); (· rfl); (· exact Nat.le_of_ble_eq_true rfl))
    | ((with_reducible apply w_fldv); (· walk_at "hk"); (· rfl))
    | ((with_reducible apply w_methv); (· walk_at "hk"); (· rfl))
    | ((with_reducible apply w_setfv); (· walk_at "hk"); (· exact Nat.le_of_ble_eq_true rfl); (· rfl))
    | walk_at "x"))
/-- the addresses that the readings speak of -/
structure Ex where
  (LaminaError NotValid PowerOff NoProcess BadHandle NoVolume ReadOnly BadName Missing WrongKind Exists LoopFound CrossVolume Busy NotEmpty TooMany TooLong OverQuota NoSpace BadImage : Addr := 0)
  (Disk Head Space Store OpenFiles Handles Processes Log Accounts Session System : Addr := 0)
  (POINTER_KINDS MODES : Addr := 0)
/-- what is known of the exceptions' classes -/
structure Fa (K : PySem.W.Frag) (C : Ex) : Prop where
  fa0 : True
  te_LaminaError_LaminaError : PySem.W.exmOne K (.ref C.LaminaError) (.ref C.LaminaError) = some true
  te_NotValid_LaminaError : PySem.W.exmOne K (.ref C.NotValid) (.ref C.LaminaError) = some true
  te_NoSpace_LaminaError : PySem.W.exmOne K (.ref C.NoSpace) (.ref C.LaminaError) = some true
  kt_LaminaError_NotValid : PySem.W.kitOne K (.ref C.LaminaError) (.ref C.NotValid) = some false
  kt_NotValid_NotValid : PySem.W.kitOne K (.ref C.NotValid) (.ref C.NotValid) = some true
  kt_NoSpace_NotValid : PySem.W.kitOne K (.ref C.NoSpace) (.ref C.NotValid) = some false
  kt_LaminaError_NoSpace : PySem.W.kitOne K (.ref C.LaminaError) (.ref C.NoSpace) = some false
  kt_NotValid_NoSpace : PySem.W.kitOne K (.ref C.NotValid) (.ref C.NoSpace) = some false
  kt_NoSpace_NoSpace : PySem.W.kitOne K (.ref C.NoSpace) (.ref C.NoSpace) = some true
  xc_LaminaError : ExcC K C.LaminaError
  xc_NotValid : ExcC K C.NotValid
  xc_NoSpace : ExcC K C.NoSpace
local macro_rules | `(tactic| walk_at "te") => `(tactic| first | exact Fa.te_LaminaError_LaminaError (by assumption) | exact Fa.te_NotValid_LaminaError (by assumption) | exact Fa.te_NoSpace_LaminaError (by assumption))
local macro_rules | `(tactic| walk_at "kt") => `(tactic| first | exact Fa.kt_LaminaError_NotValid (by assumption) | exact Fa.kt_NotValid_NotValid (by assumption) | exact Fa.kt_NoSpace_NotValid (by assumption) | exact Fa.kt_LaminaError_NoSpace (by assumption) | exact Fa.kt_NotValid_NoSpace (by assumption) | exact Fa.kt_NoSpace_NoSpace (by assumption))
local macro_rules | `(tactic| walk_at "xc") => `(tactic| first | exact Fa.xc_LaminaError (by assumption) | exact Fa.xc_NotValid (by assumption) | exact Fa.xc_NoSpace (by assumption))
def S0 (f : Hp → VK → XK → Prop) : Sp := fun vs H Q E => vs = [] ∧ f H Q E
def S1 (f : V → Hp → VK → XK → Prop) : Sp := fun vs H Q E => ∃ a, vs = [a] ∧ f a H Q E
def S2 (f : V → V → Hp → VK → XK → Prop) : Sp := fun vs H Q E => ∃ a b, vs = [a, b] ∧ f a b H Q E
def S3 (f : V → V → V → Hp → VK → XK → Prop) : Sp := fun vs H Q E => ∃ a b c, vs = [a, b, c] ∧ f a b c H Q E
def S4 (f : V → V → V → V → Hp → VK → XK → Prop) : Sp := fun vs H Q E => ∃ a b c d, vs = [a, b, c, d] ∧ f a b c d H Q E
def S5 (f : V → V → V → V → V → Hp → VK → XK → Prop) : Sp := fun vs H Q E => ∃ a b c d e, vs = [a, b, c, d, e] ∧ f a b c d e H Q E
section
variable {vs : List V} {H : Hp} {Q : VK} {E : XK} {a b c d e : V}
theorem len0 {f} (h : S0 f vs H Q E) : vs.length = 0 := by obtain ⟨rfl, _⟩ := h; rfl
theorem len1 {f} (h : S1 f vs H Q E) : vs.length = 1 := by obtain ⟨_, rfl, _⟩ := h; rfl
theorem len2 {f} (h : S2 f vs H Q E) : vs.length = 2 := by obtain ⟨_, _, rfl, _⟩ := h; rfl
theorem len3 {f} (h : S3 f vs H Q E) : vs.length = 3 := by obtain ⟨_, _, _, rfl, _⟩ := h; rfl
theorem len4 {f} (h : S4 f vs H Q E) : vs.length = 4 := by obtain ⟨_, _, _, _, rfl, _⟩ := h; rfl
theorem w_S1 {f} (h : f a H Q E) : S1 f [a] H Q E := ⟨a, rfl, h⟩
theorem w_S2 {f} (h : f a b H Q E) : S2 f [a, b] H Q E := ⟨a, b, rfl, h⟩
theorem w_S3 {f} (h : f a b c H Q E) : S3 f [a, b, c] H Q E := ⟨a, b, c, rfl, h⟩
theorem w_S4 {f} (h : f a b c d H Q E) : S4 f [a, b, c, d] H Q E := ⟨a, b, c, d, rfl, h⟩
end
theorem lt_line {n : Nat} (h : n < 10000000) : n < sizeLine := Nat.lt_of_lt_of_le h (by decide)
/-- what isinstance may ask: a scalar, or an object that is a list, a tuple, a dict -/
def Known (K : PySem.W.Frag) (H : Hp) : V → Prop
  | .ref a => ∃ o : Ob, TyX K H (.ref a) (.type o.nm)
  | .byt _ => False
  | .flt _ => False
  | .ty _ => False
  | _ => True
abbrev spLaw (K : PySem.W.Frag) : Sp := S1 fun a H Q _ => ∃ (p : Addr) (ns : List Int), a = .ref p ∧ SqL K H p (ns.map V.int) ∧ ns.length ≤ 63 ∧ ∀ H', Q (.bl true) H'
/-- an item of a mapped list -/
theorem at_int {ns : List Int} {i : Nat} {x : V} (h : (ns.map V.int)[i]? = some x) : ∃ n, ns[i]? = some n ∧ x = .int n := by
  rw [List.getElem?_map] at h
  cases e : ns[i]? with
  | none => rw [e] at h; cases h
  | some n => rw [e] at h; exact ⟨n, rfl, (Option.some.inj h).symm⟩
theorem int_at {ns : List Int} {i : Nat} (h : i < ns.length) : (ns.map V.int)[i]? = some (.int (ns.getD i 0)) := by
  rw [List.getElem?_map, List.getElem?_eq_getElem h, List.getD_eq_getElem?_getD, List.getElem?_eq_getElem h]
  rfl
theorem tyx_list {K : PySem.W.Frag} {H : Hp} {p : Addr} {xs : List V} (h : SqL K H p xs) : TyX K H (.ref p) (.type U.Ob.list.nm) := by
  rcases h with (h | ⟨o, h⟩) | ⟨o, its, n, e, c, _⟩
  · exact .base (.lst h)
  · exact .base (.frz h)
  · exact .kList e c
theorem w_isiO {K : PySem.W.Frag} {H : Hp} {Q : VK} {p : Addr} {n : Ty} (o : U.Ob) (t : TyX K H (.ref p) (.type o.nm)) (h : Q (.bl (isO n o)) H) : uIsi K n [.ref p, .ty n.nm] H Q := ⟨rfl, o, t, h⟩
theorem take_snoc {α : Type} {l : List α} {i : Nat} {c : α} (h : l[i]? = some c) : l.take (i + 1) = l.take i ++ [c] := by
  obtain ⟨hl, he⟩ := List.getElem?_eq_some_iff.mp h
  rw [List.take_succ_eq_append_getElem hl, he]
def btw (lo hi : Int) : V → Bool
  | .int i => decide (lo ≤ i) && decide (i ≤ hi)
  | _ => false
theorem btw_i (lo hi i : Int) : btw lo hi (.int i) = (decide (lo ≤ i) && decide (i ≤ hi)) := rfl
def sp_is_between (K : PySem.W.Frag) (_ : Ex) : Sp := S3 fun a b c H Q _ => ∃ lo hi : Int, b = .int lo ∧ c = .int hi ∧ Known K H a ∧ Q (.bl (btw lo hi a)) H
def t_is_between (K : PySem.W.Frag) (C : Ex) (E : XK) : TS :=
  tSeq (tIfS (tOr (tNot (uTru K (tCB (uIsi K .int) (tCons (tVar 0) (tCons (tC (.ty "int")) (tNil)))))) (uTru K (tCB (uIsi K .bool) (tCons (tVar 0) (tCons (tC (.ty "bool")) (tNil)))))) (tRet (tC (.bl false))) (tNext))
  (tRet (tChain (uLe K) (uLe K) (tVar 1) (tVar 0) (tVar 2)))
theorem pure_is_between {K : PySem.W.Frag} {C : Ex} {vs : List V} {H : Hp} {Q : VK} {E : XK} (F : Fa K C) (h : sp_is_between K C vs H Q E) : t_is_between K C E { nx := fun _ H' => Q .non H', rt := Q } (start ["value", "low", "high"] vs) H := by
  obtain ⟨a, b, c, rfl, lo, hi, rfl, rfl, hk, k⟩ := h
  unfold t_is_between
  cases a with
  | non => walk_at "run"; exact k
  | bl b => walk_at "run"; exact k
  | int i =>
    walk_at "run1"
    · rename_i h
      rw [btw_i, decide_eq_true h, Bool.true_and] at k
      exact k
    · walk_at "run1"
      rename_i h
      rw [btw_i, decide_eq_false h, Bool.false_and] at k
      exact k
  | str z => walk_at "run"; exact k
  | ref p =>
    obtain ⟨o, ho⟩ := hk
    walk_at "run1"
    refine ⟨rfl, o, ho, ?_⟩
    cases o <;> (walk_at "run"; exact k)
  | _ => exact hk.elim
theorem btw_int {lo hi i : Int} (h1 : lo ≤ i) (h2 : i ≤ hi) : btw lo hi (.int i) = true := by rw [btw_i, decide_eq_true h1, decide_eq_true h2]; rfl
theorem btw_inv {lo hi : Int} {v : V} (h : btw lo hi v = true) : ∃ i, v = .int i ∧ lo ≤ i ∧ i ≤ hi := by
  cases v <;> first | (cases h; done) | skip
  rename_i i
  exact ⟨i, rfl, of_decide_eq_true (Bool.and_eq_true_iff.mp h).1, of_decide_eq_true (Bool.and_eq_true_iff.mp h).2⟩
def TapeOk (ts : List Int) : Prop := (∀ t ∈ ts, 0 ≤ t ∧ t < 1000) ∧ ts.length ≤ 3780
theorem TapeOk.app {ts : List Int} {z : Int} (h : ∀ t ∈ ts, 0 ≤ t ∧ t < 1000) (h0 : 0 ≤ z) (h1 : z < 1000) : ∀ t ∈ ts ++ [z], 0 ≤ t ∧ t < 1000 := by
  intro t ht
  rcases List.mem_append.mp ht with ht | ht
  · exact h t ht
  · rw [List.mem_singleton.mp ht]; exact ⟨h0, h1⟩
def sp__law_tape (K : PySem.W.Frag) (_ : Ex) : Sp := S1 fun a H Q _ => ∃ (p : Addr) (ns : List Int), a = .ref p ∧ SqL K H p (ns.map V.int) ∧ ns.length ≤ 63 ∧
  ∀ H' l ts, Same H H' → H l = none → H' l = some (.lst (ts.map V.int)) → TapeOk ts → Q (.ref l) H'
def t__law_tape (K : PySem.W.Frag) (C : Ex) (E : XK) : TS :=
  tSeq (tAsg (tLst (tNil)) (gName 1))
  (tSeq (tFor (iRng1 (tCons (tCB (uLen K) (tCons (tVar 0) (tNil))) (tNil))) (gName 2)
  (tSeq (tAsg (tCB (uAbs) (tCons (tCB (uInt) (tCons (tOp (uIx K) (tVar 0) (tVar 2)) (tNil))) (tNil))) (gName 3))
  (tIfS (tTest (tOp (uGe K) (tVar 3) (tOp (uPow) (tC (.int 10)) (tC (.int 18))))) (tFor (iRng1 (tCons (tC (.int 60)) (tNil))) (gName 4)
  (tIfS (tTest (tOp (uGt) (tVar 3) (tC (.int 0)))) (tSeq (tDrop (tBM K "list" (rAppend) (tVar 1) (tCons (tOp (uMod) (tVar 3) (tC (.int 1000))) (tNil))))
  (tAsg (tOp (uDiv) (tVar 3) (tC (.int 1000))) (gName 3))) (tNext))) (tFor (iRng1 (tCons (tC (.int 4)) (tNil))) (gName 4)
  (tSeq (tAsg (tOp (uMod) (tOp (uAdd K) (tOp (uAdd K) (tOp (uMul) (tVar 3) (tC (.int 48271))) (tOp (uMul) (tC (.int 69621)) (tOp (uAdd K) (tVar 2) (tC (.int 1))))) (tOp (uMul) (tC (.int 7)) (tVar 4))) (tC (.int 2147483647))) (gName 3))
  (tSeq (tAsg (tOp (uMod) (tOp (uMul) (tVar 3) (tC (.int 16807))) (tC (.int 2147483647))) (gName 3))
  (tDrop (tBM K "list" (rAppend) (tVar 1) (tCons (tOp (uMod) (tOp (uDiv) (tVar 3) (tC (.int 1000))) (tC (.int 1000))) (tNil))))))))))
  (tRet (tVar 1)))
theorem pure__law_tape {K : PySem.W.Frag} {C : Ex} {vs : List V} {H : Hp} {Q : VK} {E : XK} (F : Fa K C) (h : sp__law_tape K C vs H Q E) : t__law_tape K C E { nx := fun _ H' => Q .non H', rt := Q } (start ["_law_script", "_law_tape_here", "_law_k", "_law_value", "_law_step"] vs) H := by
  obtain ⟨a, rfl, p, ns, rfl, hS, hn, k⟩ := h
  unfold t__law_tape
  walk_at "run1"
  rename_i l hl
  refine f_range (fun i σ H' => ∃ v2 v3 v4 ts, σ = [some (.ref p), some (.ref l), v2, v3, v4] ∧ Same H H' ∧ H' l = some (.lst (ts.map V.int)) ∧ (∀ t ∈ ts, 0 ≤ t ∧ t < 1000) ∧ ts.length ≤ 60 * i)
    ⟨none, none, none, [], rfl, same_new hl, upd_same, by simp, Nat.zero_le _⟩ ?_ ?_
  · rintro i σ H1 hi ⟨v2, v3, v4, ts, rfl, hs, hl1, ht, hz⟩
    have hi' : i < ns.length := by simp only [List.length_map] at hi; omega
    have hS1 := hs.seq hS
    walk_at "run1"
    · have h0 : 0 ≤ (if ns.getD (0 + (i : Int)).toNat 0 < 0 then -ns.getD (0 + (i : Int)).toNat 0 else ns.getD (0 + (i : Int)).toNat 0) := by split <;> omega
      generalize (if ns.getD (0 + (i : Int)).toNat 0 < 0 then -ns.getD (0 + (i : Int)).toNat 0 else ns.getD (0 + (i : Int)).toNat 0) = z at *
      refine f_range (fun j σ H' => ∃ (z : Int) (v4 : Option V) (ts : List Int), σ = [some (.ref p), some (.ref l), some (.int (0 + (i : Int))), some (.int z), v4] ∧ 0 ≤ z ∧ Same H H' ∧ H' l = some (.lst (ts.map V.int)) ∧ (∀ t ∈ ts, 0 ≤ t ∧ t < 1000) ∧ ts.length ≤ 60 * i + j)
        ⟨z, v4, ts, rfl, h0, hs, hl1, ht, hz⟩ ?_ ?_
      · rintro j σ H2 hj ⟨z, v4, ts, rfl, hz0, hs, hl1, ht, hz⟩
        have hj' : j < 60 := hj
        walk_at "run1"
        · exact ⟨_, _, _, rfl, by omega, same_upd hs hl, upd_same, TapeOk.app ht (by omega) (by omega), by simp only [List.length_append, List.length_cons, List.length_nil]; omega⟩
        · walk_at "run1"
          exact ⟨_, _, _, rfl, by omega, hs, hl1, ht, by omega⟩
      · rintro σ H2 ⟨z, v4, ts, rfl, hz0, hs, hl1, ht, hz⟩
        exact ⟨_, _, _, _, rfl, hs, hl1, ht, by have : (60 : Int).toNat = 60 := rfl; omega⟩
    · have h0 : 0 ≤ (if ns.getD (0 + (i : Int)).toNat 0 < 0 then -ns.getD (0 + (i : Int)).toNat 0 else ns.getD (0 + (i : Int)).toNat 0) := by split <;> omega
      generalize (if ns.getD (0 + (i : Int)).toNat 0 < 0 then -ns.getD (0 + (i : Int)).toNat 0 else ns.getD (0 + (i : Int)).toNat 0) = z at *
      have h18 : z < 10 ^ 18 := by
        have e : (18 : Int).toNat = 18 := rfl
        rename_i hne
        rw [e] at hne
        omega
      walk_at "run1"
      refine f_range (fun j σ H' => ∃ (z : Int) (v4 : Option V) (ts : List Int), σ = [some (.ref p), some (.ref l), some (.int (0 + (i : Int))), some (.int z), v4] ∧ (0 ≤ z ∧ z < 10 ^ 18) ∧ Same H H' ∧ H' l = some (.lst (ts.map V.int)) ∧ (∀ t ∈ ts, 0 ≤ t ∧ t < 1000) ∧ ts.length ≤ 60 * i + j)
        ⟨z, v4, ts, rfl, ⟨h0, h18⟩, hs, hl1, ht, hz⟩ ?_ ?_
      · rintro j σ H2 hj ⟨z, v4, ts, rfl, hz0, hs, hl1, ht, hz⟩
        have hj' : j < 4 := hj
        walk_at "run1"
        exact ⟨_, _, _, rfl, by omega, same_upd hs hl, upd_same, TapeOk.app ht (by omega) (by omega), by simp only [List.length_append, List.length_cons, List.length_nil]; omega⟩
      · rintro σ H2 ⟨z, v4, ts, rfl, hz0, hs, hl1, ht, hz⟩
        exact ⟨_, _, _, _, rfl, hs, hl1, ht, by have : (4 : Int).toNat = 4 := rfl; omega⟩
  · rintro σ H1 ⟨v2, v3, v4, ts, rfl, hs, hl1, ht, hz⟩
    walk_at "run1"
    exact k _ _ ts hs hl hl1 ⟨ht, by simp only [List.length_map] at hz; omega⟩
def sp__law_at (K : PySem.W.Frag) (_ : Ex) : Sp := S2 fun a b H Q _ => ∃ (p : Addr) (ts : List Int) (k : Int), a = .ref p ∧ b = .int k ∧ SqL K H p (ts.map V.int) ∧ 0 ≤ k ∧ Q (.int (ts.getD k.toNat 0)) H
def t__law_at (K : PySem.W.Frag) (C : Ex) (E : XK) : TS :=
  tSeq (tIfS (tTest (tOp (uLt K) (tVar 1) (tCB (uLen K) (tCons (tVar 0) (tNil))))) (tRet (tOp (uIx K) (tVar 0) (tVar 1))) (tNext))
  (tRet (tC (.int 0)))
theorem pure__law_at {K : PySem.W.Frag} {C : Ex} {vs : List V} {H : Hp} {Q : VK} {E : XK} (F : Fa K C) (h : sp__law_at K C vs H Q E) : t__law_at K C E { nx := fun _ H' => Q .non H', rt := Q } (start ["_law_tape_here", "_law_k"] vs) H := by
  obtain ⟨a, b, rfl, p, ts, k, rfl, rfl, hS, hk, q⟩ := h
  unfold t__law_at
  walk_at "run1"
  · walk_at "run1"
    exact q
  · walk_at "run1"
    rename_i hlt
    rw [List.getD_eq_getElem?_getD, List.getElem?_eq_none (by simp only [List.length_map] at hlt; omega)] at q
    exact q
theorem TapeOk.at {ts : List Int} (h : TapeOk ts) (k : Nat) : 0 ≤ ts.getD k 0 ∧ ts.getD k 0 < 1000 := by
  rw [List.getD_eq_getElem?_getD]
  cases e : ts[k]? with
  | none => exact ⟨Int.le_refl 0, by decide⟩
  | some z => exact h.1 z (List.mem_of_getElem? e)
theorem u__law_at {K : PySem.W.Frag} {C : Ex} {H : Hp} {Q : VK} {E : XK} {p : Addr} {ts : List Int} {k : Int} (e : SqL K H p (ts.map V.int)) (h0 : 0 ≤ k) (h : Q (.int (ts.getD k.toNat 0)) H) : sp__law_at K C [.ref p, .int k] H Q E := w_S2 ⟨p, ts, k, rfl, rfl, e, h0, h⟩
local macro_rules | `(tactic| walk_at "x") => `(tactic| ((with_reducible apply u__law_at); (· walk_at "hk"); (· omega)))
/-- of the objects of H all but those of S stand in H'; S' is of S or new -/
def Stp (S : List Addr) (H : Hp) (S' : List Addr) (H' : Hp) : Prop := (∀ b o, H b = some o → b ∉ S → H' b = some o) ∧ ∀ b ∈ S', b ∈ S ∨ H b = none
theorem Stp.refl {S : List Addr} {H : Hp} : Stp S H S H := ⟨fun _ _ h _ => h, fun _ h => .inl h⟩
theorem Stp.trans {S S1 S2 : List Addr} {H H1 H2 : Hp} (x : Stp S H S1 H1) (y : Stp S1 H1 S2 H2) : Stp S H S2 H2 := by
  refine ⟨fun b o h n => y.1 b o (x.1 b o h n) fun q => ?_, fun b hb => ?_⟩
  · rcases x.2 b q with z | z
    · exact n z
    · rw [h] at z; cases z
  · rcases y.2 b hb with q | q
    · exact x.2 b q
    · by_cases n : b ∈ S
      · exact .inl n
      · cases e : H b with
        | none => exact .inr rfl
        | some o => rw [x.1 b o e n] at q; cases q
theorem Stp.same {S : List Addr} {H H' : Hp} (s : Same H H') : Stp S H S H' := ⟨fun b o h _ => s b o h, fun _ h => .inl h⟩
theorem Stp.upd {S : List Addr} {H H' : Hp} {p : Addr} {o : HO} (x : Stp S H S H') (h : p ∈ S) : Stp S H S (upd H' p o) :=
  ⟨fun b w e n => by rw [upd_ne (fun q => n (by rw [q]; exact h))]; exact x.1 b w e n, x.2⟩
theorem Stp.new {S : List Addr} {H H' : Hp} {p : Addr} {o : HO} (x : Stp S H S H') (h : H' p = none) : Stp S H S (L2.upd H' p o) := x.trans (.same (same_new h))
theorem Stp.fresh {S S' : List Addr} {H H' : Hp} {p : Addr} (x : Stp S H S' H') (n : H' p = none) : p ∈ S ∨ H p = none := by
  by_cases q : p ∈ S
  · exact .inl q
  · cases e : H p with
    | none => exact .inr rfl
    | some o => rw [x.1 p o e q] at n; cases n
theorem Stp.keep {S S' : List Addr} {H H' : Hp} {b : Addr} {o : HO} (x : Stp S H S' H') (h : H b = some o) (n : b ∉ S) : H' b = some o ∧ b ∉ S' :=
  ⟨x.1 b o h n, fun q => (x.2 b q).elim n fun z => by rw [h] at z; cases z⟩
/-- a list of eight words -/
def RowAt (H : Hp) (v : V) (r : List Int) : Prop := r.length = 8 ∧ ∃ p, v = .ref p ∧ H p = some (.lst (r.map V.int))
def AllRef (vs : List V) : Prop := ∀ x ∈ vs, ∃ p, x = V.ref p
theorem RowAt.same {H H' : Hp} {v : V} {r : List Int} (x : RowAt H v r) (s : Same H H') : RowAt H' v r := by
  obtain ⟨l, p, rfl, h⟩ := x
  exact ⟨l, p, rfl, s _ _ h⟩
theorem RowAt.upd {H : Hp} {v : V} {r : List Int} {q : Addr} {o u : HO} (x : RowAt H v r) (h : H q = some u) (n : r.length = 8 → HO.lst (r.map V.int) ≠ u) : RowAt (upd H q o) v r := by
  obtain ⟨l, p, rfl, e⟩ := x
  exact ⟨l, p, rfl, by rw [upd_ne (ne_of e h (n l))]; exact e⟩
/-- what may be written without a row's loss -/
def NoRow (u : HO) : Prop := ∀ r : List Int, r.length = 8 → HO.lst (r.map V.int) ≠ u
def RowsAt (H : Hp) (vs : List V) (rs : List (List Int)) : Prop := vs.length = rs.length ∧ ∀ (i : Nat) v, vs[i]? = some v → ∃ r, rs[i]? = some r ∧ RowAt H v r
theorem RowsAt.ref {H : Hp} {vs : List V} {rs : List (List Int)} (x : RowsAt H vs rs) : AllRef vs := fun v hv => by
  obtain ⟨i, hi⟩ := List.getElem?_of_mem hv
  obtain ⟨r, _, _, p, e, _⟩ := x.2 i v hi
  exact ⟨p, e⟩
theorem RowsAt.map {H H' : Hp} {vs : List V} {rs : List (List Int)} (x : RowsAt H vs rs) (f : ∀ v r, RowAt H v r → RowAt H' v r) : RowsAt H' vs rs := ⟨x.1, fun i v h => by
  obtain ⟨r, e, y⟩ := x.2 i v h
  exact ⟨r, e, f v r y⟩⟩
theorem RowsAt.same {H H' : Hp} {vs : List V} {rs : List (List Int)} (x : RowsAt H vs rs) (s : Same H H') : RowsAt H' vs rs := x.map fun _ _ y => y.same s
theorem RowsAt.upd {H : Hp} {vs : List V} {rs : List (List Int)} {q : Addr} {o u : HO} (x : RowsAt H vs rs) (h : H q = some u) (n : NoRow u) : RowsAt (upd H q o) vs rs := x.map fun _ r y => y.upd h (n r)
theorem RowsAt.nil {H : Hp} : RowsAt H [] [] := ⟨rfl, fun i v h => by simp at h⟩
theorem RowsAt.set {H : Hp} {vs : List V} {rs : List (List Int)} {v : V} {r : List Int} {j : Nat} (x : RowsAt H vs rs) (y : RowAt H v r) : RowsAt H (vs.set j v) (rs.set j r) := by
  refine ⟨by rw [List.length_set, List.length_set, x.1], fun i w h => ?_⟩
  by_cases q : j = i
  · subst q
    have hl : j < vs.length := by
      have := (List.getElem?_eq_some_iff.mp h).1
      rw [List.length_set] at this
      exact this
    rw [List.getElem?_set_self hl] at h
    cases h
    exact ⟨r, List.getElem?_set_self (by rw [← x.1]; exact hl), y⟩
  · rw [List.getElem?_set_ne q] at h
    obtain ⟨r', e, z⟩ := x.2 i w h
    exact ⟨r', by rw [List.getElem?_set_ne q]; exact e, z⟩
/-- eight words -/
def Row8 (r : List Int) : Prop := r.length = 8 ∧ ∀ z ∈ r, 0 ≤ z
theorem Row8.set {r : List Int} {i : Nat} {z : Int} (h : Row8 r) (hz : 0 ≤ z) : Row8 (r.set i z) := ⟨by rw [List.length_set]; exact h.1, fun y hy => by
  rcases List.mem_or_eq_of_mem_set hy with q | q
  · exact h.2 y q
  · rw [q]; exact hz⟩
theorem getD_nn {l : List Int} (h : ∀ z ∈ l, 0 ≤ z) (k : Nat) : 0 ≤ l.getD k 0 := by
  rw [List.getD_eq_getElem?_getD]
  cases e : l[k]? with
  | none => exact Int.le_refl 0
  | some z => exact h z (List.mem_of_getElem? e)
structure SpS where
  nums : List Int
  held : List Bool
  low : Int
def isFr (ns : List Int) (hs : List Bool) (i : Nat) : Bool := decide (ns.getD i 0 = 0) && !hs.getD i false
/-- the free blocks in ascending order -/
def freeL (ns : List Int) (hs : List Bool) : List Nat := (List.range ns.length).filter (isFr ns hs)
structure SpOk (S : SpS) : Prop where
  len : S.nums.length = S.held.length
  nn : ∀ z ∈ S.nums, 0 ≤ z
  lo : 0 ≤ S.low
  fr : ∀ i : Nat, (i : Int) < S.low → isFr S.nums S.held i = false
  sz : S.nums.length ≤ 100000
def spO (C : Ex) (dx a b : Addr) (ns : List Int) (sp low : Int) : HO := .ins C.Space dx [("blocks", .int (ns.length : Nat)), ("numbers", .ref a), ("held", .ref b), ("spare", .int sp), ("low", .int low)]
structure SpAt (C : Ex) (H : Hp) (s a b : Addr) (S : SpS) : Prop where
  ins : ∃ dx, H s = some (spO C dx a b S.nums (freeL S.nums S.held).length S.low)
  nm : H a = some (.lst (S.nums.map V.int))
  hd : H b = some (.lst (S.held.map V.bl))
  ne : a ≠ b
/-- the lists alone; what is counted stands open -/
structure SpR (C : Ex) (H : Hp) (s a b : Addr) (S : SpS) : Prop where
  ins : ∃ dx sp low, H s = some (spO C dx a b S.nums sp low)
  nm : H a = some (.lst (S.nums.map V.int))
  hd : H b = some (.lst (S.held.map V.bl))
  ne : a ≠ b
theorem SpAt.r {C : Ex} {H : Hp} {s a b : Addr} {S : SpS} (x : SpAt C H s a b S) : SpR C H s a b S := by
  obtain ⟨⟨dx, i⟩, h1, h2, ne⟩ := x
  exact ⟨⟨dx, _, _, i⟩, h1, h2, ne⟩
theorem SpAt.same {C : Ex} {H H' : Hp} {s a b : Addr} {S : SpS} (x : SpAt C H s a b S) (e : Same H H') : SpAt C H' s a b S := by
  obtain ⟨⟨dx, i⟩, h1, h2, ne⟩ := x
  exact ⟨⟨dx, e _ _ i⟩, e _ _ h1, e _ _ h2, ne⟩
abbrev spF (s a b : Addr) : List Addr := [s, a, b]
theorem SpAt.fresh {C : Ex} {H : Hp} {s a b p : Addr} {S : SpS} (x : SpAt C H s a b S) (h : H p = none) : p ∉ spF s a b := by
  obtain ⟨⟨_, x1⟩, x2, x3, _⟩ := x
  intro hb
  simp only [spF, List.mem_cons, List.not_mem_nil, or_false] at hb
  rcases hb with rfl | rfl | rfl
  · rw [x1] at h; cases h
  · rw [x2] at h; cases h
  · rw [x3] at h; cases h
theorem isFr_set {ns : List Int} {hs : List Bool} {k i : Nat} {z : Int} (h : k ≠ i) : isFr (ns.set k z) hs i = isFr ns hs i := by
  unfold isFr
  rw [List.getD_eq_getElem?_getD, List.getElem?_set_ne h, ← List.getD_eq_getElem?_getD]
theorem isFr_here {ns : List Int} {hs : List Bool} {k : Nat} {z : Int} (h : k < ns.length) : isFr (ns.set k z) hs k = (decide (z = 0) && !hs.getD k false) := by
  unfold isFr
  rw [List.getD_eq_getElem?_getD, List.getElem?_set_self h]
  rfl
theorem freeL_eq {ns ns' : List Int} {hs hs' : List Bool} (hl : ns'.length = ns.length) (h : ∀ i, i < ns.length → isFr ns' hs' i = isFr ns hs i) : freeL ns' hs' = freeL ns hs := by
  unfold freeL
  rw [hl]
  exact List.filter_congr fun i hi => h i (List.mem_range.mp hi)
theorem freeL_mem {ns : List Int} {hs : List Bool} {i : Nat} : i ∈ freeL ns hs ↔ i < ns.length ∧ isFr ns hs i = true := by
  unfold freeL
  rw [List.mem_filter, List.mem_range]
theorem freeL_sorted (ns : List Int) (hs : List Bool) : (freeL ns hs).Pairwise (· < ·) := List.Pairwise.filter _ List.pairwise_lt_range
/-- the least free block -/
theorem freeL_head {ns : List Int} {hs : List Bool} {k : Nat} {r : List Nat} (e : freeL ns hs = k :: r) : k < ns.length ∧ isFr ns hs k = true ∧ ∀ i, i < k → isFr ns hs i = false := by
  have hk : k ∈ freeL ns hs := by rw [e]; exact List.mem_cons_self ..
  obtain ⟨h1, h2⟩ := freeL_mem.mp hk
  refine ⟨h1, h2, fun i hi => ?_⟩
  cases q : isFr ns hs i with
  | false => rfl
  | true =>
    have hm : i ∈ freeL ns hs := freeL_mem.mpr ⟨by omega, q⟩
    have hs' := freeL_sorted ns hs
    rw [e] at hm hs'
    rcases List.mem_cons.mp hm with h | h
    · omega
    · have := (List.pairwise_cons.mp hs').1 i h
      omega
/-- a free block is taken -/
theorem freeL_take {ns : List Int} {hs : List Bool} {k : Nat} {r : List Nat} {z : Int} (e : freeL ns hs = k :: r) (hz : z ≠ 0) : freeL (ns.set k z) hs = r := by
  obtain ⟨h1, h2, h3⟩ := freeL_head e
  have e2 : freeL (ns.set k z) hs = (freeL ns hs).filter (fun i => decide (i ≠ k)) := by
    unfold freeL
    rw [List.length_set, List.filter_filter]
    refine List.filter_congr fun i hi => ?_
    by_cases q : k = i
    · subst q
      rw [isFr_here h1, decide_eq_false hz]
      simp
    · rw [isFr_set q, decide_eq_true (Ne.symm q)]
      simp
  rw [e2, e]
  have hs' := freeL_sorted ns hs
  rw [e] at hs'
  have hr := (List.pairwise_cons.mp hs').1
  rw [List.filter_cons, if_neg (by simp)]
  exact List.filter_eq_self.mpr fun i hi => decide_eq_true (by have := hr i hi; omega)
/-- a block becomes free -/
theorem freeL_drop {ns : List Int} {hs : List Bool} {k : Nat} (hk : k < ns.length) (h1 : isFr ns hs k = false) (h2 : hs.getD k false = false) : (freeL (ns.set k 0) hs).length = (freeL ns hs).length + 1 := by
  have z0 : ns.getD k 0 ≠ 0 := fun q => by
    unfold isFr at h1
    rw [q, h2] at h1
    simp at h1
  have hn : (freeL (ns.set k 0) hs).Nodup := (freeL_sorted _ _).imp fun h => Nat.ne_of_lt h
  have hm : k ∈ freeL (ns.set k 0) hs := freeL_mem.mpr ⟨by rw [List.length_set]; exact hk, by rw [isFr_here hk, h2]; rfl⟩
  have e2 : freeL ns hs = (freeL (ns.set k 0) hs).filter (fun i => decide (i ≠ k)) := by
    unfold freeL
    rw [List.length_set, List.filter_filter]
    refine List.filter_congr fun i hi => ?_
    by_cases q : k = i
    · subst q
      rw [h1]
      simp
    · rw [isFr_set q, decide_eq_true (Ne.symm q)]
      simp
  have e3 : (freeL (ns.set k 0) hs).filter (fun i => decide (i ≠ k)) = (freeL (ns.set k 0) hs).erase k := by
    rw [hn.erase_eq_filter]
    exact List.filter_congr fun i _ => by simp [bne, Bool.beq_eq_decide_eq]
  rw [e2, e3, List.length_erase_of_mem hm]
  have := List.length_pos_of_mem hm
  omega
def sp_Space_count_spare (K : PySem.W.Frag) (C : Ex) : Sp := S1 fun x H Q _ => ∃ (s a b dx : Addr) (ns : List Int) (hs : List Bool) (sp low : Int), x = .ref s ∧ H s = some (spO C dx a b ns sp low) ∧ H a = some (.lst (ns.map V.int)) ∧ H b = some (.lst (hs.map V.bl)) ∧ ns.length = hs.length ∧ ns.length ≤ 100000 ∧
  ∀ H', H' s = some (spO C dx a b ns (freeL ns hs).length 0) → (∀ c o, H c = some o → c ≠ s → H' c = some o) → Q .non H'
def t_Space_count_spare (K : PySem.W.Frag) (C : Ex) (E : XK) : TS :=
  tSeq (uSetF C.Space "spare" (tVar 0) (tCB (uLen K) (tCons (tLc (iZip K (tCons (uFld C.Space "numbers" (tVar 0)) (tCons (uFld C.Space "held" (tVar 0)) (tNil)))) (gTup K 2 (gCons (gName 1) (gCons (gName 2) (gNil)))) (tAnd (tTest (tOp (uEq K) (tVar 1) (tC (.int 0)))) (tNot (uTru K (tVar 2)))) (tVar 1) [1, 2]) (tNil))))
  (uSetF C.Space "low" (tVar 0) (tC (.int 0)))
theorem pure_Space_count_spare {K : PySem.W.Frag} {C : Ex} {vs : List V} {H : Hp} {Q : VK} {E : XK} (F : Fa K C) (h : sp_Space_count_spare K C vs H Q E) : t_Space_count_spare K C E { nx := fun _ H' => Q .non H', rt := Q } (start ["self", "many", "held"] vs) H := by
  obtain ⟨x, rfl, s, a, b, dx, ns, hs, sp, low, rfl, i, ha, hb, hl, hz, k⟩ := h
  unfold spO at i
  unfold t_Space_count_spare
  walk_at "run1"
  refine l_zip (xs := ns.map V.int) (ys := hs.map V.bl) (by rw [List.length_map, List.length_map, hl]) (fun D i H1 => Same H H1 ∧ ∃ acc, H1 D = some (.lst acc) ∧ acc.length = ((List.range i).filter (isFr ns hs)).length) (fun D hD => ⟨same_new hD, [], upd_same, rfl⟩) (fun D i H1 _ p => ⟨SqL.of (p.1 _ _ ha), SqL.of (p.1 _ _ hb)⟩) ?_ ?_
  · rintro D i x y H1 T hD hx hy ⟨s1, acc, h1, la⟩ hT
    obtain ⟨z, hz1, rfl⟩ := at_int hx
    obtain ⟨w, hw1, rfl⟩ := at_bl hy
    have hi : i < ns.length := (List.getElem?_eq_some_iff.mp hz1).1
    have ef : isFr ns hs i = (decide (z = 0) && !w) := by
      unfold isFr
      rw [List.getD_eq_getElem?_getD, List.getD_eq_getElem?_getD, hz1, hw1]
      rfl
    have la' : acc.length ≤ i := by rw [la]; exact Nat.le_trans (List.length_filter_le _ _) (by rw [List.length_range]; exact Nat.le_refl _)
    have s2 := same_updN (o := .tup [.int z, .bl w]) s1 hT
    have h2 : upd H1 T (.tup [.int z, .bl w]) D = some (.lst acc) := upd_old h1 hT
    have eT : upd H1 T (.tup [.int z, .bl w]) T = some (.tup [.int z, .bl w]) := upd_same
    generalize upd H1 T _ = H2 at *
    have skip : isFr ns hs i = false → Same H H2 ∧ ∃ acc, H2 D = some (.lst acc) ∧ acc.length = ((List.range (i + 1)).filter (isFr ns hs)).length := fun q => by
      refine ⟨s2, acc, h2, ?_⟩
      rw [List.range_succ, List.filter_append, List.length_append, la]
      simp [q]
    cases w with
    | true =>
      walk_at "run1"
      refine ⟨rfl, ?_⟩
      walk_at "run1"
      · exact skip (by rw [ef]; simp)
      · walk_at "run1"
        exact skip (by rw [ef]; simp)
    | false =>
      walk_at "run1"
      refine ⟨rfl, ?_⟩
      walk_at "run1"
      · rename_i q
        refine ⟨acc, h2, lt_line (by omega), same_upd s2 hD, _, upd_same, ?_⟩
        rw [List.range_succ, List.filter_append, List.length_append, List.length_append, la]
        simp [ef, q]
      · walk_at "run1"
        rename_i q
        exact skip (by rw [ef, decide_eq_false q]; rfl)
  · rintro D H1 hD ⟨s1, acc, h1, la⟩
    have i1 := s1 _ _ i
    walk_at "run1"
    rw [List.length_map] at la
    refine k _ ?_ fun c o h n => ?_
    · rw [upd_same, la]
      rfl
    · rw [upd_ne n, upd_ne n]
      exact s1 _ _ h
/-- the sub-steps: the lists and the object anew -/
theorem SpAt.of {C : Ex} {H H' : Hp} {s a b dx : Addr} {ns : List Int} {hs : List Bool} {low : Int} (i : H' s = some (spO C dx a b ns (freeL ns hs).length low)) (ha : H a = some (.lst (ns.map V.int))) (hb : H b = some (.lst (hs.map V.bl))) (na : a ≠ s) (nb : b ≠ s) (fr : ∀ c o, H c = some o → c ≠ s → H' c = some o) (ne : a ≠ b) : SpAt C H' s a b ⟨ns, hs, low⟩ :=
  ⟨⟨dx, i⟩, fr _ _ ha na, fr _ _ hb nb, ne⟩
def posL (ns : List Int) : List Bool := ns.map fun z => decide (0 < z)
/-- [many > 0 for many in ns] -/
theorem l_pos {K : PySem.W.Frag} {H1 : Hp} {Q : VK} {σ : L2.St} {p : Addr} {ns : List Int} {j : Nat} (hp : H1 p = some (.lst (ns.map V.int))) (hz : ns.length ≤ 100000) (hj : j < σ.length)
    (k : ∀ D H, H1 D = none → Same H1 H → H D = some (.lst ((posL ns).map V.bl)) → Q (.ref D) H) : lcQ (gName j) tYes (tOp uGt (tVar j) (tC (.int 0))) [j] σ (Itl K p) H1 Q := by
  refine l_list (xs := ns.map V.int) (fun D i H => Same H1 H ∧ H D = some (.lst ((posL (ns.take i)).map V.bl))) (fun D hD => ⟨same_new hD, upd_same⟩) (fun D i H _ z => SqL.of (z.1 _ _ hp)) ?_ ?_
  · rintro D i x H hD hx ⟨s1, h1⟩
    obtain ⟨z, hz1, rfl⟩ := at_int hx
    have hi : i < ns.length := (List.getElem?_eq_some_iff.mp hz1).1
    have hw : wipe ((wipe σ [j]).set j (some (.int z))) [j] = wipe σ [j] := by
      show ((σ.set j none).set j (some (.int z))).set j none = σ.set j none
      rw [List.set_set, List.set_set]
    refine w_name ⟨hw, ?_⟩
    refine w_yes ?_
    refine iteT ?_
    refine w_op ?_
    refine w_var (v := .int z) (by
      show ((σ.set j none).set j (some (.int z)))[j]? = some (some (.int z))
      rw [List.getElem?_set_self (by rw [List.length_set]; exact hj)]) ?_
    refine w_c ?_
    refine w_gt ?_
    refine ⟨_, h1, by rw [List.length_map]; unfold posL; rw [List.length_map, List.length_take]; exact lt_line (by omega), same_upd s1 hD, ?_⟩
    rw [upd_same, take_snoc hz1]
    unfold posL
    rw [List.map_append, List.map_append]
    rfl
  · rintro D H hD ⟨s1, h1⟩
    rw [List.length_map, List.take_length] at h1
    exact k D H hD s1 h1
def sp_Space___init__ (K : PySem.W.Frag) (C : Ex) : Sp := S2 fun x u H Q _ => ∃ (s dx p : Addr) (ns : List Int), x = .ref s ∧ u = .ref p ∧ H s = some (.ins C.Space dx []) ∧ H p = some (.lst (ns.map V.int)) ∧ ns.length ≤ 100000 ∧
  ∀ H' a b, SpAt C H' s a b ⟨ns, posL ns, 0⟩ → (∀ c o, H c = some o → c ≠ s → H' c = some o) → H a = none → H b = none → Q .non H'
def t_Space___init__ (K : PySem.W.Frag) (C : Ex) (E : XK) : TS :=
  tSeq (uSetF C.Space "blocks" (tVar 0) (tCB (uLen K) (tCons (tVar 1) (tNil))))
  (tSeq (uSetF C.Space "numbers" (tVar 0) (tCB (uList K) (tCons (tVar 1) (tNil))))
  (tSeq (uSetF C.Space "held" (tVar 0) (tLc (iList K (tVar 1)) (gName 2) (tYes) (tOp (uGt) (tVar 2) (tC (.int 0))) [2]))
  (tSeq (uSetF C.Space "spare" (tVar 0) (tC (.int 0)))
  (tSeq (uSetF C.Space "low" (tVar 0) (tC (.int 0)))
  (tDrop (uMeth C.Space "count_spare" (sp_Space_count_spare K C) (WB E) (tVar 0) (tNil)))))))
theorem pure_Space___init__ {K : PySem.W.Frag} {C : Ex} {vs : List V} {H : Hp} {Q : VK} {E : XK} (F : Fa K C) (h : sp_Space___init__ K C vs H Q E) : t_Space___init__ K C E { nx := fun _ H' => Q .non H', rt := Q } (start ["self", "uses", "many"] vs) H := by
  obtain ⟨x, u, rfl, s, dx, p, ns, rfl, rfl, i, hp, hz, k⟩ := h
  have nps : p ≠ s := ne_of hp i fun z => nomatch z
  unfold t_Space___init__
  walk_at "run1"
  have hp1 := upd_oth (o := .ins C.Space dx (putF "blocks" (.int ((ns.map V.int).length : Nat)) [])) hp nps
  refine w_tlist (SqL.of hp1) fun a ha => ?_
  have ha0 : H a = none := (none_of_upd ha).1
  have nas : a ≠ s := (none_of_upd ha).2
  have f1 : ∀ c o, H c = some o → c ≠ s → upd (upd H s (.ins C.Space dx (putF "blocks" (.int ((ns.map V.int).length : Nat)) []))) a (.lst (ns.map V.int)) c = some o := fun c o h n => upd_old (upd_oth h n) ha
  have i1 : upd (upd H s (.ins C.Space dx (putF "blocks" (.int ((ns.map V.int).length : Nat)) []))) a (.lst (ns.map V.int)) s = some (.ins C.Space dx [("blocks", .int ((ns.map V.int).length : Nat))]) := upd_old upd_same ha
  have ha1 : upd (upd H s (.ins C.Space dx (putF "blocks" (.int ((ns.map V.int).length : Nat)) []))) a (.lst (ns.map V.int)) a = some (.lst (ns.map V.int)) := upd_same
  generalize upd (upd H s _) a _ = H1 at *
  walk_at "run1"
  generalize hH2 : upd H1 s _ = H2 at *
  have f2 : ∀ c o, H c = some o → c ≠ s → H2 c = some o := fun c o h n => by rw [← hH2]; exact upd_oth (f1 c o h n) n
  have i2 : H2 s = some (.ins C.Space dx [("blocks", .int ((ns.map V.int).length : Nat)), ("numbers", .ref a)]) := by rw [← hH2]; exact upd_same
  have ha2 : H2 a = some (.lst (ns.map V.int)) := by rw [← hH2]; exact upd_oth ha1 nas
  clear hH2
  have hp2 := f2 _ _ hp nps
  refine w_iListv (SqL.of hp2) ?_
  refine l_pos hp2 hz (by show 2 < 3; decide) fun b H3 hb s3 h3 => ?_
  have i3 := s3 _ _ i2
  have nbs : b ≠ s := (ne_of_none i2 hb).symm
  have nab : a ≠ b := ne_of_none ha2 hb
  walk_at "run1"
  refine w_S1 ⟨s, a, b, dx, ns, posL ns, 0, 0, rfl, ?_, upd_oth (upd_oth (upd_oth (s3 _ _ ha2) nas) nas) nas, upd_oth (upd_oth (upd_oth h3 nbs) nbs) nbs, by unfold posL; rw [List.length_map], hz, fun H4 i4 f4 => ?_⟩
  · rw [upd_same, List.length_map]
    rfl
  · walk_at "run1"
    have g : ∀ c o, H3 c = some o → c ≠ s → H4 c = some o := fun c o h n => f4 c o (upd_oth (upd_oth (upd_oth h n) n) n) n
    refine k H4 a b (SpAt.of i4 (s3 _ _ ha2) h3 nas nbs g nab) (fun c o h n => g c o (s3 _ _ (f2 c o h n)) n) ha0 ?_
    cases e : H b with
    | none => rfl
    | some o => rw [f2 b o e nbs] at hb; cases hb
def sp_Space_check_block (K : PySem.W.Frag) (C : Ex) : Sp := S2 fun x c H Q E => ∃ s a b S, x = .ref s ∧ SpR C H s a b S ∧ Known K H c ∧ (btw 0 ((S.nums.length : Int) - 1) c = true → Q .non H) ∧ (btw 0 ((S.nums.length : Int) - 1) c = false → E (.ref C.NotValid) none H)
def t_Space_check_block (K : PySem.W.Frag) (C : Ex) (E : XK) : TS :=
  tIfS (tNot (uTru K (uCall (sp_is_between K C) (WB E) (tCons (tVar 1) (tCons (tC (.int 0)) (tCons (tOp (uSub) (uFld C.Space "blocks" (tVar 0)) (tC (.int 1))) (tNil))))))) (uRaise C.NotValid (WB E)) (tNext)
theorem pure_Space_check_block {K : PySem.W.Frag} {C : Ex} {vs : List V} {H : Hp} {Q : VK} {E : XK} (F : Fa K C) (h : sp_Space_check_block K C vs H Q E) : t_Space_check_block K C E { nx := fun _ H' => Q .non H', rt := Q } (start ["self", "block"] vs) H := by
  obtain ⟨x, c, rfl, s, a, b, S, rfl, hS, hk, k1, k2⟩ := h
  obtain ⟨dx, sp, low, i⟩ := hS.ins
  unfold spO at i
  unfold t_Space_check_block
  walk_at "run1"
  refine w_S3 ⟨_, _, rfl, rfl, hk, ?_⟩
  walk_at "run1"
  refine ifBN (fun h => ?_) (fun h => ?_)
  · walk_at "run1"
    exact k2 h
  · walk_at "run1"
    exact k1 h
def lowOf (H : Hp) (s : Addr) : Int := match H s with
  | some (.ins _ _ fs) => (match fs.lookup ("low" : Str) with
    | some (V.int l) => l
    | _ => 0)
  | _ => 0
theorem lowOf_at {C : Ex} {H : Hp} {s dx a b : Addr} {ns : List Int} {sp low : Int} (i : H s = some (spO C dx a b ns sp low)) : lowOf H s = low := by
  unfold lowOf
  rw [i]
  rfl
def sp_Space_least_free (K : PySem.W.Frag) (C : Ex) : Sp := S1 fun x H Q _ => ∃ s a b S, x = .ref s ∧ SpAt C H s a b S ∧ SpOk S ∧ (freeL S.nums S.held = [] → Q .non H) ∧
  ∀ k r, freeL S.nums S.held = k :: r → ∀ H', SpAt C H' s a b { S with low := (k : Int) } → Stp (spF s a b) H (spF s a b) H' → Q (.int (k : Nat)) H'
def t_Space_least_free (K : PySem.W.Frag) (C : Ex) (E : XK) : TS :=
  tSeq (tIfS (tTest (tOp (uEq K) (uFld C.Space "spare" (tVar 0)) (tC (.int 0)))) (tRet (tC .non)) (tNext))
  (tSeq (tWhile (tOr (tTest (tOp (uGt) (tOp (uIx K) (uFld C.Space "numbers" (tVar 0)) (uFld C.Space "low" (tVar 0))) (tC (.int 0)))) (uTru K (tOp (uIx K) (uFld C.Space "held" (tVar 0)) (uFld C.Space "low" (tVar 0)))))
  (uAugF C.Space "low" rAdd (tVar 0) (tC (.int 1))))
  (tRet (uFld C.Space "low" (tVar 0))))
theorem pure_Space_least_free {K : PySem.W.Frag} {C : Ex} {vs : List V} {H : Hp} {Q : VK} {E : XK} (F : Fa K C) (h : sp_Space_least_free K C vs H Q E) : t_Space_least_free K C E { nx := fun _ H' => Q .non H', rt := Q } (start ["self"] vs) H := by
  obtain ⟨x, rfl, s, a, b, S, rfl, hS, ok, k1, k2⟩ := h
  obtain ⟨dx, i⟩ := hS.ins
  have len := ok.len
  unfold spO at i
  unfold t_Space_least_free
  walk_at "run1"
  · rename_i h
    exact k1 (List.eq_nil_of_length_eq_zero (by omega))
  walk_at "run1"
  rename_i hne
  cases e : freeL S.nums S.held with
  | nil => rw [e] at hne; exact absurd rfl hne
  | cons k r =>
    obtain ⟨h1, h2, h3⟩ := freeL_head e
    have lk : S.low ≤ k := by
      rcases (show (k : Int) < S.low ∨ S.low ≤ k by omega) with q | q
      · have := ok.fr k q
        rw [h2] at this
        cases this
      · exact q
    refine f_while (fun σ H' => σ = [some (.ref s)] ∧ ∃ l : Int, 0 ≤ l ∧ l ≤ k ∧ SpAt C H' s a b { S with low := l } ∧ Stp (spF s a b) H (spF s a b) H') (fun _ H' => ((k : Int) - lowOf H' s).toNat) ⟨rfl, S.low, ok.lo, lk, hS, .refl⟩ ?_
    rintro σ H1 ⟨rfl, l, l0, l1, hS1, st1⟩
    obtain ⟨⟨dx1, i1⟩, ha, hb, nab⟩ := hS1
    have i0 : H1 s = some (spO C dx1 a b S.nums ((freeL S.nums S.held).length : Nat) l) := i1
    clear i1
    have i1 := i0
    unfold spO at i1
    have ha : H1 a = some (.lst (S.nums.map V.int)) := ha
    have hb : H1 b = some (.lst (S.held.map V.bl)) := hb
    have hn := getD_nn ok.nn l.toNat
    have more : l < k → (([some (V.ref s)] = [some (V.ref s)] ∧ ∃ l' : Int, 0 ≤ l' ∧ l' ≤ k ∧ SpAt C (upd H1 s (.ins C.Space dx1 [("blocks", .int (S.nums.length : Nat)), ("numbers", .ref a), ("held", .ref b), ("spare", .int ((freeL S.nums S.held).length : Nat)), ("low", .int (l + 1))])) s a b { S with low := l' } ∧
        Stp (spF s a b) H (spF s a b) (upd H1 s (.ins C.Space dx1 [("blocks", .int (S.nums.length : Nat)), ("numbers", .ref a), ("held", .ref b), ("spare", .int ((freeL S.nums S.held).length : Nat)), ("low", .int (l + 1))]))) ∧
        ((k : Int) - lowOf (upd H1 s (.ins C.Space dx1 [("blocks", .int (S.nums.length : Nat)), ("numbers", .ref a), ("held", .ref b), ("spare", .int ((freeL S.nums S.held).length : Nat)), ("low", .int (l + 1))])) s).toNat < ((k : Int) - lowOf H1 s).toNat) := fun hlt => by
      refine ⟨⟨rfl, l + 1, by omega, by omega, ⟨⟨dx1, upd_same⟩, upd_oth ha (ne_of ha i1 fun z => nomatch z), upd_oth hb (ne_of hb i1 fun z => nomatch z), nab⟩, st1.upd (by simp [spF])⟩, ?_⟩
      exact (show ∀ x y : Int, x = l + 1 → y = l → ((k : Int) - x).toNat < (k - y).toNat from fun x y hx hy => by omega) _ _ (lowOf_at (C := C) (dx := dx1) (a := a) (b := b) (ns := S.nums) (sp := ((freeL S.nums S.held).length : Nat)) upd_same) (lowOf_at i0)
    have hfr : l < k → isFr S.nums S.held l.toNat = false := fun hlt => h3 _ (by omega)
    walk_at "run1"
    · refine more ?_
      rename_i h
      rcases (show l < k ∨ (k : Int) ≤ l by omega) with q | q
      · exact q
      · have : l.toNat = k := by omega
        rw [this] at h
        unfold isFr at h2
        have := of_decide_eq_true (Bool.and_eq_true_iff.mp h2).1
        omega
    · walk_at "run1"
      rename_i h
      refine ifB (fun q => ?_) (fun q => ?_)
      · walk_at "run1"
        refine more ?_
        rcases (show l < k ∨ (k : Int) ≤ l by omega) with q2 | q2
        · exact q2
        · have : l.toNat = k := by omega
          rw [this] at q
          unfold isFr at h2
          rw [q] at h2
          simp at h2
      · have elk : l = k := by
          rcases (show l < k ∨ (k : Int) ≤ l by omega) with q2 | q2
          · have z := hfr q2
            unfold isFr at z
            rw [q, decide_eq_true (show S.nums.getD l.toNat 0 = 0 by omega)] at z
            cases z
          · omega
        subst elk
        walk_at "run1"
        exact k2 k r e H1 ⟨⟨dx1, i1⟩, ha, hb, nab⟩ st1
/-- one block's number changes -/
theorem SpOk.set {S : SpS} {k : Nat} {z low : Int} (x : SpOk S) (hz : 0 ≤ z) (l0 : 0 ≤ low) (hf : ∀ i : Nat, (i : Int) < low → isFr (S.nums.set k z) S.held i = false) : SpOk ⟨S.nums.set k z, S.held, low⟩ := by
  refine ⟨?_, fun y hy => ?_, l0, hf, ?_⟩
  · show (S.nums.set k z).length = _
    rw [List.length_set]
    exact x.len
  · rcases List.mem_or_eq_of_mem_set hy with q | q
    · exact x.nn y q
    · rw [q]; exact hz
  · show (S.nums.set k z).length ≤ _
    rw [List.length_set]
    exact x.sz
def takeS (S : SpS) (k : Nat) : SpS := ⟨S.nums.set k 1, S.held, (k : Int)⟩
def sp_Space_take (K : PySem.W.Frag) (C : Ex) : Sp := S2 fun x c H Q E => ∃ s a b S, ∃ r : Int, x = .ref s ∧ c = .int r ∧ 0 ≤ r ∧ SpAt C H s a b S ∧ SpOk S ∧ (((freeL S.nums S.held).length : Int) ≤ r → E (.ref C.NoSpace) none H) ∧
  ∀ k t, freeL S.nums S.held = k :: t → r < (freeL S.nums S.held).length → ∀ H', SpAt C H' s a b (takeS S k) → Stp (spF s a b) H (spF s a b) H' → Q (.int (k : Nat)) H'
def t_Space_take (K : PySem.W.Frag) (C : Ex) (E : XK) : TS :=
  tSeq (tIfS (tTest (tOp (uLe K) (uFld C.Space "spare" (tVar 0)) (tVar 1))) (uRaise C.NoSpace (WB E)) (tNext))
  (tSeq (tAsg (uMeth C.Space "least_free" (sp_Space_least_free K C) (WB E) (tVar 0) (tNil)) (gName 2))
  (tSeq (tAsg (tC (.int 1)) (gSub (uFld C.Space "numbers" (tVar 0)) (tVar 2) uSet))
  (tSeq (uAugF C.Space "spare" rSub (tVar 0) (tC (.int 1)))
  (tRet (tVar 2)))))
theorem pure_Space_take {K : PySem.W.Frag} {C : Ex} {vs : List V} {H : Hp} {Q : VK} {E : XK} (F : Fa K C) (h : sp_Space_take K C vs H Q E) : t_Space_take K C E { nx := fun _ H' => Q .non H', rt := Q } (start ["self", "reserve", "block"] vs) H := by
  obtain ⟨x, c, rfl, s, a, b, S, r, rfl, rfl, hr, hS, ok, k1, k2⟩ := h
  obtain ⟨dx, i⟩ := hS.ins
  have len := ok.len
  unfold spO at i
  unfold t_Space_take
  walk_at "run1"
  · rename_i h
    exact k1 h
  walk_at "run1"
  rename_i hlt
  refine w_S1 ⟨s, a, b, S, rfl, hS, ok, fun e => ?_, fun k t e H1 hS1 st1 => ?_⟩
  · rw [e] at hlt
    exact absurd hr hlt
  obtain ⟨h1, h2, h3⟩ := freeL_head e
  obtain ⟨⟨dx1, i1⟩, ha, hb, nab⟩ := hS1
  have i0 := i1
  unfold spO at i1
  have ha : H1 a = some (.lst (S.nums.map V.int)) := ha
  have hb : H1 b = some (.lst (S.held.map V.bl)) := hb
  have nsa : s ≠ a := (ne_of ha i1 fun z => nomatch z).symm
  have nsb : s ≠ b := (ne_of hb i1 fun z => nomatch z).symm
  walk_at "run1"
  refine w_setL ha ⟨by omega, by rw [List.length_map]; omega⟩ ?_
  have i2 := upd_oth (o := .lst ((S.nums.map V.int).set ((k : Nat) : Int).toNat (.int 1))) i1 nsa
  walk_at "run1"
  have ft := freeL_take (z := 1) e (by decide)
  have hl : ((freeL S.nums S.held).length : Int) - 1 = (freeL (S.nums.set k 1) S.held).length := by rw [ft, e, List.length_cons]; omega
  refine k2 k t e (by omega) _ ⟨⟨dx1, ?_⟩, ?_, ?_, nab⟩ ((st1.upd (by simp [spF])).upd (by simp [spF]))
  · rw [upd_same]
    unfold spO takeS
    dsimp only
    rw [← hl, List.length_set]
    rfl
  · rw [upd_ne nsa.symm, upd_same]
    unfold takeS
    rw [List.map_set]
    rfl
  · exact upd_oth (upd_oth hb nab.symm) nsb.symm
theorem takeS_ok {S : SpS} {k : Nat} {t : List Nat} (x : SpOk S) (e : freeL S.nums S.held = k :: t) : SpOk (takeS S k) := by
  obtain ⟨h1, h2, h3⟩ := freeL_head e
  exact x.set (by decide) (by omega) fun i hi => by rw [isFr_set (by omega)]; exact h3 i (by omega)
def shareS (S : SpS) (k : Nat) : SpS := ⟨S.nums.set k (S.nums.getD k 0 + 1), S.held, S.low⟩
/-- what share, drop refuse -/
def badB (S : SpS) (c : V) : Prop := btw 0 ((S.nums.length : Int) - 1) c = false ∨ ∃ z : Int, c = .int z ∧ (z < 5 ∨ S.nums.getD z.toNat 0 = 0)
def sp_Space_share (K : PySem.W.Frag) (C : Ex) : Sp := S2 fun x c H Q E => ∃ s a b S, x = .ref s ∧ Known K H c ∧ SpAt C H s a b S ∧ SpOk S ∧ (badB S c → E (.ref C.NotValid) none H) ∧
  ∀ k : Nat, c = .int (k : Nat) → 5 ≤ k → k < S.nums.length → S.nums.getD k 0 ≠ 0 → ∀ H', SpAt C H' s a b (shareS S k) → Stp (spF s a b) H (spF s a b) H' → Q .non H'
theorem share_fr {S : SpS} {k : Nat} (hk : k < S.nums.length) (ok : SpOk S) (hn : S.nums.getD k 0 ≠ 0) : ∀ i, isFr (S.nums.set k (S.nums.getD k 0 + 1)) S.held i = isFr S.nums S.held i := fun i => by
  by_cases q : k = i
  · subst q
    have := getD_nn ok.nn k
    rw [isFr_here hk, decide_eq_false (by omega)]
    unfold isFr
    rw [decide_eq_false hn]
  · exact isFr_set q
def t_Space_share (K : PySem.W.Frag) (C : Ex) (E : XK) : TS :=
  tSeq (tDrop (uMeth C.Space "check_block" (sp_Space_check_block K C) (WB E) (tVar 0) (tCons (tVar 1) (tNil))))
  (tSeq (tIfS (tOr (tTest (tOp (uLt K) (tVar 1) (tC (.int 5)))) (tTest (tOp (uEq K) (tOp (uIx K) (uFld C.Space "numbers" (tVar 0)) (tVar 1)) (tC (.int 0))))) (uRaise C.NotValid (WB E)) (tNext))
  (tAugS (uFld C.Space "numbers" (tVar 0)) (tVar 1) (tC (.int 1)) (uGet K) (ipI fun i j => i + j) uSet))
theorem pure_Space_share {K : PySem.W.Frag} {C : Ex} {vs : List V} {H : Hp} {Q : VK} {E : XK} (F : Fa K C) (h : sp_Space_share K C vs H Q E) : t_Space_share K C E { nx := fun _ H' => Q .non H', rt := Q } (start ["self", "block"] vs) H := by
  obtain ⟨x, c, rfl, s, a, b, S, rfl, hk, hS, ok, k1, k2⟩ := h
  have hS0 := hS
  obtain ⟨⟨dx, i⟩, ha, hb, nab⟩ := hS
  have len := ok.len
  unfold spO at i
  have nsa : s ≠ a := (ne_of ha i fun z => nomatch z).symm
  have nsb : s ≠ b := (ne_of hb i fun z => nomatch z).symm
  unfold t_Space_share
  walk_at "run1"
  refine w_S2 ⟨s, a, b, S, rfl, hS0.r, hk, fun h => ?_, fun h => k1 (.inl h)⟩
  obtain ⟨z, rfl, z0, z1⟩ := btw_inv h
  walk_at "run1"
  · rename_i q
    exact k1 (.inr ⟨z, rfl, .inl q⟩)
  walk_at "run1"
  · rename_i q
    exact k1 (.inr ⟨z, rfl, .inr q⟩)
  walk_at "run1"
  rename_i q5 q0
  refine w_setL ha ⟨by omega, by rw [List.length_map]; omega⟩ ?_
  have hz : z.toNat < S.nums.length := by omega
  have ef := freeL_eq (ns := S.nums) (ns' := S.nums.set z.toNat (S.nums.getD z.toNat 0 + 1)) (hs := S.held) (hs' := S.held) (List.length_set ..) fun i _ => share_fr hz ok q0 i
  refine k2 z.toNat (by rw [show ((z.toNat : Nat) : Int) = z by omega]) (by omega) hz q0 _ ⟨⟨dx, ?_⟩, ?_, upd_oth hb nab.symm, nab⟩ (Stp.refl.upd (by simp [spF]))
  · rw [upd_ne nsa, i]
    unfold spO shareS
    dsimp only
    rw [ef, List.length_set]
  · rw [upd_same]
    unfold shareS
    rw [List.map_set]
theorem shareS_ok {S : SpS} {k : Nat} (x : SpOk S) (hk : k < S.nums.length) (hn : S.nums.getD k 0 ≠ 0) : SpOk (shareS S k) :=
  x.set (by have := getD_nn x.nn k; omega) x.lo fun i hi => by rw [share_fr hk x hn]; exact x.fr i hi
def dropS (S : SpS) (k : Nat) : SpS := ⟨S.nums.set k (S.nums.getD k 0 - 1), S.held, if isFr (S.nums.set k (S.nums.getD k 0 - 1)) S.held k = true then (if (k : Int) < S.low then (k : Int) else S.low) else S.low⟩
theorem drop_fr {S : SpS} {k : Nat} (hn : S.nums.getD k 0 ≠ 0) : isFr S.nums S.held k = false := by
  unfold isFr
  rw [decide_eq_false hn]
  rfl
theorem dropS_ok {S : SpS} {k : Nat} (x : SpOk S) (hk : k < S.nums.length) (hn : S.nums.getD k 0 ≠ 0) : SpOk (dropS S k) := by
  have := getD_nn x.nn k
  have := x.lo
  refine x.set (by omega) (by split; · split <;> omega
                              · omega) fun i hi => ?_
  by_cases q : k = i
  · subst q
    cases e : isFr (S.nums.set k (S.nums.getD k 0 - 1)) S.held k with
    | false => rfl
    | true =>
      rw [if_pos e] at hi
      split at hi <;> omega
  · rw [isFr_set q]
    refine x.fr i ?_
    split at hi
    · split at hi <;> omega
    · exact hi
theorem drop_len {S : SpS} {k : Nat} (hk : k < S.nums.length) (hn : S.nums.getD k 0 ≠ 0) : (freeL (S.nums.set k (S.nums.getD k 0 - 1)) S.held).length = (freeL S.nums S.held).length + (if isFr (S.nums.set k (S.nums.getD k 0 - 1)) S.held k = true then 1 else 0) := by
  cases e : isFr (S.nums.set k (S.nums.getD k 0 - 1)) S.held k with
  | true =>
    rw [if_pos rfl]
    rw [isFr_here hk] at e
    obtain ⟨e1, e2⟩ := Bool.and_eq_true_iff.mp e
    rw [of_decide_eq_true e1]
    exact freeL_drop hk (drop_fr hn) (by simpa using e2)
  | false =>
    rw [if_neg (by decide)]
    rw [freeL_eq (ns := S.nums) (hs := S.held) (List.length_set ..) fun i _ => by
      by_cases q : k = i
      · subst q; rw [e, drop_fr hn]
      · exact isFr_set q]
    rfl
abbrev rdB (K : PySem.W.Frag) (C : Ex) (f : SpS → Nat → V) : V → V → Hp → VK → XK → Prop := fun x c H Q E => ∃ s a b S, x = .ref s ∧ Known K H c ∧ SpR C H s a b S ∧ SpOk S ∧ (btw 0 ((S.nums.length : Int) - 1) c = false → E (.ref C.NotValid) none H) ∧ ∀ k : Nat, c = .int (k : Nat) → k < S.nums.length → Q (f S k) H
def sp_Space_uses (K : PySem.W.Frag) (C : Ex) : Sp := S2 (rdB K C fun S k => .int (S.nums.getD k 0))
def sp_Space_is_held (K : PySem.W.Frag) (C : Ex) : Sp := S2 (rdB K C fun S k => .bl (S.held.getD k false))
def sp_Space_is_new (K : PySem.W.Frag) (C : Ex) : Sp := S2 (rdB K C fun S k => .bl (decide (0 < S.nums.getD k 0) && !S.held.getD k false))
def sp_Space_is_free (K : PySem.W.Frag) (C : Ex) : Sp := S2 (rdB K C fun S k => .bl (isFr S.nums S.held k))
def t_Space_uses (K : PySem.W.Frag) (C : Ex) (E : XK) : TS :=
  tSeq (tDrop (uMeth C.Space "check_block" (sp_Space_check_block K C) (WB E) (tVar 0) (tCons (tVar 1) (tNil))))
  (tRet (tOp (uIx K) (uFld C.Space "numbers" (tVar 0)) (tVar 1)))
theorem pure_Space_uses {K : PySem.W.Frag} {C : Ex} {vs : List V} {H : Hp} {Q : VK} {E : XK} (F : Fa K C) (h : sp_Space_uses K C vs H Q E) : t_Space_uses K C E { nx := fun _ H' => Q .non H', rt := Q } (start ["self", "block"] vs) H := by
  obtain ⟨x, c, rfl, s, a, b, S, rfl, hk, hS, ok, k1, k2⟩ := h
  have hS0 := hS
  obtain ⟨⟨dx, sp, low, i⟩, ha, hb, nab⟩ := hS
  unfold spO at i
  unfold t_Space_uses
  walk_at "run1"
  refine w_S2 ⟨s, a, b, S, rfl, hS0, hk, fun h => ?_, k1⟩
  obtain ⟨z, rfl, z0, z1⟩ := btw_inv h
  have k2 := k2 z.toNat (by rw [show ((z.toNat : Nat) : Int) = z by omega]) (by omega)
  dsimp only at k2
  walk_at "run1"
  exact k2
def t_Space_is_held (K : PySem.W.Frag) (C : Ex) (E : XK) : TS :=
  tSeq (tDrop (uMeth C.Space "check_block" (sp_Space_check_block K C) (WB E) (tVar 0) (tCons (tVar 1) (tNil))))
  (tRet (tOp (uIx K) (uFld C.Space "held" (tVar 0)) (tVar 1)))
theorem pure_Space_is_held {K : PySem.W.Frag} {C : Ex} {vs : List V} {H : Hp} {Q : VK} {E : XK} (F : Fa K C) (h : sp_Space_is_held K C vs H Q E) : t_Space_is_held K C E { nx := fun _ H' => Q .non H', rt := Q } (start ["self", "block"] vs) H := by
  obtain ⟨x, c, rfl, s, a, b, S, rfl, hk, hS, ok, k1, k2⟩ := h
  have hS0 := hS
  obtain ⟨⟨dx, sp, low, i⟩, ha, hb, nab⟩ := hS
  have len := ok.len
  unfold spO at i
  unfold t_Space_is_held
  walk_at "run1"
  refine w_S2 ⟨s, a, b, S, rfl, hS0, hk, fun h => ?_, k1⟩
  obtain ⟨z, rfl, z0, z1⟩ := btw_inv h
  have k2 := k2 z.toNat (by rw [show ((z.toNat : Nat) : Int) = z by omega]) (by omega)
  dsimp only at k2
  walk_at "run1"
  exact k2
def t_Space_is_new (K : PySem.W.Frag) (C : Ex) (E : XK) : TS :=
  tSeq (tDrop (uMeth C.Space "check_block" (sp_Space_check_block K C) (WB E) (tVar 0) (tCons (tVar 1) (tNil))))
  (tRet (tAndV (tOp (uGt) (tOp (uIx K) (uFld C.Space "numbers" (tVar 0)) (tVar 1)) (tC (.int 0))) (tNotV (tOp (uIx K) (uFld C.Space "held" (tVar 0)) (tVar 1)))))
theorem pure_Space_is_new {K : PySem.W.Frag} {C : Ex} {vs : List V} {H : Hp} {Q : VK} {E : XK} (F : Fa K C) (h : sp_Space_is_new K C vs H Q E) : t_Space_is_new K C E { nx := fun _ H' => Q .non H', rt := Q } (start ["self", "block"] vs) H := by
  obtain ⟨x, c, rfl, s, a, b, S, rfl, hk, hS, ok, k1, k2⟩ := h
  have hS0 := hS
  obtain ⟨⟨dx, sp, low, i⟩, ha, hb, nab⟩ := hS
  have len := ok.len
  unfold spO at i
  unfold t_Space_is_new
  walk_at "run1"
  refine w_S2 ⟨s, a, b, S, rfl, hS0, hk, fun h => ?_, k1⟩
  obtain ⟨z, rfl, z0, z1⟩ := btw_inv h
  have k2 := k2 z.toNat (by rw [show ((z.toNat : Nat) : Int) = z by omega]) (by omega)
  dsimp only at k2
  walk_at "run1"
  · rename_i q
    rw [decide_eq_true q, Bool.true_and] at k2
    exact k2
  · walk_at "run1"
    rename_i q
    rw [decide_eq_false q, Bool.false_and] at k2
    exact k2
def t_Space_is_free (K : PySem.W.Frag) (C : Ex) (E : XK) : TS :=
  tSeq (tDrop (uMeth C.Space "check_block" (sp_Space_check_block K C) (WB E) (tVar 0) (tCons (tVar 1) (tNil))))
  (tRet (tAndV (tOp (uEq K) (tOp (uIx K) (uFld C.Space "numbers" (tVar 0)) (tVar 1)) (tC (.int 0))) (tNotV (tOp (uIx K) (uFld C.Space "held" (tVar 0)) (tVar 1)))))
theorem pure_Space_is_free {K : PySem.W.Frag} {C : Ex} {vs : List V} {H : Hp} {Q : VK} {E : XK} (F : Fa K C) (h : sp_Space_is_free K C vs H Q E) : t_Space_is_free K C E { nx := fun _ H' => Q .non H', rt := Q } (start ["self", "block"] vs) H := by
  obtain ⟨x, c, rfl, s, a, b, S, rfl, hk, hS, ok, k1, k2⟩ := h
  have hS0 := hS
  obtain ⟨⟨dx, sp, low, i⟩, ha, hb, nab⟩ := hS
  have len := ok.len
  unfold spO at i
  unfold t_Space_is_free
  walk_at "run1"
  refine w_S2 ⟨s, a, b, S, rfl, hS0, hk, fun h => ?_, k1⟩
  obtain ⟨z, rfl, z0, z1⟩ := btw_inv h
  have k2 := k2 z.toNat (by rw [show ((z.toNat : Nat) : Int) = z by omega]) (by omega)
  dsimp only at k2
  unfold isFr at k2
  walk_at "run1"
  · rename_i q
    rw [decide_eq_true q, Bool.true_and] at k2
    exact k2
  · walk_at "run1"
    rename_i q
    rw [decide_eq_false q, Bool.false_and] at k2
    exact k2
def sp_Space_drop (K : PySem.W.Frag) (C : Ex) : Sp := S2 fun x c H Q E => ∃ s a b S, x = .ref s ∧ Known K H c ∧ SpAt C H s a b S ∧ SpOk S ∧ (badB S c → E (.ref C.NotValid) none H) ∧
  ∀ k : Nat, c = .int (k : Nat) → 5 ≤ k → k < S.nums.length → S.nums.getD k 0 ≠ 0 → ∀ H', SpAt C H' s a b (dropS S k) → Stp (spF s a b) H (spF s a b) H' → Q (.int (S.nums.getD k 0 - 1)) H'
def t_Space_drop (K : PySem.W.Frag) (C : Ex) (E : XK) : TS :=
  tSeq (tDrop (uMeth C.Space "check_block" (sp_Space_check_block K C) (WB E) (tVar 0) (tCons (tVar 1) (tNil))))
  (tSeq (tIfS (tOr (tTest (tOp (uLt K) (tVar 1) (tC (.int 5)))) (tTest (tOp (uEq K) (tOp (uIx K) (uFld C.Space "numbers" (tVar 0)) (tVar 1)) (tC (.int 0))))) (uRaise C.NotValid (WB E)) (tNext))
  (tSeq (tAugS (uFld C.Space "numbers" (tVar 0)) (tVar 1) (tC (.int 1)) (uGet K) (ipI fun i j => i - j) uSet)
  (tCut (tIfS (uTru K (uMeth C.Space "is_free" (sp_Space_is_free K C) (WB E) (tVar 0) (tCons (tVar 1) (tNil)))) (tSeq (uAugF C.Space "spare" rAdd (tVar 0) (tC (.int 1)))
  (uSetF C.Space "low" (tVar 0) (tCB (uMin K) (tCons (uFld C.Space "low" (tVar 0)) (tCons (tVar 1) (tNil)))))) (tNext))
  (tRet (tOp (uIx K) (uFld C.Space "numbers" (tVar 0)) (tVar 1))))))
theorem pure_Space_drop {K : PySem.W.Frag} {C : Ex} {vs : List V} {H : Hp} {Q : VK} {E : XK} (F : Fa K C) (h : sp_Space_drop K C vs H Q E) : t_Space_drop K C E { nx := fun _ H' => Q .non H', rt := Q } (start ["self", "block"] vs) H := by
  obtain ⟨x, c, rfl, s, a, b, S, rfl, hk, hS, ok, k1, k2⟩ := h
  have hS0 := hS
  obtain ⟨⟨dx, i⟩, ha, hb, nab⟩ := hS
  have len := ok.len
  unfold spO at i
  have nsa : s ≠ a := (ne_of ha i fun z => nomatch z).symm
  have nsb : s ≠ b := (ne_of hb i fun z => nomatch z).symm
  unfold t_Space_drop
  walk_at "run1"
  refine w_S2 ⟨s, a, b, S, rfl, hS0.r, hk, fun h => ?_, fun h => k1 (.inl h)⟩
  obtain ⟨z, rfl, z0, z1⟩ := btw_inv h
  walk_at "run1"
  · rename_i q
    exact k1 (.inr ⟨z, rfl, .inl q⟩)
  walk_at "run1"
  · rename_i q
    exact k1 (.inr ⟨z, rfl, .inr q⟩)
  walk_at "run1"
  rename_i q5 q0
  obtain ⟨n, rfl⟩ := Int.eq_ofNat_of_zero_le z0
  have hz : n < S.nums.length := by omega
  rw [show ((n : Nat) : Int).toNat = n from Int.toNat_natCast n] at *
  have k2 := k2 n rfl (by omega) hz q0
  have hl := drop_len hz q0
  have nn := getD_nn ok.nn n
  have ok2 := dropS_ok ok hz q0
  refine w_setL ha ⟨by omega, by rw [List.length_map]; omega⟩ ?_
  rw [show ((n : Nat) : Int).toNat = n from Int.toNat_natCast n, ← List.map_set]
  have i2 := upd_oth (o := .lst ((S.nums.set n (S.nums.getD n 0 - 1)).map V.int)) i nsa
  have ha2 : upd H a (.lst ((S.nums.set n (S.nums.getD n 0 - 1)).map V.int)) a = some (.lst ((S.nums.set n (S.nums.getD n 0 - 1)).map V.int)) := upd_same
  have hb2 := upd_oth (o := .lst ((S.nums.set n (S.nums.getD n 0 - 1)).map V.int)) hb nab.symm
  have st2 : Stp (spF s a b) H (spF s a b) (upd H a (.lst ((S.nums.set n (S.nums.getD n 0 - 1)).map V.int))) := Stp.refl.upd (by simp [spF])
  generalize upd H a _ = H2 at *
  walk_at "run1"
  refine w_cut (fun σ H3 => σ = [some (.ref s), some (.int (n : Nat))] ∧ SpAt C H3 s a b (dropS S n) ∧ Stp (spF s a b) H (spF s a b) H3) ?_ ?_
  · walk_at "run1"
    unfold sp_Space_is_free rdB
    refine w_S2 ⟨s, a, b, dropS S n, rfl, trivial, ⟨⟨dx, _, _, by rw [i2]; unfold spO dropS; dsimp only; rw [List.length_set]⟩, ha2, hb2, nab⟩, ok2, fun q => ?_, fun m em _ => ?_⟩
    · have : (dropS S n).nums.length = S.nums.length := List.length_set ..
      rw [this, btw_int (by omega) (by omega)] at q
      cases q
    · have em : n = m := by cases em; rfl
      subst em
      have hfr : isFr (dropS S n).nums (dropS S n).held n = isFr (S.nums.set n (S.nums.getD n 0 - 1)) S.held n := rfl
      dsimp only
      rw [hfr]
      walk_at "run1"
      refine ifB (fun q => ?_) (fun q => ?_)
      · rw [if_pos q] at hl
        walk_at "run1"
        refine ⟨rfl, ⟨⟨dx, ?_⟩, upd_oth (upd_oth ha2 nsa.symm) nsa.symm, upd_oth (upd_oth hb2 nsb.symm) nsb.symm, nab⟩, (st2.upd (by simp [spF])).upd (by simp [spF])⟩
        rw [upd_same]
        unfold spO dropS
        dsimp only
        rw [if_pos q, hl, List.length_set]
        rfl
      · rw [if_neg (by rw [q]; decide)] at hl
        walk_at "run1"
        refine ⟨rfl, ⟨⟨dx, ?_⟩, ha2, hb2, nab⟩, st2⟩
        rw [i2]
        unfold spO dropS
        dsimp only
        rw [if_neg (by rw [q]; decide), hl, List.length_set]
        rfl
  · rintro σ H3 ⟨rfl, hS3, st3⟩
    obtain ⟨⟨dx3, i3⟩, ha3, hb3, _⟩ := id hS3
    unfold spO at i3
    have ha3 : H3 a = some (.lst ((S.nums.set n (S.nums.getD n 0 - 1)).map V.int)) := ha3
    have hz2 : n < (S.nums.set n (S.nums.getD n 0 - 1)).length := by rw [List.length_set]; exact hz
    walk_at "run1"
    rw [show (S.nums.set n (S.nums.getD n 0 - 1)).getD ((n : Nat) : Int).toNat 0 = S.nums.getD n 0 - 1 by rw [Int.toNat_natCast, List.getD_eq_getElem?_getD, List.getElem?_set_self hz]; rfl]
    exact k2 H3 hS3 st3
structure Sep (F : List Addr) (H : Hp) (L : List (Addr × HO)) : Prop where
  own : ∀ x ∈ L, H x.1 = some x.2
  out : ∀ x ∈ L, x.1 ∉ F
  nd : (L.map (·.1)).Nodup
section sep
variable {F F' : List Addr} {H H' : Hp} {L L2 : List (Addr × HO)} {p : Addr} {o : HO}
theorem Sep.get (x : Sep F H L) (i : Nat) (e : L[i]? = some (p, o)) : H p = some o := x.own (p, o) (List.mem_of_getElem? e)
theorem Sep.far (x : Sep F H L) (i : Nat) (e : L[i]? = some (p, o)) : p ∉ F := x.out (p, o) (List.mem_of_getElem? e)
theorem Sep.stp (x : Sep F H L) (st : Stp F H F' H') : Sep F' H' L :=
  ⟨fun y hy => (st.keep (x.own y hy) (x.out y hy)).1, fun y hy => (st.keep (x.own y hy) (x.out y hy)).2, x.nd⟩
theorem Sep.same (x : Sep F H L) (s : Same H H') : Sep F H' L := ⟨fun y hy => s _ _ (x.own y hy), x.out, x.nd⟩
theorem Sep.set (x : Sep F H L) (i : Nat) (e : L[i]? = some (p, o)) (o' : HO) : Sep F (upd H p o') (L.set i (p, o')) := by
  have hm : (L.set i (p, o')).map (·.1) = L.map (·.1) := by
    rw [List.map_set]
    refine List.ext_getElem? fun j => ?_
    by_cases q : i = j
    · subst q
      have hi : i < L.length := (List.getElem?_eq_some_iff.mp e).1
      rw [List.getElem?_set_self (by rw [List.length_map]; exact hi), List.getElem?_map, e]
      rfl
    · rw [List.getElem?_set_ne q]
  have nd' : ((L.set i (p, o')).map (·.1)).Nodup := by rw [hm]; exact x.nd
  have hi : i < L.length := (List.getElem?_eq_some_iff.mp e).1
  have key : ∀ j y, (L.set i (p, o'))[j]? = some y → (j = i ∧ y = (p, o')) ∨ (j ≠ i ∧ L[j]? = some y ∧ y.1 ≠ p) := fun j y h => by
    by_cases q : i = j
    · subst q
      rw [List.getElem?_set_self hi] at h
      exact .inl ⟨rfl, (Option.some.inj h).symm⟩
    · rw [List.getElem?_set_ne q] at h
      refine .inr ⟨Ne.symm q, h, fun r => q ?_⟩
      have h1 : (L.map (·.1))[i]? = some p := by rw [List.getElem?_map, e]; rfl
      have h2 : (L.map (·.1))[j]? = some p := by rw [List.getElem?_map, h, ← r]; rfl
      obtain ⟨w1, e1⟩ := List.getElem?_eq_some_iff.mp h1
      obtain ⟨w2, e2⟩ := List.getElem?_eq_some_iff.mp h2
      exact (List.getElem?_inj w1 x.nd).mp (h1.trans h2.symm)
  refine ⟨fun y hy => ?_, fun y hy => ?_, nd'⟩
  · obtain ⟨j, hj⟩ := List.getElem?_of_mem hy
    rcases key j y hj with ⟨_, rfl⟩ | ⟨_, h, n⟩
    · exact upd_same
    · rw [upd_ne n]; exact x.own y (List.mem_of_getElem? h)
  · obtain ⟨j, hj⟩ := List.getElem?_of_mem hy
    rcases key j y hj with ⟨_, rfl⟩ | ⟨_, h, n⟩
    · exact x.far i e
    · exact x.out y (List.mem_of_getElem? h)
theorem Sep.more (x : Sep F H L) (s : Same H H') (h1 : ∀ y ∈ L2, H' y.1 = some y.2) (h2 : ∀ y ∈ L2, H y.1 = none) (h3 : ∀ y ∈ L2, y.1 ∉ F) (h4 : (L2.map (·.1)).Nodup) : Sep F H' (L2 ++ L) := by
  refine ⟨fun y hy => ?_, fun y hy => ?_, ?_⟩
  · rcases List.mem_append.mp hy with h | h
    · exact h1 y h
    · exact s _ _ (x.own y h)
  · rcases List.mem_append.mp hy with h | h
    · exact h3 y h
    · exact x.out y h
  · rw [List.map_append]
    refine List.nodup_append.mpr ⟨h4, x.nd, fun a ha b hb q => ?_⟩
    subst q
    obtain ⟨y, hy, rfl⟩ := List.mem_map.mp ha
    obtain ⟨z, hz, e⟩ := List.mem_map.mp hb
    have := h2 y hy
    rw [← e, x.own z hz] at this
    cases this
theorem Sep.add (x : Sep F H L) (s : Same H H') (hn : H p = none) (hf : p ∉ F) (e : H' p = some o) : Sep F H' ((p, o) :: L) :=
  x.more (L2 := [(p, o)]) s (by simp [e]) (by simp [hn]) (by simp [hf]) (by simp)
theorem Sep.new (x : Sep F H L) (hn : H p = none) (hf : p ∉ F) : Sep F (upd H p o) ((p, o) :: L) := x.add (same_new hn) hn hf upd_same
theorem Sep.nil : Sep F H [] := ⟨by simp, by simp, List.nodup_nil⟩
theorem Sep.pick (x : Sep F H L) (is : List Nat) (hd : is.Nodup) : Sep F H (is.filterMap (L[·]?)) := by
  have hm : ∀ y ∈ is.filterMap (L[·]?), y ∈ L := fun y hy => by
    obtain ⟨i, _, e⟩ := List.mem_filterMap.mp hy
    exact List.mem_of_getElem? e
  refine ⟨fun y hy => x.own y (hm y hy), fun y hy => x.out y (hm y hy), ?_⟩
  induction is with
  | nil => exact List.nodup_nil
  | cons i is ih =>
    have hd := List.nodup_cons.mp hd
    have z := ih hd.2 fun y hy => hm y (by
      obtain ⟨j, hj, e⟩ := List.mem_filterMap.mp hy
      exact List.mem_filterMap.mpr ⟨j, List.mem_cons_of_mem _ hj, e⟩)
    rw [List.filterMap_cons]
    cases e : L[i]? with
    | none => exact z
    | some y =>
      show ((y :: is.filterMap (L[·]?)).map (·.1)).Nodup
      rw [List.map_cons]
      refine List.nodup_cons.mpr ⟨fun q => ?_, z⟩
      obtain ⟨w, hw, ew⟩ := List.mem_map.mp q
      obtain ⟨j, hj, e2⟩ := List.mem_filterMap.mp hw
      have h1 : (L.map (·.1))[i]? = some y.1 := by rw [List.getElem?_map, e]; rfl
      have h2 : (L.map (·.1))[j]? = some y.1 := by rw [List.getElem?_map, e2, ← ew]; rfl
      obtain ⟨w1, e1⟩ := List.getElem?_eq_some_iff.mp h1
      obtain ⟨w2, e2⟩ := List.getElem?_eq_some_iff.mp h2
      have : i = j := (List.getElem?_inj w1 x.nd).mp (h1.trans h2.symm)
      subst this
      exact hd.1 hj
end sep
theorem SpAt.oth {C : Ex} {H : Hp} {s a b p : Addr} {o : HO} {S : SpS} (x : SpAt C H s a b S) (h : p ∉ spF s a b) : SpAt C (upd H p o) s a b S := by
  obtain ⟨⟨dx, i⟩, h1, h2, ne⟩ := x
  simp only [spF, List.mem_cons, List.not_mem_nil, or_false, not_or] at h
  exact ⟨⟨dx, upd_oth i (Ne.symm h.1)⟩, upd_oth h1 (Ne.symm h.2.1), upd_oth h2 (Ne.symm h.2.2), ne⟩
def isPd (ns : List Int) (hs : List Bool) (i : Nat) : Bool := decide (ns.getD i 0 = 0) && hs.getD i false
def pendL (ns : List Int) (hs : List Bool) : List Nat := (List.range ns.length).filter (isPd ns hs)
def sp_Space_free (K : PySem.W.Frag) (C : Ex) : Sp := S1 fun x H Q _ => ∃ s a b S, x = .ref s ∧ SpAt C H s a b S ∧ Q (.int ((freeL S.nums S.held).length : Nat)) H
def t_Space_free (K : PySem.W.Frag) (C : Ex) (E : XK) : TS :=
  tRet (uFld C.Space "spare" (tVar 0))
theorem pure_Space_free {K : PySem.W.Frag} {C : Ex} {vs : List V} {H : Hp} {Q : VK} {E : XK} (F : Fa K C) (h : sp_Space_free K C vs H Q E) : t_Space_free K C E { nx := fun _ H' => Q .non H', rt := Q } (start ["self"] vs) H := by
  obtain ⟨x, rfl, s, a, b, S, rfl, hS, k⟩ := h
  obtain ⟨dx, i⟩ := hS.ins
  unfold spO at i
  unfold t_Space_free
  walk_at "run1"
  exact k
def sp_Space_pending (K : PySem.W.Frag) (C : Ex) : Sp := S1 fun x H Q _ => ∃ s a b S, x = .ref s ∧ SpAt C H s a b S ∧ SpOk S ∧ ∀ H', Same H H' → Q (.int ((pendL S.nums S.held).length : Nat)) H'
def t_Space_pending (K : PySem.W.Frag) (C : Ex) (E : XK) : TS :=
  tRet (tCB (uLen K) (tCons (tLc (iZip K (tCons (uFld C.Space "numbers" (tVar 0)) (tCons (uFld C.Space "held" (tVar 0)) (tNil)))) (gTup K 2 (gCons (gName 1) (gCons (gName 2) (gNil)))) (tAnd (tTest (tOp (uEq K) (tVar 1) (tC (.int 0)))) (uTru K (tVar 2))) (tVar 1) [1, 2]) (tNil)))
theorem pure_Space_pending {K : PySem.W.Frag} {C : Ex} {vs : List V} {H : Hp} {Q : VK} {E : XK} (F : Fa K C) (h : sp_Space_pending K C vs H Q E) : t_Space_pending K C E { nx := fun _ H' => Q .non H', rt := Q } (start ["self", "many", "held"] vs) H := by
  obtain ⟨x, rfl, s, a, b, S, rfl, hS, ok, k⟩ := h
  obtain ⟨⟨dx, i⟩, ha, hb, nab⟩ := hS
  have len := ok.len
  have sz := ok.sz
  unfold spO at i
  unfold t_Space_pending
  walk_at "run1"
  refine l_zip (xs := S.nums.map V.int) (ys := S.held.map V.bl) (by rw [List.length_map, List.length_map, len]) (fun D i H1 => Same H H1 ∧ ∃ acc, H1 D = some (.lst acc) ∧ acc.length = ((List.range i).filter (isPd S.nums S.held)).length) (fun D hD => ⟨same_new hD, [], upd_same, rfl⟩) (fun D i H1 _ p => ⟨SqL.of (p.1 _ _ ha), SqL.of (p.1 _ _ hb)⟩) ?_ ?_
  · rintro D i x y H1 T hD hx hy ⟨s1, acc, h1, la⟩ hT
    obtain ⟨z, hz1, rfl⟩ := at_int hx
    obtain ⟨w, hw1, rfl⟩ := at_bl hy
    have hi : i < S.nums.length := (List.getElem?_eq_some_iff.mp hz1).1
    have ef : isPd S.nums S.held i = (decide (z = 0) && w) := by
      unfold isPd
      rw [List.getD_eq_getElem?_getD, List.getD_eq_getElem?_getD, hz1, hw1]
      rfl
    have la' : acc.length ≤ i := by rw [la]; exact Nat.le_trans (List.length_filter_le _ _) (by rw [List.length_range]; exact Nat.le_refl _)
    have s2 := same_updN (o := .tup [.int z, .bl w]) s1 hT
    have h2 : upd H1 T (.tup [.int z, .bl w]) D = some (.lst acc) := upd_old h1 hT
    have eT : upd H1 T (.tup [.int z, .bl w]) T = some (.tup [.int z, .bl w]) := upd_same
    generalize upd H1 T _ = H2 at *
    have skip : isPd S.nums S.held i = false → Same H H2 ∧ ∃ acc, H2 D = some (.lst acc) ∧ acc.length = ((List.range (i + 1)).filter (isPd S.nums S.held)).length := fun q => by
      refine ⟨s2, acc, h2, ?_⟩
      rw [List.range_succ, List.filter_append, List.length_append, la]
      simp [q]
    cases w with
    | false =>
      walk_at "run1"
      refine ⟨rfl, ?_⟩
      walk_at "run1"
      · exact skip (by rw [ef]; simp)
      · walk_at "run1"
        exact skip (by rw [ef]; simp)
    | true =>
      walk_at "run1"
      refine ⟨rfl, ?_⟩
      walk_at "run1"
      · rename_i q
        refine ⟨acc, h2, lt_line (by omega), same_upd s2 hD, _, upd_same, ?_⟩
        rw [List.range_succ, List.filter_append, List.length_append, List.length_append, la]
        simp [ef, q]
      · walk_at "run1"
        rename_i q
        exact skip (by rw [ef, decide_eq_false q]; rfl)
  · rintro D H1 hD ⟨s1, acc, h1, la⟩
    walk_at "run1"
    rw [List.length_map] at la
    rw [la]
    exact k _ s1
theorem posL_len (ns : List Int) : (posL ns).length = ns.length := by unfold posL; rw [List.length_map]
theorem SpOk.zero {ns : List Int} {hs : List Bool} (h1 : ns.length = hs.length) (h2 : ∀ z ∈ ns, 0 ≤ z) (h3 : ns.length ≤ 100000) : SpOk ⟨ns, hs, 0⟩ := ⟨h1, h2, Int.le_refl 0, fun i hi => by have hi : (i : Int) < 0 := hi; omega, h3⟩
def sp_Space_settle (K : PySem.W.Frag) (C : Ex) : Sp := S1 fun x H Q _ => ∃ s a b S, x = .ref s ∧ SpAt C H s a b S ∧ SpOk S ∧ ∀ H' b', SpAt C H' s a b' ⟨S.nums, posL S.nums, 0⟩ → Stp (spF s a b) H (spF s a b') H' → Q .non H'
def t_Space_settle (K : PySem.W.Frag) (C : Ex) (E : XK) : TS :=
  tSeq (uSetF C.Space "held" (tVar 0) (tLc (iList K (uFld C.Space "numbers" (tVar 0))) (gName 1) (tYes) (tOp (uGt) (tVar 1) (tC (.int 0))) [1]))
  (tDrop (uMeth C.Space "count_spare" (sp_Space_count_spare K C) (WB E) (tVar 0) (tNil)))
theorem pure_Space_settle {K : PySem.W.Frag} {C : Ex} {vs : List V} {H : Hp} {Q : VK} {E : XK} (F : Fa K C) (h : sp_Space_settle K C vs H Q E) : t_Space_settle K C E { nx := fun _ H' => Q .non H', rt := Q } (start ["self", "many"] vs) H := by
  obtain ⟨x, rfl, s, a, b, S, rfl, hS, ok, k⟩ := h
  have hS0 := hS
  obtain ⟨⟨dx, i⟩, ha, hb, nab⟩ := hS
  have len := ok.len
  have sz := ok.sz
  unfold spO at i
  have nsa : s ≠ a := (ne_of ha i fun z => nomatch z).symm
  unfold t_Space_settle
  walk_at "run1"
  refine l_pos ha sz (by show 1 < 2; decide) fun b' H1 hb' s1 e1 => ?_
  have i1 := s1 _ _ i
  have ha1 := s1 _ _ ha
  have nbs : b' ≠ s := (ne_of_none i hb').symm
  have nab' : a ≠ b' := ne_of_none ha hb'
  walk_at "run1"
  refine w_S1 ⟨s, a, b', dx, S.nums, posL S.nums, (freeL S.nums S.held).length, S.low, rfl, ?_, upd_oth ha1 nsa.symm, upd_oth e1 nbs, (posL_len _).symm, sz, fun H4 i4 f4 => ?_⟩
  · rw [upd_same]
    rfl
  · walk_at "run1"
    have f5 : ∀ c o, H1 c = some o → c ≠ s → H4 c = some o := fun c o h n => f4 c o (upd_oth h n) n
    refine k H4 b' ⟨⟨dx, i4⟩, f5 _ _ ha1 nsa.symm, f5 _ _ e1 nbs, nab'⟩ ⟨fun c o h n => ?_, fun c hc => ?_⟩
    · simp only [spF, List.mem_cons, List.not_mem_nil, or_false, not_or] at n
      exact f5 c o (s1 _ _ h) n.1
    · simp only [spF, List.mem_cons, List.not_mem_nil, or_false] at hc ⊢
      rcases hc with rfl | rfl | rfl
      · exact .inl (.inl rfl)
      · exact .inl (.inr (.inl rfl))
      · exact .inr hb'
def sp_Space_saved (K : PySem.W.Frag) (C : Ex) : Sp := S1 fun x H Q _ => ∃ s a b S, x = .ref s ∧ SpAt C H s a b S ∧ SpOk S ∧ ∀ H' t ta tb, Same H H' → H t = none → H ta = none → H tb = none → t ≠ ta → t ≠ tb → ta ≠ tb → H' t = some (.tup [.ref ta, .ref tb]) → H' ta = some (.lst (S.nums.map V.int)) → H' tb = some (.lst (S.held.map V.bl)) → Q (.ref t) H'
def t_Space_saved (K : PySem.W.Frag) (C : Ex) (E : XK) : TS :=
  tRet (tTup (tCons (tCB (uList K) (tCons (uFld C.Space "numbers" (tVar 0)) (tNil))) (tCons (tCB (uList K) (tCons (uFld C.Space "held" (tVar 0)) (tNil))) (tNil))))
theorem pure_Space_saved {K : PySem.W.Frag} {C : Ex} {vs : List V} {H : Hp} {Q : VK} {E : XK} (F : Fa K C) (h : sp_Space_saved K C vs H Q E) : t_Space_saved K C E { nx := fun _ H' => Q .non H', rt := Q } (start ["self"] vs) H := by
  obtain ⟨x, rfl, s, a, b, S, rfl, hS, ok, k⟩ := h
  obtain ⟨⟨dx, i⟩, ha, hb, nab⟩ := hS
  have len := ok.len
  have sz := ok.sz
  unfold spO at i
  unfold t_Space_saved
  walk_at "run1"
  refine w_tlist (SqL.of ha) fun ta hta => ?_
  have s1 := same_new (o := .lst (S.nums.map V.int)) hta
  have e1 : upd H ta (.lst (S.nums.map V.int)) ta = some (.lst (S.nums.map V.int)) := upd_same
  generalize upd H ta _ = H1 at *
  have i1 := s1 _ _ i
  have hb1 := s1 _ _ hb
  walk_at "run1"
  refine w_tlist (SqL.of hb1) fun tb htb => ?_
  have s2 := same_updN (o := .lst (S.held.map V.bl)) s1 htb
  have e2 : upd H1 tb (.lst (S.held.map V.bl)) tb = some (.lst (S.held.map V.bl)) := upd_same
  have e3 : upd H1 tb (.lst (S.held.map V.bl)) ta = some (.lst (S.nums.map V.int)) := upd_old e1 htb
  have nab2 : ta ≠ tb := ne_of_none e1 htb
  have htb0 := s1.free htb
  generalize upd H1 tb _ = H2 at *
  walk_at "run1"
  rename_i t ht
  exact k _ t ta tb (same_updN s2 ht) (s2.free ht) hta htb0 (ne_of_none e3 ht).symm (ne_of_none e2 ht).symm nab2 upd_same (upd_old e3 ht) (upd_old e2 ht)
def sp_Space_restore (K : PySem.W.Frag) (C : Ex) : Sp := S2 fun x u H Q _ => ∃ s a b S t ta tb ns hs, x = .ref s ∧ u = .ref t ∧ SpAt C H s a b S ∧ H t = some (.tup [.ref ta, .ref tb]) ∧ H ta = some (.lst (ns.map V.int)) ∧ H tb = some (.lst (hs.map V.bl)) ∧ ns.length = hs.length ∧ ns.length = S.nums.length ∧ ns.length ≤ 100000 ∧
  ∀ H' a' b', SpAt C H' s a' b' ⟨ns, hs, 0⟩ → Stp (spF s a b) H (spF s a' b') H' → Q .non H'
def t_Space_restore (K : PySem.W.Frag) (C : Ex) (E : XK) : TS :=
  tSeq (uSetF C.Space "numbers" (tVar 0) (tCB (uList K) (tCons (tOp (uIx K) (tVar 1) (tC (.int 0))) (tNil))))
  (tSeq (uSetF C.Space "held" (tVar 0) (tCB (uList K) (tCons (tOp (uIx K) (tVar 1) (tC (.int 1))) (tNil))))
  (tDrop (uMeth C.Space "count_spare" (sp_Space_count_spare K C) (WB E) (tVar 0) (tNil))))
theorem pure_Space_restore {K : PySem.W.Frag} {C : Ex} {vs : List V} {H : Hp} {Q : VK} {E : XK} (F : Fa K C) (h : sp_Space_restore K C vs H Q E) : t_Space_restore K C E { nx := fun _ H' => Q .non H', rt := Q } (start ["self", "saved"] vs) H := by
  obtain ⟨x, u, rfl, s, a, b, S, t, ta, tb, ns, hs, rfl, rfl, hS, ht, hta, htb, hl, hl2, sz, k⟩ := h
  obtain ⟨⟨dx, i⟩, ha, hb, nab⟩ := hS
  unfold spO at i
  have nst : t ≠ s := ne_of ht i fun z => nomatch z
  have nsta : ta ≠ s := ne_of hta i fun z => nomatch z
  have nstb : tb ≠ s := ne_of htb i fun z => nomatch z
  unfold t_Space_restore
  walk_at "run1"
  refine w_tlist (SqL.of hta) fun a' ha' => ?_
  have s1 := same_new (o := .lst (ns.map V.int)) ha'
  have e1 : upd H a' (.lst (ns.map V.int)) a' = some (.lst (ns.map V.int)) := upd_same
  have nas : a' ≠ s := (ne_of_none i ha').symm
  generalize upd H a' _ = H1 at *
  have i1 := s1 _ _ i
  walk_at "run1"
  have ht2 := upd_oth (o := .ins C.Space dx [("blocks", .int (S.nums.length : Nat)), ("numbers", .ref a'), ("held", .ref b), ("spare", .int ((freeL S.nums S.held).length : Nat)), ("low", .int S.low)]) (s1 _ _ ht) nst
  have htb2 := upd_oth (o := .ins C.Space dx [("blocks", .int (S.nums.length : Nat)), ("numbers", .ref a'), ("held", .ref b), ("spare", .int ((freeL S.nums S.held).length : Nat)), ("low", .int S.low)]) (s1 _ _ htb) nstb
  have e2 := upd_oth (o := .ins C.Space dx [("blocks", .int (S.nums.length : Nat)), ("numbers", .ref a'), ("held", .ref b), ("spare", .int ((freeL S.nums S.held).length : Nat)), ("low", .int S.low)]) e1 nas
  have i2 : upd H1 s (.ins C.Space dx [("blocks", .int (S.nums.length : Nat)), ("numbers", .ref a'), ("held", .ref b), ("spare", .int ((freeL S.nums S.held).length : Nat)), ("low", .int S.low)]) s = some (.ins C.Space dx [("blocks", .int (S.nums.length : Nat)), ("numbers", .ref a'), ("held", .ref b), ("spare", .int ((freeL S.nums S.held).length : Nat)), ("low", .int S.low)]) := upd_same
  have f2 : ∀ c o, H c = some o → c ≠ s → upd H1 s (.ins C.Space dx [("blocks", .int (S.nums.length : Nat)), ("numbers", .ref a'), ("held", .ref b), ("spare", .int ((freeL S.nums S.held).length : Nat)), ("low", .int S.low)]) c = some o := fun c o h n => upd_oth (s1 _ _ h) n
  show uIx _ _ _ (upd H1 s (.ins C.Space dx [("blocks", .int (S.nums.length : Nat)), ("numbers", .ref a'), ("held", .ref b), ("spare", .int ((freeL S.nums S.held).length : Nat)), ("low", .int S.low)])) _
  generalize upd H1 s _ = H2 at *
  walk_at "run1"
  refine w_tlist (SqL.of htb2) fun b' hb' => ?_
  have hb0 : H b' = none := by
    cases e : H b' with
    | none => rfl
    | some o =>
      by_cases q : b' = s
      · rw [q, i2] at hb'; cases hb'
      · rw [f2 b' o e q] at hb'; cases hb'
  have s3 := same_new (o := .lst (hs.map V.bl)) hb'
  have e3 : upd H2 b' (.lst (hs.map V.bl)) b' = some (.lst (hs.map V.bl)) := upd_same
  have nbs : b' ≠ s := (ne_of_none i2 hb').symm
  have nab' : a' ≠ b' := ne_of_none e2 hb'
  generalize upd H2 b' _ = H3 at *
  have i3 := s3 _ _ i2
  walk_at "run1"
  refine w_S1 ⟨s, a', b', dx, ns, hs, (freeL S.nums S.held).length, S.low, rfl, ?_, upd_oth (s3 _ _ e2) nas, upd_oth e3 nbs, hl, sz, fun H4 i4 f4 => ?_⟩
  · rw [upd_same]
    unfold spO
    rw [hl2]
    rfl
  · walk_at "run1"
    have f5 : ∀ c o, H3 c = some o → c ≠ s → H4 c = some o := fun c o h n => f4 c o (upd_oth h n) n
    refine k H4 a' b' ⟨⟨dx, i4⟩, f5 _ _ (s3 _ _ e2) nas, f5 _ _ e3 nbs, nab'⟩ ⟨fun c o h n => ?_, fun c hc => ?_⟩
    · simp only [spF, List.mem_cons, List.not_mem_nil, or_false, not_or] at n
      exact f5 c o (s3 _ _ (f2 _ _ h n.1)) n.1
    · simp only [spF, List.mem_cons, List.not_mem_nil, or_false] at hc ⊢
      rcases hc with rfl | rfl | rfl
      · exact .inl (.inl rfl)
      · exact .inr ha'
      · exact .inr hb0
inductive Rs where
  | non
  | int (z : Int)
  | bl (b : Bool)
  | ref (t : Str)
  deriving DecidableEq
inductive Act where
  | take | share | drop | uses | held | new | free
  deriving DecidableEq
def actS : Act → Str
  | .take => "take"
  | .share => "share"
  | .drop => "drop"
  | .uses => "uses"
  | .held => "held"
  | .new => "new"
  | .free => "free"
def RepRs (H : Hp) (v : V) : Rs → Prop
  | .non => v = .non
  | .int z => v = .int z
  | .bl b => v = .bl b
  | .ref t => ∃ p, v = .ref p ∧ H p = some (.lst [.str "refused", .str t])
theorem RepRs.same {H H' : Hp} {v : V} : ∀ {r : Rs}, RepRs H v r → Same H H' → RepRs H' v r
  | .non, h, _ => h
  | .int _, h, _ => h
  | .bl _, h, _ => h
  | .ref _, ⟨p, e, h⟩, s => ⟨p, e, s _ _ h⟩
def dueI (ns : List Int) (hs : List Bool) (act : Act) (b : Int) (k : Nat) : Rs :=
  match act with
    | .uses => .int (ns.getD k 0)
    | .held => .bl (hs.getD k false)
    | .new => .bl (decide (0 < ns.getD k 0) && !hs.getD k false)
    | .free => .bl (isFr ns hs k)
    | _ => if b < 5 ∨ ns.getD k 0 = 0 then .ref "invalid" else (if act = .drop then .int (ns.getD k 0 - 1) else .non)
def dueR (ns : List Int) (hs : List Bool) (act : Act) (b : Int) : Rs :=
  if act = .take then (if ((freeL ns hs).length : Int) ≤ b then .ref "room" else .int ((freeL ns hs).headD 0 : Nat))
  else if b < 0 ∨ (ns.length : Int) ≤ b then .ref "invalid"
  else dueI ns hs act b b.toNat
/-- what an act leaves of the numbers -/
def stepN (ns : List Int) (hs : List Bool) (act : Act) (b : Int) : List Int :=
  match act with
  | .take => if ((freeL ns hs).length : Int) ≤ b then ns else ns.set ((freeL ns hs).headD 0) 1
  | .share => if b < 0 ∨ (ns.length : Int) ≤ b ∨ b < 5 ∨ ns.getD b.toNat 0 = 0 then ns else ns.set b.toNat (ns.getD b.toNat 0 + 1)
  | .drop => if b < 0 ∨ (ns.length : Int) ≤ b ∨ b < 5 ∨ ns.getD b.toNat 0 = 0 then ns else ns.set b.toNat (ns.getD b.toNat 0 - 1)
  | _ => ns
def spx__law_kind (K : PySem.W.Frag) (C : Ex) (a : Addr) (cls : Value) : Sp := S1 fun x H Q _ => x = .ref a ∧ ((cls = .ref C.NoSpace ∧ ∀ l, H l = none → Q (.ref l) (upd H l (.lst [.str "refused", .str "room"]))) ∨ (cls = .ref C.NotValid ∧ ∀ l, H l = none → Q (.ref l) (upd H l (.lst [.str "refused", .str "invalid"]))))
def tx__law_kind (K : PySem.W.Frag) (C : Ex) (a : Addr) (cls : Value) (E : XK) : TS :=
  tSeq (tIfS (uTru K (tCB (uIsE K a cls none) (tCons (tVar 0) (tCons (tC (.ref C.NoSpace)) (tNil))))) (tRet (tLst (tCons (tC (.str "refused")) (tCons (tC (.str "room")) (tNil))))) (tNext))
  (tSeq (tIfS (uTru K (tCB (uIsE K a cls none) (tCons (tVar 0) (tCons (tC (.ref C.NotValid)) (tNil))))) (tRet (tLst (tCons (tC (.str "refused")) (tCons (tC (.str "invalid")) (tNil))))) (tNext))
  (tRet (tLst (tCons (tC (.str "refused")) (tCons (tC (.str "other")) (tNil))))))
theorem purex__law_kind {K : PySem.W.Frag} {C : Ex} {a : Addr} {cls : Value} {vs : List V} {H : Hp} {Q : VK} {E : XK} (F : Fa K C) (h : spx__law_kind K C a cls vs H Q E) : tx__law_kind K C a cls E { nx := fun _ H' => Q .non H', rt := Q } (start ["_law_e"] vs) H := by
  obtain ⟨x, rfl, rfl, ⟨rfl, k⟩ | ⟨rfl, k⟩⟩ := h
  · unfold tx__law_kind
    walk_at "run1"
    rename_i l hl
    exact k l hl
  · unfold tx__law_kind
    walk_at "run1"
    rename_i l hl
    exact k l hl
def sp__law_do (K : PySem.W.Frag) (C : Ex) : Sp := S3 fun x u c H Q _ => ∃ (s a b : Addr) (S : SpS) (act : Act) (z : Int), x = .ref s ∧ u = .str (actS act) ∧ c = .int z ∧ SpAt C H s a b S ∧ SpOk S ∧ (act = .take → 0 ≤ z) ∧
  ∀ H' v S', RepRs H' v (dueR S.nums S.held act z) → SpAt C H' s a b S' → SpOk S' → S'.nums = stepN S.nums S.held act z → S'.held = S.held → Stp (spF s a b) H (spF s a b) H' → Q v H'
theorem btw_no {n : Nat} {z : Int} (h : btw 0 ((n : Int) - 1) (.int z) = false) : z < 0 ∨ (n : Int) ≤ z := by
  rcases (show (z < 0 ∨ (n : Int) ≤ z) ∨ (0 ≤ z ∧ z ≤ (n : Int) - 1) by omega) with q | q
  · exact q
  · rw [btw_int q.1 q.2] at h; cases h
def t__law_do (K : PySem.W.Frag) (C : Ex) (E : XK) : TS :=
  uTryAs K (.ref C.LaminaError) 3 (fun W => tSeq (tIfS (tTest (tOp (uEq K) (tVar 1) (tC (.str "take")))) (tRet (uMeth C.Space "take" (sp_Space_take K C) W (tVar 0) (tCons (tVar 2) (tNil)))) (tNext))
  (tSeq (tIfS (tTest (tOp (uEq K) (tVar 1) (tC (.str "share")))) (tRet (uMeth C.Space "share" (sp_Space_share K C) W (tVar 0) (tCons (tVar 2) (tNil)))) (tNext))
  (tSeq (tIfS (tTest (tOp (uEq K) (tVar 1) (tC (.str "drop")))) (tRet (uMeth C.Space "drop" (sp_Space_drop K C) W (tVar 0) (tCons (tVar 2) (tNil)))) (tNext))
  (tSeq (tIfS (tTest (tOp (uEq K) (tVar 1) (tC (.str "uses")))) (tRet (uMeth C.Space "uses" (sp_Space_uses K C) W (tVar 0) (tCons (tVar 2) (tNil)))) (tNext))
  (tSeq (tIfS (tTest (tOp (uEq K) (tVar 1) (tC (.str "held")))) (tRet (uMeth C.Space "is_held" (sp_Space_is_held K C) W (tVar 0) (tCons (tVar 2) (tNil)))) (tNext))
  (tSeq (tIfS (tTest (tOp (uEq K) (tVar 1) (tC (.str "new")))) (tRet (uMeth C.Space "is_new" (sp_Space_is_new K C) W (tVar 0) (tCons (tVar 2) (tNil)))) (tNext))
  (tRet (uMeth C.Space "is_free" (sp_Space_is_free K C) W (tVar 0) (tCons (tVar 2) (tNil)))))))))) (fun a cls d => tRet (uCallX a cls d (spx__law_kind K C) (tCons (tVar 3) (tNil)))) (WB E)
theorem pure__law_do {K : PySem.W.Frag} {C : Ex} {vs : List V} {H : Hp} {Q : VK} {E : XK} (F : Fa K C) (h : sp__law_do K C vs H Q E) : t__law_do K C E { nx := fun _ H' => Q .non H', rt := Q } (start ["_law_space", "_law_act", "_law_block", "_law_e"] vs) H := by
  obtain ⟨x, u, c, rfl, s, a, b, S, act, z, rfl, rfl, rfl, hS, ok, hz, k⟩ := h
  obtain ⟨dx, i⟩ := hS.ins
  have i0 := i
  unfold spO at i
  have len := ok.len
  unfold t__law_do
  have bad : ∀ l, H l = none → dueR S.nums S.held act z = .ref "invalid" → stepN S.nums S.held act z = S.nums → Q (.ref l) (upd H l (.lst [.str "refused", .str "invalid"])) := fun l hl e1 e2 =>
    k _ (.ref l) S (by rw [e1]; exact ⟨l, rfl, upd_same⟩) (hS.same (same_new hl)) ok e2.symm rfl (.same (same_new hl))
  have oob : act ≠ .take → btw 0 ((S.nums.length : Int) - 1) (.int z) = false → dueR S.nums S.held act z = .ref "invalid" ∧ stepN S.nums S.held act z = S.nums := fun n q => by
    have q := btw_no q
    refine ⟨?_, ?_⟩
    · unfold dueR
      rw [if_neg n, if_pos q]
    · unfold stepN
      cases act with
      | take => exact absurd rfl n
      | share => exact if_pos (by omega)
      | drop => exact if_pos (by omega)
      | _ => rfl
  have inb : act ≠ .take → ∀ n : Nat, z = (n : Nat) → n < S.nums.length → dueR S.nums S.held act z = dueI S.nums S.held act z n := fun nt n e hk => by
    subst e
    unfold dueR
    rw [if_neg nt, if_neg (by omega), Int.toNat_natCast]
  have badc : badB S (.int z) → (act = .share ∨ act = .drop) → dueR S.nums S.held act z = .ref "invalid" ∧ stepN S.nums S.held act z = S.nums := fun q ha => by
    have nt : act ≠ .take := by rcases ha with rfl | rfl <;> decide
    by_cases q2 : btw 0 ((S.nums.length : Int) - 1) (.int z) = false
    · exact oob nt q2
    rcases q with q | ⟨y, ey, q⟩
    · exact absurd q q2
    · cases ey
      have hb : ¬ (z < 0 ∨ (S.nums.length : Int) ≤ z) := fun h => q2 (by
        rcases h with h | h
        · rw [btw_i, decide_eq_false (by omega)]; rfl
        · rw [btw_i, decide_eq_false (p := z ≤ _) (by omega), Bool.and_false])
      rcases ha with rfl | rfl
      · refine ⟨?_, if_pos (by omega)⟩
        rw [inb nt z.toNat (by omega) (by omega)]
        exact if_pos q
      · refine ⟨?_, if_pos (by omega)⟩
        rw [inb nt z.toNat (by omega) (by omega)]
        exact if_pos q
  cases act with
  | take =>
    have hz := hz rfl
    have due : dueR S.nums S.held .take z = if ((freeL S.nums S.held).length : Int) ≤ z then .ref "room" else .int ((freeL S.nums S.held).headD 0 : Nat) := rfl
    show uTryAs _ _ _ _ _ _ _ [some (.ref s), some (.str "take"), some (.int z), none] H
    walk_at "run1"
    refine w_S2 ⟨s, a, b, S, z, rfl, rfl, hz, hS, ok, fun q => ?_, fun n t e q H' hS' st' => ?_⟩
    · walk_at "run1"
      refine w_S1 ⟨rfl, .inl ⟨rfl, fun l hl => ?_⟩⟩
      refine k _ (.ref l) S ?_ (hS.same (same_new hl)) ok ?_ rfl (.same (same_new hl))
      · rw [due, if_pos q]
        exact ⟨l, rfl, upd_same⟩
      · exact (if_pos q).symm
    · walk_at "run1"
      refine k H' _ (takeS S n) ?_ hS' (takeS_ok ok e) ?_ rfl st'
      · rw [due, if_neg (by omega), e]
        rfl
      · unfold stepN
        dsimp only
        rw [if_neg (by omega), e]
        rfl
  | share =>
    show uTryAs _ _ _ _ _ _ _ [some (.ref s), some (.str "share"), some (.int z), none] H
    walk_at "run1"
    refine w_S2 ⟨s, a, b, S, rfl, trivial, hS, ok, fun q => ?_, fun n e n5 hn hn0 H' hS' st' => ?_⟩
    · walk_at "run1"
      refine w_S1 ⟨rfl, .inr ⟨rfl, fun l hl => ?_⟩⟩
      obtain ⟨e1, e2⟩ := badc q (.inl rfl)
      exact bad l hl e1 e2
    · cases e
      walk_at "run1"
      refine k H' _ (shareS S n) ?_ hS' (shareS_ok ok hn hn0) ?_ rfl st'
      · rw [inb (by decide) n rfl hn]
        unfold dueI
        dsimp only
        rw [if_neg (by omega)]
        rfl
      · unfold stepN
        dsimp only
        rw [if_neg (by rw [Int.toNat_natCast]; omega), Int.toNat_natCast]
        rfl
  | drop =>
    show uTryAs _ _ _ _ _ _ _ [some (.ref s), some (.str "drop"), some (.int z), none] H
    walk_at "run1"
    refine w_S2 ⟨s, a, b, S, rfl, trivial, hS, ok, fun q => ?_, fun n e n5 hn hn0 H' hS' st' => ?_⟩
    · walk_at "run1"
      refine w_S1 ⟨rfl, .inr ⟨rfl, fun l hl => ?_⟩⟩
      obtain ⟨e1, e2⟩ := badc q (.inr rfl)
      exact bad l hl e1 e2
    · cases e
      walk_at "run1"
      refine k H' _ (dropS S n) ?_ hS' (dropS_ok ok hn hn0) ?_ rfl st'
      · rw [inb (by decide) n rfl hn]
        unfold dueI
        dsimp only
        rw [if_neg (by omega)]
        rfl
      · unfold stepN
        dsimp only
        rw [if_neg (by rw [Int.toNat_natCast]; omega), Int.toNat_natCast]
        rfl
  | uses =>
    show uTryAs _ _ _ _ _ _ _ [some (.ref s), some (.str "uses"), some (.int z), none] H
    walk_at "run1"
    unfold sp_Space_uses rdB
    refine w_S2 ⟨s, a, b, S, rfl, trivial, hS.r, ok, fun q => ?_, fun n e hn => ?_⟩
    · walk_at "run1"
      refine w_S1 ⟨rfl, .inr ⟨rfl, fun l hl => ?_⟩⟩
      obtain ⟨e1, e2⟩ := oob (by decide) q
      exact bad l hl e1 e2
    · cases e
      exact k H _ S (by rw [inb (by decide) n rfl hn]; rfl) hS ok rfl rfl .refl
  | held =>
    show uTryAs _ _ _ _ _ _ _ [some (.ref s), some (.str "held"), some (.int z), none] H
    walk_at "run1"
    unfold sp_Space_is_held rdB
    refine w_S2 ⟨s, a, b, S, rfl, trivial, hS.r, ok, fun q => ?_, fun n e hn => ?_⟩
    · walk_at "run1"
      refine w_S1 ⟨rfl, .inr ⟨rfl, fun l hl => ?_⟩⟩
      obtain ⟨e1, e2⟩ := oob (by decide) q
      exact bad l hl e1 e2
    · cases e
      exact k H _ S (by rw [inb (by decide) n rfl hn]; rfl) hS ok rfl rfl .refl
  | new =>
    show uTryAs _ _ _ _ _ _ _ [some (.ref s), some (.str "new"), some (.int z), none] H
    walk_at "run1"
    unfold sp_Space_is_new rdB
    refine w_S2 ⟨s, a, b, S, rfl, trivial, hS.r, ok, fun q => ?_, fun n e hn => ?_⟩
    · walk_at "run1"
      refine w_S1 ⟨rfl, .inr ⟨rfl, fun l hl => ?_⟩⟩
      obtain ⟨e1, e2⟩ := oob (by decide) q
      exact bad l hl e1 e2
    · cases e
      exact k H _ S (by rw [inb (by decide) n rfl hn]; rfl) hS ok rfl rfl .refl
  | free =>
    show uTryAs _ _ _ _ _ _ _ [some (.ref s), some (.str "free"), some (.int z), none] H
    walk_at "run1"
    unfold sp_Space_is_free rdB
    refine w_S2 ⟨s, a, b, S, rfl, trivial, hS.r, ok, fun q => ?_, fun n e hn => ?_⟩
    · walk_at "run1"
      refine w_S1 ⟨rfl, .inr ⟨rfl, fun l hl => ?_⟩⟩
      obtain ⟨e1, e2⟩ := oob (by decide) q
      exact bad l hl e1 e2
    · cases e
      exact k H _ S (by rw [inb (by decide) n rfl hn]; rfl) hS ok rfl rfl .refl
abbrev natV (l : List Nat) : List V := l.map fun i => V.int (i : Nat)
def sp__law_free (K : PySem.W.Frag) (C : Ex) : Sp := S2 fun x u H Q _ => ∃ (p q : Addr) (ns : List Int) (hs : List Bool), x = .ref p ∧ u = .ref q ∧ H p = some (.lst (ns.map V.int)) ∧ H q = some (.lst (hs.map V.bl)) ∧ ns.length = hs.length ∧ ns.length ≤ 100000 ∧
  ∀ H' l, Same H H' → H l = none → H' l = some (.lst (natV (freeL ns hs))) → Q (.ref l) H'
def t__law_free (K : PySem.W.Frag) (C : Ex) (E : XK) : TS :=
  tRet (tLc (iRng1 (tCons (tCB (uLen K) (tCons (tVar 0) (tNil))) (tNil))) (gName 2) (tAnd (tTest (tOp (uEq K) (tOp (uIx K) (tVar 0) (tVar 2)) (tC (.int 0)))) (tNot (uTru K (tOp (uIx K) (tVar 1) (tVar 2))))) (tVar 2) [2])
theorem pure__law_free {K : PySem.W.Frag} {C : Ex} {vs : List V} {H : Hp} {Q : VK} {E : XK} (F : Fa K C) (h : sp__law_free K C vs H Q E) : t__law_free K C E { nx := fun _ H' => Q .non H', rt := Q } (start ["_law_numbers", "_law_held", "_law_k"] vs) H := by
  obtain ⟨x, u, rfl, p, q, ns, hs, rfl, rfl, hp, hq, hl, sz, k⟩ := h
  unfold t__law_free
  walk_at "run1"
  rw [List.length_map, Int.toNat_natCast]
  refine l_range (fun D i H1 => Same H H1 ∧ H1 D = some (.lst (natV ((List.range i).filter (isFr ns hs))))) (fun D hD => ⟨same_new hD, upd_same⟩) ?_ (fun D H1 hD p => k H1 D p.1 hD p.2)
  rintro D i H1 hD hi ⟨s1, e1⟩
  have hp1 := s1 _ _ hp
  have hq1 := s1 _ _ hq
  have hb := hs.getD i false
  have ei : (0 + (i : Int)).toNat = i := by omega
  have lf : ((List.range i).filter (isFr ns hs)).length ≤ i := Nat.le_trans (List.length_filter_le _ _) (by rw [List.length_range]; exact Nat.le_refl _)
  have skip : isFr ns hs i = false → Same H H1 ∧ H1 D = some (.lst (natV ((List.range (i + 1)).filter (isFr ns hs)))) := fun f => by
    refine ⟨s1, ?_⟩
    rw [List.range_succ, List.filter_append, e1]
    simp [f]
  walk_at "run1"
  refine ⟨rfl, ?_⟩
  walk_at "run1"
  · rename_i f
    rw [ei] at f
    refine ifBN (fun g => ?_) (fun g => ?_)
    · rw [ei] at g
      walk_at "run1"
      refine ⟨_, e1, by rw [List.length_map]; exact lt_line (by omega), same_upd s1 hD, ?_⟩
      rw [upd_same, List.range_succ, List.filter_append]
      unfold natV
      rw [List.map_append]
      have fi : isFr ns hs i = true := by unfold isFr; rw [decide_eq_true f, g]; rfl
      rw [show [i].filter (isFr ns hs) = [i] by simp [fi], Int.zero_add]
      rfl
    · rw [ei] at g
      walk_at "run1"
      exact skip (by unfold isFr; rw [g]; simp)
  · walk_at "run1"
    rename_i f
    rw [ei] at f
    exact skip (by unfold isFr; rw [decide_eq_false f]; rfl)
theorem dt_strs {K : PySem.W.Frag} {H : Hp} {p : Addr} {x y : Str} (e : H p = some (.lst [.str x, .str y])) : Dt K H (.ref p) [x, y] := Dt.list (SqL.of e) (DtAll.cons Dt.str (DtAll.cons Dt.str DtAll.nil))
def sp__law_same (K : PySem.W.Frag) (_ : Ex) : Sp := S2 fun x u H Q _ => ∃ r, RepRs H x r ∧ RepRs H u r ∧ Q (.bl true) H
def t__law_same (K : PySem.W.Frag) (C : Ex) (E : XK) : TS :=
  tSeq (tIfS (tTest (tOp (uIs) (tVar 1) (tC .non))) (tRet (tOp (uIs) (tVar 0) (tC .non))) (tNext))
  (tRet (tAndV (tOp (uEq K) (tCB (uIsi K .bool) (tCons (tVar 0) (tCons (tC (.ty "bool")) (tNil)))) (tCB (uIsi K .bool) (tCons (tVar 1) (tCons (tC (.ty "bool")) (tNil))))) (tOp (uEq K) (tVar 0) (tVar 1))))
theorem pure__law_same {K : PySem.W.Frag} {C : Ex} {vs : List V} {H : Hp} {Q : VK} {E : XK} (F : Fa K C) (h : sp__law_same K C vs H Q E) : t__law_same K C E { nx := fun _ H' => Q .non H', rt := Q } (start ["_law_told", "_law_due_here"] vs) H := by
  obtain ⟨x, u, rfl, r, h1, h2, k⟩ := h
  unfold t__law_same
  cases r with
  | non =>
    obtain rfl := h1
    obtain rfl := h2
    walk_at "run1"
    exact k
  | int z =>
    obtain rfl := h1
    obtain rfl := h2
    walk_at "run1"
    rw [decide_eq_true rfl]
    exact k
  | bl z =>
    obtain rfl := h1
    obtain rfl := h2
    walk_at "run1"
    rw [decide_eq_true rfl]
    exact k
  | ref t =>
    obtain ⟨p1, rfl, e1⟩ := h1
    obtain ⟨p2, rfl, e2⟩ := h2
    walk_at "run1"
    refine w_isiO (n := .bool) .list (tyx_list (SqL.of e1)) ?_
    walk_at "run1"
    refine w_isiO (n := .bool) .list (tyx_list (SqL.of e2)) ?_
    walk_at "run1"
    refine w_eqD (dt_strs e1) (dt_strs e2) (by decide) ⟨_, rfl⟩ ?_
    rw [decide_eq_true rfl]
    exact k
def sp__law_due (K : PySem.W.Frag) (C : Ex) : Sp := S4 fun x u c e H Q _ => ∃ (p q : Addr) (ns : List Int) (hs : List Bool) (act : Act) (z : Int), x = .ref p ∧ u = .ref q ∧ c = .str (actS act) ∧ e = .int z ∧ H p = some (.lst (ns.map V.int)) ∧ H q = some (.lst (hs.map V.bl)) ∧ ns.length = hs.length ∧ ns.length ≤ 100000 ∧ (act = .take → 0 ≤ z) ∧
  ∀ H' v, RepRs H' v (dueR ns hs act z) → Same H H' → Q v H'
def t__law_due (K : PySem.W.Frag) (C : Ex) (E : XK) : TS :=
  tSeq (tIfS (tTest (tOp (uEq K) (tVar 2) (tC (.str "take")))) (tSeq (tAsg (uCall (sp__law_free K C) (WB E) (tCons (tVar 0) (tCons (tVar 1) (tNil)))) (gName 4))
  (tSeq (tIfS (tTest (tOp (uLe K) (tCB (uLen K) (tCons (tVar 4) (tNil))) (tVar 3))) (tRet (tLst (tCons (tC (.str "refused")) (tCons (tC (.str "room")) (tNil))))) (tNext))
  (tRet (tOp (uIx K) (tVar 4) (tC (.int 0)))))) (tNext))
  (tSeq (tIfS (tOr (tTest (tOp (uLt K) (tVar 3) (tC (.int 0)))) (tTest (tOp (uGe K) (tVar 3) (tCB (uLen K) (tCons (tVar 0) (tNil)))))) (tRet (tLst (tCons (tC (.str "refused")) (tCons (tC (.str "invalid")) (tNil))))) (tNext))
  (tSeq (tIfS (tTest (tOp (uEq K) (tVar 2) (tC (.str "uses")))) (tRet (tOp (uIx K) (tVar 0) (tVar 3))) (tNext))
  (tSeq (tIfS (tTest (tOp (uEq K) (tVar 2) (tC (.str "held")))) (tRet (tOp (uIx K) (tVar 1) (tVar 3))) (tNext))
  (tSeq (tIfS (tTest (tOp (uEq K) (tVar 2) (tC (.str "new")))) (tRet (tAndV (tOp (uGt) (tOp (uIx K) (tVar 0) (tVar 3)) (tC (.int 0))) (tNotV (tOp (uIx K) (tVar 1) (tVar 3))))) (tNext))
  (tSeq (tIfS (tTest (tOp (uEq K) (tVar 2) (tC (.str "free")))) (tRet (tAndV (tOp (uEq K) (tOp (uIx K) (tVar 0) (tVar 3)) (tC (.int 0))) (tNotV (tOp (uIx K) (tVar 1) (tVar 3))))) (tNext))
  (tSeq (tIfS (tOr (tTest (tOp (uLt K) (tVar 3) (tC (.int 5)))) (tTest (tOp (uEq K) (tOp (uIx K) (tVar 0) (tVar 3)) (tC (.int 0))))) (tRet (tLst (tCons (tC (.str "refused")) (tCons (tC (.str "invalid")) (tNil))))) (tNext))
  (tSeq (tIfS (tTest (tOp (uEq K) (tVar 2) (tC (.str "drop")))) (tRet (tOp (uSub) (tOp (uIx K) (tVar 0) (tVar 3)) (tC (.int 1)))) (tNext))
  (tRet (tC .non)))))))))
theorem pure__law_due {K : PySem.W.Frag} {C : Ex} {vs : List V} {H : Hp} {Q : VK} {E : XK} (F : Fa K C) (h : sp__law_due K C vs H Q E) : t__law_due K C E { nx := fun _ H' => Q .non H', rt := Q } (start ["_law_numbers", "_law_held", "_law_act", "_law_block", "_law_free_here"] vs) H := by
  obtain ⟨x, u, c, e, rfl, p, q, ns, hs, act, z, rfl, rfl, rfl, rfl, hp, hq, hl, sz, hz, k⟩ := h
  have bad : ∀ l, H l = none → dueR ns hs act z = .ref "invalid" → Q (.ref l) (upd H l (.lst [.str "refused", .str "invalid"])) := fun l hl e1 =>
    k _ (.ref l) (by rw [e1]; exact ⟨l, rfl, upd_same⟩) (same_new hl)
  have oob : act ≠ .take → (z < 0 ∨ (ns.length : Int) ≤ z) → dueR ns hs act z = .ref "invalid" := fun n q => by
    unfold dueR
    rw [if_neg n, if_pos q]
  have inb : act ≠ .take → 0 ≤ z → z < ns.length → dueR ns hs act z = dueI ns hs act z z.toNat := fun nt h0 h1 => by
    unfold dueR
    rw [if_neg nt, if_neg (by omega)]
  unfold t__law_due
  cases act with
  | take =>
    have hz := hz rfl
    have due : dueR ns hs .take z = if ((freeL ns hs).length : Int) ≤ z then .ref "room" else .int ((freeL ns hs).headD 0 : Nat) := rfl
    show tSeq _ _ _ [some (.ref p), some (.ref q), some (.str "take"), some (.int z), none] H
    walk_at "run1"
    refine w_S2 ⟨p, q, ns, hs, rfl, rfl, hp, hq, hl, sz, fun H1 l s1 hl1 e1 => ?_⟩
    walk_at "run1"
    · rename_i h g hg
      rw [List.length_map] at h
      refine k _ _ ?_ (same_updN s1 hg)
      rw [due, if_pos h]
      exact ⟨_, rfl, upd_same⟩
    · rename_i h
      rw [List.length_map] at h
      walk_at "run1"
      cases ef : freeL ns hs with
      | nil => rw [ef] at h; exact absurd hz h
      | cons n t =>
        rw [ef] at e1
        refine w_ixLl (SqL.of e1) (v := .int (n : Nat)) rfl (by decide) ?_
        exact k H1 _ (by rw [due, if_neg h, ef]; rfl) s1
  | uses =>
    show tSeq _ _ _ [some (.ref p), some (.ref q), some (.str "uses"), some (.int z), none] H
    walk_at "run1"
    · rename_i h l hl
      exact bad l hl (oob (by decide) (.inl h))
    walk_at "run1"
    · rename_i h l hl
      exact bad l hl (oob (by decide) (.inr (by rw [List.length_map] at h; exact h)))
    rename_i h0 h1
    rw [List.length_map] at h1
    have due := inb (by decide) (by omega) (by omega)
    walk_at "run1"
    exact k H _ (by rw [due]; rfl) (L2.Same.refl _)
  | held =>
    show tSeq _ _ _ [some (.ref p), some (.ref q), some (.str "held"), some (.int z), none] H
    walk_at "run1"
    · rename_i h l hl
      exact bad l hl (oob (by decide) (.inl h))
    walk_at "run1"
    · rename_i h l hl
      exact bad l hl (oob (by decide) (.inr (by rw [List.length_map] at h; exact h)))
    rename_i h0 h1
    rw [List.length_map] at h1
    have due := inb (by decide) (by omega) (by omega)
    walk_at "run1"
    exact k H _ (by rw [due]; rfl) (L2.Same.refl _)
  | new =>
    show tSeq _ _ _ [some (.ref p), some (.ref q), some (.str "new"), some (.int z), none] H
    walk_at "run1"
    · rename_i h l hl
      exact bad l hl (oob (by decide) (.inl h))
    walk_at "run1"
    · rename_i h l hl
      exact bad l hl (oob (by decide) (.inr (by rw [List.length_map] at h; exact h)))
    rename_i h0 h1
    rw [List.length_map] at h1
    have due := inb (by decide) (by omega) (by omega)
    walk_at "run1"
    · rename_i g
      refine k H _ ?_ (L2.Same.refl _)
      rw [due]
      unfold dueI
      dsimp only
      rw [decide_eq_true g, Bool.true_and]
      rfl
    · rename_i g
      walk_at "run1"
      refine k H _ ?_ (L2.Same.refl _)
      rw [due]
      unfold dueI
      dsimp only
      rw [decide_eq_false g, Bool.false_and]
      rfl
  | free =>
    show tSeq _ _ _ [some (.ref p), some (.ref q), some (.str "free"), some (.int z), none] H
    walk_at "run1"
    · rename_i h l hl
      exact bad l hl (oob (by decide) (.inl h))
    walk_at "run1"
    · rename_i h l hl
      exact bad l hl (oob (by decide) (.inr (by rw [List.length_map] at h; exact h)))
    rename_i h0 h1
    rw [List.length_map] at h1
    have due := inb (by decide) (by omega) (by omega)
    walk_at "run1"
    · rename_i g
      refine k H _ ?_ (L2.Same.refl _)
      rw [due]
      unfold dueI isFr
      dsimp only
      rw [decide_eq_true g, Bool.true_and]
      rfl
    · rename_i g
      walk_at "run1"
      refine k H _ ?_ (L2.Same.refl _)
      rw [due]
      unfold dueI isFr
      dsimp only
      rw [decide_eq_false g, Bool.false_and]
      rfl
  | drop =>
    show tSeq _ _ _ [some (.ref p), some (.ref q), some (.str "drop"), some (.int z), none] H
    walk_at "run1"
    · rename_i h l hl
      exact bad l hl (oob (by decide) (.inl h))
    walk_at "run1"
    · rename_i h l hl
      exact bad l hl (oob (by decide) (.inr (by rw [List.length_map] at h; exact h)))
    rename_i h0 h1
    rw [List.length_map] at h1
    have due := inb (by decide) (by omega) (by omega)
    walk_at "run1"
    · rename_i g l hl
      exact bad l hl (by rw [due]; exact if_pos (.inl g))
    walk_at "run1"
    · rename_i g l hl
      exact bad l hl (by rw [due]; exact if_pos (.inr g))
    walk_at "run1"
    rename_i g1 g2
    refine k H _ ?_ (L2.Same.refl _)
    rw [due]
    unfold dueI
    dsimp only
    rw [if_neg (by omega)]
    rfl
  | share =>
    show tSeq _ _ _ [some (.ref p), some (.ref q), some (.str "share"), some (.int z), none] H
    walk_at "run1"
    · rename_i h l hl
      exact bad l hl (oob (by decide) (.inl h))
    walk_at "run1"
    · rename_i h l hl
      exact bad l hl (oob (by decide) (.inr (by rw [List.length_map] at h; exact h)))
    rename_i h0 h1
    rw [List.length_map] at h1
    have due := inb (by decide) (by omega) (by omega)
    walk_at "run1"
    · rename_i g l hl
      exact bad l hl (by rw [due]; exact if_pos (.inl g))
    walk_at "run1"
    · rename_i g l hl
      exact bad l hl (by rw [due]; exact if_pos (.inr g))
    walk_at "run1"
    rename_i g1 g2
    refine k H _ ?_ (L2.Same.refl _)
    rw [due]
    unfold dueI
    dsimp only
    rw [if_neg (by omega)]
    rfl
def sp__law_counts (K : PySem.W.Frag) (C : Ex) : Sp := S3 fun x u c H Q _ => ∃ (s a b p q : Addr) (S : SpS), x = .ref s ∧ u = .ref p ∧ c = .ref q ∧ SpAt C H s a b S ∧ SpOk S ∧ Sep (spF s a b) H [(p, .lst (S.nums.map V.int)), (q, .lst (S.held.map V.bl))] ∧
  ∀ H' S', SpAt C H' s a b S' → SpOk S' → S'.nums = S.nums → S'.held = S.held → Stp (spF s a b) H (spF s a b) H' → Q (.bl true) H'
def t__law_counts (K : PySem.W.Frag) (C : Ex) (E : XK) : TS :=
  tSeq (tAsg (uCall (sp__law_free K C) (WB E) (tCons (tVar 1) (tCons (tVar 2) (tNil)))) (gName 3))
  (tSeq (tAsg (tLc (iRng1 (tCons (tCB (uLen K) (tCons (tVar 1) (tNil))) (tNil))) (gName 6) (tAnd (tTest (tOp (uEq K) (tOp (uIx K) (tVar 1) (tVar 6)) (tC (.int 0)))) (uTru K (tOp (uIx K) (tVar 2) (tVar 6)))) (tVar 6) [6]) (gName 4))
  (tSeq (tAsg (tC .non) (gName 5))
  (tCut (tIfS (tTest (tOp (uGt) (tCB (uLen K) (tCons (tVar 3) (tNil))) (tC (.int 0)))) (tAsg (tOp (uIx K) (tVar 3) (tC (.int 0))) (gName 5)) (tNext))
  (tRet (tAndV (uCall (sp__law_same K C) (WB E) (tCons (uMeth C.Space "free" (sp_Space_free K C) (WB E) (tVar 0) (tNil)) (tCons (tCB (uLen K) (tCons (tVar 3) (tNil))) (tNil)))) (tAndV (uCall (sp__law_same K C) (WB E) (tCons (uMeth C.Space "pending" (sp_Space_pending K C) (WB E) (tVar 0) (tNil)) (tCons (tCB (uLen K) (tCons (tVar 4) (tNil))) (tNil)))) (tOp (uEq K) (uMeth C.Space "least_free" (sp_Space_least_free K C) (WB E) (tVar 0) (tNil)) (tVar 5))))))))
theorem pure__law_counts {K : PySem.W.Frag} {C : Ex} {vs : List V} {H : Hp} {Q : VK} {E : XK} (F : Fa K C) (h : sp__law_counts K C vs H Q E) : t__law_counts K C E { nx := fun _ H' => Q .non H', rt := Q } (start ["_law_space", "_law_numbers", "_law_held", "_law_free_here", "_law_pending", "_law_least", "_law_k"] vs) H := by
  obtain ⟨x, u, c, rfl, s, a, b, p, q, S, rfl, rfl, rfl, hS, ok, hL, k⟩ := h
  have hp := hL.get 0 rfl
  have hq := hL.get 1 rfl
  have len := ok.len
  have sz := ok.sz
  unfold t__law_counts
  walk_at "run1"
  refine w_S2 ⟨p, q, S.nums, S.held, rfl, rfl, hp, hq, ok.len, ok.sz, fun H1 l s1 hl1 e1 => ?_⟩
  have hp1 := s1 _ _ hp
  have hq1 := s1 _ _ hq
  have hS1 := hS.same s1
  walk_at "run1"
  rw [Int.toNat_natCast]
  refine l_range (fun D i H2 => Same H1 H2 ∧ H2 D = some (.lst (natV ((List.range i).filter (isPd S.nums S.held))))) (fun D hD => ⟨same_new hD, upd_same⟩) ?_ ?_
  · rintro D i H2 hD hi ⟨s2, e2⟩
    have hp2 := s2 _ _ hp1
    have hq2 := s2 _ _ hq1
    rw [List.length_map] at hi
    have ei : (0 + (i : Int)).toNat = i := by omega
    have hl := ok.len
    have sz := ok.sz
    have lf : ((List.range i).filter (isPd S.nums S.held)).length ≤ i := Nat.le_trans (List.length_filter_le _ _) (by rw [List.length_range]; exact Nat.le_refl _)
    have skip : isPd S.nums S.held i = false → Same H1 H2 ∧ H2 D = some (.lst (natV ((List.range (i + 1)).filter (isPd S.nums S.held)))) := fun f => by
      refine ⟨s2, ?_⟩
      rw [List.range_succ, List.filter_append, e2]
      simp [f]
    walk_at "run1"
    refine ⟨rfl, ?_⟩
    walk_at "run1"
    · rename_i f
      rw [ei] at f
      refine ifB (fun g => ?_) (fun g => ?_)
      · rw [ei] at g
        walk_at "run1"
        refine ⟨_, e2, by rw [List.length_map]; exact lt_line (by omega), same_upd s2 hD, ?_⟩
        rw [upd_same, List.range_succ, List.filter_append]
        unfold natV
        rw [List.map_append]
        have fi : isPd S.nums S.held i = true := by unfold isPd; rw [decide_eq_true f, g]; rfl
        rw [show [i].filter (isPd S.nums S.held) = [i] by simp [fi], Int.zero_add]
        rfl
      · rw [ei] at g
        walk_at "run1"
        exact skip (by unfold isPd; rw [g]; simp)
    · walk_at "run1"
      rename_i f
      rw [ei] at f
      exact skip (by unfold isPd; rw [decide_eq_false f]; rfl)
  · rintro D H2 hD ⟨s2, e2⟩
    have e12 := s2 _ _ e1
    have hS2 := hS1.same s2
    rw [List.length_map] at e2
    have e2 : H2 D = some (.lst (natV (pendL S.nums S.held))) := e2
    walk_at "run1"
    refine w_cut (fun σ H' => H' = H2 ∧ ∃ lv, σ = [some (.ref s), some (.ref p), some (.ref q), some (.ref l), some (.ref D), some lv, none] ∧ ((freeL S.nums S.held = [] ∧ lv = .non) ∨ ∃ n t, freeL S.nums S.held = n :: t ∧ lv = .int (n : Nat))) ?_ ?_
    · cases ef : freeL S.nums S.held with
      | nil =>
        rw [ef] at e12
        walk_at "run1"
        · rename_i h
          exact absurd h (by decide)
        · walk_at "run1"
          exact ⟨rfl, _, rfl, .inl ⟨rfl, rfl⟩⟩
      | cons n t =>
        rw [ef] at e12
        walk_at "run1"
        · exact ⟨rfl, _, rfl, .inr ⟨n, t, rfl, rfl⟩⟩
        · rename_i h
          exact absurd (by rw [List.length_map, List.length_cons]; omega) h
    · rintro σ H3 ⟨e3, lv, rfl, hlv⟩
      rw [e3]
      clear e3
      obtain ⟨dx, i2⟩ := hS2.ins
      unfold spO at i2
      walk_at "run1"
      refine w_S1 ⟨s, a, b, S, rfl, hS2, ?_⟩
      walk_at "run1"
      refine w_S2 ⟨.int ((freeL S.nums S.held).length : Nat), rfl, by rw [List.length_map]; rfl, ?_⟩
      walk_at "run1"
      refine w_S1 ⟨s, a, b, S, rfl, hS2, ok, fun H4 s4 => ?_⟩
      have e4 := s4 _ _ e2
      have i4 := s4 _ _ i2
      walk_at "run1"
      refine w_S2 ⟨.int ((pendL S.nums S.held).length : Nat), rfl, by rw [List.length_map]; rfl, ?_⟩
      walk_at "run1"
      have st4 : Stp (spF s a b) H (spF s a b) H4 := .same ((s1.trans s2).trans s4)
      refine w_S1 ⟨s, a, b, S, rfl, hS2.same s4, ok, fun e => ?_, fun n r e H5 hS5 st5 => ?_⟩
      · rcases hlv with ⟨_, rfl⟩ | ⟨n, t, e', rfl⟩
        · walk_at "run1"
          exact k H4 S (hS2.same s4) ok rfl rfl st4
        · rw [e] at e'; cases e'
      · rcases hlv with ⟨e', rfl⟩ | ⟨n', t, e', rfl⟩
        · rw [e] at e'; cases e'
        · rw [e] at e'
          cases e'
          walk_at "run1"
          rw [decide_eq_true rfl]
          refine k H5 _ hS5 ⟨ok.len, ok.nn, by show 0 ≤ (n : Int); omega, fun i hi => ?_, ok.sz⟩ rfl rfl (st4.trans st5)
          exact (freeL_head e).2.2 i (by have hi : (i : Int) < n := hi; omega)
theorem w_cutS {D : Ends} {σ : L2.St} {H : Hp} {t u : TS} (h : tSeq t u D σ H) : tCut t u D σ H := ⟨u D, h, fun _ _ h => h⟩
theorem RepRs.stp {C : Ex} {H H' : Hp} {s a b : Addr} {S : SpS} {v : V} {r : Rs} {F' : List Addr} (h : RepRs H v r) (hS : SpAt C H s a b S) (hl : S.nums.length ≠ 2) (ok : SpOk S) (st : Stp (spF s a b) H F' H') : RepRs H' v r := by
  cases r with
  | ref t =>
    obtain ⟨p, rfl, e⟩ := h
    obtain ⟨⟨dx, i⟩, ha, hb, _⟩ := hS
    have len := ok.len
    refine ⟨p, rfl, st.1 _ _ e fun hm => ?_⟩
    simp only [spF, List.mem_cons, List.not_mem_nil, or_false] at hm
    rcases hm with rfl | rfl | rfl
    · rw [i] at e; cases e
    · rw [ha] at e
      have z := congrArg (fun o => match o with
        | some (HO.lst xs) => xs.length
        | _ => 0) e
      dsimp only at z
      rw [List.length_map] at z
      exact hl z
    · rw [hb] at e
      have z := congrArg (fun o => match o with
        | some (HO.lst xs) => xs.length
        | _ => 0) e
      dsimp only at z
      rw [List.length_map] at z
      exact hl (len.trans z)
  | _ => exact h
def spL (S S0 : SpS) (rc ts : List Int) (p3 p6 p10 k t ta tb kn kh q : Addr) : List (Addr × HO) :=
  [(p3, .lst (S.nums.map V.int)), (p6, .lst (S.held.map V.bl)), (p10, .lst (rc.map V.int)), (k, .lst [.ref t, .ref kn, .ref kh]), (t, .tup [.ref ta, .ref tb]), (ta, .lst (S0.nums.map V.int)), (tb, .lst (S0.held.map V.bl)), (kn, .lst (S0.nums.map V.int)), (kh, .lst (S0.held.map V.bl)), (q, .lst (ts.map V.int))]
structure KS (C : Ex) (H : Hp) (s a b p3 p6 p10 k t ta tb kn kh q : Addr) (S S0 : SpS) (rc ts : List Int) (B : Int) : Prop where
  at_ : SpAt C H s a b S
  ok : SpOk S
  ok0 : SpOk S0
  l1 : (S.nums.length : Int) = B
  l0 : (S0.nums.length : Int) = B
  sep : Sep (spF s a b) H (spL S S0 rc ts p3 p6 p10 k t ta tb kn kh q)
theorem KS.stp {C : Ex} {H H' : Hp} {s a b p3 p6 p10 k t ta tb kn kh q a' b' : Addr} {S S' S0 : SpS} {rc ts : List Int} {B : Int} (x : KS C H s a b p3 p6 p10 k t ta tb kn kh q S S0 rc ts B) (h : SpAt C H' s a' b' S') (ok : SpOk S') (e1 : S'.nums = S.nums) (e2 : S'.held = S.held) (st : Stp (spF s a b) H (spF s a' b') H') : KS C H' s a' b' p3 p6 p10 k t ta tb kn kh q S' S0 rc ts B :=
  ⟨h, ok, x.ok0, by rw [e1]; exact x.l1, x.l0, by unfold spL; rw [e1, e2]; exact x.sep.stp st⟩
theorem KS.same {C : Ex} {H H' : Hp} {s a b p3 p6 p10 k t ta tb kn kh q : Addr} {S S0 : SpS} {rc ts : List Int} {B : Int} (x : KS C H s a b p3 p6 p10 k t ta tb kn kh q S S0 rc ts B) (h : Same H H') : KS C H' s a b p3 p6 p10 k t ta tb kn kh q S S0 rc ts B :=
  x.stp (x.at_.same h) x.ok rfl rfl (.same h)
theorem due_share {ns : List Int} {hs : List Bool} {z : Int} : dueR ns hs .share z = if z < 0 ∨ (ns.length : Int) ≤ z ∨ z < 5 ∨ ns.getD z.toNat 0 = 0 then .ref "invalid" else .non := by
  unfold dueR
  rw [if_neg (by decide)]
  by_cases h : z < 0 ∨ (ns.length : Int) ≤ z
  · rw [if_pos h, if_pos (by omega)]
  · rw [if_neg h]
    unfold dueI
    dsimp only
    by_cases g : z < 5 ∨ ns.getD z.toNat 0 = 0
    · rw [if_pos g, if_pos (by omega)]
    · rw [if_neg g, if_neg (by decide), if_neg (by omega)]
theorem due_drop {ns : List Int} {hs : List Bool} {z : Int} : dueR ns hs .drop z = if z < 0 ∨ (ns.length : Int) ≤ z ∨ z < 5 ∨ ns.getD z.toNat 0 = 0 then .ref "invalid" else .int (ns.getD z.toNat 0 - 1) := by
  unfold dueR
  rw [if_neg (by decide)]
  by_cases h : z < 0 ∨ (ns.length : Int) ≤ z
  · rw [if_pos h, if_pos (by omega)]
  · rw [if_neg h]
    unfold dueI
    dsimp only
    by_cases g : z < 5 ∨ ns.getD z.toNat 0 = 0
    · rw [if_pos g, if_pos (by omega)]
    · rw [if_neg g, if_pos rfl, if_neg (by omega)]
theorem w_neIL {K : PySem.W.Frag} {H : Hp} {Q : VK} {n : Int} {p : Addr} {x y : Str} (e : H p = some (.lst [.str x, .str y])) (h : Q (.bl true) H) : uNe K (.int n) (.ref p) H Q := by
  refine w_neP ⟨PySem.W.Datum.toD n, PySem.W.Datum.toD [x, y], Dt.int, dt_strs e, ⟨PySem.W.Datum.plain n, Nat.le_trans (PySem.W.Datum.depth_le n) (by decide)⟩, PySem.W.Datum.plain [x, y], ?_⟩
  have z : PyData.eqv (PySem.W.Datum.toD n) (PySem.W.Datum.toD [x, y]) = false := by
    first | rfl | (simp [PySem.W.Datum.toD, PyData.eqv])
  rw [z]
  exact h
abbrev sp_law (K : PySem.W.Frag) (_ : Ex) : Sp := spLaw K
def t_law (K : PySem.W.Frag) (C : Ex) (E : XK) : TS :=
  tSeq (tIfS (tOr (tTest (tOp (uNe K) (tC (.int 60)) (tC (.int 60)))) (tTest (tOp (uNe K) (tC (.int 20)) (tC (.int 20))))) (tRet (tC (.bl false))) (tNext))
  (tSeq (tAsg (uCall (sp__law_tape K C) (WB E) (tCons (tVar 0) (tNil))) (gName 1))
  (tSeq (tAsg (tOp (uAdd K) (tC (.int 96)) (tOp (uMod) (uCall (sp__law_at K C) (WB E) (tCons (tVar 1) (tCons (tC (.int 0)) (tNil)))) (tC (.int 45)))) (gName 2))
  (tSeq (tAsg (tLst (tCons (tC (.int 1)) (tCons (tC (.int 1)) (tCons (tC (.int 1)) (tCons (tC (.int 1)) (tCons (tC (.int 1)) (tNil))))))) (gName 3))
  (tSeq (tFor (iRng1 (tCons (tOp (uSub) (tVar 2) (tC (.int 5))) (tNil))) (gName 4)
  (tSeq (tAsg (tOp (uDiv) (uCall (sp__law_at K C) (WB E) (tCons (tVar 1) (tCons (tOp (uAdd K) (tC (.int 1)) (tOp (uMod) (tVar 4) (tC (.int 7)))) (tNil)))) (tOp (uAdd K) (tC (.int 1)) (tOp (uMod) (tVar 4) (tC (.int 11))))) (gName 5))
  (tDrop (tBM K "list" (rAppend) (tVar 3) (tCons (tOp (uIx K) (tLst (tCons (tC (.int 0)) (tCons (tC (.int 1)) (tCons (tC (.int 2)) (tCons (tC (.int 0)) (tCons (tC (.int 3)) (tCons (tC (.int 0)) (tCons (tC (.int 1)) (tCons (tC (.int 0)) (tNil)))))))))) (tOp (uMod) (tOp (uAdd K) (tVar 5) (tVar 4)) (tC (.int 8)))) (tNil))))))
  (tSeq (tAsg (tLc (iList K (tVar 3)) (gName 15) (tYes) (tOp (uGt) (tVar 15) (tC (.int 0))) [15]) (gName 6))
  (tSeq (tAsg (tCB (uList K) (tCons (tVar 3) (tNil))) (gName 7))
  (tSeq (tAsg (uMake C.Space (sp_Space___init__ K C) (WB E) (tCons (tVar 7) (tNil))) (gName 8))
  (tSeq (tAsg (tC (.int 9)) (gSub (tVar 7) (tC (.int 7)) uSet))
  (tSeq (tIfS (tTest (tOp (uNe K) (uFld C.Space "blocks" (tVar 8)) (tVar 2))) (tRet (tC (.bl false))) (tNext))
  (tSeq (tAsg (tLst (tCons (uMeth C.Space "saved" (sp_Space_saved K C) (WB E) (tVar 8) (tNil)) (tCons (tCB (uList K) (tCons (tVar 3) (tNil))) (tCons (tCB (uList K) (tCons (tVar 6) (tNil))) (tNil))))) (gName 9))
  (tSeq (tAsg (tLst (tCons (tC (.int 5)) (tCons (tC (.int 0)) (tCons (tC (.int 4)) (tCons (tOp (uSub) (tVar 2) (tC (.int 1))) (tCons (tVar 2) (tCons (tUn uNeg (tC (.int 1))) (tNil)))))))) (gName 10))
  (tSeq (tFor (iRng1 (tCons (tCB (uMin K) (tCons (tC (.int 60)) (tCons (tOp (uDiv) (tCB (uLen K) (tCons (tVar 1) (tNil))) (tC (.int 2))) (tNil)))) (tNil))) (gName 4)
  (tSeq (tAsg (uCall (sp__law_at K C) (WB E) (tCons (tVar 1) (tCons (tOp (uAdd K) (tOp (uMul) (tC (.int 2)) (tVar 4)) (tC (.int 8))) (tNil)))) (gName 5))
  (tSeq (tAsg (tOp (uIx K) (tVar 10) (tOp (uMod) (uCall (sp__law_at K C) (WB E) (tCons (tVar 1) (tCons (tOp (uAdd K) (tOp (uMul) (tC (.int 2)) (tVar 4)) (tC (.int 9))) (tNil)))) (tCB (uLen K) (tCons (tVar 10) (tNil))))) (gName 11))
  (tCut (tIfS (tTest (tOp (uEq K) (tOp (uMod) (uCall (sp__law_at K C) (WB E) (tCons (tVar 1) (tCons (tOp (uAdd K) (tOp (uMul) (tC (.int 2)) (tVar 4)) (tC (.int 9))) (tNil)))) (tC (.int 5))) (tC (.int 4)))) (tAsg (tOp (uMod) (tOp (uDiv) (uCall (sp__law_at K C) (WB E) (tCons (tVar 1) (tCons (tOp (uAdd K) (tOp (uMul) (tC (.int 2)) (tVar 4)) (tC (.int 9))) (tNil)))) (tC (.int 5))) (tVar 2)) (gName 11)) (tNext))
  (tSeq (tAsg (tOp (uIx K) (tLst (tCons (tC (.str "take")) (tCons (tC (.str "take")) (tCons (tC (.str "share")) (tCons (tC (.str "drop")) (tCons (tC (.str "drop")) (tCons (tC (.str "uses")) (tCons (tC (.str "held")) (tCons (tC (.str "new")) (tCons (tC (.str "free")) (tCons (tC (.str "settle")) (tCons (tC (.str "save")) (tCons (tC (.str "restore")) (tNil)))))))))))))) (tOp (uMod) (tVar 5) (tC (.int 12)))) (gName 12))
  (tCut (tIfS (tTest (tOp (uEq K) (tVar 12) (tC (.str "settle")))) (tSeq (tDrop (uMeth C.Space "settle" (sp_Space_settle K C) (WB E) (tVar 8) (tNil)))
  (tAsg (tLc (iList K (tVar 3)) (gName 15) (tYes) (tOp (uGt) (tVar 15) (tC (.int 0))) [15]) (gName 6))) (tIfS (tTest (tOp (uEq K) (tVar 12) (tC (.str "save")))) (tAsg (tLst (tCons (uMeth C.Space "saved" (sp_Space_saved K C) (WB E) (tVar 8) (tNil)) (tCons (tCB (uList K) (tCons (tVar 3) (tNil))) (tCons (tCB (uList K) (tCons (tVar 6) (tNil))) (tNil))))) (gName 9)) (tIfS (tTest (tOp (uEq K) (tVar 12) (tC (.str "restore")))) (tSeq (tDrop (uMeth C.Space "restore" (sp_Space_restore K C) (WB E) (tVar 8) (tCons (tOp (uIx K) (tVar 9) (tC (.int 0))) (tNil))))
  (tSeq (tAsg (tCB (uList K) (tCons (tOp (uIx K) (tVar 9) (tC (.int 1))) (tNil))) (gName 3))
  (tAsg (tCB (uList K) (tCons (tOp (uIx K) (tVar 9) (tC (.int 2))) (tNil))) (gName 6)))) (tCut (tIfS (tTest (tOp (uEq K) (tVar 12) (tC (.str "take")))) (tSeq (tAsg (tCB (uLen K) (tCons (uCall (sp__law_free K C) (WB E) (tCons (tVar 3) (tCons (tVar 6) (tNil)))) (tNil))) (gName 13))
  (tAsg (tOp (uIx K) (tLst (tCons (tC (.int 0)) (tCons (tC (.int 0)) (tCons (tC (.int 20)) (tCons (tC (.int 60)) (tCons (tVar 13) (tCons (tOp (uAdd K) (tVar 13) (tC (.int 1))) (tCons (tCB (uMax K) (tCons (tC (.int 0)) (tCons (tOp (uSub) (tVar 13) (tC (.int 1))) (tNil)))) (tNil))))))))) (tOp (uMod) (tOp (uDiv) (tVar 5) (tC (.int 12))) (tC (.int 7)))) (gName 11))) (tNext))
  (tSeq (tAsg (uCall (sp__law_due K C) (WB E) (tCons (tVar 3) (tCons (tVar 6) (tCons (tVar 12) (tCons (tVar 11) (tNil)))))) (gName 14))
  (tSeq (tIfS (tNot (uTru K (uCall (sp__law_same K C) (WB E) (tCons (uCall (sp__law_do K C) (WB E) (tCons (tVar 8) (tCons (tVar 12) (tCons (tVar 11) (tNil))))) (tCons (tVar 14) (tNil)))))) (tRet (tC (.bl false))) (tNext))
  (tCut (tIfS (tAnd (tTest (tOp (uEq K) (tVar 12) (tC (.str "take")))) (tTest (tOp (uNe K) (tVar 14) (tLst (tCons (tC (.str "refused")) (tCons (tC (.str "room")) (tNil))))))) (tSeq (tAsg (tC (.int 1)) (gSub (tVar 3) (tVar 14) uSet))
  (tDrop (tBM K "list" (rAppend) (tVar 10) (tCons (tVar 14) (tNil))))) (tNext))
  (tCut (tIfS (tAnd (tTest (tOp (uEq K) (tVar 12) (tC (.str "share")))) (tTest (tOp (uIs) (tVar 14) (tC .non)))) (tAsg (tOp (uAdd K) (tOp (uIx K) (tVar 3) (tVar 11)) (tC (.int 1))) (gSub (tVar 3) (tVar 11) uSet)) (tNext))
  (tIfS (tAnd (tTest (tOp (uEq K) (tVar 12) (tC (.str "drop")))) (tTest (tOp (uNe K) (tVar 14) (tLst (tCons (tC (.str "refused")) (tCons (tC (.str "invalid")) (tNil))))))) (tAsg (tVar 14) (gSub (tVar 3) (tVar 11) uSet)) (tNext))))))))))
  (tIfS (tNot (uTru K (uCall (sp__law_counts K C) (WB E) (tCons (tVar 8) (tCons (tVar 3) (tCons (tVar 6) (tNil))))))) (tRet (tC (.bl false))) (tNext))))))))
  (tSeq (tFor (iRng1 (tCons (tVar 2) (tNil))) (gName 11)
  (tSeq (tIfS (tNot (uTru K (uCall (sp__law_same K C) (WB E) (tCons (uCall (sp__law_do K C) (WB E) (tCons (tVar 8) (tCons (tC (.str "uses")) (tCons (tVar 11) (tNil))))) (tCons (tOp (uIx K) (tVar 3) (tVar 11)) (tNil)))))) (tRet (tC (.bl false))) (tNext))
  (tIfS (tNot (uTru K (uCall (sp__law_same K C) (WB E) (tCons (uCall (sp__law_do K C) (WB E) (tCons (tVar 8) (tCons (tC (.str "held")) (tCons (tVar 11) (tNil))))) (tCons (tOp (uIx K) (tVar 6) (tVar 11)) (tNil)))))) (tRet (tC (.bl false))) (tNext))))
  (tRet (tC (.bl true))))))))))))))))
theorem pure_law {K : PySem.W.Frag} {C : Ex} {vs : List V} {H : Hp} {Q : VK} {E : XK} (F : Fa K C) (h : sp_law K C vs H Q E) : t_law K C E { nx := fun _ H' => Q .non H', rt := Q } (start ["_law_script", "_law_tape_here", "_law_blocks", "_law_numbers", "_law_k", "_law_number", "_law_held", "_law_passed", "_law_space", "_law_kept", "_law_recent", "_law_block", "_law_act", "_law_free_here", "_law_due_here", "_law_many"] vs) H := by
  obtain ⟨a0, rfl, p, ns, rfl, hS, hn, kk⟩ := h
  unfold t_law
  walk_at "run1"
  refine w_S1 ⟨p, ns, rfl, hS, hn, fun H0 q ts hs hq hl hT => ?_⟩
  have t0 := hT.at 0
  have hlt := hT.2
  walk_at "run1"
  rw [show (0 : Int).toNat = 0 from rfl]
  have hB : ∃ B : Int, 96 + ts.getD 0 0 % 45 = B ∧ 96 ≤ B ∧ B ≤ 140 := ⟨_, rfl, by omega, by omega⟩
  obtain ⟨B, eB, B0, B1⟩ := hB
  rw [eB]
  rename_i p3 hp3
  have sp0 : Sep [] H0 [(q, .lst (ts.map V.int))] := ⟨by simp [hl], by simp, by simp⟩
  have sp1 := sp0.new (o := .lst [.int 1, .int 1, .int 1, .int 1, .int 1]) hp3 (by simp)
  generalize upd H0 p3 _ = H1 at *
  walk_at "run1"
  refine f_range (fun i σ H' => ∃ (nums : List Int) (v4 v5 : Option V), σ = [some (.ref p), some (.ref q), some (.int B), some (.ref p3), v4, v5, none, none, none, none, none, none, none, none, none, none] ∧ nums.length = 5 + i ∧ (∀ z ∈ nums, 0 ≤ z) ∧ Sep [] H' [(p3, .lst (nums.map V.int)), (q, .lst (ts.map V.int))])
    ⟨[1, 1, 1, 1, 1], none, none, rfl, rfl, by simp, sp1⟩ ?_ ?_
  · rintro i σ H2 hi ⟨nums, v4, v5, rfl, ln, nn, sp2⟩
    have hq2 := sp2.get 1 rfl
    have hp2 := sp2.get 0 rfl
    have t1 := hT.at (1 + (0 + (i : Int)) % 7).toNat
    walk_at "run1"
    rename_i l8 hl8
    have hv : 0 ≤ ts.getD (1 + (0 + (i : Int)) % 7).toNat 0 / (1 + (0 + (i : Int)) % 11) := Int.ediv_nonneg t1.1 (by omega)
    refine w_ixA (SqL.of upd_same) ⟨by omega, by show _ < 8; omega⟩ fun v hv => ?_
    have hy : ∃ y : Int, v = .int y ∧ 0 ≤ y := by
      have hm := List.mem_of_getElem? hv
      simp only [List.mem_cons, List.not_mem_nil, or_false] at hm
      rcases hm with h | h | h | h | h | h | h | h <;> exact ⟨_, h, by decide⟩
    obtain ⟨y, rfl, y0⟩ := hy
    have sp3 := sp2.same (same_new (o := .lst [.int 0, .int 1, .int 2, .int 0, .int 3, .int 0, .int 1, .int 0]) hl8)
    generalize upd H2 l8 _ = H3 at *
    have hp3 := sp3.get 0 rfl
    walk_at "run1"
    refine ⟨nums ++ [y], _, _, rfl, by rw [List.length_append, ln]; rfl, fun z hz => ?_, ?_⟩
    · rcases List.mem_append.mp hz with hz | hz
      · exact nn z hz
      · rw [List.mem_singleton.mp hz]; exact y0
    · have z := sp3.set 0 rfl (.lst ((nums ++ [y]).map V.int))
      rw [List.map_append] at z ⊢
      exact z
  · rintro σ H2 ⟨nums, v4, v5, rfl, ln, nn, sp2⟩
    have lB : (nums.length : Int) = B := by omega
    have hq2 := sp2.get 1 rfl
    have hp2 := sp2.get 0 rfl
    walk_at "run1"
    refine l_pos hp2 (by omega) (by show 15 < 16; decide) fun p6 H3 hp6 s3 e6 => ?_
    have sp3 := sp2.add s3 hp6 (by simp) e6
    have hp3 := sp3.get 1 rfl
    walk_at "run1"
    refine w_tlist (SqL.of hp3) fun p7 hp7 => ?_
    have sp4 := sp3.new (o := .lst (nums.map V.int)) hp7 (by simp)
    generalize upd H3 p7 _ = H4 at *
    walk_at "run1"
    intro s dx hs4 hdx hne
    have sp5 := (sp4.same (same_new (o := .own s) hdx))
    have hs5 : upd H4 dx (.own s) s = none := by rw [upd_ne hne.symm]; exact hs4
    have sp5 := sp5.new (o := .ins C.Space dx []) hs5 (by simp)
    generalize hH5 : upd (upd H4 dx (.own s)) s (.ins C.Space dx []) = H5 at *
    refine w_S2 ⟨s, dx, p7, nums, rfl, rfl, sp5.get 0 rfl, sp5.get 1 rfl, by omega, fun H6 a b hS6 f6 ha6 hb6 => ⟨rfl, ?_⟩⟩
    have n7 : p7 ≠ s := fun h => by have z := sp5.nd; simp [h] at z
    have nq : q ≠ s := fun h => by have z := sp5.nd; simp [h] at z
    have n3 : p3 ≠ s := fun h => by have z := sp5.nd; simp [h] at z
    have n6 : p6 ≠ s := fun h => by have z := sp5.nd; simp [h] at z
    have fa : ∀ x o, H5 x = some o → x ≠ a := fun x o h e => by rw [e, ha6] at h; cases h
    have fb : ∀ x o, H5 x = some o → x ≠ b := fun x o h e => by rw [e, hb6] at h; cases h
    have sp6 : Sep (spF s a b) H6 [(p7, .lst (nums.map V.int)), (p6, .lst ((posL nums).map V.bl)), (p3, .lst (nums.map V.int)), (q, .lst (ts.map V.int))] := by
      have z := sp5.nd
      refine ⟨fun x hx => ?_, fun x hx => ?_, ?_⟩
      · have hx5 := sp5.own x (List.mem_cons_of_mem _ hx)
        refine f6 _ _ hx5 ?_
        simp only [List.mem_cons, List.not_mem_nil, or_false] at hx
        rcases hx with rfl | rfl | rfl | rfl <;> assumption
      · have hx5 := sp5.own x (List.mem_cons_of_mem _ hx)
        simp only [spF, List.mem_cons, List.not_mem_nil, or_false, not_or]
        refine ⟨?_, fa _ _ hx5, fb _ _ hx5⟩
        simp only [List.mem_cons, List.not_mem_nil, or_false] at hx
        rcases hx with rfl | rfl | rfl | rfl <;> assumption
      · exact (List.nodup_cons.mp z).2
    clear sp5 fa fb f6 hH5 ha6 hb6 n7 nq n3 n6 sp4 sp3 sp2 hp2 hq2 hp6 hp7 s3 e6 hs5 hdx hs4 hne
    have hp7 := sp6.get 0 rfl
    walk_at "run1"
    refine w_setL hp7 ⟨by decide, by rw [List.length_map]; show 7 < _; omega⟩ ?_
    have sp7 := sp6.set 0 rfl (.lst ((nums.map V.int).set 7 (.int 9)))
    have hS7 := hS6.oth (p := p7) (o := .lst ((nums.map V.int).set 7 (.int 9))) (sp6.far 0 rfl)
    rw [show (7 : Int).toNat = 7 from rfl]
    generalize upd H6 p7 _ = H7 at *
    obtain ⟨dx7, i7⟩ := hS7.ins
    unfold spO at i7
    have ok7 : SpOk ⟨nums, posL nums, 0⟩ := .zero (posL_len _).symm nn (by omega)
    walk_at "run1"
    · rename_i h
      exact absurd h (by simp [lB])
    walk_at "run1"
    refine w_S1 ⟨s, a, b, _, rfl, hS7, ok7, fun H8 t ta tb s8 ht hta htb n1 n2 n3 et eta etb => ?_⟩
    have sp8 := sp7.more (L2 := [(t, .tup [.ref ta, .ref tb]), (ta, .lst (nums.map V.int)), (tb, .lst ((posL nums).map V.bl))]) s8 (by
      intro y hy
      simp only [List.mem_cons, List.not_mem_nil, or_false] at hy
      rcases hy with rfl | rfl | rfl <;> assumption) (by
      intro y hy
      simp only [List.mem_cons, List.not_mem_nil, or_false] at hy
      rcases hy with rfl | rfl | rfl <;> assumption) (by
      intro y hy
      simp only [List.mem_cons, List.not_mem_nil, or_false] at hy
      rcases hy with rfl | rfl | rfl
      · exact hS7.fresh ht
      · exact hS7.fresh hta
      · exact hS7.fresh htb) (by simp [n1, n2, n3])
    have hS8 := hS7.same s8
    have hp38 := sp8.get 5 rfl
    walk_at "run1"
    refine w_tlist (SqL.of hp38) fun kn hkn => ?_
    have sp9 := sp8.new (o := .lst (nums.map V.int)) hkn (hS8.fresh hkn)
    have hS9 := hS8.same (same_new (o := .lst (nums.map V.int)) hkn)
    generalize upd H8 kn _ = H9 at *
    have hp69 := sp9.get 5 rfl
    walk_at "run1"
    refine w_tlist (SqL.of hp69) fun kh hkh => ?_
    have sp10 := sp9.new (o := .lst ((posL nums).map V.bl)) hkh (hS9.fresh hkh)
    have hS10 := hS9.same (same_new (o := .lst ((posL nums).map V.bl)) hkh)
    generalize upd H9 kh _ = H10 at *
    walk_at "run1"
    rename_i kp hkp rp hrp
    have sp11 := (sp10.new (o := .lst [.ref t, .ref kn, .ref kh]) hkp (hS10.fresh hkp))
    have hS11 := hS10.same (same_new (o := .lst [.ref t, .ref kn, .ref kh]) hkp)
    have sp12 := (sp11.new (o := .lst [.int 5, .int 0, .int 4, .int (B - 1), .int B, .int (-1)]) hrp (hS11.fresh hrp))
    have hS12 := hS11.same (same_new (o := .lst [.int 5, .int 0, .int 4, .int (B - 1), .int B, .int (-1)]) hrp)
    have X : KS C (upd (upd H10 kp (.lst [.ref t, .ref kn, .ref kh])) rp (.lst [.int 5, .int 0, .int 4, .int (B - 1), .int B, .int (-1)])) s a b p3 p6 rp kp t ta tb kn kh q ⟨nums, posL nums, 0⟩ ⟨nums, posL nums, 0⟩ [5, 0, 4, B - 1, B, -1] ts B :=
      ⟨hS12, ok7, ok7, lB, lB, sp12.pick [9, 8, 0, 1, 4, 5, 6, 3, 2, 10] (by decide)⟩
    generalize upd (upd H10 kp _) rp _ = H11 at *
    clear sp12 hS12 sp11 hS11 sp10 hS10 sp9 hS9 sp8 hS8 sp7 hS7 sp6 hS6 hrp hkp hkn hkh hp69 hp38 s8 et eta etb ht hta htb i7 n1 n2 n3 hp7 sp5
    have hq11 := X.sep.get 9 rfl
    have hmn : (if (((ts.map V.int).length : Nat) : Int) / 2 < 60 then (((ts.map V.int).length : Nat) : Int) / 2 else 60) ≤ 60 := by split <;> omega
    have hmn0 : 0 ≤ (if (((ts.map V.int).length : Nat) : Int) / 2 < 60 then (((ts.map V.int).length : Nat) : Int) / 2 else 60) := by split <;> omega
    walk_at "run1"
    generalize (if (((ts.map V.int).length : Nat) : Int) / 2 < 60 then (((ts.map V.int).length : Nat) : Int) / 2 else 60) = mn at *
    refine f_range (fun i σ H' => ∃ (a b p3 p6 kp t ta tb kn kh : Addr) (S S0 : SpS) (rc : List Int) (v4 v5 v11 v12 v13 v14 : Option V), σ = [some (.ref p), some (.ref q), some (.int B), some (.ref p3), v4, v5, some (.ref p6), some (.ref p7), some (.ref s), some (.ref kp), some (.ref rp), v11, v12, v13, v14, none] ∧
      KS C H' s a b p3 p6 rp kp t ta tb kn kh q S S0 rc ts B ∧ 0 < rc.length ∧ rc.length ≤ 6 + i)
      ⟨a, b, p3, p6, kp, t, ta, tb, kn, kh, _, _, _, v4, v5, none, none, none, none, rfl, X, by show 0 < 6; decide, Nat.le_refl 6⟩ ?_ ?_
    · rintro i σ H2 hi ⟨a, b, p3, p6, kp, t, ta, tb, kn, kh, S, S0, rc, v4, v5, v11, v12, v13, v14, rfl, X, rc0, rc1⟩
      have hi' : i < 60 := by omega
      have hq2 := X.sep.get 9 rfl
      have hr2 := X.sep.get 2 rfl
      have h32 := X.sep.get 0 rfl
      have h62 := X.sep.get 1 rfl
      have t8 := hT.at (2 * (0 + (i : Int)) + 8).toNat
      have t9 := hT.at (2 * (0 + (i : Int)) + 9).toNat
      have lrc : (rc.map V.int).length = rc.length := List.length_map ..
      have m0 : 0 ≤ ts.getD (2 * (0 + (i : Int)) + 9).toNat 0 % ((rc.map V.int).length : Int) := Int.emod_nonneg _ (by omega)
      have m1 : ts.getD (2 * (0 + (i : Int)) + 9).toNat 0 % ((rc.map V.int).length : Int) < (rc.map V.int).length := Int.emod_lt_of_pos _ (by omega)
      walk_at "run1"
      generalize ts.getD (2 * (0 + (i : Int)) + 8).toNat 0 = nu at *
      refine w_cut (fun σ H' => H' = H2 ∧ ∃ z : Int, σ = [some (.ref p), some (.ref q), some (.int B), some (.ref p3), some (.int (0 + (i : Int))), some (.int nu), some (.ref p6), some (.ref p7), some (.ref s), some (.ref kp), some (.ref rp), some (.int z), v12, v13, v14, none]) ?_ ?_
      · walk_at "run1"
        · exact ⟨rfl, _, rfl⟩
        · walk_at "run1"
          exact ⟨rfl, _, rfl⟩
      · rintro σ H' ⟨e, z, rfl⟩
        rw [e]
        clear e
        walk_at "run1"
        rename_i l12 hl12
        refine w_ixA (SqL.of upd_same) ⟨by omega, by show _ < 12; omega⟩ fun v hv => ?_
        have hact : (∃ A : Act, v = .str (actS A)) ∨ v = .str "settle" ∨ v = .str "save" ∨ v = .str "restore" := by
          have hm := List.mem_of_getElem? hv
          simp only [List.mem_cons, List.not_mem_nil, or_false] at hm
          rcases hm with h | h | h | h | h | h | h | h | h | h | h | h
          · exact .inl ⟨.take, h⟩
          · exact .inl ⟨.take, h⟩
          · exact .inl ⟨.share, h⟩
          · exact .inl ⟨.drop, h⟩
          · exact .inl ⟨.drop, h⟩
          · exact .inl ⟨.uses, h⟩
          · exact .inl ⟨.held, h⟩
          · exact .inl ⟨.new, h⟩
          · exact .inl ⟨.free, h⟩
          · exact .inr (.inl h)
          · exact .inr (.inr (.inl h))
          · exact .inr (.inr (.inr h))
        clear hv
        have X3 := X.same (same_new (o := .lst [.str "take", .str "take", .str "share", .str "drop", .str "drop", .str "uses", .str "held", .str "new", .str "free", .str "settle", .str "save", .str "restore"]) hl12)
        generalize upd H2 l12 _ = H3 at *
        clear X hq2 hr2 h32 h62 m0 m1 lrc hl12 hmn hmn0 hq11
        walk_at "run1"
        refine w_cut (fun σ H' => ∃ (a b p3 p6 kp t ta tb kn kh : Addr) (S S0 : SpS) (rc : List Int) (v11 v12 v13 v14 : Option V), σ = [some (.ref p), some (.ref q), some (.int B), some (.ref p3), some (.int (0 + (i : Int))), some (.int nu), some (.ref p6), some (.ref p7), some (.ref s), some (.ref kp), some (.ref rp), v11, v12, v13, v14, none] ∧
          KS C H' s a b p3 p6 rp kp t ta tb kn kh q S S0 rc ts B ∧ 0 < rc.length ∧ rc.length ≤ 7 + i) ?_ ?_
        · obtain ⟨dx3, i3⟩ := X3.at_.ins
          unfold spO at i3
          have h33 := X3.sep.get 0 rfl
          have h63 := X3.sep.get 1 rfl
          have hk3 := X3.sep.get 3 rfl
          have hr3 := X3.sep.get 2 rfl
          have l1 := X3.l1
          have l0 := X3.l0
          have len := X3.ok.len
          have len0 := X3.ok0.len
          rcases hact with ⟨A, rfl⟩ | rfl | rfl | rfl
          · -- an act that answers
            have lN : S.nums.length ≠ 2 := by omega
            have noS : actS A ≠ "settle" := by cases A <;> decide
            have noV : actS A ≠ "save" := by cases A <;> decide
            have noR : actS A ≠ "restore" := by cases A <;> decide
            walk_at "run1"
            · rename_i h
              exact absurd h noS
            walk_at "run1"
            · rename_i h
              exact absurd h noV
            walk_at "run1"
            · rename_i h
              exact absurd h noR
            walk_at "run1"
            refine w_cut (fun σ H' => ∃ (z : Int) (v13 : Option V), σ = [some (.ref p), some (.ref q), some (.int B), some (.ref p3), some (.int (0 + (i : Int))), some (.int nu), some (.ref p6), some (.ref p7), some (.ref s), some (.ref kp), some (.ref rp), some (.int z), some (.str (actS A)), v13, v14, none] ∧
              KS C H' s a b p3 p6 rp kp t ta tb kn kh q S S0 rc ts B ∧ (A = .take → 0 ≤ z)) ?_ ?_
            · walk_at "run1"
              · refine w_S2 ⟨p3, p6, S.nums, S.held, rfl, rfl, h33, h63, len, X3.ok.sz, fun H4 l s4 hl4 e4 => ?_⟩
                have X4 := X3.same s4
                walk_at "run1"
                rename_i l5 hl5
                refine w_ixA (SqL.of upd_same) ⟨by omega, by show _ < 7; omega⟩ fun v hv => ?_
                have hy : ∃ y : Int, v = .int y ∧ 0 ≤ y := by
                  have hm := List.mem_of_getElem? hv
                  simp only [List.mem_cons, List.not_mem_nil, or_false] at hm
                  rcases hm with h | h | h | h | h | h | h
                  · exact ⟨_, h, by decide⟩
                  · exact ⟨_, h, by decide⟩
                  · exact ⟨_, h, by decide⟩
                  · exact ⟨_, h, by decide⟩
                  · exact ⟨_, h, by omega⟩
                  · exact ⟨_, h, by omega⟩
                  · exact ⟨_, h, by split <;> omega⟩
                obtain ⟨y, rfl, y0⟩ := hy
                exact ⟨y, _, rfl, X4.same (same_new hl5), fun _ => y0⟩
              · rename_i h
                walk_at "run1"
                exact ⟨z, _, rfl, X3, fun e => absurd (by rw [e]; rfl) h⟩
            · clear X3 hk3 hr3 h33 h63 i3
              rintro σ H4 ⟨z, v13, rfl, X4, hz⟩
              have h34 := X4.sep.get 0 rfl
              have h64 := X4.sep.get 1 rfl
              walk_at "run1"
              refine w_S4 ⟨p3, p6, S.nums, S.held, A, z, rfl, rfl, rfl, rfl, h34, h64, len, X4.ok.sz, hz, fun H5 v rep s5 => ?_⟩
              have X5 := X4.same s5
              walk_at "run1"
              refine w_S3 ⟨s, a, b, S, A, z, rfl, rfl, rfl, X5.at_, X5.ok, hz, fun H6 v2 S' rep2 hS6 ok6 e1 e2 st6 => ?_⟩
              have rep1 := rep.stp X5.at_ lN X5.ok st6
              have sep6 := X5.sep.stp st6
              walk_at "run1"
              refine w_S2 ⟨_, rep2, rep1, ?_⟩
              walk_at "run1"
              clear rep rep2
              have h36 := sep6.get 0 rfl
              have hr6 := sep6.get 2 rfl
              have plain : stepN S.nums S.held A z = S.nums → KS C H6 s a b p3 p6 rp kp t ta tb kn kh q S' S0 rc ts B := fun e => by
                rw [e] at e1
                exact X5.stp hS6 ok6 e1 e2 st6
              cases A with
              | take =>
                have due : dueR S.nums S.held .take z = if ((freeL S.nums S.held).length : Int) ≤ z then .ref "room" else .int ((freeL S.nums S.held).headD 0 : Nat) := rfl
                have hz := hz rfl
                by_cases hlen : ((freeL S.nums S.held).length : Int) ≤ z
                · rw [due, if_pos hlen] at rep1
                  obtain ⟨pv, rfl, ev⟩ := rep1
                  refine w_cutS ?_
                  walk_at "run1"
                  rename_i lq hlq
                  refine w_neD (dt_strs (upd_old ev hlq)) (dt_strs upd_same) (by decide) ⟨_, rfl⟩ ?_
                  walk_at "run1"
                  refine w_cutS ?_
                  walk_at "run1"
                  exact ⟨a, b, p3, p6, kp, t, ta, tb, kn, kh, S', S0, rc, _, _, _, _, rfl, (plain (if_pos hlen)).same (same_new hlq), rc0, by omega⟩
                · cases ef : freeL S.nums S.held with
                  | nil => rw [ef] at hlen; exact absurd hz hlen
                  | cons n tl =>
                    obtain ⟨n1, _, _⟩ := freeL_head ef
                    rw [due, if_neg hlen, ef] at rep1
                    obtain rfl : v = .int (n : Nat) := rep1
                    have e1 : S'.nums = S.nums.set n 1 := e1.trans ((if_neg hlen).trans (by rw [ef]; rfl))
                    refine w_cutS ?_
                    walk_at "run1"
                    rename_i lq hlq
                    refine w_neIL upd_same ?_
                    have sep7 := sep6.same (same_new (o := .lst [.str "refused", .str "room"]) hlq)
                    have hS7 := hS6.same (same_new (o := .lst [.str "refused", .str "room"]) hlq)
                    generalize upd H6 lq _ = H7 at *
                    have h37 := sep7.get 0 rfl
                    walk_at "run1"
                    refine w_setL h37 ⟨by omega, by rw [List.length_map]; omega⟩ ?_
                    have sep8 := sep7.set 0 rfl (.lst ((S.nums.map V.int).set ((n : Nat) : Int).toNat (.int 1)))
                    have hS8 := hS7.oth (o := .lst ((S.nums.map V.int).set ((n : Nat) : Int).toNat (.int 1))) (sep7.far 0 rfl)
                    generalize upd H7 p3 _ = H8 at *
                    have hr8 := sep8.get 2 rfl
                    walk_at "run1"
                    have sep9 := sep8.set 2 rfl (.lst ((rc ++ [(n : Int)]).map V.int))
                    have hS9 := hS8.oth (o := .lst ((rc ++ [(n : Int)]).map V.int)) (sep8.far 2 rfl)
                    refine w_cutS ?_
                    walk_at "run1"
                    refine ⟨a, b, p3, p6, kp, t, ta, tb, kn, kh, S', S0, rc ++ [(n : Int)], _, _, _, _, rfl, ⟨hS9, ok6, X5.ok0, by rw [e1, List.length_set]; exact l1, X5.l0, ?_⟩, by rw [List.length_append]; omega, by rw [List.length_append]; show _ + 1 ≤ _; omega⟩
                    unfold spL
                    rw [e1, e2, List.map_set]
                    exact sep9
              | share =>
                by_cases hb : z < 0 ∨ (S.nums.length : Int) ≤ z ∨ z < 5 ∨ S.nums.getD z.toNat 0 = 0
                · rw [due_share, if_pos hb] at rep1
                  obtain ⟨pv, rfl, ev⟩ := rep1
                  refine w_cutS ?_
                  walk_at "run1"
                  refine w_cutS ?_
                  walk_at "run1"
                  exact ⟨a, b, p3, p6, kp, t, ta, tb, kn, kh, S', S0, rc, _, _, _, _, rfl, plain (if_pos hb), rc0, by omega⟩
                · rw [due_share, if_neg hb] at rep1
                  obtain rfl : v = .non := rep1
                  have e1 : S'.nums = S.nums.set z.toNat (S.nums.getD z.toNat 0 + 1) := e1.trans (if_neg hb)
                  have hz0 : 0 ≤ z ∧ z.toNat < S.nums.length := by omega
                  refine w_cutS ?_
                  walk_at "run1"
                  refine w_cutS ?_
                  walk_at "run1"
                  refine w_setL h36 ⟨by omega, by rw [List.length_map]; omega⟩ ?_
                  have sep7 := sep6.set 0 rfl (.lst ((S.nums.map V.int).set z.toNat (.int (S.nums.getD z.toNat 0 + 1))))
                  have hS7 := hS6.oth (o := .lst ((S.nums.map V.int).set z.toNat (.int (S.nums.getD z.toNat 0 + 1)))) (sep6.far 0 rfl)
                  generalize upd H6 p3 _ = H7 at *
                  walk_at "run1"
                  refine ⟨a, b, p3, p6, kp, t, ta, tb, kn, kh, S', S0, rc, _, _, _, _, rfl, ⟨hS7, ok6, X5.ok0, by rw [e1, List.length_set]; exact l1, X5.l0, ?_⟩, rc0, by omega⟩
                  unfold spL
                  rw [e1, e2, List.map_set]
                  exact sep7
              | drop =>
                by_cases hb : z < 0 ∨ (S.nums.length : Int) ≤ z ∨ z < 5 ∨ S.nums.getD z.toNat 0 = 0
                · rw [due_drop, if_pos hb] at rep1
                  obtain ⟨pv, rfl, ev⟩ := rep1
                  refine w_cutS ?_
                  walk_at "run1"
                  refine w_cutS ?_
                  walk_at "run1"
                  rename_i lq hlq
                  refine w_neD (dt_strs (upd_old ev hlq)) (dt_strs upd_same) (by decide) ⟨_, rfl⟩ ?_
                  walk_at "run1"
                  exact ⟨a, b, p3, p6, kp, t, ta, tb, kn, kh, S', S0, rc, _, _, _, _, rfl, (plain (if_pos hb)).same (same_new hlq), rc0, by omega⟩
                · rw [due_drop, if_neg hb] at rep1
                  obtain rfl : v = .int (S.nums.getD z.toNat 0 - 1) := rep1
                  have e1 : S'.nums = S.nums.set z.toNat (S.nums.getD z.toNat 0 - 1) := e1.trans (if_neg hb)
                  have hz0 : 0 ≤ z ∧ z.toNat < S.nums.length := by omega
                  refine w_cutS ?_
                  walk_at "run1"
                  refine w_cutS ?_
                  walk_at "run1"
                  rename_i lq hlq
                  refine w_neIL upd_same ?_
                  have sep7 := sep6.same (same_new (o := .lst [.str "refused", .str "invalid"]) hlq)
                  have hS7 := hS6.same (same_new (o := .lst [.str "refused", .str "invalid"]) hlq)
                  generalize upd H6 lq _ = H7 at *
                  have h37 := sep7.get 0 rfl
                  walk_at "run1"
                  refine w_setL h37 ⟨by omega, by rw [List.length_map]; omega⟩ ?_
                  have sep8 := sep7.set 0 rfl (.lst ((S.nums.map V.int).set z.toNat (.int (S.nums.getD z.toNat 0 - 1))))
                  have hS8 := hS7.oth (o := .lst ((S.nums.map V.int).set z.toNat (.int (S.nums.getD z.toNat 0 - 1)))) (sep7.far 0 rfl)
                  generalize upd H7 p3 _ = H8 at *
                  walk_at "run1"
                  refine ⟨a, b, p3, p6, kp, t, ta, tb, kn, kh, S', S0, rc, _, _, _, _, rfl, ⟨hS8, ok6, X5.ok0, by rw [e1, List.length_set]; exact l1, X5.l0, ?_⟩, rc0, by omega⟩
                  unfold spL
                  rw [e1, e2, List.map_set]
                  exact sep8
              | uses =>
                refine w_cutS ?_
                walk_at "run1"
                refine w_cutS ?_
                walk_at "run1"
                exact ⟨a, b, p3, p6, kp, t, ta, tb, kn, kh, S', S0, rc, _, _, _, _, rfl, plain rfl, rc0, by omega⟩
              | held =>
                refine w_cutS ?_
                walk_at "run1"
                refine w_cutS ?_
                walk_at "run1"
                exact ⟨a, b, p3, p6, kp, t, ta, tb, kn, kh, S', S0, rc, _, _, _, _, rfl, plain rfl, rc0, by omega⟩
              | new =>
                refine w_cutS ?_
                walk_at "run1"
                refine w_cutS ?_
                walk_at "run1"
                exact ⟨a, b, p3, p6, kp, t, ta, tb, kn, kh, S', S0, rc, _, _, _, _, rfl, plain rfl, rc0, by omega⟩
              | free =>
                refine w_cutS ?_
                walk_at "run1"
                refine w_cutS ?_
                walk_at "run1"
                exact ⟨a, b, p3, p6, kp, t, ta, tb, kn, kh, S', S0, rc, _, _, _, _, rfl, plain rfl, rc0, by omega⟩
          · -- settle
            walk_at "run1"
            refine w_S1 ⟨s, a, b, S, rfl, X3.at_, X3.ok, fun H4 b' hS4 st4 => ?_⟩
            have sep4 := X3.sep.stp st4
            have h34 := sep4.get 0 rfl
            walk_at "run1"
            refine l_pos h34 X3.ok.sz (by show 15 < 16; decide) fun p6' H5 hp6' s5 e5 => ?_
            walk_at "run1"
            have sep5 := sep4.add s5 hp6' (hS4.fresh hp6') e5
            exact ⟨a, b', p3, p6', kp, t, ta, tb, kn, kh, ⟨S.nums, posL S.nums, 0⟩, S0, rc, _, _, _, _, rfl, ⟨hS4.same s5, .zero (posL_len _).symm X3.ok.nn X3.ok.sz, X3.ok0, X3.l1, X3.l0, sep5.pick [1, 0, 3, 4, 5, 6, 7, 8, 9, 10] (by decide)⟩, rc0, by omega⟩
          · -- save
            walk_at "run1"
            refine w_S1 ⟨s, a, b, S, rfl, X3.at_, X3.ok, fun H4 t' ta' tb' s4 ht hta htb n1 n2 n3 et eta etb => ?_⟩
            have sep4 := X3.sep.more (L2 := [(t', .tup [.ref ta', .ref tb']), (ta', .lst (S.nums.map V.int)), (tb', .lst (S.held.map V.bl))]) s4 (by
              intro y hy
              simp only [List.mem_cons, List.not_mem_nil, or_false] at hy
              rcases hy with rfl | rfl | rfl <;> assumption) (by
              intro y hy
              simp only [List.mem_cons, List.not_mem_nil, or_false] at hy
              rcases hy with rfl | rfl | rfl <;> assumption) (by
              intro y hy
              simp only [List.mem_cons, List.not_mem_nil, or_false] at hy
              rcases hy with rfl | rfl | rfl
              · exact X3.at_.fresh ht
              · exact X3.at_.fresh hta
              · exact X3.at_.fresh htb) (by simp [n1, n2, n3])
            have hS4 := X3.at_.same s4
            have h34 := sep4.get 3 rfl
            walk_at "run1"
            refine w_tlist (SqL.of h34) fun kn' hkn => ?_
            have sep5 := sep4.new (o := .lst (S.nums.map V.int)) hkn (hS4.fresh hkn)
            have hS5 := hS4.same (same_new (o := .lst (S.nums.map V.int)) hkn)
            generalize upd H4 kn' _ = H5 at *
            have h65 := sep5.get 5 rfl
            walk_at "run1"
            refine w_tlist (SqL.of h65) fun kh' hkh => ?_
            have sep6 := sep5.new (o := .lst (S.held.map V.bl)) hkh (hS5.fresh hkh)
            have hS6 := hS5.same (same_new (o := .lst (S.held.map V.bl)) hkh)
            generalize upd H5 kh' _ = H6 at *
            walk_at "run1"
            rename_i kp' hkp'
            have sep7 := sep6.new (o := .lst [.ref t', .ref kn', .ref kh']) hkp' (hS6.fresh hkp')
            have hS7 := hS6.same (same_new (o := .lst [.ref t', .ref kn', .ref kh']) hkp')
            exact ⟨a, b, p3, p6, kp', t', ta', tb', kn', kh', S, S, rc, _, _, _, _, rfl, ⟨hS7, X3.ok, X3.ok, X3.l1, X3.l1, sep7.pick [6, 7, 8, 0, 3, 4, 5, 2, 1, 15] (by decide)⟩, rc0, by omega⟩
          · -- restore
            walk_at "run1"
            refine w_S2 ⟨s, a, b, S, t, ta, tb, S0.nums, S0.held, rfl, rfl, X3.at_, X3.sep.get 4 rfl, X3.sep.get 5 rfl, X3.sep.get 6 rfl, X3.ok0.len, by omega, X3.ok0.sz, fun H4 a' b' hS4 st4 => ?_⟩
            have sep4 := X3.sep.stp st4
            have hk4 := sep4.get 3 rfl
            have hn4 := sep4.get 7 rfl
            have hh4 := sep4.get 8 rfl
            walk_at "run1"
            refine w_tlist (SqL.of hn4) fun p3' hp3' => ?_
            have sep5 := sep4.new (o := .lst (S0.nums.map V.int)) hp3' (hS4.fresh hp3')
            have hS5 := hS4.same (same_new (o := .lst (S0.nums.map V.int)) hp3')
            generalize upd H4 p3' _ = H5 at *
            have hk5 := sep5.get 4 rfl
            have hh5 := sep5.get 9 rfl
            walk_at "run1"
            refine w_tlist (SqL.of hh5) fun p6' hp6' => ?_
            have sep6 := sep5.new (o := .lst (S0.held.map V.bl)) hp6' (hS5.fresh hp6')
            have hS6 := hS5.same (same_new (o := .lst (S0.held.map V.bl)) hp6')
            walk_at "run1"
            exact ⟨a', b', p3', p6', kp, t, ta, tb, kn, kh, ⟨S0.nums, S0.held, 0⟩, S0, rc, _, _, _, _, rfl, ⟨hS6, .zero X3.ok0.len X3.ok0.nn X3.ok0.sz, X3.ok0, X3.l0, X3.l0, sep6.pick [1, 0, 4, 5, 6, 7, 8, 9, 10, 11] (by decide)⟩, rc0, by omega⟩
        · clear X3 hact rc0 rc1
          rintro σ H4 ⟨a, b, p3, p6, kp, t, ta, tb, kn, kh, S, S0, rc, v11, v12, v13, v14, rfl, X, rc0, rc1⟩
          walk_at "run1"
          refine w_S3 ⟨s, a, b, p3, p6, S, rfl, rfl, rfl, X.at_, X.ok, X.sep.pick [0, 1] (by decide), fun H5 S' hS5 ok5 e1 e2 st5 => ?_⟩
          walk_at "run1"
          exact ⟨a, b, p3, p6, kp, t, ta, tb, kn, kh, S', S0, rc, _, _, _, _, _, _, rfl, X.stp hS5 ok5 e1 e2 st5, rc0, by omega⟩
    · rintro σ H2 ⟨a, b, p3, p6, kp, t, ta, tb, kn, kh, S, S0, rc, v4, v5, v11, v12, v13, v14, rfl, X, rc0, rc1⟩
      walk_at "run1"
      refine f_range (fun i σ H' => ∃ (S : SpS) (v11 : Option V), σ = [some (.ref p), some (.ref q), some (.int B), some (.ref p3), v4, v5, some (.ref p6), some (.ref p7), some (.ref s), some (.ref kp), some (.ref rp), v11, v12, v13, v14, none] ∧ SpAt C H' s a b S ∧ SpOk S ∧ (S.nums.length : Int) = B ∧ Sep (spF s a b) H' [(p3, .lst (S.nums.map V.int)), (p6, .lst (S.held.map V.bl))])
        ⟨S, v11, rfl, X.at_, X.ok, X.l1, X.sep.pick [0, 1] (by decide)⟩ ?_ ?_
      · rintro i σ H3 hi ⟨S, v11, rfl, hS3, ok3, l3, sep3⟩
        have len := ok3.len
        walk_at "run1"
        refine w_S3 ⟨s, a, b, S, .uses, _, rfl, rfl, rfl, hS3, ok3, (fun h => nomatch h), fun H4 v S4 rep hS4 ok4 e1 e2 st4 => ?_⟩
        have e1 : S4.nums = S.nums := e1
        have sep4 := sep3.stp st4
        have h34 := sep4.get 0 rfl
        walk_at "run1"
        refine w_S2 ⟨_, rep, ?_, ?_⟩
        · unfold dueR
          rw [if_neg (by decide), if_neg (by omega)]
          rfl
        walk_at "run1"
        refine w_S3 ⟨s, a, b, S4, .held, _, rfl, rfl, rfl, hS4, ok4, (fun h => nomatch h), fun H5 v S5 rep hS5 ok5 g1 g2 st5 => ?_⟩
        have g1 : S5.nums = S4.nums := g1
        have sep5 := sep4.stp st5
        have h65 := sep5.get 1 rfl
        walk_at "run1"
        refine w_S2 ⟨_, rep, ?_, ?_⟩
        · rw [e1]
          unfold dueR
          rw [if_neg (by decide), if_neg (by omega), e2]
          rfl
        walk_at "run1"
        exact ⟨S5, _, rfl, hS5, ok5, by rw [g1, e1]; exact l3, by rw [g1, g2, e1, e2]; exact sep5⟩
      · rintro σ H3 ⟨S, v11, rfl, _⟩
        walk_at "run1"
        exact kk _
def topS (i : Nat) : Stmt := PySem.Challenge.pw_laminae_k21_space.main.body.getD i (.Pass ⟨0, 0, 0, 0⟩)
abbrev s_is_between : Stmt := topS 6
theorem sc_is_between : FnScope ["value", "low", "high"] ["value", "low", "high"] (defScope s_is_between) := ⟨rfl, rfl, rfl, by decide +kernel, rfl, by decide +kernel, by decide +kernel⟩
abbrev s_Space___init__ : Stmt := inClass (topS 10) 0
theorem sc_Space___init__ : FnScope ["self", "uses", "many"] ["self", "uses"] (defScope s_Space___init__) := ⟨rfl, rfl, rfl, by decide +kernel, rfl, by decide +kernel, by decide +kernel⟩
abbrev s_Space_count_spare : Stmt := inClass (topS 10) 1
theorem sc_Space_count_spare : FnScope ["self", "many", "held"] ["self"] (defScope s_Space_count_spare) := ⟨rfl, rfl, rfl, by decide +kernel, rfl, by decide +kernel, by decide +kernel⟩
abbrev s_Space_check_block : Stmt := inClass (topS 10) 2
theorem sc_Space_check_block : FnScope ["self", "block"] ["self", "block"] (defScope s_Space_check_block) := ⟨rfl, rfl, rfl, by decide +kernel, rfl, by decide +kernel, by decide +kernel⟩
abbrev s_Space_least_free : Stmt := inClass (topS 10) 3
theorem sc_Space_least_free : FnScope ["self"] ["self"] (defScope s_Space_least_free) := ⟨rfl, rfl, rfl, by decide +kernel, rfl, by decide +kernel, by decide +kernel⟩
abbrev s_Space_take : Stmt := inClass (topS 10) 4
theorem sc_Space_take : FnScope ["self", "reserve", "block"] ["self", "reserve"] (defScope s_Space_take) := ⟨rfl, rfl, rfl, by decide +kernel, rfl, by decide +kernel, by decide +kernel⟩
abbrev s_Space_share : Stmt := inClass (topS 10) 5
theorem sc_Space_share : FnScope ["self", "block"] ["self", "block"] (defScope s_Space_share) := ⟨rfl, rfl, rfl, by decide +kernel, rfl, by decide +kernel, by decide +kernel⟩
abbrev s_Space_drop : Stmt := inClass (topS 10) 6
theorem sc_Space_drop : FnScope ["self", "block"] ["self", "block"] (defScope s_Space_drop) := ⟨rfl, rfl, rfl, by decide +kernel, rfl, by decide +kernel, by decide +kernel⟩
abbrev s_Space_uses : Stmt := inClass (topS 10) 7
theorem sc_Space_uses : FnScope ["self", "block"] ["self", "block"] (defScope s_Space_uses) := ⟨rfl, rfl, rfl, by decide +kernel, rfl, by decide +kernel, by decide +kernel⟩
abbrev s_Space_is_held : Stmt := inClass (topS 10) 8
theorem sc_Space_is_held : FnScope ["self", "block"] ["self", "block"] (defScope s_Space_is_held) := ⟨rfl, rfl, rfl, by decide +kernel, rfl, by decide +kernel, by decide +kernel⟩
abbrev s_Space_is_new : Stmt := inClass (topS 10) 9
theorem sc_Space_is_new : FnScope ["self", "block"] ["self", "block"] (defScope s_Space_is_new) := ⟨rfl, rfl, rfl, by decide +kernel, rfl, by decide +kernel, by decide +kernel⟩
abbrev s_Space_is_free : Stmt := inClass (topS 10) 10
theorem sc_Space_is_free : FnScope ["self", "block"] ["self", "block"] (defScope s_Space_is_free) := ⟨rfl, rfl, rfl, by decide +kernel, rfl, by decide +kernel, by decide +kernel⟩
abbrev s_Space_free : Stmt := inClass (topS 10) 11
theorem sc_Space_free : FnScope ["self"] ["self"] (defScope s_Space_free) := ⟨rfl, rfl, rfl, by decide +kernel, rfl, by decide +kernel, by decide +kernel⟩
abbrev s_Space_pending : Stmt := inClass (topS 10) 12
theorem sc_Space_pending : FnScope ["self", "many", "held"] ["self"] (defScope s_Space_pending) := ⟨rfl, rfl, rfl, by decide +kernel, rfl, by decide +kernel, by decide +kernel⟩
abbrev s_Space_settle : Stmt := inClass (topS 10) 13
theorem sc_Space_settle : FnScope ["self", "many"] ["self"] (defScope s_Space_settle) := ⟨rfl, rfl, rfl, by decide +kernel, rfl, by decide +kernel, by decide +kernel⟩
abbrev s_Space_saved : Stmt := inClass (topS 10) 14
theorem sc_Space_saved : FnScope ["self"] ["self"] (defScope s_Space_saved) := ⟨rfl, rfl, rfl, by decide +kernel, rfl, by decide +kernel, by decide +kernel⟩
abbrev s_Space_restore : Stmt := inClass (topS 10) 15
theorem sc_Space_restore : FnScope ["self", "saved"] ["self", "saved"] (defScope s_Space_restore) := ⟨rfl, rfl, rfl, by decide +kernel, rfl, by decide +kernel, by decide +kernel⟩
abbrev s__law_tape : Stmt := topS 12
theorem sc__law_tape : FnScope ["_law_script", "_law_tape_here", "_law_k", "_law_value", "_law_step"] ["_law_script"] (defScope s__law_tape) := ⟨rfl, rfl, rfl, by decide +kernel, rfl, by decide +kernel, by decide +kernel⟩
abbrev s__law_at : Stmt := topS 13
theorem sc__law_at : FnScope ["_law_tape_here", "_law_k"] ["_law_tape_here", "_law_k"] (defScope s__law_at) := ⟨rfl, rfl, rfl, by decide +kernel, rfl, by decide +kernel, by decide +kernel⟩
abbrev s__law_kind : Stmt := topS 14
theorem sc__law_kind : FnScope ["_law_e"] ["_law_e"] (defScope s__law_kind) := ⟨rfl, rfl, rfl, by decide +kernel, rfl, by decide +kernel, by decide +kernel⟩
abbrev s__law_do : Stmt := topS 15
theorem sc__law_do : FnScope ["_law_space", "_law_act", "_law_block", "_law_e"] ["_law_space", "_law_act", "_law_block"] (defScope s__law_do) := ⟨rfl, rfl, rfl, by decide +kernel, rfl, by decide +kernel, by decide +kernel⟩
abbrev s__law_free : Stmt := topS 16
theorem sc__law_free : FnScope ["_law_numbers", "_law_held", "_law_k"] ["_law_numbers", "_law_held"] (defScope s__law_free) := ⟨rfl, rfl, rfl, by decide +kernel, rfl, by decide +kernel, by decide +kernel⟩
abbrev s__law_due : Stmt := topS 17
theorem sc__law_due : FnScope ["_law_numbers", "_law_held", "_law_act", "_law_block", "_law_free_here"] ["_law_numbers", "_law_held", "_law_act", "_law_block"] (defScope s__law_due) := ⟨rfl, rfl, rfl, by decide +kernel, rfl, by decide +kernel, by decide +kernel⟩
abbrev s__law_same : Stmt := topS 18
theorem sc__law_same : FnScope ["_law_told", "_law_due_here"] ["_law_told", "_law_due_here"] (defScope s__law_same) := ⟨rfl, rfl, rfl, by decide +kernel, rfl, by decide +kernel, by decide +kernel⟩
abbrev s__law_counts : Stmt := topS 19
theorem sc__law_counts : FnScope ["_law_space", "_law_numbers", "_law_held", "_law_free_here", "_law_pending", "_law_least", "_law_k"] ["_law_space", "_law_numbers", "_law_held"] (defScope s__law_counts) := ⟨rfl, rfl, rfl, by decide +kernel, rfl, by decide +kernel, by decide +kernel⟩
abbrev s_law : Stmt := topS 20
theorem sc_law : FnScope ["_law_script", "_law_tape_here", "_law_blocks", "_law_numbers", "_law_k", "_law_number", "_law_held", "_law_passed", "_law_space", "_law_kept", "_law_recent", "_law_block", "_law_act", "_law_free_here", "_law_due_here", "_law_many"] ["_law_script"] (defScope s_law) := ⟨rfl, rfl, rfl, by decide +kernel, rfl, by decide +kernel, by decide +kernel⟩
structure Adr where
  ex : Ex
  f_is_between : Addr
  d_is_between : FuncData
  f_Space___init__ : Addr
  d_Space___init__ : FuncData
  f_Space_count_spare : Addr
  d_Space_count_spare : FuncData
  f_Space_check_block : Addr
  d_Space_check_block : FuncData
  f_Space_least_free : Addr
  d_Space_least_free : FuncData
  f_Space_take : Addr
  d_Space_take : FuncData
  f_Space_share : Addr
  d_Space_share : FuncData
  f_Space_drop : Addr
  d_Space_drop : FuncData
  f_Space_uses : Addr
  d_Space_uses : FuncData
  f_Space_is_held : Addr
  d_Space_is_held : FuncData
  f_Space_is_new : Addr
  d_Space_is_new : FuncData
  f_Space_is_free : Addr
  d_Space_is_free : FuncData
  f_Space_free : Addr
  d_Space_free : FuncData
  f_Space_pending : Addr
  d_Space_pending : FuncData
  f_Space_settle : Addr
  d_Space_settle : FuncData
  f_Space_saved : Addr
  d_Space_saved : FuncData
  f_Space_restore : Addr
  d_Space_restore : FuncData
  f__law_tape : Addr
  d__law_tape : FuncData
  f__law_at : Addr
  d__law_at : FuncData
  f__law_kind : Addr
  d__law_kind : FuncData
  f__law_do : Addr
  d__law_do : FuncData
  f__law_free : Addr
  d__law_free : FuncData
  f__law_due : Addr
  d__law_due : FuncData
  f__law_same : Addr
  d__law_same : FuncData
  f__law_counts : Addr
  d__law_counts : FuncData
  f_law : Addr
  d_law : FuncData
structure Top (K : PySem.W.Frag) (mg : Str → Option Value) (A : Adr) : Prop where
  F_is_between : Fun K "is_between" "is_between" s_is_between A.f_is_between A.d_is_between
  b_is_between : Binds K A.d_is_between ["value", "low", "high"] []
  g_is_between : mg "is_between" = some (.ref A.f_is_between)
  F_Space___init__ : Fun K "__init__" "Space.__init__" s_Space___init__ A.f_Space___init__ A.d_Space___init__
  b_Space___init__ : Binds K A.d_Space___init__ ["self", "uses"] []
  F_Space_count_spare : Fun K "count_spare" "Space.count_spare" s_Space_count_spare A.f_Space_count_spare A.d_Space_count_spare
  b_Space_count_spare : Binds K A.d_Space_count_spare ["self"] []
  m_Space_count_spare : Meth K A.ex.Space "count_spare" A.f_Space_count_spare
  F_Space_check_block : Fun K "check_block" "Space.check_block" s_Space_check_block A.f_Space_check_block A.d_Space_check_block
  b_Space_check_block : Binds K A.d_Space_check_block ["self", "block"] []
  m_Space_check_block : Meth K A.ex.Space "check_block" A.f_Space_check_block
  F_Space_least_free : Fun K "least_free" "Space.least_free" s_Space_least_free A.f_Space_least_free A.d_Space_least_free
  b_Space_least_free : Binds K A.d_Space_least_free ["self"] []
  m_Space_least_free : Meth K A.ex.Space "least_free" A.f_Space_least_free
  F_Space_take : Fun K "take" "Space.take" s_Space_take A.f_Space_take A.d_Space_take
  b_Space_take : Binds K A.d_Space_take ["self", "reserve"] []
  m_Space_take : Meth K A.ex.Space "take" A.f_Space_take
  F_Space_share : Fun K "share" "Space.share" s_Space_share A.f_Space_share A.d_Space_share
  b_Space_share : Binds K A.d_Space_share ["self", "block"] []
  m_Space_share : Meth K A.ex.Space "share" A.f_Space_share
  F_Space_drop : Fun K "drop" "Space.drop" s_Space_drop A.f_Space_drop A.d_Space_drop
  b_Space_drop : Binds K A.d_Space_drop ["self", "block"] []
  m_Space_drop : Meth K A.ex.Space "drop" A.f_Space_drop
  F_Space_uses : Fun K "uses" "Space.uses" s_Space_uses A.f_Space_uses A.d_Space_uses
  b_Space_uses : Binds K A.d_Space_uses ["self", "block"] []
  m_Space_uses : Meth K A.ex.Space "uses" A.f_Space_uses
  F_Space_is_held : Fun K "is_held" "Space.is_held" s_Space_is_held A.f_Space_is_held A.d_Space_is_held
  b_Space_is_held : Binds K A.d_Space_is_held ["self", "block"] []
  m_Space_is_held : Meth K A.ex.Space "is_held" A.f_Space_is_held
  F_Space_is_new : Fun K "is_new" "Space.is_new" s_Space_is_new A.f_Space_is_new A.d_Space_is_new
  b_Space_is_new : Binds K A.d_Space_is_new ["self", "block"] []
  m_Space_is_new : Meth K A.ex.Space "is_new" A.f_Space_is_new
  F_Space_is_free : Fun K "is_free" "Space.is_free" s_Space_is_free A.f_Space_is_free A.d_Space_is_free
  b_Space_is_free : Binds K A.d_Space_is_free ["self", "block"] []
  m_Space_is_free : Meth K A.ex.Space "is_free" A.f_Space_is_free
  F_Space_free : Fun K "free" "Space.free" s_Space_free A.f_Space_free A.d_Space_free
  b_Space_free : Binds K A.d_Space_free ["self"] []
  m_Space_free : Meth K A.ex.Space "free" A.f_Space_free
  F_Space_pending : Fun K "pending" "Space.pending" s_Space_pending A.f_Space_pending A.d_Space_pending
  b_Space_pending : Binds K A.d_Space_pending ["self"] []
  m_Space_pending : Meth K A.ex.Space "pending" A.f_Space_pending
  F_Space_settle : Fun K "settle" "Space.settle" s_Space_settle A.f_Space_settle A.d_Space_settle
  b_Space_settle : Binds K A.d_Space_settle ["self"] []
  m_Space_settle : Meth K A.ex.Space "settle" A.f_Space_settle
  F_Space_saved : Fun K "saved" "Space.saved" s_Space_saved A.f_Space_saved A.d_Space_saved
  b_Space_saved : Binds K A.d_Space_saved ["self"] []
  m_Space_saved : Meth K A.ex.Space "saved" A.f_Space_saved
  F_Space_restore : Fun K "restore" "Space.restore" s_Space_restore A.f_Space_restore A.d_Space_restore
  b_Space_restore : Binds K A.d_Space_restore ["self", "saved"] []
  m_Space_restore : Meth K A.ex.Space "restore" A.f_Space_restore
  F__law_tape : Fun K "_law_tape" "_law_tape" s__law_tape A.f__law_tape A.d__law_tape
  b__law_tape : Binds K A.d__law_tape ["_law_script"] []
  g__law_tape : mg "_law_tape" = some (.ref A.f__law_tape)
  F__law_at : Fun K "_law_at" "_law_at" s__law_at A.f__law_at A.d__law_at
  b__law_at : Binds K A.d__law_at ["_law_tape_here", "_law_k"] []
  g__law_at : mg "_law_at" = some (.ref A.f__law_at)
  F__law_kind : Fun K "_law_kind" "_law_kind" s__law_kind A.f__law_kind A.d__law_kind
  b__law_kind : Binds K A.d__law_kind ["_law_e"] []
  g__law_kind : mg "_law_kind" = some (.ref A.f__law_kind)
  F__law_do : Fun K "_law_do" "_law_do" s__law_do A.f__law_do A.d__law_do
  b__law_do : Binds K A.d__law_do ["_law_space", "_law_act", "_law_block"] []
  g__law_do : mg "_law_do" = some (.ref A.f__law_do)
  F__law_free : Fun K "_law_free" "_law_free" s__law_free A.f__law_free A.d__law_free
  b__law_free : Binds K A.d__law_free ["_law_numbers", "_law_held"] []
  g__law_free : mg "_law_free" = some (.ref A.f__law_free)
  F__law_due : Fun K "_law_due" "_law_due" s__law_due A.f__law_due A.d__law_due
  b__law_due : Binds K A.d__law_due ["_law_numbers", "_law_held", "_law_act", "_law_block"] []
  g__law_due : mg "_law_due" = some (.ref A.f__law_due)
  F__law_same : Fun K "_law_same" "_law_same" s__law_same A.f__law_same A.d__law_same
  b__law_same : Binds K A.d__law_same ["_law_told", "_law_due_here"] []
  g__law_same : mg "_law_same" = some (.ref A.f__law_same)
  F__law_counts : Fun K "_law_counts" "_law_counts" s__law_counts A.f__law_counts A.d__law_counts
  b__law_counts : Binds K A.d__law_counts ["_law_space", "_law_numbers", "_law_held"] []
  g__law_counts : mg "_law_counts" = some (.ref A.f__law_counts)
  F_law : Fun K "law" "law" s_law A.f_law A.d_law
  b_law : Binds K A.d_law ["_law_script"] []
  g_law : mg "law" = some (.ref A.f_law)
  n_abs : mg "abs" = none
  n_bool : mg "bool" = none
  n_int : mg "int" = none
  n_isinstance : mg "isinstance" = none
  n_len : mg "len" = none
  n_list : mg "list" = none
  n_max : mg "max" = none
  n_min : mg "min" = none
  n_range : mg "range" = none
  n_zip : mg "zip" = none
  k_ADD : ∃ t, mg "ADD" = some (.int 60 t)
  k_FIRST_BLOCK : ∃ t, mg "FIRST_BLOCK" = some (.int 5 t)
  k_REMOVE : ∃ t, mg "REMOVE" = some (.int 20 t)
  x_LaminaError : Exc K mg "LaminaError" A.ex.LaminaError
  x_NoSpace : Exc K mg "NoSpace" A.ex.NoSpace
  x_NotValid : Exc K mg "NotValid" A.ex.NotValid
  n_Space_blocks : NoAttr K A.ex.Space "blocks"
  n_Space_held : NoAttr K A.ex.Space "held"
  n_Space_low : NoAttr K A.ex.Space "low"
  n_Space_numbers : NoAttr K A.ex.Space "numbers"
  n_Space_spare : NoAttr K A.ex.Space "spare"
  c_Space : Cls K A.ex.Space
  M_Space : Mk K A.ex.Space A.f_Space___init__
  gC_Space : mg "Space" = some (.ref A.ex.Space)
  fa : Fa K A.ex
section
variable {P : Program} {w : World} {K : PySem.W.Frag} {mg : Str → Option Value} {base : Heap} {A : Adr}
theorem ok_is_between (T : Top K mg A) : FnOk P w K mg base (L2.CX P w) 1 A.f_is_between A.d_is_between ["value", "low", "high"] (sp_is_between K A.ex) := by
  refine T.F_is_between.okX sc_is_between (fun vs H Q E h => len3 h) (fun cdv Ar outer s H vs Q E hr h => ⟨t_is_between K A.ex E, ?_, pure_is_between T.fa h⟩)
  have tk : Takes (cxOf (L2.CX P w) P w K mg base ["value", "low", "high"] "is_between" (defScope s_is_between) A.f_is_between cdv Ar outer s H E) (WB E) := takes_of rfl rfl rfl rfl
  have hu := hu_of hr
  have hl := Nat.lt_of_succ_lt hu
  exact pss_cons (ps_if (PW.pt (pw_or (pt_not (t_tru (pe_callB (c_isi .int) (by rfl) T.n_isinstance (by decide +kernel) (pa_cons (pv 0) (pa_cons (pe_bltn rfl T.n_int (by decide +kernel) rfl) (pa_nil)))))) (pw_or1 (t_tru (pe_callB (c_isi .bool) (by rfl) T.n_isinstance (by decide +kernel) (pa_cons (pv 0) (pa_cons (pe_bltn rfl T.n_bool (by decide +kernel) rfl) (pa_nil)))))))) (pss_one (ps_ret (pe_bl))) (pss_nil))
        (pss_one (ps_ret (pe_chain (o_le hl) (o_le hl) (pv 1) (pv 0) (pv 2))))
theorem ok_Space_count_spare (T : Top K mg A) : FnOk P w K mg base (L2.CX P w) 1 A.f_Space_count_spare A.d_Space_count_spare ["self"] (sp_Space_count_spare K A.ex) := by
  refine T.F_Space_count_spare.okX sc_Space_count_spare (fun vs H Q E h => len1 h) (fun cdv Ar outer s H vs Q E hr h => ⟨t_Space_count_spare K A.ex E, ?_, pure_Space_count_spare T.fa h⟩)
  have tk : Takes (cxOf (L2.CX P w) P w K mg base ["self", "many", "held"] "Space.count_spare" (defScope s_Space_count_spare) A.f_Space_count_spare cdv Ar outer s H E) (WB E) := takes_of rfl rfl rfl rfl
  exact pss_cons (s_fld T.c_Space T.n_Space_spare (pv 0) (pe_callB (c_len) (by rfl) T.n_len (by decide +kernel) (pa_cons (pe_lc (own := [("many", 1), ("held", 2)]) (by rfl) sc_Space_count_spare.nd (pi_zip (by rfl) T.n_zip (pa_cons (e_fld T.c_Space T.n_Space_numbers (pv 0)) (pa_cons (e_fld T.c_Space T.n_Space_held (pv 0)) (pa_nil)))) (blkOk_by (N := ["self", "many", "held"]) (sc := defScope s_Space_count_spare) (by decide +kernel)) (fun _ _ _ _ _ => pg_tup rfl (pgs_cons (pg_name (i := 1) sc_Space_count_spare.nd rfl (Or.inl rfl)) (pgs_cons (pg_name (i := 2) sc_Space_count_spare.nd rfl (Or.inl rfl)) (pgs_nil)))) (fun _ _ _ _ _ => pts_one (PW.pt (pw_and (pt_cmpR (o_eq hr.units) (pv 1) (pe_int) (nomark _)) (pw_and1 (pt_not (t_tru (pv 2))))))) (fun _ _ _ _ _ => pv 1)) (pa_nil))))
        (pss_one (s_fld T.c_Space T.n_Space_low (pv 0) (pe_int)))
theorem ok_Space___init__ (T : Top K mg A) : FnOk P w K mg base (L2.CX P w) 2 A.f_Space___init__ A.d_Space___init__ ["self", "uses"] (sp_Space___init__ K A.ex) := by
  refine T.F_Space___init__.okX sc_Space___init__ (fun vs H Q E h => len2 h) (fun cdv Ar outer s H vs Q E hr h => ⟨t_Space___init__ K A.ex E, ?_, pure_Space___init__ T.fa h⟩)
  have tk : Takes (cxOf (L2.CX P w) P w K mg base ["self", "uses", "many"] "Space.__init__" (defScope s_Space___init__) A.f_Space___init__ cdv Ar outer s H E) (WB E) := takes_of rfl rfl rfl rfl
  exact pss_cons (s_fld T.c_Space T.n_Space_blocks (pv 0) (pe_callB (c_len) (by rfl) T.n_len (by decide +kernel) (pa_cons (pv 1) (pa_nil))))
        (pss_cons (s_fld T.c_Space T.n_Space_numbers (pv 0) (pe_callTy (c_list) (by rfl) T.n_list (by decide +kernel) (pa_cons (pv 1) (pa_nil))))
        (pss_cons (s_fld T.c_Space T.n_Space_held (pv 0) (pe_lc (own := [("many", 2)]) (by rfl) sc_Space___init__.nd (pi_list (pv 1)) (blkOk_by (N := ["self", "uses", "many"]) (sc := defScope s_Space___init__) (by decide +kernel)) (fun _ _ _ _ _ => pg_name (i := 2) sc_Space___init__.nd rfl (Or.inl rfl)) (fun _ _ _ _ _ => pts_nil) (fun _ _ _ _ _ => pe_cmpR (o_gt) (pv 2) (pe_int) (nomark _))))
        (pss_cons (s_fld T.c_Space T.n_Space_spare (pv 0) (pe_int))
        (pss_cons (s_fld T.c_Space T.n_Space_low (pv 0) (pe_int))
        (pss_one (ps_expr (e_meth0 (pv 0) T.c_Space T.m_Space_count_spare (ok_Space_count_spare T) (hr.mono (by decide)) T.b_Space_count_spare tk)))))))
theorem ok_Space_check_block (T : Top K mg A) : FnOk P w K mg base (L2.CX P w) 2 A.f_Space_check_block A.d_Space_check_block ["self", "block"] (sp_Space_check_block K A.ex) := by
  refine T.F_Space_check_block.okX sc_Space_check_block (fun vs H Q E h => len2 h) (fun cdv Ar outer s H vs Q E hr h => ⟨t_Space_check_block K A.ex E, ?_, pure_Space_check_block T.fa h⟩)
  have tk : Takes (cxOf (L2.CX P w) P w K mg base ["self", "block"] "Space.check_block" (defScope s_Space_check_block) A.f_Space_check_block cdv Ar outer s H E) (WB E) := takes_of rfl rfl rfl rfl
  exact pss_one (ps_if (pt_not (t_tru (e_call (ok_is_between T) (hr.mono (by decide)) T.g_is_between T.F_is_between.kp T.b_is_between tk (pa_cons (pv 1) (pa_cons (pe_int) (pa_cons (pe_op o_sub (e_fld T.c_Space T.n_Space_blocks (pv 0)) (pe_int)) (pa_nil))))))) (pss_one (s_raise T.x_NotValid tk)) (pss_nil))
theorem ok_Space_least_free (T : Top K mg A) : FnOk P w K mg base (L2.CX P w) 1 A.f_Space_least_free A.d_Space_least_free ["self"] (sp_Space_least_free K A.ex) := by
  refine T.F_Space_least_free.okX sc_Space_least_free (fun vs H Q E h => len1 h) (fun cdv Ar outer s H vs Q E hr h => ⟨t_Space_least_free K A.ex E, ?_, pure_Space_least_free T.fa h⟩)
  have tk : Takes (cxOf (L2.CX P w) P w K mg base ["self"] "Space.least_free" (defScope s_Space_least_free) A.f_Space_least_free cdv Ar outer s H E) (WB E) := takes_of rfl rfl rfl rfl
  have po : PassesOwn (model P w) (cxOf (L2.CX P w) P w K mg base ["self"] "Space.least_free" (defScope s_Space_least_free) A.f_Space_least_free cdv Ar outer s H E).A (cxOf (L2.CX P w) P w K mg base ["self"] "Space.least_free" (defScope s_Space_least_free) A.f_Space_least_free cdv Ar outer s H E).env (cxOf (L2.CX P w) P w K mg base ["self"] "Space.least_free" (defScope s_Space_least_free) A.f_Space_least_free cdv Ar outer s H E).xe := passes_of rfl
  exact pss_cons (ps_if (pt_cmpR (o_eq hr.units) (e_fld T.c_Space T.n_Space_spare (pv 0)) (pe_int) (nomark _)) (pss_one (ps_ret (pe_non))) (pss_nil))
        (pss_cons (ps_while po (PW.pt (pw_or (pt_cmpR (o_gt) (e_ix (e_fld T.c_Space T.n_Space_numbers (pv 0)) (e_fld T.c_Space T.n_Space_low (pv 0))) (pe_int) (nomark _)) (pw_or1 (t_tru (e_ix (e_fld T.c_Space T.n_Space_held (pv 0)) (e_fld T.c_Space T.n_Space_low (pv 0)))))))
        (pss_one (s_augf T.c_Space T.n_Space_low (pv 0) (pe_int) in_add)))
        (pss_one (ps_ret (e_fld T.c_Space T.n_Space_low (pv 0)))))
theorem ok_Space_take (T : Top K mg A) : FnOk P w K mg base (L2.CX P w) 2 A.f_Space_take A.d_Space_take ["self", "reserve"] (sp_Space_take K A.ex) := by
  refine T.F_Space_take.okX sc_Space_take (fun vs H Q E h => len2 h) (fun cdv Ar outer s H vs Q E hr h => ⟨t_Space_take K A.ex E, ?_, pure_Space_take T.fa h⟩)
  have tk : Takes (cxOf (L2.CX P w) P w K mg base ["self", "reserve", "block"] "Space.take" (defScope s_Space_take) A.f_Space_take cdv Ar outer s H E) (WB E) := takes_of rfl rfl rfl rfl
  have hu := hu_of hr
  have hl := Nat.lt_of_succ_lt hu
  exact pss_cons (ps_if (pt_cmpR (o_le hl) (e_fld T.c_Space T.n_Space_spare (pv 0)) (pv 1) (nomark _)) (pss_one (s_raise T.x_NoSpace tk)) (pss_nil))
        (pss_cons (ps_set (i := 2) sc_Space_take.nd rfl (Or.inl rfl) (e_meth0 (pv 0) T.c_Space T.m_Space_least_free (ok_Space_least_free T) (hr.mono (by decide)) T.b_Space_least_free tk))
        (pss_cons (ps_asg (pe_int) (pg_sub (e_fld T.c_Space T.n_Space_numbers (pv 0)) (pv 2) (set_u hu)))
        (pss_cons (s_augf T.c_Space T.n_Space_spare (pv 0) (pe_int) in_sub)
        (pss_one (ps_ret (pv 2))))))
theorem ok_Space_share (T : Top K mg A) : FnOk P w K mg base (L2.CX P w) 3 A.f_Space_share A.d_Space_share ["self", "block"] (sp_Space_share K A.ex) := by
  refine T.F_Space_share.okX sc_Space_share (fun vs H Q E h => len2 h) (fun cdv Ar outer s H vs Q E hr h => ⟨t_Space_share K A.ex E, ?_, pure_Space_share T.fa h⟩)
  have tk : Takes (cxOf (L2.CX P w) P w K mg base ["self", "block"] "Space.share" (defScope s_Space_share) A.f_Space_share cdv Ar outer s H E) (WB E) := takes_of rfl rfl rfl rfl
  have hu := hu_of hr
  have hl := Nat.lt_of_succ_lt hu
  exact pss_cons (ps_expr (e_meth (pv 0) T.c_Space T.m_Space_check_block (ok_Space_check_block T) (hr.mono (by decide)) T.b_Space_check_block tk (pa_cons (pv 1) (pa_nil))))
        (pss_cons (ps_if (PW.pt (pw_or (pt_cmpR (o_lt hl) (pv 1) (pe_glob rfl T.k_FIRST_BLOCK.choose_spec ⟨_, rfl⟩) (nomark _)) (pw_or1 (pt_cmpR (o_eq hr.units) (e_ix (e_fld T.c_Space T.n_Space_numbers (pv 0)) (pv 1)) (pe_int) (nomark _))))) (pss_one (s_raise T.x_NotValid tk)) (pss_nil))
        (pss_one (ps_augS (e_fld T.c_Space T.n_Space_numbers (pv 0)) (pv 1) (get_u hu) (pe_int) ip_add (set_u hu))))
theorem ok_Space_is_free (T : Top K mg A) : FnOk P w K mg base (L2.CX P w) 3 A.f_Space_is_free A.d_Space_is_free ["self", "block"] (sp_Space_is_free K A.ex) := by
  refine T.F_Space_is_free.okX sc_Space_is_free (fun vs H Q E h => len2 h) (fun cdv Ar outer s H vs Q E hr h => ⟨t_Space_is_free K A.ex E, ?_, pure_Space_is_free T.fa h⟩)
  have tk : Takes (cxOf (L2.CX P w) P w K mg base ["self", "block"] "Space.is_free" (defScope s_Space_is_free) A.f_Space_is_free cdv Ar outer s H E) (WB E) := takes_of rfl rfl rfl rfl
  exact pss_cons (ps_expr (e_meth (pv 0) T.c_Space T.m_Space_check_block (ok_Space_check_block T) (hr.mono (by decide)) T.b_Space_check_block tk (pa_cons (pv 1) (pa_nil))))
        (pss_one (ps_ret (pe_and (pe_cmpR (o_eq hr.units) (e_ix (e_fld T.c_Space T.n_Space_numbers (pv 0)) (pv 1)) (pe_int) (nomark _)) (pe_one (pe_not (e_ix (e_fld T.c_Space T.n_Space_held (pv 0)) (pv 1)))))))
theorem ok_Space_drop (T : Top K mg A) : FnOk P w K mg base (L2.CX P w) 4 A.f_Space_drop A.d_Space_drop ["self", "block"] (sp_Space_drop K A.ex) := by
  refine T.F_Space_drop.okX sc_Space_drop (fun vs H Q E h => len2 h) (fun cdv Ar outer s H vs Q E hr h => ⟨t_Space_drop K A.ex E, ?_, pure_Space_drop T.fa h⟩)
  have tk : Takes (cxOf (L2.CX P w) P w K mg base ["self", "block"] "Space.drop" (defScope s_Space_drop) A.f_Space_drop cdv Ar outer s H E) (WB E) := takes_of rfl rfl rfl rfl
  have hu := hu_of hr
  have hl := Nat.lt_of_succ_lt hu
  exact pss_cons (ps_expr (e_meth (pv 0) T.c_Space T.m_Space_check_block (ok_Space_check_block T) (hr.mono (by decide)) T.b_Space_check_block tk (pa_cons (pv 1) (pa_nil))))
        (pss_cons (ps_if (PW.pt (pw_or (pt_cmpR (o_lt hl) (pv 1) (pe_glob rfl T.k_FIRST_BLOCK.choose_spec ⟨_, rfl⟩) (nomark _)) (pw_or1 (pt_cmpR (o_eq hr.units) (e_ix (e_fld T.c_Space T.n_Space_numbers (pv 0)) (pv 1)) (pe_int) (nomark _))))) (pss_one (s_raise T.x_NotValid tk)) (pss_nil))
        (pss_cons (ps_augS (e_fld T.c_Space T.n_Space_numbers (pv 0)) (pv 1) (get_u hu) (pe_int) ip_sub (set_u hu))
        (pss_cut (ps_if (t_tru (e_meth (pv 0) T.c_Space T.m_Space_is_free (ok_Space_is_free T) (hr.mono (by decide)) T.b_Space_is_free tk (pa_cons (pv 1) (pa_nil)))) (pss_cons (s_augf T.c_Space T.n_Space_spare (pv 0) (pe_int) in_add)
        (pss_one (s_fld T.c_Space T.n_Space_low (pv 0) (pe_callB (c_min rfl) (by rfl) T.n_min (by decide +kernel) (pa_cons (e_fld T.c_Space T.n_Space_low (pv 0)) (pa_cons (pv 1) (pa_nil))))))) (pss_nil))
        (pss_one (ps_ret (e_ix (e_fld T.c_Space T.n_Space_numbers (pv 0)) (pv 1)))))))
theorem ok_Space_uses (T : Top K mg A) : FnOk P w K mg base (L2.CX P w) 3 A.f_Space_uses A.d_Space_uses ["self", "block"] (sp_Space_uses K A.ex) := by
  refine T.F_Space_uses.okX sc_Space_uses (fun vs H Q E h => len2 h) (fun cdv Ar outer s H vs Q E hr h => ⟨t_Space_uses K A.ex E, ?_, pure_Space_uses T.fa h⟩)
  have tk : Takes (cxOf (L2.CX P w) P w K mg base ["self", "block"] "Space.uses" (defScope s_Space_uses) A.f_Space_uses cdv Ar outer s H E) (WB E) := takes_of rfl rfl rfl rfl
  exact pss_cons (ps_expr (e_meth (pv 0) T.c_Space T.m_Space_check_block (ok_Space_check_block T) (hr.mono (by decide)) T.b_Space_check_block tk (pa_cons (pv 1) (pa_nil))))
        (pss_one (ps_ret (e_ix (e_fld T.c_Space T.n_Space_numbers (pv 0)) (pv 1))))
theorem ok_Space_is_held (T : Top K mg A) : FnOk P w K mg base (L2.CX P w) 3 A.f_Space_is_held A.d_Space_is_held ["self", "block"] (sp_Space_is_held K A.ex) := by
  refine T.F_Space_is_held.okX sc_Space_is_held (fun vs H Q E h => len2 h) (fun cdv Ar outer s H vs Q E hr h => ⟨t_Space_is_held K A.ex E, ?_, pure_Space_is_held T.fa h⟩)
  have tk : Takes (cxOf (L2.CX P w) P w K mg base ["self", "block"] "Space.is_held" (defScope s_Space_is_held) A.f_Space_is_held cdv Ar outer s H E) (WB E) := takes_of rfl rfl rfl rfl
  exact pss_cons (ps_expr (e_meth (pv 0) T.c_Space T.m_Space_check_block (ok_Space_check_block T) (hr.mono (by decide)) T.b_Space_check_block tk (pa_cons (pv 1) (pa_nil))))
        (pss_one (ps_ret (e_ix (e_fld T.c_Space T.n_Space_held (pv 0)) (pv 1))))
theorem ok_Space_is_new (T : Top K mg A) : FnOk P w K mg base (L2.CX P w) 3 A.f_Space_is_new A.d_Space_is_new ["self", "block"] (sp_Space_is_new K A.ex) := by
  refine T.F_Space_is_new.okX sc_Space_is_new (fun vs H Q E h => len2 h) (fun cdv Ar outer s H vs Q E hr h => ⟨t_Space_is_new K A.ex E, ?_, pure_Space_is_new T.fa h⟩)
  have tk : Takes (cxOf (L2.CX P w) P w K mg base ["self", "block"] "Space.is_new" (defScope s_Space_is_new) A.f_Space_is_new cdv Ar outer s H E) (WB E) := takes_of rfl rfl rfl rfl
  exact pss_cons (ps_expr (e_meth (pv 0) T.c_Space T.m_Space_check_block (ok_Space_check_block T) (hr.mono (by decide)) T.b_Space_check_block tk (pa_cons (pv 1) (pa_nil))))
        (pss_one (ps_ret (pe_and (pe_cmpR (o_gt) (e_ix (e_fld T.c_Space T.n_Space_numbers (pv 0)) (pv 1)) (pe_int) (nomark _)) (pe_one (pe_not (e_ix (e_fld T.c_Space T.n_Space_held (pv 0)) (pv 1)))))))
theorem ok_Space_free (T : Top K mg A) : FnOk P w K mg base (L2.CX P w) 1 A.f_Space_free A.d_Space_free ["self"] (sp_Space_free K A.ex) := by
  refine T.F_Space_free.okX sc_Space_free (fun vs H Q E h => len1 h) (fun cdv Ar outer s H vs Q E hr h => ⟨t_Space_free K A.ex E, ?_, pure_Space_free T.fa h⟩)
  have tk : Takes (cxOf (L2.CX P w) P w K mg base ["self"] "Space.free" (defScope s_Space_free) A.f_Space_free cdv Ar outer s H E) (WB E) := takes_of rfl rfl rfl rfl
  exact pss_one (ps_ret (e_fld T.c_Space T.n_Space_spare (pv 0)))
theorem ok_Space_pending (T : Top K mg A) : FnOk P w K mg base (L2.CX P w) 1 A.f_Space_pending A.d_Space_pending ["self"] (sp_Space_pending K A.ex) := by
  refine T.F_Space_pending.okX sc_Space_pending (fun vs H Q E h => len1 h) (fun cdv Ar outer s H vs Q E hr h => ⟨t_Space_pending K A.ex E, ?_, pure_Space_pending T.fa h⟩)
  have tk : Takes (cxOf (L2.CX P w) P w K mg base ["self", "many", "held"] "Space.pending" (defScope s_Space_pending) A.f_Space_pending cdv Ar outer s H E) (WB E) := takes_of rfl rfl rfl rfl
  exact pss_one (ps_ret (pe_callB (c_len) (by rfl) T.n_len (by decide +kernel) (pa_cons (pe_lc (own := [("many", 1), ("held", 2)]) (by rfl) sc_Space_pending.nd (pi_zip (by rfl) T.n_zip (pa_cons (e_fld T.c_Space T.n_Space_numbers (pv 0)) (pa_cons (e_fld T.c_Space T.n_Space_held (pv 0)) (pa_nil)))) (blkOk_by (N := ["self", "many", "held"]) (sc := defScope s_Space_pending) (by decide +kernel)) (fun _ _ _ _ _ => pg_tup rfl (pgs_cons (pg_name (i := 1) sc_Space_pending.nd rfl (Or.inl rfl)) (pgs_cons (pg_name (i := 2) sc_Space_pending.nd rfl (Or.inl rfl)) (pgs_nil)))) (fun _ _ _ _ _ => pts_one (PW.pt (pw_and (pt_cmpR (o_eq hr.units) (pv 1) (pe_int) (nomark _)) (pw_and1 (t_tru (pv 2)))))) (fun _ _ _ _ _ => pv 1)) (pa_nil))))
theorem ok_Space_settle (T : Top K mg A) : FnOk P w K mg base (L2.CX P w) 2 A.f_Space_settle A.d_Space_settle ["self"] (sp_Space_settle K A.ex) := by
  refine T.F_Space_settle.okX sc_Space_settle (fun vs H Q E h => len1 h) (fun cdv Ar outer s H vs Q E hr h => ⟨t_Space_settle K A.ex E, ?_, pure_Space_settle T.fa h⟩)
  have tk : Takes (cxOf (L2.CX P w) P w K mg base ["self", "many"] "Space.settle" (defScope s_Space_settle) A.f_Space_settle cdv Ar outer s H E) (WB E) := takes_of rfl rfl rfl rfl
  exact pss_cons (s_fld T.c_Space T.n_Space_held (pv 0) (pe_lc (own := [("many", 1)]) (by rfl) sc_Space_settle.nd (pi_list (e_fld T.c_Space T.n_Space_numbers (pv 0))) (blkOk_by (N := ["self", "many"]) (sc := defScope s_Space_settle) (by decide +kernel)) (fun _ _ _ _ _ => pg_name (i := 1) sc_Space_settle.nd rfl (Or.inl rfl)) (fun _ _ _ _ _ => pts_nil) (fun _ _ _ _ _ => pe_cmpR (o_gt) (pv 1) (pe_int) (nomark _))))
        (pss_one (ps_expr (e_meth0 (pv 0) T.c_Space T.m_Space_count_spare (ok_Space_count_spare T) (hr.mono (by decide)) T.b_Space_count_spare tk)))
theorem ok_Space_saved (T : Top K mg A) : FnOk P w K mg base (L2.CX P w) 1 A.f_Space_saved A.d_Space_saved ["self"] (sp_Space_saved K A.ex) := by
  refine T.F_Space_saved.okX sc_Space_saved (fun vs H Q E h => len1 h) (fun cdv Ar outer s H vs Q E hr h => ⟨t_Space_saved K A.ex E, ?_, pure_Space_saved T.fa h⟩)
  have tk : Takes (cxOf (L2.CX P w) P w K mg base ["self"] "Space.saved" (defScope s_Space_saved) A.f_Space_saved cdv Ar outer s H E) (WB E) := takes_of rfl rfl rfl rfl
  exact pss_one (ps_ret (pe_tup (pa_cons (pe_callTy (c_list) (by rfl) T.n_list (by decide +kernel) (pa_cons (e_fld T.c_Space T.n_Space_numbers (pv 0)) (pa_nil))) (pa_cons (pe_callTy (c_list) (by rfl) T.n_list (by decide +kernel) (pa_cons (e_fld T.c_Space T.n_Space_held (pv 0)) (pa_nil))) (pa_nil)))))
theorem ok_Space_restore (T : Top K mg A) : FnOk P w K mg base (L2.CX P w) 2 A.f_Space_restore A.d_Space_restore ["self", "saved"] (sp_Space_restore K A.ex) := by
  refine T.F_Space_restore.okX sc_Space_restore (fun vs H Q E h => len2 h) (fun cdv Ar outer s H vs Q E hr h => ⟨t_Space_restore K A.ex E, ?_, pure_Space_restore T.fa h⟩)
  have tk : Takes (cxOf (L2.CX P w) P w K mg base ["self", "saved"] "Space.restore" (defScope s_Space_restore) A.f_Space_restore cdv Ar outer s H E) (WB E) := takes_of rfl rfl rfl rfl
  exact pss_cons (s_fld T.c_Space T.n_Space_numbers (pv 0) (pe_callTy (c_list) (by rfl) T.n_list (by decide +kernel) (pa_cons (e_ix (pv 1) (pe_int)) (pa_nil))))
        (pss_cons (s_fld T.c_Space T.n_Space_held (pv 0) (pe_callTy (c_list) (by rfl) T.n_list (by decide +kernel) (pa_cons (e_ix (pv 1) (pe_int)) (pa_nil))))
        (pss_one (ps_expr (e_meth0 (pv 0) T.c_Space T.m_Space_count_spare (ok_Space_count_spare T) (hr.mono (by decide)) T.b_Space_count_spare tk))))
theorem ok__law_tape (T : Top K mg A) : FnOk P w K mg base (L2.CX P w) 1 A.f__law_tape A.d__law_tape ["_law_script"] (sp__law_tape K A.ex) := by
  refine T.F__law_tape.okX sc__law_tape (fun vs H Q E h => len1 h) (fun cdv Ar outer s H vs Q E hr h => ⟨t__law_tape K A.ex E, ?_, pure__law_tape T.fa h⟩)
  have tk : Takes (cxOf (L2.CX P w) P w K mg base ["_law_script", "_law_tape_here", "_law_k", "_law_value", "_law_step"] "_law_tape" (defScope s__law_tape) A.f__law_tape cdv Ar outer s H E) (WB E) := takes_of rfl rfl rfl rfl
  have po : PassesOwn (model P w) (cxOf (L2.CX P w) P w K mg base ["_law_script", "_law_tape_here", "_law_k", "_law_value", "_law_step"] "_law_tape" (defScope s__law_tape) A.f__law_tape cdv Ar outer s H E).A (cxOf (L2.CX P w) P w K mg base ["_law_script", "_law_tape_here", "_law_k", "_law_value", "_law_step"] "_law_tape" (defScope s__law_tape) A.f__law_tape cdv Ar outer s H E).env (cxOf (L2.CX P w) P w K mg base ["_law_script", "_law_tape_here", "_law_k", "_law_value", "_law_step"] "_law_tape" (defScope s__law_tape) A.f__law_tape cdv Ar outer s H E).xe := passes_of rfl
  have hu := hu_of hr
  have hl := Nat.lt_of_succ_lt hu
  exact pss_cons (ps_set (i := 1) sc__law_tape.nd rfl (Or.inl rfl) (pe_lst (pa_nil)))
        (pss_cons (ps_for po rfl (pi_range1 (by rfl) T.n_range (pa_cons (pe_callB (c_len) (by rfl) T.n_len (by decide +kernel) (pa_cons (pv 0) (pa_nil))) (pa_nil))) (pg_name (i := 2) sc__law_tape.nd rfl (Or.inl rfl))
        (pss_cons (ps_set (i := 3) sc__law_tape.nd rfl (Or.inl rfl) (pe_callB (c_abs) (by rfl) T.n_abs (by decide +kernel) (pa_cons (pe_callTy (c_int) (by rfl) T.n_int (by decide +kernel) (pa_cons (e_ix (pv 0) (pv 2)) (pa_nil))) (pa_nil))))
        (pss_one (ps_if (pt_cmpR (o_ge hl) (pv 3) (pe_op o_pow (pe_int) (pe_int)) (nomark _)) (pss_one (ps_for po rfl (pi_range1 (by rfl) T.n_range (pa_cons (pe_int) (pa_nil))) (pg_name (i := 4) sc__law_tape.nd rfl (Or.inl rfl))
        (pss_one (ps_if (pt_cmpR (o_gt) (pv 3) (pe_int) (nomark _)) (pss_cons (ps_expr (pe_bm PySem.F.plainAttrs_list PySem.F.slot_list_append PySem.F.type_list_append mt_append (pv 1) (pa_cons (pe_op o_mod (pv 3) (pe_int)) (pa_nil))))
        (pss_one (ps_set (i := 3) sc__law_tape.nd rfl (Or.inl rfl) (pe_op o_div (pv 3) (pe_int))))) (pss_nil))))) (pss_one (ps_for po rfl (pi_range1 (by rfl) T.n_range (pa_cons (pe_int) (pa_nil))) (pg_name (i := 4) sc__law_tape.nd rfl (Or.inl rfl))
        (pss_cons (ps_set (i := 3) sc__law_tape.nd rfl (Or.inl rfl) (pe_op o_mod (pe_op o_add (pe_op o_add (pe_op o_mul (pv 3) (pe_int)) (pe_op o_mul (pe_int) (pe_op o_add (pv 2) (pe_int)))) (pe_op o_mul (pe_int) (pv 4))) (pe_int)))
        (pss_cons (ps_set (i := 3) sc__law_tape.nd rfl (Or.inl rfl) (pe_op o_mod (pe_op o_mul (pv 3) (pe_int)) (pe_int)))
        (pss_one (ps_expr (pe_bm PySem.F.plainAttrs_list PySem.F.slot_list_append PySem.F.type_list_append mt_append (pv 1) (pa_cons (pe_op o_mod (pe_op o_div (pv 3) (pe_int)) (pe_int)) (pa_nil)))))))))))))
        (pss_one (ps_ret (pv 1))))
theorem ok__law_at (T : Top K mg A) : FnOk P w K mg base (L2.CX P w) 1 A.f__law_at A.d__law_at ["_law_tape_here", "_law_k"] (sp__law_at K A.ex) := by
  refine T.F__law_at.okX sc__law_at (fun vs H Q E h => len2 h) (fun cdv Ar outer s H vs Q E hr h => ⟨t__law_at K A.ex E, ?_, pure__law_at T.fa h⟩)
  have tk : Takes (cxOf (L2.CX P w) P w K mg base ["_law_tape_here", "_law_k"] "_law_at" (defScope s__law_at) A.f__law_at cdv Ar outer s H E) (WB E) := takes_of rfl rfl rfl rfl
  have hu := hu_of hr
  have hl := Nat.lt_of_succ_lt hu
  exact pss_cons (ps_if (pt_cmpR (o_lt hl) (pv 1) (pe_callB (c_len) (by rfl) T.n_len (by decide +kernel) (pa_cons (pv 0) (pa_nil))) (nomark _)) (pss_one (ps_ret (e_ix (pv 0) (pv 1)))) (pss_nil))
        (pss_one (ps_ret (pe_int)))
theorem okx__law_kind (T : Top K mg A) : FnX P w K mg base 1 A.f__law_kind A.d__law_kind ["_law_e"] (spx__law_kind K A.ex) := by
  refine okH T.F__law_kind sc__law_kind (fun a c vs H Q E h => len1 h) (fun cdv Ar outer s H vs Q E p cls hz hf hr h => ⟨tx__law_kind K A.ex p.1 cls E, ?_, purex__law_kind T.fa h⟩)
  exact pss_cons (ps_if (t_tru (pe_callB (c_isP (List.mem_cons_self ..) hz hf) (by rfl) T.n_isinstance (by decide +kernel) (pa_cons (pv 0) (pa_cons (pe_glob rfl T.x_NoSpace.g rfl) (pa_nil))))) (pss_one (ps_ret (pe_lst (pa_cons (pe_str) (pa_cons (pe_str) (pa_nil)))))) (pss_nil))
        (pss_cons (ps_if (t_tru (pe_callB (c_isP (List.mem_cons_self ..) hz hf) (by rfl) T.n_isinstance (by decide +kernel) (pa_cons (pv 0) (pa_cons (pe_glob rfl T.x_NotValid.g rfl) (pa_nil))))) (pss_one (ps_ret (pe_lst (pa_cons (pe_str) (pa_cons (pe_str) (pa_nil)))))) (pss_nil))
        (pss_one (ps_ret (pe_lst (pa_cons (pe_str) (pa_cons (pe_str) (pa_nil)))))))
theorem ok__law_do (T : Top K mg A) : FnOk P w K mg base (L2.CX P w) 5 A.f__law_do A.d__law_do ["_law_space", "_law_act", "_law_block"] (sp__law_do K A.ex) := by
  refine T.F__law_do.okX sc__law_do (fun vs H Q E h => len3 h) (fun cdv Ar outer s H vs Q E hr h => ⟨t__law_do K A.ex E, ?_, pure__law_do T.fa h⟩)
  have tk : Takes (cxOf (L2.CX P w) P w K mg base ["_law_space", "_law_act", "_law_block", "_law_e"] "_law_do" (defScope s__law_do) A.f__law_do cdv Ar outer s H E) (WB E) := takes_of rfl rfl rfl rfl
  exact pss_one (s_tryAs (i := 3) rfl rfl sc__law_do.nd rfl rfl ⟨rfl, by decide, Or.inl T.x_LaminaError.g⟩ tk (fun W pn xe tk po => pss_cons (ps_if (pt_cmpR (o_eq hr.units) (pv 1) (pe_str) (nomark _)) (pss_one (ps_ret (e_meth (pv 0) T.c_Space T.m_Space_take (ok_Space_take T) (hr.mono (by decide)) T.b_Space_take tk (pa_cons (pv 2) (pa_nil))))) (pss_nil))
        (pss_cons (ps_if (pt_cmpR (o_eq hr.units) (pv 1) (pe_str) (nomark _)) (pss_one (ps_ret (e_meth (pv 0) T.c_Space T.m_Space_share (ok_Space_share T) (hr.mono (by decide)) T.b_Space_share tk (pa_cons (pv 2) (pa_nil))))) (pss_nil))
        (pss_cons (ps_if (pt_cmpR (o_eq hr.units) (pv 1) (pe_str) (nomark _)) (pss_one (ps_ret (e_meth (pv 0) T.c_Space T.m_Space_drop (ok_Space_drop T) (hr.mono (by decide)) T.b_Space_drop tk (pa_cons (pv 2) (pa_nil))))) (pss_nil))
        (pss_cons (ps_if (pt_cmpR (o_eq hr.units) (pv 1) (pe_str) (nomark _)) (pss_one (ps_ret (e_meth (pv 0) T.c_Space T.m_Space_uses (ok_Space_uses T) (hr.mono (by decide)) T.b_Space_uses tk (pa_cons (pv 2) (pa_nil))))) (pss_nil))
        (pss_cons (ps_if (pt_cmpR (o_eq hr.units) (pv 1) (pe_str) (nomark _)) (pss_one (ps_ret (e_meth (pv 0) T.c_Space T.m_Space_is_held (ok_Space_is_held T) (hr.mono (by decide)) T.b_Space_is_held tk (pa_cons (pv 2) (pa_nil))))) (pss_nil))
        (pss_cons (ps_if (pt_cmpR (o_eq hr.units) (pv 1) (pe_str) (nomark _)) (pss_one (ps_ret (e_meth (pv 0) T.c_Space T.m_Space_is_new (ok_Space_is_new T) (hr.mono (by decide)) T.b_Space_is_new tk (pa_cons (pv 2) (pa_nil))))) (pss_nil))
        (pss_one (ps_ret (e_meth (pv 0) T.c_Space T.m_Space_is_free (ok_Space_is_free T) (hr.mono (by decide)) T.b_Space_is_free tk (pa_cons (pv 2) (pa_nil))))))))))) (fun a oe cls d pn hz hf => pss_one (ps_ret (e_callX (okx__law_kind T) ⟨(hr.mono (j := 1) (by decide)).dp, (hr.mono (j := 1) (by decide)).un⟩ (List.mem_cons_self ..) hz hf T.g__law_kind T.F__law_kind.kp T.b__law_kind (pa_cons (pv 3) (pa_nil))))))
theorem ok__law_free (T : Top K mg A) : FnOk P w K mg base (L2.CX P w) 1 A.f__law_free A.d__law_free ["_law_numbers", "_law_held"] (sp__law_free K A.ex) := by
  refine T.F__law_free.okX sc__law_free (fun vs H Q E h => len2 h) (fun cdv Ar outer s H vs Q E hr h => ⟨t__law_free K A.ex E, ?_, pure__law_free T.fa h⟩)
  have tk : Takes (cxOf (L2.CX P w) P w K mg base ["_law_numbers", "_law_held", "_law_k"] "_law_free" (defScope s__law_free) A.f__law_free cdv Ar outer s H E) (WB E) := takes_of rfl rfl rfl rfl
  exact pss_one (ps_ret (pe_lc (own := [("_law_k", 2)]) (by rfl) sc__law_free.nd (pi_range1 (by rfl) T.n_range (pa_cons (pe_callB (c_len) (by rfl) T.n_len (by decide +kernel) (pa_cons (pv 0) (pa_nil))) (pa_nil))) (blkOk_by (N := ["_law_numbers", "_law_held", "_law_k"]) (sc := defScope s__law_free) (by decide +kernel)) (fun _ _ _ _ _ => pg_name (i := 2) sc__law_free.nd rfl (Or.inl rfl)) (fun _ _ _ _ _ => pts_one (PW.pt (pw_and (pt_cmpR (o_eq hr.units) (e_ix (pv 0) (pv 2)) (pe_int) (nomark _)) (pw_and1 (pt_not (t_tru (e_ix (pv 1) (pv 2)))))))) (fun _ _ _ _ _ => pv 2)))
theorem ok__law_due (T : Top K mg A) : FnOk P w K mg base (L2.CX P w) 2 A.f__law_due A.d__law_due ["_law_numbers", "_law_held", "_law_act", "_law_block"] (sp__law_due K A.ex) := by
  refine T.F__law_due.okX sc__law_due (fun vs H Q E h => len4 h) (fun cdv Ar outer s H vs Q E hr h => ⟨t__law_due K A.ex E, ?_, pure__law_due T.fa h⟩)
  have tk : Takes (cxOf (L2.CX P w) P w K mg base ["_law_numbers", "_law_held", "_law_act", "_law_block", "_law_free_here"] "_law_due" (defScope s__law_due) A.f__law_due cdv Ar outer s H E) (WB E) := takes_of rfl rfl rfl rfl
  have hu := hu_of hr
  have hl := Nat.lt_of_succ_lt hu
  exact pss_cons (ps_if (pt_cmpR (o_eq hr.units) (pv 2) (pe_str) (nomark _)) (pss_cons (ps_set (i := 4) sc__law_due.nd rfl (Or.inl rfl) (e_call (ok__law_free T) (hr.mono (by decide)) T.g__law_free T.F__law_free.kp T.b__law_free tk (pa_cons (pv 0) (pa_cons (pv 1) (pa_nil)))))
        (pss_cons (ps_if (pt_cmpR (o_le hl) (pe_callB (c_len) (by rfl) T.n_len (by decide +kernel) (pa_cons (pv 4) (pa_nil))) (pv 3) (nomark _)) (pss_one (ps_ret (pe_lst (pa_cons (pe_str) (pa_cons (pe_str) (pa_nil)))))) (pss_nil))
        (pss_one (ps_ret (e_ix (pv 4) (pe_int)))))) (pss_nil))
        (pss_cons (ps_if (PW.pt (pw_or (pt_cmpR (o_lt hl) (pv 3) (pe_int) (nomark _)) (pw_or1 (pt_cmpR (o_ge hl) (pv 3) (pe_callB (c_len) (by rfl) T.n_len (by decide +kernel) (pa_cons (pv 0) (pa_nil))) (nomark _))))) (pss_one (ps_ret (pe_lst (pa_cons (pe_str) (pa_cons (pe_str) (pa_nil)))))) (pss_nil))
        (pss_cons (ps_if (pt_cmpR (o_eq hr.units) (pv 2) (pe_str) (nomark _)) (pss_one (ps_ret (e_ix (pv 0) (pv 3)))) (pss_nil))
        (pss_cons (ps_if (pt_cmpR (o_eq hr.units) (pv 2) (pe_str) (nomark _)) (pss_one (ps_ret (e_ix (pv 1) (pv 3)))) (pss_nil))
        (pss_cons (ps_if (pt_cmpR (o_eq hr.units) (pv 2) (pe_str) (nomark _)) (pss_one (ps_ret (pe_and (pe_cmpR (o_gt) (e_ix (pv 0) (pv 3)) (pe_int) (nomark _)) (pe_one (pe_not (e_ix (pv 1) (pv 3))))))) (pss_nil))
        (pss_cons (ps_if (pt_cmpR (o_eq hr.units) (pv 2) (pe_str) (nomark _)) (pss_one (ps_ret (pe_and (pe_cmpR (o_eq hr.units) (e_ix (pv 0) (pv 3)) (pe_int) (nomark _)) (pe_one (pe_not (e_ix (pv 1) (pv 3))))))) (pss_nil))
        (pss_cons (ps_if (PW.pt (pw_or (pt_cmpR (o_lt hl) (pv 3) (pe_int) (nomark _)) (pw_or1 (pt_cmpR (o_eq hr.units) (e_ix (pv 0) (pv 3)) (pe_int) (nomark _))))) (pss_one (ps_ret (pe_lst (pa_cons (pe_str) (pa_cons (pe_str) (pa_nil)))))) (pss_nil))
        (pss_cons (ps_if (pt_cmpR (o_eq hr.units) (pv 2) (pe_str) (nomark _)) (pss_one (ps_ret (pe_op o_sub (e_ix (pv 0) (pv 3)) (pe_int)))) (pss_nil))
        (pss_one (ps_ret (pe_non))))))))))
theorem ok__law_same (T : Top K mg A) : FnOk P w K mg base (L2.CX P w) 1 A.f__law_same A.d__law_same ["_law_told", "_law_due_here"] (sp__law_same K A.ex) := by
  refine T.F__law_same.okX sc__law_same (fun vs H Q E h => len2 h) (fun cdv Ar outer s H vs Q E hr h => ⟨t__law_same K A.ex E, ?_, pure__law_same T.fa h⟩)
  have tk : Takes (cxOf (L2.CX P w) P w K mg base ["_law_told", "_law_due_here"] "_law_same" (defScope s__law_same) A.f__law_same cdv Ar outer s H E) (WB E) := takes_of rfl rfl rfl rfl
  exact pss_cons (ps_if (pt_cmpR (o_is) (pv 1) (pe_non) (nomark _)) (pss_one (ps_ret (pe_cmpR (o_is) (pv 0) (pe_non) (nomark _)))) (pss_nil))
        (pss_one (ps_ret (pe_and (pe_cmpR (o_eq hr.units) (pe_callB (c_isi .bool) (by rfl) T.n_isinstance (by decide +kernel) (pa_cons (pv 0) (pa_cons (pe_bltn rfl T.n_bool (by decide +kernel) rfl) (pa_nil)))) (pe_callB (c_isi .bool) (by rfl) T.n_isinstance (by decide +kernel) (pa_cons (pv 1) (pa_cons (pe_bltn rfl T.n_bool (by decide +kernel) rfl) (pa_nil)))) (nomark _)) (pe_one (pe_cmpR (o_eq hr.units) (pv 0) (pv 1) (nomark _))))))
theorem ok__law_counts (T : Top K mg A) : FnOk P w K mg base (L2.CX P w) 2 A.f__law_counts A.d__law_counts ["_law_space", "_law_numbers", "_law_held"] (sp__law_counts K A.ex) := by
  refine T.F__law_counts.okX sc__law_counts (fun vs H Q E h => len3 h) (fun cdv Ar outer s H vs Q E hr h => ⟨t__law_counts K A.ex E, ?_, pure__law_counts T.fa h⟩)
  have tk : Takes (cxOf (L2.CX P w) P w K mg base ["_law_space", "_law_numbers", "_law_held", "_law_free_here", "_law_pending", "_law_least", "_law_k"] "_law_counts" (defScope s__law_counts) A.f__law_counts cdv Ar outer s H E) (WB E) := takes_of rfl rfl rfl rfl
  exact pss_cons (ps_set (i := 3) sc__law_counts.nd rfl (Or.inl rfl) (e_call (ok__law_free T) (hr.mono (by decide)) T.g__law_free T.F__law_free.kp T.b__law_free tk (pa_cons (pv 1) (pa_cons (pv 2) (pa_nil)))))
        (pss_cons (ps_setLc (i := 4) (own := [("_law_k", 6)]) (by rfl) sc__law_counts.nd rfl rfl (sw_true rfl rfl rfl (by decide +kernel)) (pi_range1 (by rfl) T.n_range (pa_cons (pe_callB (c_len) (by rfl) T.n_len (by decide +kernel) (pa_cons (pv 1) (pa_nil))) (pa_nil))) (blkOk_by (N := ["_law_space", "_law_numbers", "_law_held", "_law_free_here", "_law_pending", "_law_least", "_law_k"]) (sc := defScope s__law_counts) (by decide +kernel)) (fun _ _ _ _ _ => pg_name (i := 6) sc__law_counts.nd rfl (Or.inl rfl)) (fun _ _ _ _ _ => pts_one (PW.pt (pw_and (pt_cmpR (o_eq hr.units) (e_ix (pv 1) (pv 6)) (pe_int) (nomark _)) (pw_and1 (t_tru (e_ix (pv 2) (pv 6))))))) (fun _ _ _ _ _ => pv 6))
        (pss_cons (ps_set (i := 5) sc__law_counts.nd rfl (Or.inl rfl) (pe_non))
        (pss_cut (ps_if (pt_cmpR (o_gt) (pe_callB (c_len) (by rfl) T.n_len (by decide +kernel) (pa_cons (pv 3) (pa_nil))) (pe_int) (nomark _)) (pss_one (ps_set (i := 5) sc__law_counts.nd rfl (Or.inl rfl) (e_ix (pv 3) (pe_int)))) (pss_nil))
        (pss_one (ps_ret (pe_and (e_call (ok__law_same T) (hr.mono (by decide)) T.g__law_same T.F__law_same.kp T.b__law_same tk (pa_cons (e_meth0 (pv 0) T.c_Space T.m_Space_free (ok_Space_free T) (hr.mono (by decide)) T.b_Space_free tk) (pa_cons (pe_callB (c_len) (by rfl) T.n_len (by decide +kernel) (pa_cons (pv 3) (pa_nil))) (pa_nil)))) (pe_and (e_call (ok__law_same T) (hr.mono (by decide)) T.g__law_same T.F__law_same.kp T.b__law_same tk (pa_cons (e_meth0 (pv 0) T.c_Space T.m_Space_pending (ok_Space_pending T) (hr.mono (by decide)) T.b_Space_pending tk) (pa_cons (pe_callB (c_len) (by rfl) T.n_len (by decide +kernel) (pa_cons (pv 4) (pa_nil))) (pa_nil)))) (pe_one (pe_cmpR (o_eq hr.units) (e_meth0 (pv 0) T.c_Space T.m_Space_least_free (ok_Space_least_free T) (hr.mono (by decide)) T.b_Space_least_free tk) (pv 5) (nomark _))))))))))
theorem ok_law (T : Top K mg A) : FnOk P w K mg base (L2.CX P w) 6 A.f_law A.d_law ["_law_script"] (sp_law K A.ex) := by
  refine T.F_law.okX sc_law (fun vs H Q E h => len1 (show spLaw K vs H Q E from h)) (fun cdv Ar outer s H vs Q E hr h => ⟨t_law K A.ex E, ?_, pure_law T.fa h⟩)
  have tk : Takes (cxOf (L2.CX P w) P w K mg base ["_law_script", "_law_tape_here", "_law_blocks", "_law_numbers", "_law_k", "_law_number", "_law_held", "_law_passed", "_law_space", "_law_kept", "_law_recent", "_law_block", "_law_act", "_law_free_here", "_law_due_here", "_law_many"] "law" (defScope s_law) A.f_law cdv Ar outer s H E) (WB E) := takes_of rfl rfl rfl rfl
  have po : PassesOwn (model P w) (cxOf (L2.CX P w) P w K mg base ["_law_script", "_law_tape_here", "_law_blocks", "_law_numbers", "_law_k", "_law_number", "_law_held", "_law_passed", "_law_space", "_law_kept", "_law_recent", "_law_block", "_law_act", "_law_free_here", "_law_due_here", "_law_many"] "law" (defScope s_law) A.f_law cdv Ar outer s H E).A (cxOf (L2.CX P w) P w K mg base ["_law_script", "_law_tape_here", "_law_blocks", "_law_numbers", "_law_k", "_law_number", "_law_held", "_law_passed", "_law_space", "_law_kept", "_law_recent", "_law_block", "_law_act", "_law_free_here", "_law_due_here", "_law_many"] "law" (defScope s_law) A.f_law cdv Ar outer s H E).env (cxOf (L2.CX P w) P w K mg base ["_law_script", "_law_tape_here", "_law_blocks", "_law_numbers", "_law_k", "_law_number", "_law_held", "_law_passed", "_law_space", "_law_kept", "_law_recent", "_law_block", "_law_act", "_law_free_here", "_law_due_here", "_law_many"] "law" (defScope s_law) A.f_law cdv Ar outer s H E).xe := passes_of rfl
  have hu := hu_of hr
  exact pss_cons (ps_if (PW.pt (pw_or (pt_cmpR (o_ne hr.units) (pe_glob rfl T.k_ADD.choose_spec ⟨_, rfl⟩) (pe_int) (nomark _)) (pw_or1 (pt_cmpR (o_ne hr.units) (pe_glob rfl T.k_REMOVE.choose_spec ⟨_, rfl⟩) (pe_int) (nomark _))))) (pss_one (ps_ret (pe_bl))) (pss_nil))
        (pss_cons (ps_set (i := 1) sc_law.nd rfl (Or.inl rfl) (e_call (ok__law_tape T) (hr.mono (by decide)) T.g__law_tape T.F__law_tape.kp T.b__law_tape tk (pa_cons (pv 0) (pa_nil))))
        (pss_cons (ps_set (i := 2) sc_law.nd rfl (Or.inl rfl) (pe_op o_add (pe_int) (pe_op o_mod (e_call (ok__law_at T) (hr.mono (by decide)) T.g__law_at T.F__law_at.kp T.b__law_at tk (pa_cons (pv 1) (pa_cons (pe_int) (pa_nil)))) (pe_int))))
        (pss_cons (ps_set (i := 3) sc_law.nd rfl (Or.inl rfl) (pe_lst (pa_cons (pe_int) (pa_cons (pe_int) (pa_cons (pe_int) (pa_cons (pe_int) (pa_cons (pe_int) (pa_nil))))))))
        (pss_cons (ps_for po rfl (pi_range1 (by rfl) T.n_range (pa_cons (pe_op o_sub (pv 2) (pe_int)) (pa_nil))) (pg_name (i := 4) sc_law.nd rfl (Or.inl rfl))
        (pss_cons (ps_set (i := 5) sc_law.nd rfl (Or.inl rfl) (pe_op o_div (e_call (ok__law_at T) (hr.mono (by decide)) T.g__law_at T.F__law_at.kp T.b__law_at tk (pa_cons (pv 1) (pa_cons (pe_op o_add (pe_int) (pe_op o_mod (pv 4) (pe_int))) (pa_nil)))) (pe_op o_add (pe_int) (pe_op o_mod (pv 4) (pe_int)))))
        (pss_one (ps_expr (pe_bm PySem.F.plainAttrs_list PySem.F.slot_list_append PySem.F.type_list_append mt_append (pv 3) (pa_cons (e_ix (pe_lst (pa_cons (pe_int) (pa_cons (pe_int) (pa_cons (pe_int) (pa_cons (pe_int) (pa_cons (pe_int) (pa_cons (pe_int) (pa_cons (pe_int) (pa_cons (pe_int) (pa_nil)))))))))) (pe_op o_mod (pe_op o_add (pv 5) (pv 4)) (pe_int))) (pa_nil)))))))
        (pss_cons (ps_setLc (i := 6) (own := [("_law_many", 15)]) (by rfl) sc_law.nd rfl rfl (sw_true rfl rfl rfl (by decide +kernel)) (pi_list (pv 3)) (blkOk_by (N := ["_law_script", "_law_tape_here", "_law_blocks", "_law_numbers", "_law_k", "_law_number", "_law_held", "_law_passed", "_law_space", "_law_kept", "_law_recent", "_law_block", "_law_act", "_law_free_here", "_law_due_here", "_law_many"]) (sc := defScope s_law) (by decide +kernel)) (fun _ _ _ _ _ => pg_name (i := 15) sc_law.nd rfl (Or.inl rfl)) (fun _ _ _ _ _ => pts_nil) (fun _ _ _ _ _ => pe_cmpR (o_gt) (pv 15) (pe_int) (nomark _)))
        (pss_cons (ps_set (i := 7) sc_law.nd rfl (Or.inl rfl) (pe_callTy (c_list) (by rfl) T.n_list (by decide +kernel) (pa_cons (pv 3) (pa_nil))))
        (pss_cons (ps_set (i := 8) sc_law.nd rfl (Or.inl rfl) (e_mk T.M_Space (ok_Space___init__ T) (hr.mono (by decide)) T.gC_Space T.b_Space___init__ tk (pa_cons (pv 7) (pa_nil))))
        (pss_cons (ps_asg (pe_int) (pg_sub (pv 7) (pe_int) (set_u hu)))
        (pss_cons (ps_if (pt_cmpR (o_ne hr.units) (e_fld T.c_Space T.n_Space_blocks (pv 8)) (pv 2) (nomark _)) (pss_one (ps_ret (pe_bl))) (pss_nil))
        (pss_cons (ps_set (i := 9) sc_law.nd rfl (Or.inl rfl) (pe_lst (pa_cons (e_meth0 (pv 8) T.c_Space T.m_Space_saved (ok_Space_saved T) (hr.mono (by decide)) T.b_Space_saved tk) (pa_cons (pe_callTy (c_list) (by rfl) T.n_list (by decide +kernel) (pa_cons (pv 3) (pa_nil))) (pa_cons (pe_callTy (c_list) (by rfl) T.n_list (by decide +kernel) (pa_cons (pv 6) (pa_nil))) (pa_nil))))))
        (pss_cons (ps_set (i := 10) sc_law.nd rfl (Or.inl rfl) (pe_lst (pa_cons (pe_int) (pa_cons (pe_int) (pa_cons (pe_int) (pa_cons (pe_op o_sub (pv 2) (pe_int)) (pa_cons (pv 2) (pa_cons (pe_un o_neg (pe_int)) (pa_nil)))))))))
        (pss_cons (ps_for po rfl (pi_range1 (by rfl) T.n_range (pa_cons (pe_callB (c_min rfl) (by rfl) T.n_min (by decide +kernel) (pa_cons (pe_int) (pa_cons (pe_op o_div (pe_callB (c_len) (by rfl) T.n_len (by decide +kernel) (pa_cons (pv 1) (pa_nil))) (pe_int)) (pa_nil)))) (pa_nil))) (pg_name (i := 4) sc_law.nd rfl (Or.inl rfl))
        (pss_cons (ps_set (i := 5) sc_law.nd rfl (Or.inl rfl) (e_call (ok__law_at T) (hr.mono (by decide)) T.g__law_at T.F__law_at.kp T.b__law_at tk (pa_cons (pv 1) (pa_cons (pe_op o_add (pe_op o_mul (pe_int) (pv 4)) (pe_int)) (pa_nil)))))
        (pss_cons (ps_set (i := 11) sc_law.nd rfl (Or.inl rfl) (e_ix (pv 10) (pe_op o_mod (e_call (ok__law_at T) (hr.mono (by decide)) T.g__law_at T.F__law_at.kp T.b__law_at tk (pa_cons (pv 1) (pa_cons (pe_op o_add (pe_op o_mul (pe_int) (pv 4)) (pe_int)) (pa_nil)))) (pe_callB (c_len) (by rfl) T.n_len (by decide +kernel) (pa_cons (pv 10) (pa_nil))))))
        (pss_cut (ps_if (pt_cmpR (o_eq hr.units) (pe_op o_mod (e_call (ok__law_at T) (hr.mono (by decide)) T.g__law_at T.F__law_at.kp T.b__law_at tk (pa_cons (pv 1) (pa_cons (pe_op o_add (pe_op o_mul (pe_int) (pv 4)) (pe_int)) (pa_nil)))) (pe_int)) (pe_int) (nomark _)) (pss_one (ps_set (i := 11) sc_law.nd rfl (Or.inl rfl) (pe_op o_mod (pe_op o_div (e_call (ok__law_at T) (hr.mono (by decide)) T.g__law_at T.F__law_at.kp T.b__law_at tk (pa_cons (pv 1) (pa_cons (pe_op o_add (pe_op o_mul (pe_int) (pv 4)) (pe_int)) (pa_nil)))) (pe_int)) (pv 2)))) (pss_nil))
        (pss_cons (ps_set (i := 12) sc_law.nd rfl (Or.inl rfl) (e_ix (pe_lst (pa_cons (pe_str) (pa_cons (pe_str) (pa_cons (pe_str) (pa_cons (pe_str) (pa_cons (pe_str) (pa_cons (pe_str) (pa_cons (pe_str) (pa_cons (pe_str) (pa_cons (pe_str) (pa_cons (pe_str) (pa_cons (pe_str) (pa_cons (pe_str) (pa_nil)))))))))))))) (pe_op o_mod (pv 5) (pe_int))))
        (pss_cut (ps_if (pt_cmpR (o_eq hr.units) (pv 12) (pe_str) (nomark _)) (pss_cons (ps_expr (e_meth0 (pv 8) T.c_Space T.m_Space_settle (ok_Space_settle T) (hr.mono (by decide)) T.b_Space_settle tk))
        (pss_one (ps_setLc (i := 6) (own := [("_law_many", 15)]) (by rfl) sc_law.nd rfl rfl (sw_true rfl rfl rfl (by decide +kernel)) (pi_list (pv 3)) (blkOk_by (N := ["_law_script", "_law_tape_here", "_law_blocks", "_law_numbers", "_law_k", "_law_number", "_law_held", "_law_passed", "_law_space", "_law_kept", "_law_recent", "_law_block", "_law_act", "_law_free_here", "_law_due_here", "_law_many"]) (sc := defScope s_law) (by decide +kernel)) (fun _ _ _ _ _ => pg_name (i := 15) sc_law.nd rfl (Or.inl rfl)) (fun _ _ _ _ _ => pts_nil) (fun _ _ _ _ _ => pe_cmpR (o_gt) (pv 15) (pe_int) (nomark _))))) (pss_one (ps_if (pt_cmpR (o_eq hr.units) (pv 12) (pe_str) (nomark _)) (pss_one (ps_set (i := 9) sc_law.nd rfl (Or.inl rfl) (pe_lst (pa_cons (e_meth0 (pv 8) T.c_Space T.m_Space_saved (ok_Space_saved T) (hr.mono (by decide)) T.b_Space_saved tk) (pa_cons (pe_callTy (c_list) (by rfl) T.n_list (by decide +kernel) (pa_cons (pv 3) (pa_nil))) (pa_cons (pe_callTy (c_list) (by rfl) T.n_list (by decide +kernel) (pa_cons (pv 6) (pa_nil))) (pa_nil))))))) (pss_one (ps_if (pt_cmpR (o_eq hr.units) (pv 12) (pe_str) (nomark _)) (pss_cons (ps_expr (e_meth (pv 8) T.c_Space T.m_Space_restore (ok_Space_restore T) (hr.mono (by decide)) T.b_Space_restore tk (pa_cons (e_ix (pv 9) (pe_int)) (pa_nil))))
        (pss_cons (ps_set (i := 3) sc_law.nd rfl (Or.inl rfl) (pe_callTy (c_list) (by rfl) T.n_list (by decide +kernel) (pa_cons (e_ix (pv 9) (pe_int)) (pa_nil))))
        (pss_one (ps_set (i := 6) sc_law.nd rfl (Or.inl rfl) (pe_callTy (c_list) (by rfl) T.n_list (by decide +kernel) (pa_cons (e_ix (pv 9) (pe_int)) (pa_nil))))))) (pss_cut (ps_if (pt_cmpR (o_eq hr.units) (pv 12) (pe_str) (nomark _)) (pss_cons (ps_set (i := 13) sc_law.nd rfl (Or.inl rfl) (pe_callB (c_len) (by rfl) T.n_len (by decide +kernel) (pa_cons (e_call (ok__law_free T) (hr.mono (by decide)) T.g__law_free T.F__law_free.kp T.b__law_free tk (pa_cons (pv 3) (pa_cons (pv 6) (pa_nil)))) (pa_nil))))
        (pss_one (ps_set (i := 11) sc_law.nd rfl (Or.inl rfl) (e_ix (pe_lst (pa_cons (pe_int) (pa_cons (pe_int) (pa_cons (pe_int) (pa_cons (pe_int) (pa_cons (pv 13) (pa_cons (pe_op o_add (pv 13) (pe_int)) (pa_cons (pe_callB (c_max rfl) (by rfl) T.n_max (by decide +kernel) (pa_cons (pe_int) (pa_cons (pe_op o_sub (pv 13) (pe_int)) (pa_nil)))) (pa_nil))))))))) (pe_op o_mod (pe_op o_div (pv 5) (pe_int)) (pe_int)))))) (pss_nil))
        (pss_cons (ps_set (i := 14) sc_law.nd rfl (Or.inl rfl) (e_call (ok__law_due T) (hr.mono (by decide)) T.g__law_due T.F__law_due.kp T.b__law_due tk (pa_cons (pv 3) (pa_cons (pv 6) (pa_cons (pv 12) (pa_cons (pv 11) (pa_nil)))))))
        (pss_cons (ps_if (pt_not (t_tru (e_call (ok__law_same T) (hr.mono (by decide)) T.g__law_same T.F__law_same.kp T.b__law_same tk (pa_cons (e_call (ok__law_do T) (hr.mono (by decide)) T.g__law_do T.F__law_do.kp T.b__law_do tk (pa_cons (pv 8) (pa_cons (pv 12) (pa_cons (pv 11) (pa_nil))))) (pa_cons (pv 14) (pa_nil)))))) (pss_one (ps_ret (pe_bl))) (pss_nil))
        (pss_cut (ps_if (PW.pt (pw_and (pt_cmpR (o_eq hr.units) (pv 12) (pe_str) (nomark _)) (pw_and1 (pt_cmpR (o_ne hr.units) (pv 14) (pe_lst (pa_cons (pe_str) (pa_cons (pe_str) (pa_nil)))) (nomark _))))) (pss_cons (ps_asg (pe_int) (pg_sub (pv 3) (pv 14) (set_u hu)))
        (pss_one (ps_expr (pe_bm PySem.F.plainAttrs_list PySem.F.slot_list_append PySem.F.type_list_append mt_append (pv 10) (pa_cons (pv 14) (pa_nil)))))) (pss_nil))
        (pss_cut (ps_if (PW.pt (pw_and (pt_cmpR (o_eq hr.units) (pv 12) (pe_str) (nomark _)) (pw_and1 (pt_cmpR (o_is) (pv 14) (pe_non) (nomark _))))) (pss_one (ps_asg (pe_op o_add (e_ix (pv 3) (pv 11)) (pe_int)) (pg_sub (pv 3) (pv 11) (set_u hu)))) (pss_nil))
        (pss_one (ps_if (PW.pt (pw_and (pt_cmpR (o_eq hr.units) (pv 12) (pe_str) (nomark _)) (pw_and1 (pt_cmpR (o_ne hr.units) (pv 14) (pe_lst (pa_cons (pe_str) (pa_cons (pe_str) (pa_nil)))) (nomark _))))) (pss_one (ps_asg (pv 14) (pg_sub (pv 3) (pv 11) (set_u hu)))) (pss_nil)))))))))))))
        (pss_one (ps_if (pt_not (t_tru (e_call (ok__law_counts T) (hr.mono (by decide)) T.g__law_counts T.F__law_counts.kp T.b__law_counts tk (pa_cons (pv 8) (pa_cons (pv 3) (pa_cons (pv 6) (pa_nil))))))) (pss_one (ps_ret (pe_bl))) (pss_nil)))))))))
        (pss_cons (ps_for po rfl (pi_range1 (by rfl) T.n_range (pa_cons (pv 2) (pa_nil))) (pg_name (i := 11) sc_law.nd rfl (Or.inl rfl))
        (pss_cons (ps_if (pt_not (t_tru (e_call (ok__law_same T) (hr.mono (by decide)) T.g__law_same T.F__law_same.kp T.b__law_same tk (pa_cons (e_call (ok__law_do T) (hr.mono (by decide)) T.g__law_do T.F__law_do.kp T.b__law_do tk (pa_cons (pv 8) (pa_cons (pe_str) (pa_cons (pv 11) (pa_nil))))) (pa_cons (e_ix (pv 3) (pv 11)) (pa_nil)))))) (pss_one (ps_ret (pe_bl))) (pss_nil))
        (pss_one (ps_if (pt_not (t_tru (e_call (ok__law_same T) (hr.mono (by decide)) T.g__law_same T.F__law_same.kp T.b__law_same tk (pa_cons (e_call (ok__law_do T) (hr.mono (by decide)) T.g__law_do T.F__law_do.kp T.b__law_do tk (pa_cons (pv 8) (pa_cons (pe_str) (pa_cons (pv 11) (pa_nil))))) (pa_cons (e_ix (pv 6) (pv 11)) (pa_nil)))))) (pss_one (ps_ret (pe_bl))) (pss_nil)))))
        (pss_one (ps_ret (pe_bl))))))))))))))))
end
theorem all_mk {P : Program} {w : World} {K : PySem.W.Frag} {h : Heap} {mg : Str → Option Value} {fa : Addr} (X : K.In h) (G : h.Ns mainGlobals mg) (hfa : mg "law" = some (.ref fa))
    {f_is_between f_Space___init__ f_Space_count_spare f_Space_check_block f_Space_least_free f_Space_take f_Space_share f_Space_drop f_Space_uses f_Space_is_held f_Space_is_new f_Space_is_free f_Space_free f_Space_pending f_Space_settle f_Space_saved f_Space_restore f__law_tape f__law_at f__law_kind f__law_do f__law_free f__law_due f__law_same f__law_counts f_law : Addr}
    {C_Space C_LaminaError C_NotValid C_NoSpace : Addr}
    {od_is_between an_is_between : Option Addr} {sl_is_between : Array (Option Value)} {oc_is_between kV_is_between dc_is_between pm_is_between cd_is_between ct_is_between : Value}
    {od_Space___init__ an_Space___init__ : Option Addr} {sl_Space___init__ : Array (Option Value)} {oc_Space___init__ kV_Space___init__ dc_Space___init__ pm_Space___init__ cd_Space___init__ ct_Space___init__ : Value}
    {od_Space_count_spare an_Space_count_spare : Option Addr} {sl_Space_count_spare : Array (Option Value)} {oc_Space_count_spare kV_Space_count_spare dc_Space_count_spare pm_Space_count_spare cd_Space_count_spare ct_Space_count_spare : Value}
    {od_Space_check_block an_Space_check_block : Option Addr} {sl_Space_check_block : Array (Option Value)} {oc_Space_check_block kV_Space_check_block dc_Space_check_block pm_Space_check_block cd_Space_check_block ct_Space_check_block : Value}
    {od_Space_least_free an_Space_least_free : Option Addr} {sl_Space_least_free : Array (Option Value)} {oc_Space_least_free kV_Space_least_free dc_Space_least_free pm_Space_least_free cd_Space_least_free ct_Space_least_free : Value}
    {od_Space_take an_Space_take : Option Addr} {sl_Space_take : Array (Option Value)} {oc_Space_take kV_Space_take dc_Space_take pm_Space_take cd_Space_take ct_Space_take : Value}
    {od_Space_share an_Space_share : Option Addr} {sl_Space_share : Array (Option Value)} {oc_Space_share kV_Space_share dc_Space_share pm_Space_share cd_Space_share ct_Space_share : Value}
    {od_Space_drop an_Space_drop : Option Addr} {sl_Space_drop : Array (Option Value)} {oc_Space_drop kV_Space_drop dc_Space_drop pm_Space_drop cd_Space_drop ct_Space_drop : Value}
    {od_Space_uses an_Space_uses : Option Addr} {sl_Space_uses : Array (Option Value)} {oc_Space_uses kV_Space_uses dc_Space_uses pm_Space_uses cd_Space_uses ct_Space_uses : Value}
    {od_Space_is_held an_Space_is_held : Option Addr} {sl_Space_is_held : Array (Option Value)} {oc_Space_is_held kV_Space_is_held dc_Space_is_held pm_Space_is_held cd_Space_is_held ct_Space_is_held : Value}
    {od_Space_is_new an_Space_is_new : Option Addr} {sl_Space_is_new : Array (Option Value)} {oc_Space_is_new kV_Space_is_new dc_Space_is_new pm_Space_is_new cd_Space_is_new ct_Space_is_new : Value}
    {od_Space_is_free an_Space_is_free : Option Addr} {sl_Space_is_free : Array (Option Value)} {oc_Space_is_free kV_Space_is_free dc_Space_is_free pm_Space_is_free cd_Space_is_free ct_Space_is_free : Value}
    {od_Space_free an_Space_free : Option Addr} {sl_Space_free : Array (Option Value)} {oc_Space_free kV_Space_free dc_Space_free pm_Space_free cd_Space_free ct_Space_free : Value}
    {od_Space_pending an_Space_pending : Option Addr} {sl_Space_pending : Array (Option Value)} {oc_Space_pending kV_Space_pending dc_Space_pending pm_Space_pending cd_Space_pending ct_Space_pending : Value}
    {od_Space_settle an_Space_settle : Option Addr} {sl_Space_settle : Array (Option Value)} {oc_Space_settle kV_Space_settle dc_Space_settle pm_Space_settle cd_Space_settle ct_Space_settle : Value}
    {od_Space_saved an_Space_saved : Option Addr} {sl_Space_saved : Array (Option Value)} {oc_Space_saved kV_Space_saved dc_Space_saved pm_Space_saved cd_Space_saved ct_Space_saved : Value}
    {od_Space_restore an_Space_restore : Option Addr} {sl_Space_restore : Array (Option Value)} {oc_Space_restore kV_Space_restore dc_Space_restore pm_Space_restore cd_Space_restore ct_Space_restore : Value}
    {od__law_tape an__law_tape : Option Addr} {sl__law_tape : Array (Option Value)} {oc__law_tape kV__law_tape dc__law_tape pm__law_tape cd__law_tape ct__law_tape : Value}
    {od__law_at an__law_at : Option Addr} {sl__law_at : Array (Option Value)} {oc__law_at kV__law_at dc__law_at pm__law_at cd__law_at ct__law_at : Value}
    {od__law_kind an__law_kind : Option Addr} {sl__law_kind : Array (Option Value)} {oc__law_kind kV__law_kind dc__law_kind pm__law_kind cd__law_kind ct__law_kind : Value}
    {od__law_do an__law_do : Option Addr} {sl__law_do : Array (Option Value)} {oc__law_do kV__law_do dc__law_do pm__law_do cd__law_do ct__law_do : Value}
    {od__law_free an__law_free : Option Addr} {sl__law_free : Array (Option Value)} {oc__law_free kV__law_free dc__law_free pm__law_free cd__law_free ct__law_free : Value}
    {od__law_due an__law_due : Option Addr} {sl__law_due : Array (Option Value)} {oc__law_due kV__law_due dc__law_due pm__law_due cd__law_due ct__law_due : Value}
    {od__law_same an__law_same : Option Addr} {sl__law_same : Array (Option Value)} {oc__law_same kV__law_same dc__law_same pm__law_same cd__law_same ct__law_same : Value}
    {od__law_counts an__law_counts : Option Addr} {sl__law_counts : Array (Option Value)} {oc__law_counts kV__law_counts dc__law_counts pm__law_counts cd__law_counts ct__law_counts : Value}
    {od_law an_law : Option Addr} {sl_law : Array (Option Value)} {oc_law kV_law dc_law pm_law cd_law ct_law : Value}
    {t_ADD : Tok}
    {t_FIRST_BLOCK : Tok}
    {t_REMOVE : Tok}
    (aC_Space : PySem.W.nsIn K mainGlobals "Space" = some (some (.ref C_Space)))
    (aC_LaminaError : PySem.W.nsIn K mainGlobals "LaminaError" = some (some (.ref C_LaminaError)))
    (aC_NoSpace : PySem.W.nsIn K mainGlobals "NoSpace" = some (some (.ref C_NoSpace)))
    (aC_NotValid : PySem.W.nsIn K mainGlobals "NotValid" = some (some (.ref C_NotValid)))
    (a_is_between : PySem.W.nsIn K mainGlobals "is_between" = some (some (.ref f_is_between)))
    (l_is_between : K.lookup f_is_between = some ⟨oc_is_between, od_is_between, .func (PySem.W.fnOf "is_between" "is_between" (defArgs s_is_between) (defBody s_is_between) (defScope s_is_between) .none kV_is_between dc_is_between pm_is_between an_is_between cd_is_between ct_is_between), sl_is_between⟩)
    (c_is_between : PySem.W.codeIn K cd_is_between "is_between" = true)
    (k_is_between : PySem.W.keepIn K (.ref f_is_between) = true)
    (a_Space___init__ : PySem.W.findIn K (.ref C_Space) "__init__" = some (some (.ref f_Space___init__)))
    (i_Space___init__ : PySem.W.isFn K (.ref f_Space___init__) = true)
    (l_Space___init__ : K.lookup f_Space___init__ = some ⟨oc_Space___init__, od_Space___init__, .func (PySem.W.fnOf "__init__" "Space.__init__" (defArgs s_Space___init__) (defBody s_Space___init__) (defScope s_Space___init__) .none kV_Space___init__ dc_Space___init__ pm_Space___init__ an_Space___init__ cd_Space___init__ ct_Space___init__), sl_Space___init__⟩)
    (c_Space___init__ : PySem.W.codeIn K cd_Space___init__ "Space.__init__" = true)
    (k_Space___init__ : PySem.W.keepIn K (.ref f_Space___init__) = true)
    (a_Space_count_spare : PySem.W.findIn K (.ref C_Space) "count_spare" = some (some (.ref f_Space_count_spare)))
    (i_Space_count_spare : PySem.W.isFn K (.ref f_Space_count_spare) = true)
    (l_Space_count_spare : K.lookup f_Space_count_spare = some ⟨oc_Space_count_spare, od_Space_count_spare, .func (PySem.W.fnOf "count_spare" "Space.count_spare" (defArgs s_Space_count_spare) (defBody s_Space_count_spare) (defScope s_Space_count_spare) .none kV_Space_count_spare dc_Space_count_spare pm_Space_count_spare an_Space_count_spare cd_Space_count_spare ct_Space_count_spare), sl_Space_count_spare⟩)
    (c_Space_count_spare : PySem.W.codeIn K cd_Space_count_spare "Space.count_spare" = true)
    (k_Space_count_spare : PySem.W.keepIn K (.ref f_Space_count_spare) = true)
    (a_Space_check_block : PySem.W.findIn K (.ref C_Space) "check_block" = some (some (.ref f_Space_check_block)))
    (i_Space_check_block : PySem.W.isFn K (.ref f_Space_check_block) = true)
    (l_Space_check_block : K.lookup f_Space_check_block = some ⟨oc_Space_check_block, od_Space_check_block, .func (PySem.W.fnOf "check_block" "Space.check_block" (defArgs s_Space_check_block) (defBody s_Space_check_block) (defScope s_Space_check_block) .none kV_Space_check_block dc_Space_check_block pm_Space_check_block an_Space_check_block cd_Space_check_block ct_Space_check_block), sl_Space_check_block⟩)
    (c_Space_check_block : PySem.W.codeIn K cd_Space_check_block "Space.check_block" = true)
    (k_Space_check_block : PySem.W.keepIn K (.ref f_Space_check_block) = true)
    (a_Space_least_free : PySem.W.findIn K (.ref C_Space) "least_free" = some (some (.ref f_Space_least_free)))
    (i_Space_least_free : PySem.W.isFn K (.ref f_Space_least_free) = true)
    (l_Space_least_free : K.lookup f_Space_least_free = some ⟨oc_Space_least_free, od_Space_least_free, .func (PySem.W.fnOf "least_free" "Space.least_free" (defArgs s_Space_least_free) (defBody s_Space_least_free) (defScope s_Space_least_free) .none kV_Space_least_free dc_Space_least_free pm_Space_least_free an_Space_least_free cd_Space_least_free ct_Space_least_free), sl_Space_least_free⟩)
    (c_Space_least_free : PySem.W.codeIn K cd_Space_least_free "Space.least_free" = true)
    (k_Space_least_free : PySem.W.keepIn K (.ref f_Space_least_free) = true)
    (a_Space_take : PySem.W.findIn K (.ref C_Space) "take" = some (some (.ref f_Space_take)))
    (i_Space_take : PySem.W.isFn K (.ref f_Space_take) = true)
    (l_Space_take : K.lookup f_Space_take = some ⟨oc_Space_take, od_Space_take, .func (PySem.W.fnOf "take" "Space.take" (defArgs s_Space_take) (defBody s_Space_take) (defScope s_Space_take) .none kV_Space_take dc_Space_take pm_Space_take an_Space_take cd_Space_take ct_Space_take), sl_Space_take⟩)
    (c_Space_take : PySem.W.codeIn K cd_Space_take "Space.take" = true)
    (k_Space_take : PySem.W.keepIn K (.ref f_Space_take) = true)
    (a_Space_share : PySem.W.findIn K (.ref C_Space) "share" = some (some (.ref f_Space_share)))
    (i_Space_share : PySem.W.isFn K (.ref f_Space_share) = true)
    (l_Space_share : K.lookup f_Space_share = some ⟨oc_Space_share, od_Space_share, .func (PySem.W.fnOf "share" "Space.share" (defArgs s_Space_share) (defBody s_Space_share) (defScope s_Space_share) .none kV_Space_share dc_Space_share pm_Space_share an_Space_share cd_Space_share ct_Space_share), sl_Space_share⟩)
    (c_Space_share : PySem.W.codeIn K cd_Space_share "Space.share" = true)
    (k_Space_share : PySem.W.keepIn K (.ref f_Space_share) = true)
    (a_Space_drop : PySem.W.findIn K (.ref C_Space) "drop" = some (some (.ref f_Space_drop)))
    (i_Space_drop : PySem.W.isFn K (.ref f_Space_drop) = true)
    (l_Space_drop : K.lookup f_Space_drop = some ⟨oc_Space_drop, od_Space_drop, .func (PySem.W.fnOf "drop" "Space.drop" (defArgs s_Space_drop) (defBody s_Space_drop) (defScope s_Space_drop) .none kV_Space_drop dc_Space_drop pm_Space_drop an_Space_drop cd_Space_drop ct_Space_drop), sl_Space_drop⟩)
    (c_Space_drop : PySem.W.codeIn K cd_Space_drop "Space.drop" = true)
    (k_Space_drop : PySem.W.keepIn K (.ref f_Space_drop) = true)
    (a_Space_uses : PySem.W.findIn K (.ref C_Space) "uses" = some (some (.ref f_Space_uses)))
    (i_Space_uses : PySem.W.isFn K (.ref f_Space_uses) = true)
    (l_Space_uses : K.lookup f_Space_uses = some ⟨oc_Space_uses, od_Space_uses, .func (PySem.W.fnOf "uses" "Space.uses" (defArgs s_Space_uses) (defBody s_Space_uses) (defScope s_Space_uses) .none kV_Space_uses dc_Space_uses pm_Space_uses an_Space_uses cd_Space_uses ct_Space_uses), sl_Space_uses⟩)
    (c_Space_uses : PySem.W.codeIn K cd_Space_uses "Space.uses" = true)
    (k_Space_uses : PySem.W.keepIn K (.ref f_Space_uses) = true)
    (a_Space_is_held : PySem.W.findIn K (.ref C_Space) "is_held" = some (some (.ref f_Space_is_held)))
    (i_Space_is_held : PySem.W.isFn K (.ref f_Space_is_held) = true)
    (l_Space_is_held : K.lookup f_Space_is_held = some ⟨oc_Space_is_held, od_Space_is_held, .func (PySem.W.fnOf "is_held" "Space.is_held" (defArgs s_Space_is_held) (defBody s_Space_is_held) (defScope s_Space_is_held) .none kV_Space_is_held dc_Space_is_held pm_Space_is_held an_Space_is_held cd_Space_is_held ct_Space_is_held), sl_Space_is_held⟩)
    (c_Space_is_held : PySem.W.codeIn K cd_Space_is_held "Space.is_held" = true)
    (k_Space_is_held : PySem.W.keepIn K (.ref f_Space_is_held) = true)
    (a_Space_is_new : PySem.W.findIn K (.ref C_Space) "is_new" = some (some (.ref f_Space_is_new)))
    (i_Space_is_new : PySem.W.isFn K (.ref f_Space_is_new) = true)
    (l_Space_is_new : K.lookup f_Space_is_new = some ⟨oc_Space_is_new, od_Space_is_new, .func (PySem.W.fnOf "is_new" "Space.is_new" (defArgs s_Space_is_new) (defBody s_Space_is_new) (defScope s_Space_is_new) .none kV_Space_is_new dc_Space_is_new pm_Space_is_new an_Space_is_new cd_Space_is_new ct_Space_is_new), sl_Space_is_new⟩)
    (c_Space_is_new : PySem.W.codeIn K cd_Space_is_new "Space.is_new" = true)
    (k_Space_is_new : PySem.W.keepIn K (.ref f_Space_is_new) = true)
    (a_Space_is_free : PySem.W.findIn K (.ref C_Space) "is_free" = some (some (.ref f_Space_is_free)))
    (i_Space_is_free : PySem.W.isFn K (.ref f_Space_is_free) = true)
    (l_Space_is_free : K.lookup f_Space_is_free = some ⟨oc_Space_is_free, od_Space_is_free, .func (PySem.W.fnOf "is_free" "Space.is_free" (defArgs s_Space_is_free) (defBody s_Space_is_free) (defScope s_Space_is_free) .none kV_Space_is_free dc_Space_is_free pm_Space_is_free an_Space_is_free cd_Space_is_free ct_Space_is_free), sl_Space_is_free⟩)
    (c_Space_is_free : PySem.W.codeIn K cd_Space_is_free "Space.is_free" = true)
    (k_Space_is_free : PySem.W.keepIn K (.ref f_Space_is_free) = true)
    (a_Space_free : PySem.W.findIn K (.ref C_Space) "free" = some (some (.ref f_Space_free)))
    (i_Space_free : PySem.W.isFn K (.ref f_Space_free) = true)
    (l_Space_free : K.lookup f_Space_free = some ⟨oc_Space_free, od_Space_free, .func (PySem.W.fnOf "free" "Space.free" (defArgs s_Space_free) (defBody s_Space_free) (defScope s_Space_free) .none kV_Space_free dc_Space_free pm_Space_free an_Space_free cd_Space_free ct_Space_free), sl_Space_free⟩)
    (c_Space_free : PySem.W.codeIn K cd_Space_free "Space.free" = true)
    (k_Space_free : PySem.W.keepIn K (.ref f_Space_free) = true)
    (a_Space_pending : PySem.W.findIn K (.ref C_Space) "pending" = some (some (.ref f_Space_pending)))
    (i_Space_pending : PySem.W.isFn K (.ref f_Space_pending) = true)
    (l_Space_pending : K.lookup f_Space_pending = some ⟨oc_Space_pending, od_Space_pending, .func (PySem.W.fnOf "pending" "Space.pending" (defArgs s_Space_pending) (defBody s_Space_pending) (defScope s_Space_pending) .none kV_Space_pending dc_Space_pending pm_Space_pending an_Space_pending cd_Space_pending ct_Space_pending), sl_Space_pending⟩)
    (c_Space_pending : PySem.W.codeIn K cd_Space_pending "Space.pending" = true)
    (k_Space_pending : PySem.W.keepIn K (.ref f_Space_pending) = true)
    (a_Space_settle : PySem.W.findIn K (.ref C_Space) "settle" = some (some (.ref f_Space_settle)))
    (i_Space_settle : PySem.W.isFn K (.ref f_Space_settle) = true)
    (l_Space_settle : K.lookup f_Space_settle = some ⟨oc_Space_settle, od_Space_settle, .func (PySem.W.fnOf "settle" "Space.settle" (defArgs s_Space_settle) (defBody s_Space_settle) (defScope s_Space_settle) .none kV_Space_settle dc_Space_settle pm_Space_settle an_Space_settle cd_Space_settle ct_Space_settle), sl_Space_settle⟩)
    (c_Space_settle : PySem.W.codeIn K cd_Space_settle "Space.settle" = true)
    (k_Space_settle : PySem.W.keepIn K (.ref f_Space_settle) = true)
    (a_Space_saved : PySem.W.findIn K (.ref C_Space) "saved" = some (some (.ref f_Space_saved)))
    (i_Space_saved : PySem.W.isFn K (.ref f_Space_saved) = true)
    (l_Space_saved : K.lookup f_Space_saved = some ⟨oc_Space_saved, od_Space_saved, .func (PySem.W.fnOf "saved" "Space.saved" (defArgs s_Space_saved) (defBody s_Space_saved) (defScope s_Space_saved) .none kV_Space_saved dc_Space_saved pm_Space_saved an_Space_saved cd_Space_saved ct_Space_saved), sl_Space_saved⟩)
    (c_Space_saved : PySem.W.codeIn K cd_Space_saved "Space.saved" = true)
    (k_Space_saved : PySem.W.keepIn K (.ref f_Space_saved) = true)
    (a_Space_restore : PySem.W.findIn K (.ref C_Space) "restore" = some (some (.ref f_Space_restore)))
    (i_Space_restore : PySem.W.isFn K (.ref f_Space_restore) = true)
    (l_Space_restore : K.lookup f_Space_restore = some ⟨oc_Space_restore, od_Space_restore, .func (PySem.W.fnOf "restore" "Space.restore" (defArgs s_Space_restore) (defBody s_Space_restore) (defScope s_Space_restore) .none kV_Space_restore dc_Space_restore pm_Space_restore an_Space_restore cd_Space_restore ct_Space_restore), sl_Space_restore⟩)
    (c_Space_restore : PySem.W.codeIn K cd_Space_restore "Space.restore" = true)
    (k_Space_restore : PySem.W.keepIn K (.ref f_Space_restore) = true)
    (a__law_tape : PySem.W.nsIn K mainGlobals "_law_tape" = some (some (.ref f__law_tape)))
    (l__law_tape : K.lookup f__law_tape = some ⟨oc__law_tape, od__law_tape, .func (PySem.W.fnOf "_law_tape" "_law_tape" (defArgs s__law_tape) (defBody s__law_tape) (defScope s__law_tape) .none kV__law_tape dc__law_tape pm__law_tape an__law_tape cd__law_tape ct__law_tape), sl__law_tape⟩)
    (c__law_tape : PySem.W.codeIn K cd__law_tape "_law_tape" = true)
    (k__law_tape : PySem.W.keepIn K (.ref f__law_tape) = true)
    (a__law_at : PySem.W.nsIn K mainGlobals "_law_at" = some (some (.ref f__law_at)))
    (l__law_at : K.lookup f__law_at = some ⟨oc__law_at, od__law_at, .func (PySem.W.fnOf "_law_at" "_law_at" (defArgs s__law_at) (defBody s__law_at) (defScope s__law_at) .none kV__law_at dc__law_at pm__law_at an__law_at cd__law_at ct__law_at), sl__law_at⟩)
    (c__law_at : PySem.W.codeIn K cd__law_at "_law_at" = true)
    (k__law_at : PySem.W.keepIn K (.ref f__law_at) = true)
    (a__law_kind : PySem.W.nsIn K mainGlobals "_law_kind" = some (some (.ref f__law_kind)))
    (l__law_kind : K.lookup f__law_kind = some ⟨oc__law_kind, od__law_kind, .func (PySem.W.fnOf "_law_kind" "_law_kind" (defArgs s__law_kind) (defBody s__law_kind) (defScope s__law_kind) .none kV__law_kind dc__law_kind pm__law_kind an__law_kind cd__law_kind ct__law_kind), sl__law_kind⟩)
    (c__law_kind : PySem.W.codeIn K cd__law_kind "_law_kind" = true)
    (k__law_kind : PySem.W.keepIn K (.ref f__law_kind) = true)
    (a__law_do : PySem.W.nsIn K mainGlobals "_law_do" = some (some (.ref f__law_do)))
    (l__law_do : K.lookup f__law_do = some ⟨oc__law_do, od__law_do, .func (PySem.W.fnOf "_law_do" "_law_do" (defArgs s__law_do) (defBody s__law_do) (defScope s__law_do) .none kV__law_do dc__law_do pm__law_do an__law_do cd__law_do ct__law_do), sl__law_do⟩)
    (c__law_do : PySem.W.codeIn K cd__law_do "_law_do" = true)
    (k__law_do : PySem.W.keepIn K (.ref f__law_do) = true)
    (a__law_free : PySem.W.nsIn K mainGlobals "_law_free" = some (some (.ref f__law_free)))
    (l__law_free : K.lookup f__law_free = some ⟨oc__law_free, od__law_free, .func (PySem.W.fnOf "_law_free" "_law_free" (defArgs s__law_free) (defBody s__law_free) (defScope s__law_free) .none kV__law_free dc__law_free pm__law_free an__law_free cd__law_free ct__law_free), sl__law_free⟩)
    (c__law_free : PySem.W.codeIn K cd__law_free "_law_free" = true)
    (k__law_free : PySem.W.keepIn K (.ref f__law_free) = true)
    (a__law_due : PySem.W.nsIn K mainGlobals "_law_due" = some (some (.ref f__law_due)))
    (l__law_due : K.lookup f__law_due = some ⟨oc__law_due, od__law_due, .func (PySem.W.fnOf "_law_due" "_law_due" (defArgs s__law_due) (defBody s__law_due) (defScope s__law_due) .none kV__law_due dc__law_due pm__law_due an__law_due cd__law_due ct__law_due), sl__law_due⟩)
    (c__law_due : PySem.W.codeIn K cd__law_due "_law_due" = true)
    (k__law_due : PySem.W.keepIn K (.ref f__law_due) = true)
    (a__law_same : PySem.W.nsIn K mainGlobals "_law_same" = some (some (.ref f__law_same)))
    (l__law_same : K.lookup f__law_same = some ⟨oc__law_same, od__law_same, .func (PySem.W.fnOf "_law_same" "_law_same" (defArgs s__law_same) (defBody s__law_same) (defScope s__law_same) .none kV__law_same dc__law_same pm__law_same an__law_same cd__law_same ct__law_same), sl__law_same⟩)
    (c__law_same : PySem.W.codeIn K cd__law_same "_law_same" = true)
    (k__law_same : PySem.W.keepIn K (.ref f__law_same) = true)
    (a__law_counts : PySem.W.nsIn K mainGlobals "_law_counts" = some (some (.ref f__law_counts)))
    (l__law_counts : K.lookup f__law_counts = some ⟨oc__law_counts, od__law_counts, .func (PySem.W.fnOf "_law_counts" "_law_counts" (defArgs s__law_counts) (defBody s__law_counts) (defScope s__law_counts) .none kV__law_counts dc__law_counts pm__law_counts an__law_counts cd__law_counts ct__law_counts), sl__law_counts⟩)
    (c__law_counts : PySem.W.codeIn K cd__law_counts "_law_counts" = true)
    (k__law_counts : PySem.W.keepIn K (.ref f__law_counts) = true)
    (a_law : PySem.W.nsIn K mainGlobals "law" = some (some (.ref f_law)))
    (l_law : K.lookup f_law = some ⟨oc_law, od_law, .func (PySem.W.fnOf "law" "law" (defArgs s_law) (defBody s_law) (defScope s_law) .none kV_law dc_law pm_law an_law cd_law ct_law), sl_law⟩)
    (c_law : PySem.W.codeIn K cd_law "law" = true)
    (k_law : PySem.W.keepIn K (.ref f_law) = true)
    (pg_Space : PySem.W.plainGet K C_Space Str.empty = true)
    (hd_Space : PySem.W.hasDictIn K C_Space = true)
    (po_Space : PySem.W.plainOver K C_Space = true)
    (sa_Space : PySem.W.findIn K (.ref C_Space) "__setattr__" = some (some (.builtin "object.__setattr__")))
    (mk_Space : PySem.W.makesIn K C_Space = true)
    (kc_Space : PySem.W.keepIn K (.ref C_Space) = true)
    (n_abs : PySem.W.nsIn K mainGlobals "abs" = some none)
    (n_bool : PySem.W.nsIn K mainGlobals "bool" = some none)
    (n_int : PySem.W.nsIn K mainGlobals "int" = some none)
    (n_isinstance : PySem.W.nsIn K mainGlobals "isinstance" = some none)
    (n_len : PySem.W.nsIn K mainGlobals "len" = some none)
    (n_list : PySem.W.nsIn K mainGlobals "list" = some none)
    (n_max : PySem.W.nsIn K mainGlobals "max" = some none)
    (n_min : PySem.W.nsIn K mainGlobals "min" = some none)
    (n_range : PySem.W.nsIn K mainGlobals "range" = some none)
    (n_zip : PySem.W.nsIn K mainGlobals "zip" = some none)
    (kc_ADD : PySem.W.nsIn K mainGlobals "ADD" = some (some (.int 60 t_ADD)))
    (kc_FIRST_BLOCK : PySem.W.nsIn K mainGlobals "FIRST_BLOCK" = some (some (.int 5 t_FIRST_BLOCK)))
    (kc_REMOVE : PySem.W.nsIn K mainGlobals "REMOVE" = some (some (.int 20 t_REMOVE)))
    (ex_LaminaError : PySem.W.excIn K C_LaminaError [.type "ValueError", .type "Exception", .type "BaseException", .type "object"] "ValueError.__new__" = true)
    (kc_LaminaError : PySem.W.keepIn K (.ref C_LaminaError) = true)
    (sb_LaminaError : PySem.W.subIn K (.ref C_LaminaError) (.type "BaseException") = some true)
    (ty_LaminaError : PySem.W.typeIn K (.ref C_LaminaError) = some (.type "type"))
    (ex_NoSpace : PySem.W.excIn K C_NoSpace [.type "ValueError", .type "Exception", .type "BaseException", .type "object"] "ValueError.__new__" = true)
    (kc_NoSpace : PySem.W.keepIn K (.ref C_NoSpace) = true)
    (sb_NoSpace : PySem.W.subIn K (.ref C_NoSpace) (.type "BaseException") = some true)
    (ty_NoSpace : PySem.W.typeIn K (.ref C_NoSpace) = some (.type "type"))
    (ex_NotValid : PySem.W.excIn K C_NotValid [.type "ValueError", .type "Exception", .type "BaseException", .type "object"] "ValueError.__new__" = true)
    (kc_NotValid : PySem.W.keepIn K (.ref C_NotValid) = true)
    (sb_NotValid : PySem.W.subIn K (.ref C_NotValid) (.type "BaseException") = some true)
    (ty_NotValid : PySem.W.typeIn K (.ref C_NotValid) = some (.type "type"))
    (nf_Space_blocks : PySem.W.findIn K (.ref C_Space) "blocks" = some none)
    (nf_Space_held : PySem.W.findIn K (.ref C_Space) "held" = some none)
    (nf_Space_low : PySem.W.findIn K (.ref C_Space) "low" = some none)
    (nf_Space_numbers : PySem.W.findIn K (.ref C_Space) "numbers" = some none)
    (nf_Space_spare : PySem.W.findIn K (.ref C_Space) "spare" = some none)
    (su_LaminaError_LaminaError : PySem.W.subIn K (.ref C_LaminaError) (.ref C_LaminaError) = some true)
    (su_LaminaError_NoSpace : PySem.W.subIn K (.ref C_LaminaError) (.ref C_NoSpace) = some false)
    (su_LaminaError_NotValid : PySem.W.subIn K (.ref C_LaminaError) (.ref C_NotValid) = some false)
    (su_NoSpace_LaminaError : PySem.W.subIn K (.ref C_NoSpace) (.ref C_LaminaError) = some true)
    (su_NoSpace_NotValid : PySem.W.subIn K (.ref C_NoSpace) (.ref C_NotValid) = some false)
    (su_NotValid_LaminaError : PySem.W.subIn K (.ref C_NotValid) (.ref C_LaminaError) = some true)
    (su_NotValid_NoSpace : PySem.W.subIn K (.ref C_NotValid) (.ref C_NoSpace) = some false)
    (hx_LaminaError : PySem.W.hasDictIn K C_LaminaError = true)
    (hx_NoSpace : PySem.W.hasDictIn K C_NoSpace = true)
    (hx_NotValid : PySem.W.hasDictIn K C_NotValid = true)
    (ne_LaminaError_NotValid : (Value.ref C_LaminaError == Value.ref C_NotValid) = false)
    (ne_NoSpace_NotValid : (Value.ref C_NoSpace == Value.ref C_NotValid) = false)
    (ne_LaminaError_NoSpace : (Value.ref C_LaminaError == Value.ref C_NoSpace) = false)
    (ne_NotValid_NoSpace : (Value.ref C_NotValid == Value.ref C_NoSpace) = false)
    (ga_LaminaError : PySem.W.findIn K (.ref C_LaminaError) "__getattribute__" = some (some (.builtin "BaseException.__getattribute__")))
    (gg_LaminaError : PySem.W.findIn K (.ref C_LaminaError) "__getattr__" = some none)
    (cl_LaminaError : PySem.W.findIn K (.ref C_LaminaError) "__class__" = some (some (.builtin "object.__class__")))
    (om_LaminaError : PySem.W.mroIn K C_LaminaError (.type "object") = some true)
    (ga_NotValid : PySem.W.findIn K (.ref C_NotValid) "__getattribute__" = some (some (.builtin "BaseException.__getattribute__")))
    (gg_NotValid : PySem.W.findIn K (.ref C_NotValid) "__getattr__" = some none)
    (cl_NotValid : PySem.W.findIn K (.ref C_NotValid) "__class__" = some (some (.builtin "object.__class__")))
    (om_NotValid : PySem.W.mroIn K C_NotValid (.type "object") = some true)
    (ga_NoSpace : PySem.W.findIn K (.ref C_NoSpace) "__getattribute__" = some (some (.builtin "BaseException.__getattribute__")))
    (gg_NoSpace : PySem.W.findIn K (.ref C_NoSpace) "__getattr__" = some none)
    (cl_NoSpace : PySem.W.findIn K (.ref C_NoSpace) "__class__" = some (some (.builtin "object.__class__")))
    (om_NoSpace : PySem.W.mroIn K C_NoSpace (.type "object") = some true)
    (sp_cls : PySem.W.specialIn K (.builtin "object.__class__") "__get__" = some (some (.builtin "getset_descriptor.__get__")))
    (tk_cls : PySem.W.takesIn K (.builtin "object.__class__") = some true) :
    ∃ fd : FuncData, (∀ (s : Shared) (v : Value), BindsTo s fd ⟨[v], []⟩ [("_law_script", v)]) ∧ ∀ base : Heap, K.In base → base.Ns mainGlobals mg → FnOk P w K mg base (L2.CX P w) 6 fa fd ["_law_script"] (spLaw K) := by
  have e := hfa.symm.trans (PySem.W.mg_of X G a_law)
  cases e
  have F_is_between := fun_mk (st := s_is_between) l_is_between c_is_between k_is_between
  have F_Space___init__ := fun_mk (st := s_Space___init__) l_Space___init__ c_Space___init__ k_Space___init__
  have F_Space_count_spare := fun_mk (st := s_Space_count_spare) l_Space_count_spare c_Space_count_spare k_Space_count_spare
  have F_Space_check_block := fun_mk (st := s_Space_check_block) l_Space_check_block c_Space_check_block k_Space_check_block
  have F_Space_least_free := fun_mk (st := s_Space_least_free) l_Space_least_free c_Space_least_free k_Space_least_free
  have F_Space_take := fun_mk (st := s_Space_take) l_Space_take c_Space_take k_Space_take
  have F_Space_share := fun_mk (st := s_Space_share) l_Space_share c_Space_share k_Space_share
  have F_Space_drop := fun_mk (st := s_Space_drop) l_Space_drop c_Space_drop k_Space_drop
  have F_Space_uses := fun_mk (st := s_Space_uses) l_Space_uses c_Space_uses k_Space_uses
  have F_Space_is_held := fun_mk (st := s_Space_is_held) l_Space_is_held c_Space_is_held k_Space_is_held
  have F_Space_is_new := fun_mk (st := s_Space_is_new) l_Space_is_new c_Space_is_new k_Space_is_new
  have F_Space_is_free := fun_mk (st := s_Space_is_free) l_Space_is_free c_Space_is_free k_Space_is_free
  have F_Space_free := fun_mk (st := s_Space_free) l_Space_free c_Space_free k_Space_free
  have F_Space_pending := fun_mk (st := s_Space_pending) l_Space_pending c_Space_pending k_Space_pending
  have F_Space_settle := fun_mk (st := s_Space_settle) l_Space_settle c_Space_settle k_Space_settle
  have F_Space_saved := fun_mk (st := s_Space_saved) l_Space_saved c_Space_saved k_Space_saved
  have F_Space_restore := fun_mk (st := s_Space_restore) l_Space_restore c_Space_restore k_Space_restore
  have F__law_tape := fun_mk (st := s__law_tape) l__law_tape c__law_tape k__law_tape
  have F__law_at := fun_mk (st := s__law_at) l__law_at c__law_at k__law_at
  have F__law_kind := fun_mk (st := s__law_kind) l__law_kind c__law_kind k__law_kind
  have F__law_do := fun_mk (st := s__law_do) l__law_do c__law_do k__law_do
  have F__law_free := fun_mk (st := s__law_free) l__law_free c__law_free k__law_free
  have F__law_due := fun_mk (st := s__law_due) l__law_due c__law_due k__law_due
  have F__law_same := fun_mk (st := s__law_same) l__law_same c__law_same k__law_same
  have F__law_counts := fun_mk (st := s__law_counts) l__law_counts c__law_counts k__law_counts
  have F_law := fun_mk (st := s_law) l_law c_law k_law
  let A : Adr := {
    ex := { ({ } : Ex) with Space := C_Space, LaminaError := C_LaminaError, NotValid := C_NotValid, NoSpace := C_NoSpace },
    f_is_between := f_is_between, d_is_between := PySem.W.fnOf "is_between" "is_between" (defArgs s_is_between) (defBody s_is_between) (defScope s_is_between) .none kV_is_between dc_is_between pm_is_between an_is_between cd_is_between ct_is_between,
    f_Space___init__ := f_Space___init__, d_Space___init__ := PySem.W.fnOf "__init__" "Space.__init__" (defArgs s_Space___init__) (defBody s_Space___init__) (defScope s_Space___init__) .none kV_Space___init__ dc_Space___init__ pm_Space___init__ an_Space___init__ cd_Space___init__ ct_Space___init__,
    f_Space_count_spare := f_Space_count_spare, d_Space_count_spare := PySem.W.fnOf "count_spare" "Space.count_spare" (defArgs s_Space_count_spare) (defBody s_Space_count_spare) (defScope s_Space_count_spare) .none kV_Space_count_spare dc_Space_count_spare pm_Space_count_spare an_Space_count_spare cd_Space_count_spare ct_Space_count_spare,
    f_Space_check_block := f_Space_check_block, d_Space_check_block := PySem.W.fnOf "check_block" "Space.check_block" (defArgs s_Space_check_block) (defBody s_Space_check_block) (defScope s_Space_check_block) .none kV_Space_check_block dc_Space_check_block pm_Space_check_block an_Space_check_block cd_Space_check_block ct_Space_check_block,
    f_Space_least_free := f_Space_least_free, d_Space_least_free := PySem.W.fnOf "least_free" "Space.least_free" (defArgs s_Space_least_free) (defBody s_Space_least_free) (defScope s_Space_least_free) .none kV_Space_least_free dc_Space_least_free pm_Space_least_free an_Space_least_free cd_Space_least_free ct_Space_least_free,
    f_Space_take := f_Space_take, d_Space_take := PySem.W.fnOf "take" "Space.take" (defArgs s_Space_take) (defBody s_Space_take) (defScope s_Space_take) .none kV_Space_take dc_Space_take pm_Space_take an_Space_take cd_Space_take ct_Space_take,
    f_Space_share := f_Space_share, d_Space_share := PySem.W.fnOf "share" "Space.share" (defArgs s_Space_share) (defBody s_Space_share) (defScope s_Space_share) .none kV_Space_share dc_Space_share pm_Space_share an_Space_share cd_Space_share ct_Space_share,
    f_Space_drop := f_Space_drop, d_Space_drop := PySem.W.fnOf "drop" "Space.drop" (defArgs s_Space_drop) (defBody s_Space_drop) (defScope s_Space_drop) .none kV_Space_drop dc_Space_drop pm_Space_drop an_Space_drop cd_Space_drop ct_Space_drop,
    f_Space_uses := f_Space_uses, d_Space_uses := PySem.W.fnOf "uses" "Space.uses" (defArgs s_Space_uses) (defBody s_Space_uses) (defScope s_Space_uses) .none kV_Space_uses dc_Space_uses pm_Space_uses an_Space_uses cd_Space_uses ct_Space_uses,
    f_Space_is_held := f_Space_is_held, d_Space_is_held := PySem.W.fnOf "is_held" "Space.is_held" (defArgs s_Space_is_held) (defBody s_Space_is_held) (defScope s_Space_is_held) .none kV_Space_is_held dc_Space_is_held pm_Space_is_held an_Space_is_held cd_Space_is_held ct_Space_is_held,
    f_Space_is_new := f_Space_is_new, d_Space_is_new := PySem.W.fnOf "is_new" "Space.is_new" (defArgs s_Space_is_new) (defBody s_Space_is_new) (defScope s_Space_is_new) .none kV_Space_is_new dc_Space_is_new pm_Space_is_new an_Space_is_new cd_Space_is_new ct_Space_is_new,
    f_Space_is_free := f_Space_is_free, d_Space_is_free := PySem.W.fnOf "is_free" "Space.is_free" (defArgs s_Space_is_free) (defBody s_Space_is_free) (defScope s_Space_is_free) .none kV_Space_is_free dc_Space_is_free pm_Space_is_free an_Space_is_free cd_Space_is_free ct_Space_is_free,
    f_Space_free := f_Space_free, d_Space_free := PySem.W.fnOf "free" "Space.free" (defArgs s_Space_free) (defBody s_Space_free) (defScope s_Space_free) .none kV_Space_free dc_Space_free pm_Space_free an_Space_free cd_Space_free ct_Space_free,
    f_Space_pending := f_Space_pending, d_Space_pending := PySem.W.fnOf "pending" "Space.pending" (defArgs s_Space_pending) (defBody s_Space_pending) (defScope s_Space_pending) .none kV_Space_pending dc_Space_pending pm_Space_pending an_Space_pending cd_Space_pending ct_Space_pending,
    f_Space_settle := f_Space_settle, d_Space_settle := PySem.W.fnOf "settle" "Space.settle" (defArgs s_Space_settle) (defBody s_Space_settle) (defScope s_Space_settle) .none kV_Space_settle dc_Space_settle pm_Space_settle an_Space_settle cd_Space_settle ct_Space_settle,
    f_Space_saved := f_Space_saved, d_Space_saved := PySem.W.fnOf "saved" "Space.saved" (defArgs s_Space_saved) (defBody s_Space_saved) (defScope s_Space_saved) .none kV_Space_saved dc_Space_saved pm_Space_saved an_Space_saved cd_Space_saved ct_Space_saved,
    f_Space_restore := f_Space_restore, d_Space_restore := PySem.W.fnOf "restore" "Space.restore" (defArgs s_Space_restore) (defBody s_Space_restore) (defScope s_Space_restore) .none kV_Space_restore dc_Space_restore pm_Space_restore an_Space_restore cd_Space_restore ct_Space_restore,
    f__law_tape := f__law_tape, d__law_tape := PySem.W.fnOf "_law_tape" "_law_tape" (defArgs s__law_tape) (defBody s__law_tape) (defScope s__law_tape) .none kV__law_tape dc__law_tape pm__law_tape an__law_tape cd__law_tape ct__law_tape,
    f__law_at := f__law_at, d__law_at := PySem.W.fnOf "_law_at" "_law_at" (defArgs s__law_at) (defBody s__law_at) (defScope s__law_at) .none kV__law_at dc__law_at pm__law_at an__law_at cd__law_at ct__law_at,
    f__law_kind := f__law_kind, d__law_kind := PySem.W.fnOf "_law_kind" "_law_kind" (defArgs s__law_kind) (defBody s__law_kind) (defScope s__law_kind) .none kV__law_kind dc__law_kind pm__law_kind an__law_kind cd__law_kind ct__law_kind,
    f__law_do := f__law_do, d__law_do := PySem.W.fnOf "_law_do" "_law_do" (defArgs s__law_do) (defBody s__law_do) (defScope s__law_do) .none kV__law_do dc__law_do pm__law_do an__law_do cd__law_do ct__law_do,
    f__law_free := f__law_free, d__law_free := PySem.W.fnOf "_law_free" "_law_free" (defArgs s__law_free) (defBody s__law_free) (defScope s__law_free) .none kV__law_free dc__law_free pm__law_free an__law_free cd__law_free ct__law_free,
    f__law_due := f__law_due, d__law_due := PySem.W.fnOf "_law_due" "_law_due" (defArgs s__law_due) (defBody s__law_due) (defScope s__law_due) .none kV__law_due dc__law_due pm__law_due an__law_due cd__law_due ct__law_due,
    f__law_same := f__law_same, d__law_same := PySem.W.fnOf "_law_same" "_law_same" (defArgs s__law_same) (defBody s__law_same) (defScope s__law_same) .none kV__law_same dc__law_same pm__law_same an__law_same cd__law_same ct__law_same,
    f__law_counts := f__law_counts, d__law_counts := PySem.W.fnOf "_law_counts" "_law_counts" (defArgs s__law_counts) (defBody s__law_counts) (defScope s__law_counts) .none kV__law_counts dc__law_counts pm__law_counts an__law_counts cd__law_counts ct__law_counts,
    f_law := fa, d_law := PySem.W.fnOf "law" "law" (defArgs s_law) (defBody s_law) (defScope s_law) .none kV_law dc_law pm_law an_law cd_law ct_law }
  have T : Top K mg A := {
    F_is_between := F_is_between,
    b_is_between := F_is_between.binds (ps := ["value", "low", "high"]) fun _ _ _ _ _ _ us hl => match us, hl with | [_, _, _], _ => rfl,
    g_is_between := PySem.W.mg_of X G a_is_between,
    F_Space___init__ := F_Space___init__,
    b_Space___init__ := F_Space___init__.binds (ps := ["self", "uses"]) fun _ _ _ _ _ _ us hl => match us, hl with | [_, _], _ => rfl,
    F_Space_count_spare := F_Space_count_spare,
    b_Space_count_spare := F_Space_count_spare.binds (ps := ["self"]) fun _ _ _ _ _ _ us hl => match us, hl with | [_], _ => rfl,
    m_Space_count_spare := ⟨a_Space_count_spare, i_Space_count_spare, k_Space_count_spare⟩,
    F_Space_check_block := F_Space_check_block,
    b_Space_check_block := F_Space_check_block.binds (ps := ["self", "block"]) fun _ _ _ _ _ _ us hl => match us, hl with | [_, _], _ => rfl,
    m_Space_check_block := ⟨a_Space_check_block, i_Space_check_block, k_Space_check_block⟩,
    F_Space_least_free := F_Space_least_free,
    b_Space_least_free := F_Space_least_free.binds (ps := ["self"]) fun _ _ _ _ _ _ us hl => match us, hl with | [_], _ => rfl,
    m_Space_least_free := ⟨a_Space_least_free, i_Space_least_free, k_Space_least_free⟩,
    F_Space_take := F_Space_take,
    b_Space_take := F_Space_take.binds (ps := ["self", "reserve"]) fun _ _ _ _ _ _ us hl => match us, hl with | [_, _], _ => rfl,
    m_Space_take := ⟨a_Space_take, i_Space_take, k_Space_take⟩,
    F_Space_share := F_Space_share,
    b_Space_share := F_Space_share.binds (ps := ["self", "block"]) fun _ _ _ _ _ _ us hl => match us, hl with | [_, _], _ => rfl,
    m_Space_share := ⟨a_Space_share, i_Space_share, k_Space_share⟩,
    F_Space_drop := F_Space_drop,
    b_Space_drop := F_Space_drop.binds (ps := ["self", "block"]) fun _ _ _ _ _ _ us hl => match us, hl with | [_, _], _ => rfl,
    m_Space_drop := ⟨a_Space_drop, i_Space_drop, k_Space_drop⟩,
    F_Space_uses := F_Space_uses,
    b_Space_uses := F_Space_uses.binds (ps := ["self", "block"]) fun _ _ _ _ _ _ us hl => match us, hl with | [_, _], _ => rfl,
    m_Space_uses := ⟨a_Space_uses, i_Space_uses, k_Space_uses⟩,
    F_Space_is_held := F_Space_is_held,
    b_Space_is_held := F_Space_is_held.binds (ps := ["self", "block"]) fun _ _ _ _ _ _ us hl => match us, hl with | [_, _], _ => rfl,
    m_Space_is_held := ⟨a_Space_is_held, i_Space_is_held, k_Space_is_held⟩,
    F_Space_is_new := F_Space_is_new,
    b_Space_is_new := F_Space_is_new.binds (ps := ["self", "block"]) fun _ _ _ _ _ _ us hl => match us, hl with | [_, _], _ => rfl,
    m_Space_is_new := ⟨a_Space_is_new, i_Space_is_new, k_Space_is_new⟩,
    F_Space_is_free := F_Space_is_free,
    b_Space_is_free := F_Space_is_free.binds (ps := ["self", "block"]) fun _ _ _ _ _ _ us hl => match us, hl with | [_, _], _ => rfl,
    m_Space_is_free := ⟨a_Space_is_free, i_Space_is_free, k_Space_is_free⟩,
    F_Space_free := F_Space_free,
    b_Space_free := F_Space_free.binds (ps := ["self"]) fun _ _ _ _ _ _ us hl => match us, hl with | [_], _ => rfl,
    m_Space_free := ⟨a_Space_free, i_Space_free, k_Space_free⟩,
    F_Space_pending := F_Space_pending,
    b_Space_pending := F_Space_pending.binds (ps := ["self"]) fun _ _ _ _ _ _ us hl => match us, hl with | [_], _ => rfl,
    m_Space_pending := ⟨a_Space_pending, i_Space_pending, k_Space_pending⟩,
    F_Space_settle := F_Space_settle,
    b_Space_settle := F_Space_settle.binds (ps := ["self"]) fun _ _ _ _ _ _ us hl => match us, hl with | [_], _ => rfl,
    m_Space_settle := ⟨a_Space_settle, i_Space_settle, k_Space_settle⟩,
    F_Space_saved := F_Space_saved,
    b_Space_saved := F_Space_saved.binds (ps := ["self"]) fun _ _ _ _ _ _ us hl => match us, hl with | [_], _ => rfl,
    m_Space_saved := ⟨a_Space_saved, i_Space_saved, k_Space_saved⟩,
    F_Space_restore := F_Space_restore,
    b_Space_restore := F_Space_restore.binds (ps := ["self", "saved"]) fun _ _ _ _ _ _ us hl => match us, hl with | [_, _], _ => rfl,
    m_Space_restore := ⟨a_Space_restore, i_Space_restore, k_Space_restore⟩,
    F__law_tape := F__law_tape,
    b__law_tape := F__law_tape.binds (ps := ["_law_script"]) fun _ _ _ _ _ _ us hl => match us, hl with | [_], _ => rfl,
    g__law_tape := PySem.W.mg_of X G a__law_tape,
    F__law_at := F__law_at,
    b__law_at := F__law_at.binds (ps := ["_law_tape_here", "_law_k"]) fun _ _ _ _ _ _ us hl => match us, hl with | [_, _], _ => rfl,
    g__law_at := PySem.W.mg_of X G a__law_at,
    F__law_kind := F__law_kind,
    b__law_kind := F__law_kind.binds (ps := ["_law_e"]) fun _ _ _ _ _ _ us hl => match us, hl with | [_], _ => rfl,
    g__law_kind := PySem.W.mg_of X G a__law_kind,
    F__law_do := F__law_do,
    b__law_do := F__law_do.binds (ps := ["_law_space", "_law_act", "_law_block"]) fun _ _ _ _ _ _ us hl => match us, hl with | [_, _, _], _ => rfl,
    g__law_do := PySem.W.mg_of X G a__law_do,
    F__law_free := F__law_free,
    b__law_free := F__law_free.binds (ps := ["_law_numbers", "_law_held"]) fun _ _ _ _ _ _ us hl => match us, hl with | [_, _], _ => rfl,
    g__law_free := PySem.W.mg_of X G a__law_free,
    F__law_due := F__law_due,
    b__law_due := F__law_due.binds (ps := ["_law_numbers", "_law_held", "_law_act", "_law_block"]) fun _ _ _ _ _ _ us hl => match us, hl with | [_, _, _, _], _ => rfl,
    g__law_due := PySem.W.mg_of X G a__law_due,
    F__law_same := F__law_same,
    b__law_same := F__law_same.binds (ps := ["_law_told", "_law_due_here"]) fun _ _ _ _ _ _ us hl => match us, hl with | [_, _], _ => rfl,
    g__law_same := PySem.W.mg_of X G a__law_same,
    F__law_counts := F__law_counts,
    b__law_counts := F__law_counts.binds (ps := ["_law_space", "_law_numbers", "_law_held"]) fun _ _ _ _ _ _ us hl => match us, hl with | [_, _, _], _ => rfl,
    g__law_counts := PySem.W.mg_of X G a__law_counts,
    F_law := F_law,
    b_law := F_law.binds (ps := ["_law_script"]) fun _ _ _ _ _ _ us hl => match us, hl with | [_], _ => rfl,
    g_law := PySem.W.mg_of X G a_law,
    c_Space := ⟨pg_Space, hd_Space, po_Space, sa_Space⟩,
    M_Space := ⟨mk_Space, a_Space___init__, i_Space___init__, kc_Space⟩,
    gC_Space := PySem.W.mg_of X G aC_Space,
    n_abs := PySem.W.mg_none_of X G n_abs,
    n_bool := PySem.W.mg_none_of X G n_bool,
    n_int := PySem.W.mg_none_of X G n_int,
    n_isinstance := PySem.W.mg_none_of X G n_isinstance,
    n_len := PySem.W.mg_none_of X G n_len,
    n_list := PySem.W.mg_none_of X G n_list,
    n_max := PySem.W.mg_none_of X G n_max,
    n_min := PySem.W.mg_none_of X G n_min,
    n_range := PySem.W.mg_none_of X G n_range,
    n_zip := PySem.W.mg_none_of X G n_zip,
    k_ADD := ⟨_, PySem.W.mg_of X G kc_ADD⟩,
    k_FIRST_BLOCK := ⟨_, PySem.W.mg_of X G kc_FIRST_BLOCK⟩,
    k_REMOVE := ⟨_, PySem.W.mg_of X G kc_REMOVE⟩,
    x_LaminaError := ⟨ex_LaminaError, PySem.W.mg_of X G aC_LaminaError, kc_LaminaError, sb_LaminaError, ty_LaminaError⟩,
    x_NoSpace := ⟨ex_NoSpace, PySem.W.mg_of X G aC_NoSpace, kc_NoSpace, sb_NoSpace, ty_NoSpace⟩,
    x_NotValid := ⟨ex_NotValid, PySem.W.mg_of X G aC_NotValid, kc_NotValid, sb_NotValid, ty_NotValid⟩,
    n_Space_blocks := nf_Space_blocks,
    n_Space_held := nf_Space_held,
    n_Space_low := nf_Space_low,
    n_Space_numbers := nf_Space_numbers,
    n_Space_spare := nf_Space_spare,
    fa := { fa0 := trivial, te_LaminaError_LaminaError := PySem.W.exm_ref sb_LaminaError hx_LaminaError ty_LaminaError su_LaminaError_LaminaError, te_NotValid_LaminaError := PySem.W.exm_ref sb_LaminaError hx_LaminaError ty_LaminaError su_NotValid_LaminaError, te_NoSpace_LaminaError := PySem.W.exm_ref sb_LaminaError hx_LaminaError ty_LaminaError su_NoSpace_LaminaError, kt_LaminaError_NotValid := kit_ne ne_LaminaError_NotValid sb_NotValid hx_NotValid ty_NotValid su_LaminaError_NotValid, kt_NotValid_NotValid := kit_same, kt_NoSpace_NotValid := kit_ne ne_NoSpace_NotValid sb_NotValid hx_NotValid ty_NotValid su_NoSpace_NotValid, kt_LaminaError_NoSpace := kit_ne ne_LaminaError_NoSpace sb_NoSpace hx_NoSpace ty_NoSpace su_LaminaError_NoSpace, kt_NotValid_NoSpace := kit_ne ne_NotValid_NoSpace sb_NoSpace hx_NoSpace ty_NoSpace su_NotValid_NoSpace, kt_NoSpace_NoSpace := kit_same, xc_LaminaError := ⟨ga_LaminaError, gg_LaminaError, sb_LaminaError, hx_LaminaError, cl_LaminaError, sp_cls, tk_cls, om_LaminaError⟩, xc_NotValid := ⟨ga_NotValid, gg_NotValid, sb_NotValid, hx_NotValid, cl_NotValid, sp_cls, tk_cls, om_NotValid⟩, xc_NoSpace := ⟨ga_NoSpace, gg_NoSpace, sb_NoSpace, hx_NoSpace, cl_NoSpace, sp_cls, tk_cls, om_NoSpace⟩ } }
  exact ⟨_, fun s v => .of_eq rfl, fun base _ _ => ok_law (A := A) T⟩
theorem walk {l : PySem.W.OpenLaw} {q : Program} {loose : List Str} {XP : (Str → Option Value) → Heap → Prop} {YP : World → Heap → Prop} {d : DefRec} {K : Params → PySem.W.Frag} (hn : l.most = some 63) (hdf : d.params.defaults = [])
    (hY : ∀ (w : World) (h : Heap), YP w h → (K w.params).In h)
    (F : ∀ (w : World) (mg : Str → Option Value) (fa : Addr) (h : Heap), (K w.params).In h → h.Ns mainGlobals mg → mg d.name = some (.ref fa) →
      ∃ fd : FuncData, (∀ (s : Shared) (u : Value), BindsTo s fd ⟨[u], []⟩ [("_law_script", u)]) ∧ ∀ base : Heap, (K w.params).In base → base.Ns mainGlobals mg → FnOk l.prog w (K w.params) mg base (L2.CX l.prog w) 6 fa fd ["_law_script"] (spLaw (K w.params))) :
    PySem.W.WalkO q loose XP YP l.row.toRowW d [] (fun f vs => PySem.call f vs) :=
  L2.walk_of (n := 63) (k := 6) (x := "_law_script") (CX := fun w => L2.CX l.prog w) (sp := fun w => spLaw (K w.params)) hn (by decide) hdf ⟨rfl, by decide, by decide⟩ hY F (fun _ _ a ns hl _ hS => ⟨_, rfl, a, ns, rfl, hS, hl, fun _ => rfl⟩) fun _ _ _ _ _ ⟨_, _, _, _, _, _, _, _, _, _, _, _, z⟩ => z
end Lam
open PySem PySem.W PyProof.Rows
set_option maxRecDepth 100000 in
set_option maxHeartbeats 0 in
theorem PySem.Challenge.cw_laminae_k21_space_holds : PySem.Challenge.rw_laminae_k21_space.Holds := by
  w_on; o_law; k_head; (case hw => w_witness2)
  k_fill
  refine Lam.walk (l := PySem.Challenge.rw_laminae_k21_space) rfl rfl (fun w h Y => PySem.W.kIn_of Y) ?F
  case F =>
    intro w mg fa h KX G hmg
    refine' Lam.all_mk KX G hmg ?aC_Space ?aC_LaminaError ?aC_NoSpace ?aC_NotValid ?a_is_between ?l_is_between ?c_is_between ?k_is_between ?a_Space___init__ ?i_Space___init__ ?l_Space___init__ ?c_Space___init__ ?k_Space___init__ ?a_Space_count_spare ?i_Space_count_spare ?l_Space_count_spare ?c_Space_count_spare ?k_Space_count_spare ?a_Space_check_block ?i_Space_check_block ?l_Space_check_block ?c_Space_check_block ?k_Space_check_block ?a_Space_least_free ?i_Space_least_free ?l_Space_least_free ?c_Space_least_free ?k_Space_least_free ?a_Space_take ?i_Space_take ?l_Space_take ?c_Space_take ?k_Space_take ?a_Space_share ?i_Space_share ?l_Space_share ?c_Space_share ?k_Space_share ?a_Space_drop ?i_Space_drop ?l_Space_drop ?c_Space_drop ?k_Space_drop ?a_Space_uses ?i_Space_uses ?l_Space_uses ?c_Space_uses ?k_Space_uses ?a_Space_is_held ?i_Space_is_held ?l_Space_is_held ?c_Space_is_held ?k_Space_is_held ?a_Space_is_new ?i_Space_is_new ?l_Space_is_new ?c_Space_is_new ?k_Space_is_new ?a_Space_is_free ?i_Space_is_free ?l_Space_is_free ?c_Space_is_free ?k_Space_is_free ?a_Space_free ?i_Space_free ?l_Space_free ?c_Space_free ?k_Space_free ?a_Space_pending ?i_Space_pending ?l_Space_pending ?c_Space_pending ?k_Space_pending ?a_Space_settle ?i_Space_settle ?l_Space_settle ?c_Space_settle ?k_Space_settle ?a_Space_saved ?i_Space_saved ?l_Space_saved ?c_Space_saved ?k_Space_saved ?a_Space_restore ?i_Space_restore ?l_Space_restore ?c_Space_restore ?k_Space_restore ?a__law_tape ?l__law_tape ?c__law_tape ?k__law_tape ?a__law_at ?l__law_at ?c__law_at ?k__law_at ?a__law_kind ?l__law_kind ?c__law_kind ?k__law_kind ?a__law_do ?l__law_do ?c__law_do ?k__law_do ?a__law_free ?l__law_free ?c__law_free ?k__law_free ?a__law_due ?l__law_due ?c__law_due ?k__law_due ?a__law_same ?l__law_same ?c__law_same ?k__law_same ?a__law_counts ?l__law_counts ?c__law_counts ?k__law_counts ?a_law ?l_law ?c_law ?k_law ?pg_Space ?hd_Space ?po_Space ?sa_Space ?mk_Space ?kc_Space ?n_abs ?n_bool ?n_int ?n_isinstance ?n_len ?n_list ?n_max ?n_min ?n_range ?n_zip ?kc_ADD ?kc_FIRST_BLOCK ?kc_REMOVE ?ex_LaminaError ?kc_LaminaError ?sb_LaminaError ?ty_LaminaError ?ex_NoSpace ?kc_NoSpace ?sb_NoSpace ?ty_NoSpace ?ex_NotValid ?kc_NotValid ?sb_NotValid ?ty_NotValid ?nf_Space_blocks ?nf_Space_held ?nf_Space_low ?nf_Space_numbers ?nf_Space_spare ?su_LaminaError_LaminaError ?su_LaminaError_NoSpace ?su_LaminaError_NotValid ?su_NoSpace_LaminaError ?su_NoSpace_NotValid ?su_NotValid_LaminaError ?su_NotValid_NoSpace ?hx_LaminaError ?hx_NoSpace ?hx_NotValid ?ne_LaminaError_NotValid ?ne_NoSpace_NotValid ?ne_LaminaError_NoSpace ?ne_NotValid_NoSpace ?ga_LaminaError ?gg_LaminaError ?cl_LaminaError ?om_LaminaError ?ga_NotValid ?gg_NotValid ?cl_NotValid ?om_NotValid ?ga_NoSpace ?gg_NoSpace ?cl_NoSpace ?om_NoSpace ?sp_cls ?tk_cls
    (case aC_Space => k_is); (case aC_LaminaError => k_is); (case aC_NoSpace => k_is); (case aC_NotValid => k_is); (case a_is_between => k_is); (case l_is_between => k_is)
    (case c_is_between => k_is); (case k_is_between => k_is); (case a_Space___init__ => k_is); (case i_Space___init__ => k_is); (case l_Space___init__ => k_is); (case c_Space___init__ => k_is)
    (case k_Space___init__ => k_is); (case a_Space_count_spare => k_is); (case i_Space_count_spare => k_is); (case l_Space_count_spare => k_is); (case c_Space_count_spare => k_is); (case k_Space_count_spare => k_is)
    (case a_Space_check_block => k_is); (case i_Space_check_block => k_is); (case l_Space_check_block => k_is); (case c_Space_check_block => k_is); (case k_Space_check_block => k_is); (case a_Space_least_free => k_is)
    (case i_Space_least_free => k_is); (case l_Space_least_free => k_is); (case c_Space_least_free => k_is); (case k_Space_least_free => k_is); (case a_Space_take => k_is); (case i_Space_take => k_is)
    (case l_Space_take => k_is); (case c_Space_take => k_is); (case k_Space_take => k_is); (case a_Space_share => k_is); (case i_Space_share => k_is); (case l_Space_share => k_is)
    (case c_Space_share => k_is); (case k_Space_share => k_is); (case a_Space_drop => k_is); (case i_Space_drop => k_is); (case l_Space_drop => k_is); (case c_Space_drop => k_is)
    (case k_Space_drop => k_is); (case a_Space_uses => k_is); (case i_Space_uses => k_is); (case l_Space_uses => k_is); (case c_Space_uses => k_is); (case k_Space_uses => k_is)
    (case a_Space_is_held => k_is); (case i_Space_is_held => k_is); (case l_Space_is_held => k_is); (case c_Space_is_held => k_is); (case k_Space_is_held => k_is); (case a_Space_is_new => k_is)
    (case i_Space_is_new => k_is); (case l_Space_is_new => k_is); (case c_Space_is_new => k_is); (case k_Space_is_new => k_is); (case a_Space_is_free => k_is); (case i_Space_is_free => k_is)
    (case l_Space_is_free => k_is); (case c_Space_is_free => k_is); (case k_Space_is_free => k_is); (case a_Space_free => k_is); (case i_Space_free => k_is); (case l_Space_free => k_is)
    (case c_Space_free => k_is); (case k_Space_free => k_is); (case a_Space_pending => k_is); (case i_Space_pending => k_is); (case l_Space_pending => k_is); (case c_Space_pending => k_is)
    (case k_Space_pending => k_is); (case a_Space_settle => k_is); (case i_Space_settle => k_is); (case l_Space_settle => k_is); (case c_Space_settle => k_is); (case k_Space_settle => k_is)
    (case a_Space_saved => k_is); (case i_Space_saved => k_is); (case l_Space_saved => k_is); (case c_Space_saved => k_is); (case k_Space_saved => k_is); (case a_Space_restore => k_is)
    (case i_Space_restore => k_is); (case l_Space_restore => k_is); (case c_Space_restore => k_is); (case k_Space_restore => k_is); (case a__law_tape => k_is); (case l__law_tape => k_is)
    (case c__law_tape => k_is); (case k__law_tape => k_is); (case a__law_at => k_is); (case l__law_at => k_is); (case c__law_at => k_is); (case k__law_at => k_is)
    (case a__law_kind => k_is); (case l__law_kind => k_is); (case c__law_kind => k_is); (case k__law_kind => k_is); (case a__law_do => k_is); (case l__law_do => k_is)
    (case c__law_do => k_is); (case k__law_do => k_is); (case a__law_free => k_is); (case l__law_free => k_is); (case c__law_free => k_is); (case k__law_free => k_is)
    (case a__law_due => k_is); (case l__law_due => k_is); (case c__law_due => k_is); (case k__law_due => k_is); (case a__law_same => k_is); (case l__law_same => k_is)
    (case c__law_same => k_is); (case k__law_same => k_is); (case a__law_counts => k_is); (case l__law_counts => k_is); (case c__law_counts => k_is); (case k__law_counts => k_is)
    (case a_law => k_is); (case l_law => k_is); (case c_law => k_is); (case k_law => k_is); (case pg_Space => k_is); (case hd_Space => k_is)
    (case po_Space => k_is); (case sa_Space => k_is); (case mk_Space => k_is); (case kc_Space => k_is); (case n_abs => k_is); (case n_bool => k_is)
    (case n_int => k_is); (case n_isinstance => k_is); (case n_len => k_is); (case n_list => k_is); (case n_max => k_is); (case n_min => k_is)
    (case n_range => k_is); (case n_zip => k_is); (case kc_ADD => k_is); (case kc_FIRST_BLOCK => k_is); (case kc_REMOVE => k_is); (case ex_LaminaError => k_exc)
    (case kc_LaminaError => k_is); (case sb_LaminaError => k_is); (case ty_LaminaError => k_is); (case ex_NoSpace => k_exc); (case kc_NoSpace => k_is); (case sb_NoSpace => k_is)
    (case ty_NoSpace => k_is); (case ex_NotValid => k_exc); (case kc_NotValid => k_is); (case sb_NotValid => k_is); (case ty_NotValid => k_is); (case nf_Space_blocks => k_is)
    (case nf_Space_held => k_is); (case nf_Space_low => k_is); (case nf_Space_numbers => k_is); (case nf_Space_spare => k_is); (case su_LaminaError_LaminaError => k_is); (case su_LaminaError_NoSpace => k_is)
    (case su_LaminaError_NotValid => k_is); (case su_NoSpace_LaminaError => k_is); (case su_NoSpace_NotValid => k_is); (case su_NotValid_LaminaError => k_is); (case su_NotValid_NoSpace => k_is); (case hx_LaminaError => k_is)
    (case hx_NoSpace => k_is); (case hx_NotValid => k_is); (case ne_LaminaError_NotValid => decide); (case ne_NoSpace_NotValid => decide); (case ne_LaminaError_NoSpace => decide); (case ne_NotValid_NoSpace => decide)
    (case ga_LaminaError => k_is); (case gg_LaminaError => k_is); (case cl_LaminaError => k_is); (case om_LaminaError => k_is); (case ga_NotValid => k_is); (case gg_NotValid => k_is)
    (case cl_NotValid => k_is); (case om_NotValid => k_is); (case ga_NoSpace => k_is); (case gg_NoSpace => k_is); (case cl_NoSpace => k_is); (case om_NoSpace => k_is)
    (case sp_cls => k_is); (case tk_cls => k_is)
#print axioms PySem.Challenge.cw_laminae_k21_space_holds
