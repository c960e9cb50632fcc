import PyProof.Rows.All
import Wide.All
import OpenK.AllK
import Wide.FinOn
import HandS.ForMost
import HandS.ForExc
import HandS.TupLe
import HandS.IsInst
import HandS.Small
import HandS.Wide
import HandS.ExcIs
import HandS.DictComp
import HandS.Rev
import HandS.Codes
import KE.Datum
import PySem.Challenge.RW_laminae_k01_name_words
set_option Elab.async false
set_option linter.all false
set_option maxRecDepth 100000
set_option maxHeartbeats 4000000
namespace U
open PySem PySem.Spec PyProof.Rows L2
section weaken
variable {X : Cx}
theorem orR {f : Value → Value → Sem Value} {r r' : R2} (h : OpR X f r) (g : OpR X f r') : OpR X f (fun x y H Q => r x y H Q ∨ r' x y H Q) :=
  fun pins s σ H x y v u Q I rx ry q => q.elim (h pins s σ H x y v u Q I rx ry) (g pins s σ H x y v u Q I rx ry)
theorem wR {f : Value → Value → Sem Value} {r r' : R2} (h : OpR X f r) (k : ∀ x y H Q, r' x y H Q → r x y H Q) : OpR X f r' :=
  fun pins s σ H x y v u Q I rx ry q => h pins s σ H x y v u Q I rx ry (k _ _ _ _ q)
theorem wC {f : Value} {r r' : List V → Hp → VK → Prop} (h : CallR X f r) (k : ∀ xs H Q, r' xs H Q → r xs H Q) : CallR X f r' :=
  fun pins s σ H xs us Q I rx q => h pins s σ H xs us Q I rx (k _ _ _ q)
theorem orC {f : Value} {r r' : List V → Hp → VK → Prop} (h : CallR X f r) (g : CallR X f r') : CallR X f (fun xs H Q => r xs H Q ∨ r' xs H Q) :=
  fun pins s σ H xs us Q I rx q => q.elim (h pins s σ H xs us Q I rx) (g pins s σ H xs us Q I rx)
end weaken
def tCut (t u : TS) : TS := C8.tCut t u
theorem pss_cut {X : Cx} {st : Stmt} {rest : List Stmt} {t u : TS} (h1 : PS X st t) (h2 : PSs X rest u) : PSs X (st :: rest) (tCut t u) := C8.pss_cut h1 h2
section ops
variable {X : Cx}
/-- text times number -/
theorem op_strmul : OpR X (binaryOp .Mult) (fun x y H Q => ∃ (z : Str) (n : Int), x = .str z ∧ y = .int n ∧ MulOk z n ∧ Q (.str (Txt.mul z n)) H) := by
  intro pins s σ H x y v u Q I rx ry h
  obtain ⟨z, n, rfl, rfl, ok, q⟩ := h
  obtain ⟨t, rfl⟩ := rx
  obtain ⟨t', rfl⟩ := ry
  exact SB.mul ok fun t1 k => ⟨.str (Txt.mul z n), H, I.tok _, ⟨_, rfl⟩, q⟩
def uAdd (K : PySem.W.Frag) : R2 := fun x y H Q => match x, y with
  | .int i, .int j => Q (.int (i + j)) H
  | .str i, .str j => i.length + j.length ≤ sizeLine ∧ Q (.str (i ++ j)) H
  | .ref a, .ref b => rCat (.ref a) (.ref b) H Q ∨ rCatT K (.ref a) (.ref b) H Q
  | _, _ => False
theorem o_add : OpR X (binaryOp .Add) (uAdd X.K) := by
  refine wR (orR op_add (orR op_add_str (orR op_cat op_catT))) fun x y H Q q => ?_
  unfold uAdd at q
  split at q
  · exact .inl ⟨_, _, rfl, rfl, q⟩
  · exact .inr (.inl ⟨_, _, rfl, rfl, q⟩)
  · exact .inr (.inr q)
  · exact q.elim
def uSub : R2 := fun x y H Q => match x, y with
  | .int i, .int j => Q (.int (i - j)) H
  | _, _ => False
theorem o_sub : OpR X (binaryOp .Sub) uSub := by
  refine wR op_sub fun x y H Q q => ?_
  unfold uSub at q
  split at q
  · exact ⟨_, _, rfl, rfl, q⟩
  · exact q.elim
def uMul : R2 := fun x y H Q => match x, y with
  | .int i, .int j => (CMul i j ∨ CMulW i j) ∧ Q (.int (i * j)) H
  | .str z, .int n => MulOk z n ∧ Q (.str (Txt.mul z n)) H
  | .ref a, .int n => rRep (.ref a) (.int n) H Q
  | _, _ => False
theorem o_mul : OpR X (binaryOp .Mult) uMul := by
  refine wR (orR op_mul (orR op_mulW (orR op_strmul op_rep))) fun x y H Q q => ?_
  unfold uMul at q
  split at q
  · obtain ⟨c | c, q⟩ := q
    · exact .inl ⟨_, _, rfl, rfl, c, q⟩
    · exact .inr (.inl ⟨_, _, rfl, rfl, c, q⟩)
  · exact .inr (.inr (.inl ⟨_, _, rfl, rfl, q⟩))
  · exact .inr (.inr (.inr q))
  · exact q.elim
def uDiv : R2 := fun x y H Q => match x, y with
  | .int i, .int j => (0 < j ∧ j < 2 ^ 200) ∧ Q (.int (i / j)) H
  | _, _ => False
theorem o_div : OpR X (binaryOp .FloorDiv) uDiv := by
  refine wR op_fdivW fun x y H Q q => ?_
  unfold uDiv at q
  split at q
  · obtain ⟨⟨c1, c2⟩, q⟩ := q
    exact ⟨_, _, rfl, rfl, wide_div (b := 200) c1 (by omega) (by decide) (by decide), q⟩
  · exact q.elim
def uMod : R2 := fun x y H Q => match x, y with
  | .int i, .int j => 0 < j ∧ Q (.int (i % j)) H
  | _, _ => False
theorem o_mod : OpR X (binaryOp .Mod) uMod := by
  refine wR op_mod fun x y H Q q => ?_
  unfold uMod at q
  split at q
  · exact ⟨_, _, rfl, rfl, q⟩
  · exact q.elim
def uPow : R2 := fun x y H Q => match x, y with
  | .int i, .int j => CPow i j ∧ Q (.int (i ^ j.toNat)) H
  | _, _ => False
theorem o_pow : OpR X (binaryOp .Pow) uPow := by
  refine wR op_pow fun x y H Q q => ?_
  unfold uPow at q
  split at q
  · exact ⟨_, _, rfl, rfl, q⟩
  · exact q.elim
def uNeg : V → Hp → VK → Prop := fun x H Q => match x with
  | .int i => Q (.int (-i)) H
  | _ => False
/-- == of data without dicts -/
def rEqP (K : PySem.W.Frag) : R2 := fun x y H Q => ∃ d e, Dp K H x d ∧ Dp K H y e ∧ (d.plain = true ∧ d.depth ≤ 60) ∧ e.plain = true ∧ Q (.bl (PyData.eqv d e)) H
def rNeP (K : PySem.W.Frag) : R2 := fun x y H Q => ∃ d e, Dp K H x d ∧ Dp K H y e ∧ (d.plain = true ∧ d.depth ≤ 60) ∧ e.plain = true ∧ Q (.bl (!PyData.eqv d e)) H
theorem op_eqP (hu : X.A.units + 64 < cLine) : OpR X (compareOp .Eq) (rEqP X.K) := by
  intro pins s σ H x y v u Q I rx ry h
  obtain ⟨d, e, hd, he, ⟨p1, dp⟩, p2, q⟩ := h
  obtain ⟨as, r1⟩ := Dp.reads I d x v hd rx
  obtain ⟨bs, r2⟩ := Dp.reads I e y u he ry
  exact PySem.SeqAt.eq_plain r1 r2 p1 p2 (by have := Nat.min_le_left d.depth e.depth; omega) ⟨.bl _, H, I, rfl, q⟩
theorem op_neP (hu : X.A.units + 64 < cLine) : OpR X (compareOp .NotEq) (rNeP X.K) := by
  intro pins s σ H x y v u Q I rx ry h
  obtain ⟨d, e, hd, he, ⟨p1, dp⟩, p2, q⟩ := h
  obtain ⟨as, r1⟩ := Dp.reads I d x v hd rx
  obtain ⟨bs, r2⟩ := Dp.reads I e y u he ry
  exact PySem.SeqAt.ne_plain r1 r2 p1 p2 (by have := Nat.min_le_left d.depth e.depth; omega) ⟨.bl _, H, I, rfl, q⟩
theorem d_int (i j : Int) : decide (V.int i = V.int j) = decide (i = j) := decide_eq_decide.mpr ⟨fun h => V.int.inj h, fun h => h ▸ rfl⟩
theorem d_str (i j : Str) : decide (V.str i = V.str j) = decide (i = j) := decide_eq_decide.mpr ⟨fun h => V.str.inj h, fun h => h ▸ rfl⟩
theorem d_bl (i j : Bool) : decide (V.bl i = V.bl j) = decide (i = j) := decide_eq_decide.mpr ⟨fun h => V.bl.inj h, fun h => h ▸ rfl⟩
/-- the same value, of two scalars -/
def sameS : V → V → Bool
  | .non, .non => true
  | .int i, .int j => decide (i = j)
  | .str i, .str j => decide (i = j)
  | .bl i, .bl j => decide (i = j)
  | .byt i, .byt j => decide (i = j)
  | _, _ => false
theorem sameS_eq {x y : V} (h : scal x y = true) : decide (x = y) = sameS x y := by
  cases x <;> cases y <;> first
    | (cases h; done)
    | exact d_int _ _
    | exact d_str _ _
    | exact d_bl _ _
    | rfl
    | (exact decide_eq_decide.mpr ⟨fun h => V.byt.inj h, fun h => h ▸ rfl⟩)
    | (exact decide_eq_false (fun q => nomatch q))
def uEq (K : PySem.W.Frag) : R2 := fun x y H Q => match x, y with
  | .int i, .int j => Q (.bl (decide (i = j))) H
  | .str i, .str j => Q (.bl (decide (i = j))) H
  | .bl i, .bl j => Q (.bl (decide (i = j))) H
  | x, y => (scal x y = true ∧ Q (.bl (sameS x y)) H) ∨ rEqP K x y H Q
theorem o_eq (hu : X.A.units + 64 < cLine) : OpR X (compareOp .Eq) (uEq X.K) := by
  refine wR (orR op_eq (op_eqP hu)) fun x y H Q q => ?_
  unfold uEq at q
  split at q
  · exact .inl ⟨rfl, (d_int _ _).symm ▸ q⟩
  · exact .inl ⟨rfl, (d_str _ _).symm ▸ q⟩
  · exact .inl ⟨rfl, (d_bl _ _).symm ▸ q⟩
  · rcases q with ⟨h, q⟩ | q
    · exact .inl ⟨h, (sameS_eq h).symm ▸ q⟩
    · exact .inr q
def uNe (K : PySem.W.Frag) : R2 := fun x y H Q => match x, y with
  | .int i, .int j => Q (.bl (!decide (i = j))) H
  | .str i, .str j => Q (.bl (!decide (i = j))) H
  | .bl i, .bl j => Q (.bl (!decide (i = j))) H
  | x, y => (scal x y = true ∧ Q (.bl (!sameS x y)) H) ∨ rNeP K x y H Q
theorem o_ne (hu : X.A.units + 64 < cLine) : OpR X (compareOp .NotEq) (uNe X.K) := by
  refine wR (orR op_ne (op_neP hu)) fun x y H Q q => ?_
  unfold uNe at q
  split at q
  · exact .inl ⟨rfl, (d_int _ _).symm ▸ q⟩
  · exact .inl ⟨rfl, (d_str _ _).symm ▸ q⟩
  · exact .inl ⟨rfl, (d_bl _ _).symm ▸ q⟩
  · rcases q with ⟨h, q⟩ | q
    · exact .inl ⟨h, (sameS_eq h).symm ▸ q⟩
    · exact .inr q
/-- tuples of ints in their order -/
theorem lexAt_eq (ns ms : List Int) (op : Int → Int → Bool) (z : Bool) (f : List Int → List Int → Bool)
    (h0 : ∀ i, i = ns.length ∨ i = ms.length → i ≤ ns.length → i ≤ ms.length → f (ns.drop i) (ms.drop i) = z)
    (h1 : ∀ x xs y ys, f (x :: xs) (y :: ys) = if x = y then f xs ys else op x y) :
    ∀ k i, i + k = min ns.length ms.length → Ob.lexAt (fun j => decide (ns.getD j 0 = ms.getD j 0)) (fun j => op (ns.getD j 0) (ms.getD j 0)) z i k = f (ns.drop i) (ms.drop i)
  | 0, i, h => by
    rw [Ob.lexAt_zero, h0 i (by omega) (by omega) (by omega)]
  | k + 1, i, h => by
    have a : i < ns.length := by omega
    have b : i < ms.length := by omega
    rw [Ob.lexAt_succ, List.drop_eq_getElem_cons a, List.drop_eq_getElem_cons b, h1, lexAt_eq ns ms op z f h0 h1 k (i + 1) (by omega)]
    simp only [List.getD_eq_getElem?_getD, List.getElem?_eq_getElem a, List.getElem?_eq_getElem b, Option.getD_some, decide_eq_true_eq]
def lexLe (a b : List Int) : Bool := !HT.lexLt b a
theorem lexLe_cons (x y : Int) (xs ys : List Int) : lexLe (x :: xs) (y :: ys) = if x = y then lexLe xs ys else decide (x ≤ y) := by
  unfold lexLe
  rw [HT.lexLt_cons]
  by_cases h : x = y
  · rw [if_pos h, if_pos h.symm]
  · rw [if_neg h, if_neg (fun e => h e.symm), ← decide_not]
    exact decide_eq_decide.mpr (by omega)
theorem lexLe_end (ns ms : List Int) (i : Nat) (h : i = ns.length ∨ i = ms.length) (h1 : i ≤ ns.length) (h2 : i ≤ ms.length) : lexLe (ns.drop i) (ms.drop i) = decide (ns.length ≤ ms.length) := by
  unfold lexLe
  by_cases a : i = ns.length
  · have e : ns.drop i = [] := List.drop_eq_nil_of_le (by omega)
    rw [e, decide_eq_true (by omega)]
    cases ms.drop i <;> rfl
  · have e : ms.drop i = [] := List.drop_eq_nil_of_le (by omega)
    rw [e, decide_eq_false (by omega)]
    cases e2 : ns.drop i with
    | nil => exact absurd (List.drop_eq_nil_iff.mp e2) (by omega)
    | cons x r => rfl
theorem lexAt_le (ns ms : List Int) : Ob.lexAt (fun j => decide (ns.getD j 0 = ms.getD j 0)) (fun j => decide (ns.getD j 0 ≤ ms.getD j 0)) (decide (ns.length ≤ ms.length)) 0 (min ns.length ms.length) = lexLe ns ms :=
  lexAt_eq ns ms (fun x y => decide (x ≤ y)) _ lexLe (fun i h a b => lexLe_end ns ms i h a b) (fun x xs y ys => lexLe_cons x y xs ys) _ 0 (by omega)
def lexGe (a b : List Int) : Bool := !HT.lexLt a b
theorem lexGe_le (a b : List Int) : lexGe a b = lexLe b a := rfl
theorem lexAt_ge (ns ms : List Int) : Ob.lexAt (fun j => decide (ns.getD j 0 = ms.getD j 0)) (fun j => decide (ns.getD j 0 ≥ ms.getD j 0)) (decide (ns.length ≥ ms.length)) 0 (min ns.length ms.length) = lexGe ns ms := by
  refine lexAt_eq ns ms (fun x y => decide (x ≥ y)) _ lexGe (fun i h a b => ?_) (fun x xs y ys => ?_) _ 0 (by omega)
  · rw [lexGe_le, lexLe_end ms ns i (by omega) b a]
  · rw [lexGe_le, lexLe_cons, lexGe_le]
    by_cases h : x = y
    · rw [if_pos h, if_pos h.symm]
    · rw [if_neg h, if_neg (fun e => h e.symm)]
def rGeT (K : PySem.W.Frag) : R2 := fun x y H Q => ∃ (a b : Addr) (ns ms : List Int), x = .ref a ∧ y = .ref b ∧ SqT K H a (ns.map V.int) ∧ SqT K H b (ms.map V.int) ∧ Q (.bl (lexGe ns ms)) H
theorem ints_at {us : List Value} {ns : List Int} (h : IntsAre us ns) (j : Nat) (h1 : j < us.toArray.size) : ∃ t, us.toArray[j] = .int (ns.getD j 0) t := PyProof.Rows.IntsAre.int_at h _ _ (by simp at h1; simp [h1])
theorem op_geT (hu : X.A.units < cLine) : OpR X (compareOp .GtE) (rGeT X.K) := by
  intro pins s σ H x y v u Q I rx ry h
  obtain ⟨a, b, ns, ms, rfl, rfl, ha, hb, q⟩ := h
  cases rx; cases ry
  obtain ⟨us, r1, p1, _⟩ := I.tuple ha
  obtain ⟨ws, r2, p2, _⟩ := I.tuple hb
  have j1 : IntsAre us ns := Vals.ints r1
  have j2 : IntsAre ws ms := Vals.ints r2
  have n1 : us.toArray.size = ns.length := List.size_toArray.trans j1.length
  have n2 : ws.toArray.size = ms.length := List.size_toArray.trans j2.length
  have R := Ob.RcOp.tuples_ge (A := X.A) (s := s) (e := fun j => decide (ns.getD j 0 = ms.getD j 0)) (r := fun j => decide (ns.getD j 0 ≥ ms.getD j 0)) p1 p2 hu
    (fun j h1 h2 => by
      obtain ⟨t, e1⟩ := ints_at j1 j h1
      obtain ⟨t', e2⟩ := ints_at j2 j h2
      rw [e1, e2, ← Bool.beq_eq_decide_eq]
      exact SeqAt.EqAt.int_int _ _ _ _)
    (fun j h1 h2 _ => by
      obtain ⟨t, e1⟩ := ints_at j1 j h1
      obtain ⟨t', e2⟩ := ints_at j2 j h2
      rw [e1, e2]
      exact Ob.RcOp.ge_int _ _ _ _)
  rw [n1, n2, lexAt_ge] at R
  exact R X.prog X.w X.xe (EP X pins σ Q) ⟨.bl _, H, I, rfl, q⟩
def uLt (K : PySem.W.Frag) : R2 := fun x y H Q => match x, y with
  | .int i, .int j => Q (.bl (decide (i < j))) H
  | .ref a, .ref b => ∃ ns ms : List Int, SqT K H a (ns.map V.int) ∧ SqT K H b (ms.map V.int) ∧ Q (.bl (HT.lexLt ns ms)) H
  | _, _ => False
theorem o_lt (hu : X.A.units < cLine) : OpR X (compareOp .Lt) (uLt X.K) := by
  refine wR (orR op_lt (op_ltT hu)) fun x y H Q q => ?_
  unfold uLt at q
  split at q
  · exact .inl ⟨_, _, rfl, rfl, q⟩
  · obtain ⟨ns, ms, a, b, q⟩ := q
    exact .inr ⟨_, _, ns, ms, rfl, rfl, a, b, q⟩
  · exact q.elim
def uLe (K : PySem.W.Frag) : R2 := fun x y H Q => match x, y with
  | .int i, .int j => Q (.bl (decide (i ≤ j))) H
  | .ref a, .ref b => ∃ ns ms : List Int, SqT K H a (ns.map V.int) ∧ SqT K H b (ms.map V.int) ∧ Q (.bl (lexLe ns ms)) H
  | _, _ => False
theorem o_le (hu : X.A.units < cLine) : OpR X (compareOp .LtE) (uLe X.K) := by
  refine wR (orR op_le (op_leT hu)) fun x y H Q q => ?_
  unfold uLe at q
  split at q
  · exact .inl ⟨_, _, rfl, rfl, q⟩
  · obtain ⟨ns, ms, a, b, q⟩ := q
    exact .inr ⟨_, _, ns, ms, rfl, rfl, a, b, by rw [lexAt_le]; exact q⟩
  · exact q.elim
def uGe (K : PySem.W.Frag) : R2 := fun x y H Q => match x, y with
  | .int i, .int j => Q (.bl (decide (j ≤ i))) H
  | .ref a, .ref b => ∃ ns ms : List Int, SqT K H a (ns.map V.int) ∧ SqT K H b (ms.map V.int) ∧ Q (.bl (lexGe ns ms)) H
  | _, _ => False
theorem o_ge (hu : X.A.units < cLine) : OpR X (compareOp .GtE) (uGe X.K) := by
  refine wR (orR op_ge (op_geT hu)) fun x y H Q q => ?_
  unfold uGe at q
  split at q
  · exact .inl ⟨_, _, rfl, rfl, q⟩
  · obtain ⟨ns, ms, a, b, q⟩ := q
    exact .inr ⟨_, _, ns, ms, rfl, rfl, a, b, q⟩
  · exact q.elim
def uGt : R2 := fun x y H Q => match x, y with
  | .int i, .int j => Q (.bl (decide (j < i))) H
  | _, _ => False
theorem o_gt : OpR X (compareOp .Gt) uGt := by
  refine wR op_gt fun x y H Q q => ?_
  unfold uGt at q
  split at q
  · exact ⟨_, _, rfl, rfl, q⟩
  · exact q.elim
def isNon : V → Bool
  | .non => true
  | _ => false
theorem isNon_eq (x : V) : decide (x = .non) = isNon x := by
  cases x <;> first | rfl | exact decide_eq_false (fun q => nomatch q)
def uIs : R2 := fun x y H Q => match y with
  | .non => Q (.bl (isNon x)) H
  | .bl b => ∃ a, x = .bl a ∧ Q (.bl (decide (a = b))) H
  | _ => False
theorem o_is : OpR X (compareOp .Is) uIs := by
  refine wR (orR op_isN op_is_bl) fun x y H Q q => ?_
  unfold uIs at q
  split at q
  · exact .inl ⟨rfl, (isNon_eq x).symm ▸ q⟩
  · obtain ⟨a, e, q⟩ := q
    exact .inr ⟨a, _, e, rfl, q⟩
  · exact q.elim
def uIsnt : R2 := fun x y H Q => match y with
  | .non => Q (.bl (!isNon x)) H
  | .bl b => ∃ a, x = .bl a ∧ Q (.bl (!decide (a = b))) H
  | _ => False
theorem o_isnt : OpR X (compareOp .IsNot) uIsnt := by
  refine wR (orR op_notN op_isnot_bl) fun x y H Q q => ?_
  unfold uIsnt at q
  split at q
  · exact .inl ⟨rfl, (isNon_eq x).symm ▸ q⟩
  · obtain ⟨a, e, q⟩ := q
    exact .inr ⟨a, _, e, rfl, q⟩
  · exact q.elim
end ops
section subs
variable {X : Cx}
/-- a[b] of lists, tuples, texts -/
def uIx (K : PySem.W.Frag) : R2 := fun x y H Q => match x, y with
  | .ref p, .int i => ∃ xs v, (SqL K H p xs ∨ SqT K H p xs) ∧ atI xs i = some v ∧ Q v H
  | .str z, .int i => z.length ≤ sizeLine ∧ ∃ c, atI z.cps.toList i = some c ∧ Q (.str ⟨#[c]⟩) H
  | _, _ => False
theorem ix_u : IxR X (uIx X.K) := by
  intro value slice pins s σ H x y v u Q I rx ry h hs
  refine ix_seq value slice pins s σ H x y v u Q I rx ry ?_ hs
  unfold uIx at h
  split at h
  · obtain ⟨xs, v, e | e, g, q⟩ := h
    · exact .inl ⟨_, xs, _, v, rfl, rfl, e, g, q⟩
    · exact .inr (.inl ⟨_, xs, _, v, rfl, rfl, e, g, q⟩)
  · obtain ⟨z, c, e, q⟩ := h
    exact .inr (.inr ⟨_, _, c, rfl, rfl, z, e, q⟩)
  · exact h.elim
theorem e_ix {a b : Expr} {ta tb : TE} {pos : Pos} (ha : PE X a ta) (hb : PE X b tb) (hs : PlainIx b := by exact fun _ _ => rfl) : PE X (.Subscript a b pos) (tOp (uIx X.K) ta tb) := pe_ix ix_u ha hb hs
/-- a[lo:hi] -/
def uSl (K : PySem.W.Frag) : V → Option Int → Option Int → Hp → VK → Prop := fun x lo hi H Q => rSlL K x lo hi H Q ∨ rSlT K x lo hi H Q ∨ rSlS x lo hi H Q
end subs
section calls
variable {X : Cx}
/-- len -/
def uLen (K : PySem.W.Frag) : List V → Hp → VK → Prop := fun xs H Q => match xs with
  | [.ref p] => (∃ ys, (SqL K H p ys ∨ SqT K H p ys) ∧ Q (.int ys.length) H) ∨ ∃ kvs, H p = some (.dK kvs) ∧ Q (.int kvs.length) H
  | [.str z] => z.length ≤ sizeLine ∧ Q (.int z.length) H
  | _ => False
theorem c_len : CallR X (.builtin "len") (uLen X.K) := by
  refine wC (orC call_len_seq (orC call_len_str call_lenD)) fun xs H Q q => ?_
  unfold uLen at q
  split at q
  · rcases q with ⟨ys, a, q⟩ | ⟨kvs, a, q⟩
    · exact .inl ⟨_, ys, rfl, a, q⟩
    · exact .inr (.inr ⟨_, kvs, rfl, a, q⟩)
  · exact .inr (.inl ⟨_, rfl, q⟩)
  · exact q.elim
def uAbs : List V → Hp → VK → Prop := fun xs H Q => match xs with
  | [.int i] => Q (.int (if i < 0 then -i else i)) H
  | _ => False
theorem c_abs : CallR X (.builtin "abs") uAbs := by
  refine wC call_abs fun xs H Q q => ?_
  unfold uAbs at q
  split at q
  · exact ⟨_, rfl, q⟩
  · exact q.elim
def uMax : List V → Hp → VK → Prop := fun xs H Q => match xs with
  | [.int i, .int j] => Q (.int (if j > i then j else i)) H
  | _ => False
theorem c_max (hc : X.calm = true) : CallR X (.builtin "max") uMax := by
  refine wC (call_max2 hc) fun xs H Q q => ?_
  unfold uMax at q
  split at q
  · exact ⟨_, _, rfl, q⟩
  · exact q.elim
def uMin : List V → Hp → VK → Prop := fun xs H Q => match xs with
  | [.int i, .int j] => Q (.int (if j < i then j else i)) H
  | _ => False
def uInt : List V → Hp → VK → Prop := fun xs H Q => match xs with
  | [.int i] => Q (.int i) H
  | [.bl k] => Q (.int (if k then 1 else 0)) H
  | _ => False
theorem c_int : CallR X (.type "int") uInt := by
  refine wC call_int1 fun xs H Q q => ?_
  unfold uInt at q
  split at q
  · exact .inl ⟨_, rfl, q⟩
  · exact .inr ⟨_, rfl, q⟩
  · exact q.elim
inductive Ty | int | bool | str | list | tuple | dict
def Ty.nm : Ty → String
  | .int => "int" | .bool => "bool" | .str => "str" | .list => "list" | .tuple => "tuple" | .dict => "dict"
/-- of a scalar -/
def isS : Ty → V → Bool
  | .int, .int _ => true
  | .int, .bl _ => true
  | .bool, .bl _ => true
  | .str, .str _ => true
  | _, _ => false
/-- of an object that is a list, a tuple, a dict -/
inductive Ob | list | tuple | dict
def Ob.nm : Ob → String
  | .list => "list" | .tuple => "tuple" | .dict => "dict"
def isO : Ty → Ob → Bool
  | .list, .list => true
  | .tuple, .tuple => true
  | .dict, .dict => true
  | _, _ => false
def uIsi (K : PySem.W.Frag) (n : Ty) : List V → Hp → VK → Prop := fun xs H Q => match xs with
  | [.int i, .ty m] => m = n.nm ∧ Q (.bl (isS n (.int i))) H
  | [.bl i, .ty m] => m = n.nm ∧ Q (.bl (isS n (.bl i))) H
  | [.str i, .ty m] => m = n.nm ∧ Q (.bl (isS n (.str i))) H
  | [.non, .ty m] => m = n.nm ∧ Q (.bl (isS n .non)) H
  | [.ref a, .ty m] => m = n.nm ∧ ∃ o : Ob, TyX K H (.ref a) (.type o.nm) ∧ Q (.bl (isO n o)) H
  | _ => False
theorem kit_int : ∀ n : Ty, kitB "int" n.nm = some (isS n (.int 0)) := fun n => by cases n <;> decide +kernel
theorem kit_bool : ∀ n : Ty, kitB "bool" n.nm = some (isS n (.bl true)) := fun n => by cases n <;> decide +kernel
theorem kit_str : ∀ n : Ty, kitB "str" n.nm = some (isS n (.str Str.empty)) := fun n => by cases n <;> decide +kernel
theorem kit_non : ∀ n : Ty, kitB "NoneType" n.nm = some (isS n .non) := fun n => by cases n <;> decide +kernel
theorem kit_obj : ∀ (n : Ty) (o : Ob), kitB o.nm n.nm = some (isO n o) := fun n o => by cases n <;> cases o <;> decide +kernel
theorem c_isi (n : Ty) : CallR X (.builtin "isinstance") (uIsi X.K n) := by
  refine wC call_isi fun xs H Q q => ?_
  unfold uIsi at q
  split at q
  · obtain ⟨rfl, q⟩ := q
    exact ⟨_, _, .type "int", .type n.nm, _, rfl, .ty n.nm, .base (.int _), kit_ty (kit_int n), by cases n <;> exact q⟩
  · obtain ⟨rfl, q⟩ := q
    exact ⟨_, _, .type "bool", .type n.nm, _, rfl, .ty n.nm, .base (.bl _), kit_ty (kit_bool n), by cases n <;> exact q⟩
  · obtain ⟨rfl, q⟩ := q
    exact ⟨_, _, .type "str", .type n.nm, _, rfl, .ty n.nm, .base (.str _), kit_ty (kit_str n), by cases n <;> exact q⟩
  · obtain ⟨rfl, q⟩ := q
    exact ⟨_, _, .type "NoneType", .type n.nm, _, rfl, .ty n.nm, .base .non, kit_ty (kit_non n), by cases n <;> exact q⟩
  · obtain ⟨rfl, o, t, q⟩ := q
    exact ⟨_, _, .type o.nm, .type n.nm, _, rfl, .ty n.nm, t, kit_ty (kit_obj n o), q⟩
  · exact q.elim
end calls
section own
variable {X : Cx} {k : Nat} {f C : Addr} {fd : FuncData} {ps : List Str} {sp : Sp} {W : WX} {x m : Str} {p pos apos : Pos} {e o : Expr} {es : List Expr} {ta : TE} {t : TA}
def uCall (sp : Sp) (W : WX) (t : TA) : TE := fun σ H Q => t σ H fun vs H1 => sp vs H1 Q fun c d H2 => W c d σ H2
theorem e_call (F : FnOk X.prog X.w X.K X.mg X.base (L2.CX X.prog X.w) k f fd ps sp) (hr : Room k X.A) (hm : X.mg x = some (.ref f)) (hk : PySem.W.keepIn X.K (.ref f) = true) (hb : Binds X.K fd ps []) (tk : Takes X W)
    (ha : PA X (e :: es) t) (hg : Gl X x := by rfl) (hdb : (x == ("__debug__" : Str)) = false := by decide) (he : starEach (e :: es) X.env = (false, eval e X.env) :: starEach es X.env := by rfl) (hpl : (backTo pos (starEach es X.env)).any (·.1) = false := by rfl) :
    PE X (.Call (.Name x p) (e :: es) [] pos) (uCall sp W t) := pe_callS (E := WE W) F hr hg hm hk hb (fun σ => passAt tk σ) ha hdb he hpl
/-- o.m(..) -/
def uMeth (C : Addr) (m : Str) (sp : Sp) (W : WX) (ta : TE) (t : TA) : TE := fun σ H Q => ta σ H fun x H1 => ∃ a dx fs, x = .ref a ∧ H1 a = some (.ins C dx fs) ∧ fs.lookup m = none ∧
  t σ H1 fun vs H2 => sp (x :: vs) H2 Q fun c d H3 => W c d σ H3
/-- what a body wants of exceptions, as a wish -/
abbrev WB (E : XK) : WX := fun c d _ H => E c d H
/-- what the top has of an own exception class -/
structure Exc (K : PySem.W.Frag) (mg : Str → Option Value) (n : Str) (C : Addr) : Prop where
  ex : PySem.W.excIn K C [.type "ValueError", .type "Exception", .type "BaseException", .type "object"] "ValueError.__new__" = true
  g : mg n = some (.ref C)
  kp : PySem.W.keepIn K (.ref C) = true
  sub : PySem.W.subIn K (.ref C) (.type "BaseException") = some true
  ty : PySem.W.typeIn K (.ref C) = some (.type "type")
def uRaise (C : Addr) (W : WX) : TS := fun _ σ H => W (.ref C) none σ H
theorem pmk0 {n : Str} (T : Exc X.K X.mg n C) (hg : Gl X n := by rfl) (hdb : (n == ("__debug__" : Str)) = false := by decide) : PMk X (.Call (.Name n p) [] [] pos) (fun _ H Q => Q (.ref C) none H) := by
  intro pins s σ H Q I h
  refine wpAny_Call_Name_kw (ld_glob I hg T.g (PySem.W.callWith_K0 I.kIn T.kp ?_) hdb)
  obtain ⟨bm, N, nm, qn, bs, hdct, sn, sub, ab, col, dd, k0, k1, k2, k3, k5, mN, hC, hN, hni, Z⟩ := exc_obj I.kIn T.ex
  exact wpAny_call_exc_subT PySem.F.excBase_ValueError Z hC hN hni (fun h' e hm => mk_of I hm (raises_own T.sub T.ty) h (I.hok.gone hm.new)) (Nat.zero_le _)
theorem s_raise {n : Str} (T : Exc X.K X.mg n C) (tk : Takes X W) {pos2 : Pos} (hc : X.calm = true := by rfl) (hg : Gl X n := by rfl) (hdb : (n == ("__debug__" : Str)) = false := by decide) :
    PS X (.Raise (some (.Call (.Name n p) [] [] pos)) none pos2) (uRaise C W) := ps_raise hc tk (pmk0 T hg hdb)
end own
section tries
variable {X : Cx} {x n : Str} {c : Value} {i : Nat} {body suite : List Stmt} {b₀ : Stmt} {np pos pos' : Pos} {tb : WX → TS} {ts : Addr → Value → Option Addr → TS} {W : WX}
def uTryAs (K : PySem.W.Frag) (c : Value) (i : Nat) (tb : WX → TS) (ts : Addr → Value → Option Addr → TS) (W : WX) : TS := fun D σ H => tb (wAs K c i ts W D) D σ H
def uTry (K : PySem.W.Frag) (c : Value) (tb : WX → TS) (ts : Addr → Value → Option Addr → TS) (W : WX) : TS := fun D σ H => tb (wOnly K c ts W D) D σ H
theorem s_tryAs (hs : X.stack = X.env :: X.outer) (hf : X.env.frame = some X.env.locals) (hN : X.N.Nodup) (hi : X.N[i]? = some n) (hln : X.env.kindOf n = some .local) (hc : Names X x c) (tk : Takes X W)
    (hb : ∀ (W' : WX) (pn : List (Addr × Obj)) (xe : Value → Shared → Prop), Takes (X.tr pn xe) W' → PassesOwn (model X.prog X.w) X.A X.env xe → PSs (X.tr pn xe) body (tb W'))
    (hsu : ∀ (a : Addr) (oe : Obj) (cls : Value) (d : Option Addr) (pn : List (Addr × Obj)), Zc cls d oe → (∃ vs, oe.data = .fields vs) → PSs (X.suite a ((a, oe) :: pn)) (b₀ :: suite) (ts a cls d)) :
    PS X (.Try body [.ExceptHandler (some (.Name x np)) (some n) (b₀ :: suite) pos'] [] [] pos) (uTryAs X.K c i tb ts W) := ps_try_as hs hf hN hi hln hc tk hb hsu
theorem w_tryAs {K : PySem.W.Frag} {D : Ends} {σ : L2.St} {H : Hp} (h : tb (wAs K c i ts W D) D σ H) : uTryAs K c i tb ts W D σ H := h
theorem w_try {K : PySem.W.Frag} {D : Ends} {σ : L2.St} {H : Hp} (h : tb (wOnly K c ts W D) D σ H) : uTry K c tb ts W D σ H := h
theorem w_asT {K : PySem.W.Frag} {D : Ends} {σ : L2.St} {H : Hp} {cls : Value} {d : Option Addr} (e : PySem.W.exmOne K cls c = some true)
    (h : ∀ a, H a = none → ts a cls d { nx := fun σ' H' => D.nx (σ'.set i none) H', rt := D.rt, bk := fun σ' H' => D.bk (σ'.set i none) H', ct := fun σ' H' => D.ct (σ'.set i none) H' } (σ.set i (some (.ref a))) H) :
    wAs K c i ts W D cls d σ H := ⟨true, e, fun _ => h, fun q => Bool.noConfusion q⟩
theorem w_asF {K : PySem.W.Frag} {D : Ends} {σ : L2.St} {H : Hp} {cls : Value} {d : Option Addr} (e : PySem.W.exmOne K cls c = some false) (h : W cls d σ H) : wAs K c i ts W D cls d σ H := ⟨false, e, fun q => Bool.noConfusion q, fun _ => h⟩
theorem w_onT {K : PySem.W.Frag} {D : Ends} {σ : L2.St} {H : Hp} {cls : Value} {d : Option Addr} (e : PySem.W.exmOne K cls c = some true) (h : ∀ a, H a = none → ts a cls d D σ H) : wOnly K c ts W D cls d σ H := ⟨true, e, fun _ => h, fun q => Bool.noConfusion q⟩
theorem w_onF {K : PySem.W.Frag} {D : Ends} {σ : L2.St} {H : Hp} {cls : Value} {d : Option Addr} (e : PySem.W.exmOne K cls c = some false) (h : W cls d σ H) : wOnly K c ts W D cls d σ H := ⟨false, e, fun q => Bool.noConfusion q, fun _ => h⟩
/-- isinstance(e, C) of the exception that a suite holds -/
def uIsE (K : PySem.W.Frag) (a : Addr) (cls : Value) (d : Option Addr) : List V → Hp → VK → Prop := fun xs H Q => ∃ (D C : Addr) (b : Bool), cls = .ref D ∧ d = none ∧ ExcC K D ∧ xs = [.ref a, .ref C] ∧ PySem.W.kitOne K (.ref D) (.ref C) = some b ∧ Q (.bl b) H
theorem c_isE {a : Addr} {oe : Obj} {cls : Value} {d : Option Addr} {pn : List (Addr × Obj)} (hz : Zc cls d oe) (hf : ∃ vs, oe.data = .fields vs) : CallR (X.suite a ((a, oe) :: pn)) (.builtin "isinstance") (uIsE X.K a cls d) := by
  intro pins s σ H xs us Q I r h
  obtain ⟨D, C, b, rfl, rfl, x, rfl, e, q⟩ := h
  exact call_isE x hz hf pins s σ H _ us Q I r ⟨.ref C, .ref C, b, rfl, fun u h => h, e, q⟩
theorem w_isE {K : PySem.W.Frag} {H : Hp} {Q : VK} {a D C : Addr} {b : Bool} (x : ExcC K D) (e : PySem.W.kitOne K (.ref D) (.ref C) = some b) (h : Q (.bl b) H) : uIsE K a (.ref D) none [.ref a, .ref C] H Q := ⟨D, C, b, rfl, rfl, x, rfl, e, h⟩
theorem kit_ne {K : PySem.W.Frag} {R A : Addr} {b : Bool} (n : (Value.ref R == Value.ref A) = false) (h1 : PySem.W.subIn K (.ref A) (.type "BaseException") = some true) (hd : PySem.W.hasDictIn K A = true) (ht : PySem.W.typeIn K (.ref A) = some (.type "type")) (h4 : PySem.W.subIn K (.ref R) (.ref A) = some b) : PySem.W.kitOne K (.ref R) (.ref A) = some b := by
  have z := PySem.W.exm_ref h1 hd ht h4
  have e1 : (PySem.W.subIn K (.ref A) (.type "BaseException") == some true) = true := by rw [h1]; rfl
  unfold PySem.W.exmOne at z
  rw [if_pos e1] at z
  unfold PySem.W.kitOne
  rw [if_neg (by rw [n]; exact Bool.false_ne_true)]
  exact z
theorem kit_same {K : PySem.W.Frag} {R : Addr} : PySem.W.kitOne K (.ref R) (.ref R) = some true := by
  unfold PySem.W.kitOne
  rw [if_pos (beq_self_eq_true _)]
end tries
section fields
variable {X : Cx} {C : Addr} {f : Str} {e o v : Expr} {ta tv : TE} {pos pos' : Pos}
def uFld (C : Addr) (f : Str) (ta : TE) : TE := fun σ H Q => ta σ H fun x H1 => ∃ a dx fs v, x = .ref a ∧ H1 a = some (.ins C dx fs) ∧ fs.lookup f = some v ∧ Q v H1
def uSetF (C : Addr) (f : Str) (ta tv : TE) : TS := fun D σ H => tv σ H fun y H1 => ta σ H1 fun x H2 => ∃ a dx fs, x = .ref a ∧ H2 a = some (.ins C dx fs) ∧ fs.length < 1000 ∧ D.nx σ (upd H2 a (.ins C dx (putF f y fs)))
end fields
section truth
variable {X : Cx} {e : Expr} {te : TE}
def truV (K : PySem.W.Frag) (x : V) (H1 : Hp) (Q : Bool → Hp → Prop) : Prop := match x with
  | .bl b => Q b H1
  | .non => Q false H1
  | .int i => Q (!decide (i = 0)) H1
  | .str z => z.length ≤ sizeLine ∧ Q (!decide (z.length = 0)) H1
  | .ref p => (∃ xs, (SqL K H1 p xs ∨ SqT K H1 p xs) ∧ Q (!xs.isEmpty) H1) ∨ ∃ kvs, H1 p = some (.dK kvs) ∧ Q (!kvs.isEmpty) H1
  | _ => False
def uTru (K : PySem.W.Frag) (te : TE) : TT := fun σ H Q => te σ H fun x H1 => truV K x H1 Q
theorem t_tru (he : PE X e te) (hw : ∀ whole, isTrue e X.env whole = (do let v ← whole; standAt e.pos; holding [v] (truthy v)) := by intro _; rfl) : PT X e (uTru X.K te) := by
  refine ⟨fun pins s σ H Q I h => isTrue_plain (thn (he.run pins s σ H _ I h) fun v s1 hh => ?_) (hw _)⟩
  obtain ⟨x, H1, I1, r1, q⟩ := hh
  refine tru_ok pins s1 σ H1 x v Q I1 r1 ?_
  unfold truV at q
  split at q
  · exact ⟨_, rfl, q⟩
  · exact ⟨_, rfl, q⟩
  · rename_i i
    refine ⟨_, rfl, ?_⟩
    rw [show (i != 0) = !decide (i = 0) by rw [bne, Bool.beq_eq_decide_eq]]
    exact q
  · rename_i z
    refine ⟨_, ⟨q.1, rfl⟩, ?_⟩
    rw [show ((z.length : Int) != 0) = !decide (z.length = 0) by rw [bne, Bool.beq_eq_decide_eq]; congr 1; exact decide_eq_decide.mpr (by omega)]
    exact q.2
  · rcases q with ⟨xs, a | a, q⟩ | ⟨kvs, a, q⟩
    · exact ⟨_, .inl ⟨xs, a, rfl⟩, q⟩
    · exact ⟨_, .inr (.inl ⟨xs, a, rfl⟩), q⟩
    · exact ⟨_, .inr (.inr ⟨kvs, a, rfl⟩), q⟩
  · exact q.elim
end truth
def forQ (g : TG) (tb : TS) (D : Ends) (σ : L2.St) (J : It) (H1 : Hp) : Prop := ∃ W : Nat → Nat → L2.St → Hp → Prop, (∃ m, W 0 m σ H1) ∧ ∀ i m σ H, W i m σ H →
  (J.stop i H ∧ D.nx σ H) ∨ (J.go i H ∧ ∃ N : L2.St → Hp → Prop, (∀ σ' H', N σ' H' → ∃ m', m' < m ∧ W (i + 1) m' σ' H') ∧ ∀ x H', J.yld i H x H' → g x σ H' fun σ2 H2 => tb { D with nx := N, ct := N, bk := D.nx } σ2 H2)
def newT (xs : List V) (H1 : Hp) (Q : VK) : Prop := xs.length ≤ sizeLine ∧ ∀ p, H1 p = none → Q (.ref p) (upd H1 p (.tup xs))
def newL (xs : List V) (H1 : Hp) (Q : VK) : Prop := xs.length ≤ sizeLine ∧ ∀ p, H1 p = none → Q (.ref p) (upd H1 p (.lst xs))
def bmQ (K : PySem.W.Frag) (T : String) (q : V → List V → Hp → VK → Prop) (tA : TA) (σ : L2.St) (x : V) (H1 : Hp) (Q : VK) : Prop := tyV K T x H1 ∧ tA σ H1 fun xs H2 => q x xs H2 Q
def rng1Q (vs : List V) (H1 : Hp) (R : It → Hp → Prop) : Prop := ∃ j : Int, vs = [.int j] ∧ -(2 ^ 62) ≤ j ∧ j < 2 ^ 62 ∧ R (Itr 0 j.toNat) H1
def rng2Q (vs : List V) (H1 : Hp) (R : It → Hp → Prop) : Prop := ∃ i j : Int, vs = [.int i, .int j] ∧ (-(2 ^ 62) ≤ i ∧ i < 2 ^ 62 ∧ -(2 ^ 62) ≤ j ∧ j < 2 ^ 62) ∧ R (Itr i (j - i).toNat) H1
def listQ (K : PySem.W.Frag) (x : V) (H1 : Hp) (R : It → Hp → Prop) : Prop := ∃ a, x = .ref a ∧ (∃ xs, SqL K H1 a xs) ∧ R (Itl K a) H1
def tupQ (K : PySem.W.Frag) (x : V) (H1 : Hp) (R : It → Hp → Prop) : Prop := ∃ a, x = .ref a ∧ (∃ xs, SqT K H1 a xs) ∧ R (Itt K a) H1
def strQ (x : V) (H1 : Hp) (R : It → Hp → Prop) : Prop := ∃ z, x = .str z ∧ R (Its z) H1
def revQ (K : PySem.W.Frag) (vs : List V) (H1 : Hp) (R : It → Hp → Prop) : Prop := ∃ (a : Addr) (xs : List V), vs = [.ref a] ∧ SqL K H1 a xs ∧ R (Itv K a xs.length) H1
def fldQ (C : Addr) (f : Str) (x : V) (H1 : Hp) (Q : VK) : Prop := ∃ a dx fs v, x = .ref a ∧ H1 a = some (.ins C dx fs) ∧ fs.lookup f = some v ∧ Q v H1
def methQ (C : Addr) (m : Str) (sp : Sp) (W : WX) (t : TA) (σ : L2.St) (x : V) (H1 : Hp) (Q : VK) : Prop := ∃ a dx fs, x = .ref a ∧ H1 a = some (.ins C dx fs) ∧ fs.lookup m = none ∧ t σ H1 fun vs H2 => sp (x :: vs) H2 Q fun c d H3 => W c d σ H3
def setfQ (C : Addr) (f : Str) (x y : V) (H2 : Hp) (N : Hp → Prop) : Prop := ∃ a dx fs, x = .ref a ∧ H2 a = some (.ins C dx fs) ∧ fs.length < 1000 ∧ N (upd H2 a (.ins C dx (putF f y fs)))
section steps
variable {K : PySem.W.Frag} {D : Ends} {σ : L2.St} {H : Hp} {Q : VK} {QB : Bool → Hp → Prop} {QA : List V → Hp → Prop} {t u : TS} {te ta tb tv : TE} {tA : TA} {c c1 c2 : TT} {g : TG} {i : Nat} {v x y : V} {r r' : R2} {W : WX} {sp : Sp} {b : Bool} {C a : Addr} {f : Str}
theorem w_seq (h : t { D with nx := u D } σ H) : tSeq t u D σ H := h
theorem w_cut (P : L2.St → Hp → Prop) (h1 : t { D with nx := P } σ H) (h2 : ∀ σ H, P σ H → u D σ H) : tCut t u D σ H := ⟨P, h1, h2⟩
theorem w_next (h : D.nx σ H) : tNext D σ H := h
theorem w_asg (h : te σ H fun x H1 => g x σ H1 D.nx) : tAsg te g D σ H := h
theorem w_name {N : L2.St → Hp → Prop} (h : N (σ.set i (some v)) H) : gName i v σ H N := h
theorem w_ret (h : te σ H D.rt) : tRet te D σ H := h
theorem w_retN (h : D.rt .non H) : tRetN D σ H := h
theorem w_if (h : c σ H fun b H1 => if b = true then t D σ H1 else u D σ H1) : tIfS c t u D σ H := h
theorem w_drop (h : te σ H fun _ H1 => D.nx σ H1) : tDrop te D σ H := h
theorem w_brk (h : D.bk σ H) : tBreak D σ H := h
theorem w_cont (h : D.ct σ H) : tCont D σ H := h
theorem w_aug {ti : TIp} (e : σ[i]? = some (some x)) (h : te σ H fun y H1 => ti x y H1 fun z H2 => D.nx (σ.set i (some z)) H2) : tAug i te ti D σ H := ⟨x, e, h⟩
theorem w_ipI {k : Int → Int → Int} {m n : Int} (h : Q (.int (k m n)) H) : ipI k (.int m) (.int n) H Q := ⟨m, n, rfl, rfl, h⟩
theorem w_test (h : te σ H fun x H1 => ∃ k, x = .bl k ∧ QB k H1) : tTest te σ H QB := h
theorem w_not (h : c σ H fun k H1 => QB (!k) H1) : tNot c σ H QB := h
theorem w_and (h : c1 σ H fun k H1 => if k = true then c2 σ H1 QB else QB false H1) : tAnd c1 c2 σ H QB := h
theorem w_or (h : c1 σ H fun k H1 => if k = true then QB true H1 else c2 σ H1 QB) : tOr c1 c2 σ H QB := h
theorem w_andV (h : ta σ H fun x H1 => ∃ k, x = .bl k ∧ if k = true then tb σ H1 Q else Q (.bl false) H1) : tAndV ta tb σ H Q := h
theorem w_orV (h : ta σ H fun x H1 => ∃ k, x = .bl k ∧ if k = true then Q (.bl true) H1 else tb σ H1 Q) : tOrV ta tb σ H Q := h
theorem w_notV (h : ta σ H fun x H1 => ∃ k, x = .bl k ∧ Q (.bl (!k)) H1) : tNotV ta σ H Q := h
theorem w_blP {P : Bool → Prop} (h : P b) : ∃ k, V.bl b = .bl k ∧ P k := ⟨b, rfl, h⟩
theorem w_ifE (h : c σ H fun k H1 => if k = true then ta σ H1 Q else tb σ H1 Q) : tIf c ta tb σ H Q := h
theorem w_var (e : σ[i]? = some (some v)) (h : Q v H) : tVar i σ H Q := ⟨v, e, h⟩
theorem w_c (h : Q v H) : tC v σ H Q := h
theorem w_op (h : ta σ H fun x H1 => tb σ H1 fun y H2 => r x y H2 Q) : tOp r ta tb σ H Q := h
theorem w_un {ru : V → Hp → VK → Prop} (h : ta σ H fun x H1 => ru x H1 Q) : tUn ru ta σ H Q := h
theorem w_neg {m : Int} (h : Q (.int (-m)) H) : uNeg (.int m) H Q := h
theorem w_chain {tc : TE} (h : ta σ H fun x H1 => tb σ H1 fun y H2 => r x y H2 fun z H3 => ∃ k, z = .bl k ∧ if k = true then tc σ H3 fun w H4 => r' y w H4 Q else Q (.bl false) H3) : tChain r r' ta tb tc σ H Q := h
theorem w_cons (h : te σ H fun x H1 => tA σ H1 fun xs H2 => QA (x :: xs) H2) : tCons te tA σ H QA := h
theorem w_nil (h : QA [] H) : tNil σ H QA := h
theorem w_tup (h : tA σ H fun xs H1 => newT xs H1 Q) : tTup tA σ H Q := h
theorem w_lst (h : tA σ H fun xs H1 => newL xs H1 Q) : tLst tA σ H Q := h
theorem small9 {n : Nat} (h : n ≤ 100000) : n ≤ sizeLine := Nat.le_trans h (by decide)
theorem w_newT {xs : List V} (s : xs.length ≤ 100000) (h : ∀ p, H p = none → Q (.ref p) (upd H p (.tup xs))) : newT xs H Q := ⟨small9 s, h⟩
theorem w_newL {xs : List V} (s : xs.length ≤ 100000) (h : ∀ p, H p = none → Q (.ref p) (upd H p (.lst xs))) : newL xs H Q := ⟨small9 s, h⟩
theorem w_add {m n : Int} (h : Q (.int (m + n)) H) : uAdd K (.int m) (.int n) H Q := h
theorem w_sub {m n : Int} (h : Q (.int (m - n)) H) : uSub (.int m) (.int n) H Q := h
theorem w_mul {m n : Int} (s : CMul m n) (h : Q (.int (m * n)) H) : uMul (.int m) (.int n) H Q := ⟨.inl s, h⟩
theorem w_div {m n : Int} (s : 0 < n ∧ n < 2 ^ 200) (h : Q (.int (m / n)) H) : uDiv (.int m) (.int n) H Q := ⟨s, h⟩
theorem w_mod {m n : Int} (s : 0 < n) (h : Q (.int (m % n)) H) : uMod (.int m) (.int n) H Q := ⟨s, h⟩
theorem w_pow {m n : Int} (s : CPow m n) (h : Q (.int (m ^ n.toNat)) H) : uPow (.int m) (.int n) H Q := ⟨s, h⟩
theorem w_eqP {o : Addr} (h : rEqP K x (.ref o) H Q) : uEq K x (.ref o) H Q := by cases x <;> exact Or.inr h
theorem w_eqI {m n : Int} (h : Q (.bl (decide (m = n))) H) : uEq K (.int m) (.int n) H Q := h
theorem w_eqS {m n : Str} (h : Q (.bl (decide (m = n))) H) : uEq K (.str m) (.str n) H Q := h
theorem w_eqB {m n : Bool} (h : Q (.bl (decide (m = n))) H) : uEq K (.bl m) (.bl n) H Q := h
theorem w_neI {m n : Int} (h : Q (.bl (!decide (m = n))) H) : uNe K (.int m) (.int n) H Q := h
theorem w_neS {m n : Str} (h : Q (.bl (!decide (m = n))) H) : uNe K (.str m) (.str n) H Q := h
theorem w_neB {m n : Bool} (h : Q (.bl (!decide (m = n))) H) : uNe K (.bl m) (.bl n) H Q := h
theorem w_lt {m n : Int} (h : Q (.bl (decide (m < n))) H) : uLt K (.int m) (.int n) H Q := h
theorem w_le {m n : Int} (h : Q (.bl (decide (m ≤ n))) H) : uLe K (.int m) (.int n) H Q := h
theorem w_gt {m n : Int} (h : Q (.bl (decide (n < m))) H) : uGt (.int m) (.int n) H Q := h
theorem w_ge {m n : Int} (h : Q (.bl (decide (n ≤ m))) H) : uGe K (.int m) (.int n) H Q := h
theorem w_cb {q : List V → Hp → VK → Prop} (h : tA σ H fun vs H1 => q vs H1 Q) : tCB q tA σ H Q := h
theorem w_call (h : tA σ H fun vs H1 => sp vs H1 Q fun c d H2 => W c d σ H2) : uCall sp W tA σ H Q := h
theorem w_tru (h : te σ H fun x H1 => truV K x H1 QB) : uTru K te σ H QB := h
theorem w_truB {b : Bool} (h : QB b H) : truV K (.bl b) H QB := h
theorem w_truN (h : QB false H) : truV K .non H QB := h
theorem w_truI {m : Int} (h : QB (!decide (m = 0)) H) : truV K (.int m) H QB := h
theorem w_isi_int_int {m : Int} (h : Q (.bl true) H) : uIsi K .int [(.int m), .ty "int"] H Q := ⟨rfl, h⟩
theorem w_isi_int_bl {m : Bool} (h : Q (.bl true) H) : uIsi K .int [(.bl m), .ty "int"] H Q := ⟨rfl, h⟩
theorem w_isi_int_str {m : Str} (h : Q (.bl false) H) : uIsi K .int [(.str m), .ty "int"] H Q := ⟨rfl, h⟩
theorem w_isi_int_non  (h : Q (.bl false) H) : uIsi K .int [.non, .ty "int"] H Q := ⟨rfl, h⟩
theorem w_isi_bool_int {m : Int} (h : Q (.bl false) H) : uIsi K .bool [(.int m), .ty "bool"] H Q := ⟨rfl, h⟩
theorem w_isi_bool_bl {m : Bool} (h : Q (.bl true) H) : uIsi K .bool [(.bl m), .ty "bool"] H Q := ⟨rfl, h⟩
theorem w_isi_bool_str {m : Str} (h : Q (.bl false) H) : uIsi K .bool [(.str m), .ty "bool"] H Q := ⟨rfl, h⟩
theorem w_isi_bool_non  (h : Q (.bl false) H) : uIsi K .bool [.non, .ty "bool"] H Q := ⟨rfl, h⟩
theorem w_isi_str_int {m : Int} (h : Q (.bl false) H) : uIsi K .str [(.int m), .ty "str"] H Q := ⟨rfl, h⟩
theorem w_isi_str_bl {m : Bool} (h : Q (.bl false) H) : uIsi K .str [(.bl m), .ty "str"] H Q := ⟨rfl, h⟩
theorem w_isi_str_str {m : Str} (h : Q (.bl true) H) : uIsi K .str [(.str m), .ty "str"] H Q := ⟨rfl, h⟩
theorem w_isi_str_non  (h : Q (.bl false) H) : uIsi K .str [.non, .ty "str"] H Q := ⟨rfl, h⟩
theorem w_isi_list_int {m : Int} (h : Q (.bl false) H) : uIsi K .list [(.int m), .ty "list"] H Q := ⟨rfl, h⟩
theorem w_isi_list_bl {m : Bool} (h : Q (.bl false) H) : uIsi K .list [(.bl m), .ty "list"] H Q := ⟨rfl, h⟩
theorem w_isi_list_str {m : Str} (h : Q (.bl false) H) : uIsi K .list [(.str m), .ty "list"] H Q := ⟨rfl, h⟩
theorem w_isi_list_non  (h : Q (.bl false) H) : uIsi K .list [.non, .ty "list"] H Q := ⟨rfl, h⟩
theorem w_isi_tuple_int {m : Int} (h : Q (.bl false) H) : uIsi K .tuple [(.int m), .ty "tuple"] H Q := ⟨rfl, h⟩
theorem w_isi_tuple_bl {m : Bool} (h : Q (.bl false) H) : uIsi K .tuple [(.bl m), .ty "tuple"] H Q := ⟨rfl, h⟩
theorem w_isi_tuple_str {m : Str} (h : Q (.bl false) H) : uIsi K .tuple [(.str m), .ty "tuple"] H Q := ⟨rfl, h⟩
theorem w_isi_tuple_non  (h : Q (.bl false) H) : uIsi K .tuple [.non, .ty "tuple"] H Q := ⟨rfl, h⟩
theorem w_is_int {m : Int} (h : Q (.bl false) H) : uIs (.int m) .non H Q := h
theorem w_isnt_int {m : Int} (h : Q (.bl true) H) : uIsnt (.int m) .non H Q := h
theorem w_is_bl {m : Bool} (h : Q (.bl false) H) : uIs (.bl m) .non H Q := h
theorem w_isnt_bl {m : Bool} (h : Q (.bl true) H) : uIsnt (.bl m) .non H Q := h
theorem w_is_str {m : Str} (h : Q (.bl false) H) : uIs (.str m) .non H Q := h
theorem w_isnt_str {m : Str} (h : Q (.bl true) H) : uIsnt (.str m) .non H Q := h
theorem w_is_non  (h : Q (.bl true) H) : uIs .non .non H Q := h
theorem w_isnt_non  (h : Q (.bl false) H) : uIsnt .non .non H Q := h
theorem w_is_ref {m : Addr} (h : Q (.bl false) H) : uIs (.ref m) .non H Q := h
theorem w_isnt_ref {m : Addr} (h : Q (.bl true) H) : uIsnt (.ref m) .non H Q := h
theorem ifNT {A B : Prop} (h : B) : if (!true) = true then A else B := iteF h
theorem ifNF {A B : Prop} (h : A) : if (!false) = true then A else B := iteT h
theorem w_max {m n : Int} (h : Q (.int (if n > m then n else m)) H) : uMax [.int m, .int n] H Q := h
theorem w_min {m n : Int} (h : Q (.int (if n < m then n else m)) H) : uMin [.int m, .int n] H Q := h
theorem w_abs {m : Int} (h : Q (.int (if m < 0 then -m else m)) H) : uAbs [.int m] H Q := h
theorem w_intI {m : Int} (h : Q (.int m) H) : uInt [.int m] H Q := h
theorem w_intB {m : Bool} (h : Q (.int (if m then 1 else 0)) H) : uInt [.bl m] H Q := h
theorem w_lenL {p : Addr} {xs : List V} (e : SqL K H p xs) (h : Q (.int xs.length) H) : uLen K [.ref p] H Q := .inl ⟨xs, .inl e, h⟩
theorem w_lenT {p : Addr} {xs : List V} (e : SqT K H p xs) (h : Q (.int xs.length) H) : uLen K [.ref p] H Q := .inl ⟨xs, .inr e, h⟩
theorem w_ixL {p : Addr} {xs : List V} {n : Int} {k : Nat} (e : SqL K H p xs) (ek : n = (k : Int)) (ev : xs[k]? = some v) (h : Q v H) : uIx K (.ref p) (.int n) H Q := ⟨xs, v, .inl e, by rw [ek]; exact atI_nat ev, h⟩
theorem w_ixT {p : Addr} {xs : List V} {n : Int} {k : Nat} (e : SqT K H p xs) (ek : n = (k : Int)) (ev : xs[k]? = some v) (h : Q v H) : uIx K (.ref p) (.int n) H Q := ⟨xs, v, .inr e, by rw [ek]; exact atI_nat ev, h⟩
theorem w_ixI {p : Addr} {ns : List Int} {n : Int} (e : SqL K H p (ns.map V.int)) (h0 : 0 ≤ n ∧ n.toNat < ns.length) (h : Q (.int (ns.getD n.toNat 0)) H) : uIx K (.ref p) (.int n) H Q :=
  ⟨_, .int (ns.getD n.toNat 0), .inl e, by
    have z : (ns.map V.int)[n.toNat]? = some (.int (ns.getD n.toNat 0)) := by rw [List.getElem?_map, List.getElem?_eq_getElem h0.2, List.getD_eq_getElem?_getD, List.getElem?_eq_getElem h0.2]; rfl
    have y := atI_nat z
    rw [show ((n.toNat : Nat) : Int) = n by omega] at y
    exact y, h⟩
theorem w_ixTI {p : Addr} {ns : List Int} {n : Int} (e : SqT K H p (ns.map V.int)) (h0 : 0 ≤ n ∧ n.toNat < ns.length) (h : Q (.int (ns.getD n.toNat 0)) H) : uIx K (.ref p) (.int n) H Q :=
  ⟨_, .int (ns.getD n.toNat 0), .inr e, by
    have z : (ns.map V.int)[n.toNat]? = some (.int (ns.getD n.toNat 0)) := by rw [List.getElem?_map, List.getElem?_eq_getElem h0.2, List.getD_eq_getElem?_getD, List.getElem?_eq_getElem h0.2]; rfl
    have y := atI_nat z
    rw [show ((n.toNat : Nat) : Int) = n by omega] at y
    exact y, h⟩
theorem w_appI {p : Addr} {ns : List Int} {z : Int} (e : H p = some (.lst (ns.map V.int))) (s : ns.length < 10000000) (h : Q .non (upd H p (.lst ((ns ++ [z]).map V.int)))) : rAppend (.ref p) [.int z] H Q :=
  ⟨p, _, _, rfl, rfl, e, by rw [List.length_map]; exact Nat.lt_of_lt_of_le s (by decide), by rw [List.map_append] at h; exact h⟩
theorem w_gsub {to ti : TE} {ts : TSet} {N : L2.St → Hp → Prop} (h : to σ H fun o H1 => ti σ H1 fun i H2 => ts o i v H2 fun H3 => N σ H3) : gSub to ti ts v σ H N := h
def partQ (x : V) (H1 : Hp) (Q : Option Int → Hp → Prop) : Prop := ∃ i, x = .int i ∧ Q (some i) H1
theorem w_sl {rs : V → Option Int → Option Int → Hp → VK → Prop} {tl th : TO} (h : te σ H fun x H1 => tl σ H1 fun l H2 => th σ H2 fun u H3 => rs x l u H3 Q) : tSl rs te tl th σ H Q := h
theorem w_part {Q : Option Int → Hp → Prop} (h : te σ H fun x H1 => partQ x H1 Q) : tPart te σ H Q := h
theorem w_partI {Q : Option Int → Hp → Prop} {n : Int} (h : Q (some n) H) : partQ (.int n) H Q := ⟨n, rfl, h⟩
theorem w_noPart {Q : Option Int → Hp → Prop} (h : Q none H) : tNoPart σ H Q := h
theorem w_ixTl {p : Addr} {xs : List V} {n : Int} (e : SqT K H p xs) (ev : xs[n.toNat]? = some v) (h0 : 0 ≤ n) (h : Q v H) : uIx K (.ref p) (.int n) H Q := w_ixT (k := n.toNat) e (by omega) ev h
theorem w_ixLl {p : Addr} {xs : List V} {n : Int} (e : SqL K H p xs) (ev : xs[n.toNat]? = some v) (h0 : 0 ≤ n) (h : Q v H) : uIx K (.ref p) (.int n) H Q := w_ixL (k := n.toNat) e (by omega) ev h
theorem w_bm {T : String} {q : V → List V → Hp → VK → Prop} (h : te σ H fun x H1 => bmQ K T q tA σ x H1 Q) : tBM K T q te tA σ H Q := h
theorem w_bmL {q : V → List V → Hp → VK → Prop} {p : Addr} {xs : List V} (e : H p = some (.lst xs)) (h : tA σ H fun vs H2 => q (.ref p) vs H2 Q) : bmQ K "list" q tA σ (.ref p) H Q := ⟨.inl ⟨rfl, _, .inl (.inl e)⟩, h⟩
theorem w_bmS {q : V → List V → Hp → VK → Prop} {z : Str} (h : tA σ H fun vs H2 => q (.str z) vs H2 Q) : bmQ K "str" q tA σ (.str z) H Q := ⟨rfl, h⟩
theorem w_for {wi : TI} {tb : TS} (h : wi σ H fun J H1 => forQ g tb D σ J H1) : tFor wi g tb D σ H := h
theorem f_range {tb : TS} {lo : Int} {n : Nat} (Pv : Nat → L2.St → Hp → Prop) (h0 : Pv 0 σ H)
    (hs : ∀ i σ H, i < n → Pv i σ H → g (.int (lo + i)) σ H fun σ2 H2 => tb { D with nx := Pv (i + 1), ct := Pv (i + 1), bk := D.nx } σ2 H2) (hd : ∀ σ H, Pv n σ H → D.nx σ H) : forQ g tb D σ (Itr lo n) H := for_range Pv h0 hs hd
theorem f_list {tb : TS} {a : Addr} {xs : List V} (Pv : Nat → L2.St → Hp → Prop) (h0 : Pv 0 σ H) (hl : ∀ i σ H, i ≤ xs.length → Pv i σ H → SqL K H a xs)
    (hs : ∀ i x σ H, xs[i]? = some x → Pv i σ H → g x σ H fun σ2 H2 => tb { D with nx := Pv (i + 1), ct := Pv (i + 1), bk := D.nx } σ2 H2) (hd : ∀ σ H, Pv xs.length σ H → D.nx σ H) : forQ g tb D σ (Itl K a) H := for_list Pv h0 hl hs hd
/-- any source whose turns are told: J yields item i at turn i below n and leaves the heap -/
theorem f_any {tb : TS} {J : It} {n : Nat} {item : Nat → V → Prop} (Pv : Nat → L2.St → Hp → Prop) (h0 : Pv 0 σ H)
    (hgo : ∀ i σ H, i < n → Pv i σ H → J.go i H ∧ ∀ x H', J.yld i H x H' → H' = H ∧ item i x) (hst : ∀ σ H, Pv n σ H → J.stop n H)
    (hs : ∀ i x σ H, i < n → item i x → Pv i σ H → g x σ H fun σ2 H2 => tb { D with nx := Pv (i + 1), ct := Pv (i + 1), bk := D.nx } σ2 H2) (hd : ∀ σ H, Pv n σ H → D.nx σ H) : forQ g tb D σ J H := by
  refine ⟨fun i m σ H => m = n - i ∧ i ≤ n ∧ Pv i σ H, ⟨n, by simp, Nat.zero_le _, h0⟩, fun i m σ H q => ?_⟩
  obtain ⟨rfl, hi, p⟩ := q
  rcases Nat.lt_or_ge i n with hl | hl
  · obtain ⟨a, b⟩ := hgo i σ H hl p
    refine .inr ⟨a, Pv (i + 1), fun σ' H' p' => ⟨n - (i + 1), by omega, rfl, hl, p'⟩, fun x H' y => ?_⟩
    obtain ⟨rfl, c⟩ := b x H' y
    exact hs i x σ _ hl c p
  · obtain rfl : i = n := Nat.le_antisymm hi hl
    exact .inl ⟨hst σ H p, hd σ H p⟩
theorem f_str {tb : TS} {z : Str} (Pv : Nat → L2.St → Hp → Prop) (h0 : Pv 0 σ H)
    (hs : ∀ i c σ H, z.cps[i]? = some c → Pv i σ H → g (.str ⟨#[c]⟩) σ H fun σ2 H2 => tb { D with nx := Pv (i + 1), ct := Pv (i + 1), bk := D.nx } σ2 H2) (hd : ∀ σ H, Pv z.cps.size σ H → D.nx σ H) : forQ g tb D σ (Its z) H :=
  f_any (n := z.cps.size) (item := fun i x => ∃ c, z.cps[i]? = some c ∧ x = .str ⟨#[c]⟩) Pv h0 (fun i σ H h p => ⟨h, fun x H' y => y⟩) (fun _ _ _ => Nat.le_refl _) (fun i x σ H _ hc p => by obtain ⟨c, e, rfl⟩ := hc; exact hs i c σ H e p) hd
theorem w_rng1 {R : It → Hp → Prop} (h : tA σ H fun vs H1 => rng1Q vs H1 R) : iRng1 tA σ H R := h
theorem w_rng1v {R : It → Hp → Prop} {n : Int} (h1 : -(2 ^ 62) ≤ n) (h2 : n < 2 ^ 62) (h : R (Itr 0 n.toNat) H) : rng1Q [.int n] H R := ⟨n, rfl, h1, h2, h⟩
theorem w_rng2 {R : It → Hp → Prop} (h : tA σ H fun vs H1 => rng2Q vs H1 R) : iRng2 tA σ H R := h
theorem w_rng2v {R : It → Hp → Prop} {m n : Int} (h1 : -(2 ^ 62) ≤ m ∧ m < 2 ^ 62 ∧ -(2 ^ 62) ≤ n ∧ n < 2 ^ 62) (h : R (Itr m (n - m).toNat) H) : rng2Q [.int m, .int n] H R := ⟨m, n, rfl, h1, h⟩
theorem w_iList {R : It → Hp → Prop} (h : te σ H fun x H1 => listQ K x H1 R) : iList K te σ H R := h
theorem w_iListv {R : It → Hp → Prop} {p : Addr} {xs : List V} (e : SqL K H p xs) (h : R (Itl K p) H) : listQ K (.ref p) H R := ⟨p, rfl, ⟨xs, e⟩, h⟩
theorem w_iTup {R : It → Hp → Prop} (h : te σ H fun x H1 => tupQ K x H1 R) : iTup K te σ H R := h
theorem w_iTupv {R : It → Hp → Prop} {p : Addr} {xs : List V} (e : SqT K H p xs) (h : R (Itt K p) H) : tupQ K (.ref p) H R := ⟨p, rfl, ⟨xs, e⟩, h⟩
theorem w_iStr {R : It → Hp → Prop} (h : te σ H fun x H1 => strQ x H1 R) : iStr te σ H R := h
theorem w_iStrv {R : It → Hp → Prop} {z : Str} (h : R (Its z) H) : strQ (.str z) H R := ⟨z, rfl, h⟩
theorem w_iRev {R : It → Hp → Prop} (h : tA σ H fun vs H1 => revQ K vs H1 R) : iRev K tA σ H R := h
theorem w_iRevv {R : It → Hp → Prop} {p : Addr} {xs : List V} (e : SqL K H p xs) (h : R (Itv K p xs.length) H) : revQ K [.ref p] H R := ⟨p, xs, rfl, e, h⟩
theorem w_raise {C : Addr} (h : W (.ref C) none σ H) : uRaise C W D σ H := h
theorem w_fld {C : Addr} (h : te σ H fun x H1 => fldQ C f x H1 Q) : uFld C f te σ H Q := h
theorem w_meth {C : Addr} {m : Str} (h : te σ H fun x H1 => methQ C m sp W tA σ x H1 Q) : uMeth C m sp W te tA σ H Q := h
theorem w_setf {C : Addr} (h : tv σ H fun y H1 => te σ H1 fun x H2 => setfQ C f x y H2 (D.nx σ)) : uSetF C f te tv D σ H := h
theorem ifP {p A B : Prop} [Decidable p] (h1 : p → A) (h2 : ¬ p → B) : if decide p = true then A else B := by
  by_cases h : p
  · rw [if_pos (decide_eq_true h)]; exact h1 h
  · rw [if_neg (by rw [decide_eq_false h]; decide)]; exact h2 h
theorem ifN {p A B : Prop} [Decidable p] (h2 : ¬ p → A) (h1 : p → B) : if (!decide p) = true then A else B := by
  by_cases h : p
  · rw [if_neg (by rw [decide_eq_true h]; decide)]; exact h1 h
  · rw [if_pos (by rw [decide_eq_false h]; rfl)]; exact h2 h
end steps
section heaps
variable {K : PySem.W.Frag} {H H' : Hp} {p q : Addr} {o u : HO} {xs : List V}
theorem upd_old (h : H q = some u) (n : H p = none) : upd H p o q = some u := by rw [upd_ne (ne_of_none h n)]; exact h
theorem none_of_upd (h : upd H p o q = none) : H q = none ∧ q ≠ p := by
  unfold upd at h
  split at h
  · cases h
  · exact ⟨h, by assumption⟩
theorem rd_old (h : Rd H q u) (n : H p = none) : Rd (upd H p o) q u := by
  rcases h with h | ⟨o', h⟩
  · exact .inl (upd_old h n)
  · exact .inr ⟨o', upd_old h n⟩
theorem sql_old (h : SqL K H q xs) (n : H p = none) : SqL K (upd H p o) q xs := h.imp (fun h => rd_old h n) id
theorem sqt_old (h : SqT K H q xs) (n : H p = none) : SqT K (upd H p o) q xs := h.imp (fun h => rd_old h n) id
theorem same_new (n : H p = none) : Same H (upd H p o) := fun b w h => upd_old h n
theorem same_upd {H1 : Hp} (s : Same H H1) (n : H p = none) : Same H (upd H1 p o) := fun b w h => by rw [upd_ne (ne_of_none h n)]; exact s b w h
theorem same_updN {H1 : Hp} (s : Same H H1) (n : H1 p = none) : Same H (upd H1 p o) := fun b w h => upd_old (s b w h) n
theorem Same.sqt (e : Same H H') (h : SqT K H q xs) : SqT K H' q xs := by
  rcases h with (h | ⟨o, h⟩) | h
  · exact .inl (.inl (e _ _ h))
  · exact .inl (.inr ⟨o, e _ _ h⟩)
  · exact .inr h
end heaps
section whiles
variable {D : Ends} {σ : L2.St} {H : Hp} {c : TT} {tb : TS}
def whQ (P : L2.St → Hp → Prop) (μ : L2.St → Hp → Nat) (m : Nat) (tb : TS) (D : Ends) (σ : L2.St) (H : Hp) : Prop :=
  ∃ N : L2.St → Hp → Prop, (∀ σ' H', N σ' H' → ∃ m', m' < m ∧ (m' = μ σ' H' ∧ P σ' H')) ∧ tb { D with nx := N, ct := N, bk := D.nx } σ H
theorem w_wh {P : L2.St → Hp → Prop} {μ : L2.St → Hp → Nat} {m : Nat} (h : tb { D with nx := fun σ' H' => P σ' H' ∧ μ σ' H' < m, ct := fun σ' H' => P σ' H' ∧ μ σ' H' < m, bk := D.nx } σ H) : whQ P μ m tb D σ H := ⟨_, fun _ _ n => ⟨_, n.2, rfl, n.1⟩, h⟩
end whiles
section data
variable {K : PySem.W.Frag} {H : Hp} {Q : VK} {α β : Type} [DecidableEq α] [PySem.W.Datum α] [DecidableEq β] [PySem.W.Datum β]
def Dt (K : PySem.W.Frag) (H : Hp) (v : V) (a : α) : Prop := Dp K H v (PySem.W.Datum.toD a)
def DtAll (K : PySem.W.Frag) (H : Hp) (vs : List V) (as : List α) : Prop := DpAll K H vs (as.map PySem.W.Datum.toD)
theorem Dt.int {i : Int} : Dt K H (.int i) i := Dp.int i
theorem Dt.bl {i : Bool} : Dt K H (.bl i) i := Dp.bl i
theorem Dt.str {i : Str} : Dt K H (.str i) i := Dp.str i
theorem Dt.list {p : Addr} {vs : List V} {as : List α} (e : SqL K H p vs) (h : DtAll K H vs as) : Dt K H (.ref p) as := Dp.lst e h
theorem Dt.tup {p : Addr} {vs : List V} {as : List α} (e : SqT K H p vs) (h : DtAll K H vs as) : Dt K H (.ref p) (PySem.W.Tup.mk as) := Dp.tup e h
theorem DtAll.nil : DtAll K H [] ([] : List α) := DpAll.nil
theorem DtAll.cons {v : V} {vs : List V} {a : α} {as : List α} (h : Dt K H v a) (hs : DtAll K H vs as) : DtAll K H (v :: vs) (a :: as) := DpAll.cons h hs
theorem DtAll.ints : ∀ (ns : List Int), DtAll K H (ns.map V.int) ns
  | [] => DpAll.nil
  | _ :: ns => DpAll.cons (Dp.int _) (DtAll.ints ns)
theorem DtAll.length : ∀ {vs : List V} {as : List α}, DtAll K H vs as → vs.length = as.length
  | [], [], _ => rfl
  | [], _ :: _, h => by cases h
  | _ :: _, [], h => by cases h
  | _ :: vs, _ :: as, h => by
    cases h with
    | cons h1 h2 => rw [List.length_cons, List.length_cons, DtAll.length h2]
end data
section comps
variable {K : PySem.W.Frag} {σ : L2.St} {H1 : Hp} {Q : VK} {g : TG} {tt : TT} {te : TE} {vs : List Nat}
def lcQ (g : TG) (tt : TT) (te : TE) (vs : List Nat) (σ : L2.St) (J : It) (H1 : Hp) (Q : VK) : Prop := ∀ D, H1 D = none → ∃ W : Nat → Nat → Hp → Prop, (∃ m, W 0 m (upd H1 D (.lst []))) ∧ ∀ i m H, W i m H →
  (J.stop i H ∧ Q (.ref D) H) ∨ (J.go i H ∧ ∃ Nx : Hp → Prop, (∀ H', Nx H' → ∃ m', m' < m ∧ W (i + 1) m' H') ∧ ∀ x H', J.yld i H x H' → g x (wipe σ vs) H' fun σ2 H2 => wipe σ2 vs = wipe σ vs ∧ tt σ2 H2 fun b H3 =>
    if b = true then te σ2 H3 fun y H4 => ∃ acc, H4 D = some (.lst acc) ∧ acc.length < sizeLine ∧ Nx (upd H4 D (.lst (acc ++ [y]))) else Nx H3)
theorem w_lc {wi : TI} (h : wi σ H1 fun J H2 => lcQ g tt te vs σ J H2 Q) : tLc wi g tt te vs σ H1 Q := h
theorem w_yes {QB : Bool → Hp → Prop} (h : QB true H1) : tYes σ H1 QB := h
/-- what a turn of a comprehension wants: the new item, put behind the list at D -/
def putQ (D : Addr) (N : Hp → Prop) (y : V) (H4 : Hp) : Prop := ∃ acc, H4 D = some (.lst acc) ∧ acc.length < sizeLine ∧ N (upd H4 D (.lst (acc ++ [y])))
/-- a comprehension over anything that yields by its place, P the heap between the turns -/
theorem l_any {J : It} {n : Nat} {item : Nat → V → Prop} (P : Addr → Nat → Hp → Prop) (h0 : ∀ D, H1 D = none → P D 0 (upd H1 D (.lst [])))
    (hgo : ∀ D i H, H1 D = none → i < n → P D i H → J.go i H ∧ ∀ x H', J.yld i H x H' → H' = H ∧ item i x) (hst : ∀ D H, H1 D = none → P D n H → J.stop n H)
    (hs : ∀ D i x H, H1 D = none → i < n → item i x → P D i H → g x (wipe σ vs) H fun σ2 H2 => wipe σ2 vs = wipe σ vs ∧ tt σ2 H2 fun b H3 => if b = true then te σ2 H3 (putQ D (P D (i + 1))) else P D (i + 1) H3)
    (hd : ∀ D H, H1 D = none → P D n H → Q (.ref D) H) : lcQ g tt te vs σ J H1 Q := by
  intro D hD
  refine ⟨fun i m H => m = n - i ∧ i ≤ n ∧ P D i H, ⟨n, by simp, Nat.zero_le _, h0 D hD⟩, fun i m H q => ?_⟩
  obtain ⟨rfl, hi, p⟩ := q
  rcases Nat.lt_or_ge i n with hl | hl
  · obtain ⟨a, b⟩ := hgo D i H hD hl p
    refine .inr ⟨a, P D (i + 1), fun H' p' => ⟨n - (i + 1), by omega, rfl, hl, p'⟩, fun x H' y => ?_⟩
    obtain ⟨rfl, c⟩ := b x H' y
    exact hs D i x _ hD hl c p
  · obtain rfl : i = n := Nat.le_antisymm hi hl
    exact .inl ⟨hst D H hD p, hd D H hD p⟩
theorem l_range {lo : Int} {n : Nat} (P : Addr → Nat → Hp → Prop) (h0 : ∀ D, H1 D = none → P D 0 (upd H1 D (.lst [])))
    (hs : ∀ D i H, H1 D = none → i < n → P D i H → g (.int (lo + (i : Nat))) (wipe σ vs) H fun σ2 H2 => wipe σ2 vs = wipe σ vs ∧ tt σ2 H2 fun b H3 => if b = true then te σ2 H3 (putQ D (P D (i + 1))) else P D (i + 1) H3)
    (hd : ∀ D H, H1 D = none → P D n H → Q (.ref D) H) : lcQ g tt te vs σ (Itr lo n) H1 Q :=
  l_any (n := n) (item := fun i x => x = .int (lo + (i : Nat))) P h0 (fun _ i _ _ h _ => ⟨h, fun _ _ y => y⟩) (fun _ _ _ _ => Nat.le_refl _) (fun D i x H a b c p => by rw [c]; exact hs D i H a b p) hd
end comps
section texts
/-- the text of these signs -/
def tx (l : List Nat) : Str := ⟨l.toArray⟩
theorem tx_list (l : List Nat) : (tx l).cps.toList = l := rfl
theorem tx_len (l : List Nat) : (tx l).length = l.length := by unfold tx Str.length; exact List.size_toArray
theorem tx_app (l m : List Nat) : tx l ++ tx m = tx (l ++ m) := PySem.Str.ext' (by rw [PySem.Str.cps_append]; exact Array.toList_inj.mp (by rw [Array.toList_append]; rfl))
theorem tx_inj {l m : List Nat} : tx l = tx m ↔ l = m := ⟨fun h => by have := congrArg (fun z : Str => z.cps.toList) h; exact this, fun h => by rw [h]⟩
theorem cut_tk (l : List Nat) (k : Nat) : cutS (tx l) none (some (k : Int)) = tx (l.take k) := by
  unfold cutS
  rw [tx_len, HT.sIx_nat, HT.sIx_none, List.drop_zero, Nat.sub_zero, tx_list, ← List.take_take, List.take_length]
  rfl
theorem cut_dp (l : List Nat) (k : Nat) : cutS (tx l) (some (k : Int)) none = tx (l.drop k) := by
  unfold cutS
  rw [tx_len, HT.sIx_nat, HT.sIx_none, tx_list]
  rcases Nat.le_total k l.length with h | h
  · rw [Nat.min_eq_left h, List.take_of_length_le (by rw [List.length_drop]; exact Nat.le_refl _)]; rfl
  · rw [Nat.min_eq_right h, List.drop_length, List.drop_eq_nil_of_le h, List.take_nil]; rfl
theorem fold_rep (c : Nat) : ∀ (n : Nat) (a : Array Nat), (List.replicate n #[c]).foldl (· ++ ·) a = a ++ (List.replicate n c).toArray
  | 0, a => by simp
  | n + 1, a => by
    rw [List.replicate_succ, List.foldl_cons, fold_rep c n]
    apply Array.toList_inj.mp
    simp [List.replicate_succ]
theorem mul_one (c : Nat) (n : Nat) : Txt.mul (tx [c]) (n : Int) = tx (List.replicate n c) := by
  unfold Txt.mul
  by_cases h : (n : Int) < 1
  · rw [if_pos h]; obtain rfl : n = 0 := by omega
    rfl
  · rw [if_neg h]
    by_cases h2 : ((n : Int) == 1 || (tx [c]).length == 0) = true
    · rw [if_pos h2]
      have : (n : Int) = 1 := by
        rcases Bool.or_eq_true_iff.mp h2 with h2 | h2
        · exact eq_of_beq h2
        · cases h2
      obtain rfl : n = 1 := by omega
      rfl
    · rw [if_neg h2, Int.toNat_natCast]
      exact PySem.Str.ext' (by show (List.replicate n #[c]).foldl (· ++ ·) #[] = _; rw [fold_rep]; simp [tx])
theorem mulOk_one (c : Nat) {n : Int} (h0 : 0 ≤ n) (h1 : n ≤ 100000) : MulOk (tx [c]) n := by
  have e : (tx [c]).length = 1 := rfl
  refine ⟨?_, fun h _ => ?_, fun h _ => ?_⟩
  · rw [decide_eq_false (by omega), decide_eq_false (by omega)]; rfl
  · rw [e]
    have : (1 : Int) ≤ (2 ^ 63 - 1) / n := Int.le_ediv_of_mul_le (by omega) (by omega)
    omega
  · rw [e]; unfold Builtin.Str.tooLong
    rw [decide_eq_false]
    have : (100000 : Nat) ≤ sizeLine := by decide
    omega
/-- the first place of a sign in a text, or -1 -/
def ixc (l : List Nat) (c : Nat) : Int := if c ∈ l then (l.idxOf c : Int) else -1
theorem tx_find (l : List Nat) (c : Nat) : Txt.find (tx l) (tx [c]) = ixc l c := by
  unfold Txt.find ixc
  have key : ∀ i, PySem.StrLaws.At (tx l) (tx [c]) (tx l).length i ↔ l[i]? = some c := fun i => PySem.StrLaws.subAt_one (tx l) c i
  rcases PySem.StrLaws.occ_head (tx l) (tx [c]) 1 (Nat.le_refl 1) with ⟨e, hn⟩ | ⟨i, r, e, ha, hn⟩
  · rw [e, if_neg]
    intro hm
    obtain ⟨i, hi⟩ := List.getElem?_of_mem hm
    exact hn i ((key i).mpr hi)
  · rw [e]
    have hi := (key i).mp ha
    rw [if_pos (List.mem_of_getElem? hi)]
    have hl : i < l.length := (List.getElem?_eq_some_iff.mp hi).1
    have hg : l[i] = c := (List.getElem?_eq_some_iff.mp hi).2
    have h1 : l.idxOf c < l.length := List.idxOf_lt_length_iff.mpr (List.mem_of_getElem? hi)
    have h2 : l[l.idxOf c] = c := List.getElem_idxOf h1
    have h3 : ¬ l.idxOf c < i := fun q => hn _ q ((key _).mpr (by rw [List.getElem?_eq_getElem h1, h2]))
    have h4 : ¬ i < l.idxOf c := fun q => by
      have := List.not_of_lt_findIdx (p := (· == c)) (xs := l) (i := i) q
      simp [hg] at this
    have : l.idxOf c = i := by omega
    rw [this]
theorem cnt_eq (c : Nat) : ∀ l : List Nat, PyProof.Rows.cnt c l = (l.count c : Nat)
  | [] => rfl
  | n :: l => by
    rw [PyProof.Rows.cnt_cons, cnt_eq c l, List.count_cons]
    by_cases h : n = c
    · subst h; simp; omega
    · simp [h]
theorem tx_count (l : List Nat) (c : Nat) : Txt.count (tx l) (tx [c]) = (l.count c : Nat) := (PyProof.Rows.count_is (tx l) c).trans (cnt_eq c l)
end texts
section textsteps
variable {X : Cx} {K : PySem.W.Frag} {H : Hp} {Q : VK} {l m : List Nat} {c : Nat} {n : Int}
def uFind : V → List V → Hp → VK → Prop := fun x xs H Q => match x, xs with
  | .str a, [.str b] => Q (.int (Txt.find a b)) H
  | _, _ => False
theorem mt_findU : MtR X "str.find" uFind := by
  intro pins s σ H x xs v us Q I rx rs q
  refine mt_find pins s σ H x xs v us Q I rx rs ?_
  unfold uFind at q
  split at q
  · exact ⟨_, _, rfl, rfl, q⟩
  · exact q.elim
def uCount : V → List V → Hp → VK → Prop := fun x xs H Q => match x, xs with
  | .str a, [.str b] => Q (.int (Txt.count a b)) H
  | _, _ => False
theorem mt_countU : MtR X "str.count" uCount := by
  intro pins s σ H x xs v us Q I rx rs q
  refine mt_count pins s σ H x xs v us Q I rx rs ?_
  unfold uCount at q
  split at q
  · exact ⟨_, _, rfl, rfl, q⟩
  · exact q.elim
def uJoin (K : PySem.W.Frag) : V → List V → Hp → VK → Prop := fun x xs H Q => match x, xs with
  | .str a, [.ref p] => ∃ ys : List Str, (SqL K H p (ys.map V.str) ∨ SqT K H p (ys.map V.str)) ∧ (ys.map (·.length)).sum + ys.length * a.length ≤ 16777216 ∧ Q (.str (Txt.join a ys)) H
  | _, _ => False
theorem mt_joinU : MtR X "str.join" (uJoin X.K) := by
  intro pins s σ H x xs v us Q I rx rs q
  refine mt_join pins s σ H x xs v us Q I rx rs ?_
  unfold uJoin at q
  split at q
  · obtain ⟨ys, a, b, q⟩ := q
    exact ⟨_, _, ys, rfl, rfl, a, b, q⟩
  · exact q.elim
theorem w_addX (s : l.length + m.length ≤ 100000) (h : Q (.str (tx (l ++ m))) H) : uAdd K (.str (tx l)) (.str (tx m)) H Q := ⟨by rw [tx_len, tx_len]; exact small9 s, by rw [tx_app]; exact h⟩
theorem w_mulX (h0 : 0 ≤ n) (h1 : n ≤ 100000) (h : Q (.str (tx (List.replicate n.toNat c))) H) : uMul (.str (tx [c])) (.int n) H Q := by
  obtain ⟨k, rfl⟩ := Int.eq_ofNat_of_zero_le h0
  exact ⟨mulOk_one c h0 h1, by rw [mul_one]; exact h⟩
theorem w_lenX (s : l.length ≤ 100000) (h : Q (.int l.length) H) : uLen K [.str (tx l)] H Q := ⟨by rw [tx_len]; exact small9 s, by rw [tx_len]; exact h⟩
theorem w_truX {QB : Bool → Hp → Prop} (s : l.length ≤ 100000) (h : QB (!decide (l.length = 0)) H) : truV K (.str (tx l)) H QB := ⟨by rw [tx_len]; exact small9 s, by rw [tx_len]; exact h⟩
theorem d_tx : decide (tx l = tx m) = decide (l = m) := decide_eq_decide.mpr tx_inj
theorem w_eqX (h : Q (.bl (decide (l = m))) H) : uEq K (.str (tx l)) (.str (tx m)) H Q := by
  rw [← d_tx] at h; exact h
theorem w_neX (h : Q (.bl (!decide (l = m))) H) : uNe K (.str (tx l)) (.str (tx m)) H Q := by
  rw [← d_tx] at h; exact h
theorem w_tkX (s : l.length ≤ 100000) (h0 : 0 ≤ n) (h : Q (.str (tx (l.take n.toNat))) H) : uSl K (.str (tx l)) none (some n) H Q := by
  obtain ⟨k, rfl⟩ := Int.eq_ofNat_of_zero_le h0
  exact .inr (.inr ⟨_, rfl, by rw [tx_len]; exact small9 s, by rw [cut_tk]; exact h⟩)
theorem w_dpX (s : l.length ≤ 100000) (h0 : 0 ≤ n) (h : Q (.str (tx (l.drop n.toNat))) H) : uSl K (.str (tx l)) (some n) none H Q := by
  obtain ⟨k, rfl⟩ := Int.eq_ofNat_of_zero_le h0
  exact .inr (.inr ⟨_, rfl, by rw [tx_len]; exact small9 s, by rw [cut_dp]; exact h⟩)
theorem w_ixX (s : l.length ≤ 100000) (h0 : 0 ≤ n ∧ n.toNat < l.length) (h : Q (.str (tx [l.getD n.toNat 0])) H) : uIx K (.str (tx l)) (.int n) H Q := by
  refine ⟨by rw [tx_len]; exact small9 s, l.getD n.toNat 0, ?_, h⟩
  have y := atI_nat (show l[n.toNat]? = some (l.getD n.toNat 0) by rw [List.getD_eq_getElem?_getD, List.getElem?_eq_getElem h0.2]; rfl)
  rw [show ((n.toNat : Nat) : Int) = n by omega] at y
  exact y
theorem w_findX (h : Q (.int (ixc l c)) H) : uFind (.str (tx l)) [.str (tx [c])] H Q := by
  rw [← tx_find] at h; exact h
theorem w_countX (h : Q (.int ((l.count c : Nat) : Int)) H) : uCount (.str (tx l)) [.str (tx [c])] H Q := by
  rw [← tx_count] at h; exact h
theorem f_tx {D : Ends} {σ : L2.St} {g : TG} {tb : TS} (Pv : Nat → L2.St → Hp → Prop) (h0 : Pv 0 σ H)
    (hs : ∀ i c σ H, l[i]? = some c → Pv i σ H → g (.str (tx [c])) σ H fun σ2 H2 => tb { D with nx := Pv (i + 1), ct := Pv (i + 1), bk := D.nx } σ2 H2) (hd : ∀ σ H, Pv l.length σ H → D.nx σ H) : forQ g tb D σ (Its (tx l)) H :=
  f_str Pv h0 (fun i c σ H e p => hs i c σ H (by rw [← tx_list l]; simpa using e) p) (fun σ H p => hd σ H (by rw [← tx_len l]; exact p))
end textsteps
end U
namespace Lam
open PySem PySem.Spec L2 U
local macro_rules | `(tactic| walk_at "te") => `(tactic| fail "no fact")
local macro_rules | `(tactic| walk_at "kt") => `(tactic| fail "no fact")
local macro_rules | `(tactic| walk_at "xc") => `(tactic| fail "no fact")
local macro_rules | `(tactic| walk_at "x") => `(tactic| fail "no step")
local macro_rules | `(tactic| walk_at "hk") => `(tactic| first
  | assumption | exact upd_same | exact SqL.of upd_same | exact SqT.of upd_same
  | (apply sql_old; (· walk_at "hk"); (· assumption)) | (apply upd_old; (· walk_at "hk"); (· assumption)) | (apply sqt_old; (· walk_at "hk"); (· assumption))
  | exact L2.Same.seq (by assumption) (by assumption) | exact U.Same.sqt (by assumption) (by assumption) | exact (by assumption : L2.Same _ _) _ _ (by assumption)
  | (apply SqL.of; walk_at "hk") | (apply SqT.of; walk_at "hk"))
local macro_rules | `(tactic| walk_at "nn") => `(tactic| first | assumption | exact L2.Same.free (by assumption) (by assumption) | exact (none_of_upd (by assumption)).1)
local macro_rules | `(tactic| walk_at "sm") => `(tactic| first | assumption | exact L2.Same.refl _ | (apply same_updN; (· walk_at "sm"); (· assumption)) | (apply same_upd; (· walk_at "sm"); (· walk_at "nn")) | exact L2.Same.trans (by assumption) (by assumption))
local macro_rules | `(tactic| walk_at "s") => `(tactic| first
    | with_reducible refine w_seq ?_
    | with_reducible refine w_op ?_
    | with_reducible refine w_asg ?_
    | with_reducible refine w_name ?_
    | with_reducible refine w_c ?_
    | with_reducible refine w_if ?_
    | with_reducible refine w_test ?_
    | with_reducible refine w_blP ?_
    | with_reducible refine w_cons ?_
    | with_reducible refine w_nil ?_
    | with_reducible refine w_ret ?_
    | with_reducible refine w_call ?_
    | ((with_reducible refine' w_var ?e ?_); (case e => rfl))
    | with_reducible refine iteT ?_
    | with_reducible refine iteF ?_
    | with_reducible refine ifNT ?_
    | with_reducible refine ifNF ?_
    | (((with_reducible show @ite Prop (_ = true) _ _ _); refine @ifP _ _ _ _ ?_ ?_) <;> intro h <;> first | (with_reducible exact absurd rfl h) | skip)
    | (((with_reducible show @ite Prop (_ = true) _ _ _); refine @ifN _ _ _ _ ?_ ?_) <;> intro h <;> first | (with_reducible exact absurd rfl h) | skip)
    | with_reducible refine w_eqX ?_
    | with_reducible refine w_neX ?_
    | with_reducible refine w_add ?_
    | with_reducible refine w_sub ?_
    | with_reducible refine w_eqI ?_
    | with_reducible refine w_neI ?_
    | with_reducible refine w_lt ?_
    | with_reducible refine w_le ?_
    | with_reducible refine w_gt ?_
    | with_reducible refine w_ge ?_
    | with_reducible refine w_eqS ?_
    | with_reducible refine w_eqB ?_
    | with_reducible refine w_neS ?_
    | with_reducible refine w_neB ?_
    | with_reducible refine w_cb ?_
    | with_reducible refine w_tup ?_
    | with_reducible refine w_lst ?_
    | with_reducible refine w_next ?_
    | with_reducible refine w_drop ?_
    | with_reducible refine w_not ?_
    | with_reducible refine w_tru ?_
    | with_reducible refine w_and ?_
    | with_reducible refine w_or ?_
    | with_reducible refine w_andV ?_
    | with_reducible refine w_orV ?_
    | with_reducible refine w_notV ?_
    | with_reducible refine w_ifE ?_
    | with_reducible refine w_chain ?_
    | with_reducible refine w_retN ?_
    | with_reducible refine w_bm ?_
    | with_reducible refine w_raise ?_
    | with_reducible refine w_fld ?_
    | with_reducible refine w_meth ?_
    | with_reducible refine w_setf ?_
    | with_reducible refine w_for ?_
    | with_reducible refine w_rng1 ?_
    | with_reducible refine w_rng2 ?_
    | with_reducible refine w_iList ?_
    | with_reducible refine w_iTup ?_
    | with_reducible refine w_iStr ?_
    | with_reducible refine w_iRev ?_
    | with_reducible refine w_brk ?_
    | with_reducible refine w_cont ?_
    | with_reducible refine w_un ?_
    | with_reducible refine w_lc ?_
    | with_reducible refine w_yes ?_
    | with_reducible refine w_gsub ?_
    | with_reducible refine w_sl ?_
    | with_reducible refine w_part ?_
    | with_reducible refine w_noPart ?_
    | with_reducible refine w_wh ?_
    | with_reducible refine w_tryAs ?_
    | with_reducible refine w_try ?_
    | ((with_reducible refine' w_aug ?e ?_); (case e => rfl))
    | ((with_reducible refine w_mul ?s ?_); (case s => first | exact Or.inr ⟨by omega, by omega⟩ | exact Or.inl ⟨by omega, by omega⟩))
    | ((with_reducible refine w_div ?s ?_); (case s => omega))
    | ((with_reducible refine w_mod ?s ?_); (case s => first | omega | decide))
    | ((with_reducible refine w_pow ?s ?_); (case s => exact ⟨by decide, by decide, by decide⟩))
    | ((with_reducible refine w_newL ?s ?_); (case s => (first | exact (by decide) | (simp only [List.length_cons, List.length_nil]; omega))); intro _ _)
    | ((with_reducible refine w_newT ?s ?_); (case s => (first | exact (by decide) | (simp only [List.length_cons, List.length_nil]; omega))); intro _ _)
    | with_reducible refine w_eqX ?_
    | with_reducible refine w_neX ?_
    | with_reducible refine w_findX ?_
    | with_reducible refine w_countX ?_
    | ((with_reducible refine w_lenX ?s ?_); (case s => (first | omega | (simp only [List.length_append, List.length_cons, List.length_nil, List.length_take, List.length_drop, List.length_replicate, List.length_map, List.length_range] at *; omega) | (simp only [List.length_append, List.length_cons, List.length_nil, List.length_take, List.length_drop, List.length_replicate, List.length_map, List.length_range]; omega) | decide)))
    | ((with_reducible refine w_truX ?s ?_); (case s => (first | omega | (simp only [List.length_append, List.length_cons, List.length_nil, List.length_take, List.length_drop, List.length_replicate, List.length_map, List.length_range] at *; omega) | (simp only [List.length_append, List.length_cons, List.length_nil, List.length_take, List.length_drop, List.length_replicate, List.length_map, List.length_range]; omega) | decide)))
    | ((with_reducible refine w_addX ?s ?_); (case s => (first | omega | (simp only [List.length_append, List.length_cons, List.length_nil, List.length_take, List.length_drop, List.length_replicate, List.length_map, List.length_range] at *; omega) | (simp only [List.length_append, List.length_cons, List.length_nil, List.length_take, List.length_drop, List.length_replicate, List.length_map, List.length_range]; omega) | decide)))
    | ((with_reducible refine w_mulX ?h0 ?h1 ?_); (case h0 => (first | omega | (simp only [List.length_append, List.length_cons, List.length_nil, List.length_take, List.length_drop, List.length_replicate, List.length_map, List.length_range] at *; omega) | (simp only [List.length_append, List.length_cons, List.length_nil, List.length_take, List.length_drop, List.length_replicate, List.length_map, List.length_range]; omega) | decide)); (case h1 => (first | omega | (simp only [List.length_append, List.length_cons, List.length_nil, List.length_take, List.length_drop, List.length_replicate, List.length_map, List.length_range] at *; omega) | (simp only [List.length_append, List.length_cons, List.length_nil, List.length_take, List.length_drop, List.length_replicate, List.length_map, List.length_range]; omega) | decide)))
    | ((with_reducible refine w_tkX ?s ?h0 ?_); (case s => (first | omega | (simp only [List.length_append, List.length_cons, List.length_nil, List.length_take, List.length_drop, List.length_replicate, List.length_map, List.length_range] at *; omega) | (simp only [List.length_append, List.length_cons, List.length_nil, List.length_take, List.length_drop, List.length_replicate, List.length_map, List.length_range]; omega) | decide)); (case h0 => (first | omega | (simp only [List.length_append, List.length_cons, List.length_nil, List.length_take, List.length_drop, List.length_replicate, List.length_map, List.length_range] at *; omega) | (simp only [List.length_append, List.length_cons, List.length_nil, List.length_take, List.length_drop, List.length_replicate, List.length_map, List.length_range]; omega) | decide)))
    | ((with_reducible refine w_dpX ?s ?h0 ?_); (case s => (first | omega | (simp only [List.length_append, List.length_cons, List.length_nil, List.length_take, List.length_drop, List.length_replicate, List.length_map, List.length_range] at *; omega) | (simp only [List.length_append, List.length_cons, List.length_nil, List.length_take, List.length_drop, List.length_replicate, List.length_map, List.length_range]; omega) | decide)); (case h0 => (first | omega | (simp only [List.length_append, List.length_cons, List.length_nil, List.length_take, List.length_drop, List.length_replicate, List.length_map, List.length_range] at *; omega) | (simp only [List.length_append, List.length_cons, List.length_nil, List.length_take, List.length_drop, List.length_replicate, List.length_map, List.length_range]; omega) | decide)))
    | ((with_reducible refine w_ixX ?s ?h0 ?_); (case s => (first | omega | (simp only [List.length_append, List.length_cons, List.length_nil, List.length_take, List.length_drop, List.length_replicate, List.length_map, List.length_range] at *; omega) | (simp only [List.length_append, List.length_cons, List.length_nil, List.length_take, List.length_drop, List.length_replicate, List.length_map, List.length_range]; omega) | decide)); (case h0 => (first | omega | (simp only [List.length_append, List.length_cons, List.length_nil, List.length_take, List.length_drop, List.length_replicate, List.length_map, List.length_range] at *; omega) | (simp only [List.length_append, List.length_cons, List.length_nil, List.length_take, List.length_drop, List.length_replicate, List.length_map, List.length_range]; omega) | decide)))
    | with_reducible refine w_max ?_
    | with_reducible refine w_min ?_
    | with_reducible refine w_abs ?_
    | with_reducible refine w_intI ?_
    | with_reducible refine w_intB ?_
    | with_reducible refine w_ipI ?_
    | with_reducible refine w_bmS ?_
    | with_reducible refine w_iStrv ?_
    | with_reducible refine w_neg ?_
    | with_reducible refine w_partI ?_
    | with_reducible refine w_truB ?_
    | with_reducible refine w_truN ?_
    | with_reducible refine w_truI ?_
    | with_reducible refine w_isi_int_int ?_
    | with_reducible refine w_isi_int_bl ?_
    | with_reducible refine w_isi_int_str ?_
    | with_reducible refine w_isi_int_non ?_
    | with_reducible refine w_isi_bool_int ?_
    | with_reducible refine w_isi_bool_bl ?_
    | with_reducible refine w_isi_bool_str ?_
    | with_reducible refine w_isi_bool_non ?_
    | with_reducible refine w_isi_str_int ?_
    | with_reducible refine w_isi_str_bl ?_
    | with_reducible refine w_isi_str_str ?_
    | with_reducible refine w_isi_str_non ?_
    | with_reducible refine w_isi_list_int ?_
    | with_reducible refine w_isi_list_bl ?_
    | with_reducible refine w_isi_list_str ?_
    | with_reducible refine w_isi_list_non ?_
    | with_reducible refine w_isi_tuple_int ?_
    | with_reducible refine w_isi_tuple_bl ?_
    | with_reducible refine w_isi_tuple_str ?_
    | with_reducible refine w_isi_tuple_non ?_
    | with_reducible refine w_is_int ?_
    | with_reducible refine w_isnt_int ?_
    | with_reducible refine w_is_bl ?_
    | with_reducible refine w_isnt_bl ?_
    | with_reducible refine w_is_str ?_
    | with_reducible refine w_isnt_str ?_
    | with_reducible refine w_is_non ?_
    | with_reducible refine w_isnt_non ?_
    | with_reducible refine w_is_ref ?_
    | with_reducible refine w_isnt_ref ?_
    | ((with_reducible refine w_asT ?e ?_); (case e => walk_at "te"); intro _ _)
    | ((with_reducible refine w_onT ?e ?_); (case e => walk_at "te"); intro _ _)
    | ((with_reducible refine w_asF ?e ?_); (case e => walk_at "te"))
    | ((with_reducible refine w_onF ?e ?_); (case e => walk_at "te"))
    | ((with_reducible apply w_isE); (· walk_at "xc"); (· walk_at "kt"))
    | ((with_reducible apply w_lenL); (· walk_at "hk"))
    | ((with_reducible apply w_lenT); (· walk_at "hk"))
    | ((with_reducible apply w_bmL); (· walk_at "hk"))
    | ((with_reducible refine w_rng1v ?h1 ?h2 ?_); (case h1 => (first | omega | (simp only [List.length_map] at *; omega))); (case h2 => (first | omega | (simp only [List.length_map] at *; omega))))
    | ((with_reducible refine w_rng2v ?h1 ?_); (case h1 => (first | omega | (simp only [List.length_map] at *; omega))))
    | ((with_reducible apply w_ixI); (· walk_at "hk"); (· (first | omega | (simp only [List.length_map] at *; omega))))
    | ((with_reducible apply w_ixTI); (· walk_at "hk"); (· (first | omega | (simp only [List.length_map] at *; omega))))
    | ((with_reducible apply w_ixTl); (· walk_at "hk"); (· rfl); (· decide))
    | ((with_reducible apply w_ixLl); (· walk_at "hk"); (· rfl); (· decide))
    | ((with_reducible apply w_appI); (· walk_at "hk"); (· (first | omega | (simp only [List.length_append, List.length_cons, List.length_nil]; omega))))
    | ((with_reducible apply w_iListv); (· walk_at "hk"))
    | ((with_reducible apply w_iTupv); (· walk_at "hk"))
    | ((with_reducible apply w_iRevv); (· walk_at "hk"))
    | walk_at "x")
local macro_rules | `(tactic| walk_at "run1") => `(tactic| repeat (first
    | with_reducible refine w_seq ?_
    | with_reducible refine w_op ?_
    | with_reducible refine w_asg ?_
    | with_reducible refine w_name ?_
    | with_reducible refine w_c ?_
    | with_reducible refine w_if ?_
    | with_reducible refine w_test ?_
    | with_reducible refine w_blP ?_
    | with_reducible refine w_cons ?_
    | with_reducible refine w_nil ?_
    | with_reducible refine w_ret ?_
    | with_reducible refine w_call ?_
    | ((with_reducible refine' w_var ?e ?_); (case e => rfl))
    | with_reducible refine iteT ?_
    | with_reducible refine iteF ?_
    | with_reducible refine ifNT ?_
    | with_reducible refine ifNF ?_
    | (((with_reducible show @ite Prop (_ = true) _ _ _); refine @ifP _ _ _ _ ?_ ?_) <;> intro h <;> first | (with_reducible exact absurd rfl h) | skip)
    | (((with_reducible show @ite Prop (_ = true) _ _ _); refine @ifN _ _ _ _ ?_ ?_) <;> intro h <;> first | (with_reducible exact absurd rfl h) | skip)
    | with_reducible refine w_eqX ?_
    | with_reducible refine w_neX ?_
    | with_reducible refine w_add ?_
    | with_reducible refine w_sub ?_
    | with_reducible refine w_eqI ?_
    | with_reducible refine w_neI ?_
    | with_reducible refine w_lt ?_
    | with_reducible refine w_le ?_
    | with_reducible refine w_gt ?_
    | with_reducible refine w_ge ?_
    | with_reducible refine w_eqS ?_
    | with_reducible refine w_eqB ?_
    | with_reducible refine w_neS ?_
    | with_reducible refine w_neB ?_
    | with_reducible refine w_cb ?_
    | with_reducible refine w_tup ?_
    | with_reducible refine w_lst ?_
    | with_reducible refine w_next ?_
    | with_reducible refine w_drop ?_
    | with_reducible refine w_not ?_
    | with_reducible refine w_tru ?_
    | with_reducible refine w_and ?_
    | with_reducible refine w_or ?_
    | with_reducible refine w_andV ?_
    | with_reducible refine w_orV ?_
    | with_reducible refine w_notV ?_
    | with_reducible refine w_ifE ?_
    | with_reducible refine w_chain ?_
    | with_reducible refine w_retN ?_
    | with_reducible refine w_bm ?_
    | with_reducible refine w_raise ?_
    | with_reducible refine w_fld ?_
    | with_reducible refine w_meth ?_
    | with_reducible refine w_setf ?_
    | with_reducible refine w_for ?_
    | with_reducible refine w_rng1 ?_
    | with_reducible refine w_rng2 ?_
    | with_reducible refine w_iList ?_
    | with_reducible refine w_iTup ?_
    | with_reducible refine w_iStr ?_
    | with_reducible refine w_iRev ?_
    | with_reducible refine w_brk ?_
    | with_reducible refine w_cont ?_
    | with_reducible refine w_un ?_
    | with_reducible refine w_lc ?_
    | with_reducible refine w_yes ?_
    | with_reducible refine w_gsub ?_
    | with_reducible refine w_sl ?_
    | with_reducible refine w_part ?_
    | with_reducible refine w_noPart ?_
    | with_reducible refine w_wh ?_
    | with_reducible refine w_tryAs ?_
    | with_reducible refine w_try ?_
    | ((with_reducible refine' w_aug ?e ?_); (case e => rfl))
    | ((with_reducible refine w_mul ?s ?_); (case s => first | exact Or.inr ⟨by omega, by omega⟩ | exact Or.inl ⟨by omega, by omega⟩))
    | ((with_reducible refine w_div ?s ?_); (case s => omega))
    | ((with_reducible refine w_mod ?s ?_); (case s => first | omega | decide))
    | ((with_reducible refine w_pow ?s ?_); (case s => exact ⟨by decide, by decide, by decide⟩))
    | ((with_reducible refine w_newL ?s ?_); (case s => (first | exact (by decide) | (simp only [List.length_cons, List.length_nil]; omega))); intro _ _)
    | ((with_reducible refine w_newT ?s ?_); (case s => (first | exact (by decide) | (simp only [List.length_cons, List.length_nil]; omega))); intro _ _)
    | with_reducible refine w_eqX ?_
    | with_reducible refine w_neX ?_
    | with_reducible refine w_findX ?_
    | with_reducible refine w_countX ?_
    | ((with_reducible refine w_lenX ?s ?_); (case s => (first | omega | (simp only [List.length_append, List.length_cons, List.length_nil, List.length_take, List.length_drop, List.length_replicate, List.length_map, List.length_range] at *; omega) | (simp only [List.length_append, List.length_cons, List.length_nil, List.length_take, List.length_drop, List.length_replicate, List.length_map, List.length_range]; omega) | decide)))
    | ((with_reducible refine w_truX ?s ?_); (case s => (first | omega | (simp only [List.length_append, List.length_cons, List.length_nil, List.length_take, List.length_drop, List.length_replicate, List.length_map, List.length_range] at *; omega) | (simp only [List.length_append, List.length_cons, List.length_nil, List.length_take, List.length_drop, List.length_replicate, List.length_map, List.length_range]; omega) | decide)))
    | ((with_reducible refine w_addX ?s ?_); (case s => (first | omega | (simp only [List.length_append, List.length_cons, List.length_nil, List.length_take, List.length_drop, List.length_replicate, List.length_map, List.length_range] at *; omega) | (simp only [List.length_append, List.length_cons, List.length_nil, List.length_take, List.length_drop, List.length_replicate, List.length_map, List.length_range]; omega) | decide)))
    | ((with_reducible refine w_mulX ?h0 ?h1 ?_); (case h0 => (first | omega | (simp only [List.length_append, List.length_cons, List.length_nil, List.length_take, List.length_drop, List.length_replicate, List.length_map, List.length_range] at *; omega) | (simp only [List.length_append, List.length_cons, List.length_nil, List.length_take, List.length_drop, List.length_replicate, List.length_map, List.length_range]; omega) | decide)); (case h1 => (first | omega | (simp only [List.length_append, List.length_cons, List.length_nil, List.length_take, List.length_drop, List.length_replicate, List.length_map, List.length_range] at *; omega) | (simp only [List.length_append, List.length_cons, List.length_nil, List.length_take, List.length_drop, List.length_replicate, List.length_map, List.length_range]; omega) | decide)))
    | ((with_reducible refine w_tkX ?s ?h0 ?_); (case s => (first | omega | (simp only [List.length_append, List.length_cons, List.length_nil, List.length_take, List.length_drop, List.length_replicate, List.length_map, List.length_range] at *; omega) | (simp only [List.length_append, List.length_cons, List.length_nil, List.length_take, List.length_drop, List.length_replicate, List.length_map, List.length_range]; omega) | decide)); (case h0 => (first | omega | (simp only [List.length_append, List.length_cons, List.length_nil, List.length_take, List.length_drop, List.length_replicate, List.length_map, List.length_range] at *; omega) | (simp only [List.length_append, List.length_cons, List.length_nil, List.length_take, List.length_drop, List.length_replicate, List.length_map, List.length_range]; omega) | decide)))
    | ((with_reducible refine w_dpX ?s ?h0 ?_); (case s => (first | omega | (simp only [List.length_append, List.length_cons, List.length_nil, List.length_take, List.length_drop, List.length_replicate, List.length_map, List.length_range] at *; omega) | (simp only [List.length_append, List.length_cons, List.length_nil, List.length_take, List.length_drop, List.length_replicate, List.length_map, List.length_range]; omega) | decide)); (case h0 => (first | omega | (simp only [List.length_append, List.length_cons, List.length_nil, List.length_take, List.length_drop, List.length_replicate, List.length_map, List.length_range] at *; omega) | (simp only [List.length_append, List.length_cons, List.length_nil, List.length_take, List.length_drop, List.length_replicate, List.length_map, List.length_range]; omega) | decide)))
    | ((with_reducible refine w_ixX ?s ?h0 ?_); (case s => (first | omega | (simp only [List.length_append, List.length_cons, List.length_nil, List.length_take, List.length_drop, List.length_replicate, List.length_map, List.length_range] at *; omega) | (simp only [List.length_append, List.length_cons, List.length_nil, List.length_take, List.length_drop, List.length_replicate, List.length_map, List.length_range]; omega) | decide)); (case h0 => (first | omega | (simp only [List.length_append, List.length_cons, List.length_nil, List.length_take, List.length_drop, List.length_replicate, List.length_map, List.length_range] at *; omega) | (simp only [List.length_append, List.length_cons, List.length_nil, List.length_take, List.length_drop, List.length_replicate, List.length_map, List.length_range]; omega) | decide)))
    | with_reducible refine w_max ?_
    | with_reducible refine w_min ?_
    | with_reducible refine w_abs ?_
    | with_reducible refine w_intI ?_
    | with_reducible refine w_intB ?_
    | with_reducible refine w_ipI ?_
    | with_reducible refine w_bmS ?_
    | with_reducible refine w_iStrv ?_
    | with_reducible refine w_neg ?_
    | with_reducible refine w_partI ?_
    | with_reducible refine w_truB ?_
    | with_reducible refine w_truN ?_
    | with_reducible refine w_truI ?_
    | with_reducible refine w_isi_int_int ?_
    | with_reducible refine w_isi_int_bl ?_
    | with_reducible refine w_isi_int_str ?_
    | with_reducible refine w_isi_int_non ?_
    | with_reducible refine w_isi_bool_int ?_
    | with_reducible refine w_isi_bool_bl ?_
    | with_reducible refine w_isi_bool_str ?_
    | with_reducible refine w_isi_bool_non ?_
    | with_reducible refine w_isi_str_int ?_
    | with_reducible refine w_isi_str_bl ?_
    | with_reducible refine w_isi_str_str ?_
    | with_reducible refine w_isi_str_non ?_
    | with_reducible refine w_isi_list_int ?_
    | with_reducible refine w_isi_list_bl ?_
    | with_reducible refine w_isi_list_str ?_
    | with_reducible refine w_isi_list_non ?_
    | with_reducible refine w_isi_tuple_int ?_
    | with_reducible refine w_isi_tuple_bl ?_
    | with_reducible refine w_isi_tuple_str ?_
    | with_reducible refine w_isi_tuple_non ?_
    | with_reducible refine w_is_int ?_
    | with_reducible refine w_isnt_int ?_
    | with_reducible refine w_is_bl ?_
    | with_reducible refine w_isnt_bl ?_
    | with_reducible refine w_is_str ?_
    | with_reducible refine w_isnt_str ?_
    | with_reducible refine w_is_non ?_
    | with_reducible refine w_isnt_non ?_
    | with_reducible refine w_is_ref ?_
    | with_reducible refine w_isnt_ref ?_
    | ((with_reducible refine w_asT ?e ?_); (case e => walk_at "te"); intro _ _)
    | ((with_reducible refine w_onT ?e ?_); (case e => walk_at "te"); intro _ _)
    | ((with_reducible refine w_asF ?e ?_); (case e => walk_at "te"))
    | ((with_reducible refine w_onF ?e ?_); (case e => walk_at "te"))
    | ((with_reducible apply w_isE); (· walk_at "xc"); (· walk_at "kt"))
    | ((with_reducible apply w_lenL); (· walk_at "hk"))
    | ((with_reducible apply w_lenT); (· walk_at "hk"))
    | ((with_reducible apply w_bmL); (· walk_at "hk"))
    | ((with_reducible refine w_rng1v ?h1 ?h2 ?_); (case h1 => (first | omega | (simp only [List.length_map] at *; omega))); (case h2 => (first | omega | (simp only [List.length_map] at *; omega))))
    | ((with_reducible refine w_rng2v ?h1 ?_); (case h1 => (first | omega | (simp only [List.length_map] at *; omega))))
    | ((with_reducible apply w_ixI); (· walk_at "hk"); (· (first | omega | (simp only [List.length_map] at *; omega))))
    | ((with_reducible apply w_ixTI); (· walk_at "hk"); (· (first | omega | (simp only [List.length_map] at *; omega))))
    | ((with_reducible apply w_ixTl); (· walk_at "hk"); (· rfl); (· decide))
    | ((with_reducible apply w_ixLl); (· walk_at "hk"); (· rfl); (· decide))
    | ((with_reducible apply w_appI); (· walk_at "hk"); (· (first | omega | (simp only [List.length_append, List.length_cons, List.length_nil]; omega))))
    | ((with_reducible apply w_iListv); (· walk_at "hk"))
    | ((with_reducible apply w_iTupv); (· walk_at "hk"))
    | ((with_reducible apply w_iRevv); (· walk_at "hk"))
    | walk_at "x"))
local macro_rules | `(tactic| walk_at "run") => `(tactic| repeat' (first
    | with_reducible refine w_seq ?_
    | with_reducible refine w_op ?_
    | with_reducible refine w_asg ?_
    | with_reducible refine w_name ?_
    | with_reducible refine w_c ?_
    | with_reducible refine w_if ?_
    | with_reducible refine w_test ?_
    | with_reducible refine w_blP ?_
    | with_reducible refine w_cons ?_
    | with_reducible refine w_nil ?_
    | with_reducible refine w_ret ?_
    | with_reducible refine w_call ?_
    | ((with_reducible refine' w_var ?e ?_); (case e => rfl))
    | with_reducible refine iteT ?_
    | with_reducible refine iteF ?_
    | with_reducible refine ifNT ?_
    | with_reducible refine ifNF ?_
    | (((with_reducible show @ite Prop (_ = true) _ _ _); refine @ifP _ _ _ _ ?_ ?_) <;> intro h <;> first | (with_reducible exact absurd rfl h) | skip)
    | (((with_reducible show @ite Prop (_ = true) _ _ _); refine @ifN _ _ _ _ ?_ ?_) <;> intro h <;> first | (with_reducible exact absurd rfl h) | skip)
    | with_reducible refine w_eqX ?_
    | with_reducible refine w_neX ?_
    | with_reducible refine w_add ?_
    | with_reducible refine w_sub ?_
    | with_reducible refine w_eqI ?_
    | with_reducible refine w_neI ?_
    | with_reducible refine w_lt ?_
    | with_reducible refine w_le ?_
    | with_reducible refine w_gt ?_
    | with_reducible refine w_ge ?_
    | with_reducible refine w_eqS ?_
    | with_reducible refine w_eqB ?_
    | with_reducible refine w_neS ?_
    | with_reducible refine w_neB ?_
    | with_reducible refine w_cb ?_
    | with_reducible refine w_tup ?_
    | with_reducible refine w_lst ?_
    | with_reducible refine w_next ?_
    | with_reducible refine w_drop ?_
    | with_reducible refine w_not ?_
    | with_reducible refine w_tru ?_
    | with_reducible refine w_and ?_
    | with_reducible refine w_or ?_
    | with_reducible refine w_andV ?_
    | with_reducible refine w_orV ?_
    | with_reducible refine w_notV ?_
    | with_reducible refine w_ifE ?_
    | with_reducible refine w_chain ?_
    | with_reducible refine w_retN ?_
    | with_reducible refine w_bm ?_
    | with_reducible refine w_raise ?_
    | with_reducible refine w_fld ?_
    | with_reducible refine w_meth ?_
    | with_reducible refine w_setf ?_
    | with_reducible refine w_for ?_
    | with_reducible refine w_rng1 ?_
    | with_reducible refine w_rng2 ?_
    | with_reducible refine w_iList ?_
    | with_reducible refine w_iTup ?_
    | with_reducible refine w_iStr ?_
    | with_reducible refine w_iRev ?_
    | with_reducible refine w_brk ?_
    | with_reducible refine w_cont ?_
    | with_reducible refine w_un ?_
    | with_reducible refine w_lc ?_
    | with_reducible refine w_yes ?_
    | with_reducible refine w_gsub ?_
    | with_reducible refine w_sl ?_
    | with_reducible refine w_part ?_
    | with_reducible refine w_noPart ?_
    | with_reducible refine w_wh ?_
    | with_reducible refine w_tryAs ?_
    | with_reducible refine w_try ?_
    | ((with_reducible refine' w_aug ?e ?_); (case e => rfl))
    | ((with_reducible refine w_mul ?s ?_); (case s => first | exact Or.inr ⟨by omega, by omega⟩ | exact Or.inl ⟨by omega, by omega⟩))
    | ((with_reducible refine w_div ?s ?_); (case s => omega))
    | ((with_reducible refine w_mod ?s ?_); (case s => first | omega | decide))
    | ((with_reducible refine w_pow ?s ?_); (case s => exact ⟨by decide, by decide, by decide⟩))
    | ((with_reducible refine w_newL ?s ?_); (case s => (first | exact (by decide) | (simp only [List.length_cons, List.length_nil]; omega))); intro _ _)
    | ((with_reducible refine w_newT ?s ?_); (case s => (first | exact (by decide) | (simp only [List.length_cons, List.length_nil]; omega))); intro _ _)
    | with_reducible refine w_eqX ?_
    | with_reducible refine w_neX ?_
    | with_reducible refine w_findX ?_
    | with_reducible refine w_countX ?_
    | ((with_reducible refine w_lenX ?s ?_); (case s => (first | omega | (simp only [List.length_append, List.length_cons, List.length_nil, List.length_take, List.length_drop, List.length_replicate, List.length_map, List.length_range] at *; omega) | (simp only [List.length_append, List.length_cons, List.length_nil, List.length_take, List.length_drop, List.length_replicate, List.length_map, List.length_range]; omega) | decide)))
    | ((with_reducible refine w_truX ?s ?_); (case s => (first | omega | (simp only [List.length_append, List.length_cons, List.length_nil, List.length_take, List.length_drop, List.length_replicate, List.length_map, List.length_range] at *; omega) | (simp only [List.length_append, List.length_cons, List.length_nil, List.length_take, List.length_drop, List.length_replicate, List.length_map, List.length_range]; omega) | decide)))
    | ((with_reducible refine w_addX ?s ?_); (case s => (first | omega | (simp only [List.length_append, List.length_cons, List.length_nil, List.length_take, List.length_drop, List.length_replicate, List.length_map, List.length_range] at *; omega) | (simp only [List.length_append, List.length_cons, List.length_nil, List.length_take, List.length_drop, List.length_replicate, List.length_map, List.length_range]; omega) | decide)))
    | ((with_reducible refine w_mulX ?h0 ?h1 ?_); (case h0 => (first | omega | (simp only [List.length_append, List.length_cons, List.length_nil, List.length_take, List.length_drop, List.length_replicate, List.length_map, List.length_range] at *; omega) | (simp only [List.length_append, List.length_cons, List.length_nil, List.length_take, List.length_drop, List.length_replicate, List.length_map, List.length_range]; omega) | decide)); (case h1 => (first | omega | (simp only [List.length_append, List.length_cons, List.length_nil, List.length_take, List.length_drop, List.length_replicate, List.length_map, List.length_range] at *; omega) | (simp only [List.length_append, List.length_cons, List.length_nil, List.length_take, List.length_drop, List.length_replicate, List.length_map, List.length_range]; omega) | decide)))
    | ((with_reducible refine w_tkX ?s ?h0 ?_); (case s => (first | omega | (simp only [List.length_append, List.length_cons, List.length_nil, List.length_take, List.length_drop, List.length_replicate, List.length_map, List.length_range] at *; omega) | (simp only [List.length_append, List.length_cons, List.length_nil, List.length_take, List.length_drop, List.length_replicate, List.length_map, List.length_range]; omega) | decide)); (case h0 => (first | omega | (simp only [List.length_append, List.length_cons, List.length_nil, List.length_take, List.length_drop, List.length_replicate, List.length_map, List.length_range] at *; omega) | (simp only [List.length_append, List.length_cons, List.length_nil, List.length_take, List.length_drop, List.length_replicate, List.length_map, List.length_range]; omega) | decide)))
    | ((with_reducible refine w_dpX ?s ?h0 ?_); (case s => (first | omega | (simp only [List.length_append, List.length_cons, List.length_nil, List.length_take, List.length_drop, List.length_replicate, List.length_map, List.length_range] at *; omega) | (simp only [List.length_append, List.length_cons, List.length_nil, List.length_take, List.length_drop, List.length_replicate, List.length_map, List.length_range]; omega) | decide)); (case h0 => (first | omega | (simp only [List.length_append, List.length_cons, List.length_nil, List.length_take, List.length_drop, List.length_replicate, List.length_map, List.length_range] at *; omega) | (simp only [List.length_append, List.length_cons, List.length_nil, List.length_take, List.length_drop, List.length_replicate, List.length_map, List.length_range]; omega) | decide)))
    | ((with_reducible refine w_ixX ?s ?h0 ?_); (case s => (first | omega | (simp only [List.length_append, List.length_cons, List.length_nil, List.length_take, List.length_drop, List.length_replicate, List.length_map, List.length_range] at *; omega) | (simp only [List.length_append, List.length_cons, List.length_nil, List.length_take, List.length_drop, List.length_replicate, List.length_map, List.length_range]; omega) | decide)); (case h0 => (first | omega | (simp only [List.length_append, List.length_cons, List.length_nil, List.length_take, List.length_drop, List.length_replicate, List.length_map, List.length_range] at *; omega) | (simp only [List.length_append, List.length_cons, List.length_nil, List.length_take, List.length_drop, List.length_replicate, List.length_map, List.length_range]; omega) | decide)))
    | with_reducible refine w_max ?_
    | with_reducible refine w_min ?_
    | with_reducible refine w_abs ?_
    | with_reducible refine w_intI ?_
    | with_reducible refine w_intB ?_
    | with_reducible refine w_ipI ?_
    | with_reducible refine w_bmS ?_
    | with_reducible refine w_iStrv ?_
    | with_reducible refine w_neg ?_
    | with_reducible refine w_partI ?_
    | with_reducible refine w_truB ?_
    | with_reducible refine w_truN ?_
    | with_reducible refine w_truI ?_
    | with_reducible refine w_isi_int_int ?_
    | with_reducible refine w_isi_int_bl ?_
    | with_reducible refine w_isi_int_str ?_
    | with_reducible refine w_isi_int_non ?_
    | with_reducible refine w_isi_bool_int ?_
    | with_reducible refine w_isi_bool_bl ?_
    | with_reducible refine w_isi_bool_str ?_
    | with_reducible refine w_isi_bool_non ?_
    | with_reducible refine w_isi_str_int ?_
    | with_reducible refine w_isi_str_bl ?_
    | with_reducible refine w_isi_str_str ?_
    | with_reducible refine w_isi_str_non ?_
    | with_reducible refine w_isi_list_int ?_
    | with_reducible refine w_isi_list_bl ?_
    | with_reducible refine w_isi_list_str ?_
    | with_reducible refine w_isi_list_non ?_
    | with_reducible refine w_isi_tuple_int ?_
    | with_reducible refine w_isi_tuple_bl ?_
    | with_reducible refine w_isi_tuple_str ?_
    | with_reducible refine w_isi_tuple_non ?_
    | with_reducible refine w_is_int ?_
    | with_reducible refine w_isnt_int ?_
    | with_reducible refine w_is_bl ?_
    | with_reducible refine w_isnt_bl ?_
    | with_reducible refine w_is_str ?_
    | with_reducible refine w_isnt_str ?_
    | with_reducible refine w_is_non ?_
    | with_reducible refine w_isnt_non ?_
    | with_reducible refine w_is_ref ?_
    | with_reducible refine w_isnt_ref ?_
    | ((with_reducible refine w_asT ?e ?_); (case e => walk_at "te"); intro _ _)
    | ((with_reducible refine w_onT ?e ?_); (case e => walk_at "te"); intro _ _)
    | ((with_reducible refine w_asF ?e ?_); (case e => walk_at "te"))
    | ((with_reducible refine w_onF ?e ?_); (case e => walk_at "te"))
    | ((with_reducible apply w_isE); (· walk_at "xc"); (· walk_at "kt"))
    | ((with_reducible apply w_lenL); (· walk_at "hk"))
    | ((with_reducible apply w_lenT); (· walk_at "hk"))
    | ((with_reducible apply w_bmL); (· walk_at "hk"))
    | ((with_reducible refine w_rng1v ?h1 ?h2 ?_); (case h1 => (first | omega | (simp only [List.length_map] at *; omega))); (case h2 => (first | omega | (simp only [List.length_map] at *; omega))))
    | ((with_reducible refine w_rng2v ?h1 ?_); (case h1 => (first | omega | (simp only [List.length_map] at *; omega))))
    | ((with_reducible apply w_ixI); (· walk_at "hk"); (· (first | omega | (simp only [List.length_map] at *; omega))))
    | ((with_reducible apply w_ixTI); (· walk_at "hk"); (· (first | omega | (simp only [List.length_map] at *; omega))))
    | ((with_reducible apply w_ixTl); (· walk_at "hk"); (· rfl); (· decide))
    | ((with_reducible apply w_ixLl); (· walk_at "hk"); (· rfl); (· decide))
    | ((with_reducible apply w_appI); (· walk_at "hk"); (· (first | omega | (simp only [List.length_append, List.length_cons, List.length_nil]; omega))))
    | ((with_reducible apply w_iListv); (· walk_at "hk"))
    | ((with_reducible apply w_iTupv); (· walk_at "hk"))
    | ((with_reducible apply w_iRevv); (· walk_at "hk"))
    | walk_at "x"))
/-- the addresses that the readings speak of -/
structure Ex where
  (LaminaError NotValid PowerOff NoProcess BadHandle NoVolume ReadOnly BadName Missing WrongKind Exists LoopFound CrossVolume Busy NotEmpty TooMany TooLong OverQuota NoSpace BadImage : Addr := 0)
  (Disk Head Space Store OpenFiles Handles Processes Log Accounts Session System : Addr := 0)
  (POINTER_KINDS MODES : Addr := 0)
/-- what is known of the exceptions' classes -/
structure Fa (K : PySem.W.Frag) (C : Ex) : Prop where
  fa0 : True
  te_LaminaError_BadName : PySem.W.exmOne K (.ref C.LaminaError) (.ref C.BadName) = some false
  te_NotValid_BadName : PySem.W.exmOne K (.ref C.NotValid) (.ref C.BadName) = some false
  te_BadName_BadName : PySem.W.exmOne K (.ref C.BadName) (.ref C.BadName) = some true
  kt_LaminaError_LaminaError : PySem.W.kitOne K (.ref C.LaminaError) (.ref C.LaminaError) = some true
  kt_NotValid_LaminaError : PySem.W.kitOne K (.ref C.NotValid) (.ref C.LaminaError) = some true
  kt_BadName_LaminaError : PySem.W.kitOne K (.ref C.BadName) (.ref C.LaminaError) = some true
  kt_LaminaError_NotValid : PySem.W.kitOne K (.ref C.LaminaError) (.ref C.NotValid) = some false
  kt_NotValid_NotValid : PySem.W.kitOne K (.ref C.NotValid) (.ref C.NotValid) = some true
  kt_BadName_NotValid : PySem.W.kitOne K (.ref C.BadName) (.ref C.NotValid) = some false
  xc_LaminaError : ExcC K C.LaminaError
  xc_NotValid : ExcC K C.NotValid
  xc_BadName : ExcC K C.BadName
local macro_rules | `(tactic| walk_at "te") => `(tactic| first | exact Fa.te_LaminaError_BadName (by assumption) | exact Fa.te_NotValid_BadName (by assumption) | exact Fa.te_BadName_BadName (by assumption))
local macro_rules | `(tactic| walk_at "kt") => `(tactic| first | exact Fa.kt_LaminaError_LaminaError (by assumption) | exact Fa.kt_NotValid_LaminaError (by assumption) | exact Fa.kt_BadName_LaminaError (by assumption) | exact Fa.kt_LaminaError_NotValid (by assumption) | exact Fa.kt_NotValid_NotValid (by assumption) | exact Fa.kt_BadName_NotValid (by assumption))
local macro_rules | `(tactic| walk_at "xc") => `(tactic| first | exact Fa.xc_LaminaError (by assumption) | exact Fa.xc_NotValid (by assumption) | exact Fa.xc_BadName (by assumption))
def S1 (f : V → Hp → VK → XK → Prop) : Sp := fun vs H Q E => ∃ a, vs = [a] ∧ f a H Q E
def S2 (f : V → V → Hp → VK → XK → Prop) : Sp := fun vs H Q E => ∃ a b, vs = [a, b] ∧ f a b H Q E
section
variable {vs : List V} {H : Hp} {Q : VK} {E : XK} {a b c d e : V}
theorem len1 {f} (h : S1 f vs H Q E) : vs.length = 1 := by obtain ⟨_, rfl, _⟩ := h; rfl
theorem len2 {f} (h : S2 f vs H Q E) : vs.length = 2 := by obtain ⟨_, _, rfl, _⟩ := h; rfl
theorem w_S1 {f} (h : f a H Q E) : S1 f [a] H Q E := ⟨a, rfl, h⟩
theorem w_S2 {f} (h : f a b H Q E) : S2 f [a, b] H Q E := ⟨a, b, rfl, h⟩
end
theorem lt_line {n : Nat} (h : n < 10000000) : n < sizeLine := Nat.lt_of_lt_of_le h (by decide)
/-- what isinstance may ask: a scalar, or an object that is a list, a tuple, a dict -/
def Known (K : PySem.W.Frag) (H : Hp) : V → Prop
  | .ref a => ∃ o : Ob, TyX K H (.ref a) (.type o.nm)
  | .byt _ => False
  | .flt _ => False
  | .ty _ => False
  | _ => True
abbrev spLaw (K : PySem.W.Frag) : Sp := S1 fun a H Q _ => ∃ (p : Addr) (ns : List Int), a = .ref p ∧ SqL K H p (ns.map V.int) ∧ ns.length ≤ 63 ∧ ∀ H', Q (.bl true) H'
theorem int_at {ns : List Int} {i : Nat} (h : i < ns.length) : (ns.map V.int)[i]? = some (.int (ns.getD i 0)) := by
  rw [List.getElem?_map, List.getElem?_eq_getElem h, List.getD_eq_getElem?_getD, List.getElem?_eq_getElem h]
  rfl
def isWord : V → Bool
  | .int i => decide (0 ≤ i)
  | _ => false
def sp_is_word (K : PySem.W.Frag) (_ : Ex) : Sp := S1 fun a H Q _ => Known K H a ∧ Q (.bl (isWord a)) H
def t_is_word (K : PySem.W.Frag) (C : Ex) (E : XK) : TS :=
  tSeq (tIfS (tOr (tNot (uTru K (tCB (uIsi K .int) (tCons (tVar 0) (tCons (tC (.ty "int")) (tNil)))))) (uTru K (tCB (uIsi K .bool) (tCons (tVar 0) (tCons (tC (.ty "bool")) (tNil)))))) (tRet (tC (.bl false))) (tNext))
  (tRet (tOp (uGe K) (tVar 0) (tC (.int 0))))
theorem pure_is_word {K : PySem.W.Frag} {C : Ex} {vs : List V} {H : Hp} {Q : VK} {E : XK} (F : Fa K C) (h : sp_is_word K C vs H Q E) : t_is_word K C E { nx := fun _ H' => Q .non H', rt := Q } (start ["value"] vs) H := by
  obtain ⟨a, rfl, hk, k⟩ := h
  unfold t_is_word
  cases a with
  | non => walk_at "run"; exact k
  | bl b => walk_at "run"; exact k
  | int i => walk_at "run"; exact k
  | str z => walk_at "run"; exact k
  | ref p =>
    obtain ⟨o, ho⟩ := hk
    walk_at "run1"
    refine ⟨rfl, o, ho, ?_⟩
    cases o <;> (walk_at "run"; exact k)
  | _ => exact hk.elim
def TapeOk (ts : List Int) : Prop := (∀ t ∈ ts, 0 ≤ t ∧ t < 1000) ∧ ts.length ≤ 3780
theorem TapeOk.app {ts : List Int} {z : Int} (h : ∀ t ∈ ts, 0 ≤ t ∧ t < 1000) (h0 : 0 ≤ z) (h1 : z < 1000) : ∀ t ∈ ts ++ [z], 0 ≤ t ∧ t < 1000 := by
  intro t ht
  rcases List.mem_append.mp ht with ht | ht
  · exact h t ht
  · rw [List.mem_singleton.mp ht]; exact ⟨h0, h1⟩
def sp__law_tape (K : PySem.W.Frag) (_ : Ex) : Sp := S1 fun a H Q _ => ∃ (p : Addr) (ns : List Int), a = .ref p ∧ SqL K H p (ns.map V.int) ∧ ns.length ≤ 63 ∧
  ∀ H' l ts, Same H H' → H l = none → H' l = some (.lst (ts.map V.int)) → TapeOk ts → Q (.ref l) H'
def t__law_tape (K : PySem.W.Frag) (C : Ex) (E : XK) : TS :=
  tSeq (tAsg (tLst (tNil)) (gName 1))
  (tSeq (tFor (iRng1 (tCons (tCB (uLen K) (tCons (tVar 0) (tNil))) (tNil))) (gName 2)
  (tSeq (tAsg (tCB (uAbs) (tCons (tCB (uInt) (tCons (tOp (uIx K) (tVar 0) (tVar 2)) (tNil))) (tNil))) (gName 3))
  (tIfS (tTest (tOp (uGe K) (tVar 3) (tOp (uPow) (tC (.int 10)) (tC (.int 18))))) (tFor (iRng1 (tCons (tC (.int 60)) (tNil))) (gName 4)
  (tIfS (tTest (tOp (uGt) (tVar 3) (tC (.int 0)))) (tSeq (tDrop (tBM K "list" (rAppend) (tVar 1) (tCons (tOp (uMod) (tVar 3) (tC (.int 1000))) (tNil))))
  (tAsg (tOp (uDiv) (tVar 3) (tC (.int 1000))) (gName 3))) (tNext))) (tFor (iRng1 (tCons (tC (.int 4)) (tNil))) (gName 4)
  (tSeq (tAsg (tOp (uMod) (tOp (uAdd K) (tOp (uAdd K) (tOp (uMul) (tVar 3) (tC (.int 48271))) (tOp (uMul) (tC (.int 69621)) (tOp (uAdd K) (tVar 2) (tC (.int 1))))) (tOp (uMul) (tC (.int 7)) (tVar 4))) (tC (.int 2147483647))) (gName 3))
  (tSeq (tAsg (tOp (uMod) (tOp (uMul) (tVar 3) (tC (.int 16807))) (tC (.int 2147483647))) (gName 3))
  (tDrop (tBM K "list" (rAppend) (tVar 1) (tCons (tOp (uMod) (tOp (uDiv) (tVar 3) (tC (.int 1000))) (tC (.int 1000))) (tNil))))))))))
  (tRet (tVar 1)))
theorem pure__law_tape {K : PySem.W.Frag} {C : Ex} {vs : List V} {H : Hp} {Q : VK} {E : XK} (F : Fa K C) (h : sp__law_tape K C vs H Q E) : t__law_tape K C E { nx := fun _ H' => Q .non H', rt := Q } (start ["_law_script", "_law_tape_here", "_law_k", "_law_value", "_law_step"] vs) H := by
  obtain ⟨a, rfl, p, ns, rfl, hS, hn, k⟩ := h
  unfold t__law_tape
  walk_at "run1"
  rename_i l hl
  refine f_range (fun i σ H' => ∃ v2 v3 v4 ts, σ = [some (.ref p), some (.ref l), v2, v3, v4] ∧ Same H H' ∧ H' l = some (.lst (ts.map V.int)) ∧ (∀ t ∈ ts, 0 ≤ t ∧ t < 1000) ∧ ts.length ≤ 60 * i)
    ⟨none, none, none, [], rfl, same_new hl, upd_same, by simp, Nat.zero_le _⟩ ?_ ?_
  · rintro i σ H1 hi ⟨v2, v3, v4, ts, rfl, hs, hl1, ht, hz⟩
    have hi' : i < ns.length := by simp only [List.length_map] at hi; omega
    have hS1 := hs.seq hS
    walk_at "run1"
    · have h0 : 0 ≤ (if ns.getD (0 + (i : Int)).toNat 0 < 0 then -ns.getD (0 + (i : Int)).toNat 0 else ns.getD (0 + (i : Int)).toNat 0) := by split <;> omega
      generalize (if ns.getD (0 + (i : Int)).toNat 0 < 0 then -ns.getD (0 + (i : Int)).toNat 0 else ns.getD (0 + (i : Int)).toNat 0) = z at *
      refine f_range (fun j σ H' => ∃ (z : Int) (v4 : Option V) (ts : List Int), σ = [some (.ref p), some (.ref l), some (.int (0 + (i : Int))), some (.int z), v4] ∧ 0 ≤ z ∧ Same H H' ∧ H' l = some (.lst (ts.map V.int)) ∧ (∀ t ∈ ts, 0 ≤ t ∧ t < 1000) ∧ ts.length ≤ 60 * i + j)
        ⟨z, v4, ts, rfl, h0, hs, hl1, ht, hz⟩ ?_ ?_
      · rintro j σ H2 hj ⟨z, v4, ts, rfl, hz0, hs, hl1, ht, hz⟩
        have hj' : j < 60 := hj
        walk_at "run1"
        · exact ⟨_, _, _, rfl, by omega, same_upd hs hl, upd_same, TapeOk.app ht (by omega) (by omega), by simp only [List.length_append, List.length_cons, List.length_nil]; omega⟩
        · walk_at "run1"
          exact ⟨_, _, _, rfl, by omega, hs, hl1, ht, by omega⟩
      · rintro σ H2 ⟨z, v4, ts, rfl, hz0, hs, hl1, ht, hz⟩
        exact ⟨_, _, _, _, rfl, hs, hl1, ht, by have : (60 : Int).toNat = 60 := rfl; omega⟩
    · have h0 : 0 ≤ (if ns.getD (0 + (i : Int)).toNat 0 < 0 then -ns.getD (0 + (i : Int)).toNat 0 else ns.getD (0 + (i : Int)).toNat 0) := by split <;> omega
      generalize (if ns.getD (0 + (i : Int)).toNat 0 < 0 then -ns.getD (0 + (i : Int)).toNat 0 else ns.getD (0 + (i : Int)).toNat 0) = z at *
      have h18 : z < 10 ^ 18 := by
        have e : (18 : Int).toNat = 18 := rfl
        rename_i hne
        rw [e] at hne
        omega
      walk_at "run1"
      refine f_range (fun j σ H' => ∃ (z : Int) (v4 : Option V) (ts : List Int), σ = [some (.ref p), some (.ref l), some (.int (0 + (i : Int))), some (.int z), v4] ∧ (0 ≤ z ∧ z < 10 ^ 18) ∧ Same H H' ∧ H' l = some (.lst (ts.map V.int)) ∧ (∀ t ∈ ts, 0 ≤ t ∧ t < 1000) ∧ ts.length ≤ 60 * i + j)
        ⟨z, v4, ts, rfl, ⟨h0, h18⟩, hs, hl1, ht, hz⟩ ?_ ?_
      · rintro j σ H2 hj ⟨z, v4, ts, rfl, hz0, hs, hl1, ht, hz⟩
        have hj' : j < 4 := hj
        walk_at "run1"
        exact ⟨_, _, _, rfl, by omega, same_upd hs hl, upd_same, TapeOk.app ht (by omega) (by omega), by simp only [List.length_append, List.length_cons, List.length_nil]; omega⟩
      · rintro σ H2 ⟨z, v4, ts, rfl, hz0, hs, hl1, ht, hz⟩
        exact ⟨_, _, _, _, rfl, hs, hl1, ht, by have : (4 : Int).toNat = 4 := rfl; omega⟩
  · rintro σ H1 ⟨v2, v3, v4, ts, rfl, hs, hl1, ht, hz⟩
    walk_at "run1"
    exact k _ _ ts hs hl hl1 ⟨ht, by simp only [List.length_map] at hz; omega⟩
def sp__law_at (K : PySem.W.Frag) (_ : Ex) : Sp := S2 fun a b H Q _ => ∃ (p : Addr) (ts : List Int) (k : Int), a = .ref p ∧ b = .int k ∧ SqL K H p (ts.map V.int) ∧ 0 ≤ k ∧ Q (.int (ts.getD k.toNat 0)) H
def t__law_at (K : PySem.W.Frag) (C : Ex) (E : XK) : TS :=
  tSeq (tIfS (tTest (tOp (uLt K) (tVar 1) (tCB (uLen K) (tCons (tVar 0) (tNil))))) (tRet (tOp (uIx K) (tVar 0) (tVar 1))) (tNext))
  (tRet (tC (.int 0)))
theorem pure__law_at {K : PySem.W.Frag} {C : Ex} {vs : List V} {H : Hp} {Q : VK} {E : XK} (F : Fa K C) (h : sp__law_at K C vs H Q E) : t__law_at K C E { nx := fun _ H' => Q .non H', rt := Q } (start ["_law_tape_here", "_law_k"] vs) H := by
  obtain ⟨a, b, rfl, p, ts, k, rfl, rfl, hS, hk, q⟩ := h
  unfold t__law_at
  walk_at "run1"
  · walk_at "run1"
    exact q
  · walk_at "run1"
    rename_i hlt
    rw [List.getD_eq_getElem?_getD, List.getElem?_eq_none (by simp only [List.length_map] at hlt; omega)] at q
    exact q
theorem TapeOk.at {ts : List Int} (h : TapeOk ts) (k : Nat) : 0 ≤ ts.getD k 0 ∧ ts.getD k 0 < 1000 := by
  rw [List.getD_eq_getElem?_getD]
  cases e : ts[k]? with
  | none => exact ⟨Int.le_refl 0, by decide⟩
  | some z => exact h.1 z (List.mem_of_getElem? e)
theorem u__law_at {K : PySem.W.Frag} {C : Ex} {H : Hp} {Q : VK} {E : XK} {p : Addr} {ts : List Int} {k : Int} (e : SqL K H p (ts.map V.int)) (h0 : 0 ≤ k) (h : Q (.int (ts.getD k.toNat 0)) H) : sp__law_at K C [.ref p, .int k] H Q E := w_S2 ⟨p, ts, k, rfl, rfl, e, h0, h⟩
local macro_rules | `(tactic| walk_at "x") => `(tactic| ((with_reducible apply u__law_at); (· walk_at "hk"); (· omega)))
/-- the signs of names -/
def al : List Nat := [97, 98, 99, 100, 101, 102, 103, 104, 105, 106, 107, 108, 109, 110, 111, 112, 113, 114, 115, 116, 117, 118, 119, 120, 121, 122, 48, 49, 50, 51, 52, 53, 54, 55, 56, 57, 46, 95, 45]
theorem al_str : ("abcdefghijklmnopqrstuvwxyz0123456789._-" : Str) = tx al := by decide +kernel
theorem dot_str : ("." : Str) = tx [46] := by decide +kernel
theorem emp_str : ("" : Str) = tx [] := by decide +kernel
/-- the digit of a sign, less one -/
def ix (c : Nat) : Int := ixc al c
theorem ix_lt (c : Nat) : -1 ≤ ix c ∧ ix c < 39 := by
  unfold ix ixc
  split
  · rename_i h
    have := List.idxOf_lt_length_iff.mpr h
    have e : al.length = 39 := rfl
    omega
  · omega
theorem ix_neg {c : Nat} : ix c < 0 ↔ c ∉ al := by
  unfold ix ixc
  split
  · rename_i h; exact ⟨fun q => by omega, fun q => absurd h q⟩
  · rename_i h; exact ⟨fun _ => h, fun _ => by omega⟩
def wStep (w : Int) (c : Nat) : Int := w * 40 + ix c + 1
def nameW (l : List Nat) : Int := l.foldl wStep 0 * 40 ^ (11 - l.length)
def isName (l : List Nat) : Prop := (0 < l.length ∧ l.length ≤ 11) ∧ (∀ c ∈ l, c ∈ al) ∧ l.count 46 ≠ l.length
instance (l : List Nat) : Decidable (isName l) := inferInstanceAs (Decidable (_ ∧ _))
theorem take_snoc {α : Type} {l : List α} {i : Nat} {c : α} (h : l[i]? = some c) : l.take (i + 1) = l.take i ++ [c] := by
  obtain ⟨hl, he⟩ := List.getElem?_eq_some_iff.mp h
  rw [List.take_succ_eq_append_getElem hl, he]
def sp_name_word (K : PySem.W.Frag) (C : Ex) : Sp := S1 fun a H Q E => ∃ l : List Nat, a = .str (tx l) ∧ l.length ≤ 1000 ∧ (isName l → Q (.int (nameW l)) H) ∧ (¬ isName l → E (.ref C.BadName) none H)
def t_name_word (K : PySem.W.Frag) (C : Ex) (E : XK) : TS :=
  tSeq (tIfS (tOr (tNot (uTru K (tCB (uIsi K .str) (tCons (tVar 0) (tCons (tC (.ty "str")) (tNil)))))) (tNot (tTest (tChain (uLt K) (uLe K) (tC (.int 0)) (tCB (uLen K) (tCons (tVar 0) (tNil))) (tC (.int 11)))))) (uRaise C.BadName (WB E)) (tNext))
  (tSeq (tAsg (tC (.int 0)) (gName 1))
  (tSeq (tAsg (tC (.int 0)) (gName 2))
  (tSeq (tFor (iStr (tVar 0)) (gName 3)
  (tSeq (tAsg (tBM K "str" (uFind) (tC (.str "abcdefghijklmnopqrstuvwxyz0123456789._-")) (tCons (tVar 3) (tNil))) (gName 4))
  (tSeq (tIfS (tTest (tOp (uLt K) (tVar 4) (tC (.int 0)))) (uRaise C.BadName (WB E)) (tNext))
  (tCut (tIfS (tTest (tOp (uEq K) (tVar 3) (tC (.str ".")))) (tAug 2 (tC (.int 1)) (ipI fun i j => i + j)) (tNext))
  (tAsg (tOp (uAdd K) (tOp (uAdd K) (tOp (uMul) (tVar 1) (tC (.int 40))) (tVar 4)) (tC (.int 1))) (gName 1))))))
  (tSeq (tIfS (tTest (tOp (uEq K) (tVar 2) (tCB (uLen K) (tCons (tVar 0) (tNil))))) (uRaise C.BadName (WB E)) (tNext))
  (tSeq (tFor (iRng1 (tCons (tOp (uSub) (tC (.int 11)) (tCB (uLen K) (tCons (tVar 0) (tNil)))) (tNil))) (gName 5)
  (tAsg (tOp (uMul) (tVar 1) (tC (.int 40))) (gName 1)))
  (tRet (tVar 1)))))))
theorem pure_name_word {K : PySem.W.Frag} {C : Ex} {vs : List V} {H : Hp} {Q : VK} {E : XK} (F : Fa K C) (h : sp_name_word K C vs H Q E) : t_name_word K C E { nx := fun _ H' => Q .non H', rt := Q } (start ["name", "word", "points", "char", "index", "_"] vs) H := by
  obtain ⟨a, rfl, l, rfl, hl, k1, k2⟩ := h
  unfold t_name_word
  rw [al_str, dot_str]
  walk_at "run1"
  · exact k2 fun q => by have := q.1; omega
  · walk_at "run1"
    refine f_tx (l := l) (fun i σ H' => H' = H ∧ (∃ v3 v4 v5, σ = [some (.str (tx l)), some (.int ((l.take i).foldl wStep 0)), some (.int (((l.take i).count 46 : Nat) : Int)), v3, v4, v5]) ∧ ∀ c ∈ l.take i, c ∈ al)
      ⟨rfl, ⟨none, none, none, rfl⟩, by simp⟩ ?_ ?_
    · rintro i c σ H' hc ⟨rfl, ⟨v3, v4, v5, rfl⟩, ha⟩
      walk_at "run1"
      · rename_i hn
        exact k2 fun q => (ix_neg.mp hn) (q.2.1 c (List.mem_of_getElem? hc))
      · walk_at "run1"
        rename_i hn
        have hm : c ∈ al := by
          by_cases q : c ∈ al
          · exact q
          · exact absurd (ix_neg.mpr q) hn
        refine w_cut (fun σ H1 => H1 = H' ∧ ∃ v5, σ = [some (.str (tx l)), some (.int ((l.take i).foldl wStep 0)), some (.int (((l.take (i + 1)).count 46 : Nat) : Int)), some (.str (tx [c])), some (.int (ix c)), v5]) ?_ ?_
        · rw [take_snoc hc, List.count_append]
          walk_at "run1"
          · rename_i e
            obtain rfl : c = 46 := (List.cons.inj e).1
            exact ⟨rfl, v5, rfl⟩
          · walk_at "run1"
            rename_i e
            refine ⟨rfl, v5, ?_⟩
            rw [show [c].count 46 = 0 from List.count_eq_zero.mpr (by simp; intro h; exact e (by rw [← h]))]
            rfl
        · rintro σ H1 ⟨rfl, v5, rfl⟩
          walk_at "run1"
          refine ⟨rfl, ⟨some (.str (tx [c])), some (.int (ix c)), v5, ?_⟩, ?_⟩
          · rw [take_snoc hc, List.foldl_append]; rfl
          · rw [take_snoc hc]
            intro d hd
            rcases List.mem_append.mp hd with hd | hd
            · exact ha d hd
            · rw [List.mem_singleton.mp hd]; exact hm
    · rintro σ H' ⟨rfl, ⟨v3, v4, v5, rfl⟩, ha⟩
      rw [List.take_length] at *
      walk_at "run1"
      · rename_i e
        exact k2 fun q => q.2.2 (by omega)
      · walk_at "run1"
        rename_i h0 h1 e
        have nm : isName l := ⟨⟨by omega, by omega⟩, ha, by omega⟩
        refine f_range (fun i σ H1 => H1 = H' ∧ ∃ v5, σ = [some (.str (tx l)), some (.int (l.foldl wStep 0 * 40 ^ i)), some (.int ((l.count 46 : Nat) : Int)), v3, v4, v5]) ⟨rfl, v5, by rw [Int.pow_zero, Int.mul_one]⟩ ?_ ?_
        · rintro i σ H' hi ⟨rfl, v5, rfl⟩
          walk_at "run1"
          exact ⟨rfl, _, by rw [Int.pow_succ, Int.mul_assoc]; rfl⟩
        · rintro σ H' ⟨rfl, v5, rfl⟩
          walk_at "run1"
          have := k1 nm
          unfold nameW at this
          rw [show ((11 : Int) - (l.length : Int)).toNat = 11 - l.length by omega]
          exact this
  · walk_at "run1"
    exact k2 fun q => by have := q.1; omega
/-- the digits of a name, behind its end 0 -/
def dgN (l : List Nat) (k : Nat) : Int := match l[k]? with
  | some c => ix c + 1
  | none => 0
def dgW (w : Int) (k : Nat) : Int := w / 40 ^ (10 - k) % 40
def sumW (f : Nat → Int) : Nat → Int
  | 0 => 0
  | n + 1 => sumW f n * 40 + f n
theorem dgN_at {l : List Nat} {k : Nat} {c : Nat} (h : l[k]? = some c) : dgN l k = ix c + 1 := by unfold dgN; rw [h]
theorem dgN_end {l : List Nat} {k : Nat} (h : l.length ≤ k) : dgN l k = 0 := by unfold dgN; rw [List.getElem?_eq_none h]
theorem ix_nn {c : Nat} (h : c ∈ al) : 0 ≤ ix c := by
  by_cases q : ix c < 0
  · exact absurd h (ix_neg.mp q)
  · omega
theorem dgN_pos {l : List Nat} {k : Nat} (ha : ∀ c ∈ l, c ∈ al) (h : k < l.length) : 0 < dgN l k := by
  have e := List.getElem?_eq_getElem h
  rw [dgN_at e]
  have := ix_nn (ha _ (List.getElem_mem h))
  omega
theorem dgN_lim (l : List Nat) (k : Nat) (ha : ∀ c ∈ l, c ∈ al) : 0 ≤ dgN l k ∧ dgN l k < 40 := by
  unfold dgN
  split
  · rename_i c e
    have := ix_nn (ha c (List.mem_of_getElem? e))
    have := ix_lt c
    omega
  · omega
theorem pre_sum (l : List Nat) : ∀ n, (l.take n).foldl wStep 0 * 40 ^ (n - l.length) = sumW (dgN l) n
  | 0 => by simp [sumW]
  | n + 1 => by
    have ih := pre_sum l n
    show _ = sumW (dgN l) n * 40 + dgN l n
    rw [← ih]
    by_cases h : n < l.length
    · have e := List.getElem?_eq_getElem h
      rw [take_snoc e, List.foldl_append, dgN_at e]
      rw [show n + 1 - l.length = 0 by omega, show n - l.length = 0 by omega, Int.pow_zero, Int.mul_one, Int.mul_one]
      show (l.take n).foldl wStep 0 * 40 + ix l[n] + 1 = _
      omega
    · rw [dgN_end (by omega), List.take_of_length_le (show l.length ≤ n + 1 by omega), List.take_of_length_le (show l.length ≤ n by omega), show n + 1 - l.length = (n - l.length) + 1 by omega, Int.pow_succ, Int.mul_assoc]
      omega
theorem nameW_sum {l : List Nat} (h : l.length ≤ 11) : nameW l = sumW (dgN l) 11 := by
  rw [← pre_sum l 11, List.take_of_length_le h]
  rfl
theorem pow40 (n : Nat) : (0 : Int) < 40 ^ n := Int.pow_pos (by decide)
theorem sum_lim {f : Nat → Int} (hf : ∀ k, 0 ≤ f k ∧ f k < 40) : ∀ n, 0 ≤ sumW f n ∧ sumW f n < 40 ^ n
  | 0 => ⟨Int.le_refl 0, pow40 0⟩
  | n + 1 => by
    obtain ⟨a, b⟩ := sum_lim hf n
    have := hf n
    show 0 ≤ sumW f n * 40 + f n ∧ sumW f n * 40 + f n < 40 ^ (n + 1)
    rw [Int.pow_succ]
    generalize (40 : Int) ^ n = P at *
    omega
/-- the upper digits of a sum -/
theorem sum_up {f : Nat → Int} (hf : ∀ k, 0 ≤ f k ∧ f k < 40) (n : Nat) : ∀ m, sumW f (n + m) / 40 ^ m = sumW f n
  | 0 => by rw [Int.pow_zero, Int.ediv_one]; rfl
  | m + 1 => by
    have h := hf (n + m)
    rw [Int.pow_succ, Int.mul_comm, ← Int.ediv_ediv_of_nonneg (by decide)]
    have e : sumW f (n + (m + 1)) / 40 = sumW f (n + m) := by
      show (sumW f (n + m) * 40 + f (n + m)) / 40 = _
      omega
    rw [e]
    exact sum_up hf n m
theorem dgW_sum {f : Nat → Int} (hf : ∀ k, 0 ≤ f k ∧ f k < 40) {k : Nat} (h : k < 11) : dgW (sumW f 11) k = f k := by
  unfold dgW
  have e := sum_up hf (k + 1) (10 - k)
  rw [show k + 1 + (10 - k) = 11 by omega] at e
  rw [e]
  have := hf k
  show (sumW f k * 40 + f k) % 40 = f k
  omega
theorem sum_dgW (w : Int) (hw : w / 40 ^ 11 = 0) : ∀ n, n ≤ 11 → sumW (dgW w) n = w / 40 ^ (11 - n)
  | 0, _ => hw.symm
  | n + 1, h => by
    show sumW (dgW w) n * 40 + dgW w n = _
    rw [sum_dgW w hw n (by omega)]
    unfold dgW
    rw [show 11 - n = (10 - n) + 1 by omega, show 11 - (n + 1) = 10 - n by omega, Int.pow_succ, ← Int.ediv_ediv_of_nonneg (Int.le_of_lt (pow40 _))]
    omega
theorem sumW_congr {f g : Nat → Int} : ∀ n, (∀ k, k < n → f k = g k) → sumW f n = sumW g n
  | 0, _ => rfl
  | n + 1, h => by
    show sumW f n * 40 + f n = sumW g n * 40 + g n
    rw [sumW_congr n fun k hk => h k (by omega), h n (by omega)]
theorem name_dg {l : List Nat} (h : isName l) : (∀ k, k < 11 → dgW (nameW l) k = dgN l k) ∧ 0 ≤ nameW l ∧ nameW l < 40 ^ 11 := by
  rw [nameW_sum h.1.2]
  exact ⟨fun k hk => dgW_sum (fun j => dgN_lim l j h.2.1) hk, (sum_lim (fun j => dgN_lim l j h.2.1) 11).1, (sum_lim (fun j => dgN_lim l j h.2.1) 11).2⟩
theorem ixc_inj {c d : Nat} (hc : c ∈ al) (hd : d ∈ al) (e : ix c = ix d) : c = d := by
  unfold ix ixc at e
  rw [if_pos hc, if_pos hd] at e
  have h1 := List.getElem_idxOf (List.idxOf_lt_length_iff.mpr hc)
  have h2 := List.getElem_idxOf (List.idxOf_lt_length_iff.mpr hd)
  have e' : al.idxOf c = al.idxOf d := by omega
  rw [← h1, ← h2]
  congr 1
theorem al_ix : ∀ d : Nat, d < 39 → ix (al.getD d 0) = (d : Int) := by decide +kernel
theorem al_at (n : Nat) (h : n < 39) : al.getD n 0 ∈ al := by
  rw [List.getD_eq_getElem?_getD, List.getElem?_eq_getElem (show n < al.length from h)]
  exact List.getElem_mem _
theorem dgN_ext {l m : List Nat} (hl : l.length ≤ 11) (hm : m.length ≤ 11) (ha : ∀ c ∈ l, c ∈ al) (hb : ∀ c ∈ m, c ∈ al) (h : ∀ k, k < 11 → dgN l k = dgN m k) : l = m := by
  have len : l.length = m.length := by
    rcases Nat.lt_trichotomy l.length m.length with q | q | q
    · have z := h l.length (by omega)
      rw [dgN_end (Nat.le_refl _)] at z
      have := dgN_pos hb q
      omega
    · exact q
    · have z := h m.length (by omega)
      rw [dgN_end (Nat.le_refl m.length)] at z
      have := dgN_pos ha q
      omega
  refine List.ext_getElem len fun k h1 h2 => ?_
  have z := h k (by omega)
  rw [dgN_at (List.getElem?_eq_getElem h1), dgN_at (List.getElem?_eq_getElem h2)] at z
  exact ixc_inj (ha _ (List.getElem_mem h1)) (hb _ (List.getElem_mem h2)) (by omega)
/-- the name that i digits of w tell -/
structure Told (w : Int) (l : List Nat) (i : Nat) : Prop where
  len : l.length ≤ i
  all : ∀ c ∈ l, c ∈ al
  dg : ∀ k, k < i → dgW w k = dgN l k
theorem Told.zero {w : Int} : Told w [] 0 := ⟨Nat.le_refl 0, by simp, fun k h => absurd h (by omega)⟩
theorem Told.skip {w : Int} {l : List Nat} {i : Nat} (t : Told w l i) (h : dgW w i = 0) : Told w l (i + 1) := ⟨by have := t.len; omega, t.all, fun k hk => by
  rcases Nat.lt_or_ge k i with q | q
  · exact t.dg k q
  · obtain rfl : k = i := by omega
    rw [h, dgN_end t.len]⟩
theorem dgW_lim (w : Int) (k : Nat) : 0 ≤ dgW w k ∧ dgW w k < 40 := by unfold dgW; omega
theorem Told.put {w : Int} {l : List Nat} {i : Nat} (t : Told w l i) (hi : l.length = i) (h : dgW w i ≠ 0) : Told w (l ++ [al.getD (dgW w i - 1).toNat 0]) (i + 1) := by
  have := dgW_lim w i
  have z := al_ix (dgW w i - 1).toNat (by omega)
  refine ⟨by simp only [List.length_append, List.length_cons, List.length_nil]; omega, fun c hc => ?_, fun k hk => ?_⟩
  · rcases List.mem_append.mp hc with hc | hc
    · exact t.all c hc
    · rw [List.mem_singleton.mp hc]; exact al_at _ (by omega)
  · rcases Nat.lt_or_ge k i with q | q
    · rw [t.dg k q]
      unfold dgN
      rw [List.getElem?_append_left (by omega)]
    · obtain rfl : k = i := by omega
      rw [dgN_at (c := al.getD (dgW w k - 1).toNat 0) (by rw [List.getElem?_append_right (by omega), hi, Nat.sub_self]; rfl), z]
      omega
theorem Told.no {w : Int} {l : List Nat} {i : Nat} (t : Told w l i) (hi : l.length < i) (hj : i < 11) (h : dgW w i ≠ 0) {m : List Nat} (hm : isName m) : nameW m ≠ w := by
  rintro rfl
  obtain ⟨d, _, _⟩ := name_dg hm
  have z := t.dg l.length hi
  rw [d _ (by omega), dgN_end (Nat.le_refl _)] at z
  have a : ¬ l.length < m.length := fun q => by have := dgN_pos hm.2.1 q; omega
  rw [d i hj, dgN_end (by omega)] at h
  exact h rfl
theorem Told.yes {w : Int} {l : List Nat} (t : Told w l 11) (hw : w / 40 ^ 11 = 0) : nameW l = w := by
  rw [nameW_sum t.len, ← sumW_congr 11 t.dg, sum_dgW w hw 11 (Nat.le_refl _), Nat.sub_self, Int.pow_zero, Int.ediv_one]
theorem Told.only {w : Int} {l : List Nat} (t : Told w l 11) {m : List Nat} (hm : isName m) (e : nameW m = w) : m = l := by
  subst e
  obtain ⟨d, _, _⟩ := name_dg hm
  exact dgN_ext hm.1.2 t.len hm.2.1 t.all fun k hk => by rw [← d k hk, t.dg k hk]
theorem name_div {m : List Nat} (hm : isName m) : nameW m / 40 ^ 11 = 0 := by
  obtain ⟨_, a, b⟩ := name_dg hm
  exact Int.ediv_eq_zero_of_lt a b
theorem isName_of {l : List Nat} (h : l.length ≤ 11) (ha : ∀ c ∈ l, c ∈ al) : isName l ↔ l.count 46 ≠ l.length := by
  refine ⟨fun q => q.2.2, fun q => ⟨⟨?_, h⟩, ha, q⟩⟩
  cases l with
  | nil => exact absurd rfl q
  | cons => simp
theorem rep_iff (l : List Nat) : l = List.replicate l.length 46 ↔ l.count 46 = l.length :=
  ⟨fun e => by rw [e, List.count_replicate_self, List.length_replicate], fun e => List.eq_replicate_iff.mpr ⟨rfl, fun b hb => (List.count_eq_length.mp e b hb).symm⟩⟩
theorem isWord_int (w : Int) : isWord (.int w) = decide (0 ≤ w) := rfl
theorem e11 : (11 : Int).toNat = 11 := rfl
/-- what names have the word w -/
def HasName (w : Int) (Y : List Nat → Prop) (N : Prop) : Prop := (∀ l, isName l → nameW l = w → Y l) ∧ ((∀ l, isName l → nameW l ≠ w) → N)
def sp_word_name (K : PySem.W.Frag) (C : Ex) : Sp := S1 fun a H Q E => ∃ w : Int, a = .int w ∧ ∀ H', Same H H' → HasName w (fun l => Q (.str (tx l)) H') (E (.ref C.BadName) none H')
theorem rev_at {α : Type} {f : Nat → α} {n i : Nat} {x : α} (h : ((List.range n).map f)[((List.range n).map f).length - 1 - i]? = some x) (hi : i < n) : x = f (n - 1 - i) := by
  rw [List.length_map, List.length_range, List.getElem?_map, List.getElem?_range (by omega)] at h
  exact (Option.some.inj h).symm
def t_word_name (K : PySem.W.Frag) (C : Ex) (E : XK) : TS :=
  tSeq (tIfS (tNot (uTru K (uCall (sp_is_word K C) (WB E) (tCons (tVar 0) (tNil))))) (uRaise C.BadName (WB E)) (tNext))
  (tSeq (tAsg (tLst (tNil)) (gName 1))
  (tSeq (tAsg (tVar 0) (gName 2))
  (tSeq (tFor (iRng1 (tCons (tC (.int 11)) (tNil))) (gName 3)
  (tSeq (tDrop (tBM K "list" (rAppend) (tVar 1) (tCons (tOp (uMod) (tVar 2) (tC (.int 40))) (tNil))))
  (tAsg (tOp (uDiv) (tVar 2) (tC (.int 40))) (gName 2))))
  (tSeq (tAsg (tC (.str "")) (gName 4))
  (tSeq (tAsg (tC (.bl false)) (gName 5))
  (tSeq (tFor (iRev K (tCons (tVar 1) (tNil))) (gName 6)
  (tIfS (tTest (tOp (uEq K) (tVar 6) (tC (.int 0)))) (tAsg (tC (.bl true)) (gName 5)) (tIfS (uTru K (tVar 5)) (uRaise C.BadName (WB E)) (tAsg (tOp (uAdd K) (tVar 4) (tOp (uIx K) (tC (.str "abcdefghijklmnopqrstuvwxyz0123456789._-")) (tOp (uSub) (tVar 6) (tC (.int 1))))) (gName 4)))))
  (tSeq (tIfS (tOr (tTest (tOp (uNe K) (tVar 2) (tC (.int 0)))) (tTest (tOp (uEq K) (tBM K "str" (uCount) (tVar 4) (tCons (tC (.str ".")) (tNil))) (tCB (uLen K) (tCons (tVar 4) (tNil)))))) (uRaise C.BadName (WB E)) (tNext))
  (tRet (tVar 4)))))))))
theorem pure_word_name {K : PySem.W.Frag} {C : Ex} {vs : List V} {H : Hp} {Q : VK} {E : XK} (F : Fa K C) (h : sp_word_name K C vs H Q E) : t_word_name K C E { nx := fun _ H' => Q .non H', rt := Q } (start ["word", "digits", "rest", "_", "name", "ended", "digit"] vs) H := by
  obtain ⟨a, rfl, w, rfl, k⟩ := h
  unfold t_word_name
  rw [al_str, dot_str, emp_str]
  walk_at "run1"
  refine w_S1 ⟨trivial, ?_⟩
  rw [isWord_int]
  walk_at "run1"
  · rename_i hn
    refine (k _ (L2.Same.refl _)).2 fun l hl e => ?_
    obtain ⟨_, a, _⟩ := name_dg hl
    omega
  · walk_at "run1"
    rename_i h0 D hD
    refine f_range (fun i σ H' => ∃ v3, σ = [some (.int w), some (.ref D), some (.int (w / 40 ^ i)), v3, none, none, none] ∧ Same H H' ∧ H' D = some (.lst (((List.range i).map fun j => w / 40 ^ j % 40).map V.int))) ⟨none, by rw [Int.pow_zero, Int.ediv_one]; rfl, same_new hD, upd_same⟩ ?_ ?_
    · rintro i σ H' hi ⟨v3, rfl, hs, hl⟩
      have hi' : i < 11 := hi
      walk_at "run1"
      refine w_appI hl (by rw [List.length_map, List.length_range]; omega) ?_
      walk_at "run1"
      refine ⟨_, by rw [Int.pow_succ, ← Int.ediv_ediv_of_nonneg (Int.le_of_lt (pow40 _))]; rfl, same_upd hs hD, ?_⟩
      rw [upd_same, List.range_succ, List.map_append, List.map_append, List.map_append]
      rfl
    · rintro σ H' ⟨v3, rfl, hs, hl⟩
      walk_at "run1"
      refine RT.for_Itv (xs := ((List.range (Int.toNat 11)).map fun j => w / 40 ^ j % 40).map V.int) (fun i σ H1 => H1 = H' ∧ ∃ l v6, Told w l i ∧ σ = [some (.int w), some (.ref D), some (.int (w / 40 ^ (Int.toNat 11))), v3, some (.str (tx l)), some (.bl (decide (l.length < i))), v6]) ⟨rfl, [], none, .zero, rfl⟩ (by rintro i σ H1 ⟨rfl, _⟩; exact SqL.of hl) ?_ ?_
      · rintro i x σ H1 hi hx ⟨rfl, l, v6, t, rfl⟩
        rw [List.length_map, List.length_map, List.length_range, e11] at hi
        rw [List.map_map] at hx
        have hx' := rev_at (f := V.int ∘ fun j => w / 40 ^ j % 40) hx (by rw [e11]; exact hi)
        rw [e11] at hx'
        have ex : x = .int (dgW w i) := by rw [hx']; rfl
        subst ex
        have lim := dgW_lim w i
        have hlen := t.len
        have hal : al.length = 39 := rfl
        walk_at "run1"
        · rename_i hz
          exact ⟨rfl, l, _, t.skip hz, by rw [decide_eq_true (show l.length < i + 1 by omega)]; rfl⟩
        · walk_at "run1"
          · rename_i hz hlt
            exact (k _ hs).2 fun m hm => t.no hlt hi hz hm
          · rename_i hz hge
            have he : l.length = i := by omega
            walk_at "run1"
            have hx : (l ++ [al.getD (dgW w i - 1).toNat 0]).length = i + 1 := by rw [List.length_append, he]; rfl
            exact ⟨rfl, _, _, t.put he hz, by rw [decide_eq_false (show ¬ (l ++ [al.getD (dgW w i - 1).toNat 0]).length < i + 1 by omega), decide_eq_false (show ¬ l.length < i by omega)]; rfl⟩
      · rintro σ H1 ⟨rfl, l, v6, t, rfl⟩
        rw [List.length_map, List.length_map, List.length_range, e11] at t
        have hl11 := t.len
        rw [e11]
        walk_at "run1"
        · rename_i hr
          exact (k _ hs).2 fun m hm e => hr (by rw [← e]; exact name_div hm)
        · walk_at "run1"
          · rename_i hr hc
            refine (k _ hs).2 fun m hm e => ?_
            rw [t.only hm e] at hm
            exact hm.2.2 (by omega)
          · walk_at "run1"
            rename_i hr hc
            exact (k _ hs).1 l ((isName_of hl11 t.all).mpr (by omega)) (t.yes hr)
def sp__law_char (K : PySem.W.Frag) (_ : Ex) : Sp := S1 fun a H Q _ => ∃ t : Int, a = .int t ∧ 0 ≤ t ∧ ∀ c, Q (.str (tx [c])) H
theorem odd_str : ("AZ /@\n~+," : Str) = tx [65, 90, 32, 47, 64, 10, 126, 43, 44] := by decide +kernel
def t__law_char (K : PySem.W.Frag) (C : Ex) (E : XK) : TS :=
  tSeq (tAsg (tC (.str "abcdefghijklmnopqrstuvwxyz0123456789._-")) (gName 1))
  (tSeq (tIfS (tTest (tOp (uEq K) (tOp (uMod) (tVar 0) (tC (.int 12))) (tC (.int 11)))) (tRet (tOp (uIx K) (tC (.str "AZ /@\n~+,")) (tOp (uMod) (tOp (uDiv) (tVar 0) (tC (.int 12))) (tC (.int 9))))) (tNext))
  (tRet (tOp (uIx K) (tVar 1) (tOp (uMod) (tOp (uDiv) (tVar 0) (tC (.int 12))) (tC (.int 39))))))
theorem pure__law_char {K : PySem.W.Frag} {C : Ex} {vs : List V} {H : Hp} {Q : VK} {E : XK} (F : Fa K C) (h : sp__law_char K C vs H Q E) : t__law_char K C E { nx := fun _ H' => Q .non H', rt := Q } (start ["_law_number", "_law_chars"] vs) H := by
  obtain ⟨a, rfl, t, rfl, h0, k⟩ := h
  unfold t__law_char
  rw [al_str, odd_str]
  have hal : al.length = 39 := rfl
  walk_at "run1"
  · exact k _
  · walk_at "run1"
    exact k _
def sp__law_word (K : PySem.W.Frag) (_ : Ex) : Sp := S1 fun a H Q _ => ∃ l, a = .str (tx l) ∧ l.length ≤ 1000 ∧ (isName l → Q (.int (nameW l)) H) ∧ (¬ isName l → Q .non H)
theorem dgN_ix {l : List Nat} {k : Nat} (h : k < l.length) : dgN l k = ixc al (l.getD k 0) + 1 := by
  have e := List.getElem?_eq_getElem h
  rw [dgN_at e, List.getD_eq_getElem?_getD, e]
  rfl
def t__law_word (K : PySem.W.Frag) (C : Ex) (E : XK) : TS :=
  tSeq (tAsg (tC (.str "abcdefghijklmnopqrstuvwxyz0123456789._-")) (gName 1))
  (tSeq (tIfS (tOr (tTest (tOp (uLt K) (tCB (uLen K) (tCons (tVar 0) (tNil))) (tC (.int 1)))) (tTest (tOp (uGt) (tCB (uLen K) (tCons (tVar 0) (tNil))) (tC (.int 11))))) (tRet (tC .non)) (tNext))
  (tSeq (tAsg (tC (.int 0)) (gName 2))
  (tSeq (tFor (iRng1 (tCons (tC (.int 11)) (tNil))) (gName 3)
  (tSeq (tAsg (tC (.int 0)) (gName 4))
  (tCut (tIfS (tTest (tOp (uLt K) (tVar 3) (tCB (uLen K) (tCons (tVar 0) (tNil))))) (tSeq (tAsg (tOp (uAdd K) (tBM K "str" (uFind) (tVar 1) (tCons (tOp (uIx K) (tVar 0) (tVar 3)) (tNil))) (tC (.int 1))) (gName 4))
  (tIfS (tTest (tOp (uEq K) (tVar 4) (tC (.int 0)))) (tRet (tC .non)) (tNext))) (tNext))
  (tAsg (tOp (uAdd K) (tOp (uMul) (tVar 2) (tC (.int 40))) (tVar 4)) (gName 2)))))
  (tSeq (tIfS (tTest (tOp (uEq K) (tVar 0) (tOp (uMul) (tC (.str ".")) (tCB (uLen K) (tCons (tVar 0) (tNil)))))) (tRet (tC .non)) (tNext))
  (tRet (tVar 2))))))
theorem pure__law_word {K : PySem.W.Frag} {C : Ex} {vs : List V} {H : Hp} {Q : VK} {E : XK} (F : Fa K C) (h : sp__law_word K C vs H Q E) : t__law_word K C E { nx := fun _ H' => Q .non H', rt := Q } (start ["_law_name_here", "_law_chars", "_law_word_here", "_law_k", "_law_digit"] vs) H := by
  obtain ⟨a, rfl, l, rfl, hl, k1, k2⟩ := h
  unfold t__law_word
  rw [al_str, dot_str]
  walk_at "run1"
  · exact k2 fun q => by have := q.1; omega
  · walk_at "run1"
    · exact k2 fun q => by have := q.1; omega
    · walk_at "run1"
      rename_i h0 h1
      refine f_range (fun i σ H' => H' = H ∧ (∃ v3 v4, σ = [some (.str (tx l)), some (.str (tx al)), some (.int (sumW (dgN l) i)), v3, v4]) ∧ ∀ j, j < i → j < l.length → 0 < dgN l j) ⟨rfl, ⟨none, none, rfl⟩, fun j h => by omega⟩ ?_ ?_
      · rintro i σ H' hi ⟨rfl, ⟨v3, v4, rfl⟩, ha⟩
        have hi' : i < 11 := hi
        walk_at "run1"
        refine w_cut (fun σ H1 => H1 = H' ∧ σ = [some (.str (tx l)), some (.str (tx al)), some (.int (sumW (dgN l) i)), some (.int (0 + (i : Int))), some (.int (dgN l i))] ∧ (i < l.length → 0 < dgN l i)) ?_ ?_
        · walk_at "run1"
          · rename_i hlt hz
            rw [show (0 + (i : Int)).toNat = i by omega, ← dgN_ix (by omega)] at hz
            refine k2 fun q => ?_
            have := dgN_pos q.2.1 (show i < l.length by omega)
            omega
          · walk_at "run1"
            rename_i hlt hz
            rw [show (0 + (i : Int)).toNat = i by omega, ← dgN_ix (by omega)] at hz
            refine ⟨rfl, ?_, fun _ => ?_⟩
            · rw [show (0 + (i : Int)).toNat = i by omega, ← dgN_ix (by omega)]; rfl
            · have := dgN_ix (l := l) (k := i) (by omega)
              have := (ix_lt (l.getD i 0)).1
              unfold ix at this
              omega
          · walk_at "run1"
            rename_i hlt
            exact ⟨rfl, by rw [dgN_end (by omega)]; rfl, fun q => by omega⟩
        · rintro σ H1 ⟨rfl, rfl, hp⟩
          walk_at "run1"
          exact ⟨rfl, ⟨_, _, rfl⟩, fun j hj hj2 => by
            rcases Nat.lt_or_ge j i with q | q
            · exact ha j q hj2
            · obtain rfl : j = i := by omega
              exact hp hj2⟩
      · rintro σ H' ⟨rfl, ⟨v3, v4, rfl⟩, ha⟩
        have ha' : ∀ c ∈ l, c ∈ al := fun c hc => by
          obtain ⟨j, hj, rfl⟩ := List.getElem_of_mem hc
          have z := ha j (by have : (11 : Int).toNat = 11 := rfl; omega) hj
          rw [dgN_at (List.getElem?_eq_getElem hj)] at z
          by_cases q : l[j] ∈ al
          · exact q
          · have := ix_neg.mpr q; omega
        walk_at "run1"
        · rename_i e
          rw [Int.toNat_natCast] at e
          exact k2 fun q => q.2.2 ((rep_iff l).mp e)
        · walk_at "run1"
          rename_i e
          rw [Int.toNat_natCast] at e
          have nl := (isName_of (by omega) ha').mpr fun q => e ((rep_iff l).mpr q)
          have := k1 nl
          rw [nameW_sum nl.1.2] at this
          exact this
def sp__law_name (K : PySem.W.Frag) (_ : Ex) : Sp := S1 fun a H Q _ => ∃ w : Int, a = .int w ∧ HasName w (fun l => Q (.str (tx l)) H) (Q .non H)
theorem pow_step {i : Nat} (h : i < 11) : (if (40 : Int) ^ (10 - i) / 40 > 1 then (40 : Int) ^ (10 - i) / 40 else 1) = 40 ^ (10 - (i + 1)) := by
  have : ∀ i : Nat, i < 11 → (if (40 : Int) ^ (10 - i) / 40 > 1 then (40 : Int) ^ (10 - i) / 40 else 1) = 40 ^ (10 - (i + 1)) := by decide +kernel
  exact this i h
def t__law_name (K : PySem.W.Frag) (C : Ex) (E : XK) : TS :=
  tSeq (tAsg (tC (.str "abcdefghijklmnopqrstuvwxyz0123456789._-")) (gName 1))
  (tSeq (tIfS (tOr (tTest (tOp (uLt K) (tVar 0) (tC (.int 0)))) (tTest (tOp (uGe K) (tVar 0) (tOp (uPow) (tC (.int 40)) (tC (.int 11)))))) (tRet (tC .non)) (tNext))
  (tSeq (tAsg (tC (.str "")) (gName 2))
  (tSeq (tAsg (tOp (uPow) (tC (.int 40)) (tC (.int 10))) (gName 3))
  (tSeq (tFor (iRng1 (tCons (tC (.int 11)) (tNil))) (gName 4)
  (tSeq (tAsg (tOp (uMod) (tOp (uDiv) (tVar 0) (tVar 3)) (tC (.int 40))) (gName 5))
  (tSeq (tAsg (tCB (uMax) (tCons (tC (.int 1)) (tCons (tOp (uDiv) (tVar 3) (tC (.int 40))) (tNil)))) (gName 3))
  (tIfS (tTest (tOp (uGt) (tVar 5) (tC (.int 0)))) (tSeq (tIfS (tTest (tOp (uLt K) (tCB (uLen K) (tCons (tVar 2) (tNil))) (tVar 4))) (tRet (tC .non)) (tNext))
  (tAsg (tOp (uAdd K) (tVar 2) (tOp (uIx K) (tVar 1) (tOp (uSub) (tVar 5) (tC (.int 1))))) (gName 2))) (tNext)))))
  (tSeq (tIfS (tTest (tOp (uEq K) (tVar 2) (tOp (uMul) (tC (.str ".")) (tCB (uLen K) (tCons (tVar 2) (tNil)))))) (tRet (tC .non)) (tNext))
  (tRet (tVar 2)))))))
theorem pure__law_name {K : PySem.W.Frag} {C : Ex} {vs : List V} {H : Hp} {Q : VK} {E : XK} (F : Fa K C) (h : sp__law_name K C vs H Q E) : t__law_name K C E { nx := fun _ H' => Q .non H', rt := Q } (start ["_law_word_here", "_law_chars", "_law_name_here", "_law_power", "_law_k", "_law_digit"] vs) H := by
  obtain ⟨a, rfl, w, rfl, k1, k2⟩ := h
  unfold t__law_name
  rw [al_str, dot_str, emp_str]
  walk_at "run1"
  · refine k2 fun l hl e => ?_
    obtain ⟨_, a, _⟩ := name_dg hl
    omega
  · walk_at "run1"
    · rename_i h0 h1
      refine k2 fun l hl e => ?_
      obtain ⟨_, _, b⟩ := name_dg hl
      rw [e11] at h1
      omega
    · walk_at "run1"
      rename_i h0 h1
      rw [e11] at h1
      have hw : w / 40 ^ 11 = 0 := Int.ediv_eq_zero_of_lt (by omega) (by omega)
      refine f_range (fun i σ H' => H' = H ∧ ∃ l v4 v5, Told w l i ∧ σ = [some (.int w), some (.str (tx al)), some (.str (tx l)), some (.int (40 ^ (10 - i))), v4, v5]) ⟨rfl, [], none, none, .zero, rfl⟩ ?_ ?_
      · rintro i σ H' hi ⟨rfl, l, v4, v5, t, rfl⟩
        have hi' : i < 11 := hi
        have hp := pow40 (10 - i)
        have hq : (40 : Int) ^ (10 - i) < 2 ^ 200 := by
          have : ∀ i : Nat, i < 11 → (40 : Int) ^ (10 - i) < 2 ^ 200 := by decide +kernel
          exact this i hi'
        have lim := dgW_lim w i
        have hlen := t.len
        have hal : al.length = 39 := rfl
        have hd : w / 40 ^ (10 - i) % 40 = dgW w i := rfl
        walk_at "run1"
        · rename_i h3 h4
          exact k2 fun m hm => t.no (by omega) hi' (by omega) hm
        · walk_at "run1"
          rename_i h3 h4
          exact ⟨rfl, _, _, _, t.put (by omega) (by omega), by rw [pow_step hi']; rfl⟩
        · walk_at "run1"
          rename_i h3
          exact ⟨rfl, _, _, _, t.skip (by omega), by rw [pow_step hi']; rfl⟩
      · rintro σ H' ⟨rfl, l, v4, v5, t, rfl⟩
        rw [e11] at t
        have hl11 := t.len
        walk_at "run1"
        · rename_i e
          rw [Int.toNat_natCast] at e
          refine k2 fun m hm q => ?_
          rw [t.only hm q] at hm
          exact hm.2.2 ((rep_iff l).mp e)
        · walk_at "run1"
          rename_i e
          rw [Int.toNat_natCast] at e
          exact k1 l ((isName_of hl11 t.all).mpr fun q => e ((rep_iff l).mpr q)) (t.yes hw)
def toldV (l : List Nat) : List V := if isName l then [.int 1, .int (nameW l)] else [.int 0, .bl true]
def sp__law_told_word (K : PySem.W.Frag) (_ : Ex) : Sp := S1 fun a H Q _ => ∃ l, a = .str (tx l) ∧ l.length ≤ 1000 ∧ ∀ p, H p = none → ∀ H', Same H H' → H' p = some (.tup (toldV l)) → Q (.ref p) H'
def t__law_told_word (K : PySem.W.Frag) (C : Ex) (E : XK) : TS :=
  tSeq (uTryAs K (.ref C.BadName) 2 (fun W => tAsg (uCall (sp_name_word K C) W (tCons (tVar 0) (tNil))) (gName 1)) (fun a cls d => tRet (tTup (tCons (tC (.int 0)) (tCons (tAndV (tCB (uIsE K a cls d) (tCons (tVar 2) (tCons (tC (.ref C.LaminaError)) (tNil)))) (tNotV (tCB (uIsE K a cls d) (tCons (tVar 2) (tCons (tC (.ref C.NotValid)) (tNil)))))) (tNil))))) (WB E))
  (tRet (tTup (tCons (tC (.int 1)) (tCons (tVar 1) (tNil)))))
theorem pure__law_told_word {K : PySem.W.Frag} {C : Ex} {vs : List V} {H : Hp} {Q : VK} {E : XK} (F : Fa K C) (h : sp__law_told_word K C vs H Q E) : t__law_told_word K C E { nx := fun _ H' => Q .non H', rt := Q } (start ["_law_name_here", "_law_word_here", "e"] vs) H := by
  obtain ⟨a, rfl, l, rfl, hl, k⟩ := h
  unfold t__law_told_word
  walk_at "run1"
  refine w_S1 ⟨l, rfl, hl, fun hn => ?_, fun hn => ?_⟩
  · walk_at "run1"
    rename_i p hp
    exact k p hp _ (same_new hp) (by rw [upd_same]; unfold toldV; rw [if_pos hn])
  · walk_at "run1"
    rename_i a ha p hp
    exact k p hp _ (same_new hp) (by rw [upd_same]; unfold toldV; rw [if_neg hn]; rfl)
def sp__law_told_name (K : PySem.W.Frag) (_ : Ex) : Sp := S1 fun a H Q _ => ∃ w : Int, a = .int w ∧
  HasName w (fun l => ∀ p, H p = none → ∀ H', Same H H' → H' p = some (.tup [.int 1, .str (tx l)]) → Q (.ref p) H') (∀ p, H p = none → ∀ H', Same H H' → H' p = some (.tup [.int 0, .bl true]) → Q (.ref p) H')
def t__law_told_name (K : PySem.W.Frag) (C : Ex) (E : XK) : TS :=
  tSeq (uTryAs K (.ref C.BadName) 2 (fun W => tAsg (uCall (sp_word_name K C) W (tCons (tVar 0) (tNil))) (gName 1)) (fun a cls d => tRet (tTup (tCons (tC (.int 0)) (tCons (tAndV (tCB (uIsE K a cls d) (tCons (tVar 2) (tCons (tC (.ref C.LaminaError)) (tNil)))) (tNotV (tCB (uIsE K a cls d) (tCons (tVar 2) (tCons (tC (.ref C.NotValid)) (tNil)))))) (tNil))))) (WB E))
  (tRet (tTup (tCons (tC (.int 1)) (tCons (tVar 1) (tNil)))))
theorem pure__law_told_name {K : PySem.W.Frag} {C : Ex} {vs : List V} {H : Hp} {Q : VK} {E : XK} (F : Fa K C) (h : sp__law_told_name K C vs H Q E) : t__law_told_name K C E { nx := fun _ H' => Q .non H', rt := Q } (start ["_law_word_here", "_law_name_here", "e"] vs) H := by
  obtain ⟨a, rfl, w, rfl, k1, k2⟩ := h
  unfold t__law_told_name
  walk_at "run1"
  refine w_S1 ⟨w, rfl, fun H' hs => ⟨fun l hl e => ?_, fun hn => ?_⟩⟩
  · walk_at "run1"
    rename_i p hp
    exact k1 l hl e p (hs.free hp) _ (same_updN hs hp) upd_same
  · walk_at "run1"
    rename_i a ha p hp
    exact k2 hn p (hs.free hp) _ (same_updN hs hp) upd_same
theorem told_no {K : PySem.W.Frag} {H : Hp} {p q : Addr} {Q : VK} (h1 : SqT K H p [.int 0, .bl true]) (h2 : SqT K H q [.int 0, .bl true]) (k : Q (.bl true) H) : uEq K (.ref p) (.ref q) H Q :=
  w_eqP ⟨.tuple [.int 0, .bool true], .tuple [.int 0, .bool true], .tup h1 (.cons (.int 0) (.cons (.bl true) .nil)), .tup h2 (.cons (.int 0) (.cons (.bl true) .nil)), ⟨by decide +kernel, by decide +kernel⟩, by decide +kernel, by
    rw [show PyData.eqv (.tuple [.int 0, .bool true]) (.tuple [.int 0, .bool true]) = true by decide +kernel]; exact k⟩
def sp__law_right_word (K : PySem.W.Frag) (_ : Ex) : Sp := S1 fun a H Q _ => ∃ l, a = .str (tx l) ∧ l.length ≤ 1000 ∧ ∀ H', Same H H' → Q (.bl true) H'
def t__law_right_word (K : PySem.W.Frag) (C : Ex) (E : XK) : TS :=
  tSeq (tAsg (uCall (sp__law_word K C) (WB E) (tCons (tVar 0) (tNil))) (gName 1))
  (tSeq (tAsg (uCall (sp__law_told_word K C) (WB E) (tCons (tVar 0) (tNil))) (gName 2))
  (tSeq (tIfS (tTest (tOp (uIs) (tVar 1) (tC .non))) (tRet (tOp (uEq K) (tVar 2) (tTup (tCons (tC (.int 0)) (tCons (tC (.bl true)) (tNil)))))) (tNext))
  (tRet (tAndV (tOp (uEq K) (tOp (uIx K) (tVar 2) (tC (.int 0))) (tC (.int 1))) (tAndV (tCB (uIsi K .int) (tCons (tOp (uIx K) (tVar 2) (tC (.int 1))) (tCons (tC (.ty "int")) (tNil)))) (tAndV (tNotV (tCB (uIsi K .bool) (tCons (tOp (uIx K) (tVar 2) (tC (.int 1))) (tCons (tC (.ty "bool")) (tNil))))) (tOp (uEq K) (tOp (uIx K) (tVar 2) (tC (.int 1))) (tVar 1))))))))
theorem pure__law_right_word {K : PySem.W.Frag} {C : Ex} {vs : List V} {H : Hp} {Q : VK} {E : XK} (F : Fa K C) (h : sp__law_right_word K C vs H Q E) : t__law_right_word K C E { nx := fun _ H' => Q .non H', rt := Q } (start ["_law_name_here", "_law_due", "_law_told"] vs) H := by
  obtain ⟨a, rfl, l, rfl, hl, k⟩ := h
  unfold t__law_right_word
  walk_at "run1"
  refine w_S1 ⟨l, rfl, hl, fun hn => ?_, fun hn => ?_⟩
  · walk_at "run1"
    refine w_S1 ⟨l, rfl, hl, fun p hp H' hs he => ?_⟩
    unfold toldV at he
    rw [if_pos hn] at he
    walk_at "run1"
    rw [decide_eq_true rfl]
    exact k _ hs
  · walk_at "run1"
    refine w_S1 ⟨l, rfl, hl, fun p hp H' hs he => ?_⟩
    unfold toldV at he
    rw [if_neg hn] at he
    walk_at "run1"
    rename_i q hq
    refine told_no (SqT.of (upd_old he hq)) (SqT.of upd_same) ?_
    exact k _ (same_updN hs hq)
def sp__law_right_name (K : PySem.W.Frag) (_ : Ex) : Sp := S1 fun a H Q _ => ∃ w : Int, a = .int w ∧ ∀ H', Same H H' → Q (.bl true) H'
def t__law_right_name (K : PySem.W.Frag) (C : Ex) (E : XK) : TS :=
  tSeq (tAsg (uCall (sp__law_name K C) (WB E) (tCons (tVar 0) (tNil))) (gName 1))
  (tSeq (tAsg (uCall (sp__law_told_name K C) (WB E) (tCons (tVar 0) (tNil))) (gName 2))
  (tSeq (tIfS (tTest (tOp (uIs) (tVar 1) (tC .non))) (tRet (tOp (uEq K) (tVar 2) (tTup (tCons (tC (.int 0)) (tCons (tC (.bl true)) (tNil)))))) (tNext))
  (tRet (tAndV (tOp (uEq K) (tOp (uIx K) (tVar 2) (tC (.int 0))) (tC (.int 1))) (tAndV (tCB (uIsi K .str) (tCons (tOp (uIx K) (tVar 2) (tC (.int 1))) (tCons (tC (.ty "str")) (tNil)))) (tOp (uEq K) (tOp (uIx K) (tVar 2) (tC (.int 1))) (tVar 1)))))))
theorem pure__law_right_name {K : PySem.W.Frag} {C : Ex} {vs : List V} {H : Hp} {Q : VK} {E : XK} (F : Fa K C) (h : sp__law_right_name K C vs H Q E) : t__law_right_name K C E { nx := fun _ H' => Q .non H', rt := Q } (start ["_law_word_here", "_law_due", "_law_told"] vs) H := by
  obtain ⟨a, rfl, w, rfl, k⟩ := h
  unfold t__law_right_name
  walk_at "run1"
  refine w_S1 ⟨w, rfl, fun l hn e => ?_, fun hn => ?_⟩
  · walk_at "run1"
    refine w_S1 ⟨w, rfl, fun m hm e2 p hp H' hs he => ?_, fun q => absurd e (q l hn)⟩
    obtain rfl : m = l := dgN_ext hm.1.2 hn.1.2 hm.2.1 hn.2.1 fun k hk => by rw [← (name_dg hm).1 k hk, ← (name_dg hn).1 k hk, e, e2]
    walk_at "run1"
    rw [decide_eq_true rfl]
    exact k _ hs
  · walk_at "run1"
    refine w_S1 ⟨w, rfl, fun m hm e2 => absurd e2 (hn m hm), fun _ p hp H' hs he => ?_⟩
    walk_at "run1"
    rename_i q hq
    refine told_no (SqT.of (upd_old he hq)) (SqT.of upd_same) ?_
    exact k _ (same_updN hs hq)
theorem join_one : ∀ cs : List Nat, Txt.join (tx []) (cs.map fun c => tx [c]) = tx cs := by
  intro cs
  unfold Txt.join
  rw [PySem.StrLaws.glued_eq_join]
  induction cs with
  | nil => rfl
  | cons c cs ih =>
    cases cs with
    | nil => rfl
    | cons d r =>
      show tx [c] ++ tx [] ++ Str.join (tx []) ((d :: r).map fun c => tx [c]) = _
      rw [ih, tx_app, tx_app]
      rfl
theorem w_law_word {K : PySem.W.Frag} {C : Ex} {H : Hp} {Q : VK} {E : XK} {l : List Nat} (hl : l.length ≤ 1000) (h : ∀ x, (x = V.non ∨ ∃ n : Int, x = .int n) → Q x H) : sp__law_word K C [.str (tx l)] H Q E :=
  w_S1 ⟨l, rfl, hl, fun _ => h _ (.inr ⟨_, rfl⟩), fun _ => h _ (.inl rfl)⟩
theorem w_law_name {K : PySem.W.Frag} {C : Ex} {H : Hp} {Q : VK} {E : XK} {w : Int} (h1 : ∀ l, isName l → Q (.str (tx l)) H) (h2 : Q .non H) : sp__law_name K C [.int w] H Q E := w_S1 ⟨w, rfl, fun l hl _ => h1 l hl, fun _ => h2⟩
abbrev sp_law (K : PySem.W.Frag) (_ : Ex) : Sp := spLaw K
theorem sum_ones : ∀ cs : List Nat, ((cs.map fun c => tx [c]).map (·.length)).sum = cs.length
  | [] => rfl
  | c :: cs => by
    rw [List.map_cons, List.map_cons, List.sum_cons, sum_ones cs, tx_len, List.length_cons, List.length_cons, List.length_nil]
    omega
def t_law (K : PySem.W.Frag) (C : Ex) (E : XK) : TS :=
  tSeq (tAsg (uCall (sp__law_tape K C) (WB E) (tCons (tVar 0) (tNil))) (gName 1))
  (tSeq (tAsg (tOp (uMod) (uCall (sp__law_at K C) (WB E) (tCons (tVar 1) (tCons (tC (.int 0)) (tNil)))) (tC (.int 14))) (gName 2))
  (tSeq (tAsg (tBM K "str" (uJoin K) (tC (.str "")) (tCons (tLc (iRng1 (tCons (tVar 2) (tNil))) (gName 3) (tYes) (uCall (sp__law_char K C) (fun _ _ _ _ => False) (tCons (uCall (sp__law_at K C) (fun _ _ _ _ => False) (tCons (tVar 1) (tCons (tOp (uAdd K) (tC (.int 2)) (tVar 3)) (tNil)))) (tNil))) [3]) (tNil))) (gName 4))
  (tCut (tIfS (tTest (tOp (uEq K) (tOp (uMod) (uCall (sp__law_at K C) (WB E) (tCons (tVar 1) (tCons (tC (.int 1)) (tNil)))) (tC (.int 5))) (tC (.int 4)))) (tAsg (tOp (uMul) (tC (.str ".")) (tVar 2)) (gName 4)) (tNext))
  (tSeq (tIfS (tNot (uTru K (uCall (sp__law_right_word K C) (WB E) (tCons (tVar 4) (tNil))))) (tRet (tC (.bl false))) (tNext))
  (tSeq (tAsg (tC (.int 0)) (gName 5))
  (tSeq (tAsg (tOp (uAdd K) (tC (.int 1)) (tOp (uMod) (uCall (sp__law_at K C) (WB E) (tCons (tVar 1) (tCons (tC (.int 16)) (tNil)))) (tC (.int 12)))) (gName 6))
  (tSeq (tFor (iRng1 (tCons (tC (.int 12)) (tNil))) (gName 3)
  (tSeq (tAsg (tOp (uMod) (tCB (uInt) (tCons (uCall (sp__law_at K C) (WB E) (tCons (tVar 1) (tCons (tOp (uAdd K) (tC (.int 18)) (tVar 3)) (tNil)))) (tNil))) (tC (.int 40))) (gName 7))
  (tCut (tIfS (tAnd (tTest (tOp (uGe K) (tVar 3) (tVar 6))) (tTest (tOp (uEq K) (tOp (uMod) (uCall (sp__law_at K C) (WB E) (tCons (tVar 1) (tCons (tC (.int 17)) (tNil)))) (tC (.int 2))) (tC (.int 0))))) (tAsg (tC (.int 0)) (gName 7)) (tNext))
  (tIfS (tOr (tTest (tOp (uLt K) (tVar 3) (tC (.int 11)))) (tTest (tOp (uEq K) (tOp (uMod) (uCall (sp__law_at K C) (WB E) (tCons (tVar 1) (tCons (tC (.int 17)) (tNil)))) (tC (.int 9))) (tC (.int 8))))) (tAsg (tOp (uAdd K) (tOp (uMul) (tVar 5) (tC (.int 40))) (tVar 7)) (gName 5)) (tNext)))))
  (tSeq (tAsg (uCall (sp__law_word K C) (WB E) (tCons (tVar 4) (tNil))) (gName 8))
  (tCut (tIfS (tTest (tOp (uIs) (tVar 8) (tC .non))) (tAsg (tVar 5) (gName 8)) (tNext))
  (tSeq (tFor (iList K (tLst (tCons (tVar 5) (tCons (tVar 8) (tCons (tOp (uAdd K) (tVar 8) (tC (.int 1))) (tCons (tOp (uSub) (tVar 8) (tC (.int 1))) (tCons (tOp (uSub) (tOp (uPow) (tC (.int 40)) (tC (.int 11))) (tC (.int 1))) (tCons (tOp (uPow) (tC (.int 40)) (tC (.int 11))) (tCons (tC (.int 0)) (tCons (tOp (uDiv) (tVar 5) (tC (.int 40))) (tNil))))))))))) (gName 9)
  (tSeq (tIfS (tNot (uTru K (uCall (sp__law_right_name K C) (WB E) (tCons (tVar 9) (tNil))))) (tRet (tC (.bl false))) (tNext))
  (tSeq (tAsg (uCall (sp__law_name K C) (WB E) (tCons (tVar 9) (tNil))) (gName 10))
  (tIfS (tAnd (tTest (tOp (uIsnt) (tVar 10) (tC .non))) (tNot (uTru K (uCall (sp__law_right_word K C) (WB E) (tCons (tVar 10) (tNil)))))) (tRet (tC (.bl false))) (tNext)))))
  (tRet (uCall (sp__law_right_word K C) (WB E) (tCons (tVar 4) (tNil))))))))))))))
theorem pure_law {K : PySem.W.Frag} {C : Ex} {vs : List V} {H : Hp} {Q : VK} {E : XK} (F : Fa K C) (h : sp_law K C vs H Q E) : t_law K C E { nx := fun _ H' => Q .non H', rt := Q } (start ["_law_script", "_law_tape_here", "_law_size", "_law_k", "_law_name_here", "_law_word_here", "_law_count", "_law_digit", "_law_due", "_law_one", "_law_back"] vs) H := by
  obtain ⟨a, rfl, p, ns, rfl, hS, hn, k⟩ := h
  unfold t_law
  rw [dot_str, emp_str]
  walk_at "run1"
  refine w_S1 ⟨p, ns, rfl, hS, hn, fun H' q ts hs hq hl hT => ?_⟩
  have hq' : SqL K H' q (ts.map V.int) := SqL.of hl
  have at0 := hT.at 0
  walk_at "run1"
  refine l_range (fun D i H1 => ∃ cs : List Nat, cs.length = i ∧ Same H' H1 ∧ H1 D = some (.lst ((cs.map fun c => tx [c]).map V.str))) (fun D hD => ⟨[], rfl, same_new hD, upd_same⟩) ?_ ?_
  · rintro D i H1 hD hi ⟨cs, hc, hs1, h1⟩
    have hq1 := hs1.seq hq'
    walk_at "run1"
    refine ⟨rfl, ?_⟩
    walk_at "run1"
    refine w_S1 ⟨_, rfl, (hT.at _).1, fun c => ?_⟩
    refine ⟨_, h1, by rw [List.length_map, List.length_map]; exact lt_line (by omega), cs ++ [c], by simp [hc], same_upd hs1 hD, ?_⟩
    rw [upd_same, List.map_append, List.map_append]
    rfl
  · rintro D H1 hD ⟨cs, hc, hs1, h1⟩
    have hcl : cs.length < 14 := by omega
    have hq1 := hs1.seq hq'
    walk_at "run1"
    refine ⟨cs.map fun c => tx [c], .inl (SqL.of h1), by rw [sum_ones, tx_len, List.length_map]; simp only [List.length_nil]; omega, ?_⟩
    rw [join_one]
    walk_at "run1"
    refine w_cut (fun σ H2 => H2 = H1 ∧ ∃ l : List Nat, l.length ≤ 1000 ∧ σ = [some (.ref p), some (.ref q), some (.int (ts.getD 0 0 % 14)), none, some (.str (tx l)), none, none, none, none, none, none]) ?_ ?_
    · walk_at "run1"
      · exact ⟨rfl, _, by rw [List.length_replicate]; omega, rfl⟩
      · walk_at "run1"
        exact ⟨rfl, cs, by omega, rfl⟩
    · rintro σ H2 ⟨rfl, l, hl1, rfl⟩
      walk_at "run1"
      refine w_S1 ⟨l, rfl, hl1, fun H3 hs3 => ?_⟩
      have hq3 := hs3.seq hq1
      have at17 := hT.at 17
      walk_at "run1"
      refine f_range (fun i σ H4 => H4 = H3 ∧ ∃ (w c : Int) (v3 v7 : Option V), 0 ≤ w ∧ σ = [some (.ref p), some (.ref q), some (.int (ts.getD 0 0 % 14)), v3, some (.str (tx l)), some (.int w), some (.int c), v7, none, none, none]) ⟨rfl, 0, _, none, none, Int.le_refl 0, rfl⟩ ?_ ?_
      · rintro i σ H4 hi ⟨rfl, w, c, v3, v7, hw, rfl⟩
        walk_at "run1"
        refine w_cut (fun σ H5 => H5 = H4 ∧ ∃ z : Int, 0 ≤ z ∧ σ = [some (.ref p), some (.ref q), some (.int (ts.getD 0 0 % 14)), some (.int (0 + (i : Int))), some (.str (tx l)), some (.int w), some (.int c), some (.int z), none, none, none]) ?_ ?_
        · have hz := (hT.at (18 + (0 + (i : Int))).toNat).1
          generalize ts.getD (18 + (0 + (i : Int))).toNat 0 = z at *
          walk_at "run1"
          · exact ⟨rfl, 0, Int.le_refl 0, rfl⟩
          · walk_at "run1"
            exact ⟨rfl, z % 40, by omega, rfl⟩
          · walk_at "run1"
            exact ⟨rfl, z % 40, by omega, rfl⟩
        · rintro σ H5 ⟨rfl, z, hz, rfl⟩
          walk_at "run1"
          · exact ⟨rfl, _, c, _, _, by omega, rfl⟩
          · walk_at "run1"
            · exact ⟨rfl, _, c, _, _, by omega, rfl⟩
            · walk_at "run1"
              exact ⟨rfl, _, c, _, _, hw, rfl⟩
      · rintro σ H4 ⟨rfl, w, c, v3, v7, hw, rfl⟩
        walk_at "run1"
        refine w_law_word hl1 fun x hx => ?_
        walk_at "run1"
        refine w_cut (fun σ H5 => H5 = H4 ∧ ∃ z : Int, σ = [some (.ref p), some (.ref q), some (.int (ts.getD 0 0 % 14)), v3, some (.str (tx l)), some (.int w), some (.int c), v7, some (.int z), none, none]) ?_ ?_
        · rcases hx with rfl | ⟨z, rfl⟩
          · walk_at "run1"
            exact ⟨rfl, _, rfl⟩
          · walk_at "run1"
            exact ⟨rfl, _, rfl⟩
        · rintro σ H5 ⟨rfl, z, rfl⟩
          walk_at "run1"
          rename_i L hL
          refine f_list (xs := [.int w, .int z, .int (z + 1), .int (z - 1), .int (40 ^ (11 : Int).toNat - 1), .int (40 ^ (11 : Int).toNat), .int 0, .int (w / 40)])
            (fun i σ H6 => Same (upd H5 L (.lst [.int w, .int z, .int (z + 1), .int (z - 1), .int (40 ^ (11 : Int).toNat - 1), .int (40 ^ (11 : Int).toNat), .int 0, .int (w / 40)])) H6 ∧ ∃ v9 v10, σ = [some (.ref p), some (.ref q), some (.int (ts.getD 0 0 % 14)), v3, some (.str (tx l)), some (.int w), some (.int c), v7, some (.int z), v9, v10])
            ⟨L2.Same.refl _, none, none, rfl⟩ (by rintro i σ H6 _ ⟨s6, _⟩; exact SqL.of (s6 _ _ upd_same)) ?_ ?_
          · rintro i x σ H6 hx ⟨s6, v9, v10, rfl⟩
            have hm := List.mem_of_getElem? hx
            have ex : ∃ y : Int, x = .int y := by
              simp only [List.mem_cons, List.not_mem_nil, or_false] at hm
              rcases hm with rfl | rfl | rfl | rfl | rfl | rfl | rfl | rfl <;> exact ⟨_, rfl⟩
            obtain ⟨y, rfl⟩ := ex
            walk_at "run1"
            refine w_S1 ⟨y, rfl, fun H7 s7 => ?_⟩
            walk_at "run1"
            refine w_law_name (fun m hm => ?_) ?_
            · walk_at "run1"
              refine w_S1 ⟨m, rfl, by have := hm.1.2; omega, fun H8 s8 => ?_⟩
              walk_at "run1"
              exact ⟨(s6.trans s7).trans s8, _, _, rfl⟩
            · walk_at "run1"
              exact ⟨s6.trans s7, _, _, rfl⟩
          · rintro σ H6 ⟨s6, v9, v10, rfl⟩
            walk_at "run1"
            refine w_S1 ⟨l, rfl, hl1, fun H7 s7 => ?_⟩
            exact k _
def topS (i : Nat) : Stmt := PySem.Challenge.pw_laminae_k01_name_words.main.body.getD i (.Pass ⟨0, 0, 0, 0⟩)
abbrev s_is_word : Stmt := topS 8
theorem sc_is_word : FnScope ["value"] ["value"] (defScope s_is_word) := ⟨rfl, rfl, rfl, by decide +kernel, rfl, by decide +kernel, by decide +kernel⟩
abbrev s_name_word : Stmt := topS 9
theorem sc_name_word : FnScope ["name", "word", "points", "char", "index", "_"] ["name"] (defScope s_name_word) := ⟨rfl, rfl, rfl, by decide +kernel, rfl, by decide +kernel, by decide +kernel⟩
abbrev s_word_name : Stmt := topS 10
theorem sc_word_name : FnScope ["word", "digits", "rest", "_", "name", "ended", "digit"] ["word"] (defScope s_word_name) := ⟨rfl, rfl, rfl, by decide +kernel, rfl, by decide +kernel, by decide +kernel⟩
abbrev s__law_tape : Stmt := topS 12
theorem sc__law_tape : FnScope ["_law_script", "_law_tape_here", "_law_k", "_law_value", "_law_step"] ["_law_script"] (defScope s__law_tape) := ⟨rfl, rfl, rfl, by decide +kernel, rfl, by decide +kernel, by decide +kernel⟩
abbrev s__law_at : Stmt := topS 13
theorem sc__law_at : FnScope ["_law_tape_here", "_law_k"] ["_law_tape_here", "_law_k"] (defScope s__law_at) := ⟨rfl, rfl, rfl, by decide +kernel, rfl, by decide +kernel, by decide +kernel⟩
abbrev s__law_char : Stmt := topS 14
theorem sc__law_char : FnScope ["_law_number", "_law_chars"] ["_law_number"] (defScope s__law_char) := ⟨rfl, rfl, rfl, by decide +kernel, rfl, by decide +kernel, by decide +kernel⟩
abbrev s__law_word : Stmt := topS 15
theorem sc__law_word : FnScope ["_law_name_here", "_law_chars", "_law_word_here", "_law_k", "_law_digit"] ["_law_name_here"] (defScope s__law_word) := ⟨rfl, rfl, rfl, by decide +kernel, rfl, by decide +kernel, by decide +kernel⟩
abbrev s__law_name : Stmt := topS 16
theorem sc__law_name : FnScope ["_law_word_here", "_law_chars", "_law_name_here", "_law_power", "_law_k", "_law_digit"] ["_law_word_here"] (defScope s__law_name) := ⟨rfl, rfl, rfl, by decide +kernel, rfl, by decide +kernel, by decide +kernel⟩
abbrev s__law_told_word : Stmt := topS 17
theorem sc__law_told_word : FnScope ["_law_name_here", "_law_word_here", "e"] ["_law_name_here"] (defScope s__law_told_word) := ⟨rfl, rfl, rfl, by decide +kernel, rfl, by decide +kernel, by decide +kernel⟩
abbrev s__law_told_name : Stmt := topS 18
theorem sc__law_told_name : FnScope ["_law_word_here", "_law_name_here", "e"] ["_law_word_here"] (defScope s__law_told_name) := ⟨rfl, rfl, rfl, by decide +kernel, rfl, by decide +kernel, by decide +kernel⟩
abbrev s__law_right_word : Stmt := topS 19
theorem sc__law_right_word : FnScope ["_law_name_here", "_law_due", "_law_told"] ["_law_name_here"] (defScope s__law_right_word) := ⟨rfl, rfl, rfl, by decide +kernel, rfl, by decide +kernel, by decide +kernel⟩
abbrev s__law_right_name : Stmt := topS 20
theorem sc__law_right_name : FnScope ["_law_word_here", "_law_due", "_law_told"] ["_law_word_here"] (defScope s__law_right_name) := ⟨rfl, rfl, rfl, by decide +kernel, rfl, by decide +kernel, by decide +kernel⟩
abbrev s_law : Stmt := topS 21
theorem sc_law : FnScope ["_law_script", "_law_tape_here", "_law_size", "_law_k", "_law_name_here", "_law_word_here", "_law_count", "_law_digit", "_law_due", "_law_one", "_law_back"] ["_law_script"] (defScope s_law) := ⟨rfl, rfl, rfl, by decide +kernel, rfl, by decide +kernel, by decide +kernel⟩
structure Adr where
  ex : Ex
  f_is_word : Addr
  d_is_word : FuncData
  f_name_word : Addr
  d_name_word : FuncData
  f_word_name : Addr
  d_word_name : FuncData
  f__law_tape : Addr
  d__law_tape : FuncData
  f__law_at : Addr
  d__law_at : FuncData
  f__law_char : Addr
  d__law_char : FuncData
  f__law_word : Addr
  d__law_word : FuncData
  f__law_name : Addr
  d__law_name : FuncData
  f__law_told_word : Addr
  d__law_told_word : FuncData
  f__law_told_name : Addr
  d__law_told_name : FuncData
  f__law_right_word : Addr
  d__law_right_word : FuncData
  f__law_right_name : Addr
  d__law_right_name : FuncData
  f_law : Addr
  d_law : FuncData
structure Top (K : PySem.W.Frag) (mg : Str → Option Value) (A : Adr) : Prop where
  F_is_word : Fun K "is_word" "is_word" s_is_word A.f_is_word A.d_is_word
  b_is_word : Binds K A.d_is_word ["value"] []
  g_is_word : mg "is_word" = some (.ref A.f_is_word)
  F_name_word : Fun K "name_word" "name_word" s_name_word A.f_name_word A.d_name_word
  b_name_word : Binds K A.d_name_word ["name"] []
  g_name_word : mg "name_word" = some (.ref A.f_name_word)
  F_word_name : Fun K "word_name" "word_name" s_word_name A.f_word_name A.d_word_name
  b_word_name : Binds K A.d_word_name ["word"] []
  g_word_name : mg "word_name" = some (.ref A.f_word_name)
  F__law_tape : Fun K "_law_tape" "_law_tape" s__law_tape A.f__law_tape A.d__law_tape
  b__law_tape : Binds K A.d__law_tape ["_law_script"] []
  g__law_tape : mg "_law_tape" = some (.ref A.f__law_tape)
  F__law_at : Fun K "_law_at" "_law_at" s__law_at A.f__law_at A.d__law_at
  b__law_at : Binds K A.d__law_at ["_law_tape_here", "_law_k"] []
  g__law_at : mg "_law_at" = some (.ref A.f__law_at)
  F__law_char : Fun K "_law_char" "_law_char" s__law_char A.f__law_char A.d__law_char
  b__law_char : Binds K A.d__law_char ["_law_number"] []
  g__law_char : mg "_law_char" = some (.ref A.f__law_char)
  F__law_word : Fun K "_law_word" "_law_word" s__law_word A.f__law_word A.d__law_word
  b__law_word : Binds K A.d__law_word ["_law_name_here"] []
  g__law_word : mg "_law_word" = some (.ref A.f__law_word)
  F__law_name : Fun K "_law_name" "_law_name" s__law_name A.f__law_name A.d__law_name
  b__law_name : Binds K A.d__law_name ["_law_word_here"] []
  g__law_name : mg "_law_name" = some (.ref A.f__law_name)
  F__law_told_word : Fun K "_law_told_word" "_law_told_word" s__law_told_word A.f__law_told_word A.d__law_told_word
  b__law_told_word : Binds K A.d__law_told_word ["_law_name_here"] []
  g__law_told_word : mg "_law_told_word" = some (.ref A.f__law_told_word)
  F__law_told_name : Fun K "_law_told_name" "_law_told_name" s__law_told_name A.f__law_told_name A.d__law_told_name
  b__law_told_name : Binds K A.d__law_told_name ["_law_word_here"] []
  g__law_told_name : mg "_law_told_name" = some (.ref A.f__law_told_name)
  F__law_right_word : Fun K "_law_right_word" "_law_right_word" s__law_right_word A.f__law_right_word A.d__law_right_word
  b__law_right_word : Binds K A.d__law_right_word ["_law_name_here"] []
  g__law_right_word : mg "_law_right_word" = some (.ref A.f__law_right_word)
  F__law_right_name : Fun K "_law_right_name" "_law_right_name" s__law_right_name A.f__law_right_name A.d__law_right_name
  b__law_right_name : Binds K A.d__law_right_name ["_law_word_here"] []
  g__law_right_name : mg "_law_right_name" = some (.ref A.f__law_right_name)
  F_law : Fun K "law" "law" s_law A.f_law A.d_law
  b_law : Binds K A.d_law ["_law_script"] []
  g_law : mg "law" = some (.ref A.f_law)
  n_abs : mg "abs" = none
  n_bool : mg "bool" = none
  n_int : mg "int" = none
  n_isinstance : mg "isinstance" = none
  n_len : mg "len" = none
  n_max : mg "max" = none
  n_range : mg "range" = none
  n_reversed : mg "reversed" = none
  n_str : mg "str" = none
  k_ALPHABET : ∃ t, mg "ALPHABET" = some (.str "abcdefghijklmnopqrstuvwxyz0123456789._-" t)
  k_BASE : ∃ t, mg "BASE" = some (.int 40 t)
  k_NAME_SIZE : ∃ t, mg "NAME_SIZE" = some (.int 11 t)
  x_BadName : Exc K mg "BadName" A.ex.BadName
  x_LaminaError : Exc K mg "LaminaError" A.ex.LaminaError
  x_NotValid : Exc K mg "NotValid" A.ex.NotValid
  fa : Fa K A.ex
section
variable {P : Program} {w : World} {K : PySem.W.Frag} {mg : Str → Option Value} {base : Heap} {A : Adr}
theorem ok_is_word (T : Top K mg A) : FnOk P w K mg base (L2.CX P w) 1 A.f_is_word A.d_is_word ["value"] (sp_is_word K A.ex) := by
  refine T.F_is_word.okX sc_is_word (fun vs H Q E h => len1 h) (fun cdv Ar outer s H vs Q E hr h => ⟨t_is_word K A.ex E, ?_, pure_is_word T.fa h⟩)
  have tk : Takes (cxOf (L2.CX P w) P w K mg base ["value"] "is_word" (defScope s_is_word) A.f_is_word cdv Ar outer s H E) (WB E) := takes_of rfl rfl rfl rfl
  have hu := hu_of hr
  have hl := Nat.lt_of_succ_lt hu
  exact pss_cons (ps_if (PW.pt (pw_or (pt_not (t_tru (pe_callB (c_isi .int) (by rfl) T.n_isinstance (by decide +kernel) (pa_cons (pv 0) (pa_cons (pe_bltn rfl T.n_int (by decide +kernel) rfl) (pa_nil)))))) (pw_or1 (t_tru (pe_callB (c_isi .bool) (by rfl) T.n_isinstance (by decide +kernel) (pa_cons (pv 0) (pa_cons (pe_bltn rfl T.n_bool (by decide +kernel) rfl) (pa_nil)))))))) (pss_one (ps_ret (pe_bl))) (pss_nil))
        (pss_one (ps_ret (pe_cmpR (o_ge hl) (pv 0) (pe_int) (nomark _))))
theorem ok_name_word (T : Top K mg A) : FnOk P w K mg base (L2.CX P w) 1 A.f_name_word A.d_name_word ["name"] (sp_name_word K A.ex) := by
  refine T.F_name_word.okX sc_name_word (fun vs H Q E h => len1 h) (fun cdv Ar outer s H vs Q E hr h => ⟨t_name_word K A.ex E, ?_, pure_name_word T.fa h⟩)
  have tk : Takes (cxOf (L2.CX P w) P w K mg base ["name", "word", "points", "char", "index", "_"] "name_word" (defScope s_name_word) A.f_name_word cdv Ar outer s H E) (WB E) := takes_of rfl rfl rfl rfl
  have po : PassesOwn (model P w) (cxOf (L2.CX P w) P w K mg base ["name", "word", "points", "char", "index", "_"] "name_word" (defScope s_name_word) A.f_name_word cdv Ar outer s H E).A (cxOf (L2.CX P w) P w K mg base ["name", "word", "points", "char", "index", "_"] "name_word" (defScope s_name_word) A.f_name_word cdv Ar outer s H E).env (cxOf (L2.CX P w) P w K mg base ["name", "word", "points", "char", "index", "_"] "name_word" (defScope s_name_word) A.f_name_word cdv Ar outer s H E).xe := passes_of rfl
  have hu := hu_of hr
  have hl := Nat.lt_of_succ_lt hu
  exact pss_cons (ps_if (PW.pt (pw_or (pt_not (t_tru (pe_callB (c_isi .str) (by rfl) T.n_isinstance (by decide +kernel) (pa_cons (pv 0) (pa_cons (pe_bltn rfl T.n_str (by decide +kernel) rfl) (pa_nil)))))) (pw_or1 (pt_not (pt_chain (o_lt hl) (o_le hl) (pe_int) (pe_callB (c_len) (by rfl) T.n_len (by decide +kernel) (pa_cons (pv 0) (pa_nil))) (pe_glob rfl T.k_NAME_SIZE.choose_spec ⟨_, rfl⟩)))))) (pss_one (s_raise T.x_BadName tk)) (pss_nil))
        (pss_cons (ps_set (i := 1) sc_name_word.nd rfl (Or.inl rfl) (pe_int))
        (pss_cons (ps_set (i := 2) sc_name_word.nd rfl (Or.inl rfl) (pe_int))
        (pss_cons (ps_for po rfl (pi_str (pv 0)) (pg_name (i := 3) sc_name_word.nd rfl (Or.inl rfl))
        (pss_cons (ps_set (i := 4) sc_name_word.nd rfl (Or.inl rfl) (pe_bm PySem.F.plainAttrs_str PySem.F.slot_str_find PySem.F.type_str_find mt_findU (pe_glob rfl T.k_ALPHABET.choose_spec ⟨_, rfl⟩) (pa_cons (pv 3) (pa_nil))))
        (pss_cons (ps_if (pt_cmpR (o_lt hl) (pv 4) (pe_int) (nomark _)) (pss_one (s_raise T.x_BadName tk)) (pss_nil))
        (pss_cut (ps_if (pt_cmpR (o_eq hr.units) (pv 3) (pe_str) (nomark _)) (pss_one (ps_aug (i := 2) sc_name_word.nd rfl (Or.inl rfl) (pe_int) ip_add)) (pss_nil))
        (pss_one (ps_set (i := 1) sc_name_word.nd rfl (Or.inl rfl) (pe_op o_add (pe_op o_add (pe_op o_mul (pv 1) (pe_glob rfl T.k_BASE.choose_spec ⟨_, rfl⟩)) (pv 4)) (pe_int))))))))
        (pss_cons (ps_if (pt_cmpR (o_eq hr.units) (pv 2) (pe_callB (c_len) (by rfl) T.n_len (by decide +kernel) (pa_cons (pv 0) (pa_nil))) (nomark _)) (pss_one (s_raise T.x_BadName tk)) (pss_nil))
        (pss_cons (ps_for po rfl (pi_range1 (by rfl) T.n_range (pa_cons (pe_op o_sub (pe_glob rfl T.k_NAME_SIZE.choose_spec ⟨_, rfl⟩) (pe_callB (c_len) (by rfl) T.n_len (by decide +kernel) (pa_cons (pv 0) (pa_nil)))) (pa_nil))) (pg_name (i := 5) sc_name_word.nd rfl (Or.inl rfl))
        (pss_one (ps_set (i := 1) sc_name_word.nd rfl (Or.inl rfl) (pe_op o_mul (pv 1) (pe_glob rfl T.k_BASE.choose_spec ⟨_, rfl⟩)))))
        (pss_one (ps_ret (pv 1))))))))
theorem ok_word_name (T : Top K mg A) : FnOk P w K mg base (L2.CX P w) 2 A.f_word_name A.d_word_name ["word"] (sp_word_name K A.ex) := by
  refine T.F_word_name.okX sc_word_name (fun vs H Q E h => len1 h) (fun cdv Ar outer s H vs Q E hr h => ⟨t_word_name K A.ex E, ?_, pure_word_name T.fa h⟩)
  have tk : Takes (cxOf (L2.CX P w) P w K mg base ["word", "digits", "rest", "_", "name", "ended", "digit"] "word_name" (defScope s_word_name) A.f_word_name cdv Ar outer s H E) (WB E) := takes_of rfl rfl rfl rfl
  have po : PassesOwn (model P w) (cxOf (L2.CX P w) P w K mg base ["word", "digits", "rest", "_", "name", "ended", "digit"] "word_name" (defScope s_word_name) A.f_word_name cdv Ar outer s H E).A (cxOf (L2.CX P w) P w K mg base ["word", "digits", "rest", "_", "name", "ended", "digit"] "word_name" (defScope s_word_name) A.f_word_name cdv Ar outer s H E).env (cxOf (L2.CX P w) P w K mg base ["word", "digits", "rest", "_", "name", "ended", "digit"] "word_name" (defScope s_word_name) A.f_word_name cdv Ar outer s H E).xe := passes_of rfl
  exact pss_cons (ps_if (pt_not (t_tru (e_call (ok_is_word T) (hr.mono (by decide)) T.g_is_word T.F_is_word.kp T.b_is_word tk (pa_cons (pv 0) (pa_nil))))) (pss_one (s_raise T.x_BadName tk)) (pss_nil))
        (pss_cons (ps_set (i := 1) sc_word_name.nd rfl (Or.inl rfl) (pe_lst (pa_nil)))
        (pss_cons (ps_set (i := 2) sc_word_name.nd rfl (Or.inl rfl) (pv 0))
        (pss_cons (ps_for po rfl (pi_range1 (by rfl) T.n_range (pa_cons (pe_glob rfl T.k_NAME_SIZE.choose_spec ⟨_, rfl⟩) (pa_nil))) (pg_name (i := 3) sc_word_name.nd rfl (Or.inl rfl))
        (pss_cons (ps_expr (pe_bm PySem.F.plainAttrs_list PySem.F.slot_list_append PySem.F.type_list_append mt_append (pv 1) (pa_cons (pe_op o_mod (pv 2) (pe_glob rfl T.k_BASE.choose_spec ⟨_, rfl⟩)) (pa_nil))))
        (pss_one (ps_set (i := 2) sc_word_name.nd rfl (Or.inl rfl) (pe_op o_div (pv 2) (pe_glob rfl T.k_BASE.choose_spec ⟨_, rfl⟩))))))
        (pss_cons (ps_set (i := 4) sc_word_name.nd rfl (Or.inl rfl) (pe_str))
        (pss_cons (ps_set (i := 5) sc_word_name.nd rfl (Or.inl rfl) (pe_bl))
        (pss_cons (ps_for po rfl (pi_reversed (by rfl) T.n_reversed (pa_cons (pv 1) (pa_nil))) (pg_name (i := 6) sc_word_name.nd rfl (Or.inl rfl))
        (pss_one (ps_if (pt_cmpR (o_eq hr.units) (pv 6) (pe_int) (nomark _)) (pss_one (ps_set (i := 5) sc_word_name.nd rfl (Or.inl rfl) (pe_bl))) (pss_one (ps_if (t_tru (pv 5)) (pss_one (s_raise T.x_BadName tk)) (pss_one (ps_set (i := 4) sc_word_name.nd rfl (Or.inl rfl) (pe_op o_add (pv 4) (e_ix (pe_glob rfl T.k_ALPHABET.choose_spec ⟨_, rfl⟩) (pe_op o_sub (pv 6) (pe_int)))))))))))
        (pss_cons (ps_if (PW.pt (pw_or (pt_cmpR (o_ne hr.units) (pv 2) (pe_int) (nomark _)) (pw_or1 (pt_cmpR (o_eq hr.units) (pe_bm PySem.F.plainAttrs_str PySem.F.slot_str_count PySem.F.type_str_count mt_countU (pv 4) (pa_cons (pe_str) (pa_nil))) (pe_callB (c_len) (by rfl) T.n_len (by decide +kernel) (pa_cons (pv 4) (pa_nil))) (nomark _))))) (pss_one (s_raise T.x_BadName tk)) (pss_nil))
        (pss_one (ps_ret (pv 4))))))))))
theorem ok__law_tape (T : Top K mg A) : FnOk P w K mg base (L2.CX P w) 1 A.f__law_tape A.d__law_tape ["_law_script"] (sp__law_tape K A.ex) := by
  refine T.F__law_tape.okX sc__law_tape (fun vs H Q E h => len1 h) (fun cdv Ar outer s H vs Q E hr h => ⟨t__law_tape K A.ex E, ?_, pure__law_tape T.fa h⟩)
  have tk : Takes (cxOf (L2.CX P w) P w K mg base ["_law_script", "_law_tape_here", "_law_k", "_law_value", "_law_step"] "_law_tape" (defScope s__law_tape) A.f__law_tape cdv Ar outer s H E) (WB E) := takes_of rfl rfl rfl rfl
  have po : PassesOwn (model P w) (cxOf (L2.CX P w) P w K mg base ["_law_script", "_law_tape_here", "_law_k", "_law_value", "_law_step"] "_law_tape" (defScope s__law_tape) A.f__law_tape cdv Ar outer s H E).A (cxOf (L2.CX P w) P w K mg base ["_law_script", "_law_tape_here", "_law_k", "_law_value", "_law_step"] "_law_tape" (defScope s__law_tape) A.f__law_tape cdv Ar outer s H E).env (cxOf (L2.CX P w) P w K mg base ["_law_script", "_law_tape_here", "_law_k", "_law_value", "_law_step"] "_law_tape" (defScope s__law_tape) A.f__law_tape cdv Ar outer s H E).xe := passes_of rfl
  have hu := hu_of hr
  have hl := Nat.lt_of_succ_lt hu
  exact pss_cons (ps_set (i := 1) sc__law_tape.nd rfl (Or.inl rfl) (pe_lst (pa_nil)))
        (pss_cons (ps_for po rfl (pi_range1 (by rfl) T.n_range (pa_cons (pe_callB (c_len) (by rfl) T.n_len (by decide +kernel) (pa_cons (pv 0) (pa_nil))) (pa_nil))) (pg_name (i := 2) sc__law_tape.nd rfl (Or.inl rfl))
        (pss_cons (ps_set (i := 3) sc__law_tape.nd rfl (Or.inl rfl) (pe_callB (c_abs) (by rfl) T.n_abs (by decide +kernel) (pa_cons (pe_callTy (c_int) (by rfl) T.n_int (by decide +kernel) (pa_cons (e_ix (pv 0) (pv 2)) (pa_nil))) (pa_nil))))
        (pss_one (ps_if (pt_cmpR (o_ge hl) (pv 3) (pe_op o_pow (pe_int) (pe_int)) (nomark _)) (pss_one (ps_for po rfl (pi_range1 (by rfl) T.n_range (pa_cons (pe_int) (pa_nil))) (pg_name (i := 4) sc__law_tape.nd rfl (Or.inl rfl))
        (pss_one (ps_if (pt_cmpR (o_gt) (pv 3) (pe_int) (nomark _)) (pss_cons (ps_expr (pe_bm PySem.F.plainAttrs_list PySem.F.slot_list_append PySem.F.type_list_append mt_append (pv 1) (pa_cons (pe_op o_mod (pv 3) (pe_int)) (pa_nil))))
        (pss_one (ps_set (i := 3) sc__law_tape.nd rfl (Or.inl rfl) (pe_op o_div (pv 3) (pe_int))))) (pss_nil))))) (pss_one (ps_for po rfl (pi_range1 (by rfl) T.n_range (pa_cons (pe_int) (pa_nil))) (pg_name (i := 4) sc__law_tape.nd rfl (Or.inl rfl))
        (pss_cons (ps_set (i := 3) sc__law_tape.nd rfl (Or.inl rfl) (pe_op o_mod (pe_op o_add (pe_op o_add (pe_op o_mul (pv 3) (pe_int)) (pe_op o_mul (pe_int) (pe_op o_add (pv 2) (pe_int)))) (pe_op o_mul (pe_int) (pv 4))) (pe_int)))
        (pss_cons (ps_set (i := 3) sc__law_tape.nd rfl (Or.inl rfl) (pe_op o_mod (pe_op o_mul (pv 3) (pe_int)) (pe_int)))
        (pss_one (ps_expr (pe_bm PySem.F.plainAttrs_list PySem.F.slot_list_append PySem.F.type_list_append mt_append (pv 1) (pa_cons (pe_op o_mod (pe_op o_div (pv 3) (pe_int)) (pe_int)) (pa_nil)))))))))))))
        (pss_one (ps_ret (pv 1))))
theorem ok__law_at (T : Top K mg A) : FnOk P w K mg base (L2.CX P w) 1 A.f__law_at A.d__law_at ["_law_tape_here", "_law_k"] (sp__law_at K A.ex) := by
  refine T.F__law_at.okX sc__law_at (fun vs H Q E h => len2 h) (fun cdv Ar outer s H vs Q E hr h => ⟨t__law_at K A.ex E, ?_, pure__law_at T.fa h⟩)
  have tk : Takes (cxOf (L2.CX P w) P w K mg base ["_law_tape_here", "_law_k"] "_law_at" (defScope s__law_at) A.f__law_at cdv Ar outer s H E) (WB E) := takes_of rfl rfl rfl rfl
  have hu := hu_of hr
  have hl := Nat.lt_of_succ_lt hu
  exact pss_cons (ps_if (pt_cmpR (o_lt hl) (pv 1) (pe_callB (c_len) (by rfl) T.n_len (by decide +kernel) (pa_cons (pv 0) (pa_nil))) (nomark _)) (pss_one (ps_ret (e_ix (pv 0) (pv 1)))) (pss_nil))
        (pss_one (ps_ret (pe_int)))
theorem ok__law_char (T : Top K mg A) : FnOk P w K mg base (L2.CX P w) 1 A.f__law_char A.d__law_char ["_law_number"] (sp__law_char K A.ex) := by
  refine T.F__law_char.okX sc__law_char (fun vs H Q E h => len1 h) (fun cdv Ar outer s H vs Q E hr h => ⟨t__law_char K A.ex E, ?_, pure__law_char T.fa h⟩)
  have tk : Takes (cxOf (L2.CX P w) P w K mg base ["_law_number", "_law_chars"] "_law_char" (defScope s__law_char) A.f__law_char cdv Ar outer s H E) (WB E) := takes_of rfl rfl rfl rfl
  exact pss_cons (ps_set (i := 1) sc__law_char.nd rfl (Or.inl rfl) (pe_str))
        (pss_cons (ps_if (pt_cmpR (o_eq hr.units) (pe_op o_mod (pv 0) (pe_int)) (pe_int) (nomark _)) (pss_one (ps_ret (e_ix (pe_str) (pe_op o_mod (pe_op o_div (pv 0) (pe_int)) (pe_int))))) (pss_nil))
        (pss_one (ps_ret (e_ix (pv 1) (pe_op o_mod (pe_op o_div (pv 0) (pe_int)) (pe_int))))))
theorem ok__law_word (T : Top K mg A) : FnOk P w K mg base (L2.CX P w) 1 A.f__law_word A.d__law_word ["_law_name_here"] (sp__law_word K A.ex) := by
  refine T.F__law_word.okX sc__law_word (fun vs H Q E h => len1 h) (fun cdv Ar outer s H vs Q E hr h => ⟨t__law_word K A.ex E, ?_, pure__law_word T.fa h⟩)
  have tk : Takes (cxOf (L2.CX P w) P w K mg base ["_law_name_here", "_law_chars", "_law_word_here", "_law_k", "_law_digit"] "_law_word" (defScope s__law_word) A.f__law_word cdv Ar outer s H E) (WB E) := takes_of rfl rfl rfl rfl
  have po : PassesOwn (model P w) (cxOf (L2.CX P w) P w K mg base ["_law_name_here", "_law_chars", "_law_word_here", "_law_k", "_law_digit"] "_law_word" (defScope s__law_word) A.f__law_word cdv Ar outer s H E).A (cxOf (L2.CX P w) P w K mg base ["_law_name_here", "_law_chars", "_law_word_here", "_law_k", "_law_digit"] "_law_word" (defScope s__law_word) A.f__law_word cdv Ar outer s H E).env (cxOf (L2.CX P w) P w K mg base ["_law_name_here", "_law_chars", "_law_word_here", "_law_k", "_law_digit"] "_law_word" (defScope s__law_word) A.f__law_word cdv Ar outer s H E).xe := passes_of rfl
  have hu := hu_of hr
  have hl := Nat.lt_of_succ_lt hu
  exact pss_cons (ps_set (i := 1) sc__law_word.nd rfl (Or.inl rfl) (pe_str))
        (pss_cons (ps_if (PW.pt (pw_or (pt_cmpR (o_lt hl) (pe_callB (c_len) (by rfl) T.n_len (by decide +kernel) (pa_cons (pv 0) (pa_nil))) (pe_int) (nomark _)) (pw_or1 (pt_cmpR (o_gt) (pe_callB (c_len) (by rfl) T.n_len (by decide +kernel) (pa_cons (pv 0) (pa_nil))) (pe_int) (nomark _))))) (pss_one (ps_ret (pe_non))) (pss_nil))
        (pss_cons (ps_set (i := 2) sc__law_word.nd rfl (Or.inl rfl) (pe_int))
        (pss_cons (ps_for po rfl (pi_range1 (by rfl) T.n_range (pa_cons (pe_int) (pa_nil))) (pg_name (i := 3) sc__law_word.nd rfl (Or.inl rfl))
        (pss_cons (ps_set (i := 4) sc__law_word.nd rfl (Or.inl rfl) (pe_int))
        (pss_cut (ps_if (pt_cmpR (o_lt hl) (pv 3) (pe_callB (c_len) (by rfl) T.n_len (by decide +kernel) (pa_cons (pv 0) (pa_nil))) (nomark _)) (pss_cons (ps_set (i := 4) sc__law_word.nd rfl (Or.inl rfl) (pe_op o_add (pe_bm PySem.F.plainAttrs_str PySem.F.slot_str_find PySem.F.type_str_find mt_findU (pv 1) (pa_cons (e_ix (pv 0) (pv 3)) (pa_nil))) (pe_int)))
        (pss_one (ps_if (pt_cmpR (o_eq hr.units) (pv 4) (pe_int) (nomark _)) (pss_one (ps_ret (pe_non))) (pss_nil)))) (pss_nil))
        (pss_one (ps_set (i := 2) sc__law_word.nd rfl (Or.inl rfl) (pe_op o_add (pe_op o_mul (pv 2) (pe_int)) (pv 4)))))))
        (pss_cons (ps_if (pt_cmpR (o_eq hr.units) (pv 0) (pe_op o_mul (pe_str) (pe_callB (c_len) (by rfl) T.n_len (by decide +kernel) (pa_cons (pv 0) (pa_nil)))) (nomark _)) (pss_one (ps_ret (pe_non))) (pss_nil))
        (pss_one (ps_ret (pv 2)))))))
theorem ok__law_name (T : Top K mg A) : FnOk P w K mg base (L2.CX P w) 1 A.f__law_name A.d__law_name ["_law_word_here"] (sp__law_name K A.ex) := by
  refine T.F__law_name.okX sc__law_name (fun vs H Q E h => len1 h) (fun cdv Ar outer s H vs Q E hr h => ⟨t__law_name K A.ex E, ?_, pure__law_name T.fa h⟩)
  have tk : Takes (cxOf (L2.CX P w) P w K mg base ["_law_word_here", "_law_chars", "_law_name_here", "_law_power", "_law_k", "_law_digit"] "_law_name" (defScope s__law_name) A.f__law_name cdv Ar outer s H E) (WB E) := takes_of rfl rfl rfl rfl
  have po : PassesOwn (model P w) (cxOf (L2.CX P w) P w K mg base ["_law_word_here", "_law_chars", "_law_name_here", "_law_power", "_law_k", "_law_digit"] "_law_name" (defScope s__law_name) A.f__law_name cdv Ar outer s H E).A (cxOf (L2.CX P w) P w K mg base ["_law_word_here", "_law_chars", "_law_name_here", "_law_power", "_law_k", "_law_digit"] "_law_name" (defScope s__law_name) A.f__law_name cdv Ar outer s H E).env (cxOf (L2.CX P w) P w K mg base ["_law_word_here", "_law_chars", "_law_name_here", "_law_power", "_law_k", "_law_digit"] "_law_name" (defScope s__law_name) A.f__law_name cdv Ar outer s H E).xe := passes_of rfl
  have hu := hu_of hr
  have hl := Nat.lt_of_succ_lt hu
  exact pss_cons (ps_set (i := 1) sc__law_name.nd rfl (Or.inl rfl) (pe_str))
        (pss_cons (ps_if (PW.pt (pw_or (pt_cmpR (o_lt hl) (pv 0) (pe_int) (nomark _)) (pw_or1 (pt_cmpR (o_ge hl) (pv 0) (pe_op o_pow (pe_int) (pe_int)) (nomark _))))) (pss_one (ps_ret (pe_non))) (pss_nil))
        (pss_cons (ps_set (i := 2) sc__law_name.nd rfl (Or.inl rfl) (pe_str))
        (pss_cons (ps_set (i := 3) sc__law_name.nd rfl (Or.inl rfl) (pe_op o_pow (pe_int) (pe_int)))
        (pss_cons (ps_for po rfl (pi_range1 (by rfl) T.n_range (pa_cons (pe_int) (pa_nil))) (pg_name (i := 4) sc__law_name.nd rfl (Or.inl rfl))
        (pss_cons (ps_set (i := 5) sc__law_name.nd rfl (Or.inl rfl) (pe_op o_mod (pe_op o_div (pv 0) (pv 3)) (pe_int)))
        (pss_cons (ps_set (i := 3) sc__law_name.nd rfl (Or.inl rfl) (pe_callB (c_max rfl) (by rfl) T.n_max (by decide +kernel) (pa_cons (pe_int) (pa_cons (pe_op o_div (pv 3) (pe_int)) (pa_nil)))))
        (pss_one (ps_if (pt_cmpR (o_gt) (pv 5) (pe_int) (nomark _)) (pss_cons (ps_if (pt_cmpR (o_lt hl) (pe_callB (c_len) (by rfl) T.n_len (by decide +kernel) (pa_cons (pv 2) (pa_nil))) (pv 4) (nomark _)) (pss_one (ps_ret (pe_non))) (pss_nil))
        (pss_one (ps_set (i := 2) sc__law_name.nd rfl (Or.inl rfl) (pe_op o_add (pv 2) (e_ix (pv 1) (pe_op o_sub (pv 5) (pe_int))))))) (pss_nil))))))
        (pss_cons (ps_if (pt_cmpR (o_eq hr.units) (pv 2) (pe_op o_mul (pe_str) (pe_callB (c_len) (by rfl) T.n_len (by decide +kernel) (pa_cons (pv 2) (pa_nil)))) (nomark _)) (pss_one (ps_ret (pe_non))) (pss_nil))
        (pss_one (ps_ret (pv 2))))))))
theorem ok__law_told_word (T : Top K mg A) : FnOk P w K mg base (L2.CX P w) 2 A.f__law_told_word A.d__law_told_word ["_law_name_here"] (sp__law_told_word K A.ex) := by
  refine T.F__law_told_word.okX sc__law_told_word (fun vs H Q E h => len1 h) (fun cdv Ar outer s H vs Q E hr h => ⟨t__law_told_word K A.ex E, ?_, pure__law_told_word T.fa h⟩)
  have tk : Takes (cxOf (L2.CX P w) P w K mg base ["_law_name_here", "_law_word_here", "e"] "_law_told_word" (defScope s__law_told_word) A.f__law_told_word cdv Ar outer s H E) (WB E) := takes_of rfl rfl rfl rfl
  exact pss_cons (s_tryAs (i := 2) rfl rfl sc__law_told_word.nd rfl rfl ⟨rfl, by decide, Or.inl T.x_BadName.g⟩ tk (fun W pn xe tk po => pss_one (ps_set (i := 1) sc__law_told_word.nd rfl (Or.inl rfl) (e_call (ok_name_word T) (hr.mono (by decide)) T.g_name_word T.F_name_word.kp T.b_name_word tk (pa_cons (pv 0) (pa_nil))))) (fun a oe cls d pn hz hf => pss_one (ps_ret (pe_tup (pa_cons (pe_int) (pa_cons (pe_and (pe_callB (c_isE hz hf) (by rfl) T.n_isinstance (by decide +kernel) (pa_cons (pv 2) (pa_cons (pe_glob rfl T.x_LaminaError.g rfl) (pa_nil)))) (pe_one (pe_not (pe_callB (c_isE hz hf) (by rfl) T.n_isinstance (by decide +kernel) (pa_cons (pv 2) (pa_cons (pe_glob rfl T.x_NotValid.g rfl) (pa_nil))))))) (pa_nil)))))))
        (pss_one (ps_ret (pe_tup (pa_cons (pe_int) (pa_cons (pv 1) (pa_nil))))))
theorem ok__law_told_name (T : Top K mg A) : FnOk P w K mg base (L2.CX P w) 3 A.f__law_told_name A.d__law_told_name ["_law_word_here"] (sp__law_told_name K A.ex) := by
  refine T.F__law_told_name.okX sc__law_told_name (fun vs H Q E h => len1 h) (fun cdv Ar outer s H vs Q E hr h => ⟨t__law_told_name K A.ex E, ?_, pure__law_told_name T.fa h⟩)
  have tk : Takes (cxOf (L2.CX P w) P w K mg base ["_law_word_here", "_law_name_here", "e"] "_law_told_name" (defScope s__law_told_name) A.f__law_told_name cdv Ar outer s H E) (WB E) := takes_of rfl rfl rfl rfl
  exact pss_cons (s_tryAs (i := 2) rfl rfl sc__law_told_name.nd rfl rfl ⟨rfl, by decide, Or.inl T.x_BadName.g⟩ tk (fun W pn xe tk po => pss_one (ps_set (i := 1) sc__law_told_name.nd rfl (Or.inl rfl) (e_call (ok_word_name T) (hr.mono (by decide)) T.g_word_name T.F_word_name.kp T.b_word_name tk (pa_cons (pv 0) (pa_nil))))) (fun a oe cls d pn hz hf => pss_one (ps_ret (pe_tup (pa_cons (pe_int) (pa_cons (pe_and (pe_callB (c_isE hz hf) (by rfl) T.n_isinstance (by decide +kernel) (pa_cons (pv 2) (pa_cons (pe_glob rfl T.x_LaminaError.g rfl) (pa_nil)))) (pe_one (pe_not (pe_callB (c_isE hz hf) (by rfl) T.n_isinstance (by decide +kernel) (pa_cons (pv 2) (pa_cons (pe_glob rfl T.x_NotValid.g rfl) (pa_nil))))))) (pa_nil)))))))
        (pss_one (ps_ret (pe_tup (pa_cons (pe_int) (pa_cons (pv 1) (pa_nil))))))
theorem ok__law_right_word (T : Top K mg A) : FnOk P w K mg base (L2.CX P w) 3 A.f__law_right_word A.d__law_right_word ["_law_name_here"] (sp__law_right_word K A.ex) := by
  refine T.F__law_right_word.okX sc__law_right_word (fun vs H Q E h => len1 h) (fun cdv Ar outer s H vs Q E hr h => ⟨t__law_right_word K A.ex E, ?_, pure__law_right_word T.fa h⟩)
  have tk : Takes (cxOf (L2.CX P w) P w K mg base ["_law_name_here", "_law_due", "_law_told"] "_law_right_word" (defScope s__law_right_word) A.f__law_right_word cdv Ar outer s H E) (WB E) := takes_of rfl rfl rfl rfl
  exact pss_cons (ps_set (i := 1) sc__law_right_word.nd rfl (Or.inl rfl) (e_call (ok__law_word T) (hr.mono (by decide)) T.g__law_word T.F__law_word.kp T.b__law_word tk (pa_cons (pv 0) (pa_nil))))
        (pss_cons (ps_set (i := 2) sc__law_right_word.nd rfl (Or.inl rfl) (e_call (ok__law_told_word T) (hr.mono (by decide)) T.g__law_told_word T.F__law_told_word.kp T.b__law_told_word tk (pa_cons (pv 0) (pa_nil))))
        (pss_cons (ps_if (pt_cmpR (o_is) (pv 1) (pe_non) (nomark _)) (pss_one (ps_ret (pe_cmpR (o_eq hr.units) (pv 2) (pe_tup (pa_cons (pe_int) (pa_cons (pe_bl) (pa_nil)))) (nomark _)))) (pss_nil))
        (pss_one (ps_ret (pe_and (pe_cmpR (o_eq hr.units) (e_ix (pv 2) (pe_int)) (pe_int) (nomark _)) (pe_and (pe_callB (c_isi .int) (by rfl) T.n_isinstance (by decide +kernel) (pa_cons (e_ix (pv 2) (pe_int)) (pa_cons (pe_bltn rfl T.n_int (by decide +kernel) rfl) (pa_nil)))) (pe_and (pe_not (pe_callB (c_isi .bool) (by rfl) T.n_isinstance (by decide +kernel) (pa_cons (e_ix (pv 2) (pe_int)) (pa_cons (pe_bltn rfl T.n_bool (by decide +kernel) rfl) (pa_nil))))) (pe_one (pe_cmpR (o_eq hr.units) (e_ix (pv 2) (pe_int)) (pv 1) (nomark _))))))))))
theorem ok__law_right_name (T : Top K mg A) : FnOk P w K mg base (L2.CX P w) 4 A.f__law_right_name A.d__law_right_name ["_law_word_here"] (sp__law_right_name K A.ex) := by
  refine T.F__law_right_name.okX sc__law_right_name (fun vs H Q E h => len1 h) (fun cdv Ar outer s H vs Q E hr h => ⟨t__law_right_name K A.ex E, ?_, pure__law_right_name T.fa h⟩)
  have tk : Takes (cxOf (L2.CX P w) P w K mg base ["_law_word_here", "_law_due", "_law_told"] "_law_right_name" (defScope s__law_right_name) A.f__law_right_name cdv Ar outer s H E) (WB E) := takes_of rfl rfl rfl rfl
  exact pss_cons (ps_set (i := 1) sc__law_right_name.nd rfl (Or.inl rfl) (e_call (ok__law_name T) (hr.mono (by decide)) T.g__law_name T.F__law_name.kp T.b__law_name tk (pa_cons (pv 0) (pa_nil))))
        (pss_cons (ps_set (i := 2) sc__law_right_name.nd rfl (Or.inl rfl) (e_call (ok__law_told_name T) (hr.mono (by decide)) T.g__law_told_name T.F__law_told_name.kp T.b__law_told_name tk (pa_cons (pv 0) (pa_nil))))
        (pss_cons (ps_if (pt_cmpR (o_is) (pv 1) (pe_non) (nomark _)) (pss_one (ps_ret (pe_cmpR (o_eq hr.units) (pv 2) (pe_tup (pa_cons (pe_int) (pa_cons (pe_bl) (pa_nil)))) (nomark _)))) (pss_nil))
        (pss_one (ps_ret (pe_and (pe_cmpR (o_eq hr.units) (e_ix (pv 2) (pe_int)) (pe_int) (nomark _)) (pe_and (pe_callB (c_isi .str) (by rfl) T.n_isinstance (by decide +kernel) (pa_cons (e_ix (pv 2) (pe_int)) (pa_cons (pe_bltn rfl T.n_str (by decide +kernel) rfl) (pa_nil)))) (pe_one (pe_cmpR (o_eq hr.units) (e_ix (pv 2) (pe_int)) (pv 1) (nomark _)))))))))
theorem ok_law (T : Top K mg A) : FnOk P w K mg base (L2.CX P w) 5 A.f_law A.d_law ["_law_script"] (sp_law K A.ex) := by
  refine T.F_law.okX sc_law (fun vs H Q E h => len1 (show spLaw K vs H Q E from h)) (fun cdv Ar outer s H vs Q E hr h => ⟨t_law K A.ex E, ?_, pure_law T.fa h⟩)
  have tk : Takes (cxOf (L2.CX P w) P w K mg base ["_law_script", "_law_tape_here", "_law_size", "_law_k", "_law_name_here", "_law_word_here", "_law_count", "_law_digit", "_law_due", "_law_one", "_law_back"] "law" (defScope s_law) A.f_law cdv Ar outer s H E) (WB E) := takes_of rfl rfl rfl rfl
  have po : PassesOwn (model P w) (cxOf (L2.CX P w) P w K mg base ["_law_script", "_law_tape_here", "_law_size", "_law_k", "_law_name_here", "_law_word_here", "_law_count", "_law_digit", "_law_due", "_law_one", "_law_back"] "law" (defScope s_law) A.f_law cdv Ar outer s H E).A (cxOf (L2.CX P w) P w K mg base ["_law_script", "_law_tape_here", "_law_size", "_law_k", "_law_name_here", "_law_word_here", "_law_count", "_law_digit", "_law_due", "_law_one", "_law_back"] "law" (defScope s_law) A.f_law cdv Ar outer s H E).env (cxOf (L2.CX P w) P w K mg base ["_law_script", "_law_tape_here", "_law_size", "_law_k", "_law_name_here", "_law_word_here", "_law_count", "_law_digit", "_law_due", "_law_one", "_law_back"] "law" (defScope s_law) A.f_law cdv Ar outer s H E).xe := passes_of rfl
  have hu := hu_of hr
  have hl := Nat.lt_of_succ_lt hu
  exact pss_cons (ps_set (i := 1) sc_law.nd rfl (Or.inr rfl) (e_call (ok__law_tape T) (hr.mono (by decide)) T.g__law_tape T.F__law_tape.kp T.b__law_tape tk (pa_cons (pv 0) (pa_nil))))
        (pss_cons (ps_set (i := 2) sc_law.nd rfl (Or.inl rfl) (pe_op o_mod (e_call (ok__law_at T) (hr.mono (by decide)) T.g__law_at T.F__law_at.kp T.b__law_at tk (pa_cons (pv 1) (pa_cons (pe_int) (pa_nil)))) (pe_int)))
        (pss_cons (ps_set (i := 4) sc_law.nd rfl (Or.inl rfl) (pe_bm PySem.F.plainAttrs_str PySem.F.slot_str_join PySem.F.type_str_join mt_joinU (pe_str) (pa_cons (pe_lc (own := [("_law_k", 3)]) (by rfl) sc_law.nd (pi_range1 (by rfl) T.n_range (pa_cons (pv 2) (pa_nil))) (blkOk_by (N := ["_law_script", "_law_tape_here", "_law_size", "_law_k", "_law_name_here", "_law_word_here", "_law_count", "_law_digit", "_law_due", "_law_one", "_law_back"]) (sc := defScope s_law) (by decide +kernel)) (fun _ _ _ _ _ => pg_name (i := 3) sc_law.nd rfl (Or.inl rfl)) (fun _ _ _ _ _ => pts_nil) (fun _ _ _ _ _ => e_call (ok__law_char T) (hr.mono (by decide)) T.g__law_char T.F__law_char.kp T.b__law_char takes0 (pa_cons (e_call (ok__law_at T) (hr.mono (by decide)) T.g__law_at T.F__law_at.kp T.b__law_at takes0 (pa_cons (pv 1) (pa_cons (pe_op o_add (pe_int) (pv 3)) (pa_nil)))) (pa_nil)))) (pa_nil))))
        (pss_cut (ps_if (pt_cmpR (o_eq hr.units) (pe_op o_mod (e_call (ok__law_at T) (hr.mono (by decide)) T.g__law_at T.F__law_at.kp T.b__law_at tk (pa_cons (pv 1) (pa_cons (pe_int) (pa_nil)))) (pe_int)) (pe_int) (nomark _)) (pss_one (ps_set (i := 4) sc_law.nd rfl (Or.inl rfl) (pe_op o_mul (pe_str) (pv 2)))) (pss_nil))
        (pss_cons (ps_if (pt_not (t_tru (e_call (ok__law_right_word T) (hr.mono (by decide)) T.g__law_right_word T.F__law_right_word.kp T.b__law_right_word tk (pa_cons (pv 4) (pa_nil))))) (pss_one (ps_ret (pe_bl))) (pss_nil))
        (pss_cons (ps_set (i := 5) sc_law.nd rfl (Or.inl rfl) (pe_int))
        (pss_cons (ps_set (i := 6) sc_law.nd rfl (Or.inl rfl) (pe_op o_add (pe_int) (pe_op o_mod (e_call (ok__law_at T) (hr.mono (by decide)) T.g__law_at T.F__law_at.kp T.b__law_at tk (pa_cons (pv 1) (pa_cons (pe_int) (pa_nil)))) (pe_int))))
        (pss_cons (ps_for po rfl (pi_range1 (by rfl) T.n_range (pa_cons (pe_int) (pa_nil))) (pg_name (i := 3) sc_law.nd rfl (Or.inl rfl))
        (pss_cons (ps_set (i := 7) sc_law.nd rfl (Or.inl rfl) (pe_op o_mod (pe_callTy (c_int) (by rfl) T.n_int (by decide +kernel) (pa_cons (e_call (ok__law_at T) (hr.mono (by decide)) T.g__law_at T.F__law_at.kp T.b__law_at tk (pa_cons (pv 1) (pa_cons (pe_op o_add (pe_int) (pv 3)) (pa_nil)))) (pa_nil))) (pe_int)))
        (pss_cut (ps_if (PW.pt (pw_and (pt_cmpR (o_ge hl) (pv 3) (pv 6) (nomark _)) (pw_and1 (pt_cmpR (o_eq hr.units) (pe_op o_mod (e_call (ok__law_at T) (hr.mono (by decide)) T.g__law_at T.F__law_at.kp T.b__law_at tk (pa_cons (pv 1) (pa_cons (pe_int) (pa_nil)))) (pe_int)) (pe_int) (nomark _))))) (pss_one (ps_set (i := 7) sc_law.nd rfl (Or.inl rfl) (pe_int))) (pss_nil))
        (pss_one (ps_if (PW.pt (pw_or (pt_cmpR (o_lt hl) (pv 3) (pe_int) (nomark _)) (pw_or1 (pt_cmpR (o_eq hr.units) (pe_op o_mod (e_call (ok__law_at T) (hr.mono (by decide)) T.g__law_at T.F__law_at.kp T.b__law_at tk (pa_cons (pv 1) (pa_cons (pe_int) (pa_nil)))) (pe_int)) (pe_int) (nomark _))))) (pss_one (ps_set (i := 5) sc_law.nd rfl (Or.inl rfl) (pe_op o_add (pe_op o_mul (pv 5) (pe_int)) (pv 7)))) (pss_nil))))))
        (pss_cons (ps_set (i := 8) sc_law.nd rfl (Or.inl rfl) (e_call (ok__law_word T) (hr.mono (by decide)) T.g__law_word T.F__law_word.kp T.b__law_word tk (pa_cons (pv 4) (pa_nil))))
        (pss_cut (ps_if (pt_cmpR (o_is) (pv 8) (pe_non) (nomark _)) (pss_one (ps_set (i := 8) sc_law.nd rfl (Or.inl rfl) (pv 5))) (pss_nil))
        (pss_cons (ps_for po rfl (pi_list (pe_lst (pa_cons (pv 5) (pa_cons (pv 8) (pa_cons (pe_op o_add (pv 8) (pe_int)) (pa_cons (pe_op o_sub (pv 8) (pe_int)) (pa_cons (pe_op o_sub (pe_op o_pow (pe_int) (pe_int)) (pe_int)) (pa_cons (pe_op o_pow (pe_int) (pe_int)) (pa_cons (pe_int) (pa_cons (pe_op o_div (pv 5) (pe_int)) (pa_nil))))))))))) (pg_name (i := 9) sc_law.nd rfl (Or.inl rfl))
        (pss_cons (ps_if (pt_not (t_tru (e_call (ok__law_right_name T) (hr.mono (by decide)) T.g__law_right_name T.F__law_right_name.kp T.b__law_right_name tk (pa_cons (pv 9) (pa_nil))))) (pss_one (ps_ret (pe_bl))) (pss_nil))
        (pss_cons (ps_set (i := 10) sc_law.nd rfl (Or.inl rfl) (e_call (ok__law_name T) (hr.mono (by decide)) T.g__law_name T.F__law_name.kp T.b__law_name tk (pa_cons (pv 9) (pa_nil))))
        (pss_one (ps_if (PW.pt (pw_and (pt_cmpR (o_isnt) (pv 10) (pe_non) (nomark _)) (pw_and1 (pt_not (t_tru (e_call (ok__law_right_word T) (hr.mono (by decide)) T.g__law_right_word T.F__law_right_word.kp T.b__law_right_word tk (pa_cons (pv 10) (pa_nil)))))))) (pss_one (ps_ret (pe_bl))) (pss_nil))))))
        (pss_one (ps_ret (e_call (ok__law_right_word T) (hr.mono (by decide)) T.g__law_right_word T.F__law_right_word.kp T.b__law_right_word tk (pa_cons (pv 4) (pa_nil)))))))))))))))
end
theorem all_mk {P : Program} {w : World} {K : PySem.W.Frag} {h : Heap} {mg : Str → Option Value} {fa : Addr} (X : K.In h) (G : h.Ns mainGlobals mg) (hfa : mg "law" = some (.ref fa))
    {f_is_word f_name_word f_word_name f__law_tape f__law_at f__law_char f__law_word f__law_name f__law_told_word f__law_told_name f__law_right_word f__law_right_name f_law : Addr}
    {C_LaminaError C_NotValid C_BadName : Addr}
    {od_is_word an_is_word : Option Addr} {sl_is_word : Array (Option Value)} {oc_is_word kV_is_word dc_is_word pm_is_word cd_is_word ct_is_word : Value}
    {od_name_word an_name_word : Option Addr} {sl_name_word : Array (Option Value)} {oc_name_word kV_name_word dc_name_word pm_name_word cd_name_word ct_name_word : Value}
    {od_word_name an_word_name : Option Addr} {sl_word_name : Array (Option Value)} {oc_word_name kV_word_name dc_word_name pm_word_name cd_word_name ct_word_name : Value}
    {od__law_tape an__law_tape : Option Addr} {sl__law_tape : Array (Option Value)} {oc__law_tape kV__law_tape dc__law_tape pm__law_tape cd__law_tape ct__law_tape : Value}
    {od__law_at an__law_at : Option Addr} {sl__law_at : Array (Option Value)} {oc__law_at kV__law_at dc__law_at pm__law_at cd__law_at ct__law_at : Value}
    {od__law_char an__law_char : Option Addr} {sl__law_char : Array (Option Value)} {oc__law_char kV__law_char dc__law_char pm__law_char cd__law_char ct__law_char : Value}
    {od__law_word an__law_word : Option Addr} {sl__law_word : Array (Option Value)} {oc__law_word kV__law_word dc__law_word pm__law_word cd__law_word ct__law_word : Value}
    {od__law_name an__law_name : Option Addr} {sl__law_name : Array (Option Value)} {oc__law_name kV__law_name dc__law_name pm__law_name cd__law_name ct__law_name : Value}
    {od__law_told_word an__law_told_word : Option Addr} {sl__law_told_word : Array (Option Value)} {oc__law_told_word kV__law_told_word dc__law_told_word pm__law_told_word cd__law_told_word ct__law_told_word : Value}
    {od__law_told_name an__law_told_name : Option Addr} {sl__law_told_name : Array (Option Value)} {oc__law_told_name kV__law_told_name dc__law_told_name pm__law_told_name cd__law_told_name ct__law_told_name : Value}
    {od__law_right_word an__law_right_word : Option Addr} {sl__law_right_word : Array (Option Value)} {oc__law_right_word kV__law_right_word dc__law_right_word pm__law_right_word cd__law_right_word ct__law_right_word : Value}
    {od__law_right_name an__law_right_name : Option Addr} {sl__law_right_name : Array (Option Value)} {oc__law_right_name kV__law_right_name dc__law_right_name pm__law_right_name cd__law_right_name ct__law_right_name : Value}
    {od_law an_law : Option Addr} {sl_law : Array (Option Value)} {oc_law kV_law dc_law pm_law cd_law ct_law : Value}
    {t_ALPHABET : Tok}
    {t_BASE : Tok}
    {t_NAME_SIZE : Tok}
    (a_is_word : PySem.W.nsIn K mainGlobals "is_word" = some (some (.ref f_is_word)))
    (l_is_word : K.lookup f_is_word = some ⟨oc_is_word, od_is_word, .func (PySem.W.fnOf "is_word" "is_word" (defArgs s_is_word) (defBody s_is_word) (defScope s_is_word) .none kV_is_word dc_is_word pm_is_word an_is_word cd_is_word ct_is_word), sl_is_word⟩)
    (c_is_word : PySem.W.codeIn K cd_is_word "is_word" = true)
    (k_is_word : PySem.W.keepIn K (.ref f_is_word) = true)
    (a_name_word : PySem.W.nsIn K mainGlobals "name_word" = some (some (.ref f_name_word)))
    (l_name_word : K.lookup f_name_word = some ⟨oc_name_word, od_name_word, .func (PySem.W.fnOf "name_word" "name_word" (defArgs s_name_word) (defBody s_name_word) (defScope s_name_word) .none kV_name_word dc_name_word pm_name_word an_name_word cd_name_word ct_name_word), sl_name_word⟩)
    (c_name_word : PySem.W.codeIn K cd_name_word "name_word" = true)
    (k_name_word : PySem.W.keepIn K (.ref f_name_word) = true)
    (a_word_name : PySem.W.nsIn K mainGlobals "word_name" = some (some (.ref f_word_name)))
    (l_word_name : K.lookup f_word_name = some ⟨oc_word_name, od_word_name, .func (PySem.W.fnOf "word_name" "word_name" (defArgs s_word_name) (defBody s_word_name) (defScope s_word_name) .none kV_word_name dc_word_name pm_word_name an_word_name cd_word_name ct_word_name), sl_word_name⟩)
    (c_word_name : PySem.W.codeIn K cd_word_name "word_name" = true)
    (k_word_name : PySem.W.keepIn K (.ref f_word_name) = true)
    (a__law_tape : PySem.W.nsIn K mainGlobals "_law_tape" = some (some (.ref f__law_tape)))
    (l__law_tape : K.lookup f__law_tape = some ⟨oc__law_tape, od__law_tape, .func (PySem.W.fnOf "_law_tape" "_law_tape" (defArgs s__law_tape) (defBody s__law_tape) (defScope s__law_tape) .none kV__law_tape dc__law_tape pm__law_tape an__law_tape cd__law_tape ct__law_tape), sl__law_tape⟩)
    (c__law_tape : PySem.W.codeIn K cd__law_tape "_law_tape" = true)
    (k__law_tape : PySem.W.keepIn K (.ref f__law_tape) = true)
    (a__law_at : PySem.W.nsIn K mainGlobals "_law_at" = some (some (.ref f__law_at)))
    (l__law_at : K.lookup f__law_at = some ⟨oc__law_at, od__law_at, .func (PySem.W.fnOf "_law_at" "_law_at" (defArgs s__law_at) (defBody s__law_at) (defScope s__law_at) .none kV__law_at dc__law_at pm__law_at an__law_at cd__law_at ct__law_at), sl__law_at⟩)
    (c__law_at : PySem.W.codeIn K cd__law_at "_law_at" = true)
    (k__law_at : PySem.W.keepIn K (.ref f__law_at) = true)
    (a__law_char : PySem.W.nsIn K mainGlobals "_law_char" = some (some (.ref f__law_char)))
    (l__law_char : K.lookup f__law_char = some ⟨oc__law_char, od__law_char, .func (PySem.W.fnOf "_law_char" "_law_char" (defArgs s__law_char) (defBody s__law_char) (defScope s__law_char) .none kV__law_char dc__law_char pm__law_char an__law_char cd__law_char ct__law_char), sl__law_char⟩)
    (c__law_char : PySem.W.codeIn K cd__law_char "_law_char" = true)
    (k__law_char : PySem.W.keepIn K (.ref f__law_char) = true)
    (a__law_word : PySem.W.nsIn K mainGlobals "_law_word" = some (some (.ref f__law_word)))
    (l__law_word : K.lookup f__law_word = some ⟨oc__law_word, od__law_word, .func (PySem.W.fnOf "_law_word" "_law_word" (defArgs s__law_word) (defBody s__law_word) (defScope s__law_word) .none kV__law_word dc__law_word pm__law_word an__law_word cd__law_word ct__law_word), sl__law_word⟩)
    (c__law_word : PySem.W.codeIn K cd__law_word "_law_word" = true)
    (k__law_word : PySem.W.keepIn K (.ref f__law_word) = true)
    (a__law_name : PySem.W.nsIn K mainGlobals "_law_name" = some (some (.ref f__law_name)))
    (l__law_name : K.lookup f__law_name = some ⟨oc__law_name, od__law_name, .func (PySem.W.fnOf "_law_name" "_law_name" (defArgs s__law_name) (defBody s__law_name) (defScope s__law_name) .none kV__law_name dc__law_name pm__law_name an__law_name cd__law_name ct__law_name), sl__law_name⟩)
    (c__law_name : PySem.W.codeIn K cd__law_name "_law_name" = true)
    (k__law_name : PySem.W.keepIn K (.ref f__law_name) = true)
    (a__law_told_word : PySem.W.nsIn K mainGlobals "_law_told_word" = some (some (.ref f__law_told_word)))
    (l__law_told_word : K.lookup f__law_told_word = some ⟨oc__law_told_word, od__law_told_word, .func (PySem.W.fnOf "_law_told_word" "_law_told_word" (defArgs s__law_told_word) (defBody s__law_told_word) (defScope s__law_told_word) .none kV__law_told_word dc__law_told_word pm__law_told_word an__law_told_word cd__law_told_word ct__law_told_word), sl__law_told_word⟩)
    (c__law_told_word : PySem.W.codeIn K cd__law_told_word "_law_told_word" = true)
    (k__law_told_word : PySem.W.keepIn K (.ref f__law_told_word) = true)
    (a__law_told_name : PySem.W.nsIn K mainGlobals "_law_told_name" = some (some (.ref f__law_told_name)))
    (l__law_told_name : K.lookup f__law_told_name = some ⟨oc__law_told_name, od__law_told_name, .func (PySem.W.fnOf "_law_told_name" "_law_told_name" (defArgs s__law_told_name) (defBody s__law_told_name) (defScope s__law_told_name) .none kV__law_told_name dc__law_told_name pm__law_told_name an__law_told_name cd__law_told_name ct__law_told_name), sl__law_told_name⟩)
    (c__law_told_name : PySem.W.codeIn K cd__law_told_name "_law_told_name" = true)
    (k__law_told_name : PySem.W.keepIn K (.ref f__law_told_name) = true)
    (a__law_right_word : PySem.W.nsIn K mainGlobals "_law_right_word" = some (some (.ref f__law_right_word)))
    (l__law_right_word : K.lookup f__law_right_word = some ⟨oc__law_right_word, od__law_right_word, .func (PySem.W.fnOf "_law_right_word" "_law_right_word" (defArgs s__law_right_word) (defBody s__law_right_word) (defScope s__law_right_word) .none kV__law_right_word dc__law_right_word pm__law_right_word an__law_right_word cd__law_right_word ct__law_right_word), sl__law_right_word⟩)
    (c__law_right_word : PySem.W.codeIn K cd__law_right_word "_law_right_word" = true)
    (k__law_right_word : PySem.W.keepIn K (.ref f__law_right_word) = true)
    (a__law_right_name : PySem.W.nsIn K mainGlobals "_law_right_name" = some (some (.ref f__law_right_name)))
    (l__law_right_name : K.lookup f__law_right_name = some ⟨oc__law_right_name, od__law_right_name, .func (PySem.W.fnOf "_law_right_name" "_law_right_name" (defArgs s__law_right_name) (defBody s__law_right_name) (defScope s__law_right_name) .none kV__law_right_name dc__law_right_name pm__law_right_name an__law_right_name cd__law_right_name ct__law_right_name), sl__law_right_name⟩)
    (c__law_right_name : PySem.W.codeIn K cd__law_right_name "_law_right_name" = true)
    (k__law_right_name : PySem.W.keepIn K (.ref f__law_right_name) = true)
    (a_law : PySem.W.nsIn K mainGlobals "law" = some (some (.ref f_law)))
    (l_law : K.lookup f_law = some ⟨oc_law, od_law, .func (PySem.W.fnOf "law" "law" (defArgs s_law) (defBody s_law) (defScope s_law) .none kV_law dc_law pm_law an_law cd_law ct_law), sl_law⟩)
    (c_law : PySem.W.codeIn K cd_law "law" = true)
    (k_law : PySem.W.keepIn K (.ref f_law) = true)
    (n_abs : PySem.W.nsIn K mainGlobals "abs" = some none)
    (n_bool : PySem.W.nsIn K mainGlobals "bool" = some none)
    (n_int : PySem.W.nsIn K mainGlobals "int" = some none)
    (n_isinstance : PySem.W.nsIn K mainGlobals "isinstance" = some none)
    (n_len : PySem.W.nsIn K mainGlobals "len" = some none)
    (n_max : PySem.W.nsIn K mainGlobals "max" = some none)
    (n_range : PySem.W.nsIn K mainGlobals "range" = some none)
    (n_reversed : PySem.W.nsIn K mainGlobals "reversed" = some none)
    (n_str : PySem.W.nsIn K mainGlobals "str" = some none)
    (kc_ALPHABET : PySem.W.nsIn K mainGlobals "ALPHABET" = some (some (.str "abcdefghijklmnopqrstuvwxyz0123456789._-" t_ALPHABET)))
    (kc_BASE : PySem.W.nsIn K mainGlobals "BASE" = some (some (.int 40 t_BASE)))
    (kc_NAME_SIZE : PySem.W.nsIn K mainGlobals "NAME_SIZE" = some (some (.int 11 t_NAME_SIZE)))
    (aC_BadName : PySem.W.nsIn K mainGlobals "BadName" = some (some (.ref C_BadName)))
    (ex_BadName : PySem.W.excIn K C_BadName [.type "ValueError", .type "Exception", .type "BaseException", .type "object"] "ValueError.__new__" = true)
    (kc_BadName : PySem.W.keepIn K (.ref C_BadName) = true)
    (sb_BadName : PySem.W.subIn K (.ref C_BadName) (.type "BaseException") = some true)
    (ty_BadName : PySem.W.typeIn K (.ref C_BadName) = some (.type "type"))
    (aC_LaminaError : PySem.W.nsIn K mainGlobals "LaminaError" = some (some (.ref C_LaminaError)))
    (ex_LaminaError : PySem.W.excIn K C_LaminaError [.type "ValueError", .type "Exception", .type "BaseException", .type "object"] "ValueError.__new__" = true)
    (kc_LaminaError : PySem.W.keepIn K (.ref C_LaminaError) = true)
    (sb_LaminaError : PySem.W.subIn K (.ref C_LaminaError) (.type "BaseException") = some true)
    (ty_LaminaError : PySem.W.typeIn K (.ref C_LaminaError) = some (.type "type"))
    (aC_NotValid : PySem.W.nsIn K mainGlobals "NotValid" = some (some (.ref C_NotValid)))
    (ex_NotValid : PySem.W.excIn K C_NotValid [.type "ValueError", .type "Exception", .type "BaseException", .type "object"] "ValueError.__new__" = true)
    (kc_NotValid : PySem.W.keepIn K (.ref C_NotValid) = true)
    (sb_NotValid : PySem.W.subIn K (.ref C_NotValid) (.type "BaseException") = some true)
    (ty_NotValid : PySem.W.typeIn K (.ref C_NotValid) = some (.type "type"))
    (su_BadName_BadName : PySem.W.subIn K (.ref C_BadName) (.ref C_BadName) = some true)
    (su_BadName_LaminaError : PySem.W.subIn K (.ref C_BadName) (.ref C_LaminaError) = some true)
    (su_BadName_NotValid : PySem.W.subIn K (.ref C_BadName) (.ref C_NotValid) = some false)
    (su_LaminaError_BadName : PySem.W.subIn K (.ref C_LaminaError) (.ref C_BadName) = some false)
    (su_LaminaError_NotValid : PySem.W.subIn K (.ref C_LaminaError) (.ref C_NotValid) = some false)
    (su_NotValid_BadName : PySem.W.subIn K (.ref C_NotValid) (.ref C_BadName) = some false)
    (su_NotValid_LaminaError : PySem.W.subIn K (.ref C_NotValid) (.ref C_LaminaError) = some true)
    (hx_BadName : PySem.W.hasDictIn K C_BadName = true)
    (hx_LaminaError : PySem.W.hasDictIn K C_LaminaError = true)
    (hx_NotValid : PySem.W.hasDictIn K C_NotValid = true)
    (ne_NotValid_LaminaError : (Value.ref C_NotValid == Value.ref C_LaminaError) = false)
    (ne_BadName_LaminaError : (Value.ref C_BadName == Value.ref C_LaminaError) = false)
    (ne_LaminaError_NotValid : (Value.ref C_LaminaError == Value.ref C_NotValid) = false)
    (ne_BadName_NotValid : (Value.ref C_BadName == Value.ref C_NotValid) = false)
    (ga_LaminaError : PySem.W.findIn K (.ref C_LaminaError) "__getattribute__" = some (some (.builtin "BaseException.__getattribute__")))
    (gg_LaminaError : PySem.W.findIn K (.ref C_LaminaError) "__getattr__" = some none)
    (cl_LaminaError : PySem.W.findIn K (.ref C_LaminaError) "__class__" = some (some (.builtin "object.__class__")))
    (om_LaminaError : PySem.W.mroIn K C_LaminaError (.type "object") = some true)
    (ga_NotValid : PySem.W.findIn K (.ref C_NotValid) "__getattribute__" = some (some (.builtin "BaseException.__getattribute__")))
    (gg_NotValid : PySem.W.findIn K (.ref C_NotValid) "__getattr__" = some none)
    (cl_NotValid : PySem.W.findIn K (.ref C_NotValid) "__class__" = some (some (.builtin "object.__class__")))
    (om_NotValid : PySem.W.mroIn K C_NotValid (.type "object") = some true)
    (ga_BadName : PySem.W.findIn K (.ref C_BadName) "__getattribute__" = some (some (.builtin "BaseException.__getattribute__")))
    (gg_BadName : PySem.W.findIn K (.ref C_BadName) "__getattr__" = some none)
    (cl_BadName : PySem.W.findIn K (.ref C_BadName) "__class__" = some (some (.builtin "object.__class__")))
    (om_BadName : PySem.W.mroIn K C_BadName (.type "object") = some true)
    (sp_cls : PySem.W.specialIn K (.builtin "object.__class__") "__get__" = some (some (.builtin "getset_descriptor.__get__")))
    (tk_cls : PySem.W.takesIn K (.builtin "object.__class__") = some true) :
    ∃ fd : FuncData, (∀ (s : Shared) (v : Value), BindsTo s fd ⟨[v], []⟩ [("_law_script", v)]) ∧ ∀ base : Heap, K.In base → base.Ns mainGlobals mg → FnOk P w K mg base (L2.CX P w) 5 fa fd ["_law_script"] (spLaw K) := by
  have e := hfa.symm.trans (PySem.W.mg_of X G a_law)
  cases e
  have F_is_word := fun_mk (st := s_is_word) l_is_word c_is_word k_is_word
  have F_name_word := fun_mk (st := s_name_word) l_name_word c_name_word k_name_word
  have F_word_name := fun_mk (st := s_word_name) l_word_name c_word_name k_word_name
  have F__law_tape := fun_mk (st := s__law_tape) l__law_tape c__law_tape k__law_tape
  have F__law_at := fun_mk (st := s__law_at) l__law_at c__law_at k__law_at
  have F__law_char := fun_mk (st := s__law_char) l__law_char c__law_char k__law_char
  have F__law_word := fun_mk (st := s__law_word) l__law_word c__law_word k__law_word
  have F__law_name := fun_mk (st := s__law_name) l__law_name c__law_name k__law_name
  have F__law_told_word := fun_mk (st := s__law_told_word) l__law_told_word c__law_told_word k__law_told_word
  have F__law_told_name := fun_mk (st := s__law_told_name) l__law_told_name c__law_told_name k__law_told_name
  have F__law_right_word := fun_mk (st := s__law_right_word) l__law_right_word c__law_right_word k__law_right_word
  have F__law_right_name := fun_mk (st := s__law_right_name) l__law_right_name c__law_right_name k__law_right_name
  have F_law := fun_mk (st := s_law) l_law c_law k_law
  let A : Adr := {
    ex := { ({ } : Ex) with LaminaError := C_LaminaError, NotValid := C_NotValid, BadName := C_BadName },
    f_is_word := f_is_word, d_is_word := PySem.W.fnOf "is_word" "is_word" (defArgs s_is_word) (defBody s_is_word) (defScope s_is_word) .none kV_is_word dc_is_word pm_is_word an_is_word cd_is_word ct_is_word,
    f_name_word := f_name_word, d_name_word := PySem.W.fnOf "name_word" "name_word" (defArgs s_name_word) (defBody s_name_word) (defScope s_name_word) .none kV_name_word dc_name_word pm_name_word an_name_word cd_name_word ct_name_word,
    f_word_name := f_word_name, d_word_name := PySem.W.fnOf "word_name" "word_name" (defArgs s_word_name) (defBody s_word_name) (defScope s_word_name) .none kV_word_name dc_word_name pm_word_name an_word_name cd_word_name ct_word_name,
    f__law_tape := f__law_tape, d__law_tape := PySem.W.fnOf "_law_tape" "_law_tape" (defArgs s__law_tape) (defBody s__law_tape) (defScope s__law_tape) .none kV__law_tape dc__law_tape pm__law_tape an__law_tape cd__law_tape ct__law_tape,
    f__law_at := f__law_at, d__law_at := PySem.W.fnOf "_law_at" "_law_at" (defArgs s__law_at) (defBody s__law_at) (defScope s__law_at) .none kV__law_at dc__law_at pm__law_at an__law_at cd__law_at ct__law_at,
    f__law_char := f__law_char, d__law_char := PySem.W.fnOf "_law_char" "_law_char" (defArgs s__law_char) (defBody s__law_char) (defScope s__law_char) .none kV__law_char dc__law_char pm__law_char an__law_char cd__law_char ct__law_char,
    f__law_word := f__law_word, d__law_word := PySem.W.fnOf "_law_word" "_law_word" (defArgs s__law_word) (defBody s__law_word) (defScope s__law_word) .none kV__law_word dc__law_word pm__law_word an__law_word cd__law_word ct__law_word,
    f__law_name := f__law_name, d__law_name := PySem.W.fnOf "_law_name" "_law_name" (defArgs s__law_name) (defBody s__law_name) (defScope s__law_name) .none kV__law_name dc__law_name pm__law_name an__law_name cd__law_name ct__law_name,
    f__law_told_word := f__law_told_word, d__law_told_word := PySem.W.fnOf "_law_told_word" "_law_told_word" (defArgs s__law_told_word) (defBody s__law_told_word) (defScope s__law_told_word) .none kV__law_told_word dc__law_told_word pm__law_told_word an__law_told_word cd__law_told_word ct__law_told_word,
    f__law_told_name := f__law_told_name, d__law_told_name := PySem.W.fnOf "_law_told_name" "_law_told_name" (defArgs s__law_told_name) (defBody s__law_told_name) (defScope s__law_told_name) .none kV__law_told_name dc__law_told_name pm__law_told_name an__law_told_name cd__law_told_name ct__law_told_name,
    f__law_right_word := f__law_right_word, d__law_right_word := PySem.W.fnOf "_law_right_word" "_law_right_word" (defArgs s__law_right_word) (defBody s__law_right_word) (defScope s__law_right_word) .none kV__law_right_word dc__law_right_word pm__law_right_word an__law_right_word cd__law_right_word ct__law_right_word,
    f__law_right_name := f__law_right_name, d__law_right_name := PySem.W.fnOf "_law_right_name" "_law_right_name" (defArgs s__law_right_name) (defBody s__law_right_name) (defScope s__law_right_name) .none kV__law_right_name dc__law_right_name pm__law_right_name an__law_right_name cd__law_right_name ct__law_right_name,
    f_law := fa, d_law := PySem.W.fnOf "law" "law" (defArgs s_law) (defBody s_law) (defScope s_law) .none kV_law dc_law pm_law an_law cd_law ct_law }
  have T : Top K mg A := {
    F_is_word := F_is_word,
    b_is_word := F_is_word.binds (ps := ["value"]) fun _ _ _ _ _ _ us hl => match us, hl with | [_], _ => rfl,
    g_is_word := PySem.W.mg_of X G a_is_word,
    F_name_word := F_name_word,
    b_name_word := F_name_word.binds (ps := ["name"]) fun _ _ _ _ _ _ us hl => match us, hl with | [_], _ => rfl,
    g_name_word := PySem.W.mg_of X G a_name_word,
    F_word_name := F_word_name,
    b_word_name := F_word_name.binds (ps := ["word"]) fun _ _ _ _ _ _ us hl => match us, hl with | [_], _ => rfl,
    g_word_name := PySem.W.mg_of X G a_word_name,
    F__law_tape := F__law_tape,
    b__law_tape := F__law_tape.binds (ps := ["_law_script"]) fun _ _ _ _ _ _ us hl => match us, hl with | [_], _ => rfl,
    g__law_tape := PySem.W.mg_of X G a__law_tape,
    F__law_at := F__law_at,
    b__law_at := F__law_at.binds (ps := ["_law_tape_here", "_law_k"]) fun _ _ _ _ _ _ us hl => match us, hl with | [_, _], _ => rfl,
    g__law_at := PySem.W.mg_of X G a__law_at,
    F__law_char := F__law_char,
    b__law_char := F__law_char.binds (ps := ["_law_number"]) fun _ _ _ _ _ _ us hl => match us, hl with | [_], _ => rfl,
    g__law_char := PySem.W.mg_of X G a__law_char,
    F__law_word := F__law_word,
    b__law_word := F__law_word.binds (ps := ["_law_name_here"]) fun _ _ _ _ _ _ us hl => match us, hl with | [_], _ => rfl,
    g__law_word := PySem.W.mg_of X G a__law_word,
    F__law_name := F__law_name,
    b__law_name := F__law_name.binds (ps := ["_law_word_here"]) fun _ _ _ _ _ _ us hl => match us, hl with | [_], _ => rfl,
    g__law_name := PySem.W.mg_of X G a__law_name,
    F__law_told_word := F__law_told_word,
    b__law_told_word := F__law_told_word.binds (ps := ["_law_name_here"]) fun _ _ _ _ _ _ us hl => match us, hl with | [_], _ => rfl,
    g__law_told_word := PySem.W.mg_of X G a__law_told_word,
    F__law_told_name := F__law_told_name,
    b__law_told_name := F__law_told_name.binds (ps := ["_law_word_here"]) fun _ _ _ _ _ _ us hl => match us, hl with | [_], _ => rfl,
    g__law_told_name := PySem.W.mg_of X G a__law_told_name,
    F__law_right_word := F__law_right_word,
    b__law_right_word := F__law_right_word.binds (ps := ["_law_name_here"]) fun _ _ _ _ _ _ us hl => match us, hl with | [_], _ => rfl,
    g__law_right_word := PySem.W.mg_of X G a__law_right_word,
    F__law_right_name := F__law_right_name,
    b__law_right_name := F__law_right_name.binds (ps := ["_law_word_here"]) fun _ _ _ _ _ _ us hl => match us, hl with | [_], _ => rfl,
    g__law_right_name := PySem.W.mg_of X G a__law_right_name,
    F_law := F_law,
    b_law := F_law.binds (ps := ["_law_script"]) fun _ _ _ _ _ _ us hl => match us, hl with | [_], _ => rfl,
    g_law := PySem.W.mg_of X G a_law,
    n_abs := PySem.W.mg_none_of X G n_abs,
    n_bool := PySem.W.mg_none_of X G n_bool,
    n_int := PySem.W.mg_none_of X G n_int,
    n_isinstance := PySem.W.mg_none_of X G n_isinstance,
    n_len := PySem.W.mg_none_of X G n_len,
    n_max := PySem.W.mg_none_of X G n_max,
    n_range := PySem.W.mg_none_of X G n_range,
    n_reversed := PySem.W.mg_none_of X G n_reversed,
    n_str := PySem.W.mg_none_of X G n_str,
    k_ALPHABET := ⟨_, PySem.W.mg_of X G kc_ALPHABET⟩,
    k_BASE := ⟨_, PySem.W.mg_of X G kc_BASE⟩,
    k_NAME_SIZE := ⟨_, PySem.W.mg_of X G kc_NAME_SIZE⟩,
    x_BadName := ⟨ex_BadName, PySem.W.mg_of X G aC_BadName, kc_BadName, sb_BadName, ty_BadName⟩,
    x_LaminaError := ⟨ex_LaminaError, PySem.W.mg_of X G aC_LaminaError, kc_LaminaError, sb_LaminaError, ty_LaminaError⟩,
    x_NotValid := ⟨ex_NotValid, PySem.W.mg_of X G aC_NotValid, kc_NotValid, sb_NotValid, ty_NotValid⟩,
    fa := { fa0 := trivial, te_LaminaError_BadName := PySem.W.exm_ref sb_BadName hx_BadName ty_BadName su_LaminaError_BadName, te_NotValid_BadName := PySem.W.exm_ref sb_BadName hx_BadName ty_BadName su_NotValid_BadName, te_BadName_BadName := PySem.W.exm_ref sb_BadName hx_BadName ty_BadName su_BadName_BadName, kt_LaminaError_LaminaError := kit_same, kt_NotValid_LaminaError := kit_ne ne_NotValid_LaminaError sb_LaminaError hx_LaminaError ty_LaminaError su_NotValid_LaminaError, kt_BadName_LaminaError := kit_ne ne_BadName_LaminaError sb_LaminaError hx_LaminaError ty_LaminaError su_BadName_LaminaError, kt_LaminaError_NotValid := kit_ne ne_LaminaError_NotValid sb_NotValid hx_NotValid ty_NotValid su_LaminaError_NotValid, kt_NotValid_NotValid := kit_same, kt_BadName_NotValid := kit_ne ne_BadName_NotValid sb_NotValid hx_NotValid ty_NotValid su_BadName_NotValid, xc_LaminaError := ⟨ga_LaminaError, gg_LaminaError, sb_LaminaError, hx_LaminaError, cl_LaminaError, sp_cls, tk_cls, om_LaminaError⟩, xc_NotValid := ⟨ga_NotValid, gg_NotValid, sb_NotValid, hx_NotValid, cl_NotValid, sp_cls, tk_cls, om_NotValid⟩, xc_BadName := ⟨ga_BadName, gg_BadName, sb_BadName, hx_BadName, cl_BadName, sp_cls, tk_cls, om_BadName⟩ } }
  exact ⟨_, fun s v => .of_eq rfl, fun base _ _ => ok_law (A := A) T⟩
theorem walk {l : PySem.W.OpenLaw} {q : Program} {loose : List Str} {XP : (Str → Option Value) → Heap → Prop} {YP : World → Heap → Prop} {d : DefRec} {K : Params → PySem.W.Frag} (hn : l.most = some 63) (hdf : d.params.defaults = [])
    (hY : ∀ (w : World) (h : Heap), YP w h → (K w.params).In h)
    (F : ∀ (w : World) (mg : Str → Option Value) (fa : Addr) (h : Heap), (K w.params).In h → h.Ns mainGlobals mg → mg d.name = some (.ref fa) →
      ∃ fd : FuncData, (∀ (s : Shared) (u : Value), BindsTo s fd ⟨[u], []⟩ [("_law_script", u)]) ∧ ∀ base : Heap, (K w.params).In base → base.Ns mainGlobals mg → FnOk l.prog w (K w.params) mg base (L2.CX l.prog w) 5 fa fd ["_law_script"] (spLaw (K w.params))) :
    PySem.W.WalkO q loose XP YP l.row.toRowW d [] (fun f vs => PySem.call f vs) :=
  L2.walk_of (n := 63) (k := 5) (x := "_law_script") (CX := fun w => L2.CX l.prog w) (sp := fun w => spLaw (K w.params)) hn (by decide) hdf ⟨rfl, by decide, by decide⟩ hY F (fun _ _ a ns hl _ hS => ⟨_, rfl, a, ns, rfl, hS, hl, fun _ => rfl⟩) fun _ _ _ _ _ ⟨_, _, _, _, _, _, _, _, _, _, _, _, z⟩ => z
end Lam
open PySem PySem.W PyProof.Rows
set_option maxRecDepth 100000 in
set_option maxHeartbeats 0 in
theorem PySem.Challenge.cw_laminae_k01_name_words_holds : PySem.Challenge.rw_laminae_k01_name_words.Holds := by
  w_on; o_law; k_head; (case hw => w_witness2)
  k_fill
  refine Lam.walk (l := PySem.Challenge.rw_laminae_k01_name_words) rfl rfl (fun w h Y => PySem.W.kIn_of Y) ?F
  case F =>
    intro w mg fa h KX G hmg
    refine' Lam.all_mk KX G hmg ?a_is_word ?l_is_word ?c_is_word ?k_is_word ?a_name_word ?l_name_word ?c_name_word ?k_name_word ?a_word_name ?l_word_name ?c_word_name ?k_word_name ?a__law_tape ?l__law_tape ?c__law_tape ?k__law_tape ?a__law_at ?l__law_at ?c__law_at ?k__law_at ?a__law_char ?l__law_char ?c__law_char ?k__law_char ?a__law_word ?l__law_word ?c__law_word ?k__law_word ?a__law_name ?l__law_name ?c__law_name ?k__law_name ?a__law_told_word ?l__law_told_word ?c__law_told_word ?k__law_told_word ?a__law_told_name ?l__law_told_name ?c__law_told_name ?k__law_told_name ?a__law_right_word ?l__law_right_word ?c__law_right_word ?k__law_right_word ?a__law_right_name ?l__law_right_name ?c__law_right_name ?k__law_right_name ?a_law ?l_law ?c_law ?k_law ?n_abs ?n_bool ?n_int ?n_isinstance ?n_len ?n_max ?n_range ?n_reversed ?n_str ?kc_ALPHABET ?kc_BASE ?kc_NAME_SIZE ?aC_BadName ?ex_BadName ?kc_BadName ?sb_BadName ?ty_BadName ?aC_LaminaError ?ex_LaminaError ?kc_LaminaError ?sb_LaminaError ?ty_LaminaError ?aC_NotValid ?ex_NotValid ?kc_NotValid ?sb_NotValid ?ty_NotValid ?su_BadName_BadName ?su_BadName_LaminaError ?su_BadName_NotValid ?su_LaminaError_BadName ?su_LaminaError_NotValid ?su_NotValid_BadName ?su_NotValid_LaminaError ?hx_BadName ?hx_LaminaError ?hx_NotValid ?ne_NotValid_LaminaError ?ne_BadName_LaminaError ?ne_LaminaError_NotValid ?ne_BadName_NotValid ?ga_LaminaError ?gg_LaminaError ?cl_LaminaError ?om_LaminaError ?ga_NotValid ?gg_NotValid ?cl_NotValid ?om_NotValid ?ga_BadName ?gg_BadName ?cl_BadName ?om_BadName ?sp_cls ?tk_cls
    (case a_is_word => k_is); (case l_is_word => k_is); (case c_is_word => k_is); (case k_is_word => k_is); (case a_name_word => k_is); (case l_name_word => k_is)
    (case c_name_word => k_is); (case k_name_word => k_is); (case a_word_name => k_is); (case l_word_name => k_is); (case c_word_name => k_is); (case k_word_name => k_is)
    (case a__law_tape => k_is); (case l__law_tape => k_is); (case c__law_tape => k_is); (case k__law_tape => k_is); (case a__law_at => k_is); (case l__law_at => k_is)
    (case c__law_at => k_is); (case k__law_at => k_is); (case a__law_char => k_is); (case l__law_char => k_is); (case c__law_char => k_is); (case k__law_char => k_is)
    (case a__law_word => k_is); (case l__law_word => k_is); (case c__law_word => k_is); (case k__law_word => k_is); (case a__law_name => k_is); (case l__law_name => k_is)
    (case c__law_name => k_is); (case k__law_name => k_is); (case a__law_told_word => k_is); (case l__law_told_word => k_is); (case c__law_told_word => k_is); (case k__law_told_word => k_is)
    (case a__law_told_name => k_is); (case l__law_told_name => k_is); (case c__law_told_name => k_is); (case k__law_told_name => k_is); (case a__law_right_word => k_is); (case l__law_right_word => k_is)
    (case c__law_right_word => k_is); (case k__law_right_word => k_is); (case a__law_right_name => k_is); (case l__law_right_name => k_is); (case c__law_right_name => k_is); (case k__law_right_name => k_is)
    (case a_law => k_is); (case l_law => k_is); (case c_law => k_is); (case k_law => k_is); (case n_abs => k_is); (case n_bool => k_is)
    (case n_int => k_is); (case n_isinstance => k_is); (case n_len => k_is); (case n_max => k_is); (case n_range => k_is); (case n_reversed => k_is)
    (case n_str => k_is); (case kc_ALPHABET => k_is); (case kc_BASE => k_is); (case kc_NAME_SIZE => k_is); (case aC_BadName => k_is); (case ex_BadName => k_exc)
    (case kc_BadName => k_is); (case sb_BadName => k_is); (case ty_BadName => k_is); (case aC_LaminaError => k_is); (case ex_LaminaError => k_exc); (case kc_LaminaError => k_is)
    (case sb_LaminaError => k_is); (case ty_LaminaError => k_is); (case aC_NotValid => k_is); (case ex_NotValid => k_exc); (case kc_NotValid => k_is); (case sb_NotValid => k_is)
    (case ty_NotValid => k_is); (case su_BadName_BadName => k_is); (case su_BadName_LaminaError => k_is); (case su_BadName_NotValid => k_is); (case su_LaminaError_BadName => k_is); (case su_LaminaError_NotValid => k_is)
    (case su_NotValid_BadName => k_is); (case su_NotValid_LaminaError => k_is); (case hx_BadName => k_is); (case hx_LaminaError => k_is); (case hx_NotValid => k_is); (case ne_NotValid_LaminaError => decide)
    (case ne_BadName_LaminaError => decide); (case ne_LaminaError_NotValid => decide); (case ne_BadName_NotValid => decide); (case ga_LaminaError => k_is); (case gg_LaminaError => k_is); (case cl_LaminaError => k_is)
    (case om_LaminaError => k_is); (case ga_NotValid => k_is); (case gg_NotValid => k_is); (case cl_NotValid => k_is); (case om_NotValid => k_is); (case ga_BadName => k_is)
    (case gg_BadName => k_is); (case cl_BadName => k_is); (case om_BadName => k_is); (case sp_cls => k_is); (case tk_cls => k_is)
#print axioms PySem.Challenge.cw_laminae_k01_name_words_holds
