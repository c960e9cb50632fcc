import PyProof.Rows.All
import Wide.All
import OpenK.AllK
import Wide.FinOn
import HandS.ForMost
import HandS.ForExc
import HandS.TupLe
import HandS.IsInst
import HandS.Small
import HandS.Wide
import HandS.ExcIs
import HandS.DictComp
import HandS.Rev
import HandS.Codes
import HandS.HotCalls
import HandS.SortInts
import KE.Datum
import PySem.Challenge.RW_laminae_k70_room_of_the_log
set_option Elab.async false
set_option linter.all false
set_option maxRecDepth 100000
set_option maxHeartbeats 4000000
namespace U
open PySem PySem.Spec PyProof.Rows L2
section weaken
variable {X : Cx}
theorem orR {f : Value → Value → Sem Value} {r r' : R2} (h : OpR X f r) (g : OpR X f r') : OpR X f (fun x y H Q => r x y H Q ∨ r' x y H Q) :=
  fun pins s σ H x y v u Q I rx ry q => q.elim (h pins s σ H x y v u Q I rx ry) (g pins s σ H x y v u Q I rx ry)
theorem wR {f : Value → Value → Sem Value} {r r' : R2} (h : OpR X f r) (k : ∀ x y H Q, r' x y H Q → r x y H Q) : OpR X f r' :=
  fun pins s σ H x y v u Q I rx ry q => h pins s σ H x y v u Q I rx ry (k _ _ _ _ q)
theorem wC {f : Value} {r r' : List V → Hp → VK → Prop} (h : CallR X f r) (k : ∀ xs H Q, r' xs H Q → r xs H Q) : CallR X f r' :=
  fun pins s σ H xs us Q I rx q => h pins s σ H xs us Q I rx (k _ _ _ q)
theorem orC {f : Value} {r r' : List V → Hp → VK → Prop} (h : CallR X f r) (g : CallR X f r') : CallR X f (fun xs H Q => r xs H Q ∨ r' xs H Q) :=
  fun pins s σ H xs us Q I rx q => q.elim (h pins s σ H xs us Q I rx) (g pins s σ H xs us Q I rx)
end weaken
def tCut (t u : TS) : TS := C8.tCut t u
theorem pss_cut {X : Cx} {st : Stmt} {rest : List Stmt} {t u : TS} (h1 : PS X st t) (h2 : PSs X rest u) : PSs X (st :: rest) (tCut t u) := C8.pss_cut h1 h2
section ops
variable {X : Cx}
/-- text times number -/
theorem op_strmul : OpR X (binaryOp .Mult) (fun x y H Q => ∃ (z : Str) (n : Int), x = .str z ∧ y = .int n ∧ MulOk z n ∧ Q (.str (Txt.mul z n)) H) := by
  intro pins s σ H x y v u Q I rx ry h
  obtain ⟨z, n, rfl, rfl, ok, q⟩ := h
  obtain ⟨t, rfl⟩ := rx
  obtain ⟨t', rfl⟩ := ry
  exact SB.mul ok fun t1 k => ⟨.str (Txt.mul z n), H, I.tok _, ⟨_, rfl⟩, q⟩
def uAdd (K : PySem.W.Frag) : R2 := fun x y H Q => match x, y with
  | .int i, .int j => Q (.int (i + j)) H
  | .str i, .str j => i.length + j.length ≤ sizeLine ∧ Q (.str (i ++ j)) H
  | .ref a, .ref b => rCat (.ref a) (.ref b) H Q ∨ rCatT K (.ref a) (.ref b) H Q
  | _, _ => False
theorem o_add : OpR X (binaryOp .Add) (uAdd X.K) := by
  refine wR (orR op_add (orR op_add_str (orR op_cat op_catT))) fun x y H Q q => ?_
  unfold uAdd at q
  split at q
  · exact .inl ⟨_, _, rfl, rfl, q⟩
  · exact .inr (.inl ⟨_, _, rfl, rfl, q⟩)
  · exact .inr (.inr q)
  · exact q.elim
def uSub : R2 := fun x y H Q => match x, y with
  | .int i, .int j => Q (.int (i - j)) H
  | _, _ => False
theorem o_sub : OpR X (binaryOp .Sub) uSub := by
  refine wR op_sub fun x y H Q q => ?_
  unfold uSub at q
  split at q
  · exact ⟨_, _, rfl, rfl, q⟩
  · exact q.elim
def uMul : R2 := fun x y H Q => match x, y with
  | .int i, .int j => (CMul i j ∨ CMulW i j) ∧ Q (.int (i * j)) H
  | .str z, .int n => MulOk z n ∧ Q (.str (Txt.mul z n)) H
  | .ref a, .int n => rRep (.ref a) (.int n) H Q
  | _, _ => False
theorem o_mul : OpR X (binaryOp .Mult) uMul := by
  refine wR (orR op_mul (orR op_mulW (orR op_strmul op_rep))) fun x y H Q q => ?_
  unfold uMul at q
  split at q
  · obtain ⟨c | c, q⟩ := q
    · exact .inl ⟨_, _, rfl, rfl, c, q⟩
    · exact .inr (.inl ⟨_, _, rfl, rfl, c, q⟩)
  · exact .inr (.inr (.inl ⟨_, _, rfl, rfl, q⟩))
  · exact .inr (.inr (.inr q))
  · exact q.elim
def uDiv : R2 := fun x y H Q => match x, y with
  | .int i, .int j => (0 < j ∧ j < 2 ^ 200) ∧ Q (.int (i / j)) H
  | _, _ => False
theorem o_div : OpR X (binaryOp .FloorDiv) uDiv := by
  refine wR op_fdivW fun x y H Q q => ?_
  unfold uDiv at q
  split at q
  · obtain ⟨⟨c1, c2⟩, q⟩ := q
    exact ⟨_, _, rfl, rfl, wide_div (b := 200) c1 (by omega) (by decide) (by decide), q⟩
  · exact q.elim
def uMod : R2 := fun x y H Q => match x, y with
  | .int i, .int j => 0 < j ∧ Q (.int (i % j)) H
  | _, _ => False
theorem o_mod : OpR X (binaryOp .Mod) uMod := by
  refine wR op_mod fun x y H Q q => ?_
  unfold uMod at q
  split at q
  · exact ⟨_, _, rfl, rfl, q⟩
  · exact q.elim
def uPow : R2 := fun x y H Q => match x, y with
  | .int i, .int j => CPow i j ∧ Q (.int (i ^ j.toNat)) H
  | _, _ => False
theorem o_pow : OpR X (binaryOp .Pow) uPow := by
  refine wR op_pow fun x y H Q q => ?_
  unfold uPow at q
  split at q
  · exact ⟨_, _, rfl, rfl, q⟩
  · exact q.elim
def uNeg : V → Hp → VK → Prop := fun x H Q => match x with
  | .int i => Q (.int (-i)) H
  | _ => False
/-- == of data without dicts -/
def rEqP (K : PySem.W.Frag) : R2 := fun x y H Q => ∃ d e, Dp K H x d ∧ Dp K H y e ∧ (d.plain = true ∧ d.depth ≤ 60) ∧ e.plain = true ∧ Q (.bl (PyData.eqv d e)) H
def rNeP (K : PySem.W.Frag) : R2 := fun x y H Q => ∃ d e, Dp K H x d ∧ Dp K H y e ∧ (d.plain = true ∧ d.depth ≤ 60) ∧ e.plain = true ∧ Q (.bl (!PyData.eqv d e)) H
theorem op_eqP (hu : X.A.units + 64 < cLine) : OpR X (compareOp .Eq) (rEqP X.K) := by
  intro pins s σ H x y v u Q I rx ry h
  obtain ⟨d, e, hd, he, ⟨p1, dp⟩, p2, q⟩ := h
  obtain ⟨as, r1⟩ := Dp.reads I d x v hd rx
  obtain ⟨bs, r2⟩ := Dp.reads I e y u he ry
  exact PySem.SeqAt.eq_plain r1 r2 p1 p2 (by have := Nat.min_le_left d.depth e.depth; omega) ⟨.bl _, H, I, rfl, q⟩
theorem op_neP (hu : X.A.units + 64 < cLine) : OpR X (compareOp .NotEq) (rNeP X.K) := by
  intro pins s σ H x y v u Q I rx ry h
  obtain ⟨d, e, hd, he, ⟨p1, dp⟩, p2, q⟩ := h
  obtain ⟨as, r1⟩ := Dp.reads I d x v hd rx
  obtain ⟨bs, r2⟩ := Dp.reads I e y u he ry
  exact PySem.SeqAt.ne_plain r1 r2 p1 p2 (by have := Nat.min_le_left d.depth e.depth; omega) ⟨.bl _, H, I, rfl, q⟩
theorem d_int (i j : Int) : decide (V.int i = V.int j) = decide (i = j) := decide_eq_decide.mpr ⟨fun h => V.int.inj h, fun h => h ▸ rfl⟩
theorem d_str (i j : Str) : decide (V.str i = V.str j) = decide (i = j) := decide_eq_decide.mpr ⟨fun h => V.str.inj h, fun h => h ▸ rfl⟩
theorem d_bl (i j : Bool) : decide (V.bl i = V.bl j) = decide (i = j) := decide_eq_decide.mpr ⟨fun h => V.bl.inj h, fun h => h ▸ rfl⟩
/-- the same value, of two scalars -/
def sameS : V → V → Bool
  | .non, .non => true
  | .int i, .int j => decide (i = j)
  | .str i, .str j => decide (i = j)
  | .bl i, .bl j => decide (i = j)
  | .byt i, .byt j => decide (i = j)
  | _, _ => false
theorem sameS_eq {x y : V} (h : scal x y = true) : decide (x = y) = sameS x y := by
  cases x <;> cases y <;> first
    | (cases h; done)
    | exact d_int _ _
    | exact d_str _ _
    | exact d_bl _ _
    | rfl
    | (exact decide_eq_decide.mpr ⟨fun h => V.byt.inj h, fun h => h ▸ rfl⟩)
    | (exact decide_eq_false (fun q => nomatch q))
def uEq (K : PySem.W.Frag) : R2 := fun x y H Q => match x, y with
  | .int i, .int j => Q (.bl (decide (i = j))) H
  | .str i, .str j => Q (.bl (decide (i = j))) H
  | .bl i, .bl j => Q (.bl (decide (i = j))) H
  | x, y => (scal x y = true ∧ Q (.bl (sameS x y)) H) ∨ rEqP K x y H Q
theorem o_eq (hu : X.A.units + 64 < cLine) : OpR X (compareOp .Eq) (uEq X.K) := by
  refine wR (orR op_eq (op_eqP hu)) fun x y H Q q => ?_
  unfold uEq at q
  split at q
  · exact .inl ⟨rfl, (d_int _ _).symm ▸ q⟩
  · exact .inl ⟨rfl, (d_str _ _).symm ▸ q⟩
  · exact .inl ⟨rfl, (d_bl _ _).symm ▸ q⟩
  · rcases q with ⟨h, q⟩ | q
    · exact .inl ⟨h, (sameS_eq h).symm ▸ q⟩
    · exact .inr q
def uNe (K : PySem.W.Frag) : R2 := fun x y H Q => match x, y with
  | .int i, .int j => Q (.bl (!decide (i = j))) H
  | .str i, .str j => Q (.bl (!decide (i = j))) H
  | .bl i, .bl j => Q (.bl (!decide (i = j))) H
  | x, y => (scal x y = true ∧ Q (.bl (!sameS x y)) H) ∨ rNeP K x y H Q
theorem o_ne (hu : X.A.units + 64 < cLine) : OpR X (compareOp .NotEq) (uNe X.K) := by
  refine wR (orR op_ne (op_neP hu)) fun x y H Q q => ?_
  unfold uNe at q
  split at q
  · exact .inl ⟨rfl, (d_int _ _).symm ▸ q⟩
  · exact .inl ⟨rfl, (d_str _ _).symm ▸ q⟩
  · exact .inl ⟨rfl, (d_bl _ _).symm ▸ q⟩
  · rcases q with ⟨h, q⟩ | q
    · exact .inl ⟨h, (sameS_eq h).symm ▸ q⟩
    · exact .inr q
/-- tuples of ints in their order -/
theorem lexAt_eq (ns ms : List Int) (op : Int → Int → Bool) (z : Bool) (f : List Int → List Int → Bool)
    (h0 : ∀ i, i = ns.length ∨ i = ms.length → i ≤ ns.length → i ≤ ms.length → f (ns.drop i) (ms.drop i) = z)
    (h1 : ∀ x xs y ys, f (x :: xs) (y :: ys) = if x = y then f xs ys else op x y) :
    ∀ k i, i + k = min ns.length ms.length → Ob.lexAt (fun j => decide (ns.getD j 0 = ms.getD j 0)) (fun j => op (ns.getD j 0) (ms.getD j 0)) z i k = f (ns.drop i) (ms.drop i)
  | 0, i, h => by
    rw [Ob.lexAt_zero, h0 i (by omega) (by omega) (by omega)]
  | k + 1, i, h => by
    have a : i < ns.length := by omega
    have b : i < ms.length := by omega
    rw [Ob.lexAt_succ, List.drop_eq_getElem_cons a, List.drop_eq_getElem_cons b, h1, lexAt_eq ns ms op z f h0 h1 k (i + 1) (by omega)]
    simp only [List.getD_eq_getElem?_getD, List.getElem?_eq_getElem a, List.getElem?_eq_getElem b, Option.getD_some, decide_eq_true_eq]
def lexLe (a b : List Int) : Bool := !HT.lexLt b a
theorem lexLe_cons (x y : Int) (xs ys : List Int) : lexLe (x :: xs) (y :: ys) = if x = y then lexLe xs ys else decide (x ≤ y) := by
  unfold lexLe
  rw [HT.lexLt_cons]
  by_cases h : x = y
  · rw [if_pos h, if_pos h.symm]
  · rw [if_neg h, if_neg (fun e => h e.symm), ← decide_not]
    exact decide_eq_decide.mpr (by omega)
theorem lexLe_end (ns ms : List Int) (i : Nat) (h : i = ns.length ∨ i = ms.length) (h1 : i ≤ ns.length) (h2 : i ≤ ms.length) : lexLe (ns.drop i) (ms.drop i) = decide (ns.length ≤ ms.length) := by
  unfold lexLe
  by_cases a : i = ns.length
  · have e : ns.drop i = [] := List.drop_eq_nil_of_le (by omega)
    rw [e, decide_eq_true (by omega)]
    cases ms.drop i <;> rfl
  · have e : ms.drop i = [] := List.drop_eq_nil_of_le (by omega)
    rw [e, decide_eq_false (by omega)]
    cases e2 : ns.drop i with
    | nil => exact absurd (List.drop_eq_nil_iff.mp e2) (by omega)
    | cons x r => rfl
theorem lexAt_le (ns ms : List Int) : Ob.lexAt (fun j => decide (ns.getD j 0 = ms.getD j 0)) (fun j => decide (ns.getD j 0 ≤ ms.getD j 0)) (decide (ns.length ≤ ms.length)) 0 (min ns.length ms.length) = lexLe ns ms :=
  lexAt_eq ns ms (fun x y => decide (x ≤ y)) _ lexLe (fun i h a b => lexLe_end ns ms i h a b) (fun x xs y ys => lexLe_cons x y xs ys) _ 0 (by omega)
def lexGe (a b : List Int) : Bool := !HT.lexLt a b
theorem lexGe_le (a b : List Int) : lexGe a b = lexLe b a := rfl
theorem lexAt_ge (ns ms : List Int) : Ob.lexAt (fun j => decide (ns.getD j 0 = ms.getD j 0)) (fun j => decide (ns.getD j 0 ≥ ms.getD j 0)) (decide (ns.length ≥ ms.length)) 0 (min ns.length ms.length) = lexGe ns ms := by
  refine lexAt_eq ns ms (fun x y => decide (x ≥ y)) _ lexGe (fun i h a b => ?_) (fun x xs y ys => ?_) _ 0 (by omega)
  · rw [lexGe_le, lexLe_end ms ns i (by omega) b a]
  · rw [lexGe_le, lexLe_cons, lexGe_le]
    by_cases h : x = y
    · rw [if_pos h, if_pos h.symm]
    · rw [if_neg h, if_neg (fun e => h e.symm)]
def rGeT (K : PySem.W.Frag) : R2 := fun x y H Q => ∃ (a b : Addr) (ns ms : List Int), x = .ref a ∧ y = .ref b ∧ SqT K H a (ns.map V.int) ∧ SqT K H b (ms.map V.int) ∧ Q (.bl (lexGe ns ms)) H
theorem ints_at {us : List Value} {ns : List Int} (h : IntsAre us ns) (j : Nat) (h1 : j < us.toArray.size) : ∃ t, us.toArray[j] = .int (ns.getD j 0) t := PyProof.Rows.IntsAre.int_at h _ _ (by simp at h1; simp [h1])
theorem op_geT (hu : X.A.units < cLine) : OpR X (compareOp .GtE) (rGeT X.K) := by
  intro pins s σ H x y v u Q I rx ry h
  obtain ⟨a, b, ns, ms, rfl, rfl, ha, hb, q⟩ := h
  cases rx; cases ry
  obtain ⟨us, r1, p1, _⟩ := I.tuple ha
  obtain ⟨ws, r2, p2, _⟩ := I.tuple hb
  have j1 : IntsAre us ns := Vals.ints r1
  have j2 : IntsAre ws ms := Vals.ints r2
  have n1 : us.toArray.size = ns.length := List.size_toArray.trans j1.length
  have n2 : ws.toArray.size = ms.length := List.size_toArray.trans j2.length
  have R := Ob.RcOp.tuples_ge (A := X.A) (s := s) (e := fun j => decide (ns.getD j 0 = ms.getD j 0)) (r := fun j => decide (ns.getD j 0 ≥ ms.getD j 0)) p1 p2 hu
    (fun j h1 h2 => by
      obtain ⟨t, e1⟩ := ints_at j1 j h1
      obtain ⟨t', e2⟩ := ints_at j2 j h2
      rw [e1, e2, ← Bool.beq_eq_decide_eq]
      exact SeqAt.EqAt.int_int _ _ _ _)
    (fun j h1 h2 _ => by
      obtain ⟨t, e1⟩ := ints_at j1 j h1
      obtain ⟨t', e2⟩ := ints_at j2 j h2
      rw [e1, e2]
      exact Ob.RcOp.ge_int _ _ _ _)
  rw [n1, n2, lexAt_ge] at R
  exact R X.prog X.w X.xe (EP X pins σ Q) ⟨.bl _, H, I, rfl, q⟩
def uLt (K : PySem.W.Frag) : R2 := fun x y H Q => match x, y with
  | .int i, .int j => Q (.bl (decide (i < j))) H
  | .ref a, .ref b => ∃ ns ms : List Int, SqT K H a (ns.map V.int) ∧ SqT K H b (ms.map V.int) ∧ Q (.bl (HT.lexLt ns ms)) H
  | _, _ => False
theorem o_lt (hu : X.A.units < cLine) : OpR X (compareOp .Lt) (uLt X.K) := by
  refine wR (orR op_lt (op_ltT hu)) fun x y H Q q => ?_
  unfold uLt at q
  split at q
  · exact .inl ⟨_, _, rfl, rfl, q⟩
  · obtain ⟨ns, ms, a, b, q⟩ := q
    exact .inr ⟨_, _, ns, ms, rfl, rfl, a, b, q⟩
  · exact q.elim
def uLe (K : PySem.W.Frag) : R2 := fun x y H Q => match x, y with
  | .int i, .int j => Q (.bl (decide (i ≤ j))) H
  | .ref a, .ref b => ∃ ns ms : List Int, SqT K H a (ns.map V.int) ∧ SqT K H b (ms.map V.int) ∧ Q (.bl (lexLe ns ms)) H
  | _, _ => False
theorem o_le (hu : X.A.units < cLine) : OpR X (compareOp .LtE) (uLe X.K) := by
  refine wR (orR op_le (op_leT hu)) fun x y H Q q => ?_
  unfold uLe at q
  split at q
  · exact .inl ⟨_, _, rfl, rfl, q⟩
  · obtain ⟨ns, ms, a, b, q⟩ := q
    exact .inr ⟨_, _, ns, ms, rfl, rfl, a, b, by rw [lexAt_le]; exact q⟩
  · exact q.elim
def uGe (K : PySem.W.Frag) : R2 := fun x y H Q => match x, y with
  | .int i, .int j => Q (.bl (decide (j ≤ i))) H
  | .ref a, .ref b => ∃ ns ms : List Int, SqT K H a (ns.map V.int) ∧ SqT K H b (ms.map V.int) ∧ Q (.bl (lexGe ns ms)) H
  | _, _ => False
theorem o_ge (hu : X.A.units < cLine) : OpR X (compareOp .GtE) (uGe X.K) := by
  refine wR (orR op_ge (op_geT hu)) fun x y H Q q => ?_
  unfold uGe at q
  split at q
  · exact .inl ⟨_, _, rfl, rfl, q⟩
  · obtain ⟨ns, ms, a, b, q⟩ := q
    exact .inr ⟨_, _, ns, ms, rfl, rfl, a, b, q⟩
  · exact q.elim
def uGt : R2 := fun x y H Q => match x, y with
  | .int i, .int j => Q (.bl (decide (j < i))) H
  | _, _ => False
def isNon : V → Bool
  | .non => true
  | _ => false
def uIs : R2 := fun x y H Q => match y with
  | .non => Q (.bl (isNon x)) H
  | .bl b => ∃ a, x = .bl a ∧ Q (.bl (decide (a = b))) H
  | _ => False
def uIsnt : R2 := fun x y H Q => match y with
  | .non => Q (.bl (!isNon x)) H
  | .bl b => ∃ a, x = .bl a ∧ Q (.bl (!decide (a = b))) H
  | _ => False
/-- in a list, a tuple of scalars; a dict -/
def uIn (K : PySem.W.Frag) : R2 := fun x y H Q => match y with
  | .ref a => (∃ xs, (SqL K H a xs ∨ SqT K H a xs) ∧ flatV x = true ∧ xs.all flatV = true ∧ Q (.bl (inV x xs)) H) ∨ ∃ o, DGet H a x o ∧ Q (.bl o.isSome) H
  | _ => False
def uNin (K : PySem.W.Frag) : R2 := fun x y H Q => match y with
  | .ref a => (∃ xs, (SqL K H a xs ∨ SqT K H a xs) ∧ flatV x = true ∧ xs.all flatV = true ∧ Q (.bl (!inV x xs)) H) ∨ ∃ o, DGet H a x o ∧ Q (.bl (!o.isSome)) H
  | _ => False
end ops
section subs
variable {X : Cx}
/-- a[b] of lists, tuples, texts -/
def uIx (K : PySem.W.Frag) : R2 := fun x y H Q => match x, y with
  | .ref p, .int i => ∃ xs v, (SqL K H p xs ∨ SqT K H p xs) ∧ atI xs i = some v ∧ Q v H
  | .str z, .int i => z.length ≤ sizeLine ∧ ∃ c, atI z.cps.toList i = some c ∧ Q (.str ⟨#[c]⟩) H
  | _, _ => False
theorem ix_u : IxR X (uIx X.K) := by
  intro value slice pins s σ H x y v u Q I rx ry h hs
  refine ix_seq value slice pins s σ H x y v u Q I rx ry ?_ hs
  unfold uIx at h
  split at h
  · obtain ⟨xs, v, e | e, g, q⟩ := h
    · exact .inl ⟨_, xs, _, v, rfl, rfl, e, g, q⟩
    · exact .inr (.inl ⟨_, xs, _, v, rfl, rfl, e, g, q⟩)
  · obtain ⟨z, c, e, q⟩ := h
    exact .inr (.inr ⟨_, _, c, rfl, rfl, z, e, q⟩)
  · exact h.elim
theorem e_ix {a b : Expr} {ta tb : TE} {pos : Pos} (ha : PE X a ta) (hb : PE X b tb) (hs : PlainIx b := by exact fun _ _ => rfl) : PE X (.Subscript a b pos) (tOp (uIx X.K) ta tb) := pe_ix ix_u ha hb hs
/-- a[lo:hi] -/
def uSl (K : PySem.W.Frag) : V → Option Int → Option Int → Hp → VK → Prop := fun x lo hi H Q => rSlL K x lo hi H Q ∨ rSlT K x lo hi H Q ∨ rSlS x lo hi H Q
theorem sl_u : SlR X (uSl X.K) := SlR.or sl_list (SlR.or sl_tup sl_str)
theorem e_sl {e : Expr} {lo hi : Option Expr} {te : TE} {tl th : TO} {p2 pos : Pos} (he : PE X e te) (hl : PO X lo tl) (hh : PO X hi th) : PE X (.Subscript e (.Slice lo hi none p2) pos) (tSl (uSl X.K) te tl th) := pe_slice sl_u he hl hh
/-- a[i] by values, for a[i] += e -/
def uGet (K : PySem.W.Frag) : V → V → Hp → VK → Prop := fun x y H Q => match x, y with
  | .ref p, .int i => (0 ≤ i ∧ ∃ xs v, SqL K H p xs ∧ xs[i.toNat]? = some v ∧ Q v H) ∨ ∃ v, DGet H p (.int i) (some v) ∧ Q v H
  | .ref p, y => ∃ v, DGet H p y (some v) ∧ Q v H
  | _, _ => False
end subs
section calls
variable {X : Cx}
/-- len -/
def uLen (K : PySem.W.Frag) : List V → Hp → VK → Prop := fun xs H Q => match xs with
  | [.ref p] => (∃ ys, (SqL K H p ys ∨ SqT K H p ys) ∧ Q (.int ys.length) H) ∨ ∃ kvs, H p = some (.dK kvs) ∧ Q (.int kvs.length) H
  | [.str z] => z.length ≤ sizeLine ∧ Q (.int z.length) H
  | _ => False
theorem c_len : CallR X (.builtin "len") (uLen X.K) := by
  refine wC (orC call_len_seq (orC call_len_str call_lenD)) fun xs H Q q => ?_
  unfold uLen at q
  split at q
  · rcases q with ⟨ys, a, q⟩ | ⟨kvs, a, q⟩
    · exact .inl ⟨_, ys, rfl, a, q⟩
    · exact .inr (.inr ⟨_, kvs, rfl, a, q⟩)
  · exact .inr (.inl ⟨_, rfl, q⟩)
  · exact q.elim
/-- list(x), tuple(x) -/
def uList (K : PySem.W.Frag) : List V → Hp → VK → Prop := fun xs H Q => match xs with
  | [.ref p] => ∃ ys, (SqL K H p ys ∨ SqT K H p ys) ∧ ∀ l, H l = none → Q (.ref l) (upd H l (.lst ys))
  | _ => False
theorem c_list : CallR X (.type "list") (uList X.K) := by
  refine wC call_list_of fun xs H Q q => ?_
  unfold uList at q
  split at q
  · obtain ⟨ys, a, q⟩ := q
    exact ⟨_, ys, rfl, a, q⟩
  · exact q.elim
def uTuple (K : PySem.W.Frag) : List V → Hp → VK → Prop := fun xs H Q => match xs with
  | [.ref p] => ∃ ys, (SqL K H p ys ∧ ∀ l, H l = none → Q (.ref l) (upd H l (.tup ys))) ∨ (SqT K H p ys ∧ Q (.ref p) H)
  | _ => False
theorem c_tuple : CallR X (.type "tuple") (uTuple X.K) := by
  refine wC call_tuple_of fun xs H Q q => ?_
  unfold uTuple at q
  split at q
  · obtain ⟨ys, q⟩ := q
    exact ⟨_, ys, rfl, q⟩
  · exact q.elim
def uAbs : List V → Hp → VK → Prop := fun xs H Q => match xs with
  | [.int i] => Q (.int (if i < 0 then -i else i)) H
  | _ => False
def uMax (K : PySem.W.Frag) : List V → Hp → VK → Prop := fun xs H Q => match xs with
  | [.int i, .int j] => Q (.int (if j > i then j else i)) H
  | [.ref a] => ∃ ns : List Int, SqL K H a (ns.map V.int) ∧ 0 < ns.length ∧ ∀ m, m ∈ ns → (∀ y, y ∈ ns → y ≤ m) → Q (.int m) H
  | _ => False
def uMin (K : PySem.W.Frag) : List V → Hp → VK → Prop := fun xs H Q => match xs with
  | [.int i, .int j] => Q (.int (if j < i then j else i)) H
  | [.ref a] => ∃ ns : List Int, SqL K H a (ns.map V.int) ∧ 0 < ns.length ∧ ∀ m, m ∈ ns → (∀ y, y ∈ ns → m ≤ y) → Q (.int m) H
  | _ => False
theorem c_min (hc : X.calm = true) : CallR X (.builtin "min") (uMin X.K) := by
  refine wC (orC (call_min2 hc) (cr_min hc)) fun xs H Q q => ?_
  unfold uMin at q
  split at q
  · exact .inl ⟨_, _, rfl, q⟩
  · obtain ⟨ns, a, b, c⟩ := q
    exact .inr ⟨_, ns, rfl, a, b, c⟩
  · exact q.elim
def uInt : List V → Hp → VK → Prop := fun xs H Q => match xs with
  | [.int i] => Q (.int i) H
  | [.bl k] => Q (.int (if k then 1 else 0)) H
  | _ => False
theorem c_int : CallR X (.type "int") uInt := by
  refine wC call_int1 fun xs H Q q => ?_
  unfold uInt at q
  split at q
  · exact .inl ⟨_, rfl, q⟩
  · exact .inr ⟨_, rfl, q⟩
  · exact q.elim
inductive Ty | int | bool | str | list | tuple | dict
def Ty.nm : Ty → String
  | .int => "int" | .bool => "bool" | .str => "str" | .list => "list" | .tuple => "tuple" | .dict => "dict"
/-- of a scalar -/
def isS : Ty → V → Bool
  | .int, .int _ => true
  | .int, .bl _ => true
  | .bool, .bl _ => true
  | .str, .str _ => true
  | _, _ => false
/-- of an object that is a list, a tuple, a dict -/
inductive Ob | list | tuple | dict
def Ob.nm : Ob → String
  | .list => "list" | .tuple => "tuple" | .dict => "dict"
def isO : Ty → Ob → Bool
  | .list, .list => true
  | .tuple, .tuple => true
  | .dict, .dict => true
  | _, _ => false
def uIsi (K : PySem.W.Frag) (n : Ty) : List V → Hp → VK → Prop := fun xs H Q => match xs with
  | [.int i, .ty m] => m = n.nm ∧ Q (.bl (isS n (.int i))) H
  | [.bl i, .ty m] => m = n.nm ∧ Q (.bl (isS n (.bl i))) H
  | [.str i, .ty m] => m = n.nm ∧ Q (.bl (isS n (.str i))) H
  | [.non, .ty m] => m = n.nm ∧ Q (.bl (isS n .non)) H
  | [.ref a, .ty m] => m = n.nm ∧ ∃ o : Ob, TyX K H (.ref a) (.type o.nm) ∧ Q (.bl (isO n o)) H
  | _ => False
theorem kit_int : ∀ n : Ty, kitB "int" n.nm = some (isS n (.int 0)) := fun n => by cases n <;> decide +kernel
theorem kit_bool : ∀ n : Ty, kitB "bool" n.nm = some (isS n (.bl true)) := fun n => by cases n <;> decide +kernel
theorem kit_str : ∀ n : Ty, kitB "str" n.nm = some (isS n (.str Str.empty)) := fun n => by cases n <;> decide +kernel
theorem kit_non : ∀ n : Ty, kitB "NoneType" n.nm = some (isS n .non) := fun n => by cases n <;> decide +kernel
theorem kit_obj : ∀ (n : Ty) (o : Ob), kitB o.nm n.nm = some (isO n o) := fun n o => by cases n <;> cases o <;> decide +kernel
theorem c_isi (n : Ty) : CallR X (.builtin "isinstance") (uIsi X.K n) := by
  refine wC call_isi fun xs H Q q => ?_
  unfold uIsi at q
  split at q
  · obtain ⟨rfl, q⟩ := q
    exact ⟨_, _, .type "int", .type n.nm, _, rfl, .ty n.nm, .base (.int _), kit_ty (kit_int n), by cases n <;> exact q⟩
  · obtain ⟨rfl, q⟩ := q
    exact ⟨_, _, .type "bool", .type n.nm, _, rfl, .ty n.nm, .base (.bl _), kit_ty (kit_bool n), by cases n <;> exact q⟩
  · obtain ⟨rfl, q⟩ := q
    exact ⟨_, _, .type "str", .type n.nm, _, rfl, .ty n.nm, .base (.str _), kit_ty (kit_str n), by cases n <;> exact q⟩
  · obtain ⟨rfl, q⟩ := q
    exact ⟨_, _, .type "NoneType", .type n.nm, _, rfl, .ty n.nm, .base .non, kit_ty (kit_non n), by cases n <;> exact q⟩
  · obtain ⟨rfl, o, t, q⟩ := q
    exact ⟨_, _, .type o.nm, .type n.nm, _, rfl, .ty n.nm, t, kit_ty (kit_obj n o), q⟩
  · exact q.elim
end calls
section own
variable {X : Cx} {k : Nat} {f C : Addr} {fd : FuncData} {ps : List Str} {sp : Sp} {W : WX} {x m : Str} {p pos apos : Pos} {e o : Expr} {es : List Expr} {ta : TE} {t : TA}
def uCall (sp : Sp) (W : WX) (t : TA) : TE := fun σ H Q => t σ H fun vs H1 => sp vs H1 Q fun c d H2 => W c d σ H2
theorem e_call (F : FnOk X.prog X.w X.K X.mg X.base (L2.CX X.prog X.w) k f fd ps sp) (hr : Room k X.A) (hm : X.mg x = some (.ref f)) (hk : PySem.W.keepIn X.K (.ref f) = true) (hb : Binds X.K fd ps []) (tk : Takes X W)
    (ha : PA X (e :: es) t) (hg : Gl X x := by rfl) (hdb : (x == ("__debug__" : Str)) = false := by decide) (he : starEach (e :: es) X.env = (false, eval e X.env) :: starEach es X.env := by rfl) (hpl : (backTo pos (starEach es X.env)).any (·.1) = false := by rfl) :
    PE X (.Call (.Name x p) (e :: es) [] pos) (uCall sp W t) := pe_callS (E := WE W) F hr hg hm hk hb (fun σ => passAt tk σ) ha hdb he hpl
/-- o.m(..) -/
def uMeth (C : Addr) (m : Str) (sp : Sp) (W : WX) (ta : TE) (t : TA) : TE := fun σ H Q => ta σ H fun x H1 => ∃ a dx fs, x = .ref a ∧ H1 a = some (.ins C dx fs) ∧ fs.lookup m = none ∧
  t σ H1 fun vs H2 => sp (x :: vs) H2 Q fun c d H3 => W c d σ H3
theorem e_meth {pl : Sem Bool} (ho : PE X o ta) (c : Cls X.K C) (hm : Meth X.K C m f) (F : FnOk X.prog X.w X.K X.mg X.base (L2.CX X.prog X.w) k f fd ps sp) (hr : Room k X.A) (hb : Binds X.K fd ps []) (tk : Takes X W) (ha : PA X (e :: es) t)
    (hst : starEach (e :: es) X.env = (false, eval e X.env) :: starEach es X.env := by rfl) (hpl : (backTo pos (starEach es X.env)).any (·.1) = false := by rfl)
    (ht : eval (.Call (.Attribute o m apos) (e :: es) [] pos) X.env = (do let ov ← eval o X.env; standAt apos.atName; let (f, first) ← holding [ov] (getMethod ov m pl); callWith pos f first (backTo pos (starEach (e :: es) X.env)) (backToKw pos (keywordEach [] X.env))) := by rfl) :
    PE X (.Call (.Attribute o m apos) (e :: es) [] pos) (uMeth C m sp W ta t) := by
  refine ⟨fun pins s σ H Q I h => PySem.W.methodCall_KW (pl := pl) (thn (ho.run pins s σ H _ I h) fun u s1 hh => ?_) ht⟩
  obtain ⟨x, H1, I1, rx, a, dx, fs, rfl, ea, l, q⟩ := hh
  cases (show u = Value.ref a from rx)
  refine getmeth_ok I1 ea c hm l (PySem.W.callWith_K (first := [.ref a]) (h₀ := X.base) I.ok.mod.kin hm.kp (thn (ha.run pos pins s1 σ H1 _ I1 q) fun us s2 hh => ?_) hst hpl)
  obtain ⟨vs, H2, I2, r, q2⟩ := hh
  exact ⟨I2.kIn, run_fnS (us := .ref a :: us) (vs := .ref a :: vs) (E := WE W) F hr hb (passAt tk σ) I2 (.cons rfl r) q2⟩
/-- what a body wants of exceptions, as a wish -/
abbrev WB (E : XK) : WX := fun c d _ H => E c d H
/-- C(..), what is raised goes to W at the slots -/
def uMake (C : Addr) (sp : Sp) (W : WX) (t : TA) : TE := fun σ H Q => t σ H fun vs H1 => ∀ x dx, H1 x = none → H1 dx = none → dx ≠ x → sp (.ref x :: vs) (upd (upd H1 dx (.own x)) x (.ins C dx [])) (fun v H2 => v = .non ∧ Q (.ref x) H2) fun c d H2 => W c d σ H2
theorem make_at {pins : List (Addr × Obj)} {σ : L2.St} {H : Hp} {s : Shared} {Q : VK} {us : List Value} {vs : List V} (M : Mk X.K C f) (F : FnOk X.prog X.w X.K X.mg X.base (L2.CX X.prog X.w) k f fd ps sp) (hr : Room (k + 1) X.A) (hb : Binds X.K fd ps []) (tk : Takes X W)
    (I : Inv X pins σ H s) (r : Vals vs us)
    (h : ∀ x dx, H x = none → H dx = none → dx ≠ x → sp (.ref x :: vs) (upd (upd H dx (.own x)) x (.ins C dx [])) (fun v H2 => v = .non ∧ Q (.ref x) H2) fun c d H2 => W c d σ H2) :
    wpAny (model X.prog X.w) X.A (call (.ref C) us) (EP X pins σ Q) X.xe s := by
  let n := s.heap.objs.size
  have q0 : sp (.ref (n + 1) :: vs) _ _ _ := h (n + 1) n (I.hok.fresh (Nat.le_succ n)) (I.hok.fresh (Nat.le_refl n)) (Nat.ne_of_lt n.lt_succ_self)
  have J := Inv.made (C := C) I
  have rr : Vals (V.ref (n + 1) :: vs) (Value.ref (n + 1) :: us) := .cons rfl r
  have size : (Value.ref (n + 1) :: us).length = ps.length := rr.length.symm.trans (F.len _ _ _ _ q0)
  have go := F.run _ X.stack _ _ ⟨Value.ref (n + 1) :: us, []⟩ (Value.ref (n + 1) :: us) _ _ _ (hr.make C us []) (J.env0.make C us []) (by have z := hb _ (Value.ref (n + 1) :: us) J.kIn (by rw [List.append_nil]; exact size); rw [List.append_nil] at z; exact z) rr q0
  refine wpAny_call (make_map (f := f) I.kIn M.makes M.init (beq_iff_eq.mp M.fn) (codeAny_mono go ?_))
  rintro (e | fl) s' hq
  · exact passAt tk σ pins _ _ e s' J hq
  · cases fl with
    | ret u =>
      obtain ⟨v, H', I3, rv, ev, z⟩ := J.after hq
      cases ev
      exact ⟨rv, .ref (n + 1), H', I3, rfl, z⟩
    | next => exact hq.elim
    | brk => exact hq.elim
    | cont => exact hq.elim
theorem e_mk (M : Mk X.K C f) (F : FnOk X.prog X.w X.K X.mg X.base (L2.CX X.prog X.w) k f fd ps sp) (hr : Room (k + 1) X.A) (hm : X.mg x = some (.ref C)) (hb : Binds X.K fd ps []) (tk : Takes X W) (ha : PA X (e :: es) t)
    (hg : Gl X x := by rfl) (hdb : (x == ("__debug__" : Str)) = false := by decide) (he : starEach (e :: es) X.env = (false, eval e X.env) :: starEach es X.env := by rfl) (hpl : (backTo pos (starEach es X.env)).any (·.1) = false := by rfl) :
    PE X (.Call (.Name x p) (e :: es) [] pos) (uMake C sp W t) :=
  ⟨fun pins s σ H Q I h => wpAny_Call_Name_kw (ld_glob I hg hm (PySem.W.callWith_K (h₀ := X.base) I.ok.mod.kin M.kp (thn (ha.run pos pins s σ H _ I h) fun us s1 hh => by
    obtain ⟨vs, H1, I1, r, q⟩ := hh
    exact ⟨I1.kIn, make_at M F hr hb tk I1 r q⟩) he hpl) hdb)⟩
/-- what the top has of an own exception class -/
structure Exc (K : PySem.W.Frag) (mg : Str → Option Value) (n : Str) (C : Addr) : Prop where
  ex : PySem.W.excIn K C [.type "ValueError", .type "Exception", .type "BaseException", .type "object"] "ValueError.__new__" = true
  g : mg n = some (.ref C)
  kp : PySem.W.keepIn K (.ref C) = true
  sub : PySem.W.subIn K (.ref C) (.type "BaseException") = some true
  ty : PySem.W.typeIn K (.ref C) = some (.type "type")
def uRaise (C : Addr) (W : WX) : TS := fun _ σ H => W (.ref C) none σ H
theorem pmk0 {n : Str} (T : Exc X.K X.mg n C) (hg : Gl X n := by rfl) (hdb : (n == ("__debug__" : Str)) = false := by decide) : PMk X (.Call (.Name n p) [] [] pos) (fun _ H Q => Q (.ref C) none H) := by
  intro pins s σ H Q I h
  refine wpAny_Call_Name_kw (ld_glob I hg T.g (PySem.W.callWith_K0 I.kIn T.kp ?_) hdb)
  obtain ⟨bm, N, nm, qn, bs, hdct, sn, sub, ab, col, dd, k0, k1, k2, k3, k5, mN, hC, hN, hni, Z⟩ := exc_obj I.kIn T.ex
  exact wpAny_call_exc_subT PySem.F.excBase_ValueError Z hC hN hni (fun h' e hm => mk_of I hm (raises_own T.sub T.ty) h (I.hok.gone hm.new)) (Nat.zero_le _)
theorem s_raise {n : Str} (T : Exc X.K X.mg n C) (tk : Takes X W) {pos2 : Pos} (hc : X.calm = true := by rfl) (hg : Gl X n := by rfl) (hdb : (n == ("__debug__" : Str)) = false := by decide) :
    PS X (.Raise (some (.Call (.Name n p) [] [] pos)) none pos2) (uRaise C W) := ps_raise hc tk (pmk0 T hg hdb)
end own
section tries
variable {X : Cx} {x n : Str} {c : Value} {i : Nat} {body suite : List Stmt} {b₀ : Stmt} {np pos pos' : Pos} {tb : WX → TS} {ts : Addr → Value → Option Addr → TS} {W : WX}
def uTryAs (K : PySem.W.Frag) (c : Value) (i : Nat) (tb : WX → TS) (ts : Addr → Value → Option Addr → TS) (W : WX) : TS := fun D σ H => tb (wAs K c i ts W D) D σ H
def uTry (K : PySem.W.Frag) (c : Value) (tb : WX → TS) (ts : Addr → Value → Option Addr → TS) (W : WX) : TS := fun D σ H => tb (wOnly K c ts W D) D σ H
theorem s_tryAs (hs : X.stack = X.env :: X.outer) (hf : X.env.frame = some X.env.locals) (hN : X.N.Nodup) (hi : X.N[i]? = some n) (hln : X.env.kindOf n = some .local) (hc : Names X x c) (tk : Takes X W)
    (hb : ∀ (W' : WX) (pn : List (Addr × Obj)) (xe : Value → Shared → Prop), Takes (X.tr pn xe) W' → PassesOwn (model X.prog X.w) X.A X.env xe → PSs (X.tr pn xe) body (tb W'))
    (hsu : ∀ (a : Addr) (oe : Obj) (cls : Value) (d : Option Addr) (pn : List (Addr × Obj)), Zc cls d oe → (∃ vs, oe.data = .fields vs) → PSs (X.suite a ((a, oe) :: pn)) (b₀ :: suite) (ts a cls d)) :
    PS X (.Try body [.ExceptHandler (some (.Name x np)) (some n) (b₀ :: suite) pos'] [] [] pos) (uTryAs X.K c i tb ts W) := ps_try_as hs hf hN hi hln hc tk hb hsu
theorem w_tryAs {K : PySem.W.Frag} {D : Ends} {σ : L2.St} {H : Hp} (h : tb (wAs K c i ts W D) D σ H) : uTryAs K c i tb ts W D σ H := h
theorem w_try {K : PySem.W.Frag} {D : Ends} {σ : L2.St} {H : Hp} (h : tb (wOnly K c ts W D) D σ H) : uTry K c tb ts W D σ H := h
theorem w_asT {K : PySem.W.Frag} {D : Ends} {σ : L2.St} {H : Hp} {cls : Value} {d : Option Addr} (e : PySem.W.exmOne K cls c = some true)
    (h : ∀ a, H a = none → ts a cls d { nx := fun σ' H' => D.nx (σ'.set i none) H', rt := D.rt, bk := fun σ' H' => D.bk (σ'.set i none) H', ct := fun σ' H' => D.ct (σ'.set i none) H' } (σ.set i (some (.ref a))) H) :
    wAs K c i ts W D cls d σ H := ⟨true, e, fun _ => h, fun q => Bool.noConfusion q⟩
theorem w_asF {K : PySem.W.Frag} {D : Ends} {σ : L2.St} {H : Hp} {cls : Value} {d : Option Addr} (e : PySem.W.exmOne K cls c = some false) (h : W cls d σ H) : wAs K c i ts W D cls d σ H := ⟨false, e, fun q => Bool.noConfusion q, fun _ => h⟩
theorem w_onT {K : PySem.W.Frag} {D : Ends} {σ : L2.St} {H : Hp} {cls : Value} {d : Option Addr} (e : PySem.W.exmOne K cls c = some true) (h : ∀ a, H a = none → ts a cls d D σ H) : wOnly K c ts W D cls d σ H := ⟨true, e, fun _ => h, fun q => Bool.noConfusion q⟩
theorem w_onF {K : PySem.W.Frag} {D : Ends} {σ : L2.St} {H : Hp} {cls : Value} {d : Option Addr} (e : PySem.W.exmOne K cls c = some false) (h : W cls d σ H) : wOnly K c ts W D cls d σ H := ⟨false, e, fun q => Bool.noConfusion q, fun _ => h⟩
/-- isinstance(e, C) of the exception that a suite holds -/
def uIsE (K : PySem.W.Frag) (a : Addr) (cls : Value) (d : Option Addr) : List V → Hp → VK → Prop := fun xs H Q => ∃ (D C : Addr) (b : Bool), cls = .ref D ∧ d = none ∧ ExcC K D ∧ xs = [.ref a, .ref C] ∧ PySem.W.kitOne K (.ref D) (.ref C) = some b ∧ Q (.bl b) H
theorem c_isE {a : Addr} {oe : Obj} {cls : Value} {d : Option Addr} {pn : List (Addr × Obj)} (hz : Zc cls d oe) (hf : ∃ vs, oe.data = .fields vs) : CallR (X.suite a ((a, oe) :: pn)) (.builtin "isinstance") (uIsE X.K a cls d) := by
  intro pins s σ H xs us Q I r h
  obtain ⟨D, C, b, rfl, rfl, x, rfl, e, q⟩ := h
  exact call_isE x hz hf pins s σ H _ us Q I r ⟨.ref C, .ref C, b, rfl, fun u h => h, e, q⟩
theorem w_isE {K : PySem.W.Frag} {H : Hp} {Q : VK} {a D C : Addr} {b : Bool} (x : ExcC K D) (e : PySem.W.kitOne K (.ref D) (.ref C) = some b) (h : Q (.bl b) H) : uIsE K a (.ref D) none [.ref a, .ref C] H Q := ⟨D, C, b, rfl, rfl, x, rfl, e, h⟩
theorem kit_ne {K : PySem.W.Frag} {R A : Addr} {b : Bool} (n : (Value.ref R == Value.ref A) = false) (h1 : PySem.W.subIn K (.ref A) (.type "BaseException") = some true) (hd : PySem.W.hasDictIn K A = true) (ht : PySem.W.typeIn K (.ref A) = some (.type "type")) (h4 : PySem.W.subIn K (.ref R) (.ref A) = some b) : PySem.W.kitOne K (.ref R) (.ref A) = some b := by
  have z := PySem.W.exm_ref h1 hd ht h4
  have e1 : (PySem.W.subIn K (.ref A) (.type "BaseException") == some true) = true := by rw [h1]; rfl
  unfold PySem.W.exmOne at z
  rw [if_pos e1] at z
  unfold PySem.W.kitOne
  rw [if_neg (by rw [n]; exact Bool.false_ne_true)]
  exact z
theorem kit_same {K : PySem.W.Frag} {R : Addr} : PySem.W.kitOne K (.ref R) (.ref R) = some true := by
  unfold PySem.W.kitOne
  rw [if_pos (beq_self_eq_true _)]
end tries
section fields
variable {X : Cx} {C : Addr} {f : Str} {e o v : Expr} {ta tv : TE} {pos pos' : Pos}
def uFld (C : Addr) (f : Str) (ta : TE) : TE := fun σ H Q => ta σ H fun x H1 => ∃ a dx fs v, x = .ref a ∧ H1 a = some (.ins C dx fs) ∧ fs.lookup f = some v ∧ Q v H1
theorem e_fld (c : Cls X.K C) (n : NoAttr X.K C f) (he : PE X e ta) (hb : attributeBase e f X.env (eval e X.env) = eval e X.env := by rfl) : PE X (.Attribute e f pos) (uFld C f ta) :=
  ⟨fun pins s σ H Q I h => attr_of hb (thn (he.run pins s σ H _ I h) fun u s1 hh => by
    obtain ⟨x, H1, I1, rx, a, dx, fs, v, rfl, ea, l, q⟩ := hh
    cases (show u = Value.ref a from rx)
    exact getattr_ok I1 ea c n l fun u' s2 I2 ru => ⟨v, H1, I2, ru, q⟩)⟩
def uSetF (C : Addr) (f : Str) (ta tv : TE) : TS := fun D σ H => tv σ H fun y H1 => ta σ H1 fun x H2 => ∃ a dx fs, x = .ref a ∧ H2 a = some (.ins C dx fs) ∧ fs.length < 1000 ∧ D.nx σ (upd H2 a (.ins C dx (putF f y fs)))
theorem s_fld (c : Cls X.K C) (n : NoAttr X.K C f) (ho : PE X o ta) (hv : PE X v tv) (hs : swapsWith v (some (.Attribute o f pos')) pos.line X.env = pure false := by rfl) : PS X (.Assign [.Attribute o f pos'] v pos) (uSetF C f ta tv) :=
  ⟨fun pins s σ H D I h => plainObj_wpAny_Assign_Attribute (thn (hv.run pins s σ H _ I h) fun u s1 ⟨y, H1, I1, ry, q⟩ => thn (ho.run pins s1 σ H1 _ I1 q) fun ov s2 hh => by
    obtain ⟨x, H2, I2, rx, a, dx, fs, rfl, ea, l, q2⟩ := hh
    cases (show ov = Value.ref a from rx)
    exact setattr_ok I2 ea c n l ry fun s3 I3 => ⟨σ, _, I3, q2⟩) hs⟩
/-- o.f += e -/
def uAugF (C : Addr) (f : Str) (r : V → V → Hp → VK → Prop) (ta tv : TE) : TS := fun D σ H => ta σ H fun x H1 => ∃ a dx fs v, x = .ref a ∧ H1 a = some (.ins C dx fs) ∧ fs.lookup f = some v ∧
  tv σ H1 fun y H2 => r v y H2 fun z H3 => ∃ dx' fs', H3 a = some (.ins C dx' fs') ∧ fs'.length < 1000 ∧ D.nx σ (upd H3 a (.ins C dx' (putF f z fs')))
theorem s_augf {op : Operator} {r : V → V → Hp → VK → Prop} {tpos : Pos} (c : Cls X.K C) (n : NoAttr X.K C f) (ho : PE X o ta) (hv : PE X v tv) (hop : InOp X op r) : PS X (.AugAssign (.Attribute o f tpos) op v pos) (uAugF C f r ta tv) :=
  ⟨fun pins s σ H D I h => wpAny_AugAssign_AttributeAny (thn (ho.run pins s σ H _ I h) fun ov s1 hh => by
    obtain ⟨x, H1, I1, rx, a, dx, fs, v, rfl, ea, l, q⟩ := hh
    cases (show ov = Value.ref a from rx)
    refine getattr_ok I1 ea c n l fun u s2 I2 ru => thn (hv.run pins s2 σ H1 _ I2 q) fun w3 s3 hh => ?_
    obtain ⟨y, H2, I3, ry, q3⟩ := hh
    refine thn (hop pins s3 σ H2 v y u w3 _ I3 ru ry q3) fun w4 s4 hh => ?_
    obtain ⟨z, H3, I4, rz, dx', fs', ea', l', q4⟩ := hh
    exact setattr_ok I4 ea' c n l' rz fun s5 I5 => ⟨σ, _, I5, q4⟩)⟩
end fields
section truth
variable {X : Cx} {e : Expr} {te : TE}
def truV (K : PySem.W.Frag) (x : V) (H1 : Hp) (Q : Bool → Hp → Prop) : Prop := match x with
  | .bl b => Q b H1
  | .non => Q false H1
  | .int i => Q (!decide (i = 0)) H1
  | .str z => z.length ≤ sizeLine ∧ Q (!decide (z.length = 0)) H1
  | .ref p => (∃ xs, (SqL K H1 p xs ∨ SqT K H1 p xs) ∧ Q (!xs.isEmpty) H1) ∨ ∃ kvs, H1 p = some (.dK kvs) ∧ Q (!kvs.isEmpty) H1
  | _ => False
def uTru (K : PySem.W.Frag) (te : TE) : TT := fun σ H Q => te σ H fun x H1 => truV K x H1 Q
theorem t_tru (he : PE X e te) (hw : ∀ whole, isTrue e X.env whole = (do let v ← whole; standAt e.pos; holding [v] (truthy v)) := by intro _; rfl) : PT X e (uTru X.K te) := by
  refine ⟨fun pins s σ H Q I h => isTrue_plain (thn (he.run pins s σ H _ I h) fun v s1 hh => ?_) (hw _)⟩
  obtain ⟨x, H1, I1, r1, q⟩ := hh
  refine tru_ok pins s1 σ H1 x v Q I1 r1 ?_
  unfold truV at q
  split at q
  · exact ⟨_, rfl, q⟩
  · exact ⟨_, rfl, q⟩
  · rename_i i
    refine ⟨_, rfl, ?_⟩
    rw [show (i != 0) = !decide (i = 0) by rw [bne, Bool.beq_eq_decide_eq]]
    exact q
  · rename_i z
    refine ⟨_, ⟨q.1, rfl⟩, ?_⟩
    rw [show ((z.length : Int) != 0) = !decide (z.length = 0) by rw [bne, Bool.beq_eq_decide_eq]; congr 1; exact decide_eq_decide.mpr (by omega)]
    exact q.2
  · rcases q with ⟨xs, a | a, q⟩ | ⟨kvs, a, q⟩
    · exact ⟨_, .inl ⟨xs, a, rfl⟩, q⟩
    · exact ⟨_, .inr (.inl ⟨xs, a, rfl⟩), q⟩
    · exact ⟨_, .inr (.inr ⟨kvs, a, rfl⟩), q⟩
  · exact q.elim
end truth
def forQ (g : TG) (tb : TS) (D : Ends) (σ : L2.St) (J : It) (H1 : Hp) : Prop := ∃ W : Nat → Nat → L2.St → Hp → Prop, (∃ m, W 0 m σ H1) ∧ ∀ i m σ H, W i m σ H →
  (J.stop i H ∧ D.nx σ H) ∨ (J.go i H ∧ ∃ N : L2.St → Hp → Prop, (∀ σ' H', N σ' H' → ∃ m', m' < m ∧ W (i + 1) m' σ' H') ∧ ∀ x H', J.yld i H x H' → g x σ H' fun σ2 H2 => tb { D with nx := N, ct := N, bk := D.nx } σ2 H2)
def newT (xs : List V) (H1 : Hp) (Q : VK) : Prop := xs.length ≤ sizeLine ∧ ∀ p, H1 p = none → Q (.ref p) (upd H1 p (.tup xs))
def newL (xs : List V) (H1 : Hp) (Q : VK) : Prop := xs.length ≤ sizeLine ∧ ∀ p, H1 p = none → Q (.ref p) (upd H1 p (.lst xs))
def bmQ (K : PySem.W.Frag) (T : String) (q : V → List V → Hp → VK → Prop) (tA : TA) (σ : L2.St) (x : V) (H1 : Hp) (Q : VK) : Prop := tyV K T x H1 ∧ tA σ H1 fun xs H2 => q x xs H2 Q
def rng1Q (vs : List V) (H1 : Hp) (R : It → Hp → Prop) : Prop := ∃ j : Int, vs = [.int j] ∧ -(2 ^ 62) ≤ j ∧ j < 2 ^ 62 ∧ R (Itr 0 j.toNat) H1
def rng2Q (vs : List V) (H1 : Hp) (R : It → Hp → Prop) : Prop := ∃ i j : Int, vs = [.int i, .int j] ∧ (-(2 ^ 62) ≤ i ∧ i < 2 ^ 62 ∧ -(2 ^ 62) ≤ j ∧ j < 2 ^ 62) ∧ R (Itr i (j - i).toNat) H1
def listQ (K : PySem.W.Frag) (x : V) (H1 : Hp) (R : It → Hp → Prop) : Prop := ∃ a, x = .ref a ∧ (∃ xs, SqL K H1 a xs) ∧ R (Itl K a) H1
def tupQ (K : PySem.W.Frag) (x : V) (H1 : Hp) (R : It → Hp → Prop) : Prop := ∃ a, x = .ref a ∧ (∃ xs, SqT K H1 a xs) ∧ R (Itt K a) H1
def strQ (x : V) (H1 : Hp) (R : It → Hp → Prop) : Prop := ∃ z, x = .str z ∧ R (Its z) H1
def revQ (K : PySem.W.Frag) (vs : List V) (H1 : Hp) (R : It → Hp → Prop) : Prop := ∃ (a : Addr) (xs : List V), vs = [.ref a] ∧ SqL K H1 a xs ∧ R (Itv K a xs.length) H1
def fldQ (C : Addr) (f : Str) (x : V) (H1 : Hp) (Q : VK) : Prop := ∃ a dx fs v, x = .ref a ∧ H1 a = some (.ins C dx fs) ∧ fs.lookup f = some v ∧ Q v H1
def methQ (C : Addr) (m : Str) (sp : Sp) (W : WX) (t : TA) (σ : L2.St) (x : V) (H1 : Hp) (Q : VK) : Prop := ∃ a dx fs, x = .ref a ∧ H1 a = some (.ins C dx fs) ∧ fs.lookup m = none ∧ t σ H1 fun vs H2 => sp (x :: vs) H2 Q fun c d H3 => W c d σ H3
def setfQ (C : Addr) (f : Str) (x y : V) (H2 : Hp) (N : Hp → Prop) : Prop := ∃ a dx fs, x = .ref a ∧ H2 a = some (.ins C dx fs) ∧ fs.length < 1000 ∧ N (upd H2 a (.ins C dx (putF f y fs)))
section steps
variable {K : PySem.W.Frag} {D : Ends} {σ : L2.St} {H : Hp} {Q : VK} {QB : Bool → Hp → Prop} {QA : List V → Hp → Prop} {t u : TS} {te ta tb tv : TE} {tA : TA} {c c1 c2 : TT} {g : TG} {i : Nat} {v x y : V} {r r' : R2} {W : WX} {sp : Sp} {b : Bool} {C a : Addr} {f : Str}
theorem w_seq (h : t { D with nx := u D } σ H) : tSeq t u D σ H := h
theorem w_next (h : D.nx σ H) : tNext D σ H := h
theorem w_asg (h : te σ H fun x H1 => g x σ H1 D.nx) : tAsg te g D σ H := h
theorem w_name {N : L2.St → Hp → Prop} (h : N (σ.set i (some v)) H) : gName i v σ H N := h
theorem w_ret (h : te σ H D.rt) : tRet te D σ H := h
theorem w_retN (h : D.rt .non H) : tRetN D σ H := h
theorem w_if (h : c σ H fun b H1 => if b = true then t D σ H1 else u D σ H1) : tIfS c t u D σ H := h
theorem w_drop (h : te σ H fun _ H1 => D.nx σ H1) : tDrop te D σ H := h
theorem w_brk (h : D.bk σ H) : tBreak D σ H := h
theorem w_cont (h : D.ct σ H) : tCont D σ H := h
theorem w_aug {ti : TIp} (e : σ[i]? = some (some x)) (h : te σ H fun y H1 => ti x y H1 fun z H2 => D.nx (σ.set i (some z)) H2) : tAug i te ti D σ H := ⟨x, e, h⟩
theorem w_ipI {k : Int → Int → Int} {m n : Int} (h : Q (.int (k m n)) H) : ipI k (.int m) (.int n) H Q := ⟨m, n, rfl, rfl, h⟩
theorem w_test (h : te σ H fun x H1 => ∃ k, x = .bl k ∧ QB k H1) : tTest te σ H QB := h
theorem w_not (h : c σ H fun k H1 => QB (!k) H1) : tNot c σ H QB := h
theorem w_and (h : c1 σ H fun k H1 => if k = true then c2 σ H1 QB else QB false H1) : tAnd c1 c2 σ H QB := h
theorem w_or (h : c1 σ H fun k H1 => if k = true then QB true H1 else c2 σ H1 QB) : tOr c1 c2 σ H QB := h
theorem w_andV (h : ta σ H fun x H1 => ∃ k, x = .bl k ∧ if k = true then tb σ H1 Q else Q (.bl false) H1) : tAndV ta tb σ H Q := h
theorem w_orV (h : ta σ H fun x H1 => ∃ k, x = .bl k ∧ if k = true then Q (.bl true) H1 else tb σ H1 Q) : tOrV ta tb σ H Q := h
theorem w_notV (h : ta σ H fun x H1 => ∃ k, x = .bl k ∧ Q (.bl (!k)) H1) : tNotV ta σ H Q := h
theorem w_blP {P : Bool → Prop} (h : P b) : ∃ k, V.bl b = .bl k ∧ P k := ⟨b, rfl, h⟩
theorem w_ifE (h : c σ H fun k H1 => if k = true then ta σ H1 Q else tb σ H1 Q) : tIf c ta tb σ H Q := h
theorem w_var (e : σ[i]? = some (some v)) (h : Q v H) : tVar i σ H Q := ⟨v, e, h⟩
theorem w_c (h : Q v H) : tC v σ H Q := h
theorem w_op (h : ta σ H fun x H1 => tb σ H1 fun y H2 => r x y H2 Q) : tOp r ta tb σ H Q := h
theorem w_un {ru : V → Hp → VK → Prop} (h : ta σ H fun x H1 => ru x H1 Q) : tUn ru ta σ H Q := h
theorem w_neg {m : Int} (h : Q (.int (-m)) H) : uNeg (.int m) H Q := h
theorem w_chain {tc : TE} (h : ta σ H fun x H1 => tb σ H1 fun y H2 => r x y H2 fun z H3 => ∃ k, z = .bl k ∧ if k = true then tc σ H3 fun w H4 => r' y w H4 Q else Q (.bl false) H3) : tChain r r' ta tb tc σ H Q := h
theorem w_cons (h : te σ H fun x H1 => tA σ H1 fun xs H2 => QA (x :: xs) H2) : tCons te tA σ H QA := h
theorem w_nil (h : QA [] H) : tNil σ H QA := h
theorem w_tup (h : tA σ H fun xs H1 => newT xs H1 Q) : tTup tA σ H Q := h
theorem w_lst (h : tA σ H fun xs H1 => newL xs H1 Q) : tLst tA σ H Q := h
theorem small9 {n : Nat} (h : n ≤ 100000) : n ≤ sizeLine := Nat.le_trans h (by decide)
theorem w_newT {xs : List V} (s : xs.length ≤ 100000) (h : ∀ p, H p = none → Q (.ref p) (upd H p (.tup xs))) : newT xs H Q := ⟨small9 s, h⟩
theorem w_newL {xs : List V} (s : xs.length ≤ 100000) (h : ∀ p, H p = none → Q (.ref p) (upd H p (.lst xs))) : newL xs H Q := ⟨small9 s, h⟩
theorem w_add {m n : Int} (h : Q (.int (m + n)) H) : uAdd K (.int m) (.int n) H Q := h
theorem w_sub {m n : Int} (h : Q (.int (m - n)) H) : uSub (.int m) (.int n) H Q := h
theorem w_mul {m n : Int} (s : CMul m n) (h : Q (.int (m * n)) H) : uMul (.int m) (.int n) H Q := ⟨.inl s, h⟩
theorem w_div {m n : Int} (s : 0 < n ∧ n < 2 ^ 200) (h : Q (.int (m / n)) H) : uDiv (.int m) (.int n) H Q := ⟨s, h⟩
theorem w_mod {m n : Int} (s : 0 < n) (h : Q (.int (m % n)) H) : uMod (.int m) (.int n) H Q := ⟨s, h⟩
theorem w_pow {m n : Int} (s : CPow m n) (h : Q (.int (m ^ n.toNat)) H) : uPow (.int m) (.int n) H Q := ⟨s, h⟩
theorem w_eqI {m n : Int} (h : Q (.bl (decide (m = n))) H) : uEq K (.int m) (.int n) H Q := h
theorem w_eqS {m n : Str} (h : Q (.bl (decide (m = n))) H) : uEq K (.str m) (.str n) H Q := h
theorem w_eqB {m n : Bool} (h : Q (.bl (decide (m = n))) H) : uEq K (.bl m) (.bl n) H Q := h
theorem w_eqNI {n : Int} (h : Q (.bl false) H) : uEq K .non (.int n) H Q := .inl ⟨rfl, h⟩
theorem w_neNI {n : Int} (h : Q (.bl true) H) : uNe K .non (.int n) H Q := .inl ⟨rfl, h⟩
theorem w_eqIN {n : Int} (h : Q (.bl false) H) : uEq K (.int n) .non H Q := .inl ⟨rfl, h⟩
theorem w_neIN {n : Int} (h : Q (.bl true) H) : uNe K (.int n) .non H Q := .inl ⟨rfl, h⟩
theorem w_neI {m n : Int} (h : Q (.bl (!decide (m = n))) H) : uNe K (.int m) (.int n) H Q := h
theorem w_neS {m n : Str} (h : Q (.bl (!decide (m = n))) H) : uNe K (.str m) (.str n) H Q := h
theorem w_neB {m n : Bool} (h : Q (.bl (!decide (m = n))) H) : uNe K (.bl m) (.bl n) H Q := h
theorem w_lt {m n : Int} (h : Q (.bl (decide (m < n))) H) : uLt K (.int m) (.int n) H Q := h
theorem w_le {m n : Int} (h : Q (.bl (decide (m ≤ n))) H) : uLe K (.int m) (.int n) H Q := h
theorem w_gt {m n : Int} (h : Q (.bl (decide (n < m))) H) : uGt (.int m) (.int n) H Q := h
theorem w_ge {m n : Int} (h : Q (.bl (decide (n ≤ m))) H) : uGe K (.int m) (.int n) H Q := h
theorem w_cb {q : List V → Hp → VK → Prop} (h : tA σ H fun vs H1 => q vs H1 Q) : tCB q tA σ H Q := h
theorem w_call (h : tA σ H fun vs H1 => sp vs H1 Q fun c d H2 => W c d σ H2) : uCall sp W tA σ H Q := h
theorem w_tru (h : te σ H fun x H1 => truV K x H1 QB) : uTru K te σ H QB := h
theorem w_truB {b : Bool} (h : QB b H) : truV K (.bl b) H QB := h
theorem w_truN (h : QB false H) : truV K .non H QB := h
theorem w_truI {m : Int} (h : QB (!decide (m = 0)) H) : truV K (.int m) H QB := h
theorem w_isi_int_int {m : Int} (h : Q (.bl true) H) : uIsi K .int [(.int m), .ty "int"] H Q := ⟨rfl, h⟩
theorem w_isi_int_bl {m : Bool} (h : Q (.bl true) H) : uIsi K .int [(.bl m), .ty "int"] H Q := ⟨rfl, h⟩
theorem w_isi_int_str {m : Str} (h : Q (.bl false) H) : uIsi K .int [(.str m), .ty "int"] H Q := ⟨rfl, h⟩
theorem w_isi_int_non  (h : Q (.bl false) H) : uIsi K .int [.non, .ty "int"] H Q := ⟨rfl, h⟩
theorem w_isi_bool_int {m : Int} (h : Q (.bl false) H) : uIsi K .bool [(.int m), .ty "bool"] H Q := ⟨rfl, h⟩
theorem w_isi_bool_bl {m : Bool} (h : Q (.bl true) H) : uIsi K .bool [(.bl m), .ty "bool"] H Q := ⟨rfl, h⟩
theorem w_isi_bool_str {m : Str} (h : Q (.bl false) H) : uIsi K .bool [(.str m), .ty "bool"] H Q := ⟨rfl, h⟩
theorem w_isi_bool_non  (h : Q (.bl false) H) : uIsi K .bool [.non, .ty "bool"] H Q := ⟨rfl, h⟩
theorem w_isi_str_int {m : Int} (h : Q (.bl false) H) : uIsi K .str [(.int m), .ty "str"] H Q := ⟨rfl, h⟩
theorem w_isi_str_bl {m : Bool} (h : Q (.bl false) H) : uIsi K .str [(.bl m), .ty "str"] H Q := ⟨rfl, h⟩
theorem w_isi_str_str {m : Str} (h : Q (.bl true) H) : uIsi K .str [(.str m), .ty "str"] H Q := ⟨rfl, h⟩
theorem w_isi_str_non  (h : Q (.bl false) H) : uIsi K .str [.non, .ty "str"] H Q := ⟨rfl, h⟩
theorem w_isi_list_int {m : Int} (h : Q (.bl false) H) : uIsi K .list [(.int m), .ty "list"] H Q := ⟨rfl, h⟩
theorem w_isi_list_bl {m : Bool} (h : Q (.bl false) H) : uIsi K .list [(.bl m), .ty "list"] H Q := ⟨rfl, h⟩
theorem w_isi_list_str {m : Str} (h : Q (.bl false) H) : uIsi K .list [(.str m), .ty "list"] H Q := ⟨rfl, h⟩
theorem w_isi_list_non  (h : Q (.bl false) H) : uIsi K .list [.non, .ty "list"] H Q := ⟨rfl, h⟩
theorem w_isi_tuple_int {m : Int} (h : Q (.bl false) H) : uIsi K .tuple [(.int m), .ty "tuple"] H Q := ⟨rfl, h⟩
theorem w_isi_tuple_bl {m : Bool} (h : Q (.bl false) H) : uIsi K .tuple [(.bl m), .ty "tuple"] H Q := ⟨rfl, h⟩
theorem w_isi_tuple_str {m : Str} (h : Q (.bl false) H) : uIsi K .tuple [(.str m), .ty "tuple"] H Q := ⟨rfl, h⟩
theorem w_isi_tuple_non  (h : Q (.bl false) H) : uIsi K .tuple [.non, .ty "tuple"] H Q := ⟨rfl, h⟩
theorem w_is_int {m : Int} (h : Q (.bl false) H) : uIs (.int m) .non H Q := h
theorem w_isnt_int {m : Int} (h : Q (.bl true) H) : uIsnt (.int m) .non H Q := h
theorem w_is_bl {m : Bool} (h : Q (.bl false) H) : uIs (.bl m) .non H Q := h
theorem w_isnt_bl {m : Bool} (h : Q (.bl true) H) : uIsnt (.bl m) .non H Q := h
theorem w_is_str {m : Str} (h : Q (.bl false) H) : uIs (.str m) .non H Q := h
theorem w_isnt_str {m : Str} (h : Q (.bl true) H) : uIsnt (.str m) .non H Q := h
theorem w_is_non  (h : Q (.bl true) H) : uIs .non .non H Q := h
theorem w_isnt_non  (h : Q (.bl false) H) : uIsnt .non .non H Q := h
theorem w_is_ref {m : Addr} (h : Q (.bl false) H) : uIs (.ref m) .non H Q := h
theorem w_isnt_ref {m : Addr} (h : Q (.bl true) H) : uIsnt (.ref m) .non H Q := h
theorem ifNT {A B : Prop} (h : B) : if (!true) = true then A else B := iteF h
theorem ifNF {A B : Prop} (h : A) : if (!false) = true then A else B := iteT h
theorem w_max {m n : Int} (h : Q (.int (if n > m then n else m)) H) : uMax K [.int m, .int n] H Q := h
theorem w_min {m n : Int} (h : Q (.int (if n < m then n else m)) H) : uMin K [.int m, .int n] H Q := h
theorem w_abs {m : Int} (h : Q (.int (if m < 0 then -m else m)) H) : uAbs [.int m] H Q := h
theorem w_intI {m : Int} (h : Q (.int m) H) : uInt [.int m] H Q := h
theorem w_intB {m : Bool} (h : Q (.int (if m then 1 else 0)) H) : uInt [.bl m] H Q := h
theorem w_lenL {p : Addr} {xs : List V} (e : SqL K H p xs) (h : Q (.int xs.length) H) : uLen K [.ref p] H Q := .inl ⟨xs, .inl e, h⟩
theorem w_lenT {p : Addr} {xs : List V} (e : SqT K H p xs) (h : Q (.int xs.length) H) : uLen K [.ref p] H Q := .inl ⟨xs, .inr e, h⟩
theorem w_ixL {p : Addr} {xs : List V} {n : Int} {k : Nat} (e : SqL K H p xs) (ek : n = (k : Int)) (ev : xs[k]? = some v) (h : Q v H) : uIx K (.ref p) (.int n) H Q := ⟨xs, v, .inl e, by rw [ek]; exact atI_nat ev, h⟩
theorem w_ixT {p : Addr} {xs : List V} {n : Int} {k : Nat} (e : SqT K H p xs) (ek : n = (k : Int)) (ev : xs[k]? = some v) (h : Q v H) : uIx K (.ref p) (.int n) H Q := ⟨xs, v, .inr e, by rw [ek]; exact atI_nat ev, h⟩
theorem w_app {p : Addr} {xs : List V} (e : H p = some (.lst xs)) (s : xs.length < sizeLine) (h : Q .non (upd H p (.lst (xs ++ [y])))) : rAppend (.ref p) [y] H Q := ⟨p, xs, y, rfl, rfl, e, s, h⟩
theorem w_ixI {p : Addr} {ns : List Int} {n : Int} (e : SqL K H p (ns.map V.int)) (h0 : 0 ≤ n ∧ n.toNat < ns.length) (h : Q (.int (ns.getD n.toNat 0)) H) : uIx K (.ref p) (.int n) H Q :=
  ⟨_, .int (ns.getD n.toNat 0), .inl e, by
    have z : (ns.map V.int)[n.toNat]? = some (.int (ns.getD n.toNat 0)) := by rw [List.getElem?_map, List.getElem?_eq_getElem h0.2, List.getD_eq_getElem?_getD, List.getElem?_eq_getElem h0.2]; rfl
    have y := atI_nat z
    rw [show ((n.toNat : Nat) : Int) = n by omega] at y
    exact y, h⟩
theorem w_ixTI {p : Addr} {ns : List Int} {n : Int} (e : SqT K H p (ns.map V.int)) (h0 : 0 ≤ n ∧ n.toNat < ns.length) (h : Q (.int (ns.getD n.toNat 0)) H) : uIx K (.ref p) (.int n) H Q :=
  ⟨_, .int (ns.getD n.toNat 0), .inr e, by
    have z : (ns.map V.int)[n.toNat]? = some (.int (ns.getD n.toNat 0)) := by rw [List.getElem?_map, List.getElem?_eq_getElem h0.2, List.getD_eq_getElem?_getD, List.getElem?_eq_getElem h0.2]; rfl
    have y := atI_nat z
    rw [show ((n.toNat : Nat) : Int) = n by omega] at y
    exact y, h⟩
theorem w_appI {p : Addr} {ns : List Int} {z : Int} (e : H p = some (.lst (ns.map V.int))) (s : ns.length < 10000000) (h : Q .non (upd H p (.lst ((ns ++ [z]).map V.int)))) : rAppend (.ref p) [.int z] H Q :=
  ⟨p, _, _, rfl, rfl, e, by rw [List.length_map]; exact Nat.lt_of_lt_of_le s (by decide), by rw [List.map_append] at h; exact h⟩
theorem w_gsub {to ti : TE} {ts : TSet} {N : L2.St → Hp → Prop} (h : to σ H fun o H1 => ti σ H1 fun i H2 => ts o i v H2 fun H3 => N σ H3) : gSub to ti ts v σ H N := h
theorem w_ixA {p : Addr} {xs : List V} {n : Int} (e : SqL K H p xs) (h0 : 0 ≤ n ∧ n.toNat < xs.length) (h : ∀ v, xs[n.toNat]? = some v → Q v H) : uIx K (.ref p) (.int n) H Q :=
  ⟨xs, xs[n.toNat]'h0.2, .inl e, by
    have y := atI_nat (List.getElem?_eq_getElem h0.2)
    rw [show ((n.toNat : Nat) : Int) = n by omega] at y
    exact y, h _ (List.getElem?_eq_getElem h0.2)⟩
theorem w_ttupL {p : Addr} {xs : List V} (e : SqL K H p xs) (h : ∀ l, H l = none → Q (.ref l) (upd H l (.tup xs))) : uTuple K [.ref p] H Q := ⟨xs, .inl ⟨e, h⟩⟩
def partQ (x : V) (H1 : Hp) (Q : Option Int → Hp → Prop) : Prop := ∃ i, x = .int i ∧ Q (some i) H1
theorem w_sl {rs : V → Option Int → Option Int → Hp → VK → Prop} {tl th : TO} (h : te σ H fun x H1 => tl σ H1 fun l H2 => th σ H2 fun u H3 => rs x l u H3 Q) : tSl rs te tl th σ H Q := h
theorem w_part {Q : Option Int → Hp → Prop} (h : te σ H fun x H1 => partQ x H1 Q) : tPart te σ H Q := h
theorem w_partI {Q : Option Int → Hp → Prop} {n : Int} (h : Q (some n) H) : partQ (.int n) H Q := ⟨n, rfl, h⟩
theorem w_noPart {Q : Option Int → Hp → Prop} (h : Q none H) : tNoPart σ H Q := h
theorem cut_mid (xs : List V) (i j : Nat) (h : i ≤ j) (hj : j ≤ xs.length) : cutV xs (some (i : Int)) (some (j : Int)) = (xs.drop i).take (j - i) := by
  unfold cutV
  rw [HT.sIx_nat, HT.sIx_nat, Nat.min_eq_left (Nat.le_trans h hj), Nat.min_eq_left hj]
theorem w_slL {p : Addr} {xs : List V} {lo hi : Option Int} (e : SqL K H p xs) (h : ∀ q, H q = none → Q (.ref q) (upd H q (.lst (cutV xs lo hi)))) : uSl K (.ref p) lo hi H Q := .inl ⟨p, xs, rfl, e, h⟩
theorem w_ixTl {p : Addr} {xs : List V} {n : Int} (e : SqT K H p xs) (ev : xs[n.toNat]? = some v) (h0 : 0 ≤ n) (h : Q v H) : uIx K (.ref p) (.int n) H Q := w_ixT (k := n.toNat) e (by omega) ev h
theorem w_ixLl {p : Addr} {xs : List V} {n : Int} (e : SqL K H p xs) (ev : xs[n.toNat]? = some v) (h0 : 0 ≤ n) (h : Q v H) : uIx K (.ref p) (.int n) H Q := w_ixL (k := n.toNat) e (by omega) ev h
theorem w_bm {T : String} {q : V → List V → Hp → VK → Prop} (h : te σ H fun x H1 => bmQ K T q tA σ x H1 Q) : tBM K T q te tA σ H Q := h
theorem w_bmL {q : V → List V → Hp → VK → Prop} {p : Addr} {xs : List V} (e : H p = some (.lst xs)) (h : tA σ H fun vs H2 => q (.ref p) vs H2 Q) : bmQ K "list" q tA σ (.ref p) H Q := ⟨.inl ⟨rfl, _, .inl (.inl e)⟩, h⟩
theorem w_bmS {q : V → List V → Hp → VK → Prop} {z : Str} (h : tA σ H fun vs H2 => q (.str z) vs H2 Q) : bmQ K "str" q tA σ (.str z) H Q := ⟨rfl, h⟩
theorem w_tlist {p : Addr} {xs : List V} (e : SqL K H p xs) (h : ∀ l, H l = none → Q (.ref l) (upd H l (.lst xs))) : uList K [.ref p] H Q := ⟨xs, .inl e, h⟩
theorem w_tlistT {p : Addr} {xs : List V} (e : SqT K H p xs) (h : ∀ l, H l = none → Q (.ref l) (upd H l (.lst xs))) : uList K [.ref p] H Q := ⟨xs, .inr e, h⟩
theorem w_for {wi : TI} {tb : TS} (h : wi σ H fun J H1 => forQ g tb D σ J H1) : tFor wi g tb D σ H := h
theorem f_range {tb : TS} {lo : Int} {n : Nat} (Pv : Nat → L2.St → Hp → Prop) (h0 : Pv 0 σ H)
    (hs : ∀ i σ H, i < n → Pv i σ H → g (.int (lo + i)) σ H fun σ2 H2 => tb { D with nx := Pv (i + 1), ct := Pv (i + 1), bk := D.nx } σ2 H2) (hd : ∀ σ H, Pv n σ H → D.nx σ H) : forQ g tb D σ (Itr lo n) H := for_range Pv h0 hs hd
theorem f_list {tb : TS} {a : Addr} {xs : List V} (Pv : Nat → L2.St → Hp → Prop) (h0 : Pv 0 σ H) (hl : ∀ i σ H, i ≤ xs.length → Pv i σ H → SqL K H a xs)
    (hs : ∀ i x σ H, xs[i]? = some x → Pv i σ H → g x σ H fun σ2 H2 => tb { D with nx := Pv (i + 1), ct := Pv (i + 1), bk := D.nx } σ2 H2) (hd : ∀ σ H, Pv xs.length σ H → D.nx σ H) : forQ g tb D σ (Itl K a) H := for_list Pv h0 hl hs hd
theorem w_rng1 {R : It → Hp → Prop} (h : tA σ H fun vs H1 => rng1Q vs H1 R) : iRng1 tA σ H R := h
theorem w_rng1v {R : It → Hp → Prop} {n : Int} (h1 : -(2 ^ 62) ≤ n) (h2 : n < 2 ^ 62) (h : R (Itr 0 n.toNat) H) : rng1Q [.int n] H R := ⟨n, rfl, h1, h2, h⟩
theorem w_rng2 {R : It → Hp → Prop} (h : tA σ H fun vs H1 => rng2Q vs H1 R) : iRng2 tA σ H R := h
theorem w_rng2v {R : It → Hp → Prop} {m n : Int} (h1 : -(2 ^ 62) ≤ m ∧ m < 2 ^ 62 ∧ -(2 ^ 62) ≤ n ∧ n < 2 ^ 62) (h : R (Itr m (n - m).toNat) H) : rng2Q [.int m, .int n] H R := ⟨m, n, rfl, h1, h⟩
theorem w_iList {R : It → Hp → Prop} (h : te σ H fun x H1 => listQ K x H1 R) : iList K te σ H R := h
theorem w_iListv {R : It → Hp → Prop} {p : Addr} {xs : List V} (e : SqL K H p xs) (h : R (Itl K p) H) : listQ K (.ref p) H R := ⟨p, rfl, ⟨xs, e⟩, h⟩
theorem w_iTup {R : It → Hp → Prop} (h : te σ H fun x H1 => tupQ K x H1 R) : iTup K te σ H R := h
theorem w_iTupv {R : It → Hp → Prop} {p : Addr} {xs : List V} (e : SqT K H p xs) (h : R (Itt K p) H) : tupQ K (.ref p) H R := ⟨p, rfl, ⟨xs, e⟩, h⟩
theorem w_iStr {R : It → Hp → Prop} (h : te σ H fun x H1 => strQ x H1 R) : iStr te σ H R := h
theorem w_iStrv {R : It → Hp → Prop} {z : Str} (h : R (Its z) H) : strQ (.str z) H R := ⟨z, rfl, h⟩
theorem w_iRev {R : It → Hp → Prop} (h : tA σ H fun vs H1 => revQ K vs H1 R) : iRev K tA σ H R := h
theorem w_iRevv {R : It → Hp → Prop} {p : Addr} {xs : List V} (e : SqL K H p xs) (h : R (Itv K p xs.length) H) : revQ K [.ref p] H R := ⟨p, xs, rfl, e, h⟩
theorem w_raise {C : Addr} (h : W (.ref C) none σ H) : uRaise C W D σ H := h
theorem w_fld {C : Addr} (h : te σ H fun x H1 => fldQ C f x H1 Q) : uFld C f te σ H Q := h
theorem w_fldv {C p dx : Addr} {fs : List (Str × V)} (e : H p = some (.ins C dx fs)) (l : fs.lookup f = some v) (h : Q v H) : fldQ C f (.ref p) H Q := ⟨p, dx, fs, v, rfl, e, l, h⟩
theorem w_meth {C : Addr} {m : Str} (h : te σ H fun x H1 => methQ C m sp W tA σ x H1 Q) : uMeth C m sp W te tA σ H Q := h
theorem w_methv {C p dx : Addr} {m : Str} {fs : List (Str × V)} (e : H p = some (.ins C dx fs)) (l : fs.lookup m = none) (h : tA σ H fun vs H2 => sp (.ref p :: vs) H2 Q fun c d H3 => W c d σ H3) : methQ C m sp W tA σ (.ref p) H Q := ⟨p, dx, fs, rfl, e, l, h⟩
theorem w_setf {C : Addr} (h : tv σ H fun y H1 => te σ H1 fun x H2 => setfQ C f x y H2 (D.nx σ)) : uSetF C f te tv D σ H := h
theorem w_setfv {C p dx : Addr} {fs fs' : List (Str × V)} {N : Hp → Prop} (e : H p = some (.ins C dx fs)) (l : fs.length < 1000) (e2 : putF f y fs = fs') (h : N (upd H p (.ins C dx fs'))) : setfQ C f (.ref p) y H N := ⟨p, dx, fs, rfl, e, l, by rw [e2]; exact h⟩
theorem ifP {p A B : Prop} [Decidable p] (h1 : p → A) (h2 : ¬ p → B) : if decide p = true then A else B := by
  by_cases h : p
  · rw [if_pos (decide_eq_true h)]; exact h1 h
  · rw [if_neg (by rw [decide_eq_false h]; decide)]; exact h2 h
theorem ifN {p A B : Prop} [Decidable p] (h2 : ¬ p → A) (h1 : p → B) : if (!decide p) = true then A else B := by
  by_cases h : p
  · rw [if_neg (by rw [decide_eq_true h]; decide)]; exact h1 h
  · rw [if_pos (by rw [decide_eq_false h]; rfl)]; exact h2 h
end steps
section heaps
variable {K : PySem.W.Frag} {H H' : Hp} {p q : Addr} {o u : HO} {xs : List V}
theorem upd_old (h : H q = some u) (n : H p = none) : upd H p o q = some u := by rw [upd_ne (ne_of_none h n)]; exact h
theorem upd_oth (h : H q = some u) (n : q ≠ p) : upd H p o q = some u := by rw [upd_ne n]; exact h
theorem none_of_upd (h : upd H p o q = none) : H q = none ∧ q ≠ p := by
  unfold upd at h
  split at h
  · cases h
  · exact ⟨h, by assumption⟩
theorem rd_old (h : Rd H q u) (n : H p = none) : Rd (upd H p o) q u := by
  rcases h with h | ⟨o', h⟩
  · exact .inl (upd_old h n)
  · exact .inr ⟨o', upd_old h n⟩
theorem sql_old (h : SqL K H q xs) (n : H p = none) : SqL K (upd H p o) q xs := h.imp (fun h => rd_old h n) id
theorem sqt_old (h : SqT K H q xs) (n : H p = none) : SqT K (upd H p o) q xs := h.imp (fun h => rd_old h n) id
theorem same_new (n : H p = none) : Same H (upd H p o) := fun b w h => upd_old h n
theorem same_upd {H1 : Hp} (s : Same H H1) (n : H p = none) : Same H (upd H1 p o) := fun b w h => by rw [upd_ne (ne_of_none h n)]; exact s b w h
theorem same_updN {H1 : Hp} (s : Same H H1) (n : H1 p = none) : Same H (upd H1 p o) := fun b w h => upd_old (s b w h) n
theorem Same.sqt (e : Same H H') (h : SqT K H q xs) : SqT K H' q xs := by
  rcases h with (h | ⟨o, h⟩) | h
  · exact .inl (.inl (e _ _ h))
  · exact .inl (.inr ⟨o, e _ _ h⟩)
  · exact .inr h
end heaps
section steps2
variable {K : PySem.W.Frag} {σ : L2.St} {H : Hp} {Q : VK} {C p : Addr} {sp : Sp} {W : WX} {t : TA} {te td ty tv : TE} {x y v : V} {kvs : List (Key × V)} {i : Int} {N : L2.St → Hp → Prop}
def mkQ (C : Addr) (sp : Sp) (W : WX) (σ : L2.St) (vs : List V) (H1 : Hp) (Q : VK) : Prop := ∀ x dx, H1 x = none → H1 dx = none → dx ≠ x → sp (.ref x :: vs) (upd (upd H1 dx (.own x)) x (.ins C dx [])) (fun v H2 => v = .non ∧ Q (.ref x) H2) fun c d H2 => W c d σ H2
theorem w_make (h : t σ H fun vs H1 => mkQ C sp W σ vs H1 Q) : uMake C sp W t σ H Q := h
def dgQ (x y : V) (H : Hp) (Q : VK) : Prop := ∃ a v, x = .ref a ∧ DGet H a y (some v) ∧ Q v H
theorem w_dget (h : td σ H fun x H1 => ty σ H1 fun y H2 => dgQ x y H2 Q) : tDGet td ty σ H Q := h
theorem w_inD (e : H p = some (.dK kvs)) (h : Q (.bl (valV kvs (.inl i)).isSome) H) : uIn K (.int i) (.ref p) H Q := .inr ⟨_, DGet.k (k := .inl i) e, h⟩
theorem w_ninD (e : H p = some (.dK kvs)) (h : Q (.bl (!(valV kvs (.inl i)).isSome)) H) : uNin K (.int i) (.ref p) H Q := .inr ⟨_, DGet.k (k := .inl i) e, h⟩
def dpQ (x y v : V) (H : Hp) (N : Hp → Prop) : Prop := ∃ a H4, x = .ref a ∧ DPut H a y v H4 ∧ N H4
theorem w_dput {D : Ends} (h : tv σ H fun v H1 => td σ H1 fun x H2 => ty σ H2 fun y H3 => dpQ x y v H3 (D.nx σ)) : sDPut td ty tv D σ H := h
theorem w_newD (h : ∀ p, H p = none → Q (.ref p) (upd H p (.dK []))) : tDNewK σ H Q := h
/-- a list times a number -/
theorem w_rep {xs : List V} {k : Int} (e : H p = some (.lst xs)) (h0 : 0 ≤ k) (h1 : k ≤ 100000) (h2 : xs.length ≤ 100) (h : ∀ q, H q = none → Q (.ref q) (upd H q (.lst (List.replicate k.toNat xs).flatten))) : uMul (.ref p) (.int k) H Q := by
  refine ⟨p, k, xs, rfl, rfl, e, by omega, by omega, ?_, h⟩
  have h3 : k.toNat ≤ 100000 := by omega
  have h4 : xs.length * k.toNat ≤ 100 * 100000 := Nat.mul_le_mul h2 h3
  exact Nat.le_trans h4 (by decide)
theorem rep1 (n : Nat) (z : Int) : (List.replicate n [V.int z]).flatten = (List.replicate n z).map V.int := by
  induction n with
  | zero => rfl
  | succ n ih => rw [List.replicate_succ, List.flatten_cons, ih, List.replicate_succ, List.map_cons]; rfl
theorem w_rep1 {z k : Int} (e : H p = some (.lst [.int z])) (h0 : 0 ≤ k) (h1 : k ≤ 100000) (h : ∀ q, H q = none → Q (.ref q) (upd H q (.lst ((List.replicate k.toNat z).map V.int)))) : uMul (.ref p) (.int k) H Q :=
  w_rep e h0 h1 (by simp) fun q hq => by rw [rep1]; exact h q hq
theorem w_gtup2 {a : Addr} {u : TGs} (e : SqT K H a [x, y]) (h : u [x, y] σ H N) : gTup K 2 u (.ref a) σ H N := ⟨a, _, rfl, e, rfl, h⟩
theorem w_gtup3 {a : Addr} {u : TGs} {z : V} (e : SqT K H a [x, y, z]) (h : u [x, y, z] σ H N) : gTup K 3 u (.ref a) σ H N := ⟨a, _, rfl, e, rfl, h⟩
theorem w_gtup4 {a : Addr} {u : TGs} {z w : V} (e : SqT K H a [x, y, z, w]) (h : u [x, y, z, w] σ H N) : gTup K 4 u (.ref a) σ H N := ⟨a, _, rfl, e, rfl, h⟩
theorem w_gcons {g : TG} {u : TGs} {r : List V} (h : g v σ H fun σ' H' => u r σ' H' N) : gCons g u (v :: r) σ H N := ⟨v, r, rfl, h⟩
theorem w_gnil (h : N σ H) : gNil [] σ H N := ⟨rfl, h⟩
def augQ (C : Addr) (f : Str) (r : V → V → Hp → VK → Prop) (tv : TE) (D : Ends) (σ : L2.St) (x : V) (H1 : Hp) : Prop := ∃ a dx fs v, x = .ref a ∧ H1 a = some (.ins C dx fs) ∧ fs.lookup f = some v ∧
  tv σ H1 fun y H2 => r v y H2 fun z H3 => ∃ dx' fs', H3 a = some (.ins C dx' fs') ∧ fs'.length < 1000 ∧ D.nx σ (upd H3 a (.ins C dx' (putF f z fs')))
theorem w_augf {D : Ends} {f : Str} {r : V → V → Hp → VK → Prop} (h : te σ H fun x H1 => augQ C f r tv D σ x H1) : uAugF C f r te tv D σ H := h
theorem w_augsub {D : Ends} {f : Str} {dx : Addr} {fs : List (Str × V)} {i j : Int} (e : H p = some (.ins C dx fs)) (l : fs.lookup f = some (.int i)) (s : fs.length < 1000) (h : D.nx σ (upd H p (.ins C dx (putF f (.int (i - j)) fs)))) : augQ C f rSub (tC (.int j)) D σ (.ref p) H :=
  ⟨p, dx, fs, _, rfl, e, l, i, j, rfl, rfl, dx, fs, e, s, h⟩
theorem w_augadd {D : Ends} {f : Str} {dx : Addr} {fs : List (Str × V)} {i j : Int} (e : H p = some (.ins C dx fs)) (l : fs.lookup f = some (.int i)) (s : fs.length < 1000) (h : D.nx σ (upd H p (.ins C dx (putF f (.int (i + j)) fs)))) : augQ C f rAdd (tC (.int j)) D σ (.ref p) H :=
  ⟨p, dx, fs, _, rfl, e, l, i, j, rfl, rfl, dx, fs, e, s, h⟩
end steps2
section whiles
variable {D : Ends} {σ : L2.St} {H : Hp} {c : TT} {tb : TS}
def whQ (P : L2.St → Hp → Prop) (μ : L2.St → Hp → Nat) (m : Nat) (tb : TS) (D : Ends) (σ : L2.St) (H : Hp) : Prop :=
  ∃ N : L2.St → Hp → Prop, (∀ σ' H', N σ' H' → ∃ m', m' < m ∧ (m' = μ σ' H' ∧ P σ' H')) ∧ tb { D with nx := N, ct := N, bk := D.nx } σ H
theorem w_wh {P : L2.St → Hp → Prop} {μ : L2.St → Hp → Nat} {m : Nat} (h : tb { D with nx := fun σ' H' => P σ' H' ∧ μ σ' H' < m, ct := fun σ' H' => P σ' H' ∧ μ σ' H' < m, bk := D.nx } σ H) : whQ P μ m tb D σ H := ⟨_, fun _ _ n => ⟨_, n.2, rfl, n.1⟩, h⟩
end whiles
section data
variable {K : PySem.W.Frag} {H : Hp} {Q : VK} {α β : Type} [DecidableEq α] [PySem.W.Datum α] [DecidableEq β] [PySem.W.Datum β]
def Dt (K : PySem.W.Frag) (H : Hp) (v : V) (a : α) : Prop := Dp K H v (PySem.W.Datum.toD a)
def DtAll (K : PySem.W.Frag) (H : Hp) (vs : List V) (as : List α) : Prop := DpAll K H vs (as.map PySem.W.Datum.toD)
theorem Dt.int {i : Int} : Dt K H (.int i) i := Dp.int i
theorem Dt.bl {i : Bool} : Dt K H (.bl i) i := Dp.bl i
theorem Dt.str {i : Str} : Dt K H (.str i) i := Dp.str i
theorem Dt.list {p : Addr} {vs : List V} {as : List α} (e : SqL K H p vs) (h : DtAll K H vs as) : Dt K H (.ref p) as := Dp.lst e h
theorem Dt.tup {p : Addr} {vs : List V} {as : List α} (e : SqT K H p vs) (h : DtAll K H vs as) : Dt K H (.ref p) (PySem.W.Tup.mk as) := Dp.tup e h
theorem Dt.pair {p : Addr} {x y : V} {a : α} {b : β} (e : SqT K H p [x, y]) (h1 : Dt K H x a) (h2 : Dt K H y b) : Dt K H (.ref p) (a, b) := Dp.tup e (DpAll.cons h1 (DpAll.cons h2 DpAll.nil))
theorem DtAll.nil : DtAll K H [] ([] : List α) := DpAll.nil
theorem DtAll.cons {v : V} {vs : List V} {a : α} {as : List α} (h : Dt K H v a) (hs : DtAll K H vs as) : DtAll K H (v :: vs) (a :: as) := DpAll.cons h hs
theorem DtAll.ints : ∀ (ns : List Int), DtAll K H (ns.map V.int) ns
  | [] => DpAll.nil
  | _ :: ns => DpAll.cons (Dp.int _) (DtAll.ints ns)
theorem DtAll.length : ∀ {vs : List V} {as : List α}, DtAll K H vs as → vs.length = as.length
  | [], [], _ => rfl
  | [], _ :: _, h => by cases h
  | _ :: _, [], h => by cases h
  | _ :: vs, _ :: as, h => by
    cases h with
    | cons h1 h2 => rw [List.length_cons, List.length_cons, DtAll.length h2]
theorem w_neD {x y : V} {a b : α} (h1 : Dt K H x a) (h2 : Dt K H y b) (hd : PySem.W.Datum.depth α ≤ 60) (hx : ∃ p, x = .ref p) (h : Q (.bl (!decide (a = b))) H) : uNe K x y H Q := by
  obtain ⟨p, rfl⟩ := hx
  have z : rNeP K (.ref p) y H Q := ⟨_, _, h1, h2, ⟨PySem.W.Datum.plain a, Nat.le_trans (PySem.W.Datum.depth_le a) hd⟩, PySem.W.Datum.plain b, by rw [PySem.W.Datum.eqv]; exact h⟩
  unfold uNe; exact .inr z
mutual
theorem Dp.same {H' : Hp} (s : Same H H') : ∀ {d : PyData} {v : V}, Dp K H v d → Dp K H' v d
  | .none, _, h => by cases h; exact .non
  | .bool _, _, h => by cases h; exact .bl _
  | .int _, _, h => by cases h; exact .int _
  | .str _, _, h => by cases h; exact .str _
  | .list _, _, h => by
    cases h with
    | lst e a => exact .lst (s.seq e) (DpAll.same s a)
  | .tuple _, _, h => by
    cases h with
    | tup e a =>
      refine .tup ?_ (DpAll.same s a)
      rcases e with (e | ⟨o, e⟩) | e
      · exact .inl (.inl (s _ _ e))
      · exact .inl (.inr ⟨o, s _ _ e⟩)
      · exact .inr e
  | .dict _, _, h => by cases h
theorem DpAll.same {H' : Hp} (s : Same H H') : ∀ {ds : List PyData} {vs : List V}, DpAll K H vs ds → DpAll K H' vs ds
  | [], _, h => by cases h; exact .nil
  | _ :: _, _, h => by
    cases h with
    | cons h1 h2 => exact .cons (Dp.same s h1) (DpAll.same s h2)
end
theorem Dt.same {H' : Hp} (s : Same H H') {v : V} {a : α} (h : Dt K H v a) : Dt K H' v a := Dp.same s h
theorem DtAll.same {H' : Hp} (s : Same H H') {vs : List V} {as : List α} (h : DtAll K H vs as) : DtAll K H' vs as := DpAll.same s h
end data
section comps
variable {K : PySem.W.Frag} {σ : L2.St} {H1 : Hp} {Q : VK} {g : TG} {tt : TT} {te : TE} {vs : List Nat}
def lcQ (g : TG) (tt : TT) (te : TE) (vs : List Nat) (σ : L2.St) (J : It) (H1 : Hp) (Q : VK) : Prop := ∀ D, H1 D = none → ∃ W : Nat → Nat → Hp → Prop, (∃ m, W 0 m (upd H1 D (.lst []))) ∧ ∀ i m H, W i m H →
  (J.stop i H ∧ Q (.ref D) H) ∨ (J.go i H ∧ ∃ Nx : Hp → Prop, (∀ H', Nx H' → ∃ m', m' < m ∧ W (i + 1) m' H') ∧ ∀ x H', J.yld i H x H' → g x (wipe σ vs) H' fun σ2 H2 => wipe σ2 vs = wipe σ vs ∧ tt σ2 H2 fun b H3 =>
    if b = true then te σ2 H3 fun y H4 => ∃ acc, H4 D = some (.lst acc) ∧ acc.length < sizeLine ∧ Nx (upd H4 D (.lst (acc ++ [y]))) else Nx H3)
theorem w_lc {wi : TI} (h : wi σ H1 fun J H2 => lcQ g tt te vs σ J H2 Q) : tLc wi g tt te vs σ H1 Q := h
theorem w_yes {QB : Bool → Hp → Prop} (h : QB true H1) : tYes σ H1 QB := h
/-- what a turn of a comprehension wants: the new item, put behind the list at D -/
def putQ (D : Addr) (N : Hp → Prop) (y : V) (H4 : Hp) : Prop := ∃ acc, H4 D = some (.lst acc) ∧ acc.length < sizeLine ∧ N (upd H4 D (.lst (acc ++ [y])))
/-- a comprehension over anything that yields by its place, P the heap between the turns -/
theorem l_any {J : It} {n : Nat} {item : Nat → V → Prop} (P : Addr → Nat → Hp → Prop) (h0 : ∀ D, H1 D = none → P D 0 (upd H1 D (.lst [])))
    (hgo : ∀ D i H, H1 D = none → i < n → P D i H → J.go i H ∧ ∀ x H', J.yld i H x H' → H' = H ∧ item i x) (hst : ∀ D H, H1 D = none → P D n H → J.stop n H)
    (hs : ∀ D i x H, H1 D = none → i < n → item i x → P D i H → g x (wipe σ vs) H fun σ2 H2 => wipe σ2 vs = wipe σ vs ∧ tt σ2 H2 fun b H3 => if b = true then te σ2 H3 (putQ D (P D (i + 1))) else P D (i + 1) H3)
    (hd : ∀ D H, H1 D = none → P D n H → Q (.ref D) H) : lcQ g tt te vs σ J H1 Q := by
  intro D hD
  refine ⟨fun i m H => m = n - i ∧ i ≤ n ∧ P D i H, ⟨n, by simp, Nat.zero_le _, h0 D hD⟩, fun i m H q => ?_⟩
  obtain ⟨rfl, hi, p⟩ := q
  rcases Nat.lt_or_ge i n with hl | hl
  · obtain ⟨a, b⟩ := hgo D i H hD hl p
    refine .inr ⟨a, P D (i + 1), fun H' p' => ⟨n - (i + 1), by omega, rfl, hl, p'⟩, fun x H' y => ?_⟩
    obtain ⟨rfl, c⟩ := b x H' y
    exact hs D i x _ hD hl c p
  · obtain rfl : i = n := Nat.le_antisymm hi hl
    exact .inl ⟨hst D H hD p, hd D H hD p⟩
theorem l_range {lo : Int} {n : Nat} (P : Addr → Nat → Hp → Prop) (h0 : ∀ D, H1 D = none → P D 0 (upd H1 D (.lst [])))
    (hs : ∀ D i H, H1 D = none → i < n → P D i H → g (.int (lo + (i : Nat))) (wipe σ vs) H fun σ2 H2 => wipe σ2 vs = wipe σ vs ∧ tt σ2 H2 fun b H3 => if b = true then te σ2 H3 (putQ D (P D (i + 1))) else P D (i + 1) H3)
    (hd : ∀ D H, H1 D = none → P D n H → Q (.ref D) H) : lcQ g tt te vs σ (Itr lo n) H1 Q :=
  l_any (n := n) (item := fun i x => x = .int (lo + (i : Nat))) P h0 (fun _ i _ _ h _ => ⟨h, fun _ _ y => y⟩) (fun _ _ _ _ => Nat.le_refl _) (fun D i x H a b c p => by rw [c]; exact hs D i H a b p) hd
theorem l_list {a : Addr} {xs : List V} (P : Addr → Nat → Hp → Prop) (h0 : ∀ D, H1 D = none → P D 0 (upd H1 D (.lst []))) (hl : ∀ D i H, H1 D = none → P D i H → SqL K H a xs)
    (hs : ∀ D i x H, H1 D = none → xs[i]? = some x → P D i H → g x (wipe σ vs) H fun σ2 H2 => wipe σ2 vs = wipe σ vs ∧ tt σ2 H2 fun b H3 => if b = true then te σ2 H3 (putQ D (P D (i + 1))) else P D (i + 1) H3)
    (hd : ∀ D H, H1 D = none → P D xs.length H → Q (.ref D) H) : lcQ g tt te vs σ (Itl K a) H1 Q :=
  l_any (n := xs.length) (item := fun i x => xs[i]? = some x) P h0 (fun D i H hD h p => ⟨⟨xs, xs[i], hl D i H hD p, List.getElem?_eq_getElem h⟩, fun x H' y => ⟨y.1, y.2 xs (hl D i H hD p)⟩⟩)
    (fun D H hD p => ⟨xs, hl D _ H hD p, Nat.le_refl _⟩) (fun D i x H a b c p => hs D i x H a c p) hd
end comps
section texts
/-- the text of these signs -/
def tx (l : List Nat) : Str := ⟨l.toArray⟩
theorem tx_list (l : List Nat) : (tx l).cps.toList = l := rfl
theorem tx_len (l : List Nat) : (tx l).length = l.length := by unfold tx Str.length; exact List.size_toArray
theorem tx_app (l m : List Nat) : tx l ++ tx m = tx (l ++ m) := PySem.Str.ext' (by rw [PySem.Str.cps_append]; exact Array.toList_inj.mp (by rw [Array.toList_append]; rfl))
theorem tx_inj {l m : List Nat} : tx l = tx m ↔ l = m := ⟨fun h => by have := congrArg (fun z : Str => z.cps.toList) h; exact this, fun h => by rw [h]⟩
theorem cut_tk (l : List Nat) (k : Nat) : cutS (tx l) none (some (k : Int)) = tx (l.take k) := by
  unfold cutS
  rw [tx_len, HT.sIx_nat, HT.sIx_none, List.drop_zero, Nat.sub_zero, tx_list, ← List.take_take, List.take_length]
  rfl
theorem cut_dp (l : List Nat) (k : Nat) : cutS (tx l) (some (k : Int)) none = tx (l.drop k) := by
  unfold cutS
  rw [tx_len, HT.sIx_nat, HT.sIx_none, tx_list]
  rcases Nat.le_total k l.length with h | h
  · rw [Nat.min_eq_left h, List.take_of_length_le (by rw [List.length_drop]; exact Nat.le_refl _)]; rfl
  · rw [Nat.min_eq_right h, List.drop_length, List.drop_eq_nil_of_le h, List.take_nil]; rfl
theorem fold_rep (c : Nat) : ∀ (n : Nat) (a : Array Nat), (List.replicate n #[c]).foldl (· ++ ·) a = a ++ (List.replicate n c).toArray
  | 0, a => by simp
  | n + 1, a => by
    rw [List.replicate_succ, List.foldl_cons, fold_rep c n]
    apply Array.toList_inj.mp
    simp [List.replicate_succ]
theorem mul_one (c : Nat) (n : Nat) : Txt.mul (tx [c]) (n : Int) = tx (List.replicate n c) := by
  unfold Txt.mul
  by_cases h : (n : Int) < 1
  · rw [if_pos h]; obtain rfl : n = 0 := by omega
    rfl
  · rw [if_neg h]
    by_cases h2 : ((n : Int) == 1 || (tx [c]).length == 0) = true
    · rw [if_pos h2]
      have : (n : Int) = 1 := by
        rcases Bool.or_eq_true_iff.mp h2 with h2 | h2
        · exact eq_of_beq h2
        · cases h2
      obtain rfl : n = 1 := by omega
      rfl
    · rw [if_neg h2, Int.toNat_natCast]
      exact PySem.Str.ext' (by show (List.replicate n #[c]).foldl (· ++ ·) #[] = _; rw [fold_rep]; simp [tx])
theorem mulOk_one (c : Nat) {n : Int} (h0 : 0 ≤ n) (h1 : n ≤ 100000) : MulOk (tx [c]) n := by
  have e : (tx [c]).length = 1 := rfl
  refine ⟨?_, fun h _ => ?_, fun h _ => ?_⟩
  · rw [decide_eq_false (by omega), decide_eq_false (by omega)]; rfl
  · rw [e]
    have : (1 : Int) ≤ (2 ^ 63 - 1) / n := Int.le_ediv_of_mul_le (by omega) (by omega)
    omega
  · rw [e]; unfold Builtin.Str.tooLong
    rw [decide_eq_false]
    have : (100000 : Nat) ≤ sizeLine := by decide
    omega
/-- the first place of a sign in a text, or -1 -/
def ixc (l : List Nat) (c : Nat) : Int := if c ∈ l then (l.idxOf c : Int) else -1
theorem tx_find (l : List Nat) (c : Nat) : Txt.find (tx l) (tx [c]) = ixc l c := by
  unfold Txt.find ixc
  have key : ∀ i, PySem.StrLaws.At (tx l) (tx [c]) (tx l).length i ↔ l[i]? = some c := fun i => PySem.StrLaws.subAt_one (tx l) c i
  rcases PySem.StrLaws.occ_head (tx l) (tx [c]) 1 (Nat.le_refl 1) with ⟨e, hn⟩ | ⟨i, r, e, ha, hn⟩
  · rw [e, if_neg]
    intro hm
    obtain ⟨i, hi⟩ := List.getElem?_of_mem hm
    exact hn i ((key i).mpr hi)
  · rw [e]
    have hi := (key i).mp ha
    rw [if_pos (List.mem_of_getElem? hi)]
    have hl : i < l.length := (List.getElem?_eq_some_iff.mp hi).1
    have hg : l[i] = c := (List.getElem?_eq_some_iff.mp hi).2
    have h1 : l.idxOf c < l.length := List.idxOf_lt_length_iff.mpr (List.mem_of_getElem? hi)
    have h2 : l[l.idxOf c] = c := List.getElem_idxOf h1
    have h3 : ¬ l.idxOf c < i := fun q => hn _ q ((key _).mpr (by rw [List.getElem?_eq_getElem h1, h2]))
    have h4 : ¬ i < l.idxOf c := fun q => by
      have := List.not_of_lt_findIdx (p := (· == c)) (xs := l) (i := i) q
      simp [hg] at this
    have : l.idxOf c = i := by omega
    rw [this]
theorem cnt_eq (c : Nat) : ∀ l : List Nat, PyProof.Rows.cnt c l = (l.count c : Nat)
  | [] => rfl
  | n :: l => by
    rw [PyProof.Rows.cnt_cons, cnt_eq c l, List.count_cons]
    by_cases h : n = c
    · subst h; simp; omega
    · simp [h]
theorem tx_count (l : List Nat) (c : Nat) : Txt.count (tx l) (tx [c]) = (l.count c : Nat) := (PyProof.Rows.count_is (tx l) c).trans (cnt_eq c l)
end texts
section textsteps
variable {X : Cx} {K : PySem.W.Frag} {H : Hp} {Q : VK} {l m : List Nat} {c : Nat} {n : Int}
def uFind : V → List V → Hp → VK → Prop := fun x xs H Q => match x, xs with
  | .str a, [.str b] => Q (.int (Txt.find a b)) H
  | _, _ => False
def uCount : V → List V → Hp → VK → Prop := fun x xs H Q => match x, xs with
  | .str a, [.str b] => Q (.int (Txt.count a b)) H
  | _, _ => False
theorem w_addX (s : l.length + m.length ≤ 100000) (h : Q (.str (tx (l ++ m))) H) : uAdd K (.str (tx l)) (.str (tx m)) H Q := ⟨by rw [tx_len, tx_len]; exact small9 s, by rw [tx_app]; exact h⟩
theorem w_mulX (h0 : 0 ≤ n) (h1 : n ≤ 100000) (h : Q (.str (tx (List.replicate n.toNat c))) H) : uMul (.str (tx [c])) (.int n) H Q := by
  obtain ⟨k, rfl⟩ := Int.eq_ofNat_of_zero_le h0
  exact ⟨mulOk_one c h0 h1, by rw [mul_one]; exact h⟩
theorem w_lenX (s : l.length ≤ 100000) (h : Q (.int l.length) H) : uLen K [.str (tx l)] H Q := ⟨by rw [tx_len]; exact small9 s, by rw [tx_len]; exact h⟩
theorem w_truX {QB : Bool → Hp → Prop} (s : l.length ≤ 100000) (h : QB (!decide (l.length = 0)) H) : truV K (.str (tx l)) H QB := ⟨by rw [tx_len]; exact small9 s, by rw [tx_len]; exact h⟩
theorem d_tx : decide (tx l = tx m) = decide (l = m) := decide_eq_decide.mpr tx_inj
theorem w_eqX (h : Q (.bl (decide (l = m))) H) : uEq K (.str (tx l)) (.str (tx m)) H Q := by
  rw [← d_tx] at h; exact h
theorem w_neX (h : Q (.bl (!decide (l = m))) H) : uNe K (.str (tx l)) (.str (tx m)) H Q := by
  rw [← d_tx] at h; exact h
theorem w_tkX (s : l.length ≤ 100000) (h0 : 0 ≤ n) (h : Q (.str (tx (l.take n.toNat))) H) : uSl K (.str (tx l)) none (some n) H Q := by
  obtain ⟨k, rfl⟩ := Int.eq_ofNat_of_zero_le h0
  exact .inr (.inr ⟨_, rfl, by rw [tx_len]; exact small9 s, by rw [cut_tk]; exact h⟩)
theorem w_dpX (s : l.length ≤ 100000) (h0 : 0 ≤ n) (h : Q (.str (tx (l.drop n.toNat))) H) : uSl K (.str (tx l)) (some n) none H Q := by
  obtain ⟨k, rfl⟩ := Int.eq_ofNat_of_zero_le h0
  exact .inr (.inr ⟨_, rfl, by rw [tx_len]; exact small9 s, by rw [cut_dp]; exact h⟩)
theorem w_ixX (s : l.length ≤ 100000) (h0 : 0 ≤ n ∧ n.toNat < l.length) (h : Q (.str (tx [l.getD n.toNat 0])) H) : uIx K (.str (tx l)) (.int n) H Q := by
  refine ⟨by rw [tx_len]; exact small9 s, l.getD n.toNat 0, ?_, h⟩
  have y := atI_nat (show l[n.toNat]? = some (l.getD n.toNat 0) by rw [List.getD_eq_getElem?_getD, List.getElem?_eq_getElem h0.2]; rfl)
  rw [show ((n.toNat : Nat) : Int) = n by omega] at y
  exact y
theorem w_findX (h : Q (.int (ixc l c)) H) : uFind (.str (tx l)) [.str (tx [c])] H Q := by
  rw [← tx_find] at h; exact h
theorem w_countX (h : Q (.int ((l.count c : Nat) : Int)) H) : uCount (.str (tx l)) [.str (tx [c])] H Q := by
  rw [← tx_count] at h; exact h
end textsteps
section steps3
variable {X : Cx} {K : PySem.W.Frag} {H H' H0 : Hp} {Q : VK} {p q : Addr} {xs ys : List V} {o w : HO}
theorem w_cat (e1 : H p = some (.lst xs)) (e2 : H q = some (.lst ys)) (s : xs.length + ys.length ≤ 1000000) (h : ∀ l, H l = none → Q (.ref l) (upd H l (.lst (xs ++ ys)))) : uAdd K (.ref p) (.ref q) H Q :=
  .inl ⟨p, q, xs, ys, rfl, rfl, e1, e2, Nat.le_trans s (by decide), h⟩
end steps3
section steps4
variable {X : Cx} {K : PySem.W.Frag} {D : Ends} {σ : L2.St} {H H1 : Hp} {Q : VK} {g : TG} {tb : TS} {tt : TT} {te td ty tx : TE} {tA : TA} {p q a b : Addr} {xs ys : List V} {kvs : List (Key × V)} {x y z v : V} {i : Int} {vs : List Nat}
def enumQ (K : PySem.W.Frag) (vs : List V) (H1 : Hp) (R : It → Hp → Prop) : Prop := ∃ a xs, vs = [.ref a] ∧ SqL K H1 a xs ∧ R (Ite K a) H1
theorem w_iEnum {R : It → Hp → Prop} (h : tA σ H fun vs H1 => enumQ K vs H1 R) : iEnum K tA σ H R := h
theorem w_iEnumv {R : It → Hp → Prop} (e : SqL K H p xs) (h : R (Ite K p) H) : enumQ K [.ref p] H R := ⟨p, xs, rfl, e, h⟩
def zipQ (K : PySem.W.Frag) (vs : List V) (H1 : Hp) (R : It → Hp → Prop) : Prop := ∃ a b xs ys, vs = [.ref a, .ref b] ∧ SqL K H1 a xs ∧ SqL K H1 b ys ∧ R (Itz K a b) H1
theorem w_iZip {R : It → Hp → Prop} (h : tA σ H fun vs H1 => zipQ K vs H1 R) : iZip K tA σ H R := h
theorem w_iZipv {R : It → Hp → Prop} (e : SqL K H p xs) (e2 : SqL K H q ys) (h : R (Itz K p q) H) : zipQ K [.ref p, .ref q] H R := ⟨p, q, xs, ys, rfl, e, e2, h⟩
def keysQ (x : V) (H1 : Hp) (R : It → Hp → Prop) : Prop := ∃ d o, x = .ref d ∧ ((∃ kvs, H1 d = some (.frz o (.dK kvs)) ∧ R (Itk d o kvs) H1) ∨ ∃ kvs, H1 d = some (.frz o (.dT kvs)) ∧ R (Itkt d o kvs) H1)
theorem w_iKeys {R : It → Hp → Prop} (h : te σ H fun x H1 => keysQ x H1 R) : iKeys te σ H R := h
/-- d.get(k, e), d.get(k) -/
def get2Q (ty tx : TE) (σ : L2.St) (x : V) (H1 : Hp) (Q : VK) : Prop := ∃ a, x = .ref a ∧ IsD H1 a ∧ ty σ H1 fun y H2 => tx σ H2 fun z H3 => ∃ o, DGet H3 a y o ∧ Q (o.getD z) H3
def getQ (p : Addr) (y z : V) (H : Hp) (Q : VK) : Prop := ∃ o, DGet H p y o ∧ Q (o.getD z) H
theorem w_dget2 (h : td σ H fun x H1 => get2Q ty tx σ x H1 Q) : tDGet2 td ty tx σ H Q := h
theorem w_dget2v (e : H p = some (.dK kvs)) (h : ty σ H fun y H2 => tx σ H2 fun z H3 => getQ p y z H3 Q) : get2Q ty tx σ (.ref p) H Q := ⟨p, rfl, .inl ⟨kvs, .inl e⟩, h⟩
def get1Q (ty : TE) (σ : L2.St) (x : V) (H1 : Hp) (Q : VK) : Prop := ∃ a, x = .ref a ∧ IsD H1 a ∧ ty σ H1 fun y H2 => getQ a y .non H2 Q
theorem w_dget1 (h : td σ H fun x H1 => get1Q ty σ x H1 Q) : tDGet1 td ty σ H Q := h
theorem w_dget1v (e : H p = some (.dK kvs)) (h : ty σ H fun y H2 => getQ p y .non H2 Q) : get1Q ty σ (.ref p) H Q := ⟨p, rfl, .inl ⟨kvs, .inl e⟩, h⟩
theorem w_getI (e : H p = some (.dK kvs)) (h : Q ((valV kvs (.inl i)).getD z) H) : getQ p (.int i) z H Q := ⟨_, DGet.k (k := .inl i) e, h⟩
/-- d.pop(k) -/
def pop1Q (ty : TE) (σ : L2.St) (x : V) (H1 : Hp) (Q : VK) : Prop := ∃ a, x = .ref a ∧ IsD H1 a ∧ ty σ H1 fun y H2 => popQ1 a y H2 Q
where popQ1 (a : Addr) (y : V) (H2 : Hp) (Q : VK) : Prop := ∃ kvs k v, H2 a = some (.dK kvs) ∧ y = kV k ∧ valV kvs k = some v ∧ Q v (upd H2 a (.dK (dropK kvs k)))
theorem w_dpop1 (h : td σ H fun x H1 => pop1Q ty σ x H1 Q) : tDPop1 td ty σ H Q := h
theorem w_dpop1v (e : H p = some (.dK kvs)) (h : ty σ H fun y H2 => pop1Q.popQ1 p y H2 Q) : pop1Q ty σ (.ref p) H Q := ⟨p, rfl, .inl ⟨kvs, .inl e⟩, h⟩
/-- del d[k] -/
def delQ (x y : V) (H2 : Hp) (N : Hp → Prop) : Prop := ∃ a kvs k, x = .ref a ∧ H2 a = some (.dK kvs) ∧ y = kV k ∧ (valV kvs k).isSome = true ∧ N (upd H2 a (.dK (dropK kvs k)))
theorem w_ddel (h : td σ H fun x H1 => ty σ H1 fun y H2 => delQ x y H2 (D.nx σ)) : sDDel td ty D σ H := h
end steps4
section hotdefs
variable {P : Program} {w : World} {K : PySem.W.Frag} {mg : Str → Option Value} {base : Heap}
variable {X : Cx}
def uCallX (a : Addr) (cls : Value) (d : Option Addr) (sp : Addr → Value → Sp) (t : TA) : TE := fun σ H Q => d = none ∧ t σ H fun vs H1 => sp a cls vs H1 Q fun _ _ _ => False
theorem w_callX {a : Addr} {cls : Value} {sp : Addr → Value → Sp} {t : TA} {σ : L2.St} {H : Hp} {Q : VK} (h : t σ H fun vs H1 => sp a cls vs H1 Q fun _ _ _ => False) : uCallX a cls none sp t σ H Q := ⟨rfl, h⟩
end hotdefs
section steps5
variable {K : PySem.W.Frag} {H : Hp} {Q : VK} {s t : Str} {A B : Prop}
theorem ifSF (h : decide (s = t) = false) (k : B) : if decide (s = t) = true then A else B := by rw [h]; exact iteF k
theorem ifST (h : decide (s = t) = true) (k : A) : if decide (s = t) = true then A else B := by rw [h]; exact iteT k
theorem ifSNF (h : decide (s = t) = true) (k : B) : if (!decide (s = t)) = true then A else B := by rw [h]; exact iteF k
theorem ifSNT (h : decide (s = t) = false) (k : A) : if (!decide (s = t)) = true then A else B := by rw [h]; exact iteT k
theorem w_neNN (h : Q (.bl false) H) : uNe K .non .non H Q := .inl ⟨rfl, h⟩
theorem w_eqNN (h : Q (.bl true) H) : uEq K .non .non H Q := .inl ⟨rfl, h⟩
end steps5
section steps6
variable {K : PySem.W.Frag} {H : Hp} {Q : VK} {p : Addr} {n : Int}
theorem w_ixBl {bs : List Bool} (e : SqL K H p (bs.map V.bl)) (h0 : 0 ≤ n ∧ n.toNat < bs.length) (h : Q (.bl (bs.getD n.toNat false)) H) : uIx K (.ref p) (.int n) H Q :=
  ⟨_, .bl (bs.getD n.toNat false), .inl e, by
    have z : (bs.map V.bl)[n.toNat]? = some (.bl (bs.getD n.toNat false)) := by rw [List.getElem?_map, List.getElem?_eq_getElem h0.2, List.getD_eq_getElem?_getD, List.getElem?_eq_getElem h0.2]; rfl
    have y := atI_nat z
    rw [show ((n.toNat : Nat) : Int) = n by omega] at y
    exact y, h⟩
def augSQ (ti te : TE) (g : V → V → Hp → VK → Prop) (op : TIp) (ts : TSet) (D : Ends) (σ : L2.St) (x : V) (H1 : Hp) : Prop := ti σ H1 fun i H2 => g x i H2 fun v H3 => te σ H3 fun y H4 => op v y H4 fun z H5 => ts x i z H5 fun H6 => D.nx σ H6
theorem w_getI2 {ns : List Int} (e : SqL K H p (ns.map V.int)) (h0 : 0 ≤ n ∧ n.toNat < ns.length) (h : Q (.int (ns.getD n.toNat 0)) H) : uGet K (.ref p) (.int n) H Q :=
  .inl ⟨h0.1, _, .int (ns.getD n.toNat 0), e, by rw [List.getElem?_map, List.getElem?_eq_getElem h0.2, List.getD_eq_getElem?_getD, List.getElem?_eq_getElem h0.2]; rfl, h⟩
theorem w_augS {D : Ends} {σ : L2.St} {to ti te : TE} {g : V → V → Hp → VK → Prop} {op : TIp} {ts : TSet} (h : to σ H fun o H1 => augSQ ti te g op ts D σ o H1) : tAugS to ti te g op ts D σ H := h
theorem w_augSQ {D : Ends} {σ : L2.St} {ti te : TE} {g : V → V → Hp → VK → Prop} {op : TIp} {ts : TSet} {x : V} (h : ti σ H fun i H2 => g x i H2 fun v H3 => te σ H3 fun y H4 => op v y H4 fun z H5 => ts x i z H5 fun H6 => D.nx σ H6) : augSQ ti te g op ts D σ x H := h
end steps6
end U
namespace Lam
open PySem PySem.Spec L2 U
local macro_rules | `(tactic| walk_at "te") => `(tactic| fail "no fact")
local macro_rules | `(tactic| walk_at "kt") => `(tactic| fail "no fact")
local macro_rules | `(tactic| walk_at "xc") => `(tactic| fail "no fact")
local macro_rules | `(tactic| walk_at "x") => `(tactic| fail "no step")
local macro_rules | `(tactic| walk_at "hk") => `(tactic| first
  | assumption | exact upd_same | exact SqL.of upd_same | exact SqT.of upd_same
  | (apply sql_old; (· walk_at "hk"); (· assumption)) | (apply upd_old; (· walk_at "hk"); (· assumption)) | (apply sqt_old; (· walk_at "hk"); (· assumption))
  | exact L2.Same.seq (by assumption) (by assumption) | exact U.Same.sqt (by assumption) (by assumption) | exact (by assumption : L2.Same _ _) _ _ (by assumption)
  | (apply SqL.of; walk_at "hk") | (apply SqT.of; walk_at "hk"))
local macro_rules | `(tactic| walk_at "nn") => `(tactic| first | assumption | exact L2.Same.free (by assumption) (by assumption) | exact (none_of_upd (by assumption)).1)
local macro_rules | `(tactic| walk_at "sm") => `(tactic| first | assumption | exact L2.Same.refl _ | (apply same_updN; (· walk_at "sm"); (· assumption)) | (apply same_upd; (· walk_at "sm"); (· walk_at "nn")) | exact L2.Same.trans (by assumption) (by assumption))
local macro_rules | `(tactic| walk_at "s") => `(tactic| first
    | with_reducible refine w_seq ?_
    | with_reducible refine w_op ?_
    | with_reducible refine w_asg ?_
    | with_reducible refine w_name ?_
    | with_reducible refine w_c ?_
    | with_reducible refine w_if ?_
    | with_reducible refine w_test ?_
    | with_reducible refine w_blP ?_
    | with_reducible refine w_cons ?_
    | with_reducible refine w_nil ?_
    | with_reducible refine w_ret ?_
    | with_reducible refine w_call ?_
    | ((with_reducible refine' w_var ?e ?_); (case e => rfl))
    | ((with_reducible refine ifST ?h ?_); (case h => decide +kernel))
    | ((with_reducible refine ifSF ?h ?_); (case h => decide +kernel))
    | ((with_reducible refine ifSNT ?h ?_); (case h => decide +kernel))
    | ((with_reducible refine ifSNF ?h ?_); (case h => decide +kernel))
    | with_reducible refine iteT ?_
    | with_reducible refine iteF ?_
    | with_reducible refine ifNT ?_
    | with_reducible refine ifNF ?_
    | (((with_reducible show @ite Prop (_ = true) _ _ _); refine @ifP _ _ _ _ ?_ ?_) <;> intro h <;> first | (with_reducible exact absurd rfl h) | skip)
    | (((with_reducible show @ite Prop (_ = true) _ _ _); refine @ifN _ _ _ _ ?_ ?_) <;> intro h <;> first | (with_reducible exact absurd rfl h) | skip)
    | with_reducible refine w_eqX ?_
    | with_reducible refine w_neX ?_
    | with_reducible refine w_add ?_
    | with_reducible refine w_sub ?_
    | with_reducible refine w_eqI ?_
    | with_reducible refine w_neI ?_
    | with_reducible refine w_lt ?_
    | with_reducible refine w_le ?_
    | with_reducible refine w_gt ?_
    | with_reducible refine w_ge ?_
    | with_reducible refine w_eqS ?_
    | with_reducible refine w_eqB ?_
    | with_reducible refine w_neS ?_
    | with_reducible refine w_neB ?_
    | with_reducible refine w_cb ?_
    | with_reducible refine w_tup ?_
    | with_reducible refine w_lst ?_
    | with_reducible refine w_next ?_
    | with_reducible refine w_drop ?_
    | with_reducible refine w_not ?_
    | with_reducible refine w_tru ?_
    | with_reducible refine w_and ?_
    | with_reducible refine w_or ?_
    | with_reducible refine w_andV ?_
    | with_reducible refine w_orV ?_
    | with_reducible refine w_notV ?_
    | with_reducible refine w_ifE ?_
    | with_reducible refine w_chain ?_
    | with_reducible refine w_retN ?_
    | with_reducible refine w_bm ?_
    | with_reducible refine w_raise ?_
    | with_reducible refine w_fld ?_
    | with_reducible refine w_meth ?_
    | with_reducible refine w_setf ?_
    | with_reducible refine w_for ?_
    | with_reducible refine w_rng1 ?_
    | with_reducible refine w_rng2 ?_
    | with_reducible refine w_iList ?_
    | with_reducible refine w_iTup ?_
    | with_reducible refine w_iStr ?_
    | with_reducible refine w_iRev ?_
    | with_reducible refine w_brk ?_
    | with_reducible refine w_cont ?_
    | with_reducible refine w_un ?_
    | with_reducible refine w_lc ?_
    | with_reducible refine w_yes ?_
    | with_reducible refine w_gsub ?_
    | with_reducible refine w_sl ?_
    | with_reducible refine w_part ?_
    | with_reducible refine w_noPart ?_
    | with_reducible refine w_wh ?_
    | with_reducible refine w_tryAs ?_
    | with_reducible refine w_try ?_
    | with_reducible refine w_make ?_
    | with_reducible refine w_dget ?_
    | with_reducible refine w_dput ?_
    | with_reducible refine w_gcons ?_
    | with_reducible refine w_gnil ?_
    | with_reducible refine w_augf ?_
    | with_reducible refine w_iEnum ?_
    | with_reducible refine w_iZip ?_
    | with_reducible refine w_iKeys ?_
    | with_reducible refine w_dget2 ?_
    | with_reducible refine w_dget1 ?_
    | with_reducible refine w_dpop1 ?_
    | with_reducible refine w_ddel ?_
    | with_reducible refine w_callX ?_
    | with_reducible refine w_augS ?_
    | with_reducible refine w_augSQ ?_
    | ((with_reducible refine' w_aug ?e ?_); (case e => rfl))
    | ((with_reducible refine w_mul ?s ?_); (case s => first | exact Or.inr ⟨by omega, by omega⟩ | exact Or.inl ⟨by omega, by omega⟩))
    | ((with_reducible refine w_div ?s ?_); (case s => omega))
    | ((with_reducible refine w_mod ?s ?_); (case s => first | omega | decide))
    | ((with_reducible refine w_pow ?s ?_); (case s => first | exact ⟨by decide, by decide, by decide⟩ | exact ⟨by decide, by decide, by omega⟩))
    | ((with_reducible refine w_newL ?s ?_); (case s => (first | exact (by decide) | (simp only [List.length_cons, List.length_nil]; omega))); intro _ _)
    | ((with_reducible refine w_newT ?s ?_); (case s => (first | exact (by decide) | (simp only [List.length_cons, List.length_nil]; omega))); intro _ _)
    | with_reducible refine w_eqX ?_
    | with_reducible refine w_neX ?_
    | with_reducible refine w_findX ?_
    | with_reducible refine w_countX ?_
    | ((with_reducible refine w_lenX ?s ?_); (case s => (first | omega | (simp only [List.length_append, List.length_cons, List.length_nil, List.length_take, List.length_drop, List.length_replicate, List.length_map, List.length_range] at *; omega) | (simp only [List.length_append, List.length_cons, List.length_nil, List.length_take, List.length_drop, List.length_replicate, List.length_map, List.length_range]; omega) | decide)))
    | ((with_reducible refine w_truX ?s ?_); (case s => (first | omega | (simp only [List.length_append, List.length_cons, List.length_nil, List.length_take, List.length_drop, List.length_replicate, List.length_map, List.length_range] at *; omega) | (simp only [List.length_append, List.length_cons, List.length_nil, List.length_take, List.length_drop, List.length_replicate, List.length_map, List.length_range]; omega) | decide)))
    | ((with_reducible refine w_addX ?s ?_); (case s => (first | omega | (simp only [List.length_append, List.length_cons, List.length_nil, List.length_take, List.length_drop, List.length_replicate, List.length_map, List.length_range] at *; omega) | (simp only [List.length_append, List.length_cons, List.length_nil, List.length_take, List.length_drop, List.length_replicate, List.length_map, List.length_range]; omega) | decide)))
    | ((with_reducible refine w_mulX ?h0 ?h1 ?_); (case h0 => (first | omega | (simp only [List.length_append, List.length_cons, List.length_nil, List.length_take, List.length_drop, List.length_replicate, List.length_map, List.length_range] at *; omega) | (simp only [List.length_append, List.length_cons, List.length_nil, List.length_take, List.length_drop, List.length_replicate, List.length_map, List.length_range]; omega) | decide)); (case h1 => (first | omega | (simp only [List.length_append, List.length_cons, List.length_nil, List.length_take, List.length_drop, List.length_replicate, List.length_map, List.length_range] at *; omega) | (simp only [List.length_append, List.length_cons, List.length_nil, List.length_take, List.length_drop, List.length_replicate, List.length_map, List.length_range]; omega) | decide)))
    | ((with_reducible refine w_tkX ?s ?h0 ?_); (case s => (first | omega | (simp only [List.length_append, List.length_cons, List.length_nil, List.length_take, List.length_drop, List.length_replicate, List.length_map, List.length_range] at *; omega) | (simp only [List.length_append, List.length_cons, List.length_nil, List.length_take, List.length_drop, List.length_replicate, List.length_map, List.length_range]; omega) | decide)); (case h0 => (first | omega | (simp only [List.length_append, List.length_cons, List.length_nil, List.length_take, List.length_drop, List.length_replicate, List.length_map, List.length_range] at *; omega) | (simp only [List.length_append, List.length_cons, List.length_nil, List.length_take, List.length_drop, List.length_replicate, List.length_map, List.length_range]; omega) | decide)))
    | ((with_reducible refine w_dpX ?s ?h0 ?_); (case s => (first | omega | (simp only [List.length_append, List.length_cons, List.length_nil, List.length_take, List.length_drop, List.length_replicate, List.length_map, List.length_range] at *; omega) | (simp only [List.length_append, List.length_cons, List.length_nil, List.length_take, List.length_drop, List.length_replicate, List.length_map, List.length_range]; omega) | decide)); (case h0 => (first | omega | (simp only [List.length_append, List.length_cons, List.length_nil, List.length_take, List.length_drop, List.length_replicate, List.length_map, List.length_range] at *; omega) | (simp only [List.length_append, List.length_cons, List.length_nil, List.length_take, List.length_drop, List.length_replicate, List.length_map, List.length_range]; omega) | decide)))
    | ((with_reducible refine w_ixX ?s ?h0 ?_); (case s => (first | omega | (simp only [List.length_append, List.length_cons, List.length_nil, List.length_take, List.length_drop, List.length_replicate, List.length_map, List.length_range] at *; omega) | (simp only [List.length_append, List.length_cons, List.length_nil, List.length_take, List.length_drop, List.length_replicate, List.length_map, List.length_range]; omega) | decide)); (case h0 => (first | omega | (simp only [List.length_append, List.length_cons, List.length_nil, List.length_take, List.length_drop, List.length_replicate, List.length_map, List.length_range] at *; omega) | (simp only [List.length_append, List.length_cons, List.length_nil, List.length_take, List.length_drop, List.length_replicate, List.length_map, List.length_range]; omega) | decide)))
    | with_reducible refine w_max ?_
    | with_reducible refine w_min ?_
    | with_reducible refine w_eqNI ?_
    | with_reducible refine w_neNI ?_
    | with_reducible refine w_eqIN ?_
    | with_reducible refine w_neIN ?_
    | with_reducible refine w_neNN ?_
    | with_reducible refine w_eqNN ?_
    | with_reducible refine w_abs ?_
    | with_reducible refine w_intI ?_
    | with_reducible refine w_intB ?_
    | with_reducible refine w_ipI ?_
    | with_reducible refine w_bmS ?_
    | with_reducible refine w_iStrv ?_
    | with_reducible refine w_neg ?_
    | with_reducible refine w_partI ?_
    | with_reducible refine w_truB ?_
    | with_reducible refine w_truN ?_
    | with_reducible refine w_truI ?_
    | with_reducible refine w_isi_int_int ?_
    | with_reducible refine w_isi_int_bl ?_
    | with_reducible refine w_isi_int_str ?_
    | with_reducible refine w_isi_int_non ?_
    | with_reducible refine w_isi_bool_int ?_
    | with_reducible refine w_isi_bool_bl ?_
    | with_reducible refine w_isi_bool_str ?_
    | with_reducible refine w_isi_bool_non ?_
    | with_reducible refine w_isi_str_int ?_
    | with_reducible refine w_isi_str_bl ?_
    | with_reducible refine w_isi_str_str ?_
    | with_reducible refine w_isi_str_non ?_
    | with_reducible refine w_isi_list_int ?_
    | with_reducible refine w_isi_list_bl ?_
    | with_reducible refine w_isi_list_str ?_
    | with_reducible refine w_isi_list_non ?_
    | with_reducible refine w_isi_tuple_int ?_
    | with_reducible refine w_isi_tuple_bl ?_
    | with_reducible refine w_isi_tuple_str ?_
    | with_reducible refine w_isi_tuple_non ?_
    | with_reducible refine w_is_int ?_
    | with_reducible refine w_isnt_int ?_
    | with_reducible refine w_is_bl ?_
    | with_reducible refine w_isnt_bl ?_
    | with_reducible refine w_is_str ?_
    | with_reducible refine w_isnt_str ?_
    | with_reducible refine w_is_non ?_
    | with_reducible refine w_isnt_non ?_
    | with_reducible refine w_is_ref ?_
    | with_reducible refine w_isnt_ref ?_
    | ((with_reducible refine w_asT ?e ?_); (case e => walk_at "te"); intro _ _)
    | ((with_reducible refine w_onT ?e ?_); (case e => walk_at "te"); intro _ _)
    | ((with_reducible refine w_asF ?e ?_); (case e => walk_at "te"))
    | ((with_reducible refine w_onF ?e ?_); (case e => walk_at "te"))
    | ((with_reducible apply w_isE); (· walk_at "xc"); (· walk_at "kt"))
    | ((with_reducible apply w_lenL); (· walk_at "hk"))
    | ((with_reducible apply w_lenT); (· walk_at "hk"))
    | ((with_reducible apply w_bmL); (· walk_at "hk"))
    | ((with_reducible refine w_rng1v ?h1 ?h2 ?_); (case h1 => (first | omega | (simp only [List.length_map] at *; omega))); (case h2 => (first | omega | (simp only [List.length_map] at *; omega))))
    | ((with_reducible refine w_rng2v ?h1 ?_); (case h1 => (first | omega | (simp only [List.length_map] at *; omega))))
    | ((with_reducible apply w_ixI); (· walk_at "hk"); (· (first | omega | (simp only [List.length_map] at *; omega))))
    | ((with_reducible apply w_ixTI); (· walk_at "hk"); (· (first | omega | (simp only [List.length_map] at *; omega))))
    | ((with_reducible apply w_ixBl); (· walk_at "hk"); (· (first | omega | (simp only [List.length_map] at *; omega))))
    | ((with_reducible apply w_getI2); (· walk_at "hk"); (· (first | omega | (simp only [List.length_map] at *; omega))))
    | ((with_reducible apply w_ixTl); (· walk_at "hk"); (· rfl); (· decide))
    | ((with_reducible apply w_ixLl); (· walk_at "hk"); (· rfl); (· decide))
    | ((with_reducible apply w_appI); (· walk_at "hk"); (· (first | omega | (simp only [List.length_append, List.length_cons, List.length_nil]; omega))))
    | ((with_reducible apply w_iListv); (· walk_at "hk"))
    | ((with_reducible apply w_iTupv); (· walk_at "hk"))
    | ((with_reducible apply w_iRevv); (· walk_at "hk"))
    | ((with_reducible apply w_iEnumv); (· walk_at "hk"))
    | ((with_reducible apply w_iZipv); (· walk_at "hk"); (· walk_at "hk"))
    | ((with_reducible apply w_dget2v); (· walk_at "hk"))
    | ((with_reducible apply w_dget1v); (· walk_at "hk"))
    | ((with_reducible apply w_dpop1v); (· walk_at "hk"))
    | ((with_reducible apply w_getI); (· walk_at "hk"))
    | ((with_reducible apply w_inD); (· walk_at "hk"))
    | ((with_reducible apply w_ninD); (· walk_at "hk"))
    | ((with_reducible apply w_rep1); (· walk_at "hk"); (· (first | omega | (simp only [List.length_append, List.length_cons, List.length_nil, List.length_take, List.length_drop, List.length_replicate, List.length_map, List.length_range] at *; omega) | (simp only [List.length_append, List.length_cons, List.length_nil, List.length_take, List.length_drop, List.length_replicate, List.length_map, List.length_range]; omega) | decide)); (· (first | omega | (simp only [List.length_append, List.length_cons, List.length_nil, List.length_take, List.length_drop, List.length_replicate, List.length_map, List.length_range] at *; omega) | (simp only [List.length_append, List.length_cons, List.length_nil, List.length_take, List.length_drop, List.length_replicate, List.length_map, List.length_range]; omega) | decide)); intro _ _)
    | ((with_reducible apply w_gtup2); (· walk_at "hk"))
    | ((with_reducible apply w_gtup3); (· walk_at "hk"))
    | ((with_reducible apply w_gtup4); (· walk_at "hk"))
    | ((with_reducible refine w_newD ?_); intro _ _)
    | ((with_reducible apply w_augsub); (· walk_at "hk"); (· rfl); (· exact Nat.le_of_ble_eq_true rfl))
    | ((with_reducible apply w_augadd); (· walk_at "hk"); (· rfl); (· exact Nat.le_of_ble_eq_true rfl))
    | ((with_reducible apply w_fldv); (· walk_at "hk"); (· rfl))
    | ((with_reducible apply w_methv); (· walk_at "hk"); (· rfl))
    | ((with_reducible apply w_setfv); (· walk_at "hk"); (· exact Nat.le_of_ble_eq_true rfl); (· rfl))
    | walk_at "x")
local macro_rules | `(tactic| walk_at "run1") => `(tactic| repeat (first
    | with_reducible refine w_seq ?_
    | with_reducible refine w_op ?_
    | with_reducible refine w_asg ?_
    | with_reducible refine w_name ?_
    | with_reducible refine w_c ?_
    | with_reducible refine w_if ?_
    | with_reducible refine w_test ?_
    | with_reducible refine w_blP ?_
    | with_reducible refine w_cons ?_
    | with_reducible refine w_nil ?_
    | with_reducible refine w_ret ?_
    | with_reducible refine w_call ?_
    | ((with_reducible refine' w_var ?e ?_); (case e => rfl))
    | ((with_reducible refine ifST ?h ?_); (case h => decide +kernel))
    | ((with_reducible refine ifSF ?h ?_); (case h => decide +kernel))
    | ((with_reducible refine ifSNT ?h ?_); (case h => decide +kernel))
    | ((with_reducible refine ifSNF ?h ?_); (case h => decide +kernel))
    | with_reducible refine iteT ?_
    | with_reducible refine iteF ?_
    | with_reducible refine ifNT ?_
    | with_reducible refine ifNF ?_
    | (((with_reducible show @ite Prop (_ = true) _ _ _); refine @ifP _ _ _ _ ?_ ?_) <;> intro h <;> first | (with_reducible exact absurd rfl h) | skip)
    | (((with_reducible show @ite Prop (_ = true) _ _ _); refine @ifN _ _ _ _ ?_ ?_) <;> intro h <;> first | (with_reducible exact absurd rfl h) | skip)
    | with_reducible refine w_eqX ?_
    | with_reducible refine w_neX ?_
    | with_reducible refine w_add ?_
    | with_reducible refine w_sub ?_
    | with_reducible refine w_eqI ?_
    | with_reducible refine w_neI ?_
    | with_reducible refine w_lt ?_
    | with_reducible refine w_le ?_
    | with_reducible refine w_gt ?_
    | with_reducible refine w_ge ?_
    | with_reducible refine w_eqS ?_
    | with_reducible refine w_eqB ?_
    | with_reducible refine w_neS ?_
    | with_reducible refine w_neB ?_
    | with_reducible refine w_cb ?_
    | with_reducible refine w_tup ?_
    | with_reducible refine w_lst ?_
    | with_reducible refine w_next ?_
    | with_reducible refine w_drop ?_
    | with_reducible refine w_not ?_
    | with_reducible refine w_tru ?_
    | with_reducible refine w_and ?_
    | with_reducible refine w_or ?_
    | with_reducible refine w_andV ?_
    | with_reducible refine w_orV ?_
    | with_reducible refine w_notV ?_
    | with_reducible refine w_ifE ?_
    | with_reducible refine w_chain ?_
    | with_reducible refine w_retN ?_
    | with_reducible refine w_bm ?_
    | with_reducible refine w_raise ?_
    | with_reducible refine w_fld ?_
    | with_reducible refine w_meth ?_
    | with_reducible refine w_setf ?_
    | with_reducible refine w_for ?_
    | with_reducible refine w_rng1 ?_
    | with_reducible refine w_rng2 ?_
    | with_reducible refine w_iList ?_
    | with_reducible refine w_iTup ?_
    | with_reducible refine w_iStr ?_
    | with_reducible refine w_iRev ?_
    | with_reducible refine w_brk ?_
    | with_reducible refine w_cont ?_
    | with_reducible refine w_un ?_
    | with_reducible refine w_lc ?_
    | with_reducible refine w_yes ?_
    | with_reducible refine w_gsub ?_
    | with_reducible refine w_sl ?_
    | with_reducible refine w_part ?_
    | with_reducible refine w_noPart ?_
    | with_reducible refine w_wh ?_
    | with_reducible refine w_tryAs ?_
    | with_reducible refine w_try ?_
    | with_reducible refine w_make ?_
    | with_reducible refine w_dget ?_
    | with_reducible refine w_dput ?_
    | with_reducible refine w_gcons ?_
    | with_reducible refine w_gnil ?_
    | with_reducible refine w_augf ?_
    | with_reducible refine w_iEnum ?_
    | with_reducible refine w_iZip ?_
    | with_reducible refine w_iKeys ?_
    | with_reducible refine w_dget2 ?_
    | with_reducible refine w_dget1 ?_
    | with_reducible refine w_dpop1 ?_
    | with_reducible refine w_ddel ?_
    | with_reducible refine w_callX ?_
    | with_reducible refine w_augS ?_
    | with_reducible refine w_augSQ ?_
    | ((with_reducible refine' w_aug ?e ?_); (case e => rfl))
    | ((with_reducible refine w_mul ?s ?_); (case s => first | exact Or.inr ⟨by omega, by omega⟩ | exact Or.inl ⟨by omega, by omega⟩))
    | ((with_reducible refine w_div ?s ?_); (case s => omega))
    | ((with_reducible refine w_mod ?s ?_); (case s => first | omega | decide))
    | ((with_reducible refine w_pow ?s ?_); (case s => first | exact ⟨by decide, by decide, by decide⟩ | exact ⟨by decide, by decide, by omega⟩))
    | ((with_reducible refine w_newL ?s ?_); (case s => (first | exact (by decide) | (simp only [List.length_cons, List.length_nil]; omega))); intro _ _)
    | ((with_reducible refine w_newT ?s ?_); (case s => (first | exact (by decide) | (simp only [List.length_cons, List.length_nil]; omega))); intro _ _)
    | with_reducible refine w_eqX ?_
    | with_reducible refine w_neX ?_
    | with_reducible refine w_findX ?_
    | with_reducible refine w_countX ?_
    | ((with_reducible refine w_lenX ?s ?_); (case s => (first | omega | (simp only [List.length_append, List.length_cons, List.length_nil, List.length_take, List.length_drop, List.length_replicate, List.length_map, List.length_range] at *; omega) | (simp only [List.length_append, List.length_cons, List.length_nil, List.length_take, List.length_drop, List.length_replicate, List.length_map, List.length_range]; omega) | decide)))
    | ((with_reducible refine w_truX ?s ?_); (case s => (first | omega | (simp only [List.length_append, List.length_cons, List.length_nil, List.length_take, List.length_drop, List.length_replicate, List.length_map, List.length_range] at *; omega) | (simp only [List.length_append, List.length_cons, List.length_nil, List.length_take, List.length_drop, List.length_replicate, List.length_map, List.length_range]; omega) | decide)))
    | ((with_reducible refine w_addX ?s ?_); (case s => (first | omega | (simp only [List.length_append, List.length_cons, List.length_nil, List.length_take, List.length_drop, List.length_replicate, List.length_map, List.length_range] at *; omega) | (simp only [List.length_append, List.length_cons, List.length_nil, List.length_take, List.length_drop, List.length_replicate, List.length_map, List.length_range]; omega) | decide)))
    | ((with_reducible refine w_mulX ?h0 ?h1 ?_); (case h0 => (first | omega | (simp only [List.length_append, List.length_cons, List.length_nil, List.length_take, List.length_drop, List.length_replicate, List.length_map, List.length_range] at *; omega) | (simp only [List.length_append, List.length_cons, List.length_nil, List.length_take, List.length_drop, List.length_replicate, List.length_map, List.length_range]; omega) | decide)); (case h1 => (first | omega | (simp only [List.length_append, List.length_cons, List.length_nil, List.length_take, List.length_drop, List.length_replicate, List.length_map, List.length_range] at *; omega) | (simp only [List.length_append, List.length_cons, List.length_nil, List.length_take, List.length_drop, List.length_replicate, List.length_map, List.length_range]; omega) | decide)))
    | ((with_reducible refine w_tkX ?s ?h0 ?_); (case s => (first | omega | (simp only [List.length_append, List.length_cons, List.length_nil, List.length_take, List.length_drop, List.length_replicate, List.length_map, List.length_range] at *; omega) | (simp only [List.length_append, List.length_cons, List.length_nil, List.length_take, List.length_drop, List.length_replicate, List.length_map, List.length_range]; omega) | decide)); (case h0 => (first | omega | (simp only [List.length_append, List.length_cons, List.length_nil, List.length_take, List.length_drop, List.length_replicate, List.length_map, List.length_range] at *; omega) | (simp only [List.length_append, List.length_cons, List.length_nil, List.length_take, List.length_drop, List.length_replicate, List.length_map, List.length_range]; omega) | decide)))
    | ((with_reducible refine w_dpX ?s ?h0 ?_); (case s => (first | omega | (simp only [List.length_append, List.length_cons, List.length_nil, List.length_take, List.length_drop, List.length_replicate, List.length_map, List.length_range] at *; omega) | (simp only [List.length_append, List.length_cons, List.length_nil, List.length_take, List.length_drop, List.length_replicate, List.length_map, List.length_range]; omega) | decide)); (case h0 => (first | omega | (simp only [List.length_append, List.length_cons, List.length_nil, List.length_take, List.length_drop, List.length_replicate, List.length_map, List.length_range] at *; omega) | (simp only [List.length_append, List.length_cons, List.length_nil, List.length_take, List.length_drop, List.length_replicate, List.length_map, List.length_range]; omega) | decide)))
    | ((with_reducible refine w_ixX ?s ?h0 ?_); (case s => (first | omega | (simp only [List.length_append, List.length_cons, List.length_nil, List.length_take, List.length_drop, List.length_replicate, List.length_map, List.length_range] at *; omega) | (simp only [List.length_append, List.length_cons, List.length_nil, List.length_take, List.length_drop, List.length_replicate, List.length_map, List.length_range]; omega) | decide)); (case h0 => (first | omega | (simp only [List.length_append, List.length_cons, List.length_nil, List.length_take, List.length_drop, List.length_replicate, List.length_map, List.length_range] at *; omega) | (simp only [List.length_append, List.length_cons, List.length_nil, List.length_take, List.length_drop, List.length_replicate, List.length_map, List.length_range]; omega) | decide)))
    | with_reducible refine w_max ?_
    | with_reducible refine w_min ?_
    | with_reducible refine w_eqNI ?_
    | with_reducible refine w_neNI ?_
    | with_reducible refine w_eqIN ?_
    | with_reducible refine w_neIN ?_
    | with_reducible refine w_neNN ?_
    | with_reducible refine w_eqNN ?_
    | with_reducible refine w_abs ?_
    | with_reducible refine w_intI ?_
    | with_reducible refine w_intB ?_
    | with_reducible refine w_ipI ?_
    | with_reducible refine w_bmS ?_
    | with_reducible refine w_iStrv ?_
    | with_reducible refine w_neg ?_
    | with_reducible refine w_partI ?_
    | with_reducible refine w_truB ?_
    | with_reducible refine w_truN ?_
    | with_reducible refine w_truI ?_
    | with_reducible refine w_isi_int_int ?_
    | with_reducible refine w_isi_int_bl ?_
    | with_reducible refine w_isi_int_str ?_
    | with_reducible refine w_isi_int_non ?_
    | with_reducible refine w_isi_bool_int ?_
    | with_reducible refine w_isi_bool_bl ?_
    | with_reducible refine w_isi_bool_str ?_
    | with_reducible refine w_isi_bool_non ?_
    | with_reducible refine w_isi_str_int ?_
    | with_reducible refine w_isi_str_bl ?_
    | with_reducible refine w_isi_str_str ?_
    | with_reducible refine w_isi_str_non ?_
    | with_reducible refine w_isi_list_int ?_
    | with_reducible refine w_isi_list_bl ?_
    | with_reducible refine w_isi_list_str ?_
    | with_reducible refine w_isi_list_non ?_
    | with_reducible refine w_isi_tuple_int ?_
    | with_reducible refine w_isi_tuple_bl ?_
    | with_reducible refine w_isi_tuple_str ?_
    | with_reducible refine w_isi_tuple_non ?_
    | with_reducible refine w_is_int ?_
    | with_reducible refine w_isnt_int ?_
    | with_reducible refine w_is_bl ?_
    | with_reducible refine w_isnt_bl ?_
    | with_reducible refine w_is_str ?_
    | with_reducible refine w_isnt_str ?_
    | with_reducible refine w_is_non ?_
    | with_reducible refine w_isnt_non ?_
    | with_reducible refine w_is_ref ?_
    | with_reducible refine w_isnt_ref ?_
    | ((with_reducible refine w_asT ?e ?_); (case e => walk_at "te"); intro _ _)
    | ((with_reducible refine w_onT ?e ?_); (case e => walk_at "te"); intro _ _)
    | ((with_reducible refine w_asF ?e ?_); (case e => walk_at "te"))
    | ((with_reducible refine w_onF ?e ?_); (case e => walk_at "te"))
    | ((with_reducible apply w_isE); (· walk_at "xc"); (· walk_at "kt"))
    | ((with_reducible apply w_lenL); (· walk_at "hk"))
    | ((with_reducible apply w_lenT); (· walk_at "hk"))
    | ((with_reducible apply w_bmL); (· walk_at "hk"))
    | ((with_reducible refine w_rng1v ?h1 ?h2 ?_); (case h1 => (first | omega | (simp only [List.length_map] at *; omega))); (case h2 => (first | omega | (simp only [List.length_map] at *; omega))))
    | ((with_reducible refine w_rng2v ?h1 ?_); (case h1 => (first | omega | (simp only [List.length_map] at *; omega))))
    | ((with_reducible apply w_ixI); (· walk_at "hk"); (· (first | omega | (simp only [List.length_map] at *; omega))))
    | ((with_reducible apply w_ixTI); (· walk_at "hk"); (· (first | omega | (simp only [List.length_map] at *; omega))))
    | ((with_reducible apply w_ixBl); (· walk_at "hk"); (· (first | omega | (simp only [List.length_map] at *; omega))))
    | ((with_reducible apply w_getI2); (· walk_at "hk"); (· (first | omega | (simp only [List.length_map] at *; omega))))
    | ((with_reducible apply w_ixTl); (· walk_at "hk"); (· rfl); (· decide))
    | ((with_reducible apply w_ixLl); (· walk_at "hk"); (· rfl); (· decide))
    | ((with_reducible apply w_appI); (· walk_at "hk"); (· (first | omega | (simp only [List.length_append, List.length_cons, List.length_nil]; omega))))
    | ((with_reducible apply w_iListv); (· walk_at "hk"))
    | ((with_reducible apply w_iTupv); (· walk_at "hk"))
    | ((with_reducible apply w_iRevv); (· walk_at "hk"))
    | ((with_reducible apply w_iEnumv); (· walk_at "hk"))
    | ((with_reducible apply w_iZipv); (· walk_at "hk"); (· walk_at "hk"))
    | ((with_reducible apply w_dget2v); (· walk_at "hk"))
    | ((with_reducible apply w_dget1v); (· walk_at "hk"))
    | ((with_reducible apply w_dpop1v); (· walk_at "hk"))
    | ((with_reducible apply w_getI); (· walk_at "hk"))
    | ((with_reducible apply w_inD); (· walk_at "hk"))
    | ((with_reducible apply w_ninD); (· walk_at "hk"))
    | ((with_reducible apply w_rep1); (· walk_at "hk"); (· (first | omega | (simp only [List.length_append, List.length_cons, List.length_nil, List.length_take, List.length_drop, List.length_replicate, List.length_map, List.length_range] at *; omega) | (simp only [List.length_append, List.length_cons, List.length_nil, List.length_take, List.length_drop, List.length_replicate, List.length_map, List.length_range]; omega) | decide)); (· (first | omega | (simp only [List.length_append, List.length_cons, List.length_nil, List.length_take, List.length_drop, List.length_replicate, List.length_map, List.length_range] at *; omega) | (simp only [List.length_append, List.length_cons, List.length_nil, List.length_take, List.length_drop, List.length_replicate, List.length_map, List.length_range]; omega) | decide)); intro _ _)
    | ((with_reducible apply w_gtup2); (· walk_at "hk"))
    | ((with_reducible apply w_gtup3); (· walk_at "hk"))
    | ((with_reducible apply w_gtup4); (· walk_at "hk"))
    | ((with_reducible refine w_newD ?_); intro _ _)
    | ((with_reducible apply w_augsub); (· walk_at "hk"); (· rfl); (· exact Nat.le_of_ble_eq_true rfl))
    | ((with_reducible apply w_augadd); (· walk_at "hk"); (· rfl); (· exact Nat.le_of_ble_eq_true rfl))
    | ((with_reducible apply w_fldv); (· walk_at "hk"); (· rfl))
    | ((with_reducible apply w_methv); (· walk_at "hk"); (· rfl))
    | ((with_reducible apply w_setfv); (· walk_at "hk"); (· exact Nat.le_of_ble_eq_true rfl); (· rfl))
    | walk_at "x"))
local macro_rules | `(tactic| walk_at "run") => `(tactic| repeat' (first
    | with_reducible refine w_seq ?_
    | with_reducible refine w_op ?_
    | with_reducible refine w_asg ?_
    | with_reducible refine w_name ?_
    | with_reducible refine w_c ?_
    | with_reducible refine w_if ?_
    | with_reducible refine w_test ?_
    | with_reducible refine w_blP ?_
    | with_reducible refine w_cons ?_
    | with_reducible refine w_nil ?_
    | with_reducible refine w_ret ?_
    | with_reducible refine w_call ?_
    | ((with_reducible refine' w_var ?e ?_); (case e => rfl))
    | ((with_reducible refine ifST ?h ?_); (case h => decide +kernel))
    | ((with_reducible refine ifSF ?h ?_); (case h => decide +kernel))
    | ((with_reducible refine ifSNT ?h ?_); (case h => decide +kernel))
    | ((with_reducible refine ifSNF ?h ?_); (case h => decide +kernel))
    | with_reducible refine iteT ?_
    | with_reducible refine iteF ?_
    | with_reducible refine ifNT ?_
    | with_reducible refine ifNF ?_
    | (((with_reducible show @ite Prop (_ = true) _ _ _); refine @ifP _ _ _ _ ?_ ?_) <;> intro h <;> first | (with_reducible exact absurd rfl h) | skip)
    | (((with_reducible show @ite Prop (_ = true) _ _ _); refine @ifN _ _ _ _ ?_ ?_) <;> intro h <;> first | (with_reducible exact absurd rfl h) | skip)
    | with_reducible refine w_eqX ?_
    | with_reducible refine w_neX ?_
    | with_reducible refine w_add ?_
    | with_reducible refine w_sub ?_
    | with_reducible refine w_eqI ?_
    | with_reducible refine w_neI ?_
    | with_reducible refine w_lt ?_
    | with_reducible refine w_le ?_
    | with_reducible refine w_gt ?_
    | with_reducible refine w_ge ?_
    | with_reducible refine w_eqS ?_
    | with_reducible refine w_eqB ?_
    | with_reducible refine w_neS ?_
    | with_reducible refine w_neB ?_
    | with_reducible refine w_cb ?_
    | with_reducible refine w_tup ?_
    | with_reducible refine w_lst ?_
    | with_reducible refine w_next ?_
    | with_reducible refine w_drop ?_
    | with_reducible refine w_not ?_
    | with_reducible refine w_tru ?_
    | with_reducible refine w_and ?_
    | with_reducible refine w_or ?_
    | with_reducible refine w_andV ?_
    | with_reducible refine w_orV ?_
    | with_reducible refine w_notV ?_
    | with_reducible refine w_ifE ?_
    | with_reducible refine w_chain ?_
    | with_reducible refine w_retN ?_
    | with_reducible refine w_bm ?_
    | with_reducible refine w_raise ?_
    | with_reducible refine w_fld ?_
    | with_reducible refine w_meth ?_
    | with_reducible refine w_setf ?_
    | with_reducible refine w_for ?_
    | with_reducible refine w_rng1 ?_
    | with_reducible refine w_rng2 ?_
    | with_reducible refine w_iList ?_
    | with_reducible refine w_iTup ?_
    | with_reducible refine w_iStr ?_
    | with_reducible refine w_iRev ?_
    | with_reducible refine w_brk ?_
    | with_reducible refine w_cont ?_
    | with_reducible refine w_un ?_
    | with_reducible refine w_lc ?_
    | with_reducible refine w_yes ?_
    | with_reducible refine w_gsub ?_
    | with_reducible refine w_sl ?_
    | with_reducible refine w_part ?_
    | with_reducible refine w_noPart ?_
    | with_reducible refine w_wh ?_
    | with_reducible refine w_tryAs ?_
    | with_reducible refine w_try ?_
    | with_reducible refine w_make ?_
    | with_reducible refine w_dget ?_
    | with_reducible refine w_dput ?_
    | with_reducible refine w_gcons ?_
    | with_reducible refine w_gnil ?_
    | with_reducible refine w_augf ?_
    | with_reducible refine w_iEnum ?_
    | with_reducible refine w_iZip ?_
    | with_reducible refine w_iKeys ?_
    | with_reducible refine w_dget2 ?_
    | with_reducible refine w_dget1 ?_
    | with_reducible refine w_dpop1 ?_
    | with_reducible refine w_ddel ?_
    | with_reducible refine w_callX ?_
    | with_reducible refine w_augS ?_
    | with_reducible refine w_augSQ ?_
    | ((with_reducible refine' w_aug ?e ?_); (case e => rfl))
    | ((with_reducible refine w_mul ?s ?_); (case s => first | exact Or.inr ⟨by omega, by omega⟩ | exact Or.inl ⟨by omega, by omega⟩))
    | ((with_reducible refine w_div ?s ?_); (case s => omega))
    | ((with_reducible refine w_mod ?s ?_); (case s => first | omega | decide))
    | ((with_reducible refine w_pow ?s ?_); (case s => first | exact ⟨by decide, by decide, by decide⟩ | exact ⟨by decide, by decide, by omega⟩))
    | ((with_reducible refine w_newL ?s ?_); (case s => (first | exact (by decide) | (simp only [List.length_cons, List.length_nil]; omega))); intro _ _)
    | ((with_reducible refine w_newT ?s ?_); (case s => (first | exact (by decide) | (simp only [List.length_cons, List.length_nil]; omega))); intro _ _)
    | with_reducible refine w_eqX ?_
    | with_reducible refine w_neX ?_
    | with_reducible refine w_findX ?_
    | with_reducible refine w_countX ?_
    | ((with_reducible refine w_lenX ?s ?_); (case s => (first | omega | (simp only [List.length_append, List.length_cons, List.length_nil, List.length_take, List.length_drop, List.length_replicate, List.length_map, List.length_range] at *; omega) | (simp only [List.length_append, List.length_cons, List.length_nil, List.length_take, List.length_drop, List.length_replicate, List.length_map, List.length_range]; omega) | decide)))
    | ((with_reducible refine w_truX ?s ?_); (case s => (first | omega | (simp only [List.length_append, List.length_cons, List.length_nil, List.length_take, List.length_drop, List.length_replicate, List.length_map, List.length_range] at *; omega) | (simp only [List.length_append, List.length_cons, List.length_nil, List.length_take, List.length_drop, List.length_replicate, List.length_map, List.length_range]; omega) | decide)))
    | ((with_reducible refine w_addX ?s ?_); (case s => (first | omega | (simp only [List.length_append, List.length_cons, List.length_nil, List.length_take, List.length_drop, List.length_replicate, List.length_map, List.length_range] at *; omega) | (simp only [List.length_append, List.length_cons, List.length_nil, List.length_take, List.length_drop, List.length_replicate, List.length_map, List.length_range]; omega) | decide)))
    | ((with_reducible refine w_mulX ?h0 ?h1 ?_); (case h0 => (first | omega | (simp only [List.length_append, List.length_cons, List.length_nil, List.length_take, List.length_drop, List.length_replicate, List.length_map, List.length_range] at *; omega) | (simp only [List.length_append, List.length_cons, List.length_nil, List.length_take, List.length_drop, List.length_replicate, List.length_map, List.length_range]; omega) | decide)); (case h1 => (first | omega | (simp only [List.length_append, List.length_cons, List.length_nil, List.length_take, List.length_drop, List.length_replicate, List.length_map, List.length_range] at *; omega) | (simp only [List.length_append, List.length_cons, List.length_nil, List.length_take, List.length_drop, List.length_replicate, List.length_map, List.length_range]; omega) | decide)))
    | ((with_reducible refine w_tkX ?s ?h0 ?_); (case s => (first | omega | (simp only [List.length_append, List.length_cons, List.length_nil, List.length_take, List.length_drop, List.length_replicate, List.length_map, List.length_range] at *; omega) | (simp only [List.length_append, List.length_cons, List.length_nil, List.length_take, List.length_drop, List.length_replicate, List.length_map, List.length_range]; omega) | decide)); (case h0 => (first | omega | (simp only [List.length_append, List.length_cons, List.length_nil, List.length_take, List.length_drop, List.length_replicate, List.length_map, List.length_range] at *; omega) | (simp only [List.length_append, List.length_cons, List.length_nil, List.length_take, List.length_drop, List.length_replicate, List.length_map, List.length_range]; omega) | decide)))
    | ((with_reducible refine w_dpX ?s ?h0 ?_); (case s => (first | omega | (simp only [List.length_append, List.length_cons, List.length_nil, List.length_take, List.length_drop, List.length_replicate, List.length_map, List.length_range] at *; omega) | (simp only [List.length_append, List.length_cons, List.length_nil, List.length_take, List.length_drop, List.length_replicate, List.length_map, List.length_range]; omega) | decide)); (case h0 => (first | omega | (simp only [List.length_append, List.length_cons, List.length_nil, List.length_take, List.length_drop, List.length_replicate, List.length_map, List.length_range] at *; omega) | (simp only [List.length_append, List.length_cons, List.length_nil, List.length_take, List.length_drop, List.length_replicate, List.length_map, List.length_range]; omega) | decide)))
    | ((with_reducible refine w_ixX ?s ?h0 ?_); (case s => (first | omega | (simp only [List.length_append, List.length_cons, List.length_nil, List.length_take, List.length_drop, List.length_replicate, List.length_map, List.length_range] at *; omega) | (simp only [List.length_append, List.length_cons, List.length_nil, List.length_take, List.length_drop, List.length_replicate, List.length_map, List.length_range]; omega) | decide)); (case h0 => (first | omega | (simp only [List.length_append, List.length_cons, List.length_nil, List.length_take, List.length_drop, List.length_replicate, List.length_map, List.length_range] at *; omega) | (simp only [List.length_append, List.length_cons, List.length_nil, List.length_take, List.length_drop, List.length_replicate, List.length_map, List.length_range]; omega) | decide)))
    | with_reducible refine w_max ?_
    | with_reducible refine w_min ?_
    | with_reducible refine w_eqNI ?_
    | with_reducible refine w_neNI ?_
    | with_reducible refine w_eqIN ?_
    | with_reducible refine w_neIN ?_
    | with_reducible refine w_neNN ?_
    | with_reducible refine w_eqNN ?_
    | with_reducible refine w_abs ?_
    | with_reducible refine w_intI ?_
    | with_reducible refine w_intB ?_
    | with_reducible refine w_ipI ?_
    | with_reducible refine w_bmS ?_
    | with_reducible refine w_iStrv ?_
    | with_reducible refine w_neg ?_
    | with_reducible refine w_partI ?_
    | with_reducible refine w_truB ?_
    | with_reducible refine w_truN ?_
    | with_reducible refine w_truI ?_
    | with_reducible refine w_isi_int_int ?_
    | with_reducible refine w_isi_int_bl ?_
    | with_reducible refine w_isi_int_str ?_
    | with_reducible refine w_isi_int_non ?_
    | with_reducible refine w_isi_bool_int ?_
    | with_reducible refine w_isi_bool_bl ?_
    | with_reducible refine w_isi_bool_str ?_
    | with_reducible refine w_isi_bool_non ?_
    | with_reducible refine w_isi_str_int ?_
    | with_reducible refine w_isi_str_bl ?_
    | with_reducible refine w_isi_str_str ?_
    | with_reducible refine w_isi_str_non ?_
    | with_reducible refine w_isi_list_int ?_
    | with_reducible refine w_isi_list_bl ?_
    | with_reducible refine w_isi_list_str ?_
    | with_reducible refine w_isi_list_non ?_
    | with_reducible refine w_isi_tuple_int ?_
    | with_reducible refine w_isi_tuple_bl ?_
    | with_reducible refine w_isi_tuple_str ?_
    | with_reducible refine w_isi_tuple_non ?_
    | with_reducible refine w_is_int ?_
    | with_reducible refine w_isnt_int ?_
    | with_reducible refine w_is_bl ?_
    | with_reducible refine w_isnt_bl ?_
    | with_reducible refine w_is_str ?_
    | with_reducible refine w_isnt_str ?_
    | with_reducible refine w_is_non ?_
    | with_reducible refine w_isnt_non ?_
    | with_reducible refine w_is_ref ?_
    | with_reducible refine w_isnt_ref ?_
    | ((with_reducible refine w_asT ?e ?_); (case e => walk_at "te"); intro _ _)
    | ((with_reducible refine w_onT ?e ?_); (case e => walk_at "te"); intro _ _)
    | ((with_reducible refine w_asF ?e ?_); (case e => walk_at "te"))
    | ((with_reducible refine w_onF ?e ?_); (case e => walk_at "te"))
    | ((with_reducible apply w_isE); (· walk_at "xc"); (· walk_at "kt"))
    | ((with_reducible apply w_lenL); (· walk_at "hk"))
    | ((with_reducible apply w_lenT); (· walk_at "hk"))
    | ((with_reducible apply w_bmL); (· walk_at "hk"))
    | ((with_reducible refine w_rng1v ?h1 ?h2 ?_); (case h1 => (first | omega | (simp only [List.length_map] at *; omega))); (case h2 => (first | omega | (simp only [List.length_map] at *; omega))))
    | ((with_reducible refine w_rng2v ?h1 ?_); (case h1 => (first | omega | (simp only [List.length_map] at *; omega))))
    | ((with_reducible apply w_ixI); (· walk_at "hk"); (· (first | omega | (simp only [List.length_map] at *; omega))))
    | ((with_reducible apply w_ixTI); (· walk_at "hk"); (· (first | omega | (simp only [List.length_map] at *; omega))))
    | ((with_reducible apply w_ixBl); (· walk_at "hk"); (· (first | omega | (simp only [List.length_map] at *; omega))))
    | ((with_reducible apply w_getI2); (· walk_at "hk"); (· (first | omega | (simp only [List.length_map] at *; omega))))
    | ((with_reducible apply w_ixTl); (· walk_at "hk"); (· rfl); (· decide))
    | ((with_reducible apply w_ixLl); (· walk_at "hk"); (· rfl); (· decide))
    | ((with_reducible apply w_appI); (· walk_at "hk"); (· (first | omega | (simp only [List.length_append, List.length_cons, List.length_nil]; omega))))
    | ((with_reducible apply w_iListv); (· walk_at "hk"))
    | ((with_reducible apply w_iTupv); (· walk_at "hk"))
    | ((with_reducible apply w_iRevv); (· walk_at "hk"))
    | ((with_reducible apply w_iEnumv); (· walk_at "hk"))
    | ((with_reducible apply w_iZipv); (· walk_at "hk"); (· walk_at "hk"))
    | ((with_reducible apply w_dget2v); (· walk_at "hk"))
    | ((with_reducible apply w_dget1v); (· walk_at "hk"))
    | ((with_reducible apply w_dpop1v); (· walk_at "hk"))
    | ((with_reducible apply w_getI); (· walk_at "hk"))
    | ((with_reducible apply w_inD); (· walk_at "hk"))
    | ((with_reducible apply w_ninD); (· walk_at "hk"))
    | ((with_reducible apply w_rep1); (· walk_at "hk"); (· (first | omega | (simp only [List.length_append, List.length_cons, List.length_nil, List.length_take, List.length_drop, List.length_replicate, List.length_map, List.length_range] at *; omega) | (simp only [List.length_append, List.length_cons, List.length_nil, List.length_take, List.length_drop, List.length_replicate, List.length_map, List.length_range]; omega) | decide)); (· (first | omega | (simp only [List.length_append, List.length_cons, List.length_nil, List.length_take, List.length_drop, List.length_replicate, List.length_map, List.length_range] at *; omega) | (simp only [List.length_append, List.length_cons, List.length_nil, List.length_take, List.length_drop, List.length_replicate, List.length_map, List.length_range]; omega) | decide)); intro _ _)
    | ((with_reducible apply w_gtup2); (· walk_at "hk"))
    | ((with_reducible apply w_gtup3); (· walk_at "hk"))
    | ((with_reducible apply w_gtup4); (· walk_at "hk"))
    | ((with_reducible refine w_newD ?_); intro _ _)
    | ((with_reducible apply w_augsub); (· walk_at "hk"); (· rfl); (· exact Nat.le_of_ble_eq_true rfl))
    | ((with_reducible apply w_augadd); (· walk_at "hk"); (· rfl); (· exact Nat.le_of_ble_eq_true rfl))
    | ((with_reducible apply w_fldv); (· walk_at "hk"); (· rfl))
    | ((with_reducible apply w_methv); (· walk_at "hk"); (· rfl))
    | ((with_reducible apply w_setfv); (· walk_at "hk"); (· exact Nat.le_of_ble_eq_true rfl); (· rfl))
    | walk_at "x"))
/-- the addresses that the readings speak of -/
structure Ex where
  (LaminaError NotValid PowerOff NoProcess BadHandle NoVolume ReadOnly BadName Missing WrongKind Exists LoopFound CrossVolume Busy NotEmpty TooMany TooLong OverQuota NoSpace BadImage : Addr := 0)
  (Disk Head Space Store OpenFiles Handles Processes Log Accounts Session System : Addr := 0)
  (POINTER_KINDS MODES : Addr := 0)
/-- what is known of the exceptions' classes -/
structure Fa (K : PySem.W.Frag) (C : Ex) : Prop where
  fa0 : True
  te_LaminaError_LaminaError : PySem.W.exmOne K (.ref C.LaminaError) (.ref C.LaminaError) = some true
  te_NoSpace_LaminaError : PySem.W.exmOne K (.ref C.NoSpace) (.ref C.LaminaError) = some true
  kt_LaminaError_NoSpace : PySem.W.kitOne K (.ref C.LaminaError) (.ref C.NoSpace) = some false
  kt_NoSpace_NoSpace : PySem.W.kitOne K (.ref C.NoSpace) (.ref C.NoSpace) = some true
  xc_LaminaError : ExcC K C.LaminaError
  xc_NoSpace : ExcC K C.NoSpace
local macro_rules | `(tactic| walk_at "te") => `(tactic| first | exact Fa.te_LaminaError_LaminaError (by assumption) | exact Fa.te_NoSpace_LaminaError (by assumption))
local macro_rules | `(tactic| walk_at "kt") => `(tactic| first | exact Fa.kt_LaminaError_NoSpace (by assumption) | exact Fa.kt_NoSpace_NoSpace (by assumption))
local macro_rules | `(tactic| walk_at "xc") => `(tactic| first | exact Fa.xc_LaminaError (by assumption) | exact Fa.xc_NoSpace (by assumption))
def S1 (f : V → Hp → VK → XK → Prop) : Sp := fun vs H Q E => ∃ a, vs = [a] ∧ f a H Q E
def S2 (f : V → V → Hp → VK → XK → Prop) : Sp := fun vs H Q E => ∃ a b, vs = [a, b] ∧ f a b H Q E
def S3 (f : V → V → V → Hp → VK → XK → Prop) : Sp := fun vs H Q E => ∃ a b c, vs = [a, b, c] ∧ f a b c H Q E
def S4 (f : V → V → V → V → Hp → VK → XK → Prop) : Sp := fun vs H Q E => ∃ a b c d, vs = [a, b, c, d] ∧ f a b c d H Q E
section
variable {vs : List V} {H : Hp} {Q : VK} {E : XK} {a b c d e : V}
theorem len1 {f} (h : S1 f vs H Q E) : vs.length = 1 := by obtain ⟨_, rfl, _⟩ := h; rfl
theorem len2 {f} (h : S2 f vs H Q E) : vs.length = 2 := by obtain ⟨_, _, rfl, _⟩ := h; rfl
theorem len3 {f} (h : S3 f vs H Q E) : vs.length = 3 := by obtain ⟨_, _, _, rfl, _⟩ := h; rfl
theorem len4 {f} (h : S4 f vs H Q E) : vs.length = 4 := by obtain ⟨_, _, _, _, rfl, _⟩ := h; rfl
theorem w_S1 {f} (h : f a H Q E) : S1 f [a] H Q E := ⟨a, rfl, h⟩
theorem w_S2 {f} (h : f a b H Q E) : S2 f [a, b] H Q E := ⟨a, b, rfl, h⟩
theorem w_S3 {f} (h : f a b c H Q E) : S3 f [a, b, c] H Q E := ⟨a, b, c, rfl, h⟩
theorem w_S4 {f} (h : f a b c d H Q E) : S4 f [a, b, c, d] H Q E := ⟨a, b, c, d, rfl, h⟩
end
theorem lt_line {n : Nat} (h : n < 10000000) : n < sizeLine := Nat.lt_of_lt_of_le h (by decide)
abbrev spLaw (K : PySem.W.Frag) : Sp := S1 fun a H Q _ => ∃ (p : Addr) (ns : List Int), a = .ref p ∧ SqL K H p (ns.map V.int) ∧ ns.length ≤ 63 ∧ ∀ H', Q (.bl true) H'
/-- an item of a mapped list -/
theorem at_int {ns : List Int} {i : Nat} {x : V} (h : (ns.map V.int)[i]? = some x) : ∃ n, ns[i]? = some n ∧ x = .int n := by
  rw [List.getElem?_map] at h
  cases e : ns[i]? with
  | none => rw [e] at h; cases h
  | some n => rw [e] at h; exact ⟨n, rfl, (Option.some.inj h).symm⟩
theorem int_at {ns : List Int} {i : Nat} (h : i < ns.length) : (ns.map V.int)[i]? = some (.int (ns.getD i 0)) := by
  rw [List.getElem?_map, List.getElem?_eq_getElem h, List.getD_eq_getElem?_getD, List.getElem?_eq_getElem h]
  rfl
theorem tyx_list {K : PySem.W.Frag} {H : Hp} {p : Addr} {xs : List V} (h : SqL K H p xs) : TyX K H (.ref p) (.type U.Ob.list.nm) := by
  rcases h with (h | ⟨o, h⟩) | ⟨o, its, n, e, c, _⟩
  · exact .base (.lst h)
  · exact .base (.frz h)
  · exact .kList e c
theorem tyx_tup {K : PySem.W.Frag} {H : Hp} {p : Addr} {xs : List V} (h : SqT K H p xs) : TyX K H (.ref p) (.type U.Ob.tuple.nm) := by
  rcases h with (h | ⟨o, h⟩) | ⟨o, its, n, e, c, _⟩
  · exact .base (.tup h)
  · exact .fTuple h
  · exact .kTuple e c
theorem w_isi_list_L {K : PySem.W.Frag} {H : Hp} {Q : VK} {p : Addr} {xs : List V} (e : SqL K H p xs) (h : Q (.bl true) H) : uIsi K .list [.ref p, .ty "list"] H Q := ⟨rfl, .list, tyx_list e, h⟩
theorem w_isi_tuple_T {K : PySem.W.Frag} {H : Hp} {Q : VK} {p : Addr} {xs : List V} (e : SqT K H p xs) (h : Q (.bl true) H) : uIsi K .tuple [.ref p, .ty "tuple"] H Q := ⟨rfl, .tuple, tyx_tup e, h⟩
theorem take_snoc {α : Type} {l : List α} {i : Nat} {c : α} (h : l[i]? = some c) : l.take (i + 1) = l.take i ++ [c] := by
  obtain ⟨hl, he⟩ := List.getElem?_eq_some_iff.mp h
  rw [List.take_succ_eq_append_getElem hl, he]
theorem w_cutS {D : Ends} {σ : L2.St} {H : Hp} {t u : TS} (h : tSeq t u D σ H) : tCut t u D σ H := ⟨u D, h, fun _ _ h => h⟩
def sp__law_cell (K : PySem.W.Frag) (_ : Ex) : Sp := S2 fun a b H Q _ => ∃ (p : Addr) (ns : List Int) (k : Int), a = .ref p ∧ b = .int k ∧ SqL K H p (ns.map V.int) ∧ 0 ≤ k ∧ Q (.int (ns.getD k.toNat 0)) H
def t__law_cell (K : PySem.W.Frag) (C : Ex) (E : XK) : TS :=
  tSeq (tIfS (tTest (tOp (uLt K) (tVar 1) (tCB (uLen K) (tCons (tVar 0) (tNil))))) (tRet (tCB (uInt) (tCons (tOp (uIx K) (tVar 0) (tVar 1)) (tNil)))) (tNext))
  (tRet (tC (.int 0)))
theorem pure__law_cell {K : PySem.W.Frag} {C : Ex} {vs : List V} {H : Hp} {Q : VK} {E : XK} (F : Fa K C) (h : sp__law_cell K C vs H Q E) : t__law_cell K C E { nx := fun _ H' => Q .non H', rt := Q } (start ["_law_script", "_law_k"] vs) H := by
  obtain ⟨a, b, rfl, p, ts, k, rfl, rfl, hS, hk, q⟩ := h
  unfold t__law_cell
  walk_at "run1"
  · walk_at "run1"
    exact q
  · walk_at "run1"
    rename_i hlt
    rw [List.getD_eq_getElem?_getD, List.getElem?_eq_none (by simp only [List.length_map] at hlt; omega)] at q
    exact q
theorem u__law_cell {K : PySem.W.Frag} {C : Ex} {H : Hp} {Q : VK} {E : XK} {p : Addr} {ns : List Int} {k : Int} (e : SqL K H p (ns.map V.int)) (h0 : 0 ≤ k) (h : Q (.int (ns.getD k.toNat 0)) H) : sp__law_cell K C [.ref p, .int k] H Q E := w_S2 ⟨p, ns, k, rfl, rfl, e, h0, h⟩
local macro_rules | `(tactic| walk_at "x") => `(tactic| ((with_reducible apply u__law_cell); (· walk_at "hk"); (· omega)))
def DgOk (ds bs : List Int) : Prop := ds.length = bs.length ∧ ∀ i : Nat, i < bs.length → 0 ≤ ds.getD i 0 ∧ ds.getD i 0 < bs.getD i 0
theorem getD_snoc {l : List Int} {z : Int} : (l ++ [z]).getD l.length 0 = z := by
  rw [List.getD_eq_getElem?_getD, List.getElem?_append_right (Nat.le_refl _), Nat.sub_self]
  rfl
theorem getD_pre {l m : List Int} {i : Nat} (h : i < l.length) : (l ++ m).getD i 0 = l.getD i 0 := by
  rw [List.getD_eq_getElem?_getD, List.getElem?_append_left h, List.getD_eq_getElem?_getD]
theorem DgOk.snoc {ds bs : List Int} {d b : Int} (x : DgOk ds bs) (h : 0 ≤ d ∧ d < b) : DgOk (ds ++ [d]) (bs ++ [b]) := by
  refine ⟨by rw [List.length_append, List.length_append, x.1]; rfl, fun i hi => ?_⟩
  rw [List.length_append] at hi
  have hi : i < bs.length + 1 := hi
  by_cases q : i < bs.length
  · rw [getD_pre (by rw [x.1]; exact q), getD_pre q]
    exact x.2 i q
  · obtain rfl : i = bs.length := by omega
    rw [getD_snoc, ← x.1, getD_snoc]
    exact h
def sp__law_digits (K : PySem.W.Frag) (_ : Ex) : Sp := S2 fun a b H Q _ => ∃ (c : Int) (q : Addr) (bs : List Int), a = .int c ∧ b = .ref q ∧ SqL K H q (bs.map V.int) ∧ bs.length ≤ 1000 ∧ (∀ x ∈ bs, 0 < x ∧ x < 2 ^ 200) ∧
  ∀ p H' ds, Same H H' → H p = none → H' p = some (.lst (ds.map V.int)) → DgOk ds bs → Q (.ref p) H'
def t__law_digits (K : PySem.W.Frag) (C : Ex) (E : XK) : TS :=
  tSeq (tAsg (tLst (tNil)) (gName 2))
  (tSeq (tAsg (tCB (uInt) (tCons (tVar 0) (tNil))) (gName 3))
  (tSeq (tFor (iList K (tVar 1)) (gName 4)
  (tIfS (tTest (tOp (uGe K) (tVar 0) (tOp (uPow) (tC (.int 10)) (tC (.int 18))))) (tSeq (tDrop (tBM K "list" (rAppend) (tVar 2) (tCons (tOp (uMod) (tCB (uInt) (tCons (tVar 3) (tNil))) (tVar 4)) (tNil))))
  (tAsg (tOp (uDiv) (tVar 3) (tVar 4)) (gName 3))) (tSeq (tAsg (tOp (uMod) (tOp (uAdd K) (tOp (uAdd K) (tOp (uMul) (tCB (uInt) (tCons (tVar 3) (tNil))) (tC (.int 48271))) (tOp (uMul) (tC (.int 1009)) (tCB (uLen K) (tCons (tVar 2) (tNil))))) (tC (.int 12345))) (tC (.int 2147483647))) (gName 3))
  (tSeq (tAsg (tOp (uMod) (tOp (uMul) (tCB (uInt) (tCons (tVar 3) (tNil))) (tCB (uInt) (tCons (tVar 3) (tNil)))) (tC (.int 2147483629))) (gName 5))
  (tDrop (tBM K "list" (rAppend) (tVar 2) (tCons (tOp (uMod) (tOp (uDiv) (tCB (uInt) (tCons (tVar 5) (tNil))) (tC (.int 13))) (tVar 4)) (tNil))))))))
  (tRet (tVar 2))))
theorem pure__law_digits {K : PySem.W.Frag} {C : Ex} {vs : List V} {H : Hp} {Q : VK} {E : XK} (F : Fa K C) (h : sp__law_digits K C vs H Q E) : t__law_digits K C E { nx := fun _ H' => Q .non H', rt := Q } (start ["_law_cell_here", "_law_bases", "_law_digits_here", "_law_rest", "_law_base", "_law_mixed"] vs) H := by
  obtain ⟨a, b, rfl, c, q, bs, rfl, rfl, hq, hl, hb, k⟩ := h
  unfold t__law_digits
  walk_at "run1"
  rename_i L hL
  refine f_list (xs := bs.map V.int) (fun i σ H' => ∃ (ds : List Int) (r : Int) (v4 v5 : Option V), σ = [some (.int c), some (.ref q), some (.ref L), some (.int r), v4, v5] ∧ Same H H' ∧ H' L = some (.lst (ds.map V.int)) ∧ DgOk ds (bs.take i))
    ⟨[], c, none, none, rfl, same_new hL, upd_same, rfl, fun i h => by simp at h⟩ (by rintro i σ H' _ ⟨_, _, _, _, _, s, _⟩; exact s.seq hq) ?_ ?_
  · rintro i x σ H1 hx ⟨ds, r, v4, v5, rfl, s1, e1, ok⟩
    obtain ⟨b, hbi, rfl⟩ := at_int hx
    have hb1 := hb b (List.mem_of_getElem? hbi)
    have ldl : ds.length ≤ 1000 := by rw [ok.1, List.length_take]; omega
    have fin : ∀ z : Int, DgOk (ds ++ [z % b]) (bs.take (i + 1)) := fun d => by
      rw [take_snoc hbi]
      exact ok.snoc ⟨Int.emod_nonneg _ (by omega), Int.emod_lt_of_pos _ hb1.1⟩
    walk_at "run1"
    · exact ⟨_, _, _, _, rfl, same_upd s1 hL, upd_same, fin _⟩
    · walk_at "run1"
      exact ⟨_, _, _, _, rfl, same_upd s1 hL, upd_same, fin _⟩
  · rintro σ H1 ⟨ds, r, v4, v5, rfl, s1, e1, ok⟩
    walk_at "run1"
    rw [show (bs.map V.int).length = bs.length from List.length_map .., List.take_length] at ok
    exact k L H1 ds s1 hL e1 ok
/-- digits of a word -/
def dg40 (w : Int) (k : Nat) : Int := w / 40 ^ (10 - k) % 40
/-- a word that some name has -/
def NmW (w : Int) : Bool := decide (w / 40 ^ 11 = 0) && decide (dg40 w 0 ≠ 0) && (List.range 10).all (fun k => decide (dg40 w k ≠ 0 ∨ dg40 w (k + 1) = 0)) && (List.range 11).any (fun k => decide (dg40 w k ≠ 0 ∧ dg40 w k ≠ 37))
/-- the words behind the inode -/
def chkRest (ns : List Int) : Bool :=
  if ns.getD 0 0 = 1 then NmW (ns.getD 3 0) && (decide (1 ≤ ns.getD 4 0 ∧ ns.getD 4 0 ≤ 2) && decide (ns.getD 5 0 ≤ 255))
  else if ns.getD 0 0 = 2 then decide (1 ≤ ns.getD 3 0) && NmW (ns.getD 4 0)
  else if ns.getD 0 0 = 3 ∨ ns.getD 0 0 = 4 then NmW (ns.getD 3 0)
  else if ns.getD 0 0 = 5 then NmW (ns.getD 3 0) && (decide (1 ≤ ns.getD 4 0) && NmW (ns.getD 5 0))
  else if ns.getD 0 0 = 6 then decide (ns.getD 3 0 + (ns.length : Int) - 4 ≤ 2048)
  else if ns.getD 0 0 = 7 then decide (ns.getD 3 0 ≤ 2048)
  else if ns.getD 0 0 = 8 then decide ((1 ≤ ns.getD 4 0 ∧ 1 ≤ ns.getD 6 0) ∧ ns.getD 3 0 + ns.getD 6 0 ≤ 64 ∧ ns.getD 5 0 + ns.getD 6 0 ≤ 64)
  else if ns.getD 0 0 = 9 then decide (ns.getD 3 0 ≤ 255) else true
def szK (k : Int) : Nat := [0, 6, 5, 4, 4, 6, 0, 4, 7, 4, 3].getD k.toNat 0
def chkLen (ns : List Int) : Bool := decide (3 ≤ ns.length ∧ 1 ≤ ns.getD 0 0 ∧ ns.getD 0 0 ≤ 10) && (if ns.getD 0 0 = 6 then decide (5 ≤ ns.length) else decide (ns.length = szK (ns.getD 0 0)))
def chk (ns : List Int) : Bool := chkLen ns && (NmW (ns.getD 1 0) && (decide (1 ≤ ns.getD 2 0) && chkRest ns))
structure IntentR (m : Int) (ns : List Int) : Prop where
  ln : 3 ≤ ns.length ∧ (ns.length : Int) ≤ m + 7
  nn : ∀ z ∈ ns, 0 ≤ z
  ck : chk ns = true
abbrev mainW : Int := 13 * 40 ^ (10 : Int).toNat + 1 * 40 ^ (9 : Int).toNat + 9 * 40 ^ (8 : Int).toNat + 14 * 40 ^ (7 : Int).toNat
theorem nm_main : NmW mainW = true := by decide +kernel
abbrev wsL : List Int := [40 ^ (10 : Int).toNat, 2 * 40 ^ (10 : Int).toNat, 39 * 40 ^ (10 : Int).toNat]
theorem nm_ws {d : Int} (h : 0 ≤ d ∧ d < 3) : NmW (wsL.getD d.toNat 0) = true ∧ 0 ≤ wsL.getD d.toNat 0 := by
  rcases (show d = 0 ∨ d = 1 ∨ d = 2 by omega) with rfl | rfl | rfl
  · exact ⟨by decide +kernel, by decide +kernel⟩
  · exact ⟨by decide +kernel, by decide +kernel⟩
  · exact ⟨by decide +kernel, by decide +kernel⟩
section chks
variable {M i w w2 t u v y : Int} (hM : NmW M = true) (hi : 1 ≤ i)
include hM hi
theorem chk1 (hw : NmW w = true) (ht : 1 ≤ t ∧ t ≤ 2) (hu : u ≤ 255) : chk [1, M, i, w, t, u] = true := by simp [chk, chkLen, chkRest, szK, hM, hi, hw, ht, hu]
theorem chk2 (hw : NmW w = true) (ht : 1 ≤ t) : chk [2, M, i, t, w] = true := by simp [chk, chkLen, chkRest, szK, hM, hi, hw, ht]
theorem chk34 (hw : NmW w = true) (hk : u = 3 ∨ u = 4) : chk [u, M, i, w] = true := by rcases hk with rfl | rfl <;> simp [chk, chkLen, chkRest, szK, hM, hi, hw]
theorem chk5 (hw : NmW w = true) (ht : 1 ≤ t) (hw2 : NmW w2 = true) : chk [5, M, i, w, t, w2] = true := by simp [chk, chkLen, chkRest, szK, hM, hi, hw, ht, hw2]
theorem chk6 {cs : List Int} (hc : 1 ≤ cs.length) (ht : t + (cs.length : Int) ≤ 2048) : chk ([6, M, i, t] ++ cs) = true := by
  have e : t + ((cs.length : Int) + 1 + 1 + 1 + 1) - 4 ≤ 2048 := by omega
  simp [chk, chkLen, chkRest, szK, hM, hi, e]
  omega
theorem chk7 (ht : t ≤ 2048) : chk [7, M, i, t] = true := by simp [chk, chkLen, chkRest, szK, hM, hi, ht]
theorem chk8 (h1 : 1 ≤ u) (h2 : 1 ≤ y) (h3 : t + y ≤ 64) (h4 : v + y ≤ 64) : chk [8, M, i, t, u, v, y] = true := by simp [chk, chkLen, chkRest, szK, hM, hi, h1, h2, h3, h4]
theorem chk9 (ht : t ≤ 255) : chk [9, M, i, t] = true := by simp [chk, chkLen, chkRest, szK, hM, hi, ht]
theorem chk10 : chk [10, M, i] = true := by simp [chk, chkLen, chkRest, szK, hM, hi]
end chks
theorem div_le {a b : Int} (h : 0 ≤ a) (hb : 1 ≤ b) : 0 ≤ a / b ∧ a / b ≤ a := ⟨Int.ediv_nonneg h (by omega), Int.ediv_le_self _ h⟩
theorem w_ixWs {K : PySem.W.Frag} {H : Hp} {Q : VK} {p : Addr} {n : Int} (e : SqL K H p (wsL.map V.int)) (h0 : 0 ≤ n ∧ n < 3) (h : Q (.int (wsL.getD n.toNat 0)) H) : uIx K (.ref p) (.int n) H Q := w_ixI e ⟨h0.1, by show n.toNat < 3; omega⟩ h
local macro_rules | `(tactic| walk_at "x") => `(tactic| ((with_reducible apply w_ixWs); (· walk_at "hk"); (· omega)))
def sp__law_intent (K : PySem.W.Frag) (_ : Ex) : Sp := S2 fun a b H Q _ => ∃ c m : Int, a = .int c ∧ b = .int m ∧ 1 ≤ m ∧ m ≤ 1000 ∧ ∀ p H' ns, Same H H' → H p = none → H' p = some (.tup (ns.map V.int)) → IntentR m ns → Q (.ref p) H'
def t__law_intent (K : PySem.W.Frag) (C : Ex) (E : XK) : TS :=
  tSeq (tAsg (uCall (sp__law_digits K C) (WB E) (tCons (tVar 0) (tCons (tLst (tCons (tC (.int 10)) (tCons (tC (.int 5)) (tCons (tC (.int 3)) (tCons (tC (.int 5)) (tCons (tC (.int 3)) (tCons (tC (.int 2)) (tCons (tC (.int 256)) (tCons (tVar 1) (tCons (tC (.int 2049)) (tCons (tC (.int 61)) (tCons (tC (.int 61)) (tCons (tC (.int 4)) (tCons (tOp (uPow) (tC (.int 10)) (tC (.int 6))) (tNil))))))))))))))) (tNil)))) (gName 2))
  (tSeq (tAsg (tLst (tCons (tOp (uPow) (tC (.int 40)) (tC (.int 10))) (tCons (tOp (uMul) (tC (.int 2)) (tOp (uPow) (tC (.int 40)) (tC (.int 10)))) (tCons (tOp (uMul) (tC (.int 39)) (tOp (uPow) (tC (.int 40)) (tC (.int 10)))) (tNil))))) (gName 3))
  (tSeq (tAsg (tOp (uAdd K) (tC (.int 1)) (tOp (uIx K) (tVar 2) (tC (.int 0)))) (gName 4))
  (tSeq (tAsg (tOp (uAdd K) (tC (.int 1)) (tOp (uIx K) (tVar 2) (tC (.int 1)))) (gName 5))
  (tSeq (tAsg (tOp (uAdd K) (tC (.int 1)) (tOp (uIx K) (tVar 2) (tC (.int 3)))) (gName 6))
  (tSeq (tAsg (tOp (uAdd K) (tOp (uAdd K) (tOp (uAdd K) (tOp (uMul) (tC (.int 13)) (tOp (uPow) (tC (.int 40)) (tC (.int 10)))) (tOp (uMul) (tC (.int 1)) (tOp (uPow) (tC (.int 40)) (tC (.int 9))))) (tOp (uMul) (tC (.int 9)) (tOp (uPow) (tC (.int 40)) (tC (.int 8))))) (tOp (uMul) (tC (.int 14)) (tOp (uPow) (tC (.int 40)) (tC (.int 7))))) (gName 7))
  (tSeq (tIfS (tTest (tOp (uEq K) (tVar 4) (tC (.int 1)))) (tRet (tTup (tCons (tC (.int 1)) (tCons (tVar 7) (tCons (tVar 5) (tCons (tOp (uIx K) (tVar 3) (tOp (uIx K) (tVar 2) (tC (.int 2)))) (tCons (tOp (uAdd K) (tC (.int 1)) (tOp (uIx K) (tVar 2) (tC (.int 5)))) (tCons (tOp (uIx K) (tVar 2) (tC (.int 6))) (tNil))))))))) (tNext))
  (tSeq (tIfS (tTest (tOp (uEq K) (tVar 4) (tC (.int 2)))) (tRet (tTup (tCons (tC (.int 2)) (tCons (tVar 7) (tCons (tVar 5) (tCons (tVar 6) (tCons (tOp (uIx K) (tVar 3) (tOp (uIx K) (tVar 2) (tC (.int 2)))) (tNil)))))))) (tNext))
  (tSeq (tIfS (tOr (tTest (tOp (uEq K) (tVar 4) (tC (.int 3)))) (tTest (tOp (uEq K) (tVar 4) (tC (.int 4))))) (tRet (tTup (tCons (tVar 4) (tCons (tVar 7) (tCons (tVar 5) (tCons (tOp (uIx K) (tVar 3) (tOp (uIx K) (tVar 2) (tC (.int 2)))) (tNil))))))) (tNext))
  (tSeq (tIfS (tTest (tOp (uEq K) (tVar 4) (tC (.int 5)))) (tRet (tTup (tCons (tC (.int 5)) (tCons (tVar 7) (tCons (tVar 5) (tCons (tOp (uIx K) (tVar 3) (tOp (uIx K) (tVar 2) (tC (.int 2)))) (tCons (tVar 6) (tCons (tOp (uIx K) (tVar 3) (tOp (uIx K) (tVar 2) (tC (.int 4)))) (tNil))))))))) (tNext))
  (tSeq (tIfS (tTest (tOp (uEq K) (tVar 4) (tC (.int 6)))) (tSeq (tAsg (tOp (uAdd K) (tC (.int 1)) (tOp (uIx K) (tVar 2) (tC (.int 7)))) (gName 8))
  (tSeq (tAsg (tLc (iRng1 (tCons (tVar 8) (tNil))) (gName 10) (tYes) (tOp (uAdd K) (tOp (uIx K) (tVar 2) (tC (.int 12))) (tOp (uMul) (tVar 10) (tOp (uIx K) (tVar 2) (tC (.int 5))))) [10]) (gName 9))
  (tRet (tCB (uTuple K) (tCons (tOp (uAdd K) (tLst (tCons (tC (.int 6)) (tCons (tVar 7) (tCons (tVar 5) (tCons (tCB (uMin K) (tCons (tOp (uDiv) (tOp (uIx K) (tVar 2) (tC (.int 8))) (tOp (uAdd K) (tC (.int 1)) (tOp (uMul) (tC (.int 15)) (tOp (uIx K) (tVar 2) (tC (.int 5)))))) (tCons (tOp (uSub) (tC (.int 2048)) (tVar 8)) (tNil)))) (tNil)))))) (tVar 9)) (tNil)))))) (tNext))
  (tSeq (tIfS (tTest (tOp (uEq K) (tVar 4) (tC (.int 7)))) (tRet (tTup (tCons (tC (.int 7)) (tCons (tVar 7) (tCons (tVar 5) (tCons (tOp (uDiv) (tOp (uIx K) (tVar 2) (tC (.int 8))) (tOp (uAdd K) (tC (.int 1)) (tOp (uMul) (tC (.int 15)) (tOp (uIx K) (tVar 2) (tC (.int 5)))))) (tNil))))))) (tNext))
  (tSeq (tIfS (tTest (tOp (uEq K) (tVar 4) (tC (.int 8)))) (tRet (tTup (tCons (tC (.int 8)) (tCons (tVar 7) (tCons (tVar 5) (tCons (tOp (uDiv) (tOp (uIx K) (tVar 2) (tC (.int 9))) (tOp (uAdd K) (tC (.int 1)) (tOp (uMul) (tC (.int 9)) (tOp (uIx K) (tVar 2) (tC (.int 5)))))) (tCons (tVar 6) (tCons (tOp (uDiv) (tOp (uIx K) (tVar 2) (tC (.int 10))) (tOp (uAdd K) (tC (.int 1)) (tOp (uMul) (tC (.int 9)) (tOp (uIx K) (tVar 2) (tC (.int 5)))))) (tCons (tOp (uAdd K) (tC (.int 1)) (tOp (uMod) (tOp (uIx K) (tVar 2) (tC (.int 11))) (tC (.int 4)))) (tNil)))))))))) (tNext))
  (tSeq (tIfS (tTest (tOp (uEq K) (tVar 4) (tC (.int 9)))) (tRet (tTup (tCons (tC (.int 9)) (tCons (tVar 7) (tCons (tVar 5) (tCons (tOp (uIx K) (tVar 2) (tC (.int 6))) (tNil))))))) (tNext))
  (tRet (tTup (tCons (tC (.int 10)) (tCons (tVar 7) (tCons (tVar 5) (tNil)))))))))))))))))))
theorem pure__law_intent {K : PySem.W.Frag} {C : Ex} {vs : List V} {H : Hp} {Q : VK} {E : XK} (F : Fa K C) (h : sp__law_intent K C vs H Q E) : t__law_intent K C E { nx := fun _ H' => Q .non H', rt := Q } (start ["_law_cell_here", "_law_most", "_law_digits_here", "_law_words", "_law_kind", "_law_inode", "_law_other", "_law_main", "_law_size", "_law_cells_here", "_law_k"] vs) H := by
  obtain ⟨a, b, rfl, c, m, rfl, rfl, m0, m1, k⟩ := h
  unfold t__law_intent
  walk_at "run1"
  rename_i bl hbl
  refine w_S2 ⟨c, bl, [10, 5, 3, 5, 3, 2, 256, m, 2049, 61, 61, 4, 10 ^ (6 : Int).toNat], rfl, rfl, SqL.of upd_same, (by show 13 ≤ 1000; decide), fun x hx => ?_, fun dl H1 ds s1 hdl e1 ok => ?_⟩
  · simp only [List.mem_cons, List.not_mem_nil, or_false] at hx
    rcases hx with rfl | rfl | rfl | rfl | rfl | rfl | rfl | rfl | rfl | rfl | rfl | rfl | rfl <;> first | decide | omega
  have ln : ds.length = 13 := ok.1
  have ok2 : ∀ i : Nat, i < 13 → 0 ≤ ds.getD i 0 ∧ ds.getD i 0 < [10, 5, 3, 5, 3, 2, 256, m, 2049, 61, 61, 4, 10 ^ (6 : Int).toNat].getD i 0 := ok.2
  have D0 : 0 ≤ ds.getD (0 : Int).toNat 0 ∧ ds.getD (0 : Int).toNat 0 < 10 := ok2 0 (by decide)
  have D1 : 0 ≤ ds.getD (1 : Int).toNat 0 ∧ ds.getD (1 : Int).toNat 0 < 5 := ok2 1 (by decide)
  have D2 : 0 ≤ ds.getD (2 : Int).toNat 0 ∧ ds.getD (2 : Int).toNat 0 < 3 := ok2 2 (by decide)
  have D3 : 0 ≤ ds.getD (3 : Int).toNat 0 ∧ ds.getD (3 : Int).toNat 0 < 5 := ok2 3 (by decide)
  have D4 : 0 ≤ ds.getD (4 : Int).toNat 0 ∧ ds.getD (4 : Int).toNat 0 < 3 := ok2 4 (by decide)
  have D5 : 0 ≤ ds.getD (5 : Int).toNat 0 ∧ ds.getD (5 : Int).toNat 0 < 2 := ok2 5 (by decide)
  have D6 : 0 ≤ ds.getD (6 : Int).toNat 0 ∧ ds.getD (6 : Int).toNat 0 < 256 := ok2 6 (by decide)
  have D7 : 0 ≤ ds.getD (7 : Int).toNat 0 ∧ ds.getD (7 : Int).toNat 0 < m := ok2 7 (by decide)
  have D8 : 0 ≤ ds.getD (8 : Int).toNat 0 ∧ ds.getD (8 : Int).toNat 0 < 2049 := ok2 8 (by decide)
  have D9 : 0 ≤ ds.getD (9 : Int).toNat 0 ∧ ds.getD (9 : Int).toNat 0 < 61 := ok2 9 (by decide)
  have D10 : 0 ≤ ds.getD (10 : Int).toNat 0 ∧ ds.getD (10 : Int).toNat 0 < 61 := ok2 10 (by decide)
  have D11 : 0 ≤ ds.getD (11 : Int).toNat 0 ∧ ds.getD (11 : Int).toNat 0 < 4 := ok2 11 (by decide)
  have D12 : 0 ≤ ds.getD (12 : Int).toNat 0 ∧ ds.getD (12 : Int).toNat 0 < 1000000 := ok2 12 (by decide)
  have nw2 := nm_ws D2
  have nw4 := nm_ws D4
  have s0 : Same H H1 := (same_new hbl).trans s1
  have hk0 : ∀ wl t xs, H1 wl = none → upd H1 wl (.lst (wsL.map V.int)) t = none → ∀ ns : List Int, ns.map V.int = xs → IntentR m ns → Q (.ref t) (upd (upd H1 wl (.lst (wsL.map V.int))) t (.tup xs)) := fun wl t xs hwl ht ns e r =>
    k t _ ns (same_updN (same_updN s0 hwl) ht) (s0.free (none_of_upd ht).1) (by rw [e]; exact upd_same) r
  have hM : 0 ≤ mainW := by decide +kernel
  have q8 := div_le (b := 1 + 15 * ds.getD (5 : Int).toNat 0) D8.1 (by omega)
  have q9 := div_le (b := 1 + 9 * ds.getD (5 : Int).toNat 0) D9.1 (by omega)
  have q10 := div_le (b := 1 + 9 * ds.getD (5 : Int).toNat 0) D10.1 (by omega)
  walk_at "run1"
  · rename_i wl hwl hk1 t ht
    refine hk0 wl t _ hwl ht [1, mainW, 1 + ds.getD (1 : Int).toNat 0, wsL.getD (ds.getD (2 : Int).toNat 0).toNat 0, 1 + ds.getD (5 : Int).toNat 0, ds.getD (6 : Int).toNat 0] rfl ⟨⟨by show 3 ≤ 6; decide, by show ((6 : Nat) : Int) ≤ _; omega⟩, fun z hz => ?_, chk1 nm_main (by omega) nw2.1 (by omega) (by omega)⟩
    simp only [List.mem_cons, List.not_mem_nil, or_false] at hz
    rcases hz with rfl | rfl | rfl | rfl | rfl | rfl <;> first | decide | omega | exact hM | exact nw2.2
  walk_at "run1"
  · rename_i wl hwl hk1 hk2 t ht
    refine hk0 wl t _ hwl ht [2, mainW, 1 + ds.getD (1 : Int).toNat 0, 1 + ds.getD (3 : Int).toNat 0, wsL.getD (ds.getD (2 : Int).toNat 0).toNat 0] rfl ⟨⟨by show 3 ≤ 5; decide, by show ((5 : Nat) : Int) ≤ _; omega⟩, fun z hz => ?_, chk2 nm_main (by omega) nw2.1 (by omega)⟩
    simp only [List.mem_cons, List.not_mem_nil, or_false] at hz
    rcases hz with rfl | rfl | rfl | rfl | rfl <;> first | decide | omega | exact hM | exact nw2.2
  walk_at "run1"
  · rename_i wl hwl hk1 hk2 hk3 t ht
    refine hk0 wl t _ hwl ht [1 + ds.getD (0 : Int).toNat 0, mainW, 1 + ds.getD (1 : Int).toNat 0, wsL.getD (ds.getD (2 : Int).toNat 0).toNat 0] rfl ⟨⟨by show 3 ≤ 4; decide, by show ((4 : Nat) : Int) ≤ _; omega⟩, fun z hz => ?_, chk34 nm_main (by omega) nw2.1 (.inl hk3)⟩
    simp only [List.mem_cons, List.not_mem_nil, or_false] at hz
    rcases hz with rfl | rfl | rfl | rfl <;> first | decide | omega | exact hM | exact nw2.2
  walk_at "run1"
  · rename_i wl hwl hk1 hk2 hk3 hk4 t ht
    refine hk0 wl t _ hwl ht [1 + ds.getD (0 : Int).toNat 0, mainW, 1 + ds.getD (1 : Int).toNat 0, wsL.getD (ds.getD (2 : Int).toNat 0).toNat 0] rfl ⟨⟨by show 3 ≤ 4; decide, by show ((4 : Nat) : Int) ≤ _; omega⟩, fun z hz => ?_, chk34 nm_main (by omega) nw2.1 (.inr hk4)⟩
    simp only [List.mem_cons, List.not_mem_nil, or_false] at hz
    rcases hz with rfl | rfl | rfl | rfl <;> first | decide | omega | exact hM | exact nw2.2
  walk_at "run1"
  · rename_i wl hwl hk1 hk2 hk3 hk4 hk5 t ht
    refine hk0 wl t _ hwl ht [5, mainW, 1 + ds.getD (1 : Int).toNat 0, wsL.getD (ds.getD (2 : Int).toNat 0).toNat 0, 1 + ds.getD (3 : Int).toNat 0, wsL.getD (ds.getD (4 : Int).toNat 0).toNat 0] rfl ⟨⟨by show 3 ≤ 6; decide, by show ((6 : Nat) : Int) ≤ _; omega⟩, fun z hz => ?_, chk5 nm_main (by omega) nw2.1 (by omega) nw4.1⟩
    simp only [List.mem_cons, List.not_mem_nil, or_false] at hz
    rcases hz with rfl | rfl | rfl | rfl | rfl | rfl <;> first | decide | omega | exact hM | exact nw2.2 | exact nw4.2
  walk_at "run1"
  · rename_i wl hwl hk1 hk2 hk3 hk4 hk5 hk6
    have s2 : Same H1 (upd H1 wl (.lst (wsL.map V.int))) := same_new hwl
    have e2 := upd_old (o := .lst (wsL.map V.int)) e1 hwl
    have hkz : ∀ t ns H', Same (upd H1 wl (.lst (wsL.map V.int))) H' → H' t = none → IntentR m ns → Q (.ref t) (upd H' t (.tup (ns.map V.int))) := fun t ns H' s' ht r => k t _ ns (same_updN (s0.trans (s2.trans s')) ht) (s0.free (s2.free (s'.free ht))) upd_same r
    refine l_range (fun D i H' => Same (upd H1 wl (.lst (wsL.map V.int))) H' ∧ H' D = some (.lst (((List.range i).map fun j : Nat => ds.getD (12 : Int).toNat 0 + (j : Int) * ds.getD (5 : Int).toNat 0).map V.int))) (fun D hD => ⟨same_new hD, upd_same⟩) ?_ ?_
    · rintro D i H3 hD hi ⟨s3, e3⟩
      have hi : i < (1 + ds.getD (7 : Int).toNat 0).toNat := hi
      have e23 := s3 _ _ e2
      walk_at "run1"
      refine ⟨rfl, ?_⟩
      walk_at "run1"
      refine ⟨_, e3, by rw [List.length_map, List.length_map, List.length_range]; exact lt_line (by omega), same_upd s3 hD, ?_⟩
      rw [upd_same, List.range_succ, List.map_append, List.map_append, Int.zero_add]
      rfl
    · rintro D H3 hD ⟨s3, e3⟩
      have e23 := s3 _ _ e2
      walk_at "run1"
      rename_i l hl
      have e3l := upd_old (o := .lst [.int 6, .int mainW, .int (1 + ds.getD (1 : Int).toNat 0), .int (if 2048 - (1 + ds.getD (7 : Int).toNat 0) < ds.getD (8 : Int).toNat 0 / (1 + 15 * ds.getD (5 : Int).toNat 0) then 2048 - (1 + ds.getD (7 : Int).toNat 0) else ds.getD (8 : Int).toNat 0 / (1 + 15 * ds.getD (5 : Int).toNat 0))]) e3 hl
      have s4 := same_updN (o := .lst [.int 6, .int mainW, .int (1 + ds.getD (1 : Int).toNat 0), .int (if 2048 - (1 + ds.getD (7 : Int).toNat 0) < ds.getD (8 : Int).toNat 0 / (1 + 15 * ds.getD (5 : Int).toNat 0) then 2048 - (1 + ds.getD (7 : Int).toNat 0) else ds.getD (8 : Int).toNat 0 / (1 + 15 * ds.getD (5 : Int).toNat 0))]) s3 hl
      have hcl : (List.map (fun j : Nat => ds.getD (12 : Int).toNat 0 + (j : Int) * ds.getD (5 : Int).toNat 0) (List.range (1 + ds.getD (7 : Int).toNat 0).toNat)).length = (1 + ds.getD (7 : Int).toNat 0).toNat := by rw [List.length_map, List.length_range]
      have hcn : ∀ z ∈ List.map (fun j : Nat => ds.getD (12 : Int).toNat 0 + (j : Int) * ds.getD (5 : Int).toNat 0) (List.range (1 + ds.getD (7 : Int).toNat 0).toNat), 0 ≤ z := fun z hz => by
        obtain ⟨j, _, rfl⟩ := List.mem_map.mp hz
        have := Int.mul_nonneg (Int.natCast_nonneg j) D5.1
        omega
      have e4 : upd H3 l (.lst [.int 6, .int mainW, .int (1 + ds.getD (1 : Int).toNat 0), .int (if 2048 - (1 + ds.getD (7 : Int).toNat 0) < ds.getD (8 : Int).toNat 0 / (1 + 15 * ds.getD (5 : Int).toNat 0) then 2048 - (1 + ds.getD (7 : Int).toNat 0) else ds.getD (8 : Int).toNat 0 / (1 + 15 * ds.getD (5 : Int).toNat 0))]) l = some (.lst ([6, mainW, 1 + ds.getD (1 : Int).toNat 0, if 2048 - (1 + ds.getD (7 : Int).toNat 0) < ds.getD (8 : Int).toNat 0 / (1 + 15 * ds.getD (5 : Int).toNat 0) then 2048 - (1 + ds.getD (7 : Int).toNat 0) else ds.getD (8 : Int).toNat 0 / (1 + 15 * ds.getD (5 : Int).toNat 0)].map V.int)) := upd_same
      generalize upd H3 l _ = H4 at *
      generalize List.map (fun j : Nat => ds.getD (12 : Int).toNat 0 + (j : Int) * ds.getD (5 : Int).toNat 0) (List.range (1 + ds.getD (7 : Int).toNat 0).toNat) = cs at *
      have ht : ∀ t : Int, t = (if 2048 - (1 + ds.getD (7 : Int).toNat 0) < ds.getD (8 : Int).toNat 0 / (1 + 15 * ds.getD (5 : Int).toNat 0) then 2048 - (1 + ds.getD (7 : Int).toNat 0) else ds.getD (8 : Int).toNat 0 / (1 + 15 * ds.getD (5 : Int).toNat 0)) → 0 ≤ t ∧ t + (1 + ds.getD (7 : Int).toNat 0) ≤ 2048 := fun t e => by
        rw [e]
        split <;> omega
      generalize (if 2048 - (1 + ds.getD (7 : Int).toNat 0) < ds.getD (8 : Int).toNat 0 / (1 + 15 * ds.getD (5 : Int).toNat 0) then 2048 - (1 + ds.getD (7 : Int).toNat 0) else ds.getD (8 : Int).toNat 0 / (1 + 15 * ds.getD (5 : Int).toNat 0)) = tt at *
      have ht := ht tt rfl
      refine w_cat e4 e3l (by rw [List.length_map, List.length_map, hcl]; show 4 + _ ≤ _; omega) fun l2 hl2 => ?_
      rw [← List.map_append]
      walk_at "run1"
      refine w_ttupL (SqL.of upd_same) fun t hlt => ?_
      refine hkz t ([6, mainW, 1 + ds.getD (1 : Int).toNat 0, tt] ++ cs) _ (same_updN s4 hl2) hlt ⟨⟨by rw [List.length_append]; show 3 ≤ 4 + _; omega, by rw [List.length_append, hcl]; show ((4 + _ : Nat) : Int) ≤ _; omega⟩, fun z hz => ?_, chk6 nm_main (by omega) (by omega) (by omega)⟩
      rcases List.mem_append.mp hz with hz | hz
      · simp only [List.mem_cons, List.not_mem_nil, or_false] at hz
        rcases hz with rfl | rfl | rfl | rfl <;> first | decide | omega | exact hM
      · exact hcn z hz
  walk_at "run1"
  · rename_i wl hwl hk1 hk2 hk3 hk4 hk5 hk6 hk7 t ht
    refine hk0 wl t _ hwl ht [7, mainW, 1 + ds.getD (1 : Int).toNat 0, ds.getD (8 : Int).toNat 0 / (1 + 15 * ds.getD (5 : Int).toNat 0)] rfl ⟨⟨by show 3 ≤ 4; decide, by show ((4 : Nat) : Int) ≤ _; omega⟩, fun z hz => ?_, chk7 nm_main (by omega) (by omega)⟩
    simp only [List.mem_cons, List.not_mem_nil, or_false] at hz
    rcases hz with rfl | rfl | rfl | rfl <;> first | decide | omega | exact hM
  walk_at "run1"
  · rename_i wl hwl hk1 hk2 hk3 hk4 hk5 hk6 hk7 hk8 t ht
    refine hk0 wl t _ hwl ht [8, mainW, 1 + ds.getD (1 : Int).toNat 0, ds.getD (9 : Int).toNat 0 / (1 + 9 * ds.getD (5 : Int).toNat 0), 1 + ds.getD (3 : Int).toNat 0, ds.getD (10 : Int).toNat 0 / (1 + 9 * ds.getD (5 : Int).toNat 0), 1 + ds.getD (11 : Int).toNat 0 % 4] rfl ⟨⟨by show 3 ≤ 7; decide, by show ((7 : Nat) : Int) ≤ _; omega⟩, fun z hz => ?_, chk8 nm_main (by omega) (by omega) (by omega) (by omega) (by omega)⟩
    simp only [List.mem_cons, List.not_mem_nil, or_false] at hz
    rcases hz with rfl | rfl | rfl | rfl | rfl | rfl | rfl <;> first | decide | omega | exact hM
  walk_at "run1"
  · rename_i wl hwl hk1 hk2 hk3 hk4 hk5 hk6 hk7 hk8 hk9 t ht
    refine hk0 wl t _ hwl ht [9, mainW, 1 + ds.getD (1 : Int).toNat 0, ds.getD (6 : Int).toNat 0] rfl ⟨⟨by show 3 ≤ 4; decide, by show ((4 : Nat) : Int) ≤ _; omega⟩, fun z hz => ?_, chk9 nm_main (by omega) (by omega)⟩
    simp only [List.mem_cons, List.not_mem_nil, or_false] at hz
    rcases hz with rfl | rfl | rfl | rfl <;> first | decide | omega | exact hM
  walk_at "run1"
  · rename_i wl hwl hk1 hk2 hk3 hk4 hk5 hk6 hk7 hk8 hk9 t ht
    refine hk0 wl t _ hwl ht [10, mainW, 1 + ds.getD (1 : Int).toNat 0] rfl ⟨⟨by show 3 ≤ 3; decide, by show ((3 : Nat) : Int) ≤ _; omega⟩, fun z hz => ?_, chk10 nm_main (by omega)⟩
    simp only [List.mem_cons, List.not_mem_nil, or_false] at hz
    rcases hz with rfl | rfl | rfl <;> first | decide | omega | exact hM
/-- of the objects of H all but those of S stand in H'; S' is of S or new -/
def Stp (S : List Addr) (H : Hp) (S' : List Addr) (H' : Hp) : Prop := (∀ b o, H b = some o → b ∉ S → H' b = some o) ∧ ∀ b ∈ S', b ∈ S ∨ H b = none
theorem Stp.refl {S : List Addr} {H : Hp} : Stp S H S H := ⟨fun _ _ h _ => h, fun _ h => .inl h⟩
theorem Stp.trans {S S1 S2 : List Addr} {H H1 H2 : Hp} (x : Stp S H S1 H1) (y : Stp S1 H1 S2 H2) : Stp S H S2 H2 := by
  refine ⟨fun b o h n => y.1 b o (x.1 b o h n) fun q => ?_, fun b hb => ?_⟩
  · rcases x.2 b q with z | z
    · exact n z
    · rw [h] at z; cases z
  · rcases y.2 b hb with q | q
    · exact x.2 b q
    · by_cases n : b ∈ S
      · exact .inl n
      · cases e : H b with
        | none => exact .inr rfl
        | some o => rw [x.1 b o e n] at q; cases q
theorem Stp.same {S : List Addr} {H H' : Hp} (s : Same H H') : Stp S H S H' := ⟨fun b o h _ => s b o h, fun _ h => .inl h⟩
theorem Stp.upd {S : List Addr} {H H' : Hp} {p : Addr} {o : HO} (x : Stp S H S H') (h : p ∈ S) : Stp S H S (upd H' p o) :=
  ⟨fun b w e n => by rw [upd_ne (fun q => n (by rw [q]; exact h))]; exact x.1 b w e n, x.2⟩
theorem Stp.new {S : List Addr} {H H' : Hp} {p : Addr} {o : HO} (x : Stp S H S H') (h : H' p = none) : Stp S H S (L2.upd H' p o) := x.trans (.same (same_new h))
theorem Stp.fresh {S S' : List Addr} {H H' : Hp} {p : Addr} (x : Stp S H S' H') (n : H' p = none) : p ∈ S ∨ H p = none := by
  by_cases q : p ∈ S
  · exact .inl q
  · cases e : H p with
    | none => exact .inr rfl
    | some o => rw [x.1 p o e q] at n; cases n
theorem Stp.keep {S S' : List Addr} {H H' : Hp} {b : Addr} {o : HO} (x : Stp S H S' H') (h : H b = some o) (n : b ∉ S) : H' b = some o ∧ b ∉ S' :=
  ⟨x.1 b o h n, fun q => (x.2 b q).elim n fun z => by rw [h] at z; cases z⟩
/-- a list of eight words -/
def RowAt (H : Hp) (v : V) (r : List Int) : Prop := r.length = 8 ∧ ∃ p, v = .ref p ∧ H p = some (.lst (r.map V.int))
def AllRef (vs : List V) : Prop := ∀ x ∈ vs, ∃ p, x = V.ref p
theorem row_ne {r : List Int} {vs : List V} (h : r.length = 8) (hv : AllRef vs) : HO.lst (r.map V.int) ≠ HO.lst vs := by
  intro e
  have e := HO.lst.inj e
  cases r with
  | nil => cases h
  | cons z r =>
    obtain ⟨p, q⟩ := hv (.int z) (by rw [← e]; exact List.mem_cons_self ..)
    cases q
theorem RowAt.same {H H' : Hp} {v : V} {r : List Int} (x : RowAt H v r) (s : Same H H') : RowAt H' v r := by
  obtain ⟨l, p, rfl, h⟩ := x
  exact ⟨l, p, rfl, s _ _ h⟩
theorem RowAt.upd {H : Hp} {v : V} {r : List Int} {q : Addr} {o u : HO} (x : RowAt H v r) (h : H q = some u) (n : r.length = 8 → HO.lst (r.map V.int) ≠ u) : RowAt (upd H q o) v r := by
  obtain ⟨l, p, rfl, e⟩ := x
  exact ⟨l, p, rfl, by rw [upd_ne (ne_of e h (n l))]; exact e⟩
/-- what may be written without a row's loss -/
def NoRow (u : HO) : Prop := ∀ r : List Int, r.length = 8 → HO.lst (r.map V.int) ≠ u
theorem noRow_ins {C dx : Addr} {fs : List (Str × V)} : NoRow (.ins C dx fs) := fun _ _ e => nomatch e
theorem noRow_refs {vs : List V} (h : AllRef vs) : NoRow (.lst vs) := fun _ l => row_ne l h
def RowsAt (H : Hp) (vs : List V) (rs : List (List Int)) : Prop := vs.length = rs.length ∧ ∀ (i : Nat) v, vs[i]? = some v → ∃ r, rs[i]? = some r ∧ RowAt H v r
theorem RowsAt.ref {H : Hp} {vs : List V} {rs : List (List Int)} (x : RowsAt H vs rs) : AllRef vs := fun v hv => by
  obtain ⟨i, hi⟩ := List.getElem?_of_mem hv
  obtain ⟨r, _, _, p, e, _⟩ := x.2 i v hi
  exact ⟨p, e⟩
theorem RowsAt.map {H H' : Hp} {vs : List V} {rs : List (List Int)} (x : RowsAt H vs rs) (f : ∀ v r, RowAt H v r → RowAt H' v r) : RowsAt H' vs rs := ⟨x.1, fun i v h => by
  obtain ⟨r, e, y⟩ := x.2 i v h
  exact ⟨r, e, f v r y⟩⟩
theorem RowsAt.same {H H' : Hp} {vs : List V} {rs : List (List Int)} (x : RowsAt H vs rs) (s : Same H H') : RowsAt H' vs rs := x.map fun _ _ y => y.same s
theorem RowsAt.upd {H : Hp} {vs : List V} {rs : List (List Int)} {q : Addr} {o u : HO} (x : RowsAt H vs rs) (h : H q = some u) (n : NoRow u) : RowsAt (upd H q o) vs rs := x.map fun _ r y => y.upd h (n r)
theorem RowsAt.nil {H : Hp} : RowsAt H [] [] := ⟨rfl, fun i v h => by simp at h⟩
theorem RowsAt.snoc {H : Hp} {vs : List V} {rs : List (List Int)} {v : V} {r : List Int} (x : RowsAt H vs rs) (y : RowAt H v r) : RowsAt H (vs ++ [v]) (rs ++ [r]) := by
  refine ⟨by rw [List.length_append, List.length_append, x.1]; rfl, fun i w h => ?_⟩
  rcases Nat.lt_or_ge i vs.length with q | q
  · rw [List.getElem?_append_left q] at h
    obtain ⟨r', e, z⟩ := x.2 i w h
    exact ⟨r', by rw [List.getElem?_append_left (by rw [← x.1]; exact q)]; exact e, z⟩
  · rw [List.getElem?_append_right q] at h
    have hi : i - vs.length = 0 := by
      have := (List.getElem?_eq_some_iff.mp h).1
      simp at this
      omega
    rw [hi] at h
    cases h
    exact ⟨r, by rw [List.getElem?_append_right (by rw [← x.1]; exact q), ← x.1, hi]; rfl, y⟩
theorem RowsAt.set {H : Hp} {vs : List V} {rs : List (List Int)} {v : V} {r : List Int} {j : Nat} (x : RowsAt H vs rs) (y : RowAt H v r) : RowsAt H (vs.set j v) (rs.set j r) := by
  refine ⟨by rw [List.length_set, List.length_set, x.1], fun i w h => ?_⟩
  by_cases q : j = i
  · subst q
    have hl : j < vs.length := by
      have := (List.getElem?_eq_some_iff.mp h).1
      rw [List.length_set] at this
      exact this
    rw [List.getElem?_set_self hl] at h
    cases h
    exact ⟨r, List.getElem?_set_self (by rw [← x.1]; exact hl), y⟩
  · rw [List.getElem?_set_ne q] at h
    obtain ⟨r', e, z⟩ := x.2 i w h
    exact ⟨r', by rw [List.getElem?_set_ne q]; exact e, z⟩
theorem AllRef.snoc {vs : List V} {p : Addr} (h : AllRef vs) : AllRef (vs ++ [.ref p]) := fun x hx => by
  rcases List.mem_append.mp hx with q | q
  · exact h x q
  · exact ⟨p, List.mem_singleton.mp q⟩
/-- eight words -/
def Row8 (r : List Int) : Prop := r.length = 8 ∧ ∀ z ∈ r, 0 ≤ z
theorem Row8.set {r : List Int} {i : Nat} {z : Int} (h : Row8 r) (hz : 0 ≤ z) : Row8 (r.set i z) := ⟨by rw [List.length_set]; exact h.1, fun y hy => by
  rcases List.mem_or_eq_of_mem_set hy with q | q
  · exact h.2 y q
  · rw [q]; exact hz⟩
def WrAt (H : Hp) (v : V) (s : Int) (r : List Int) : Prop := ∃ t x, v = .ref t ∧ H t = some (.tup [.int s, x]) ∧ RowAt H x r
def WrsAt (H : Hp) (vs : List V) (ws : List (Int × List Int)) : Prop := vs.length = ws.length ∧ ∀ (i : Nat) v, vs[i]? = some v → ∃ s r, ws[i]? = some (s, r) ∧ WrAt H v s r
theorem WrAt.map {H H' : Hp} {v : V} {s : Int} {r : List Int} (x : WrAt H v s r) (f : ∀ v r, RowAt H v r → RowAt H' v r) (g : ∀ t xs, H t = some (.tup xs) → H' t = some (.tup xs)) : WrAt H' v s r := by
  obtain ⟨t, y, rfl, e, z⟩ := x
  exact ⟨t, y, rfl, g _ _ e, f _ _ z⟩
theorem WrsAt.ref {H : Hp} {vs : List V} {ws : List (Int × List Int)} (x : WrsAt H vs ws) : AllRef vs := fun v hv => by
  obtain ⟨i, hi⟩ := List.getElem?_of_mem hv
  obtain ⟨s, r, _, t, _, e, _⟩ := x.2 i v hi
  exact ⟨t, e⟩
theorem WrsAt.map {H H' : Hp} {vs : List V} {ws : List (Int × List Int)} (x : WrsAt H vs ws) (f : ∀ v r, RowAt H v r → RowAt H' v r) (g : ∀ t xs, H t = some (.tup xs) → H' t = some (.tup xs)) : WrsAt H' vs ws := ⟨x.1, fun i v h => by
  obtain ⟨s, r, e, y⟩ := x.2 i v h
  exact ⟨s, r, e, y.map f g⟩⟩
def Plain (u : HO) : Prop := NoRow u ∧ ∀ xs, u ≠ .tup xs
theorem plain_ins {C dx : Addr} {fs : List (Str × V)} : Plain (.ins C dx fs) := ⟨noRow_ins, fun _ e => nomatch e⟩
theorem plain_refs {vs : List V} (h : AllRef vs) : Plain (.lst vs) := ⟨noRow_refs h, fun _ e => nomatch e⟩
theorem row_upd {H : Hp} {q : Addr} {o u : HO} (h : H q = some u) (p : Plain u) : ∀ v r, RowAt H v r → RowAt (upd H q o) v r := fun _ r x => x.upd h (p.1 r)
theorem tup_upd {H : Hp} {q : Addr} {o u : HO} (h : H q = some u) (p : Plain u) : ∀ t xs, H t = some (.tup xs) → upd H q o t = some (.tup xs) := fun t xs e => by rw [upd_ne (ne_of e h fun z => p.2 xs z.symm)]; exact e
theorem RowsAt.dt {K : PySem.W.Frag} {H : Hp} : ∀ {vs : List V} {rs : List (List Int)}, RowsAt H vs rs → DtAll K H vs rs
  | [], [], _ => DtAll.nil
  | [], _ :: _, h => by cases h.1
  | _ :: _, [], h => by cases h.1
  | v :: vs, r :: rs, h => by
    obtain ⟨r', e, _, p, rfl, q⟩ := h.2 0 v rfl
    cases e
    refine DtAll.cons (Dt.list (SqL.of q) (DtAll.ints r)) (RowsAt.dt ⟨by simpa using h.1, fun i w hw => ?_⟩)
    exact h.2 (i + 1) w hw
theorem WrsAt.dt {K : PySem.W.Frag} {H : Hp} : ∀ {vs : List V} {rs : List (Int × List Int)}, WrsAt H vs rs → DtAll K H vs rs
  | [], [], _ => DtAll.nil
  | [], _ :: _, h => by cases h.1
  | _ :: _, [], h => by cases h.1
  | v :: vs, r :: rs, h => by
    obtain ⟨s, r', e, t, x, rfl, et, _, p, rfl, q⟩ := h.2 0 v rfl
    cases e
    refine DtAll.cons (Dt.pair (SqT.of et) Dt.int (Dt.list (SqL.of q) (DtAll.ints r'))) (WrsAt.dt ⟨by simpa using h.1, fun i w hw => ?_⟩)
    exact h.2 (i + 1) w hw
theorem RowAt.of {H : Hp} {p : Addr} {r : List Int} (l : r.length = 8) (h : H p = some (.lst (r.map V.int))) : RowAt H (.ref p) r := ⟨l, p, rfl, h⟩
theorem WrsAt.snoc {H : Hp} {vs : List V} {ws : List (Int × List Int)} {v : V} {s : Int} {r : List Int} (x : WrsAt H vs ws) (y : WrAt H v s r) : WrsAt H (vs ++ [v]) (ws ++ [(s, r)]) := by
  refine ⟨by rw [List.length_append, List.length_append, x.1]; rfl, fun i w h => ?_⟩
  rcases Nat.lt_or_ge i vs.length with q | q
  · rw [List.getElem?_append_left q] at h
    obtain ⟨s', r', e, z⟩ := x.2 i w h
    exact ⟨s', r', by rw [List.getElem?_append_left (by rw [← x.1]; exact q)]; exact e, z⟩
  · rw [List.getElem?_append_right q] at h
    have hi : i - vs.length = 0 := by
      have := (List.getElem?_eq_some_iff.mp h).1
      simp at this
      omega
    rw [hi] at h
    cases h
    exact ⟨s, r, by rw [List.getElem?_append_right (by rw [← x.1]; exact q), ← x.1, hi]; rfl, y⟩
def parI (n : Nat) : Nat := (n + 4) / 4
def wordsR (ns : List Int) : List Int := (((ns.length : Nat) : Int) :: ns) ++ List.replicate (4 * parI ns.length - (ns.length + 1)) 0
def rowR (ns : List Int) (r g : Int) (j : Nat) : List Int := [r, (j : Int), ((parI ns.length : Nat) : Int)] ++ ((wordsR ns).drop (4 * j)).take 4 ++ [g]
def recS (ns : List Int) (r g : Int) : List (List Int) := (List.range (parI ns.length)).map (rowR ns r g)
theorem parI_lim (n : Nat) : n + 1 ≤ 4 * parI n ∧ 4 * parI n ≤ n + 4 := by unfold parI; omega
theorem wordsR_len (ns : List Int) : (wordsR ns).length = 4 * parI ns.length := by
  have := parI_lim ns.length
  unfold wordsR
  rw [List.length_append, List.length_cons, List.length_replicate]
  omega
theorem rowR_len {ns : List Int} {r g : Int} {j : Nat} (h : j < parI ns.length) : (rowR ns r g j).length = 8 := by
  unfold rowR
  rw [List.length_append, List.length_append, List.length_take, List.length_drop, wordsR_len]
  show 3 + min 4 (4 * parI ns.length - 4 * j) + 1 = 8
  omega
theorem cut_ints {ws : List Int} {i j : Nat} (h : i ≤ j) (hj : j ≤ ws.length) : cutV (ws.map V.int) (some (i : Int)) (some (j : Int)) = ((ws.drop i).take (j - i)).map V.int := by
  rw [cut_mid _ _ _ h (by rw [List.length_map]; exact hj), List.map_take, List.map_drop]
def sp_sectors_of (K : PySem.W.Frag) (_ : Ex) : Sp := S1 fun a H Q _ => ∃ (p : Addr) (ns : List Int), a = .ref p ∧ SqT K H p (ns.map V.int) ∧ Q (.int (parI ns.length : Nat)) H
def t_sectors_of (K : PySem.W.Frag) (C : Ex) (E : XK) : TS :=
  tRet (tOp (uDiv) (tOp (uAdd K) (tCB (uLen K) (tCons (tVar 0) (tNil))) (tC (.int 4))) (tC (.int 4)))
theorem pure_sectors_of {K : PySem.W.Frag} {C : Ex} {vs : List V} {H : Hp} {Q : VK} {E : XK} (F : Fa K C) (h : sp_sectors_of K C vs H Q E) : t_sectors_of K C E { nx := fun _ H' => Q .non H', rt := Q } (start ["intent"] vs) H := by
  obtain ⟨a, rfl, p, ns, rfl, hp, k⟩ := h
  unfold t_sectors_of
  walk_at "run1"
  rw [List.length_map]
  have e : (((ns.length : Nat) : Int) + 4) / 4 = ((parI ns.length : Nat) : Int) := by unfold parI; omega
  rw [e]
  exact k
def sp_record_sectors (K : PySem.W.Frag) (_ : Ex) : Sp := S3 fun a b c H Q _ => ∃ (p : Addr) (ns : List Int) (r g : Int), a = .ref p ∧ b = .int r ∧ c = .int g ∧ SqT K H p (ns.map V.int) ∧ ns.length ≤ 2000 ∧
  ∀ q H' vs, Same H H' → H q = none → H' q = some (.lst vs) → RowsAt H' vs (recS ns r g) → Q (.ref q) H'
def t_record_sectors (K : PySem.W.Frag) (C : Ex) (E : XK) : TS :=
  tSeq (tAsg (uCall (sp_sectors_of K C) (WB E) (tCons (tVar 0) (tNil))) (gName 3))
  (tSeq (tAsg (tOp (uAdd K) (tLst (tCons (tCB (uLen K) (tCons (tVar 0) (tNil))) (tNil))) (tCB (uList K) (tCons (tVar 0) (tNil)))) (gName 4))
  (tSeq (tAsg (tOp (uAdd K) (tVar 4) (tOp (uMul) (tLst (tCons (tC (.int 0)) (tNil))) (tOp (uSub) (tOp (uMul) (tC (.int 4)) (tVar 3)) (tCB (uLen K) (tCons (tVar 4) (tNil)))))) (gName 4))
  (tSeq (tAsg (tLst (tNil)) (gName 5))
  (tSeq (tFor (iRng1 (tCons (tVar 3) (tNil))) (gName 6)
  (tSeq (tAsg (tSl (uSl K) (tVar 4) (tPart (tOp (uMul) (tC (.int 4)) (tVar 6))) (tPart (tOp (uAdd K) (tOp (uMul) (tC (.int 4)) (tVar 6)) (tC (.int 4))))) (gName 7))
  (tDrop (tBM K "list" (rAppend) (tVar 5) (tCons (tOp (uAdd K) (tOp (uAdd K) (tLst (tCons (tVar 1) (tCons (tVar 6) (tCons (tVar 3) (tNil))))) (tVar 7)) (tLst (tCons (tVar 2) (tNil)))) (tNil))))))
  (tRet (tVar 5))))))
theorem pure_record_sectors {K : PySem.W.Frag} {C : Ex} {vs : List V} {H : Hp} {Q : VK} {E : XK} (F : Fa K C) (h : sp_record_sectors K C vs H Q E) : t_record_sectors K C E { nx := fun _ H' => Q .non H', rt := Q } (start ["intent", "record", "generation", "parts", "words", "sectors", "part", "group"] vs) H := by
  obtain ⟨a, b, c, rfl, p, ns, r, g, rfl, rfl, rfl, hp, ln, k⟩ := h
  unfold t_record_sectors
  have pl := parI_lim ns.length
  have wl := wordsR_len ns
  have rl : ∀ j, j < parI ns.length → (rowR ns r g j).length = 8 := fun j hj => rowR_len hj
  have lm : (ns.map V.int).length = ns.length := List.length_map ..
  walk_at "run1"
  refine w_S1 ⟨p, ns, rfl, hp, ?_⟩
  walk_at "run1"
  rename_i l1 hl1
  refine w_tlistT (sqt_old hp hl1) fun l2 hl2 => ?_
  refine w_cat (upd_old upd_same hl2) upd_same (by rw [lm]; show 1 + _ ≤ _; omega) fun l3 hl3 => ?_
  walk_at "run1"
  rename_i l0 hl0 l4 hl4
  have s4 := same_updN (o := .lst (List.map V.int (List.replicate (4 * ((parI ns.length : Nat) : Int) - (([V.int (List.map V.int ns).length] ++ List.map V.int ns).length : Nat)).toNat 0))) (same_updN (o := .lst [.int 0]) (same_updN (o := .lst ([.int (List.map V.int ns).length] ++ ns.map V.int)) (same_updN (o := .lst (ns.map V.int)) (same_new (o := .lst [.int (List.map V.int ns).length]) hl1) hl2) hl3) hl0) hl4
  refine w_cat (upd_old (upd_old upd_same hl0) hl4) upd_same (by simp only [List.length_map, List.length_replicate, List.length_append, List.length_cons, List.length_nil]; omega) fun W hW => ?_
  have s5 := same_updN (o := .lst ([V.int (List.map V.int ns).length] ++ List.map V.int ns ++ List.map V.int (List.replicate (4 * ((parI ns.length : Nat) : Int) - (([V.int (List.map V.int ns).length] ++ List.map V.int ns).length : Nat)).toNat 0))) s4 hW
  have eW : [V.int (List.map V.int ns).length] ++ List.map V.int ns ++ List.map V.int (List.replicate (4 * ((parI ns.length : Nat) : Int) - (([V.int (List.map V.int ns).length] ++ List.map V.int ns).length : Nat)).toNat 0) = (wordsR ns).map V.int := by
    unfold wordsR
    rw [List.map_append, List.map_cons, lm]
    have e : (4 * ((parI ns.length : Nat) : Int) - (([V.int ((ns.length : Nat) : Int)] ++ List.map V.int ns).length : Nat)).toNat = 4 * parI ns.length - (ns.length + 1) := by
      rw [List.length_append, lm]
      show (4 * ((parI ns.length : Nat) : Int) - ((1 + ns.length : Nat) : Int)).toNat = _
      omega
    rw [e]
    rfl
  rw [eW] at s5 ⊢
  have hW5 := fun G : Hp => upd_same (H := G) (a := W) (o := .lst ((wordsR ns).map V.int))
  have e5 := hW5 (upd (upd (upd (upd (upd H l1 (.lst [.int (List.map V.int ns).length])) l2 (.lst (ns.map V.int))) l3 (.lst ([.int (List.map V.int ns).length] ++ ns.map V.int))) l0 (.lst [.int 0])) l4 (.lst (List.map V.int (List.replicate (4 * ((parI ns.length : Nat) : Int) - (([V.int (List.map V.int ns).length] ++ List.map V.int ns).length : Nat)).toNat 0))))
  generalize upd _ W (.lst ((wordsR ns).map V.int)) = H5 at *
  clear hW5 s4 hl4 hl0 hl3 hl2 hl1 hW
  walk_at "run1"
  rename_i S hS
  refine f_range (fun i σ H' => ∃ (vs : List V) (v6 v7 : Option V), σ = [some (.ref p), some (.int r), some (.int g), some (.int (parI ns.length : Nat)), some (.ref W), some (.ref S), v6, v7] ∧ Same H5 H' ∧ H' S = some (.lst vs) ∧ RowsAt H' vs ((recS ns r g).take i))
    ⟨[], none, none, rfl, same_new hS, upd_same, .nil⟩ ?_ ?_
  · rintro i σ H6 hi ⟨vs, v6, v7, rfl, s6, e6, rr⟩
    have hi : i < parI ns.length := by omega
    have w6 := s6 _ _ e5
    have lv : vs.length ≤ parI ns.length := by rw [rr.1, List.length_take]; omega
    walk_at "run1"
    refine w_slL (SqL.of w6) fun l hl => ?_
    rw [show 4 * (0 + (i : Int)) = ((4 * i : Nat) : Int) by omega, show ((4 * i : Nat) : Int) + 4 = ((4 * i + 4 : Nat) : Int) by omega, cut_ints (by omega) (by rw [wl]; omega), show 4 * i + 4 - 4 * i = 4 by omega]
    walk_at "run1"
    rename_i la hla
    have l44 : (((wordsR ns).drop (4 * i)).take 4).length ≤ 4 := by rw [List.length_take]; omega
    have s7 := same_updN (o := .lst [.int r, .int (0 + (i : Int)), .int ((parI ns.length : Nat) : Int)]) (same_new (o := .lst ((((wordsR ns).drop (4 * i)).take 4).map V.int)) hl) hla
    refine w_cat upd_same (upd_old upd_same hla) (by rw [List.length_map]; show 3 + _ ≤ _; omega) fun lb hlb => ?_
    walk_at "run1"
    rename_i lc hlc
    refine w_cat (upd_old upd_same hlc) upd_same (by rw [List.length_append, List.length_map]; show 3 + _ + 1 ≤ _; omega) fun ld hld => ?_
    have eR : [V.int r, .int (0 + (i : Int)), .int ((parI ns.length : Nat) : Int)] ++ (((wordsR ns).drop (4 * i)).take 4).map V.int ++ [.int g] = (rowR ns r g i).map V.int := by
      unfold rowR
      rw [List.map_append, List.map_append, Int.zero_add]
      rfl
    have s8 := same_updN (o := .lst ([V.int r, .int (0 + (i : Int)), .int ((parI ns.length : Nat) : Int)] ++ (((wordsR ns).drop (4 * i)).take 4).map V.int ++ [.int g])) (same_updN (o := .lst [.int g]) (same_updN (o := .lst ([V.int r, .int (0 + (i : Int)), .int ((parI ns.length : Nat) : Int)] ++ (((wordsR ns).drop (4 * i)).take 4).map V.int)) s7 hlb) hlc) hld
    rw [eR] at s8 ⊢
    have rD : RowAt (upd (upd (upd (upd (upd H6 l (.lst ((((wordsR ns).drop (4 * i)).take 4).map V.int))) la (.lst [.int r, .int (0 + (i : Int)), .int ((parI ns.length : Nat) : Int)])) lb (.lst ([V.int r, .int (0 + (i : Int)), .int ((parI ns.length : Nat) : Int)] ++ (((wordsR ns).drop (4 * i)).take 4).map V.int))) lc (.lst [.int g])) ld (.lst ((rowR ns r g i).map V.int))) (.ref ld) (rowR ns r g i) := .of (rl i hi) upd_same
    generalize upd _ ld (.lst ((rowR ns r g i).map V.int)) = H8 at *
    have e8 := s8 _ _ e6
    walk_at "run1"
    refine w_app e8 (lt_line (by omega)) ?_
    walk_at "run1"
    refine ⟨_, _, _, rfl, same_upd (s6.trans s8) hS, upd_same, ?_⟩
    have e1 : (recS ns r g).take (i + 1) = (recS ns r g).take i ++ [rowR ns r g i] := take_snoc (by unfold recS; rw [List.getElem?_map, List.getElem?_range hi]; rfl)
    rw [e1]
    exact ((rr.same s8).snoc rD).upd e8 (noRow_refs rr.ref)
  · rintro σ H6 ⟨vs, v6, v7, rfl, s6, e6, rr⟩
    rw [List.take_of_length_le (by unfold recS; rw [List.length_map, List.length_range]; omega)] at rr
    walk_at "run1"
    exact k S H6 vs (s5.trans s6) (s5.free hS) e6 rr
def lgO (C : Ex) (dx : Addr) (g s r : Int) : HO := .ins C.Log dx [("generation", .int g), ("next_sector", .int s), ("next_record", .int r)]
/-- a list of tuples of ints -/
def TupAt (H : Hp) (v : V) (ns : List Int) : Prop := ∃ p, v = .ref p ∧ H p = some (.tup (ns.map V.int))
def TupsAt (H : Hp) (vs : List V) (nss : List (List Int)) : Prop := vs.length = nss.length ∧ ∀ (i : Nat) v, vs[i]? = some v → ∃ ns, nss[i]? = some ns ∧ TupAt H v ns
theorem TupAt.same {H H' : Hp} {v : V} {ns : List Int} (x : TupAt H v ns) (s : Same H H') : TupAt H' v ns := by
  obtain ⟨p, rfl, e⟩ := x
  exact ⟨p, rfl, s _ _ e⟩
theorem TupsAt.map {H H' : Hp} {vs : List V} {nss : List (List Int)} (x : TupsAt H vs nss) (f : ∀ t xs, H t = some (.tup xs) → H' t = some (.tup xs)) : TupsAt H' vs nss := ⟨x.1, fun i v h => by
  obtain ⟨ns, e, p, rfl, y⟩ := x.2 i v h
  exact ⟨ns, e, p, rfl, f _ _ y⟩⟩
theorem TupsAt.same {H H' : Hp} {vs : List V} {nss : List (List Int)} (x : TupsAt H vs nss) (s : Same H H') : TupsAt H' vs nss := x.map fun _ _ e => s _ _ e
theorem TupsAt.nil {H : Hp} : TupsAt H [] [] := ⟨rfl, fun i v h => by simp at h⟩
theorem TupsAt.snoc {H : Hp} {vs : List V} {nss : List (List Int)} {v : V} {ns : List Int} (x : TupsAt H vs nss) (y : TupAt H v ns) : TupsAt H (vs ++ [v]) (nss ++ [ns]) := by
  refine ⟨by rw [List.length_append, List.length_append, x.1]; rfl, fun i w h => ?_⟩
  rcases Nat.lt_or_ge i vs.length with q | q
  · rw [List.getElem?_append_left q] at h
    obtain ⟨r', e, z⟩ := x.2 i w h
    exact ⟨r', by rw [List.getElem?_append_left (by rw [← x.1]; exact q)]; exact e, z⟩
  · rw [List.getElem?_append_right q] at h
    have hi : i - vs.length = 0 := by
      have := (List.getElem?_eq_some_iff.mp h).1
      simp at this
      omega
    rw [hi] at h
    cases h
    exact ⟨ns, by rw [List.getElem?_append_right (by rw [← x.1]; exact q), ← x.1, hi]; rfl, y⟩
theorem TupsAt.dt {K : PySem.W.Frag} {H : Hp} : ∀ {vs : List V} {rs : List (List Int)}, TupsAt H vs rs → DtAll K H vs (rs.map PySem.W.Tup.mk)
  | [], [], _ => DtAll.nil
  | [], _ :: _, h => by cases h.1
  | _ :: _, [], h => by cases h.1
  | v :: vs, r :: rs, h => by
    obtain ⟨r', e, p, rfl, q⟩ := h.2 0 v rfl
    cases e
    refine DtAll.cons (Dt.tup (SqT.of q) (DtAll.ints r)) (TupsAt.dt ⟨by simpa using h.1, fun i w hw => ?_⟩)
    exact h.2 (i + 1) w hw
def tot (nss : List (List Int)) : Int := (nss.map fun ns => ((parI ns.length : Nat) : Int)).sum
def rowsW (ns : List Int) (s r g : Int) : List (Int × List Int) := (List.range (parI ns.length)).map fun j : Nat => (s + (j : Int), rowR ns r g j)
def wrsK (nss : List (List Int)) (s r g : Int) (k : Nat) : List (Int × List Int) := (List.range k).flatMap fun i : Nat => rowsW (nss.getD i []) (s + tot (nss.take i)) (r + (i : Int)) g
theorem wrsK_succ {nss : List (List Int)} {s r g : Int} {k : Nat} {ns : List Int} (h : nss[k]? = some ns) : wrsK nss s r g (k + 1) = wrsK nss s r g k ++ rowsW ns (s + tot (nss.take k)) (r + (k : Int)) g := by
  unfold wrsK
  rw [List.range_succ, List.flatMap_append, List.flatMap_cons, List.flatMap_nil, List.append_nil, List.getD_eq_getElem?_getD, h]
  rfl
theorem tot_succ {nss : List (List Int)} {k : Nat} {ns : List Int} (h : nss[k]? = some ns) : tot (nss.take (k + 1)) = tot (nss.take k) + (parI ns.length : Nat) := by
  rw [take_snoc h]
  unfold tot
  rw [List.map_append, List.sum_append]
  simp
theorem rowsW_succ {ns : List Int} {s r g : Int} {j : Nat} : (List.range (j + 1)).map (fun j : Nat => (s + (j : Int), rowR ns r g j)) = (List.range j).map (fun j : Nat => (s + (j : Int), rowR ns r g j)) ++ [(s + (j : Int), rowR ns r g j)] := by
  rw [List.range_succ, List.map_append]
  rfl
theorem sql_stp {K : PySem.W.Frag} {H H' : Hp} {l p : Addr} {F' : List Addr} {xs : List V} {C dx : Addr} {fs : List (Str × V)} (h : SqL K H p xs) (hl : H l = some (.ins C dx fs)) (st : Stp [l] H F' H') : SqL K H' p xs := by
  have ne : ∀ o, H p = some o → (∀ C dx fs, o ≠ .ins C dx fs) → p ∉ [l] := fun o e n q => by
    rw [List.mem_singleton.mp q, hl] at e
    exact n _ _ _ (Option.some.inj e).symm
  rcases h with (h | ⟨o, h⟩) | h
  · exact .inl (.inl (st.keep h (ne _ h fun _ _ _ z => nomatch z)).1)
  · exact .inl (.inr ⟨o, (st.keep h (ne _ h fun _ _ _ z => nomatch z)).1⟩)
  · exact .inr h
theorem TupsAt.stp {H H' : Hp} {l : Addr} {F' : List Addr} {vs : List V} {nss : List (List Int)} {C dx : Addr} {fs : List (Str × V)} (x : TupsAt H vs nss) (hl : H l = some (.ins C dx fs)) (st : Stp [l] H F' H') : TupsAt H' vs nss := x.map fun t xs e => (st.keep e fun q => by
  rw [List.mem_singleton.mp q, hl] at e
  cases e).1
theorem lst_stp {H H' : Hp} {l p : Addr} {F' : List Addr} {vs : List V} {C dx : Addr} {fs : List (Str × V)} (h : H p = some (.lst vs)) (hl : H l = some (.ins C dx fs)) (st : Stp [l] H F' H') : H' p = some (.lst vs) := (st.keep h fun q => by
  rw [List.mem_singleton.mp q, hl] at h
  cases h).1
theorem par_of (ns : List Int) : ((((ns.map V.int).length : Nat) : Int) + 4) / 4 = ((parI ns.length : Nat) : Int) := by
  rw [List.length_map]
  unfold parI
  omega
def sp_Log___init__ (K : PySem.W.Frag) (C : Ex) : Sp := S2 fun x b H Q _ => ∃ (l dx : Addr) (g : Int), x = .ref l ∧ b = .int g ∧ H l = some (.ins C.Log dx []) ∧ Q .non (upd H l (lgO C dx g 4 1))
def t_Log___init__ (K : PySem.W.Frag) (C : Ex) (E : XK) : TS :=
  tSeq (uSetF C.Log "generation" (tVar 0) (tVar 1))
  (tSeq (uSetF C.Log "next_sector" (tVar 0) (tC (.int 4)))
  (uSetF C.Log "next_record" (tVar 0) (tC (.int 1))))
theorem pure_Log___init__ {K : PySem.W.Frag} {C : Ex} {vs : List V} {H : Hp} {Q : VK} {E : XK} (F : Fa K C) (h : sp_Log___init__ K C vs H Q E) : t_Log___init__ K C E { nx := fun _ H' => Q .non H', rt := Q } (start ["self", "generation"] vs) H := by
  obtain ⟨x, b, rfl, l, dx, g, rfl, rfl, hl, k⟩ := h
  unfold t_Log___init__
  walk_at "run1"
  rw [upd_upd, upd_upd]
  exact k
def sp_Log_fits (K : PySem.W.Frag) (C : Ex) : Sp := S2 fun x b H Q _ => ∃ (l dx q : Addr) (g s r : Int) (vs : List V) (nss : List (List Int)), x = .ref l ∧ b = .ref q ∧ H l = some (lgO C dx g s r) ∧ SqL K H q vs ∧ TupsAt H vs nss ∧ nss.length ≤ 1000 ∧
  ∀ H', Same H H' → Q (.bl (decide (s + tot nss ≤ 20))) H'
def t_Log_fits (K : PySem.W.Frag) (C : Ex) (E : XK) : TS :=
  tSeq (tAsg (tCB (rSum K) (tCons (tLc (iList K (tVar 1)) (gName 3) (tYes) (uCall (sp_sectors_of K C) (fun _ _ _ _ => False) (tCons (tVar 3) (tNil))) [3]) (tNil))) (gName 2))
  (tRet (tOp (uLe K) (tOp (uAdd K) (uFld C.Log "next_sector" (tVar 0)) (tVar 2)) (tOp (uAdd K) (tC (.int 4)) (tC (.int 16)))))
theorem pure_Log_fits {K : PySem.W.Frag} {C : Ex} {vs : List V} {H : Hp} {Q : VK} {E : XK} (F : Fa K C) (h : sp_Log_fits K C vs H Q E) : t_Log_fits K C E { nx := fun _ H' => Q .non H', rt := Q } (start ["self", "intents", "needed", "intent"] vs) H := by
  obtain ⟨x, b, rfl, l, dx, q, g, s, r, vs, nss, rfl, rfl, hl, hq, ht, hn, k⟩ := h
  unfold lgO at hl
  unfold t_Log_fits
  walk_at "run1"
  refine l_list (xs := vs) (fun D i H1 => Same H H1 ∧ H1 D = some (.lst (((nss.take i).map fun ns => ((parI ns.length : Nat) : Int)).map V.int))) (fun D hD => ⟨same_new hD, upd_same⟩) (fun D i H1 _ p => p.1.seq hq) ?_ ?_
  · rintro D i x H1 hD hx ⟨s1, e1⟩
    obtain ⟨ns, hns, p, rfl, ep⟩ := ht.2 _ _ hx
    walk_at "run1"
    refine ⟨rfl, ?_⟩
    walk_at "run1"
    refine w_S1 ⟨p, ns, rfl, .of (s1 _ _ ep), ?_⟩
    refine ⟨_, e1, by rw [List.length_map, List.length_map, List.length_take]; exact lt_line (by omega), same_upd s1 hD, ?_⟩
    rw [upd_same, take_snoc hns, List.map_append, List.map_append]
    rfl
  · rintro D H1 hD ⟨s1, e1⟩
    rw [ht.1, List.take_length] at e1
    have i1 := s1 _ _ hl
    walk_at "run1"
    refine ⟨D, _, rfl, SqL.of e1, ?_⟩
    walk_at "run1"
    exact k H1 s1
def sp_Log_append_records (K : PySem.W.Frag) (C : Ex) : Sp := S2 fun x b H Q E => ∃ (l dx q : Addr) (g s r : Int) (vs : List V) (nss : List (List Int)), x = .ref l ∧ b = .ref q ∧ H l = some (lgO C dx g s r) ∧ H q = some (.lst vs) ∧ TupsAt H vs nss ∧ nss.length ≤ 1000 ∧ (∀ ns ∈ nss, ns.length ≤ 2000) ∧
  (20 < s + tot nss → ∀ H', Same H H' → E (.ref C.NoSpace) none H') ∧
  (s + tot nss ≤ 20 → ∀ H' w ws, Stp [l] H [l] H' → H w = none → H' l = some (lgO C dx g (s + tot nss) (r + (nss.length : Int))) → H' w = some (.lst ws) → WrsAt H' ws (wrsK nss s r g nss.length) → Q (.ref w) H')
def t_Log_append_records (K : PySem.W.Frag) (C : Ex) (E : XK) : TS :=
  tSeq (tIfS (tNot (uTru K (uMeth C.Log "fits" (sp_Log_fits K C) (WB E) (tVar 0) (tCons (tVar 1) (tNil))))) (uRaise C.NoSpace (WB E)) (tNext))
  (tSeq (tAsg (tLst (tNil)) (gName 2))
  (tSeq (tFor (iList K (tVar 1)) (gName 3)
  (tSeq (tFor (iList K (uCall (sp_record_sectors K C) (WB E) (tCons (tVar 3) (tCons (uFld C.Log "next_record" (tVar 0)) (tCons (uFld C.Log "generation" (tVar 0)) (tNil)))))) (gName 4)
  (tSeq (tDrop (tBM K "list" (rAppend) (tVar 2) (tCons (tTup (tCons (uFld C.Log "next_sector" (tVar 0)) (tCons (tVar 4) (tNil)))) (tNil))))
  (uAugF C.Log "next_sector" rAdd (tVar 0) (tC (.int 1)))))
  (uAugF C.Log "next_record" rAdd (tVar 0) (tC (.int 1)))))
  (tRet (tVar 2))))
theorem pure_Log_append_records {K : PySem.W.Frag} {C : Ex} {vs : List V} {H : Hp} {Q : VK} {E : XK} (F : Fa K C) (h : sp_Log_append_records K C vs H Q E) : t_Log_append_records K C E { nx := fun _ H' => Q .non H', rt := Q } (start ["self", "intents", "writes", "intent", "words"] vs) H := by
  obtain ⟨x, b, rfl, l, dx, q, g, s, r, vs, nss, rfl, rfl, hl, hq, ht, hn, hz, k1, k2⟩ := h
  have hl' := hl
  unfold lgO at hl'
  unfold t_Log_append_records
  walk_at "run1"
  refine w_S2 ⟨l, dx, q, g, s, r, vs, nss, rfl, rfl, hl, SqL.of hq, ht, hn, fun H1 s1 => ?_⟩
  walk_at "run1"
  · rename_i hf
    exact k1 (by omega) H1 s1
  rename_i hf
  have hl1 := s1 _ _ hl
  have hq1 := s1 _ _ hq
  have ht1 := ht.same s1
  walk_at "run1"
  rename_i w hw
  have hl2 := upd_old (o := .lst []) hl1 hw
  have hq2 := upd_old (o := .lst []) hq1 hw
  have ht2 := ht1.same (same_new (o := .lst []) hw)
  have hw2 : upd H1 w (.lst []) w = some (.lst []) := upd_same
  have s2 := same_updN (o := .lst []) s1 hw
  have nq : q ∉ [l, w] := fun h => by
    simp only [List.mem_cons, List.not_mem_nil, or_false] at h
    rcases h with rfl | rfl
    · rw [hl1] at hq1; cases hq1
    · rw [hw] at hq1; cases hq1
  generalize upd H1 w _ = H2 at *
  refine f_list (xs := vs) (fun i σ H' => ∃ (ws : List V) (v3 v4 : Option V), σ = [some (.ref l), some (.ref q), some (.ref w), v3, v4] ∧ Stp [l, w] H2 [l, w] H' ∧ H' l = some (lgO C dx g (s + tot (nss.take i)) (r + (i : Int))) ∧ H' w = some (.lst ws) ∧ WrsAt H' ws (wrsK nss s r g i) ∧ ws.length ≤ 501 * i)
    ⟨[], none, none, rfl, .refl, by rw [show s + tot (nss.take 0) = s by unfold tot; simp, show r + ((0 : Nat) : Int) = r by omega]; exact hl2, hw2, ⟨rfl, fun i v h => by simp at h⟩, Nat.le_refl 0⟩ (by rintro i σ H' _ ⟨_, _, _, _, st, _⟩; exact SqL.of (st.keep hq2 nq).1) ?_ ?_
  · rintro i x σ H3 hx ⟨ws, v3, v4, rfl, st, e3l, e3w, wr, lws⟩
    obtain ⟨ns, hns, p, rfl, ep⟩ := ht2.2 _ _ hx
    have np : p ∉ [l, w] := fun h => by
      simp only [List.mem_cons, List.not_mem_nil, or_false] at h
      rcases h with rfl | rfl
      · rw [hl2] at ep; cases ep
      · rw [hw2] at ep; cases ep
    have ep3 := (st.keep ep np).1
    have hns2 := hz ns (List.mem_of_getElem? hns)
    have e3l' := e3l
    unfold lgO at e3l'
    walk_at "run1"
    refine w_S3 ⟨p, ns, _, g, rfl, rfl, rfl, .of ep3, hns2, fun R H4 vs2 s4 hR eR rR => ?_⟩
    have e4l := s4 _ _ e3l
    have e4w := s4 _ _ e3w
    have wr4 : WrsAt H4 ws (wrsK nss s r g i) := wr.map (fun _ _ y => y.same s4) fun _ _ e => s4 _ _ e
    have nR : R ∉ [l, w] := fun h => by
      simp only [List.mem_cons, List.not_mem_nil, or_false] at h
      rcases h with rfl | rfl
      · rw [e3l] at hR; cases hR
      · rw [e3w] at hR; cases hR
    have st4 : Stp [l, w] H2 [l, w] H4 := st.trans (.same s4)
    have lw : l ≠ w := ne_of e4l e4w fun z => nomatch z
    have hrow : ∀ v r, RowAt H4 v r → ∀ H', Stp [l, w] H4 [l, w] H' → RowAt H' v r := fun v r y H' st' => by
      obtain ⟨l8, py, rfl, ey⟩ := y
      refine ⟨l8, py, rfl, (st'.keep ey fun h => ?_).1⟩
      simp only [List.mem_cons, List.not_mem_nil, or_false] at h
      rcases h with rfl | rfl
      · rw [e4l] at ey; cases ey
      · rw [e4w] at ey; exact noRow_refs wr.ref r l8 (Option.some.inj ey).symm
    have lR : vs2.length = parI ns.length := by rw [rR.1]; unfold recS; rw [List.length_map, List.length_range]
    have pl := parI_lim ns.length
    walk_at "run1"
    refine f_list (xs := vs2) (fun j σ H' => ∃ (ws' : List V) (v4 : Option V), σ = [some (.ref l), some (.ref q), some (.ref w), some (.ref p), v4] ∧ Stp [l, w] H4 [l, w] H' ∧ H' l = some (lgO C dx g (s + tot (nss.take i) + (j : Int)) (r + (i : Int))) ∧ H' w = some (.lst ws') ∧ WrsAt H' ws' (wrsK nss s r g i ++ (List.range j).map fun j : Nat => (s + tot (nss.take i) + (j : Int), rowR ns (r + (i : Int)) g j)) ∧ ws'.length = ws.length + j)
      ⟨ws, v4, rfl, .refl, by rw [show s + tot (nss.take i) + ((0 : Nat) : Int) = s + tot (nss.take i) by omega]; exact e4l, e4w, by rw [List.range_zero, List.map_nil, List.append_nil]; exact wr4, rfl⟩ (by rintro j σ H' _ ⟨_, _, _, st', _⟩; exact SqL.of (st'.keep eR nR).1) ?_ ?_
    · rintro j x σ H5 hx ⟨ws', v4, rfl, st5, e5l, e5w, wr5, lw5⟩
      have hj : j < vs2.length := (List.getElem?_eq_some_iff.mp hx).1
      obtain ⟨row, hrw, ry⟩ := rR.2 _ _ hx
      have erow : row = rowR ns (r + (i : Int)) g j := by
        unfold recS at hrw
        rw [List.getElem?_map, List.getElem?_range (by omega)] at hrw
        exact (Option.some.inj hrw).symm
      subst erow
      have ry5 := hrow _ _ ry H5 st5
      obtain ⟨l8, py, rfl, ey⟩ := ry
      have e5l' := e5l
      unfold lgO at e5l'
      have hi : i < vs.length := (List.getElem?_eq_some_iff.mp (by assumption : vs[i]? = some (V.ref p))).1
      have htl := ht.1
      walk_at "run1"
      rename_i t hnt
      have s6 := same_new (o := .tup [.int (s + tot (nss.take i) + (j : Int)), .ref py]) hnt
      have wt : WrAt (upd H5 t (.tup [.int (s + tot (nss.take i) + (j : Int)), .ref py])) (.ref t) (s + tot (nss.take i) + (j : Int)) (rowR ns (r + (i : Int)) g j) := ⟨t, _, rfl, upd_same, ry5.same s6⟩
      have wr6 := (wr5.map (fun _ _ y => y.same s6) fun _ _ e => s6 _ _ e).snoc wt
      have e6w := s6 _ _ e5w
      have e6l := s6 _ _ e5l
      have st6 : Stp [l, w] H4 [l, w] (upd H5 t (.tup [.int (s + tot (nss.take i) + (j : Int)), .ref py])) := st5.trans (.same s6)
      generalize upd H5 t _ = H6 at *
      have pw := plain_refs wr5.ref
      refine w_app e6w (lt_line (by omega)) ?_
      have e7l : upd H6 w (.lst (ws' ++ [.ref t])) l = some (lgO C dx g (s + tot (nss.take i) + (j : Int)) (r + (i : Int))) := upd_oth e6l lw
      have e7w : upd H6 w (.lst (ws' ++ [.ref t])) w = some (.lst (ws' ++ [.ref t])) := upd_same
      have wr7 := wr6.map (row_upd (o := .lst (ws' ++ [.ref t])) e6w pw) (tup_upd (o := .lst (ws' ++ [.ref t])) e6w pw)
      have st7 : Stp [l, w] H4 [l, w] (upd H6 w (.lst (ws' ++ [.ref t]))) := st6.upd (by simp)
      generalize upd H6 w _ = H7 at *
      have e7l' := e7l
      unfold lgO at e7l'
      walk_at "run1"
      refine ⟨ws' ++ [.ref t], _, rfl, st7.upd (by simp), ?_, upd_oth e7w (Ne.symm lw), ?_, by rw [List.length_append, lw5]; rfl⟩
      · rw [upd_same]
        unfold lgO
        rw [show s + tot (nss.take i) + ((j + 1 : Nat) : Int) = s + tot (nss.take i) + (j : Int) + 1 by omega]
        rfl
      · rw [rowsW_succ, ← List.append_assoc]
        exact wr7.map (row_upd e7l plain_ins) (tup_upd e7l plain_ins)
    · rintro σ H5 ⟨ws', v4, rfl, st5, e5l, e5w, wr5, lw5⟩
      have e5l' := e5l
      unfold lgO at e5l'
      walk_at "run1"
      rw [lR] at lw5 wr5 e5l'
      have e1 := wrsK_succ (s := s) (r := r) (g := g) hns
      have e2 := tot_succ hns
      unfold rowsW at e1
      refine ⟨ws', _, _, rfl, (st4.trans st5).upd (by simp), ?_, upd_oth e5w (Ne.symm lw), ?_, by omega⟩
      · rw [upd_same]
        unfold lgO
        rw [e2, show r + ((i + 1 : Nat) : Int) = r + (i : Int) + 1 by omega, ← Int.add_assoc]
        show some (HO.ins C.Log dx [("generation", V.int g), ("next_sector", V.int (s + tot (nss.take i) + (vs2.length : Int))), ("next_record", V.int (r + (i : Int) + 1))]) = _
        rw [lR]
      · rw [e1]
        exact wr5.map (row_upd e5l plain_ins) (tup_upd e5l plain_ins)
  · rintro σ H3 ⟨ws, v3, v4, rfl, st, e3l, e3w, wr, lws⟩
    rw [ht.1, List.take_length] at e3l
    rw [ht.1] at wr
    walk_at "run1"
    have stl : Stp [l] H [l] H3 := by
      refine ⟨fun b o h n => st.1 b o (s2 b o h) fun h' => ?_, fun b hb => .inl hb⟩
      simp only [List.mem_cons, List.not_mem_nil, or_false] at h' n
      rcases h' with rfl | rfl
      · exact n rfl
      · rw [s1.free hw] at h
        cases h
    exact k2 hf H3 w ws stl (s1.free hw) e3l e3w wr
def sp__law_cells (K : PySem.W.Frag) (_ : Ex) : Sp := S2 fun a b H Q _ => ∃ (p : Addr) (ns : List Int), a = .ref p ∧ b = .int ns.length ∧ SqL K H p (ns.map V.int) ∧ Q (.bl true) H
def t__law_cells (K : PySem.W.Frag) (C : Ex) (E : XK) : TS :=
  tSeq (tIfS (tOr (tNot (uTru K (tCB (uIsi K .list) (tCons (tVar 0) (tCons (tC (.ty "list")) (tNil)))))) (tTest (tOp (uNe K) (tCB (uLen K) (tCons (tVar 0) (tNil))) (tVar 1)))) (tRet (tC (.bl false))) (tNext))
  (tSeq (tFor (iList K (tVar 0)) (gName 2)
  (tIfS (tOr (tNot (uTru K (tCB (uIsi K .int) (tCons (tVar 2) (tCons (tC (.ty "int")) (tNil)))))) (uTru K (tCB (uIsi K .bool) (tCons (tVar 2) (tCons (tC (.ty "bool")) (tNil)))))) (tRet (tC (.bl false))) (tNext)))
  (tRet (tC (.bl true))))
theorem pure__law_cells {K : PySem.W.Frag} {C : Ex} {vs : List V} {H : Hp} {Q : VK} {E : XK} (F : Fa K C) (h : sp__law_cells K C vs H Q E) : t__law_cells K C E { nx := fun _ H' => Q .non H', rt := Q } (start ["_law_row", "_law_size", "_law_value"] vs) H := by
  obtain ⟨a, b, rfl, p, ns, rfl, rfl, hp, k⟩ := h
  unfold t__law_cells
  walk_at "run1"
  refine w_isi_list_L hp ?_
  walk_at "run1"
  · rename_i h
    exact absurd (by rw [List.length_map]) h
  walk_at "run1"
  refine f_list (xs := ns.map V.int) (fun i σ H' => H' = H ∧ ∃ v, σ = [some (.ref p), some (.int ns.length), v]) ⟨rfl, none, rfl⟩ (by rintro i σ H' _ ⟨rfl, _⟩; exact hp) ?_ ?_
  · rintro i x σ H' hx ⟨e, v, rfl⟩
    rw [e]
    clear e
    obtain ⟨n, _, rfl⟩ := at_int hx
    walk_at "run1"
    exact ⟨rfl, _, rfl⟩
  · rintro σ H' ⟨e, v, rfl⟩
    rw [e]
    walk_at "run1"
    exact k
def sp__law_writes (K : PySem.W.Frag) (_ : Ex) : Sp := S4 fun x b c d H Q _ => ∃ (q : Addr) (s r g : Int) (vs : List V) (nss : List (List Int)), x = .ref q ∧ b = .int s ∧ c = .int r ∧ d = .int g ∧ H q = some (.lst vs) ∧ TupsAt H vs nss ∧ nss.length ≤ 1000 ∧ (∀ ns ∈ nss, ns.length ≤ 2000) ∧
  (∀ H' w ws, Same H H' → H w = none → H' w = some (.lst ws) → WrsAt H' ws (wrsK nss s r g nss.length) → Q (.ref w) H')
def t__law_writes (K : PySem.W.Frag) (C : Ex) (E : XK) : TS :=
  tSeq (tAsg (tLst (tNil)) (gName 4))
  (tSeq (tFor (iList K (tVar 0)) (gName 5)
  (tSeq (tFor (iList K (uCall (sp_record_sectors K C) (WB E) (tCons (tVar 5) (tCons (tVar 2) (tCons (tVar 3) (tNil)))))) (gName 6)
  (tSeq (tDrop (tBM K "list" (rAppend) (tVar 4) (tCons (tTup (tCons (tVar 1) (tCons (tVar 6) (tNil)))) (tNil))))
  (tAsg (tOp (uAdd K) (tVar 1) (tC (.int 1))) (gName 1))))
  (tAsg (tOp (uAdd K) (tVar 2) (tC (.int 1))) (gName 2))))
  (tRet (tVar 4)))
theorem pure__law_writes {K : PySem.W.Frag} {C : Ex} {vs : List V} {H : Hp} {Q : VK} {E : XK} (F : Fa K C) (h : sp__law_writes K C vs H Q E) : t__law_writes K C E { nx := fun _ H' => Q .non H', rt := Q } (start ["_law_intents", "_law_sector", "_law_record", "_law_generation", "_law_writes_here", "_law_intent_here", "_law_words"] vs) H := by
  obtain ⟨x, b, c, d, rfl, q, s, r, g, vs, nss, rfl, rfl, rfl, rfl, hq, ht, hn, hz, kk⟩ := h
  unfold t__law_writes
  have htl := ht.1
  walk_at "run1"
  rename_i w hw
  have s0 := same_new (o := .lst []) hw
  have hw2 : upd H w (.lst []) w = some (.lst []) := upd_same
  refine f_list (xs := vs) (fun i σ H' => ∃ (ws : List V) (v5 v6 : Option V), σ = [some (.ref q), some (.int (s + tot (nss.take i))), some (.int (r + (i : Int))), some (.int g), some (.ref w), v5, v6] ∧ Same H H' ∧ H' w = some (.lst ws) ∧ WrsAt H' ws (wrsK nss s r g i) ∧ ws.length ≤ 501 * i)
    ⟨[], none, none, by rw [show s + tot (nss.take 0) = s by unfold tot; simp, show r + ((0 : Nat) : Int) = r by omega]; rfl, s0, hw2, ⟨rfl, fun i v h => by simp at h⟩, Nat.le_refl 0⟩ (by rintro i σ H' _ ⟨_, _, _, _, st, _⟩; exact SqL.of (st _ _ hq)) ?_ ?_
  · rintro i x σ H3 hx ⟨ws, v3, v4, rfl, st, e3w, wr, lws⟩
    have hi : i < vs.length := (List.getElem?_eq_some_iff.mp hx).1
    obtain ⟨ns, hns, p, rfl, ep⟩ := ht.2 _ _ hx
    have ep3 := st _ _ ep
    have hns2 := hz ns (List.mem_of_getElem? hns)
    walk_at "run1"
    refine w_S3 ⟨p, ns, _, g, rfl, rfl, rfl, .of ep3, hns2, fun R H4 vs2 s4 hR eR rR => ?_⟩
    have e4w := s4 _ _ e3w
    have wr4 : WrsAt H4 ws (wrsK nss s r g i) := wr.map (fun _ _ y => y.same s4) fun _ _ e => s4 _ _ e
    have st4 := st.trans s4
    have wR : w ≠ R := fun e => by rw [e, hR] at e3w; cases e3w
    have lR : vs2.length = parI ns.length := by rw [rR.1]; unfold recS; rw [List.length_map, List.length_range]
    have pl := parI_lim ns.length
    walk_at "run1"
    refine f_list (xs := vs2) (fun j σ H' => ∃ (ws' : List V) (v4 : Option V), σ = [some (.ref q), some (.int (s + tot (nss.take i) + (j : Int))), some (.int (r + (i : Int))), some (.int g), some (.ref w), some (.ref p), v4] ∧ Same H H' ∧ H' R = some (.lst vs2) ∧ RowsAt H' vs2 (recS ns (r + (i : Int)) g) ∧ H' w = some (.lst ws') ∧ WrsAt H' ws' (wrsK nss s r g i ++ (List.range j).map fun j : Nat => (s + tot (nss.take i) + (j : Int), rowR ns (r + (i : Int)) g j)) ∧ ws'.length = ws.length + j)
      ⟨ws, v4, by rw [show s + tot (nss.take i) + ((0 : Nat) : Int) = s + tot (nss.take i) by omega]; rfl, st4, eR, rR, e4w, by rw [List.range_zero, List.map_nil, List.append_nil]; exact wr4, rfl⟩ (by rintro j σ H' _ ⟨_, _, _, _, e, _⟩; exact SqL.of e) ?_ ?_
    · rintro j x σ H5 hx ⟨ws', v4, rfl, st5, e5R, r5, e5w, wr5, lw5⟩
      have hj : j < vs2.length := (List.getElem?_eq_some_iff.mp hx).1
      obtain ⟨row, hrw, ry⟩ := r5.2 _ _ hx
      have erow : row = rowR ns (r + (i : Int)) g j := by
        unfold recS at hrw
        rw [List.getElem?_map, List.getElem?_range (by omega)] at hrw
        exact (Option.some.inj hrw).symm
      subst erow
      obtain ⟨l8, py, rfl, ey⟩ := ry
      walk_at "run1"
      rename_i t hnt
      have s6 := same_new (o := .tup [.int (s + tot (nss.take i) + (j : Int)), .ref py]) hnt
      have wt : WrAt (upd H5 t (.tup [.int (s + tot (nss.take i) + (j : Int)), .ref py])) (.ref t) (s + tot (nss.take i) + (j : Int)) (rowR ns (r + (i : Int)) g j) := ⟨t, _, rfl, upd_same, .of l8 (s6 _ _ ey)⟩
      have wr6 := (wr5.map (fun _ _ y => y.same s6) fun _ _ e => s6 _ _ e).snoc wt
      have e6w := s6 _ _ e5w
      have e6R := s6 _ _ e5R
      have r6 := r5.same s6
      have st6 := st5.trans s6
      generalize upd H5 t _ = H6 at *
      have pw := plain_refs wr5.ref
      refine w_app e6w (lt_line (by omega)) ?_
      have hw0 : H w = none := hw
      walk_at "run1"
      refine ⟨ws' ++ [.ref t], _, by rw [show s + tot (nss.take i) + ((j + 1 : Nat) : Int) = s + tot (nss.take i) + (j : Int) + 1 by omega]; rfl, same_upd st6 hw0, upd_oth e6R (Ne.symm wR), r6.upd e6w pw.1, upd_same, ?_, by rw [List.length_append, lw5]; rfl⟩
      rw [rowsW_succ, ← List.append_assoc]
      exact wr6.map (row_upd e6w pw) (tup_upd e6w pw)
    · rintro σ H5 ⟨ws', v4, rfl, st5, e5R, r5, e5w, wr5, lw5⟩
      walk_at "run1"
      rw [lR] at lw5 wr5
      have e1 := wrsK_succ (s := s) (r := r) (g := g) hns
      have e2 := tot_succ hns
      unfold rowsW at e1
      refine ⟨ws', _, _, by rw [e2, show r + ((i + 1 : Nat) : Int) = r + (i : Int) + 1 by omega, ← Int.add_assoc, lR]; rfl, st5, e5w, by rw [e1]; exact wr5, by omega⟩
  · rintro σ H3 ⟨ws, v3, v4, rfl, st, e3w, wr, lws⟩
    rw [ht.1] at wr
    walk_at "run1"
    exact kk H3 w ws st hw e3w wr
def sp__law_appended (K : PySem.W.Frag) (C : Ex) : Sp := S2 fun x b H Q E => ∃ (l dx q : Addr) (g s r : Int) (vs : List V) (nss : List (List Int)), x = .ref l ∧ b = .ref q ∧ H l = some (lgO C dx g s r) ∧ H q = some (.lst vs) ∧ TupsAt H vs nss ∧ nss.length ≤ 1000 ∧ (∀ ns ∈ nss, ns.length ≤ 2000) ∧
  (20 < s + tot nss → ∀ H' t, Same H H' → H' t = some (.tup [.str "refused", .str "full"]) → Q (.ref t) H') ∧
  (s + tot nss ≤ 20 → ∀ H' w ws, Stp [l] H [l] H' → H w = none → H' l = some (lgO C dx g (s + tot nss) (r + (nss.length : Int))) → H' w = some (.lst ws) → WrsAt H' ws (wrsK nss s r g nss.length) → Q (.ref w) H')
def t__law_appended (K : PySem.W.Frag) (C : Ex) (E : XK) : TS :=
  uTryAs K (.ref C.LaminaError) 2 (fun W => tRet (uMeth C.Log "append_records" (sp_Log_append_records K C) W (tVar 0) (tCons (tVar 1) (tNil)))) (fun a cls d => tSeq (tIfS (uTru K (tCB (uIsE K a cls d) (tCons (tVar 2) (tCons (tC (.ref C.NoSpace)) (tNil))))) (tRet (tTup (tCons (tC (.str "refused")) (tCons (tC (.str "full")) (tNil))))) (tNext))
  (tRet (tTup (tCons (tC (.str "refused")) (tCons (tC (.str "other")) (tNil)))))) (WB E)
theorem pure__law_appended {K : PySem.W.Frag} {C : Ex} {vs : List V} {H : Hp} {Q : VK} {E : XK} (F : Fa K C) (h : sp__law_appended K C vs H Q E) : t__law_appended K C E { nx := fun _ H' => Q .non H', rt := Q } (start ["_law_log", "_law_intents", "error"] vs) H := by
  obtain ⟨x, b, rfl, l, dx, q, g, s, r, vs, nss, rfl, rfl, hl, hq, ht, hn, hz, k1, k2⟩ := h
  have hl' := hl
  unfold lgO at hl'
  unfold t__law_appended
  walk_at "run1"
  refine w_S2 ⟨l, dx, q, g, s, r, vs, nss, rfl, rfl, hl, hq, ht, hn, hz, fun h H' s' => ?_, k2⟩
  walk_at "run1"
  rename_i t hnt
  exact k1 h _ t (same_updN s' hnt) upd_same
def sp__law_same (K : PySem.W.Frag) (_ : Ex) : Sp := S2 fun x b H Q E => ∃ (p q : Addr) (vs us : List V) (ws : List (Int × List Int)), x = .ref p ∧ b = .ref q ∧ H p = some (.lst vs) ∧ H q = some (.lst us) ∧ WrsAt H vs ws ∧ WrsAt H us ws ∧ vs.length ≤ 100000 ∧ Q (.bl true) H
def t__law_same (K : PySem.W.Frag) (C : Ex) (E : XK) : TS :=
  tSeq (tIfS (tOr (tNot (uTru K (tCB (uIsi K .list) (tCons (tVar 0) (tCons (tC (.ty "list")) (tNil)))))) (tTest (tOp (uNe K) (tCB (uLen K) (tCons (tVar 0) (tNil))) (tCB (uLen K) (tCons (tVar 1) (tNil)))))) (tRet (tC (.bl false))) (tNext))
  (tSeq (tFor (iRng1 (tCons (tCB (uLen K) (tCons (tVar 1) (tNil))) (tNil))) (gName 2)
  (tSeq (tIfS (tOr (tNot (uTru K (tCB (uIsi K .tuple) (tCons (tOp (uIx K) (tVar 0) (tVar 2)) (tCons (tC (.ty "tuple")) (tNil)))))) (tTest (tOp (uNe K) (tCB (uLen K) (tCons (tOp (uIx K) (tVar 0) (tVar 2)) (tNil))) (tC (.int 2))))) (tRet (tC (.bl false))) (tNext))
  (tIfS (tOr (tTest (tOp (uNe K) (tOp (uIx K) (tOp (uIx K) (tVar 0) (tVar 2)) (tC (.int 0))) (tOp (uIx K) (tOp (uIx K) (tVar 1) (tVar 2)) (tC (.int 0))))) (tOr (tNot (uTru K (uCall (sp__law_cells K C) (WB E) (tCons (tOp (uIx K) (tOp (uIx K) (tVar 0) (tVar 2)) (tC (.int 1))) (tCons (tC (.int 8)) (tNil)))))) (tTest (tOp (uNe K) (tOp (uIx K) (tOp (uIx K) (tVar 0) (tVar 2)) (tC (.int 1))) (tOp (uIx K) (tOp (uIx K) (tVar 1) (tVar 2)) (tC (.int 1))))))) (tRet (tC (.bl false))) (tNext))))
  (tRet (tC (.bl true))))
theorem pure__law_same {K : PySem.W.Frag} {C : Ex} {vs : List V} {H : Hp} {Q : VK} {E : XK} (F : Fa K C) (h : sp__law_same K C vs H Q E) : t__law_same K C E { nx := fun _ H' => Q .non H', rt := Q } (start ["_law_told", "_law_due", "_law_k"] vs) H := by
  obtain ⟨x, b, rfl, p, q, vs, us, ws, rfl, rfl, hp, hq, h1, h2, ln, k⟩ := h
  have l1 := h1.1
  have l2 := h2.1
  unfold t__law_same
  walk_at "run1"
  refine w_isi_list_L (SqL.of hp) ?_
  walk_at "run1"
  · rename_i h
    exact absurd (by rw [l1, l2]) h
  walk_at "run1"
  refine f_range (fun i σ H' => H' = H ∧ ∃ v, σ = [some (.ref p), some (.ref q), v]) ⟨rfl, none, rfl⟩ ?_ ?_
  · rintro i σ H' hi ⟨e, v, rfl⟩
    rw [e]
    clear e
    have hi1 : i < vs.length := by omega
    have hi2 : i < us.length := by omega
    obtain ⟨s, r, e1, t1, y1, g1, et1, l8, p1, rfl, ep1⟩ := h1.2 _ _ (List.getElem?_eq_getElem hi1)
    obtain ⟨s', r', e2, t2, y2, g2, et2, _, p2, rfl, ep2⟩ := h2.2 _ _ (List.getElem?_eq_getElem hi2)
    rw [e1] at e2
    cases e2
    have a1 : vs[(0 + (i : Int)).toNat]? = some (.ref t1) := by rw [show (0 + (i : Int)).toNat = i by omega, List.getElem?_eq_getElem hi1, g1]
    have a2 : us[(0 + (i : Int)).toNat]? = some (.ref t2) := by rw [show (0 + (i : Int)).toNat = i by omega, List.getElem?_eq_getElem hi2, g2]
    walk_at "run1"
    refine w_ixL (k := (0 + (i : Int)).toNat) (SqL.of hp) (by omega) a1 ?_
    walk_at "run1"
    refine w_isi_tuple_T (SqT.of et1) ?_
    walk_at "run1"
    refine w_ixL (k := (0 + (i : Int)).toNat) (SqL.of hp) (by omega) a1 ?_
    walk_at "run1"
    refine w_ixL (k := (0 + (i : Int)).toNat) (SqL.of hp) (by omega) a1 ?_
    walk_at "run1"
    refine w_ixL (k := (0 + (i : Int)).toNat) (SqL.of hq) (by omega) a2 ?_
    walk_at "run1"
    refine w_ixL (k := (0 + (i : Int)).toNat) (SqL.of hp) (by omega) a1 ?_
    walk_at "run1"
    refine w_S2 ⟨p1, r, rfl, by rw [l8]; rfl, SqL.of ep1, ?_⟩
    walk_at "run1"
    refine w_ixL (k := (0 + (i : Int)).toNat) (SqL.of hp) (by omega) a1 ?_
    walk_at "run1"
    refine w_ixL (k := (0 + (i : Int)).toNat) (SqL.of hq) (by omega) a2 ?_
    walk_at "run1"
    refine w_neD (Dt.list (SqL.of ep1) (DtAll.ints r)) (Dt.list (SqL.of ep2) (DtAll.ints r)) (by decide) ⟨_, rfl⟩ ?_
    rw [decide_eq_true rfl]
    walk_at "run1"
    exact ⟨rfl, _, rfl⟩
  · rintro σ H' ⟨e, v, rfl⟩
    rw [e]
    walk_at "run1"
    exact k
abbrev sp_law (K : PySem.W.Frag) (_ : Ex) : Sp := spLaw K
def t_law (K : PySem.W.Frag) (C : Ex) (E : XK) : TS :=
  tSeq (tAsg (tOp (uAdd K) (tC (.int 1)) (tOp (uMod) (tCB (uInt) (tCons (uCall (sp__law_cell K C) (WB E) (tCons (tVar 0) (tCons (tC (.int 0)) (tNil)))) (tNil))) (tOp (uPow) (tC (.int 10)) (tC (.int 9))))) (gName 1))
  (tSeq (tAsg (uMake C.Log (sp_Log___init__ K C) (WB E) (tCons (tVar 1) (tNil))) (gName 2))
  (tSeq (tAsg (tC (.int 4)) (gName 3))
  (tSeq (tAsg (tC (.int 1)) (gName 4))
  (tSeq (tFor (iRng1 (tCons (tCB (uMin K) (tCons (tCB (uLen K) (tCons (tVar 0) (tNil))) (tCons (tC (.int 12)) (tNil)))) (tNil))) (gName 5)
  (tSeq (tAsg (uCall (sp__law_cell K C) (WB E) (tCons (tVar 0) (tCons (tVar 5) (tNil)))) (gName 6))
  (tSeq (tAsg (tOp (uIx K) (tLst (tCons (tC (.int 1)) (tCons (tC (.int 3)) (tCons (tC (.int 9)) (tCons (tC (.int 64)) (tNil)))))) (tOp (uMod) (tOp (uDiv) (tCB (uInt) (tCons (tVar 6) (tNil))) (tC (.int 4))) (tC (.int 4)))) (gName 7))
  (tSeq (tAsg (tLc (iRng1 (tCons (tOp (uMod) (tCB (uInt) (tCons (tVar 6) (tNil))) (tC (.int 4))) (tNil))) (gName 13) (tYes) (uCall (sp__law_intent K C) (fun _ _ _ _ => False) (tCons (tOp (uAdd K) (tOp (uAdd K) (tVar 6) (tOp (uMul) (tC (.int 31)) (tVar 13))) (tVar 5)) (tCons (tVar 7) (tNil)))) [13]) (gName 8))
  (tSeq (tAsg (tCB (uList K) (tCons (tVar 8) (tNil))) (gName 9))
  (tSeq (tAsg (tCB (rSum K) (tCons (tLc (iList K (tVar 8)) (gName 14) (tYes) (tOp (uDiv) (tOp (uAdd K) (tCB (uLen K) (tCons (tVar 14) (tNil))) (tC (.int 4))) (tC (.int 4))) [14]) (tNil))) (gName 10))
  (tSeq (tAsg (uMeth C.Log "fits" (sp_Log_fits K C) (WB E) (tVar 2) (tCons (tVar 8) (tNil))) (gName 11))
  (tSeq (tIfS (tOr (tNot (uTru K (tCB (uIsi K .bool) (tCons (tVar 11) (tCons (tC (.ty "bool")) (tNil)))))) (tTest (tOp (uNe K) (tVar 11) (tOp (uLe K) (tOp (uAdd K) (tVar 3) (tVar 10)) (tC (.int 20)))))) (tRet (tC (.bl false))) (tNext))
  (tSeq (tAsg (uCall (sp__law_appended K C) (WB E) (tCons (tVar 2) (tCons (tVar 8) (tNil)))) (gName 12))
  (tCut (tIfS (uTru K (tVar 11)) (tSeq (tIfS (tNot (uTru K (uCall (sp__law_same K C) (WB E) (tCons (tVar 12) (tCons (uCall (sp__law_writes K C) (WB E) (tCons (tVar 8) (tCons (tVar 3) (tCons (tVar 4) (tCons (tVar 1) (tNil)))))) (tNil)))))) (tRet (tC (.bl false))) (tNext))
  (tSeq (tAsg (tOp (uAdd K) (tVar 3) (tVar 10)) (gName 3))
  (tAsg (tOp (uAdd K) (tVar 4) (tCB (uLen K) (tCons (tVar 8) (tNil)))) (gName 4)))) (tIfS (tTest (tOp (uNe K) (tVar 12) (tTup (tCons (tC (.str "refused")) (tCons (tC (.str "full")) (tNil)))))) (tRet (tC (.bl false))) (tNext)))
  (tSeq (tIfS (tOr (tTest (tOp (uNe K) (tVar 8) (tVar 9))) (tTest (tOp (uNe K) (uFld C.Log "generation" (tVar 2)) (tVar 1)))) (tRet (tC (.bl false))) (tNext))
  (tIfS (tOr (tTest (tOp (uNe K) (uFld C.Log "next_sector" (tVar 2)) (tVar 3))) (tTest (tOp (uNe K) (uFld C.Log "next_record" (tVar 2)) (tVar 4)))) (tRet (tC (.bl false))) (tNext)))))))))))))
  (tRet (tC (.bl true)))))))
theorem pure_law {K : PySem.W.Frag} {C : Ex} {vs : List V} {H : Hp} {Q : VK} {E : XK} (F : Fa K C) (h : sp_law K C vs H Q E) : t_law K C E { nx := fun _ H' => Q .non H', rt := Q } (start ["_law_script", "_law_generation", "_law_log", "_law_sector", "_law_record", "_law_k", "_law_cell_here", "_law_most", "_law_intents", "_law_passed", "_law_needed", "_law_fits", "_law_told", "_law_n", "_law_intent_here"] vs) H := by
  obtain ⟨a0, rfl, p, ns0, rfl, hS, hn, kk⟩ := h
  unfold t_law
  walk_at "run1"
  generalize hG : 1 + ns0.getD (0 : Int).toNat 0 % 10 ^ (9 : Int).toNat = g
  intro l dx hl hdx hne
  refine w_S2 ⟨l, dx, g, rfl, rfl, upd_same, rfl, ?_⟩
  have s1 : Same H (upd (upd (upd H dx (.own l)) l (.ins C.Log dx [])) l (lgO C dx g 4 1)) := by
    rw [upd_upd]
    exact same_updN (same_new hdx) (by rw [upd_ne hne.symm]; exact hl)
  have hl1 : upd (upd (upd H dx (.own l)) l (.ins C.Log dx [])) l (lgO C dx g 4 1) l = some (lgO C dx g 4 1) := upd_same
  generalize upd (upd (upd H dx (.own l)) l (.ins C.Log dx [])) l (lgO C dx g 4 1) = H1 at *
  have hS1 := s1.seq hS
  have lm : (ns0.map V.int).length = ns0.length := List.length_map ..
  walk_at "run1"
  have hmn : (if 12 < (((ns0.map V.int).length : Nat) : Int) then (12 : Int) else (((ns0.map V.int).length : Nat) : Int)) ≤ 12 ∧ 0 ≤ (if 12 < (((ns0.map V.int).length : Nat) : Int) then (12 : Int) else (((ns0.map V.int).length : Nat) : Int)) := by split <;> omega
  refine f_range (fun i σ H' => ∃ (s r : Int) (v5 v6 v7 v8 v9 v10 v11 v12 : Option V), σ = [some (.ref p), some (.int g), some (.ref l), some (.int s), some (.int r), v5, v6, v7, v8, v9, v10, v11, v12, none, none] ∧ Stp [l] H1 [l] H' ∧ H' l = some (lgO C dx g s r))
    ⟨4, 1, _, _, _, _, _, _, _, _, rfl, .refl, hl1⟩ ?_ ?_
  · rintro i σ H2 hi ⟨s, r, v5, v6, v7, v8, v9, v10, v11, v12, rfl, st2, hl2⟩
    have hi : i < 12 := by omega
    have hS2 := sql_stp hS1 hl1 st2
    walk_at "run1"
    rename_i la hla
    generalize hc : ns0.getD (0 + (i : Int)).toNat 0 = c
    refine w_ixA (SqL.of upd_same) ⟨by omega, by show _ < 4; omega⟩ fun v hv => ?_
    have hm : ∃ m : Int, v = .int m ∧ 1 ≤ m ∧ m ≤ 64 := by
      have hm := List.mem_of_getElem? hv
      simp only [List.mem_cons, List.not_mem_nil, or_false] at hm
      rcases hm with h | h | h | h <;> exact ⟨_, h, by decide, by decide⟩
    obtain ⟨m, rfl, m0, m1⟩ := hm
    clear hv
    have s3 := same_new (o := .lst [.int 1, .int 3, .int 9, .int 64]) hla
    have st3 := st2.trans (.same s3)
    have hl3 := s3 _ _ hl2
    generalize upd H2 la _ = H3 at *
    clear s3 hla hl2 st2
    walk_at "run1"
    refine l_range (fun D j H' => Same H3 H' ∧ ∃ vs nss, H' D = some (.lst vs) ∧ TupsAt H' vs nss ∧ (∀ ns ∈ nss, ns.length ≤ 100) ∧ vs.length = j) (fun D hD => ⟨same_new hD, [], [], upd_same, .nil, (fun _ h => nomatch h), rfl⟩) ?_ ?_
    · rintro D j H4 hD hj ⟨s4, vs, nss, eD, ht, hz, lv⟩
      have hj : j < 4 := by omega
      walk_at "run1"
      refine ⟨rfl, ?_⟩
      walk_at "run1"
      refine w_S2 ⟨_, m, rfl, rfl, by omega, by omega, fun t H5 ns s5 hnt et R => ?_⟩
      have eD5 := s5 _ _ eD
      have tD : ∀ t xs, H5 t = some (.tup xs) → upd H5 D (.lst (vs ++ [.ref t])) t = some (.tup xs) := fun t xs e => upd_oth e (ne_of e eD5 fun z => nomatch z)
      have hln := R.ln
      refine ⟨vs, eD5, lt_line (by omega), same_upd (s4.trans s5) hD, vs ++ [.ref t], nss ++ [ns], upd_same, ((ht.same s5).snoc ⟨t, rfl, et⟩).map fun t' xs e => upd_oth e (ne_of e eD5 fun z => nomatch z), fun y hy => ?_, by rw [List.length_append, lv]; rfl⟩
      rcases List.mem_append.mp hy with h | h
      · exact hz y h
      · rw [List.mem_singleton.mp h]; omega
    rintro D H4 hD ⟨s4, vs, nss, eD, ht, hz, lv⟩
    have lt := ht.1
    have hnn : nss.length ≤ 4 := by omega
    have st4 := st3.trans (.same s4)
    have hl4 := s4 _ _ hl3
    clear st3 hl3 s4 hD
    walk_at "run1"
    refine w_tlist (SqL.of eD) fun pa hpa => ?_
    have s5 := same_new (o := .lst vs) hpa
    have ePa : upd H4 pa (.lst vs) pa = some (.lst vs) := upd_same
    have eD5 := s5 _ _ eD
    have ht5 := ht.same s5
    have st5 := st4.trans (.same s5)
    have hl5 := s5 _ _ hl4
    generalize upd H4 pa _ = H5 at *
    clear s5 hpa st4 hl4 ht eD
    walk_at "run1"
    refine l_list (xs := vs) (fun D2 j H' => Same H5 H' ∧ H' D2 = some (.lst (((nss.take j).map fun ns => ((parI ns.length : Nat) : Int)).map V.int))) (fun D2 hD2 => ⟨same_new hD2, upd_same⟩) (fun D2 j H' _ x => SqL.of (x.1 _ _ eD5)) ?_ ?_
    · rintro D2 j x H6 hD2 hx ⟨s6, e6⟩
      obtain ⟨ns, hns, t, rfl, et⟩ := ht5.2 _ _ hx
      have et6 := s6 _ _ et
      walk_at "run1"
      refine ⟨rfl, ?_⟩
      walk_at "run1"
      rw [par_of]
      refine ⟨_, e6, by rw [List.length_map, List.length_map, List.length_take]; exact lt_line (by omega), same_upd s6 hD2, ?_⟩
      rw [upd_same, take_snoc hns, List.map_append, List.map_append]
      rfl
    rintro D2 H6 hD2 ⟨s6, e6⟩
    rw [lt, List.take_length] at e6
    have st6 := st5.trans (.same s6)
    have hl6 := s6 _ _ hl5
    have eD6 := s6 _ _ eD5
    have ht6 := ht5.same s6
    have eP6 := s6 _ _ ePa
    clear st5 hl5 ht5 eD5 ePa s6 hD2
    have hl6' := hl6
    unfold lgO at hl6'
    walk_at "run1"
    refine ⟨D2, _, rfl, SqL.of e6, ?_⟩
    have et : (nss.map fun ns => ((parI ns.length : Nat) : Int)).sum = tot nss := rfl
    rw [et]
    walk_at "run1"
    refine w_S2 ⟨l, dx, D, g, s, r, vs, nss, rfl, rfl, hl6, SqL.of eD6, ht6, by omega, fun H7 s7 => ?_⟩
    have st7 := st6.trans (.same s7)
    have hl7 := s7 _ _ hl6
    have eD7 := s7 _ _ eD6
    have ht7 := ht6.same s7
    have eP7 := s7 _ _ eP6
    clear st6 hl6' hl6 ht6 eD6 eP6 s7 e6
    walk_at "run1"
    refine w_S2 ⟨l, dx, D, g, s, r, vs, nss, rfl, rfl, hl7, eD7, ht7, by omega, fun y hy => by have := hz y hy; omega, fun hf H8 t s8 e8 => ?_, fun hf H8 w ws st8 hw el8 ew8 wr8 => ?_⟩
    all_goals
      walk_at "run1"
    · have st8 := st7.trans (.same s8)
      have hl8 := s8 _ _ hl7
      have eD8 := s8 _ _ eD7
      have eP8 := s8 _ _ eP7
      have ht8 := ht7.same s8
      clear st7 hl7 ht7 eD7 eP7 s8
      refine w_cutS ?_
      walk_at "run1"
      · rename_i h
        omega
      walk_at "run1"
      rename_i t2 ht2
      refine w_neD (Dt.pair (SqT.of (upd_old e8 ht2)) Dt.str Dt.str) (Dt.pair (SqT.of upd_same) Dt.str Dt.str) (by decide) ⟨_, rfl⟩ ?_
      rw [decide_eq_true rfl]
      have s9 := same_new (o := .tup [.str "refused", .str "full"]) ht2
      have st9 := st8.trans (.same s9)
      have hl9 := s9 _ _ hl8
      have eD9 := s9 _ _ eD8
      have eP9 := s9 _ _ eP8
      have ht9 := ht8.same s9
      generalize upd H8 t2 _ = H9 at *
      have hl9' := hl9
      unfold lgO at hl9'
      walk_at "run1"
      refine w_neD (Dt.list (SqL.of eD9) ht9.dt) (Dt.list (SqL.of eP9) ht9.dt) (by decide) ⟨_, rfl⟩ ?_
      rw [decide_eq_true rfl]
      walk_at "run1"
      exact ⟨s, r, _, _, _, _, _, _, _, _, rfl, st9, hl9⟩
    · have hl7' : H7 l = some (.ins C.Log dx [("generation", .int g), ("next_sector", .int s), ("next_record", .int r)]) := hl7
      have eD8 := lst_stp eD7 hl7' st8
      have eP8 := lst_stp eP7 hl7' st8
      have ht8 := ht7.stp hl7' st8
      have stf := st7.trans st8
      refine w_cutS ?_
      walk_at "run1"
      · refine w_S4 ⟨D, s, r, g, vs, nss, rfl, rfl, rfl, rfl, eD8, ht8, by omega, fun y hy => by have := hz y hy; omega, fun H9 w2 us s9 hw2 ew9 wr9 => ?_⟩
        have lws : ws.length ≤ 100000 := by
          have e := wr8.1
          have z : ∀ k, k ≤ nss.length → (wrsK nss s r g k).length ≤ 30 * k := fun k => by
            induction k with
            | zero => intro _; exact Nat.le_refl 0
            | succ k ih =>
              intro hk
              have e1 := wrsK_succ (s := s) (r := r) (g := g) (List.getElem?_eq_getElem (show k < nss.length by omega))
              have h1 := ih (by omega)
              have h2 := hz nss[k] (List.getElem_mem ..)
              have h3 := parI_lim (nss[k]).length
              rw [e1, List.length_append]
              unfold rowsW
              rw [List.length_map, List.length_range]
              omega
          have := z nss.length (Nat.le_refl _)
          omega
        walk_at "run1"
        refine w_S2 ⟨w, w2, ws, us, _, rfl, rfl, s9 _ _ ew8, ew9, wr8.map (fun _ _ y => y.same s9) (fun _ _ e => s9 _ _ e), wr9, lws, ?_⟩
        have st9 := stf.trans (.same s9)
        have hl9 := s9 _ _ el8
        have eD9 := s9 _ _ eD8
        have eP9 := s9 _ _ eP8
        have ht9 := ht8.same s9
        have hl9' := hl9
        unfold lgO at hl9'
        walk_at "run1"
        rw [lt]
        refine w_neD (Dt.list (SqL.of eD9) ht9.dt) (Dt.list (SqL.of eP9) ht9.dt) (by decide) ⟨_, rfl⟩ ?_
        rw [decide_eq_true rfl]
        walk_at "run1"
        exact ⟨_, _, _, _, _, _, _, _, _, _, rfl, st9, hl9⟩
      · rename_i h
        exact absurd hf h
  · rintro σ H' ⟨s, r, v5, v6, v7, v8, v9, v10, v11, v12, rfl, st2, hl2⟩
    walk_at "run1"
    exact kk _
def topS (i : Nat) : Stmt := PySem.Challenge.pw_laminae_k70_room_of_the_log.main.body.getD i (.Pass ⟨0, 0, 0, 0⟩)
abbrev s_sectors_of : Stmt := topS 7
theorem sc_sectors_of : FnScope ["intent"] ["intent"] (defScope s_sectors_of) := ⟨rfl, rfl, rfl, by decide +kernel, rfl, by decide +kernel, by decide +kernel⟩
abbrev s_record_sectors : Stmt := topS 8
theorem sc_record_sectors : FnScope ["intent", "record", "generation", "parts", "words", "sectors", "part", "group"] ["intent", "record", "generation"] (defScope s_record_sectors) := ⟨rfl, rfl, rfl, by decide +kernel, rfl, by decide +kernel, by decide +kernel⟩
abbrev s_Log___init__ : Stmt := inClass (topS 9) 0
theorem sc_Log___init__ : FnScope ["self", "generation"] ["self", "generation"] (defScope s_Log___init__) := ⟨rfl, rfl, rfl, by decide +kernel, rfl, by decide +kernel, by decide +kernel⟩
abbrev s_Log_fits : Stmt := inClass (topS 9) 1
theorem sc_Log_fits : FnScope ["self", "intents", "needed", "intent"] ["self", "intents"] (defScope s_Log_fits) := ⟨rfl, rfl, rfl, by decide +kernel, rfl, by decide +kernel, by decide +kernel⟩
abbrev s_Log_append_records : Stmt := inClass (topS 9) 2
theorem sc_Log_append_records : FnScope ["self", "intents", "writes", "intent", "words"] ["self", "intents"] (defScope s_Log_append_records) := ⟨rfl, rfl, rfl, by decide +kernel, rfl, by decide +kernel, by decide +kernel⟩
abbrev s__law_cell : Stmt := topS 11
theorem sc__law_cell : FnScope ["_law_script", "_law_k"] ["_law_script", "_law_k"] (defScope s__law_cell) := ⟨rfl, rfl, rfl, by decide +kernel, rfl, by decide +kernel, by decide +kernel⟩
abbrev s__law_digits : Stmt := topS 12
theorem sc__law_digits : FnScope ["_law_cell_here", "_law_bases", "_law_digits_here", "_law_rest", "_law_base", "_law_mixed"] ["_law_cell_here", "_law_bases"] (defScope s__law_digits) := ⟨rfl, rfl, rfl, by decide +kernel, rfl, by decide +kernel, by decide +kernel⟩
abbrev s__law_cells : Stmt := topS 13
theorem sc__law_cells : FnScope ["_law_row", "_law_size", "_law_value"] ["_law_row", "_law_size"] (defScope s__law_cells) := ⟨rfl, rfl, rfl, by decide +kernel, rfl, by decide +kernel, by decide +kernel⟩
abbrev s__law_intent : Stmt := topS 14
theorem sc__law_intent : FnScope ["_law_cell_here", "_law_most", "_law_digits_here", "_law_words", "_law_kind", "_law_inode", "_law_other", "_law_main", "_law_size", "_law_cells_here", "_law_k"] ["_law_cell_here", "_law_most"] (defScope s__law_intent) := ⟨rfl, rfl, rfl, by decide +kernel, rfl, by decide +kernel, by decide +kernel⟩
abbrev s__law_appended : Stmt := topS 15
theorem sc__law_appended : FnScope ["_law_log", "_law_intents", "error"] ["_law_log", "_law_intents"] (defScope s__law_appended) := ⟨rfl, rfl, rfl, by decide +kernel, rfl, by decide +kernel, by decide +kernel⟩
abbrev s__law_writes : Stmt := topS 16
theorem sc__law_writes : FnScope ["_law_intents", "_law_sector", "_law_record", "_law_generation", "_law_writes_here", "_law_intent_here", "_law_words"] ["_law_intents", "_law_sector", "_law_record", "_law_generation"] (defScope s__law_writes) := ⟨rfl, rfl, rfl, by decide +kernel, rfl, by decide +kernel, by decide +kernel⟩
abbrev s__law_same : Stmt := topS 17
theorem sc__law_same : FnScope ["_law_told", "_law_due", "_law_k"] ["_law_told", "_law_due"] (defScope s__law_same) := ⟨rfl, rfl, rfl, by decide +kernel, rfl, by decide +kernel, by decide +kernel⟩
abbrev s_law : Stmt := topS 18
theorem sc_law : FnScope ["_law_script", "_law_generation", "_law_log", "_law_sector", "_law_record", "_law_k", "_law_cell_here", "_law_most", "_law_intents", "_law_passed", "_law_needed", "_law_fits", "_law_told", "_law_n", "_law_intent_here"] ["_law_script"] (defScope s_law) := ⟨rfl, rfl, rfl, by decide +kernel, rfl, by decide +kernel, by decide +kernel⟩
structure Adr where
  ex : Ex
  f_sectors_of : Addr
  d_sectors_of : FuncData
  f_record_sectors : Addr
  d_record_sectors : FuncData
  f_Log___init__ : Addr
  d_Log___init__ : FuncData
  f_Log_fits : Addr
  d_Log_fits : FuncData
  f_Log_append_records : Addr
  d_Log_append_records : FuncData
  f__law_cell : Addr
  d__law_cell : FuncData
  f__law_digits : Addr
  d__law_digits : FuncData
  f__law_cells : Addr
  d__law_cells : FuncData
  f__law_intent : Addr
  d__law_intent : FuncData
  f__law_appended : Addr
  d__law_appended : FuncData
  f__law_writes : Addr
  d__law_writes : FuncData
  f__law_same : Addr
  d__law_same : FuncData
  f_law : Addr
  d_law : FuncData
structure Top (K : PySem.W.Frag) (mg : Str → Option Value) (A : Adr) : Prop where
  F_sectors_of : Fun K "sectors_of" "sectors_of" s_sectors_of A.f_sectors_of A.d_sectors_of
  b_sectors_of : Binds K A.d_sectors_of ["intent"] []
  g_sectors_of : mg "sectors_of" = some (.ref A.f_sectors_of)
  F_record_sectors : Fun K "record_sectors" "record_sectors" s_record_sectors A.f_record_sectors A.d_record_sectors
  b_record_sectors : Binds K A.d_record_sectors ["intent", "record", "generation"] []
  g_record_sectors : mg "record_sectors" = some (.ref A.f_record_sectors)
  F_Log___init__ : Fun K "__init__" "Log.__init__" s_Log___init__ A.f_Log___init__ A.d_Log___init__
  b_Log___init__ : Binds K A.d_Log___init__ ["self", "generation"] []
  F_Log_fits : Fun K "fits" "Log.fits" s_Log_fits A.f_Log_fits A.d_Log_fits
  b_Log_fits : Binds K A.d_Log_fits ["self", "intents"] []
  m_Log_fits : Meth K A.ex.Log "fits" A.f_Log_fits
  F_Log_append_records : Fun K "append_records" "Log.append_records" s_Log_append_records A.f_Log_append_records A.d_Log_append_records
  b_Log_append_records : Binds K A.d_Log_append_records ["self", "intents"] []
  m_Log_append_records : Meth K A.ex.Log "append_records" A.f_Log_append_records
  F__law_cell : Fun K "_law_cell" "_law_cell" s__law_cell A.f__law_cell A.d__law_cell
  b__law_cell : Binds K A.d__law_cell ["_law_script", "_law_k"] []
  g__law_cell : mg "_law_cell" = some (.ref A.f__law_cell)
  F__law_digits : Fun K "_law_digits" "_law_digits" s__law_digits A.f__law_digits A.d__law_digits
  b__law_digits : Binds K A.d__law_digits ["_law_cell_here", "_law_bases"] []
  g__law_digits : mg "_law_digits" = some (.ref A.f__law_digits)
  F__law_cells : Fun K "_law_cells" "_law_cells" s__law_cells A.f__law_cells A.d__law_cells
  b__law_cells : Binds K A.d__law_cells ["_law_row", "_law_size"] []
  g__law_cells : mg "_law_cells" = some (.ref A.f__law_cells)
  F__law_intent : Fun K "_law_intent" "_law_intent" s__law_intent A.f__law_intent A.d__law_intent
  b__law_intent : Binds K A.d__law_intent ["_law_cell_here", "_law_most"] []
  g__law_intent : mg "_law_intent" = some (.ref A.f__law_intent)
  F__law_appended : Fun K "_law_appended" "_law_appended" s__law_appended A.f__law_appended A.d__law_appended
  b__law_appended : Binds K A.d__law_appended ["_law_log", "_law_intents"] []
  g__law_appended : mg "_law_appended" = some (.ref A.f__law_appended)
  F__law_writes : Fun K "_law_writes" "_law_writes" s__law_writes A.f__law_writes A.d__law_writes
  b__law_writes : Binds K A.d__law_writes ["_law_intents", "_law_sector", "_law_record", "_law_generation"] []
  g__law_writes : mg "_law_writes" = some (.ref A.f__law_writes)
  F__law_same : Fun K "_law_same" "_law_same" s__law_same A.f__law_same A.d__law_same
  b__law_same : Binds K A.d__law_same ["_law_told", "_law_due"] []
  g__law_same : mg "_law_same" = some (.ref A.f__law_same)
  F_law : Fun K "law" "law" s_law A.f_law A.d_law
  b_law : Binds K A.d_law ["_law_script"] []
  g_law : mg "law" = some (.ref A.f_law)
  n_bool : mg "bool" = none
  n_int : mg "int" = none
  n_isinstance : mg "isinstance" = none
  n_len : mg "len" = none
  n_list : mg "list" = none
  n_min : mg "min" = none
  n_range : mg "range" = none
  n_sum : mg "sum" = none
  n_tuple : mg "tuple" = none
  k_FIRST_SECTOR : ∃ t, mg "FIRST_SECTOR" = some (.int 4 t)
  k_GROUP : ∃ t, mg "GROUP" = some (.int 4 t)
  k_LOG_SECTORS : ∃ t, mg "LOG_SECTORS" = some (.int 16 t)
  x_LaminaError : Exc K mg "LaminaError" A.ex.LaminaError
  x_NoSpace : Exc K mg "NoSpace" A.ex.NoSpace
  n_Log_generation : NoAttr K A.ex.Log "generation"
  n_Log_next_record : NoAttr K A.ex.Log "next_record"
  n_Log_next_sector : NoAttr K A.ex.Log "next_sector"
  c_Log : Cls K A.ex.Log
  M_Log : Mk K A.ex.Log A.f_Log___init__
  gC_Log : mg "Log" = some (.ref A.ex.Log)
  fa : Fa K A.ex
section
variable {P : Program} {w : World} {K : PySem.W.Frag} {mg : Str → Option Value} {base : Heap} {A : Adr}
theorem ok_sectors_of (T : Top K mg A) : FnOk P w K mg base (L2.CX P w) 1 A.f_sectors_of A.d_sectors_of ["intent"] (sp_sectors_of K A.ex) := by
  refine T.F_sectors_of.okX sc_sectors_of (fun vs H Q E h => len1 h) (fun cdv Ar outer s H vs Q E hr h => ⟨t_sectors_of K A.ex E, ?_, pure_sectors_of T.fa h⟩)
  have tk : Takes (cxOf (L2.CX P w) P w K mg base ["intent"] "sectors_of" (defScope s_sectors_of) A.f_sectors_of cdv Ar outer s H E) (WB E) := takes_of rfl rfl rfl rfl
  exact pss_one (ps_ret (pe_op o_div (pe_op o_add (pe_callB (c_len) (by rfl) T.n_len (by decide +kernel) (pa_cons (pv 0) (pa_nil))) (pe_glob rfl T.k_GROUP.choose_spec ⟨_, rfl⟩)) (pe_glob rfl T.k_GROUP.choose_spec ⟨_, rfl⟩)))
theorem ok_record_sectors (T : Top K mg A) : FnOk P w K mg base (L2.CX P w) 2 A.f_record_sectors A.d_record_sectors ["intent", "record", "generation"] (sp_record_sectors K A.ex) := by
  refine T.F_record_sectors.okX sc_record_sectors (fun vs H Q E h => len3 h) (fun cdv Ar outer s H vs Q E hr h => ⟨t_record_sectors K A.ex E, ?_, pure_record_sectors T.fa h⟩)
  have tk : Takes (cxOf (L2.CX P w) P w K mg base ["intent", "record", "generation", "parts", "words", "sectors", "part", "group"] "record_sectors" (defScope s_record_sectors) A.f_record_sectors cdv Ar outer s H E) (WB E) := takes_of rfl rfl rfl rfl
  have po : PassesOwn (model P w) (cxOf (L2.CX P w) P w K mg base ["intent", "record", "generation", "parts", "words", "sectors", "part", "group"] "record_sectors" (defScope s_record_sectors) A.f_record_sectors cdv Ar outer s H E).A (cxOf (L2.CX P w) P w K mg base ["intent", "record", "generation", "parts", "words", "sectors", "part", "group"] "record_sectors" (defScope s_record_sectors) A.f_record_sectors cdv Ar outer s H E).env (cxOf (L2.CX P w) P w K mg base ["intent", "record", "generation", "parts", "words", "sectors", "part", "group"] "record_sectors" (defScope s_record_sectors) A.f_record_sectors cdv Ar outer s H E).xe := passes_of rfl
  exact pss_cons (ps_set (i := 3) sc_record_sectors.nd rfl (Or.inl rfl) (e_call (ok_sectors_of T) (hr.mono (by decide)) T.g_sectors_of T.F_sectors_of.kp T.b_sectors_of tk (pa_cons (pv 0) (pa_nil))))
        (pss_cons (ps_set (i := 4) sc_record_sectors.nd rfl (Or.inl rfl) (pe_op o_add (pe_lst (pa_cons (pe_callB (c_len) (by rfl) T.n_len (by decide +kernel) (pa_cons (pv 0) (pa_nil))) (pa_nil))) (pe_callTy (c_list) (by rfl) T.n_list (by decide +kernel) (pa_cons (pv 0) (pa_nil)))))
        (pss_cons (ps_set (i := 4) sc_record_sectors.nd rfl (Or.inl rfl) (pe_op o_add (pv 4) (pe_op o_mul (pe_lst (pa_cons (pe_int) (pa_nil))) (pe_op o_sub (pe_op o_mul (pe_glob rfl T.k_GROUP.choose_spec ⟨_, rfl⟩) (pv 3)) (pe_callB (c_len) (by rfl) T.n_len (by decide +kernel) (pa_cons (pv 4) (pa_nil)))))))
        (pss_cons (ps_set (i := 5) sc_record_sectors.nd rfl (Or.inl rfl) (pe_lst (pa_nil)))
        (pss_cons (ps_for po rfl (pi_range1 (by rfl) T.n_range (pa_cons (pv 3) (pa_nil))) (pg_name (i := 6) sc_record_sectors.nd rfl (Or.inl rfl))
        (pss_cons (ps_set (i := 7) sc_record_sectors.nd rfl (Or.inl rfl) (e_sl (pv 4) (po_some (pe_op o_mul (pe_glob rfl T.k_GROUP.choose_spec ⟨_, rfl⟩) (pv 6))) (po_some (pe_op o_add (pe_op o_mul (pe_glob rfl T.k_GROUP.choose_spec ⟨_, rfl⟩) (pv 6)) (pe_glob rfl T.k_GROUP.choose_spec ⟨_, rfl⟩)))))
        (pss_one (ps_expr (pe_bm PySem.F.plainAttrs_list PySem.F.slot_list_append PySem.F.type_list_append mt_append (pv 5) (pa_cons (pe_op o_add (pe_op o_add (pe_lst (pa_cons (pv 1) (pa_cons (pv 6) (pa_cons (pv 3) (pa_nil))))) (pv 7)) (pe_lst (pa_cons (pv 2) (pa_nil)))) (pa_nil)))))))
        (pss_one (ps_ret (pv 5)))))))
theorem ok_Log___init__ (T : Top K mg A) : FnOk P w K mg base (L2.CX P w) 1 A.f_Log___init__ A.d_Log___init__ ["self", "generation"] (sp_Log___init__ K A.ex) := by
  refine T.F_Log___init__.okX sc_Log___init__ (fun vs H Q E h => len2 h) (fun cdv Ar outer s H vs Q E hr h => ⟨t_Log___init__ K A.ex E, ?_, pure_Log___init__ T.fa h⟩)
  have tk : Takes (cxOf (L2.CX P w) P w K mg base ["self", "generation"] "Log.__init__" (defScope s_Log___init__) A.f_Log___init__ cdv Ar outer s H E) (WB E) := takes_of rfl rfl rfl rfl
  exact pss_cons (s_fld T.c_Log T.n_Log_generation (pv 0) (pv 1))
        (pss_cons (s_fld T.c_Log T.n_Log_next_sector (pv 0) (pe_glob rfl T.k_FIRST_SECTOR.choose_spec ⟨_, rfl⟩))
        (pss_one (s_fld T.c_Log T.n_Log_next_record (pv 0) (pe_int))))
theorem ok_Log_fits (T : Top K mg A) : FnOk P w K mg base (L2.CX P w) 2 A.f_Log_fits A.d_Log_fits ["self", "intents"] (sp_Log_fits K A.ex) := by
  refine T.F_Log_fits.okX sc_Log_fits (fun vs H Q E h => len2 h) (fun cdv Ar outer s H vs Q E hr h => ⟨t_Log_fits K A.ex E, ?_, pure_Log_fits T.fa h⟩)
  have tk : Takes (cxOf (L2.CX P w) P w K mg base ["self", "intents", "needed", "intent"] "Log.fits" (defScope s_Log_fits) A.f_Log_fits cdv Ar outer s H E) (WB E) := takes_of rfl rfl rfl rfl
  have hu := hu_of hr
  have hl := Nat.lt_of_succ_lt hu
  exact pss_cons (ps_set (i := 2) sc_Log_fits.nd rfl (Or.inl rfl) (pe_callB (cr_sum rfl) (by rfl) T.n_sum (by decide +kernel) (pa_cons (pe_lc (own := [("intent", 3)]) (by rfl) sc_Log_fits.nd (pi_list (pv 1)) (blkOk_by (N := ["self", "intents", "needed", "intent"]) (sc := defScope s_Log_fits) (by decide +kernel)) (fun _ _ _ _ _ => pg_name (i := 3) sc_Log_fits.nd rfl (Or.inl rfl)) (fun _ _ _ _ _ => pts_nil) (fun _ _ _ _ _ => e_call (ok_sectors_of T) (hr.mono (by decide)) T.g_sectors_of T.F_sectors_of.kp T.b_sectors_of takes0 (pa_cons (pv 3) (pa_nil)))) (pa_nil))))
        (pss_one (ps_ret (pe_cmpR (o_le hl) (pe_op o_add (e_fld T.c_Log T.n_Log_next_sector (pv 0)) (pv 2)) (pe_op o_add (pe_glob rfl T.k_FIRST_SECTOR.choose_spec ⟨_, rfl⟩) (pe_glob rfl T.k_LOG_SECTORS.choose_spec ⟨_, rfl⟩)) (nomark _))))
theorem ok_Log_append_records (T : Top K mg A) : FnOk P w K mg base (L2.CX P w) 3 A.f_Log_append_records A.d_Log_append_records ["self", "intents"] (sp_Log_append_records K A.ex) := by
  refine T.F_Log_append_records.okX sc_Log_append_records (fun vs H Q E h => len2 h) (fun cdv Ar outer s H vs Q E hr h => ⟨t_Log_append_records K A.ex E, ?_, pure_Log_append_records T.fa h⟩)
  have tk : Takes (cxOf (L2.CX P w) P w K mg base ["self", "intents", "writes", "intent", "words"] "Log.append_records" (defScope s_Log_append_records) A.f_Log_append_records cdv Ar outer s H E) (WB E) := takes_of rfl rfl rfl rfl
  have po : PassesOwn (model P w) (cxOf (L2.CX P w) P w K mg base ["self", "intents", "writes", "intent", "words"] "Log.append_records" (defScope s_Log_append_records) A.f_Log_append_records cdv Ar outer s H E).A (cxOf (L2.CX P w) P w K mg base ["self", "intents", "writes", "intent", "words"] "Log.append_records" (defScope s_Log_append_records) A.f_Log_append_records cdv Ar outer s H E).env (cxOf (L2.CX P w) P w K mg base ["self", "intents", "writes", "intent", "words"] "Log.append_records" (defScope s_Log_append_records) A.f_Log_append_records cdv Ar outer s H E).xe := passes_of rfl
  exact pss_cons (ps_if (pt_not (t_tru (e_meth (pv 0) T.c_Log T.m_Log_fits (ok_Log_fits T) (hr.mono (by decide)) T.b_Log_fits tk (pa_cons (pv 1) (pa_nil))))) (pss_one (s_raise T.x_NoSpace tk)) (pss_nil))
        (pss_cons (ps_set (i := 2) sc_Log_append_records.nd rfl (Or.inl rfl) (pe_lst (pa_nil)))
        (pss_cons (ps_for po rfl (pi_list (pv 1)) (pg_name (i := 3) sc_Log_append_records.nd rfl (Or.inl rfl))
        (pss_cons (ps_for po rfl (pi_list (e_call (ok_record_sectors T) (hr.mono (by decide)) T.g_record_sectors T.F_record_sectors.kp T.b_record_sectors tk (pa_cons (pv 3) (pa_cons (e_fld T.c_Log T.n_Log_next_record (pv 0)) (pa_cons (e_fld T.c_Log T.n_Log_generation (pv 0)) (pa_nil)))))) (pg_name (i := 4) sc_Log_append_records.nd rfl (Or.inl rfl))
        (pss_cons (ps_expr (pe_bm PySem.F.plainAttrs_list PySem.F.slot_list_append PySem.F.type_list_append mt_append (pv 2) (pa_cons (pe_tup (pa_cons (e_fld T.c_Log T.n_Log_next_sector (pv 0)) (pa_cons (pv 4) (pa_nil)))) (pa_nil))))
        (pss_one (s_augf T.c_Log T.n_Log_next_sector (pv 0) (pe_int) in_add))))
        (pss_one (s_augf T.c_Log T.n_Log_next_record (pv 0) (pe_int) in_add))))
        (pss_one (ps_ret (pv 2)))))
theorem ok__law_cell (T : Top K mg A) : FnOk P w K mg base (L2.CX P w) 1 A.f__law_cell A.d__law_cell ["_law_script", "_law_k"] (sp__law_cell K A.ex) := by
  refine T.F__law_cell.okX sc__law_cell (fun vs H Q E h => len2 h) (fun cdv Ar outer s H vs Q E hr h => ⟨t__law_cell K A.ex E, ?_, pure__law_cell T.fa h⟩)
  have tk : Takes (cxOf (L2.CX P w) P w K mg base ["_law_script", "_law_k"] "_law_cell" (defScope s__law_cell) A.f__law_cell cdv Ar outer s H E) (WB E) := takes_of rfl rfl rfl rfl
  have hu := hu_of hr
  have hl := Nat.lt_of_succ_lt hu
  exact pss_cons (ps_if (pt_cmpR (o_lt hl) (pv 1) (pe_callB (c_len) (by rfl) T.n_len (by decide +kernel) (pa_cons (pv 0) (pa_nil))) (nomark _)) (pss_one (ps_ret (pe_callTy (c_int) (by rfl) T.n_int (by decide +kernel) (pa_cons (e_ix (pv 0) (pv 1)) (pa_nil))))) (pss_nil))
        (pss_one (ps_ret (pe_int)))
theorem ok__law_digits (T : Top K mg A) : FnOk P w K mg base (L2.CX P w) 1 A.f__law_digits A.d__law_digits ["_law_cell_here", "_law_bases"] (sp__law_digits K A.ex) := by
  refine T.F__law_digits.okX sc__law_digits (fun vs H Q E h => len2 h) (fun cdv Ar outer s H vs Q E hr h => ⟨t__law_digits K A.ex E, ?_, pure__law_digits T.fa h⟩)
  have tk : Takes (cxOf (L2.CX P w) P w K mg base ["_law_cell_here", "_law_bases", "_law_digits_here", "_law_rest", "_law_base", "_law_mixed"] "_law_digits" (defScope s__law_digits) A.f__law_digits cdv Ar outer s H E) (WB E) := takes_of rfl rfl rfl rfl
  have po : PassesOwn (model P w) (cxOf (L2.CX P w) P w K mg base ["_law_cell_here", "_law_bases", "_law_digits_here", "_law_rest", "_law_base", "_law_mixed"] "_law_digits" (defScope s__law_digits) A.f__law_digits cdv Ar outer s H E).A (cxOf (L2.CX P w) P w K mg base ["_law_cell_here", "_law_bases", "_law_digits_here", "_law_rest", "_law_base", "_law_mixed"] "_law_digits" (defScope s__law_digits) A.f__law_digits cdv Ar outer s H E).env (cxOf (L2.CX P w) P w K mg base ["_law_cell_here", "_law_bases", "_law_digits_here", "_law_rest", "_law_base", "_law_mixed"] "_law_digits" (defScope s__law_digits) A.f__law_digits cdv Ar outer s H E).xe := passes_of rfl
  have hu := hu_of hr
  have hl := Nat.lt_of_succ_lt hu
  exact pss_cons (ps_set (i := 2) sc__law_digits.nd rfl (Or.inl rfl) (pe_lst (pa_nil)))
        (pss_cons (ps_set (i := 3) sc__law_digits.nd rfl (Or.inl rfl) (pe_callTy (c_int) (by rfl) T.n_int (by decide +kernel) (pa_cons (pv 0) (pa_nil))))
        (pss_cons (ps_for po rfl (pi_list (pv 1)) (pg_name (i := 4) sc__law_digits.nd rfl (Or.inl rfl))
        (pss_one (ps_if (pt_cmpR (o_ge hl) (pv 0) (pe_op o_pow (pe_int) (pe_int)) (nomark _)) (pss_cons (ps_expr (pe_bm PySem.F.plainAttrs_list PySem.F.slot_list_append PySem.F.type_list_append mt_append (pv 2) (pa_cons (pe_op o_mod (pe_callTy (c_int) (by rfl) T.n_int (by decide +kernel) (pa_cons (pv 3) (pa_nil))) (pv 4)) (pa_nil))))
        (pss_one (ps_set (i := 3) sc__law_digits.nd rfl (Or.inl rfl) (pe_op o_div (pv 3) (pv 4))))) (pss_cons (ps_set (i := 3) sc__law_digits.nd rfl (Or.inl rfl) (pe_op o_mod (pe_op o_add (pe_op o_add (pe_op o_mul (pe_callTy (c_int) (by rfl) T.n_int (by decide +kernel) (pa_cons (pv 3) (pa_nil))) (pe_int)) (pe_op o_mul (pe_int) (pe_callB (c_len) (by rfl) T.n_len (by decide +kernel) (pa_cons (pv 2) (pa_nil))))) (pe_int)) (pe_int)))
        (pss_cons (ps_set (i := 5) sc__law_digits.nd rfl (Or.inl rfl) (pe_op o_mod (pe_op o_mul (pe_callTy (c_int) (by rfl) T.n_int (by decide +kernel) (pa_cons (pv 3) (pa_nil))) (pe_callTy (c_int) (by rfl) T.n_int (by decide +kernel) (pa_cons (pv 3) (pa_nil)))) (pe_int)))
        (pss_one (ps_expr (pe_bm PySem.F.plainAttrs_list PySem.F.slot_list_append PySem.F.type_list_append mt_append (pv 2) (pa_cons (pe_op o_mod (pe_op o_div (pe_callTy (c_int) (by rfl) T.n_int (by decide +kernel) (pa_cons (pv 5) (pa_nil))) (pe_int)) (pv 4)) (pa_nil))))))))))
        (pss_one (ps_ret (pv 2)))))
theorem ok__law_cells (T : Top K mg A) : FnOk P w K mg base (L2.CX P w) 1 A.f__law_cells A.d__law_cells ["_law_row", "_law_size"] (sp__law_cells K A.ex) := by
  refine T.F__law_cells.okX sc__law_cells (fun vs H Q E h => len2 h) (fun cdv Ar outer s H vs Q E hr h => ⟨t__law_cells K A.ex E, ?_, pure__law_cells T.fa h⟩)
  have tk : Takes (cxOf (L2.CX P w) P w K mg base ["_law_row", "_law_size", "_law_value"] "_law_cells" (defScope s__law_cells) A.f__law_cells cdv Ar outer s H E) (WB E) := takes_of rfl rfl rfl rfl
  have po : PassesOwn (model P w) (cxOf (L2.CX P w) P w K mg base ["_law_row", "_law_size", "_law_value"] "_law_cells" (defScope s__law_cells) A.f__law_cells cdv Ar outer s H E).A (cxOf (L2.CX P w) P w K mg base ["_law_row", "_law_size", "_law_value"] "_law_cells" (defScope s__law_cells) A.f__law_cells cdv Ar outer s H E).env (cxOf (L2.CX P w) P w K mg base ["_law_row", "_law_size", "_law_value"] "_law_cells" (defScope s__law_cells) A.f__law_cells cdv Ar outer s H E).xe := passes_of rfl
  exact pss_cons (ps_if (PW.pt (pw_or (pt_not (t_tru (pe_callB (c_isi .list) (by rfl) T.n_isinstance (by decide +kernel) (pa_cons (pv 0) (pa_cons (pe_bltn rfl T.n_list (by decide +kernel) rfl) (pa_nil)))))) (pw_or1 (pt_cmpR (o_ne hr.units) (pe_callB (c_len) (by rfl) T.n_len (by decide +kernel) (pa_cons (pv 0) (pa_nil))) (pv 1) (nomark _))))) (pss_one (ps_ret (pe_bl))) (pss_nil))
        (pss_cons (ps_for po rfl (pi_list (pv 0)) (pg_name (i := 2) sc__law_cells.nd rfl (Or.inl rfl))
        (pss_one (ps_if (PW.pt (pw_or (pt_not (t_tru (pe_callB (c_isi .int) (by rfl) T.n_isinstance (by decide +kernel) (pa_cons (pv 2) (pa_cons (pe_bltn rfl T.n_int (by decide +kernel) rfl) (pa_nil)))))) (pw_or1 (t_tru (pe_callB (c_isi .bool) (by rfl) T.n_isinstance (by decide +kernel) (pa_cons (pv 2) (pa_cons (pe_bltn rfl T.n_bool (by decide +kernel) rfl) (pa_nil)))))))) (pss_one (ps_ret (pe_bl))) (pss_nil))))
        (pss_one (ps_ret (pe_bl))))
theorem ok__law_intent (T : Top K mg A) : FnOk P w K mg base (L2.CX P w) 2 A.f__law_intent A.d__law_intent ["_law_cell_here", "_law_most"] (sp__law_intent K A.ex) := by
  refine T.F__law_intent.okX sc__law_intent (fun vs H Q E h => len2 h) (fun cdv Ar outer s H vs Q E hr h => ⟨t__law_intent K A.ex E, ?_, pure__law_intent T.fa h⟩)
  have tk : Takes (cxOf (L2.CX P w) P w K mg base ["_law_cell_here", "_law_most", "_law_digits_here", "_law_words", "_law_kind", "_law_inode", "_law_other", "_law_main", "_law_size", "_law_cells_here", "_law_k"] "_law_intent" (defScope s__law_intent) A.f__law_intent cdv Ar outer s H E) (WB E) := takes_of rfl rfl rfl rfl
  exact pss_cons (ps_set (i := 2) sc__law_intent.nd rfl (Or.inr rfl) (e_call (ok__law_digits T) (hr.mono (by decide)) T.g__law_digits T.F__law_digits.kp T.b__law_digits tk (pa_cons (pv 0) (pa_cons (pe_lst (pa_cons (pe_int) (pa_cons (pe_int) (pa_cons (pe_int) (pa_cons (pe_int) (pa_cons (pe_int) (pa_cons (pe_int) (pa_cons (pe_int) (pa_cons (pv 1) (pa_cons (pe_int) (pa_cons (pe_int) (pa_cons (pe_int) (pa_cons (pe_int) (pa_cons (pe_op o_pow (pe_int) (pe_int)) (pa_nil))))))))))))))) (pa_nil)))))
        (pss_cons (ps_set (i := 3) sc__law_intent.nd rfl (Or.inl rfl) (pe_lst (pa_cons (pe_op o_pow (pe_int) (pe_int)) (pa_cons (pe_op o_mul (pe_int) (pe_op o_pow (pe_int) (pe_int))) (pa_cons (pe_op o_mul (pe_int) (pe_op o_pow (pe_int) (pe_int))) (pa_nil))))))
        (pss_cons (ps_set (i := 4) sc__law_intent.nd rfl (Or.inl rfl) (pe_op o_add (pe_int) (e_ix (pv 2) (pe_int))))
        (pss_cons (ps_set (i := 5) sc__law_intent.nd rfl (Or.inl rfl) (pe_op o_add (pe_int) (e_ix (pv 2) (pe_int))))
        (pss_cons (ps_set (i := 6) sc__law_intent.nd rfl (Or.inl rfl) (pe_op o_add (pe_int) (e_ix (pv 2) (pe_int))))
        (pss_cons (ps_set (i := 7) sc__law_intent.nd rfl (Or.inl rfl) (pe_op o_add (pe_op o_add (pe_op o_add (pe_op o_mul (pe_int) (pe_op o_pow (pe_int) (pe_int))) (pe_op o_mul (pe_int) (pe_op o_pow (pe_int) (pe_int)))) (pe_op o_mul (pe_int) (pe_op o_pow (pe_int) (pe_int)))) (pe_op o_mul (pe_int) (pe_op o_pow (pe_int) (pe_int)))))
        (pss_cons (ps_if (pt_cmpR (o_eq hr.units) (pv 4) (pe_int) (nomark _)) (pss_one (ps_ret (pe_tup (pa_cons (pe_int) (pa_cons (pv 7) (pa_cons (pv 5) (pa_cons (e_ix (pv 3) (e_ix (pv 2) (pe_int))) (pa_cons (pe_op o_add (pe_int) (e_ix (pv 2) (pe_int))) (pa_cons (e_ix (pv 2) (pe_int)) (pa_nil)))))))))) (pss_nil))
        (pss_cons (ps_if (pt_cmpR (o_eq hr.units) (pv 4) (pe_int) (nomark _)) (pss_one (ps_ret (pe_tup (pa_cons (pe_int) (pa_cons (pv 7) (pa_cons (pv 5) (pa_cons (pv 6) (pa_cons (e_ix (pv 3) (e_ix (pv 2) (pe_int))) (pa_nil))))))))) (pss_nil))
        (pss_cons (ps_if (PW.pt (pw_or (pt_cmpR (o_eq hr.units) (pv 4) (pe_int) (nomark _)) (pw_or1 (pt_cmpR (o_eq hr.units) (pv 4) (pe_int) (nomark _))))) (pss_one (ps_ret (pe_tup (pa_cons (pv 4) (pa_cons (pv 7) (pa_cons (pv 5) (pa_cons (e_ix (pv 3) (e_ix (pv 2) (pe_int))) (pa_nil)))))))) (pss_nil))
        (pss_cons (ps_if (pt_cmpR (o_eq hr.units) (pv 4) (pe_int) (nomark _)) (pss_one (ps_ret (pe_tup (pa_cons (pe_int) (pa_cons (pv 7) (pa_cons (pv 5) (pa_cons (e_ix (pv 3) (e_ix (pv 2) (pe_int))) (pa_cons (pv 6) (pa_cons (e_ix (pv 3) (e_ix (pv 2) (pe_int))) (pa_nil)))))))))) (pss_nil))
        (pss_cons (ps_if (pt_cmpR (o_eq hr.units) (pv 4) (pe_int) (nomark _)) (pss_cons (ps_set (i := 8) sc__law_intent.nd rfl (Or.inl rfl) (pe_op o_add (pe_int) (e_ix (pv 2) (pe_int))))
        (pss_cons (ps_setLc (i := 9) (own := [("_law_k", 10)]) (by rfl) sc__law_intent.nd rfl rfl (sw_true rfl rfl rfl (by decide +kernel)) (pi_range1 (by rfl) T.n_range (pa_cons (pv 8) (pa_nil))) (blkOk_by (N := ["_law_cell_here", "_law_most", "_law_digits_here", "_law_words", "_law_kind", "_law_inode", "_law_other", "_law_main", "_law_size", "_law_cells_here", "_law_k"]) (sc := defScope s__law_intent) (by decide +kernel)) (fun _ _ _ _ _ => pg_name (i := 10) sc__law_intent.nd rfl (Or.inl rfl)) (fun _ _ _ _ _ => pts_nil) (fun _ _ _ _ _ => pe_op o_add (e_ix (pv 2) (pe_int)) (pe_op o_mul (pv 10) (e_ix (pv 2) (pe_int)))))
        (pss_one (ps_ret (pe_callTy (c_tuple) (by rfl) T.n_tuple (by decide +kernel) (pa_cons (pe_op o_add (pe_lst (pa_cons (pe_int) (pa_cons (pv 7) (pa_cons (pv 5) (pa_cons (pe_callB (c_min rfl) (by rfl) T.n_min (by decide +kernel) (pa_cons (pe_op o_div (e_ix (pv 2) (pe_int)) (pe_op o_add (pe_int) (pe_op o_mul (pe_int) (e_ix (pv 2) (pe_int))))) (pa_cons (pe_op o_sub (pe_int) (pv 8)) (pa_nil)))) (pa_nil)))))) (pv 9)) (pa_nil))))))) (pss_nil))
        (pss_cons (ps_if (pt_cmpR (o_eq hr.units) (pv 4) (pe_int) (nomark _)) (pss_one (ps_ret (pe_tup (pa_cons (pe_int) (pa_cons (pv 7) (pa_cons (pv 5) (pa_cons (pe_op o_div (e_ix (pv 2) (pe_int)) (pe_op o_add (pe_int) (pe_op o_mul (pe_int) (e_ix (pv 2) (pe_int))))) (pa_nil)))))))) (pss_nil))
        (pss_cons (ps_if (pt_cmpR (o_eq hr.units) (pv 4) (pe_int) (nomark _)) (pss_one (ps_ret (pe_tup (pa_cons (pe_int) (pa_cons (pv 7) (pa_cons (pv 5) (pa_cons (pe_op o_div (e_ix (pv 2) (pe_int)) (pe_op o_add (pe_int) (pe_op o_mul (pe_int) (e_ix (pv 2) (pe_int))))) (pa_cons (pv 6) (pa_cons (pe_op o_div (e_ix (pv 2) (pe_int)) (pe_op o_add (pe_int) (pe_op o_mul (pe_int) (e_ix (pv 2) (pe_int))))) (pa_cons (pe_op o_add (pe_int) (pe_op o_mod (e_ix (pv 2) (pe_int)) (pe_int))) (pa_nil))))))))))) (pss_nil))
        (pss_cons (ps_if (pt_cmpR (o_eq hr.units) (pv 4) (pe_int) (nomark _)) (pss_one (ps_ret (pe_tup (pa_cons (pe_int) (pa_cons (pv 7) (pa_cons (pv 5) (pa_cons (e_ix (pv 2) (pe_int)) (pa_nil)))))))) (pss_nil))
        (pss_one (ps_ret (pe_tup (pa_cons (pe_int) (pa_cons (pv 7) (pa_cons (pv 5) (pa_nil))))))))))))))))))))
theorem ok__law_appended (T : Top K mg A) : FnOk P w K mg base (L2.CX P w) 4 A.f__law_appended A.d__law_appended ["_law_log", "_law_intents"] (sp__law_appended K A.ex) := by
  refine T.F__law_appended.okX sc__law_appended (fun vs H Q E h => len2 h) (fun cdv Ar outer s H vs Q E hr h => ⟨t__law_appended K A.ex E, ?_, pure__law_appended T.fa h⟩)
  have tk : Takes (cxOf (L2.CX P w) P w K mg base ["_law_log", "_law_intents", "error"] "_law_appended" (defScope s__law_appended) A.f__law_appended cdv Ar outer s H E) (WB E) := takes_of rfl rfl rfl rfl
  exact pss_one (s_tryAs (i := 2) rfl rfl sc__law_appended.nd rfl rfl ⟨rfl, by decide, Or.inl T.x_LaminaError.g⟩ tk (fun W pn xe tk po => pss_one (ps_ret (e_meth (pv 0) T.c_Log T.m_Log_append_records (ok_Log_append_records T) (hr.mono (by decide)) T.b_Log_append_records tk (pa_cons (pv 1) (pa_nil))))) (fun a oe cls d pn hz hf => pss_cons (ps_if (t_tru (pe_callB (c_isE hz hf) (by rfl) T.n_isinstance (by decide +kernel) (pa_cons (pv 2) (pa_cons (pe_glob rfl T.x_NoSpace.g rfl) (pa_nil))))) (pss_one (ps_ret (pe_tup (pa_cons (pe_str) (pa_cons (pe_str) (pa_nil)))))) (pss_nil))
        (pss_one (ps_ret (pe_tup (pa_cons (pe_str) (pa_cons (pe_str) (pa_nil))))))))
theorem ok__law_writes (T : Top K mg A) : FnOk P w K mg base (L2.CX P w) 3 A.f__law_writes A.d__law_writes ["_law_intents", "_law_sector", "_law_record", "_law_generation"] (sp__law_writes K A.ex) := by
  refine T.F__law_writes.okX sc__law_writes (fun vs H Q E h => len4 h) (fun cdv Ar outer s H vs Q E hr h => ⟨t__law_writes K A.ex E, ?_, pure__law_writes T.fa h⟩)
  have tk : Takes (cxOf (L2.CX P w) P w K mg base ["_law_intents", "_law_sector", "_law_record", "_law_generation", "_law_writes_here", "_law_intent_here", "_law_words"] "_law_writes" (defScope s__law_writes) A.f__law_writes cdv Ar outer s H E) (WB E) := takes_of rfl rfl rfl rfl
  have po : PassesOwn (model P w) (cxOf (L2.CX P w) P w K mg base ["_law_intents", "_law_sector", "_law_record", "_law_generation", "_law_writes_here", "_law_intent_here", "_law_words"] "_law_writes" (defScope s__law_writes) A.f__law_writes cdv Ar outer s H E).A (cxOf (L2.CX P w) P w K mg base ["_law_intents", "_law_sector", "_law_record", "_law_generation", "_law_writes_here", "_law_intent_here", "_law_words"] "_law_writes" (defScope s__law_writes) A.f__law_writes cdv Ar outer s H E).env (cxOf (L2.CX P w) P w K mg base ["_law_intents", "_law_sector", "_law_record", "_law_generation", "_law_writes_here", "_law_intent_here", "_law_words"] "_law_writes" (defScope s__law_writes) A.f__law_writes cdv Ar outer s H E).xe := passes_of rfl
  exact pss_cons (ps_set (i := 4) sc__law_writes.nd rfl (Or.inl rfl) (pe_lst (pa_nil)))
        (pss_cons (ps_for po rfl (pi_list (pv 0)) (pg_name (i := 5) sc__law_writes.nd rfl (Or.inl rfl))
        (pss_cons (ps_for po rfl (pi_list (e_call (ok_record_sectors T) (hr.mono (by decide)) T.g_record_sectors T.F_record_sectors.kp T.b_record_sectors tk (pa_cons (pv 5) (pa_cons (pv 2) (pa_cons (pv 3) (pa_nil)))))) (pg_name (i := 6) sc__law_writes.nd rfl (Or.inl rfl))
        (pss_cons (ps_expr (pe_bm PySem.F.plainAttrs_list PySem.F.slot_list_append PySem.F.type_list_append mt_append (pv 4) (pa_cons (pe_tup (pa_cons (pv 1) (pa_cons (pv 6) (pa_nil)))) (pa_nil))))
        (pss_one (ps_set (i := 1) sc__law_writes.nd rfl (Or.inl rfl) (pe_op o_add (pv 1) (pe_int))))))
        (pss_one (ps_set (i := 2) sc__law_writes.nd rfl (Or.inl rfl) (pe_op o_add (pv 2) (pe_int))))))
        (pss_one (ps_ret (pv 4))))
theorem ok__law_same (T : Top K mg A) : FnOk P w K mg base (L2.CX P w) 2 A.f__law_same A.d__law_same ["_law_told", "_law_due"] (sp__law_same K A.ex) := by
  refine T.F__law_same.okX sc__law_same (fun vs H Q E h => len2 h) (fun cdv Ar outer s H vs Q E hr h => ⟨t__law_same K A.ex E, ?_, pure__law_same T.fa h⟩)
  have tk : Takes (cxOf (L2.CX P w) P w K mg base ["_law_told", "_law_due", "_law_k"] "_law_same" (defScope s__law_same) A.f__law_same cdv Ar outer s H E) (WB E) := takes_of rfl rfl rfl rfl
  have po : PassesOwn (model P w) (cxOf (L2.CX P w) P w K mg base ["_law_told", "_law_due", "_law_k"] "_law_same" (defScope s__law_same) A.f__law_same cdv Ar outer s H E).A (cxOf (L2.CX P w) P w K mg base ["_law_told", "_law_due", "_law_k"] "_law_same" (defScope s__law_same) A.f__law_same cdv Ar outer s H E).env (cxOf (L2.CX P w) P w K mg base ["_law_told", "_law_due", "_law_k"] "_law_same" (defScope s__law_same) A.f__law_same cdv Ar outer s H E).xe := passes_of rfl
  exact pss_cons (ps_if (PW.pt (pw_or (pt_not (t_tru (pe_callB (c_isi .list) (by rfl) T.n_isinstance (by decide +kernel) (pa_cons (pv 0) (pa_cons (pe_bltn rfl T.n_list (by decide +kernel) rfl) (pa_nil)))))) (pw_or1 (pt_cmpR (o_ne hr.units) (pe_callB (c_len) (by rfl) T.n_len (by decide +kernel) (pa_cons (pv 0) (pa_nil))) (pe_callB (c_len) (by rfl) T.n_len (by decide +kernel) (pa_cons (pv 1) (pa_nil))) (nomark _))))) (pss_one (ps_ret (pe_bl))) (pss_nil))
        (pss_cons (ps_for po rfl (pi_range1 (by rfl) T.n_range (pa_cons (pe_callB (c_len) (by rfl) T.n_len (by decide +kernel) (pa_cons (pv 1) (pa_nil))) (pa_nil))) (pg_name (i := 2) sc__law_same.nd rfl (Or.inl rfl))
        (pss_cons (ps_if (PW.pt (pw_or (pt_not (t_tru (pe_callB (c_isi .tuple) (by rfl) T.n_isinstance (by decide +kernel) (pa_cons (e_ix (pv 0) (pv 2)) (pa_cons (pe_bltn rfl T.n_tuple (by decide +kernel) rfl) (pa_nil)))))) (pw_or1 (pt_cmpR (o_ne hr.units) (pe_callB (c_len) (by rfl) T.n_len (by decide +kernel) (pa_cons (e_ix (pv 0) (pv 2)) (pa_nil))) (pe_int) (nomark _))))) (pss_one (ps_ret (pe_bl))) (pss_nil))
        (pss_one (ps_if (PW.pt (pw_or (pt_cmpR (o_ne hr.units) (e_ix (e_ix (pv 0) (pv 2)) (pe_int)) (e_ix (e_ix (pv 1) (pv 2)) (pe_int)) (nomark _)) (pw_or (pt_not (t_tru (e_call (ok__law_cells T) (hr.mono (by decide)) T.g__law_cells T.F__law_cells.kp T.b__law_cells tk (pa_cons (e_ix (e_ix (pv 0) (pv 2)) (pe_int)) (pa_cons (pe_int) (pa_nil)))))) (pw_or1 (pt_cmpR (o_ne hr.units) (e_ix (e_ix (pv 0) (pv 2)) (pe_int)) (e_ix (e_ix (pv 1) (pv 2)) (pe_int)) (nomark _)))))) (pss_one (ps_ret (pe_bl))) (pss_nil)))))
        (pss_one (ps_ret (pe_bl))))
theorem ok_law (T : Top K mg A) : FnOk P w K mg base (L2.CX P w) 5 A.f_law A.d_law ["_law_script"] (sp_law K A.ex) := by
  refine T.F_law.okX sc_law (fun vs H Q E h => len1 (show spLaw K vs H Q E from h)) (fun cdv Ar outer s H vs Q E hr h => ⟨t_law K A.ex E, ?_, pure_law T.fa h⟩)
  have tk : Takes (cxOf (L2.CX P w) P w K mg base ["_law_script", "_law_generation", "_law_log", "_law_sector", "_law_record", "_law_k", "_law_cell_here", "_law_most", "_law_intents", "_law_passed", "_law_needed", "_law_fits", "_law_told", "_law_n", "_law_intent_here"] "law" (defScope s_law) A.f_law cdv Ar outer s H E) (WB E) := takes_of rfl rfl rfl rfl
  have po : PassesOwn (model P w) (cxOf (L2.CX P w) P w K mg base ["_law_script", "_law_generation", "_law_log", "_law_sector", "_law_record", "_law_k", "_law_cell_here", "_law_most", "_law_intents", "_law_passed", "_law_needed", "_law_fits", "_law_told", "_law_n", "_law_intent_here"] "law" (defScope s_law) A.f_law cdv Ar outer s H E).A (cxOf (L2.CX P w) P w K mg base ["_law_script", "_law_generation", "_law_log", "_law_sector", "_law_record", "_law_k", "_law_cell_here", "_law_most", "_law_intents", "_law_passed", "_law_needed", "_law_fits", "_law_told", "_law_n", "_law_intent_here"] "law" (defScope s_law) A.f_law cdv Ar outer s H E).env (cxOf (L2.CX P w) P w K mg base ["_law_script", "_law_generation", "_law_log", "_law_sector", "_law_record", "_law_k", "_law_cell_here", "_law_most", "_law_intents", "_law_passed", "_law_needed", "_law_fits", "_law_told", "_law_n", "_law_intent_here"] "law" (defScope s_law) A.f_law cdv Ar outer s H E).xe := passes_of rfl
  have hu := hu_of hr
  have hl := Nat.lt_of_succ_lt hu
  exact pss_cons (ps_set (i := 1) sc_law.nd rfl (Or.inl rfl) (pe_op o_add (pe_int) (pe_op o_mod (pe_callTy (c_int) (by rfl) T.n_int (by decide +kernel) (pa_cons (e_call (ok__law_cell T) (hr.mono (by decide)) T.g__law_cell T.F__law_cell.kp T.b__law_cell tk (pa_cons (pv 0) (pa_cons (pe_int) (pa_nil)))) (pa_nil))) (pe_op o_pow (pe_int) (pe_int)))))
        (pss_cons (ps_set (i := 2) sc_law.nd rfl (Or.inl rfl) (e_mk T.M_Log (ok_Log___init__ T) (hr.mono (by decide)) T.gC_Log T.b_Log___init__ tk (pa_cons (pv 1) (pa_nil))))
        (pss_cons (ps_set (i := 3) sc_law.nd rfl (Or.inl rfl) (pe_int))
        (pss_cons (ps_set (i := 4) sc_law.nd rfl (Or.inl rfl) (pe_int))
        (pss_cons (ps_for po rfl (pi_range1 (by rfl) T.n_range (pa_cons (pe_callB (c_min rfl) (by rfl) T.n_min (by decide +kernel) (pa_cons (pe_callB (c_len) (by rfl) T.n_len (by decide +kernel) (pa_cons (pv 0) (pa_nil))) (pa_cons (pe_int) (pa_nil)))) (pa_nil))) (pg_name (i := 5) sc_law.nd rfl (Or.inr rfl))
        (pss_cons (ps_set (i := 6) sc_law.nd rfl (Or.inr rfl) (e_call (ok__law_cell T) (hr.mono (by decide)) T.g__law_cell T.F__law_cell.kp T.b__law_cell tk (pa_cons (pv 0) (pa_cons (pv 5) (pa_nil)))))
        (pss_cons (ps_set (i := 7) sc_law.nd rfl (Or.inr rfl) (e_ix (pe_lst (pa_cons (pe_int) (pa_cons (pe_int) (pa_cons (pe_int) (pa_cons (pe_int) (pa_nil)))))) (pe_op o_mod (pe_op o_div (pe_callTy (c_int) (by rfl) T.n_int (by decide +kernel) (pa_cons (pv 6) (pa_nil))) (pe_int)) (pe_int))))
        (pss_cons (ps_setLc (i := 8) (own := [("_law_n", 13)]) (by rfl) sc_law.nd rfl rfl (sw_true rfl rfl rfl (by decide +kernel)) (pi_range1 (by rfl) T.n_range (pa_cons (pe_op o_mod (pe_callTy (c_int) (by rfl) T.n_int (by decide +kernel) (pa_cons (pv 6) (pa_nil))) (pe_int)) (pa_nil))) (blkOk_by (N := ["_law_script", "_law_generation", "_law_log", "_law_sector", "_law_record", "_law_k", "_law_cell_here", "_law_most", "_law_intents", "_law_passed", "_law_needed", "_law_fits", "_law_told", "_law_n", "_law_intent_here"]) (sc := defScope s_law) (by decide +kernel)) (fun _ _ _ _ _ => pg_name (i := 13) sc_law.nd rfl (Or.inl rfl)) (fun _ _ _ _ _ => pts_nil) (fun _ _ _ _ _ => e_call (ok__law_intent T) (hr.mono (by decide)) T.g__law_intent T.F__law_intent.kp T.b__law_intent takes0 (pa_cons (pe_op o_add (pe_op o_add (pv 6) (pe_op o_mul (pe_int) (pv 13))) (pv 5)) (pa_cons (pv 7) (pa_nil)))))
        (pss_cons (ps_set (i := 9) sc_law.nd rfl (Or.inl rfl) (pe_callTy (c_list) (by rfl) T.n_list (by decide +kernel) (pa_cons (pv 8) (pa_nil))))
        (pss_cons (ps_set (i := 10) sc_law.nd rfl (Or.inl rfl) (pe_callB (cr_sum rfl) (by rfl) T.n_sum (by decide +kernel) (pa_cons (pe_lc (own := [("_law_intent_here", 14)]) (by rfl) sc_law.nd (pi_list (pv 8)) (blkOk_by (N := ["_law_script", "_law_generation", "_law_log", "_law_sector", "_law_record", "_law_k", "_law_cell_here", "_law_most", "_law_intents", "_law_passed", "_law_needed", "_law_fits", "_law_told", "_law_n", "_law_intent_here"]) (sc := defScope s_law) (by decide +kernel)) (fun _ _ _ _ _ => pg_name (i := 14) sc_law.nd rfl (Or.inl rfl)) (fun _ _ _ _ _ => pts_nil) (fun _ _ _ _ _ => pe_op o_div (pe_op o_add (pe_callB (c_len) (by rfl) T.n_len (by decide +kernel) (pa_cons (pv 14) (pa_nil))) (pe_int)) (pe_int))) (pa_nil))))
        (pss_cons (ps_set (i := 11) sc_law.nd rfl (Or.inl rfl) (e_meth (pv 2) T.c_Log T.m_Log_fits (ok_Log_fits T) (hr.mono (by decide)) T.b_Log_fits tk (pa_cons (pv 8) (pa_nil))))
        (pss_cons (ps_if (PW.pt (pw_or (pt_not (t_tru (pe_callB (c_isi .bool) (by rfl) T.n_isinstance (by decide +kernel) (pa_cons (pv 11) (pa_cons (pe_bltn rfl T.n_bool (by decide +kernel) rfl) (pa_nil)))))) (pw_or1 (pt_cmpR (o_ne hr.units) (pv 11) (pe_cmpR (o_le hl) (pe_op o_add (pv 3) (pv 10)) (pe_int) (nomark _)) (nomark _))))) (pss_one (ps_ret (pe_bl))) (pss_nil))
        (pss_cons (ps_set (i := 12) sc_law.nd rfl (Or.inl rfl) (e_call (ok__law_appended T) (hr.mono (by decide)) T.g__law_appended T.F__law_appended.kp T.b__law_appended tk (pa_cons (pv 2) (pa_cons (pv 8) (pa_nil)))))
        (pss_cut (ps_if (t_tru (pv 11)) (pss_cons (ps_if (pt_not (t_tru (e_call (ok__law_same T) (hr.mono (by decide)) T.g__law_same T.F__law_same.kp T.b__law_same tk (pa_cons (pv 12) (pa_cons (e_call (ok__law_writes T) (hr.mono (by decide)) T.g__law_writes T.F__law_writes.kp T.b__law_writes tk (pa_cons (pv 8) (pa_cons (pv 3) (pa_cons (pv 4) (pa_cons (pv 1) (pa_nil)))))) (pa_nil)))))) (pss_one (ps_ret (pe_bl))) (pss_nil))
        (pss_cons (ps_set (i := 3) sc_law.nd rfl (Or.inl rfl) (pe_op o_add (pv 3) (pv 10)))
        (pss_one (ps_set (i := 4) sc_law.nd rfl (Or.inl rfl) (pe_op o_add (pv 4) (pe_callB (c_len) (by rfl) T.n_len (by decide +kernel) (pa_cons (pv 8) (pa_nil)))))))) (pss_one (ps_if (pt_cmpR (o_ne hr.units) (pv 12) (pe_tup (pa_cons (pe_str) (pa_cons (pe_str) (pa_nil)))) (nomark _)) (pss_one (ps_ret (pe_bl))) (pss_nil))))
        (pss_cons (ps_if (PW.pt (pw_or (pt_cmpR (o_ne hr.units) (pv 8) (pv 9) (nomark _)) (pw_or1 (pt_cmpR (o_ne hr.units) (e_fld T.c_Log T.n_Log_generation (pv 2)) (pv 1) (nomark _))))) (pss_one (ps_ret (pe_bl))) (pss_nil))
        (pss_one (ps_if (PW.pt (pw_or (pt_cmpR (o_ne hr.units) (e_fld T.c_Log T.n_Log_next_sector (pv 2)) (pv 3) (nomark _)) (pw_or1 (pt_cmpR (o_ne hr.units) (e_fld T.c_Log T.n_Log_next_record (pv 2)) (pv 4) (nomark _))))) (pss_one (ps_ret (pe_bl))) (pss_nil))))))))))))))
        (pss_one (ps_ret (pe_bl)))))))
end
theorem all_mk {P : Program} {w : World} {K : PySem.W.Frag} {h : Heap} {mg : Str → Option Value} {fa : Addr} (X : K.In h) (G : h.Ns mainGlobals mg) (hfa : mg "law" = some (.ref fa))
    {f_sectors_of f_record_sectors f_Log___init__ f_Log_fits f_Log_append_records f__law_cell f__law_digits f__law_cells f__law_intent f__law_appended f__law_writes f__law_same f_law : Addr}
    {C_Log C_LaminaError C_NoSpace : Addr}
    {od_sectors_of an_sectors_of : Option Addr} {sl_sectors_of : Array (Option Value)} {oc_sectors_of kV_sectors_of dc_sectors_of pm_sectors_of cd_sectors_of ct_sectors_of : Value}
    {od_record_sectors an_record_sectors : Option Addr} {sl_record_sectors : Array (Option Value)} {oc_record_sectors kV_record_sectors dc_record_sectors pm_record_sectors cd_record_sectors ct_record_sectors : Value}
    {od_Log___init__ an_Log___init__ : Option Addr} {sl_Log___init__ : Array (Option Value)} {oc_Log___init__ kV_Log___init__ dc_Log___init__ pm_Log___init__ cd_Log___init__ ct_Log___init__ : Value}
    {od_Log_fits an_Log_fits : Option Addr} {sl_Log_fits : Array (Option Value)} {oc_Log_fits kV_Log_fits dc_Log_fits pm_Log_fits cd_Log_fits ct_Log_fits : Value}
    {od_Log_append_records an_Log_append_records : Option Addr} {sl_Log_append_records : Array (Option Value)} {oc_Log_append_records kV_Log_append_records dc_Log_append_records pm_Log_append_records cd_Log_append_records ct_Log_append_records : Value}
    {od__law_cell an__law_cell : Option Addr} {sl__law_cell : Array (Option Value)} {oc__law_cell kV__law_cell dc__law_cell pm__law_cell cd__law_cell ct__law_cell : Value}
    {od__law_digits an__law_digits : Option Addr} {sl__law_digits : Array (Option Value)} {oc__law_digits kV__law_digits dc__law_digits pm__law_digits cd__law_digits ct__law_digits : Value}
    {od__law_cells an__law_cells : Option Addr} {sl__law_cells : Array (Option Value)} {oc__law_cells kV__law_cells dc__law_cells pm__law_cells cd__law_cells ct__law_cells : Value}
    {od__law_intent an__law_intent : Option Addr} {sl__law_intent : Array (Option Value)} {oc__law_intent kV__law_intent dc__law_intent pm__law_intent cd__law_intent ct__law_intent : Value}
    {od__law_appended an__law_appended : Option Addr} {sl__law_appended : Array (Option Value)} {oc__law_appended kV__law_appended dc__law_appended pm__law_appended cd__law_appended ct__law_appended : Value}
    {od__law_writes an__law_writes : Option Addr} {sl__law_writes : Array (Option Value)} {oc__law_writes kV__law_writes dc__law_writes pm__law_writes cd__law_writes ct__law_writes : Value}
    {od__law_same an__law_same : Option Addr} {sl__law_same : Array (Option Value)} {oc__law_same kV__law_same dc__law_same pm__law_same cd__law_same ct__law_same : Value}
    {od_law an_law : Option Addr} {sl_law : Array (Option Value)} {oc_law kV_law dc_law pm_law cd_law ct_law : Value}
    {t_FIRST_SECTOR : Tok}
    {t_GROUP : Tok}
    {t_LOG_SECTORS : Tok}
    (aC_Log : PySem.W.nsIn K mainGlobals "Log" = some (some (.ref C_Log)))
    (aC_LaminaError : PySem.W.nsIn K mainGlobals "LaminaError" = some (some (.ref C_LaminaError)))
    (aC_NoSpace : PySem.W.nsIn K mainGlobals "NoSpace" = some (some (.ref C_NoSpace)))
    (a_sectors_of : PySem.W.nsIn K mainGlobals "sectors_of" = some (some (.ref f_sectors_of)))
    (l_sectors_of : K.lookup f_sectors_of = some ⟨oc_sectors_of, od_sectors_of, .func (PySem.W.fnOf "sectors_of" "sectors_of" (defArgs s_sectors_of) (defBody s_sectors_of) (defScope s_sectors_of) .none kV_sectors_of dc_sectors_of pm_sectors_of an_sectors_of cd_sectors_of ct_sectors_of), sl_sectors_of⟩)
    (c_sectors_of : PySem.W.codeIn K cd_sectors_of "sectors_of" = true)
    (k_sectors_of : PySem.W.keepIn K (.ref f_sectors_of) = true)
    (a_record_sectors : PySem.W.nsIn K mainGlobals "record_sectors" = some (some (.ref f_record_sectors)))
    (l_record_sectors : K.lookup f_record_sectors = some ⟨oc_record_sectors, od_record_sectors, .func (PySem.W.fnOf "record_sectors" "record_sectors" (defArgs s_record_sectors) (defBody s_record_sectors) (defScope s_record_sectors) .none kV_record_sectors dc_record_sectors pm_record_sectors an_record_sectors cd_record_sectors ct_record_sectors), sl_record_sectors⟩)
    (c_record_sectors : PySem.W.codeIn K cd_record_sectors "record_sectors" = true)
    (k_record_sectors : PySem.W.keepIn K (.ref f_record_sectors) = true)
    (a_Log___init__ : PySem.W.findIn K (.ref C_Log) "__init__" = some (some (.ref f_Log___init__)))
    (i_Log___init__ : PySem.W.isFn K (.ref f_Log___init__) = true)
    (l_Log___init__ : K.lookup f_Log___init__ = some ⟨oc_Log___init__, od_Log___init__, .func (PySem.W.fnOf "__init__" "Log.__init__" (defArgs s_Log___init__) (defBody s_Log___init__) (defScope s_Log___init__) .none kV_Log___init__ dc_Log___init__ pm_Log___init__ an_Log___init__ cd_Log___init__ ct_Log___init__), sl_Log___init__⟩)
    (c_Log___init__ : PySem.W.codeIn K cd_Log___init__ "Log.__init__" = true)
    (k_Log___init__ : PySem.W.keepIn K (.ref f_Log___init__) = true)
    (a_Log_fits : PySem.W.findIn K (.ref C_Log) "fits" = some (some (.ref f_Log_fits)))
    (i_Log_fits : PySem.W.isFn K (.ref f_Log_fits) = true)
    (l_Log_fits : K.lookup f_Log_fits = some ⟨oc_Log_fits, od_Log_fits, .func (PySem.W.fnOf "fits" "Log.fits" (defArgs s_Log_fits) (defBody s_Log_fits) (defScope s_Log_fits) .none kV_Log_fits dc_Log_fits pm_Log_fits an_Log_fits cd_Log_fits ct_Log_fits), sl_Log_fits⟩)
    (c_Log_fits : PySem.W.codeIn K cd_Log_fits "Log.fits" = true)
    (k_Log_fits : PySem.W.keepIn K (.ref f_Log_fits) = true)
    (a_Log_append_records : PySem.W.findIn K (.ref C_Log) "append_records" = some (some (.ref f_Log_append_records)))
    (i_Log_append_records : PySem.W.isFn K (.ref f_Log_append_records) = true)
    (l_Log_append_records : K.lookup f_Log_append_records = some ⟨oc_Log_append_records, od_Log_append_records, .func (PySem.W.fnOf "append_records" "Log.append_records" (defArgs s_Log_append_records) (defBody s_Log_append_records) (defScope s_Log_append_records) .none kV_Log_append_records dc_Log_append_records pm_Log_append_records an_Log_append_records cd_Log_append_records ct_Log_append_records), sl_Log_append_records⟩)
    (c_Log_append_records : PySem.W.codeIn K cd_Log_append_records "Log.append_records" = true)
    (k_Log_append_records : PySem.W.keepIn K (.ref f_Log_append_records) = true)
    (a__law_cell : PySem.W.nsIn K mainGlobals "_law_cell" = some (some (.ref f__law_cell)))
    (l__law_cell : K.lookup f__law_cell = some ⟨oc__law_cell, od__law_cell, .func (PySem.W.fnOf "_law_cell" "_law_cell" (defArgs s__law_cell) (defBody s__law_cell) (defScope s__law_cell) .none kV__law_cell dc__law_cell pm__law_cell an__law_cell cd__law_cell ct__law_cell), sl__law_cell⟩)
    (c__law_cell : PySem.W.codeIn K cd__law_cell "_law_cell" = true)
    (k__law_cell : PySem.W.keepIn K (.ref f__law_cell) = true)
    (a__law_digits : PySem.W.nsIn K mainGlobals "_law_digits" = some (some (.ref f__law_digits)))
    (l__law_digits : K.lookup f__law_digits = some ⟨oc__law_digits, od__law_digits, .func (PySem.W.fnOf "_law_digits" "_law_digits" (defArgs s__law_digits) (defBody s__law_digits) (defScope s__law_digits) .none kV__law_digits dc__law_digits pm__law_digits an__law_digits cd__law_digits ct__law_digits), sl__law_digits⟩)
    (c__law_digits : PySem.W.codeIn K cd__law_digits "_law_digits" = true)
    (k__law_digits : PySem.W.keepIn K (.ref f__law_digits) = true)
    (a__law_cells : PySem.W.nsIn K mainGlobals "_law_cells" = some (some (.ref f__law_cells)))
    (l__law_cells : K.lookup f__law_cells = some ⟨oc__law_cells, od__law_cells, .func (PySem.W.fnOf "_law_cells" "_law_cells" (defArgs s__law_cells) (defBody s__law_cells) (defScope s__law_cells) .none kV__law_cells dc__law_cells pm__law_cells an__law_cells cd__law_cells ct__law_cells), sl__law_cells⟩)
    (c__law_cells : PySem.W.codeIn K cd__law_cells "_law_cells" = true)
    (k__law_cells : PySem.W.keepIn K (.ref f__law_cells) = true)
    (a__law_intent : PySem.W.nsIn K mainGlobals "_law_intent" = some (some (.ref f__law_intent)))
    (l__law_intent : K.lookup f__law_intent = some ⟨oc__law_intent, od__law_intent, .func (PySem.W.fnOf "_law_intent" "_law_intent" (defArgs s__law_intent) (defBody s__law_intent) (defScope s__law_intent) .none kV__law_intent dc__law_intent pm__law_intent an__law_intent cd__law_intent ct__law_intent), sl__law_intent⟩)
    (c__law_intent : PySem.W.codeIn K cd__law_intent "_law_intent" = true)
    (k__law_intent : PySem.W.keepIn K (.ref f__law_intent) = true)
    (a__law_appended : PySem.W.nsIn K mainGlobals "_law_appended" = some (some (.ref f__law_appended)))
    (l__law_appended : K.lookup f__law_appended = some ⟨oc__law_appended, od__law_appended, .func (PySem.W.fnOf "_law_appended" "_law_appended" (defArgs s__law_appended) (defBody s__law_appended) (defScope s__law_appended) .none kV__law_appended dc__law_appended pm__law_appended an__law_appended cd__law_appended ct__law_appended), sl__law_appended⟩)
    (c__law_appended : PySem.W.codeIn K cd__law_appended "_law_appended" = true)
    (k__law_appended : PySem.W.keepIn K (.ref f__law_appended) = true)
    (a__law_writes : PySem.W.nsIn K mainGlobals "_law_writes" = some (some (.ref f__law_writes)))
    (l__law_writes : K.lookup f__law_writes = some ⟨oc__law_writes, od__law_writes, .func (PySem.W.fnOf "_law_writes" "_law_writes" (defArgs s__law_writes) (defBody s__law_writes) (defScope s__law_writes) .none kV__law_writes dc__law_writes pm__law_writes an__law_writes cd__law_writes ct__law_writes), sl__law_writes⟩)
    (c__law_writes : PySem.W.codeIn K cd__law_writes "_law_writes" = true)
    (k__law_writes : PySem.W.keepIn K (.ref f__law_writes) = true)
    (a__law_same : PySem.W.nsIn K mainGlobals "_law_same" = some (some (.ref f__law_same)))
    (l__law_same : K.lookup f__law_same = some ⟨oc__law_same, od__law_same, .func (PySem.W.fnOf "_law_same" "_law_same" (defArgs s__law_same) (defBody s__law_same) (defScope s__law_same) .none kV__law_same dc__law_same pm__law_same an__law_same cd__law_same ct__law_same), sl__law_same⟩)
    (c__law_same : PySem.W.codeIn K cd__law_same "_law_same" = true)
    (k__law_same : PySem.W.keepIn K (.ref f__law_same) = true)
    (a_law : PySem.W.nsIn K mainGlobals "law" = some (some (.ref f_law)))
    (l_law : K.lookup f_law = some ⟨oc_law, od_law, .func (PySem.W.fnOf "law" "law" (defArgs s_law) (defBody s_law) (defScope s_law) .none kV_law dc_law pm_law an_law cd_law ct_law), sl_law⟩)
    (c_law : PySem.W.codeIn K cd_law "law" = true)
    (k_law : PySem.W.keepIn K (.ref f_law) = true)
    (pg_Log : PySem.W.plainGet K C_Log Str.empty = true)
    (hd_Log : PySem.W.hasDictIn K C_Log = true)
    (po_Log : PySem.W.plainOver K C_Log = true)
    (sa_Log : PySem.W.findIn K (.ref C_Log) "__setattr__" = some (some (.builtin "object.__setattr__")))
    (mk_Log : PySem.W.makesIn K C_Log = true)
    (kc_Log : PySem.W.keepIn K (.ref C_Log) = true)
    (n_bool : PySem.W.nsIn K mainGlobals "bool" = some none)
    (n_int : PySem.W.nsIn K mainGlobals "int" = some none)
    (n_isinstance : PySem.W.nsIn K mainGlobals "isinstance" = some none)
    (n_len : PySem.W.nsIn K mainGlobals "len" = some none)
    (n_list : PySem.W.nsIn K mainGlobals "list" = some none)
    (n_min : PySem.W.nsIn K mainGlobals "min" = some none)
    (n_range : PySem.W.nsIn K mainGlobals "range" = some none)
    (n_sum : PySem.W.nsIn K mainGlobals "sum" = some none)
    (n_tuple : PySem.W.nsIn K mainGlobals "tuple" = some none)
    (kc_FIRST_SECTOR : PySem.W.nsIn K mainGlobals "FIRST_SECTOR" = some (some (.int 4 t_FIRST_SECTOR)))
    (kc_GROUP : PySem.W.nsIn K mainGlobals "GROUP" = some (some (.int 4 t_GROUP)))
    (kc_LOG_SECTORS : PySem.W.nsIn K mainGlobals "LOG_SECTORS" = some (some (.int 16 t_LOG_SECTORS)))
    (ex_LaminaError : PySem.W.excIn K C_LaminaError [.type "ValueError", .type "Exception", .type "BaseException", .type "object"] "ValueError.__new__" = true)
    (kc_LaminaError : PySem.W.keepIn K (.ref C_LaminaError) = true)
    (sb_LaminaError : PySem.W.subIn K (.ref C_LaminaError) (.type "BaseException") = some true)
    (ty_LaminaError : PySem.W.typeIn K (.ref C_LaminaError) = some (.type "type"))
    (ex_NoSpace : PySem.W.excIn K C_NoSpace [.type "ValueError", .type "Exception", .type "BaseException", .type "object"] "ValueError.__new__" = true)
    (kc_NoSpace : PySem.W.keepIn K (.ref C_NoSpace) = true)
    (sb_NoSpace : PySem.W.subIn K (.ref C_NoSpace) (.type "BaseException") = some true)
    (ty_NoSpace : PySem.W.typeIn K (.ref C_NoSpace) = some (.type "type"))
    (nf_Log_generation : PySem.W.findIn K (.ref C_Log) "generation" = some none)
    (nf_Log_next_record : PySem.W.findIn K (.ref C_Log) "next_record" = some none)
    (nf_Log_next_sector : PySem.W.findIn K (.ref C_Log) "next_sector" = some none)
    (su_LaminaError_LaminaError : PySem.W.subIn K (.ref C_LaminaError) (.ref C_LaminaError) = some true)
    (su_LaminaError_NoSpace : PySem.W.subIn K (.ref C_LaminaError) (.ref C_NoSpace) = some false)
    (su_NoSpace_LaminaError : PySem.W.subIn K (.ref C_NoSpace) (.ref C_LaminaError) = some true)
    (hx_LaminaError : PySem.W.hasDictIn K C_LaminaError = true)
    (hx_NoSpace : PySem.W.hasDictIn K C_NoSpace = true)
    (ne_LaminaError_NoSpace : (Value.ref C_LaminaError == Value.ref C_NoSpace) = false)
    (ga_LaminaError : PySem.W.findIn K (.ref C_LaminaError) "__getattribute__" = some (some (.builtin "BaseException.__getattribute__")))
    (gg_LaminaError : PySem.W.findIn K (.ref C_LaminaError) "__getattr__" = some none)
    (cl_LaminaError : PySem.W.findIn K (.ref C_LaminaError) "__class__" = some (some (.builtin "object.__class__")))
    (om_LaminaError : PySem.W.mroIn K C_LaminaError (.type "object") = some true)
    (ga_NoSpace : PySem.W.findIn K (.ref C_NoSpace) "__getattribute__" = some (some (.builtin "BaseException.__getattribute__")))
    (gg_NoSpace : PySem.W.findIn K (.ref C_NoSpace) "__getattr__" = some none)
    (cl_NoSpace : PySem.W.findIn K (.ref C_NoSpace) "__class__" = some (some (.builtin "object.__class__")))
    (om_NoSpace : PySem.W.mroIn K C_NoSpace (.type "object") = some true)
    (sp_cls : PySem.W.specialIn K (.builtin "object.__class__") "__get__" = some (some (.builtin "getset_descriptor.__get__")))
    (tk_cls : PySem.W.takesIn K (.builtin "object.__class__") = some true) :
    ∃ fd : FuncData, (∀ (s : Shared) (v : Value), BindsTo s fd ⟨[v], []⟩ [("_law_script", v)]) ∧ ∀ base : Heap, K.In base → base.Ns mainGlobals mg → FnOk P w K mg base (L2.CX P w) 5 fa fd ["_law_script"] (spLaw K) := by
  have e := hfa.symm.trans (PySem.W.mg_of X G a_law)
  cases e
  have F_sectors_of := fun_mk (st := s_sectors_of) l_sectors_of c_sectors_of k_sectors_of
  have F_record_sectors := fun_mk (st := s_record_sectors) l_record_sectors c_record_sectors k_record_sectors
  have F_Log___init__ := fun_mk (st := s_Log___init__) l_Log___init__ c_Log___init__ k_Log___init__
  have F_Log_fits := fun_mk (st := s_Log_fits) l_Log_fits c_Log_fits k_Log_fits
  have F_Log_append_records := fun_mk (st := s_Log_append_records) l_Log_append_records c_Log_append_records k_Log_append_records
  have F__law_cell := fun_mk (st := s__law_cell) l__law_cell c__law_cell k__law_cell
  have F__law_digits := fun_mk (st := s__law_digits) l__law_digits c__law_digits k__law_digits
  have F__law_cells := fun_mk (st := s__law_cells) l__law_cells c__law_cells k__law_cells
  have F__law_intent := fun_mk (st := s__law_intent) l__law_intent c__law_intent k__law_intent
  have F__law_appended := fun_mk (st := s__law_appended) l__law_appended c__law_appended k__law_appended
  have F__law_writes := fun_mk (st := s__law_writes) l__law_writes c__law_writes k__law_writes
  have F__law_same := fun_mk (st := s__law_same) l__law_same c__law_same k__law_same
  have F_law := fun_mk (st := s_law) l_law c_law k_law
  let A : Adr := {
    ex := { ({ } : Ex) with Log := C_Log, LaminaError := C_LaminaError, NoSpace := C_NoSpace },
    f_sectors_of := f_sectors_of, d_sectors_of := PySem.W.fnOf "sectors_of" "sectors_of" (defArgs s_sectors_of) (defBody s_sectors_of) (defScope s_sectors_of) .none kV_sectors_of dc_sectors_of pm_sectors_of an_sectors_of cd_sectors_of ct_sectors_of,
    f_record_sectors := f_record_sectors, d_record_sectors := PySem.W.fnOf "record_sectors" "record_sectors" (defArgs s_record_sectors) (defBody s_record_sectors) (defScope s_record_sectors) .none kV_record_sectors dc_record_sectors pm_record_sectors an_record_sectors cd_record_sectors ct_record_sectors,
    f_Log___init__ := f_Log___init__, d_Log___init__ := PySem.W.fnOf "__init__" "Log.__init__" (defArgs s_Log___init__) (defBody s_Log___init__) (defScope s_Log___init__) .none kV_Log___init__ dc_Log___init__ pm_Log___init__ an_Log___init__ cd_Log___init__ ct_Log___init__,
    f_Log_fits := f_Log_fits, d_Log_fits := PySem.W.fnOf "fits" "Log.fits" (defArgs s_Log_fits) (defBody s_Log_fits) (defScope s_Log_fits) .none kV_Log_fits dc_Log_fits pm_Log_fits an_Log_fits cd_Log_fits ct_Log_fits,
    f_Log_append_records := f_Log_append_records, d_Log_append_records := PySem.W.fnOf "append_records" "Log.append_records" (defArgs s_Log_append_records) (defBody s_Log_append_records) (defScope s_Log_append_records) .none kV_Log_append_records dc_Log_append_records pm_Log_append_records an_Log_append_records cd_Log_append_records ct_Log_append_records,
    f__law_cell := f__law_cell, d__law_cell := PySem.W.fnOf "_law_cell" "_law_cell" (defArgs s__law_cell) (defBody s__law_cell) (defScope s__law_cell) .none kV__law_cell dc__law_cell pm__law_cell an__law_cell cd__law_cell ct__law_cell,
    f__law_digits := f__law_digits, d__law_digits := PySem.W.fnOf "_law_digits" "_law_digits" (defArgs s__law_digits) (defBody s__law_digits) (defScope s__law_digits) .none kV__law_digits dc__law_digits pm__law_digits an__law_digits cd__law_digits ct__law_digits,
    f__law_cells := f__law_cells, d__law_cells := PySem.W.fnOf "_law_cells" "_law_cells" (defArgs s__law_cells) (defBody s__law_cells) (defScope s__law_cells) .none kV__law_cells dc__law_cells pm__law_cells an__law_cells cd__law_cells ct__law_cells,
    f__law_intent := f__law_intent, d__law_intent := PySem.W.fnOf "_law_intent" "_law_intent" (defArgs s__law_intent) (defBody s__law_intent) (defScope s__law_intent) .none kV__law_intent dc__law_intent pm__law_intent an__law_intent cd__law_intent ct__law_intent,
    f__law_appended := f__law_appended, d__law_appended := PySem.W.fnOf "_law_appended" "_law_appended" (defArgs s__law_appended) (defBody s__law_appended) (defScope s__law_appended) .none kV__law_appended dc__law_appended pm__law_appended an__law_appended cd__law_appended ct__law_appended,
    f__law_writes := f__law_writes, d__law_writes := PySem.W.fnOf "_law_writes" "_law_writes" (defArgs s__law_writes) (defBody s__law_writes) (defScope s__law_writes) .none kV__law_writes dc__law_writes pm__law_writes an__law_writes cd__law_writes ct__law_writes,
    f__law_same := f__law_same, d__law_same := PySem.W.fnOf "_law_same" "_law_same" (defArgs s__law_same) (defBody s__law_same) (defScope s__law_same) .none kV__law_same dc__law_same pm__law_same an__law_same cd__law_same ct__law_same,
    f_law := fa, d_law := PySem.W.fnOf "law" "law" (defArgs s_law) (defBody s_law) (defScope s_law) .none kV_law dc_law pm_law an_law cd_law ct_law }
  have T : Top K mg A := {
    F_sectors_of := F_sectors_of,
    b_sectors_of := F_sectors_of.binds (ps := ["intent"]) fun _ _ _ _ _ _ us hl => match us, hl with | [_], _ => rfl,
    g_sectors_of := PySem.W.mg_of X G a_sectors_of,
    F_record_sectors := F_record_sectors,
    b_record_sectors := F_record_sectors.binds (ps := ["intent", "record", "generation"]) fun _ _ _ _ _ _ us hl => match us, hl with | [_, _, _], _ => rfl,
    g_record_sectors := PySem.W.mg_of X G a_record_sectors,
    F_Log___init__ := F_Log___init__,
    b_Log___init__ := F_Log___init__.binds (ps := ["self", "generation"]) fun _ _ _ _ _ _ us hl => match us, hl with | [_, _], _ => rfl,
    F_Log_fits := F_Log_fits,
    b_Log_fits := F_Log_fits.binds (ps := ["self", "intents"]) fun _ _ _ _ _ _ us hl => match us, hl with | [_, _], _ => rfl,
    m_Log_fits := ⟨a_Log_fits, i_Log_fits, k_Log_fits⟩,
    F_Log_append_records := F_Log_append_records,
    b_Log_append_records := F_Log_append_records.binds (ps := ["self", "intents"]) fun _ _ _ _ _ _ us hl => match us, hl with | [_, _], _ => rfl,
    m_Log_append_records := ⟨a_Log_append_records, i_Log_append_records, k_Log_append_records⟩,
    F__law_cell := F__law_cell,
    b__law_cell := F__law_cell.binds (ps := ["_law_script", "_law_k"]) fun _ _ _ _ _ _ us hl => match us, hl with | [_, _], _ => rfl,
    g__law_cell := PySem.W.mg_of X G a__law_cell,
    F__law_digits := F__law_digits,
    b__law_digits := F__law_digits.binds (ps := ["_law_cell_here", "_law_bases"]) fun _ _ _ _ _ _ us hl => match us, hl with | [_, _], _ => rfl,
    g__law_digits := PySem.W.mg_of X G a__law_digits,
    F__law_cells := F__law_cells,
    b__law_cells := F__law_cells.binds (ps := ["_law_row", "_law_size"]) fun _ _ _ _ _ _ us hl => match us, hl with | [_, _], _ => rfl,
    g__law_cells := PySem.W.mg_of X G a__law_cells,
    F__law_intent := F__law_intent,
    b__law_intent := F__law_intent.binds (ps := ["_law_cell_here", "_law_most"]) fun _ _ _ _ _ _ us hl => match us, hl with | [_, _], _ => rfl,
    g__law_intent := PySem.W.mg_of X G a__law_intent,
    F__law_appended := F__law_appended,
    b__law_appended := F__law_appended.binds (ps := ["_law_log", "_law_intents"]) fun _ _ _ _ _ _ us hl => match us, hl with | [_, _], _ => rfl,
    g__law_appended := PySem.W.mg_of X G a__law_appended,
    F__law_writes := F__law_writes,
    b__law_writes := F__law_writes.binds (ps := ["_law_intents", "_law_sector", "_law_record", "_law_generation"]) fun _ _ _ _ _ _ us hl => match us, hl with | [_, _, _, _], _ => rfl,
    g__law_writes := PySem.W.mg_of X G a__law_writes,
    F__law_same := F__law_same,
    b__law_same := F__law_same.binds (ps := ["_law_told", "_law_due"]) fun _ _ _ _ _ _ us hl => match us, hl with | [_, _], _ => rfl,
    g__law_same := PySem.W.mg_of X G a__law_same,
    F_law := F_law,
    b_law := F_law.binds (ps := ["_law_script"]) fun _ _ _ _ _ _ us hl => match us, hl with | [_], _ => rfl,
    g_law := PySem.W.mg_of X G a_law,
    c_Log := ⟨pg_Log, hd_Log, po_Log, sa_Log⟩,
    M_Log := ⟨mk_Log, a_Log___init__, i_Log___init__, kc_Log⟩,
    gC_Log := PySem.W.mg_of X G aC_Log,
    n_bool := PySem.W.mg_none_of X G n_bool,
    n_int := PySem.W.mg_none_of X G n_int,
    n_isinstance := PySem.W.mg_none_of X G n_isinstance,
    n_len := PySem.W.mg_none_of X G n_len,
    n_list := PySem.W.mg_none_of X G n_list,
    n_min := PySem.W.mg_none_of X G n_min,
    n_range := PySem.W.mg_none_of X G n_range,
    n_sum := PySem.W.mg_none_of X G n_sum,
    n_tuple := PySem.W.mg_none_of X G n_tuple,
    k_FIRST_SECTOR := ⟨_, PySem.W.mg_of X G kc_FIRST_SECTOR⟩,
    k_GROUP := ⟨_, PySem.W.mg_of X G kc_GROUP⟩,
    k_LOG_SECTORS := ⟨_, PySem.W.mg_of X G kc_LOG_SECTORS⟩,
    x_LaminaError := ⟨ex_LaminaError, PySem.W.mg_of X G aC_LaminaError, kc_LaminaError, sb_LaminaError, ty_LaminaError⟩,
    x_NoSpace := ⟨ex_NoSpace, PySem.W.mg_of X G aC_NoSpace, kc_NoSpace, sb_NoSpace, ty_NoSpace⟩,
    n_Log_generation := nf_Log_generation,
    n_Log_next_record := nf_Log_next_record,
    n_Log_next_sector := nf_Log_next_sector,
    fa := { fa0 := trivial, te_LaminaError_LaminaError := PySem.W.exm_ref sb_LaminaError hx_LaminaError ty_LaminaError su_LaminaError_LaminaError, te_NoSpace_LaminaError := PySem.W.exm_ref sb_LaminaError hx_LaminaError ty_LaminaError su_NoSpace_LaminaError, kt_LaminaError_NoSpace := kit_ne ne_LaminaError_NoSpace sb_NoSpace hx_NoSpace ty_NoSpace su_LaminaError_NoSpace, kt_NoSpace_NoSpace := kit_same, xc_LaminaError := ⟨ga_LaminaError, gg_LaminaError, sb_LaminaError, hx_LaminaError, cl_LaminaError, sp_cls, tk_cls, om_LaminaError⟩, xc_NoSpace := ⟨ga_NoSpace, gg_NoSpace, sb_NoSpace, hx_NoSpace, cl_NoSpace, sp_cls, tk_cls, om_NoSpace⟩ } }
  exact ⟨_, fun s v => .of_eq rfl, fun base _ _ => ok_law (A := A) T⟩
theorem walk {l : PySem.W.OpenLaw} {q : Program} {loose : List Str} {XP : (Str → Option Value) → Heap → Prop} {YP : World → Heap → Prop} {d : DefRec} {K : Params → PySem.W.Frag} (hn : l.most = some 63) (hdf : d.params.defaults = [])
    (hY : ∀ (w : World) (h : Heap), YP w h → (K w.params).In h)
    (F : ∀ (w : World) (mg : Str → Option Value) (fa : Addr) (h : Heap), (K w.params).In h → h.Ns mainGlobals mg → mg d.name = some (.ref fa) →
      ∃ fd : FuncData, (∀ (s : Shared) (u : Value), BindsTo s fd ⟨[u], []⟩ [("_law_script", u)]) ∧ ∀ base : Heap, (K w.params).In base → base.Ns mainGlobals mg → FnOk l.prog w (K w.params) mg base (L2.CX l.prog w) 5 fa fd ["_law_script"] (spLaw (K w.params))) :
    PySem.W.WalkO q loose XP YP l.row.toRowW d [] (fun f vs => PySem.call f vs) :=
  L2.walk_of (n := 63) (k := 5) (x := "_law_script") (CX := fun w => L2.CX l.prog w) (sp := fun w => spLaw (K w.params)) hn (by decide) hdf ⟨rfl, by decide, by decide⟩ hY F (fun _ _ a ns hl _ hS => ⟨_, rfl, a, ns, rfl, hS, hl, fun _ => rfl⟩) fun _ _ _ _ _ ⟨_, _, _, _, _, _, _, _, _, _, _, _, z⟩ => z
end Lam
open PySem PySem.W PyProof.Rows
set_option maxRecDepth 100000 in
set_option maxHeartbeats 0 in
theorem PySem.Challenge.cw_laminae_k70_room_of_the_log_holds : PySem.Challenge.rw_laminae_k70_room_of_the_log.Holds := by
  w_on; o_law; k_head; (case hw => w_witness2)
  k_fill
  refine Lam.walk (l := PySem.Challenge.rw_laminae_k70_room_of_the_log) rfl rfl (fun w h Y => PySem.W.kIn_of Y) ?F
  case F =>
    intro w mg fa h KX G hmg
    refine' Lam.all_mk KX G hmg ?aC_Log ?aC_LaminaError ?aC_NoSpace ?a_sectors_of ?l_sectors_of ?c_sectors_of ?k_sectors_of ?a_record_sectors ?l_record_sectors ?c_record_sectors ?k_record_sectors ?a_Log___init__ ?i_Log___init__ ?l_Log___init__ ?c_Log___init__ ?k_Log___init__ ?a_Log_fits ?i_Log_fits ?l_Log_fits ?c_Log_fits ?k_Log_fits ?a_Log_append_records ?i_Log_append_records ?l_Log_append_records ?c_Log_append_records ?k_Log_append_records ?a__law_cell ?l__law_cell ?c__law_cell ?k__law_cell ?a__law_digits ?l__law_digits ?c__law_digits ?k__law_digits ?a__law_cells ?l__law_cells ?c__law_cells ?k__law_cells ?a__law_intent ?l__law_intent ?c__law_intent ?k__law_intent ?a__law_appended ?l__law_appended ?c__law_appended ?k__law_appended ?a__law_writes ?l__law_writes ?c__law_writes ?k__law_writes ?a__law_same ?l__law_same ?c__law_same ?k__law_same ?a_law ?l_law ?c_law ?k_law ?pg_Log ?hd_Log ?po_Log ?sa_Log ?mk_Log ?kc_Log ?n_bool ?n_int ?n_isinstance ?n_len ?n_list ?n_min ?n_range ?n_sum ?n_tuple ?kc_FIRST_SECTOR ?kc_GROUP ?kc_LOG_SECTORS ?ex_LaminaError ?kc_LaminaError ?sb_LaminaError ?ty_LaminaError ?ex_NoSpace ?kc_NoSpace ?sb_NoSpace ?ty_NoSpace ?nf_Log_generation ?nf_Log_next_record ?nf_Log_next_sector ?su_LaminaError_LaminaError ?su_LaminaError_NoSpace ?su_NoSpace_LaminaError ?hx_LaminaError ?hx_NoSpace ?ne_LaminaError_NoSpace ?ga_LaminaError ?gg_LaminaError ?cl_LaminaError ?om_LaminaError ?ga_NoSpace ?gg_NoSpace ?cl_NoSpace ?om_NoSpace ?sp_cls ?tk_cls
    (case aC_Log => k_is); (case aC_LaminaError => k_is); (case aC_NoSpace => k_is); (case a_sectors_of => k_is); (case l_sectors_of => k_is); (case c_sectors_of => k_is)
    (case k_sectors_of => k_is); (case a_record_sectors => k_is); (case l_record_sectors => k_is); (case c_record_sectors => k_is); (case k_record_sectors => k_is); (case a_Log___init__ => k_is)
    (case i_Log___init__ => k_is); (case l_Log___init__ => k_is); (case c_Log___init__ => k_is); (case k_Log___init__ => k_is); (case a_Log_fits => k_is); (case i_Log_fits => k_is)
    (case l_Log_fits => k_is); (case c_Log_fits => k_is); (case k_Log_fits => k_is); (case a_Log_append_records => k_is); (case i_Log_append_records => k_is); (case l_Log_append_records => k_is)
    (case c_Log_append_records => k_is); (case k_Log_append_records => k_is); (case a__law_cell => k_is); (case l__law_cell => k_is); (case c__law_cell => k_is); (case k__law_cell => k_is)
    (case a__law_digits => k_is); (case l__law_digits => k_is); (case c__law_digits => k_is); (case k__law_digits => k_is); (case a__law_cells => k_is); (case l__law_cells => k_is)
    (case c__law_cells => k_is); (case k__law_cells => k_is); (case a__law_intent => k_is); (case l__law_intent => k_is); (case c__law_intent => k_is); (case k__law_intent => k_is)
    (case a__law_appended => k_is); (case l__law_appended => k_is); (case c__law_appended => k_is); (case k__law_appended => k_is); (case a__law_writes => k_is); (case l__law_writes => k_is)
    (case c__law_writes => k_is); (case k__law_writes => k_is); (case a__law_same => k_is); (case l__law_same => k_is); (case c__law_same => k_is); (case k__law_same => k_is)
    (case a_law => k_is); (case l_law => k_is); (case c_law => k_is); (case k_law => k_is); (case pg_Log => k_is); (case hd_Log => k_is)
    (case po_Log => k_is); (case sa_Log => k_is); (case mk_Log => k_is); (case kc_Log => k_is); (case n_bool => k_is); (case n_int => k_is)
    (case n_isinstance => k_is); (case n_len => k_is); (case n_list => k_is); (case n_min => k_is); (case n_range => k_is); (case n_sum => k_is)
    (case n_tuple => k_is); (case kc_FIRST_SECTOR => k_is); (case kc_GROUP => k_is); (case kc_LOG_SECTORS => k_is); (case ex_LaminaError => k_exc); (case kc_LaminaError => k_is)
    (case sb_LaminaError => k_is); (case ty_LaminaError => k_is); (case ex_NoSpace => k_exc); (case kc_NoSpace => k_is); (case sb_NoSpace => k_is); (case ty_NoSpace => k_is)
    (case nf_Log_generation => k_is); (case nf_Log_next_record => k_is); (case nf_Log_next_sector => k_is); (case su_LaminaError_LaminaError => k_is); (case su_LaminaError_NoSpace => k_is); (case su_NoSpace_LaminaError => k_is)
    (case hx_LaminaError => k_is); (case hx_NoSpace => k_is); (case ne_LaminaError_NoSpace => decide); (case ga_LaminaError => k_is); (case gg_LaminaError => k_is); (case cl_LaminaError => k_is)
    (case om_LaminaError => k_is); (case ga_NoSpace => k_is); (case gg_NoSpace => k_is); (case cl_NoSpace => k_is); (case om_NoSpace => k_is); (case sp_cls => k_is)
    (case tk_cls => k_is)
#print axioms PySem.Challenge.cw_laminae_k70_room_of_the_log_holds
