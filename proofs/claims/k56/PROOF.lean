import PyProof.Rows.All
import Wide.All
import OpenK.AllK
import Wide.FinOn
import HandS.ForMost
import HandS.ForExc
import HandS.TupLe
import HandS.IsInst
import HandS.Small
import HandS.Wide
import HandS.ExcIs
import HandS.DictComp
import HandS.Rev
import HandS.Codes
import HandS.HotCalls
import HandS.SortInts
import KE.Datum
import PySem.Challenge.RW_laminae_k56_processes
set_option Elab.async false
set_option linter.all false
set_option maxRecDepth 100000
set_option maxHeartbeats 4000000
namespace U
open PySem PySem.Spec PyProof.Rows L2
section weaken
variable {X : Cx}
theorem orR {f : Value → Value → Sem Value} {r r' : R2} (h : OpR X f r) (g : OpR X f r') : OpR X f (fun x y H Q => r x y H Q ∨ r' x y H Q) :=
  fun pins s σ H x y v u Q I rx ry q => q.elim (h pins s σ H x y v u Q I rx ry) (g pins s σ H x y v u Q I rx ry)
theorem wR {f : Value → Value → Sem Value} {r r' : R2} (h : OpR X f r) (k : ∀ x y H Q, r' x y H Q → r x y H Q) : OpR X f r' :=
  fun pins s σ H x y v u Q I rx ry q => h pins s σ H x y v u Q I rx ry (k _ _ _ _ q)
theorem wC {f : Value} {r r' : List V → Hp → VK → Prop} (h : CallR X f r) (k : ∀ xs H Q, r' xs H Q → r xs H Q) : CallR X f r' :=
  fun pins s σ H xs us Q I rx q => h pins s σ H xs us Q I rx (k _ _ _ q)
theorem orC {f : Value} {r r' : List V → Hp → VK → Prop} (h : CallR X f r) (g : CallR X f r') : CallR X f (fun xs H Q => r xs H Q ∨ r' xs H Q) :=
  fun pins s σ H xs us Q I rx q => q.elim (h pins s σ H xs us Q I rx) (g pins s σ H xs us Q I rx)
end weaken
def tCut (t u : TS) : TS := C8.tCut t u
theorem pss_cut {X : Cx} {st : Stmt} {rest : List Stmt} {t u : TS} (h1 : PS X st t) (h2 : PSs X rest u) : PSs X (st :: rest) (tCut t u) := C8.pss_cut h1 h2
section ops
variable {X : Cx}
def uAdd (K : PySem.W.Frag) : R2 := fun x y H Q => match x, y with
  | .int i, .int j => Q (.int (i + j)) H
  | .str i, .str j => i.length + j.length ≤ sizeLine ∧ Q (.str (i ++ j)) H
  | .ref a, .ref b => rCat (.ref a) (.ref b) H Q ∨ rCatT K (.ref a) (.ref b) H Q
  | _, _ => False
theorem o_add : OpR X (binaryOp .Add) (uAdd X.K) := by
  refine wR (orR op_add (orR op_add_str (orR op_cat op_catT))) fun x y H Q q => ?_
  unfold uAdd at q
  split at q
  · exact .inl ⟨_, _, rfl, rfl, q⟩
  · exact .inr (.inl ⟨_, _, rfl, rfl, q⟩)
  · exact .inr (.inr q)
  · exact q.elim
def uSub : R2 := fun x y H Q => match x, y with
  | .int i, .int j => Q (.int (i - j)) H
  | _, _ => False
theorem o_sub : OpR X (binaryOp .Sub) uSub := by
  refine wR op_sub fun x y H Q q => ?_
  unfold uSub at q
  split at q
  · exact ⟨_, _, rfl, rfl, q⟩
  · exact q.elim
def uMul : R2 := fun x y H Q => match x, y with
  | .int i, .int j => (CMul i j ∨ CMulW i j) ∧ Q (.int (i * j)) H
  | .str z, .int n => MulOk z n ∧ Q (.str (Txt.mul z n)) H
  | .ref a, .int n => rRep (.ref a) (.int n) H Q
  | _, _ => False
def uDiv : R2 := fun x y H Q => match x, y with
  | .int i, .int j => (0 < j ∧ j < 2 ^ 200) ∧ Q (.int (i / j)) H
  | _, _ => False
theorem o_div : OpR X (binaryOp .FloorDiv) uDiv := by
  refine wR op_fdivW fun x y H Q q => ?_
  unfold uDiv at q
  split at q
  · obtain ⟨⟨c1, c2⟩, q⟩ := q
    exact ⟨_, _, rfl, rfl, wide_div (b := 200) c1 (by omega) (by decide) (by decide), q⟩
  · exact q.elim
def uMod : R2 := fun x y H Q => match x, y with
  | .int i, .int j => 0 < j ∧ Q (.int (i % j)) H
  | _, _ => False
theorem o_mod : OpR X (binaryOp .Mod) uMod := by
  refine wR op_mod fun x y H Q q => ?_
  unfold uMod at q
  split at q
  · exact ⟨_, _, rfl, rfl, q⟩
  · exact q.elim
def uPow : R2 := fun x y H Q => match x, y with
  | .int i, .int j => CPow i j ∧ Q (.int (i ^ j.toNat)) H
  | _, _ => False
def uNeg : V → Hp → VK → Prop := fun x H Q => match x with
  | .int i => Q (.int (-i)) H
  | _ => False
theorem o_neg : UnR X (unaryOp .USub) uNeg := fun pins s σ H x v Q I rx q => by
  unfold uNeg at q
  split at q
  · exact un_neg pins s σ H _ v Q I rx ⟨_, rfl, q⟩
  · exact q.elim
/-- == of data without dicts -/
def rEqP (K : PySem.W.Frag) : R2 := fun x y H Q => ∃ d e, Dp K H x d ∧ Dp K H y e ∧ (d.plain = true ∧ d.depth ≤ 60) ∧ e.plain = true ∧ Q (.bl (PyData.eqv d e)) H
def rNeP (K : PySem.W.Frag) : R2 := fun x y H Q => ∃ d e, Dp K H x d ∧ Dp K H y e ∧ (d.plain = true ∧ d.depth ≤ 60) ∧ e.plain = true ∧ Q (.bl (!PyData.eqv d e)) H
theorem op_eqP (hu : X.A.units + 64 < cLine) : OpR X (compareOp .Eq) (rEqP X.K) := by
  intro pins s σ H x y v u Q I rx ry h
  obtain ⟨d, e, hd, he, ⟨p1, dp⟩, p2, q⟩ := h
  obtain ⟨as, r1⟩ := Dp.reads I d x v hd rx
  obtain ⟨bs, r2⟩ := Dp.reads I e y u he ry
  exact PySem.SeqAt.eq_plain r1 r2 p1 p2 (by have := Nat.min_le_left d.depth e.depth; omega) ⟨.bl _, H, I, rfl, q⟩
theorem op_neP (hu : X.A.units + 64 < cLine) : OpR X (compareOp .NotEq) (rNeP X.K) := by
  intro pins s σ H x y v u Q I rx ry h
  obtain ⟨d, e, hd, he, ⟨p1, dp⟩, p2, q⟩ := h
  obtain ⟨as, r1⟩ := Dp.reads I d x v hd rx
  obtain ⟨bs, r2⟩ := Dp.reads I e y u he ry
  exact PySem.SeqAt.ne_plain r1 r2 p1 p2 (by have := Nat.min_le_left d.depth e.depth; omega) ⟨.bl _, H, I, rfl, q⟩
theorem d_int (i j : Int) : decide (V.int i = V.int j) = decide (i = j) := decide_eq_decide.mpr ⟨fun h => V.int.inj h, fun h => h ▸ rfl⟩
theorem d_str (i j : Str) : decide (V.str i = V.str j) = decide (i = j) := decide_eq_decide.mpr ⟨fun h => V.str.inj h, fun h => h ▸ rfl⟩
theorem d_bl (i j : Bool) : decide (V.bl i = V.bl j) = decide (i = j) := decide_eq_decide.mpr ⟨fun h => V.bl.inj h, fun h => h ▸ rfl⟩
/-- the same value, of two scalars -/
def sameS : V → V → Bool
  | .non, .non => true
  | .int i, .int j => decide (i = j)
  | .str i, .str j => decide (i = j)
  | .bl i, .bl j => decide (i = j)
  | .byt i, .byt j => decide (i = j)
  | _, _ => false
theorem sameS_eq {x y : V} (h : scal x y = true) : decide (x = y) = sameS x y := by
  cases x <;> cases y <;> first
    | (cases h; done)
    | exact d_int _ _
    | exact d_str _ _
    | exact d_bl _ _
    | rfl
    | (exact decide_eq_decide.mpr ⟨fun h => V.byt.inj h, fun h => h ▸ rfl⟩)
    | (exact decide_eq_false (fun q => nomatch q))
def uEq (K : PySem.W.Frag) : R2 := fun x y H Q => match x, y with
  | .int i, .int j => Q (.bl (decide (i = j))) H
  | .str i, .str j => Q (.bl (decide (i = j))) H
  | .bl i, .bl j => Q (.bl (decide (i = j))) H
  | x, y => (scal x y = true ∧ Q (.bl (sameS x y)) H) ∨ rEqP K x y H Q
theorem o_eq (hu : X.A.units + 64 < cLine) : OpR X (compareOp .Eq) (uEq X.K) := by
  refine wR (orR op_eq (op_eqP hu)) fun x y H Q q => ?_
  unfold uEq at q
  split at q
  · exact .inl ⟨rfl, (d_int _ _).symm ▸ q⟩
  · exact .inl ⟨rfl, (d_str _ _).symm ▸ q⟩
  · exact .inl ⟨rfl, (d_bl _ _).symm ▸ q⟩
  · rcases q with ⟨h, q⟩ | q
    · exact .inl ⟨h, (sameS_eq h).symm ▸ q⟩
    · exact .inr q
def uNe (K : PySem.W.Frag) : R2 := fun x y H Q => match x, y with
  | .int i, .int j => Q (.bl (!decide (i = j))) H
  | .str i, .str j => Q (.bl (!decide (i = j))) H
  | .bl i, .bl j => Q (.bl (!decide (i = j))) H
  | x, y => (scal x y = true ∧ Q (.bl (!sameS x y)) H) ∨ rNeP K x y H Q
theorem o_ne (hu : X.A.units + 64 < cLine) : OpR X (compareOp .NotEq) (uNe X.K) := by
  refine wR (orR op_ne (op_neP hu)) fun x y H Q q => ?_
  unfold uNe at q
  split at q
  · exact .inl ⟨rfl, (d_int _ _).symm ▸ q⟩
  · exact .inl ⟨rfl, (d_str _ _).symm ▸ q⟩
  · exact .inl ⟨rfl, (d_bl _ _).symm ▸ q⟩
  · rcases q with ⟨h, q⟩ | q
    · exact .inl ⟨h, (sameS_eq h).symm ▸ q⟩
    · exact .inr q
/-- tuples of ints in their order -/
theorem lexAt_eq (ns ms : List Int) (op : Int → Int → Bool) (z : Bool) (f : List Int → List Int → Bool)
    (h0 : ∀ i, i = ns.length ∨ i = ms.length → i ≤ ns.length → i ≤ ms.length → f (ns.drop i) (ms.drop i) = z)
    (h1 : ∀ x xs y ys, f (x :: xs) (y :: ys) = if x = y then f xs ys else op x y) :
    ∀ k i, i + k = min ns.length ms.length → Ob.lexAt (fun j => decide (ns.getD j 0 = ms.getD j 0)) (fun j => op (ns.getD j 0) (ms.getD j 0)) z i k = f (ns.drop i) (ms.drop i)
  | 0, i, h => by
    rw [Ob.lexAt_zero, h0 i (by omega) (by omega) (by omega)]
  | k + 1, i, h => by
    have a : i < ns.length := by omega
    have b : i < ms.length := by omega
    rw [Ob.lexAt_succ, List.drop_eq_getElem_cons a, List.drop_eq_getElem_cons b, h1, lexAt_eq ns ms op z f h0 h1 k (i + 1) (by omega)]
    simp only [List.getD_eq_getElem?_getD, List.getElem?_eq_getElem a, List.getElem?_eq_getElem b, Option.getD_some, decide_eq_true_eq]
def lexLe (a b : List Int) : Bool := !HT.lexLt b a
theorem lexLe_cons (x y : Int) (xs ys : List Int) : lexLe (x :: xs) (y :: ys) = if x = y then lexLe xs ys else decide (x ≤ y) := by
  unfold lexLe
  rw [HT.lexLt_cons]
  by_cases h : x = y
  · rw [if_pos h, if_pos h.symm]
  · rw [if_neg h, if_neg (fun e => h e.symm), ← decide_not]
    exact decide_eq_decide.mpr (by omega)
theorem lexLe_end (ns ms : List Int) (i : Nat) (h : i = ns.length ∨ i = ms.length) (h1 : i ≤ ns.length) (h2 : i ≤ ms.length) : lexLe (ns.drop i) (ms.drop i) = decide (ns.length ≤ ms.length) := by
  unfold lexLe
  by_cases a : i = ns.length
  · have e : ns.drop i = [] := List.drop_eq_nil_of_le (by omega)
    rw [e, decide_eq_true (by omega)]
    cases ms.drop i <;> rfl
  · have e : ms.drop i = [] := List.drop_eq_nil_of_le (by omega)
    rw [e, decide_eq_false (by omega)]
    cases e2 : ns.drop i with
    | nil => exact absurd (List.drop_eq_nil_iff.mp e2) (by omega)
    | cons x r => rfl
def lexGe (a b : List Int) : Bool := !HT.lexLt a b
theorem lexGe_le (a b : List Int) : lexGe a b = lexLe b a := rfl
theorem lexAt_ge (ns ms : List Int) : Ob.lexAt (fun j => decide (ns.getD j 0 = ms.getD j 0)) (fun j => decide (ns.getD j 0 ≥ ms.getD j 0)) (decide (ns.length ≥ ms.length)) 0 (min ns.length ms.length) = lexGe ns ms := by
  refine lexAt_eq ns ms (fun x y => decide (x ≥ y)) _ lexGe (fun i h a b => ?_) (fun x xs y ys => ?_) _ 0 (by omega)
  · rw [lexGe_le, lexLe_end ms ns i (by omega) b a]
  · rw [lexGe_le, lexLe_cons, lexGe_le]
    by_cases h : x = y
    · rw [if_pos h, if_pos h.symm]
    · rw [if_neg h, if_neg (fun e => h e.symm)]
def rGeT (K : PySem.W.Frag) : R2 := fun x y H Q => ∃ (a b : Addr) (ns ms : List Int), x = .ref a ∧ y = .ref b ∧ SqT K H a (ns.map V.int) ∧ SqT K H b (ms.map V.int) ∧ Q (.bl (lexGe ns ms)) H
theorem ints_at {us : List Value} {ns : List Int} (h : IntsAre us ns) (j : Nat) (h1 : j < us.toArray.size) : ∃ t, us.toArray[j] = .int (ns.getD j 0) t := PyProof.Rows.IntsAre.int_at h _ _ (by simp at h1; simp [h1])
theorem op_geT (hu : X.A.units < cLine) : OpR X (compareOp .GtE) (rGeT X.K) := by
  intro pins s σ H x y v u Q I rx ry h
  obtain ⟨a, b, ns, ms, rfl, rfl, ha, hb, q⟩ := h
  cases rx; cases ry
  obtain ⟨us, r1, p1, _⟩ := I.tuple ha
  obtain ⟨ws, r2, p2, _⟩ := I.tuple hb
  have j1 : IntsAre us ns := Vals.ints r1
  have j2 : IntsAre ws ms := Vals.ints r2
  have n1 : us.toArray.size = ns.length := List.size_toArray.trans j1.length
  have n2 : ws.toArray.size = ms.length := List.size_toArray.trans j2.length
  have R := Ob.RcOp.tuples_ge (A := X.A) (s := s) (e := fun j => decide (ns.getD j 0 = ms.getD j 0)) (r := fun j => decide (ns.getD j 0 ≥ ms.getD j 0)) p1 p2 hu
    (fun j h1 h2 => by
      obtain ⟨t, e1⟩ := ints_at j1 j h1
      obtain ⟨t', e2⟩ := ints_at j2 j h2
      rw [e1, e2, ← Bool.beq_eq_decide_eq]
      exact SeqAt.EqAt.int_int _ _ _ _)
    (fun j h1 h2 _ => by
      obtain ⟨t, e1⟩ := ints_at j1 j h1
      obtain ⟨t', e2⟩ := ints_at j2 j h2
      rw [e1, e2]
      exact Ob.RcOp.ge_int _ _ _ _)
  rw [n1, n2, lexAt_ge] at R
  exact R X.prog X.w X.xe (EP X pins σ Q) ⟨.bl _, H, I, rfl, q⟩
def uLt (K : PySem.W.Frag) : R2 := fun x y H Q => match x, y with
  | .int i, .int j => Q (.bl (decide (i < j))) H
  | .ref a, .ref b => ∃ ns ms : List Int, SqT K H a (ns.map V.int) ∧ SqT K H b (ms.map V.int) ∧ Q (.bl (HT.lexLt ns ms)) H
  | _, _ => False
theorem o_lt (hu : X.A.units < cLine) : OpR X (compareOp .Lt) (uLt X.K) := by
  refine wR (orR op_lt (op_ltT hu)) fun x y H Q q => ?_
  unfold uLt at q
  split at q
  · exact .inl ⟨_, _, rfl, rfl, q⟩
  · obtain ⟨ns, ms, a, b, q⟩ := q
    exact .inr ⟨_, _, ns, ms, rfl, rfl, a, b, q⟩
  · exact q.elim
def uLe (K : PySem.W.Frag) : R2 := fun x y H Q => match x, y with
  | .int i, .int j => Q (.bl (decide (i ≤ j))) H
  | .ref a, .ref b => ∃ ns ms : List Int, SqT K H a (ns.map V.int) ∧ SqT K H b (ms.map V.int) ∧ Q (.bl (lexLe ns ms)) H
  | _, _ => False
def uGe (K : PySem.W.Frag) : R2 := fun x y H Q => match x, y with
  | .int i, .int j => Q (.bl (decide (j ≤ i))) H
  | .ref a, .ref b => ∃ ns ms : List Int, SqT K H a (ns.map V.int) ∧ SqT K H b (ms.map V.int) ∧ Q (.bl (lexGe ns ms)) H
  | _, _ => False
theorem o_ge (hu : X.A.units < cLine) : OpR X (compareOp .GtE) (uGe X.K) := by
  refine wR (orR op_ge (op_geT hu)) fun x y H Q q => ?_
  unfold uGe at q
  split at q
  · exact .inl ⟨_, _, rfl, rfl, q⟩
  · obtain ⟨ns, ms, a, b, q⟩ := q
    exact .inr ⟨_, _, ns, ms, rfl, rfl, a, b, q⟩
  · exact q.elim
def uGt : R2 := fun x y H Q => match x, y with
  | .int i, .int j => Q (.bl (decide (j < i))) H
  | _, _ => False
def isNon : V → Bool
  | .non => true
  | _ => false
def uIs : R2 := fun x y H Q => match y with
  | .non => Q (.bl (isNon x)) H
  | .bl b => ∃ a, x = .bl a ∧ Q (.bl (decide (a = b))) H
  | _ => False
def uIsnt : R2 := fun x y H Q => match y with
  | .non => Q (.bl (!isNon x)) H
  | .bl b => ∃ a, x = .bl a ∧ Q (.bl (!decide (a = b))) H
  | _ => False
theorem op_inD (hu : X.A.units + 1 < cLine) : OpR X (compareOp .In) (fun x y H Q => ∃ a o, y = .ref a ∧ DGet H a x o ∧ Q (.bl o.isSome) H) := by
  intro pins s σ H x y v u Q I rx ry h
  obtain ⟨a, o, rfl, g, q⟩ := h
  cases ry
  exact d_in hu I g rx fun s' I' => ⟨.bl o.isSome, H, I', rfl, q⟩
theorem op_ninD (hu : X.A.units + 1 < cLine) : OpR X (compareOp .NotIn) (fun x y H Q => ∃ a o, y = .ref a ∧ DGet H a x o ∧ Q (.bl (!o.isSome)) H) := by
  intro pins s σ H x y v u Q I rx ry h
  obtain ⟨a, o, rfl, g, q⟩ := h
  cases ry
  exact d_notIn hu I g rx fun s' I' => ⟨.bl (!o.isSome), H, I', rfl, q⟩
/-- in a list, a tuple of scalars; a dict -/
def uIn (K : PySem.W.Frag) : R2 := fun x y H Q => match y with
  | .ref a => (∃ xs, (SqL K H a xs ∨ SqT K H a xs) ∧ flatV x = true ∧ xs.all flatV = true ∧ Q (.bl (inV x xs)) H) ∨ ∃ o, DGet H a x o ∧ Q (.bl o.isSome) H
  | _ => False
theorem o_in (hu : X.A.units + 1 < cLine) : OpR X (compareOp .In) (uIn X.K) := by
  refine wR (orR op_in_seq (op_inD hu)) fun x y H Q q => ?_
  unfold uIn at q
  split at q
  · rcases q with ⟨xs, a, b, c, q⟩ | ⟨o, g, q⟩
    · exact .inl ⟨_, xs, rfl, a, b, c, q⟩
    · exact .inr ⟨_, o, rfl, g, q⟩
  · exact q.elim
def uNin (K : PySem.W.Frag) : R2 := fun x y H Q => match y with
  | .ref a => (∃ xs, (SqL K H a xs ∨ SqT K H a xs) ∧ flatV x = true ∧ xs.all flatV = true ∧ Q (.bl (!inV x xs)) H) ∨ ∃ o, DGet H a x o ∧ Q (.bl (!o.isSome)) H
  | _ => False
theorem o_nin (hu : X.A.units + 1 < cLine) : OpR X (compareOp .NotIn) (uNin X.K) := by
  refine wR (orR op_notIn_seq (op_ninD hu)) fun x y H Q q => ?_
  unfold uNin at q
  split at q
  · rcases q with ⟨xs, a, b, c, q⟩ | ⟨o, g, q⟩
    · exact .inl ⟨_, xs, rfl, a, b, c, q⟩
    · exact .inr ⟨_, o, rfl, g, q⟩
  · exact q.elim
end ops
section subs
variable {X : Cx}
/-- a[b] of lists, tuples, texts -/
def uIx (K : PySem.W.Frag) : R2 := fun x y H Q => match x, y with
  | .ref p, .int i => ∃ xs v, (SqL K H p xs ∨ SqT K H p xs) ∧ atI xs i = some v ∧ Q v H
  | .str z, .int i => z.length ≤ sizeLine ∧ ∃ c, atI z.cps.toList i = some c ∧ Q (.str ⟨#[c]⟩) H
  | _, _ => False
theorem ix_u : IxR X (uIx X.K) := by
  intro value slice pins s σ H x y v u Q I rx ry h hs
  refine ix_seq value slice pins s σ H x y v u Q I rx ry ?_ hs
  unfold uIx at h
  split at h
  · obtain ⟨xs, v, e | e, g, q⟩ := h
    · exact .inl ⟨_, xs, _, v, rfl, rfl, e, g, q⟩
    · exact .inr (.inl ⟨_, xs, _, v, rfl, rfl, e, g, q⟩)
  · obtain ⟨z, c, e, q⟩ := h
    exact .inr (.inr ⟨_, _, c, rfl, rfl, z, e, q⟩)
  · exact h.elim
theorem e_ix {a b : Expr} {ta tb : TE} {pos : Pos} (ha : PE X a ta) (hb : PE X b tb) (hs : PlainIx b := by exact fun _ _ => rfl) : PE X (.Subscript a b pos) (tOp (uIx X.K) ta tb) := pe_ix ix_u ha hb hs
/-- a[lo:hi] -/
def uSl (K : PySem.W.Frag) : V → Option Int → Option Int → Hp → VK → Prop := fun x lo hi H Q => rSlL K x lo hi H Q ∨ rSlT K x lo hi H Q ∨ rSlS x lo hi H Q
theorem sl_u : SlR X (uSl X.K) := SlR.or sl_list (SlR.or sl_tup sl_str)
theorem e_sl {e : Expr} {lo hi : Option Expr} {te : TE} {tl th : TO} {p2 pos : Pos} (he : PE X e te) (hl : PO X lo tl) (hh : PO X hi th) : PE X (.Subscript e (.Slice lo hi none p2) pos) (tSl (uSl X.K) te tl th) := pe_slice sl_u he hl hh
/-- d[k] -/
theorem e_dg {a b : Expr} {ta tb : TE} {pos : Pos} (hu : X.A.units + 1 < cLine) (ha : PE X a ta) (hb : PE X b tb) (hs : NoSl b := by exact fun _ _ => rfl) : PE X (.Subscript a b pos) (tDGet ta tb) := pe_dget hu ha hb hs
/-- a[i] by values, for a[i] += e -/
def uGet (K : PySem.W.Frag) : V → V → Hp → VK → Prop := fun x y H Q => match x, y with
  | .ref p, .int i => (0 ≤ i ∧ ∃ xs v, SqL K H p xs ∧ xs[i.toNat]? = some v ∧ Q v H) ∨ ∃ v, DGet H p (.int i) (some v) ∧ Q v H
  | .ref p, y => ∃ v, DGet H p y (some v) ∧ Q v H
  | _, _ => False
/-- a[i] = v -/
def uSet : TSet := fun o i v H Q => match o, i with
  | .ref p, .int k => (∃ xs j, H p = some (.lst xs) ∧ ixN xs.length k = some j ∧ Q (upd H p (.lst (xs.set j v)))) ∨ ∃ H', DPut H p (.int k) v H' ∧ Q H'
  | .ref p, i => ∃ H', DPut H p i v H' ∧ Q H'
  | _, _ => False
theorem set_u (hu : X.A.units + 1 < cLine) : PSet X uSet := by
  intro pins s σ H o i v ov iv u Q I ro ri rv h
  unfold uSet at h
  split at h
  · rcases h with ⟨xs, j, e, g, q⟩ | ⟨H', g, q⟩
    · exact set_list pins s σ H _ _ v ov iv u Q I ro ri rv ⟨_, xs, _, j, rfl, rfl, e, g, q⟩
    · exact set_dict hu pins s σ H _ _ v ov iv u Q I ro ri rv ⟨_, H', rfl, g, q⟩
  · obtain ⟨H', g, q⟩ := h
    exact set_dict hu pins s σ H _ _ v ov iv u Q I ro ri rv ⟨_, H', rfl, g, q⟩
  · exact h.elim
end subs
section calls
variable {X : Cx}
/-- len -/
def uLen (K : PySem.W.Frag) : List V → Hp → VK → Prop := fun xs H Q => match xs with
  | [.ref p] => (∃ ys, (SqL K H p ys ∨ SqT K H p ys) ∧ Q (.int ys.length) H) ∨ ∃ kvs, H p = some (.dK kvs) ∧ Q (.int kvs.length) H
  | [.str z] => z.length ≤ sizeLine ∧ Q (.int z.length) H
  | _ => False
theorem c_len : CallR X (.builtin "len") (uLen X.K) := by
  refine wC (orC call_len_seq (orC call_len_str call_lenD)) fun xs H Q q => ?_
  unfold uLen at q
  split at q
  · rcases q with ⟨ys, a, q⟩ | ⟨kvs, a, q⟩
    · exact .inl ⟨_, ys, rfl, a, q⟩
    · exact .inr (.inr ⟨_, kvs, rfl, a, q⟩)
  · exact .inr (.inl ⟨_, rfl, q⟩)
  · exact q.elim
def uAbs : List V → Hp → VK → Prop := fun xs H Q => match xs with
  | [.int i] => Q (.int (if i < 0 then -i else i)) H
  | _ => False
def uMax (K : PySem.W.Frag) : List V → Hp → VK → Prop := fun xs H Q => match xs with
  | [.int i, .int j] => Q (.int (if j > i then j else i)) H
  | [.ref a] => ∃ ns : List Int, SqL K H a (ns.map V.int) ∧ 0 < ns.length ∧ ∀ m, m ∈ ns → (∀ y, y ∈ ns → y ≤ m) → Q (.int m) H
  | _ => False
def uMin (K : PySem.W.Frag) : List V → Hp → VK → Prop := fun xs H Q => match xs with
  | [.int i, .int j] => Q (.int (if j < i then j else i)) H
  | [.ref a] => ∃ ns : List Int, SqL K H a (ns.map V.int) ∧ 0 < ns.length ∧ ∀ m, m ∈ ns → (∀ y, y ∈ ns → m ≤ y) → Q (.int m) H
  | _ => False
def uInt : List V → Hp → VK → Prop := fun xs H Q => match xs with
  | [.int i] => Q (.int i) H
  | [.bl k] => Q (.int (if k then 1 else 0)) H
  | _ => False
theorem c_int : CallR X (.type "int") uInt := by
  refine wC call_int1 fun xs H Q q => ?_
  unfold uInt at q
  split at q
  · exact .inl ⟨_, rfl, q⟩
  · exact .inr ⟨_, rfl, q⟩
  · exact q.elim
inductive Ty | int | bool | str | list | tuple | dict
def Ty.nm : Ty → String
  | .int => "int" | .bool => "bool" | .str => "str" | .list => "list" | .tuple => "tuple" | .dict => "dict"
/-- of a scalar -/
def isS : Ty → V → Bool
  | .int, .int _ => true
  | .int, .bl _ => true
  | .bool, .bl _ => true
  | .str, .str _ => true
  | _, _ => false
/-- of an object that is a list, a tuple, a dict -/
inductive Ob | list | tuple | dict
def Ob.nm : Ob → String
  | .list => "list" | .tuple => "tuple" | .dict => "dict"
def isO : Ty → Ob → Bool
  | .list, .list => true
  | .tuple, .tuple => true
  | .dict, .dict => true
  | _, _ => false
def uIsi (K : PySem.W.Frag) (n : Ty) : List V → Hp → VK → Prop := fun xs H Q => match xs with
  | [.int i, .ty m] => m = n.nm ∧ Q (.bl (isS n (.int i))) H
  | [.bl i, .ty m] => m = n.nm ∧ Q (.bl (isS n (.bl i))) H
  | [.str i, .ty m] => m = n.nm ∧ Q (.bl (isS n (.str i))) H
  | [.non, .ty m] => m = n.nm ∧ Q (.bl (isS n .non)) H
  | [.ref a, .ty m] => m = n.nm ∧ ∃ o : Ob, TyX K H (.ref a) (.type o.nm) ∧ Q (.bl (isO n o)) H
  | _ => False
theorem kit_int : ∀ n : Ty, kitB "int" n.nm = some (isS n (.int 0)) := fun n => by cases n <;> decide +kernel
theorem kit_bool : ∀ n : Ty, kitB "bool" n.nm = some (isS n (.bl true)) := fun n => by cases n <;> decide +kernel
theorem kit_str : ∀ n : Ty, kitB "str" n.nm = some (isS n (.str Str.empty)) := fun n => by cases n <;> decide +kernel
theorem kit_non : ∀ n : Ty, kitB "NoneType" n.nm = some (isS n .non) := fun n => by cases n <;> decide +kernel
theorem kit_obj : ∀ (n : Ty) (o : Ob), kitB o.nm n.nm = some (isO n o) := fun n o => by cases n <;> cases o <;> decide +kernel
theorem c_isi (n : Ty) : CallR X (.builtin "isinstance") (uIsi X.K n) := by
  refine wC call_isi fun xs H Q q => ?_
  unfold uIsi at q
  split at q
  · obtain ⟨rfl, q⟩ := q
    exact ⟨_, _, .type "int", .type n.nm, _, rfl, .ty n.nm, .base (.int _), kit_ty (kit_int n), by cases n <;> exact q⟩
  · obtain ⟨rfl, q⟩ := q
    exact ⟨_, _, .type "bool", .type n.nm, _, rfl, .ty n.nm, .base (.bl _), kit_ty (kit_bool n), by cases n <;> exact q⟩
  · obtain ⟨rfl, q⟩ := q
    exact ⟨_, _, .type "str", .type n.nm, _, rfl, .ty n.nm, .base (.str _), kit_ty (kit_str n), by cases n <;> exact q⟩
  · obtain ⟨rfl, q⟩ := q
    exact ⟨_, _, .type "NoneType", .type n.nm, _, rfl, .ty n.nm, .base .non, kit_ty (kit_non n), by cases n <;> exact q⟩
  · obtain ⟨rfl, o, t, q⟩ := q
    exact ⟨_, _, .type o.nm, .type n.nm, _, rfl, .ty n.nm, t, kit_ty (kit_obj n o), q⟩
  · exact q.elim
end calls
section own
variable {X : Cx} {k : Nat} {f C : Addr} {fd : FuncData} {ps : List Str} {sp : Sp} {W : WX} {x m : Str} {p pos apos : Pos} {e o : Expr} {es : List Expr} {ta : TE} {t : TA}
def uCall (sp : Sp) (W : WX) (t : TA) : TE := fun σ H Q => t σ H fun vs H1 => sp vs H1 Q fun c d H2 => W c d σ H2
theorem e_call (F : FnOk X.prog X.w X.K X.mg X.base (L2.CX X.prog X.w) k f fd ps sp) (hr : Room k X.A) (hm : X.mg x = some (.ref f)) (hk : PySem.W.keepIn X.K (.ref f) = true) (hb : Binds X.K fd ps []) (tk : Takes X W)
    (ha : PA X (e :: es) t) (hg : Gl X x := by rfl) (hdb : (x == ("__debug__" : Str)) = false := by decide) (he : starEach (e :: es) X.env = (false, eval e X.env) :: starEach es X.env := by rfl) (hpl : (backTo pos (starEach es X.env)).any (·.1) = false := by rfl) :
    PE X (.Call (.Name x p) (e :: es) [] pos) (uCall sp W t) := pe_callS (E := WE W) F hr hg hm hk hb (fun σ => passAt tk σ) ha hdb he hpl
/-- o.m(..) -/
def uMeth (C : Addr) (m : Str) (sp : Sp) (W : WX) (ta : TE) (t : TA) : TE := fun σ H Q => ta σ H fun x H1 => ∃ a dx fs, x = .ref a ∧ H1 a = some (.ins C dx fs) ∧ fs.lookup m = none ∧
  t σ H1 fun vs H2 => sp (x :: vs) H2 Q fun c d H3 => W c d σ H3
theorem e_meth {pl : Sem Bool} (ho : PE X o ta) (c : Cls X.K C) (hm : Meth X.K C m f) (F : FnOk X.prog X.w X.K X.mg X.base (L2.CX X.prog X.w) k f fd ps sp) (hr : Room k X.A) (hb : Binds X.K fd ps []) (tk : Takes X W) (ha : PA X (e :: es) t)
    (hst : starEach (e :: es) X.env = (false, eval e X.env) :: starEach es X.env := by rfl) (hpl : (backTo pos (starEach es X.env)).any (·.1) = false := by rfl)
    (ht : eval (.Call (.Attribute o m apos) (e :: es) [] pos) X.env = (do let ov ← eval o X.env; standAt apos.atName; let (f, first) ← holding [ov] (getMethod ov m pl); callWith pos f first (backTo pos (starEach (e :: es) X.env)) (backToKw pos (keywordEach [] X.env))) := by rfl) :
    PE X (.Call (.Attribute o m apos) (e :: es) [] pos) (uMeth C m sp W ta t) := by
  refine ⟨fun pins s σ H Q I h => PySem.W.methodCall_KW (pl := pl) (thn (ho.run pins s σ H _ I h) fun u s1 hh => ?_) ht⟩
  obtain ⟨x, H1, I1, rx, a, dx, fs, rfl, ea, l, q⟩ := hh
  cases (show u = Value.ref a from rx)
  refine getmeth_ok I1 ea c hm l (PySem.W.callWith_K (first := [.ref a]) (h₀ := X.base) I.ok.mod.kin hm.kp (thn (ha.run pos pins s1 σ H1 _ I1 q) fun us s2 hh => ?_) hst hpl)
  obtain ⟨vs, H2, I2, r, q2⟩ := hh
  exact ⟨I2.kIn, run_fnS (us := .ref a :: us) (vs := .ref a :: vs) (E := WE W) F hr hb (passAt tk σ) I2 (.cons rfl r) q2⟩
theorem e_meth0 {pl : Sem Bool} (ho : PE X o ta) (c : Cls X.K C) (hm : Meth X.K C m f) (F : FnOk X.prog X.w X.K X.mg X.base (L2.CX X.prog X.w) k f fd ps sp) (hr : Room k X.A) (hb : Binds X.K fd ps []) (tk : Takes X W)
    (ht : eval (.Call (.Attribute o m apos) [] [] pos) X.env = (do let ov ← eval o X.env; standAt apos.atName; let (f, first) ← holding [ov] (getMethod ov m pl); callWith pos f first (backTo pos (starEach [] X.env)) (backToKw pos (keywordEach [] X.env))) := by rfl) :
    PE X (.Call (.Attribute o m apos) [] [] pos) (uMeth C m sp W ta tNil) := by
  refine ⟨fun pins s σ H Q I h => PySem.W.methodCall_KW (pl := pl) (thn (ho.run pins s σ H _ I h) fun u s1 hh => ?_) ht⟩
  obtain ⟨x, H1, I1, rx, a, dx, fs, rfl, ea, l, q⟩ := hh
  cases (show u = Value.ref a from rx)
  exact getmeth_ok I1 ea c hm l (PySem.W.callWith_K0 (first := [.ref a]) I1.kIn hm.kp (run_fnS (us := [.ref a]) (vs := [.ref a]) (E := WE W) F hr hb (passAt tk σ) I1 (.cons rfl .nil) q))
/-- what a body wants of exceptions, as a wish -/
abbrev WB (E : XK) : WX := fun c d _ H => E c d H
/-- C(..), what is raised goes to W at the slots -/
def uMake (C : Addr) (sp : Sp) (W : WX) (t : TA) : TE := fun σ H Q => t σ H fun vs H1 => ∀ x dx, H1 x = none → H1 dx = none → dx ≠ x → sp (.ref x :: vs) (upd (upd H1 dx (.own x)) x (.ins C dx [])) (fun v H2 => v = .non ∧ Q (.ref x) H2) fun c d H2 => W c d σ H2
theorem make_at {pins : List (Addr × Obj)} {σ : L2.St} {H : Hp} {s : Shared} {Q : VK} {us : List Value} {vs : List V} (M : Mk X.K C f) (F : FnOk X.prog X.w X.K X.mg X.base (L2.CX X.prog X.w) k f fd ps sp) (hr : Room (k + 1) X.A) (hb : Binds X.K fd ps []) (tk : Takes X W)
    (I : Inv X pins σ H s) (r : Vals vs us)
    (h : ∀ x dx, H x = none → H dx = none → dx ≠ x → sp (.ref x :: vs) (upd (upd H dx (.own x)) x (.ins C dx [])) (fun v H2 => v = .non ∧ Q (.ref x) H2) fun c d H2 => W c d σ H2) :
    wpAny (model X.prog X.w) X.A (call (.ref C) us) (EP X pins σ Q) X.xe s := by
  let n := s.heap.objs.size
  have q0 : sp (.ref (n + 1) :: vs) _ _ _ := h (n + 1) n (I.hok.fresh (Nat.le_succ n)) (I.hok.fresh (Nat.le_refl n)) (Nat.ne_of_lt n.lt_succ_self)
  have J := Inv.made (C := C) I
  have rr : Vals (V.ref (n + 1) :: vs) (Value.ref (n + 1) :: us) := .cons rfl r
  have size : (Value.ref (n + 1) :: us).length = ps.length := rr.length.symm.trans (F.len _ _ _ _ q0)
  have go := F.run _ X.stack _ _ ⟨Value.ref (n + 1) :: us, []⟩ (Value.ref (n + 1) :: us) _ _ _ (hr.make C us []) (J.env0.make C us []) (by have z := hb _ (Value.ref (n + 1) :: us) J.kIn (by rw [List.append_nil]; exact size); rw [List.append_nil] at z; exact z) rr q0
  refine wpAny_call (make_map (f := f) I.kIn M.makes M.init (beq_iff_eq.mp M.fn) (codeAny_mono go ?_))
  rintro (e | fl) s' hq
  · exact passAt tk σ pins _ _ e s' J hq
  · cases fl with
    | ret u =>
      obtain ⟨v, H', I3, rv, ev, z⟩ := J.after hq
      cases ev
      exact ⟨rv, .ref (n + 1), H', I3, rfl, z⟩
    | next => exact hq.elim
    | brk => exact hq.elim
    | cont => exact hq.elim
theorem e_mk (M : Mk X.K C f) (F : FnOk X.prog X.w X.K X.mg X.base (L2.CX X.prog X.w) k f fd ps sp) (hr : Room (k + 1) X.A) (hm : X.mg x = some (.ref C)) (hb : Binds X.K fd ps []) (tk : Takes X W) (ha : PA X (e :: es) t)
    (hg : Gl X x := by rfl) (hdb : (x == ("__debug__" : Str)) = false := by decide) (he : starEach (e :: es) X.env = (false, eval e X.env) :: starEach es X.env := by rfl) (hpl : (backTo pos (starEach es X.env)).any (·.1) = false := by rfl) :
    PE X (.Call (.Name x p) (e :: es) [] pos) (uMake C sp W t) :=
  ⟨fun pins s σ H Q I h => wpAny_Call_Name_kw (ld_glob I hg hm (PySem.W.callWith_K (h₀ := X.base) I.ok.mod.kin M.kp (thn (ha.run pos pins s σ H _ I h) fun us s1 hh => by
    obtain ⟨vs, H1, I1, r, q⟩ := hh
    exact ⟨I1.kIn, make_at M F hr hb tk I1 r q⟩) he hpl) hdb)⟩
theorem e_mk0 (M : Mk X.K C f) (F : FnOk X.prog X.w X.K X.mg X.base (L2.CX X.prog X.w) k f fd ps sp) (hr : Room (k + 1) X.A) (hm : X.mg x = some (.ref C)) (hb : Binds X.K fd ps []) (tk : Takes X W)
    (hg : Gl X x := by rfl) (hdb : (x == ("__debug__" : Str)) = false := by decide) : PE X (.Call (.Name x p) [] [] pos) (uMake C sp W tNil) :=
  ⟨fun _ _ _ _ _ I h => wpAny_Call_Name_kw (ld_glob I hg hm (PySem.W.callWith_K0 I.kIn M.kp (make_at (us := []) M F hr hb tk I .nil h)) hdb)⟩
/-- what the top has of an own exception class -/
structure Exc (K : PySem.W.Frag) (mg : Str → Option Value) (n : Str) (C : Addr) : Prop where
  ex : PySem.W.excIn K C [.type "ValueError", .type "Exception", .type "BaseException", .type "object"] "ValueError.__new__" = true
  g : mg n = some (.ref C)
  kp : PySem.W.keepIn K (.ref C) = true
  sub : PySem.W.subIn K (.ref C) (.type "BaseException") = some true
  ty : PySem.W.typeIn K (.ref C) = some (.type "type")
def uRaise (C : Addr) (W : WX) : TS := fun _ σ H => W (.ref C) none σ H
theorem pmk0 {n : Str} (T : Exc X.K X.mg n C) (hg : Gl X n := by rfl) (hdb : (n == ("__debug__" : Str)) = false := by decide) : PMk X (.Call (.Name n p) [] [] pos) (fun _ H Q => Q (.ref C) none H) := by
  intro pins s σ H Q I h
  refine wpAny_Call_Name_kw (ld_glob I hg T.g (PySem.W.callWith_K0 I.kIn T.kp ?_) hdb)
  obtain ⟨bm, N, nm, qn, bs, hdct, sn, sub, ab, col, dd, k0, k1, k2, k3, k5, mN, hC, hN, hni, Z⟩ := exc_obj I.kIn T.ex
  exact wpAny_call_exc_subT PySem.F.excBase_ValueError Z hC hN hni (fun h' e hm => mk_of I hm (raises_own T.sub T.ty) h (I.hok.gone hm.new)) (Nat.zero_le _)
theorem s_raise {n : Str} (T : Exc X.K X.mg n C) (tk : Takes X W) {pos2 : Pos} (hc : X.calm = true := by rfl) (hg : Gl X n := by rfl) (hdb : (n == ("__debug__" : Str)) = false := by decide) :
    PS X (.Raise (some (.Call (.Name n p) [] [] pos)) none pos2) (uRaise C W) := ps_raise hc tk (pmk0 T hg hdb)
end own
section tries
variable {X : Cx} {x n : Str} {c : Value} {i : Nat} {body suite : List Stmt} {b₀ : Stmt} {np pos pos' : Pos} {tb : WX → TS} {ts : Addr → Value → Option Addr → TS} {W : WX}
def uTryAs (K : PySem.W.Frag) (c : Value) (i : Nat) (tb : WX → TS) (ts : Addr → Value → Option Addr → TS) (W : WX) : TS := fun D σ H => tb (wAs K c i ts W D) D σ H
def uTry (K : PySem.W.Frag) (c : Value) (tb : WX → TS) (ts : Addr → Value → Option Addr → TS) (W : WX) : TS := fun D σ H => tb (wOnly K c ts W D) D σ H
theorem s_tryAs (hs : X.stack = X.env :: X.outer) (hf : X.env.frame = some X.env.locals) (hN : X.N.Nodup) (hi : X.N[i]? = some n) (hln : X.env.kindOf n = some .local) (hc : Names X x c) (tk : Takes X W)
    (hb : ∀ (W' : WX) (pn : List (Addr × Obj)) (xe : Value → Shared → Prop), Takes (X.tr pn xe) W' → PassesOwn (model X.prog X.w) X.A X.env xe → PSs (X.tr pn xe) body (tb W'))
    (hsu : ∀ (a : Addr) (oe : Obj) (cls : Value) (d : Option Addr) (pn : List (Addr × Obj)), Zc cls d oe → (∃ vs, oe.data = .fields vs) → PSs (X.suite a ((a, oe) :: pn)) (b₀ :: suite) (ts a cls d)) :
    PS X (.Try body [.ExceptHandler (some (.Name x np)) (some n) (b₀ :: suite) pos'] [] [] pos) (uTryAs X.K c i tb ts W) := ps_try_as hs hf hN hi hln hc tk hb hsu
theorem s_try (hs : X.stack = X.env :: X.outer) (hf : X.env.frame = some X.env.locals) (hc : Names X x c) (tk : Takes X W)
    (hb : ∀ (W' : WX) (pn : List (Addr × Obj)) (xe : Value → Shared → Prop), Takes (X.tr pn xe) W' → PassesOwn (model X.prog X.w) X.A X.env xe → PSs (X.tr pn xe) body (tb W'))
    (hsu : ∀ (a : Addr) (oe : Obj) (cls : Value) (d : Option Addr) (pn : List (Addr × Obj)), Zc cls d oe → (∃ vs, oe.data = .fields vs) → PSs (X.suite a ((a, oe) :: pn)) (b₀ :: suite) (ts a cls d)) :
    PS X (.Try body [.ExceptHandler (some (.Name x np)) none (b₀ :: suite) pos'] [] [] pos) (uTry X.K c tb ts W) := ps_try_only hs hf hc tk hb hsu
theorem w_tryAs {K : PySem.W.Frag} {D : Ends} {σ : L2.St} {H : Hp} (h : tb (wAs K c i ts W D) D σ H) : uTryAs K c i tb ts W D σ H := h
theorem w_try {K : PySem.W.Frag} {D : Ends} {σ : L2.St} {H : Hp} (h : tb (wOnly K c ts W D) D σ H) : uTry K c tb ts W D σ H := h
theorem w_asT {K : PySem.W.Frag} {D : Ends} {σ : L2.St} {H : Hp} {cls : Value} {d : Option Addr} (e : PySem.W.exmOne K cls c = some true)
    (h : ∀ a, H a = none → ts a cls d { nx := fun σ' H' => D.nx (σ'.set i none) H', rt := D.rt, bk := fun σ' H' => D.bk (σ'.set i none) H', ct := fun σ' H' => D.ct (σ'.set i none) H' } (σ.set i (some (.ref a))) H) :
    wAs K c i ts W D cls d σ H := ⟨true, e, fun _ => h, fun q => Bool.noConfusion q⟩
theorem w_asF {K : PySem.W.Frag} {D : Ends} {σ : L2.St} {H : Hp} {cls : Value} {d : Option Addr} (e : PySem.W.exmOne K cls c = some false) (h : W cls d σ H) : wAs K c i ts W D cls d σ H := ⟨false, e, fun q => Bool.noConfusion q, fun _ => h⟩
theorem w_onT {K : PySem.W.Frag} {D : Ends} {σ : L2.St} {H : Hp} {cls : Value} {d : Option Addr} (e : PySem.W.exmOne K cls c = some true) (h : ∀ a, H a = none → ts a cls d D σ H) : wOnly K c ts W D cls d σ H := ⟨true, e, fun _ => h, fun q => Bool.noConfusion q⟩
theorem w_onF {K : PySem.W.Frag} {D : Ends} {σ : L2.St} {H : Hp} {cls : Value} {d : Option Addr} (e : PySem.W.exmOne K cls c = some false) (h : W cls d σ H) : wOnly K c ts W D cls d σ H := ⟨false, e, fun q => Bool.noConfusion q, fun _ => h⟩
/-- isinstance(e, C) of the exception that a suite holds -/
def uIsE (K : PySem.W.Frag) (a : Addr) (cls : Value) (d : Option Addr) : List V → Hp → VK → Prop := fun xs H Q => ∃ (D C : Addr) (b : Bool), cls = .ref D ∧ d = none ∧ ExcC K D ∧ xs = [.ref a, .ref C] ∧ PySem.W.kitOne K (.ref D) (.ref C) = some b ∧ Q (.bl b) H
theorem w_isE {K : PySem.W.Frag} {H : Hp} {Q : VK} {a D C : Addr} {b : Bool} (x : ExcC K D) (e : PySem.W.kitOne K (.ref D) (.ref C) = some b) (h : Q (.bl b) H) : uIsE K a (.ref D) none [.ref a, .ref C] H Q := ⟨D, C, b, rfl, rfl, x, rfl, e, h⟩
theorem kit_ne {K : PySem.W.Frag} {R A : Addr} {b : Bool} (n : (Value.ref R == Value.ref A) = false) (h1 : PySem.W.subIn K (.ref A) (.type "BaseException") = some true) (hd : PySem.W.hasDictIn K A = true) (ht : PySem.W.typeIn K (.ref A) = some (.type "type")) (h4 : PySem.W.subIn K (.ref R) (.ref A) = some b) : PySem.W.kitOne K (.ref R) (.ref A) = some b := by
  have z := PySem.W.exm_ref h1 hd ht h4
  have e1 : (PySem.W.subIn K (.ref A) (.type "BaseException") == some true) = true := by rw [h1]; rfl
  unfold PySem.W.exmOne at z
  rw [if_pos e1] at z
  unfold PySem.W.kitOne
  rw [if_neg (by rw [n]; exact Bool.false_ne_true)]
  exact z
theorem kit_same {K : PySem.W.Frag} {R : Addr} : PySem.W.kitOne K (.ref R) (.ref R) = some true := by
  unfold PySem.W.kitOne
  rw [if_pos (beq_self_eq_true _)]
end tries
section fields
variable {X : Cx} {C : Addr} {f : Str} {e o v : Expr} {ta tv : TE} {pos pos' : Pos}
def uFld (C : Addr) (f : Str) (ta : TE) : TE := fun σ H Q => ta σ H fun x H1 => ∃ a dx fs v, x = .ref a ∧ H1 a = some (.ins C dx fs) ∧ fs.lookup f = some v ∧ Q v H1
theorem e_fld (c : Cls X.K C) (n : NoAttr X.K C f) (he : PE X e ta) (hb : attributeBase e f X.env (eval e X.env) = eval e X.env := by rfl) : PE X (.Attribute e f pos) (uFld C f ta) :=
  ⟨fun pins s σ H Q I h => attr_of hb (thn (he.run pins s σ H _ I h) fun u s1 hh => by
    obtain ⟨x, H1, I1, rx, a, dx, fs, v, rfl, ea, l, q⟩ := hh
    cases (show u = Value.ref a from rx)
    exact getattr_ok I1 ea c n l fun u' s2 I2 ru => ⟨v, H1, I2, ru, q⟩)⟩
def uSetF (C : Addr) (f : Str) (ta tv : TE) : TS := fun D σ H => tv σ H fun y H1 => ta σ H1 fun x H2 => ∃ a dx fs, x = .ref a ∧ H2 a = some (.ins C dx fs) ∧ fs.length < 1000 ∧ D.nx σ (upd H2 a (.ins C dx (putF f y fs)))
theorem s_fld (c : Cls X.K C) (n : NoAttr X.K C f) (ho : PE X o ta) (hv : PE X v tv) (hs : swapsWith v (some (.Attribute o f pos')) pos.line X.env = pure false := by rfl) : PS X (.Assign [.Attribute o f pos'] v pos) (uSetF C f ta tv) :=
  ⟨fun pins s σ H D I h => plainObj_wpAny_Assign_Attribute (thn (hv.run pins s σ H _ I h) fun u s1 ⟨y, H1, I1, ry, q⟩ => thn (ho.run pins s1 σ H1 _ I1 q) fun ov s2 hh => by
    obtain ⟨x, H2, I2, rx, a, dx, fs, rfl, ea, l, q2⟩ := hh
    cases (show ov = Value.ref a from rx)
    exact setattr_ok I2 ea c n l ry fun s3 I3 => ⟨σ, _, I3, q2⟩) hs⟩
/-- o.f += e -/
def uAugF (C : Addr) (f : Str) (r : V → V → Hp → VK → Prop) (ta tv : TE) : TS := fun D σ H => ta σ H fun x H1 => ∃ a dx fs v, x = .ref a ∧ H1 a = some (.ins C dx fs) ∧ fs.lookup f = some v ∧
  tv σ H1 fun y H2 => r v y H2 fun z H3 => ∃ dx' fs', H3 a = some (.ins C dx' fs') ∧ fs'.length < 1000 ∧ D.nx σ (upd H3 a (.ins C dx' (putF f z fs')))
end fields
section truth
variable {X : Cx} {e : Expr} {te : TE}
def truV (K : PySem.W.Frag) (x : V) (H1 : Hp) (Q : Bool → Hp → Prop) : Prop := match x with
  | .bl b => Q b H1
  | .non => Q false H1
  | .int i => Q (!decide (i = 0)) H1
  | .str z => z.length ≤ sizeLine ∧ Q (!decide (z.length = 0)) H1
  | .ref p => (∃ xs, (SqL K H1 p xs ∨ SqT K H1 p xs) ∧ Q (!xs.isEmpty) H1) ∨ ∃ kvs, H1 p = some (.dK kvs) ∧ Q (!kvs.isEmpty) H1
  | _ => False
def uTru (K : PySem.W.Frag) (te : TE) : TT := fun σ H Q => te σ H fun x H1 => truV K x H1 Q
theorem t_tru (he : PE X e te) (hw : ∀ whole, isTrue e X.env whole = (do let v ← whole; standAt e.pos; holding [v] (truthy v)) := by intro _; rfl) : PT X e (uTru X.K te) := by
  refine ⟨fun pins s σ H Q I h => isTrue_plain (thn (he.run pins s σ H _ I h) fun v s1 hh => ?_) (hw _)⟩
  obtain ⟨x, H1, I1, r1, q⟩ := hh
  refine tru_ok pins s1 σ H1 x v Q I1 r1 ?_
  unfold truV at q
  split at q
  · exact ⟨_, rfl, q⟩
  · exact ⟨_, rfl, q⟩
  · rename_i i
    refine ⟨_, rfl, ?_⟩
    rw [show (i != 0) = !decide (i = 0) by rw [bne, Bool.beq_eq_decide_eq]]
    exact q
  · rename_i z
    refine ⟨_, ⟨q.1, rfl⟩, ?_⟩
    rw [show ((z.length : Int) != 0) = !decide (z.length = 0) by rw [bne, Bool.beq_eq_decide_eq]; congr 1; exact decide_eq_decide.mpr (by omega)]
    exact q.2
  · rcases q with ⟨xs, a | a, q⟩ | ⟨kvs, a, q⟩
    · exact ⟨_, .inl ⟨xs, a, rfl⟩, q⟩
    · exact ⟨_, .inr (.inl ⟨xs, a, rfl⟩), q⟩
    · exact ⟨_, .inr (.inr ⟨kvs, a, rfl⟩), q⟩
  · exact q.elim
end truth
def forQ (g : TG) (tb : TS) (D : Ends) (σ : L2.St) (J : It) (H1 : Hp) : Prop := ∃ W : Nat → Nat → L2.St → Hp → Prop, (∃ m, W 0 m σ H1) ∧ ∀ i m σ H, W i m σ H →
  (J.stop i H ∧ D.nx σ H) ∨ (J.go i H ∧ ∃ N : L2.St → Hp → Prop, (∀ σ' H', N σ' H' → ∃ m', m' < m ∧ W (i + 1) m' σ' H') ∧ ∀ x H', J.yld i H x H' → g x σ H' fun σ2 H2 => tb { D with nx := N, ct := N, bk := D.nx } σ2 H2)
def newT (xs : List V) (H1 : Hp) (Q : VK) : Prop := xs.length ≤ sizeLine ∧ ∀ p, H1 p = none → Q (.ref p) (upd H1 p (.tup xs))
def newL (xs : List V) (H1 : Hp) (Q : VK) : Prop := xs.length ≤ sizeLine ∧ ∀ p, H1 p = none → Q (.ref p) (upd H1 p (.lst xs))
def bmQ (K : PySem.W.Frag) (T : String) (q : V → List V → Hp → VK → Prop) (tA : TA) (σ : L2.St) (x : V) (H1 : Hp) (Q : VK) : Prop := tyV K T x H1 ∧ tA σ H1 fun xs H2 => q x xs H2 Q
def rng1Q (vs : List V) (H1 : Hp) (R : It → Hp → Prop) : Prop := ∃ j : Int, vs = [.int j] ∧ -(2 ^ 62) ≤ j ∧ j < 2 ^ 62 ∧ R (Itr 0 j.toNat) H1
def rng2Q (vs : List V) (H1 : Hp) (R : It → Hp → Prop) : Prop := ∃ i j : Int, vs = [.int i, .int j] ∧ (-(2 ^ 62) ≤ i ∧ i < 2 ^ 62 ∧ -(2 ^ 62) ≤ j ∧ j < 2 ^ 62) ∧ R (Itr i (j - i).toNat) H1
def listQ (K : PySem.W.Frag) (x : V) (H1 : Hp) (R : It → Hp → Prop) : Prop := ∃ a, x = .ref a ∧ (∃ xs, SqL K H1 a xs) ∧ R (Itl K a) H1
def tupQ (K : PySem.W.Frag) (x : V) (H1 : Hp) (R : It → Hp → Prop) : Prop := ∃ a, x = .ref a ∧ (∃ xs, SqT K H1 a xs) ∧ R (Itt K a) H1
def strQ (x : V) (H1 : Hp) (R : It → Hp → Prop) : Prop := ∃ z, x = .str z ∧ R (Its z) H1
def revQ (K : PySem.W.Frag) (vs : List V) (H1 : Hp) (R : It → Hp → Prop) : Prop := ∃ (a : Addr) (xs : List V), vs = [.ref a] ∧ SqL K H1 a xs ∧ R (Itv K a xs.length) H1
def fldQ (C : Addr) (f : Str) (x : V) (H1 : Hp) (Q : VK) : Prop := ∃ a dx fs v, x = .ref a ∧ H1 a = some (.ins C dx fs) ∧ fs.lookup f = some v ∧ Q v H1
def methQ (C : Addr) (m : Str) (sp : Sp) (W : WX) (t : TA) (σ : L2.St) (x : V) (H1 : Hp) (Q : VK) : Prop := ∃ a dx fs, x = .ref a ∧ H1 a = some (.ins C dx fs) ∧ fs.lookup m = none ∧ t σ H1 fun vs H2 => sp (x :: vs) H2 Q fun c d H3 => W c d σ H3
def setfQ (C : Addr) (f : Str) (x y : V) (H2 : Hp) (N : Hp → Prop) : Prop := ∃ a dx fs, x = .ref a ∧ H2 a = some (.ins C dx fs) ∧ fs.length < 1000 ∧ N (upd H2 a (.ins C dx (putF f y fs)))
section steps
variable {K : PySem.W.Frag} {D : Ends} {σ : L2.St} {H : Hp} {Q : VK} {QB : Bool → Hp → Prop} {QA : List V → Hp → Prop} {t u : TS} {te ta tb tv : TE} {tA : TA} {c c1 c2 : TT} {g : TG} {i : Nat} {v x y : V} {r r' : R2} {W : WX} {sp : Sp} {b : Bool} {C a : Addr} {f : Str}
theorem w_seq (h : t { D with nx := u D } σ H) : tSeq t u D σ H := h
theorem w_cut (P : L2.St → Hp → Prop) (h1 : t { D with nx := P } σ H) (h2 : ∀ σ H, P σ H → u D σ H) : tCut t u D σ H := ⟨P, h1, h2⟩
theorem w_next (h : D.nx σ H) : tNext D σ H := h
theorem w_asg (h : te σ H fun x H1 => g x σ H1 D.nx) : tAsg te g D σ H := h
theorem w_name {N : L2.St → Hp → Prop} (h : N (σ.set i (some v)) H) : gName i v σ H N := h
theorem w_ret (h : te σ H D.rt) : tRet te D σ H := h
theorem w_retN (h : D.rt .non H) : tRetN D σ H := h
theorem w_if (h : c σ H fun b H1 => if b = true then t D σ H1 else u D σ H1) : tIfS c t u D σ H := h
theorem w_drop (h : te σ H fun _ H1 => D.nx σ H1) : tDrop te D σ H := h
theorem w_brk (h : D.bk σ H) : tBreak D σ H := h
theorem w_cont (h : D.ct σ H) : tCont D σ H := h
theorem w_aug {ti : TIp} (e : σ[i]? = some (some x)) (h : te σ H fun y H1 => ti x y H1 fun z H2 => D.nx (σ.set i (some z)) H2) : tAug i te ti D σ H := ⟨x, e, h⟩
theorem w_ipI {k : Int → Int → Int} {m n : Int} (h : Q (.int (k m n)) H) : ipI k (.int m) (.int n) H Q := ⟨m, n, rfl, rfl, h⟩
theorem w_test (h : te σ H fun x H1 => ∃ k, x = .bl k ∧ QB k H1) : tTest te σ H QB := h
theorem w_not (h : c σ H fun k H1 => QB (!k) H1) : tNot c σ H QB := h
theorem w_and (h : c1 σ H fun k H1 => if k = true then c2 σ H1 QB else QB false H1) : tAnd c1 c2 σ H QB := h
theorem w_or (h : c1 σ H fun k H1 => if k = true then QB true H1 else c2 σ H1 QB) : tOr c1 c2 σ H QB := h
theorem w_andV (h : ta σ H fun x H1 => ∃ k, x = .bl k ∧ if k = true then tb σ H1 Q else Q (.bl false) H1) : tAndV ta tb σ H Q := h
theorem w_orV (h : ta σ H fun x H1 => ∃ k, x = .bl k ∧ if k = true then Q (.bl true) H1 else tb σ H1 Q) : tOrV ta tb σ H Q := h
theorem w_notV (h : ta σ H fun x H1 => ∃ k, x = .bl k ∧ Q (.bl (!k)) H1) : tNotV ta σ H Q := h
theorem w_blP {P : Bool → Prop} (h : P b) : ∃ k, V.bl b = .bl k ∧ P k := ⟨b, rfl, h⟩
theorem w_ifE (h : c σ H fun k H1 => if k = true then ta σ H1 Q else tb σ H1 Q) : tIf c ta tb σ H Q := h
theorem w_var (e : σ[i]? = some (some v)) (h : Q v H) : tVar i σ H Q := ⟨v, e, h⟩
theorem w_c (h : Q v H) : tC v σ H Q := h
theorem w_op (h : ta σ H fun x H1 => tb σ H1 fun y H2 => r x y H2 Q) : tOp r ta tb σ H Q := h
theorem w_un {ru : V → Hp → VK → Prop} (h : ta σ H fun x H1 => ru x H1 Q) : tUn ru ta σ H Q := h
theorem w_neg {m : Int} (h : Q (.int (-m)) H) : uNeg (.int m) H Q := h
theorem w_chain {tc : TE} (h : ta σ H fun x H1 => tb σ H1 fun y H2 => r x y H2 fun z H3 => ∃ k, z = .bl k ∧ if k = true then tc σ H3 fun w H4 => r' y w H4 Q else Q (.bl false) H3) : tChain r r' ta tb tc σ H Q := h
theorem w_cons (h : te σ H fun x H1 => tA σ H1 fun xs H2 => QA (x :: xs) H2) : tCons te tA σ H QA := h
theorem w_nil (h : QA [] H) : tNil σ H QA := h
theorem w_tup (h : tA σ H fun xs H1 => newT xs H1 Q) : tTup tA σ H Q := h
theorem w_lst (h : tA σ H fun xs H1 => newL xs H1 Q) : tLst tA σ H Q := h
theorem small9 {n : Nat} (h : n ≤ 100000) : n ≤ sizeLine := Nat.le_trans h (by decide)
theorem w_newT {xs : List V} (s : xs.length ≤ 100000) (h : ∀ p, H p = none → Q (.ref p) (upd H p (.tup xs))) : newT xs H Q := ⟨small9 s, h⟩
theorem w_newL {xs : List V} (s : xs.length ≤ 100000) (h : ∀ p, H p = none → Q (.ref p) (upd H p (.lst xs))) : newL xs H Q := ⟨small9 s, h⟩
theorem w_add {m n : Int} (h : Q (.int (m + n)) H) : uAdd K (.int m) (.int n) H Q := h
theorem w_sub {m n : Int} (h : Q (.int (m - n)) H) : uSub (.int m) (.int n) H Q := h
theorem w_mul {m n : Int} (s : CMul m n) (h : Q (.int (m * n)) H) : uMul (.int m) (.int n) H Q := ⟨.inl s, h⟩
theorem w_div {m n : Int} (s : 0 < n ∧ n < 2 ^ 200) (h : Q (.int (m / n)) H) : uDiv (.int m) (.int n) H Q := ⟨s, h⟩
theorem w_mod {m n : Int} (s : 0 < n) (h : Q (.int (m % n)) H) : uMod (.int m) (.int n) H Q := ⟨s, h⟩
theorem w_pow {m n : Int} (s : CPow m n) (h : Q (.int (m ^ n.toNat)) H) : uPow (.int m) (.int n) H Q := ⟨s, h⟩
theorem w_eqI {m n : Int} (h : Q (.bl (decide (m = n))) H) : uEq K (.int m) (.int n) H Q := h
theorem w_eqS {m n : Str} (h : Q (.bl (decide (m = n))) H) : uEq K (.str m) (.str n) H Q := h
theorem w_eqB {m n : Bool} (h : Q (.bl (decide (m = n))) H) : uEq K (.bl m) (.bl n) H Q := h
theorem w_eqNI {n : Int} (h : Q (.bl false) H) : uEq K .non (.int n) H Q := .inl ⟨rfl, h⟩
theorem w_neNI {n : Int} (h : Q (.bl true) H) : uNe K .non (.int n) H Q := .inl ⟨rfl, h⟩
theorem w_eqIN {n : Int} (h : Q (.bl false) H) : uEq K (.int n) .non H Q := .inl ⟨rfl, h⟩
theorem w_neIN {n : Int} (h : Q (.bl true) H) : uNe K (.int n) .non H Q := .inl ⟨rfl, h⟩
theorem w_neI {m n : Int} (h : Q (.bl (!decide (m = n))) H) : uNe K (.int m) (.int n) H Q := h
theorem w_neS {m n : Str} (h : Q (.bl (!decide (m = n))) H) : uNe K (.str m) (.str n) H Q := h
theorem w_neB {m n : Bool} (h : Q (.bl (!decide (m = n))) H) : uNe K (.bl m) (.bl n) H Q := h
theorem w_lt {m n : Int} (h : Q (.bl (decide (m < n))) H) : uLt K (.int m) (.int n) H Q := h
theorem w_le {m n : Int} (h : Q (.bl (decide (m ≤ n))) H) : uLe K (.int m) (.int n) H Q := h
theorem w_gt {m n : Int} (h : Q (.bl (decide (n < m))) H) : uGt (.int m) (.int n) H Q := h
theorem w_ge {m n : Int} (h : Q (.bl (decide (n ≤ m))) H) : uGe K (.int m) (.int n) H Q := h
theorem w_cb {q : List V → Hp → VK → Prop} (h : tA σ H fun vs H1 => q vs H1 Q) : tCB q tA σ H Q := h
theorem w_call (h : tA σ H fun vs H1 => sp vs H1 Q fun c d H2 => W c d σ H2) : uCall sp W tA σ H Q := h
theorem w_tru (h : te σ H fun x H1 => truV K x H1 QB) : uTru K te σ H QB := h
theorem w_truB {b : Bool} (h : QB b H) : truV K (.bl b) H QB := h
theorem w_truN (h : QB false H) : truV K .non H QB := h
theorem w_truI {m : Int} (h : QB (!decide (m = 0)) H) : truV K (.int m) H QB := h
theorem w_isi_int_int {m : Int} (h : Q (.bl true) H) : uIsi K .int [(.int m), .ty "int"] H Q := ⟨rfl, h⟩
theorem w_isi_int_bl {m : Bool} (h : Q (.bl true) H) : uIsi K .int [(.bl m), .ty "int"] H Q := ⟨rfl, h⟩
theorem w_isi_int_str {m : Str} (h : Q (.bl false) H) : uIsi K .int [(.str m), .ty "int"] H Q := ⟨rfl, h⟩
theorem w_isi_int_non  (h : Q (.bl false) H) : uIsi K .int [.non, .ty "int"] H Q := ⟨rfl, h⟩
theorem w_isi_bool_int {m : Int} (h : Q (.bl false) H) : uIsi K .bool [(.int m), .ty "bool"] H Q := ⟨rfl, h⟩
theorem w_isi_bool_bl {m : Bool} (h : Q (.bl true) H) : uIsi K .bool [(.bl m), .ty "bool"] H Q := ⟨rfl, h⟩
theorem w_isi_bool_str {m : Str} (h : Q (.bl false) H) : uIsi K .bool [(.str m), .ty "bool"] H Q := ⟨rfl, h⟩
theorem w_isi_bool_non  (h : Q (.bl false) H) : uIsi K .bool [.non, .ty "bool"] H Q := ⟨rfl, h⟩
theorem w_isi_str_int {m : Int} (h : Q (.bl false) H) : uIsi K .str [(.int m), .ty "str"] H Q := ⟨rfl, h⟩
theorem w_isi_str_bl {m : Bool} (h : Q (.bl false) H) : uIsi K .str [(.bl m), .ty "str"] H Q := ⟨rfl, h⟩
theorem w_isi_str_str {m : Str} (h : Q (.bl true) H) : uIsi K .str [(.str m), .ty "str"] H Q := ⟨rfl, h⟩
theorem w_isi_str_non  (h : Q (.bl false) H) : uIsi K .str [.non, .ty "str"] H Q := ⟨rfl, h⟩
theorem w_isi_list_int {m : Int} (h : Q (.bl false) H) : uIsi K .list [(.int m), .ty "list"] H Q := ⟨rfl, h⟩
theorem w_isi_list_bl {m : Bool} (h : Q (.bl false) H) : uIsi K .list [(.bl m), .ty "list"] H Q := ⟨rfl, h⟩
theorem w_isi_list_str {m : Str} (h : Q (.bl false) H) : uIsi K .list [(.str m), .ty "list"] H Q := ⟨rfl, h⟩
theorem w_isi_list_non  (h : Q (.bl false) H) : uIsi K .list [.non, .ty "list"] H Q := ⟨rfl, h⟩
theorem w_isi_tuple_int {m : Int} (h : Q (.bl false) H) : uIsi K .tuple [(.int m), .ty "tuple"] H Q := ⟨rfl, h⟩
theorem w_isi_tuple_bl {m : Bool} (h : Q (.bl false) H) : uIsi K .tuple [(.bl m), .ty "tuple"] H Q := ⟨rfl, h⟩
theorem w_isi_tuple_str {m : Str} (h : Q (.bl false) H) : uIsi K .tuple [(.str m), .ty "tuple"] H Q := ⟨rfl, h⟩
theorem w_isi_tuple_non  (h : Q (.bl false) H) : uIsi K .tuple [.non, .ty "tuple"] H Q := ⟨rfl, h⟩
theorem w_is_int {m : Int} (h : Q (.bl false) H) : uIs (.int m) .non H Q := h
theorem w_isnt_int {m : Int} (h : Q (.bl true) H) : uIsnt (.int m) .non H Q := h
theorem w_is_bl {m : Bool} (h : Q (.bl false) H) : uIs (.bl m) .non H Q := h
theorem w_isnt_bl {m : Bool} (h : Q (.bl true) H) : uIsnt (.bl m) .non H Q := h
theorem w_is_str {m : Str} (h : Q (.bl false) H) : uIs (.str m) .non H Q := h
theorem w_isnt_str {m : Str} (h : Q (.bl true) H) : uIsnt (.str m) .non H Q := h
theorem w_is_non  (h : Q (.bl true) H) : uIs .non .non H Q := h
theorem w_isnt_non  (h : Q (.bl false) H) : uIsnt .non .non H Q := h
theorem w_is_ref {m : Addr} (h : Q (.bl false) H) : uIs (.ref m) .non H Q := h
theorem w_isnt_ref {m : Addr} (h : Q (.bl true) H) : uIsnt (.ref m) .non H Q := h
theorem ifNT {A B : Prop} (h : B) : if (!true) = true then A else B := iteF h
theorem ifNF {A B : Prop} (h : A) : if (!false) = true then A else B := iteT h
theorem w_max {m n : Int} (h : Q (.int (if n > m then n else m)) H) : uMax K [.int m, .int n] H Q := h
theorem w_min {m n : Int} (h : Q (.int (if n < m then n else m)) H) : uMin K [.int m, .int n] H Q := h
theorem w_abs {m : Int} (h : Q (.int (if m < 0 then -m else m)) H) : uAbs [.int m] H Q := h
theorem w_intI {m : Int} (h : Q (.int m) H) : uInt [.int m] H Q := h
theorem w_intB {m : Bool} (h : Q (.int (if m then 1 else 0)) H) : uInt [.bl m] H Q := h
theorem w_lenL {p : Addr} {xs : List V} (e : SqL K H p xs) (h : Q (.int xs.length) H) : uLen K [.ref p] H Q := .inl ⟨xs, .inl e, h⟩
theorem w_lenT {p : Addr} {xs : List V} (e : SqT K H p xs) (h : Q (.int xs.length) H) : uLen K [.ref p] H Q := .inl ⟨xs, .inr e, h⟩
theorem w_ixL {p : Addr} {xs : List V} {n : Int} {k : Nat} (e : SqL K H p xs) (ek : n = (k : Int)) (ev : xs[k]? = some v) (h : Q v H) : uIx K (.ref p) (.int n) H Q := ⟨xs, v, .inl e, by rw [ek]; exact atI_nat ev, h⟩
theorem w_ixT {p : Addr} {xs : List V} {n : Int} {k : Nat} (e : SqT K H p xs) (ek : n = (k : Int)) (ev : xs[k]? = some v) (h : Q v H) : uIx K (.ref p) (.int n) H Q := ⟨xs, v, .inr e, by rw [ek]; exact atI_nat ev, h⟩
theorem w_app {p : Addr} {xs : List V} (e : H p = some (.lst xs)) (s : xs.length < sizeLine) (h : Q .non (upd H p (.lst (xs ++ [y])))) : rAppend (.ref p) [y] H Q := ⟨p, xs, y, rfl, rfl, e, s, h⟩
theorem w_ixI {p : Addr} {ns : List Int} {n : Int} (e : SqL K H p (ns.map V.int)) (h0 : 0 ≤ n ∧ n.toNat < ns.length) (h : Q (.int (ns.getD n.toNat 0)) H) : uIx K (.ref p) (.int n) H Q :=
  ⟨_, .int (ns.getD n.toNat 0), .inl e, by
    have z : (ns.map V.int)[n.toNat]? = some (.int (ns.getD n.toNat 0)) := by rw [List.getElem?_map, List.getElem?_eq_getElem h0.2, List.getD_eq_getElem?_getD, List.getElem?_eq_getElem h0.2]; rfl
    have y := atI_nat z
    rw [show ((n.toNat : Nat) : Int) = n by omega] at y
    exact y, h⟩
theorem w_ixTI {p : Addr} {ns : List Int} {n : Int} (e : SqT K H p (ns.map V.int)) (h0 : 0 ≤ n ∧ n.toNat < ns.length) (h : Q (.int (ns.getD n.toNat 0)) H) : uIx K (.ref p) (.int n) H Q :=
  ⟨_, .int (ns.getD n.toNat 0), .inr e, by
    have z : (ns.map V.int)[n.toNat]? = some (.int (ns.getD n.toNat 0)) := by rw [List.getElem?_map, List.getElem?_eq_getElem h0.2, List.getD_eq_getElem?_getD, List.getElem?_eq_getElem h0.2]; rfl
    have y := atI_nat z
    rw [show ((n.toNat : Nat) : Int) = n by omega] at y
    exact y, h⟩
theorem w_appI {p : Addr} {ns : List Int} {z : Int} (e : H p = some (.lst (ns.map V.int))) (s : ns.length < 10000000) (h : Q .non (upd H p (.lst ((ns ++ [z]).map V.int)))) : rAppend (.ref p) [.int z] H Q :=
  ⟨p, _, _, rfl, rfl, e, by rw [List.length_map]; exact Nat.lt_of_lt_of_le s (by decide), by rw [List.map_append] at h; exact h⟩
theorem w_gsub {to ti : TE} {ts : TSet} {N : L2.St → Hp → Prop} (h : to σ H fun o H1 => ti σ H1 fun i H2 => ts o i v H2 fun H3 => N σ H3) : gSub to ti ts v σ H N := h
theorem ixN_in {n : Nat} {k : Int} (h : 0 ≤ k ∧ k.toNat < n) : ixN n k = some k.toNat := by unfold ixN; rw [if_pos h.1, if_pos (by omega)]
theorem w_setL {p : Addr} {xs : List V} {k : Int} {N : Hp → Prop} (e : H p = some (.lst xs)) (h0 : 0 ≤ k ∧ k.toNat < xs.length) (h : N (upd H p (.lst (xs.set k.toNat y)))) : uSet (.ref p) (.int k) y H N := .inl ⟨xs, _, e, ixN_in h0, h⟩
theorem w_ixA {p : Addr} {xs : List V} {n : Int} (e : SqL K H p xs) (h0 : 0 ≤ n ∧ n.toNat < xs.length) (h : ∀ v, xs[n.toNat]? = some v → Q v H) : uIx K (.ref p) (.int n) H Q :=
  ⟨xs, xs[n.toNat]'h0.2, .inl e, by
    have y := atI_nat (List.getElem?_eq_getElem h0.2)
    rw [show ((n.toNat : Nat) : Int) = n by omega] at y
    exact y, h _ (List.getElem?_eq_getElem h0.2)⟩
def partQ (x : V) (H1 : Hp) (Q : Option Int → Hp → Prop) : Prop := ∃ i, x = .int i ∧ Q (some i) H1
theorem w_sl {rs : V → Option Int → Option Int → Hp → VK → Prop} {tl th : TO} (h : te σ H fun x H1 => tl σ H1 fun l H2 => th σ H2 fun u H3 => rs x l u H3 Q) : tSl rs te tl th σ H Q := h
theorem w_part {Q : Option Int → Hp → Prop} (h : te σ H fun x H1 => partQ x H1 Q) : tPart te σ H Q := h
theorem w_partI {Q : Option Int → Hp → Prop} {n : Int} (h : Q (some n) H) : partQ (.int n) H Q := ⟨n, rfl, h⟩
theorem w_noPart {Q : Option Int → Hp → Prop} (h : Q none H) : tNoPart σ H Q := h
theorem cut_take (xs : List V) (k : Nat) : cutV xs none (some (k : Int)) = xs.take k := by
  unfold cutV
  rw [HT.sIx_nat, HT.sIx_none, List.drop_zero, Nat.sub_zero, ← List.take_take, List.take_length]
theorem w_slL {p : Addr} {xs : List V} {lo hi : Option Int} (e : SqL K H p xs) (h : ∀ q, H q = none → Q (.ref q) (upd H q (.lst (cutV xs lo hi)))) : uSl K (.ref p) lo hi H Q := .inl ⟨p, xs, rfl, e, h⟩
theorem w_ixTl {p : Addr} {xs : List V} {n : Int} (e : SqT K H p xs) (ev : xs[n.toNat]? = some v) (h0 : 0 ≤ n) (h : Q v H) : uIx K (.ref p) (.int n) H Q := w_ixT (k := n.toNat) e (by omega) ev h
theorem w_ixLl {p : Addr} {xs : List V} {n : Int} (e : SqL K H p xs) (ev : xs[n.toNat]? = some v) (h0 : 0 ≤ n) (h : Q v H) : uIx K (.ref p) (.int n) H Q := w_ixL (k := n.toNat) e (by omega) ev h
theorem w_bm {T : String} {q : V → List V → Hp → VK → Prop} (h : te σ H fun x H1 => bmQ K T q tA σ x H1 Q) : tBM K T q te tA σ H Q := h
theorem w_bmL {q : V → List V → Hp → VK → Prop} {p : Addr} {xs : List V} (e : H p = some (.lst xs)) (h : tA σ H fun vs H2 => q (.ref p) vs H2 Q) : bmQ K "list" q tA σ (.ref p) H Q := ⟨.inl ⟨rfl, _, .inl (.inl e)⟩, h⟩
theorem w_bmS {q : V → List V → Hp → VK → Prop} {z : Str} (h : tA σ H fun vs H2 => q (.str z) vs H2 Q) : bmQ K "str" q tA σ (.str z) H Q := ⟨rfl, h⟩
theorem w_for {wi : TI} {tb : TS} (h : wi σ H fun J H1 => forQ g tb D σ J H1) : tFor wi g tb D σ H := h
theorem f_range {tb : TS} {lo : Int} {n : Nat} (Pv : Nat → L2.St → Hp → Prop) (h0 : Pv 0 σ H)
    (hs : ∀ i σ H, i < n → Pv i σ H → g (.int (lo + i)) σ H fun σ2 H2 => tb { D with nx := Pv (i + 1), ct := Pv (i + 1), bk := D.nx } σ2 H2) (hd : ∀ σ H, Pv n σ H → D.nx σ H) : forQ g tb D σ (Itr lo n) H := for_range Pv h0 hs hd
theorem f_list {tb : TS} {a : Addr} {xs : List V} (Pv : Nat → L2.St → Hp → Prop) (h0 : Pv 0 σ H) (hl : ∀ i σ H, i ≤ xs.length → Pv i σ H → SqL K H a xs)
    (hs : ∀ i x σ H, xs[i]? = some x → Pv i σ H → g x σ H fun σ2 H2 => tb { D with nx := Pv (i + 1), ct := Pv (i + 1), bk := D.nx } σ2 H2) (hd : ∀ σ H, Pv xs.length σ H → D.nx σ H) : forQ g tb D σ (Itl K a) H := for_list Pv h0 hl hs hd
theorem f_tup {tb : TS} {a : Addr} {xs : List V} (Pv : Nat → L2.St → Hp → Prop) (h0 : Pv 0 σ H) (hl : ∀ i σ H, i ≤ xs.length → Pv i σ H → SqT K H a xs)
    (hs : ∀ i x σ H, xs[i]? = some x → Pv i σ H → g x σ H fun σ2 H2 => tb { D with nx := Pv (i + 1), ct := Pv (i + 1), bk := D.nx } σ2 H2) (hd : ∀ σ H, Pv xs.length σ H → D.nx σ H) : forQ g tb D σ (Itt K a) H := for_tup Pv h0 hl hs hd
/-- any source whose turns are told: J yields item i at turn i below n and leaves the heap -/
theorem f_any {tb : TS} {J : It} {n : Nat} {item : Nat → V → Prop} (Pv : Nat → L2.St → Hp → Prop) (h0 : Pv 0 σ H)
    (hgo : ∀ i σ H, i < n → Pv i σ H → J.go i H ∧ ∀ x H', J.yld i H x H' → H' = H ∧ item i x) (hst : ∀ σ H, Pv n σ H → J.stop n H)
    (hs : ∀ i x σ H, i < n → item i x → Pv i σ H → g x σ H fun σ2 H2 => tb { D with nx := Pv (i + 1), ct := Pv (i + 1), bk := D.nx } σ2 H2) (hd : ∀ σ H, Pv n σ H → D.nx σ H) : forQ g tb D σ J H := by
  refine ⟨fun i m σ H => m = n - i ∧ i ≤ n ∧ Pv i σ H, ⟨n, by simp, Nat.zero_le _, h0⟩, fun i m σ H q => ?_⟩
  obtain ⟨rfl, hi, p⟩ := q
  rcases Nat.lt_or_ge i n with hl | hl
  · obtain ⟨a, b⟩ := hgo i σ H hl p
    refine .inr ⟨a, Pv (i + 1), fun σ' H' p' => ⟨n - (i + 1), by omega, rfl, hl, p'⟩, fun x H' y => ?_⟩
    obtain ⟨rfl, c⟩ := b x H' y
    exact hs i x σ _ hl c p
  · obtain rfl : i = n := Nat.le_antisymm hi hl
    exact .inl ⟨hst σ H p, hd σ H p⟩
theorem w_rng1 {R : It → Hp → Prop} (h : tA σ H fun vs H1 => rng1Q vs H1 R) : iRng1 tA σ H R := h
theorem w_rng1v {R : It → Hp → Prop} {n : Int} (h1 : -(2 ^ 62) ≤ n) (h2 : n < 2 ^ 62) (h : R (Itr 0 n.toNat) H) : rng1Q [.int n] H R := ⟨n, rfl, h1, h2, h⟩
theorem w_rng2 {R : It → Hp → Prop} (h : tA σ H fun vs H1 => rng2Q vs H1 R) : iRng2 tA σ H R := h
theorem w_rng2v {R : It → Hp → Prop} {m n : Int} (h1 : -(2 ^ 62) ≤ m ∧ m < 2 ^ 62 ∧ -(2 ^ 62) ≤ n ∧ n < 2 ^ 62) (h : R (Itr m (n - m).toNat) H) : rng2Q [.int m, .int n] H R := ⟨m, n, rfl, h1, h⟩
theorem w_iList {R : It → Hp → Prop} (h : te σ H fun x H1 => listQ K x H1 R) : iList K te σ H R := h
theorem w_iListv {R : It → Hp → Prop} {p : Addr} {xs : List V} (e : SqL K H p xs) (h : R (Itl K p) H) : listQ K (.ref p) H R := ⟨p, rfl, ⟨xs, e⟩, h⟩
theorem w_iTup {R : It → Hp → Prop} (h : te σ H fun x H1 => tupQ K x H1 R) : iTup K te σ H R := h
theorem w_iTupv {R : It → Hp → Prop} {p : Addr} {xs : List V} (e : SqT K H p xs) (h : R (Itt K p) H) : tupQ K (.ref p) H R := ⟨p, rfl, ⟨xs, e⟩, h⟩
theorem w_iStr {R : It → Hp → Prop} (h : te σ H fun x H1 => strQ x H1 R) : iStr te σ H R := h
theorem w_iStrv {R : It → Hp → Prop} {z : Str} (h : R (Its z) H) : strQ (.str z) H R := ⟨z, rfl, h⟩
theorem w_iRev {R : It → Hp → Prop} (h : tA σ H fun vs H1 => revQ K vs H1 R) : iRev K tA σ H R := h
theorem w_iRevv {R : It → Hp → Prop} {p : Addr} {xs : List V} (e : SqL K H p xs) (h : R (Itv K p xs.length) H) : revQ K [.ref p] H R := ⟨p, xs, rfl, e, h⟩
theorem w_raise {C : Addr} (h : W (.ref C) none σ H) : uRaise C W D σ H := h
theorem w_fld {C : Addr} (h : te σ H fun x H1 => fldQ C f x H1 Q) : uFld C f te σ H Q := h
theorem w_fldv {C p dx : Addr} {fs : List (Str × V)} (e : H p = some (.ins C dx fs)) (l : fs.lookup f = some v) (h : Q v H) : fldQ C f (.ref p) H Q := ⟨p, dx, fs, v, rfl, e, l, h⟩
theorem w_meth {C : Addr} {m : Str} (h : te σ H fun x H1 => methQ C m sp W tA σ x H1 Q) : uMeth C m sp W te tA σ H Q := h
theorem w_methv {C p dx : Addr} {m : Str} {fs : List (Str × V)} (e : H p = some (.ins C dx fs)) (l : fs.lookup m = none) (h : tA σ H fun vs H2 => sp (.ref p :: vs) H2 Q fun c d H3 => W c d σ H3) : methQ C m sp W tA σ (.ref p) H Q := ⟨p, dx, fs, rfl, e, l, h⟩
theorem w_setf {C : Addr} (h : tv σ H fun y H1 => te σ H1 fun x H2 => setfQ C f x y H2 (D.nx σ)) : uSetF C f te tv D σ H := h
theorem w_setfv {C p dx : Addr} {fs fs' : List (Str × V)} {N : Hp → Prop} (e : H p = some (.ins C dx fs)) (l : fs.length < 1000) (e2 : putF f y fs = fs') (h : N (upd H p (.ins C dx fs'))) : setfQ C f (.ref p) y H N := ⟨p, dx, fs, rfl, e, l, by rw [e2]; exact h⟩
theorem ifP {p A B : Prop} [Decidable p] (h1 : p → A) (h2 : ¬ p → B) : if decide p = true then A else B := by
  by_cases h : p
  · rw [if_pos (decide_eq_true h)]; exact h1 h
  · rw [if_neg (by rw [decide_eq_false h]; decide)]; exact h2 h
theorem ifN {p A B : Prop} [Decidable p] (h2 : ¬ p → A) (h1 : p → B) : if (!decide p) = true then A else B := by
  by_cases h : p
  · rw [if_neg (by rw [decide_eq_true h]; decide)]; exact h1 h
  · rw [if_pos (by rw [decide_eq_false h]; rfl)]; exact h2 h
end steps
section heaps
variable {K : PySem.W.Frag} {H H' : Hp} {p q : Addr} {o u : HO} {xs : List V}
theorem upd_old (h : H q = some u) (n : H p = none) : upd H p o q = some u := by rw [upd_ne (ne_of_none h n)]; exact h
theorem upd_oth (h : H q = some u) (n : q ≠ p) : upd H p o q = some u := by rw [upd_ne n]; exact h
theorem none_of_upd (h : upd H p o q = none) : H q = none ∧ q ≠ p := by
  unfold upd at h
  split at h
  · cases h
  · exact ⟨h, by assumption⟩
theorem rd_old (h : Rd H q u) (n : H p = none) : Rd (upd H p o) q u := by
  rcases h with h | ⟨o', h⟩
  · exact .inl (upd_old h n)
  · exact .inr ⟨o', upd_old h n⟩
theorem sql_old (h : SqL K H q xs) (n : H p = none) : SqL K (upd H p o) q xs := h.imp (fun h => rd_old h n) id
theorem sqt_old (h : SqT K H q xs) (n : H p = none) : SqT K (upd H p o) q xs := h.imp (fun h => rd_old h n) id
/-- a tuple is never the thing that is written -/
theorem sqt_wr {w : HO} (h : SqT K H q xs) (hw : H p = some w) (n : ∀ ys, w ≠ .tup ys) (n2 : ∀ ob ys, w ≠ .frz ob ys) : SqT K (upd H p o) q xs := by
  refine h.imp (fun h => ?_) id
  rcases h with h | ⟨o', h⟩
  · exact .inl (upd_oth h fun e => by subst e; rw [hw] at h; exact n _ (Option.some.inj h))
  · exact .inr ⟨o', upd_oth h fun e => by subst e; rw [hw] at h; exact n2 _ _ (Option.some.inj h)⟩
theorem same_new (n : H p = none) : Same H (upd H p o) := fun b w h => upd_old h n
theorem same_upd {H1 : Hp} (s : Same H H1) (n : H p = none) : Same H (upd H1 p o) := fun b w h => by rw [upd_ne (ne_of_none h n)]; exact s b w h
theorem same_updN {H1 : Hp} (s : Same H H1) (n : H1 p = none) : Same H (upd H1 p o) := fun b w h => upd_old (s b w h) n
theorem Same.sqt (e : Same H H') (h : SqT K H q xs) : SqT K H' q xs := by
  rcases h with (h | ⟨o, h⟩) | h
  · exact .inl (.inl (e _ _ h))
  · exact .inl (.inr ⟨o, e _ _ h⟩)
  · exact .inr h
end heaps
section steps2
variable {K : PySem.W.Frag} {σ : L2.St} {H : Hp} {Q : VK} {C p : Addr} {sp : Sp} {W : WX} {t : TA} {te td ty tv : TE} {x y v : V} {kvs : List (Key × V)} {i : Int} {N : L2.St → Hp → Prop}
def mkQ (C : Addr) (sp : Sp) (W : WX) (σ : L2.St) (vs : List V) (H1 : Hp) (Q : VK) : Prop := ∀ x dx, H1 x = none → H1 dx = none → dx ≠ x → sp (.ref x :: vs) (upd (upd H1 dx (.own x)) x (.ins C dx [])) (fun v H2 => v = .non ∧ Q (.ref x) H2) fun c d H2 => W c d σ H2
theorem w_make (h : t σ H fun vs H1 => mkQ C sp W σ vs H1 Q) : uMake C sp W t σ H Q := h
def dgQ (x y : V) (H : Hp) (Q : VK) : Prop := ∃ a v, x = .ref a ∧ DGet H a y (some v) ∧ Q v H
theorem w_dget (h : td σ H fun x H1 => ty σ H1 fun y H2 => dgQ x y H2 Q) : tDGet td ty σ H Q := h
theorem w_dgetI (e : H p = some (.dK kvs)) (l : valV kvs (.inl i) = some v) (h : Q v H) : dgQ (.ref p) (.int i) H Q := ⟨p, v, rfl, by have z := DGet.k (k := .inl i) e; rw [l] at z; exact z, h⟩
theorem w_inD (e : H p = some (.dK kvs)) (h : Q (.bl (valV kvs (.inl i)).isSome) H) : uIn K (.int i) (.ref p) H Q := .inr ⟨_, DGet.k (k := .inl i) e, h⟩
theorem w_ninD (e : H p = some (.dK kvs)) (h : Q (.bl (!(valV kvs (.inl i)).isSome)) H) : uNin K (.int i) (.ref p) H Q := .inr ⟨_, DGet.k (k := .inl i) e, h⟩
def dpQ (x y v : V) (H : Hp) (N : Hp → Prop) : Prop := ∃ a H4, x = .ref a ∧ DPut H a y v H4 ∧ N H4
theorem w_dput {D : Ends} (h : tv σ H fun v H1 => td σ H1 fun x H2 => ty σ H2 fun y H3 => dpQ x y v H3 (D.nx σ)) : sDPut td ty tv D σ H := h
theorem w_dputI {M : Hp → Prop} (e : H p = some (.dK kvs)) (l : kvs.length < 10000000) (h : M (upd H p (.dK (putK kvs (.inl i) v)))) : dpQ (.ref p) (.int i) v H M := ⟨p, _, rfl, DPut.k (k := .inl i) e (Nat.lt_of_lt_of_le l (by decide)), h⟩
theorem w_lenD (e : H p = some (.dK kvs)) (h : Q (.int kvs.length) H) : uLen K [.ref p] H Q := .inr ⟨kvs, e, h⟩
theorem w_newD (h : ∀ p, H p = none → Q (.ref p) (upd H p (.dK []))) : tDNewK σ H Q := h
/-- a list times a number -/
theorem w_rep {xs : List V} {k : Int} (e : H p = some (.lst xs)) (h0 : 0 ≤ k) (h1 : k ≤ 100000) (h2 : xs.length ≤ 100) (h : ∀ q, H q = none → Q (.ref q) (upd H q (.lst (List.replicate k.toNat xs).flatten))) : uMul (.ref p) (.int k) H Q := by
  refine ⟨p, k, xs, rfl, rfl, e, by omega, by omega, ?_, h⟩
  have h3 : k.toNat ≤ 100000 := by omega
  have h4 : xs.length * k.toNat ≤ 100 * 100000 := Nat.mul_le_mul h2 h3
  exact Nat.le_trans h4 (by decide)
theorem rep1 (n : Nat) (z : Int) : (List.replicate n [V.int z]).flatten = (List.replicate n z).map V.int := by
  induction n with
  | zero => rfl
  | succ n ih => rw [List.replicate_succ, List.flatten_cons, ih, List.replicate_succ, List.map_cons]; rfl
theorem w_rep1 {z k : Int} (e : H p = some (.lst [.int z])) (h0 : 0 ≤ k) (h1 : k ≤ 100000) (h : ∀ q, H q = none → Q (.ref q) (upd H q (.lst ((List.replicate k.toNat z).map V.int)))) : uMul (.ref p) (.int k) H Q :=
  w_rep e h0 h1 (by simp) fun q hq => by rw [rep1]; exact h q hq
theorem w_gtup2 {a : Addr} {u : TGs} (e : SqT K H a [x, y]) (h : u [x, y] σ H N) : gTup K 2 u (.ref a) σ H N := ⟨a, _, rfl, e, rfl, h⟩
theorem w_gtup3 {a : Addr} {u : TGs} {z : V} (e : SqT K H a [x, y, z]) (h : u [x, y, z] σ H N) : gTup K 3 u (.ref a) σ H N := ⟨a, _, rfl, e, rfl, h⟩
theorem w_gtup4 {a : Addr} {u : TGs} {z w : V} (e : SqT K H a [x, y, z, w]) (h : u [x, y, z, w] σ H N) : gTup K 4 u (.ref a) σ H N := ⟨a, _, rfl, e, rfl, h⟩
theorem w_gcons {g : TG} {u : TGs} {r : List V} (h : g v σ H fun σ' H' => u r σ' H' N) : gCons g u (v :: r) σ H N := ⟨v, r, rfl, h⟩
theorem w_gnil (h : N σ H) : gNil [] σ H N := ⟨rfl, h⟩
def augQ (C : Addr) (f : Str) (r : V → V → Hp → VK → Prop) (tv : TE) (D : Ends) (σ : L2.St) (x : V) (H1 : Hp) : Prop := ∃ a dx fs v, x = .ref a ∧ H1 a = some (.ins C dx fs) ∧ fs.lookup f = some v ∧
  tv σ H1 fun y H2 => r v y H2 fun z H3 => ∃ dx' fs', H3 a = some (.ins C dx' fs') ∧ fs'.length < 1000 ∧ D.nx σ (upd H3 a (.ins C dx' (putF f z fs')))
theorem w_augf {D : Ends} {f : Str} {r : V → V → Hp → VK → Prop} (h : te σ H fun x H1 => augQ C f r tv D σ x H1) : uAugF C f r te tv D σ H := h
theorem w_augsub {D : Ends} {f : Str} {dx : Addr} {fs : List (Str × V)} {i j : Int} (e : H p = some (.ins C dx fs)) (l : fs.lookup f = some (.int i)) (s : fs.length < 1000) (h : D.nx σ (upd H p (.ins C dx (putF f (.int (i - j)) fs)))) : augQ C f rSub (tC (.int j)) D σ (.ref p) H :=
  ⟨p, dx, fs, _, rfl, e, l, i, j, rfl, rfl, dx, fs, e, s, h⟩
theorem w_augadd {D : Ends} {f : Str} {dx : Addr} {fs : List (Str × V)} {i j : Int} (e : H p = some (.ins C dx fs)) (l : fs.lookup f = some (.int i)) (s : fs.length < 1000) (h : D.nx σ (upd H p (.ins C dx (putF f (.int (i + j)) fs)))) : augQ C f rAdd (tC (.int j)) D σ (.ref p) H :=
  ⟨p, dx, fs, _, rfl, e, l, i, j, rfl, rfl, dx, fs, e, s, h⟩
end steps2
section whiles
variable {D : Ends} {σ : L2.St} {H : Hp} {c : TT} {tb : TS}
def whQ (P : L2.St → Hp → Prop) (μ : L2.St → Hp → Nat) (m : Nat) (tb : TS) (D : Ends) (σ : L2.St) (H : Hp) : Prop :=
  ∃ N : L2.St → Hp → Prop, (∀ σ' H', N σ' H' → ∃ m', m' < m ∧ (m' = μ σ' H' ∧ P σ' H')) ∧ tb { D with nx := N, ct := N, bk := D.nx } σ H
theorem f_while (P : L2.St → Hp → Prop) (μ : L2.St → Hp → Nat) (h0 : P σ H) (hs : ∀ σ H, P σ H → c σ H fun b H1 => if b = true then whQ P μ (μ σ H) tb D σ H1 else D.nx σ H1) : tWhile c tb D σ H := by
  refine ⟨fun m σ H => m = μ σ H ∧ P σ H, ⟨_, rfl, h0⟩, fun m σ H q => ?_⟩
  obtain ⟨rfl, p⟩ := q
  exact hs σ H p
theorem w_wh {P : L2.St → Hp → Prop} {μ : L2.St → Hp → Nat} {m : Nat} (h : tb { D with nx := fun σ' H' => P σ' H' ∧ μ σ' H' < m, ct := fun σ' H' => P σ' H' ∧ μ σ' H' < m, bk := D.nx } σ H) : whQ P μ m tb D σ H := ⟨_, fun _ _ n => ⟨_, n.2, rfl, n.1⟩, h⟩
end whiles
section data
variable {K : PySem.W.Frag} {H : Hp} {Q : VK} {α β : Type} [DecidableEq α] [PySem.W.Datum α] [DecidableEq β] [PySem.W.Datum β]
def Dt (K : PySem.W.Frag) (H : Hp) (v : V) (a : α) : Prop := Dp K H v (PySem.W.Datum.toD a)
def DtAll (K : PySem.W.Frag) (H : Hp) (vs : List V) (as : List α) : Prop := DpAll K H vs (as.map PySem.W.Datum.toD)
theorem Dt.int {i : Int} : Dt K H (.int i) i := Dp.int i
theorem Dt.bl {i : Bool} : Dt K H (.bl i) i := Dp.bl i
theorem Dt.str {i : Str} : Dt K H (.str i) i := Dp.str i
theorem Dt.list {p : Addr} {vs : List V} {as : List α} (e : SqL K H p vs) (h : DtAll K H vs as) : Dt K H (.ref p) as := Dp.lst e h
theorem Dt.tup {p : Addr} {vs : List V} {as : List α} (e : SqT K H p vs) (h : DtAll K H vs as) : Dt K H (.ref p) (PySem.W.Tup.mk as) := Dp.tup e h
theorem DtAll.nil : DtAll K H [] ([] : List α) := DpAll.nil
theorem DtAll.cons {v : V} {vs : List V} {a : α} {as : List α} (h : Dt K H v a) (hs : DtAll K H vs as) : DtAll K H (v :: vs) (a :: as) := DpAll.cons h hs
theorem DtAll.ints : ∀ (ns : List Int), DtAll K H (ns.map V.int) ns
  | [] => DpAll.nil
  | _ :: ns => DpAll.cons (Dp.int _) (DtAll.ints ns)
theorem DtAll.length : ∀ {vs : List V} {as : List α}, DtAll K H vs as → vs.length = as.length
  | [], [], _ => rfl
  | [], _ :: _, h => by cases h
  | _ :: _, [], h => by cases h
  | _ :: vs, _ :: as, h => by
    cases h with
    | cons h1 h2 => rw [List.length_cons, List.length_cons, DtAll.length h2]
theorem DtAll.append : ∀ {vs ws : List V} {as bs : List α}, DtAll K H vs as → DtAll K H ws bs → DtAll K H (vs ++ ws) (as ++ bs)
  | [], _, [], _, _, k => k
  | [], _, _ :: _, _, h, _ => by cases h
  | _ :: _, _, [], _, h, _ => by cases h
  | _ :: _, _, _ :: _, _, h, k => by
    cases h with
    | cons h1 h2 => exact DpAll.cons h1 (DtAll.append h2 k)
theorem w_neD {x y : V} {a b : α} (h1 : Dt K H x a) (h2 : Dt K H y b) (hd : PySem.W.Datum.depth α ≤ 60) (hx : ∃ p, x = .ref p) (h : Q (.bl (!decide (a = b))) H) : uNe K x y H Q := by
  obtain ⟨p, rfl⟩ := hx
  have z : rNeP K (.ref p) y H Q := ⟨_, _, h1, h2, ⟨PySem.W.Datum.plain a, Nat.le_trans (PySem.W.Datum.depth_le a) hd⟩, PySem.W.Datum.plain b, by rw [PySem.W.Datum.eqv]; exact h⟩
  unfold uNe; exact .inr z
mutual
theorem Dp.same {H' : Hp} (s : Same H H') : ∀ {d : PyData} {v : V}, Dp K H v d → Dp K H' v d
  | .none, _, h => by cases h; exact .non
  | .bool _, _, h => by cases h; exact .bl _
  | .int _, _, h => by cases h; exact .int _
  | .str _, _, h => by cases h; exact .str _
  | .list _, _, h => by
    cases h with
    | lst e a => exact .lst (s.seq e) (DpAll.same s a)
  | .tuple _, _, h => by
    cases h with
    | tup e a =>
      refine .tup ?_ (DpAll.same s a)
      rcases e with (e | ⟨o, e⟩) | e
      · exact .inl (.inl (s _ _ e))
      · exact .inl (.inr ⟨o, s _ _ e⟩)
      · exact .inr e
  | .dict _, _, h => by cases h
theorem DpAll.same {H' : Hp} (s : Same H H') : ∀ {ds : List PyData} {vs : List V}, DpAll K H vs ds → DpAll K H' vs ds
  | [], _, h => by cases h; exact .nil
  | _ :: _, _, h => by
    cases h with
    | cons h1 h2 => exact .cons (Dp.same s h1) (DpAll.same s h2)
end
theorem Dt.same {H' : Hp} (s : Same H H') {v : V} {a : α} (h : Dt K H v a) : Dt K H' v a := Dp.same s h
theorem DtAll.same {H' : Hp} (s : Same H H') {vs : List V} {as : List α} (h : DtAll K H vs as) : DtAll K H' vs as := DpAll.same s h
end data
section tups
variable {K : PySem.W.Frag} {H : Hp}
mutual
def tupOnly : PyData → Bool
  | .list _ => false
  | .dict _ => false
  | .tuple ds => tupOnlyAll ds
  | _ => true
def tupOnlyAll : List PyData → Bool
  | [] => true
  | d :: ds => tupOnly d && tupOnlyAll ds
end
mutual
theorem Dp.wr {p : Addr} {w o : HO} (hw : H p = some w) (n : ∀ ys, w ≠ .tup ys) (n2 : ∀ ob ys, w ≠ .frz ob ys) : ∀ {d : PyData} {v : V}, tupOnly d = true → Dp K H v d → Dp K (upd H p o) v d
  | .none, _, _, h => by cases h; exact .non
  | .bool _, _, _, h => by cases h; exact .bl _
  | .int _, _, _, h => by cases h; exact .int _
  | .str _, _, _, h => by cases h; exact .str _
  | .list _, _, t, _ => by simp [tupOnly] at t
  | .tuple ds, _, t, h => by
    cases h with
    | tup e a => exact .tup (sqt_wr e hw n n2) (DpAll.wr hw n n2 (by simpa [tupOnly] using t) a)
  | .dict _, _, _, h => by cases h
theorem DpAll.wr {p : Addr} {w o : HO} (hw : H p = some w) (n : ∀ ys, w ≠ .tup ys) (n2 : ∀ ob ys, w ≠ .frz ob ys) : ∀ {ds : List PyData} {vs : List V}, tupOnlyAll ds = true → DpAll K H vs ds → DpAll K (upd H p o) vs ds
  | [], _, _, h => by cases h; exact .nil
  | d :: ds, _, t, h => by
    have t' := Bool.and_eq_true_iff.mp (show (tupOnly d && tupOnlyAll ds) = true by simpa [tupOnlyAll] using t)
    cases h with
    | cons h1 h2 => exact .cons (Dp.wr hw n n2 t'.1 h1) (DpAll.wr hw n n2 t'.2 h2)
end
end tups
section comps
variable {K : PySem.W.Frag} {σ : L2.St} {H1 : Hp} {Q : VK} {g : TG} {tt : TT} {te : TE} {vs : List Nat}
def lcQ (g : TG) (tt : TT) (te : TE) (vs : List Nat) (σ : L2.St) (J : It) (H1 : Hp) (Q : VK) : Prop := ∀ D, H1 D = none → ∃ W : Nat → Nat → Hp → Prop, (∃ m, W 0 m (upd H1 D (.lst []))) ∧ ∀ i m H, W i m H →
  (J.stop i H ∧ Q (.ref D) H) ∨ (J.go i H ∧ ∃ Nx : Hp → Prop, (∀ H', Nx H' → ∃ m', m' < m ∧ W (i + 1) m' H') ∧ ∀ x H', J.yld i H x H' → g x (wipe σ vs) H' fun σ2 H2 => wipe σ2 vs = wipe σ vs ∧ tt σ2 H2 fun b H3 =>
    if b = true then te σ2 H3 fun y H4 => ∃ acc, H4 D = some (.lst acc) ∧ acc.length < sizeLine ∧ Nx (upd H4 D (.lst (acc ++ [y]))) else Nx H3)
theorem w_lc {wi : TI} (h : wi σ H1 fun J H2 => lcQ g tt te vs σ J H2 Q) : tLc wi g tt te vs σ H1 Q := h
theorem w_yes {QB : Bool → Hp → Prop} (h : QB true H1) : tYes σ H1 QB := h
/-- what a turn of a comprehension wants: the new item, put behind the list at D -/
def putQ (D : Addr) (N : Hp → Prop) (y : V) (H4 : Hp) : Prop := ∃ acc, H4 D = some (.lst acc) ∧ acc.length < sizeLine ∧ N (upd H4 D (.lst (acc ++ [y])))
/-- a comprehension over anything that yields by its place, P the heap between the turns -/
theorem l_any {J : It} {n : Nat} {item : Nat → V → Prop} (P : Addr → Nat → Hp → Prop) (h0 : ∀ D, H1 D = none → P D 0 (upd H1 D (.lst [])))
    (hgo : ∀ D i H, H1 D = none → i < n → P D i H → J.go i H ∧ ∀ x H', J.yld i H x H' → H' = H ∧ item i x) (hst : ∀ D H, H1 D = none → P D n H → J.stop n H)
    (hs : ∀ D i x H, H1 D = none → i < n → item i x → P D i H → g x (wipe σ vs) H fun σ2 H2 => wipe σ2 vs = wipe σ vs ∧ tt σ2 H2 fun b H3 => if b = true then te σ2 H3 (putQ D (P D (i + 1))) else P D (i + 1) H3)
    (hd : ∀ D H, H1 D = none → P D n H → Q (.ref D) H) : lcQ g tt te vs σ J H1 Q := by
  intro D hD
  refine ⟨fun i m H => m = n - i ∧ i ≤ n ∧ P D i H, ⟨n, by simp, Nat.zero_le _, h0 D hD⟩, fun i m H q => ?_⟩
  obtain ⟨rfl, hi, p⟩ := q
  rcases Nat.lt_or_ge i n with hl | hl
  · obtain ⟨a, b⟩ := hgo D i H hD hl p
    refine .inr ⟨a, P D (i + 1), fun H' p' => ⟨n - (i + 1), by omega, rfl, hl, p'⟩, fun x H' y => ?_⟩
    obtain ⟨rfl, c⟩ := b x H' y
    exact hs D i x _ hD hl c p
  · obtain rfl : i = n := Nat.le_antisymm hi hl
    exact .inl ⟨hst D H hD p, hd D H hD p⟩
theorem l_list {a : Addr} {xs : List V} (P : Addr → Nat → Hp → Prop) (h0 : ∀ D, H1 D = none → P D 0 (upd H1 D (.lst []))) (hl : ∀ D i H, H1 D = none → P D i H → SqL K H a xs)
    (hs : ∀ D i x H, H1 D = none → xs[i]? = some x → P D i H → g x (wipe σ vs) H fun σ2 H2 => wipe σ2 vs = wipe σ vs ∧ tt σ2 H2 fun b H3 => if b = true then te σ2 H3 (putQ D (P D (i + 1))) else P D (i + 1) H3)
    (hd : ∀ D H, H1 D = none → P D xs.length H → Q (.ref D) H) : lcQ g tt te vs σ (Itl K a) H1 Q :=
  l_any (n := xs.length) (item := fun i x => xs[i]? = some x) P h0 (fun D i H hD h p => ⟨⟨xs, xs[i], hl D i H hD p, List.getElem?_eq_getElem h⟩, fun x H' y => ⟨y.1, y.2 xs (hl D i H hD p)⟩⟩)
    (fun D H hD p => ⟨xs, hl D _ H hD p, Nat.le_refl _⟩) (fun D i x H a b c p => hs D i x H a c p) hd
end comps
section texts
/-- the text of these signs -/
def tx (l : List Nat) : Str := ⟨l.toArray⟩
theorem tx_list (l : List Nat) : (tx l).cps.toList = l := rfl
theorem tx_len (l : List Nat) : (tx l).length = l.length := by unfold tx Str.length; exact List.size_toArray
theorem tx_app (l m : List Nat) : tx l ++ tx m = tx (l ++ m) := PySem.Str.ext' (by rw [PySem.Str.cps_append]; exact Array.toList_inj.mp (by rw [Array.toList_append]; rfl))
theorem tx_inj {l m : List Nat} : tx l = tx m ↔ l = m := ⟨fun h => by have := congrArg (fun z : Str => z.cps.toList) h; exact this, fun h => by rw [h]⟩
theorem cut_tk (l : List Nat) (k : Nat) : cutS (tx l) none (some (k : Int)) = tx (l.take k) := by
  unfold cutS
  rw [tx_len, HT.sIx_nat, HT.sIx_none, List.drop_zero, Nat.sub_zero, tx_list, ← List.take_take, List.take_length]
  rfl
theorem cut_dp (l : List Nat) (k : Nat) : cutS (tx l) (some (k : Int)) none = tx (l.drop k) := by
  unfold cutS
  rw [tx_len, HT.sIx_nat, HT.sIx_none, tx_list]
  rcases Nat.le_total k l.length with h | h
  · rw [Nat.min_eq_left h, List.take_of_length_le (by rw [List.length_drop]; exact Nat.le_refl _)]; rfl
  · rw [Nat.min_eq_right h, List.drop_length, List.drop_eq_nil_of_le h, List.take_nil]; rfl
theorem fold_rep (c : Nat) : ∀ (n : Nat) (a : Array Nat), (List.replicate n #[c]).foldl (· ++ ·) a = a ++ (List.replicate n c).toArray
  | 0, a => by simp
  | n + 1, a => by
    rw [List.replicate_succ, List.foldl_cons, fold_rep c n]
    apply Array.toList_inj.mp
    simp [List.replicate_succ]
theorem mul_one (c : Nat) (n : Nat) : Txt.mul (tx [c]) (n : Int) = tx (List.replicate n c) := by
  unfold Txt.mul
  by_cases h : (n : Int) < 1
  · rw [if_pos h]; obtain rfl : n = 0 := by omega
    rfl
  · rw [if_neg h]
    by_cases h2 : ((n : Int) == 1 || (tx [c]).length == 0) = true
    · rw [if_pos h2]
      have : (n : Int) = 1 := by
        rcases Bool.or_eq_true_iff.mp h2 with h2 | h2
        · exact eq_of_beq h2
        · cases h2
      obtain rfl : n = 1 := by omega
      rfl
    · rw [if_neg h2, Int.toNat_natCast]
      exact PySem.Str.ext' (by show (List.replicate n #[c]).foldl (· ++ ·) #[] = _; rw [fold_rep]; simp [tx])
theorem mulOk_one (c : Nat) {n : Int} (h0 : 0 ≤ n) (h1 : n ≤ 100000) : MulOk (tx [c]) n := by
  have e : (tx [c]).length = 1 := rfl
  refine ⟨?_, fun h _ => ?_, fun h _ => ?_⟩
  · rw [decide_eq_false (by omega), decide_eq_false (by omega)]; rfl
  · rw [e]
    have : (1 : Int) ≤ (2 ^ 63 - 1) / n := Int.le_ediv_of_mul_le (by omega) (by omega)
    omega
  · rw [e]; unfold Builtin.Str.tooLong
    rw [decide_eq_false]
    have : (100000 : Nat) ≤ sizeLine := by decide
    omega
/-- the first place of a sign in a text, or -1 -/
def ixc (l : List Nat) (c : Nat) : Int := if c ∈ l then (l.idxOf c : Int) else -1
theorem tx_find (l : List Nat) (c : Nat) : Txt.find (tx l) (tx [c]) = ixc l c := by
  unfold Txt.find ixc
  have key : ∀ i, PySem.StrLaws.At (tx l) (tx [c]) (tx l).length i ↔ l[i]? = some c := fun i => PySem.StrLaws.subAt_one (tx l) c i
  rcases PySem.StrLaws.occ_head (tx l) (tx [c]) 1 (Nat.le_refl 1) with ⟨e, hn⟩ | ⟨i, r, e, ha, hn⟩
  · rw [e, if_neg]
    intro hm
    obtain ⟨i, hi⟩ := List.getElem?_of_mem hm
    exact hn i ((key i).mpr hi)
  · rw [e]
    have hi := (key i).mp ha
    rw [if_pos (List.mem_of_getElem? hi)]
    have hl : i < l.length := (List.getElem?_eq_some_iff.mp hi).1
    have hg : l[i] = c := (List.getElem?_eq_some_iff.mp hi).2
    have h1 : l.idxOf c < l.length := List.idxOf_lt_length_iff.mpr (List.mem_of_getElem? hi)
    have h2 : l[l.idxOf c] = c := List.getElem_idxOf h1
    have h3 : ¬ l.idxOf c < i := fun q => hn _ q ((key _).mpr (by rw [List.getElem?_eq_getElem h1, h2]))
    have h4 : ¬ i < l.idxOf c := fun q => by
      have := List.not_of_lt_findIdx (p := (· == c)) (xs := l) (i := i) q
      simp [hg] at this
    have : l.idxOf c = i := by omega
    rw [this]
theorem cnt_eq (c : Nat) : ∀ l : List Nat, PyProof.Rows.cnt c l = (l.count c : Nat)
  | [] => rfl
  | n :: l => by
    rw [PyProof.Rows.cnt_cons, cnt_eq c l, List.count_cons]
    by_cases h : n = c
    · subst h; simp; omega
    · simp [h]
theorem tx_count (l : List Nat) (c : Nat) : Txt.count (tx l) (tx [c]) = (l.count c : Nat) := (PyProof.Rows.count_is (tx l) c).trans (cnt_eq c l)
end texts
section textsteps
variable {X : Cx} {K : PySem.W.Frag} {H : Hp} {Q : VK} {l m : List Nat} {c : Nat} {n : Int}
def uFind : V → List V → Hp → VK → Prop := fun x xs H Q => match x, xs with
  | .str a, [.str b] => Q (.int (Txt.find a b)) H
  | _, _ => False
def uCount : V → List V → Hp → VK → Prop := fun x xs H Q => match x, xs with
  | .str a, [.str b] => Q (.int (Txt.count a b)) H
  | _, _ => False
theorem w_addX (s : l.length + m.length ≤ 100000) (h : Q (.str (tx (l ++ m))) H) : uAdd K (.str (tx l)) (.str (tx m)) H Q := ⟨by rw [tx_len, tx_len]; exact small9 s, by rw [tx_app]; exact h⟩
theorem w_mulX (h0 : 0 ≤ n) (h1 : n ≤ 100000) (h : Q (.str (tx (List.replicate n.toNat c))) H) : uMul (.str (tx [c])) (.int n) H Q := by
  obtain ⟨k, rfl⟩ := Int.eq_ofNat_of_zero_le h0
  exact ⟨mulOk_one c h0 h1, by rw [mul_one]; exact h⟩
theorem w_lenX (s : l.length ≤ 100000) (h : Q (.int l.length) H) : uLen K [.str (tx l)] H Q := ⟨by rw [tx_len]; exact small9 s, by rw [tx_len]; exact h⟩
theorem w_truX {QB : Bool → Hp → Prop} (s : l.length ≤ 100000) (h : QB (!decide (l.length = 0)) H) : truV K (.str (tx l)) H QB := ⟨by rw [tx_len]; exact small9 s, by rw [tx_len]; exact h⟩
theorem d_tx : decide (tx l = tx m) = decide (l = m) := decide_eq_decide.mpr tx_inj
theorem w_eqX (h : Q (.bl (decide (l = m))) H) : uEq K (.str (tx l)) (.str (tx m)) H Q := by
  rw [← d_tx] at h; exact h
theorem w_neX (h : Q (.bl (!decide (l = m))) H) : uNe K (.str (tx l)) (.str (tx m)) H Q := by
  rw [← d_tx] at h; exact h
theorem w_tkX (s : l.length ≤ 100000) (h0 : 0 ≤ n) (h : Q (.str (tx (l.take n.toNat))) H) : uSl K (.str (tx l)) none (some n) H Q := by
  obtain ⟨k, rfl⟩ := Int.eq_ofNat_of_zero_le h0
  exact .inr (.inr ⟨_, rfl, by rw [tx_len]; exact small9 s, by rw [cut_tk]; exact h⟩)
theorem w_dpX (s : l.length ≤ 100000) (h0 : 0 ≤ n) (h : Q (.str (tx (l.drop n.toNat))) H) : uSl K (.str (tx l)) (some n) none H Q := by
  obtain ⟨k, rfl⟩ := Int.eq_ofNat_of_zero_le h0
  exact .inr (.inr ⟨_, rfl, by rw [tx_len]; exact small9 s, by rw [cut_dp]; exact h⟩)
theorem w_ixX (s : l.length ≤ 100000) (h0 : 0 ≤ n ∧ n.toNat < l.length) (h : Q (.str (tx [l.getD n.toNat 0])) H) : uIx K (.str (tx l)) (.int n) H Q := by
  refine ⟨by rw [tx_len]; exact small9 s, l.getD n.toNat 0, ?_, h⟩
  have y := atI_nat (show l[n.toNat]? = some (l.getD n.toNat 0) by rw [List.getD_eq_getElem?_getD, List.getElem?_eq_getElem h0.2]; rfl)
  rw [show ((n.toNat : Nat) : Int) = n by omega] at y
  exact y
theorem w_findX (h : Q (.int (ixc l c)) H) : uFind (.str (tx l)) [.str (tx [c])] H Q := by
  rw [← tx_find] at h; exact h
theorem w_countX (h : Q (.int ((l.count c : Nat) : Int)) H) : uCount (.str (tx l)) [.str (tx [c])] H Q := by
  rw [← tx_count] at h; exact h
end textsteps
section steps4
variable {X : Cx} {K : PySem.W.Frag} {D : Ends} {σ : L2.St} {H H1 : Hp} {Q : VK} {g : TG} {tb : TS} {tt : TT} {te td ty tx : TE} {tA : TA} {p q a b : Addr} {xs ys : List V} {kvs : List (Key × V)} {x y z v : V} {i : Int} {vs : List Nat}
def enumQ (K : PySem.W.Frag) (vs : List V) (H1 : Hp) (R : It → Hp → Prop) : Prop := ∃ a xs, vs = [.ref a] ∧ SqL K H1 a xs ∧ R (Ite K a) H1
theorem w_iEnum {R : It → Hp → Prop} (h : tA σ H fun vs H1 => enumQ K vs H1 R) : iEnum K tA σ H R := h
theorem w_iEnumv {R : It → Hp → Prop} (e : SqL K H p xs) (h : R (Ite K p) H) : enumQ K [.ref p] H R := ⟨p, xs, rfl, e, h⟩
def zipQ (K : PySem.W.Frag) (vs : List V) (H1 : Hp) (R : It → Hp → Prop) : Prop := ∃ a b xs ys, vs = [.ref a, .ref b] ∧ SqL K H1 a xs ∧ SqL K H1 b ys ∧ R (Itz K a b) H1
theorem w_iZip {R : It → Hp → Prop} (h : tA σ H fun vs H1 => zipQ K vs H1 R) : iZip K tA σ H R := h
theorem w_iZipv {R : It → Hp → Prop} (e : SqL K H p xs) (e2 : SqL K H q ys) (h : R (Itz K p q) H) : zipQ K [.ref p, .ref q] H R := ⟨p, q, xs, ys, rfl, e, e2, h⟩
theorem f_keys {od : Obj} (Pv : Nat → L2.St → Hp → Prop) (h0 : Pv 0 σ H) (hl : ∀ i σ H, i ≤ kvs.length → Pv i σ H → H a = some (.frz od (.dK kvs)))
    (hs : ∀ i k v σ H, kvs[i]? = some (k, v) → Pv i σ H → g (kV k) σ H fun σ2 H2 => tb { D with nx := Pv (i + 1), ct := Pv (i + 1), bk := D.nx } σ2 H2) (hd : ∀ σ H, Pv kvs.length σ H → D.nx σ H) : forQ g tb D σ (Itk a od kvs) H :=
  f_any (n := kvs.length) (item := fun i x => ∃ k v, kvs[i]? = some (k, v) ∧ x = kV k) Pv h0 (fun i σ H h p => ⟨⟨hl i σ H (Nat.le_of_lt h) p, h⟩, fun _ _ y => y⟩) (fun σ H p => ⟨hl _ σ H (Nat.le_refl _) p, Nat.le_refl _⟩)
    (fun i x σ H _ e p => by obtain ⟨k, v, e, rfl⟩ := e; exact hs i k v σ H e p) hd
theorem l_keys {od : Obj} (P : Addr → Nat → Hp → Prop) (h0 : ∀ D, H1 D = none → P D 0 (upd H1 D (.lst []))) (hl : ∀ D i H, H1 D = none → P D i H → H a = some (.frz od (.dK kvs)))
    (hs : ∀ D i k v H, H1 D = none → kvs[i]? = some (k, v) → P D i H → g (kV k) (wipe σ vs) H fun σ2 H2 => wipe σ2 vs = wipe σ vs ∧ tt σ2 H2 fun b H3 => if b = true then te σ2 H3 (putQ D (P D (i + 1))) else P D (i + 1) H3)
    (hd : ∀ D H, H1 D = none → P D kvs.length H → Q (.ref D) H) : lcQ g tt te vs σ (Itk a od kvs) H1 Q :=
  l_any (n := kvs.length) (item := fun i x => ∃ k v, kvs[i]? = some (k, v) ∧ x = kV k) P h0 (fun D i H hD h p => ⟨⟨hl D i H hD p, h⟩, fun _ _ y => y⟩)
    (fun D H hD p => ⟨hl D _ H hD p, Nat.le_refl _⟩) (fun D i x H a _ e p => by obtain ⟨k, v, e, rfl⟩ := e; exact hs D i k v H a e p) hd
def keysQ (x : V) (H1 : Hp) (R : It → Hp → Prop) : Prop := ∃ d o, x = .ref d ∧ ((∃ kvs, H1 d = some (.frz o (.dK kvs)) ∧ R (Itk d o kvs) H1) ∨ ∃ kvs, H1 d = some (.frz o (.dT kvs)) ∧ R (Itkt d o kvs) H1)
theorem w_iKeys {R : It → Hp → Prop} (h : te σ H fun x H1 => keysQ x H1 R) : iKeys te σ H R := h
theorem w_iKeysv {od : Obj} {R : It → Hp → Prop} (e : H p = some (.frz od (.dK kvs))) (h : R (Itk p od kvs) H) : keysQ (.ref p) H R := ⟨p, od, rfl, .inl ⟨kvs, e, h⟩⟩
/-- d.get(k, e), d.get(k) -/
def get2Q (ty tx : TE) (σ : L2.St) (x : V) (H1 : Hp) (Q : VK) : Prop := ∃ a, x = .ref a ∧ IsD H1 a ∧ ty σ H1 fun y H2 => tx σ H2 fun z H3 => ∃ o, DGet H3 a y o ∧ Q (o.getD z) H3
def getQ (p : Addr) (y z : V) (H : Hp) (Q : VK) : Prop := ∃ o, DGet H p y o ∧ Q (o.getD z) H
theorem w_dget2 (h : td σ H fun x H1 => get2Q ty tx σ x H1 Q) : tDGet2 td ty tx σ H Q := h
theorem w_dget2v (e : H p = some (.dK kvs)) (h : ty σ H fun y H2 => tx σ H2 fun z H3 => getQ p y z H3 Q) : get2Q ty tx σ (.ref p) H Q := ⟨p, rfl, .inl ⟨kvs, .inl e⟩, h⟩
def get1Q (ty : TE) (σ : L2.St) (x : V) (H1 : Hp) (Q : VK) : Prop := ∃ a, x = .ref a ∧ IsD H1 a ∧ ty σ H1 fun y H2 => getQ a y .non H2 Q
theorem w_dget1 (h : td σ H fun x H1 => get1Q ty σ x H1 Q) : tDGet1 td ty σ H Q := h
theorem w_dget1v (e : H p = some (.dK kvs)) (h : ty σ H fun y H2 => getQ p y .non H2 Q) : get1Q ty σ (.ref p) H Q := ⟨p, rfl, .inl ⟨kvs, .inl e⟩, h⟩
theorem w_getI (e : H p = some (.dK kvs)) (h : Q ((valV kvs (.inl i)).getD z) H) : getQ p (.int i) z H Q := ⟨_, DGet.k (k := .inl i) e, h⟩
/-- d.pop(k) -/
def pop1Q (ty : TE) (σ : L2.St) (x : V) (H1 : Hp) (Q : VK) : Prop := ∃ a, x = .ref a ∧ IsD H1 a ∧ ty σ H1 fun y H2 => popQ1 a y H2 Q
where popQ1 (a : Addr) (y : V) (H2 : Hp) (Q : VK) : Prop := ∃ kvs k v, H2 a = some (.dK kvs) ∧ y = kV k ∧ valV kvs k = some v ∧ Q v (upd H2 a (.dK (dropK kvs k)))
theorem w_dpop1 (h : td σ H fun x H1 => pop1Q ty σ x H1 Q) : tDPop1 td ty σ H Q := h
theorem w_dpop1v (e : H p = some (.dK kvs)) (h : ty σ H fun y H2 => pop1Q.popQ1 p y H2 Q) : pop1Q ty σ (.ref p) H Q := ⟨p, rfl, .inl ⟨kvs, .inl e⟩, h⟩
theorem w_popI (e : H p = some (.dK kvs)) (l : valV kvs (.inl i) = some v) (h : Q v (upd H p (.dK (dropK kvs (.inl i))))) : pop1Q.popQ1 p (.int i) H Q := ⟨kvs, .inl i, v, e, rfl, l, h⟩
/-- del d[k] -/
def delQ (x y : V) (H2 : Hp) (N : Hp → Prop) : Prop := ∃ a kvs k, x = .ref a ∧ H2 a = some (.dK kvs) ∧ y = kV k ∧ (valV kvs k).isSome = true ∧ N (upd H2 a (.dK (dropK kvs k)))
theorem w_ddel (h : td σ H fun x H1 => ty σ H1 fun y H2 => delQ x y H2 (D.nx σ)) : sDDel td ty D σ H := h
theorem w_delI {N : Hp → Prop} (e : H p = some (.dK kvs)) (l : (valV kvs (.inl i)).isSome = true) (h : N (upd H p (.dK (dropK kvs (.inl i))))) : delQ (.ref p) (.int i) H N := ⟨p, kvs, .inl i, rfl, e, rfl, l, h⟩
/-- dict(d) -/
def uDict : List V → Hp → VK → Prop := fun xs H Q => ∃ (a : Addr) (kvs : List (Key × V)), xs = [.ref a] ∧ Rd H a (.dK kvs) ∧ ∀ p, H p = none → Q (.ref p) (upd H p (.dK kvs))
theorem c_dict : CallR X (.type "dict") uDict := call_dictD
theorem w_tdict (e : H p = some (.dK kvs)) (h : ∀ l, H l = none → Q (.ref l) (upd H l (.dK kvs))) : uDict [.ref p] H Q := ⟨p, kvs, rfl, .inl e, h⟩
/-- sorted(d), d's keys ints; sorted(xs), ints -/
def uSortD : List V → Hp → VK → Prop := fun xs H Q => ∃ (a : Addr) (kvs : List (Key × V)) (ks : List Int), xs = [.ref a] ∧ Rd H a (.dK kvs) ∧ kvs.map (·.1) = ks.map Sum.inl ∧ ks.length < 64 ∧
    ∀ (ys : List Int) (p : Addr), ys.Perm ks → ys.Pairwise (· ≤ ·) → H p = none → Q (.ref p) (upd H p (.lst (ys.map V.int)))
theorem c_sortD (hc : X.calm = true) : CallR X (.builtin "sorted") uSortD := call_sortedDI hc
theorem c_sortI : CallR X (.builtin "sorted") (rSortedI X.K) := cr_sortedI
end steps4
section hotdefs
variable {P : Program} {w : World} {K : PySem.W.Frag} {mg : Str → Option Value} {base : Heap}
structure FnX (P : Program) (w : World) (K : PySem.W.Frag) (mg : Str → Option Value) (base : Heap) (k : Nat) (f : Addr) (fd : FuncData) (ps : List Str) (sp : Addr → Value → Sp) : Prop where
  len : ∀ a c vs H Q E, sp a c vs H Q E → vs.length = ps.length
  run : ∀ (A : Around) (outer : List Env) (s : Shared) (H : Hp) (args : Args) (us : List Value) (vs : List V) (Q : VK) (E : XK) (p : Addr × Obj) (cls : Value), L2H.RoomH k A → L2H.PinOk outer H s p → Zc cls none p.2 → (∃ fs, p.2.data = .fields fs) →
    Env0 P w K mg base A outer s H → BindsTo s fd args (ps.zip us) → Vals vs us → sp p.1 cls vs H Q E → codeAny (model P w) A (.call (.ref f) args) (CR (L2.CX P w) outer P w H s Q E) s
theorem okH {x qual : Str} {st : Stmt} {f : Addr} {fd : FuncData} {N ps : List Str} {k : Nat} {sp : Addr → Value → Sp} (F : Fun K x qual st f fd) (S : FnScope N ps (defScope st)) (len : ∀ a c vs H Q E, sp a c vs H Q E → vs.length = ps.length)
    (hbody : ∀ (cdv : Value) (A : Around) (outer : List Env) (s : Shared) (H : Hp) (vs : List V) (Q : VK) (E : XK) (p : Addr × Obj) (cls : Value), Zc cls none p.2 → (∃ fs, p.2.data = .fields fs) → L2H.RoomH k (A.deeper (envOfC qual (defScope st) s.heap.objs.size f cdv)) → sp p.1 cls vs H Q E →
      ∃ t, PSs (L2H.cxH (L2.CX P w) P w K mg base N qual (defScope st) f cdv A outer s H E p) (defBody st) t ∧ t { nx := fun _ H' => Q .non H', rt := Q } (start N vs) H) : FnX P w K mg base (k + 1) f fd ps sp := by
  obtain ⟨oc, od, kV, doc, pm, an, cdv, ct, osl, rfl, lk, hcd⟩ := F.ex
  refine ⟨len, fun A outer s H args us vs Q E p cls hr hpin hz hf e0 hb r hsp => ?_⟩
  have hl := len _ _ _ _ _ _ hsp
  have KX : K.In s.heap := e0.mod.kin.keeps fun b o e => (e0.bs b o e).1
  have lim : s.heap.NoLimit := e0.mod.nolimit.keeps fun b o e => (e0.bs b o e).1
  have hkind : ∀ y ∈ ps.zip us, (defScope st).names.lookup y.1 = some .local ∨ ((defScope st).names.lookup y.1 = some .cell ∧ ((cellsFrom (s.heap.objs.size + 1) (defScope st).names []).lookup y.1).isSome = true) := fun ⟨n, v⟩ hy => by
    rcases S.par n (List.of_mem_zip hy).1 with q | q
    · exact .inl q
    · exact .inr ⟨q, PySem.W.cellsFrom_some _ _ _ (.inl q)⟩
  refine codeAny_call_function hr.depth (KX _ _ lk) rfl S.co S.gen rfl (PySem.W.codeRec_of KX hcd) (hb _ _ _ _ ?_)
  refine wpAny_newFunctionEnv_cells S.kind hkind fun env he s1 x => ?_
  subst he
  refine ⟨lim.keeps x.toInCall.keep, codeAny_func ?_⟩
  obtain ⟨t, ht, hq⟩ := hbody cdv A outer s H vs Q E p cls hz hf (hr.deeper _) hsp
  have I : Inv (L2H.cxH (L2.CX P w) P w K mg base N qual (defScope st) f cdv A outer s H E p) [] (L2.start N vs) H s1 := L2H.inv_startH S hpin e0 hl r x
  refine wpAny_mono (ht.run [] s1 (L2.start N vs) H _ I hq) (fun fl s' hs => ?_) fun e s' hs => hs
  have fin : ∀ {σ' : L2.St} {H' : Hp} {v : V} {u : Value}, Inv (L2H.cxH (L2.CX P w) P w K mg base N qual (defScope st) f cdv A outer s H E p) [] σ' H' s' → RelV v u → Q v H' → CE outer P w H s Q u s' :=
    fun {σ' H' v u} J rv q => ⟨v, H', J.os, J.bare, J.base, J.hok, rv, q⟩
  cases fl with
  | ret u =>
    obtain ⟨v, σ', H', J, rv, q⟩ := hs
    exact fin J rv q
  | next =>
    obtain ⟨σ', H', J, q⟩ := hs
    exact fin (v := V.non) (u := Value.none) J rfl q
  | brk =>
    obtain ⟨_, _, _, q⟩ := hs
    exact False.elim q
  | cont =>
    obtain ⟨_, _, _, q⟩ := hs
    exact False.elim q
variable {X : Cx}
theorem c_isP {a : Addr} {oe : Obj} {cls : Value} {d : Option Addr} (hp : (a, oe) ∈ X.pn) (hz : Zc cls d oe) (hf : ∃ fs, oe.data = .fields fs) : CallR X (.builtin "isinstance") (uIsE X.K a cls d) := by
  intro pins s σ H xs us Q I r h
  obtain ⟨D, C, b, rfl, rfl, x, rfl, e, q⟩ := h
  cases r with
  | cons rx rr =>
    cases rr with
    | cons rt rr =>
      cases rr
      cases rx
      cases rt
      obtain ⟨hget, _⟩ := I.pin (a, oe) (List.mem_append.mpr (.inl hp))
      obtain ⟨vs, hv⟩ := hf
      have J : PySem.W.InstAt s.heap a oe D none := by
        obtain ⟨oc, od, oda, osl⟩ := oe
        obtain ⟨h1, h2⟩ := hz
        dsimp only at h1 h2 hv
        subst h1 h2 hv
        exact ⟨hget, rfl, rfl, trivial⟩
      exact PySem.W.kia_one (PySem.W.handS_kitx_exc x.hg x.hk x.hs x.hd x.ha x.hn x.ht x.hm) I.kIn J e (fun z => nomatch z) fun tk => ⟨.bl b, H, I.kept (t' := tk) fun _ _ z => z, rfl, q⟩
def uCallX (a : Addr) (cls : Value) (d : Option Addr) (sp : Addr → Value → Sp) (t : TA) : TE := fun σ H Q => d = none ∧ t σ H fun vs H1 => sp a cls vs H1 Q fun _ _ _ => False
theorem w_callX {a : Addr} {cls : Value} {sp : Addr → Value → Sp} {t : TA} {σ : L2.St} {H : Hp} {Q : VK} (h : t σ H fun vs H1 => sp a cls vs H1 Q fun _ _ _ => False) : uCallX a cls none sp t σ H Q := ⟨rfl, h⟩
theorem e_callX {k : Nat} {f a : Addr} {oe : Obj} {cls : Value} {d : Option Addr} {fd : FuncData} {ps : List Str} {sp : Addr → Value → Sp} {x : Str} {q pos : Pos} {e : Expr} {es : List Expr} {t : TA} (F : FnX X.prog X.w X.K X.mg X.base k f fd ps sp) (hr : L2H.RoomH k X.A)
    (hp : (a, oe) ∈ X.pn) (hz : Zc cls d oe) (hf : ∃ fs, oe.data = .fields fs) (hm : X.mg x = some (.ref f)) (hk : PySem.W.keepIn X.K (.ref f) = true) (hb : Binds X.K fd ps []) (ha : PA X (e :: es) t) (hg : Gl X x := by rfl) (hdb : (x == ("__debug__" : Str)) = false := by decide)
    (he : starEach (e :: es) X.env = (false, eval e X.env) :: starEach es X.env := by rfl) (hpl : (backTo pos (starEach es X.env)).any (·.1) = false := by rfl) : PE X (.Call (.Name x q) (e :: es) [] pos) (uCallX a cls d sp t) := by
  refine ⟨fun pins s σ H Q I h => ?_⟩
  obtain ⟨rfl, h⟩ := h
  refine wpAny_Call_Name_kw (ld_glob I hg hm ?_ hdb)
  refine PySem.W.callWith_K (h₀ := X.base) I.ok.mod.kin hk (thn (ha.run pos pins s σ H _ I h) fun us s1 ⟨vs, H1, I1, r, q⟩ => ⟨I1.kIn, ?_⟩) he hpl
  have hl : us.length = ps.length := by rw [← r.length]; exact F.len _ _ _ _ _ _ q
  have b := hb s1 us I1.kIn (by rw [List.append_nil]; exact hl)
  rw [List.append_nil] at b
  have P1 := I1.pin (a, oe) (List.mem_append_left _ hp)
  have hpin : L2H.PinOk X.stack H1 s1 (a, oe) := ⟨P1.1, P1.2.1, fun hm => (List.mem_cons.mp (I1.stkSub a hm)).elim P1.2.2.1 P1.2.2.2.1, P1.2.2.2.2⟩
  refine wpAny_call (codeAny_mono (F.run X.A X.stack s1 H1 ⟨us, []⟩ us vs Q _ (a, oe) cls hr hpin hz hf I1.env0 b r q) fun r s' hq => ?_)
  cases r with
  | error e =>
    obtain ⟨_, _, _, _, _, _, _, _, _, _, _, _, z⟩ := hq
    exact z.elim
  | ok fl =>
    cases fl with
    | ret u => exact I1.after hq
    | next => exact False.elim hq
    | brk => exact False.elim hq
    | cont => exact False.elim hq
end hotdefs
section steps5
variable {K : PySem.W.Frag} {H : Hp} {Q : VK} {s t : Str} {A B : Prop}
theorem ifSF (h : decide (s = t) = false) (k : B) : if decide (s = t) = true then A else B := by rw [h]; exact iteF k
theorem ifST (h : decide (s = t) = true) (k : A) : if decide (s = t) = true then A else B := by rw [h]; exact iteT k
theorem ifSNF (h : decide (s = t) = true) (k : B) : if (!decide (s = t)) = true then A else B := by rw [h]; exact iteF k
theorem ifSNT (h : decide (s = t) = false) (k : A) : if (!decide (s = t)) = true then A else B := by rw [h]; exact iteT k
theorem w_neNN (h : Q (.bl false) H) : uNe K .non .non H Q := .inl ⟨rfl, h⟩
theorem w_eqNN (h : Q (.bl true) H) : uEq K .non .non H Q := .inl ⟨rfl, h⟩
end steps5
section steps6
variable {K : PySem.W.Frag} {H : Hp} {Q : VK} {p : Addr} {n : Int}
theorem w_ixBl {bs : List Bool} (e : SqL K H p (bs.map V.bl)) (h0 : 0 ≤ n ∧ n.toNat < bs.length) (h : Q (.bl (bs.getD n.toNat false)) H) : uIx K (.ref p) (.int n) H Q :=
  ⟨_, .bl (bs.getD n.toNat false), .inl e, by
    have z : (bs.map V.bl)[n.toNat]? = some (.bl (bs.getD n.toNat false)) := by rw [List.getElem?_map, List.getElem?_eq_getElem h0.2, List.getD_eq_getElem?_getD, List.getElem?_eq_getElem h0.2]; rfl
    have y := atI_nat z
    rw [show ((n.toNat : Nat) : Int) = n by omega] at y
    exact y, h⟩
def augSQ (ti te : TE) (g : V → V → Hp → VK → Prop) (op : TIp) (ts : TSet) (D : Ends) (σ : L2.St) (x : V) (H1 : Hp) : Prop := ti σ H1 fun i H2 => g x i H2 fun v H3 => te σ H3 fun y H4 => op v y H4 fun z H5 => ts x i z H5 fun H6 => D.nx σ H6
theorem w_getI2 {ns : List Int} (e : SqL K H p (ns.map V.int)) (h0 : 0 ≤ n ∧ n.toNat < ns.length) (h : Q (.int (ns.getD n.toNat 0)) H) : uGet K (.ref p) (.int n) H Q :=
  .inl ⟨h0.1, _, .int (ns.getD n.toNat 0), e, by rw [List.getElem?_map, List.getElem?_eq_getElem h0.2, List.getD_eq_getElem?_getD, List.getElem?_eq_getElem h0.2]; rfl, h⟩
theorem w_augS {D : Ends} {σ : L2.St} {to ti te : TE} {g : V → V → Hp → VK → Prop} {op : TIp} {ts : TSet} (h : to σ H fun o H1 => augSQ ti te g op ts D σ o H1) : tAugS to ti te g op ts D σ H := h
theorem w_augSQ {D : Ends} {σ : L2.St} {ti te : TE} {g : V → V → Hp → VK → Prop} {op : TIp} {ts : TSet} {x : V} (h : ti σ H fun i H2 => g x i H2 fun v H3 => te σ H3 fun y H4 => op v y H4 fun z H5 => ts x i z H5 fun H6 => D.nx σ H6) : augSQ ti te g op ts D σ x H := h
end steps6
end U
namespace Lam
open PySem PySem.Spec L2 U
local macro_rules | `(tactic| walk_at "te") => `(tactic| fail "no fact")
local macro_rules | `(tactic| walk_at "kt") => `(tactic| fail "no fact")
local macro_rules | `(tactic| walk_at "xc") => `(tactic| fail "no fact")
local macro_rules | `(tactic| walk_at "x") => `(tactic| fail "no step")
local macro_rules | `(tactic| walk_at "hk") => `(tactic| first
  | assumption | exact upd_same | exact SqL.of upd_same | exact SqT.of upd_same
  | (apply sql_old; (· walk_at "hk"); (· assumption)) | (apply upd_old; (· walk_at "hk"); (· assumption)) | (apply sqt_old; (· walk_at "hk"); (· assumption))
  | exact L2.Same.seq (by assumption) (by assumption) | exact U.Same.sqt (by assumption) (by assumption) | exact (by assumption : L2.Same _ _) _ _ (by assumption)
  | (apply SqL.of; walk_at "hk") | (apply SqT.of; walk_at "hk"))
local macro_rules | `(tactic| walk_at "nn") => `(tactic| first | assumption | exact L2.Same.free (by assumption) (by assumption) | exact (none_of_upd (by assumption)).1)
local macro_rules | `(tactic| walk_at "sm") => `(tactic| first | assumption | exact L2.Same.refl _ | (apply same_updN; (· walk_at "sm"); (· assumption)) | (apply same_upd; (· walk_at "sm"); (· walk_at "nn")) | exact L2.Same.trans (by assumption) (by assumption))
local macro_rules | `(tactic| walk_at "s") => `(tactic| first
    | with_reducible refine w_seq ?_
    | with_reducible refine w_op ?_
    | with_reducible refine w_asg ?_
    | with_reducible refine w_name ?_
    | with_reducible refine w_c ?_
    | with_reducible refine w_if ?_
    | with_reducible refine w_test ?_
    | with_reducible refine w_blP ?_
    | with_reducible refine w_cons ?_
    | with_reducible refine w_nil ?_
    | with_reducible refine w_ret ?_
    | with_reducible refine w_call ?_
    | ((with_reducible refine' w_var ?e ?_); (case e => rfl))
    | ((with_reducible refine ifST ?h ?_); (case h => decide +kernel))
    | ((with_reducible refine ifSF ?h ?_); (case h => decide +kernel))
    | ((with_reducible refine ifSNT ?h ?_); (case h => decide +kernel))
    | ((with_reducible refine ifSNF ?h ?_); (case h => decide +kernel))
    | with_reducible refine iteT ?_
    | with_reducible refine iteF ?_
    | with_reducible refine ifNT ?_
    | with_reducible refine ifNF ?_
    | (((with_reducible show @ite Prop (_ = true) _ _ _); refine @ifP _ _ _ _ ?_ ?_) <;> intro h <;> first | (with_reducible exact absurd rfl h) | skip)
    | (((with_reducible show @ite Prop (_ = true) _ _ _); refine @ifN _ _ _ _ ?_ ?_) <;> intro h <;> first | (with_reducible exact absurd rfl h) | skip)
    | with_reducible refine w_eqX ?_
    | with_reducible refine w_neX ?_
    | with_reducible refine w_add ?_
    | with_reducible refine w_sub ?_
    | with_reducible refine w_eqI ?_
    | with_reducible refine w_neI ?_
    | with_reducible refine w_lt ?_
    | with_reducible refine w_le ?_
    | with_reducible refine w_gt ?_
    | with_reducible refine w_ge ?_
    | with_reducible refine w_eqS ?_
    | with_reducible refine w_eqB ?_
    | with_reducible refine w_neS ?_
    | with_reducible refine w_neB ?_
    | with_reducible refine w_cb ?_
    | with_reducible refine w_tup ?_
    | with_reducible refine w_lst ?_
    | with_reducible refine w_next ?_
    | with_reducible refine w_drop ?_
    | with_reducible refine w_not ?_
    | with_reducible refine w_tru ?_
    | with_reducible refine w_and ?_
    | with_reducible refine w_or ?_
    | with_reducible refine w_andV ?_
    | with_reducible refine w_orV ?_
    | with_reducible refine w_notV ?_
    | with_reducible refine w_ifE ?_
    | with_reducible refine w_chain ?_
    | with_reducible refine w_retN ?_
    | with_reducible refine w_bm ?_
    | with_reducible refine w_raise ?_
    | with_reducible refine w_fld ?_
    | with_reducible refine w_meth ?_
    | with_reducible refine w_setf ?_
    | with_reducible refine w_for ?_
    | with_reducible refine w_rng1 ?_
    | with_reducible refine w_rng2 ?_
    | with_reducible refine w_iList ?_
    | with_reducible refine w_iTup ?_
    | with_reducible refine w_iStr ?_
    | with_reducible refine w_iRev ?_
    | with_reducible refine w_brk ?_
    | with_reducible refine w_cont ?_
    | with_reducible refine w_un ?_
    | with_reducible refine w_lc ?_
    | with_reducible refine w_yes ?_
    | with_reducible refine w_gsub ?_
    | with_reducible refine w_sl ?_
    | with_reducible refine w_part ?_
    | with_reducible refine w_noPart ?_
    | with_reducible refine w_wh ?_
    | with_reducible refine w_tryAs ?_
    | with_reducible refine w_try ?_
    | with_reducible refine w_make ?_
    | with_reducible refine w_dget ?_
    | with_reducible refine w_dput ?_
    | with_reducible refine w_gcons ?_
    | with_reducible refine w_gnil ?_
    | with_reducible refine w_augf ?_
    | with_reducible refine w_iEnum ?_
    | with_reducible refine w_iZip ?_
    | with_reducible refine w_iKeys ?_
    | with_reducible refine w_dget2 ?_
    | with_reducible refine w_dget1 ?_
    | with_reducible refine w_dpop1 ?_
    | with_reducible refine w_ddel ?_
    | with_reducible refine w_callX ?_
    | with_reducible refine w_augS ?_
    | with_reducible refine w_augSQ ?_
    | ((with_reducible refine' w_aug ?e ?_); (case e => rfl))
    | ((with_reducible refine w_mul ?s ?_); (case s => first | exact Or.inr ⟨by omega, by omega⟩ | exact Or.inl ⟨by omega, by omega⟩))
    | ((with_reducible refine w_div ?s ?_); (case s => omega))
    | ((with_reducible refine w_mod ?s ?_); (case s => first | omega | decide))
    | ((with_reducible refine w_pow ?s ?_); (case s => first | exact ⟨by decide, by decide, by decide⟩ | exact ⟨by decide, by decide, by omega⟩))
    | ((with_reducible refine w_newL ?s ?_); (case s => (first | exact (by decide) | (simp only [List.length_cons, List.length_nil]; omega))); intro _ _)
    | ((with_reducible refine w_newT ?s ?_); (case s => (first | exact (by decide) | (simp only [List.length_cons, List.length_nil]; omega))); intro _ _)
    | with_reducible refine w_eqX ?_
    | with_reducible refine w_neX ?_
    | with_reducible refine w_findX ?_
    | with_reducible refine w_countX ?_
    | ((with_reducible refine w_lenX ?s ?_); (case s => (first | omega | (simp only [List.length_append, List.length_cons, List.length_nil, List.length_take, List.length_drop, List.length_replicate, List.length_map, List.length_range] at *; omega) | (simp only [List.length_append, List.length_cons, List.length_nil, List.length_take, List.length_drop, List.length_replicate, List.length_map, List.length_range]; omega) | decide)))
    | ((with_reducible refine w_truX ?s ?_); (case s => (first | omega | (simp only [List.length_append, List.length_cons, List.length_nil, List.length_take, List.length_drop, List.length_replicate, List.length_map, List.length_range] at *; omega) | (simp only [List.length_append, List.length_cons, List.length_nil, List.length_take, List.length_drop, List.length_replicate, List.length_map, List.length_range]; omega) | decide)))
    | ((with_reducible refine w_addX ?s ?_); (case s => (first | omega | (simp only [List.length_append, List.length_cons, List.length_nil, List.length_take, List.length_drop, List.length_replicate, List.length_map, List.length_range] at *; omega) | (simp only [List.length_append, List.length_cons, List.length_nil, List.length_take, List.length_drop, List.length_replicate, List.length_map, List.length_range]; omega) | decide)))
    | ((with_reducible refine w_mulX ?h0 ?h1 ?_); (case h0 => (first | omega | (simp only [List.length_append, List.length_cons, List.length_nil, List.length_take, List.length_drop, List.length_replicate, List.length_map, List.length_range] at *; omega) | (simp only [List.length_append, List.length_cons, List.length_nil, List.length_take, List.length_drop, List.length_replicate, List.length_map, List.length_range]; omega) | decide)); (case h1 => (first | omega | (simp only [List.length_append, List.length_cons, List.length_nil, List.length_take, List.length_drop, List.length_replicate, List.length_map, List.length_range] at *; omega) | (simp only [List.length_append, List.length_cons, List.length_nil, List.length_take, List.length_drop, List.length_replicate, List.length_map, List.length_range]; omega) | decide)))
    | ((with_reducible refine w_tkX ?s ?h0 ?_); (case s => (first | omega | (simp only [List.length_append, List.length_cons, List.length_nil, List.length_take, List.length_drop, List.length_replicate, List.length_map, List.length_range] at *; omega) | (simp only [List.length_append, List.length_cons, List.length_nil, List.length_take, List.length_drop, List.length_replicate, List.length_map, List.length_range]; omega) | decide)); (case h0 => (first | omega | (simp only [List.length_append, List.length_cons, List.length_nil, List.length_take, List.length_drop, List.length_replicate, List.length_map, List.length_range] at *; omega) | (simp only [List.length_append, List.length_cons, List.length_nil, List.length_take, List.length_drop, List.length_replicate, List.length_map, List.length_range]; omega) | decide)))
    | ((with_reducible refine w_dpX ?s ?h0 ?_); (case s => (first | omega | (simp only [List.length_append, List.length_cons, List.length_nil, List.length_take, List.length_drop, List.length_replicate, List.length_map, List.length_range] at *; omega) | (simp only [List.length_append, List.length_cons, List.length_nil, List.length_take, List.length_drop, List.length_replicate, List.length_map, List.length_range]; omega) | decide)); (case h0 => (first | omega | (simp only [List.length_append, List.length_cons, List.length_nil, List.length_take, List.length_drop, List.length_replicate, List.length_map, List.length_range] at *; omega) | (simp only [List.length_append, List.length_cons, List.length_nil, List.length_take, List.length_drop, List.length_replicate, List.length_map, List.length_range]; omega) | decide)))
    | ((with_reducible refine w_ixX ?s ?h0 ?_); (case s => (first | omega | (simp only [List.length_append, List.length_cons, List.length_nil, List.length_take, List.length_drop, List.length_replicate, List.length_map, List.length_range] at *; omega) | (simp only [List.length_append, List.length_cons, List.length_nil, List.length_take, List.length_drop, List.length_replicate, List.length_map, List.length_range]; omega) | decide)); (case h0 => (first | omega | (simp only [List.length_append, List.length_cons, List.length_nil, List.length_take, List.length_drop, List.length_replicate, List.length_map, List.length_range] at *; omega) | (simp only [List.length_append, List.length_cons, List.length_nil, List.length_take, List.length_drop, List.length_replicate, List.length_map, List.length_range]; omega) | decide)))
    | with_reducible refine w_max ?_
    | with_reducible refine w_min ?_
    | with_reducible refine w_eqNI ?_
    | with_reducible refine w_neNI ?_
    | with_reducible refine w_eqIN ?_
    | with_reducible refine w_neIN ?_
    | with_reducible refine w_neNN ?_
    | with_reducible refine w_eqNN ?_
    | with_reducible refine w_abs ?_
    | with_reducible refine w_intI ?_
    | with_reducible refine w_intB ?_
    | with_reducible refine w_ipI ?_
    | with_reducible refine w_bmS ?_
    | with_reducible refine w_iStrv ?_
    | with_reducible refine w_neg ?_
    | with_reducible refine w_partI ?_
    | with_reducible refine w_truB ?_
    | with_reducible refine w_truN ?_
    | with_reducible refine w_truI ?_
    | with_reducible refine w_isi_int_int ?_
    | with_reducible refine w_isi_int_bl ?_
    | with_reducible refine w_isi_int_str ?_
    | with_reducible refine w_isi_int_non ?_
    | with_reducible refine w_isi_bool_int ?_
    | with_reducible refine w_isi_bool_bl ?_
    | with_reducible refine w_isi_bool_str ?_
    | with_reducible refine w_isi_bool_non ?_
    | with_reducible refine w_isi_str_int ?_
    | with_reducible refine w_isi_str_bl ?_
    | with_reducible refine w_isi_str_str ?_
    | with_reducible refine w_isi_str_non ?_
    | with_reducible refine w_isi_list_int ?_
    | with_reducible refine w_isi_list_bl ?_
    | with_reducible refine w_isi_list_str ?_
    | with_reducible refine w_isi_list_non ?_
    | with_reducible refine w_isi_tuple_int ?_
    | with_reducible refine w_isi_tuple_bl ?_
    | with_reducible refine w_isi_tuple_str ?_
    | with_reducible refine w_isi_tuple_non ?_
    | with_reducible refine w_is_int ?_
    | with_reducible refine w_isnt_int ?_
    | with_reducible refine w_is_bl ?_
    | with_reducible refine w_isnt_bl ?_
    | with_reducible refine w_is_str ?_
    | with_reducible refine w_isnt_str ?_
    | with_reducible refine w_is_non ?_
    | with_reducible refine w_isnt_non ?_
    | with_reducible refine w_is_ref ?_
    | with_reducible refine w_isnt_ref ?_
    | ((with_reducible refine w_asT ?e ?_); (case e => walk_at "te"); intro _ _)
    | ((with_reducible refine w_onT ?e ?_); (case e => walk_at "te"); intro _ _)
    | ((with_reducible refine w_asF ?e ?_); (case e => walk_at "te"))
    | ((with_reducible refine w_onF ?e ?_); (case e => walk_at "te"))
    | ((with_reducible apply w_isE); (· walk_at "xc"); (· walk_at "kt"))
    | ((with_reducible apply w_lenL); (· walk_at "hk"))
    | ((with_reducible apply w_lenT); (· walk_at "hk"))
    | ((with_reducible apply w_bmL); (· walk_at "hk"))
    | ((with_reducible refine w_rng1v ?h1 ?h2 ?_); (case h1 => (first | omega | (simp only [List.length_map] at *; omega))); (case h2 => (first | omega | (simp only [List.length_map] at *; omega))))
    | ((with_reducible refine w_rng2v ?h1 ?_); (case h1 => (first | omega | (simp only [List.length_map] at *; omega))))
    | ((with_reducible apply w_ixI); (· walk_at "hk"); (· (first | omega | (simp only [List.length_map] at *; omega))))
    | ((with_reducible apply w_ixTI); (· walk_at "hk"); (· (first | omega | (simp only [List.length_map] at *; omega))))
    | ((with_reducible apply w_ixBl); (· walk_at "hk"); (· (first | omega | (simp only [List.length_map] at *; omega))))
    | ((with_reducible apply w_getI2); (· walk_at "hk"); (· (first | omega | (simp only [List.length_map] at *; omega))))
    | ((with_reducible apply w_ixTl); (· walk_at "hk"); (· rfl); (· decide))
    | ((with_reducible apply w_ixLl); (· walk_at "hk"); (· rfl); (· decide))
    | ((with_reducible apply w_appI); (· walk_at "hk"); (· (first | omega | (simp only [List.length_append, List.length_cons, List.length_nil]; omega))))
    | ((with_reducible apply w_iListv); (· walk_at "hk"))
    | ((with_reducible apply w_iTupv); (· walk_at "hk"))
    | ((with_reducible apply w_iRevv); (· walk_at "hk"))
    | ((with_reducible apply w_iEnumv); (· walk_at "hk"))
    | ((with_reducible apply w_iZipv); (· walk_at "hk"); (· walk_at "hk"))
    | ((with_reducible apply w_dget2v); (· walk_at "hk"))
    | ((with_reducible apply w_dget1v); (· walk_at "hk"))
    | ((with_reducible apply w_dpop1v); (· walk_at "hk"))
    | ((with_reducible apply w_getI); (· walk_at "hk"))
    | ((with_reducible apply w_inD); (· walk_at "hk"))
    | ((with_reducible apply w_ninD); (· walk_at "hk"))
    | ((with_reducible apply w_rep1); (· walk_at "hk"); (· (first | omega | (simp only [List.length_append, List.length_cons, List.length_nil, List.length_take, List.length_drop, List.length_replicate, List.length_map, List.length_range] at *; omega) | (simp only [List.length_append, List.length_cons, List.length_nil, List.length_take, List.length_drop, List.length_replicate, List.length_map, List.length_range]; omega) | decide)); (· (first | omega | (simp only [List.length_append, List.length_cons, List.length_nil, List.length_take, List.length_drop, List.length_replicate, List.length_map, List.length_range] at *; omega) | (simp only [List.length_append, List.length_cons, List.length_nil, List.length_take, List.length_drop, List.length_replicate, List.length_map, List.length_range]; omega) | decide)); intro _ _)
    | ((with_reducible apply w_gtup2); (· walk_at "hk"))
    | ((with_reducible apply w_gtup3); (· walk_at "hk"))
    | ((with_reducible apply w_gtup4); (· walk_at "hk"))
    | ((with_reducible refine w_newD ?_); intro _ _)
    | ((with_reducible apply w_augsub); (· walk_at "hk"); (· rfl); (· exact Nat.le_of_ble_eq_true rfl))
    | ((with_reducible apply w_augadd); (· walk_at "hk"); (· rfl); (· exact Nat.le_of_ble_eq_true rfl))
    | ((with_reducible apply w_fldv); (· walk_at "hk"); (· rfl))
    | ((with_reducible apply w_methv); (· walk_at "hk"); (· rfl))
    | ((with_reducible apply w_setfv); (· walk_at "hk"); (· exact Nat.le_of_ble_eq_true rfl); (· rfl))
    | walk_at "x")
local macro_rules | `(tactic| walk_at "run1") => `(tactic| repeat (first
    | with_reducible refine w_seq ?_
    | with_reducible refine w_op ?_
    | with_reducible refine w_asg ?_
    | with_reducible refine w_name ?_
    | with_reducible refine w_c ?_
    | with_reducible refine w_if ?_
    | with_reducible refine w_test ?_
    | with_reducible refine w_blP ?_
    | with_reducible refine w_cons ?_
    | with_reducible refine w_nil ?_
    | with_reducible refine w_ret ?_
    | with_reducible refine w_call ?_
    | ((with_reducible refine' w_var ?e ?_); (case e => rfl))
    | ((with_reducible refine ifST ?h ?_); (case h => decide +kernel))
    | ((with_reducible refine ifSF ?h ?_); (case h => decide +kernel))
    | ((with_reducible refine ifSNT ?h ?_); (case h => decide +kernel))
    | ((with_reducible refine ifSNF ?h ?_); (case h => decide +kernel))
    | with_reducible refine iteT ?_
    | with_reducible refine iteF ?_
    | with_reducible refine ifNT ?_
    | with_reducible refine ifNF ?_
    | (((with_reducible show @ite Prop (_ = true) _ _ _); refine @ifP _ _ _ _ ?_ ?_) <;> intro h <;> first | (with_reducible exact absurd rfl h) | skip)
    | (((with_reducible show @ite Prop (_ = true) _ _ _); refine @ifN _ _ _ _ ?_ ?_) <;> intro h <;> first | (with_reducible exact absurd rfl h) | skip)
    | with_reducible refine w_eqX ?_
    | with_reducible refine w_neX ?_
    | with_reducible refine w_add ?_
    | with_reducible refine w_sub ?_
    | with_reducible refine w_eqI ?_
    | with_reducible refine w_neI ?_
    | with_reducible refine w_lt ?_
    | with_reducible refine w_le ?_
    | with_reducible refine w_gt ?_
    | with_reducible refine w_ge ?_
    | with_reducible refine w_eqS ?_
    | with_reducible refine w_eqB ?_
    | with_reducible refine w_neS ?_
    | with_reducible refine w_neB ?_
    | with_reducible refine w_cb ?_
    | with_reducible refine w_tup ?_
    | with_reducible refine w_lst ?_
    | with_reducible refine w_next ?_
    | with_reducible refine w_drop ?_
    | with_reducible refine w_not ?_
    | with_reducible refine w_tru ?_
    | with_reducible refine w_and ?_
    | with_reducible refine w_or ?_
    | with_reducible refine w_andV ?_
    | with_reducible refine w_orV ?_
    | with_reducible refine w_notV ?_
    | with_reducible refine w_ifE ?_
    | with_reducible refine w_chain ?_
    | with_reducible refine w_retN ?_
    | with_reducible refine w_bm ?_
    | with_reducible refine w_raise ?_
    | with_reducible refine w_fld ?_
    | with_reducible refine w_meth ?_
    | with_reducible refine w_setf ?_
    | with_reducible refine w_for ?_
    | with_reducible refine w_rng1 ?_
    | with_reducible refine w_rng2 ?_
    | with_reducible refine w_iList ?_
    | with_reducible refine w_iTup ?_
    | with_reducible refine w_iStr ?_
    | with_reducible refine w_iRev ?_
    | with_reducible refine w_brk ?_
    | with_reducible refine w_cont ?_
    | with_reducible refine w_un ?_
    | with_reducible refine w_lc ?_
    | with_reducible refine w_yes ?_
    | with_reducible refine w_gsub ?_
    | with_reducible refine w_sl ?_
    | with_reducible refine w_part ?_
    | with_reducible refine w_noPart ?_
    | with_reducible refine w_wh ?_
    | with_reducible refine w_tryAs ?_
    | with_reducible refine w_try ?_
    | with_reducible refine w_make ?_
    | with_reducible refine w_dget ?_
    | with_reducible refine w_dput ?_
    | with_reducible refine w_gcons ?_
    | with_reducible refine w_gnil ?_
    | with_reducible refine w_augf ?_
    | with_reducible refine w_iEnum ?_
    | with_reducible refine w_iZip ?_
    | with_reducible refine w_iKeys ?_
    | with_reducible refine w_dget2 ?_
    | with_reducible refine w_dget1 ?_
    | with_reducible refine w_dpop1 ?_
    | with_reducible refine w_ddel ?_
    | with_reducible refine w_callX ?_
    | with_reducible refine w_augS ?_
    | with_reducible refine w_augSQ ?_
    | ((with_reducible refine' w_aug ?e ?_); (case e => rfl))
    | ((with_reducible refine w_mul ?s ?_); (case s => first | exact Or.inr ⟨by omega, by omega⟩ | exact Or.inl ⟨by omega, by omega⟩))
    | ((with_reducible refine w_div ?s ?_); (case s => omega))
    | ((with_reducible refine w_mod ?s ?_); (case s => first | omega | decide))
    | ((with_reducible refine w_pow ?s ?_); (case s => first | exact ⟨by decide, by decide, by decide⟩ | exact ⟨by decide, by decide, by omega⟩))
    | ((with_reducible refine w_newL ?s ?_); (case s => (first | exact (by decide) | (simp only [List.length_cons, List.length_nil]; omega))); intro _ _)
    | ((with_reducible refine w_newT ?s ?_); (case s => (first | exact (by decide) | (simp only [List.length_cons, List.length_nil]; omega))); intro _ _)
    | with_reducible refine w_eqX ?_
    | with_reducible refine w_neX ?_
    | with_reducible refine w_findX ?_
    | with_reducible refine w_countX ?_
    | ((with_reducible refine w_lenX ?s ?_); (case s => (first | omega | (simp only [List.length_append, List.length_cons, List.length_nil, List.length_take, List.length_drop, List.length_replicate, List.length_map, List.length_range] at *; omega) | (simp only [List.length_append, List.length_cons, List.length_nil, List.length_take, List.length_drop, List.length_replicate, List.length_map, List.length_range]; omega) | decide)))
    | ((with_reducible refine w_truX ?s ?_); (case s => (first | omega | (simp only [List.length_append, List.length_cons, List.length_nil, List.length_take, List.length_drop, List.length_replicate, List.length_map, List.length_range] at *; omega) | (simp only [List.length_append, List.length_cons, List.length_nil, List.length_take, List.length_drop, List.length_replicate, List.length_map, List.length_range]; omega) | decide)))
    | ((with_reducible refine w_addX ?s ?_); (case s => (first | omega | (simp only [List.length_append, List.length_cons, List.length_nil, List.length_take, List.length_drop, List.length_replicate, List.length_map, List.length_range] at *; omega) | (simp only [List.length_append, List.length_cons, List.length_nil, List.length_take, List.length_drop, List.length_replicate, List.length_map, List.length_range]; omega) | decide)))
    | ((with_reducible refine w_mulX ?h0 ?h1 ?_); (case h0 => (first | omega | (simp only [List.length_append, List.length_cons, List.length_nil, List.length_take, List.length_drop, List.length_replicate, List.length_map, List.length_range] at *; omega) | (simp only [List.length_append, List.length_cons, List.length_nil, List.length_take, List.length_drop, List.length_replicate, List.length_map, List.length_range]; omega) | decide)); (case h1 => (first | omega | (simp only [List.length_append, List.length_cons, List.length_nil, List.length_take, List.length_drop, List.length_replicate, List.length_map, List.length_range] at *; omega) | (simp only [List.length_append, List.length_cons, List.length_nil, List.length_take, List.length_drop, List.length_replicate, List.length_map, List.length_range]; omega) | decide)))
    | ((with_reducible refine w_tkX ?s ?h0 ?_); (case s => (first | omega | (simp only [List.length_append, List.length_cons, List.length_nil, List.length_take, List.length_drop, List.length_replicate, List.length_map, List.length_range] at *; omega) | (simp only [List.length_append, List.length_cons, List.length_nil, List.length_take, List.length_drop, List.length_replicate, List.length_map, List.length_range]; omega) | decide)); (case h0 => (first | omega | (simp only [List.length_append, List.length_cons, List.length_nil, List.length_take, List.length_drop, List.length_replicate, List.length_map, List.length_range] at *; omega) | (simp only [List.length_append, List.length_cons, List.length_nil, List.length_take, List.length_drop, List.length_replicate, List.length_map, List.length_range]; omega) | decide)))
    | ((with_reducible refine w_dpX ?s ?h0 ?_); (case s => (first | omega | (simp only [List.length_append, List.length_cons, List.length_nil, List.length_take, List.length_drop, List.length_replicate, List.length_map, List.length_range] at *; omega) | (simp only [List.length_append, List.length_cons, List.length_nil, List.length_take, List.length_drop, List.length_replicate, List.length_map, List.length_range]; omega) | decide)); (case h0 => (first | omega | (simp only [List.length_append, List.length_cons, List.length_nil, List.length_take, List.length_drop, List.length_replicate, List.length_map, List.length_range] at *; omega) | (simp only [List.length_append, List.length_cons, List.length_nil, List.length_take, List.length_drop, List.length_replicate, List.length_map, List.length_range]; omega) | decide)))
    | ((with_reducible refine w_ixX ?s ?h0 ?_); (case s => (first | omega | (simp only [List.length_append, List.length_cons, List.length_nil, List.length_take, List.length_drop, List.length_replicate, List.length_map, List.length_range] at *; omega) | (simp only [List.length_append, List.length_cons, List.length_nil, List.length_take, List.length_drop, List.length_replicate, List.length_map, List.length_range]; omega) | decide)); (case h0 => (first | omega | (simp only [List.length_append, List.length_cons, List.length_nil, List.length_take, List.length_drop, List.length_replicate, List.length_map, List.length_range] at *; omega) | (simp only [List.length_append, List.length_cons, List.length_nil, List.length_take, List.length_drop, List.length_replicate, List.length_map, List.length_range]; omega) | decide)))
    | with_reducible refine w_max ?_
    | with_reducible refine w_min ?_
    | with_reducible refine w_eqNI ?_
    | with_reducible refine w_neNI ?_
    | with_reducible refine w_eqIN ?_
    | with_reducible refine w_neIN ?_
    | with_reducible refine w_neNN ?_
    | with_reducible refine w_eqNN ?_
    | with_reducible refine w_abs ?_
    | with_reducible refine w_intI ?_
    | with_reducible refine w_intB ?_
    | with_reducible refine w_ipI ?_
    | with_reducible refine w_bmS ?_
    | with_reducible refine w_iStrv ?_
    | with_reducible refine w_neg ?_
    | with_reducible refine w_partI ?_
    | with_reducible refine w_truB ?_
    | with_reducible refine w_truN ?_
    | with_reducible refine w_truI ?_
    | with_reducible refine w_isi_int_int ?_
    | with_reducible refine w_isi_int_bl ?_
    | with_reducible refine w_isi_int_str ?_
    | with_reducible refine w_isi_int_non ?_
    | with_reducible refine w_isi_bool_int ?_
    | with_reducible refine w_isi_bool_bl ?_
    | with_reducible refine w_isi_bool_str ?_
    | with_reducible refine w_isi_bool_non ?_
    | with_reducible refine w_isi_str_int ?_
    | with_reducible refine w_isi_str_bl ?_
    | with_reducible refine w_isi_str_str ?_
    | with_reducible refine w_isi_str_non ?_
    | with_reducible refine w_isi_list_int ?_
    | with_reducible refine w_isi_list_bl ?_
    | with_reducible refine w_isi_list_str ?_
    | with_reducible refine w_isi_list_non ?_
    | with_reducible refine w_isi_tuple_int ?_
    | with_reducible refine w_isi_tuple_bl ?_
    | with_reducible refine w_isi_tuple_str ?_
    | with_reducible refine w_isi_tuple_non ?_
    | with_reducible refine w_is_int ?_
    | with_reducible refine w_isnt_int ?_
    | with_reducible refine w_is_bl ?_
    | with_reducible refine w_isnt_bl ?_
    | with_reducible refine w_is_str ?_
    | with_reducible refine w_isnt_str ?_
    | with_reducible refine w_is_non ?_
    | with_reducible refine w_isnt_non ?_
    | with_reducible refine w_is_ref ?_
    | with_reducible refine w_isnt_ref ?_
    | ((with_reducible refine w_asT ?e ?_); (case e => walk_at "te"); intro _ _)
    | ((with_reducible refine w_onT ?e ?_); (case e => walk_at "te"); intro _ _)
    | ((with_reducible refine w_asF ?e ?_); (case e => walk_at "te"))
    | ((with_reducible refine w_onF ?e ?_); (case e => walk_at "te"))
    | ((with_reducible apply w_isE); (· walk_at "xc"); (· walk_at "kt"))
    | ((with_reducible apply w_lenL); (· walk_at "hk"))
    | ((with_reducible apply w_lenT); (· walk_at "hk"))
    | ((with_reducible apply w_bmL); (· walk_at "hk"))
    | ((with_reducible refine w_rng1v ?h1 ?h2 ?_); (case h1 => (first | omega | (simp only [List.length_map] at *; omega))); (case h2 => (first | omega | (simp only [List.length_map] at *; omega))))
    | ((with_reducible refine w_rng2v ?h1 ?_); (case h1 => (first | omega | (simp only [List.length_map] at *; omega))))
    | ((with_reducible apply w_ixI); (· walk_at "hk"); (· (first | omega | (simp only [List.length_map] at *; omega))))
    | ((with_reducible apply w_ixTI); (· walk_at "hk"); (· (first | omega | (simp only [List.length_map] at *; omega))))
    | ((with_reducible apply w_ixBl); (· walk_at "hk"); (· (first | omega | (simp only [List.length_map] at *; omega))))
    | ((with_reducible apply w_getI2); (· walk_at "hk"); (· (first | omega | (simp only [List.length_map] at *; omega))))
    | ((with_reducible apply w_ixTl); (· walk_at "hk"); (· rfl); (· decide))
    | ((with_reducible apply w_ixLl); (· walk_at "hk"); (· rfl); (· decide))
    | ((with_reducible apply w_appI); (· walk_at "hk"); (· (first | omega | (simp only [List.length_append, List.length_cons, List.length_nil]; omega))))
    | ((with_reducible apply w_iListv); (· walk_at "hk"))
    | ((with_reducible apply w_iTupv); (· walk_at "hk"))
    | ((with_reducible apply w_iRevv); (· walk_at "hk"))
    | ((with_reducible apply w_iEnumv); (· walk_at "hk"))
    | ((with_reducible apply w_iZipv); (· walk_at "hk"); (· walk_at "hk"))
    | ((with_reducible apply w_dget2v); (· walk_at "hk"))
    | ((with_reducible apply w_dget1v); (· walk_at "hk"))
    | ((with_reducible apply w_dpop1v); (· walk_at "hk"))
    | ((with_reducible apply w_getI); (· walk_at "hk"))
    | ((with_reducible apply w_inD); (· walk_at "hk"))
    | ((with_reducible apply w_ninD); (· walk_at "hk"))
    | ((with_reducible apply w_rep1); (· walk_at "hk"); (· (first | omega | (simp only [List.length_append, List.length_cons, List.length_nil, List.length_take, List.length_drop, List.length_replicate, List.length_map, List.length_range] at *; omega) | (simp only [List.length_append, List.length_cons, List.length_nil, List.length_take, List.length_drop, List.length_replicate, List.length_map, List.length_range]; omega) | decide)); (· (first | omega | (simp only [List.length_append, List.length_cons, List.length_nil, List.length_take, List.length_drop, List.length_replicate, List.length_map, List.length_range] at *; omega) | (simp only [List.length_append, List.length_cons, List.length_nil, List.length_take, List.length_drop, List.length_replicate, List.length_map, List.length_range]; omega) | decide)); intro _ _)
    | ((with_reducible apply w_gtup2); (· walk_at "hk"))
    | ((with_reducible apply w_gtup3); (· walk_at "hk"))
    | ((with_reducible apply w_gtup4); (· walk_at "hk"))
    | ((with_reducible refine w_newD ?_); intro _ _)
    | ((with_reducible apply w_augsub); (· walk_at "hk"); (· rfl); (· exact Nat.le_of_ble_eq_true rfl))
    | ((with_reducible apply w_augadd); (· walk_at "hk"); (· rfl); (· exact Nat.le_of_ble_eq_true rfl))
    | ((with_reducible apply w_fldv); (· walk_at "hk"); (· rfl))
    | ((with_reducible apply w_methv); (· walk_at "hk"); (· rfl))
    | ((with_reducible apply w_setfv); (· walk_at "hk"); (· exact Nat.le_of_ble_eq_true rfl); (· rfl))
    | walk_at "x"))
local macro_rules | `(tactic| walk_at "run") => `(tactic| repeat' (first
    | with_reducible refine w_seq ?_
    | with_reducible refine w_op ?_
    | with_reducible refine w_asg ?_
    | with_reducible refine w_name ?_
    | with_reducible refine w_c ?_
    | with_reducible refine w_if ?_
    | with_reducible refine w_test ?_
    | with_reducible refine w_blP ?_
    | with_reducible refine w_cons ?_
    | with_reducible refine w_nil ?_
    | with_reducible refine w_ret ?_
    | with_reducible refine w_call ?_
    | ((with_reducible refine' w_var ?e ?_); (case e => rfl))
    | ((with_reducible refine ifST ?h ?_); (case h => decide +kernel))
    | ((with_reducible refine ifSF ?h ?_); (case h => decide +kernel))
    | ((with_reducible refine ifSNT ?h ?_); (case h => decide +kernel))
    | ((with_reducible refine ifSNF ?h ?_); (case h => decide +kernel))
    | with_reducible refine iteT ?_
    | with_reducible refine iteF ?_
    | with_reducible refine ifNT ?_
    | with_reducible refine ifNF ?_
    | (((with_reducible show @ite Prop (_ = true) _ _ _); refine @ifP _ _ _ _ ?_ ?_) <;> intro h <;> first | (with_reducible exact absurd rfl h) | skip)
    | (((with_reducible show @ite Prop (_ = true) _ _ _); refine @ifN _ _ _ _ ?_ ?_) <;> intro h <;> first | (with_reducible exact absurd rfl h) | skip)
    | with_reducible refine w_eqX ?_
    | with_reducible refine w_neX ?_
    | with_reducible refine w_add ?_
    | with_reducible refine w_sub ?_
    | with_reducible refine w_eqI ?_
    | with_reducible refine w_neI ?_
    | with_reducible refine w_lt ?_
    | with_reducible refine w_le ?_
    | with_reducible refine w_gt ?_
    | with_reducible refine w_ge ?_
    | with_reducible refine w_eqS ?_
    | with_reducible refine w_eqB ?_
    | with_reducible refine w_neS ?_
    | with_reducible refine w_neB ?_
    | with_reducible refine w_cb ?_
    | with_reducible refine w_tup ?_
    | with_reducible refine w_lst ?_
    | with_reducible refine w_next ?_
    | with_reducible refine w_drop ?_
    | with_reducible refine w_not ?_
    | with_reducible refine w_tru ?_
    | with_reducible refine w_and ?_
    | with_reducible refine w_or ?_
    | with_reducible refine w_andV ?_
    | with_reducible refine w_orV ?_
    | with_reducible refine w_notV ?_
    | with_reducible refine w_ifE ?_
    | with_reducible refine w_chain ?_
    | with_reducible refine w_retN ?_
    | with_reducible refine w_bm ?_
    | with_reducible refine w_raise ?_
    | with_reducible refine w_fld ?_
    | with_reducible refine w_meth ?_
    | with_reducible refine w_setf ?_
    | with_reducible refine w_for ?_
    | with_reducible refine w_rng1 ?_
    | with_reducible refine w_rng2 ?_
    | with_reducible refine w_iList ?_
    | with_reducible refine w_iTup ?_
    | with_reducible refine w_iStr ?_
    | with_reducible refine w_iRev ?_
    | with_reducible refine w_brk ?_
    | with_reducible refine w_cont ?_
    | with_reducible refine w_un ?_
    | with_reducible refine w_lc ?_
    | with_reducible refine w_yes ?_
    | with_reducible refine w_gsub ?_
    | with_reducible refine w_sl ?_
    | with_reducible refine w_part ?_
    | with_reducible refine w_noPart ?_
    | with_reducible refine w_wh ?_
    | with_reducible refine w_tryAs ?_
    | with_reducible refine w_try ?_
    | with_reducible refine w_make ?_
    | with_reducible refine w_dget ?_
    | with_reducible refine w_dput ?_
    | with_reducible refine w_gcons ?_
    | with_reducible refine w_gnil ?_
    | with_reducible refine w_augf ?_
    | with_reducible refine w_iEnum ?_
    | with_reducible refine w_iZip ?_
    | with_reducible refine w_iKeys ?_
    | with_reducible refine w_dget2 ?_
    | with_reducible refine w_dget1 ?_
    | with_reducible refine w_dpop1 ?_
    | with_reducible refine w_ddel ?_
    | with_reducible refine w_callX ?_
    | with_reducible refine w_augS ?_
    | with_reducible refine w_augSQ ?_
    | ((with_reducible refine' w_aug ?e ?_); (case e => rfl))
    | ((with_reducible refine w_mul ?s ?_); (case s => first | exact Or.inr ⟨by omega, by omega⟩ | exact Or.inl ⟨by omega, by omega⟩))
    | ((with_reducible refine w_div ?s ?_); (case s => omega))
    | ((with_reducible refine w_mod ?s ?_); (case s => first | omega | decide))
    | ((with_reducible refine w_pow ?s ?_); (case s => first | exact ⟨by decide, by decide, by decide⟩ | exact ⟨by decide, by decide, by omega⟩))
    | ((with_reducible refine w_newL ?s ?_); (case s => (first | exact (by decide) | (simp only [List.length_cons, List.length_nil]; omega))); intro _ _)
    | ((with_reducible refine w_newT ?s ?_); (case s => (first | exact (by decide) | (simp only [List.length_cons, List.length_nil]; omega))); intro _ _)
    | with_reducible refine w_eqX ?_
    | with_reducible refine w_neX ?_
    | with_reducible refine w_findX ?_
    | with_reducible refine w_countX ?_
    | ((with_reducible refine w_lenX ?s ?_); (case s => (first | omega | (simp only [List.length_append, List.length_cons, List.length_nil, List.length_take, List.length_drop, List.length_replicate, List.length_map, List.length_range] at *; omega) | (simp only [List.length_append, List.length_cons, List.length_nil, List.length_take, List.length_drop, List.length_replicate, List.length_map, List.length_range]; omega) | decide)))
    | ((with_reducible refine w_truX ?s ?_); (case s => (first | omega | (simp only [List.length_append, List.length_cons, List.length_nil, List.length_take, List.length_drop, List.length_replicate, List.length_map, List.length_range] at *; omega) | (simp only [List.length_append, List.length_cons, List.length_nil, List.length_take, List.length_drop, List.length_replicate, List.length_map, List.length_range]; omega) | decide)))
    | ((with_reducible refine w_addX ?s ?_); (case s => (first | omega | (simp only [List.length_append, List.length_cons, List.length_nil, List.length_take, List.length_drop, List.length_replicate, List.length_map, List.length_range] at *; omega) | (simp only [List.length_append, List.length_cons, List.length_nil, List.length_take, List.length_drop, List.length_replicate, List.length_map, List.length_range]; omega) | decide)))
    | ((with_reducible refine w_mulX ?h0 ?h1 ?_); (case h0 => (first | omega | (simp only [List.length_append, List.length_cons, List.length_nil, List.length_take, List.length_drop, List.length_replicate, List.length_map, List.length_range] at *; omega) | (simp only [List.length_append, List.length_cons, List.length_nil, List.length_take, List.length_drop, List.length_replicate, List.length_map, List.length_range]; omega) | decide)); (case h1 => (first | omega | (simp only [List.length_append, List.length_cons, List.length_nil, List.length_take, List.length_drop, List.length_replicate, List.length_map, List.length_range] at *; omega) | (simp only [List.length_append, List.length_cons, List.length_nil, List.length_take, List.length_drop, List.length_replicate, List.length_map, List.length_range]; omega) | decide)))
    | ((with_reducible refine w_tkX ?s ?h0 ?_); (case s => (first | omega | (simp only [List.length_append, List.length_cons, List.length_nil, List.length_take, List.length_drop, List.length_replicate, List.length_map, List.length_range] at *; omega) | (simp only [List.length_append, List.length_cons, List.length_nil, List.length_take, List.length_drop, List.length_replicate, List.length_map, List.length_range]; omega) | decide)); (case h0 => (first | omega | (simp only [List.length_append, List.length_cons, List.length_nil, List.length_take, List.length_drop, List.length_replicate, List.length_map, List.length_range] at *; omega) | (simp only [List.length_append, List.length_cons, List.length_nil, List.length_take, List.length_drop, List.length_replicate, List.length_map, List.length_range]; omega) | decide)))
    | ((with_reducible refine w_dpX ?s ?h0 ?_); (case s => (first | omega | (simp only [List.length_append, List.length_cons, List.length_nil, List.length_take, List.length_drop, List.length_replicate, List.length_map, List.length_range] at *; omega) | (simp only [List.length_append, List.length_cons, List.length_nil, List.length_take, List.length_drop, List.length_replicate, List.length_map, List.length_range]; omega) | decide)); (case h0 => (first | omega | (simp only [List.length_append, List.length_cons, List.length_nil, List.length_take, List.length_drop, List.length_replicate, List.length_map, List.length_range] at *; omega) | (simp only [List.length_append, List.length_cons, List.length_nil, List.length_take, List.length_drop, List.length_replicate, List.length_map, List.length_range]; omega) | decide)))
    | ((with_reducible refine w_ixX ?s ?h0 ?_); (case s => (first | omega | (simp only [List.length_append, List.length_cons, List.length_nil, List.length_take, List.length_drop, List.length_replicate, List.length_map, List.length_range] at *; omega) | (simp only [List.length_append, List.length_cons, List.length_nil, List.length_take, List.length_drop, List.length_replicate, List.length_map, List.length_range]; omega) | decide)); (case h0 => (first | omega | (simp only [List.length_append, List.length_cons, List.length_nil, List.length_take, List.length_drop, List.length_replicate, List.length_map, List.length_range] at *; omega) | (simp only [List.length_append, List.length_cons, List.length_nil, List.length_take, List.length_drop, List.length_replicate, List.length_map, List.length_range]; omega) | decide)))
    | with_reducible refine w_max ?_
    | with_reducible refine w_min ?_
    | with_reducible refine w_eqNI ?_
    | with_reducible refine w_neNI ?_
    | with_reducible refine w_eqIN ?_
    | with_reducible refine w_neIN ?_
    | with_reducible refine w_neNN ?_
    | with_reducible refine w_eqNN ?_
    | with_reducible refine w_abs ?_
    | with_reducible refine w_intI ?_
    | with_reducible refine w_intB ?_
    | with_reducible refine w_ipI ?_
    | with_reducible refine w_bmS ?_
    | with_reducible refine w_iStrv ?_
    | with_reducible refine w_neg ?_
    | with_reducible refine w_partI ?_
    | with_reducible refine w_truB ?_
    | with_reducible refine w_truN ?_
    | with_reducible refine w_truI ?_
    | with_reducible refine w_isi_int_int ?_
    | with_reducible refine w_isi_int_bl ?_
    | with_reducible refine w_isi_int_str ?_
    | with_reducible refine w_isi_int_non ?_
    | with_reducible refine w_isi_bool_int ?_
    | with_reducible refine w_isi_bool_bl ?_
    | with_reducible refine w_isi_bool_str ?_
    | with_reducible refine w_isi_bool_non ?_
    | with_reducible refine w_isi_str_int ?_
    | with_reducible refine w_isi_str_bl ?_
    | with_reducible refine w_isi_str_str ?_
    | with_reducible refine w_isi_str_non ?_
    | with_reducible refine w_isi_list_int ?_
    | with_reducible refine w_isi_list_bl ?_
    | with_reducible refine w_isi_list_str ?_
    | with_reducible refine w_isi_list_non ?_
    | with_reducible refine w_isi_tuple_int ?_
    | with_reducible refine w_isi_tuple_bl ?_
    | with_reducible refine w_isi_tuple_str ?_
    | with_reducible refine w_isi_tuple_non ?_
    | with_reducible refine w_is_int ?_
    | with_reducible refine w_isnt_int ?_
    | with_reducible refine w_is_bl ?_
    | with_reducible refine w_isnt_bl ?_
    | with_reducible refine w_is_str ?_
    | with_reducible refine w_isnt_str ?_
    | with_reducible refine w_is_non ?_
    | with_reducible refine w_isnt_non ?_
    | with_reducible refine w_is_ref ?_
    | with_reducible refine w_isnt_ref ?_
    | ((with_reducible refine w_asT ?e ?_); (case e => walk_at "te"); intro _ _)
    | ((with_reducible refine w_onT ?e ?_); (case e => walk_at "te"); intro _ _)
    | ((with_reducible refine w_asF ?e ?_); (case e => walk_at "te"))
    | ((with_reducible refine w_onF ?e ?_); (case e => walk_at "te"))
    | ((with_reducible apply w_isE); (· walk_at "xc"); (· walk_at "kt"))
    | ((with_reducible apply w_lenL); (· walk_at "hk"))
    | ((with_reducible apply w_lenT); (· walk_at "hk"))
    | ((with_reducible apply w_bmL); (· walk_at "hk"))
    | ((with_reducible refine w_rng1v ?h1 ?h2 ?_); (case h1 => (first | omega | (simp only [List.length_map] at *; omega))); (case h2 => (first | omega | (simp only [List.length_map] at *; omega))))
    | ((with_reducible refine w_rng2v ?h1 ?_); (case h1 => (first | omega | (simp only [List.length_map] at *; omega))))
    | ((with_reducible apply w_ixI); (· walk_at "hk"); (· (first | omega | (simp only [List.length_map] at *; omega))))
    | ((with_reducible apply w_ixTI); (· walk_at "hk"); (· (first | omega | (simp only [List.length_map] at *; omega))))
    | ((with_reducible apply w_ixBl); (· walk_at "hk"); (· (first | omega | (simp only [List.length_map] at *; omega))))
    | ((with_reducible apply w_getI2); (· walk_at "hk"); (· (first | omega | (simp only [List.length_map] at *; omega))))
    | ((with_reducible apply w_ixTl); (· walk_at "hk"); (· rfl); (· decide))
    | ((with_reducible apply w_ixLl); (· walk_at "hk"); (· rfl); (· decide))
    | ((with_reducible apply w_appI); (· walk_at "hk"); (· (first | omega | (simp only [List.length_append, List.length_cons, List.length_nil]; omega))))
    | ((with_reducible apply w_iListv); (· walk_at "hk"))
    | ((with_reducible apply w_iTupv); (· walk_at "hk"))
    | ((with_reducible apply w_iRevv); (· walk_at "hk"))
    | ((with_reducible apply w_iEnumv); (· walk_at "hk"))
    | ((with_reducible apply w_iZipv); (· walk_at "hk"); (· walk_at "hk"))
    | ((with_reducible apply w_dget2v); (· walk_at "hk"))
    | ((with_reducible apply w_dget1v); (· walk_at "hk"))
    | ((with_reducible apply w_dpop1v); (· walk_at "hk"))
    | ((with_reducible apply w_getI); (· walk_at "hk"))
    | ((with_reducible apply w_inD); (· walk_at "hk"))
    | ((with_reducible apply w_ninD); (· walk_at "hk"))
    | ((with_reducible apply w_rep1); (· walk_at "hk"); (· (first | omega | (simp only [List.length_append, List.length_cons, List.length_nil, List.length_take, List.length_drop, List.length_replicate, List.length_map, List.length_range] at *; omega) | (simp only [List.length_append, List.length_cons, List.length_nil, List.length_take, List.length_drop, List.length_replicate, List.length_map, List.length_range]; omega) | decide)); (· (first | omega | (simp only [List.length_append, List.length_cons, List.length_nil, List.length_take, List.length_drop, List.length_replicate, List.length_map, List.length_range] at *; omega) | (simp only [List.length_append, List.length_cons, List.length_nil, List.length_take, List.length_drop, List.length_replicate, List.length_map, List.length_range]; omega) | decide)); intro _ _)
    | ((with_reducible apply w_gtup2); (· walk_at "hk"))
    | ((with_reducible apply w_gtup3); (· walk_at "hk"))
    | ((with_reducible apply w_gtup4); (· walk_at "hk"))
    | ((with_reducible refine w_newD ?_); intro _ _)
    | ((with_reducible apply w_augsub); (· walk_at "hk"); (· rfl); (· exact Nat.le_of_ble_eq_true rfl))
    | ((with_reducible apply w_augadd); (· walk_at "hk"); (· rfl); (· exact Nat.le_of_ble_eq_true rfl))
    | ((with_reducible apply w_fldv); (· walk_at "hk"); (· rfl))
    | ((with_reducible apply w_methv); (· walk_at "hk"); (· rfl))
    | ((with_reducible apply w_setfv); (· walk_at "hk"); (· exact Nat.le_of_ble_eq_true rfl); (· rfl))
    | walk_at "x"))
/-- the addresses that the readings speak of -/
structure Ex where
  (LaminaError NotValid PowerOff NoProcess BadHandle NoVolume ReadOnly BadName Missing WrongKind Exists LoopFound CrossVolume Busy NotEmpty TooMany TooLong OverQuota NoSpace BadImage : Addr := 0)
  (Disk Head Space Store OpenFiles Handles Processes Log Accounts Session System : Addr := 0)
  (POINTER_KINDS MODES LENGTHS : Addr := 0)
/-- what is known of the exceptions' classes -/
structure Fa (K : PySem.W.Frag) (C : Ex) : Prop where
  fa0 : True
  te_LaminaError_LaminaError : PySem.W.exmOne K (.ref C.LaminaError) (.ref C.LaminaError) = some true
  te_NoProcess_LaminaError : PySem.W.exmOne K (.ref C.NoProcess) (.ref C.LaminaError) = some true
  te_BadHandle_LaminaError : PySem.W.exmOne K (.ref C.BadHandle) (.ref C.LaminaError) = some true
  te_TooMany_LaminaError : PySem.W.exmOne K (.ref C.TooMany) (.ref C.LaminaError) = some true
  te_LaminaError_BadHandle : PySem.W.exmOne K (.ref C.LaminaError) (.ref C.BadHandle) = some false
  te_NoProcess_BadHandle : PySem.W.exmOne K (.ref C.NoProcess) (.ref C.BadHandle) = some false
  te_BadHandle_BadHandle : PySem.W.exmOne K (.ref C.BadHandle) (.ref C.BadHandle) = some true
  te_TooMany_BadHandle : PySem.W.exmOne K (.ref C.TooMany) (.ref C.BadHandle) = some false
  kt_LaminaError_NoProcess : PySem.W.kitOne K (.ref C.LaminaError) (.ref C.NoProcess) = some false
  kt_NoProcess_NoProcess : PySem.W.kitOne K (.ref C.NoProcess) (.ref C.NoProcess) = some true
  kt_BadHandle_NoProcess : PySem.W.kitOne K (.ref C.BadHandle) (.ref C.NoProcess) = some false
  kt_TooMany_NoProcess : PySem.W.kitOne K (.ref C.TooMany) (.ref C.NoProcess) = some false
  kt_LaminaError_BadHandle : PySem.W.kitOne K (.ref C.LaminaError) (.ref C.BadHandle) = some false
  kt_NoProcess_BadHandle : PySem.W.kitOne K (.ref C.NoProcess) (.ref C.BadHandle) = some false
  kt_BadHandle_BadHandle : PySem.W.kitOne K (.ref C.BadHandle) (.ref C.BadHandle) = some true
  kt_TooMany_BadHandle : PySem.W.kitOne K (.ref C.TooMany) (.ref C.BadHandle) = some false
  kt_LaminaError_TooMany : PySem.W.kitOne K (.ref C.LaminaError) (.ref C.TooMany) = some false
  kt_NoProcess_TooMany : PySem.W.kitOne K (.ref C.NoProcess) (.ref C.TooMany) = some false
  kt_BadHandle_TooMany : PySem.W.kitOne K (.ref C.BadHandle) (.ref C.TooMany) = some false
  kt_TooMany_TooMany : PySem.W.kitOne K (.ref C.TooMany) (.ref C.TooMany) = some true
  xc_LaminaError : ExcC K C.LaminaError
  xc_NoProcess : ExcC K C.NoProcess
  xc_BadHandle : ExcC K C.BadHandle
  xc_TooMany : ExcC K C.TooMany
local macro_rules | `(tactic| walk_at "te") => `(tactic| first | exact Fa.te_LaminaError_LaminaError (by assumption) | exact Fa.te_NoProcess_LaminaError (by assumption) | exact Fa.te_BadHandle_LaminaError (by assumption) | exact Fa.te_TooMany_LaminaError (by assumption) | exact Fa.te_LaminaError_BadHandle (by assumption) | exact Fa.te_NoProcess_BadHandle (by assumption) | exact Fa.te_BadHandle_BadHandle (by assumption) | exact Fa.te_TooMany_BadHandle (by assumption))
local macro_rules | `(tactic| walk_at "kt") => `(tactic| first | exact Fa.kt_LaminaError_NoProcess (by assumption) | exact Fa.kt_NoProcess_NoProcess (by assumption) | exact Fa.kt_BadHandle_NoProcess (by assumption) | exact Fa.kt_TooMany_NoProcess (by assumption) | exact Fa.kt_LaminaError_BadHandle (by assumption) | exact Fa.kt_NoProcess_BadHandle (by assumption) | exact Fa.kt_BadHandle_BadHandle (by assumption) | exact Fa.kt_TooMany_BadHandle (by assumption) | exact Fa.kt_LaminaError_TooMany (by assumption) | exact Fa.kt_NoProcess_TooMany (by assumption) | exact Fa.kt_BadHandle_TooMany (by assumption) | exact Fa.kt_TooMany_TooMany (by assumption))
local macro_rules | `(tactic| walk_at "xc") => `(tactic| first | exact Fa.xc_LaminaError (by assumption) | exact Fa.xc_NoProcess (by assumption) | exact Fa.xc_BadHandle (by assumption) | exact Fa.xc_TooMany (by assumption))
def S1 (f : V → Hp → VK → XK → Prop) : Sp := fun vs H Q E => ∃ a, vs = [a] ∧ f a H Q E
def S2 (f : V → V → Hp → VK → XK → Prop) : Sp := fun vs H Q E => ∃ a b, vs = [a, b] ∧ f a b H Q E
def S3 (f : V → V → V → Hp → VK → XK → Prop) : Sp := fun vs H Q E => ∃ a b c, vs = [a, b, c] ∧ f a b c H Q E
def S4 (f : V → V → V → V → Hp → VK → XK → Prop) : Sp := fun vs H Q E => ∃ a b c d, vs = [a, b, c, d] ∧ f a b c d H Q E
section
variable {vs : List V} {H : Hp} {Q : VK} {E : XK} {a b c d e : V}
theorem len1 {f} (h : S1 f vs H Q E) : vs.length = 1 := by obtain ⟨_, rfl, _⟩ := h; rfl
theorem len2 {f} (h : S2 f vs H Q E) : vs.length = 2 := by obtain ⟨_, _, rfl, _⟩ := h; rfl
theorem len3 {f} (h : S3 f vs H Q E) : vs.length = 3 := by obtain ⟨_, _, _, rfl, _⟩ := h; rfl
theorem len4 {f} (h : S4 f vs H Q E) : vs.length = 4 := by obtain ⟨_, _, _, _, rfl, _⟩ := h; rfl
theorem w_S1 {f} (h : f a H Q E) : S1 f [a] H Q E := ⟨a, rfl, h⟩
theorem w_S2 {f} (h : f a b H Q E) : S2 f [a, b] H Q E := ⟨a, b, rfl, h⟩
theorem w_S3 {f} (h : f a b c H Q E) : S3 f [a, b, c] H Q E := ⟨a, b, c, rfl, h⟩
theorem w_S4 {f} (h : f a b c d H Q E) : S4 f [a, b, c, d] H Q E := ⟨a, b, c, d, rfl, h⟩
end
theorem lt_line {n : Nat} (h : n < 10000000) : n < sizeLine := Nat.lt_of_lt_of_le h (by decide)
abbrev spLaw (K : PySem.W.Frag) : Sp := S1 fun a H Q _ => ∃ (p : Addr) (ns : List Int), a = .ref p ∧ SqL K H p (ns.map V.int) ∧ ns.length ≤ 63 ∧ ∀ H', Q (.bl true) H'
/-- an item of a mapped list -/
theorem at_int {ns : List Int} {i : Nat} {x : V} (h : (ns.map V.int)[i]? = some x) : ∃ n, ns[i]? = some n ∧ x = .int n := by
  rw [List.getElem?_map] at h
  cases e : ns[i]? with
  | none => rw [e] at h; cases h
  | some n => rw [e] at h; exact ⟨n, rfl, (Option.some.inj h).symm⟩
theorem int_at {ns : List Int} {i : Nat} (h : i < ns.length) : (ns.map V.int)[i]? = some (.int (ns.getD i 0)) := by
  rw [List.getElem?_map, List.getElem?_eq_getElem h, List.getD_eq_getElem?_getD, List.getElem?_eq_getElem h]
  rfl
theorem tyx_list {K : PySem.W.Frag} {H : Hp} {p : Addr} {xs : List V} (h : SqL K H p xs) : TyX K H (.ref p) (.type U.Ob.list.nm) := by
  rcases h with (h | ⟨o, h⟩) | ⟨o, its, n, e, c, _⟩
  · exact .base (.lst h)
  · exact .base (.frz h)
  · exact .kList e c
theorem w_isi_list_L {K : PySem.W.Frag} {H : Hp} {Q : VK} {p : Addr} {xs : List V} (e : SqL K H p xs) (h : Q (.bl true) H) : uIsi K .list [.ref p, .ty "list"] H Q := ⟨rfl, .list, tyx_list e, h⟩
theorem take_snoc {α : Type} {l : List α} {i : Nat} {c : α} (h : l[i]? = some c) : l.take (i + 1) = l.take i ++ [c] := by
  obtain ⟨hl, he⟩ := List.getElem?_eq_some_iff.mp h
  rw [List.take_succ_eq_append_getElem hl, he]
theorem w_cutS {D : Ends} {σ : L2.St} {H : Hp} {t u : TS} (h : tSeq t u D σ H) : tCut t u D σ H := ⟨u D, h, fun _ _ h => h⟩
/-- of the objects of H all but those of S stand in H'; S' is of S or new -/
def Stp (S : List Addr) (H : Hp) (S' : List Addr) (H' : Hp) : Prop := (∀ b o, H b = some o → b ∉ S → H' b = some o) ∧ ∀ b ∈ S', b ∈ S ∨ H b = none
theorem Stp.refl {S : List Addr} {H : Hp} : Stp S H S H := ⟨fun _ _ h _ => h, fun _ h => .inl h⟩
theorem Stp.trans {S S1 S2 : List Addr} {H H1 H2 : Hp} (x : Stp S H S1 H1) (y : Stp S1 H1 S2 H2) : Stp S H S2 H2 := by
  refine ⟨fun b o h n => y.1 b o (x.1 b o h n) fun q => ?_, fun b hb => ?_⟩
  · rcases x.2 b q with z | z
    · exact n z
    · rw [h] at z; cases z
  · rcases y.2 b hb with q | q
    · exact x.2 b q
    · by_cases n : b ∈ S
      · exact .inl n
      · cases e : H b with
        | none => exact .inr rfl
        | some o => rw [x.1 b o e n] at q; cases q
theorem Stp.same {S : List Addr} {H H' : Hp} (s : Same H H') : Stp S H S H' := ⟨fun b o h _ => s b o h, fun _ h => .inl h⟩
theorem Stp.upd {S : List Addr} {H H' : Hp} {p : Addr} {o : HO} (x : Stp S H S H') (h : p ∈ S) : Stp S H S (upd H' p o) :=
  ⟨fun b w e n => by rw [upd_ne (fun q => n (by rw [q]; exact h))]; exact x.1 b w e n, x.2⟩
theorem Stp.new {S : List Addr} {H H' : Hp} {p : Addr} {o : HO} (x : Stp S H S H') (h : H' p = none) : Stp S H S (L2.upd H' p o) := x.trans (.same (same_new h))
theorem Stp.fresh {S S' : List Addr} {H H' : Hp} {p : Addr} (x : Stp S H S' H') (n : H' p = none) : p ∈ S ∨ H p = none := by
  by_cases q : p ∈ S
  · exact .inl q
  · cases e : H p with
    | none => exact .inr rfl
    | some o => rw [x.1 p o e q] at n; cases n
theorem Stp.keep {S S' : List Addr} {H H' : Hp} {b : Addr} {o : HO} (x : Stp S H S' H') (h : H b = some o) (n : b ∉ S) : H' b = some o ∧ b ∉ S' :=
  ⟨x.1 b o h n, fun q => (x.2 b q).elim n fun z => by rw [h] at z; cases z⟩
/-- a list of eight words -/
def RowAt (H : Hp) (v : V) (r : List Int) : Prop := r.length = 8 ∧ ∃ p, v = .ref p ∧ H p = some (.lst (r.map V.int))
def AllRef (vs : List V) : Prop := ∀ x ∈ vs, ∃ p, x = V.ref p
theorem RowAt.same {H H' : Hp} {v : V} {r : List Int} (x : RowAt H v r) (s : Same H H') : RowAt H' v r := by
  obtain ⟨l, p, rfl, h⟩ := x
  exact ⟨l, p, rfl, s _ _ h⟩
theorem RowAt.upd {H : Hp} {v : V} {r : List Int} {q : Addr} {o u : HO} (x : RowAt H v r) (h : H q = some u) (n : r.length = 8 → HO.lst (r.map V.int) ≠ u) : RowAt (upd H q o) v r := by
  obtain ⟨l, p, rfl, e⟩ := x
  exact ⟨l, p, rfl, by rw [upd_ne (ne_of e h (n l))]; exact e⟩
/-- what may be written without a row's loss -/
def NoRow (u : HO) : Prop := ∀ r : List Int, r.length = 8 → HO.lst (r.map V.int) ≠ u
def RowsAt (H : Hp) (vs : List V) (rs : List (List Int)) : Prop := vs.length = rs.length ∧ ∀ (i : Nat) v, vs[i]? = some v → ∃ r, rs[i]? = some r ∧ RowAt H v r
theorem RowsAt.ref {H : Hp} {vs : List V} {rs : List (List Int)} (x : RowsAt H vs rs) : AllRef vs := fun v hv => by
  obtain ⟨i, hi⟩ := List.getElem?_of_mem hv
  obtain ⟨r, _, _, p, e, _⟩ := x.2 i v hi
  exact ⟨p, e⟩
theorem RowsAt.map {H H' : Hp} {vs : List V} {rs : List (List Int)} (x : RowsAt H vs rs) (f : ∀ v r, RowAt H v r → RowAt H' v r) : RowsAt H' vs rs := ⟨x.1, fun i v h => by
  obtain ⟨r, e, y⟩ := x.2 i v h
  exact ⟨r, e, f v r y⟩⟩
theorem RowsAt.same {H H' : Hp} {vs : List V} {rs : List (List Int)} (x : RowsAt H vs rs) (s : Same H H') : RowsAt H' vs rs := x.map fun _ _ y => y.same s
theorem RowsAt.upd {H : Hp} {vs : List V} {rs : List (List Int)} {q : Addr} {o u : HO} (x : RowsAt H vs rs) (h : H q = some u) (n : NoRow u) : RowsAt (upd H q o) vs rs := x.map fun _ r y => y.upd h (n r)
theorem RowsAt.nil {H : Hp} : RowsAt H [] [] := ⟨rfl, fun i v h => by simp at h⟩
theorem RowsAt.snoc {H : Hp} {vs : List V} {rs : List (List Int)} {v : V} {r : List Int} (x : RowsAt H vs rs) (y : RowAt H v r) : RowsAt H (vs ++ [v]) (rs ++ [r]) := by
  refine ⟨by rw [List.length_append, List.length_append, x.1]; rfl, fun i w h => ?_⟩
  rcases Nat.lt_or_ge i vs.length with q | q
  · rw [List.getElem?_append_left q] at h
    obtain ⟨r', e, z⟩ := x.2 i w h
    exact ⟨r', by rw [List.getElem?_append_left (by rw [← x.1]; exact q)]; exact e, z⟩
  · rw [List.getElem?_append_right q] at h
    have hi : i - vs.length = 0 := by
      have := (List.getElem?_eq_some_iff.mp h).1
      simp at this
      omega
    rw [hi] at h
    cases h
    exact ⟨r, by rw [List.getElem?_append_right (by rw [← x.1]; exact q), ← x.1, hi]; rfl, y⟩
theorem RowsAt.set {H : Hp} {vs : List V} {rs : List (List Int)} {v : V} {r : List Int} {j : Nat} (x : RowsAt H vs rs) (y : RowAt H v r) : RowsAt H (vs.set j v) (rs.set j r) := by
  refine ⟨by rw [List.length_set, List.length_set, x.1], fun i w h => ?_⟩
  by_cases q : j = i
  · subst q
    have hl : j < vs.length := by
      have := (List.getElem?_eq_some_iff.mp h).1
      rw [List.length_set] at this
      exact this
    rw [List.getElem?_set_self hl] at h
    cases h
    exact ⟨r, List.getElem?_set_self (by rw [← x.1]; exact hl), y⟩
  · rw [List.getElem?_set_ne q] at h
    obtain ⟨r', e, z⟩ := x.2 i w h
    exact ⟨r', by rw [List.getElem?_set_ne q]; exact e, z⟩
theorem AllRef.snoc {vs : List V} {p : Addr} (h : AllRef vs) : AllRef (vs ++ [.ref p]) := fun x hx => by
  rcases List.mem_append.mp hx with q | q
  · exact h x q
  · exact ⟨p, List.mem_singleton.mp q⟩
/-- eight words -/
def Row8 (r : List Int) : Prop := r.length = 8 ∧ ∀ z ∈ r, 0 ≤ z
theorem Row8.set {r : List Int} {i : Nat} {z : Int} (h : Row8 r) (hz : 0 ≤ z) : Row8 (r.set i z) := ⟨by rw [List.length_set]; exact h.1, fun y hy => by
  rcases List.mem_or_eq_of_mem_set hy with q | q
  · exact h.2 y q
  · rw [q]; exact hz⟩
/-- a != [] and d != {}, whatever is within -/
def uNeO (K : PySem.W.Frag) : R2 := fun x y H Q => ∃ a b, x = .ref a ∧ y = .ref b ∧ ((∃ xs, H b = some (.lst []) ∧ SqL K H a xs ∧ Q (.bl (!xs.isEmpty)) H) ∨ (∃ ks : List (Key × V), H a = some (.dK ks) ∧ H b = some (.dK []) ∧ Q (.bl (!ks.isEmpty)) H))
theorem o_neO {X : Cx} (hu : X.A.units < cLine) : OpR X (compareOp .NotEq) (uNeO X.K) := by
  intro pins s σ H x y v u Q I rx ry h
  obtain ⟨a, b, rfl, rfl, ⟨xs, eb, ea, q⟩ | ⟨ks, ea, eb, q⟩⟩ := h
  · obtain rfl : v = Value.ref a := rx
    obtain rfl : u = Value.ref b := ry
    obtain ⟨us, r1, p1, _⟩ := I.list ea
    obtain ⟨ws, r2, p2, _⟩ := I.list (show SqL X.K H b [] from SqL.of eb)
    cases r2
    cases r1 with
    | nil => exact PySem.SeqAt.RcNeAt.lists (e := fun _ => true) p1.isList p2.isList rfl hu (fun j h1 _ => absurd h1 (Nat.not_lt_zero j)) X.prog X.w X.xe _ (fin_bl I q rfl)
    | cons a1 b1 => exact PySem.SeqAt.RcNeAt.lists_lengths p1.isList p2.isList rfl hu X.prog X.w X.xe _ (fin_bl I q rfl)
  · obtain rfl : v = Value.ref a := rx
    obtain rfl : u = Value.ref b := ry
    obtain ⟨_, ya, va, ra, da⟩ := (show ObjOk X.prog X.w H s.heap a (.dK ks) from I.hok a _ ea)
    obtain ⟨_, yb, vb, rb, db⟩ := (show ObjOk X.prog X.w H s.heap b (.dK []) from I.hok b _ eb)
    have l1 : vb = [] := by cases rb; rfl
    subst l1
    have l2 : va.length = ks.length := ra.length.symm
    refine PySem.W.keq_ne (knd := mixKind X.prog X.w) (r := true) ya yb da db hu (fun h => ?_) (fin_bl I q ?_)
    · have : va = [] := List.eq_nil_of_length_eq_zero (by simpa using h)
      subst this
      exact .nil
    · cases ks with
      | nil => cases va with
        | nil => rfl
        | cons _ _ => simp at l2
      | cons _ _ => cases va with
        | nil => simp at l2
        | cons _ _ => rfl
structure PD where
  own : Int
  vol : Str
  dir : Int
  fs : List (Int × Int)
  deriving DecidableEq
abbrev PT := List (Addr × Addr × PD)
def prO (x : Addr × Addr × PD) : HO := .lst [.int x.2.2.own, .str x.2.2.vol, .int x.2.2.dir, .ref x.2.1]
def fsK (fs : List (Int × Int)) : List (Key × V) := fs.map fun y => ((.inl y.1 : Key), V.int y.2)
def kvN : Nat → PT → List (Key × V)
  | _, [] => []
  | k, x :: T => ((.inl (k : Int) : Key), V.ref x.1) :: kvN (k + 1) T
def datP (T : PT) : List PD := T.map (·.2.2)
def pF (d : Addr) (T : PT) : List Addr := d :: (T.map (·.1) ++ T.map (·.2.1))
theorem kvN_len : ∀ (k : Nat) (T : PT), (kvN k T).length = T.length
  | _, [] => rfl
  | k, _ :: T => congrArg (· + 1) (kvN_len (k + 1) T)
theorem datP_len (T : PT) : (datP T).length = T.length := List.length_map ..
/-- what stands under a number -/
def atP {α : Type} (T : List α) (n : Int) : Option α := if 0 ≤ n then T[n.toNat]? else none
theorem atP_nat {α : Type} (T : List α) (n : Nat) : atP T (n : Int) = T[n]? := by unfold atP; rw [if_pos (by omega)]; rfl
theorem atP_some {α : Type} {T : List α} {n : Int} {x : α} (h : atP T n = some x) : ∃ i : Nat, n = (i : Int) ∧ T[i]? = some x := by
  unfold atP at h
  split at h
  · rename_i h0
    exact ⟨n.toNat, by omega, h⟩
  · cases h
theorem atP_dat (T : PT) (n : Int) : atP (datP T) n = (atP T n).map (·.2.2) := by
  unfold atP datP
  split
  · rw [List.getElem?_map]
  · rfl
theorem valV_N : ∀ (k : Nat) (T : PT) (n : Int), valV (kvN k T) (.inl n) = if (k : Int) ≤ n then (T[(n - k).toNat]?).map (fun x => V.ref x.1) else none
  | k, [], n => by split <;> simp [kvN] <;> rfl
  | k, x :: T, n => by
    by_cases q : (k : Int) = n
    · subst q
      rw [kvN, valV_pos rfl, if_pos (Int.le_refl _), Int.sub_self]
      rfl
    · rw [kvN, valV_neg (fun e => q (Sum.inl.inj e)), valV_N (k + 1) T n]
      by_cases h : (k : Int) ≤ n
      · rw [if_pos (by omega), if_pos h]
        obtain ⟨m, hm⟩ : ∃ m : Nat, n = k + 1 + m := ⟨(n - k - 1).toNat, by omega⟩
        subst hm
        rw [show ((k : Int) + 1 + m - k).toNat = m + 1 by omega, show ((k : Int) + 1 + m - ((k + 1 : Nat) : Int)).toNat = m by omega]
        rfl
      · rw [if_neg (by omega), if_neg h]
theorem valV_P (T : PT) (n : Int) : valV (kvN 0 T) (.inl n) = (atP T n).map fun x => V.ref x.1 := by
  rw [valV_N]
  unfold atP
  by_cases h : 0 ≤ n
  · rw [if_pos (by exact h), if_pos h, show n - ((0 : Nat) : Int) = n by omega]
  · rw [if_neg (by exact h), if_neg h]
    rfl
theorem kvN_set : ∀ (k i : Nat) (T : PT) (x y : Addr × Addr × PD), T[i]? = some x → y.1 = x.1 → kvN k (T.set i y) = kvN k T
  | _, _, [], _, _, h, _ => by simp at h
  | k, 0, z :: T, x, y, h, e => by
    cases h
    show (_, V.ref y.1) :: _ = _
    rw [e]
    rfl
  | k, i + 1, z :: T, x, y, h, e => by
    show _ :: kvN (k + 1) (T.set i y) = _
    rw [kvN_set (k + 1) i T x y (by simpa using h) e]
    rfl
theorem kvN_app : ∀ (k : Nat) (T : PT) (x : Addr × Addr × PD), kvN k (T ++ [x]) = kvN k T ++ [((.inl ((k + T.length : Nat) : Int) : Key), V.ref x.1)]
  | k, [], x => rfl
  | k, z :: T, x => by
    show _ :: kvN (k + 1) (T ++ [x]) = _
    rw [kvN_app (k + 1) T x, List.length_cons, show k + 1 + T.length = k + (T.length + 1) by omega]
    rfl
theorem map_set_id {α β : Type} (f : α → β) {T : List α} {i : Nat} {x y : α} (h : T[i]? = some x) (e : f y = f x) : (T.set i y).map f = T.map f := by
  rw [List.map_set, e]
  refine List.ext_getElem? fun j => ?_
  rw [List.getElem?_set]
  split
  · rename_i q
    subst q
    have hl := (List.getElem?_eq_some_iff.mp h).1
    rw [List.length_map, if_pos hl, List.getElem?_map, h]
    rfl
  · rfl
structure TpAt (H : Hp) (d : Addr) (T : PT) : Prop where
  dict : H d = some (.dK (kvN 0 T))
  ent : ∀ x ∈ T, H x.1 = some (prO x)
  fd : ∀ x ∈ T, H x.2.1 = some (.dK (fsK x.2.2.fs))
  n1 : (T.map (·.1)).Nodup
  n2 : (d :: T.map (·.2.1)).Nodup
section tpat
variable {H H' : Hp} {d p q : Addr} {T : PT} {n : Int} {f f' : PD} {F F' : List Addr} {i : Nat}
theorem TpAt.same (x : TpAt H d T) (s : Same H H') : TpAt H' d T := ⟨s _ _ x.dict, fun y hy => s _ _ (x.ent y hy), fun y hy => s _ _ (x.fd y hy), x.n1, x.n2⟩
theorem pF_cases {b : Addr} (h : b ∈ pF d T) : b = d ∨ (∃ x ∈ T, b = x.1) ∨ ∃ x ∈ T, b = x.2.1 := by
  unfold pF at h
  rcases List.mem_cons.mp h with h | h
  · exact .inl h
  · rcases List.mem_append.mp h with h | h
    · obtain ⟨x, hx, rfl⟩ := List.mem_map.mp h
      exact .inr (.inl ⟨x, hx, rfl⟩)
    · obtain ⟨x, hx, rfl⟩ := List.mem_map.mp h
      exact .inr (.inr ⟨x, hx, rfl⟩)
theorem pF_ent {x : Addr × Addr × PD} (h : x ∈ T) : x.1 ∈ pF d T := List.mem_cons_of_mem _ (List.mem_append_left _ (List.mem_map.mpr ⟨x, h, rfl⟩))
theorem pF_fd {x : Addr × Addr × PD} (h : x ∈ T) : x.2.1 ∈ pF d T := List.mem_cons_of_mem _ (List.mem_append_right _ (List.mem_map.mpr ⟨x, h, rfl⟩))
theorem pF_d : d ∈ pF d T := List.mem_cons_self ..
/-- what stands at an address of a table -/
theorem TpAt.obj (x : TpAt H d T) {b : Addr} (h : b ∈ pF d T) : (∃ k : List (Key × V), H b = some (.dK k)) ∨ ∃ a c e g, H b = some (.lst [a, c, e, g]) := by
  rcases pF_cases h with rfl | ⟨y, hy, rfl⟩ | ⟨y, hy, rfl⟩
  · exact .inl ⟨_, x.dict⟩
  · exact .inr ⟨_, _, _, _, x.ent y hy⟩
  · exact .inl ⟨_, x.fd y hy⟩
theorem TpAt.stp (x : TpAt H d T) (o : ∀ b ∈ pF d T, b ∉ F) (st : Stp F H F' H') : TpAt H' d T ∧ ∀ b ∈ pF d T, b ∉ F' := by
  refine ⟨⟨(st.keep x.dict (o d pF_d)).1, fun y hy => (st.keep (x.ent y hy) (o _ (pF_ent hy))).1, fun y hy => (st.keep (x.fd y hy) (o _ (pF_fd hy))).1, x.n1, x.n2⟩, fun b hb => ?_⟩
  rcases x.obj hb with ⟨k, e⟩ | ⟨_, _, _, _, e⟩
  · exact (st.keep e (o b hb)).2
  · exact (st.keep e (o b hb)).2
theorem TpAt.fresh (x : TpAt H d T) (h : H p = none) : p ∉ pF d T := fun hb => by
  rcases x.obj hb with ⟨k, e⟩ | ⟨_, _, _, _, e⟩
  · rw [e] at h; cases h
  · rw [e] at h; cases h
theorem pF_set {y : Addr × Addr × PD} (h : T[i]? = some (p, q, f)) (e1 : y.1 = p) (e2 : y.2.1 = q) : pF d (T.set i y) = pF d T := by
  unfold pF
  rw [map_set_id (·.1) h (by exact e1), map_set_id (·.2.1) h (by exact e2)]
theorem datP_set {y : Addr × Addr × PD} : datP (T.set i y) = (datP T).set i y.2.2 := List.map_set
theorem mem_set {y z : Addr × Addr × PD} (h : z ∈ T.set i y) (n1 : (T.map (·.1)).Nodup) (ht : T[i]? = some (p, q, f)) : z = y ∨ (z ∈ T ∧ z.1 ≠ p) := by
  obtain ⟨j, hj⟩ := List.mem_iff_getElem?.mp h
  rw [List.getElem?_set] at hj
  split at hj
  · split at hj
    · cases hj; exact .inl rfl
    · cases hj
  · rename_i ne
    refine .inr ⟨List.mem_of_getElem? hj, fun e => ne ?_⟩
    have pw := List.pairwise_iff_getElem.mp n1
    obtain ⟨a1, a2⟩ := List.getElem?_eq_some_iff.mp hj
    obtain ⟨b1, b2⟩ := List.getElem?_eq_some_iff.mp ht
    have m1 : j < (T.map (·.1)).length := by rw [List.length_map]; exact a1
    have m2 : i < (T.map (·.1)).length := by rw [List.length_map]; exact b1
    have k1 : (T.map (·.1))[j] = p := by rw [List.getElem_map, a2]; exact e
    have k2 : (T.map (·.1))[i] = p := by rw [List.getElem_map, b2]
    rcases Nat.lt_trichotomy i j with q | q | q
    · exact absurd (k2.trans k1.symm) (pw i j m2 m1 q)
    · exact q
    · exact absurd (k1.trans k2.symm) (pw j i m1 m2 q)
/-- an entry's row is written -/
theorem TpAt.set (x : TpAt H d T) (h : T[i]? = some (p, q, f)) (e : f'.fs = f.fs) : TpAt (upd H p (prO (p, q, f'))) d (T.set i (p, q, f')) := by
  have hm := List.mem_of_getElem? h
  have ep := x.ent _ hm
  refine ⟨?_, fun z hz => ?_, fun z hz => ?_, ?_, ?_⟩
  · rw [kvN_set 0 i T (p, q, f) (p, q, f') h rfl]
    exact upd_oth x.dict (ne_of x.dict ep fun z => nomatch z)
  · rcases mem_set hz x.n1 h with rfl | ⟨hz, ne⟩
    · exact upd_same
    · exact upd_oth (x.ent z hz) ne
  · rcases mem_set hz x.n1 h with rfl | ⟨hz, ne⟩
    · have k := x.fd _ hm
      show upd H p _ q = some (.dK (fsK f'.fs))
      rw [e]
      exact upd_oth k (ne_of k ep fun z => nomatch z)
    · have k := x.fd z hz
      exact upd_oth k (ne_of k ep fun z => nomatch z)
  · rw [map_set_id (x := (p, q, f)) (y := (p, q, f')) (·.1) h rfl]; exact x.n1
  · rw [map_set_id (x := (p, q, f)) (y := (p, q, f')) (·.2.1) h rfl]; exact x.n2
theorem TpAt.set_stp (h : T[i]? = some (p, q, f)) {o : HO} : Stp (pF d T) H (pF d (T.set i (p, q, f'))) (upd H p o) := by
  rw [pF_set h rfl rfl]
  exact Stp.refl.upd (pF_ent (List.mem_of_getElem? h))
theorem fd_ne (x : TpAt H d T) (h : T[i]? = some (p, q, f)) {z : Addr × Addr × PD} (hz : z ∈ T) (ne : z.1 ≠ p) : z.2.1 ≠ q := fun e => by
  have nd := (List.nodup_cons.mp x.n2).2
  have := uniqP nd hz (List.mem_of_getElem? h) e
  exact ne (by rw [this])
where uniqP {α β : Type} {f : α → β} : ∀ {l : List α}, (l.map f).Nodup → ∀ {x y : α}, x ∈ l → y ∈ l → f x = f y → x = y
  | a :: l, nd, x, y, hx, hy, e => by
    obtain ⟨n1, n2⟩ := List.nodup_cons.mp (show (f a :: l.map f).Nodup from nd)
    rcases List.mem_cons.mp hx with ex | hx2
    · rcases List.mem_cons.mp hy with ey | hy2
      · rw [ex, ey]
      · exact absurd (by rw [← ex, e]; exact List.mem_map.mpr ⟨y, hy2, rfl⟩) n1
    · rcases List.mem_cons.mp hy with ey | hy2
      · exact absurd (by rw [← ey, ← e]; exact List.mem_map.mpr ⟨x, hx2, rfl⟩) n1
      · exact uniqP n2 hx2 hy2 e
/-- an entry's descriptors are written -/
theorem TpAt.setF (x : TpAt H d T) (h : T[i]? = some (p, q, f)) (fs : List (Int × Int)) : TpAt (upd H q (.dK (fsK fs))) d (T.set i (p, q, { f with fs := fs })) := by
  have hm := List.mem_of_getElem? h
  have eq := x.fd _ hm
  have nd := List.nodup_cons.mp x.n2
  refine ⟨?_, fun z hz => ?_, fun z hz => ?_, ?_, ?_⟩
  · rw [kvN_set 0 i T (p, q, f) (p, q, { f with fs := fs }) h rfl]
    exact upd_oth x.dict (fun e => nd.1 (by rw [e]; exact List.mem_map.mpr ⟨_, hm, rfl⟩))
  · rcases mem_set hz x.n1 h with rfl | ⟨hz, ne⟩
    · have k := x.ent _ hm
      exact upd_oth k (ne_of k eq fun z => nomatch z)
    · have k := x.ent z hz
      exact upd_oth k (ne_of k eq fun z => nomatch z)
  · rcases mem_set hz x.n1 h with rfl | ⟨hz, ne⟩
    · exact upd_same
    · exact upd_oth (x.fd z hz) (fd_ne x h hz ne)
  · rw [map_set_id (x := (p, q, f)) (y := (p, q, { f with fs := fs })) (·.1) h rfl]; exact x.n1
  · rw [map_set_id (x := (p, q, f)) (y := (p, q, { f with fs := fs })) (·.2.1) h rfl]; exact x.n2
theorem TpAt.setF_stp (h : T[i]? = some (p, q, f)) {o : HO} : Stp (pF d T) H (pF d (T.set i (p, q, f'))) (upd H q o) := by
  rw [pF_set h rfl rfl]
  exact Stp.refl.upd (pF_fd (List.mem_of_getElem? h))
theorem put_N : putK (kvN 0 T) (.inl (T.length : Int)) (.ref p) = kvN 0 (T ++ [(p, q, f)]) := by
  rw [kvN_app, putK_new _ (by rw [valV_P, atP_nat, List.getElem?_eq_none (Nat.le_refl _)]; rfl), Nat.zero_add]
/-- one more process -/
theorem TpAt.add (x : TpAt H d T) (s : Same H H') (hp : H p = none) (hq : H q = none) (e1 : H' p = some (prO (p, q, f))) (e2 : H' q = some (.dK (fsK f.fs))) : TpAt (upd H' d (.dK (kvN 0 (T ++ [(p, q, f)])))) d (T ++ [(p, q, f)]) := by
  have pd : p ≠ d := fun z => by rw [z, x.dict] at hp; cases hp
  have qd : q ≠ d := fun z => by rw [z, x.dict] at hq; cases hq
  have nd := List.nodup_cons.mp x.n2
  refine ⟨upd_same, fun y hy => ?_, fun y hy => ?_, ?_, ?_⟩
  · rcases List.mem_append.mp hy with hy | hy
    · have k := x.ent y hy
      exact upd_oth (s _ _ k) (ne_of k x.dict fun z => nomatch z)
    · rw [List.mem_singleton.mp hy]
      exact upd_oth e1 pd
  · rcases List.mem_append.mp hy with hy | hy
    · have k := x.fd y hy
      exact upd_oth (s _ _ k) (fun e => nd.1 (by rw [← e]; exact List.mem_map.mpr ⟨y, hy, rfl⟩))
    · rw [List.mem_singleton.mp hy]
      exact upd_oth e2 qd
  · rw [List.map_append]
    exact List.nodup_append.mpr ⟨x.n1, by simp, fun a ha b hb e => by
      have hb : b = p := by simpa using hb
      obtain ⟨y, hy, rfl⟩ := List.mem_map.mp ha
      have k := x.ent y hy
      rw [e, hb, hp] at k
      cases k⟩
  · rw [List.map_append]
    show ((d :: T.map (·.2.1)) ++ [q]).Nodup
    exact List.nodup_append.mpr ⟨x.n2, by simp, fun a ha b hb e => by
      have hb : b = q := by simpa using hb
      have : ∃ o, H a = some o := by
        rcases List.mem_cons.mp ha with rfl | ha
        · exact ⟨_, x.dict⟩
        · obtain ⟨y, hy, rfl⟩ := List.mem_map.mp ha
          exact ⟨_, x.fd y hy⟩
      obtain ⟨o, k⟩ := this
      rw [e, hb, hq] at k
      cases k⟩
theorem TpAt.add_stp (s : Same H H') (hp : H p = none) (hq : H q = none) {o : HO} : Stp (pF d T) H (pF d (T ++ [(p, q, f)])) (upd H' d o) := by
  have z : Stp (pF d T) H (pF d T) (upd H' d o) := ⟨fun b w h nb => by rw [upd_ne (fun q => nb (by rw [q]; exact pF_d))]; exact s _ _ h, fun _ h => .inl h⟩
  refine ⟨z.1, fun b hb => ?_⟩
  rcases pF_cases hb with rfl | ⟨y, hy, rfl⟩ | ⟨y, hy, rfl⟩
  · exact .inl pF_d
  · rcases List.mem_append.mp hy with hy | hy
    · exact .inl (pF_ent hy)
    · rw [List.mem_singleton.mp hy]; exact .inr hp
  · rcases List.mem_append.mp hy with hy | hy
    · exact .inl (pF_fd hy)
    · rw [List.mem_singleton.mp hy]; exact .inr hq
end tpat
/-- the object of processes -/
def PrAt (C : Ex) (H : Hp) (h d : Addr) (T : PT) : Prop := (∃ dx, H h = some (.ins C.Processes dx [("processes", .ref d)])) ∧ TpAt H d T
theorem PrAt.same {C : Ex} {H H' : Hp} {h d : Addr} {T : PT} (x : PrAt C H h d T) (s : Same H H') : PrAt C H' h d T := ⟨x.1.imp fun _ e => s _ _ e, x.2.same s⟩
theorem PrAt.out {C : Ex} {H : Hp} {h d : Addr} {T : PT} (x : PrAt C H h d T) : h ∉ pF d T := fun hb => by
  obtain ⟨⟨dx, i⟩, t⟩ := x
  rcases t.obj hb with ⟨k, e⟩ | ⟨_, _, _, _, e⟩
  · rw [e] at i; cases i
  · rw [e] at i; cases i
theorem PrAt.tp {C : Ex} {H H' : Hp} {h d : Addr} {T T' : PT} (x : PrAt C H h d T) (t : TpAt H' d T') (st : Stp (pF d T) H (pF d T') H') : PrAt C H' h d T' := ⟨x.1.imp fun _ e => (st.keep e x.out).1, t⟩
theorem w_glst {K : PySem.W.Frag} {σ : L2.St} {H : Hp} {N : L2.St → Hp → Prop} {p : Addr} {xs : List V} {n : Nat} {u : TGs} (e : SqL K H p xs) (hl : xs.length = n) (h : u xs σ H N) : gLst K n u (.ref p) σ H N := ⟨p, xs, rfl, e, hl, h⟩
theorem w_dgetF {H : Hp} {Q : VK} {p : Addr} {o : Obj} {kvs : List (Key × V)} {i : Int} {v : V} (e : H p = some (.frz o (.dK kvs))) (l : valV kvs (.inl i) = some v) (h : Q v H) : dgQ (.ref p) (.int i) H Q := ⟨p, v, rfl, .inl ⟨kvs, .inl i, .inr ⟨o, e⟩, rfl, l.symm⟩, h⟩
theorem upd_back {H : Hp} {d : Addr} {o u : HO} (h : H d = some u) : upd (upd H d o) d u = H := funext fun b => by
  by_cases q : b = d
  · subst q
    rw [upd_same, h]
  · rw [upd_ne q, upd_ne q]
def uListD : List V → Hp → VK → Prop := fun xs H Q => ∃ (a : Addr) (kvs : List (Key × V)), xs = [.ref a] ∧ Rd H a (.dK kvs) ∧ ∀ p, H p = none → Q (.ref p) (upd H p (.lst (kvs.map fun kv => kV kv.1)))
theorem c_listD {X : Cx} (hc : X.calm = true) : CallR X (.type "list") uListD := call_listD hc
theorem at_N {T : PT} : ∀ {k0 i : Nat} {k : Key} {v : V}, (kvN k0 T)[i]? = some (k, v) → ∃ x, T[i]? = some x ∧ k = .inl ((k0 + i : Nat) : Int) ∧ v = .ref x.1 := by
  induction T with
  | nil => intro k0 i k v h; simp [kvN] at h
  | cons y T ih =>
    intro k0 i k v h
    cases i with
    | zero => cases h; exact ⟨y, rfl, rfl, rfl⟩
    | succ i =>
      obtain ⟨x, hx, e1, e2⟩ := ih (k0 := k0 + 1) (i := i) (by simpa [kvN] using h)
      exact ⟨x, by simpa using hx, by rw [e1, show k0 + 1 + i = k0 + (i + 1) by omega], e2⟩
theorem at_P {T : PT} {i : Nat} {k : Key} {v : V} (h : (kvN 0 T)[i]? = some (k, v)) : ∃ x, T[i]? = some x ∧ k = .inl (i : Int) ∧ v = .ref x.1 := by
  obtain ⟨x, hx, e1, e2⟩ := at_N h
  exact ⟨x, hx, by rw [e1, Nat.zero_add], e2⟩
theorem val_i {T : PT} {i : Nat} {x : Addr × Addr × PD} (h : T[i]? = some x) : valV (kvN 0 T) (.inl (i : Int)) = some (.ref x.1) := by rw [valV_P, atP_nat, h]; rfl
theorem dat_i {T : PT} {i : Nat} {x : Addr × Addr × PD} (h : T[i]? = some x) : (datP T)[i]? = some x.2.2 := by unfold datP; rw [List.getElem?_map, h]; rfl
/-- the descriptors of a process -/
abbrev FsL := List (Int × Int)
def keysF (fs : FsL) : List Int := fs.map (·.1)
def getF (fs : FsL) (k : Int) : Int := ((fs.find? fun x => decide (x.1 = k)).map (·.2)).getD 0
def delF (fs : FsL) (k : Int) : FsL := fs.filter fun x => decide (x.1 ≠ k)
theorem fsK_len (fs : FsL) : (fsK fs).length = fs.length := List.length_map ..
theorem fsK_keys (fs : FsL) : (fsK fs).map (·.1) = (keysF fs).map Sum.inl := by
  unfold fsK keysF
  rw [List.map_map, List.map_map]
  rfl
theorem keysF_len (fs : FsL) : (keysF fs).length = fs.length := List.length_map ..
theorem valV_F (fs : FsL) (k : Int) : valV (fsK fs) (.inl k) = (fs.find? fun x => decide (x.1 = k)).map fun x => V.int x.2 := by
  unfold fsK
  induction fs with
  | nil => rfl
  | cons x T ih =>
    by_cases q : x.1 = k
    · rw [List.map_cons, valV_pos (by rw [q]), List.find?_cons_of_pos (by simp [q])]
      rfl
    · rw [List.map_cons, valV_neg (fun e => q (Sum.inl.inj e)), List.find?_cons_of_neg (by simp [q])]
      exact ih
theorem val_F {fs : FsL} {k : Int} (h : k ∈ keysF fs) : valV (fsK fs) (.inl k) = some (.int (getF fs k)) := by
  have z : (fs.find? fun x => decide (x.1 = k)).isSome = true := by
    rw [List.find?_isSome]
    unfold keysF at h
    simpa using h
  obtain ⟨x, hx⟩ := Option.isSome_iff_exists.mp z
  rw [valV_F]
  unfold getF
  rw [hx]
  rfl
theorem val_keyF (fs : FsL) (k : Int) : (valV (fsK fs) (.inl k)).isSome = decide (k ∈ keysF fs) := by
  rw [valV_F, Option.isSome_map]
  have z : (fs.find? fun x => decide (x.1 = k)).isSome = true ↔ k ∈ keysF fs := by
    rw [List.find?_isSome]
    unfold keysF
    simp
  cases q : (fs.find? fun x => decide (x.1 = k)).isSome with
  | true => exact (decide_eq_true (z.mp q)).symm
  | false => exact (decide_eq_false fun h => by have := z.mpr h; rw [q] at this; cases this).symm
theorem drop_F (fs : FsL) (k : Int) : dropK (fsK fs) (.inl k) = fsK (delF fs k) := by
  unfold dropK fsK delF
  rw [List.filter_map]
  congr 1
  exact List.filter_congr fun x _ => decide_eq_decide.mpr ⟨fun h e => h (by show (Sum.inl x.1 : Key) = _; rw [e]), fun h e => h (Sum.inl.inj e)⟩
theorem put_F {fs : FsL} {k z : Int} (h : k ∉ keysF fs) : putK (fsK fs) (.inl k) (.int z) = fsK (fs ++ [(k, z)]) := by
  have q := val_keyF fs k
  rw [decide_eq_false h] at q
  have q2 : valV (fsK fs) (.inl k) = none := by
    cases e : valV (fsK fs) (.inl k) with
    | none => rfl
    | some v => rw [e] at q; cases q
  rw [putK_new _ q2]
  unfold fsK
  rw [List.map_append]
  rfl
/-- the least number that is not in use -/
def LeastI (ks : List Int) (n : Nat) : Prop := (n : Int) ∉ ks ∧ ∀ j : Nat, j < n → (j : Int) ∈ ks
theorem LeastI.eq {ks : List Int} {n m : Nat} (a : LeastI ks n) (b : LeastI ks m) : n = m := by
  rcases Nat.lt_trichotomy n m with h | h | h
  · exact absurd (b.2 n h) a.1
  · exact h
  · exact absurd (a.2 m h) b.1
open Classical in
noncomputable def leastI (ks : List Int) : Nat := if h : ∃ n, LeastI ks n then h.choose else 0
theorem LeastI.is {ks : List Int} {n : Nat} (a : LeastI ks n) : leastI ks = n := by
  have h : ∃ n, LeastI ks n := ⟨n, a⟩
  unfold leastI
  rw [dif_pos h]
  exact h.choose_spec.eq a
theorem sub_lenP : ∀ {l m : List Int}, l.Nodup → (∀ z ∈ l, z ∈ m) → l.length ≤ m.length
  | [], _, _, _ => Nat.zero_le _
  | a :: l, m, nd, h => by
    obtain ⟨n1, n2⟩ := List.nodup_cons.mp nd
    have ha := h a (List.mem_cons_self ..)
    have z := sub_lenP (l := l) (m := m.erase a) n2 fun z hz => (List.mem_erase_of_ne (fun e => n1 (by rw [← e]; exact hz))).mpr (h z (List.mem_cons_of_mem _ hz))
    rw [List.length_erase_of_mem ha] at z
    have := List.length_pos_of_mem ha
    rw [List.length_cons]
    omega
theorem low_lenP {ks : List Int} {k : Nat} (h : ∀ j : Nat, j < k → (j : Int) ∈ ks) : k ≤ ks.length := by
  have z := sub_lenP (l := (List.range k).map fun i : Nat => (i : Int)) (m := ks) (List.pairwise_map.mpr (List.pairwise_lt_range.imp fun h => by omega)) fun z hz => by
    obtain ⟨i, hi, rfl⟩ := List.mem_map.mp hz
    exact h i (List.mem_range.mp hi)
  rw [List.length_map, List.length_range] at z
  exact z
theorem asc_eq : ∀ (l m : List Int), l.Pairwise (· < ·) → m.Pairwise (· < ·) → (∀ x, x ∈ l ↔ x ∈ m) → l = m
  | [], [], _, _, _ => rfl
  | [], b :: m, _, _, h => by have := (h b).mpr (List.mem_cons_self ..); cases this
  | a :: l, [], _, _, h => by have := (h a).mp (List.mem_cons_self ..); cases this
  | a :: l, b :: m, hl, hm, h => by
    have hl := List.pairwise_cons.mp hl
    have hm := List.pairwise_cons.mp hm
    have e : a = b := by
      rcases List.mem_cons.mp ((h a).mp (List.mem_cons_self ..)) with q | q
      · exact q
      · rcases List.mem_cons.mp ((h b).mpr (List.mem_cons_self ..)) with r | r
        · exact r.symm
        · have := hm.1 a q
          have := hl.1 b r
          omega
    subst e
    rw [asc_eq l m hl.2 hm.2 fun x => ?_]
    refine ⟨fun q => ?_, fun q => ?_⟩
    · rcases List.mem_cons.mp ((h x).mp (List.mem_cons_of_mem _ q)) with r | r
      · have := hl.1 x q
        omega
      · exact r
    · rcases List.mem_cons.mp ((h x).mpr (List.mem_cons_of_mem _ q)) with r | r
      · have := hm.1 x q
        omega
      · exact r
/-- a sorted list of different numbers ascends -/
theorem asc_of {ys ks : List Int} (p : ys.Perm ks) (s : ys.Pairwise (· ≤ ·)) (nd : ks.Nodup) : ys.Pairwise (· < ·) := by
  have ny : ys.Nodup := p.nodup_iff.mpr nd
  exact (s.and ny).imp fun h => by have := h.1; have := h.2; omega
def SortOf (fs ds : FsL) : Prop := ∃ ys : List Int, ys.Perm (keysF fs) ∧ ys.Pairwise (· < ·) ∧ ds = ys.map fun k => (k, getF fs k)
theorem SortOf.eq {fs a b : FsL} (h : SortOf fs a) (g : SortOf fs b) : a = b := by
  obtain ⟨ys, p1, s1, rfl⟩ := h
  obtain ⟨zs, p2, s2, rfl⟩ := g
  rw [asc_eq ys zs s1 s2 fun x => by rw [p1.mem_iff, p2.mem_iff]]
/-- what holds of each process's data -/
def OkF (fs : FsL) : Prop := (keysF fs).Nodup ∧ fs.length ≤ 8
def OkP (D : List PD) : Prop := ∀ f ∈ D, OkF f.fs
/-- a row of the processes -/
structure RowP where
  hn : Int
  ho : Int
  hv : Str
  hd : Int
  hs : FsL
  deriving DecidableEq
instance : PySem.W.Datum RowP where
  toD t := .tuple [.int t.hn, .int t.ho, .str t.hv, .int t.hd, PySem.W.Datum.toD t.hs]
  plain t := by
    have := PySem.W.Datum.plain t.hs
    simp only [PyData.plain, PyData.plainAll, this, Bool.and_self]
  eqv t u := by
    obtain ⟨a, b, c, d, e⟩ := t
    obtain ⟨a', b', c', d', e'⟩ := u
    simp only [PyData.eqv, PyData.eqvAll, PySem.W.beq_decide, PySem.W.Datum.eqv, Bool.and_true, RowP.mk.injEq, Bool.decide_and]
  depth := 10
  depth_le t := by
    have := PySem.W.Datum.depth_le t.hs
    have z : PySem.W.Datum.depth FsL ≤ 9 := by decide
    simp only [PyData.depth, PyData.depthAll]
    omega
def RowsOf (D : List PD) (rows : List RowP) : Prop := rows.length = D.length ∧ ∀ (i : Nat) (f : PD), D[i]? = some f → ∃ ds, SortOf f.fs ds ∧ rows[i]? = some ⟨(i : Int), f.own, f.vol, f.dir, ds⟩
theorem RowsOf.eq {D : List PD} {a b : List RowP} (h : RowsOf D a) (g : RowsOf D b) : a = b := by
  refine List.ext_getElem? fun i => ?_
  rcases Nat.lt_or_ge i D.length with q | q
  · have e := List.getElem?_eq_getElem q
    obtain ⟨ds, s1, e1⟩ := h.2 i _ e
    obtain ⟨es, s2, e2⟩ := g.2 i _ e
    rw [e1, e2, s1.eq s2]
  · rw [List.getElem?_eq_none (by rw [h.1]; exact q), List.getElem?_eq_none (by rw [g.1]; exact q)]
theorem RowsOf.snoc {D : List PD} {rows : List RowP} {j : Nat} {f : PD} {ds : FsL} (h : RowsOf (D.take j) rows) (e : D[j]? = some f) (s : SortOf f.fs ds) : RowsOf (D.take (j + 1)) (rows ++ [⟨(j : Int), f.own, f.vol, f.dir, ds⟩]) := by
  have hj := (List.getElem?_eq_some_iff.mp e).1
  have hl : rows.length = j := by rw [h.1, List.length_take]; omega
  refine ⟨by rw [List.length_append, hl, List.length_take]; simp; omega, fun i g hg => ?_⟩
  rw [List.getElem?_take] at hg
  split at hg
  · rename_i hi
    rcases Nat.lt_or_ge i j with q | q
    · obtain ⟨es, k1, k2⟩ := h.2 i g (by rw [List.getElem?_take, if_pos q]; exact hg)
      exact ⟨es, k1, by rw [List.getElem?_append_left (by omega)]; exact k2⟩
    · have : i = j := by omega
      subst this
      rw [e] at hg
      cases hg
      exact ⟨ds, s, by rw [List.getElem?_append_right (by omega), hl, Nat.sub_self]; rfl⟩
  · cases hg
/-- a heap without an address -/
def mz (l : Addr) (H : Hp) : Hp := fun b => if b = l then none else H b
theorem mz_ne {l b : Addr} {H : Hp} (h : b ≠ l) : mz l H b = H b := if_neg h
theorem mz_upd {l : Addr} {H : Hp} {o : HO} : mz l (upd H l o) = mz l H := funext fun b => by
  unfold mz
  by_cases q : b = l
  · rw [if_pos q, if_pos q]
  · rw [if_neg q, if_neg q, upd_ne q]
theorem mz_sub {l : Addr} {H : Hp} : Same (mz l H) H := fun b o h => by
  unfold mz at h
  split at h
  · cases h
  · exact h
theorem mz_same {l : Addr} {H H' : Hp} (s : Same H H') : Same (mz l H) (mz l H') := fun b o h => by
  unfold mz at h ⊢
  split at h
  · cases h
  · rename_i q
    rw [if_neg q]
    exact s _ _ h
/-- pairs: a list's items are tuples of two ints -/
def PrsAt (H : Hp) (vs : List V) (ds : FsL) : Prop := vs.length = ds.length ∧ ∀ (i : Nat) v, vs[i]? = some v → ∃ (y : Int × Int) (t : Addr), ds[i]? = some y ∧ v = .ref t ∧ H t = some (.tup [.int y.1, .int y.2])
theorem PrsAt.nil {H : Hp} : PrsAt H [] [] := ⟨rfl, fun i v h => by simp at h⟩
theorem PrsAt.same {H H' : Hp} {vs : List V} {ds : FsL} (x : PrsAt H vs ds) (s : Same H H') : PrsAt H' vs ds := ⟨x.1, fun i v h => by
  obtain ⟨n, t, a, b, c⟩ := x.2 i v h
  exact ⟨n, t, a, b, s _ _ c⟩⟩
theorem PrsAt.upd {H : Hp} {vs us : List V} {ds : FsL} {l : Addr} {o : HO} (x : PrsAt H vs ds) (e : H l = some (.lst us)) : PrsAt (upd H l o) vs ds := ⟨x.1, fun i v h => by
  obtain ⟨n, t, a, b, c⟩ := x.2 i v h
  exact ⟨n, t, a, b, upd_oth c (ne_of c e fun z => nomatch z)⟩⟩
theorem PrsAt.snoc {H : Hp} {vs : List V} {ds : FsL} {y : Int × Int} {t : Addr} (x : PrsAt H vs ds) (e : H t = some (.tup [.int y.1, .int y.2])) : PrsAt H (vs ++ [.ref t]) (ds ++ [y]) := by
  refine ⟨by rw [List.length_append, List.length_append, x.1]; rfl, fun i w h => ?_⟩
  rcases Nat.lt_or_ge i vs.length with q | q
  · rw [List.getElem?_append_left q] at h
    obtain ⟨n', t', e', z⟩ := x.2 i w h
    exact ⟨n', t', by rw [List.getElem?_append_left (by rw [← x.1]; exact q)]; exact e', z⟩
  · rw [List.getElem?_append_right q] at h
    have hi : i - vs.length = 0 := by
      have := (List.getElem?_eq_some_iff.mp h).1
      simp at this
      omega
    rw [hi] at h
    cases h
    exact ⟨y, t, by rw [List.getElem?_append_right (by rw [← x.1]; exact q), ← x.1, hi]; rfl, rfl, e⟩
theorem PrsAt.dt {K : PySem.W.Frag} {H : Hp} {l : Addr} {us : List V} (el : H l = some (.lst us)) : ∀ {vs : List V} {ds : FsL}, PrsAt H vs ds → DtAll K (mz l H) vs ds
  | [], [], _ => DtAll.nil
  | [], _ :: _, h => by cases h.1
  | _ :: _, [], h => by cases h.1
  | v :: vs, s :: ss, h => by
    obtain ⟨y, t, e, rfl, c⟩ := h.2 0 v rfl
    cases e
    have ne : t ≠ l := ne_of c el fun z => nomatch z
    exact DtAll.cons (Dp.tup (SqT.of (by rw [mz_ne ne]; exact c)) (DpAll.cons (Dp.int _) (DpAll.cons (Dp.int _) DpAll.nil))) (PrsAt.dt el ⟨by simpa using h.1, fun i w hw => h.2 (i + 1) w hw⟩)
def sp_Processes__look (K : PySem.W.Frag) (C : Ex) : Sp := S2 fun x c H Q E => ∃ (h d : Addr) (T : PT) (n : Int), x = .ref h ∧ c = .int n ∧ PrAt C H h d T ∧ (atP T n = none → E (.ref C.NoProcess) none H) ∧ ∀ i p q f, n = (i : Nat) → T[i]? = some (p, q, f) → Q (.ref p) H
def t_Processes__look (K : PySem.W.Frag) (C : Ex) (E : XK) : TS :=
  tSeq (tIfS (tTest (tOp (uNin K) (tVar 1) (uFld C.Processes "processes" (tVar 0)))) (uRaise C.NoProcess (WB E)) (tNext))
  (tRet (tDGet (uFld C.Processes "processes" (tVar 0)) (tVar 1)))
theorem pure_Processes__look {K : PySem.W.Frag} {C : Ex} {vs : List V} {H : Hp} {Q : VK} {E : XK} (F : Fa K C) (h : sp_Processes__look K C vs H Q E) : t_Processes__look K C E { nx := fun _ H' => Q .non H', rt := Q } (start ["self", "process"] vs) H := by
  obtain ⟨x, c, rfl, h, d, T, n, rfl, rfl, ⟨⟨dx, i⟩, t⟩, k1, k2⟩ := h
  have hd := t.dict
  have hv := valV_P T n
  unfold t_Processes__look
  walk_at "run1"
  cases hf : atP T n with
  | none =>
    rw [hf] at hv
    have hv : valV (kvN 0 T) (.inl n) = none := hv
    rw [hv, show (none : Option V).isSome = false from rfl]
    walk_at "run1"
    exact k1 hf
  | some pf =>
    obtain ⟨p, q, f⟩ := pf
    rw [hf] at hv
    have hv : valV (kvN 0 T) (.inl n) = some (.ref p) := hv
    rw [hv, show (some (V.ref p)).isSome = true from rfl]
    walk_at "run1"
    refine w_dgetI hd hv ?_
    obtain ⟨j, e, ht⟩ := atP_some hf
    exact k2 j p q f e ht
def sp_Processes_look_up (K : PySem.W.Frag) (C : Ex) : Sp := S2 fun x c H Q E => ∃ (h d : Addr) (T : PT) (n : Int), x = .ref h ∧ c = .int n ∧ PrAt C H h d T ∧ (atP T n = none → E (.ref C.NoProcess) none H) ∧ ∀ i p q f, n = (i : Nat) → T[i]? = some (p, q, f) → ∀ l, H l = none → Q (.ref l) (upd H l (.tup [.int f.own, .str f.vol, .int f.dir]))
def t_Processes_look_up (K : PySem.W.Frag) (C : Ex) (E : XK) : TS :=
  tSeq (tAsg (uMeth C.Processes "_look" (sp_Processes__look K C) (WB E) (tVar 0) (tCons (tVar 1) (tNil))) (gLst K 4 (gCons (gName 2) (gCons (gName 3) (gCons (gName 4) (gCons (gName 5) (gNil)))))))
  (tRet (tTup (tCons (tVar 2) (tCons (tVar 3) (tCons (tVar 4) (tNil))))))
theorem pure_Processes_look_up {K : PySem.W.Frag} {C : Ex} {vs : List V} {H : Hp} {Q : VK} {E : XK} (F : Fa K C) (h : sp_Processes_look_up K C vs H Q E) : t_Processes_look_up K C E { nx := fun _ H' => Q .non H', rt := Q } (start ["self", "process", "owner", "volume", "directory", "_"] vs) H := by
  obtain ⟨x, c, rfl, h, d, T, n, rfl, rfl, hn, k1, k2⟩ := h
  obtain ⟨⟨dx, ih⟩, t⟩ := hn
  unfold t_Processes_look_up
  walk_at "run1"
  refine w_S2 ⟨h, d, T, n, rfl, rfl, ⟨⟨dx, ih⟩, t⟩, fun hf => k1 hf, fun i p q f e ht => ?_⟩
  have ep : H p = some (.lst [.int f.own, .str f.vol, .int f.dir, .ref q]) := t.ent _ (List.mem_of_getElem? ht)
  walk_at "run1"
  refine w_glst (SqL.of ep) rfl ?_
  walk_at "run1"
  rename_i l hl
  exact k2 i p q f e ht l hl
def sp_Processes_has_room (K : PySem.W.Frag) (C : Ex) : Sp := S2 fun x c H Q E => ∃ (h d : Addr) (T : PT) (n : Int), x = .ref h ∧ c = .int n ∧ PrAt C H h d T ∧ (atP T n = none → E (.ref C.NoProcess) none H) ∧ ∀ i p q f, n = (i : Nat) → T[i]? = some (p, q, f) → Q (.bl (decide (f.fs.length < 8))) H
def t_Processes_has_room (K : PySem.W.Frag) (C : Ex) (E : XK) : TS :=
  tRet (tOp (uLt K) (tCB (uLen K) (tCons (tOp (uIx K) (uMeth C.Processes "_look" (sp_Processes__look K C) (WB E) (tVar 0) (tCons (tVar 1) (tNil))) (tC (.int 3))) (tNil))) (tC (.int 8)))
theorem pure_Processes_has_room {K : PySem.W.Frag} {C : Ex} {vs : List V} {H : Hp} {Q : VK} {E : XK} (F : Fa K C) (h : sp_Processes_has_room K C vs H Q E) : t_Processes_has_room K C E { nx := fun _ H' => Q .non H', rt := Q } (start ["self", "process"] vs) H := by
  obtain ⟨x, c, rfl, h, d, T, n, rfl, rfl, hn, k1, k2⟩ := h
  obtain ⟨⟨dx, ih⟩, t⟩ := hn
  unfold t_Processes_has_room
  walk_at "run1"
  refine w_S2 ⟨h, d, T, n, rfl, rfl, ⟨⟨dx, ih⟩, t⟩, fun hf => k1 hf, fun i p q f e ht => ?_⟩
  have ep : H p = some (.lst [.int f.own, .str f.vol, .int f.dir, .ref q]) := t.ent _ (List.mem_of_getElem? ht)
  have eq : H q = some (.dK (fsK f.fs)) := t.fd _ (List.mem_of_getElem? ht)
  have z := k2 i p q f e ht
  walk_at "run1"
  refine w_lenD eq ?_
  rw [fsK_len]
  walk_at "run1"
  rw [show decide ((f.fs.length : Int) < 8) = decide (f.fs.length < 8) from decide_eq_decide.mpr (by omega)]
  exact z
def sp_Processes_set_owner (K : PySem.W.Frag) (C : Ex) : Sp := S3 fun x c u H Q E => ∃ (h d : Addr) (T : PT) (n z : Int), x = .ref h ∧ c = .int n ∧ u = .int z ∧ PrAt C H h d T ∧ (atP T n = none → E (.ref C.NoProcess) none H) ∧ ∀ i p q f, n = (i : Nat) → T[i]? = some (p, q, f) → ∀ H', PrAt C H' h d (T.set i (p, q, { f with own := z })) → Stp (pF d T) H (pF d (T.set i (p, q, { f with own := z }))) H' → Q .non H'
def t_Processes_set_owner (K : PySem.W.Frag) (C : Ex) (E : XK) : TS :=
  tSeq (tAsg (uMeth C.Processes "_look" (sp_Processes__look K C) (WB E) (tVar 0) (tCons (tVar 1) (tNil))) (gName 3))
  (tAsg (tVar 2) (gSub (tVar 3) (tC (.int 0)) uSet))
theorem pure_Processes_set_owner {K : PySem.W.Frag} {C : Ex} {vs : List V} {H : Hp} {Q : VK} {E : XK} (F : Fa K C) (h : sp_Processes_set_owner K C vs H Q E) : t_Processes_set_owner K C E { nx := fun _ H' => Q .non H', rt := Q } (start ["self", "process", "owner", "entry"] vs) H := by
  obtain ⟨x, c, u, rfl, h, d, T, n, z, rfl, rfl, rfl, hn, k1, k2⟩ := h
  obtain ⟨⟨dx, ih⟩, t⟩ := hn
  unfold t_Processes_set_owner
  walk_at "run1"
  refine w_S2 ⟨h, d, T, n, rfl, rfl, ⟨⟨dx, ih⟩, t⟩, fun hf => k1 hf, fun i p q f e ht => ?_⟩
  have ep : H p = some (.lst [.int f.own, .str f.vol, .int f.dir, .ref q]) := t.ent _ (List.mem_of_getElem? ht)
  have st := TpAt.set_stp (d := d) (H := H) (f' := { f with own := z }) ht (o := prO (p, q, { f with own := z }))
  have fin := k2 i p q f e ht _ (PrAt.tp ⟨⟨dx, ih⟩, t⟩ (t.set (f' := { f with own := z }) ht rfl) st) st
  unfold prO at fin
  walk_at "run1"
  refine w_setL ep ⟨by decide, by show 0 < 4; decide⟩ ?_
  exact fin
def sp_Processes_set_directory (K : PySem.W.Frag) (C : Ex) : Sp := S4 fun x c u w H Q E => ∃ (h d : Addr) (T : PT) (n : Int) (s : Str) (z : Int), x = .ref h ∧ c = .int n ∧ u = .str s ∧ w = .int z ∧ PrAt C H h d T ∧ (atP T n = none → E (.ref C.NoProcess) none H) ∧ ∀ i p q f, n = (i : Nat) → T[i]? = some (p, q, f) → ∀ H', PrAt C H' h d (T.set i (p, q, { f with vol := s, dir := z })) → Stp (pF d T) H (pF d (T.set i (p, q, { f with vol := s, dir := z }))) H' → Q .non H'
def t_Processes_set_directory (K : PySem.W.Frag) (C : Ex) (E : XK) : TS :=
  tSeq (tAsg (uMeth C.Processes "_look" (sp_Processes__look K C) (WB E) (tVar 0) (tCons (tVar 1) (tNil))) (gName 4))
  (tSeq (tAsg (tVar 2) (gSub (tVar 4) (tC (.int 1)) uSet))
  (tAsg (tVar 3) (gSub (tVar 4) (tC (.int 2)) uSet)))
theorem pure_Processes_set_directory {K : PySem.W.Frag} {C : Ex} {vs : List V} {H : Hp} {Q : VK} {E : XK} (F : Fa K C) (h : sp_Processes_set_directory K C vs H Q E) : t_Processes_set_directory K C E { nx := fun _ H' => Q .non H', rt := Q } (start ["self", "process", "volume", "directory", "entry"] vs) H := by
  obtain ⟨x, c, u, w, rfl, h, d, T, n, s, z, rfl, rfl, rfl, rfl, hn, k1, k2⟩ := h
  obtain ⟨⟨dx, ih⟩, t⟩ := hn
  unfold t_Processes_set_directory
  walk_at "run1"
  refine w_S2 ⟨h, d, T, n, rfl, rfl, ⟨⟨dx, ih⟩, t⟩, fun hf => k1 hf, fun i p q f e ht => ?_⟩
  have ep : H p = some (.lst [.int f.own, .str f.vol, .int f.dir, .ref q]) := t.ent _ (List.mem_of_getElem? ht)
  have st := TpAt.set_stp (d := d) (H := H) (f' := { f with vol := s, dir := z }) ht (o := prO (p, q, { f with vol := s, dir := z }))
  have fin := k2 i p q f e ht _ (PrAt.tp ⟨⟨dx, ih⟩, t⟩ (t.set (f' := { f with vol := s, dir := z }) ht rfl) st) st
  unfold prO at fin
  walk_at "run1"
  refine w_setL ep ⟨by decide, by show 1 < 4; decide⟩ ?_
  have e2 : upd H p (.lst ([V.int f.own, .str f.vol, .int f.dir, .ref q].set (Int.toNat 1) (.str s))) p = some (.lst [.int f.own, .str s, .int f.dir, .ref q]) := upd_same
  have ee : ∀ o, upd (upd H p (.lst ([V.int f.own, .str f.vol, .int f.dir, .ref q].set (Int.toNat 1) (.str s)))) p o = upd H p o := fun o => funext fun b => by
    by_cases q : b = p
    · subst q; rw [upd_same, upd_same]
    · rw [upd_ne q, upd_ne q, upd_ne q]
  walk_at "run1"
  refine w_setL e2 ⟨by decide, by show 2 < 4; decide⟩ ?_
  rw [ee]
  exact fin
def sp_Processes_find_open_file (K : PySem.W.Frag) (C : Ex) : Sp := S3 fun x c u H Q E => ∃ (h d : Addr) (T : PT) (n k : Int), x = .ref h ∧ c = .int n ∧ u = .int k ∧ PrAt C H h d T ∧ (atP T n = none → E (.ref C.NoProcess) none H) ∧ ∀ i p q f, n = (i : Nat) → T[i]? = some (p, q, f) → (k ∉ keysF f.fs → E (.ref C.BadHandle) none H) ∧ (k ∈ keysF f.fs → Q (.int (getF f.fs k)) H)
def t_Processes_find_open_file (K : PySem.W.Frag) (C : Ex) (E : XK) : TS :=
  tSeq (tAsg (tOp (uIx K) (uMeth C.Processes "_look" (sp_Processes__look K C) (WB E) (tVar 0) (tCons (tVar 1) (tNil))) (tC (.int 3))) (gName 3))
  (tSeq (tIfS (tTest (tOp (uNin K) (tVar 2) (tVar 3))) (uRaise C.BadHandle (WB E)) (tNext))
  (tRet (tDGet (tVar 3) (tVar 2))))
theorem pure_Processes_find_open_file {K : PySem.W.Frag} {C : Ex} {vs : List V} {H : Hp} {Q : VK} {E : XK} (F : Fa K C) (h : sp_Processes_find_open_file K C vs H Q E) : t_Processes_find_open_file K C E { nx := fun _ H' => Q .non H', rt := Q } (start ["self", "process", "descriptor", "files"] vs) H := by
  obtain ⟨x, c, u, rfl, h, d, T, n, k, rfl, rfl, rfl, hn, k1, k2⟩ := h
  obtain ⟨⟨dx, ih⟩, t⟩ := hn
  unfold t_Processes_find_open_file
  walk_at "run1"
  refine w_S2 ⟨h, d, T, n, rfl, rfl, ⟨⟨dx, ih⟩, t⟩, fun hf => k1 hf, fun i p q f e ht => ?_⟩
  have ep : H p = some (.lst [.int f.own, .str f.vol, .int f.dir, .ref q]) := t.ent _ (List.mem_of_getElem? ht)
  have eq : H q = some (.dK (fsK f.fs)) := t.fd _ (List.mem_of_getElem? ht)
  obtain ⟨k3, k4⟩ := k2 i p q f e ht
  walk_at "run1"
  rw [val_keyF]
  walk_at "run1"
  · rename_i hk
    exact k3 hk
  · walk_at "run1"
    rename_i hk
    refine w_dgetI eq (val_F (by simpa using hk)) ?_
    exact k4 (by simpa using hk)
def sp_Processes_drop_descriptor (K : PySem.W.Frag) (C : Ex) : Sp := S3 fun x c u H Q E => ∃ (h d : Addr) (T : PT) (n k : Int), x = .ref h ∧ c = .int n ∧ u = .int k ∧ PrAt C H h d T ∧ (atP T n = none → E (.ref C.NoProcess) none H) ∧ ∀ i p q f, n = (i : Nat) → T[i]? = some (p, q, f) → (k ∉ keysF f.fs → E (.ref C.BadHandle) none H) ∧ (k ∈ keysF f.fs → ∀ H', PrAt C H' h d (T.set i (p, q, { f with fs := delF f.fs k })) → Stp (pF d T) H (pF d (T.set i (p, q, { f with fs := delF f.fs k }))) H' → Q (.int (getF f.fs k)) H')
def t_Processes_drop_descriptor (K : PySem.W.Frag) (C : Ex) (E : XK) : TS :=
  tSeq (tAsg (uMeth C.Processes "find_open_file" (sp_Processes_find_open_file K C) (WB E) (tVar 0) (tCons (tVar 1) (tCons (tVar 2) (tNil)))) (gName 3))
  (tSeq (tAsg (tOp (uIx K) (uMeth C.Processes "_look" (sp_Processes__look K C) (WB E) (tVar 0) (tCons (tVar 1) (tNil))) (tC (.int 3))) (gName 4))
  (tSeq (sDDel (tVar 4) (tVar 2))
  (tRet (tVar 3))))
theorem pure_Processes_drop_descriptor {K : PySem.W.Frag} {C : Ex} {vs : List V} {H : Hp} {Q : VK} {E : XK} (F : Fa K C) (h : sp_Processes_drop_descriptor K C vs H Q E) : t_Processes_drop_descriptor K C E { nx := fun _ H' => Q .non H', rt := Q } (start ["self", "process", "descriptor", "number", "files"] vs) H := by
  obtain ⟨x, c, u, rfl, h, d, T, n, k, rfl, rfl, rfl, hn, k1, k2⟩ := h
  obtain ⟨⟨dx, ih⟩, t⟩ := hn
  unfold t_Processes_drop_descriptor
  walk_at "run1"
  refine w_S3 ⟨h, d, T, n, k, rfl, rfl, rfl, ⟨⟨dx, ih⟩, t⟩, fun hf => k1 hf, fun i p q f e ht => ⟨fun hk => (k2 i p q f e ht).1 hk, fun hk => ?_⟩⟩
  have ep : H p = some (.lst [.int f.own, .str f.vol, .int f.dir, .ref q]) := t.ent _ (List.mem_of_getElem? ht)
  have eq : H q = some (.dK (fsK f.fs)) := t.fd _ (List.mem_of_getElem? ht)
  have fin := (k2 i p q f e ht).2 hk
  walk_at "run1"
  refine w_S2 ⟨h, d, T, n, rfl, rfl, ⟨⟨dx, ih⟩, t⟩, fun hf => ?_, fun i2 p2 q2 f2 e2 ht2 => ?_⟩
  · rw [e, atP_nat, ht] at hf
    cases hf
  obtain rfl : i = i2 := by omega
  rw [ht] at ht2
  cases ht2
  walk_at "run1"
  refine w_delI eq (by rw [val_F hk]; rfl) ?_
  rw [drop_F]
  have st := TpAt.setF_stp (d := d) (H := H) (f' := { f with fs := delF f.fs k }) ht (o := .dK (fsK (delF f.fs k)))
  walk_at "run1"
  exact fin _ (PrAt.tp ⟨⟨dx, ih⟩, t⟩ (t.setF ht _) st) st
def sp_Processes_add_descriptor (K : PySem.W.Frag) (C : Ex) : Sp := S3 fun x c u H Q E => ∃ (h d : Addr) (T : PT) (n z : Int), x = .ref h ∧ c = .int n ∧ u = .int z ∧ PrAt C H h d T ∧ (atP T n = none → E (.ref C.NoProcess) none H) ∧ ∀ i p q f, n = (i : Nat) → T[i]? = some (p, q, f) → (8 ≤ f.fs.length → E (.ref C.TooMany) none H) ∧ (f.fs.length < 8 → ∀ (m : Nat) H', LeastI (keysF f.fs) m → PrAt C H' h d (T.set i (p, q, { f with fs := f.fs ++ [((m : Int), z)] })) → Stp (pF d T) H (pF d (T.set i (p, q, { f with fs := f.fs ++ [((m : Int), z)] }))) H' → Q (.int (m : Int)) H')
def t_Processes_add_descriptor (K : PySem.W.Frag) (C : Ex) (E : XK) : TS :=
  tSeq (tAsg (tOp (uIx K) (uMeth C.Processes "_look" (sp_Processes__look K C) (WB E) (tVar 0) (tCons (tVar 1) (tNil))) (tC (.int 3))) (gName 3))
  (tSeq (tIfS (tTest (tOp (uGe K) (tCB (uLen K) (tCons (tVar 3) (tNil))) (tC (.int 8)))) (uRaise C.TooMany (WB E)) (tNext))
  (tSeq (tAsg (tC (.int 0)) (gName 4))
  (tSeq (tWhile (tTest (tOp (uIn K) (tVar 4) (tVar 3)))
  (tAsg (tOp (uAdd K) (tVar 4) (tC (.int 1))) (gName 4)))
  (tSeq (sDPut (tVar 3) (tVar 4) (tVar 2))
  (tRet (tVar 4))))))
theorem pure_Processes_add_descriptor {K : PySem.W.Frag} {C : Ex} {vs : List V} {H : Hp} {Q : VK} {E : XK} (F : Fa K C) (h : sp_Processes_add_descriptor K C vs H Q E) : t_Processes_add_descriptor K C E { nx := fun _ H' => Q .non H', rt := Q } (start ["self", "process", "number", "files", "descriptor"] vs) H := by
  obtain ⟨x, c, u, rfl, h, d, T, n, z, rfl, rfl, rfl, hn, k1, k2⟩ := h
  obtain ⟨⟨dx, ih⟩, t⟩ := hn
  unfold t_Processes_add_descriptor
  walk_at "run1"
  refine w_S2 ⟨h, d, T, n, rfl, rfl, ⟨⟨dx, ih⟩, t⟩, fun hf => k1 hf, fun i p q f e ht => ?_⟩
  have ep : H p = some (.lst [.int f.own, .str f.vol, .int f.dir, .ref q]) := t.ent _ (List.mem_of_getElem? ht)
  have eq : H q = some (.dK (fsK f.fs)) := t.fd _ (List.mem_of_getElem? ht)
  obtain ⟨k3, k4⟩ := k2 i p q f e ht
  walk_at "run1"
  refine w_lenD eq ?_
  rw [fsK_len]
  walk_at "run1"
  · rename_i hg
    exact k3 (by omega)
  rename_i hg
  have hg : f.fs.length < 8 := by omega
  walk_at "run1"
  refine f_while (fun σ H' => H' = H ∧ ∃ j : Nat, σ = [some (.ref h), some (.int n), some (.int z), some (.ref q), some (.int (j : Int))] ∧ ∀ z : Nat, z < j → (z : Int) ∈ keysF f.fs) (fun σ _ => match σ with
    | [_, _, _, _, some (.int j)] => (200 - j).toNat
    | _ => 0) ⟨rfl, 0, rfl, fun z hz => absurd hz (Nat.not_lt_zero _)⟩ ?_
  rintro σ H' ⟨e', j, rfl, hj⟩
  rw [e']
  clear e' H'
  have lj := low_lenP hj
  rw [keysF_len] at lj
  walk_at "run1"
  rw [val_keyF]
  walk_at "run1"
  · rename_i hm
    refine ⟨⟨rfl, j + 1, rfl, fun z hz => ?_⟩, ?_⟩
    · rcases Nat.lt_succ_iff_lt_or_eq.mp hz with q | q
      · exact hj z q
      · rw [q]; exact hm
    · show (200 - ((j : Int) + 1)).toNat < (200 - (j : Int)).toNat
      omega
  · rename_i hm
    walk_at "run1"
    refine w_dputI eq (by rw [fsK_len]; omega) ?_
    rw [put_F hm]
    have st := TpAt.setF_stp (d := d) (H := H) (f' := { f with fs := f.fs ++ [((j : Int), z)] }) ht (o := .dK (fsK (f.fs ++ [((j : Int), z)])))
    walk_at "run1"
    exact k4 hg j _ ⟨hm, hj⟩ (PrAt.tp ⟨⟨dx, ih⟩, t⟩ (t.setF ht _) st) st
def sp_Processes_copy_process (K : PySem.W.Frag) (C : Ex) : Sp := S2 fun x c H Q E => ∃ (h d : Addr) (T : PT) (n : Int), x = .ref h ∧ c = .int n ∧ PrAt C H h d T ∧ (atP T n = none → E (.ref C.NoProcess) none H) ∧ ∀ i p q f, n = (i : Nat) → T[i]? = some (p, q, f) → (4 ≤ T.length → E (.ref C.TooMany) none H) ∧ (T.length < 4 → ∀ p' q' H', PrAt C H' h d (T ++ [(p', q', f)]) → Stp (pF d T) H (pF d (T ++ [(p', q', f)])) H' → Q (.int (T.length : Int)) H')
def t_Processes_copy_process (K : PySem.W.Frag) (C : Ex) (E : XK) : TS :=
  tSeq (tAsg (uMeth C.Processes "_look" (sp_Processes__look K C) (WB E) (tVar 0) (tCons (tVar 1) (tNil))) (gLst K 4 (gCons (gName 2) (gCons (gName 3) (gCons (gName 4) (gCons (gName 5) (gNil)))))))
  (tSeq (tIfS (tTest (tOp (uGe K) (tCB (uLen K) (tCons (uFld C.Processes "processes" (tVar 0)) (tNil))) (tC (.int 4)))) (uRaise C.TooMany (WB E)) (tNext))
  (tSeq (tAsg (tC (.int 0)) (gName 6))
  (tSeq (tWhile (tTest (tOp (uIn K) (tVar 6) (uFld C.Processes "processes" (tVar 0))))
  (tAsg (tOp (uAdd K) (tVar 6) (tC (.int 1))) (gName 6)))
  (tSeq (sDPut (uFld C.Processes "processes" (tVar 0)) (tVar 6) (tLst (tCons (tVar 2) (tCons (tVar 3) (tCons (tVar 4) (tCons (tCB (uDict) (tCons (tVar 5) (tNil))) (tNil)))))))
  (tRet (tVar 6))))))
theorem pure_Processes_copy_process {K : PySem.W.Frag} {C : Ex} {vs : List V} {H : Hp} {Q : VK} {E : XK} (F : Fa K C) (h : sp_Processes_copy_process K C vs H Q E) : t_Processes_copy_process K C E { nx := fun _ H' => Q .non H', rt := Q } (start ["self", "process", "owner", "volume", "directory", "files", "number"] vs) H := by
  obtain ⟨x, c, rfl, h, d, T, n, rfl, rfl, hn, k1, k2⟩ := h
  obtain ⟨⟨dx, ih⟩, t⟩ := hn
  have hd := t.dict
  unfold t_Processes_copy_process
  walk_at "run1"
  refine w_S2 ⟨h, d, T, n, rfl, rfl, ⟨⟨dx, ih⟩, t⟩, fun hf => k1 hf, fun i p q f e ht => ?_⟩
  have ep : H p = some (.lst [.int f.own, .str f.vol, .int f.dir, .ref q]) := t.ent _ (List.mem_of_getElem? ht)
  have eq : H q = some (.dK (fsK f.fs)) := t.fd _ (List.mem_of_getElem? ht)
  obtain ⟨k3, k4⟩ := k2 i p q f e ht
  walk_at "run1"
  refine w_glst (SqL.of ep) rfl ?_
  walk_at "run1"
  refine w_lenD hd ?_
  rw [kvN_len]
  walk_at "run1"
  · rename_i hg
    exact k3 (by omega)
  rename_i hg
  have hg : T.length < 4 := by omega
  walk_at "run1"
  refine f_while (fun σ H' => H' = H ∧ ∃ j : Nat, σ = [some (.ref h), some (.int n), some (.int f.own), some (.str f.vol), some (.int f.dir), some (.ref q), some (.int (j : Int))] ∧ j ≤ T.length) (fun σ _ => match σ with
    | [_, _, _, _, _, _, some (.int j)] => (200 - j).toNat
    | _ => 0) ⟨rfl, 0, rfl, Nat.zero_le _⟩ ?_
  rintro σ H' ⟨e', j, rfl, hj⟩
  rw [e']
  clear e' H'
  walk_at "run1"
  have hv := valV_P T (j : Int)
  rw [atP_nat] at hv
  rcases Nat.lt_or_ge j T.length with hlt | hge
  · rw [List.getElem?_eq_getElem hlt] at hv
    rw [hv, show (Option.map (fun x : Addr × Addr × PD => V.ref x.1) (some T[j])).isSome = true from rfl]
    walk_at "run1"
    refine ⟨⟨rfl, j + 1, rfl, hlt⟩, ?_⟩
    show (200 - ((j : Int) + 1)).toNat < (200 - (j : Int)).toNat
    omega
  · obtain rfl : j = T.length := by omega
    rw [List.getElem?_eq_none (Nat.le_refl _)] at hv
    rw [hv, show (Option.map (fun x : Addr × Addr × PD => V.ref x.1) none).isSome = false from rfl]
    walk_at "run1"
    refine w_tdict eq fun q' hq' => ?_
    have s1 := same_new (o := .dK (fsK f.fs)) hq'
    have e1 : upd H q' (.dK (fsK f.fs)) q' = some (.dK (fsK f.fs)) := upd_same
    generalize upd H q' _ = H1 at *
    walk_at "run1"
    rename_i p' hp'
    have s2 := same_updN (o := .lst [.int f.own, .str f.vol, .int f.dir, .ref q']) s1 hp'
    have e2 : upd H1 p' (.lst [.int f.own, .str f.vol, .int f.dir, .ref q']) p' = some (prO (p', q', f)) := upd_same
    have e3 := upd_old (o := .lst [.int f.own, .str f.vol, .int f.dir, .ref q']) e1 hp'
    generalize upd H1 p' _ = H2 at *
    have hd2 := s2 _ _ hd
    have hp0 : H p' = none := by
      cases z : H p' with
      | none => rfl
      | some o => rw [s1 _ _ z] at hp'; cases hp'
    refine w_dputI hd2 (by rw [kvN_len]; omega) ?_
    rw [put_N (q := q') (f := f)]
    have st := TpAt.add_stp (d := d) (T := T) (f := f) s2 hp0 hq' (o := .dK (kvN 0 (T ++ [(p', q', f)])))
    walk_at "run1"
    exact k4 hg p' q' _ (PrAt.tp ⟨⟨dx, ih⟩, t⟩ (t.add s2 hp0 hq' e2 e3) st) st
def sp_Processes_descriptors (K : PySem.W.Frag) (C : Ex) : Sp := S2 fun x c H Q _ => ∃ (h d : Addr) (T : PT) (i : Nat) (p q : Addr) (f : PD), x = .ref h ∧ c = .int (i : Int) ∧ PrAt C H h d T ∧ T[i]? = some (p, q, f) ∧ f.fs.length < 64 ∧ ∀ (ys : List Int) (l : Addr), ys.Perm (keysF f.fs) → ys.Pairwise (· ≤ ·) → H l = none → Q (.ref l) (upd H l (.lst (ys.map V.int)))
def t_Processes_descriptors (K : PySem.W.Frag) (C : Ex) (E : XK) : TS :=
  tRet (tCB uSortD (tCons (tOp (uIx K) (uMeth C.Processes "_look" (sp_Processes__look K C) (WB E) (tVar 0) (tCons (tVar 1) (tNil))) (tC (.int 3))) (tNil)))
theorem pure_Processes_descriptors {K : PySem.W.Frag} {C : Ex} {vs : List V} {H : Hp} {Q : VK} {E : XK} (F : Fa K C) (h : sp_Processes_descriptors K C vs H Q E) : t_Processes_descriptors K C E { nx := fun _ H' => Q .non H', rt := Q } (start ["self", "process"] vs) H := by
  obtain ⟨x, c, rfl, h, d, T, i, p, q, f, rfl, rfl, hn, ht, hl, k⟩ := h
  obtain ⟨⟨dx, ih⟩, t⟩ := hn
  have ep : H p = some (.lst [.int f.own, .str f.vol, .int f.dir, .ref q]) := t.ent _ (List.mem_of_getElem? ht)
  have eq : H q = some (.dK (fsK f.fs)) := t.fd _ (List.mem_of_getElem? ht)
  unfold t_Processes_descriptors
  walk_at "run1"
  refine w_S2 ⟨h, d, T, _, rfl, rfl, ⟨⟨dx, ih⟩, t⟩, fun hf => ?_, fun i2 p2 q2 f2 e2 ht2 => ?_⟩
  · rw [atP_nat, ht] at hf
    cases hf
  obtain rfl : i = i2 := by omega
  rw [ht] at ht2
  cases ht2
  walk_at "run1"
  exact ⟨q, _, keysF f.fs, rfl, .inl eq, fsK_keys _, by rw [keysF_len]; exact hl, k⟩
theorem any_take {α : Type} {D : List α} {g : α → Bool} {i : Nat} {x : α} (h : D[i]? = some x) (a : ∀ y ∈ D.take i, g y = false) (b : g x = false) : ∀ y ∈ D.take (i + 1), g y = false := fun y hy => by
  rw [take_snoc h] at hy
  rcases List.mem_append.mp hy with q | q
  · exact a y q
  · rw [List.mem_singleton.mp q]; exact b
def sp_Processes_uses_volume (K : PySem.W.Frag) (C : Ex) : Sp := S2 fun x a H Q _ => ∃ (h d : Addr) (T : PT) (v : Str), x = .ref h ∧ a = .str v ∧ PrAt C H h d T ∧ Q (.bl ((datP T).any fun f => decide (f.vol = v))) H
def t_Processes_uses_volume (K : PySem.W.Frag) (C : Ex) (E : XK) : TS :=
  tSeq (tLock (tFor (iKeys (uFld C.Processes "processes" (tVar 0))) (gName 2)
  (tIfS (tTest (tOp (uEq K) (tOp (uIx K) (tDGet (uFld C.Processes "processes" (tVar 0)) (tVar 2)) (tC (.int 1))) (tVar 1))) (tRet (tC (.bl true))) (tNext))))
  (tRet (tC (.bl false)))
theorem pure_Processes_uses_volume {K : PySem.W.Frag} {C : Ex} {vs : List V} {H : Hp} {Q : VK} {E : XK} (F : Fa K C) (h : sp_Processes_uses_volume K C vs H Q E) : t_Processes_uses_volume K C E { nx := fun _ H' => Q .non H', rt := Q } (start ["self", "volume", "process"] vs) H := by
  obtain ⟨x, a, rfl, h, d, T, v, rfl, rfl, hn, k⟩ := h
  obtain ⟨⟨dx, ih⟩, t⟩ := hn
  have hd := t.dict
  have nhd : h ≠ d := ne_of ih hd fun z => nomatch z
  unfold t_Processes_uses_volume
  walk_at "run1"
  refine ⟨d, _, hd, trivial, fun od => ?_⟩
  have ih1 := upd_oth (o := .frz od (.dK (kvN 0 T))) ih nhd
  have e1 : upd H d (.frz od (.dK (kvN 0 T))) d = some (.frz od (.dK (kvN 0 T))) := upd_same
  have bk : ∀ o : HO, upd (upd H d o) d (.dK (kvN 0 T)) = H := fun o => upd_back hd
  walk_at "run1"
  refine w_iKeysv e1 ?_
  refine f_keys (kvs := kvN 0 T) (fun j σ H' => H' = upd H d (.frz od (.dK (kvN 0 T))) ∧ (∃ v3, σ = [some (.ref h), some (.str v), v3]) ∧ ∀ y ∈ (datP T).take j, (decide (y.vol = v)) = false) ⟨rfl, ⟨none, rfl⟩, fun y hy => by simp at hy⟩ (by rintro j σ H' _ ⟨rfl, _⟩; exact e1) ?_ ?_
  · rintro j kk vv σ H' hk ⟨e, ⟨v3, rfl⟩, hj⟩
    rw [e]
    clear e H'
    obtain ⟨⟨p, q, f⟩, hy, rfl, rfl⟩ := at_P hk
    have hym := List.mem_of_getElem? hy
    have ey : upd H d (.frz od (.dK (kvN 0 T))) p = some (.lst [.int f.own, .str f.vol, .int f.dir, .ref q]) := upd_oth (t.ent _ hym) (ne_of (t.ent _ hym) hd fun z => nomatch z)
    have vy := val_i hy
    have dy := dat_i hy
    rw [show kV (.inl (j : Int)) = V.int (j : Int) from rfl]
    walk_at "run1"
    refine w_dgetF e1 vy ?_
    walk_at "run1"
    · rename_i h1
      refine ⟨e1, ?_⟩
      rw [bk]
      have z : ((datP T).any fun f => decide (f.vol = v)) = true := List.any_eq_true.mpr ⟨_, List.mem_of_getElem? dy, decide_eq_true h1⟩
      rw [z] at k
      exact k
    · walk_at "run1"
      rename_i h1
      exact ⟨rfl, ⟨_, rfl⟩, any_take dy hj (decide_eq_false h1)⟩
  · rintro σ H' ⟨e, ⟨v3, rfl⟩, hj⟩
    rw [e]
    clear e H'
    refine ⟨e1, ?_⟩
    rw [bk]
    walk_at "run1"
    have z : ((datP T).any fun f => decide (f.vol = v)) = false := by
      refine List.any_eq_false.mpr fun y hy => ?_
      rw [kvN_len, ← datP_len, List.take_length] at hj
      rw [hj y hy]
      exact Bool.false_ne_true
    rw [z] at k
    exact k
def sp_Processes_uses_owner (K : PySem.W.Frag) (C : Ex) : Sp := S2 fun x a H Q _ => ∃ (h d : Addr) (T : PT) (o : Int), x = .ref h ∧ a = .int o ∧ PrAt C H h d T ∧ Q (.bl ((datP T).any fun f => decide (f.own = o))) H
def t_Processes_uses_owner (K : PySem.W.Frag) (C : Ex) (E : XK) : TS :=
  tSeq (tLock (tFor (iKeys (uFld C.Processes "processes" (tVar 0))) (gName 2)
  (tIfS (tTest (tOp (uEq K) (tOp (uIx K) (tDGet (uFld C.Processes "processes" (tVar 0)) (tVar 2)) (tC (.int 0))) (tVar 1))) (tRet (tC (.bl true))) (tNext))))
  (tRet (tC (.bl false)))
theorem pure_Processes_uses_owner {K : PySem.W.Frag} {C : Ex} {vs : List V} {H : Hp} {Q : VK} {E : XK} (F : Fa K C) (h : sp_Processes_uses_owner K C vs H Q E) : t_Processes_uses_owner K C E { nx := fun _ H' => Q .non H', rt := Q } (start ["self", "owner", "process"] vs) H := by
  obtain ⟨x, a, rfl, h, d, T, o, rfl, rfl, hn, k⟩ := h
  obtain ⟨⟨dx, ih⟩, t⟩ := hn
  have hd := t.dict
  have nhd : h ≠ d := ne_of ih hd fun z => nomatch z
  unfold t_Processes_uses_owner
  walk_at "run1"
  refine ⟨d, _, hd, trivial, fun od => ?_⟩
  have ih1 := upd_oth (o := .frz od (.dK (kvN 0 T))) ih nhd
  have e1 : upd H d (.frz od (.dK (kvN 0 T))) d = some (.frz od (.dK (kvN 0 T))) := upd_same
  have bk : ∀ o : HO, upd (upd H d o) d (.dK (kvN 0 T)) = H := fun o => upd_back hd
  walk_at "run1"
  refine w_iKeysv e1 ?_
  refine f_keys (kvs := kvN 0 T) (fun j σ H' => H' = upd H d (.frz od (.dK (kvN 0 T))) ∧ (∃ v3, σ = [some (.ref h), some (.int o), v3]) ∧ ∀ y ∈ (datP T).take j, (decide (y.own = o)) = false) ⟨rfl, ⟨none, rfl⟩, fun y hy => by simp at hy⟩ (by rintro j σ H' _ ⟨rfl, _⟩; exact e1) ?_ ?_
  · rintro j kk vv σ H' hk ⟨e, ⟨v3, rfl⟩, hj⟩
    rw [e]
    clear e H'
    obtain ⟨⟨p, q, f⟩, hy, rfl, rfl⟩ := at_P hk
    have hym := List.mem_of_getElem? hy
    have ey : upd H d (.frz od (.dK (kvN 0 T))) p = some (.lst [.int f.own, .str f.vol, .int f.dir, .ref q]) := upd_oth (t.ent _ hym) (ne_of (t.ent _ hym) hd fun z => nomatch z)
    have vy := val_i hy
    have dy := dat_i hy
    rw [show kV (.inl (j : Int)) = V.int (j : Int) from rfl]
    walk_at "run1"
    refine w_dgetF e1 vy ?_
    walk_at "run1"
    · rename_i h1
      refine ⟨e1, ?_⟩
      rw [bk]
      have z : ((datP T).any fun f => decide (f.own = o)) = true := List.any_eq_true.mpr ⟨_, List.mem_of_getElem? dy, decide_eq_true h1⟩
      rw [z] at k
      exact k
    · walk_at "run1"
      rename_i h1
      exact ⟨rfl, ⟨_, rfl⟩, any_take dy hj (decide_eq_false h1)⟩
  · rintro σ H' ⟨e, ⟨v3, rfl⟩, hj⟩
    rw [e]
    clear e H'
    refine ⟨e1, ?_⟩
    rw [bk]
    walk_at "run1"
    have z : ((datP T).any fun f => decide (f.own = o)) = false := by
      refine List.any_eq_false.mpr fun y hy => ?_
      rw [kvN_len, ← datP_len, List.take_length] at hj
      rw [hj y hy]
      exact Bool.false_ne_true
    rw [z] at k
    exact k
def sp_Processes_works_in (K : PySem.W.Frag) (C : Ex) : Sp := S3 fun x a b H Q _ => ∃ (h d : Addr) (T : PT) (v : Str) (i : Int), x = .ref h ∧ a = .str v ∧ b = .int i ∧ PrAt C H h d T ∧ Q (.bl ((datP T).any fun f => (decide (f.vol = v) && decide (f.dir = i)))) H
def t_Processes_works_in (K : PySem.W.Frag) (C : Ex) (E : XK) : TS :=
  tSeq (tLock (tFor (iKeys (uFld C.Processes "processes" (tVar 0))) (gName 3)
  (tIfS (tAnd (tTest (tOp (uEq K) (tOp (uIx K) (tDGet (uFld C.Processes "processes" (tVar 0)) (tVar 3)) (tC (.int 1))) (tVar 1))) (tTest (tOp (uEq K) (tOp (uIx K) (tDGet (uFld C.Processes "processes" (tVar 0)) (tVar 3)) (tC (.int 2))) (tVar 2)))) (tRet (tC (.bl true))) (tNext))))
  (tRet (tC (.bl false)))
theorem pure_Processes_works_in {K : PySem.W.Frag} {C : Ex} {vs : List V} {H : Hp} {Q : VK} {E : XK} (F : Fa K C) (h : sp_Processes_works_in K C vs H Q E) : t_Processes_works_in K C E { nx := fun _ H' => Q .non H', rt := Q } (start ["self", "volume", "directory", "process"] vs) H := by
  obtain ⟨x, a, b, rfl, h, d, T, v, i, rfl, rfl, rfl, hn, k⟩ := h
  obtain ⟨⟨dx, ih⟩, t⟩ := hn
  have hd := t.dict
  have nhd : h ≠ d := ne_of ih hd fun z => nomatch z
  unfold t_Processes_works_in
  walk_at "run1"
  refine ⟨d, _, hd, trivial, fun od => ?_⟩
  have ih1 := upd_oth (o := .frz od (.dK (kvN 0 T))) ih nhd
  have e1 : upd H d (.frz od (.dK (kvN 0 T))) d = some (.frz od (.dK (kvN 0 T))) := upd_same
  have bk : ∀ o : HO, upd (upd H d o) d (.dK (kvN 0 T)) = H := fun o => upd_back hd
  walk_at "run1"
  refine w_iKeysv e1 ?_
  refine f_keys (kvs := kvN 0 T) (fun j σ H' => H' = upd H d (.frz od (.dK (kvN 0 T))) ∧ (∃ v3, σ = [some (.ref h), some (.str v), some (.int i), v3]) ∧ ∀ y ∈ (datP T).take j, ((decide (y.vol = v) && decide (y.dir = i))) = false) ⟨rfl, ⟨none, rfl⟩, fun y hy => by simp at hy⟩ (by rintro j σ H' _ ⟨rfl, _⟩; exact e1) ?_ ?_
  · rintro j kk vv σ H' hk ⟨e, ⟨v3, rfl⟩, hj⟩
    rw [e]
    clear e H'
    obtain ⟨⟨p, q, f⟩, hy, rfl, rfl⟩ := at_P hk
    have hym := List.mem_of_getElem? hy
    have ey : upd H d (.frz od (.dK (kvN 0 T))) p = some (.lst [.int f.own, .str f.vol, .int f.dir, .ref q]) := upd_oth (t.ent _ hym) (ne_of (t.ent _ hym) hd fun z => nomatch z)
    have vy := val_i hy
    have dy := dat_i hy
    rw [show kV (.inl (j : Int)) = V.int (j : Int) from rfl]
    walk_at "run1"
    refine w_dgetF e1 vy ?_
    walk_at "run1"
    · rename_i h1
      refine w_dgetF e1 vy ?_
      walk_at "run1"
      · rename_i h2
        refine ⟨e1, ?_⟩
        rw [bk]
        have z : ((datP T).any fun f => (decide (f.vol = v) && decide (f.dir = i))) = true := List.any_eq_true.mpr ⟨_, List.mem_of_getElem? dy, by rw [decide_eq_true h1, decide_eq_true h2]; rfl⟩
        rw [z] at k
        exact k
      · walk_at "run1"
        rename_i h2
        exact ⟨rfl, ⟨_, rfl⟩, any_take dy hj (by rw [decide_eq_false h2, Bool.and_false])⟩
    · walk_at "run1"
      rename_i h1
      exact ⟨rfl, ⟨_, rfl⟩, any_take dy hj (by rw [decide_eq_false h1, Bool.false_and])⟩
  · rintro σ H' ⟨e, ⟨v3, rfl⟩, hj⟩
    rw [e]
    clear e H'
    refine ⟨e1, ?_⟩
    rw [bk]
    walk_at "run1"
    have z : ((datP T).any fun f => (decide (f.vol = v) && decide (f.dir = i))) = false := by
      refine List.any_eq_false.mpr fun y hy => ?_
      rw [kvN_len, ← datP_len, List.take_length] at hj
      rw [hj y hy]
      exact Bool.false_ne_true
    rw [z] at k
    exact k
/-- the numbers below n -/
def numsI (n : Nat) : List Int := (List.range n).map fun i : Nat => (i : Int)
theorem numsI_len (n : Nat) : (numsI n).length = n := by unfold numsI; rw [List.length_map, List.length_range]
theorem numsI_at {n j : Nat} {x : V} (h : ((numsI n).map V.int)[j]? = some x) : j < n ∧ x = .int (j : Int) := by
  have hj := (List.getElem?_eq_some_iff.mp h).1
  rw [List.length_map, numsI_len] at hj
  refine ⟨hj, ?_⟩
  unfold numsI at h
  rw [List.getElem?_map, List.getElem?_map, List.getElem?_range hj] at h
  exact (Option.some.inj h).symm
theorem numsI_asc (n : Nat) : (numsI n).Pairwise (· < ·) := List.pairwise_map.mpr (List.pairwise_lt_range.imp fun h => by omega)
theorem keys_N : ∀ (k : Nat) (T : PT), (kvN k T).map (·.1) = (List.range' k T.length).map fun i : Nat => (.inl (i : Int) : Key)
  | _, [] => rfl
  | k, x :: T => by
    show (.inl (k : Int) : Key) :: (kvN (k + 1) T).map (·.1) = _
    rw [keys_N (k + 1) T]
    rfl
theorem keys_P (T : PT) : (kvN 0 T).map (·.1) = (numsI T.length).map Sum.inl := by
  rw [keys_N]
  unfold numsI
  rw [List.range_eq_range', List.map_map]
  rfl
theorem nums_eq {ys : List Int} {n : Nat} (p : ys.Perm (numsI n)) (s : ys.Pairwise (· ≤ ·)) : ys = numsI n := by
  have nd : (numsI n).Nodup := (numsI_asc n).imp fun h => by omega
  exact asc_eq _ _ (asc_of p s nd) (numsI_asc n) fun x => p.mem_iff
def sp_Processes_list_processes (K : PySem.W.Frag) (C : Ex) : Sp := S1 fun x H Q _ => ∃ (h d : Addr) (T : PT), x = .ref h ∧ PrAt C H h d T ∧ T.length < 64 ∧ OkP (datP T) ∧ ∀ H' l vs rows, Same H H' → H' l = some (.lst vs) → RowsOf (datP T) rows → DtAll K H' vs rows → Q (.ref l) H'
def t_Processes_list_processes (K : PySem.W.Frag) (C : Ex) (E : XK) : TS :=
  tSeq (tAsg (tLst (tNil)) (gName 1))
  (tSeq (tFor (iList K (tCB uSortD (tCons (uFld C.Processes "processes" (tVar 0)) (tNil)))) (gName 2)
  (tSeq (tAsg (tDGet (uFld C.Processes "processes" (tVar 0)) (tVar 2)) (gLst K 4 (gCons (gName 3) (gCons (gName 4) (gCons (gName 5) (gCons (gName 6) (gNil)))))))
  (tSeq (tAsg (tLc (iList K (tCB uSortD (tCons (tVar 6) (tNil)))) (gName 8) (tYes) (tTup (tCons (tVar 8) (tCons (tDGet (tVar 6) (tVar 8)) (tNil)))) [8]) (gName 7))
  (tDrop (tBM K "list" (rAppend) (tVar 1) (tCons (tTup (tCons (tVar 2) (tCons (tVar 3) (tCons (tVar 4) (tCons (tVar 5) (tCons (tVar 7) (tNil))))))) (tNil)))))))
  (tRet (tVar 1)))
theorem pure_Processes_list_processes {K : PySem.W.Frag} {C : Ex} {vs : List V} {H : Hp} {Q : VK} {E : XK} (F : Fa K C) (h : sp_Processes_list_processes K C vs H Q E) : t_Processes_list_processes K C E { nx := fun _ H' => Q .non H', rt := Q } (start ["self", "processes", "process", "owner", "volume", "directory", "files", "descriptors", "descriptor"] vs) H := by
  obtain ⟨x, rfl, h, d, T, rfl, ⟨⟨dx, i⟩, t⟩, hl, ok, k⟩ := h
  have hd := t.dict
  unfold t_Processes_list_processes
  walk_at "run1"
  rename_i l hl0
  have s1 := same_new (o := .lst []) hl0
  have e1 : upd H l (.lst []) l = some (.lst []) := upd_same
  generalize upd H l _ = H1 at *
  have i1 := s1 _ _ i
  have hd1 := s1 _ _ hd
  walk_at "run1"
  refine ⟨d, kvN 0 T, numsI T.length, rfl, .inl hd1, keys_P T, by rw [numsI_len]; exact hl, fun ys p py sy hp => ?_⟩
  obtain rfl := nums_eq py sy
  have s2 := same_new (o := .lst ((numsI T.length).map V.int)) hp
  have e2 : upd H1 p (.lst ((numsI T.length).map V.int)) p = some (.lst ((numsI T.length).map V.int)) := upd_same
  generalize upd H1 p _ = H2 at *
  have s12 := s1.trans s2
  have npl : p ≠ l := fun e => by rw [e, e1] at hp; cases hp
  walk_at "run1"
  refine f_list (xs := (numsI T.length).map V.int) (fun j σ H' => Same H H' ∧ ∃ v2 v3 v4 v5 v6 v7 v8 vs rows, σ = [some (.ref h), some (.ref l), v2, v3, v4, v5, v6, v7, v8] ∧ H' l = some (.lst vs) ∧ H' p = some (.lst ((numsI T.length).map V.int)) ∧ RowsOf ((datP T).take j) rows ∧ DtAll K (mz l H') vs rows)
    ⟨s12, none, none, none, none, none, none, none, [], [], rfl, s2 _ _ e1, e2, ⟨rfl, fun i v h => by simp at h⟩, DtAll.nil⟩ (by rintro j σ H' _ ⟨_, _, _, _, _, _, _, _, _, _, _, _, e, _⟩; exact SqL.of e) ?_ ?_
  · rintro j x σ H' hx ⟨s', v2, v3, v4, v5, v6, v7, v8, vs, rows, rfl, el, ep, ro, da⟩
    obtain ⟨hj, rfl⟩ := numsI_at hx
    obtain ⟨⟨a, q, f⟩, ht⟩ : ∃ y, T[j]? = some y := ⟨_, List.getElem?_eq_getElem hj⟩
    have i' := s' _ _ i
    have hd' := s' _ _ hd
    have ea : H' a = some (.lst [.int f.own, .str f.vol, .int f.dir, .ref q]) := s' _ _ (t.ent _ (List.mem_of_getElem? ht))
    have eq : H' q = some (.dK (fsK f.fs)) := s' _ _ (t.fd _ (List.mem_of_getElem? ht))
    have lv := da.length
    have lr := ro.1
    rw [List.length_take] at lr
    have okf : OkF f.fs := ok _ (List.mem_of_getElem? (dat_i ht))
    walk_at "run1"
    refine w_dgetI hd' (val_i ht) ?_
    walk_at "run1"
    refine w_glst (SqL.of ea) rfl ?_
    walk_at "run1"
    refine ⟨q, fsK f.fs, keysF f.fs, rfl, .inl eq, fsK_keys _, by rw [keysF_len]; have := okf.2; omega, fun zs p2 pz sz hp2 => ?_⟩
    have s3 := same_new (o := .lst (zs.map V.int)) hp2
    have e3 : upd H' p2 (.lst (zs.map V.int)) p2 = some (.lst (zs.map V.int)) := upd_same
    generalize upd H' p2 _ = H3 at *
    have eq3 := s3 _ _ eq
    have lz : zs.length ≤ 8 := by rw [pz.length_eq, keysF_len]; exact okf.2
    walk_at "run1"
    refine l_list (xs := zs.map V.int) (fun D i H' => Same H3 H' ∧ ∃ ws, H' D = some (.lst ws) ∧ PrsAt H' ws ((zs.take i).map fun k => (k, getF f.fs k))) (fun D hD => ⟨same_new hD, [], upd_same, PrsAt.nil⟩) (fun D i H' _ hP => SqL.of (hP.1 _ _ e3)) ?_ ?_
    · rintro D i x H' hD hx ⟨s4, ws, eD, pr⟩
      obtain ⟨n, hn, rfl⟩ := at_int hx
      have hmem : n ∈ keysF f.fs := pz.mem_iff.mp (List.mem_of_getElem? hn)
      have eq4 := s4 _ _ eq3
      have lw := pr.1
      rw [List.length_map, List.length_take] at lw
      walk_at "run1"
      refine ⟨rfl, ?_⟩
      walk_at "run1"
      refine w_dgetI eq4 (val_F hmem) ?_
      walk_at "run1"
      rename_i tt htt
      have sx := same_new (o := .tup [.int n, .int (getF f.fs n)]) htt
      have ett : upd H' tt (.tup [.int n, .int (getF f.fs n)]) tt = some (.tup [.int n, .int (getF f.fs n)]) := upd_same
      generalize upd H' tt _ = H5 at *
      have eD5 := sx _ _ eD
      refine ⟨ws, eD5, lt_line (by omega), same_upd (s4.trans sx) hD, _, upd_same, ?_⟩
      rw [take_snoc hn, List.map_append]
      exact ((pr.same sx).snoc (y := (n, getF f.fs n)) ett).upd eD5
    · rintro D H4 hD ⟨s4, ws, eD, pr⟩
      rw [List.length_map, List.take_length] at pr
      have so : SortOf f.fs (zs.map fun k => (k, getF f.fs k)) := ⟨zs, pz, asc_of pz sz okf.1, rfl⟩
      have s04 := s3.trans s4
      have el4 := s04 _ _ el
      have nDl : D ≠ l := fun e => by
        rw [e, s3 _ _ el] at hD
        cases hD
      have dl : Dt K (mz l H4) (.ref D) (zs.map fun k => (k, getF f.fs k)) := Dt.list (SqL.of (by rw [mz_ne nDl]; exact eD)) (pr.dt el4)
      walk_at "run1"
      rename_i tt htt
      have sx := same_new (o := .tup [.int (j : Int), .int f.own, .str f.vol, .int f.dir, .ref D]) htt
      have ett : upd H4 tt (.tup [.int (j : Int), .int f.own, .str f.vol, .int f.dir, .ref D]) tt = some (.tup [.int (j : Int), .int f.own, .str f.vol, .int f.dir, .ref D]) := upd_same
      generalize upd H4 tt _ = H5 at *
      have el5 := sx _ _ el4
      have ntl : tt ≠ l := ne_of ett el5 fun z => nomatch z
      refine w_app el5 (lt_line (by omega)) ?_
      refine ⟨same_upd (s'.trans (s04.trans sx)) hl0, _, _, _, _, _, _, _, _, _, rfl, upd_same, upd_oth (sx _ _ (s04 _ _ ep)) npl, ro.snoc (dat_i ht) so, ?_⟩
      rw [mz_upd]
      refine ((da.same (mz_same s04)).same (mz_same sx)).append (DtAll.cons ?_ DtAll.nil)
      exact Dp.tup (SqT.of (by rw [mz_ne ntl]; exact ett)) (DpAll.cons (Dp.int _) (DpAll.cons (Dp.int _) (DpAll.cons (Dp.str _) (DpAll.cons (Dp.int _) (DpAll.cons (Dp.same (mz_same sx) dl) DpAll.nil)))))
  · rintro σ H' ⟨s', v2, v3, v4, v5, v6, v7, v8, vs, rows, rfl, el, ep, ro, da⟩
    rw [List.length_map, numsI_len, ← datP_len, List.take_length] at ro
    walk_at "run1"
    exact k H' l vs rows s' el ro (da.same mz_sub)
def sp_Handles___init__ (K : PySem.W.Frag) (C : Ex) : Sp := S1 fun x H Q _ => ∃ (h dx : Addr), x = .ref h ∧ H h = some (.ins C.Handles dx []) ∧ ∀ H', (∀ c o, H c = some o → c ≠ h → H' c = some o) → Q .non H'
def t_Handles___init__ (K : PySem.W.Frag) (C : Ex) (E : XK) : TS :=
  uSetF C.Handles "files" (tVar 0) (tDNewK)
theorem pure_Handles___init__ {K : PySem.W.Frag} {C : Ex} {vs : List V} {H : Hp} {Q : VK} {E : XK} (F : Fa K C) (h : sp_Handles___init__ K C vs H Q E) : t_Handles___init__ K C E { nx := fun _ H' => Q .non H', rt := Q } (start ["self"] vs) H := by
  obtain ⟨x, rfl, h, dx, rfl, i, k⟩ := h
  unfold t_Handles___init__
  walk_at "run1"
  rename_i d hd
  exact k _ (fun c o e n => upd_oth (upd_old e hd) n)
def sp_Handles__look (K : PySem.W.Frag) (C : Ex) : Sp := S2 fun _ _ _ _ _ => False
def t_Handles__look (K : PySem.W.Frag) (C : Ex) (E : XK) : TS :=
  tSeq (tIfS (tTest (tOp (uNin K) (tVar 1) (uFld C.Handles "files" (tVar 0)))) (uRaise C.BadHandle (WB E)) (tNext))
  (tRet (tDGet (uFld C.Handles "files" (tVar 0)) (tVar 1)))
theorem pure_Handles__look {K : PySem.W.Frag} {C : Ex} {vs : List V} {H : Hp} {Q : VK} {E : XK} (F : Fa K C) (h : sp_Handles__look K C vs H Q E) : t_Handles__look K C E { nx := fun _ H' => Q .non H', rt := Q } (start ["self", "number"] vs) H := by
  obtain ⟨x, c, rfl, h⟩ := h
  exact h.elim
def sp_Handles_add_reference (K : PySem.W.Frag) (C : Ex) : Sp := S2 fun _ _ _ _ _ => False
def t_Handles_add_reference (K : PySem.W.Frag) (C : Ex) (E : XK) : TS :=
  tSeq (tAsg (uMeth C.Handles "_look" (sp_Handles__look K C) (WB E) (tVar 0) (tCons (tVar 1) (tNil))) (gName 2))
  (tAsg (tOp (uAdd K) (tOp (uIx K) (tVar 2) (tC (.int 4))) (tC (.int 1))) (gSub (tVar 2) (tC (.int 4)) uSet))
theorem pure_Handles_add_reference {K : PySem.W.Frag} {C : Ex} {vs : List V} {H : Hp} {Q : VK} {E : XK} (F : Fa K C) (h : sp_Handles_add_reference K C vs H Q E) : t_Handles_add_reference K C E { nx := fun _ H' => Q .non H', rt := Q } (start ["self", "number", "file"] vs) H := by
  obtain ⟨x, c, rfl, h⟩ := h
  exact h.elim
def sp_Processes___init__ (K : PySem.W.Frag) (C : Ex) : Sp := S2 fun x v H Q _ => ∃ (h dx : Addr) (s : Str), x = .ref h ∧ v = .str s ∧ H h = some (.ins C.Processes dx []) ∧ ∀ H' d p q, PrAt C H' h d [(p, q, ⟨0, s, 1, []⟩)] → (∀ c o, H c = some o → c ≠ h → H' c = some o) → (∀ b ∈ pF d [(p, q, (⟨0, s, 1, []⟩ : PD))], H b = none) → Q .non H'
def t_Processes___init__ (K : PySem.W.Frag) (C : Ex) (E : XK) : TS :=
  uSetF C.Processes "processes" (tVar 0) (tDisp ((tC (.int 0), tLst (tCons (tC (.int 0)) (tCons (tVar 1) (tCons (tC (.int 1)) (tCons (tDNewK) (tNil)))))) :: []))
theorem pure_Processes___init__ {K : PySem.W.Frag} {C : Ex} {vs : List V} {H : Hp} {Q : VK} {E : XK} (F : Fa K C) (h : sp_Processes___init__ K C vs H Q E) : t_Processes___init__ K C E { nx := fun _ H' => Q .non H', rt := Q } (start ["self", "volume"] vs) H := by
  obtain ⟨x, v, rfl, h, dx, s, rfl, rfl, i, k⟩ := h
  unfold t_Processes___init__
  walk_at "run1"
  intro d hd
  have e0 : upd H d (.dK []) d = some (.dK []) := upd_same
  have ne0 : d ≠ h := fun e => by rw [e, i] at hd; cases hd
  have i0 := upd_old (o := .dK []) i hd
  unfold tPairs
  walk_at "run1"
  rename_i q hq p hp
  have e1 : upd (upd H d (.dK [])) q (.dK []) q = some (.dK []) := upd_same
  have e10 := upd_old (o := .dK []) e0 hq
  have i1 := upd_old (o := .dK []) i0 hq
  have hq0 : H q = none := by
    cases z : H q with
    | none => rfl
    | some o => rw [upd_old (o := .dK []) z hd] at hq; cases hq
  have f1 : ∀ c o, H c = some o → upd (upd H d (.dK [])) q (.dK []) c = some o := fun c o e => upd_old (upd_old e hd) hq
  have nqd : q ≠ d := fun e => by rw [e, e0] at hq; cases hq
  generalize upd (upd H d (.dK [])) q (.dK []) = H1 at *
  have e2 : upd H1 p (.lst [.int 0, .str s, .int 1, .ref q]) p = some (prO (p, q, ⟨0, s, 1, []⟩)) := upd_same
  have e21 := upd_old (o := .lst [.int 0, .str s, .int 1, .ref q]) e1 hp
  have e20 := upd_old (o := .lst [.int 0, .str s, .int 1, .ref q]) e10 hp
  have i2 := upd_old (o := .lst [.int 0, .str s, .int 1, .ref q]) i1 hp
  have hp0 : H p = none := by
    cases z : H p with
    | none => rfl
    | some o => rw [f1 _ _ z] at hp; cases hp
  have f2 : ∀ c o, H c = some o → upd H1 p (.lst [.int 0, .str s, .int 1, .ref q]) c = some o := fun c o e => upd_old (f1 c o e) hp
  have npd : p ≠ d := fun e => by rw [e, e10] at hp; cases hp
  generalize upd H1 p (.lst [.int 0, .str s, .int 1, .ref q]) = H2 at *
  unfold tPairs
  refine ⟨e20, [(.inl 0, .ref p)], rfl, by show 1 ≤ 15; decide, ?_⟩
  have f3 : ∀ c o, H c = some o → upd H2 d (.dK (mergeK [] [(.inl 0, V.ref p)])) c = some o := fun c o e => upd_oth (f2 c o e) fun z => by rw [z, hd] at e; cases e
  have e3 : upd H2 d (.dK (mergeK [] [(.inl 0, V.ref p)])) d = some (.dK (kvN 0 [(p, q, ⟨0, s, 1, []⟩)])) := upd_same
  have e32 := upd_oth (o := .dK (mergeK [] [(.inl 0, V.ref p)])) e2 npd
  have e31 := upd_oth (o := .dK (mergeK [] [(.inl 0, V.ref p)])) e21 nqd
  have i3 := f3 _ _ i
  generalize upd H2 d (.dK (mergeK [] [(.inl 0, V.ref p)])) = H3 at *
  walk_at "run1"
  have nh : ∀ b, H b = none → b ≠ h := fun b e z => by rw [z, i] at e; cases e
  refine k _ d p q ⟨⟨dx, upd_same⟩, ⟨upd_oth e3 (nh _ hd), fun x hx => ?_, fun x hx => ?_, by simp, ?_⟩⟩ (fun c o e n => upd_oth (f3 c o e) n) (fun b hb => ?_)
  · rw [List.mem_singleton.mp hx]
    exact upd_oth e32 (nh _ hp0)
  · rw [List.mem_singleton.mp hx]
    exact upd_oth e31 (nh _ hq0)
  · exact List.nodup_cons.mpr ⟨fun m => nqd (List.mem_singleton.mp m).symm, List.nodup_cons.mpr ⟨fun m => (by cases m), List.nodup_nil⟩⟩
  · rcases pF_cases hb with rfl | ⟨y, hy, rfl⟩ | ⟨y, hy, rfl⟩
    · exact hd
    · rw [List.mem_singleton.mp hy]; exact hp0
    · rw [List.mem_singleton.mp hy]; exact hq0
def sp_fork (K : PySem.W.Frag) (C : Ex) : Sp := S3 fun o x c H Q E => ∃ (h d : Addr) (T : PT) (n : Int), x = .ref h ∧ c = .int n ∧ PrAt C H h d T ∧ (atP T n = none → E (.ref C.NoProcess) none H) ∧ ∀ i p q f, n = (i : Nat) → T[i]? = some (p, q, f) → f.fs = [] ∧ (4 ≤ T.length → E (.ref C.TooMany) none H) ∧ (T.length < 4 → ∀ p' q' H', PrAt C H' h d (T ++ [(p', q', f)]) → Stp (pF d T) H (pF d (T ++ [(p', q', f)])) H' → Q (.int (T.length : Int)) H')
def t_fork (K : PySem.W.Frag) (C : Ex) (E : XK) : TS :=
  tSeq (tAsg (uMeth C.Processes "copy_process" (sp_Processes_copy_process K C) (WB E) (tVar 1) (tCons (tVar 2) (tNil))) (gName 3))
  (tSeq (tFor (iList K (uMeth C.Processes "descriptors" (sp_Processes_descriptors K C) (WB E) (tVar 1) (tCons (tVar 3) (tNil)))) (gName 4)
  (tDrop (uMeth C.Handles "add_reference" (sp_Handles_add_reference K C) (WB E) (tVar 0) (tCons (uMeth C.Processes "find_open_file" (sp_Processes_find_open_file K C) (WB E) (tVar 1) (tCons (tVar 3) (tCons (tVar 4) (tNil)))) (tNil)))))
  (tRet (tVar 3)))
theorem pure_fork {K : PySem.W.Frag} {C : Ex} {vs : List V} {H : Hp} {Q : VK} {E : XK} (F : Fa K C) (h : sp_fork K C vs H Q E) : t_fork K C E { nx := fun _ H' => Q .non H', rt := Q } (start ["handles", "processes", "process", "number", "descriptor"] vs) H := by
  obtain ⟨o, x, c, rfl, h, d, T, n, rfl, rfl, hn, k1, k2⟩ := h
  obtain ⟨⟨dx, ih⟩, t⟩ := hn
  unfold t_fork
  walk_at "run1"
  refine w_S2 ⟨h, d, T, n, rfl, rfl, ⟨⟨dx, ih⟩, t⟩, fun hf => k1 hf, fun i p q f e ht => ⟨fun h4 => (k2 i p q f e ht).2.1 h4, fun h4 p' q' H1 hn1 st1 => ?_⟩⟩
  obtain ⟨hfs, _, k3⟩ := k2 i p q f e ht
  obtain ⟨⟨dx1, ih1⟩, t1⟩ := hn1
  walk_at "run1"
  refine w_S2 ⟨h, d, _, T.length, p', q', f, rfl, rfl, ⟨⟨dx1, ih1⟩, t1⟩, by rw [List.getElem?_append_right (Nat.le_refl _), Nat.sub_self]; rfl, by rw [hfs]; decide, fun ys l py sy hl => ?_⟩
  have ey : ys = [] := by
    rw [hfs] at py
    exact py.eq_nil
  subst ey
  have s2 := same_new (o := .lst (([] : List Int).map V.int)) hl
  have e2 : upd H1 l (.lst (([] : List Int).map V.int)) l = some (.lst []) := upd_same
  generalize upd H1 l _ = H2 at *
  walk_at "run1"
  refine f_list (xs := []) (fun j σ H' => H' = H2 ∧ ∃ v4, σ = [some o, some (.ref h), some (.int n), some (.int (T.length : Int)), v4]) ⟨rfl, none, rfl⟩ (by rintro j σ H' _ ⟨rfl, _⟩; exact SqL.of e2) ?_ ?_
  · rintro j x σ H' hx
    cases hx
  · rintro σ H' ⟨rfl, v4, rfl⟩
    walk_at "run1"
    exact k3 h4 p' q' _ ((PrAt.same ⟨⟨dx1, ih1⟩, t1⟩) s2) (st1.trans (.same s2))
inductive AnsP where
  | txt (s : Str) | num (i : Int) | non | look (o : Int) (v : Str) (i : Int) (b : Bool)
  deriving DecidableEq
def ansP : AnsP → List PyData
  | .txt s => [.str s]
  | .num i => [.int i]
  | .non => [.none]
  | .look o v i b => [.tuple [.int o, .str v, .int i], .bool b]
instance : PySem.W.Datum AnsP where
  toD a := .list (ansP a)
  plain a := by cases a <;> rfl
  eqv a b := by
    cases a <;> cases b <;> simp only [ansP, PyData.eqv, PyData.eqvAll, PySem.W.beq_decide, Bool.and_true, Bool.and_false, Bool.false_and, AnsP.txt.injEq, AnsP.num.injEq, AnsP.look.injEq, Bool.decide_and, Bool.and_assoc, reduceCtorEq, decide_true, decide_false]
  depth := 2
  depth_le a := by cases a <;> simp [ansP, PyData.depth, PyData.depthAll]
def AnsAt (H : Hp) (v : V) (a : AnsP) : Prop := ∃ l, v = .ref l ∧ match a with
  | .txt s => H l = some (.lst [.str s])
  | .num i => H l = some (.lst [.int i])
  | .non => H l = some (.lst [.non])
  | .look o v i b => ∃ t, H l = some (.lst [.ref t, .bl b]) ∧ H t = some (.tup [.int o, .str v, .int i])
theorem AnsAt.dt {K : PySem.W.Frag} {H : Hp} {v : V} {a : AnsP} (h : AnsAt H v a) : Dt K H v a := by
  obtain ⟨l, rfl, h⟩ := h
  cases a with
  | txt s => exact Dp.lst (SqL.of h) (DpAll.cons (Dp.str _) DpAll.nil)
  | num s => exact Dp.lst (SqL.of h) (DpAll.cons (Dp.int _) DpAll.nil)
  | non => exact Dp.lst (SqL.of h) (DpAll.cons Dp.non DpAll.nil)
  | look o v i b =>
    obtain ⟨t, h1, h2⟩ := h
    exact Dp.lst (SqL.of h1) (DpAll.cons (Dp.tup (SqT.of h2) (DpAll.cons (Dp.int _) (DpAll.cons (Dp.str _) (DpAll.cons (Dp.int _) DpAll.nil)))) (DpAll.cons (Dp.bl _) DpAll.nil))
/-- an answer is none of a table's objects -/
theorem AnsAt.stp {H H' : Hp} {v : V} {a : AnsP} {e : Addr} {U : PT} {F' : List Addr} (t : TpAt H e U) (st : Stp (pF e U) H F' H') (x : AnsAt H v a) : AnsAt H' v a := by
  have keep : ∀ b o, H b = some o → (∀ xs : List V, o = .lst xs → xs.length ≠ 4) → (∀ kvs : List (Key × V), o ≠ .dK kvs) → H' b = some o := fun b o hb h1 h2 => st.1 b o hb fun hm => by
    rcases t.obj hm with ⟨k, q⟩ | ⟨_, _, _, _, q⟩
    · rw [q] at hb
      exact h2 _ (Option.some.inj hb).symm
    · rw [q] at hb
      exact h1 _ (Option.some.inj hb).symm rfl
  have lst : ∀ b (xs : List V), xs.length ≠ 4 → H b = some (.lst xs) → H' b = some (.lst xs) := fun b xs n hb => keep b _ hb (fun ys q => by rw [← HO.lst.inj q]; exact n) (fun _ q => nomatch q)
  obtain ⟨l, rfl, h⟩ := x
  refine ⟨l, rfl, ?_⟩
  cases a with
  | txt s => exact lst _ _ (by show 1 ≠ 4; decide) h
  | num s => exact lst _ _ (by show 1 ≠ 4; decide) h
  | non => exact lst _ _ (by show 1 ≠ 4; decide) h
  | look o v i b =>
    obtain ⟨t, h1, h2⟩ := h
    exact ⟨t, lst _ _ (by show 2 ≠ 4; decide) h1, keep _ _ h2 (fun _ q => nomatch q) (fun _ q => nomatch q)⟩
def volP (z : Int) : Str := if z % 2 = 0 then "main" else "b"
theorem vol_at {z : Int} {v : V} (h : [V.str "main", V.str "b"][(z % 2).toNat]? = some v) : v = .str (volP z) := by
  unfold volP
  rcases (by omega : z % 2 = 0 ∨ z % 2 = 1) with e | e
  · rw [e] at h
    rw [if_pos e]
    exact (Option.some.inj h).symm
  · rw [e] at h
    rw [if_neg (by omega)]
    exact (Option.some.inj h).symm
/-- a deed: what becomes of the processes, and what is told -/
noncomputable def stepP (D : List PD) (k n z : Int) : List PD × AnsP := match atP D n with
  | none => (D, .txt "NoProcess")
  | some f =>
    if k = 0 then (if 4 ≤ D.length then (D, .txt "TooMany") else (D ++ [f], .num (D.length : Int)))
    else if k = 1 then (if 8 ≤ f.fs.length then (D, .txt "TooMany") else (D.set n.toNat { f with fs := f.fs ++ [((leastI (keysF f.fs) : Int), z)] }, .num (leastI (keysF f.fs) : Int)))
    else if k = 2 then (if z % 10 - 1 ∈ keysF f.fs then (D.set n.toNat { f with fs := delF f.fs (z % 10 - 1) }, .num (getF f.fs (z % 10 - 1))) else (D, .txt "BadHandle"))
    else if k = 3 then (D.set n.toNat { f with own := z }, .non)
    else if k = 4 then (D.set n.toNat { f with vol := volP z, dir := 1 + z / 2 }, .non)
    else (D, .look f.own f.vol f.dir (decide (f.fs.length < 8)))
theorem step_none {T : PT} {k n z : Int} (h : atP T n = none) : stepP (datP T) k n z = (datP T, .txt "NoProcess") := by
  unfold stepP
  rw [atP_dat, h]
  rfl
theorem step_some {T : PT} {k z : Int} {i : Nat} {p q : Addr} {f : PD} (h : T[i]? = some (p, q, f)) : stepP (datP T) k (i : Int) z = 
    if k = 0 then (if 4 ≤ T.length then (datP T, .txt "TooMany") else (datP T ++ [f], .num (T.length : Int)))
    else if k = 1 then (if 8 ≤ f.fs.length then (datP T, .txt "TooMany") else ((datP T).set i { f with fs := f.fs ++ [((leastI (keysF f.fs) : Int), z)] }, .num (leastI (keysF f.fs) : Int)))
    else if k = 2 then (if z % 10 - 1 ∈ keysF f.fs then ((datP T).set i { f with fs := delF f.fs (z % 10 - 1) }, .num (getF f.fs (z % 10 - 1))) else (datP T, .txt "BadHandle"))
    else if k = 3 then ((datP T).set i { f with own := z }, .non)
    else if k = 4 then ((datP T).set i { f with vol := volP z, dir := 1 + z / 2 }, .non)
    else (datP T, .look f.own f.vol f.dir (decide (f.fs.length < 8))) := by
  unfold stepP
  rw [atP_dat, atP_nat, h, datP_len]
  rfl
/-- a process that is copied has no descriptors -/
def PreP (D : List PD) (k n : Int) : Prop := k = 0 → ∀ f, atP D n = some f → f.fs = []
def spx__law_classes (K : PySem.W.Frag) (C : Ex) (a : Addr) (cls : Value) : Sp := S1 fun x H Q _ => x = .ref a ∧ ((cls = .ref C.BadHandle ∧ ∀ l H', Same H H' → AnsAt H' (.ref l) (.txt "BadHandle") → Q (.ref l) H') ∨ (cls = .ref C.NoProcess ∧ ∀ l H', Same H H' → AnsAt H' (.ref l) (.txt "NoProcess") → Q (.ref l) H') ∨ (cls = .ref C.TooMany ∧ ∀ l H', Same H H' → AnsAt H' (.ref l) (.txt "TooMany") → Q (.ref l) H'))
def tx__law_classes (K : PySem.W.Frag) (C : Ex) (a : Addr) (cls : Value) (E : XK) : TS :=
  tSeq (tAsg (tLst (tNil)) (gName 1))
  (tCut (tIfS (uTru K (tCB (uIsE K a cls none) (tCons (tVar 0) (tCons (tC (.ref C.BadHandle)) (tNil))))) (tDrop (tBM K "list" (rAppend) (tVar 1) (tCons (tC (.str "BadHandle")) (tNil)))) (tNext))
  (tCut (tIfS (uTru K (tCB (uIsE K a cls none) (tCons (tVar 0) (tCons (tC (.ref C.NoProcess)) (tNil))))) (tDrop (tBM K "list" (rAppend) (tVar 1) (tCons (tC (.str "NoProcess")) (tNil)))) (tNext))
  (tCut (tIfS (uTru K (tCB (uIsE K a cls none) (tCons (tVar 0) (tCons (tC (.ref C.TooMany)) (tNil))))) (tDrop (tBM K "list" (rAppend) (tVar 1) (tCons (tC (.str "TooMany")) (tNil)))) (tNext))
  (tRet (tVar 1)))))
theorem purex__law_classes {K : PySem.W.Frag} {C : Ex} {a : Addr} {cls : Value} {vs : List V} {H : Hp} {Q : VK} {E : XK} (F : Fa K C) (h : spx__law_classes K C a cls vs H Q E) : tx__law_classes K C a cls E { nx := fun _ H' => Q .non H', rt := Q } (start ["_law_error", "_law_found_here"] vs) H := by
  obtain ⟨x, rfl, rfl, ⟨rfl, k⟩ | ⟨rfl, k⟩ | ⟨rfl, k⟩⟩ := h
  · unfold tx__law_classes
    walk_at "run1"
    rename_i l hl
    have s1 := same_new (o := .lst []) hl
    have e1 : upd H l (.lst []) l = some (.lst []) := upd_same
    generalize upd H l _ = H1 at *
    refine w_cutS ?_
    walk_at "run1"
    refine w_app e1 (by decide) ?_
    refine w_cutS ?_
    walk_at "run1"
    refine w_cutS ?_
    walk_at "run1"
    exact k l _ (same_upd s1 hl) ⟨l, rfl, upd_same⟩
  · unfold tx__law_classes
    walk_at "run1"
    rename_i l hl
    have s1 := same_new (o := .lst []) hl
    have e1 : upd H l (.lst []) l = some (.lst []) := upd_same
    generalize upd H l _ = H1 at *
    refine w_cutS ?_
    walk_at "run1"
    refine w_cutS ?_
    walk_at "run1"
    refine w_app e1 (by decide) ?_
    refine w_cutS ?_
    walk_at "run1"
    exact k l _ (same_upd s1 hl) ⟨l, rfl, upd_same⟩
  · unfold tx__law_classes
    walk_at "run1"
    rename_i l hl
    have s1 := same_new (o := .lst []) hl
    have e1 : upd H l (.lst []) l = some (.lst []) := upd_same
    generalize upd H l _ = H1 at *
    refine w_cutS ?_
    walk_at "run1"
    refine w_cutS ?_
    walk_at "run1"
    refine w_cutS ?_
    walk_at "run1"
    refine w_app e1 (by decide) ?_
    walk_at "run1"
    exact k l _ (same_upd s1 hl) ⟨l, rfl, upd_same⟩
def sp__law_least (K : PySem.W.Frag) (C : Ex) : Sp := S1 fun x H Q _ => ∃ (d : Addr) (kvs : List (Key × V)) (ks : List Int), x = .ref d ∧ H d = some (.dK kvs) ∧ (∀ n : Int, (valV kvs (.inl n)).isSome = decide (n ∈ ks)) ∧ kvs.length = ks.length ∧ ks.length < 1000 ∧ ∀ n : Nat, LeastI ks n → Q (.int (n : Int)) H
def t__law_least (K : PySem.W.Frag) (C : Ex) (E : XK) : TS :=
  tSeq (tFor (iRng1 (tCons (tOp (uAdd K) (tCB (uLen K) (tCons (tVar 0) (tNil))) (tC (.int 1))) (tNil))) (gName 1)
  (tIfS (tTest (tOp (uNin K) (tVar 1) (tVar 0))) (tRet (tVar 1)) (tNext)))
  (tRet (tUn uNeg (tC (.int 1))))
theorem pure__law_least {K : PySem.W.Frag} {C : Ex} {vs : List V} {H : Hp} {Q : VK} {E : XK} (F : Fa K C) (h : sp__law_least K C vs H Q E) : t__law_least K C E { nx := fun _ H' => Q .non H', rt := Q } (start ["_law_numbers", "_law_number"] vs) H := by
  obtain ⟨x, rfl, d, kvs, ks, rfl, hd, hk, hl0, hl, k⟩ := h
  unfold t__law_least
  walk_at "run1"
  refine .inr ?_
  refine ⟨_, hd, ?_⟩
  rw [hl0]
  walk_at "run1"
  refine f_range (fun j σ H' => H' = H ∧ (∃ v1, σ = [some (.ref d), v1]) ∧ ∀ z : Nat, z < j → (z : Int) ∈ ks) ⟨rfl, ⟨none, rfl⟩, fun z hz => absurd hz (Nat.not_lt_zero _)⟩ ?_ ?_
  · rintro j σ H' hj ⟨e, ⟨v1, rfl⟩, hz⟩
    rw [e]
    clear e H'
    walk_at "run1"
    rw [show (0 : Int) + (j : Int) = (j : Int) by omega, hk]
    walk_at "run1"
    · rename_i h
      exact k j ⟨h, hz⟩
    · walk_at "run1"
      rename_i h
      refine ⟨rfl, ⟨_, rfl⟩, fun z hz2 => ?_⟩
      rcases Nat.lt_succ_iff_lt_or_eq.mp hz2 with q | q
      · exact hz z q
      · rw [q]; simpa using h
  · rintro σ H' ⟨e, ⟨v1, rfl⟩, hz⟩
    exfalso
    have z := low_lenP hz
    omega
def sp__law_due_descriptor (K : PySem.W.Frag) (C : Ex) : Sp := S2 fun x c H Q _ => ∃ (d : Addr) (T : PT) (i : Nat) (p q : Addr) (f : PD) (l : Addr) (k z : Int), x = .ref p ∧ c = .ref l ∧ TpAt H d T ∧ T[i]? = some (p, q, f) ∧ H l = some (.lst [.int k, .int (i : Int), .int z]) ∧ (k = 1 ∨ k = 2) ∧ OkF f.fs ∧
  ∀ H' T' v, datP T' = (stepP (datP T) k (i : Int) z).1 → TpAt H' d T' → Stp (pF d T) H (pF d T') H' → AnsAt H' v (stepP (datP T) k (i : Int) z).2 → Q v H'
def t__law_due_descriptor (K : PySem.W.Frag) (C : Ex) (E : XK) : TS :=
  tSeq (tIfS (tTest (tOp (uEq K) (tOp (uIx K) (tVar 1) (tC (.int 0))) (tC (.int 1)))) (tSeq (tIfS (tTest (tOp (uGe K) (tCB (uLen K) (tCons (tOp (uIx K) (tVar 0) (tC (.int 3))) (tNil))) (tC (.int 8)))) (tRet (tLst (tCons (tC (.str "TooMany")) (tNil)))) (tNext))
  (tSeq (tAsg (uCall (sp__law_least K C) (WB E) (tCons (tOp (uIx K) (tVar 0) (tC (.int 3))) (tNil))) (gName 2))
  (tSeq (tAsg (tOp (uIx K) (tVar 0) (tC (.int 3))) (gName 3))
  (tSeq (sDPut (tVar 3) (tVar 2) (tOp (uIx K) (tVar 1) (tC (.int 2))))
  (tRet (tLst (tCons (tVar 2) (tNil)))))))) (tNext))
  (tSeq (tAsg (tOp (uSub) (tOp (uMod) (tOp (uIx K) (tVar 1) (tC (.int 2))) (tC (.int 10))) (tC (.int 1))) (gName 4))
  (tSeq (tIfS (tTest (tOp (uNin K) (tVar 4) (tOp (uIx K) (tVar 0) (tC (.int 3))))) (tRet (tLst (tCons (tC (.str "BadHandle")) (tNil)))) (tNext))
  (tRet (tLst (tCons (tDPop1 (tOp (uIx K) (tVar 0) (tC (.int 3))) (tVar 4)) (tNil))))))
theorem pure__law_due_descriptor {K : PySem.W.Frag} {C : Ex} {vs : List V} {H : Hp} {Q : VK} {E : XK} (F : Fa K C) (h : sp__law_due_descriptor K C vs H Q E) : t__law_due_descriptor K C E { nx := fun _ H' => Q .non H', rt := Q } (start ["_law_entry", "_law_deed", "_law_least_here", "_law_used", "_law_descriptor"] vs) H := by
  obtain ⟨x, c, rfl, d, T, i, p, q, f, l, k, z, rfl, rfl, t, ht, hl, hk, ok, kk⟩ := h
  have ep : H p = some (.lst [.int f.own, .str f.vol, .int f.dir, .ref q]) := t.ent _ (List.mem_of_getElem? ht)
  have eq : H q = some (.dK (fsK f.fs)) := t.fd _ (List.mem_of_getElem? ht)
  have l8 := ok.2
  rw [step_some ht] at kk
  unfold t__law_due_descriptor
  walk_at "run1"
  · rename_i hk1
    rw [if_neg (by omega), if_pos hk1] at kk
    walk_at "run1"
    refine w_lenD eq ?_
    rw [fsK_len]
    walk_at "run1"
    · rename_i hg l1 hl1
      rw [if_pos (by omega)] at kk
      have s1 := same_new (o := .lst [.str "TooMany"]) hl1
      exact kk _ T _ rfl (t.same s1) (.same s1) ⟨_, rfl, upd_same⟩
    · rename_i hg
      rw [if_neg (by omega)] at kk
      walk_at "run1"
      refine w_S1 ⟨q, _, keysF f.fs, rfl, eq, val_keyF f.fs, by rw [fsK_len, keysF_len], by rw [keysF_len]; omega, fun m hm => ?_⟩
      rw [hm.is] at kk
      walk_at "run1"
      refine w_dputI eq (by rw [fsK_len]; omega) ?_
      rw [put_F hm.1]
      have st := TpAt.setF_stp (d := d) (H := H) (f' := { f with fs := f.fs ++ [((m : Int), z)] }) ht (o := .dK (fsK (f.fs ++ [((m : Int), z)])))
      have t2 := t.setF ht (f.fs ++ [((m : Int), z)])
      generalize upd H q _ = H1 at *
      walk_at "run1"
      rename_i l1 hl1
      have s1 := same_new (o := .lst [.int (m : Int)]) hl1
      exact kk _ (T.set i (p, q, { f with fs := f.fs ++ [((m : Int), z)] })) _ datP_set (t2.same s1) (st.trans (.same s1)) ⟨_, rfl, upd_same⟩
  · rename_i hk1
    have hk2 : k = 2 := by omega
    rw [if_neg (by omega), if_neg hk1, if_pos hk2] at kk
    walk_at "run1"
    rw [val_keyF]
    walk_at "run1"
    · rename_i hm l1 hl1
      rw [if_neg hm] at kk
      have s1 := same_new (o := .lst [.str "BadHandle"]) hl1
      exact kk _ T _ rfl (t.same s1) (.same s1) ⟨_, rfl, upd_same⟩
    · rename_i hm
      have hm : z % 10 - 1 ∈ keysF f.fs := by simpa using hm
      rw [if_pos hm] at kk
      walk_at "run1"
      refine w_popI eq (val_F hm) ?_
      rw [drop_F]
      have st := TpAt.setF_stp (d := d) (H := H) (f' := { f with fs := delF f.fs (z % 10 - 1) }) ht (o := .dK (fsK (delF f.fs (z % 10 - 1))))
      have t2 := t.setF ht (delF f.fs (z % 10 - 1))
      generalize upd H q _ = H1 at *
      walk_at "run1"
      rename_i l1 hl1
      have s1 := same_new (o := .lst [.int (getF f.fs (z % 10 - 1))]) hl1
      exact kk _ (T.set i (p, q, { f with fs := delF f.fs (z % 10 - 1) })) _ datP_set (t2.same s1) (st.trans (.same s1)) ⟨_, rfl, upd_same⟩
def sp__law_due (K : PySem.W.Frag) (C : Ex) : Sp := S2 fun x c H Q _ => ∃ (d : Addr) (T : PT) (l : Addr) (k n z : Int), x = .ref d ∧ c = .ref l ∧ TpAt H d T ∧ H l = some (.lst [.int k, .int n, .int z]) ∧ 0 ≤ k ∧ PreP (datP T) k n ∧ OkP (datP T) ∧ T.length < 64 ∧
  ∀ H' T' v, datP T' = (stepP (datP T) k n z).1 → TpAt H' d T' → Stp (pF d T) H (pF d T') H' → AnsAt H' v (stepP (datP T) k n z).2 → Q v H'
def t__law_due (K : PySem.W.Frag) (C : Ex) (E : XK) : TS :=
  tSeq (tIfS (tTest (tOp (uNin K) (tOp (uIx K) (tVar 1) (tC (.int 1))) (tVar 0))) (tRet (tLst (tCons (tC (.str "NoProcess")) (tNil)))) (tNext))
  (tSeq (tAsg (tDGet (tVar 0) (tOp (uIx K) (tVar 1) (tC (.int 1)))) (gName 2))
  (tSeq (tIfS (tTest (tOp (uEq K) (tOp (uIx K) (tVar 1) (tC (.int 0))) (tC (.int 0)))) (tSeq (tIfS (tTest (tOp (uGe K) (tCB (uLen K) (tCons (tVar 0) (tNil))) (tC (.int 4)))) (tRet (tLst (tCons (tC (.str "TooMany")) (tNil)))) (tNext))
  (tSeq (tAsg (uCall (sp__law_least K C) (WB E) (tCons (tVar 0) (tNil))) (gName 3))
  (tSeq (sDPut (tVar 0) (tVar 3) (tLst (tCons (tOp (uIx K) (tVar 2) (tC (.int 0))) (tCons (tOp (uIx K) (tVar 2) (tC (.int 1))) (tCons (tOp (uIx K) (tVar 2) (tC (.int 2))) (tCons (tDNewK) (tNil)))))))
  (tRet (tLst (tCons (tVar 3) (tNil))))))) (tNext))
  (tSeq (tIfS (tTest (tOp (uLt K) (tOp (uIx K) (tVar 1) (tC (.int 0))) (tC (.int 3)))) (tRet (uCall (sp__law_due_descriptor K C) (WB E) (tCons (tVar 2) (tCons (tVar 1) (tNil))))) (tNext))
  (tSeq (tIfS (tTest (tOp (uEq K) (tOp (uIx K) (tVar 1) (tC (.int 0))) (tC (.int 3)))) (tSeq (tAsg (tOp (uIx K) (tVar 1) (tC (.int 2))) (gSub (tVar 2) (tC (.int 0)) uSet))
  (tRet (tLst (tCons (tC .non) (tNil))))) (tNext))
  (tSeq (tIfS (tTest (tOp (uEq K) (tOp (uIx K) (tVar 1) (tC (.int 0))) (tC (.int 4)))) (tSeq (tAsg (tOp (uIx K) (tLst (tCons (tC (.str "main")) (tCons (tC (.str "b")) (tNil)))) (tOp (uMod) (tOp (uIx K) (tVar 1) (tC (.int 2))) (tC (.int 2)))) (gSub (tVar 2) (tC (.int 1)) uSet))
  (tSeq (tAsg (tOp (uAdd K) (tC (.int 1)) (tOp (uDiv) (tOp (uIx K) (tVar 1) (tC (.int 2))) (tC (.int 2)))) (gSub (tVar 2) (tC (.int 2)) uSet))
  (tRet (tLst (tCons (tC .non) (tNil)))))) (tNext))
  (tRet (tLst (tCons (tTup (tCons (tOp (uIx K) (tVar 2) (tC (.int 0))) (tCons (tOp (uIx K) (tVar 2) (tC (.int 1))) (tCons (tOp (uIx K) (tVar 2) (tC (.int 2))) (tNil))))) (tCons (tOp (uLt K) (tCB (uLen K) (tCons (tOp (uIx K) (tVar 2) (tC (.int 3))) (tNil))) (tC (.int 8))) (tNil))))))))))
theorem pure__law_due {K : PySem.W.Frag} {C : Ex} {vs : List V} {H : Hp} {Q : VK} {E : XK} (F : Fa K C) (h : sp__law_due K C vs H Q E) : t__law_due K C E { nx := fun _ H' => Q .non H', rt := Q } (start ["_law_world", "_law_deed", "_law_entry", "_law_least_here"] vs) H := by
  obtain ⟨x, c, rfl, d, T, l, k, n, z, rfl, rfl, t, hl, k0, pre, ok, hl64, kk⟩ := h
  have hd := t.dict
  have hv := valV_P T n
  unfold t__law_due
  walk_at "run1"
  cases hf : atP T n with
  | none =>
    rw [hf] at hv
    have hv : valV (kvN 0 T) (.inl n) = none := hv
    rw [hv, show (none : Option V).isSome = false from rfl]
    rw [step_none hf] at kk
    walk_at "run1"
    rename_i l1 hl1
    have s1 := same_new (o := .lst [.str "NoProcess"]) hl1
    exact kk _ T _ rfl (t.same s1) (.same s1) ⟨_, rfl, upd_same⟩
  | some pf =>
    obtain ⟨p, q, f⟩ := pf
    rw [hf] at hv
    have hv : valV (kvN 0 T) (.inl n) = some (.ref p) := hv
    rw [hv, show (some (V.ref p)).isSome = true from rfl]
    obtain ⟨i, rfl, ht⟩ := atP_some hf
    have ep : H p = some (.lst [.int f.own, .str f.vol, .int f.dir, .ref q]) := t.ent _ (List.mem_of_getElem? ht)
    have eq : H q = some (.dK (fsK f.fs)) := t.fd _ (List.mem_of_getElem? ht)
    have okf : OkF f.fs := ok _ (List.mem_of_getElem? (dat_i ht))
    have npl : p ≠ l := fun e => by
      rw [e, hl] at ep
      have := congrArg List.length (HO.lst.inj (Option.some.inj ep))
      simp at this
    have hp : k = 0 → f.fs = [] := fun e => pre e f (by rw [atP_dat, hf]; rfl)
    have k6 := kk
    rw [step_some ht] at kk
    walk_at "run1"
    refine w_dgetI hd hv ?_
    walk_at "run1"
    · rename_i hk
      rw [if_pos hk] at kk
      refine w_lenD hd ?_
      rw [kvN_len]
      walk_at "run1"
      · rename_i hg l1 hl1
        rw [if_pos (by omega)] at kk
        have s1 := same_new (o := .lst [.str "TooMany"]) hl1
        exact kk _ T _ rfl (t.same s1) (.same s1) ⟨_, rfl, upd_same⟩
      · rename_i hg
        rw [if_neg (by omega)] at kk
        walk_at "run1"
        refine w_S1 ⟨d, _, numsI T.length, rfl, hd, fun n => ?_, by rw [kvN_len, numsI_len], by rw [numsI_len]; omega, fun m hm => ?_⟩
        · rw [valV_P, Option.isSome_map]
          unfold atP numsI
          by_cases h0 : 0 ≤ n
          · rw [if_pos h0]
            rcases Nat.lt_or_ge n.toNat T.length with hlt | hge
            · rw [List.getElem?_eq_getElem hlt]
              exact (decide_eq_true (List.mem_map.mpr ⟨n.toNat, List.mem_range.mpr hlt, by omega⟩)).symm
            · rw [List.getElem?_eq_none hge]
              refine (decide_eq_false fun hm => ?_).symm
              obtain ⟨m, h1, h2⟩ := List.mem_map.mp hm
              have := List.mem_range.mp h1
              omega
          · rw [if_neg h0]
            refine (decide_eq_false fun hm => ?_).symm
            obtain ⟨m, h1, h2⟩ := List.mem_map.mp hm
            omega
        have hmT : m = T.length := by
          refine hm.eq ⟨fun h => ?_, fun j hj => List.mem_map.mpr ⟨j, List.mem_range.mpr hj, rfl⟩⟩
          obtain ⟨a, h1, h2⟩ := List.mem_map.mp h
          have := List.mem_range.mp h1
          omega
        subst hmT
        walk_at "run1"
        rename_i q' hq' p' hp'
        have e1 : upd H q' (.dK []) q' = some (.dK (fsK f.fs)) := by rw [hp hk]; exact upd_same
        have s1 := same_new (o := .dK []) hq'
        generalize upd H q' _ = H1 at *
        have s2 := same_updN (o := .lst [.int f.own, .str f.vol, .int f.dir, .ref q']) s1 hp'
        have e2 : upd H1 p' (.lst [.int f.own, .str f.vol, .int f.dir, .ref q']) p' = some (prO (p', q', f)) := upd_same
        have e3 := upd_old (o := .lst [.int f.own, .str f.vol, .int f.dir, .ref q']) e1 hp'
        generalize upd H1 p' _ = H2 at *
        have hd2 := s2 _ _ hd
        have hp0 : H p' = none := by
          cases z : H p' with
          | none => rfl
          | some o => rw [s1 _ _ z] at hp'; cases hp'
        refine w_dputI hd2 (by rw [kvN_len]; omega) ?_
        rw [put_N (q := q') (f := f)]
        have st := TpAt.add_stp (d := d) (T := T) (f := f) s2 hp0 hq' (o := .dK (kvN 0 (T ++ [(p', q', f)])))
        have t3 := t.add s2 hp0 hq' e2 e3
        generalize upd H2 d _ = H3 at *
        walk_at "run1"
        rename_i l1 hl1
        have s4 := same_new (o := .lst [.int (T.length : Int)]) hl1
        exact kk _ (T ++ [(p', q', f)]) _ (by unfold datP; rw [List.map_append]; rfl) (t3.same s4) (st.trans (.same s4)) ⟨_, rfl, upd_same⟩
    · rename_i hk
      rw [if_neg hk] at kk
      walk_at "run1"
      · rename_i hk3
        refine w_S2 ⟨d, T, i, p, q, f, l, k, z, rfl, rfl, t, ht, hl, by omega, okf, fun H' T' v a b c e => ?_⟩
        walk_at "run1"
        exact k6 H' T' v a b c e
      · rename_i hk3
        rw [if_neg (by omega), if_neg (by omega)] at kk
        walk_at "run1"
        · rename_i hk4
          rw [if_pos hk4] at kk
          have st := TpAt.set_stp (d := d) (H := H) (f' := { f with own := z }) ht (o := prO (p, q, { f with own := z }))
          have t2 := t.set (f' := { f with own := z }) ht rfl
          refine w_setL ep ⟨by decide, by show 0 < 4; decide⟩ ?_
          rw [show HO.lst ([V.int f.own, .str f.vol, .int f.dir, .ref q].set (Int.toNat 0) (.int z)) = prO (p, q, { f with own := z }) from rfl]
          generalize upd H p _ = H1 at *
          walk_at "run1"
          rename_i l1 hl1
          have s1 := same_new (o := .lst [.non]) hl1
          exact kk _ (T.set i (p, q, { f with own := z })) _ datP_set (t2.same s1) (st.trans (.same s1)) ⟨_, rfl, upd_same⟩
        · rename_i hk4
          rw [if_neg hk4] at kk
          walk_at "run1"
          · rename_i hk5 l1 hl1
            rw [if_pos hk5] at kk
            refine w_ixA (SqL.of upd_same) ⟨by omega, by show _ < 2; omega⟩ fun v hv => ?_
            cases vol_at hv
            have s1 := same_new (o := .lst [.str "main", .str "b"]) hl1
            generalize upd H l1 _ = H1 at *
            have t1 := t.same s1
            have st1 : Stp (pF d T) H (pF d T) H1 := .same s1
            have ep1 := s1 _ _ ep
            have hl1 := s1 _ _ hl
            have st2 := TpAt.set_stp (d := d) (H := H1) (f' := { f with vol := volP z, dir := 1 + z / 2 }) ht (o := prO (p, q, { f with vol := volP z, dir := 1 + z / 2 }))
            have t2 := t1.set (f' := { f with vol := volP z, dir := 1 + z / 2 }) ht rfl
            walk_at "run1"
            refine w_setL ep1 ⟨by decide, by show 1 < 4; decide⟩ ?_
            have e2 : upd H1 p (.lst ([V.int f.own, .str f.vol, .int f.dir, .ref q].set (Int.toNat 1) (.str (volP z)))) p = some (.lst [.int f.own, .str (volP z), .int f.dir, .ref q]) := upd_same
            have ee : ∀ o, upd (upd H1 p (.lst ([V.int f.own, .str f.vol, .int f.dir, .ref q].set (Int.toNat 1) (.str (volP z))))) p o = upd H1 p o := fun o => funext fun b => by
              by_cases q : b = p
              · subst q; rw [upd_same, upd_same]
              · rw [upd_ne q, upd_ne q, upd_ne q]
            have hl2 := upd_oth (o := .lst ([V.int f.own, .str f.vol, .int f.dir, .ref q].set (Int.toNat 1) (.str (volP z)))) hl1 npl.symm
            walk_at "run1"
            refine w_setL e2 ⟨by decide, by show 2 < 4; decide⟩ ?_
            rw [ee, show HO.lst ([V.int f.own, .str (volP z), .int f.dir, .ref q].set (Int.toNat 2) (.int (1 + z / 2))) = prO (p, q, { f with vol := volP z, dir := 1 + z / 2 }) from rfl]
            generalize upd H1 p (prO _) = H2 at *
            walk_at "run1"
            rename_i l2 hl2
            have s3 := same_new (o := .lst [.non]) hl2
            exact kk _ (T.set i (p, q, { f with vol := volP z, dir := 1 + z / 2 })) _ datP_set (t2.same s3) ((st1.trans st2).trans (.same s3)) ⟨_, rfl, upd_same⟩
          · rename_i hk5
            rw [if_neg hk5] at kk
            walk_at "run1"
            rename_i t1 ht1
            have s1 := same_new (o := .tup [.int f.own, .str f.vol, .int f.dir]) ht1
            have e1 : upd H t1 (.tup [.int f.own, .str f.vol, .int f.dir]) t1 = some (.tup [.int f.own, .str f.vol, .int f.dir]) := upd_same
            generalize upd H t1 _ = H1 at *
            refine w_lenD (s1 _ _ eq) ?_
            rw [fsK_len]
            walk_at "run1"
            rename_i l1 hl1
            have s2 := same_updN (o := .lst [.ref t1, .bl (decide ((f.fs.length : Int) < 8))]) s1 hl1
            have e2 := upd_old (o := .lst [.ref t1, .bl (decide ((f.fs.length : Int) < 8))]) e1 hl1
            refine kk _ T _ rfl (t.same s2) (.same s2) ⟨_, rfl, t1, ?_, e2⟩
            rw [upd_same, show decide ((f.fs.length : Int) < 8) = decide (f.fs.length < 8) from decide_eq_decide.mpr (by omega)]
def sp__law_play (K : PySem.W.Frag) (C : Ex) : Sp := S3 fun o x c H Q _ => ∃ (h d : Addr) (T : PT) (l : Addr) (k n z : Int), x = .ref h ∧ c = .ref l ∧ PrAt C H h d T ∧ H l = some (.lst [.int k, .int n, .int z]) ∧ 0 ≤ k ∧ PreP (datP T) k n ∧ OkP (datP T) ∧ T.length < 64 ∧
  ∀ H' T' v, datP T' = (stepP (datP T) k n z).1 → PrAt C H' h d T' → Stp (pF d T) H (pF d T') H' → AnsAt H' v (stepP (datP T) k n z).2 → Q v H'
def t__law_play (K : PySem.W.Frag) (C : Ex) (E : XK) : TS :=
  tSeq (uTryAs K (.ref C.LaminaError) 3 (fun W => tSeq (tIfS (tTest (tOp (uEq K) (tOp (uIx K) (tVar 2) (tC (.int 0))) (tC (.int 0)))) (tRet (tLst (tCons (uCall (sp_fork K C) W (tCons (tVar 0) (tCons (tVar 1) (tCons (tOp (uIx K) (tVar 2) (tC (.int 1))) (tNil))))) (tNil)))) (tNext))
  (tSeq (tIfS (tTest (tOp (uEq K) (tOp (uIx K) (tVar 2) (tC (.int 0))) (tC (.int 1)))) (tRet (tLst (tCons (uMeth C.Processes "add_descriptor" (sp_Processes_add_descriptor K C) W (tVar 1) (tCons (tOp (uIx K) (tVar 2) (tC (.int 1))) (tCons (tOp (uIx K) (tVar 2) (tC (.int 2))) (tNil)))) (tNil)))) (tNext))
  (tSeq (tIfS (tTest (tOp (uEq K) (tOp (uIx K) (tVar 2) (tC (.int 0))) (tC (.int 2)))) (tRet (tLst (tCons (uMeth C.Processes "drop_descriptor" (sp_Processes_drop_descriptor K C) W (tVar 1) (tCons (tOp (uIx K) (tVar 2) (tC (.int 1))) (tCons (tOp (uSub) (tOp (uMod) (tOp (uIx K) (tVar 2) (tC (.int 2))) (tC (.int 10))) (tC (.int 1))) (tNil)))) (tNil)))) (tNext))
  (tIfS (tTest (tOp (uEq K) (tOp (uIx K) (tVar 2) (tC (.int 0))) (tC (.int 3)))) (tDrop (uMeth C.Processes "set_owner" (sp_Processes_set_owner K C) W (tVar 1) (tCons (tOp (uIx K) (tVar 2) (tC (.int 1))) (tCons (tOp (uIx K) (tVar 2) (tC (.int 2))) (tNil))))) (tIfS (tTest (tOp (uEq K) (tOp (uIx K) (tVar 2) (tC (.int 0))) (tC (.int 4)))) (tDrop (uMeth C.Processes "set_directory" (sp_Processes_set_directory K C) W (tVar 1) (tCons (tOp (uIx K) (tVar 2) (tC (.int 1))) (tCons (tOp (uIx K) (tLst (tCons (tC (.str "main")) (tCons (tC (.str "b")) (tNil)))) (tOp (uMod) (tOp (uIx K) (tVar 2) (tC (.int 2))) (tC (.int 2)))) (tCons (tOp (uAdd K) (tC (.int 1)) (tOp (uDiv) (tOp (uIx K) (tVar 2) (tC (.int 2))) (tC (.int 2)))) (tNil)))))) (tRet (tLst (tCons (uMeth C.Processes "look_up" (sp_Processes_look_up K C) W (tVar 1) (tCons (tOp (uIx K) (tVar 2) (tC (.int 1))) (tNil))) (tCons (uMeth C.Processes "has_room" (sp_Processes_has_room K C) W (tVar 1) (tCons (tOp (uIx K) (tVar 2) (tC (.int 1))) (tNil))) (tNil)))))))))) (fun a cls d => tRet (uCallX a cls d (spx__law_classes K C) (tCons (tVar 3) (tNil)))) (WB E))
  (tRet (tLst (tCons (tC .non) (tNil))))
theorem pure__law_play {K : PySem.W.Frag} {C : Ex} {vs : List V} {H : Hp} {Q : VK} {E : XK} (F : Fa K C) (h : sp__law_play K C vs H Q E) : t__law_play K C E { nx := fun _ H' => Q .non H', rt := Q } (start ["_law_handles", "_law_processes", "_law_deed", "_law_error"] vs) H := by
  obtain ⟨o, x, c, rfl, h, d, T, l, k, n, z, rfl, rfl, hn, hl, k0, pre, ok, hl64, kk⟩ := h
  obtain ⟨dx, ih⟩ := hn.1
  unfold t__law_play
  have nop : atP T n = none → ∀ l1 H', Same H H' → AnsAt H' (.ref l1) (.txt "NoProcess") → Q (.ref l1) H' := fun hf l1 H' s a => by
    have e := step_none (k := k) (z := z) hf
    exact kk H' T _ (by rw [e]) (hn.same s) (.same s) (by rw [e]; exact a)
  walk_at "run1"
  · rename_i hk
    refine w_S3 ⟨h, d, T, n, rfl, rfl, hn, fun hf => ?_, fun i p q f e ht => ⟨?_, fun hg => ?_, fun hg p' q' H1 hn1 st1 => ?_⟩⟩
    · walk_at "run1"
      exact w_S1 ⟨rfl, .inr (.inl ⟨rfl, nop hf⟩)⟩
    · exact pre hk f (by rw [e, atP_nat, dat_i ht])
    · subst e
      rw [step_some ht, if_pos hk, if_pos hg] at kk
      walk_at "run1"
      exact w_S1 ⟨rfl, .inr (.inr ⟨rfl, fun l1 H' s a => kk H' T _ rfl (hn.same s) (.same s) a⟩)⟩
    · subst e
      rw [step_some ht, if_pos hk, if_neg (by omega)] at kk
      walk_at "run1"
      rename_i l1 hl1
      have s1 := same_new (o := .lst [.int (T.length : Int)]) hl1
      exact kk _ (T ++ [(p', q', f)]) _ (by unfold datP; rw [List.map_append]; rfl) (hn1.same s1) (st1.trans (.same s1)) ⟨_, rfl, upd_same⟩
  walk_at "run1"
  · rename_i hk0 hk
    refine w_S3 ⟨h, d, T, n, z, rfl, rfl, rfl, hn, fun hf => ?_, fun i p q f e ht => ⟨fun hg => ?_, fun hg m H1 hm hn1 st1 => ?_⟩⟩
    · walk_at "run1"
      exact w_S1 ⟨rfl, .inr (.inl ⟨rfl, nop hf⟩)⟩
    · subst e
      rw [step_some ht, if_neg hk0, if_pos hk, if_pos hg] at kk
      walk_at "run1"
      exact w_S1 ⟨rfl, .inr (.inr ⟨rfl, fun l1 H' s a => kk H' T _ rfl (hn.same s) (.same s) a⟩)⟩
    · subst e
      rw [step_some ht, if_neg hk0, if_pos hk, if_neg (by omega), hm.is] at kk
      walk_at "run1"
      rename_i l1 hl1
      have s1 := same_new (o := .lst [.int (m : Int)]) hl1
      exact kk _ _ _ datP_set (hn1.same s1) (st1.trans (.same s1)) ⟨_, rfl, upd_same⟩
  walk_at "run1"
  · rename_i hk0 hk1 hk
    refine w_S3 ⟨h, d, T, n, z % 10 - 1, rfl, rfl, rfl, hn, fun hf => ?_, fun i p q f e ht => ⟨fun hg => ?_, fun hg H1 hn1 st1 => ?_⟩⟩
    · walk_at "run1"
      exact w_S1 ⟨rfl, .inr (.inl ⟨rfl, nop hf⟩)⟩
    · subst e
      rw [step_some ht, if_neg hk0, if_neg hk1, if_pos hk, if_neg hg] at kk
      walk_at "run1"
      exact w_S1 ⟨rfl, .inl ⟨rfl, fun l1 H' s a => kk H' T _ rfl (hn.same s) (.same s) a⟩⟩
    · subst e
      rw [step_some ht, if_neg hk0, if_neg hk1, if_pos hk, if_pos hg] at kk
      walk_at "run1"
      rename_i l1 hl1
      have s1 := same_new (o := .lst [.int (getF f.fs (z % 10 - 1))]) hl1
      exact kk _ _ _ datP_set (hn1.same s1) (st1.trans (.same s1)) ⟨_, rfl, upd_same⟩
  walk_at "run1"
  · rename_i hk0 hk1 hk2 hk
    refine w_S3 ⟨h, d, T, n, z, rfl, rfl, rfl, hn, fun hf => ?_, fun i p q f e ht H1 hn1 st1 => ?_⟩
    · walk_at "run1"
      exact w_S1 ⟨rfl, .inr (.inl ⟨rfl, nop hf⟩)⟩
    · subst e
      rw [step_some ht, if_neg hk0, if_neg hk1, if_neg hk2, if_pos hk] at kk
      walk_at "run1"
      rename_i l1 hl1
      have s1 := same_new (o := .lst [.non]) hl1
      exact kk _ _ _ datP_set (hn1.same s1) (st1.trans (.same s1)) ⟨_, rfl, upd_same⟩
  walk_at "run1"
  · rename_i hk0 hk1 hk2 hk3 hk l1 hl1
    refine w_ixA (SqL.of upd_same) ⟨by omega, by show _ < 2; omega⟩ fun v hv => ?_
    cases vol_at hv
    have s1 := same_new (o := .lst [.str "main", .str "b"]) hl1
    generalize upd H l1 _ = H1 at *
    have hn1 := hn.same s1
    have ih1 := s1 _ _ ih
    have hl1 := s1 _ _ hl
    walk_at "run1"
    refine w_S4 ⟨h, d, T, n, volP z, 1 + z / 2, rfl, rfl, rfl, rfl, hn1, fun hf => ?_, fun i p q f e ht H2 hn2 st2 => ?_⟩
    · walk_at "run1"
      exact w_S1 ⟨rfl, .inr (.inl ⟨rfl, fun l1 H' s a => nop hf l1 H' (s1.trans s) a⟩)⟩
    · subst e
      rw [step_some ht, if_neg hk0, if_neg hk1, if_neg hk2, if_neg hk3, if_pos hk] at kk
      walk_at "run1"
      rename_i l2 hl2
      have s3 := same_new (o := .lst [.non]) hl2
      exact kk _ _ _ datP_set (hn2.same s3) (((Stp.same s1).trans st2).trans (.same s3)) ⟨_, rfl, upd_same⟩
  · rename_i hk0 hk1 hk2 hk3 hk
    walk_at "run1"
    refine w_S2 ⟨h, d, T, n, rfl, rfl, hn, fun hf => ?_, fun i p q f e ht t1 ht1 => ?_⟩
    · walk_at "run1"
      exact w_S1 ⟨rfl, .inr (.inl ⟨rfl, nop hf⟩)⟩
    · subst e
      rw [step_some ht, if_neg hk0, if_neg hk1, if_neg hk2, if_neg hk3, if_neg hk] at kk
      have s1 := same_new (o := .tup [.int f.own, .str f.vol, .int f.dir]) ht1
      have e1 : upd H t1 (.tup [.int f.own, .str f.vol, .int f.dir]) t1 = some (.tup [.int f.own, .str f.vol, .int f.dir]) := upd_same
      generalize upd H t1 _ = H1 at *
      have hn1 := hn.same s1
      have ih1 := s1 _ _ ih
      have hl1 := s1 _ _ hl
      walk_at "run1"
      refine w_S2 ⟨h, d, T, _, rfl, rfl, hn1, fun hf => ?_, fun i2 p2 q2 f2 e2 ht2 => ?_⟩
      · rw [atP_nat, ht] at hf
        cases hf
      obtain rfl : i = i2 := by omega
      rw [ht] at ht2
      cases ht2
      walk_at "run1"
      rename_i l1 hl1
      have s2 := same_updN (o := .lst [.ref t1, .bl (decide (f.fs.length < 8))]) s1 hl1
      have e2 := upd_old (o := .lst [.ref t1, .bl (decide (f.fs.length < 8))]) e1 hl1
      exact kk _ T _ rfl (hn.same s2) (.same s2) ⟨_, rfl, t1, upd_same, e2⟩
theorem kv_numsP (T : PT) : ((kvN 0 T).map fun kv => kV kv.1) = (numsI T.length).map V.int := by
  have z := congrArg (List.map kV) (keys_P T)
  rw [List.map_map, List.map_map] at z
  exact z
theorem kv_F (fs : FsL) : ((fsK fs).map fun kv => kV kv.1) = (keysF fs).map V.int := by
  unfold fsK keysF
  rw [List.map_map, List.map_map]
  rfl
def sp__law_rows (K : PySem.W.Frag) (C : Ex) : Sp := S1 fun x H Q _ => ∃ (d : Addr) (T : PT), x = .ref d ∧ TpAt H d T ∧ T.length < 64 ∧ OkP (datP T) ∧ ∀ H' l vs rows, Same H H' → H' l = some (.lst vs) → RowsOf (datP T) rows → DtAll K H' vs rows → Q (.ref l) H'
def t__law_rows (K : PySem.W.Frag) (C : Ex) (E : XK) : TS :=
  tSeq (tAsg (tLst (tNil)) (gName 1))
  (tSeq (tFor (iList K (tCB (rSortedI K) (tCons (tCB uListD (tCons (tVar 0) (tNil))) (tNil)))) (gName 2)
  (tSeq (tAsg (tDGet (tVar 0) (tVar 2)) (gName 3))
  (tSeq (tAsg (tLc (iList K (tCB (rSortedI K) (tCons (tCB uListD (tCons (tOp (uIx K) (tVar 3) (tC (.int 3))) (tNil))) (tNil)))) (gName 5) (tYes) (tTup (tCons (tVar 5) (tCons (tDGet (tOp (uIx K) (tVar 3) (tC (.int 3))) (tVar 5)) (tNil)))) [5]) (gName 4))
  (tDrop (tBM K "list" (rAppend) (tVar 1) (tCons (tTup (tCons (tVar 2) (tCons (tOp (uIx K) (tVar 3) (tC (.int 0))) (tCons (tOp (uIx K) (tVar 3) (tC (.int 1))) (tCons (tOp (uIx K) (tVar 3) (tC (.int 2))) (tCons (tVar 4) (tNil))))))) (tNil)))))))
  (tRet (tVar 1)))
theorem pure__law_rows {K : PySem.W.Frag} {C : Ex} {vs : List V} {H : Hp} {Q : VK} {E : XK} (F : Fa K C) (h : sp__law_rows K C vs H Q E) : t__law_rows K C E { nx := fun _ H' => Q .non H', rt := Q } (start ["_law_world", "_law_rows_here", "_law_process", "_law_entry", "_law_used", "_law_descriptor"] vs) H := by
  obtain ⟨x, rfl, d, T, rfl, t, hl, ok, k⟩ := h
  have hd := t.dict
  unfold t__law_rows
  walk_at "run1"
  rename_i l hl0
  have s1 := same_new (o := .lst []) hl0
  have e1 : upd H l (.lst []) l = some (.lst []) := upd_same
  generalize upd H l _ = H1 at *
  have hd1 := s1 _ _ hd
  walk_at "run1"
  refine ⟨d, _, rfl, .inl hd1, fun p0 hp0 => ?_⟩
  rw [kv_numsP]
  have s10 := same_new (o := .lst ((numsI T.length).map V.int)) hp0
  have e10 : upd H1 p0 (.lst ((numsI T.length).map V.int)) p0 = some (.lst ((numsI T.length).map V.int)) := upd_same
  have e1' := s10 _ _ e1
  have s1 := s1.trans s10
  generalize upd H1 p0 _ = H10 at *
  walk_at "run1"
  refine ⟨p0, _, rfl, SqL.of e10, fun ys p py sy hp => ?_⟩
  obtain rfl := nums_eq py sy
  have s2 := same_new (o := .lst ((numsI T.length).map V.int)) hp
  have e2 : upd H10 p (.lst ((numsI T.length).map V.int)) p = some (.lst ((numsI T.length).map V.int)) := upd_same
  have npl : p ≠ l := fun e => by rw [e, e1'] at hp; cases hp
  generalize upd H10 p _ = H2 at *
  have s12 := s1.trans s2
  walk_at "run1"
  refine f_list (xs := (numsI T.length).map V.int) (fun j σ H' => Same H H' ∧ ∃ v2 v3 v4 v5 vs rows, σ = [some (.ref d), some (.ref l), v2, v3, v4, v5] ∧ H' l = some (.lst vs) ∧ H' p = some (.lst ((numsI T.length).map V.int)) ∧ RowsOf ((datP T).take j) rows ∧ DtAll K (mz l H') vs rows)
    ⟨s12, none, none, none, none, [], [], rfl, s2 _ _ e1', e2, ⟨rfl, fun i v h => by simp at h⟩, DtAll.nil⟩ (by rintro j σ H' _ ⟨_, _, _, _, _, _, _, _, _, e, _⟩; exact SqL.of e) ?_ ?_
  · rintro j x σ H' hx ⟨s', v2, v3, v4, v5, vs, rows, rfl, el, ep, ro, da⟩
    obtain ⟨hj, rfl⟩ := numsI_at hx
    obtain ⟨⟨a, q, f⟩, ht⟩ : ∃ y, T[j]? = some y := ⟨_, List.getElem?_eq_getElem hj⟩
    have hd' := s' _ _ hd
    have ea : H' a = some (.lst [.int f.own, .str f.vol, .int f.dir, .ref q]) := s' _ _ (t.ent _ (List.mem_of_getElem? ht))
    have eq : H' q = some (.dK (fsK f.fs)) := s' _ _ (t.fd _ (List.mem_of_getElem? ht))
    have lv := da.length
    have lr := ro.1
    rw [List.length_take] at lr
    have okf : OkF f.fs := ok _ (List.mem_of_getElem? (dat_i ht))
    walk_at "run1"
    refine w_dgetI hd' (val_i ht) ?_
    walk_at "run1"
    refine ⟨q, _, rfl, .inl eq, fun p1 hp1 => ?_⟩
    rw [kv_F]
    have s30 := same_new (o := .lst ((keysF f.fs).map V.int)) hp1
    have e30 : upd H' p1 (.lst ((keysF f.fs).map V.int)) p1 = some (.lst ((keysF f.fs).map V.int)) := upd_same
    generalize upd H' p1 _ = H30 at *
    walk_at "run1"
    refine ⟨p1, _, rfl, SqL.of e30, fun zs p2 pz sz hp2 => ?_⟩
    have s3 := same_updN (o := .lst (zs.map V.int)) s30 hp2
    have e3 : upd H30 p2 (.lst (zs.map V.int)) p2 = some (.lst (zs.map V.int)) := upd_same
    generalize upd H30 p2 _ = H3 at *
    have eq3 := s3 _ _ eq
    have ea3 := s3 _ _ ea
    have lz : zs.length ≤ 8 := by rw [pz.length_eq, keysF_len]; exact okf.2
    walk_at "run1"
    refine l_list (xs := zs.map V.int) (fun D i H' => Same H3 H' ∧ ∃ ws, H' D = some (.lst ws) ∧ PrsAt H' ws ((zs.take i).map fun k => (k, getF f.fs k))) (fun D hD => ⟨same_new hD, [], upd_same, PrsAt.nil⟩) (fun D i H' _ hP => SqL.of (hP.1 _ _ e3)) ?_ ?_
    · rintro D i x H' hD hx ⟨s4, ws, eD, pr⟩
      obtain ⟨n, hn, rfl⟩ := at_int hx
      have hmem : n ∈ keysF f.fs := pz.mem_iff.mp (List.mem_of_getElem? hn)
      have eq4 := s4 _ _ eq3
      have ea4 := s4 _ _ ea3
      have lw := pr.1
      rw [List.length_map, List.length_take] at lw
      walk_at "run1"
      refine ⟨rfl, ?_⟩
      walk_at "run1"
      refine w_dgetI eq4 (val_F hmem) ?_
      walk_at "run1"
      rename_i tt htt
      have sx := same_new (o := .tup [.int n, .int (getF f.fs n)]) htt
      have ett : upd H' tt (.tup [.int n, .int (getF f.fs n)]) tt = some (.tup [.int n, .int (getF f.fs n)]) := upd_same
      generalize upd H' tt _ = H5 at *
      have eD5 := sx _ _ eD
      refine ⟨ws, eD5, lt_line (by omega), same_upd (s4.trans sx) hD, _, upd_same, ?_⟩
      rw [take_snoc hn, List.map_append]
      exact ((pr.same sx).snoc (y := (n, getF f.fs n)) ett).upd eD5
    · rintro D H4 hD ⟨s4, ws, eD, pr⟩
      rw [List.length_map, List.take_length] at pr
      have so : SortOf f.fs (zs.map fun k => (k, getF f.fs k)) := ⟨zs, pz, asc_of pz sz okf.1, rfl⟩
      have s04 := s3.trans s4
      have el4 := s04 _ _ el
      have ea4 := s04 _ _ ea
      have nDl : D ≠ l := fun e => by
        rw [e, s3 _ _ el] at hD
        cases hD
      have dl : Dt K (mz l H4) (.ref D) (zs.map fun k => (k, getF f.fs k)) := Dt.list (SqL.of (by rw [mz_ne nDl]; exact eD)) (pr.dt el4)
      walk_at "run1"
      rename_i tt htt
      have sx := same_new (o := .tup [.int (j : Int), .int f.own, .str f.vol, .int f.dir, .ref D]) htt
      have ett : upd H4 tt (.tup [.int (j : Int), .int f.own, .str f.vol, .int f.dir, .ref D]) tt = some (.tup [.int (j : Int), .int f.own, .str f.vol, .int f.dir, .ref D]) := upd_same
      generalize upd H4 tt _ = H5 at *
      have el5 := sx _ _ el4
      have ntl : tt ≠ l := ne_of ett el5 fun z => nomatch z
      refine w_app el5 (lt_line (by omega)) ?_
      refine ⟨same_upd (s'.trans (s04.trans sx)) hl0, _, _, _, _, _, _, rfl, upd_same, upd_oth (sx _ _ (s04 _ _ ep)) npl, ro.snoc (dat_i ht) so, ?_⟩
      rw [mz_upd]
      refine ((da.same (mz_same s04)).same (mz_same sx)).append (DtAll.cons ?_ DtAll.nil)
      exact Dp.tup (SqT.of (by rw [mz_ne ntl]; exact ett)) (DpAll.cons (Dp.int _) (DpAll.cons (Dp.int _) (DpAll.cons (Dp.str _) (DpAll.cons (Dp.int _) (DpAll.cons (Dp.same (mz_same sx) dl) DpAll.nil)))))
  · rintro σ H' ⟨s', v2, v3, v4, v5, vs, rows, rfl, el, ep, ro, da⟩
    rw [List.length_map, numsI_len, ← datP_len, List.take_length] at ro
    walk_at "run1"
    exact k H' l vs rows s' el ro (da.same mz_sub)
def dueV (fs : FsL) (k : Int) : V := if k ∈ keysF fs then .int (getF fs k) else .non
def sp__law_found (K : PySem.W.Frag) (C : Ex) : Sp := S3 fun x c u H Q _ => ∃ (h d : Addr) (T : PT) (i : Nat) (p q : Addr) (f : PD) (k : Int), x = .ref h ∧ c = .int (i : Int) ∧ u = .int k ∧ PrAt C H h d T ∧ T[i]? = some (p, q, f) ∧ Q (dueV f.fs k) H
def t__law_found (K : PySem.W.Frag) (C : Ex) (E : XK) : TS :=
  uTry K (.ref C.BadHandle) (fun W => tRet (uMeth C.Processes "find_open_file" (sp_Processes_find_open_file K C) W (tVar 0) (tCons (tVar 1) (tCons (tVar 2) (tNil))))) (fun a cls d => tRet (tC .non)) (WB E)
theorem pure__law_found {K : PySem.W.Frag} {C : Ex} {vs : List V} {H : Hp} {Q : VK} {E : XK} (F : Fa K C) (h : sp__law_found K C vs H Q E) : t__law_found K C E { nx := fun _ H' => Q .non H', rt := Q } (start ["_law_processes", "_law_process", "_law_descriptor"] vs) H := by
  obtain ⟨x, c, u, rfl, h, d, T, i, p, q, f, k, rfl, rfl, rfl, hn, ht, kk⟩ := h
  obtain ⟨dx, ih⟩ := hn.1
  unfold dueV at kk
  unfold t__law_found
  walk_at "run1"
  refine w_S3 ⟨h, d, T, _, k, rfl, rfl, rfl, hn, fun hf => ?_, fun i2 p2 q2 f2 e2 ht2 => ⟨fun hk => ?_, fun hk => ?_⟩⟩
  · rw [atP_nat, ht] at hf
    cases hf
  · obtain rfl : i = i2 := by omega
    rw [ht] at ht2
    cases ht2
    rw [if_neg hk] at kk
    walk_at "run1"
    exact kk
  · obtain rfl : i = i2 := by omega
    rw [ht] at ht2
    cases ht2
    rw [if_pos hk] at kk
    walk_at "run1"
    exact kk
/-- a table stands behind a write elsewhere -/
theorem PrAt.wr {C : Ex} {H : Hp} {h d b : Addr} {T : PT} {o : HO} (x : PrAt C H h d T) (nb : b ∉ pF d T) (nh : h ≠ b) : PrAt C (upd H b o) h d T :=
  ⟨x.1.imp fun _ i => upd_oth i nh, ⟨upd_oth x.2.dict fun e => nb (by rw [← e]; exact pF_d), fun y hy => upd_oth (x.2.ent y hy) fun e => nb (by rw [← e]; exact pF_ent hy), fun y hy => upd_oth (x.2.fd y hy) fun e => nb (by rw [← e]; exact pF_fd hy), x.2.n1, x.2.n2⟩⟩
theorem filter_any {T : PT} {g : PD → Bool} : (!((T.filter fun x => g x.2.2).map fun x => V.ref x.1).isEmpty) = (datP T).any g := by
  unfold datP
  induction T with
  | nil => rfl
  | cons x T ih =>
    rw [List.map_cons, List.any_cons]
    cases q : g x.2.2 with
    | true =>
      rw [List.filter_cons_of_pos (by exact q)]
      rfl
    | false =>
      rw [List.filter_cons_of_neg (by rw [q]; exact Bool.false_ne_true), Bool.false_or]
      exact ih
def sp__law_shows (K : PySem.W.Frag) (C : Ex) : Sp := S2 fun x c H Q _ => ∃ (h d e : Addr) (T U : PT), x = .ref h ∧ c = .ref e ∧ PrAt C H h d T ∧ TpAt H e U ∧ datP T = datP U ∧ e ∉ pF d T ∧ T.length < 64 ∧ OkP (datP U) ∧ ∀ H', Same H H' → Q (.bl true) H'
def t__law_shows (K : PySem.W.Frag) (C : Ex) (E : XK) : TS :=
  tSeq (tAsg (uMeth C.Processes "list_processes" (sp_Processes_list_processes K C) (WB E) (tVar 0) (tNil)) (gName 2))
  (tSeq (tIfS (tOr (tNot (uTru K (tCB (uIsi K .list) (tCons (tVar 2) (tCons (tC (.ty "list")) (tNil)))))) (tTest (tOp (uNe K) (tVar 2) (uCall (sp__law_rows K C) (WB E) (tCons (tVar 1) (tNil)))))) (tRet (tC (.bl false))) (tNext))
  (tSeq (tLock (tFor (iKeys (tVar 1)) (gName 3)
  (tSeq (tAsg (tDGet (tVar 1) (tVar 3)) (gName 4))
  (tFor (iRng2 (tCons (tUn uNeg (tC (.int 1))) (tCons (tC (.int 9)) (tNil)))) (gName 5)
  (tSeq (tAsg (tC .non) (gName 6))
  (tCut (tIfS (tTest (tOp (uIn K) (tVar 5) (tOp (uIx K) (tVar 4) (tC (.int 3))))) (tAsg (tDGet (tOp (uIx K) (tVar 4) (tC (.int 3))) (tVar 5)) (gName 6)) (tNext))
  (tIfS (tTest (tOp (uNe K) (uCall (sp__law_found K C) (WB E) (tCons (tVar 0) (tCons (tVar 3) (tCons (tVar 5) (tNil))))) (tVar 6))) (tRet (tC (.bl false))) (tNext))))))))
  (tSeq (tLock (tAsg (tLc (iKeys (tVar 1)) (gName 3) (tYes) (tDGet (tVar 1) (tVar 3)) [3]) (gName 7)))
  (tSeq (tFor (iRng2 (tCons (tC (.int 1)) (tCons (tC (.int 17)) (tNil)))) (gName 8)
  (tFor (iTup K (tTup (tCons (tC (.str "main")) (tCons (tC (.str "b")) (tNil))))) (gName 9)
  (tSeq (tAsg (tOp (uNeO K) (tLc (iList K (tVar 7)) (gName 4) (tAnd (tTest (tOp (uEq K) (tOp (uIx K) (tVar 4) (tC (.int 1))) (tVar 9))) (tTest (tOp (uEq K) (tOp (uIx K) (tVar 4) (tC (.int 2))) (tVar 8)))) (tVar 4) [4]) (tLst (tNil))) (gName 6))
  (tIfS (tTest (tOp (uNe K) (uMeth C.Processes "works_in" (sp_Processes_works_in K C) (WB E) (tVar 0) (tCons (tVar 9) (tCons (tVar 8) (tNil)))) (tVar 6))) (tRet (tC (.bl false))) (tNext)))))
  (tSeq (tFor (iTup K (tTup (tCons (tC (.str "main")) (tCons (tC (.str "b")) (tCons (tC (.str "c")) (tNil)))))) (gName 9)
  (tIfS (tTest (tOp (uNe K) (uMeth C.Processes "uses_volume" (sp_Processes_uses_volume K C) (WB E) (tVar 0) (tCons (tVar 9) (tNil))) (tOp (uNeO K) (tLc (iList K (tVar 7)) (gName 4) (tTest (tOp (uEq K) (tOp (uIx K) (tVar 4) (tC (.int 1))) (tVar 9))) (tVar 4) [4]) (tLst (tNil))))) (tRet (tC (.bl false))) (tNext)))
  (tSeq (tFor (iRng1 (tCons (tC (.int 33)) (tNil))) (gName 10)
  (tIfS (tTest (tOp (uNe K) (uMeth C.Processes "uses_owner" (sp_Processes_uses_owner K C) (WB E) (tVar 0) (tCons (tVar 10) (tNil))) (tOp (uNeO K) (tLc (iList K (tVar 7)) (gName 4) (tTest (tOp (uEq K) (tOp (uIx K) (tVar 4) (tC (.int 0))) (tVar 10))) (tVar 4) [4]) (tLst (tNil))))) (tRet (tC (.bl false))) (tNext)))
  (tRet (tC (.bl true)))))))))
theorem pure__law_shows {K : PySem.W.Frag} {C : Ex} {vs : List V} {H : Hp} {Q : VK} {E : XK} (F : Fa K C) (h : sp__law_shows K C vs H Q E) : t__law_shows K C E { nx := fun _ H' => Q .non H', rt := Q } (start ["_law_processes", "_law_world", "_law_rows_here", "_law_process", "_law_entry", "_law_descriptor", "_law_due_here", "_law_entries", "_law_number", "_law_volume", "_law_owner"] vs) H := by
  obtain ⟨x, c, rfl, h, d, e, T, U, rfl, rfl, hn, t, hdat, hed, hl, ok, k⟩ := h
  have hU : U.length = T.length := by rw [← datP_len, ← datP_len, hdat]
  have hn0 := hn
  obtain ⟨dx0, i0⟩ := hn0.1
  have nhe : h ≠ e := ne_of i0 t.dict fun z => nomatch z
  unfold t__law_shows
  walk_at "run1"
  refine w_S1 ⟨h, d, T, rfl, hn, hl, by rw [hdat]; exact ok, fun H1 l vs rows s1 el ro da => ?_⟩
  walk_at "run1"
  refine w_isi_list_L (SqL.of el) ?_
  walk_at "run1"
  refine w_S1 ⟨e, U, rfl, t.same s1, by omega, ok, fun H2 l2 vs2 rows2 s2 el2 ro2 da2 => ?_⟩
  rw [hdat] at ro
  obtain rfl := ro.eq ro2
  walk_at "run1"
  refine w_neD (Dt.list (SqL.of (s2 _ _ el)) (da.same s2)) (Dt.list (SqL.of el2) da2) (by decide) ⟨_, rfl⟩ ?_
  rw [decide_eq_true rfl]
  have s12 := s1.trans s2
  have t2 := t.same s12
  have hn2 := hn.same s12
  have hd2 := t2.dict
  clear el el2 da da2 ro ro2
  walk_at "run1"
  refine ⟨e, _, hd2, trivial, fun od => ?_⟩
  have ef : upd H2 e (.frz od (.dK (kvN 0 U))) e = some (.frz od (.dK (kvN 0 U))) := upd_same
  have hnf := hn2.wr (o := .frz od (.dK (kvN 0 U))) hed nhe
  have bk : ∀ o : HO, upd (upd H2 e o) e (.dK (kvN 0 U)) = H2 := fun o => upd_back hd2
  walk_at "run1"
  refine w_iKeysv ef ?_
  refine f_keys (kvs := kvN 0 U) (fun j σ H' => H' = upd H2 e (.frz od (.dK (kvN 0 U))) ∧ ∃ v3 v4 v5 v6, σ = [some (.ref h), some (.ref e), some (.ref l), v3, v4, v5, v6, none, none, none, none]) ⟨rfl, none, none, none, none, rfl⟩ (by rintro j σ H' _ ⟨rfl, _⟩; exact ef) ?_ ?_
  · rintro j kk vv σ H' hk ⟨e', v3, v4, v5, v6, rfl⟩
    rw [e']
    clear e' H'
    obtain ⟨⟨p, q, f⟩, hy, rfl, rfl⟩ := at_P hk
    have hym := List.mem_of_getElem? hy
    have ep : upd H2 e (.frz od (.dK (kvN 0 U))) p = some (.lst [.int f.own, .str f.vol, .int f.dir, .ref q]) := upd_oth (t2.ent _ hym) (ne_of (t2.ent _ hym) hd2 fun z => nomatch z)
    have nqe : q ≠ e := fun z => (List.nodup_cons.mp t2.n2).1 (by rw [← z]; exact List.mem_map.mpr ⟨_, hym, rfl⟩)
    have eq : upd H2 e (.frz od (.dK (kvN 0 U))) q = some (.dK (fsK f.fs)) := upd_oth (t2.fd _ hym) nqe
    have vy := val_i hy
    obtain ⟨p2, q2, ht⟩ : ∃ p2 q2, T[j]? = some (p2, q2, f) := by
      have z := dat_i hy
      rw [← hdat] at z
      unfold datP at z
      rw [List.getElem?_map] at z
      obtain ⟨⟨a, b, g⟩, h1, h2⟩ := Option.map_eq_some_iff.mp z
      cases h2
      exact ⟨a, b, h1⟩
    rw [show kV (.inl (j : Int)) = V.int (j : Int) from rfl]
    walk_at "run1"
    refine w_dgetF ef vy ?_
    walk_at "run1"
    refine f_range (fun m σ H' => H' = upd H2 e (.frz od (.dK (kvN 0 U))) ∧ ∃ v5 v6, σ = [some (.ref h), some (.ref e), some (.ref l), some (.int (j : Int)), some (.ref p), v5, v6, none, none, none, none]) ⟨rfl, _, _, rfl⟩ ?_ ?_
    · rintro m σ H' hm ⟨e', v5, v6, rfl⟩
      rw [e']
      clear e' H'
      walk_at "run1"
      refine w_cut (fun σ H' => H' = upd H2 e (.frz od (.dK (kvN 0 U))) ∧ σ = [some (.ref h), some (.ref e), some (.ref l), some (.int (j : Int)), some (.ref p), some (.int (-1 + (m : Int))), some (dueV f.fs (-1 + (m : Int))), none, none, none, none]) ?_ ?_
      · walk_at "run1"
        rw [val_keyF]
        walk_at "run1"
        · rename_i hk
          refine w_dgetI eq (val_F hk) ?_
          walk_at "run1"
          refine ⟨rfl, ?_⟩
          unfold dueV
          rw [if_pos hk]
          rfl
        · rename_i hk
          walk_at "run1"
          refine ⟨rfl, ?_⟩
          unfold dueV
          rw [if_neg hk]
          rfl
      · rintro σ H' ⟨rfl, rfl⟩
        obtain ⟨dx1, i1⟩ := hnf.1
        walk_at "run1"
        refine w_S3 ⟨h, d, T, j, p2, q2, f, _, rfl, rfl, rfl, hnf, ht, ?_⟩
        unfold dueV
        by_cases hk : -1 + (m : Int) ∈ keysF f.fs
        · rw [if_pos hk]
          walk_at "run1"
          all_goals first
            | (rename_i h; exact absurd rfl h)
            | exact ⟨rfl, _, _, rfl⟩
        · rw [if_neg hk]
          walk_at "run1"
          all_goals first
            | (rename_i h; exact absurd rfl h)
            | exact ⟨rfl, _, _, rfl⟩
    · rintro σ H' ⟨e', v5, v6, rfl⟩
      rw [e']
      clear e' H'
      walk_at "run1"
      exact ⟨rfl, _, _, _, _, rfl⟩
  rintro σ H' ⟨e', v3, v4, v5, v6, rfl⟩
  rw [e']
  clear e' H'
  refine ⟨ef, ?_⟩
  rw [bk]
  walk_at "run1"
  refine ⟨e, _, hd2, trivial, fun od2 => ?_⟩
  have ef2 : upd H2 e (.frz od2 (.dK (kvN 0 U))) e = some (.frz od2 (.dK (kvN 0 U))) := upd_same
  walk_at "run1"
  refine w_iKeysv ef2 ?_
  have eD0 : ∀ D, upd H2 e (.frz od2 (.dK (kvN 0 U))) D = none → D ≠ e := fun D hD q => by rw [q, ef2] at hD; cases hD
  refine l_keys (kvs := kvN 0 U) (fun D i H' => H' e = some (.frz od2 (.dK (kvN 0 U))) ∧ (∀ b o, H2 b = some o → b ≠ e → H' b = some o) ∧ H' D = some (.lst ((U.take i).map fun x => V.ref x.1))) (fun D hD => ⟨by rw [upd_ne (eD0 D hD).symm]; exact ef2, fun b o hb nb => upd_old (upd_oth hb nb) hD, upd_same⟩) (fun D i H' _ hP => hP.1) ?_ ?_
  · rintro D i kk vv H' hD hk ⟨q1, q2, q3⟩
    obtain ⟨⟨p, q, f⟩, hy, rfl, rfl⟩ := at_P hk
    have vy := val_i hy
    have hi : i < U.length := (List.getElem?_eq_some_iff.mp hy).1
    rw [show kV (.inl (i : Int)) = V.int (i : Int) from rfl]
    walk_at "run1"
    refine ⟨rfl, ?_⟩
    walk_at "run1"
    refine w_dgetF q1 vy ?_
    refine ⟨_, q3, by rw [List.length_map, List.length_take]; exact lt_line (by omega), upd_oth q1 (eD0 D hD).symm, fun b o hb nb => ?_, ?_⟩
    · have nD : b ≠ D := fun q => by
        rw [q] at hb nb
        rw [upd_ne nb, hb] at hD
        cases hD
      exact upd_oth (q2 b o hb nb) nD
    · rw [upd_same, take_snoc hy, List.map_append]
      rfl
  rintro D H' hD ⟨q1, q2, q3⟩
  rw [kvN_len, List.take_length] at q3
  walk_at "run1"
  refine ⟨q1, ?_⟩
  have s3 : Same H2 (upd H' e (.dK (kvN 0 U))) := fun b o hb => by
    by_cases q : b = e
    · subst q
      rw [hd2] at hb
      cases hb
      exact upd_same
    · exact upd_oth (q2 b o hb q) q
  have eD := upd_oth (o := .dK (kvN 0 U)) q3 (eD0 D hD)
  have s0 := s12.trans s3
  generalize upd H' e (.dK (kvN 0 U)) = H3 at *
  clear q1 q2 q3 ef2 eD0 ef hnf bk hD
  walk_at "run1"
  refine f_range (fun m σ H' => Same H3 H' ∧ ∃ v3 v4 v5 v6 v8 v9, σ = [some (.ref h), some (.ref e), some (.ref l), v3, v4, v5, v6, some (.ref D), v8, v9, none]) ⟨L2.Same.refl _, _, _, _, _, _, _, rfl⟩ ?_ ?_
  · rintro m σ H4 hm ⟨s4, v3, v4, v5, v6, v8, v9, rfl⟩
    walk_at "run1"
    rename_i tv htv
    have s5 := same_updN (o := .tup [.str "main", .str "b"]) s4 htv
    have e5 : upd H4 tv (.tup [.str "main", .str "b"]) tv = some (.tup [.str "main", .str "b"]) := upd_same
    generalize upd H4 tv _ = H5 at *
    refine f_tup (xs := [.str "main", .str "b"]) (fun j σ H' => Same H5 H' ∧ ∃ v3 v4 v5 v6 v9, σ = [some (.ref h), some (.ref e), some (.ref l), v3, v4, v5, v6, some (.ref D), some (.int (1 + (m : Int))), v9, none])
      ⟨L2.Same.refl _, _, _, _, _, _, rfl⟩ (by rintro j σ H' _ ⟨s', _⟩; exact SqT.of (s' _ _ e5)) ?_ ?_
    · rintro j x σ H6 hx ⟨s6, v3, v4, v5, v6, v9, rfl⟩
      have hy : ∃ v : Str, x = .str v := by
        have hm := List.mem_of_getElem? hx
        simp only [List.mem_cons, List.not_mem_nil, or_false] at hm
        rcases hm with h | h <;> exact ⟨_, h⟩
      obtain ⟨v, rfl⟩ := hy
      have s36 := s5.trans s6
      have eD6 := s36 _ _ eD
      walk_at "run1"
      refine l_list (xs := U.map fun x => V.ref x.1) (fun E i H' => Same H6 H' ∧ H' E = some (.lst (((U.take i).filter fun x => decide (x.2.2.vol = v) && decide (x.2.2.dir = 1 + (m : Int))).map fun x => V.ref x.1))) (fun E hE => ⟨same_new hE, upd_same⟩) (fun E i H' _ hP => SqL.of (hP.1 _ _ eD6)) ?_ ?_
      · rintro E i x H' hE hx ⟨s', q3⟩
        obtain ⟨⟨p, q, f⟩, hy, rfl⟩ : ∃ y, U[i]? = some y ∧ x = V.ref y.1 := by
          rw [List.getElem?_map] at hx
          obtain ⟨y, h1, h2⟩ := Option.map_eq_some_iff.mp hx
          exact ⟨y, h1, h2.symm⟩
        have ep : H' p = some (.lst [.int f.own, .str f.vol, .int f.dir, .ref q]) := (((t.same s0).same s36).same s').ent _ (List.mem_of_getElem? hy)
        have li : (((U.take i).filter fun x => decide (x.2.2.vol = v) && decide (x.2.2.dir = 1 + (m : Int))).map fun x => V.ref x.1).length ≤ i := by rw [List.length_map]; exact Nat.le_trans (List.length_filter_le _ _) (by rw [List.length_take]; omega)
        have hi : i < U.length := (List.getElem?_eq_some_iff.mp hy).1
        walk_at "run1"
        refine ⟨rfl, ?_⟩
        walk_at "run1"
        · rename_i h1 h2
          refine ⟨_, q3, lt_line (by omega), same_upd s' hE, ?_⟩
          rw [upd_same, take_snoc hy, List.filter_append, List.map_append]
          have z : [(p, q, f)].filter (fun x => decide (x.2.2.vol = v) && decide (x.2.2.dir = 1 + (m : Int))) = [(p, q, f)] := List.filter_cons_of_pos (by show (decide _ && decide _) = true; rw [decide_eq_true h1, decide_eq_true h2]; rfl)
          rw [z]
          rfl
        · walk_at "run1"
          rename_i h1 h2
          refine ⟨s', ?_⟩
          rw [q3, take_snoc hy, List.filter_append]
          have z : [(p, q, f)].filter (fun x => decide (x.2.2.vol = v) && decide (x.2.2.dir = 1 + (m : Int))) = [] := List.filter_cons_of_neg (by show ¬ (decide _ && decide _) = true; rw [decide_eq_false h2, Bool.and_false]; exact Bool.false_ne_true)
          rw [z, List.append_nil]
        · walk_at "run1"
          rename_i h1
          refine ⟨s', ?_⟩
          rw [q3, take_snoc hy, List.filter_append]
          have z : [(p, q, f)].filter (fun x => decide (x.2.2.vol = v) && decide (x.2.2.dir = 1 + (m : Int))) = [] := List.filter_cons_of_neg (by show ¬ (decide _ && decide _) = true; rw [decide_eq_false h1, Bool.false_and]; exact Bool.false_ne_true)
          rw [z, List.append_nil]
      rintro E H7 hE ⟨s7, q3⟩
      rw [List.length_map, List.take_length] at q3
      walk_at "run1"
      rename_i lz hlz
      refine ⟨_, _, rfl, rfl, .inl ⟨_, upd_same, SqL.of (upd_old q3 hlz), ?_⟩⟩
      rw [filter_any (g := fun f => decide (f.vol = v) && decide (f.dir = 1 + (m : Int)))]
      have s8 := same_updN (o := .lst []) s7 hlz
      generalize upd H7 lz _ = H8 at *
      have hn8 := hn.same (s0.trans (s36.trans s8))
      obtain ⟨dx8, i8⟩ := hn8.1
      walk_at "run1"
      refine w_S3 ⟨h, d, T, v, _, rfl, rfl, rfl, hn8, ?_⟩
      rw [hdat]
      walk_at "run1"
      all_goals first
        | (rename_i h; exact absurd rfl h)
        | exact ⟨s6.trans s8, _, _, _, _, _, rfl⟩
    · rintro σ H6 ⟨s6, v3, v4, v5, v6, v9, rfl⟩
      exact ⟨s5.trans s6, _, _, _, _, _, _, rfl⟩
  rintro σ H4 ⟨s4, v3, v4, v5, v6, v8, v9, rfl⟩
  walk_at "run1"
  rename_i tv htv
  have s5 := same_updN (o := .tup [.str "main", .str "b", .str "c"]) s4 htv
  have e5 : upd H4 tv (.tup [.str "main", .str "b", .str "c"]) tv = some (.tup [.str "main", .str "b", .str "c"]) := upd_same
  generalize upd H4 tv _ = H5 at *
  refine f_tup (xs := [.str "main", .str "b", .str "c"]) (fun j σ H' => Same H5 H' ∧ ∃ v3 v4 v5 v6 v8 v9, σ = [some (.ref h), some (.ref e), some (.ref l), v3, v4, v5, v6, some (.ref D), v8, v9, none])
    ⟨L2.Same.refl _, _, _, _, _, _, _, rfl⟩ (by rintro j σ H' _ ⟨s', _⟩; exact SqT.of (s' _ _ e5)) ?_ ?_
  · rintro j x σ H6 hx ⟨s6, v3, v4, v5, v6, v8, v9, rfl⟩
    have hy : ∃ v : Str, x = .str v := by
      have hm := List.mem_of_getElem? hx
      simp only [List.mem_cons, List.not_mem_nil, or_false] at hm
      rcases hm with h | h | h <;> exact ⟨_, h⟩
    obtain ⟨v, rfl⟩ := hy
    have s36 := s5.trans s6
    have eD6 := s36 _ _ eD
    have hn6 := hn.same (s0.trans s36)
    obtain ⟨dx6, i6⟩ := hn6.1
    walk_at "run1"
    refine w_S2 ⟨h, d, T, v, rfl, rfl, hn6, ?_⟩
    rw [hdat]
    walk_at "run1"
    refine l_list (xs := U.map fun x => V.ref x.1) (fun E i H' => Same H6 H' ∧ H' E = some (.lst (((U.take i).filter fun x => decide (x.2.2.vol = v)).map fun x => V.ref x.1))) (fun E hE => ⟨same_new hE, upd_same⟩) (fun E i H' _ hP => SqL.of (hP.1 _ _ eD6)) ?_ ?_
    · rintro E i x H' hE hx ⟨s', q3⟩
      obtain ⟨⟨p, q, f⟩, hy, rfl⟩ : ∃ y, U[i]? = some y ∧ x = V.ref y.1 := by
        rw [List.getElem?_map] at hx
        obtain ⟨y, h1, h2⟩ := Option.map_eq_some_iff.mp hx
        exact ⟨y, h1, h2.symm⟩
      have ep : H' p = some (.lst [.int f.own, .str f.vol, .int f.dir, .ref q]) := (((t.same s0).same s36).same s').ent _ (List.mem_of_getElem? hy)
      have li : (((U.take i).filter fun x => decide (x.2.2.vol = v)).map fun x => V.ref x.1).length ≤ i := by rw [List.length_map]; exact Nat.le_trans (List.length_filter_le _ _) (by rw [List.length_take]; omega)
      have hi : i < U.length := (List.getElem?_eq_some_iff.mp hy).1
      walk_at "run1"
      refine ⟨rfl, ?_⟩
      walk_at "run1"
      · rename_i h1
        refine ⟨_, q3, lt_line (by omega), same_upd s' hE, ?_⟩
        rw [upd_same, take_snoc hy, List.filter_append, List.map_append]
        have z : [(p, q, f)].filter (fun x => decide (x.2.2.vol = v)) = [(p, q, f)] := List.filter_cons_of_pos (by show decide _ = true; rw [decide_eq_true h1])
        rw [z]
        rfl
      · walk_at "run1"
        rename_i h1
        refine ⟨s', ?_⟩
        rw [q3, take_snoc hy, List.filter_append]
        have z : [(p, q, f)].filter (fun x => decide (x.2.2.vol = v)) = [] := List.filter_cons_of_neg (by show ¬ decide _ = true; rw [decide_eq_false h1]; exact Bool.false_ne_true)
        rw [z, List.append_nil]
    rintro E H7 hE ⟨s7, q3⟩
    rw [List.length_map, List.take_length] at q3
    walk_at "run1"
    rename_i lz hlz
    refine ⟨_, _, rfl, rfl, .inl ⟨_, upd_same, SqL.of (upd_old q3 hlz), ?_⟩⟩
    rw [filter_any (g := fun f => decide (f.vol = v))]
    have s8 := same_updN (o := .lst []) s7 hlz
    generalize upd H7 lz _ = H8 at *
    walk_at "run1"
    all_goals first
      | (rename_i h; exact absurd rfl h)
      | exact ⟨s6.trans s8, _, _, _, _, _, _, rfl⟩
  rintro σ H6 ⟨s6, v3, v4, v5, v6, v8, v9, rfl⟩
  have s56 := s5.trans s6
  walk_at "run1"
  refine f_range (fun m σ H' => Same H3 H' ∧ ∃ v3 v4 v5 v6 v8 v9 v10, σ = [some (.ref h), some (.ref e), some (.ref l), v3, v4, v5, v6, some (.ref D), v8, v9, v10]) ⟨s56, _, _, _, _, _, _, _, rfl⟩ ?_ ?_
  · rintro m σ H6 hm ⟨s36, v3, v4, v5, v6, v8, v9, v10, rfl⟩
    have eD6 := s36 _ _ eD
    have hn6 := hn.same (s0.trans s36)
    obtain ⟨dx6, i6⟩ := hn6.1
    walk_at "run1"
    refine w_S2 ⟨h, d, T, _, rfl, rfl, hn6, ?_⟩
    rw [hdat]
    walk_at "run1"
    refine l_list (xs := U.map fun x => V.ref x.1) (fun E i H' => Same H6 H' ∧ H' E = some (.lst (((U.take i).filter fun x => decide (x.2.2.own = 0 + (m : Int))).map fun x => V.ref x.1))) (fun E hE => ⟨same_new hE, upd_same⟩) (fun E i H' _ hP => SqL.of (hP.1 _ _ eD6)) ?_ ?_
    · rintro E i x H' hE hx ⟨s', q3⟩
      obtain ⟨⟨p, q, f⟩, hy, rfl⟩ : ∃ y, U[i]? = some y ∧ x = V.ref y.1 := by
        rw [List.getElem?_map] at hx
        obtain ⟨y, h1, h2⟩ := Option.map_eq_some_iff.mp hx
        exact ⟨y, h1, h2.symm⟩
      have ep : H' p = some (.lst [.int f.own, .str f.vol, .int f.dir, .ref q]) := (((t.same s0).same s36).same s').ent _ (List.mem_of_getElem? hy)
      have li : (((U.take i).filter fun x => decide (x.2.2.own = 0 + (m : Int))).map fun x => V.ref x.1).length ≤ i := by rw [List.length_map]; exact Nat.le_trans (List.length_filter_le _ _) (by rw [List.length_take]; omega)
      have hi : i < U.length := (List.getElem?_eq_some_iff.mp hy).1
      walk_at "run1"
      refine ⟨rfl, ?_⟩
      walk_at "run1"
      · rename_i h1
        refine ⟨_, q3, lt_line (by omega), same_upd s' hE, ?_⟩
        rw [upd_same, take_snoc hy, List.filter_append, List.map_append]
        have z : [(p, q, f)].filter (fun x => decide (x.2.2.own = 0 + (m : Int))) = [(p, q, f)] := List.filter_cons_of_pos (by show decide _ = true; rw [decide_eq_true h1])
        rw [z]
        rfl
      · walk_at "run1"
        rename_i h1
        refine ⟨s', ?_⟩
        rw [q3, take_snoc hy, List.filter_append]
        have z : [(p, q, f)].filter (fun x => decide (x.2.2.own = 0 + (m : Int))) = [] := List.filter_cons_of_neg (by show ¬ decide _ = true; rw [decide_eq_false h1]; exact Bool.false_ne_true)
        rw [z, List.append_nil]
    rintro E H7 hE ⟨s7, q3⟩
    rw [List.length_map, List.take_length] at q3
    walk_at "run1"
    rename_i lz hlz
    refine ⟨_, _, rfl, rfl, .inl ⟨_, upd_same, SqL.of (upd_old q3 hlz), ?_⟩⟩
    rw [filter_any (g := fun f => decide (f.own = 0 + (m : Int)))]
    have s8 := same_updN (o := .lst []) s7 hlz
    generalize upd H7 lz _ = H8 at *
    walk_at "run1"
    all_goals first
      | (rename_i h; exact absurd rfl h)
      | exact ⟨s36.trans s8, _, _, _, _, _, _, _, rfl⟩
  rintro σ H7 ⟨s37, v3, v4, v5, v6, v8, v9, v10, rfl⟩
  walk_at "run1"
  exact k H7 (s0.trans s37)
theorem least_ex (ks : List Int) : LeastI ks (leastI ks) := by
  have h : ∃ n, LeastI ks n := by
    refine Classical.byContradiction fun no => ?_
    have all : ∀ k j : Nat, j < k → (j : Int) ∈ ks := by
      intro k
      induction k with
      | zero => exact fun j hj => absurd hj (Nat.not_lt_zero _)
      | succ k ih =>
        intro j hj
        rcases Nat.lt_succ_iff_lt_or_eq.mp hj with q | q
        · exact ih j q
        · rw [q]
          refine Classical.byContradiction fun nm => no ⟨k, nm, ih⟩
    have := low_lenP (all (ks.length + 1))
    omega
  obtain ⟨n, hn⟩ := h
  rw [hn.is]
  exact hn
theorem OkP.set {D : List PD} (x : OkP D) {i : Nat} {f : PD} (h : OkF f.fs) : OkP (D.set i f) := fun g hg => by
  rcases List.mem_or_eq_of_mem_set hg with q | q
  · exact x g q
  · rw [q]; exact h
theorem stepP_len (D : List PD) (k n z : Int) (h : D.length ≤ 4) : (stepP D k n z).1.length ≤ 4 := by
  unfold stepP
  split
  · exact h
  · split
    · split
      · exact h
      · show (D ++ _).length ≤ 4
        rw [List.length_append]
        show D.length + 1 ≤ 4
        omega
    · split
      · split
        · exact h
        · show (List.set _ _ _).length ≤ 4
          rw [List.length_set]; exact h
      · split
        · split
          · show (List.set _ _ _).length ≤ 4
            rw [List.length_set]; exact h
          · exact h
        · split
          · show (List.set _ _ _).length ≤ 4
            rw [List.length_set]; exact h
          · split
            · show (List.set _ _ _).length ≤ 4
              rw [List.length_set]; exact h
            · exact h
theorem stepP_ok (D : List PD) (k n z : Int) (h : OkP D) : OkP (stepP D k n z).1 := by
  unfold stepP
  split
  · exact h
  · rename_i f hf
    obtain ⟨i, rfl, hi⟩ := atP_some hf
    have of : OkF f.fs := h f (List.mem_of_getElem? hi)
    split
    · split
      · exact h
      · intro g hg
        rcases List.mem_append.mp hg with q | q
        · exact h g q
        · rw [List.mem_singleton.mp q]; exact of
    · split
      · split
        · exact h
        · rename_i hg
          refine h.set ⟨?_, by rw [List.length_append]; show f.fs.length + 1 ≤ 8; omega⟩
          unfold keysF
          rw [List.map_append]
          exact List.nodup_append.mpr ⟨of.1, by simp, fun a ha b hb e => by
            have hb : b = (leastI (keysF f.fs) : Int) := List.mem_singleton.mp hb
            rw [e, hb] at ha
            exact (least_ex (keysF f.fs)).1 ha⟩
      · split
        · split
          · have sub : (delF f.fs (z % 10 - 1)).Sublist f.fs := List.filter_sublist
            exact h.set ⟨(sub.map _).nodup of.1, Nat.le_trans sub.length_le of.2⟩
          · exact h
        · split
          · exact h.set of
          · split
            · exact h.set of
            · exact h
/-- both tables, apart from one another, and the script's list -/
structure WldP (C : Ex) (H : Hp) (h d e : Addr) (T U : PT) (sl : Addr) (ns : List Int) : Prop where
  hn : PrAt C H h d T
  tb : TpAt H e U
  dj : ∀ b ∈ pF e U, b ∉ pF d T
  hsl : H sl = some (.lst (ns.map V.int))
  s1 : sl ∉ pF d T
  s2 : sl ∉ pF e U
section wld
variable {C : Ex} {H H' : Hp} {h d e sl : Addr} {T T' U U' : PT} {ns : List Int}
theorem WldP.same (x : WldP C H h d e T U sl ns) (s : Same H H') : WldP C H' h d e T U sl ns := ⟨x.hn.same s, x.tb.same s, x.dj, s _ _ x.hsl, x.s1, x.s2⟩
theorem WldP.prog (x : WldP C H h d e T U sl ns) (hn : PrAt C H' h d T') (st : Stp (pF d T) H (pF d T') H') : WldP C H' h d e T' U sl ns := by
  obtain ⟨a, b⟩ := x.tb.stp x.dj st
  obtain ⟨c, f⟩ := st.keep x.hsl x.s1
  exact ⟨hn, a, b, c, f, x.s2⟩
theorem WldP.nh (x : WldP C H h d e T U sl ns) : h ∉ pF e U := fun hb => by
  obtain ⟨dx, i⟩ := x.hn.1
  rcases x.tb.obj hb with ⟨k, q⟩ | ⟨_, _, _, _, q⟩
  · rw [q] at i; cases i
  · rw [q] at i; cases i
theorem WldP.own (x : WldP C H h d e T U sl ns) (t : TpAt H' e U') (st : Stp (pF e U) H (pF e U') H') : WldP C H' h d e T U' sl ns := by
  obtain ⟨a, b⟩ := x.hn.2.stp (fun b hb q => x.dj b q hb) st
  obtain ⟨c, f⟩ := st.keep x.hsl x.s2
  exact ⟨⟨x.hn.1.imp fun _ i => (st.keep i x.nh).1, a⟩, t, fun b' hb q => b b' q hb, c, x.s1, f⟩
/-- a deed's list is none of a table's objects -/
theorem TpAt.out3 {a b c : V} {l : Addr} (t : TpAt H d T) (h : H l = some (.lst [a, b, c])) : l ∉ pF d T := fun hb => by
  rcases t.obj hb with ⟨k, q⟩ | ⟨_, _, _, _, q⟩
  · rw [q] at h; cases h
  · rw [q] at h
    have := congrArg List.length (HO.lst.inj (Option.some.inj h))
    simp at this
theorem WldP.wr3 {a b c : V} {l : Addr} {o : HO} (x : WldP C H h d e T U sl ns) (hl : H l = some (.lst [a, b, c])) (n : l ≠ sl) : WldP C (upd H l o) h d e T U sl ns := by
  have o1 := x.hn.2.out3 hl
  have o2 := x.tb.out3 hl
  have ne : ∀ {b' : Addr} {F : List Addr}, b' ∈ F → l ∉ F → b' ≠ l := fun h1 h2 e => h2 (by rw [← e]; exact h1)
  obtain ⟨dx, i⟩ := x.hn.1
  refine ⟨x.hn.wr o1 (ne_of i hl fun z => nomatch z), ⟨upd_oth x.tb.dict (ne pF_d o2), fun y hy => upd_oth (x.tb.ent y hy) (ne (pF_ent hy) o2), fun y hy => upd_oth (x.tb.fd y hy) (ne (pF_fd hy) o2), x.tb.n1, x.tb.n2⟩, x.dj, upd_oth x.hsl n.symm, x.s1, x.s2⟩
end wld
theorem w_world {σ : L2.St} {H : Hp} {Q : VK} (k : ∀ H' d p q, TpAt H' d [(p, q, ⟨0, "main", 1, []⟩)] → Same H H' → (∀ b ∈ pF d [(p, q, (⟨0, "main", 1, []⟩ : PD))], H b = none) → Q (.ref d) H') :
    tDisp [(tC (V.int 0), tLst (tCons (tC (V.int 0)) (tCons (tC (V.str "main")) (tCons (tC (V.int 1)) (tCons tDNewK tNil)))))] σ H Q := by
  intro d hd
  have e0 : upd H d (.dK []) d = some (.dK []) := upd_same
  unfold tPairs
  walk_at "run1"
  rename_i q hq p hp
  have e1 : upd (upd H d (.dK [])) q (.dK []) q = some (.dK []) := upd_same
  have e10 := upd_old (o := .dK []) e0 hq
  have hq0 : H q = none := by
    cases z : H q with
    | none => rfl
    | some o => rw [upd_old (o := .dK []) z hd] at hq; cases hq
  have f1 : ∀ c o, H c = some o → upd (upd H d (.dK [])) q (.dK []) c = some o := fun c o e => upd_old (upd_old e hd) hq
  have nqd : q ≠ d := fun e => by rw [e, e0] at hq; cases hq
  generalize upd (upd H d (.dK [])) q (.dK []) = H1 at *
  have e2 : upd H1 p (.lst [.int 0, .str "main", .int 1, .ref q]) p = some (prO (p, q, ⟨0, "main", 1, []⟩)) := upd_same
  have e21 := upd_old (o := .lst [.int 0, .str "main", .int 1, .ref q]) e1 hp
  have e20 := upd_old (o := .lst [.int 0, .str "main", .int 1, .ref q]) e10 hp
  have hp0 : H p = none := by
    cases z : H p with
    | none => rfl
    | some o => rw [f1 _ _ z] at hp; cases hp
  have f2 : ∀ c o, H c = some o → upd H1 p (.lst [.int 0, .str "main", .int 1, .ref q]) c = some o := fun c o e => upd_old (f1 c o e) hp
  have npd : p ≠ d := fun e => by rw [e, e10] at hp; cases hp
  generalize upd H1 p (.lst [.int 0, .str "main", .int 1, .ref q]) = H2 at *
  unfold tPairs
  refine ⟨e20, [(.inl 0, .ref p)], rfl, by show 1 ≤ 15; decide, ?_⟩
  have f3 : Same H (upd H2 d (.dK (mergeK [] [(.inl 0, V.ref p)]))) := fun c o e => upd_oth (f2 c o e) fun z => by rw [z, hd] at e; cases e
  have e3 : upd H2 d (.dK (mergeK [] [(.inl 0, V.ref p)])) d = some (.dK (kvN 0 [(p, q, ⟨0, "main", 1, []⟩)])) := upd_same
  have e32 := upd_oth (o := .dK (mergeK [] [(.inl 0, V.ref p)])) e2 npd
  have e31 := upd_oth (o := .dK (mergeK [] [(.inl 0, V.ref p)])) e21 nqd
  generalize upd H2 d (.dK (mergeK [] [(.inl 0, V.ref p)])) = H3 at *
  refine k _ d p q ⟨e3, fun x hx => ?_, fun x hx => ?_, by simp, ?_⟩ f3 (fun b hb => ?_)
  · rw [List.mem_singleton.mp hx]
    exact e32
  · rw [List.mem_singleton.mp hx]
    exact e31
  · exact List.nodup_cons.mpr ⟨fun m => nqd (List.mem_singleton.mp m).symm, List.nodup_cons.mpr ⟨fun m => (by cases m), List.nodup_nil⟩⟩
  · rcases pF_cases hb with rfl | ⟨y, hy, rfl⟩ | ⟨y, hy, rfl⟩
    · exact hd
    · rw [List.mem_singleton.mp hy]; exact hp0
    · rw [List.mem_singleton.mp hy]; exact hq0
abbrev sp_law (K : PySem.W.Frag) (_ : Ex) : Sp := spLaw K
def t_law (K : PySem.W.Frag) (C : Ex) (E : XK) : TS :=
  tSeq (tAsg (uMake C.Handles (sp_Handles___init__ K C) (WB E) (tNil)) (gName 1))
  (tSeq (tAsg (uMake C.Processes (sp_Processes___init__ K C) (WB E) (tCons (tC (.str "main")) (tNil))) (gName 2))
  (tSeq (tAsg (tDisp ((tC (.int 0), tLst (tCons (tC (.int 0)) (tCons (tC (.str "main")) (tCons (tC (.int 1)) (tCons (tDNewK) (tNil)))))) :: [])) (gName 3))
  (tSeq (tIfS (tNot (uTru K (uCall (sp__law_shows K C) (WB E) (tCons (tVar 2) (tCons (tVar 3) (tNil)))))) (tRet (tC (.bl false))) (tNext))
  (tSeq (tFor (iList K (tSl (uSl K) (tVar 0) (tNoPart) (tPart (tC (.int 60))))) (gName 4)
  (tSeq (tAsg (tOp (uDiv) (tCB (uInt) (tCons (tVar 4) (tNil))) (tC (.int 8))) (gName 5))
  (tSeq (tAsg (tOp (uMod) (tVar 5) (tC (.int 6))) (gName 6))
  (tCut (tIfS (tTest (tOp (uEq K) (tVar 6) (tC (.int 5)))) (tAsg (tC (.int 255)) (gName 6)) (tNext))
  (tSeq (tAsg (tLst (tCons (tOp (uMod) (tOp (uMod) (tCB (uInt) (tCons (tVar 4) (tNil))) (tC (.int 8))) (tC (.int 6))) (tCons (tVar 6) (tCons (tOp (uMod) (tOp (uDiv) (tVar 5) (tC (.int 6))) (tC (.int 32))) (tNil))))) (gName 7))
  (tCut (tIfS (tAnd (tTest (tOp (uEq K) (tOp (uIx K) (tVar 7) (tC (.int 0))) (tC (.int 0)))) (tAnd (tTest (tOp (uIn K) (tVar 6) (tVar 3))) (tTest (tOp (uNeO K) (tOp (uIx K) (tDGet (tVar 3) (tVar 6)) (tC (.int 3))) (tDNewK))))) (tAsg (tC (.int 5)) (gSub (tVar 7) (tC (.int 0)) uSet)) (tNext))
  (tIfS (tTest (tOp (uNe K) (uCall (sp__law_play K C) (WB E) (tCons (tVar 1) (tCons (tVar 2) (tCons (tVar 7) (tNil))))) (uCall (sp__law_due K C) (WB E) (tCons (tVar 3) (tCons (tVar 7) (tNil)))))) (tRet (tC (.bl false))) (tNext))))))))
  (tRet (tAndV (uCall (sp__law_shows K C) (WB E) (tCons (tVar 2) (tCons (tVar 3) (tNil)))) (uCall (sp__law_shows K C) (WB E) (tCons (tVar 2) (tCons (tVar 3) (tNil))))))))))
theorem pure_law {K : PySem.W.Frag} {C : Ex} {vs : List V} {H : Hp} {Q : VK} {E : XK} (F : Fa K C) (h : sp_law K C vs H Q E) : t_law K C E { nx := fun _ H' => Q .non H', rt := Q } (start ["_law_script", "_law_handles", "_law_processes", "_law_world", "_law_cell", "_law_rest", "_law_process", "_law_deed"] vs) H := by
  obtain ⟨a0, rfl, p, ns, rfl, hS, hn0, kk⟩ := h
  unfold t_law
  walk_at "run1"
  intro hh dxh ha hb hne
  refine w_S1 ⟨hh, dxh, rfl, upd_same, fun H1 f1 => ⟨rfl, ?_⟩⟩
  have s1 : Same H H1 := fun b o q => f1 b o (by rw [upd_ne (ne_of_none q ha), upd_ne (ne_of_none q hb)]; exact q) (ne_of_none q ha)
  have hS1 := s1.seq hS
  walk_at "run1"
  intro h dx hc hd0 hne2
  refine w_S2 ⟨h, dx, "main", rfl, rfl, upd_same, fun H2 d p0 q0 hn2 f2 fr2 => ⟨rfl, ?_⟩⟩
  have s2 : Same H1 H2 := fun b o q => f2 b o (by rw [upd_ne (ne_of_none q hc), upd_ne (ne_of_none q hd0)]; exact q) (ne_of_none q hc)
  have hS2 := s2.seq hS1
  walk_at "run1"
  refine w_world fun H3 e p1 q1 t3 s3 fr3 => ?_
  have hS3 := s3.seq hS2
  have hn3 := hn2.same s3
  have dj : ∀ b ∈ pF e [(p1, q1, (⟨0, "main", 1, []⟩ : PD))], b ∉ pF d [(p0, q0, ⟨0, "main", 1, []⟩)] := fun b hb => hn2.2.fresh (fr3 b hb)
  have ok0 : OkP [⟨0, "main", 1, []⟩] := fun f hf => by
    rw [List.mem_singleton.mp hf]
    exact ⟨List.nodup_nil, by show 0 ≤ 8; decide⟩
  walk_at "run1"
  refine w_S2 ⟨h, d, e, _, _, rfl, rfl, hn3, t3, rfl, dj e pF_d, by show 1 < 64; decide, ok0, fun H4 s4 => ?_⟩
  have hS4 := s4.seq hS3
  walk_at "run1"
  refine w_slL hS4 fun sl hsl => ?_
  rw [show cutV (ns.map V.int) none (some 60) = (ns.take 60).map V.int by
    have z := cut_take (ns.map V.int) 60
    rw [show (((60 : Nat)) : Int) = 60 from rfl] at z
    rw [z, List.map_take]]
  have X0 : WldP C (upd H4 sl (.lst ((ns.take 60).map V.int))) h d e [(p0, q0, ⟨0, "main", 1, []⟩)] [(p1, q1, ⟨0, "main", 1, []⟩)] sl (ns.take 60) := by
    have s5 := same_new (o := .lst ((ns.take 60).map V.int)) hsl
    exact ⟨(hn3.same s4).same s5, (t3.same s4).same s5, dj, upd_same, (hn3.same s4).2.fresh hsl, (t3.same s4).fresh hsl⟩
  generalize upd H4 sl _ = H5 at *
  clear hS hS1 hS2 hS3 hS4 hn2 hn3 t3 s1 s2 s3 s4 f1 f2 fr2 fr3 hsl ha hb hc hd0 dj hne hne2
  generalize ns.take 60 = ms at *
  have hsl5 := X0.hsl
  walk_at "run1"
  refine f_list (xs := ms.map V.int) (fun j σ H' => ∃ (T U : PT) (v4 v5 v6 v7 : Option V), σ = [some (.ref p), some (.ref hh), some (.ref h), some (.ref e), v4, v5, v6, v7] ∧ WldP C H' h d e T U sl ms ∧ datP T = datP U ∧ T.length ≤ 4 ∧ OkP (datP U))
    ⟨_, _, none, none, none, none, rfl, X0, rfl, by show 1 ≤ 4; decide, ok0⟩ (by rintro j σ H' _ ⟨_, _, _, _, _, _, _, x, _⟩; exact SqL.of x.hsl) ?_ ?_
  · rintro j x σ H6 hx ⟨T, U, v4, v5, v6, v7, rfl, X, hdat, hl, ok⟩
    obtain ⟨cell, hcell, rfl⟩ := at_int hx
    have hU : U.length = T.length := by rw [← datP_len, ← datP_len, hdat]
    walk_at "run1"
    refine w_cut (fun σ H' => H' = H6 ∧ ∃ n : Int, σ = [some (.ref p), some (.ref hh), some (.ref h), some (.ref e), some (.int cell), some (.int (cell / 8)), some (.int n), v7]) ?_ ?_
    · walk_at "run1"
      · exact ⟨rfl, _, rfl⟩
      · walk_at "run1"
        exact ⟨rfl, _, rfl⟩
    · rintro σ H' ⟨rfl, n, rfl⟩
      have hd6 := X.tb.dict
      walk_at "run1"
      rename_i l hl7
      have s7 := same_new (o := .lst [.int (cell % 8 % 6), .int n, .int (cell / 8 / 6 % 32)]) hl7
      have e7 : upd H' l (.lst [.int (cell % 8 % 6), .int n, .int (cell / 8 / 6 % 32)]) l = some (.lst [.int (cell % 8 % 6), .int n, .int (cell / 8 / 6 % 32)]) := upd_same
      have nsl : l ≠ sl := fun q => by rw [q, X.hsl] at hl7; cases hl7
      have X7 := X.same s7
      have hd7 := s7 _ _ hd6
      generalize upd H' l _ = H7 at *
      have k0 : 0 ≤ cell % 8 % 6 := by omega
      generalize cell % 8 % 6 = k at *
      generalize cell / 8 / 6 % 32 = z at *
      refine w_cut (fun σ H' => (∃ k : Int, 0 ≤ k ∧ H' l = some (.lst [.int k, .int n, .int z]) ∧ PreP (datP U) k n) ∧ WldP C H' h d e T U sl ms ∧ σ = [some (.ref p), some (.ref hh), some (.ref h), some (.ref e), some (.int cell), some (.int (cell / 8)), some (.int n), some (.ref l)]) ?_ ?_
      · walk_at "run1"
        · rename_i hk0
          rw [valV_P]
          cases hf : atP U n with
          | none =>
            rw [show (Option.map (fun x : Addr × Addr × PD => V.ref x.1) none).isSome = false from rfl]
            walk_at "run1"
            exact ⟨⟨k, k0, e7, fun _ f h1 => by rw [atP_dat, hf] at h1; cases h1⟩, X7, rfl⟩
          | some pf =>
            obtain ⟨pp, qq, f⟩ := pf
            obtain ⟨i, rfl, ht⟩ := atP_some hf
            rw [show (Option.map (fun x : Addr × Addr × PD => V.ref x.1) (some (pp, qq, f))).isSome = true from rfl]
            have ep : H7 pp = some (.lst [.int f.own, .str f.vol, .int f.dir, .ref qq]) := X7.tb.ent _ (List.mem_of_getElem? ht)
            have eq : H7 qq = some (.dK (fsK f.fs)) := X7.tb.fd _ (List.mem_of_getElem? ht)
            walk_at "run1"
            refine w_dgetI hd7 (val_i ht) ?_
            walk_at "run1"
            rename_i lz hlz
            have s8 := same_new (o := .dK []) hlz
            have eq8 := s8 _ _ eq
            have e8 := s8 _ _ e7
            have X8 := X7.same s8
            refine ⟨_, _, rfl, rfl, .inr ⟨fsK f.fs, eq8, upd_same, ?_⟩⟩
            generalize upd H7 lz _ = H8 at *
            cases hfs : f.fs with
            | nil =>
              rw [show (!(fsK []).isEmpty) = false from rfl]
              walk_at "run1"
              exact ⟨⟨k, k0, e8, fun _ g h1 => by
                rw [atP_dat, hf] at h1
                cases h1
                exact hfs⟩, X8, rfl⟩
            | cons y ys =>
              rw [show (!(fsK (y :: ys)).isEmpty) = true from rfl]
              walk_at "run1"
              refine w_setL e8 ⟨by decide, by show 0 < 3; decide⟩ ?_
              exact ⟨⟨5, by decide, upd_same, fun h5 => absurd h5 (by decide)⟩, X8.wr3 e8 nsl, rfl⟩
        · rename_i hk0
          walk_at "run1"
          exact ⟨⟨k, k0, e7, fun h => absurd h hk0⟩, X7, rfl⟩
      · rintro σ H8 ⟨⟨k, k0, e8, pre⟩, X8, rfl⟩
        obtain ⟨dx8, i8⟩ := X8.hn.1
        walk_at "run1"
        refine w_S3 ⟨h, d, T, l, k, n, z, rfl, rfl, X8.hn, e8, k0, by rw [hdat]; exact pre, by rw [hdat]; exact ok, by omega, fun H9 T' w1 ed hn9 st9 a1 => ?_⟩
        have X9 := X8.prog hn9 st9
        have e9 := (st9.keep e8 (X8.hn.2.out3 e8)).1
        walk_at "run1"
        refine w_S2 ⟨e, U, l, k, n, z, rfl, rfl, X9.tb, e9, k0, pre, ok, by omega, fun H10 U' w2 eu t10 st10 a2 => ?_⟩
        have X10 := X9.own t10 st10
        have a17 := a1.stp X9.tb st10
        rw [← hdat] at a2 eu
        refine w_neD a17.dt a2.dt (by decide) (by obtain ⟨l, e, _⟩ := a1; exact ⟨l, e⟩) ?_
        rw [decide_eq_true rfl]
        walk_at "run1"
        refine ⟨T', U', _, _, _, _, rfl, X10, by rw [ed, eu], ?_, ?_⟩
        · rw [← datP_len, ed]
          exact stepP_len _ _ _ _ (by rw [datP_len]; exact hl)
        · rw [eu, hdat]
          exact stepP_ok _ _ _ _ ok
  · rintro σ H6 ⟨T, U, v4, v5, v6, v7, rfl, X, hdat, hl, ok⟩
    walk_at "run1"
    refine w_S2 ⟨h, d, e, T, U, rfl, rfl, X.hn, X.tb, hdat, X.dj e pF_d, by omega, ok, fun H7 s7 => ?_⟩
    have X7 := X.same s7
    walk_at "run1"
    refine w_S2 ⟨h, d, e, T, U, rfl, rfl, X7.hn, X7.tb, hdat, X7.dj e pF_d, by omega, ok, fun H8 s8 => ?_⟩
    walk_at "run1"
    exact kk _
def topS (i : Nat) : Stmt := PySem.Challenge.pw_laminae_k56_processes.main.body.getD i (.Pass ⟨0, 0, 0, 0⟩)
abbrev s_Handles___init__ : Stmt := inClass (topS 8) 0
theorem sc_Handles___init__ : FnScope ["self"] ["self"] (defScope s_Handles___init__) := ⟨rfl, rfl, rfl, by decide +kernel, rfl, by decide +kernel, by decide +kernel⟩
abbrev s_Handles__look : Stmt := inClass (topS 8) 1
theorem sc_Handles__look : FnScope ["self", "number"] ["self", "number"] (defScope s_Handles__look) := ⟨rfl, rfl, rfl, by decide +kernel, rfl, by decide +kernel, by decide +kernel⟩
abbrev s_Handles_add_reference : Stmt := inClass (topS 8) 6
theorem sc_Handles_add_reference : FnScope ["self", "number", "file"] ["self", "number"] (defScope s_Handles_add_reference) := ⟨rfl, rfl, rfl, by decide +kernel, rfl, by decide +kernel, by decide +kernel⟩
abbrev s_Processes___init__ : Stmt := inClass (topS 12) 0
theorem sc_Processes___init__ : FnScope ["self", "volume"] ["self", "volume"] (defScope s_Processes___init__) := ⟨rfl, rfl, rfl, by decide +kernel, rfl, by decide +kernel, by decide +kernel⟩
abbrev s_Processes__look : Stmt := inClass (topS 12) 1
theorem sc_Processes__look : FnScope ["self", "process"] ["self", "process"] (defScope s_Processes__look) := ⟨rfl, rfl, rfl, by decide +kernel, rfl, by decide +kernel, by decide +kernel⟩
abbrev s_Processes_list_processes : Stmt := inClass (topS 12) 2
theorem sc_Processes_list_processes : FnScope ["self", "processes", "process", "owner", "volume", "directory", "files", "descriptors", "descriptor"] ["self"] (defScope s_Processes_list_processes) := ⟨rfl, rfl, rfl, by decide +kernel, rfl, by decide +kernel, by decide +kernel⟩
abbrev s_Processes_look_up : Stmt := inClass (topS 12) 3
theorem sc_Processes_look_up : FnScope ["self", "process", "owner", "volume", "directory", "_"] ["self", "process"] (defScope s_Processes_look_up) := ⟨rfl, rfl, rfl, by decide +kernel, rfl, by decide +kernel, by decide +kernel⟩
abbrev s_Processes_set_owner : Stmt := inClass (topS 12) 4
theorem sc_Processes_set_owner : FnScope ["self", "process", "owner", "entry"] ["self", "process", "owner"] (defScope s_Processes_set_owner) := ⟨rfl, rfl, rfl, by decide +kernel, rfl, by decide +kernel, by decide +kernel⟩
abbrev s_Processes_set_directory : Stmt := inClass (topS 12) 5
theorem sc_Processes_set_directory : FnScope ["self", "process", "volume", "directory", "entry"] ["self", "process", "volume", "directory"] (defScope s_Processes_set_directory) := ⟨rfl, rfl, rfl, by decide +kernel, rfl, by decide +kernel, by decide +kernel⟩
abbrev s_Processes_has_room : Stmt := inClass (topS 12) 6
theorem sc_Processes_has_room : FnScope ["self", "process"] ["self", "process"] (defScope s_Processes_has_room) := ⟨rfl, rfl, rfl, by decide +kernel, rfl, by decide +kernel, by decide +kernel⟩
abbrev s_Processes_add_descriptor : Stmt := inClass (topS 12) 7
theorem sc_Processes_add_descriptor : FnScope ["self", "process", "number", "files", "descriptor"] ["self", "process", "number"] (defScope s_Processes_add_descriptor) := ⟨rfl, rfl, rfl, by decide +kernel, rfl, by decide +kernel, by decide +kernel⟩
abbrev s_Processes_find_open_file : Stmt := inClass (topS 12) 8
theorem sc_Processes_find_open_file : FnScope ["self", "process", "descriptor", "files"] ["self", "process", "descriptor"] (defScope s_Processes_find_open_file) := ⟨rfl, rfl, rfl, by decide +kernel, rfl, by decide +kernel, by decide +kernel⟩
abbrev s_Processes_drop_descriptor : Stmt := inClass (topS 12) 9
theorem sc_Processes_drop_descriptor : FnScope ["self", "process", "descriptor", "number", "files"] ["self", "process", "descriptor"] (defScope s_Processes_drop_descriptor) := ⟨rfl, rfl, rfl, by decide +kernel, rfl, by decide +kernel, by decide +kernel⟩
abbrev s_Processes_works_in : Stmt := inClass (topS 12) 10
theorem sc_Processes_works_in : FnScope ["self", "volume", "directory", "process"] ["self", "volume", "directory"] (defScope s_Processes_works_in) := ⟨rfl, rfl, rfl, by decide +kernel, rfl, by decide +kernel, by decide +kernel⟩
abbrev s_Processes_uses_volume : Stmt := inClass (topS 12) 11
theorem sc_Processes_uses_volume : FnScope ["self", "volume", "process"] ["self", "volume"] (defScope s_Processes_uses_volume) := ⟨rfl, rfl, rfl, by decide +kernel, rfl, by decide +kernel, by decide +kernel⟩
abbrev s_Processes_uses_owner : Stmt := inClass (topS 12) 12
theorem sc_Processes_uses_owner : FnScope ["self", "owner", "process"] ["self", "owner"] (defScope s_Processes_uses_owner) := ⟨rfl, rfl, rfl, by decide +kernel, rfl, by decide +kernel, by decide +kernel⟩
abbrev s_Processes_copy_process : Stmt := inClass (topS 12) 13
theorem sc_Processes_copy_process : FnScope ["self", "process", "owner", "volume", "directory", "files", "number"] ["self", "process"] (defScope s_Processes_copy_process) := ⟨rfl, rfl, rfl, by decide +kernel, rfl, by decide +kernel, by decide +kernel⟩
abbrev s_Processes_descriptors : Stmt := inClass (topS 12) 15
theorem sc_Processes_descriptors : FnScope ["self", "process"] ["self", "process"] (defScope s_Processes_descriptors) := ⟨rfl, rfl, rfl, by decide +kernel, rfl, by decide +kernel, by decide +kernel⟩
abbrev s_fork : Stmt := topS 13
theorem sc_fork : FnScope ["handles", "processes", "process", "number", "descriptor"] ["handles", "processes", "process"] (defScope s_fork) := ⟨rfl, rfl, rfl, by decide +kernel, rfl, by decide +kernel, by decide +kernel⟩
abbrev s__law_classes : Stmt := topS 15
theorem sc__law_classes : FnScope ["_law_error", "_law_found_here"] ["_law_error"] (defScope s__law_classes) := ⟨rfl, rfl, rfl, by decide +kernel, rfl, by decide +kernel, by decide +kernel⟩
abbrev s__law_play : Stmt := topS 16
theorem sc__law_play : FnScope ["_law_handles", "_law_processes", "_law_deed", "_law_error"] ["_law_handles", "_law_processes", "_law_deed"] (defScope s__law_play) := ⟨rfl, rfl, rfl, by decide +kernel, rfl, by decide +kernel, by decide +kernel⟩
abbrev s__law_least : Stmt := topS 17
theorem sc__law_least : FnScope ["_law_numbers", "_law_number"] ["_law_numbers"] (defScope s__law_least) := ⟨rfl, rfl, rfl, by decide +kernel, rfl, by decide +kernel, by decide +kernel⟩
abbrev s__law_due_descriptor : Stmt := topS 18
theorem sc__law_due_descriptor : FnScope ["_law_entry", "_law_deed", "_law_least_here", "_law_used", "_law_descriptor"] ["_law_entry", "_law_deed"] (defScope s__law_due_descriptor) := ⟨rfl, rfl, rfl, by decide +kernel, rfl, by decide +kernel, by decide +kernel⟩
abbrev s__law_due : Stmt := topS 19
theorem sc__law_due : FnScope ["_law_world", "_law_deed", "_law_entry", "_law_least_here"] ["_law_world", "_law_deed"] (defScope s__law_due) := ⟨rfl, rfl, rfl, by decide +kernel, rfl, by decide +kernel, by decide +kernel⟩
abbrev s__law_rows : Stmt := topS 20
theorem sc__law_rows : FnScope ["_law_world", "_law_rows_here", "_law_process", "_law_entry", "_law_used", "_law_descriptor"] ["_law_world"] (defScope s__law_rows) := ⟨rfl, rfl, rfl, by decide +kernel, rfl, by decide +kernel, by decide +kernel⟩
abbrev s__law_found : Stmt := topS 21
theorem sc__law_found : FnScope ["_law_processes", "_law_process", "_law_descriptor"] ["_law_processes", "_law_process", "_law_descriptor"] (defScope s__law_found) := ⟨rfl, rfl, rfl, by decide +kernel, rfl, by decide +kernel, by decide +kernel⟩
abbrev s__law_shows : Stmt := topS 22
theorem sc__law_shows : FnScope ["_law_processes", "_law_world", "_law_rows_here", "_law_process", "_law_entry", "_law_descriptor", "_law_due_here", "_law_entries", "_law_number", "_law_volume", "_law_owner"] ["_law_processes", "_law_world"] (defScope s__law_shows) := ⟨rfl, rfl, rfl, by decide +kernel, rfl, by decide +kernel, by decide +kernel⟩
abbrev s_law : Stmt := topS 23
theorem sc_law : FnScope ["_law_script", "_law_handles", "_law_processes", "_law_world", "_law_cell", "_law_rest", "_law_process", "_law_deed"] ["_law_script"] (defScope s_law) := ⟨rfl, rfl, rfl, by decide +kernel, rfl, by decide +kernel, by decide +kernel⟩
structure Adr where
  ex : Ex
  f_Handles___init__ : Addr
  d_Handles___init__ : FuncData
  f_Handles__look : Addr
  d_Handles__look : FuncData
  f_Handles_add_reference : Addr
  d_Handles_add_reference : FuncData
  f_Processes___init__ : Addr
  d_Processes___init__ : FuncData
  f_Processes__look : Addr
  d_Processes__look : FuncData
  f_Processes_list_processes : Addr
  d_Processes_list_processes : FuncData
  f_Processes_look_up : Addr
  d_Processes_look_up : FuncData
  f_Processes_set_owner : Addr
  d_Processes_set_owner : FuncData
  f_Processes_set_directory : Addr
  d_Processes_set_directory : FuncData
  f_Processes_has_room : Addr
  d_Processes_has_room : FuncData
  f_Processes_add_descriptor : Addr
  d_Processes_add_descriptor : FuncData
  f_Processes_find_open_file : Addr
  d_Processes_find_open_file : FuncData
  f_Processes_drop_descriptor : Addr
  d_Processes_drop_descriptor : FuncData
  f_Processes_works_in : Addr
  d_Processes_works_in : FuncData
  f_Processes_uses_volume : Addr
  d_Processes_uses_volume : FuncData
  f_Processes_uses_owner : Addr
  d_Processes_uses_owner : FuncData
  f_Processes_copy_process : Addr
  d_Processes_copy_process : FuncData
  f_Processes_descriptors : Addr
  d_Processes_descriptors : FuncData
  f_fork : Addr
  d_fork : FuncData
  f__law_classes : Addr
  d__law_classes : FuncData
  f__law_play : Addr
  d__law_play : FuncData
  f__law_least : Addr
  d__law_least : FuncData
  f__law_due_descriptor : Addr
  d__law_due_descriptor : FuncData
  f__law_due : Addr
  d__law_due : FuncData
  f__law_rows : Addr
  d__law_rows : FuncData
  f__law_found : Addr
  d__law_found : FuncData
  f__law_shows : Addr
  d__law_shows : FuncData
  f_law : Addr
  d_law : FuncData
structure Top (K : PySem.W.Frag) (mg : Str → Option Value) (A : Adr) : Prop where
  F_Handles___init__ : Fun K "__init__" "Handles.__init__" s_Handles___init__ A.f_Handles___init__ A.d_Handles___init__
  b_Handles___init__ : Binds K A.d_Handles___init__ ["self"] []
  F_Handles__look : Fun K "_look" "Handles._look" s_Handles__look A.f_Handles__look A.d_Handles__look
  b_Handles__look : Binds K A.d_Handles__look ["self", "number"] []
  m_Handles__look : Meth K A.ex.Handles "_look" A.f_Handles__look
  F_Handles_add_reference : Fun K "add_reference" "Handles.add_reference" s_Handles_add_reference A.f_Handles_add_reference A.d_Handles_add_reference
  b_Handles_add_reference : Binds K A.d_Handles_add_reference ["self", "number"] []
  m_Handles_add_reference : Meth K A.ex.Handles "add_reference" A.f_Handles_add_reference
  F_Processes___init__ : Fun K "__init__" "Processes.__init__" s_Processes___init__ A.f_Processes___init__ A.d_Processes___init__
  b_Processes___init__ : Binds K A.d_Processes___init__ ["self", "volume"] []
  F_Processes__look : Fun K "_look" "Processes._look" s_Processes__look A.f_Processes__look A.d_Processes__look
  b_Processes__look : Binds K A.d_Processes__look ["self", "process"] []
  m_Processes__look : Meth K A.ex.Processes "_look" A.f_Processes__look
  F_Processes_list_processes : Fun K "list_processes" "Processes.list_processes" s_Processes_list_processes A.f_Processes_list_processes A.d_Processes_list_processes
  b_Processes_list_processes : Binds K A.d_Processes_list_processes ["self"] []
  m_Processes_list_processes : Meth K A.ex.Processes "list_processes" A.f_Processes_list_processes
  F_Processes_look_up : Fun K "look_up" "Processes.look_up" s_Processes_look_up A.f_Processes_look_up A.d_Processes_look_up
  b_Processes_look_up : Binds K A.d_Processes_look_up ["self", "process"] []
  m_Processes_look_up : Meth K A.ex.Processes "look_up" A.f_Processes_look_up
  F_Processes_set_owner : Fun K "set_owner" "Processes.set_owner" s_Processes_set_owner A.f_Processes_set_owner A.d_Processes_set_owner
  b_Processes_set_owner : Binds K A.d_Processes_set_owner ["self", "process", "owner"] []
  m_Processes_set_owner : Meth K A.ex.Processes "set_owner" A.f_Processes_set_owner
  F_Processes_set_directory : Fun K "set_directory" "Processes.set_directory" s_Processes_set_directory A.f_Processes_set_directory A.d_Processes_set_directory
  b_Processes_set_directory : Binds K A.d_Processes_set_directory ["self", "process", "volume", "directory"] []
  m_Processes_set_directory : Meth K A.ex.Processes "set_directory" A.f_Processes_set_directory
  F_Processes_has_room : Fun K "has_room" "Processes.has_room" s_Processes_has_room A.f_Processes_has_room A.d_Processes_has_room
  b_Processes_has_room : Binds K A.d_Processes_has_room ["self", "process"] []
  m_Processes_has_room : Meth K A.ex.Processes "has_room" A.f_Processes_has_room
  F_Processes_add_descriptor : Fun K "add_descriptor" "Processes.add_descriptor" s_Processes_add_descriptor A.f_Processes_add_descriptor A.d_Processes_add_descriptor
  b_Processes_add_descriptor : Binds K A.d_Processes_add_descriptor ["self", "process", "number"] []
  m_Processes_add_descriptor : Meth K A.ex.Processes "add_descriptor" A.f_Processes_add_descriptor
  F_Processes_find_open_file : Fun K "find_open_file" "Processes.find_open_file" s_Processes_find_open_file A.f_Processes_find_open_file A.d_Processes_find_open_file
  b_Processes_find_open_file : Binds K A.d_Processes_find_open_file ["self", "process", "descriptor"] []
  m_Processes_find_open_file : Meth K A.ex.Processes "find_open_file" A.f_Processes_find_open_file
  F_Processes_drop_descriptor : Fun K "drop_descriptor" "Processes.drop_descriptor" s_Processes_drop_descriptor A.f_Processes_drop_descriptor A.d_Processes_drop_descriptor
  b_Processes_drop_descriptor : Binds K A.d_Processes_drop_descriptor ["self", "process", "descriptor"] []
  m_Processes_drop_descriptor : Meth K A.ex.Processes "drop_descriptor" A.f_Processes_drop_descriptor
  F_Processes_works_in : Fun K "works_in" "Processes.works_in" s_Processes_works_in A.f_Processes_works_in A.d_Processes_works_in
  b_Processes_works_in : Binds K A.d_Processes_works_in ["self", "volume", "directory"] []
  m_Processes_works_in : Meth K A.ex.Processes "works_in" A.f_Processes_works_in
  F_Processes_uses_volume : Fun K "uses_volume" "Processes.uses_volume" s_Processes_uses_volume A.f_Processes_uses_volume A.d_Processes_uses_volume
  b_Processes_uses_volume : Binds K A.d_Processes_uses_volume ["self", "volume"] []
  m_Processes_uses_volume : Meth K A.ex.Processes "uses_volume" A.f_Processes_uses_volume
  F_Processes_uses_owner : Fun K "uses_owner" "Processes.uses_owner" s_Processes_uses_owner A.f_Processes_uses_owner A.d_Processes_uses_owner
  b_Processes_uses_owner : Binds K A.d_Processes_uses_owner ["self", "owner"] []
  m_Processes_uses_owner : Meth K A.ex.Processes "uses_owner" A.f_Processes_uses_owner
  F_Processes_copy_process : Fun K "copy_process" "Processes.copy_process" s_Processes_copy_process A.f_Processes_copy_process A.d_Processes_copy_process
  b_Processes_copy_process : Binds K A.d_Processes_copy_process ["self", "process"] []
  m_Processes_copy_process : Meth K A.ex.Processes "copy_process" A.f_Processes_copy_process
  F_Processes_descriptors : Fun K "descriptors" "Processes.descriptors" s_Processes_descriptors A.f_Processes_descriptors A.d_Processes_descriptors
  b_Processes_descriptors : Binds K A.d_Processes_descriptors ["self", "process"] []
  m_Processes_descriptors : Meth K A.ex.Processes "descriptors" A.f_Processes_descriptors
  F_fork : Fun K "fork" "fork" s_fork A.f_fork A.d_fork
  b_fork : Binds K A.d_fork ["handles", "processes", "process"] []
  g_fork : mg "fork" = some (.ref A.f_fork)
  F__law_classes : Fun K "_law_classes" "_law_classes" s__law_classes A.f__law_classes A.d__law_classes
  b__law_classes : Binds K A.d__law_classes ["_law_error"] []
  g__law_classes : mg "_law_classes" = some (.ref A.f__law_classes)
  F__law_play : Fun K "_law_play" "_law_play" s__law_play A.f__law_play A.d__law_play
  b__law_play : Binds K A.d__law_play ["_law_handles", "_law_processes", "_law_deed"] []
  g__law_play : mg "_law_play" = some (.ref A.f__law_play)
  F__law_least : Fun K "_law_least" "_law_least" s__law_least A.f__law_least A.d__law_least
  b__law_least : Binds K A.d__law_least ["_law_numbers"] []
  g__law_least : mg "_law_least" = some (.ref A.f__law_least)
  F__law_due_descriptor : Fun K "_law_due_descriptor" "_law_due_descriptor" s__law_due_descriptor A.f__law_due_descriptor A.d__law_due_descriptor
  b__law_due_descriptor : Binds K A.d__law_due_descriptor ["_law_entry", "_law_deed"] []
  g__law_due_descriptor : mg "_law_due_descriptor" = some (.ref A.f__law_due_descriptor)
  F__law_due : Fun K "_law_due" "_law_due" s__law_due A.f__law_due A.d__law_due
  b__law_due : Binds K A.d__law_due ["_law_world", "_law_deed"] []
  g__law_due : mg "_law_due" = some (.ref A.f__law_due)
  F__law_rows : Fun K "_law_rows" "_law_rows" s__law_rows A.f__law_rows A.d__law_rows
  b__law_rows : Binds K A.d__law_rows ["_law_world"] []
  g__law_rows : mg "_law_rows" = some (.ref A.f__law_rows)
  F__law_found : Fun K "_law_found" "_law_found" s__law_found A.f__law_found A.d__law_found
  b__law_found : Binds K A.d__law_found ["_law_processes", "_law_process", "_law_descriptor"] []
  g__law_found : mg "_law_found" = some (.ref A.f__law_found)
  F__law_shows : Fun K "_law_shows" "_law_shows" s__law_shows A.f__law_shows A.d__law_shows
  b__law_shows : Binds K A.d__law_shows ["_law_processes", "_law_world"] []
  g__law_shows : mg "_law_shows" = some (.ref A.f__law_shows)
  F_law : Fun K "law" "law" s_law A.f_law A.d_law
  b_law : Binds K A.d_law ["_law_script"] []
  g_law : mg "law" = some (.ref A.f_law)
  n_dict : mg "dict" = none
  n_int : mg "int" = none
  n_isinstance : mg "isinstance" = none
  n_len : mg "len" = none
  n_list : mg "list" = none
  n_range : mg "range" = none
  n_sorted : mg "sorted" = none
  k_MAX_DESCRIPTORS : ∃ t, mg "MAX_DESCRIPTORS" = some (.int 8 t)
  k_MAX_PROCESSES : ∃ t, mg "MAX_PROCESSES" = some (.int 4 t)
  k_ROOT : ∃ t, mg "ROOT" = some (.int 1 t)
  x_BadHandle : Exc K mg "BadHandle" A.ex.BadHandle
  x_LaminaError : Exc K mg "LaminaError" A.ex.LaminaError
  x_NoProcess : Exc K mg "NoProcess" A.ex.NoProcess
  x_TooMany : Exc K mg "TooMany" A.ex.TooMany
  n_Handles_files : NoAttr K A.ex.Handles "files"
  n_Processes_processes : NoAttr K A.ex.Processes "processes"
  c_Handles : Cls K A.ex.Handles
  M_Handles : Mk K A.ex.Handles A.f_Handles___init__
  gC_Handles : mg "Handles" = some (.ref A.ex.Handles)
  c_Processes : Cls K A.ex.Processes
  M_Processes : Mk K A.ex.Processes A.f_Processes___init__
  gC_Processes : mg "Processes" = some (.ref A.ex.Processes)
  fa : Fa K A.ex
section
variable {P : Program} {w : World} {K : PySem.W.Frag} {mg : Str → Option Value} {base : Heap} {A : Adr}
theorem ok_Handles___init__ (T : Top K mg A) : FnOk P w K mg base (L2.CX P w) 1 A.f_Handles___init__ A.d_Handles___init__ ["self"] (sp_Handles___init__ K A.ex) := by
  refine T.F_Handles___init__.okX sc_Handles___init__ (fun vs H Q E h => len1 h) (fun cdv Ar outer s H vs Q E hr h => ⟨t_Handles___init__ K A.ex E, ?_, pure_Handles___init__ T.fa h⟩)
  have tk : Takes (cxOf (L2.CX P w) P w K mg base ["self"] "Handles.__init__" (defScope s_Handles___init__) A.f_Handles___init__ cdv Ar outer s H E) (WB E) := takes_of rfl rfl rfl rfl
  exact pss_one (s_fld T.c_Handles T.n_Handles_files (pv 0) (pe_dnewK))
theorem ok_Handles__look (T : Top K mg A) : FnOk P w K mg base (L2.CX P w) 1 A.f_Handles__look A.d_Handles__look ["self", "number"] (sp_Handles__look K A.ex) := by
  refine T.F_Handles__look.okX sc_Handles__look (fun vs H Q E h => len2 h) (fun cdv Ar outer s H vs Q E hr h => ⟨t_Handles__look K A.ex E, ?_, pure_Handles__look T.fa h⟩)
  have tk : Takes (cxOf (L2.CX P w) P w K mg base ["self", "number"] "Handles._look" (defScope s_Handles__look) A.f_Handles__look cdv Ar outer s H E) (WB E) := takes_of rfl rfl rfl rfl
  have hu := hu_of hr
  exact pss_cons (ps_if (pt_cmpR (o_nin hu) (pv 1) (e_fld T.c_Handles T.n_Handles_files (pv 0)) (by rfl)) (pss_one (s_raise T.x_BadHandle tk)) (pss_nil))
        (pss_one (ps_ret (e_dg hu (e_fld T.c_Handles T.n_Handles_files (pv 0)) (pv 1))))
theorem ok_Handles_add_reference (T : Top K mg A) : FnOk P w K mg base (L2.CX P w) 2 A.f_Handles_add_reference A.d_Handles_add_reference ["self", "number"] (sp_Handles_add_reference K A.ex) := by
  refine T.F_Handles_add_reference.okX sc_Handles_add_reference (fun vs H Q E h => len2 h) (fun cdv Ar outer s H vs Q E hr h => ⟨t_Handles_add_reference K A.ex E, ?_, pure_Handles_add_reference T.fa h⟩)
  have tk : Takes (cxOf (L2.CX P w) P w K mg base ["self", "number", "file"] "Handles.add_reference" (defScope s_Handles_add_reference) A.f_Handles_add_reference cdv Ar outer s H E) (WB E) := takes_of rfl rfl rfl rfl
  have hu := hu_of hr
  exact pss_cons (ps_set (i := 2) sc_Handles_add_reference.nd rfl (Or.inl rfl) (e_meth (pv 0) T.c_Handles T.m_Handles__look (ok_Handles__look T) (hr.mono (by decide)) T.b_Handles__look tk (pa_cons (pv 1) (pa_nil))))
        (pss_one (ps_asg (pe_op o_add (e_ix (pv 2) (pe_int)) (pe_int)) (pg_sub (pv 2) (pe_int) (set_u hu))))
theorem ok_Processes___init__ (T : Top K mg A) : FnOk P w K mg base (L2.CX P w) 1 A.f_Processes___init__ A.d_Processes___init__ ["self", "volume"] (sp_Processes___init__ K A.ex) := by
  refine T.F_Processes___init__.okX sc_Processes___init__ (fun vs H Q E h => len2 h) (fun cdv Ar outer s H vs Q E hr h => ⟨t_Processes___init__ K A.ex E, ?_, pure_Processes___init__ T.fa h⟩)
  have tk : Takes (cxOf (L2.CX P w) P w K mg base ["self", "volume"] "Processes.__init__" (defScope s_Processes___init__) A.f_Processes___init__ cdv Ar outer s H E) (WB E) := takes_of rfl rfl rfl rfl
  exact pss_one (s_fld T.c_Processes T.n_Processes_processes (pv 0) (pe_disp (pps_cons (pe_int) (pe_lst (pa_cons (pe_int) (pa_cons (pv 1) (pa_cons (pe_glob rfl T.k_ROOT.choose_spec ⟨_, rfl⟩) (pa_cons (pe_dnewK) (pa_nil)))))) (pps_nil)) (by rfl) (by rfl) (fun z => by cases z) (by decide)))
theorem ok_Processes__look (T : Top K mg A) : FnOk P w K mg base (L2.CX P w) 1 A.f_Processes__look A.d_Processes__look ["self", "process"] (sp_Processes__look K A.ex) := by
  refine T.F_Processes__look.okX sc_Processes__look (fun vs H Q E h => len2 h) (fun cdv Ar outer s H vs Q E hr h => ⟨t_Processes__look K A.ex E, ?_, pure_Processes__look T.fa h⟩)
  have tk : Takes (cxOf (L2.CX P w) P w K mg base ["self", "process"] "Processes._look" (defScope s_Processes__look) A.f_Processes__look cdv Ar outer s H E) (WB E) := takes_of rfl rfl rfl rfl
  have hu := hu_of hr
  exact pss_cons (ps_if (pt_cmpR (o_nin hu) (pv 1) (e_fld T.c_Processes T.n_Processes_processes (pv 0)) (by rfl)) (pss_one (s_raise T.x_NoProcess tk)) (pss_nil))
        (pss_one (ps_ret (e_dg hu (e_fld T.c_Processes T.n_Processes_processes (pv 0)) (pv 1))))
theorem ok_Processes_list_processes (T : Top K mg A) : FnOk P w K mg base (L2.CX P w) 1 A.f_Processes_list_processes A.d_Processes_list_processes ["self"] (sp_Processes_list_processes K A.ex) := by
  refine T.F_Processes_list_processes.okX sc_Processes_list_processes (fun vs H Q E h => len1 h) (fun cdv Ar outer s H vs Q E hr h => ⟨t_Processes_list_processes K A.ex E, ?_, pure_Processes_list_processes T.fa h⟩)
  have tk : Takes (cxOf (L2.CX P w) P w K mg base ["self", "processes", "process", "owner", "volume", "directory", "files", "descriptors", "descriptor"] "Processes.list_processes" (defScope s_Processes_list_processes) A.f_Processes_list_processes cdv Ar outer s H E) (WB E) := takes_of rfl rfl rfl rfl
  have po : PassesOwn (model P w) (cxOf (L2.CX P w) P w K mg base ["self", "processes", "process", "owner", "volume", "directory", "files", "descriptors", "descriptor"] "Processes.list_processes" (defScope s_Processes_list_processes) A.f_Processes_list_processes cdv Ar outer s H E).A (cxOf (L2.CX P w) P w K mg base ["self", "processes", "process", "owner", "volume", "directory", "files", "descriptors", "descriptor"] "Processes.list_processes" (defScope s_Processes_list_processes) A.f_Processes_list_processes cdv Ar outer s H E).env (cxOf (L2.CX P w) P w K mg base ["self", "processes", "process", "owner", "volume", "directory", "files", "descriptors", "descriptor"] "Processes.list_processes" (defScope s_Processes_list_processes) A.f_Processes_list_processes cdv Ar outer s H E).xe := passes_of rfl
  have hu := hu_of hr
  exact pss_cons (ps_set (i := 1) sc_Processes_list_processes.nd rfl (Or.inl rfl) (pe_lst (pa_nil)))
        (pss_cons (ps_for po rfl (pi_list (pe_callB (c_sortD rfl) (by rfl) T.n_sorted (by decide +kernel) (pa_cons (e_fld T.c_Processes T.n_Processes_processes (pv 0)) (pa_nil)))) (pg_name (i := 2) sc_Processes_list_processes.nd rfl (Or.inl rfl))
        (pss_cons (ps_asg (e_dg hu (e_fld T.c_Processes T.n_Processes_processes (pv 0)) (pv 2)) (pg_lst rfl (pgs_cons (pg_name (i := 3) sc_Processes_list_processes.nd rfl (Or.inl rfl)) (pgs_cons (pg_name (i := 4) sc_Processes_list_processes.nd rfl (Or.inl rfl)) (pgs_cons (pg_name (i := 5) sc_Processes_list_processes.nd rfl (Or.inl rfl)) (pgs_cons (pg_name (i := 6) sc_Processes_list_processes.nd rfl (Or.inr rfl)) (pgs_nil)))))))
        (pss_cons (ps_setLc (i := 7) (own := [("descriptor", 8)]) (by rfl) sc_Processes_list_processes.nd rfl rfl (sw_true rfl rfl rfl (by decide +kernel)) (pi_list (pe_callB (c_sortD rfl) (by rfl) T.n_sorted (by decide +kernel) (pa_cons (pv 6) (pa_nil)))) (blkOk_by (N := ["self", "processes", "process", "owner", "volume", "directory", "files", "descriptors", "descriptor"]) (sc := defScope s_Processes_list_processes) (by decide +kernel)) (fun _ _ _ _ _ => pg_name (i := 8) sc_Processes_list_processes.nd rfl (Or.inl rfl)) (fun _ _ _ _ _ => pts_nil) (fun _ _ _ _ _ => pe_tup (pa_cons (pv 8) (pa_cons (e_dg hu (pv 6) (pv 8)) (pa_nil)))))
        (pss_one (ps_expr (pe_bm PySem.F.plainAttrs_list PySem.F.slot_list_append PySem.F.type_list_append mt_append (pv 1) (pa_cons (pe_tup (pa_cons (pv 2) (pa_cons (pv 3) (pa_cons (pv 4) (pa_cons (pv 5) (pa_cons (pv 7) (pa_nil))))))) (pa_nil))))))))
        (pss_one (ps_ret (pv 1))))
theorem ok_Processes_look_up (T : Top K mg A) : FnOk P w K mg base (L2.CX P w) 2 A.f_Processes_look_up A.d_Processes_look_up ["self", "process"] (sp_Processes_look_up K A.ex) := by
  refine T.F_Processes_look_up.okX sc_Processes_look_up (fun vs H Q E h => len2 h) (fun cdv Ar outer s H vs Q E hr h => ⟨t_Processes_look_up K A.ex E, ?_, pure_Processes_look_up T.fa h⟩)
  have tk : Takes (cxOf (L2.CX P w) P w K mg base ["self", "process", "owner", "volume", "directory", "_"] "Processes.look_up" (defScope s_Processes_look_up) A.f_Processes_look_up cdv Ar outer s H E) (WB E) := takes_of rfl rfl rfl rfl
  exact pss_cons (ps_asg (e_meth (pv 0) T.c_Processes T.m_Processes__look (ok_Processes__look T) (hr.mono (by decide)) T.b_Processes__look tk (pa_cons (pv 1) (pa_nil))) (pg_lst rfl (pgs_cons (pg_name (i := 2) sc_Processes_look_up.nd rfl (Or.inl rfl)) (pgs_cons (pg_name (i := 3) sc_Processes_look_up.nd rfl (Or.inl rfl)) (pgs_cons (pg_name (i := 4) sc_Processes_look_up.nd rfl (Or.inl rfl)) (pgs_cons (pg_name (i := 5) sc_Processes_look_up.nd rfl (Or.inl rfl)) (pgs_nil)))))))
        (pss_one (ps_ret (pe_tup (pa_cons (pv 2) (pa_cons (pv 3) (pa_cons (pv 4) (pa_nil)))))))
theorem ok_Processes_set_owner (T : Top K mg A) : FnOk P w K mg base (L2.CX P w) 2 A.f_Processes_set_owner A.d_Processes_set_owner ["self", "process", "owner"] (sp_Processes_set_owner K A.ex) := by
  refine T.F_Processes_set_owner.okX sc_Processes_set_owner (fun vs H Q E h => len3 h) (fun cdv Ar outer s H vs Q E hr h => ⟨t_Processes_set_owner K A.ex E, ?_, pure_Processes_set_owner T.fa h⟩)
  have tk : Takes (cxOf (L2.CX P w) P w K mg base ["self", "process", "owner", "entry"] "Processes.set_owner" (defScope s_Processes_set_owner) A.f_Processes_set_owner cdv Ar outer s H E) (WB E) := takes_of rfl rfl rfl rfl
  have hu := hu_of hr
  exact pss_cons (ps_set (i := 3) sc_Processes_set_owner.nd rfl (Or.inl rfl) (e_meth (pv 0) T.c_Processes T.m_Processes__look (ok_Processes__look T) (hr.mono (by decide)) T.b_Processes__look tk (pa_cons (pv 1) (pa_nil))))
        (pss_one (ps_asg (pv 2) (pg_sub (pv 3) (pe_int) (set_u hu))))
theorem ok_Processes_set_directory (T : Top K mg A) : FnOk P w K mg base (L2.CX P w) 2 A.f_Processes_set_directory A.d_Processes_set_directory ["self", "process", "volume", "directory"] (sp_Processes_set_directory K A.ex) := by
  refine T.F_Processes_set_directory.okX sc_Processes_set_directory (fun vs H Q E h => len4 h) (fun cdv Ar outer s H vs Q E hr h => ⟨t_Processes_set_directory K A.ex E, ?_, pure_Processes_set_directory T.fa h⟩)
  have tk : Takes (cxOf (L2.CX P w) P w K mg base ["self", "process", "volume", "directory", "entry"] "Processes.set_directory" (defScope s_Processes_set_directory) A.f_Processes_set_directory cdv Ar outer s H E) (WB E) := takes_of rfl rfl rfl rfl
  have hu := hu_of hr
  exact pss_cons (ps_set (i := 4) sc_Processes_set_directory.nd rfl (Or.inl rfl) (e_meth (pv 0) T.c_Processes T.m_Processes__look (ok_Processes__look T) (hr.mono (by decide)) T.b_Processes__look tk (pa_cons (pv 1) (pa_nil))))
        (pss_cons (ps_asg (pv 2) (pg_sub (pv 4) (pe_int) (set_u hu)))
        (pss_one (ps_asg (pv 3) (pg_sub (pv 4) (pe_int) (set_u hu)))))
theorem ok_Processes_has_room (T : Top K mg A) : FnOk P w K mg base (L2.CX P w) 2 A.f_Processes_has_room A.d_Processes_has_room ["self", "process"] (sp_Processes_has_room K A.ex) := by
  refine T.F_Processes_has_room.okX sc_Processes_has_room (fun vs H Q E h => len2 h) (fun cdv Ar outer s H vs Q E hr h => ⟨t_Processes_has_room K A.ex E, ?_, pure_Processes_has_room T.fa h⟩)
  have tk : Takes (cxOf (L2.CX P w) P w K mg base ["self", "process"] "Processes.has_room" (defScope s_Processes_has_room) A.f_Processes_has_room cdv Ar outer s H E) (WB E) := takes_of rfl rfl rfl rfl
  have hu := hu_of hr
  have hl := Nat.lt_of_succ_lt hu
  exact pss_one (ps_ret (pe_cmpR (o_lt hl) (pe_callB (c_len) (by rfl) T.n_len (by decide +kernel) (pa_cons (e_ix (e_meth (pv 0) T.c_Processes T.m_Processes__look (ok_Processes__look T) (hr.mono (by decide)) T.b_Processes__look tk (pa_cons (pv 1) (pa_nil))) (pe_int)) (pa_nil))) (pe_glob rfl T.k_MAX_DESCRIPTORS.choose_spec ⟨_, rfl⟩) (nomark _)))
theorem ok_Processes_add_descriptor (T : Top K mg A) : FnOk P w K mg base (L2.CX P w) 2 A.f_Processes_add_descriptor A.d_Processes_add_descriptor ["self", "process", "number"] (sp_Processes_add_descriptor K A.ex) := by
  refine T.F_Processes_add_descriptor.okX sc_Processes_add_descriptor (fun vs H Q E h => len3 h) (fun cdv Ar outer s H vs Q E hr h => ⟨t_Processes_add_descriptor K A.ex E, ?_, pure_Processes_add_descriptor T.fa h⟩)
  have tk : Takes (cxOf (L2.CX P w) P w K mg base ["self", "process", "number", "files", "descriptor"] "Processes.add_descriptor" (defScope s_Processes_add_descriptor) A.f_Processes_add_descriptor cdv Ar outer s H E) (WB E) := takes_of rfl rfl rfl rfl
  have po : PassesOwn (model P w) (cxOf (L2.CX P w) P w K mg base ["self", "process", "number", "files", "descriptor"] "Processes.add_descriptor" (defScope s_Processes_add_descriptor) A.f_Processes_add_descriptor cdv Ar outer s H E).A (cxOf (L2.CX P w) P w K mg base ["self", "process", "number", "files", "descriptor"] "Processes.add_descriptor" (defScope s_Processes_add_descriptor) A.f_Processes_add_descriptor cdv Ar outer s H E).env (cxOf (L2.CX P w) P w K mg base ["self", "process", "number", "files", "descriptor"] "Processes.add_descriptor" (defScope s_Processes_add_descriptor) A.f_Processes_add_descriptor cdv Ar outer s H E).xe := passes_of rfl
  have hu := hu_of hr
  have hl := Nat.lt_of_succ_lt hu
  exact pss_cons (ps_set (i := 3) sc_Processes_add_descriptor.nd rfl (Or.inl rfl) (e_ix (e_meth (pv 0) T.c_Processes T.m_Processes__look (ok_Processes__look T) (hr.mono (by decide)) T.b_Processes__look tk (pa_cons (pv 1) (pa_nil))) (pe_int)))
        (pss_cons (ps_if (pt_cmpR (o_ge hl) (pe_callB (c_len) (by rfl) T.n_len (by decide +kernel) (pa_cons (pv 3) (pa_nil))) (pe_glob rfl T.k_MAX_DESCRIPTORS.choose_spec ⟨_, rfl⟩) (nomark _)) (pss_one (s_raise T.x_TooMany tk)) (pss_nil))
        (pss_cons (ps_set (i := 4) sc_Processes_add_descriptor.nd rfl (Or.inl rfl) (pe_int))
        (pss_cons (ps_while po (pt_cmpR (o_in hu) (pv 4) (pv 3) (by rfl))
        (pss_one (ps_set (i := 4) sc_Processes_add_descriptor.nd rfl (Or.inl rfl) (pe_op o_add (pv 4) (pe_int)))))
        (pss_cons (ps_dput hu (pv 3) (pv 4) (pv 2) rfl)
        (pss_one (ps_ret (pv 4)))))))
theorem ok_Processes_find_open_file (T : Top K mg A) : FnOk P w K mg base (L2.CX P w) 2 A.f_Processes_find_open_file A.d_Processes_find_open_file ["self", "process", "descriptor"] (sp_Processes_find_open_file K A.ex) := by
  refine T.F_Processes_find_open_file.okX sc_Processes_find_open_file (fun vs H Q E h => len3 h) (fun cdv Ar outer s H vs Q E hr h => ⟨t_Processes_find_open_file K A.ex E, ?_, pure_Processes_find_open_file T.fa h⟩)
  have tk : Takes (cxOf (L2.CX P w) P w K mg base ["self", "process", "descriptor", "files"] "Processes.find_open_file" (defScope s_Processes_find_open_file) A.f_Processes_find_open_file cdv Ar outer s H E) (WB E) := takes_of rfl rfl rfl rfl
  have hu := hu_of hr
  exact pss_cons (ps_set (i := 3) sc_Processes_find_open_file.nd rfl (Or.inl rfl) (e_ix (e_meth (pv 0) T.c_Processes T.m_Processes__look (ok_Processes__look T) (hr.mono (by decide)) T.b_Processes__look tk (pa_cons (pv 1) (pa_nil))) (pe_int)))
        (pss_cons (ps_if (pt_cmpR (o_nin hu) (pv 2) (pv 3) (by rfl)) (pss_one (s_raise T.x_BadHandle tk)) (pss_nil))
        (pss_one (ps_ret (e_dg hu (pv 3) (pv 2)))))
theorem ok_Processes_drop_descriptor (T : Top K mg A) : FnOk P w K mg base (L2.CX P w) 3 A.f_Processes_drop_descriptor A.d_Processes_drop_descriptor ["self", "process", "descriptor"] (sp_Processes_drop_descriptor K A.ex) := by
  refine T.F_Processes_drop_descriptor.okX sc_Processes_drop_descriptor (fun vs H Q E h => len3 h) (fun cdv Ar outer s H vs Q E hr h => ⟨t_Processes_drop_descriptor K A.ex E, ?_, pure_Processes_drop_descriptor T.fa h⟩)
  have tk : Takes (cxOf (L2.CX P w) P w K mg base ["self", "process", "descriptor", "number", "files"] "Processes.drop_descriptor" (defScope s_Processes_drop_descriptor) A.f_Processes_drop_descriptor cdv Ar outer s H E) (WB E) := takes_of rfl rfl rfl rfl
  exact pss_cons (ps_set (i := 3) sc_Processes_drop_descriptor.nd rfl (Or.inl rfl) (e_meth (pv 0) T.c_Processes T.m_Processes_find_open_file (ok_Processes_find_open_file T) (hr.mono (by decide)) T.b_Processes_find_open_file tk (pa_cons (pv 1) (pa_cons (pv 2) (pa_nil)))))
        (pss_cons (ps_set (i := 4) sc_Processes_drop_descriptor.nd rfl (Or.inl rfl) (e_ix (e_meth (pv 0) T.c_Processes T.m_Processes__look (ok_Processes__look T) (hr.mono (by decide)) T.b_Processes__look tk (pa_cons (pv 1) (pa_nil))) (pe_int)))
        (pss_cons (ps_ddel (pv 4) (pv 2))
        (pss_one (ps_ret (pv 3)))))
theorem ok_Processes_works_in (T : Top K mg A) : FnOk P w K mg base (L2.CX P w) 1 A.f_Processes_works_in A.d_Processes_works_in ["self", "volume", "directory"] (sp_Processes_works_in K A.ex) := by
  refine T.F_Processes_works_in.okX sc_Processes_works_in (fun vs H Q E h => len3 h) (fun cdv Ar outer s H vs Q E hr h => ⟨t_Processes_works_in K A.ex E, ?_, pure_Processes_works_in T.fa h⟩)
  have tk : Takes (cxOf (L2.CX P w) P w K mg base ["self", "volume", "directory", "process"] "Processes.works_in" (defScope s_Processes_works_in) A.f_Processes_works_in cdv Ar outer s H E) (WB E) := takes_of rfl rfl rfl rfl
  have po : PassesOwn (model P w) (cxOf (L2.CX P w) P w K mg base ["self", "volume", "directory", "process"] "Processes.works_in" (defScope s_Processes_works_in) A.f_Processes_works_in cdv Ar outer s H E).A (cxOf (L2.CX P w) P w K mg base ["self", "volume", "directory", "process"] "Processes.works_in" (defScope s_Processes_works_in) A.f_Processes_works_in cdv Ar outer s H E).env (cxOf (L2.CX P w) P w K mg base ["self", "volume", "directory", "process"] "Processes.works_in" (defScope s_Processes_works_in) A.f_Processes_works_in cdv Ar outer s H E).xe := passes_of rfl
  have hu := hu_of hr
  exact pss_cons (ps_lock (ps_for po rfl (pi_keys (e_fld T.c_Processes T.n_Processes_processes (pv 0))) (pg_name (i := 3) sc_Processes_works_in.nd rfl (Or.inl rfl))
        (pss_one (ps_if (PW.pt (pw_and (pt_cmpR (o_eq hr.units) (e_ix (e_dg hu (e_fld T.c_Processes T.n_Processes_processes (pv 0)) (pv 3)) (pe_int)) (pv 1) (nomark _)) (pw_and1 (pt_cmpR (o_eq hr.units) (e_ix (e_dg hu (e_fld T.c_Processes T.n_Processes_processes (pv 0)) (pv 3)) (pe_int)) (pv 2) (nomark _))))) (pss_one (ps_ret (pe_bl))) (pss_nil)))))
        (pss_one (ps_ret (pe_bl)))
theorem ok_Processes_uses_volume (T : Top K mg A) : FnOk P w K mg base (L2.CX P w) 1 A.f_Processes_uses_volume A.d_Processes_uses_volume ["self", "volume"] (sp_Processes_uses_volume K A.ex) := by
  refine T.F_Processes_uses_volume.okX sc_Processes_uses_volume (fun vs H Q E h => len2 h) (fun cdv Ar outer s H vs Q E hr h => ⟨t_Processes_uses_volume K A.ex E, ?_, pure_Processes_uses_volume T.fa h⟩)
  have tk : Takes (cxOf (L2.CX P w) P w K mg base ["self", "volume", "process"] "Processes.uses_volume" (defScope s_Processes_uses_volume) A.f_Processes_uses_volume cdv Ar outer s H E) (WB E) := takes_of rfl rfl rfl rfl
  have po : PassesOwn (model P w) (cxOf (L2.CX P w) P w K mg base ["self", "volume", "process"] "Processes.uses_volume" (defScope s_Processes_uses_volume) A.f_Processes_uses_volume cdv Ar outer s H E).A (cxOf (L2.CX P w) P w K mg base ["self", "volume", "process"] "Processes.uses_volume" (defScope s_Processes_uses_volume) A.f_Processes_uses_volume cdv Ar outer s H E).env (cxOf (L2.CX P w) P w K mg base ["self", "volume", "process"] "Processes.uses_volume" (defScope s_Processes_uses_volume) A.f_Processes_uses_volume cdv Ar outer s H E).xe := passes_of rfl
  have hu := hu_of hr
  exact pss_cons (ps_lock (ps_for po rfl (pi_keys (e_fld T.c_Processes T.n_Processes_processes (pv 0))) (pg_name (i := 2) sc_Processes_uses_volume.nd rfl (Or.inl rfl))
        (pss_one (ps_if (pt_cmpR (o_eq hr.units) (e_ix (e_dg hu (e_fld T.c_Processes T.n_Processes_processes (pv 0)) (pv 2)) (pe_int)) (pv 1) (nomark _)) (pss_one (ps_ret (pe_bl))) (pss_nil)))))
        (pss_one (ps_ret (pe_bl)))
theorem ok_Processes_uses_owner (T : Top K mg A) : FnOk P w K mg base (L2.CX P w) 1 A.f_Processes_uses_owner A.d_Processes_uses_owner ["self", "owner"] (sp_Processes_uses_owner K A.ex) := by
  refine T.F_Processes_uses_owner.okX sc_Processes_uses_owner (fun vs H Q E h => len2 h) (fun cdv Ar outer s H vs Q E hr h => ⟨t_Processes_uses_owner K A.ex E, ?_, pure_Processes_uses_owner T.fa h⟩)
  have tk : Takes (cxOf (L2.CX P w) P w K mg base ["self", "owner", "process"] "Processes.uses_owner" (defScope s_Processes_uses_owner) A.f_Processes_uses_owner cdv Ar outer s H E) (WB E) := takes_of rfl rfl rfl rfl
  have po : PassesOwn (model P w) (cxOf (L2.CX P w) P w K mg base ["self", "owner", "process"] "Processes.uses_owner" (defScope s_Processes_uses_owner) A.f_Processes_uses_owner cdv Ar outer s H E).A (cxOf (L2.CX P w) P w K mg base ["self", "owner", "process"] "Processes.uses_owner" (defScope s_Processes_uses_owner) A.f_Processes_uses_owner cdv Ar outer s H E).env (cxOf (L2.CX P w) P w K mg base ["self", "owner", "process"] "Processes.uses_owner" (defScope s_Processes_uses_owner) A.f_Processes_uses_owner cdv Ar outer s H E).xe := passes_of rfl
  have hu := hu_of hr
  exact pss_cons (ps_lock (ps_for po rfl (pi_keys (e_fld T.c_Processes T.n_Processes_processes (pv 0))) (pg_name (i := 2) sc_Processes_uses_owner.nd rfl (Or.inl rfl))
        (pss_one (ps_if (pt_cmpR (o_eq hr.units) (e_ix (e_dg hu (e_fld T.c_Processes T.n_Processes_processes (pv 0)) (pv 2)) (pe_int)) (pv 1) (nomark _)) (pss_one (ps_ret (pe_bl))) (pss_nil)))))
        (pss_one (ps_ret (pe_bl)))
theorem ok_Processes_copy_process (T : Top K mg A) : FnOk P w K mg base (L2.CX P w) 2 A.f_Processes_copy_process A.d_Processes_copy_process ["self", "process"] (sp_Processes_copy_process K A.ex) := by
  refine T.F_Processes_copy_process.okX sc_Processes_copy_process (fun vs H Q E h => len2 h) (fun cdv Ar outer s H vs Q E hr h => ⟨t_Processes_copy_process K A.ex E, ?_, pure_Processes_copy_process T.fa h⟩)
  have tk : Takes (cxOf (L2.CX P w) P w K mg base ["self", "process", "owner", "volume", "directory", "files", "number"] "Processes.copy_process" (defScope s_Processes_copy_process) A.f_Processes_copy_process cdv Ar outer s H E) (WB E) := takes_of rfl rfl rfl rfl
  have po : PassesOwn (model P w) (cxOf (L2.CX P w) P w K mg base ["self", "process", "owner", "volume", "directory", "files", "number"] "Processes.copy_process" (defScope s_Processes_copy_process) A.f_Processes_copy_process cdv Ar outer s H E).A (cxOf (L2.CX P w) P w K mg base ["self", "process", "owner", "volume", "directory", "files", "number"] "Processes.copy_process" (defScope s_Processes_copy_process) A.f_Processes_copy_process cdv Ar outer s H E).env (cxOf (L2.CX P w) P w K mg base ["self", "process", "owner", "volume", "directory", "files", "number"] "Processes.copy_process" (defScope s_Processes_copy_process) A.f_Processes_copy_process cdv Ar outer s H E).xe := passes_of rfl
  have hu := hu_of hr
  have hl := Nat.lt_of_succ_lt hu
  exact pss_cons (ps_asg (e_meth (pv 0) T.c_Processes T.m_Processes__look (ok_Processes__look T) (hr.mono (by decide)) T.b_Processes__look tk (pa_cons (pv 1) (pa_nil))) (pg_lst rfl (pgs_cons (pg_name (i := 2) sc_Processes_copy_process.nd rfl (Or.inl rfl)) (pgs_cons (pg_name (i := 3) sc_Processes_copy_process.nd rfl (Or.inl rfl)) (pgs_cons (pg_name (i := 4) sc_Processes_copy_process.nd rfl (Or.inl rfl)) (pgs_cons (pg_name (i := 5) sc_Processes_copy_process.nd rfl (Or.inl rfl)) (pgs_nil)))))))
        (pss_cons (ps_if (pt_cmpR (o_ge hl) (pe_callB (c_len) (by rfl) T.n_len (by decide +kernel) (pa_cons (e_fld T.c_Processes T.n_Processes_processes (pv 0)) (pa_nil))) (pe_glob rfl T.k_MAX_PROCESSES.choose_spec ⟨_, rfl⟩) (nomark _)) (pss_one (s_raise T.x_TooMany tk)) (pss_nil))
        (pss_cons (ps_set (i := 6) sc_Processes_copy_process.nd rfl (Or.inl rfl) (pe_int))
        (pss_cons (ps_while po (pt_cmpR (o_in hu) (pv 6) (e_fld T.c_Processes T.n_Processes_processes (pv 0)) (by rfl))
        (pss_one (ps_set (i := 6) sc_Processes_copy_process.nd rfl (Or.inl rfl) (pe_op o_add (pv 6) (pe_int)))))
        (pss_cons (ps_dput hu (e_fld T.c_Processes T.n_Processes_processes (pv 0)) (pv 6) (pe_lst (pa_cons (pv 2) (pa_cons (pv 3) (pa_cons (pv 4) (pa_cons (pe_callTy (c_dict) (by rfl) T.n_dict (by decide +kernel) (pa_cons (pv 5) (pa_nil))) (pa_nil)))))) rfl)
        (pss_one (ps_ret (pv 6)))))))
theorem ok_Processes_descriptors (T : Top K mg A) : FnOk P w K mg base (L2.CX P w) 2 A.f_Processes_descriptors A.d_Processes_descriptors ["self", "process"] (sp_Processes_descriptors K A.ex) := by
  refine T.F_Processes_descriptors.okX sc_Processes_descriptors (fun vs H Q E h => len2 h) (fun cdv Ar outer s H vs Q E hr h => ⟨t_Processes_descriptors K A.ex E, ?_, pure_Processes_descriptors T.fa h⟩)
  have tk : Takes (cxOf (L2.CX P w) P w K mg base ["self", "process"] "Processes.descriptors" (defScope s_Processes_descriptors) A.f_Processes_descriptors cdv Ar outer s H E) (WB E) := takes_of rfl rfl rfl rfl
  exact pss_one (ps_ret (pe_callB (c_sortD rfl) (by rfl) T.n_sorted (by decide +kernel) (pa_cons (e_ix (e_meth (pv 0) T.c_Processes T.m_Processes__look (ok_Processes__look T) (hr.mono (by decide)) T.b_Processes__look tk (pa_cons (pv 1) (pa_nil))) (pe_int)) (pa_nil))))
theorem ok_fork (T : Top K mg A) : FnOk P w K mg base (L2.CX P w) 3 A.f_fork A.d_fork ["handles", "processes", "process"] (sp_fork K A.ex) := by
  refine T.F_fork.okX sc_fork (fun vs H Q E h => len3 h) (fun cdv Ar outer s H vs Q E hr h => ⟨t_fork K A.ex E, ?_, pure_fork T.fa h⟩)
  have tk : Takes (cxOf (L2.CX P w) P w K mg base ["handles", "processes", "process", "number", "descriptor"] "fork" (defScope s_fork) A.f_fork cdv Ar outer s H E) (WB E) := takes_of rfl rfl rfl rfl
  have po : PassesOwn (model P w) (cxOf (L2.CX P w) P w K mg base ["handles", "processes", "process", "number", "descriptor"] "fork" (defScope s_fork) A.f_fork cdv Ar outer s H E).A (cxOf (L2.CX P w) P w K mg base ["handles", "processes", "process", "number", "descriptor"] "fork" (defScope s_fork) A.f_fork cdv Ar outer s H E).env (cxOf (L2.CX P w) P w K mg base ["handles", "processes", "process", "number", "descriptor"] "fork" (defScope s_fork) A.f_fork cdv Ar outer s H E).xe := passes_of rfl
  exact pss_cons (ps_set (i := 3) sc_fork.nd rfl (Or.inl rfl) (e_meth (pv 1) T.c_Processes T.m_Processes_copy_process (ok_Processes_copy_process T) (hr.mono (by decide)) T.b_Processes_copy_process tk (pa_cons (pv 2) (pa_nil))))
        (pss_cons (ps_for po rfl (pi_list (e_meth (pv 1) T.c_Processes T.m_Processes_descriptors (ok_Processes_descriptors T) (hr.mono (by decide)) T.b_Processes_descriptors tk (pa_cons (pv 3) (pa_nil)))) (pg_name (i := 4) sc_fork.nd rfl (Or.inl rfl))
        (pss_one (ps_expr (e_meth (pv 0) T.c_Handles T.m_Handles_add_reference (ok_Handles_add_reference T) (hr.mono (by decide)) T.b_Handles_add_reference tk (pa_cons (e_meth (pv 1) T.c_Processes T.m_Processes_find_open_file (ok_Processes_find_open_file T) (hr.mono (by decide)) T.b_Processes_find_open_file tk (pa_cons (pv 3) (pa_cons (pv 4) (pa_nil)))) (pa_nil))))))
        (pss_one (ps_ret (pv 3))))
theorem okx__law_classes (T : Top K mg A) : FnX P w K mg base 1 A.f__law_classes A.d__law_classes ["_law_error"] (spx__law_classes K A.ex) := by
  refine okH T.F__law_classes sc__law_classes (fun a c vs H Q E h => len1 h) (fun cdv Ar outer s H vs Q E p cls hz hf hr h => ⟨tx__law_classes K A.ex p.1 cls E, ?_, purex__law_classes T.fa h⟩)
  exact pss_cons (ps_set (i := 1) sc__law_classes.nd rfl (Or.inl rfl) (pe_lst (pa_nil)))
        (pss_cut (ps_if (t_tru (pe_callB (c_isP (List.mem_cons_self ..) hz hf) (by rfl) T.n_isinstance (by decide +kernel) (pa_cons (pv 0) (pa_cons (pe_glob rfl T.x_BadHandle.g rfl) (pa_nil))))) (pss_one (ps_expr (pe_bm PySem.F.plainAttrs_list PySem.F.slot_list_append PySem.F.type_list_append mt_append (pv 1) (pa_cons (pe_str) (pa_nil))))) (pss_nil))
        (pss_cut (ps_if (t_tru (pe_callB (c_isP (List.mem_cons_self ..) hz hf) (by rfl) T.n_isinstance (by decide +kernel) (pa_cons (pv 0) (pa_cons (pe_glob rfl T.x_NoProcess.g rfl) (pa_nil))))) (pss_one (ps_expr (pe_bm PySem.F.plainAttrs_list PySem.F.slot_list_append PySem.F.type_list_append mt_append (pv 1) (pa_cons (pe_str) (pa_nil))))) (pss_nil))
        (pss_cut (ps_if (t_tru (pe_callB (c_isP (List.mem_cons_self ..) hz hf) (by rfl) T.n_isinstance (by decide +kernel) (pa_cons (pv 0) (pa_cons (pe_glob rfl T.x_TooMany.g rfl) (pa_nil))))) (pss_one (ps_expr (pe_bm PySem.F.plainAttrs_list PySem.F.slot_list_append PySem.F.type_list_append mt_append (pv 1) (pa_cons (pe_str) (pa_nil))))) (pss_nil))
        (pss_one (ps_ret (pv 1))))))
theorem ok__law_play (T : Top K mg A) : FnOk P w K mg base (L2.CX P w) 4 A.f__law_play A.d__law_play ["_law_handles", "_law_processes", "_law_deed"] (sp__law_play K A.ex) := by
  refine T.F__law_play.okX sc__law_play (fun vs H Q E h => len3 h) (fun cdv Ar outer s H vs Q E hr h => ⟨t__law_play K A.ex E, ?_, pure__law_play T.fa h⟩)
  have tk : Takes (cxOf (L2.CX P w) P w K mg base ["_law_handles", "_law_processes", "_law_deed", "_law_error"] "_law_play" (defScope s__law_play) A.f__law_play cdv Ar outer s H E) (WB E) := takes_of rfl rfl rfl rfl
  exact pss_cons (s_tryAs (i := 3) rfl rfl sc__law_play.nd rfl rfl ⟨rfl, by decide, Or.inl T.x_LaminaError.g⟩ tk (fun W pn xe tk po => pss_cons (ps_if (pt_cmpR (o_eq hr.units) (e_ix (pv 2) (pe_int)) (pe_int) (nomark _)) (pss_one (ps_ret (pe_lst (pa_cons (e_call (ok_fork T) (hr.mono (by decide)) T.g_fork T.F_fork.kp T.b_fork tk (pa_cons (pv 0) (pa_cons (pv 1) (pa_cons (e_ix (pv 2) (pe_int)) (pa_nil))))) (pa_nil))))) (pss_nil))
        (pss_cons (ps_if (pt_cmpR (o_eq hr.units) (e_ix (pv 2) (pe_int)) (pe_int) (nomark _)) (pss_one (ps_ret (pe_lst (pa_cons (e_meth (pv 1) T.c_Processes T.m_Processes_add_descriptor (ok_Processes_add_descriptor T) (hr.mono (by decide)) T.b_Processes_add_descriptor tk (pa_cons (e_ix (pv 2) (pe_int)) (pa_cons (e_ix (pv 2) (pe_int)) (pa_nil)))) (pa_nil))))) (pss_nil))
        (pss_cons (ps_if (pt_cmpR (o_eq hr.units) (e_ix (pv 2) (pe_int)) (pe_int) (nomark _)) (pss_one (ps_ret (pe_lst (pa_cons (e_meth (pv 1) T.c_Processes T.m_Processes_drop_descriptor (ok_Processes_drop_descriptor T) (hr.mono (by decide)) T.b_Processes_drop_descriptor tk (pa_cons (e_ix (pv 2) (pe_int)) (pa_cons (pe_op o_sub (pe_op o_mod (e_ix (pv 2) (pe_int)) (pe_int)) (pe_int)) (pa_nil)))) (pa_nil))))) (pss_nil))
        (pss_one (ps_if (pt_cmpR (o_eq hr.units) (e_ix (pv 2) (pe_int)) (pe_int) (nomark _)) (pss_one (ps_expr (e_meth (pv 1) T.c_Processes T.m_Processes_set_owner (ok_Processes_set_owner T) (hr.mono (by decide)) T.b_Processes_set_owner tk (pa_cons (e_ix (pv 2) (pe_int)) (pa_cons (e_ix (pv 2) (pe_int)) (pa_nil)))))) (pss_one (ps_if (pt_cmpR (o_eq hr.units) (e_ix (pv 2) (pe_int)) (pe_int) (nomark _)) (pss_one (ps_expr (e_meth (pv 1) T.c_Processes T.m_Processes_set_directory (ok_Processes_set_directory T) (hr.mono (by decide)) T.b_Processes_set_directory tk (pa_cons (e_ix (pv 2) (pe_int)) (pa_cons (e_ix (pe_lst (pa_cons (pe_str) (pa_cons (pe_str) (pa_nil)))) (pe_op o_mod (e_ix (pv 2) (pe_int)) (pe_int))) (pa_cons (pe_op o_add (pe_int) (pe_op o_div (e_ix (pv 2) (pe_int)) (pe_int))) (pa_nil))))))) (pss_one (ps_ret (pe_lst (pa_cons (e_meth (pv 1) T.c_Processes T.m_Processes_look_up (ok_Processes_look_up T) (hr.mono (by decide)) T.b_Processes_look_up tk (pa_cons (e_ix (pv 2) (pe_int)) (pa_nil))) (pa_cons (e_meth (pv 1) T.c_Processes T.m_Processes_has_room (ok_Processes_has_room T) (hr.mono (by decide)) T.b_Processes_has_room tk (pa_cons (e_ix (pv 2) (pe_int)) (pa_nil))) (pa_nil))))))))))))) (fun a oe cls d pn hz hf => pss_one (ps_ret (e_callX (okx__law_classes T) ⟨(hr.mono (j := 1) (by decide)).dp, (hr.mono (j := 1) (by decide)).un⟩ (List.mem_cons_self ..) hz hf T.g__law_classes T.F__law_classes.kp T.b__law_classes (pa_cons (pv 3) (pa_nil))))))
        (pss_one (ps_ret (pe_lst (pa_cons (pe_non) (pa_nil)))))
theorem ok__law_least (T : Top K mg A) : FnOk P w K mg base (L2.CX P w) 1 A.f__law_least A.d__law_least ["_law_numbers"] (sp__law_least K A.ex) := by
  refine T.F__law_least.okX sc__law_least (fun vs H Q E h => len1 h) (fun cdv Ar outer s H vs Q E hr h => ⟨t__law_least K A.ex E, ?_, pure__law_least T.fa h⟩)
  have tk : Takes (cxOf (L2.CX P w) P w K mg base ["_law_numbers", "_law_number"] "_law_least" (defScope s__law_least) A.f__law_least cdv Ar outer s H E) (WB E) := takes_of rfl rfl rfl rfl
  have po : PassesOwn (model P w) (cxOf (L2.CX P w) P w K mg base ["_law_numbers", "_law_number"] "_law_least" (defScope s__law_least) A.f__law_least cdv Ar outer s H E).A (cxOf (L2.CX P w) P w K mg base ["_law_numbers", "_law_number"] "_law_least" (defScope s__law_least) A.f__law_least cdv Ar outer s H E).env (cxOf (L2.CX P w) P w K mg base ["_law_numbers", "_law_number"] "_law_least" (defScope s__law_least) A.f__law_least cdv Ar outer s H E).xe := passes_of rfl
  have hu := hu_of hr
  exact pss_cons (ps_for po rfl (pi_range1 (by rfl) T.n_range (pa_cons (pe_op o_add (pe_callB (c_len) (by rfl) T.n_len (by decide +kernel) (pa_cons (pv 0) (pa_nil))) (pe_int)) (pa_nil))) (pg_name (i := 1) sc__law_least.nd rfl (Or.inl rfl))
        (pss_one (ps_if (pt_cmpR (o_nin hu) (pv 1) (pv 0) (by rfl)) (pss_one (ps_ret (pv 1))) (pss_nil))))
        (pss_one (ps_ret (pe_un o_neg (pe_int))))
theorem ok__law_due_descriptor (T : Top K mg A) : FnOk P w K mg base (L2.CX P w) 2 A.f__law_due_descriptor A.d__law_due_descriptor ["_law_entry", "_law_deed"] (sp__law_due_descriptor K A.ex) := by
  refine T.F__law_due_descriptor.okX sc__law_due_descriptor (fun vs H Q E h => len2 h) (fun cdv Ar outer s H vs Q E hr h => ⟨t__law_due_descriptor K A.ex E, ?_, pure__law_due_descriptor T.fa h⟩)
  have tk : Takes (cxOf (L2.CX P w) P w K mg base ["_law_entry", "_law_deed", "_law_least_here", "_law_used", "_law_descriptor"] "_law_due_descriptor" (defScope s__law_due_descriptor) A.f__law_due_descriptor cdv Ar outer s H E) (WB E) := takes_of rfl rfl rfl rfl
  have hu := hu_of hr
  have hl := Nat.lt_of_succ_lt hu
  exact pss_cons (ps_if (pt_cmpR (o_eq hr.units) (e_ix (pv 1) (pe_int)) (pe_int) (nomark _)) (pss_cons (ps_if (pt_cmpR (o_ge hl) (pe_callB (c_len) (by rfl) T.n_len (by decide +kernel) (pa_cons (e_ix (pv 0) (pe_int)) (pa_nil))) (pe_int) (nomark _)) (pss_one (ps_ret (pe_lst (pa_cons (pe_str) (pa_nil))))) (pss_nil))
        (pss_cons (ps_set (i := 2) sc__law_due_descriptor.nd rfl (Or.inl rfl) (e_call (ok__law_least T) (hr.mono (by decide)) T.g__law_least T.F__law_least.kp T.b__law_least tk (pa_cons (e_ix (pv 0) (pe_int)) (pa_nil))))
        (pss_cons (ps_set (i := 3) sc__law_due_descriptor.nd rfl (Or.inl rfl) (e_ix (pv 0) (pe_int)))
        (pss_cons (ps_dput hu (pv 3) (pv 2) (e_ix (pv 1) (pe_int)) rfl)
        (pss_one (ps_ret (pe_lst (pa_cons (pv 2) (pa_nil))))))))) (pss_nil))
        (pss_cons (ps_set (i := 4) sc__law_due_descriptor.nd rfl (Or.inl rfl) (pe_op o_sub (pe_op o_mod (e_ix (pv 1) (pe_int)) (pe_int)) (pe_int)))
        (pss_cons (ps_if (pt_cmpR (o_nin hu) (pv 4) (e_ix (pv 0) (pe_int)) (by rfl)) (pss_one (ps_ret (pe_lst (pa_cons (pe_str) (pa_nil))))) (pss_nil))
        (pss_one (ps_ret (pe_lst (pa_cons (pe_dpop1 (e_ix (pv 0) (pe_int)) (pv 4) ⟨by rfl, by rfl, by rfl, by rfl⟩) (pa_nil)))))))
theorem ok__law_due (T : Top K mg A) : FnOk P w K mg base (L2.CX P w) 3 A.f__law_due A.d__law_due ["_law_world", "_law_deed"] (sp__law_due K A.ex) := by
  refine T.F__law_due.okX sc__law_due (fun vs H Q E h => len2 h) (fun cdv Ar outer s H vs Q E hr h => ⟨t__law_due K A.ex E, ?_, pure__law_due T.fa h⟩)
  have tk : Takes (cxOf (L2.CX P w) P w K mg base ["_law_world", "_law_deed", "_law_entry", "_law_least_here"] "_law_due" (defScope s__law_due) A.f__law_due cdv Ar outer s H E) (WB E) := takes_of rfl rfl rfl rfl
  have hu := hu_of hr
  have hl := Nat.lt_of_succ_lt hu
  exact pss_cons (ps_if (pt_cmpR (o_nin hu) (e_ix (pv 1) (pe_int)) (pv 0) (by rfl)) (pss_one (ps_ret (pe_lst (pa_cons (pe_str) (pa_nil))))) (pss_nil))
        (pss_cons (ps_set (i := 2) sc__law_due.nd rfl (Or.inl rfl) (e_dg hu (pv 0) (e_ix (pv 1) (pe_int))))
        (pss_cons (ps_if (pt_cmpR (o_eq hr.units) (e_ix (pv 1) (pe_int)) (pe_int) (nomark _)) (pss_cons (ps_if (pt_cmpR (o_ge hl) (pe_callB (c_len) (by rfl) T.n_len (by decide +kernel) (pa_cons (pv 0) (pa_nil))) (pe_int) (nomark _)) (pss_one (ps_ret (pe_lst (pa_cons (pe_str) (pa_nil))))) (pss_nil))
        (pss_cons (ps_set (i := 3) sc__law_due.nd rfl (Or.inl rfl) (e_call (ok__law_least T) (hr.mono (by decide)) T.g__law_least T.F__law_least.kp T.b__law_least tk (pa_cons (pv 0) (pa_nil))))
        (pss_cons (ps_dput hu (pv 0) (pv 3) (pe_lst (pa_cons (e_ix (pv 2) (pe_int)) (pa_cons (e_ix (pv 2) (pe_int)) (pa_cons (e_ix (pv 2) (pe_int)) (pa_cons (pe_dnewK) (pa_nil)))))) rfl)
        (pss_one (ps_ret (pe_lst (pa_cons (pv 3) (pa_nil)))))))) (pss_nil))
        (pss_cons (ps_if (pt_cmpR (o_lt hl) (e_ix (pv 1) (pe_int)) (pe_int) (nomark _)) (pss_one (ps_ret (e_call (ok__law_due_descriptor T) (hr.mono (by decide)) T.g__law_due_descriptor T.F__law_due_descriptor.kp T.b__law_due_descriptor tk (pa_cons (pv 2) (pa_cons (pv 1) (pa_nil)))))) (pss_nil))
        (pss_cons (ps_if (pt_cmpR (o_eq hr.units) (e_ix (pv 1) (pe_int)) (pe_int) (nomark _)) (pss_cons (ps_asg (e_ix (pv 1) (pe_int)) (pg_sub (pv 2) (pe_int) (set_u hu)))
        (pss_one (ps_ret (pe_lst (pa_cons (pe_non) (pa_nil)))))) (pss_nil))
        (pss_cons (ps_if (pt_cmpR (o_eq hr.units) (e_ix (pv 1) (pe_int)) (pe_int) (nomark _)) (pss_cons (ps_asg (e_ix (pe_lst (pa_cons (pe_str) (pa_cons (pe_str) (pa_nil)))) (pe_op o_mod (e_ix (pv 1) (pe_int)) (pe_int))) (pg_sub (pv 2) (pe_int) (set_u hu)))
        (pss_cons (ps_asg (pe_op o_add (pe_int) (pe_op o_div (e_ix (pv 1) (pe_int)) (pe_int))) (pg_sub (pv 2) (pe_int) (set_u hu)))
        (pss_one (ps_ret (pe_lst (pa_cons (pe_non) (pa_nil))))))) (pss_nil))
        (pss_one (ps_ret (pe_lst (pa_cons (pe_tup (pa_cons (e_ix (pv 2) (pe_int)) (pa_cons (e_ix (pv 2) (pe_int)) (pa_cons (e_ix (pv 2) (pe_int)) (pa_nil))))) (pa_cons (pe_cmpR (o_lt hl) (pe_callB (c_len) (by rfl) T.n_len (by decide +kernel) (pa_cons (e_ix (pv 2) (pe_int)) (pa_nil))) (pe_int) (nomark _)) (pa_nil)))))))))))
theorem ok__law_rows (T : Top K mg A) : FnOk P w K mg base (L2.CX P w) 1 A.f__law_rows A.d__law_rows ["_law_world"] (sp__law_rows K A.ex) := by
  refine T.F__law_rows.okX sc__law_rows (fun vs H Q E h => len1 h) (fun cdv Ar outer s H vs Q E hr h => ⟨t__law_rows K A.ex E, ?_, pure__law_rows T.fa h⟩)
  have tk : Takes (cxOf (L2.CX P w) P w K mg base ["_law_world", "_law_rows_here", "_law_process", "_law_entry", "_law_used", "_law_descriptor"] "_law_rows" (defScope s__law_rows) A.f__law_rows cdv Ar outer s H E) (WB E) := takes_of rfl rfl rfl rfl
  have po : PassesOwn (model P w) (cxOf (L2.CX P w) P w K mg base ["_law_world", "_law_rows_here", "_law_process", "_law_entry", "_law_used", "_law_descriptor"] "_law_rows" (defScope s__law_rows) A.f__law_rows cdv Ar outer s H E).A (cxOf (L2.CX P w) P w K mg base ["_law_world", "_law_rows_here", "_law_process", "_law_entry", "_law_used", "_law_descriptor"] "_law_rows" (defScope s__law_rows) A.f__law_rows cdv Ar outer s H E).env (cxOf (L2.CX P w) P w K mg base ["_law_world", "_law_rows_here", "_law_process", "_law_entry", "_law_used", "_law_descriptor"] "_law_rows" (defScope s__law_rows) A.f__law_rows cdv Ar outer s H E).xe := passes_of rfl
  have hu := hu_of hr
  exact pss_cons (ps_set (i := 1) sc__law_rows.nd rfl (Or.inl rfl) (pe_lst (pa_nil)))
        (pss_cons (ps_for po rfl (pi_list (pe_callB c_sortI (by rfl) T.n_sorted (by decide +kernel) (pa_cons (pe_callTy (c_listD rfl) (by rfl) T.n_list (by decide +kernel) (pa_cons (pv 0) (pa_nil))) (pa_nil)))) (pg_name (i := 2) sc__law_rows.nd rfl (Or.inl rfl))
        (pss_cons (ps_set (i := 3) sc__law_rows.nd rfl (Or.inr rfl) (e_dg hu (pv 0) (pv 2)))
        (pss_cons (ps_setLc (i := 4) (own := [("_law_descriptor", 5)]) (by rfl) sc__law_rows.nd rfl rfl (sw_true rfl rfl rfl (by decide +kernel)) (pi_list (pe_callB c_sortI (by rfl) T.n_sorted (by decide +kernel) (pa_cons (pe_callTy (c_listD rfl) (by rfl) T.n_list (by decide +kernel) (pa_cons (e_ix (pv 3) (pe_int)) (pa_nil))) (pa_nil)))) (blkOk_by (N := ["_law_world", "_law_rows_here", "_law_process", "_law_entry", "_law_used", "_law_descriptor"]) (sc := defScope s__law_rows) (by decide +kernel)) (fun _ _ _ _ _ => pg_name (i := 5) sc__law_rows.nd rfl (Or.inl rfl)) (fun _ _ _ _ _ => pts_nil) (fun _ _ _ _ _ => pe_tup (pa_cons (pv 5) (pa_cons (e_dg hu (e_ix (pv 3) (pe_int)) (pv 5)) (pa_nil)))))
        (pss_one (ps_expr (pe_bm PySem.F.plainAttrs_list PySem.F.slot_list_append PySem.F.type_list_append mt_append (pv 1) (pa_cons (pe_tup (pa_cons (pv 2) (pa_cons (e_ix (pv 3) (pe_int)) (pa_cons (e_ix (pv 3) (pe_int)) (pa_cons (e_ix (pv 3) (pe_int)) (pa_cons (pv 4) (pa_nil))))))) (pa_nil))))))))
        (pss_one (ps_ret (pv 1))))
theorem ok__law_found (T : Top K mg A) : FnOk P w K mg base (L2.CX P w) 3 A.f__law_found A.d__law_found ["_law_processes", "_law_process", "_law_descriptor"] (sp__law_found K A.ex) := by
  refine T.F__law_found.okX sc__law_found (fun vs H Q E h => len3 h) (fun cdv Ar outer s H vs Q E hr h => ⟨t__law_found K A.ex E, ?_, pure__law_found T.fa h⟩)
  have tk : Takes (cxOf (L2.CX P w) P w K mg base ["_law_processes", "_law_process", "_law_descriptor"] "_law_found" (defScope s__law_found) A.f__law_found cdv Ar outer s H E) (WB E) := takes_of rfl rfl rfl rfl
  exact pss_one (s_try rfl rfl ⟨rfl, by decide, Or.inl T.x_BadHandle.g⟩ tk (fun W pn xe tk po => pss_one (ps_ret (e_meth (pv 0) T.c_Processes T.m_Processes_find_open_file (ok_Processes_find_open_file T) (hr.mono (by decide)) T.b_Processes_find_open_file tk (pa_cons (pv 1) (pa_cons (pv 2) (pa_nil)))))) (fun a oe cls d pn hz hf => pss_one (ps_ret (pe_non))))
theorem ok__law_shows (T : Top K mg A) : FnOk P w K mg base (L2.CX P w) 4 A.f__law_shows A.d__law_shows ["_law_processes", "_law_world"] (sp__law_shows K A.ex) := by
  refine T.F__law_shows.okX sc__law_shows (fun vs H Q E h => len2 h) (fun cdv Ar outer s H vs Q E hr h => ⟨t__law_shows K A.ex E, ?_, pure__law_shows T.fa h⟩)
  have tk : Takes (cxOf (L2.CX P w) P w K mg base ["_law_processes", "_law_world", "_law_rows_here", "_law_process", "_law_entry", "_law_descriptor", "_law_due_here", "_law_entries", "_law_number", "_law_volume", "_law_owner"] "_law_shows" (defScope s__law_shows) A.f__law_shows cdv Ar outer s H E) (WB E) := takes_of rfl rfl rfl rfl
  have po : PassesOwn (model P w) (cxOf (L2.CX P w) P w K mg base ["_law_processes", "_law_world", "_law_rows_here", "_law_process", "_law_entry", "_law_descriptor", "_law_due_here", "_law_entries", "_law_number", "_law_volume", "_law_owner"] "_law_shows" (defScope s__law_shows) A.f__law_shows cdv Ar outer s H E).A (cxOf (L2.CX P w) P w K mg base ["_law_processes", "_law_world", "_law_rows_here", "_law_process", "_law_entry", "_law_descriptor", "_law_due_here", "_law_entries", "_law_number", "_law_volume", "_law_owner"] "_law_shows" (defScope s__law_shows) A.f__law_shows cdv Ar outer s H E).env (cxOf (L2.CX P w) P w K mg base ["_law_processes", "_law_world", "_law_rows_here", "_law_process", "_law_entry", "_law_descriptor", "_law_due_here", "_law_entries", "_law_number", "_law_volume", "_law_owner"] "_law_shows" (defScope s__law_shows) A.f__law_shows cdv Ar outer s H E).xe := passes_of rfl
  have hu := hu_of hr
  exact pss_cons (ps_set (i := 2) sc__law_shows.nd rfl (Or.inl rfl) (e_meth0 (pv 0) T.c_Processes T.m_Processes_list_processes (ok_Processes_list_processes T) (hr.mono (by decide)) T.b_Processes_list_processes tk))
        (pss_cons (ps_if (PW.pt (pw_or (pt_not (t_tru (pe_callB (c_isi .list) (by rfl) T.n_isinstance (by decide +kernel) (pa_cons (pv 2) (pa_cons (pe_bltn rfl T.n_list (by decide +kernel) rfl) (pa_nil)))))) (pw_or1 (pt_cmpR (o_ne hr.units) (pv 2) (e_call (ok__law_rows T) (hr.mono (by decide)) T.g__law_rows T.F__law_rows.kp T.b__law_rows tk (pa_cons (pv 1) (pa_nil))) (nomark _))))) (pss_one (ps_ret (pe_bl))) (pss_nil))
        (pss_cons (ps_lock (ps_for po rfl (pi_keys (pv 1)) (pg_name (i := 3) sc__law_shows.nd rfl (Or.inl rfl))
        (pss_cons (ps_set (i := 4) sc__law_shows.nd rfl (Or.inl rfl) (e_dg hu (pv 1) (pv 3)))
        (pss_one (ps_for po rfl (pi_range2 (by rfl) T.n_range (pa_cons (pe_un o_neg (pe_int)) (pa_cons (pe_int) (pa_nil)))) (pg_name (i := 5) sc__law_shows.nd rfl (Or.inl rfl))
        (pss_cons (ps_set (i := 6) sc__law_shows.nd rfl (Or.inl rfl) (pe_non))
        (pss_cut (ps_if (pt_cmpR (o_in hu) (pv 5) (e_ix (pv 4) (pe_int)) (by rfl)) (pss_one (ps_set (i := 6) sc__law_shows.nd rfl (Or.inl rfl) (e_dg hu (e_ix (pv 4) (pe_int)) (pv 5)))) (pss_nil))
        (pss_one (ps_if (pt_cmpR (o_ne hr.units) (e_call (ok__law_found T) (hr.mono (by decide)) T.g__law_found T.F__law_found.kp T.b__law_found tk (pa_cons (pv 0) (pa_cons (pv 3) (pa_cons (pv 5) (pa_nil))))) (pv 6) (nomark _)) (pss_one (ps_ret (pe_bl))) (pss_nil))))))))))
        (pss_cons (ps_lock (ps_setLc (i := 7) (own := [("_law_process", 3)]) (by rfl) sc__law_shows.nd rfl rfl (sw_true rfl rfl rfl (by decide +kernel)) (pi_keys (pv 1)) (blkOk_by (N := ["_law_processes", "_law_world", "_law_rows_here", "_law_process", "_law_entry", "_law_descriptor", "_law_due_here", "_law_entries", "_law_number", "_law_volume", "_law_owner"]) (sc := defScope s__law_shows) (by decide +kernel)) (fun _ _ _ _ _ => pg_name (i := 3) sc__law_shows.nd rfl (Or.inl rfl)) (fun _ _ _ _ _ => pts_nil) (fun _ _ _ _ _ => e_dg hu (pv 1) (pv 3))))
        (pss_cons (ps_for po rfl (pi_range2 (by rfl) T.n_range (pa_cons (pe_int) (pa_cons (pe_int) (pa_nil)))) (pg_name (i := 8) sc__law_shows.nd rfl (Or.inr rfl))
        (pss_one (ps_for po rfl (pi_tup (pe_tup (pa_cons (pe_str) (pa_cons (pe_str) (pa_nil))))) (pg_name (i := 9) sc__law_shows.nd rfl (Or.inr rfl))
        (pss_cons (ps_set (i := 6) sc__law_shows.nd rfl (Or.inl rfl) (pe_cmpR (o_neO (Nat.lt_of_le_of_lt (Nat.le_add_right _ 64) hr.units)) (pe_lc (own := [("_law_entry", 4)]) (by rfl) sc__law_shows.nd (pi_list (pv 7)) (blkOk_by (N := ["_law_processes", "_law_world", "_law_rows_here", "_law_process", "_law_entry", "_law_descriptor", "_law_due_here", "_law_entries", "_law_number", "_law_volume", "_law_owner"]) (sc := defScope s__law_shows) (by decide +kernel)) (fun _ _ _ _ _ => pg_name (i := 4) sc__law_shows.nd rfl (Or.inl rfl)) (fun _ _ _ _ _ => pts_one (PW.pt (pw_and (pt_cmpR (o_eq hr.units) (e_ix (pv 4) (pe_int)) (pv 9) (nomark _)) (pw_and1 (pt_cmpR (o_eq hr.units) (e_ix (pv 4) (pe_int)) (pv 8) (nomark _)))))) (fun _ _ _ _ _ => pv 4)) (pe_lst (pa_nil)) (nomark _)))
        (pss_one (ps_if (pt_cmpR (o_ne hr.units) (e_meth (pv 0) T.c_Processes T.m_Processes_works_in (ok_Processes_works_in T) (hr.mono (by decide)) T.b_Processes_works_in tk (pa_cons (pv 9) (pa_cons (pv 8) (pa_nil)))) (pv 6) (nomark _)) (pss_one (ps_ret (pe_bl))) (pss_nil)))))))
        (pss_cons (ps_for po rfl (pi_tup (pe_tup (pa_cons (pe_str) (pa_cons (pe_str) (pa_cons (pe_str) (pa_nil)))))) (pg_name (i := 9) sc__law_shows.nd rfl (Or.inr rfl))
        (pss_one (ps_if (pt_cmpR (o_ne hr.units) (e_meth (pv 0) T.c_Processes T.m_Processes_uses_volume (ok_Processes_uses_volume T) (hr.mono (by decide)) T.b_Processes_uses_volume tk (pa_cons (pv 9) (pa_nil))) (pe_cmpR (o_neO (Nat.lt_of_le_of_lt (Nat.le_add_right _ 64) hr.units)) (pe_lc (own := [("_law_entry", 4)]) (by rfl) sc__law_shows.nd (pi_list (pv 7)) (blkOk_by (N := ["_law_processes", "_law_world", "_law_rows_here", "_law_process", "_law_entry", "_law_descriptor", "_law_due_here", "_law_entries", "_law_number", "_law_volume", "_law_owner"]) (sc := defScope s__law_shows) (by decide +kernel)) (fun _ _ _ _ _ => pg_name (i := 4) sc__law_shows.nd rfl (Or.inl rfl)) (fun _ _ _ _ _ => pts_one (pt_cmpR (o_eq hr.units) (e_ix (pv 4) (pe_int)) (pv 9) (nomark _))) (fun _ _ _ _ _ => pv 4)) (pe_lst (pa_nil)) (nomark _)) (nomark _)) (pss_one (ps_ret (pe_bl))) (pss_nil))))
        (pss_cons (ps_for po rfl (pi_range1 (by rfl) T.n_range (pa_cons (pe_int) (pa_nil))) (pg_name (i := 10) sc__law_shows.nd rfl (Or.inr rfl))
        (pss_one (ps_if (pt_cmpR (o_ne hr.units) (e_meth (pv 0) T.c_Processes T.m_Processes_uses_owner (ok_Processes_uses_owner T) (hr.mono (by decide)) T.b_Processes_uses_owner tk (pa_cons (pv 10) (pa_nil))) (pe_cmpR (o_neO (Nat.lt_of_le_of_lt (Nat.le_add_right _ 64) hr.units)) (pe_lc (own := [("_law_entry", 4)]) (by rfl) sc__law_shows.nd (pi_list (pv 7)) (blkOk_by (N := ["_law_processes", "_law_world", "_law_rows_here", "_law_process", "_law_entry", "_law_descriptor", "_law_due_here", "_law_entries", "_law_number", "_law_volume", "_law_owner"]) (sc := defScope s__law_shows) (by decide +kernel)) (fun _ _ _ _ _ => pg_name (i := 4) sc__law_shows.nd rfl (Or.inl rfl)) (fun _ _ _ _ _ => pts_one (pt_cmpR (o_eq hr.units) (e_ix (pv 4) (pe_int)) (pv 10) (nomark _))) (fun _ _ _ _ _ => pv 4)) (pe_lst (pa_nil)) (nomark _)) (nomark _)) (pss_one (ps_ret (pe_bl))) (pss_nil))))
        (pss_one (ps_ret (pe_bl)))))))))
theorem ok_law (T : Top K mg A) : FnOk P w K mg base (L2.CX P w) 5 A.f_law A.d_law ["_law_script"] (sp_law K A.ex) := by
  refine T.F_law.okX sc_law (fun vs H Q E h => len1 (show spLaw K vs H Q E from h)) (fun cdv Ar outer s H vs Q E hr h => ⟨t_law K A.ex E, ?_, pure_law T.fa h⟩)
  have tk : Takes (cxOf (L2.CX P w) P w K mg base ["_law_script", "_law_handles", "_law_processes", "_law_world", "_law_cell", "_law_rest", "_law_process", "_law_deed"] "law" (defScope s_law) A.f_law cdv Ar outer s H E) (WB E) := takes_of rfl rfl rfl rfl
  have po : PassesOwn (model P w) (cxOf (L2.CX P w) P w K mg base ["_law_script", "_law_handles", "_law_processes", "_law_world", "_law_cell", "_law_rest", "_law_process", "_law_deed"] "law" (defScope s_law) A.f_law cdv Ar outer s H E).A (cxOf (L2.CX P w) P w K mg base ["_law_script", "_law_handles", "_law_processes", "_law_world", "_law_cell", "_law_rest", "_law_process", "_law_deed"] "law" (defScope s_law) A.f_law cdv Ar outer s H E).env (cxOf (L2.CX P w) P w K mg base ["_law_script", "_law_handles", "_law_processes", "_law_world", "_law_cell", "_law_rest", "_law_process", "_law_deed"] "law" (defScope s_law) A.f_law cdv Ar outer s H E).xe := passes_of rfl
  have hu := hu_of hr
  exact pss_cons (ps_set (i := 1) sc_law.nd rfl (Or.inl rfl) (e_mk0 T.M_Handles (ok_Handles___init__ T) (hr.mono (by decide)) T.gC_Handles T.b_Handles___init__ tk))
        (pss_cons (ps_set (i := 2) sc_law.nd rfl (Or.inl rfl) (e_mk T.M_Processes (ok_Processes___init__ T) (hr.mono (by decide)) T.gC_Processes T.b_Processes___init__ tk (pa_cons (pe_str) (pa_nil))))
        (pss_cons (ps_set (i := 3) sc_law.nd rfl (Or.inl rfl) (pe_disp (pps_cons (pe_int) (pe_lst (pa_cons (pe_int) (pa_cons (pe_str) (pa_cons (pe_int) (pa_cons (pe_dnewK) (pa_nil)))))) (pps_nil)) (by rfl) (by rfl) (fun z => by cases z) (by decide)))
        (pss_cons (ps_if (pt_not (t_tru (e_call (ok__law_shows T) (hr.mono (by decide)) T.g__law_shows T.F__law_shows.kp T.b__law_shows tk (pa_cons (pv 2) (pa_cons (pv 3) (pa_nil)))))) (pss_one (ps_ret (pe_bl))) (pss_nil))
        (pss_cons (ps_for po rfl (pi_list (e_sl (pv 0) (po_none) (po_some (pe_int)))) (pg_name (i := 4) sc_law.nd rfl (Or.inl rfl))
        (pss_cons (ps_set (i := 5) sc_law.nd rfl (Or.inl rfl) (pe_op o_div (pe_callTy (c_int) (by rfl) T.n_int (by decide +kernel) (pa_cons (pv 4) (pa_nil))) (pe_int)))
        (pss_cons (ps_set (i := 6) sc_law.nd rfl (Or.inl rfl) (pe_op o_mod (pv 5) (pe_int)))
        (pss_cut (ps_if (pt_cmpR (o_eq hr.units) (pv 6) (pe_int) (nomark _)) (pss_one (ps_set (i := 6) sc_law.nd rfl (Or.inl rfl) (pe_int))) (pss_nil))
        (pss_cons (ps_set (i := 7) sc_law.nd rfl (Or.inl rfl) (pe_lst (pa_cons (pe_op o_mod (pe_op o_mod (pe_callTy (c_int) (by rfl) T.n_int (by decide +kernel) (pa_cons (pv 4) (pa_nil))) (pe_int)) (pe_int)) (pa_cons (pv 6) (pa_cons (pe_op o_mod (pe_op o_div (pv 5) (pe_int)) (pe_int)) (pa_nil))))))
        (pss_cut (ps_if (PW.pt (pw_and (pt_cmpR (o_eq hr.units) (e_ix (pv 7) (pe_int)) (pe_int) (nomark _)) (pw_and (pt_cmpR (o_in hu) (pv 6) (pv 3) (by rfl)) (pw_and1 (pt_cmpR (o_neO (Nat.lt_of_le_of_lt (Nat.le_add_right _ 64) hr.units)) (e_ix (e_dg hu (pv 3) (pv 6)) (pe_int)) (pe_dnewK) (nomark _)))))) (pss_one (ps_asg (pe_int) (pg_sub (pv 7) (pe_int) (set_u hu)))) (pss_nil))
        (pss_one (ps_if (pt_cmpR (o_ne hr.units) (e_call (ok__law_play T) (hr.mono (by decide)) T.g__law_play T.F__law_play.kp T.b__law_play tk (pa_cons (pv 1) (pa_cons (pv 2) (pa_cons (pv 7) (pa_nil))))) (e_call (ok__law_due T) (hr.mono (by decide)) T.g__law_due T.F__law_due.kp T.b__law_due tk (pa_cons (pv 3) (pa_cons (pv 7) (pa_nil)))) (nomark _)) (pss_one (ps_ret (pe_bl))) (pss_nil)))))))))
        (pss_one (ps_ret (pe_and (e_call (ok__law_shows T) (hr.mono (by decide)) T.g__law_shows T.F__law_shows.kp T.b__law_shows tk (pa_cons (pv 2) (pa_cons (pv 3) (pa_nil)))) (pe_one (e_call (ok__law_shows T) (hr.mono (by decide)) T.g__law_shows T.F__law_shows.kp T.b__law_shows tk (pa_cons (pv 2) (pa_cons (pv 3) (pa_nil))))))))))))
end
theorem all_mk {P : Program} {w : World} {K : PySem.W.Frag} {h : Heap} {mg : Str → Option Value} {fa : Addr} (X : K.In h) (G : h.Ns mainGlobals mg) (hfa : mg "law" = some (.ref fa))
    {f_Handles___init__ f_Handles__look f_Handles_add_reference f_Processes___init__ f_Processes__look f_Processes_list_processes f_Processes_look_up f_Processes_set_owner f_Processes_set_directory f_Processes_has_room f_Processes_add_descriptor f_Processes_find_open_file f_Processes_drop_descriptor f_Processes_works_in f_Processes_uses_volume f_Processes_uses_owner f_Processes_copy_process f_Processes_descriptors f_fork f__law_classes f__law_play f__law_least f__law_due_descriptor f__law_due f__law_rows f__law_found f__law_shows f_law : Addr}
    {C_Handles C_Processes C_LaminaError C_NoProcess C_BadHandle C_TooMany : Addr}
    {od_Handles___init__ an_Handles___init__ : Option Addr} {sl_Handles___init__ : Array (Option Value)} {oc_Handles___init__ kV_Handles___init__ dc_Handles___init__ pm_Handles___init__ cd_Handles___init__ ct_Handles___init__ : Value}
    {od_Handles__look an_Handles__look : Option Addr} {sl_Handles__look : Array (Option Value)} {oc_Handles__look kV_Handles__look dc_Handles__look pm_Handles__look cd_Handles__look ct_Handles__look : Value}
    {od_Handles_add_reference an_Handles_add_reference : Option Addr} {sl_Handles_add_reference : Array (Option Value)} {oc_Handles_add_reference kV_Handles_add_reference dc_Handles_add_reference pm_Handles_add_reference cd_Handles_add_reference ct_Handles_add_reference : Value}
    {od_Processes___init__ an_Processes___init__ : Option Addr} {sl_Processes___init__ : Array (Option Value)} {oc_Processes___init__ kV_Processes___init__ dc_Processes___init__ pm_Processes___init__ cd_Processes___init__ ct_Processes___init__ : Value}
    {od_Processes__look an_Processes__look : Option Addr} {sl_Processes__look : Array (Option Value)} {oc_Processes__look kV_Processes__look dc_Processes__look pm_Processes__look cd_Processes__look ct_Processes__look : Value}
    {od_Processes_list_processes an_Processes_list_processes : Option Addr} {sl_Processes_list_processes : Array (Option Value)} {oc_Processes_list_processes kV_Processes_list_processes dc_Processes_list_processes pm_Processes_list_processes cd_Processes_list_processes ct_Processes_list_processes : Value}
    {od_Processes_look_up an_Processes_look_up : Option Addr} {sl_Processes_look_up : Array (Option Value)} {oc_Processes_look_up kV_Processes_look_up dc_Processes_look_up pm_Processes_look_up cd_Processes_look_up ct_Processes_look_up : Value}
    {od_Processes_set_owner an_Processes_set_owner : Option Addr} {sl_Processes_set_owner : Array (Option Value)} {oc_Processes_set_owner kV_Processes_set_owner dc_Processes_set_owner pm_Processes_set_owner cd_Processes_set_owner ct_Processes_set_owner : Value}
    {od_Processes_set_directory an_Processes_set_directory : Option Addr} {sl_Processes_set_directory : Array (Option Value)} {oc_Processes_set_directory kV_Processes_set_directory dc_Processes_set_directory pm_Processes_set_directory cd_Processes_set_directory ct_Processes_set_directory : Value}
    {od_Processes_has_room an_Processes_has_room : Option Addr} {sl_Processes_has_room : Array (Option Value)} {oc_Processes_has_room kV_Processes_has_room dc_Processes_has_room pm_Processes_has_room cd_Processes_has_room ct_Processes_has_room : Value}
    {od_Processes_add_descriptor an_Processes_add_descriptor : Option Addr} {sl_Processes_add_descriptor : Array (Option Value)} {oc_Processes_add_descriptor kV_Processes_add_descriptor dc_Processes_add_descriptor pm_Processes_add_descriptor cd_Processes_add_descriptor ct_Processes_add_descriptor : Value}
    {od_Processes_find_open_file an_Processes_find_open_file : Option Addr} {sl_Processes_find_open_file : Array (Option Value)} {oc_Processes_find_open_file kV_Processes_find_open_file dc_Processes_find_open_file pm_Processes_find_open_file cd_Processes_find_open_file ct_Processes_find_open_file : Value}
    {od_Processes_drop_descriptor an_Processes_drop_descriptor : Option Addr} {sl_Processes_drop_descriptor : Array (Option Value)} {oc_Processes_drop_descriptor kV_Processes_drop_descriptor dc_Processes_drop_descriptor pm_Processes_drop_descriptor cd_Processes_drop_descriptor ct_Processes_drop_descriptor : Value}
    {od_Processes_works_in an_Processes_works_in : Option Addr} {sl_Processes_works_in : Array (Option Value)} {oc_Processes_works_in kV_Processes_works_in dc_Processes_works_in pm_Processes_works_in cd_Processes_works_in ct_Processes_works_in : Value}
    {od_Processes_uses_volume an_Processes_uses_volume : Option Addr} {sl_Processes_uses_volume : Array (Option Value)} {oc_Processes_uses_volume kV_Processes_uses_volume dc_Processes_uses_volume pm_Processes_uses_volume cd_Processes_uses_volume ct_Processes_uses_volume : Value}
    {od_Processes_uses_owner an_Processes_uses_owner : Option Addr} {sl_Processes_uses_owner : Array (Option Value)} {oc_Processes_uses_owner kV_Processes_uses_owner dc_Processes_uses_owner pm_Processes_uses_owner cd_Processes_uses_owner ct_Processes_uses_owner : Value}
    {od_Processes_copy_process an_Processes_copy_process : Option Addr} {sl_Processes_copy_process : Array (Option Value)} {oc_Processes_copy_process kV_Processes_copy_process dc_Processes_copy_process pm_Processes_copy_process cd_Processes_copy_process ct_Processes_copy_process : Value}
    {od_Processes_descriptors an_Processes_descriptors : Option Addr} {sl_Processes_descriptors : Array (Option Value)} {oc_Processes_descriptors kV_Processes_descriptors dc_Processes_descriptors pm_Processes_descriptors cd_Processes_descriptors ct_Processes_descriptors : Value}
    {od_fork an_fork : Option Addr} {sl_fork : Array (Option Value)} {oc_fork kV_fork dc_fork pm_fork cd_fork ct_fork : Value}
    {od__law_classes an__law_classes : Option Addr} {sl__law_classes : Array (Option Value)} {oc__law_classes kV__law_classes dc__law_classes pm__law_classes cd__law_classes ct__law_classes : Value}
    {od__law_play an__law_play : Option Addr} {sl__law_play : Array (Option Value)} {oc__law_play kV__law_play dc__law_play pm__law_play cd__law_play ct__law_play : Value}
    {od__law_least an__law_least : Option Addr} {sl__law_least : Array (Option Value)} {oc__law_least kV__law_least dc__law_least pm__law_least cd__law_least ct__law_least : Value}
    {od__law_due_descriptor an__law_due_descriptor : Option Addr} {sl__law_due_descriptor : Array (Option Value)} {oc__law_due_descriptor kV__law_due_descriptor dc__law_due_descriptor pm__law_due_descriptor cd__law_due_descriptor ct__law_due_descriptor : Value}
    {od__law_due an__law_due : Option Addr} {sl__law_due : Array (Option Value)} {oc__law_due kV__law_due dc__law_due pm__law_due cd__law_due ct__law_due : Value}
    {od__law_rows an__law_rows : Option Addr} {sl__law_rows : Array (Option Value)} {oc__law_rows kV__law_rows dc__law_rows pm__law_rows cd__law_rows ct__law_rows : Value}
    {od__law_found an__law_found : Option Addr} {sl__law_found : Array (Option Value)} {oc__law_found kV__law_found dc__law_found pm__law_found cd__law_found ct__law_found : Value}
    {od__law_shows an__law_shows : Option Addr} {sl__law_shows : Array (Option Value)} {oc__law_shows kV__law_shows dc__law_shows pm__law_shows cd__law_shows ct__law_shows : Value}
    {od_law an_law : Option Addr} {sl_law : Array (Option Value)} {oc_law kV_law dc_law pm_law cd_law ct_law : Value}
    {t_MAX_DESCRIPTORS : Tok}
    {t_MAX_PROCESSES : Tok}
    {t_ROOT : Tok}
    (aC_Handles : PySem.W.nsIn K mainGlobals "Handles" = some (some (.ref C_Handles)))
    (aC_Processes : PySem.W.nsIn K mainGlobals "Processes" = some (some (.ref C_Processes)))
    (aC_BadHandle : PySem.W.nsIn K mainGlobals "BadHandle" = some (some (.ref C_BadHandle)))
    (aC_LaminaError : PySem.W.nsIn K mainGlobals "LaminaError" = some (some (.ref C_LaminaError)))
    (aC_NoProcess : PySem.W.nsIn K mainGlobals "NoProcess" = some (some (.ref C_NoProcess)))
    (aC_TooMany : PySem.W.nsIn K mainGlobals "TooMany" = some (some (.ref C_TooMany)))
    (a_Handles___init__ : PySem.W.findIn K (.ref C_Handles) "__init__" = some (some (.ref f_Handles___init__)))
    (i_Handles___init__ : PySem.W.isFn K (.ref f_Handles___init__) = true)
    (l_Handles___init__ : K.lookup f_Handles___init__ = some ⟨oc_Handles___init__, od_Handles___init__, .func (PySem.W.fnOf "__init__" "Handles.__init__" (defArgs s_Handles___init__) (defBody s_Handles___init__) (defScope s_Handles___init__) .none kV_Handles___init__ dc_Handles___init__ pm_Handles___init__ an_Handles___init__ cd_Handles___init__ ct_Handles___init__), sl_Handles___init__⟩)
    (c_Handles___init__ : PySem.W.codeIn K cd_Handles___init__ "Handles.__init__" = true)
    (k_Handles___init__ : PySem.W.keepIn K (.ref f_Handles___init__) = true)
    (a_Handles__look : PySem.W.findIn K (.ref C_Handles) "_look" = some (some (.ref f_Handles__look)))
    (i_Handles__look : PySem.W.isFn K (.ref f_Handles__look) = true)
    (l_Handles__look : K.lookup f_Handles__look = some ⟨oc_Handles__look, od_Handles__look, .func (PySem.W.fnOf "_look" "Handles._look" (defArgs s_Handles__look) (defBody s_Handles__look) (defScope s_Handles__look) .none kV_Handles__look dc_Handles__look pm_Handles__look an_Handles__look cd_Handles__look ct_Handles__look), sl_Handles__look⟩)
    (c_Handles__look : PySem.W.codeIn K cd_Handles__look "Handles._look" = true)
    (k_Handles__look : PySem.W.keepIn K (.ref f_Handles__look) = true)
    (a_Handles_add_reference : PySem.W.findIn K (.ref C_Handles) "add_reference" = some (some (.ref f_Handles_add_reference)))
    (i_Handles_add_reference : PySem.W.isFn K (.ref f_Handles_add_reference) = true)
    (l_Handles_add_reference : K.lookup f_Handles_add_reference = some ⟨oc_Handles_add_reference, od_Handles_add_reference, .func (PySem.W.fnOf "add_reference" "Handles.add_reference" (defArgs s_Handles_add_reference) (defBody s_Handles_add_reference) (defScope s_Handles_add_reference) .none kV_Handles_add_reference dc_Handles_add_reference pm_Handles_add_reference an_Handles_add_reference cd_Handles_add_reference ct_Handles_add_reference), sl_Handles_add_reference⟩)
    (c_Handles_add_reference : PySem.W.codeIn K cd_Handles_add_reference "Handles.add_reference" = true)
    (k_Handles_add_reference : PySem.W.keepIn K (.ref f_Handles_add_reference) = true)
    (a_Processes___init__ : PySem.W.findIn K (.ref C_Processes) "__init__" = some (some (.ref f_Processes___init__)))
    (i_Processes___init__ : PySem.W.isFn K (.ref f_Processes___init__) = true)
    (l_Processes___init__ : K.lookup f_Processes___init__ = some ⟨oc_Processes___init__, od_Processes___init__, .func (PySem.W.fnOf "__init__" "Processes.__init__" (defArgs s_Processes___init__) (defBody s_Processes___init__) (defScope s_Processes___init__) .none kV_Processes___init__ dc_Processes___init__ pm_Processes___init__ an_Processes___init__ cd_Processes___init__ ct_Processes___init__), sl_Processes___init__⟩)
    (c_Processes___init__ : PySem.W.codeIn K cd_Processes___init__ "Processes.__init__" = true)
    (k_Processes___init__ : PySem.W.keepIn K (.ref f_Processes___init__) = true)
    (a_Processes__look : PySem.W.findIn K (.ref C_Processes) "_look" = some (some (.ref f_Processes__look)))
    (i_Processes__look : PySem.W.isFn K (.ref f_Processes__look) = true)
    (l_Processes__look : K.lookup f_Processes__look = some ⟨oc_Processes__look, od_Processes__look, .func (PySem.W.fnOf "_look" "Processes._look" (defArgs s_Processes__look) (defBody s_Processes__look) (defScope s_Processes__look) .none kV_Processes__look dc_Processes__look pm_Processes__look an_Processes__look cd_Processes__look ct_Processes__look), sl_Processes__look⟩)
    (c_Processes__look : PySem.W.codeIn K cd_Processes__look "Processes._look" = true)
    (k_Processes__look : PySem.W.keepIn K (.ref f_Processes__look) = true)
    (a_Processes_list_processes : PySem.W.findIn K (.ref C_Processes) "list_processes" = some (some (.ref f_Processes_list_processes)))
    (i_Processes_list_processes : PySem.W.isFn K (.ref f_Processes_list_processes) = true)
    (l_Processes_list_processes : K.lookup f_Processes_list_processes = some ⟨oc_Processes_list_processes, od_Processes_list_processes, .func (PySem.W.fnOf "list_processes" "Processes.list_processes" (defArgs s_Processes_list_processes) (defBody s_Processes_list_processes) (defScope s_Processes_list_processes) .none kV_Processes_list_processes dc_Processes_list_processes pm_Processes_list_processes an_Processes_list_processes cd_Processes_list_processes ct_Processes_list_processes), sl_Processes_list_processes⟩)
    (c_Processes_list_processes : PySem.W.codeIn K cd_Processes_list_processes "Processes.list_processes" = true)
    (k_Processes_list_processes : PySem.W.keepIn K (.ref f_Processes_list_processes) = true)
    (a_Processes_look_up : PySem.W.findIn K (.ref C_Processes) "look_up" = some (some (.ref f_Processes_look_up)))
    (i_Processes_look_up : PySem.W.isFn K (.ref f_Processes_look_up) = true)
    (l_Processes_look_up : K.lookup f_Processes_look_up = some ⟨oc_Processes_look_up, od_Processes_look_up, .func (PySem.W.fnOf "look_up" "Processes.look_up" (defArgs s_Processes_look_up) (defBody s_Processes_look_up) (defScope s_Processes_look_up) .none kV_Processes_look_up dc_Processes_look_up pm_Processes_look_up an_Processes_look_up cd_Processes_look_up ct_Processes_look_up), sl_Processes_look_up⟩)
    (c_Processes_look_up : PySem.W.codeIn K cd_Processes_look_up "Processes.look_up" = true)
    (k_Processes_look_up : PySem.W.keepIn K (.ref f_Processes_look_up) = true)
    (a_Processes_set_owner : PySem.W.findIn K (.ref C_Processes) "set_owner" = some (some (.ref f_Processes_set_owner)))
    (i_Processes_set_owner : PySem.W.isFn K (.ref f_Processes_set_owner) = true)
    (l_Processes_set_owner : K.lookup f_Processes_set_owner = some ⟨oc_Processes_set_owner, od_Processes_set_owner, .func (PySem.W.fnOf "set_owner" "Processes.set_owner" (defArgs s_Processes_set_owner) (defBody s_Processes_set_owner) (defScope s_Processes_set_owner) .none kV_Processes_set_owner dc_Processes_set_owner pm_Processes_set_owner an_Processes_set_owner cd_Processes_set_owner ct_Processes_set_owner), sl_Processes_set_owner⟩)
    (c_Processes_set_owner : PySem.W.codeIn K cd_Processes_set_owner "Processes.set_owner" = true)
    (k_Processes_set_owner : PySem.W.keepIn K (.ref f_Processes_set_owner) = true)
    (a_Processes_set_directory : PySem.W.findIn K (.ref C_Processes) "set_directory" = some (some (.ref f_Processes_set_directory)))
    (i_Processes_set_directory : PySem.W.isFn K (.ref f_Processes_set_directory) = true)
    (l_Processes_set_directory : K.lookup f_Processes_set_directory = some ⟨oc_Processes_set_directory, od_Processes_set_directory, .func (PySem.W.fnOf "set_directory" "Processes.set_directory" (defArgs s_Processes_set_directory) (defBody s_Processes_set_directory) (defScope s_Processes_set_directory) .none kV_Processes_set_directory dc_Processes_set_directory pm_Processes_set_directory an_Processes_set_directory cd_Processes_set_directory ct_Processes_set_directory), sl_Processes_set_directory⟩)
    (c_Processes_set_directory : PySem.W.codeIn K cd_Processes_set_directory "Processes.set_directory" = true)
    (k_Processes_set_directory : PySem.W.keepIn K (.ref f_Processes_set_directory) = true)
    (a_Processes_has_room : PySem.W.findIn K (.ref C_Processes) "has_room" = some (some (.ref f_Processes_has_room)))
    (i_Processes_has_room : PySem.W.isFn K (.ref f_Processes_has_room) = true)
    (l_Processes_has_room : K.lookup f_Processes_has_room = some ⟨oc_Processes_has_room, od_Processes_has_room, .func (PySem.W.fnOf "has_room" "Processes.has_room" (defArgs s_Processes_has_room) (defBody s_Processes_has_room) (defScope s_Processes_has_room) .none kV_Processes_has_room dc_Processes_has_room pm_Processes_has_room an_Processes_has_room cd_Processes_has_room ct_Processes_has_room), sl_Processes_has_room⟩)
    (c_Processes_has_room : PySem.W.codeIn K cd_Processes_has_room "Processes.has_room" = true)
    (k_Processes_has_room : PySem.W.keepIn K (.ref f_Processes_has_room) = true)
    (a_Processes_add_descriptor : PySem.W.findIn K (.ref C_Processes) "add_descriptor" = some (some (.ref f_Processes_add_descriptor)))
    (i_Processes_add_descriptor : PySem.W.isFn K (.ref f_Processes_add_descriptor) = true)
    (l_Processes_add_descriptor : K.lookup f_Processes_add_descriptor = some ⟨oc_Processes_add_descriptor, od_Processes_add_descriptor, .func (PySem.W.fnOf "add_descriptor" "Processes.add_descriptor" (defArgs s_Processes_add_descriptor) (defBody s_Processes_add_descriptor) (defScope s_Processes_add_descriptor) .none kV_Processes_add_descriptor dc_Processes_add_descriptor pm_Processes_add_descriptor an_Processes_add_descriptor cd_Processes_add_descriptor ct_Processes_add_descriptor), sl_Processes_add_descriptor⟩)
    (c_Processes_add_descriptor : PySem.W.codeIn K cd_Processes_add_descriptor "Processes.add_descriptor" = true)
    (k_Processes_add_descriptor : PySem.W.keepIn K (.ref f_Processes_add_descriptor) = true)
    (a_Processes_find_open_file : PySem.W.findIn K (.ref C_Processes) "find_open_file" = some (some (.ref f_Processes_find_open_file)))
    (i_Processes_find_open_file : PySem.W.isFn K (.ref f_Processes_find_open_file) = true)
    (l_Processes_find_open_file : K.lookup f_Processes_find_open_file = some ⟨oc_Processes_find_open_file, od_Processes_find_open_file, .func (PySem.W.fnOf "find_open_file" "Processes.find_open_file" (defArgs s_Processes_find_open_file) (defBody s_Processes_find_open_file) (defScope s_Processes_find_open_file) .none kV_Processes_find_open_file dc_Processes_find_open_file pm_Processes_find_open_file an_Processes_find_open_file cd_Processes_find_open_file ct_Processes_find_open_file), sl_Processes_find_open_file⟩)
    (c_Processes_find_open_file : PySem.W.codeIn K cd_Processes_find_open_file "Processes.find_open_file" = true)
    (k_Processes_find_open_file : PySem.W.keepIn K (.ref f_Processes_find_open_file) = true)
    (a_Processes_drop_descriptor : PySem.W.findIn K (.ref C_Processes) "drop_descriptor" = some (some (.ref f_Processes_drop_descriptor)))
    (i_Processes_drop_descriptor : PySem.W.isFn K (.ref f_Processes_drop_descriptor) = true)
    (l_Processes_drop_descriptor : K.lookup f_Processes_drop_descriptor = some ⟨oc_Processes_drop_descriptor, od_Processes_drop_descriptor, .func (PySem.W.fnOf "drop_descriptor" "Processes.drop_descriptor" (defArgs s_Processes_drop_descriptor) (defBody s_Processes_drop_descriptor) (defScope s_Processes_drop_descriptor) .none kV_Processes_drop_descriptor dc_Processes_drop_descriptor pm_Processes_drop_descriptor an_Processes_drop_descriptor cd_Processes_drop_descriptor ct_Processes_drop_descriptor), sl_Processes_drop_descriptor⟩)
    (c_Processes_drop_descriptor : PySem.W.codeIn K cd_Processes_drop_descriptor "Processes.drop_descriptor" = true)
    (k_Processes_drop_descriptor : PySem.W.keepIn K (.ref f_Processes_drop_descriptor) = true)
    (a_Processes_works_in : PySem.W.findIn K (.ref C_Processes) "works_in" = some (some (.ref f_Processes_works_in)))
    (i_Processes_works_in : PySem.W.isFn K (.ref f_Processes_works_in) = true)
    (l_Processes_works_in : K.lookup f_Processes_works_in = some ⟨oc_Processes_works_in, od_Processes_works_in, .func (PySem.W.fnOf "works_in" "Processes.works_in" (defArgs s_Processes_works_in) (defBody s_Processes_works_in) (defScope s_Processes_works_in) .none kV_Processes_works_in dc_Processes_works_in pm_Processes_works_in an_Processes_works_in cd_Processes_works_in ct_Processes_works_in), sl_Processes_works_in⟩)
    (c_Processes_works_in : PySem.W.codeIn K cd_Processes_works_in "Processes.works_in" = true)
    (k_Processes_works_in : PySem.W.keepIn K (.ref f_Processes_works_in) = true)
    (a_Processes_uses_volume : PySem.W.findIn K (.ref C_Processes) "uses_volume" = some (some (.ref f_Processes_uses_volume)))
    (i_Processes_uses_volume : PySem.W.isFn K (.ref f_Processes_uses_volume) = true)
    (l_Processes_uses_volume : K.lookup f_Processes_uses_volume = some ⟨oc_Processes_uses_volume, od_Processes_uses_volume, .func (PySem.W.fnOf "uses_volume" "Processes.uses_volume" (defArgs s_Processes_uses_volume) (defBody s_Processes_uses_volume) (defScope s_Processes_uses_volume) .none kV_Processes_uses_volume dc_Processes_uses_volume pm_Processes_uses_volume an_Processes_uses_volume cd_Processes_uses_volume ct_Processes_uses_volume), sl_Processes_uses_volume⟩)
    (c_Processes_uses_volume : PySem.W.codeIn K cd_Processes_uses_volume "Processes.uses_volume" = true)
    (k_Processes_uses_volume : PySem.W.keepIn K (.ref f_Processes_uses_volume) = true)
    (a_Processes_uses_owner : PySem.W.findIn K (.ref C_Processes) "uses_owner" = some (some (.ref f_Processes_uses_owner)))
    (i_Processes_uses_owner : PySem.W.isFn K (.ref f_Processes_uses_owner) = true)
    (l_Processes_uses_owner : K.lookup f_Processes_uses_owner = some ⟨oc_Processes_uses_owner, od_Processes_uses_owner, .func (PySem.W.fnOf "uses_owner" "Processes.uses_owner" (defArgs s_Processes_uses_owner) (defBody s_Processes_uses_owner) (defScope s_Processes_uses_owner) .none kV_Processes_uses_owner dc_Processes_uses_owner pm_Processes_uses_owner an_Processes_uses_owner cd_Processes_uses_owner ct_Processes_uses_owner), sl_Processes_uses_owner⟩)
    (c_Processes_uses_owner : PySem.W.codeIn K cd_Processes_uses_owner "Processes.uses_owner" = true)
    (k_Processes_uses_owner : PySem.W.keepIn K (.ref f_Processes_uses_owner) = true)
    (a_Processes_copy_process : PySem.W.findIn K (.ref C_Processes) "copy_process" = some (some (.ref f_Processes_copy_process)))
    (i_Processes_copy_process : PySem.W.isFn K (.ref f_Processes_copy_process) = true)
    (l_Processes_copy_process : K.lookup f_Processes_copy_process = some ⟨oc_Processes_copy_process, od_Processes_copy_process, .func (PySem.W.fnOf "copy_process" "Processes.copy_process" (defArgs s_Processes_copy_process) (defBody s_Processes_copy_process) (defScope s_Processes_copy_process) .none kV_Processes_copy_process dc_Processes_copy_process pm_Processes_copy_process an_Processes_copy_process cd_Processes_copy_process ct_Processes_copy_process), sl_Processes_copy_process⟩)
    (c_Processes_copy_process : PySem.W.codeIn K cd_Processes_copy_process "Processes.copy_process" = true)
    (k_Processes_copy_process : PySem.W.keepIn K (.ref f_Processes_copy_process) = true)
    (a_Processes_descriptors : PySem.W.findIn K (.ref C_Processes) "descriptors" = some (some (.ref f_Processes_descriptors)))
    (i_Processes_descriptors : PySem.W.isFn K (.ref f_Processes_descriptors) = true)
    (l_Processes_descriptors : K.lookup f_Processes_descriptors = some ⟨oc_Processes_descriptors, od_Processes_descriptors, .func (PySem.W.fnOf "descriptors" "Processes.descriptors" (defArgs s_Processes_descriptors) (defBody s_Processes_descriptors) (defScope s_Processes_descriptors) .none kV_Processes_descriptors dc_Processes_descriptors pm_Processes_descriptors an_Processes_descriptors cd_Processes_descriptors ct_Processes_descriptors), sl_Processes_descriptors⟩)
    (c_Processes_descriptors : PySem.W.codeIn K cd_Processes_descriptors "Processes.descriptors" = true)
    (k_Processes_descriptors : PySem.W.keepIn K (.ref f_Processes_descriptors) = true)
    (a_fork : PySem.W.nsIn K mainGlobals "fork" = some (some (.ref f_fork)))
    (l_fork : K.lookup f_fork = some ⟨oc_fork, od_fork, .func (PySem.W.fnOf "fork" "fork" (defArgs s_fork) (defBody s_fork) (defScope s_fork) .none kV_fork dc_fork pm_fork an_fork cd_fork ct_fork), sl_fork⟩)
    (c_fork : PySem.W.codeIn K cd_fork "fork" = true)
    (k_fork : PySem.W.keepIn K (.ref f_fork) = true)
    (a__law_classes : PySem.W.nsIn K mainGlobals "_law_classes" = some (some (.ref f__law_classes)))
    (l__law_classes : K.lookup f__law_classes = some ⟨oc__law_classes, od__law_classes, .func (PySem.W.fnOf "_law_classes" "_law_classes" (defArgs s__law_classes) (defBody s__law_classes) (defScope s__law_classes) .none kV__law_classes dc__law_classes pm__law_classes an__law_classes cd__law_classes ct__law_classes), sl__law_classes⟩)
    (c__law_classes : PySem.W.codeIn K cd__law_classes "_law_classes" = true)
    (k__law_classes : PySem.W.keepIn K (.ref f__law_classes) = true)
    (a__law_play : PySem.W.nsIn K mainGlobals "_law_play" = some (some (.ref f__law_play)))
    (l__law_play : K.lookup f__law_play = some ⟨oc__law_play, od__law_play, .func (PySem.W.fnOf "_law_play" "_law_play" (defArgs s__law_play) (defBody s__law_play) (defScope s__law_play) .none kV__law_play dc__law_play pm__law_play an__law_play cd__law_play ct__law_play), sl__law_play⟩)
    (c__law_play : PySem.W.codeIn K cd__law_play "_law_play" = true)
    (k__law_play : PySem.W.keepIn K (.ref f__law_play) = true)
    (a__law_least : PySem.W.nsIn K mainGlobals "_law_least" = some (some (.ref f__law_least)))
    (l__law_least : K.lookup f__law_least = some ⟨oc__law_least, od__law_least, .func (PySem.W.fnOf "_law_least" "_law_least" (defArgs s__law_least) (defBody s__law_least) (defScope s__law_least) .none kV__law_least dc__law_least pm__law_least an__law_least cd__law_least ct__law_least), sl__law_least⟩)
    (c__law_least : PySem.W.codeIn K cd__law_least "_law_least" = true)
    (k__law_least : PySem.W.keepIn K (.ref f__law_least) = true)
    (a__law_due_descriptor : PySem.W.nsIn K mainGlobals "_law_due_descriptor" = some (some (.ref f__law_due_descriptor)))
    (l__law_due_descriptor : K.lookup f__law_due_descriptor = some ⟨oc__law_due_descriptor, od__law_due_descriptor, .func (PySem.W.fnOf "_law_due_descriptor" "_law_due_descriptor" (defArgs s__law_due_descriptor) (defBody s__law_due_descriptor) (defScope s__law_due_descriptor) .none kV__law_due_descriptor dc__law_due_descriptor pm__law_due_descriptor an__law_due_descriptor cd__law_due_descriptor ct__law_due_descriptor), sl__law_due_descriptor⟩)
    (c__law_due_descriptor : PySem.W.codeIn K cd__law_due_descriptor "_law_due_descriptor" = true)
    (k__law_due_descriptor : PySem.W.keepIn K (.ref f__law_due_descriptor) = true)
    (a__law_due : PySem.W.nsIn K mainGlobals "_law_due" = some (some (.ref f__law_due)))
    (l__law_due : K.lookup f__law_due = some ⟨oc__law_due, od__law_due, .func (PySem.W.fnOf "_law_due" "_law_due" (defArgs s__law_due) (defBody s__law_due) (defScope s__law_due) .none kV__law_due dc__law_due pm__law_due an__law_due cd__law_due ct__law_due), sl__law_due⟩)
    (c__law_due : PySem.W.codeIn K cd__law_due "_law_due" = true)
    (k__law_due : PySem.W.keepIn K (.ref f__law_due) = true)
    (a__law_rows : PySem.W.nsIn K mainGlobals "_law_rows" = some (some (.ref f__law_rows)))
    (l__law_rows : K.lookup f__law_rows = some ⟨oc__law_rows, od__law_rows, .func (PySem.W.fnOf "_law_rows" "_law_rows" (defArgs s__law_rows) (defBody s__law_rows) (defScope s__law_rows) .none kV__law_rows dc__law_rows pm__law_rows an__law_rows cd__law_rows ct__law_rows), sl__law_rows⟩)
    (c__law_rows : PySem.W.codeIn K cd__law_rows "_law_rows" = true)
    (k__law_rows : PySem.W.keepIn K (.ref f__law_rows) = true)
    (a__law_found : PySem.W.nsIn K mainGlobals "_law_found" = some (some (.ref f__law_found)))
    (l__law_found : K.lookup f__law_found = some ⟨oc__law_found, od__law_found, .func (PySem.W.fnOf "_law_found" "_law_found" (defArgs s__law_found) (defBody s__law_found) (defScope s__law_found) .none kV__law_found dc__law_found pm__law_found an__law_found cd__law_found ct__law_found), sl__law_found⟩)
    (c__law_found : PySem.W.codeIn K cd__law_found "_law_found" = true)
    (k__law_found : PySem.W.keepIn K (.ref f__law_found) = true)
    (a__law_shows : PySem.W.nsIn K mainGlobals "_law_shows" = some (some (.ref f__law_shows)))
    (l__law_shows : K.lookup f__law_shows = some ⟨oc__law_shows, od__law_shows, .func (PySem.W.fnOf "_law_shows" "_law_shows" (defArgs s__law_shows) (defBody s__law_shows) (defScope s__law_shows) .none kV__law_shows dc__law_shows pm__law_shows an__law_shows cd__law_shows ct__law_shows), sl__law_shows⟩)
    (c__law_shows : PySem.W.codeIn K cd__law_shows "_law_shows" = true)
    (k__law_shows : PySem.W.keepIn K (.ref f__law_shows) = true)
    (a_law : PySem.W.nsIn K mainGlobals "law" = some (some (.ref f_law)))
    (l_law : K.lookup f_law = some ⟨oc_law, od_law, .func (PySem.W.fnOf "law" "law" (defArgs s_law) (defBody s_law) (defScope s_law) .none kV_law dc_law pm_law an_law cd_law ct_law), sl_law⟩)
    (c_law : PySem.W.codeIn K cd_law "law" = true)
    (k_law : PySem.W.keepIn K (.ref f_law) = true)
    (pg_Handles : PySem.W.plainGet K C_Handles Str.empty = true)
    (hd_Handles : PySem.W.hasDictIn K C_Handles = true)
    (po_Handles : PySem.W.plainOver K C_Handles = true)
    (sa_Handles : PySem.W.findIn K (.ref C_Handles) "__setattr__" = some (some (.builtin "object.__setattr__")))
    (mk_Handles : PySem.W.makesIn K C_Handles = true)
    (kc_Handles : PySem.W.keepIn K (.ref C_Handles) = true)
    (pg_Processes : PySem.W.plainGet K C_Processes Str.empty = true)
    (hd_Processes : PySem.W.hasDictIn K C_Processes = true)
    (po_Processes : PySem.W.plainOver K C_Processes = true)
    (sa_Processes : PySem.W.findIn K (.ref C_Processes) "__setattr__" = some (some (.builtin "object.__setattr__")))
    (mk_Processes : PySem.W.makesIn K C_Processes = true)
    (kc_Processes : PySem.W.keepIn K (.ref C_Processes) = true)
    (n_dict : PySem.W.nsIn K mainGlobals "dict" = some none)
    (n_int : PySem.W.nsIn K mainGlobals "int" = some none)
    (n_isinstance : PySem.W.nsIn K mainGlobals "isinstance" = some none)
    (n_len : PySem.W.nsIn K mainGlobals "len" = some none)
    (n_list : PySem.W.nsIn K mainGlobals "list" = some none)
    (n_range : PySem.W.nsIn K mainGlobals "range" = some none)
    (n_sorted : PySem.W.nsIn K mainGlobals "sorted" = some none)
    (kc_MAX_DESCRIPTORS : PySem.W.nsIn K mainGlobals "MAX_DESCRIPTORS" = some (some (.int 8 t_MAX_DESCRIPTORS)))
    (kc_MAX_PROCESSES : PySem.W.nsIn K mainGlobals "MAX_PROCESSES" = some (some (.int 4 t_MAX_PROCESSES)))
    (kc_ROOT : PySem.W.nsIn K mainGlobals "ROOT" = some (some (.int 1 t_ROOT)))
    (ex_BadHandle : PySem.W.excIn K C_BadHandle [.type "ValueError", .type "Exception", .type "BaseException", .type "object"] "ValueError.__new__" = true)
    (kc_BadHandle : PySem.W.keepIn K (.ref C_BadHandle) = true)
    (sb_BadHandle : PySem.W.subIn K (.ref C_BadHandle) (.type "BaseException") = some true)
    (ty_BadHandle : PySem.W.typeIn K (.ref C_BadHandle) = some (.type "type"))
    (ex_LaminaError : PySem.W.excIn K C_LaminaError [.type "ValueError", .type "Exception", .type "BaseException", .type "object"] "ValueError.__new__" = true)
    (kc_LaminaError : PySem.W.keepIn K (.ref C_LaminaError) = true)
    (sb_LaminaError : PySem.W.subIn K (.ref C_LaminaError) (.type "BaseException") = some true)
    (ty_LaminaError : PySem.W.typeIn K (.ref C_LaminaError) = some (.type "type"))
    (ex_NoProcess : PySem.W.excIn K C_NoProcess [.type "ValueError", .type "Exception", .type "BaseException", .type "object"] "ValueError.__new__" = true)
    (kc_NoProcess : PySem.W.keepIn K (.ref C_NoProcess) = true)
    (sb_NoProcess : PySem.W.subIn K (.ref C_NoProcess) (.type "BaseException") = some true)
    (ty_NoProcess : PySem.W.typeIn K (.ref C_NoProcess) = some (.type "type"))
    (ex_TooMany : PySem.W.excIn K C_TooMany [.type "ValueError", .type "Exception", .type "BaseException", .type "object"] "ValueError.__new__" = true)
    (kc_TooMany : PySem.W.keepIn K (.ref C_TooMany) = true)
    (sb_TooMany : PySem.W.subIn K (.ref C_TooMany) (.type "BaseException") = some true)
    (ty_TooMany : PySem.W.typeIn K (.ref C_TooMany) = some (.type "type"))
    (nf_Handles_files : PySem.W.findIn K (.ref C_Handles) "files" = some none)
    (nf_Processes_processes : PySem.W.findIn K (.ref C_Processes) "processes" = some none)
    (su_BadHandle_BadHandle : PySem.W.subIn K (.ref C_BadHandle) (.ref C_BadHandle) = some true)
    (su_BadHandle_LaminaError : PySem.W.subIn K (.ref C_BadHandle) (.ref C_LaminaError) = some true)
    (su_BadHandle_NoProcess : PySem.W.subIn K (.ref C_BadHandle) (.ref C_NoProcess) = some false)
    (su_BadHandle_TooMany : PySem.W.subIn K (.ref C_BadHandle) (.ref C_TooMany) = some false)
    (su_LaminaError_BadHandle : PySem.W.subIn K (.ref C_LaminaError) (.ref C_BadHandle) = some false)
    (su_LaminaError_LaminaError : PySem.W.subIn K (.ref C_LaminaError) (.ref C_LaminaError) = some true)
    (su_LaminaError_NoProcess : PySem.W.subIn K (.ref C_LaminaError) (.ref C_NoProcess) = some false)
    (su_LaminaError_TooMany : PySem.W.subIn K (.ref C_LaminaError) (.ref C_TooMany) = some false)
    (su_NoProcess_BadHandle : PySem.W.subIn K (.ref C_NoProcess) (.ref C_BadHandle) = some false)
    (su_NoProcess_LaminaError : PySem.W.subIn K (.ref C_NoProcess) (.ref C_LaminaError) = some true)
    (su_NoProcess_TooMany : PySem.W.subIn K (.ref C_NoProcess) (.ref C_TooMany) = some false)
    (su_TooMany_BadHandle : PySem.W.subIn K (.ref C_TooMany) (.ref C_BadHandle) = some false)
    (su_TooMany_LaminaError : PySem.W.subIn K (.ref C_TooMany) (.ref C_LaminaError) = some true)
    (su_TooMany_NoProcess : PySem.W.subIn K (.ref C_TooMany) (.ref C_NoProcess) = some false)
    (hx_BadHandle : PySem.W.hasDictIn K C_BadHandle = true)
    (hx_LaminaError : PySem.W.hasDictIn K C_LaminaError = true)
    (hx_NoProcess : PySem.W.hasDictIn K C_NoProcess = true)
    (hx_TooMany : PySem.W.hasDictIn K C_TooMany = true)
    (ne_LaminaError_NoProcess : (Value.ref C_LaminaError == Value.ref C_NoProcess) = false)
    (ne_BadHandle_NoProcess : (Value.ref C_BadHandle == Value.ref C_NoProcess) = false)
    (ne_TooMany_NoProcess : (Value.ref C_TooMany == Value.ref C_NoProcess) = false)
    (ne_LaminaError_BadHandle : (Value.ref C_LaminaError == Value.ref C_BadHandle) = false)
    (ne_NoProcess_BadHandle : (Value.ref C_NoProcess == Value.ref C_BadHandle) = false)
    (ne_TooMany_BadHandle : (Value.ref C_TooMany == Value.ref C_BadHandle) = false)
    (ne_LaminaError_TooMany : (Value.ref C_LaminaError == Value.ref C_TooMany) = false)
    (ne_NoProcess_TooMany : (Value.ref C_NoProcess == Value.ref C_TooMany) = false)
    (ne_BadHandle_TooMany : (Value.ref C_BadHandle == Value.ref C_TooMany) = false)
    (ga_LaminaError : PySem.W.findIn K (.ref C_LaminaError) "__getattribute__" = some (some (.builtin "BaseException.__getattribute__")))
    (gg_LaminaError : PySem.W.findIn K (.ref C_LaminaError) "__getattr__" = some none)
    (cl_LaminaError : PySem.W.findIn K (.ref C_LaminaError) "__class__" = some (some (.builtin "object.__class__")))
    (om_LaminaError : PySem.W.mroIn K C_LaminaError (.type "object") = some true)
    (ga_NoProcess : PySem.W.findIn K (.ref C_NoProcess) "__getattribute__" = some (some (.builtin "BaseException.__getattribute__")))
    (gg_NoProcess : PySem.W.findIn K (.ref C_NoProcess) "__getattr__" = some none)
    (cl_NoProcess : PySem.W.findIn K (.ref C_NoProcess) "__class__" = some (some (.builtin "object.__class__")))
    (om_NoProcess : PySem.W.mroIn K C_NoProcess (.type "object") = some true)
    (ga_BadHandle : PySem.W.findIn K (.ref C_BadHandle) "__getattribute__" = some (some (.builtin "BaseException.__getattribute__")))
    (gg_BadHandle : PySem.W.findIn K (.ref C_BadHandle) "__getattr__" = some none)
    (cl_BadHandle : PySem.W.findIn K (.ref C_BadHandle) "__class__" = some (some (.builtin "object.__class__")))
    (om_BadHandle : PySem.W.mroIn K C_BadHandle (.type "object") = some true)
    (ga_TooMany : PySem.W.findIn K (.ref C_TooMany) "__getattribute__" = some (some (.builtin "BaseException.__getattribute__")))
    (gg_TooMany : PySem.W.findIn K (.ref C_TooMany) "__getattr__" = some none)
    (cl_TooMany : PySem.W.findIn K (.ref C_TooMany) "__class__" = some (some (.builtin "object.__class__")))
    (om_TooMany : PySem.W.mroIn K C_TooMany (.type "object") = some true)
    (sp_cls : PySem.W.specialIn K (.builtin "object.__class__") "__get__" = some (some (.builtin "getset_descriptor.__get__")))
    (tk_cls : PySem.W.takesIn K (.builtin "object.__class__") = some true) :
    ∃ fd : FuncData, (∀ (s : Shared) (v : Value), BindsTo s fd ⟨[v], []⟩ [("_law_script", v)]) ∧ ∀ base : Heap, K.In base → base.Ns mainGlobals mg → FnOk P w K mg base (L2.CX P w) 5 fa fd ["_law_script"] (spLaw K) := by
  have e := hfa.symm.trans (PySem.W.mg_of X G a_law)
  cases e
  have F_Handles___init__ := fun_mk (st := s_Handles___init__) l_Handles___init__ c_Handles___init__ k_Handles___init__
  have F_Handles__look := fun_mk (st := s_Handles__look) l_Handles__look c_Handles__look k_Handles__look
  have F_Handles_add_reference := fun_mk (st := s_Handles_add_reference) l_Handles_add_reference c_Handles_add_reference k_Handles_add_reference
  have F_Processes___init__ := fun_mk (st := s_Processes___init__) l_Processes___init__ c_Processes___init__ k_Processes___init__
  have F_Processes__look := fun_mk (st := s_Processes__look) l_Processes__look c_Processes__look k_Processes__look
  have F_Processes_list_processes := fun_mk (st := s_Processes_list_processes) l_Processes_list_processes c_Processes_list_processes k_Processes_list_processes
  have F_Processes_look_up := fun_mk (st := s_Processes_look_up) l_Processes_look_up c_Processes_look_up k_Processes_look_up
  have F_Processes_set_owner := fun_mk (st := s_Processes_set_owner) l_Processes_set_owner c_Processes_set_owner k_Processes_set_owner
  have F_Processes_set_directory := fun_mk (st := s_Processes_set_directory) l_Processes_set_directory c_Processes_set_directory k_Processes_set_directory
  have F_Processes_has_room := fun_mk (st := s_Processes_has_room) l_Processes_has_room c_Processes_has_room k_Processes_has_room
  have F_Processes_add_descriptor := fun_mk (st := s_Processes_add_descriptor) l_Processes_add_descriptor c_Processes_add_descriptor k_Processes_add_descriptor
  have F_Processes_find_open_file := fun_mk (st := s_Processes_find_open_file) l_Processes_find_open_file c_Processes_find_open_file k_Processes_find_open_file
  have F_Processes_drop_descriptor := fun_mk (st := s_Processes_drop_descriptor) l_Processes_drop_descriptor c_Processes_drop_descriptor k_Processes_drop_descriptor
  have F_Processes_works_in := fun_mk (st := s_Processes_works_in) l_Processes_works_in c_Processes_works_in k_Processes_works_in
  have F_Processes_uses_volume := fun_mk (st := s_Processes_uses_volume) l_Processes_uses_volume c_Processes_uses_volume k_Processes_uses_volume
  have F_Processes_uses_owner := fun_mk (st := s_Processes_uses_owner) l_Processes_uses_owner c_Processes_uses_owner k_Processes_uses_owner
  have F_Processes_copy_process := fun_mk (st := s_Processes_copy_process) l_Processes_copy_process c_Processes_copy_process k_Processes_copy_process
  have F_Processes_descriptors := fun_mk (st := s_Processes_descriptors) l_Processes_descriptors c_Processes_descriptors k_Processes_descriptors
  have F_fork := fun_mk (st := s_fork) l_fork c_fork k_fork
  have F__law_classes := fun_mk (st := s__law_classes) l__law_classes c__law_classes k__law_classes
  have F__law_play := fun_mk (st := s__law_play) l__law_play c__law_play k__law_play
  have F__law_least := fun_mk (st := s__law_least) l__law_least c__law_least k__law_least
  have F__law_due_descriptor := fun_mk (st := s__law_due_descriptor) l__law_due_descriptor c__law_due_descriptor k__law_due_descriptor
  have F__law_due := fun_mk (st := s__law_due) l__law_due c__law_due k__law_due
  have F__law_rows := fun_mk (st := s__law_rows) l__law_rows c__law_rows k__law_rows
  have F__law_found := fun_mk (st := s__law_found) l__law_found c__law_found k__law_found
  have F__law_shows := fun_mk (st := s__law_shows) l__law_shows c__law_shows k__law_shows
  have F_law := fun_mk (st := s_law) l_law c_law k_law
  let A : Adr := {
    ex := { ({ } : Ex) with Handles := C_Handles, Processes := C_Processes, LaminaError := C_LaminaError, NoProcess := C_NoProcess, BadHandle := C_BadHandle, TooMany := C_TooMany },
    f_Handles___init__ := f_Handles___init__, d_Handles___init__ := PySem.W.fnOf "__init__" "Handles.__init__" (defArgs s_Handles___init__) (defBody s_Handles___init__) (defScope s_Handles___init__) .none kV_Handles___init__ dc_Handles___init__ pm_Handles___init__ an_Handles___init__ cd_Handles___init__ ct_Handles___init__,
    f_Handles__look := f_Handles__look, d_Handles__look := PySem.W.fnOf "_look" "Handles._look" (defArgs s_Handles__look) (defBody s_Handles__look) (defScope s_Handles__look) .none kV_Handles__look dc_Handles__look pm_Handles__look an_Handles__look cd_Handles__look ct_Handles__look,
    f_Handles_add_reference := f_Handles_add_reference, d_Handles_add_reference := PySem.W.fnOf "add_reference" "Handles.add_reference" (defArgs s_Handles_add_reference) (defBody s_Handles_add_reference) (defScope s_Handles_add_reference) .none kV_Handles_add_reference dc_Handles_add_reference pm_Handles_add_reference an_Handles_add_reference cd_Handles_add_reference ct_Handles_add_reference,
    f_Processes___init__ := f_Processes___init__, d_Processes___init__ := PySem.W.fnOf "__init__" "Processes.__init__" (defArgs s_Processes___init__) (defBody s_Processes___init__) (defScope s_Processes___init__) .none kV_Processes___init__ dc_Processes___init__ pm_Processes___init__ an_Processes___init__ cd_Processes___init__ ct_Processes___init__,
    f_Processes__look := f_Processes__look, d_Processes__look := PySem.W.fnOf "_look" "Processes._look" (defArgs s_Processes__look) (defBody s_Processes__look) (defScope s_Processes__look) .none kV_Processes__look dc_Processes__look pm_Processes__look an_Processes__look cd_Processes__look ct_Processes__look,
    f_Processes_list_processes := f_Processes_list_processes, d_Processes_list_processes := PySem.W.fnOf "list_processes" "Processes.list_processes" (defArgs s_Processes_list_processes) (defBody s_Processes_list_processes) (defScope s_Processes_list_processes) .none kV_Processes_list_processes dc_Processes_list_processes pm_Processes_list_processes an_Processes_list_processes cd_Processes_list_processes ct_Processes_list_processes,
    f_Processes_look_up := f_Processes_look_up, d_Processes_look_up := PySem.W.fnOf "look_up" "Processes.look_up" (defArgs s_Processes_look_up) (defBody s_Processes_look_up) (defScope s_Processes_look_up) .none kV_Processes_look_up dc_Processes_look_up pm_Processes_look_up an_Processes_look_up cd_Processes_look_up ct_Processes_look_up,
    f_Processes_set_owner := f_Processes_set_owner, d_Processes_set_owner := PySem.W.fnOf "set_owner" "Processes.set_owner" (defArgs s_Processes_set_owner) (defBody s_Processes_set_owner) (defScope s_Processes_set_owner) .none kV_Processes_set_owner dc_Processes_set_owner pm_Processes_set_owner an_Processes_set_owner cd_Processes_set_owner ct_Processes_set_owner,
    f_Processes_set_directory := f_Processes_set_directory, d_Processes_set_directory := PySem.W.fnOf "set_directory" "Processes.set_directory" (defArgs s_Processes_set_directory) (defBody s_Processes_set_directory) (defScope s_Processes_set_directory) .none kV_Processes_set_directory dc_Processes_set_directory pm_Processes_set_directory an_Processes_set_directory cd_Processes_set_directory ct_Processes_set_directory,
    f_Processes_has_room := f_Processes_has_room, d_Processes_has_room := PySem.W.fnOf "has_room" "Processes.has_room" (defArgs s_Processes_has_room) (defBody s_Processes_has_room) (defScope s_Processes_has_room) .none kV_Processes_has_room dc_Processes_has_room pm_Processes_has_room an_Processes_has_room cd_Processes_has_room ct_Processes_has_room,
    f_Processes_add_descriptor := f_Processes_add_descriptor, d_Processes_add_descriptor := PySem.W.fnOf "add_descriptor" "Processes.add_descriptor" (defArgs s_Processes_add_descriptor) (defBody s_Processes_add_descriptor) (defScope s_Processes_add_descriptor) .none kV_Processes_add_descriptor dc_Processes_add_descriptor pm_Processes_add_descriptor an_Processes_add_descriptor cd_Processes_add_descriptor ct_Processes_add_descriptor,
    f_Processes_find_open_file := f_Processes_find_open_file, d_Processes_find_open_file := PySem.W.fnOf "find_open_file" "Processes.find_open_file" (defArgs s_Processes_find_open_file) (defBody s_Processes_find_open_file) (defScope s_Processes_find_open_file) .none kV_Processes_find_open_file dc_Processes_find_open_file pm_Processes_find_open_file an_Processes_find_open_file cd_Processes_find_open_file ct_Processes_find_open_file,
    f_Processes_drop_descriptor := f_Processes_drop_descriptor, d_Processes_drop_descriptor := PySem.W.fnOf "drop_descriptor" "Processes.drop_descriptor" (defArgs s_Processes_drop_descriptor) (defBody s_Processes_drop_descriptor) (defScope s_Processes_drop_descriptor) .none kV_Processes_drop_descriptor dc_Processes_drop_descriptor pm_Processes_drop_descriptor an_Processes_drop_descriptor cd_Processes_drop_descriptor ct_Processes_drop_descriptor,
    f_Processes_works_in := f_Processes_works_in, d_Processes_works_in := PySem.W.fnOf "works_in" "Processes.works_in" (defArgs s_Processes_works_in) (defBody s_Processes_works_in) (defScope s_Processes_works_in) .none kV_Processes_works_in dc_Processes_works_in pm_Processes_works_in an_Processes_works_in cd_Processes_works_in ct_Processes_works_in,
    f_Processes_uses_volume := f_Processes_uses_volume, d_Processes_uses_volume := PySem.W.fnOf "uses_volume" "Processes.uses_volume" (defArgs s_Processes_uses_volume) (defBody s_Processes_uses_volume) (defScope s_Processes_uses_volume) .none kV_Processes_uses_volume dc_Processes_uses_volume pm_Processes_uses_volume an_Processes_uses_volume cd_Processes_uses_volume ct_Processes_uses_volume,
    f_Processes_uses_owner := f_Processes_uses_owner, d_Processes_uses_owner := PySem.W.fnOf "uses_owner" "Processes.uses_owner" (defArgs s_Processes_uses_owner) (defBody s_Processes_uses_owner) (defScope s_Processes_uses_owner) .none kV_Processes_uses_owner dc_Processes_uses_owner pm_Processes_uses_owner an_Processes_uses_owner cd_Processes_uses_owner ct_Processes_uses_owner,
    f_Processes_copy_process := f_Processes_copy_process, d_Processes_copy_process := PySem.W.fnOf "copy_process" "Processes.copy_process" (defArgs s_Processes_copy_process) (defBody s_Processes_copy_process) (defScope s_Processes_copy_process) .none kV_Processes_copy_process dc_Processes_copy_process pm_Processes_copy_process an_Processes_copy_process cd_Processes_copy_process ct_Processes_copy_process,
    f_Processes_descriptors := f_Processes_descriptors, d_Processes_descriptors := PySem.W.fnOf "descriptors" "Processes.descriptors" (defArgs s_Processes_descriptors) (defBody s_Processes_descriptors) (defScope s_Processes_descriptors) .none kV_Processes_descriptors dc_Processes_descriptors pm_Processes_descriptors an_Processes_descriptors cd_Processes_descriptors ct_Processes_descriptors,
    f_fork := f_fork, d_fork := PySem.W.fnOf "fork" "fork" (defArgs s_fork) (defBody s_fork) (defScope s_fork) .none kV_fork dc_fork pm_fork an_fork cd_fork ct_fork,
    f__law_classes := f__law_classes, d__law_classes := PySem.W.fnOf "_law_classes" "_law_classes" (defArgs s__law_classes) (defBody s__law_classes) (defScope s__law_classes) .none kV__law_classes dc__law_classes pm__law_classes an__law_classes cd__law_classes ct__law_classes,
    f__law_play := f__law_play, d__law_play := PySem.W.fnOf "_law_play" "_law_play" (defArgs s__law_play) (defBody s__law_play) (defScope s__law_play) .none kV__law_play dc__law_play pm__law_play an__law_play cd__law_play ct__law_play,
    f__law_least := f__law_least, d__law_least := PySem.W.fnOf "_law_least" "_law_least" (defArgs s__law_least) (defBody s__law_least) (defScope s__law_least) .none kV__law_least dc__law_least pm__law_least an__law_least cd__law_least ct__law_least,
    f__law_due_descriptor := f__law_due_descriptor, d__law_due_descriptor := PySem.W.fnOf "_law_due_descriptor" "_law_due_descriptor" (defArgs s__law_due_descriptor) (defBody s__law_due_descriptor) (defScope s__law_due_descriptor) .none kV__law_due_descriptor dc__law_due_descriptor pm__law_due_descriptor an__law_due_descriptor cd__law_due_descriptor ct__law_due_descriptor,
    f__law_due := f__law_due, d__law_due := PySem.W.fnOf "_law_due" "_law_due" (defArgs s__law_due) (defBody s__law_due) (defScope s__law_due) .none kV__law_due dc__law_due pm__law_due an__law_due cd__law_due ct__law_due,
    f__law_rows := f__law_rows, d__law_rows := PySem.W.fnOf "_law_rows" "_law_rows" (defArgs s__law_rows) (defBody s__law_rows) (defScope s__law_rows) .none kV__law_rows dc__law_rows pm__law_rows an__law_rows cd__law_rows ct__law_rows,
    f__law_found := f__law_found, d__law_found := PySem.W.fnOf "_law_found" "_law_found" (defArgs s__law_found) (defBody s__law_found) (defScope s__law_found) .none kV__law_found dc__law_found pm__law_found an__law_found cd__law_found ct__law_found,
    f__law_shows := f__law_shows, d__law_shows := PySem.W.fnOf "_law_shows" "_law_shows" (defArgs s__law_shows) (defBody s__law_shows) (defScope s__law_shows) .none kV__law_shows dc__law_shows pm__law_shows an__law_shows cd__law_shows ct__law_shows,
    f_law := fa, d_law := PySem.W.fnOf "law" "law" (defArgs s_law) (defBody s_law) (defScope s_law) .none kV_law dc_law pm_law an_law cd_law ct_law }
  have T : Top K mg A := {
    F_Handles___init__ := F_Handles___init__,
    b_Handles___init__ := F_Handles___init__.binds (ps := ["self"]) fun _ _ _ _ _ _ us hl => match us, hl with | [_], _ => rfl,
    F_Handles__look := F_Handles__look,
    b_Handles__look := F_Handles__look.binds (ps := ["self", "number"]) fun _ _ _ _ _ _ us hl => match us, hl with | [_, _], _ => rfl,
    m_Handles__look := ⟨a_Handles__look, i_Handles__look, k_Handles__look⟩,
    F_Handles_add_reference := F_Handles_add_reference,
    b_Handles_add_reference := F_Handles_add_reference.binds (ps := ["self", "number"]) fun _ _ _ _ _ _ us hl => match us, hl with | [_, _], _ => rfl,
    m_Handles_add_reference := ⟨a_Handles_add_reference, i_Handles_add_reference, k_Handles_add_reference⟩,
    F_Processes___init__ := F_Processes___init__,
    b_Processes___init__ := F_Processes___init__.binds (ps := ["self", "volume"]) fun _ _ _ _ _ _ us hl => match us, hl with | [_, _], _ => rfl,
    F_Processes__look := F_Processes__look,
    b_Processes__look := F_Processes__look.binds (ps := ["self", "process"]) fun _ _ _ _ _ _ us hl => match us, hl with | [_, _], _ => rfl,
    m_Processes__look := ⟨a_Processes__look, i_Processes__look, k_Processes__look⟩,
    F_Processes_list_processes := F_Processes_list_processes,
    b_Processes_list_processes := F_Processes_list_processes.binds (ps := ["self"]) fun _ _ _ _ _ _ us hl => match us, hl with | [_], _ => rfl,
    m_Processes_list_processes := ⟨a_Processes_list_processes, i_Processes_list_processes, k_Processes_list_processes⟩,
    F_Processes_look_up := F_Processes_look_up,
    b_Processes_look_up := F_Processes_look_up.binds (ps := ["self", "process"]) fun _ _ _ _ _ _ us hl => match us, hl with | [_, _], _ => rfl,
    m_Processes_look_up := ⟨a_Processes_look_up, i_Processes_look_up, k_Processes_look_up⟩,
    F_Processes_set_owner := F_Processes_set_owner,
    b_Processes_set_owner := F_Processes_set_owner.binds (ps := ["self", "process", "owner"]) fun _ _ _ _ _ _ us hl => match us, hl with | [_, _, _], _ => rfl,
    m_Processes_set_owner := ⟨a_Processes_set_owner, i_Processes_set_owner, k_Processes_set_owner⟩,
    F_Processes_set_directory := F_Processes_set_directory,
    b_Processes_set_directory := F_Processes_set_directory.binds (ps := ["self", "process", "volume", "directory"]) fun _ _ _ _ _ _ us hl => match us, hl with | [_, _, _, _], _ => rfl,
    m_Processes_set_directory := ⟨a_Processes_set_directory, i_Processes_set_directory, k_Processes_set_directory⟩,
    F_Processes_has_room := F_Processes_has_room,
    b_Processes_has_room := F_Processes_has_room.binds (ps := ["self", "process"]) fun _ _ _ _ _ _ us hl => match us, hl with | [_, _], _ => rfl,
    m_Processes_has_room := ⟨a_Processes_has_room, i_Processes_has_room, k_Processes_has_room⟩,
    F_Processes_add_descriptor := F_Processes_add_descriptor,
    b_Processes_add_descriptor := F_Processes_add_descriptor.binds (ps := ["self", "process", "number"]) fun _ _ _ _ _ _ us hl => match us, hl with | [_, _, _], _ => rfl,
    m_Processes_add_descriptor := ⟨a_Processes_add_descriptor, i_Processes_add_descriptor, k_Processes_add_descriptor⟩,
    F_Processes_find_open_file := F_Processes_find_open_file,
    b_Processes_find_open_file := F_Processes_find_open_file.binds (ps := ["self", "process", "descriptor"]) fun _ _ _ _ _ _ us hl => match us, hl with | [_, _, _], _ => rfl,
    m_Processes_find_open_file := ⟨a_Processes_find_open_file, i_Processes_find_open_file, k_Processes_find_open_file⟩,
    F_Processes_drop_descriptor := F_Processes_drop_descriptor,
    b_Processes_drop_descriptor := F_Processes_drop_descriptor.binds (ps := ["self", "process", "descriptor"]) fun _ _ _ _ _ _ us hl => match us, hl with | [_, _, _], _ => rfl,
    m_Processes_drop_descriptor := ⟨a_Processes_drop_descriptor, i_Processes_drop_descriptor, k_Processes_drop_descriptor⟩,
    F_Processes_works_in := F_Processes_works_in,
    b_Processes_works_in := F_Processes_works_in.binds (ps := ["self", "volume", "directory"]) fun _ _ _ _ _ _ us hl => match us, hl with | [_, _, _], _ => rfl,
    m_Processes_works_in := ⟨a_Processes_works_in, i_Processes_works_in, k_Processes_works_in⟩,
    F_Processes_uses_volume := F_Processes_uses_volume,
    b_Processes_uses_volume := F_Processes_uses_volume.binds (ps := ["self", "volume"]) fun _ _ _ _ _ _ us hl => match us, hl with | [_, _], _ => rfl,
    m_Processes_uses_volume := ⟨a_Processes_uses_volume, i_Processes_uses_volume, k_Processes_uses_volume⟩,
    F_Processes_uses_owner := F_Processes_uses_owner,
    b_Processes_uses_owner := F_Processes_uses_owner.binds (ps := ["self", "owner"]) fun _ _ _ _ _ _ us hl => match us, hl with | [_, _], _ => rfl,
    m_Processes_uses_owner := ⟨a_Processes_uses_owner, i_Processes_uses_owner, k_Processes_uses_owner⟩,
    F_Processes_copy_process := F_Processes_copy_process,
    b_Processes_copy_process := F_Processes_copy_process.binds (ps := ["self", "process"]) fun _ _ _ _ _ _ us hl => match us, hl with | [_, _], _ => rfl,
    m_Processes_copy_process := ⟨a_Processes_copy_process, i_Processes_copy_process, k_Processes_copy_process⟩,
    F_Processes_descriptors := F_Processes_descriptors,
    b_Processes_descriptors := F_Processes_descriptors.binds (ps := ["self", "process"]) fun _ _ _ _ _ _ us hl => match us, hl with | [_, _], _ => rfl,
    m_Processes_descriptors := ⟨a_Processes_descriptors, i_Processes_descriptors, k_Processes_descriptors⟩,
    F_fork := F_fork,
    b_fork := F_fork.binds (ps := ["handles", "processes", "process"]) fun _ _ _ _ _ _ us hl => match us, hl with | [_, _, _], _ => rfl,
    g_fork := PySem.W.mg_of X G a_fork,
    F__law_classes := F__law_classes,
    b__law_classes := F__law_classes.binds (ps := ["_law_error"]) fun _ _ _ _ _ _ us hl => match us, hl with | [_], _ => rfl,
    g__law_classes := PySem.W.mg_of X G a__law_classes,
    F__law_play := F__law_play,
    b__law_play := F__law_play.binds (ps := ["_law_handles", "_law_processes", "_law_deed"]) fun _ _ _ _ _ _ us hl => match us, hl with | [_, _, _], _ => rfl,
    g__law_play := PySem.W.mg_of X G a__law_play,
    F__law_least := F__law_least,
    b__law_least := F__law_least.binds (ps := ["_law_numbers"]) fun _ _ _ _ _ _ us hl => match us, hl with | [_], _ => rfl,
    g__law_least := PySem.W.mg_of X G a__law_least,
    F__law_due_descriptor := F__law_due_descriptor,
    b__law_due_descriptor := F__law_due_descriptor.binds (ps := ["_law_entry", "_law_deed"]) fun _ _ _ _ _ _ us hl => match us, hl with | [_, _], _ => rfl,
    g__law_due_descriptor := PySem.W.mg_of X G a__law_due_descriptor,
    F__law_due := F__law_due,
    b__law_due := F__law_due.binds (ps := ["_law_world", "_law_deed"]) fun _ _ _ _ _ _ us hl => match us, hl with | [_, _], _ => rfl,
    g__law_due := PySem.W.mg_of X G a__law_due,
    F__law_rows := F__law_rows,
    b__law_rows := F__law_rows.binds (ps := ["_law_world"]) fun _ _ _ _ _ _ us hl => match us, hl with | [_], _ => rfl,
    g__law_rows := PySem.W.mg_of X G a__law_rows,
    F__law_found := F__law_found,
    b__law_found := F__law_found.binds (ps := ["_law_processes", "_law_process", "_law_descriptor"]) fun _ _ _ _ _ _ us hl => match us, hl with | [_, _, _], _ => rfl,
    g__law_found := PySem.W.mg_of X G a__law_found,
    F__law_shows := F__law_shows,
    b__law_shows := F__law_shows.binds (ps := ["_law_processes", "_law_world"]) fun _ _ _ _ _ _ us hl => match us, hl with | [_, _], _ => rfl,
    g__law_shows := PySem.W.mg_of X G a__law_shows,
    F_law := F_law,
    b_law := F_law.binds (ps := ["_law_script"]) fun _ _ _ _ _ _ us hl => match us, hl with | [_], _ => rfl,
    g_law := PySem.W.mg_of X G a_law,
    c_Handles := ⟨pg_Handles, hd_Handles, po_Handles, sa_Handles⟩,
    M_Handles := ⟨mk_Handles, a_Handles___init__, i_Handles___init__, kc_Handles⟩,
    gC_Handles := PySem.W.mg_of X G aC_Handles,
    c_Processes := ⟨pg_Processes, hd_Processes, po_Processes, sa_Processes⟩,
    M_Processes := ⟨mk_Processes, a_Processes___init__, i_Processes___init__, kc_Processes⟩,
    gC_Processes := PySem.W.mg_of X G aC_Processes,
    n_dict := PySem.W.mg_none_of X G n_dict,
    n_int := PySem.W.mg_none_of X G n_int,
    n_isinstance := PySem.W.mg_none_of X G n_isinstance,
    n_len := PySem.W.mg_none_of X G n_len,
    n_list := PySem.W.mg_none_of X G n_list,
    n_range := PySem.W.mg_none_of X G n_range,
    n_sorted := PySem.W.mg_none_of X G n_sorted,
    k_MAX_DESCRIPTORS := ⟨_, PySem.W.mg_of X G kc_MAX_DESCRIPTORS⟩,
    k_MAX_PROCESSES := ⟨_, PySem.W.mg_of X G kc_MAX_PROCESSES⟩,
    k_ROOT := ⟨_, PySem.W.mg_of X G kc_ROOT⟩,
    x_BadHandle := ⟨ex_BadHandle, PySem.W.mg_of X G aC_BadHandle, kc_BadHandle, sb_BadHandle, ty_BadHandle⟩,
    x_LaminaError := ⟨ex_LaminaError, PySem.W.mg_of X G aC_LaminaError, kc_LaminaError, sb_LaminaError, ty_LaminaError⟩,
    x_NoProcess := ⟨ex_NoProcess, PySem.W.mg_of X G aC_NoProcess, kc_NoProcess, sb_NoProcess, ty_NoProcess⟩,
    x_TooMany := ⟨ex_TooMany, PySem.W.mg_of X G aC_TooMany, kc_TooMany, sb_TooMany, ty_TooMany⟩,
    n_Handles_files := nf_Handles_files,
    n_Processes_processes := nf_Processes_processes,
    fa := { fa0 := trivial, te_LaminaError_LaminaError := PySem.W.exm_ref sb_LaminaError hx_LaminaError ty_LaminaError su_LaminaError_LaminaError, te_NoProcess_LaminaError := PySem.W.exm_ref sb_LaminaError hx_LaminaError ty_LaminaError su_NoProcess_LaminaError, te_BadHandle_LaminaError := PySem.W.exm_ref sb_LaminaError hx_LaminaError ty_LaminaError su_BadHandle_LaminaError, te_TooMany_LaminaError := PySem.W.exm_ref sb_LaminaError hx_LaminaError ty_LaminaError su_TooMany_LaminaError, te_LaminaError_BadHandle := PySem.W.exm_ref sb_BadHandle hx_BadHandle ty_BadHandle su_LaminaError_BadHandle, te_NoProcess_BadHandle := PySem.W.exm_ref sb_BadHandle hx_BadHandle ty_BadHandle su_NoProcess_BadHandle, te_BadHandle_BadHandle := PySem.W.exm_ref sb_BadHandle hx_BadHandle ty_BadHandle su_BadHandle_BadHandle, te_TooMany_BadHandle := PySem.W.exm_ref sb_BadHandle hx_BadHandle ty_BadHandle su_TooMany_BadHandle, kt_LaminaError_NoProcess := kit_ne ne_LaminaError_NoProcess sb_NoProcess hx_NoProcess ty_NoProcess su_LaminaError_NoProcess, kt_NoProcess_NoProcess := kit_same, kt_BadHandle_NoProcess := kit_ne ne_BadHandle_NoProcess sb_NoProcess hx_NoProcess ty_NoProcess su_BadHandle_NoProcess, kt_TooMany_NoProcess := kit_ne ne_TooMany_NoProcess sb_NoProcess hx_NoProcess ty_NoProcess su_TooMany_NoProcess, kt_LaminaError_BadHandle := kit_ne ne_LaminaError_BadHandle sb_BadHandle hx_BadHandle ty_BadHandle su_LaminaError_BadHandle, kt_NoProcess_BadHandle := kit_ne ne_NoProcess_BadHandle sb_BadHandle hx_BadHandle ty_BadHandle su_NoProcess_BadHandle, kt_BadHandle_BadHandle := kit_same, kt_TooMany_BadHandle := kit_ne ne_TooMany_BadHandle sb_BadHandle hx_BadHandle ty_BadHandle su_TooMany_BadHandle, kt_LaminaError_TooMany := kit_ne ne_LaminaError_TooMany sb_TooMany hx_TooMany ty_TooMany su_LaminaError_TooMany, kt_NoProcess_TooMany := kit_ne ne_NoProcess_TooMany sb_TooMany hx_TooMany ty_TooMany su_NoProcess_TooMany, kt_BadHandle_TooMany := kit_ne ne_BadHandle_TooMany sb_TooMany hx_TooMany ty_TooMany su_BadHandle_TooMany, kt_TooMany_TooMany := kit_same, xc_LaminaError := ⟨ga_LaminaError, gg_LaminaError, sb_LaminaError, hx_LaminaError, cl_LaminaError, sp_cls, tk_cls, om_LaminaError⟩, xc_NoProcess := ⟨ga_NoProcess, gg_NoProcess, sb_NoProcess, hx_NoProcess, cl_NoProcess, sp_cls, tk_cls, om_NoProcess⟩, xc_BadHandle := ⟨ga_BadHandle, gg_BadHandle, sb_BadHandle, hx_BadHandle, cl_BadHandle, sp_cls, tk_cls, om_BadHandle⟩, xc_TooMany := ⟨ga_TooMany, gg_TooMany, sb_TooMany, hx_TooMany, cl_TooMany, sp_cls, tk_cls, om_TooMany⟩ } }
  exact ⟨_, fun s v => .of_eq rfl, fun base _ _ => ok_law (A := A) T⟩
theorem walk {l : PySem.W.OpenLaw} {q : Program} {loose : List Str} {XP : (Str → Option Value) → Heap → Prop} {YP : World → Heap → Prop} {d : DefRec} {K : Params → PySem.W.Frag} (hn : l.most = some 63) (hdf : d.params.defaults = [])
    (hY : ∀ (w : World) (h : Heap), YP w h → (K w.params).In h)
    (F : ∀ (w : World) (mg : Str → Option Value) (fa : Addr) (h : Heap), (K w.params).In h → h.Ns mainGlobals mg → mg d.name = some (.ref fa) →
      ∃ fd : FuncData, (∀ (s : Shared) (u : Value), BindsTo s fd ⟨[u], []⟩ [("_law_script", u)]) ∧ ∀ base : Heap, (K w.params).In base → base.Ns mainGlobals mg → FnOk l.prog w (K w.params) mg base (L2.CX l.prog w) 5 fa fd ["_law_script"] (spLaw (K w.params))) :
    PySem.W.WalkO q loose XP YP l.row.toRowW d [] (fun f vs => PySem.call f vs) :=
  L2.walk_of (n := 63) (k := 5) (x := "_law_script") (CX := fun w => L2.CX l.prog w) (sp := fun w => spLaw (K w.params)) hn (by decide) hdf ⟨rfl, by decide, by decide⟩ hY F (fun _ _ a ns hl _ hS => ⟨_, rfl, a, ns, rfl, hS, hl, fun _ => rfl⟩) fun _ _ _ _ _ ⟨_, _, _, _, _, _, _, _, _, _, _, _, z⟩ => z
end Lam
open PySem PySem.W PyProof.Rows
set_option maxRecDepth 100000 in
set_option maxHeartbeats 0 in
theorem PySem.Challenge.cw_laminae_k56_processes_holds : PySem.Challenge.rw_laminae_k56_processes.Holds := by
  w_on; o_law; k_head; (case hw => w_witness2)
  k_fill
  refine Lam.walk (l := PySem.Challenge.rw_laminae_k56_processes) rfl rfl (fun w h Y => PySem.W.kIn_of Y) ?F
  case F =>
    intro w mg fa h KX G hmg
    refine' Lam.all_mk KX G hmg ?aC_Handles ?aC_Processes ?aC_BadHandle ?aC_LaminaError ?aC_NoProcess ?aC_TooMany ?a_Handles___init__ ?i_Handles___init__ ?l_Handles___init__ ?c_Handles___init__ ?k_Handles___init__ ?a_Handles__look ?i_Handles__look ?l_Handles__look ?c_Handles__look ?k_Handles__look ?a_Handles_add_reference ?i_Handles_add_reference ?l_Handles_add_reference ?c_Handles_add_reference ?k_Handles_add_reference ?a_Processes___init__ ?i_Processes___init__ ?l_Processes___init__ ?c_Processes___init__ ?k_Processes___init__ ?a_Processes__look ?i_Processes__look ?l_Processes__look ?c_Processes__look ?k_Processes__look ?a_Processes_list_processes ?i_Processes_list_processes ?l_Processes_list_processes ?c_Processes_list_processes ?k_Processes_list_processes ?a_Processes_look_up ?i_Processes_look_up ?l_Processes_look_up ?c_Processes_look_up ?k_Processes_look_up ?a_Processes_set_owner ?i_Processes_set_owner ?l_Processes_set_owner ?c_Processes_set_owner ?k_Processes_set_owner ?a_Processes_set_directory ?i_Processes_set_directory ?l_Processes_set_directory ?c_Processes_set_directory ?k_Processes_set_directory ?a_Processes_has_room ?i_Processes_has_room ?l_Processes_has_room ?c_Processes_has_room ?k_Processes_has_room ?a_Processes_add_descriptor ?i_Processes_add_descriptor ?l_Processes_add_descriptor ?c_Processes_add_descriptor ?k_Processes_add_descriptor ?a_Processes_find_open_file ?i_Processes_find_open_file ?l_Processes_find_open_file ?c_Processes_find_open_file ?k_Processes_find_open_file ?a_Processes_drop_descriptor ?i_Processes_drop_descriptor ?l_Processes_drop_descriptor ?c_Processes_drop_descriptor ?k_Processes_drop_descriptor ?a_Processes_works_in ?i_Processes_works_in ?l_Processes_works_in ?c_Processes_works_in ?k_Processes_works_in ?a_Processes_uses_volume ?i_Processes_uses_volume ?l_Processes_uses_volume ?c_Processes_uses_volume ?k_Processes_uses_volume ?a_Processes_uses_owner ?i_Processes_uses_owner ?l_Processes_uses_owner ?c_Processes_uses_owner ?k_Processes_uses_owner ?a_Processes_copy_process ?i_Processes_copy_process ?l_Processes_copy_process ?c_Processes_copy_process ?k_Processes_copy_process ?a_Processes_descriptors ?i_Processes_descriptors ?l_Processes_descriptors ?c_Processes_descriptors ?k_Processes_descriptors ?a_fork ?l_fork ?c_fork ?k_fork ?a__law_classes ?l__law_classes ?c__law_classes ?k__law_classes ?a__law_play ?l__law_play ?c__law_play ?k__law_play ?a__law_least ?l__law_least ?c__law_least ?k__law_least ?a__law_due_descriptor ?l__law_due_descriptor ?c__law_due_descriptor ?k__law_due_descriptor ?a__law_due ?l__law_due ?c__law_due ?k__law_due ?a__law_rows ?l__law_rows ?c__law_rows ?k__law_rows ?a__law_found ?l__law_found ?c__law_found ?k__law_found ?a__law_shows ?l__law_shows ?c__law_shows ?k__law_shows ?a_law ?l_law ?c_law ?k_law ?pg_Handles ?hd_Handles ?po_Handles ?sa_Handles ?mk_Handles ?kc_Handles ?pg_Processes ?hd_Processes ?po_Processes ?sa_Processes ?mk_Processes ?kc_Processes ?n_dict ?n_int ?n_isinstance ?n_len ?n_list ?n_range ?n_sorted ?kc_MAX_DESCRIPTORS ?kc_MAX_PROCESSES ?kc_ROOT ?ex_BadHandle ?kc_BadHandle ?sb_BadHandle ?ty_BadHandle ?ex_LaminaError ?kc_LaminaError ?sb_LaminaError ?ty_LaminaError ?ex_NoProcess ?kc_NoProcess ?sb_NoProcess ?ty_NoProcess ?ex_TooMany ?kc_TooMany ?sb_TooMany ?ty_TooMany ?nf_Handles_files ?nf_Processes_processes ?su_BadHandle_BadHandle ?su_BadHandle_LaminaError ?su_BadHandle_NoProcess ?su_BadHandle_TooMany ?su_LaminaError_BadHandle ?su_LaminaError_LaminaError ?su_LaminaError_NoProcess ?su_LaminaError_TooMany ?su_NoProcess_BadHandle ?su_NoProcess_LaminaError ?su_NoProcess_TooMany ?su_TooMany_BadHandle ?su_TooMany_LaminaError ?su_TooMany_NoProcess ?hx_BadHandle ?hx_LaminaError ?hx_NoProcess ?hx_TooMany ?ne_LaminaError_NoProcess ?ne_BadHandle_NoProcess ?ne_TooMany_NoProcess ?ne_LaminaError_BadHandle ?ne_NoProcess_BadHandle ?ne_TooMany_BadHandle ?ne_LaminaError_TooMany ?ne_NoProcess_TooMany ?ne_BadHandle_TooMany ?ga_LaminaError ?gg_LaminaError ?cl_LaminaError ?om_LaminaError ?ga_NoProcess ?gg_NoProcess ?cl_NoProcess ?om_NoProcess ?ga_BadHandle ?gg_BadHandle ?cl_BadHandle ?om_BadHandle ?ga_TooMany ?gg_TooMany ?cl_TooMany ?om_TooMany ?sp_cls ?tk_cls
    (case aC_Handles => k_is); (case aC_Processes => k_is); (case aC_BadHandle => k_is); (case aC_LaminaError => k_is); (case aC_NoProcess => k_is); (case aC_TooMany => k_is)
    (case a_Handles___init__ => k_is); (case i_Handles___init__ => k_is); (case l_Handles___init__ => k_is); (case c_Handles___init__ => k_is); (case k_Handles___init__ => k_is); (case a_Handles__look => k_is)
    (case i_Handles__look => k_is); (case l_Handles__look => k_is); (case c_Handles__look => k_is); (case k_Handles__look => k_is); (case a_Handles_add_reference => k_is); (case i_Handles_add_reference => k_is)
    (case l_Handles_add_reference => k_is); (case c_Handles_add_reference => k_is); (case k_Handles_add_reference => k_is); (case a_Processes___init__ => k_is); (case i_Processes___init__ => k_is); (case l_Processes___init__ => k_is)
    (case c_Processes___init__ => k_is); (case k_Processes___init__ => k_is); (case a_Processes__look => k_is); (case i_Processes__look => k_is); (case l_Processes__look => k_is); (case c_Processes__look => k_is)
    (case k_Processes__look => k_is); (case a_Processes_list_processes => k_is); (case i_Processes_list_processes => k_is); (case l_Processes_list_processes => k_is); (case c_Processes_list_processes => k_is); (case k_Processes_list_processes => k_is)
    (case a_Processes_look_up => k_is); (case i_Processes_look_up => k_is); (case l_Processes_look_up => k_is); (case c_Processes_look_up => k_is); (case k_Processes_look_up => k_is); (case a_Processes_set_owner => k_is)
    (case i_Processes_set_owner => k_is); (case l_Processes_set_owner => k_is); (case c_Processes_set_owner => k_is); (case k_Processes_set_owner => k_is); (case a_Processes_set_directory => k_is); (case i_Processes_set_directory => k_is)
    (case l_Processes_set_directory => k_is); (case c_Processes_set_directory => k_is); (case k_Processes_set_directory => k_is); (case a_Processes_has_room => k_is); (case i_Processes_has_room => k_is); (case l_Processes_has_room => k_is)
    (case c_Processes_has_room => k_is); (case k_Processes_has_room => k_is); (case a_Processes_add_descriptor => k_is); (case i_Processes_add_descriptor => k_is); (case l_Processes_add_descriptor => k_is); (case c_Processes_add_descriptor => k_is)
    (case k_Processes_add_descriptor => k_is); (case a_Processes_find_open_file => k_is); (case i_Processes_find_open_file => k_is); (case l_Processes_find_open_file => k_is); (case c_Processes_find_open_file => k_is); (case k_Processes_find_open_file => k_is)
    (case a_Processes_drop_descriptor => k_is); (case i_Processes_drop_descriptor => k_is); (case l_Processes_drop_descriptor => k_is); (case c_Processes_drop_descriptor => k_is); (case k_Processes_drop_descriptor => k_is); (case a_Processes_works_in => k_is)
    (case i_Processes_works_in => k_is); (case l_Processes_works_in => k_is); (case c_Processes_works_in => k_is); (case k_Processes_works_in => k_is); (case a_Processes_uses_volume => k_is); (case i_Processes_uses_volume => k_is)
    (case l_Processes_uses_volume => k_is); (case c_Processes_uses_volume => k_is); (case k_Processes_uses_volume => k_is); (case a_Processes_uses_owner => k_is); (case i_Processes_uses_owner => k_is); (case l_Processes_uses_owner => k_is)
    (case c_Processes_uses_owner => k_is); (case k_Processes_uses_owner => k_is); (case a_Processes_copy_process => k_is); (case i_Processes_copy_process => k_is); (case l_Processes_copy_process => k_is); (case c_Processes_copy_process => k_is)
    (case k_Processes_copy_process => k_is); (case a_Processes_descriptors => k_is); (case i_Processes_descriptors => k_is); (case l_Processes_descriptors => k_is); (case c_Processes_descriptors => k_is); (case k_Processes_descriptors => k_is)
    (case a_fork => k_is); (case l_fork => k_is); (case c_fork => k_is); (case k_fork => k_is); (case a__law_classes => k_is); (case l__law_classes => k_is)
    (case c__law_classes => k_is); (case k__law_classes => k_is); (case a__law_play => k_is); (case l__law_play => k_is); (case c__law_play => k_is); (case k__law_play => k_is)
    (case a__law_least => k_is); (case l__law_least => k_is); (case c__law_least => k_is); (case k__law_least => k_is); (case a__law_due_descriptor => k_is); (case l__law_due_descriptor => k_is)
    (case c__law_due_descriptor => k_is); (case k__law_due_descriptor => k_is); (case a__law_due => k_is); (case l__law_due => k_is); (case c__law_due => k_is); (case k__law_due => k_is)
    (case a__law_rows => k_is); (case l__law_rows => k_is); (case c__law_rows => k_is); (case k__law_rows => k_is); (case a__law_found => k_is); (case l__law_found => k_is)
    (case c__law_found => k_is); (case k__law_found => k_is); (case a__law_shows => k_is); (case l__law_shows => k_is); (case c__law_shows => k_is); (case k__law_shows => k_is)
    (case a_law => k_is); (case l_law => k_is); (case c_law => k_is); (case k_law => k_is); (case pg_Handles => k_is); (case hd_Handles => k_is)
    (case po_Handles => k_is); (case sa_Handles => k_is); (case mk_Handles => k_is); (case kc_Handles => k_is); (case pg_Processes => k_is); (case hd_Processes => k_is)
    (case po_Processes => k_is); (case sa_Processes => k_is); (case mk_Processes => k_is); (case kc_Processes => k_is); (case n_dict => k_is); (case n_int => k_is)
    (case n_isinstance => k_is); (case n_len => k_is); (case n_list => k_is); (case n_range => k_is); (case n_sorted => k_is); (case kc_MAX_DESCRIPTORS => k_is)
    (case kc_MAX_PROCESSES => k_is); (case kc_ROOT => k_is); (case ex_BadHandle => k_exc); (case kc_BadHandle => k_is); (case sb_BadHandle => k_is); (case ty_BadHandle => k_is)
    (case ex_LaminaError => k_exc); (case kc_LaminaError => k_is); (case sb_LaminaError => k_is); (case ty_LaminaError => k_is); (case ex_NoProcess => k_exc); (case kc_NoProcess => k_is)
    (case sb_NoProcess => k_is); (case ty_NoProcess => k_is); (case ex_TooMany => k_exc); (case kc_TooMany => k_is); (case sb_TooMany => k_is); (case ty_TooMany => k_is)
    (case nf_Handles_files => k_is); (case nf_Processes_processes => k_is); (case su_BadHandle_BadHandle => k_is); (case su_BadHandle_LaminaError => k_is); (case su_BadHandle_NoProcess => k_is); (case su_BadHandle_TooMany => k_is)
    (case su_LaminaError_BadHandle => k_is); (case su_LaminaError_LaminaError => k_is); (case su_LaminaError_NoProcess => k_is); (case su_LaminaError_TooMany => k_is); (case su_NoProcess_BadHandle => k_is); (case su_NoProcess_LaminaError => k_is)
    (case su_NoProcess_TooMany => k_is); (case su_TooMany_BadHandle => k_is); (case su_TooMany_LaminaError => k_is); (case su_TooMany_NoProcess => k_is); (case hx_BadHandle => k_is); (case hx_LaminaError => k_is)
    (case hx_NoProcess => k_is); (case hx_TooMany => k_is); (case ne_LaminaError_NoProcess => decide); (case ne_BadHandle_NoProcess => decide); (case ne_TooMany_NoProcess => decide); (case ne_LaminaError_BadHandle => decide)
    (case ne_NoProcess_BadHandle => decide); (case ne_TooMany_BadHandle => decide); (case ne_LaminaError_TooMany => decide); (case ne_NoProcess_TooMany => decide); (case ne_BadHandle_TooMany => decide); (case ga_LaminaError => k_is)
    (case gg_LaminaError => k_is); (case cl_LaminaError => k_is); (case om_LaminaError => k_is); (case ga_NoProcess => k_is); (case gg_NoProcess => k_is); (case cl_NoProcess => k_is)
    (case om_NoProcess => k_is); (case ga_BadHandle => k_is); (case gg_BadHandle => k_is); (case cl_BadHandle => k_is); (case om_BadHandle => k_is); (case ga_TooMany => k_is)
    (case gg_TooMany => k_is); (case cl_TooMany => k_is); (case om_TooMany => k_is); (case sp_cls => k_is); (case tk_cls => k_is)
#print axioms PySem.Challenge.cw_laminae_k56_processes_holds
