import PyProof.Rows.All
import Wide.All
import OpenK.AllK
import Wide.FinOn
import HandS.ForMost
import HandS.ForExc
import HandS.TupLe
import HandS.IsInst
import HandS.Small
import HandS.Wide
import HandS.ExcIs
import HandS.DictComp
import HandS.Rev
import HandS.Codes
import HandS.HotCalls
import HandS.SortInts
import KE.Datum
import PySem.Challenge.RW_laminae_k53_open_files
set_option Elab.async false
set_option linter.all false
set_option maxRecDepth 100000
set_option maxHeartbeats 4000000
namespace U
open PySem PySem.Spec PyProof.Rows L2
section weaken
variable {X : Cx}
theorem orR {f : Value → Value → Sem Value} {r r' : R2} (h : OpR X f r) (g : OpR X f r') : OpR X f (fun x y H Q => r x y H Q ∨ r' x y H Q) :=
  fun pins s σ H x y v u Q I rx ry q => q.elim (h pins s σ H x y v u Q I rx ry) (g pins s σ H x y v u Q I rx ry)
theorem wR {f : Value → Value → Sem Value} {r r' : R2} (h : OpR X f r) (k : ∀ x y H Q, r' x y H Q → r x y H Q) : OpR X f r' :=
  fun pins s σ H x y v u Q I rx ry q => h pins s σ H x y v u Q I rx ry (k _ _ _ _ q)
theorem wC {f : Value} {r r' : List V → Hp → VK → Prop} (h : CallR X f r) (k : ∀ xs H Q, r' xs H Q → r xs H Q) : CallR X f r' :=
  fun pins s σ H xs us Q I rx q => h pins s σ H xs us Q I rx (k _ _ _ q)
theorem orC {f : Value} {r r' : List V → Hp → VK → Prop} (h : CallR X f r) (g : CallR X f r') : CallR X f (fun xs H Q => r xs H Q ∨ r' xs H Q) :=
  fun pins s σ H xs us Q I rx q => q.elim (h pins s σ H xs us Q I rx) (g pins s σ H xs us Q I rx)
end weaken
def tCut (t u : TS) : TS := C8.tCut t u
theorem pss_cut {X : Cx} {st : Stmt} {rest : List Stmt} {t u : TS} (h1 : PS X st t) (h2 : PSs X rest u) : PSs X (st :: rest) (tCut t u) := C8.pss_cut h1 h2
section ops
variable {X : Cx}
def uAdd (K : PySem.W.Frag) : R2 := fun x y H Q => match x, y with
  | .int i, .int j => Q (.int (i + j)) H
  | .str i, .str j => i.length + j.length ≤ sizeLine ∧ Q (.str (i ++ j)) H
  | .ref a, .ref b => rCat (.ref a) (.ref b) H Q ∨ rCatT K (.ref a) (.ref b) H Q
  | _, _ => False
theorem o_add : OpR X (binaryOp .Add) (uAdd X.K) := by
  refine wR (orR op_add (orR op_add_str (orR op_cat op_catT))) fun x y H Q q => ?_
  unfold uAdd at q
  split at q
  · exact .inl ⟨_, _, rfl, rfl, q⟩
  · exact .inr (.inl ⟨_, _, rfl, rfl, q⟩)
  · exact .inr (.inr q)
  · exact q.elim
def uSub : R2 := fun x y H Q => match x, y with
  | .int i, .int j => Q (.int (i - j)) H
  | _, _ => False
theorem o_sub : OpR X (binaryOp .Sub) uSub := by
  refine wR op_sub fun x y H Q q => ?_
  unfold uSub at q
  split at q
  · exact ⟨_, _, rfl, rfl, q⟩
  · exact q.elim
def uMul : R2 := fun x y H Q => match x, y with
  | .int i, .int j => (CMul i j ∨ CMulW i j) ∧ Q (.int (i * j)) H
  | .str z, .int n => MulOk z n ∧ Q (.str (Txt.mul z n)) H
  | .ref a, .int n => rRep (.ref a) (.int n) H Q
  | _, _ => False
def uDiv : R2 := fun x y H Q => match x, y with
  | .int i, .int j => (0 < j ∧ j < 2 ^ 200) ∧ Q (.int (i / j)) H
  | _, _ => False
theorem o_div : OpR X (binaryOp .FloorDiv) uDiv := by
  refine wR op_fdivW fun x y H Q q => ?_
  unfold uDiv at q
  split at q
  · obtain ⟨⟨c1, c2⟩, q⟩ := q
    exact ⟨_, _, rfl, rfl, wide_div (b := 200) c1 (by omega) (by decide) (by decide), q⟩
  · exact q.elim
def uMod : R2 := fun x y H Q => match x, y with
  | .int i, .int j => 0 < j ∧ Q (.int (i % j)) H
  | _, _ => False
theorem o_mod : OpR X (binaryOp .Mod) uMod := by
  refine wR op_mod fun x y H Q q => ?_
  unfold uMod at q
  split at q
  · exact ⟨_, _, rfl, rfl, q⟩
  · exact q.elim
def uPow : R2 := fun x y H Q => match x, y with
  | .int i, .int j => CPow i j ∧ Q (.int (i ^ j.toNat)) H
  | _, _ => False
def uNeg : V → Hp → VK → Prop := fun x H Q => match x with
  | .int i => Q (.int (-i)) H
  | _ => False
theorem o_neg : UnR X (unaryOp .USub) uNeg := fun pins s σ H x v Q I rx q => by
  unfold uNeg at q
  split at q
  · exact un_neg pins s σ H _ v Q I rx ⟨_, rfl, q⟩
  · exact q.elim
/-- == of data without dicts -/
def rEqP (K : PySem.W.Frag) : R2 := fun x y H Q => ∃ d e, Dp K H x d ∧ Dp K H y e ∧ (d.plain = true ∧ d.depth ≤ 60) ∧ e.plain = true ∧ Q (.bl (PyData.eqv d e)) H
def rNeP (K : PySem.W.Frag) : R2 := fun x y H Q => ∃ d e, Dp K H x d ∧ Dp K H y e ∧ (d.plain = true ∧ d.depth ≤ 60) ∧ e.plain = true ∧ Q (.bl (!PyData.eqv d e)) H
theorem op_eqP (hu : X.A.units + 64 < cLine) : OpR X (compareOp .Eq) (rEqP X.K) := by
  intro pins s σ H x y v u Q I rx ry h
  obtain ⟨d, e, hd, he, ⟨p1, dp⟩, p2, q⟩ := h
  obtain ⟨as, r1⟩ := Dp.reads I d x v hd rx
  obtain ⟨bs, r2⟩ := Dp.reads I e y u he ry
  exact PySem.SeqAt.eq_plain r1 r2 p1 p2 (by have := Nat.min_le_left d.depth e.depth; omega) ⟨.bl _, H, I, rfl, q⟩
theorem op_neP (hu : X.A.units + 64 < cLine) : OpR X (compareOp .NotEq) (rNeP X.K) := by
  intro pins s σ H x y v u Q I rx ry h
  obtain ⟨d, e, hd, he, ⟨p1, dp⟩, p2, q⟩ := h
  obtain ⟨as, r1⟩ := Dp.reads I d x v hd rx
  obtain ⟨bs, r2⟩ := Dp.reads I e y u he ry
  exact PySem.SeqAt.ne_plain r1 r2 p1 p2 (by have := Nat.min_le_left d.depth e.depth; omega) ⟨.bl _, H, I, rfl, q⟩
theorem d_int (i j : Int) : decide (V.int i = V.int j) = decide (i = j) := decide_eq_decide.mpr ⟨fun h => V.int.inj h, fun h => h ▸ rfl⟩
theorem d_str (i j : Str) : decide (V.str i = V.str j) = decide (i = j) := decide_eq_decide.mpr ⟨fun h => V.str.inj h, fun h => h ▸ rfl⟩
theorem d_bl (i j : Bool) : decide (V.bl i = V.bl j) = decide (i = j) := decide_eq_decide.mpr ⟨fun h => V.bl.inj h, fun h => h ▸ rfl⟩
/-- the same value, of two scalars -/
def sameS : V → V → Bool
  | .non, .non => true
  | .int i, .int j => decide (i = j)
  | .str i, .str j => decide (i = j)
  | .bl i, .bl j => decide (i = j)
  | .byt i, .byt j => decide (i = j)
  | _, _ => false
theorem sameS_eq {x y : V} (h : scal x y = true) : decide (x = y) = sameS x y := by
  cases x <;> cases y <;> first
    | (cases h; done)
    | exact d_int _ _
    | exact d_str _ _
    | exact d_bl _ _
    | rfl
    | (exact decide_eq_decide.mpr ⟨fun h => V.byt.inj h, fun h => h ▸ rfl⟩)
    | (exact decide_eq_false (fun q => nomatch q))
def uEq (K : PySem.W.Frag) : R2 := fun x y H Q => match x, y with
  | .int i, .int j => Q (.bl (decide (i = j))) H
  | .str i, .str j => Q (.bl (decide (i = j))) H
  | .bl i, .bl j => Q (.bl (decide (i = j))) H
  | x, y => (scal x y = true ∧ Q (.bl (sameS x y)) H) ∨ rEqP K x y H Q
theorem o_eq (hu : X.A.units + 64 < cLine) : OpR X (compareOp .Eq) (uEq X.K) := by
  refine wR (orR op_eq (op_eqP hu)) fun x y H Q q => ?_
  unfold uEq at q
  split at q
  · exact .inl ⟨rfl, (d_int _ _).symm ▸ q⟩
  · exact .inl ⟨rfl, (d_str _ _).symm ▸ q⟩
  · exact .inl ⟨rfl, (d_bl _ _).symm ▸ q⟩
  · rcases q with ⟨h, q⟩ | q
    · exact .inl ⟨h, (sameS_eq h).symm ▸ q⟩
    · exact .inr q
def uNe (K : PySem.W.Frag) : R2 := fun x y H Q => match x, y with
  | .int i, .int j => Q (.bl (!decide (i = j))) H
  | .str i, .str j => Q (.bl (!decide (i = j))) H
  | .bl i, .bl j => Q (.bl (!decide (i = j))) H
  | x, y => (scal x y = true ∧ Q (.bl (!sameS x y)) H) ∨ rNeP K x y H Q
theorem o_ne (hu : X.A.units + 64 < cLine) : OpR X (compareOp .NotEq) (uNe X.K) := by
  refine wR (orR op_ne (op_neP hu)) fun x y H Q q => ?_
  unfold uNe at q
  split at q
  · exact .inl ⟨rfl, (d_int _ _).symm ▸ q⟩
  · exact .inl ⟨rfl, (d_str _ _).symm ▸ q⟩
  · exact .inl ⟨rfl, (d_bl _ _).symm ▸ q⟩
  · rcases q with ⟨h, q⟩ | q
    · exact .inl ⟨h, (sameS_eq h).symm ▸ q⟩
    · exact .inr q
/-- tuples of ints in their order -/
theorem lexAt_eq (ns ms : List Int) (op : Int → Int → Bool) (z : Bool) (f : List Int → List Int → Bool)
    (h0 : ∀ i, i = ns.length ∨ i = ms.length → i ≤ ns.length → i ≤ ms.length → f (ns.drop i) (ms.drop i) = z)
    (h1 : ∀ x xs y ys, f (x :: xs) (y :: ys) = if x = y then f xs ys else op x y) :
    ∀ k i, i + k = min ns.length ms.length → Ob.lexAt (fun j => decide (ns.getD j 0 = ms.getD j 0)) (fun j => op (ns.getD j 0) (ms.getD j 0)) z i k = f (ns.drop i) (ms.drop i)
  | 0, i, h => by
    rw [Ob.lexAt_zero, h0 i (by omega) (by omega) (by omega)]
  | k + 1, i, h => by
    have a : i < ns.length := by omega
    have b : i < ms.length := by omega
    rw [Ob.lexAt_succ, List.drop_eq_getElem_cons a, List.drop_eq_getElem_cons b, h1, lexAt_eq ns ms op z f h0 h1 k (i + 1) (by omega)]
    simp only [List.getD_eq_getElem?_getD, List.getElem?_eq_getElem a, List.getElem?_eq_getElem b, Option.getD_some, decide_eq_true_eq]
def lexLe (a b : List Int) : Bool := !HT.lexLt b a
theorem lexLe_cons (x y : Int) (xs ys : List Int) : lexLe (x :: xs) (y :: ys) = if x = y then lexLe xs ys else decide (x ≤ y) := by
  unfold lexLe
  rw [HT.lexLt_cons]
  by_cases h : x = y
  · rw [if_pos h, if_pos h.symm]
  · rw [if_neg h, if_neg (fun e => h e.symm), ← decide_not]
    exact decide_eq_decide.mpr (by omega)
theorem lexLe_end (ns ms : List Int) (i : Nat) (h : i = ns.length ∨ i = ms.length) (h1 : i ≤ ns.length) (h2 : i ≤ ms.length) : lexLe (ns.drop i) (ms.drop i) = decide (ns.length ≤ ms.length) := by
  unfold lexLe
  by_cases a : i = ns.length
  · have e : ns.drop i = [] := List.drop_eq_nil_of_le (by omega)
    rw [e, decide_eq_true (by omega)]
    cases ms.drop i <;> rfl
  · have e : ms.drop i = [] := List.drop_eq_nil_of_le (by omega)
    rw [e, decide_eq_false (by omega)]
    cases e2 : ns.drop i with
    | nil => exact absurd (List.drop_eq_nil_iff.mp e2) (by omega)
    | cons x r => rfl
theorem lexAt_le (ns ms : List Int) : Ob.lexAt (fun j => decide (ns.getD j 0 = ms.getD j 0)) (fun j => decide (ns.getD j 0 ≤ ms.getD j 0)) (decide (ns.length ≤ ms.length)) 0 (min ns.length ms.length) = lexLe ns ms :=
  lexAt_eq ns ms (fun x y => decide (x ≤ y)) _ lexLe (fun i h a b => lexLe_end ns ms i h a b) (fun x xs y ys => lexLe_cons x y xs ys) _ 0 (by omega)
def lexGe (a b : List Int) : Bool := !HT.lexLt a b
def uLt (K : PySem.W.Frag) : R2 := fun x y H Q => match x, y with
  | .int i, .int j => Q (.bl (decide (i < j))) H
  | .ref a, .ref b => ∃ ns ms : List Int, SqT K H a (ns.map V.int) ∧ SqT K H b (ms.map V.int) ∧ Q (.bl (HT.lexLt ns ms)) H
  | _, _ => False
theorem o_lt (hu : X.A.units < cLine) : OpR X (compareOp .Lt) (uLt X.K) := by
  refine wR (orR op_lt (op_ltT hu)) fun x y H Q q => ?_
  unfold uLt at q
  split at q
  · exact .inl ⟨_, _, rfl, rfl, q⟩
  · obtain ⟨ns, ms, a, b, q⟩ := q
    exact .inr ⟨_, _, ns, ms, rfl, rfl, a, b, q⟩
  · exact q.elim
def uLe (K : PySem.W.Frag) : R2 := fun x y H Q => match x, y with
  | .int i, .int j => Q (.bl (decide (i ≤ j))) H
  | .ref a, .ref b => ∃ ns ms : List Int, SqT K H a (ns.map V.int) ∧ SqT K H b (ms.map V.int) ∧ Q (.bl (lexLe ns ms)) H
  | _, _ => False
theorem o_le (hu : X.A.units < cLine) : OpR X (compareOp .LtE) (uLe X.K) := by
  refine wR (orR op_le (op_leT hu)) fun x y H Q q => ?_
  unfold uLe at q
  split at q
  · exact .inl ⟨_, _, rfl, rfl, q⟩
  · obtain ⟨ns, ms, a, b, q⟩ := q
    exact .inr ⟨_, _, ns, ms, rfl, rfl, a, b, by rw [lexAt_le]; exact q⟩
  · exact q.elim
def uGe (K : PySem.W.Frag) : R2 := fun x y H Q => match x, y with
  | .int i, .int j => Q (.bl (decide (j ≤ i))) H
  | .ref a, .ref b => ∃ ns ms : List Int, SqT K H a (ns.map V.int) ∧ SqT K H b (ms.map V.int) ∧ Q (.bl (lexGe ns ms)) H
  | _, _ => False
def uGt : R2 := fun x y H Q => match x, y with
  | .int i, .int j => Q (.bl (decide (j < i))) H
  | _, _ => False
theorem o_gt : OpR X (compareOp .Gt) uGt := by
  refine wR op_gt fun x y H Q q => ?_
  unfold uGt at q
  split at q
  · exact ⟨_, _, rfl, rfl, q⟩
  · exact q.elim
def isNon : V → Bool
  | .non => true
  | _ => false
theorem isNon_eq (x : V) : decide (x = .non) = isNon x := by
  cases x <;> first | rfl | exact decide_eq_false (fun q => nomatch q)
def uIs : R2 := fun x y H Q => match y with
  | .non => Q (.bl (isNon x)) H
  | .bl b => ∃ a, x = .bl a ∧ Q (.bl (decide (a = b))) H
  | _ => False
def uIsnt : R2 := fun x y H Q => match y with
  | .non => Q (.bl (!isNon x)) H
  | .bl b => ∃ a, x = .bl a ∧ Q (.bl (!decide (a = b))) H
  | _ => False
theorem o_isnt : OpR X (compareOp .IsNot) uIsnt := by
  refine wR (orR op_notN op_isnot_bl) fun x y H Q q => ?_
  unfold uIsnt at q
  split at q
  · exact .inl ⟨rfl, (isNon_eq x).symm ▸ q⟩
  · obtain ⟨a, e, q⟩ := q
    exact .inr ⟨a, _, e, rfl, q⟩
  · exact q.elim
theorem op_inD (hu : X.A.units + 1 < cLine) : OpR X (compareOp .In) (fun x y H Q => ∃ a o, y = .ref a ∧ DGet H a x o ∧ Q (.bl o.isSome) H) := by
  intro pins s σ H x y v u Q I rx ry h
  obtain ⟨a, o, rfl, g, q⟩ := h
  cases ry
  exact d_in hu I g rx fun s' I' => ⟨.bl o.isSome, H, I', rfl, q⟩
theorem op_ninD (hu : X.A.units + 1 < cLine) : OpR X (compareOp .NotIn) (fun x y H Q => ∃ a o, y = .ref a ∧ DGet H a x o ∧ Q (.bl (!o.isSome)) H) := by
  intro pins s σ H x y v u Q I rx ry h
  obtain ⟨a, o, rfl, g, q⟩ := h
  cases ry
  exact d_notIn hu I g rx fun s' I' => ⟨.bl (!o.isSome), H, I', rfl, q⟩
/-- in a list, a tuple of scalars; a dict -/
def uIn (K : PySem.W.Frag) : R2 := fun x y H Q => match y with
  | .ref a => (∃ xs, (SqL K H a xs ∨ SqT K H a xs) ∧ flatV x = true ∧ xs.all flatV = true ∧ Q (.bl (inV x xs)) H) ∨ ∃ o, DGet H a x o ∧ Q (.bl o.isSome) H
  | _ => False
theorem o_in (hu : X.A.units + 1 < cLine) : OpR X (compareOp .In) (uIn X.K) := by
  refine wR (orR op_in_seq (op_inD hu)) fun x y H Q q => ?_
  unfold uIn at q
  split at q
  · rcases q with ⟨xs, a, b, c, q⟩ | ⟨o, g, q⟩
    · exact .inl ⟨_, xs, rfl, a, b, c, q⟩
    · exact .inr ⟨_, o, rfl, g, q⟩
  · exact q.elim
def uNin (K : PySem.W.Frag) : R2 := fun x y H Q => match y with
  | .ref a => (∃ xs, (SqL K H a xs ∨ SqT K H a xs) ∧ flatV x = true ∧ xs.all flatV = true ∧ Q (.bl (!inV x xs)) H) ∨ ∃ o, DGet H a x o ∧ Q (.bl (!o.isSome)) H
  | _ => False
theorem o_nin (hu : X.A.units + 1 < cLine) : OpR X (compareOp .NotIn) (uNin X.K) := by
  refine wR (orR op_notIn_seq (op_ninD hu)) fun x y H Q q => ?_
  unfold uNin at q
  split at q
  · rcases q with ⟨xs, a, b, c, q⟩ | ⟨o, g, q⟩
    · exact .inl ⟨_, xs, rfl, a, b, c, q⟩
    · exact .inr ⟨_, o, rfl, g, q⟩
  · exact q.elim
end ops
section subs
variable {X : Cx}
/-- a[b] of lists, tuples, texts -/
def uIx (K : PySem.W.Frag) : R2 := fun x y H Q => match x, y with
  | .ref p, .int i => ∃ xs v, (SqL K H p xs ∨ SqT K H p xs) ∧ atI xs i = some v ∧ Q v H
  | .str z, .int i => z.length ≤ sizeLine ∧ ∃ c, atI z.cps.toList i = some c ∧ Q (.str ⟨#[c]⟩) H
  | _, _ => False
theorem ix_u : IxR X (uIx X.K) := by
  intro value slice pins s σ H x y v u Q I rx ry h hs
  refine ix_seq value slice pins s σ H x y v u Q I rx ry ?_ hs
  unfold uIx at h
  split at h
  · obtain ⟨xs, v, e | e, g, q⟩ := h
    · exact .inl ⟨_, xs, _, v, rfl, rfl, e, g, q⟩
    · exact .inr (.inl ⟨_, xs, _, v, rfl, rfl, e, g, q⟩)
  · obtain ⟨z, c, e, q⟩ := h
    exact .inr (.inr ⟨_, _, c, rfl, rfl, z, e, q⟩)
  · exact h.elim
theorem e_ix {a b : Expr} {ta tb : TE} {pos : Pos} (ha : PE X a ta) (hb : PE X b tb) (hs : PlainIx b := by exact fun _ _ => rfl) : PE X (.Subscript a b pos) (tOp (uIx X.K) ta tb) := pe_ix ix_u ha hb hs
/-- a[lo:hi] -/
def uSl (K : PySem.W.Frag) : V → Option Int → Option Int → Hp → VK → Prop := fun x lo hi H Q => rSlL K x lo hi H Q ∨ rSlT K x lo hi H Q ∨ rSlS x lo hi H Q
theorem sl_u : SlR X (uSl X.K) := SlR.or sl_list (SlR.or sl_tup sl_str)
theorem e_sl {e : Expr} {lo hi : Option Expr} {te : TE} {tl th : TO} {p2 pos : Pos} (he : PE X e te) (hl : PO X lo tl) (hh : PO X hi th) : PE X (.Subscript e (.Slice lo hi none p2) pos) (tSl (uSl X.K) te tl th) := pe_slice sl_u he hl hh
/-- d[k] -/
theorem e_dg {a b : Expr} {ta tb : TE} {pos : Pos} (hu : X.A.units + 1 < cLine) (ha : PE X a ta) (hb : PE X b tb) (hs : NoSl b := by exact fun _ _ => rfl) : PE X (.Subscript a b pos) (tDGet ta tb) := pe_dget hu ha hb hs
/-- a[i] by values, for a[i] += e -/
def uGet (K : PySem.W.Frag) : V → V → Hp → VK → Prop := fun x y H Q => match x, y with
  | .ref p, .int i => (0 ≤ i ∧ ∃ xs v, SqL K H p xs ∧ xs[i.toNat]? = some v ∧ Q v H) ∨ ∃ v, DGet H p (.int i) (some v) ∧ Q v H
  | .ref p, y => ∃ v, DGet H p y (some v) ∧ Q v H
  | _, _ => False
/-- a[i] = v -/
def uSet : TSet := fun o i v H Q => match o, i with
  | .ref p, .int k => (∃ xs j, H p = some (.lst xs) ∧ ixN xs.length k = some j ∧ Q (upd H p (.lst (xs.set j v)))) ∨ ∃ H', DPut H p (.int k) v H' ∧ Q H'
  | .ref p, i => ∃ H', DPut H p i v H' ∧ Q H'
  | _, _ => False
theorem set_u (hu : X.A.units + 1 < cLine) : PSet X uSet := by
  intro pins s σ H o i v ov iv u Q I ro ri rv h
  unfold uSet at h
  split at h
  · rcases h with ⟨xs, j, e, g, q⟩ | ⟨H', g, q⟩
    · exact set_list pins s σ H _ _ v ov iv u Q I ro ri rv ⟨_, xs, _, j, rfl, rfl, e, g, q⟩
    · exact set_dict hu pins s σ H _ _ v ov iv u Q I ro ri rv ⟨_, H', rfl, g, q⟩
  · obtain ⟨H', g, q⟩ := h
    exact set_dict hu pins s σ H _ _ v ov iv u Q I ro ri rv ⟨_, H', rfl, g, q⟩
  · exact h.elim
end subs
section calls
variable {X : Cx}
/-- len -/
def uLen (K : PySem.W.Frag) : List V → Hp → VK → Prop := fun xs H Q => match xs with
  | [.ref p] => (∃ ys, (SqL K H p ys ∨ SqT K H p ys) ∧ Q (.int ys.length) H) ∨ ∃ kvs, H p = some (.dK kvs) ∧ Q (.int kvs.length) H
  | [.str z] => z.length ≤ sizeLine ∧ Q (.int z.length) H
  | _ => False
theorem c_len : CallR X (.builtin "len") (uLen X.K) := by
  refine wC (orC call_len_seq (orC call_len_str call_lenD)) fun xs H Q q => ?_
  unfold uLen at q
  split at q
  · rcases q with ⟨ys, a, q⟩ | ⟨kvs, a, q⟩
    · exact .inl ⟨_, ys, rfl, a, q⟩
    · exact .inr (.inr ⟨_, kvs, rfl, a, q⟩)
  · exact .inr (.inl ⟨_, rfl, q⟩)
  · exact q.elim
def uTuple (K : PySem.W.Frag) : List V → Hp → VK → Prop := fun xs H Q => match xs with
  | [.ref p] => ∃ ys, (SqL K H p ys ∧ ∀ l, H l = none → Q (.ref l) (upd H l (.tup ys))) ∨ (SqT K H p ys ∧ Q (.ref p) H)
  | _ => False
theorem c_tuple : CallR X (.type "tuple") (uTuple X.K) := by
  refine wC call_tuple_of fun xs H Q q => ?_
  unfold uTuple at q
  split at q
  · obtain ⟨ys, q⟩ := q
    exact ⟨_, ys, rfl, q⟩
  · exact q.elim
def uAbs : List V → Hp → VK → Prop := fun xs H Q => match xs with
  | [.int i] => Q (.int (if i < 0 then -i else i)) H
  | _ => False
def uMax (K : PySem.W.Frag) : List V → Hp → VK → Prop := fun xs H Q => match xs with
  | [.int i, .int j] => Q (.int (if j > i then j else i)) H
  | [.ref a] => ∃ ns : List Int, SqL K H a (ns.map V.int) ∧ 0 < ns.length ∧ ∀ m, m ∈ ns → (∀ y, y ∈ ns → y ≤ m) → Q (.int m) H
  | _ => False
theorem c_max (hc : X.calm = true) : CallR X (.builtin "max") (uMax X.K) := by
  refine wC (orC (call_max2 hc) (cr_max hc)) fun xs H Q q => ?_
  unfold uMax at q
  split at q
  · exact .inl ⟨_, _, rfl, q⟩
  · obtain ⟨ns, a, b, c⟩ := q
    exact .inr ⟨_, ns, rfl, a, b, c⟩
  · exact q.elim
def uMin (K : PySem.W.Frag) : List V → Hp → VK → Prop := fun xs H Q => match xs with
  | [.int i, .int j] => Q (.int (if j < i then j else i)) H
  | [.ref a] => ∃ ns : List Int, SqL K H a (ns.map V.int) ∧ 0 < ns.length ∧ ∀ m, m ∈ ns → (∀ y, y ∈ ns → m ≤ y) → Q (.int m) H
  | _ => False
def uInt : List V → Hp → VK → Prop := fun xs H Q => match xs with
  | [.int i] => Q (.int i) H
  | [.bl k] => Q (.int (if k then 1 else 0)) H
  | _ => False
theorem c_int : CallR X (.type "int") uInt := by
  refine wC call_int1 fun xs H Q q => ?_
  unfold uInt at q
  split at q
  · exact .inl ⟨_, rfl, q⟩
  · exact .inr ⟨_, rfl, q⟩
  · exact q.elim
inductive Ty | int | bool | str | list | tuple | dict
def Ty.nm : Ty → String
  | .int => "int" | .bool => "bool" | .str => "str" | .list => "list" | .tuple => "tuple" | .dict => "dict"
/-- of a scalar -/
def isS : Ty → V → Bool
  | .int, .int _ => true
  | .int, .bl _ => true
  | .bool, .bl _ => true
  | .str, .str _ => true
  | _, _ => false
/-- of an object that is a list, a tuple, a dict -/
inductive Ob | list | tuple | dict
def Ob.nm : Ob → String
  | .list => "list" | .tuple => "tuple" | .dict => "dict"
def isO : Ty → Ob → Bool
  | .list, .list => true
  | .tuple, .tuple => true
  | .dict, .dict => true
  | _, _ => false
def uIsi (K : PySem.W.Frag) (n : Ty) : List V → Hp → VK → Prop := fun xs H Q => match xs with
  | [.int i, .ty m] => m = n.nm ∧ Q (.bl (isS n (.int i))) H
  | [.bl i, .ty m] => m = n.nm ∧ Q (.bl (isS n (.bl i))) H
  | [.str i, .ty m] => m = n.nm ∧ Q (.bl (isS n (.str i))) H
  | [.non, .ty m] => m = n.nm ∧ Q (.bl (isS n .non)) H
  | [.ref a, .ty m] => m = n.nm ∧ ∃ o : Ob, TyX K H (.ref a) (.type o.nm) ∧ Q (.bl (isO n o)) H
  | _ => False
theorem kit_int : ∀ n : Ty, kitB "int" n.nm = some (isS n (.int 0)) := fun n => by cases n <;> decide +kernel
theorem kit_bool : ∀ n : Ty, kitB "bool" n.nm = some (isS n (.bl true)) := fun n => by cases n <;> decide +kernel
theorem kit_str : ∀ n : Ty, kitB "str" n.nm = some (isS n (.str Str.empty)) := fun n => by cases n <;> decide +kernel
theorem kit_non : ∀ n : Ty, kitB "NoneType" n.nm = some (isS n .non) := fun n => by cases n <;> decide +kernel
theorem kit_obj : ∀ (n : Ty) (o : Ob), kitB o.nm n.nm = some (isO n o) := fun n o => by cases n <;> cases o <;> decide +kernel
theorem c_isi (n : Ty) : CallR X (.builtin "isinstance") (uIsi X.K n) := by
  refine wC call_isi fun xs H Q q => ?_
  unfold uIsi at q
  split at q
  · obtain ⟨rfl, q⟩ := q
    exact ⟨_, _, .type "int", .type n.nm, _, rfl, .ty n.nm, .base (.int _), kit_ty (kit_int n), by cases n <;> exact q⟩
  · obtain ⟨rfl, q⟩ := q
    exact ⟨_, _, .type "bool", .type n.nm, _, rfl, .ty n.nm, .base (.bl _), kit_ty (kit_bool n), by cases n <;> exact q⟩
  · obtain ⟨rfl, q⟩ := q
    exact ⟨_, _, .type "str", .type n.nm, _, rfl, .ty n.nm, .base (.str _), kit_ty (kit_str n), by cases n <;> exact q⟩
  · obtain ⟨rfl, q⟩ := q
    exact ⟨_, _, .type "NoneType", .type n.nm, _, rfl, .ty n.nm, .base .non, kit_ty (kit_non n), by cases n <;> exact q⟩
  · obtain ⟨rfl, o, t, q⟩ := q
    exact ⟨_, _, .type o.nm, .type n.nm, _, rfl, .ty n.nm, t, kit_ty (kit_obj n o), q⟩
  · exact q.elim
end calls
section own
variable {X : Cx} {k : Nat} {f C : Addr} {fd : FuncData} {ps : List Str} {sp : Sp} {W : WX} {x m : Str} {p pos apos : Pos} {e o : Expr} {es : List Expr} {ta : TE} {t : TA}
def uCall (sp : Sp) (W : WX) (t : TA) : TE := fun σ H Q => t σ H fun vs H1 => sp vs H1 Q fun c d H2 => W c d σ H2
theorem e_call (F : FnOk X.prog X.w X.K X.mg X.base (L2.CX X.prog X.w) k f fd ps sp) (hr : Room k X.A) (hm : X.mg x = some (.ref f)) (hk : PySem.W.keepIn X.K (.ref f) = true) (hb : Binds X.K fd ps []) (tk : Takes X W)
    (ha : PA X (e :: es) t) (hg : Gl X x := by rfl) (hdb : (x == ("__debug__" : Str)) = false := by decide) (he : starEach (e :: es) X.env = (false, eval e X.env) :: starEach es X.env := by rfl) (hpl : (backTo pos (starEach es X.env)).any (·.1) = false := by rfl) :
    PE X (.Call (.Name x p) (e :: es) [] pos) (uCall sp W t) := pe_callS (E := WE W) F hr hg hm hk hb (fun σ => passAt tk σ) ha hdb he hpl
/-- o.m(..) -/
def uMeth (C : Addr) (m : Str) (sp : Sp) (W : WX) (ta : TE) (t : TA) : TE := fun σ H Q => ta σ H fun x H1 => ∃ a dx fs, x = .ref a ∧ H1 a = some (.ins C dx fs) ∧ fs.lookup m = none ∧
  t σ H1 fun vs H2 => sp (x :: vs) H2 Q fun c d H3 => W c d σ H3
theorem e_meth {pl : Sem Bool} (ho : PE X o ta) (c : Cls X.K C) (hm : Meth X.K C m f) (F : FnOk X.prog X.w X.K X.mg X.base (L2.CX X.prog X.w) k f fd ps sp) (hr : Room k X.A) (hb : Binds X.K fd ps []) (tk : Takes X W) (ha : PA X (e :: es) t)
    (hst : starEach (e :: es) X.env = (false, eval e X.env) :: starEach es X.env := by rfl) (hpl : (backTo pos (starEach es X.env)).any (·.1) = false := by rfl)
    (ht : eval (.Call (.Attribute o m apos) (e :: es) [] pos) X.env = (do let ov ← eval o X.env; standAt apos.atName; let (f, first) ← holding [ov] (getMethod ov m pl); callWith pos f first (backTo pos (starEach (e :: es) X.env)) (backToKw pos (keywordEach [] X.env))) := by rfl) :
    PE X (.Call (.Attribute o m apos) (e :: es) [] pos) (uMeth C m sp W ta t) := by
  refine ⟨fun pins s σ H Q I h => PySem.W.methodCall_KW (pl := pl) (thn (ho.run pins s σ H _ I h) fun u s1 hh => ?_) ht⟩
  obtain ⟨x, H1, I1, rx, a, dx, fs, rfl, ea, l, q⟩ := hh
  cases (show u = Value.ref a from rx)
  refine getmeth_ok I1 ea c hm l (PySem.W.callWith_K (first := [.ref a]) (h₀ := X.base) I.ok.mod.kin hm.kp (thn (ha.run pos pins s1 σ H1 _ I1 q) fun us s2 hh => ?_) hst hpl)
  obtain ⟨vs, H2, I2, r, q2⟩ := hh
  exact ⟨I2.kIn, run_fnS (us := .ref a :: us) (vs := .ref a :: vs) (E := WE W) F hr hb (passAt tk σ) I2 (.cons rfl r) q2⟩
theorem e_meth0 {pl : Sem Bool} (ho : PE X o ta) (c : Cls X.K C) (hm : Meth X.K C m f) (F : FnOk X.prog X.w X.K X.mg X.base (L2.CX X.prog X.w) k f fd ps sp) (hr : Room k X.A) (hb : Binds X.K fd ps []) (tk : Takes X W)
    (ht : eval (.Call (.Attribute o m apos) [] [] pos) X.env = (do let ov ← eval o X.env; standAt apos.atName; let (f, first) ← holding [ov] (getMethod ov m pl); callWith pos f first (backTo pos (starEach [] X.env)) (backToKw pos (keywordEach [] X.env))) := by rfl) :
    PE X (.Call (.Attribute o m apos) [] [] pos) (uMeth C m sp W ta tNil) := by
  refine ⟨fun pins s σ H Q I h => PySem.W.methodCall_KW (pl := pl) (thn (ho.run pins s σ H _ I h) fun u s1 hh => ?_) ht⟩
  obtain ⟨x, H1, I1, rx, a, dx, fs, rfl, ea, l, q⟩ := hh
  cases (show u = Value.ref a from rx)
  exact getmeth_ok I1 ea c hm l (PySem.W.callWith_K0 (first := [.ref a]) I1.kIn hm.kp (run_fnS (us := [.ref a]) (vs := [.ref a]) (E := WE W) F hr hb (passAt tk σ) I1 (.cons rfl .nil) q))
/-- what a body wants of exceptions, as a wish -/
abbrev WB (E : XK) : WX := fun c d _ H => E c d H
/-- C(..), what is raised goes to W at the slots -/
def uMake (C : Addr) (sp : Sp) (W : WX) (t : TA) : TE := fun σ H Q => t σ H fun vs H1 => ∀ x dx, H1 x = none → H1 dx = none → dx ≠ x → sp (.ref x :: vs) (upd (upd H1 dx (.own x)) x (.ins C dx [])) (fun v H2 => v = .non ∧ Q (.ref x) H2) fun c d H2 => W c d σ H2
theorem make_at {pins : List (Addr × Obj)} {σ : L2.St} {H : Hp} {s : Shared} {Q : VK} {us : List Value} {vs : List V} (M : Mk X.K C f) (F : FnOk X.prog X.w X.K X.mg X.base (L2.CX X.prog X.w) k f fd ps sp) (hr : Room (k + 1) X.A) (hb : Binds X.K fd ps []) (tk : Takes X W)
    (I : Inv X pins σ H s) (r : Vals vs us)
    (h : ∀ x dx, H x = none → H dx = none → dx ≠ x → sp (.ref x :: vs) (upd (upd H dx (.own x)) x (.ins C dx [])) (fun v H2 => v = .non ∧ Q (.ref x) H2) fun c d H2 => W c d σ H2) :
    wpAny (model X.prog X.w) X.A (call (.ref C) us) (EP X pins σ Q) X.xe s := by
  let n := s.heap.objs.size
  have q0 : sp (.ref (n + 1) :: vs) _ _ _ := h (n + 1) n (I.hok.fresh (Nat.le_succ n)) (I.hok.fresh (Nat.le_refl n)) (Nat.ne_of_lt n.lt_succ_self)
  have J := Inv.made (C := C) I
  have rr : Vals (V.ref (n + 1) :: vs) (Value.ref (n + 1) :: us) := .cons rfl r
  have size : (Value.ref (n + 1) :: us).length = ps.length := rr.length.symm.trans (F.len _ _ _ _ q0)
  have go := F.run _ X.stack _ _ ⟨Value.ref (n + 1) :: us, []⟩ (Value.ref (n + 1) :: us) _ _ _ (hr.make C us []) (J.env0.make C us []) (by have z := hb _ (Value.ref (n + 1) :: us) J.kIn (by rw [List.append_nil]; exact size); rw [List.append_nil] at z; exact z) rr q0
  refine wpAny_call (make_map (f := f) I.kIn M.makes M.init (beq_iff_eq.mp M.fn) (codeAny_mono go ?_))
  rintro (e | fl) s' hq
  · exact passAt tk σ pins _ _ e s' J hq
  · cases fl with
    | ret u =>
      obtain ⟨v, H', I3, rv, ev, z⟩ := J.after hq
      cases ev
      exact ⟨rv, .ref (n + 1), H', I3, rfl, z⟩
    | next => exact hq.elim
    | brk => exact hq.elim
    | cont => exact hq.elim
theorem e_mk0 (M : Mk X.K C f) (F : FnOk X.prog X.w X.K X.mg X.base (L2.CX X.prog X.w) k f fd ps sp) (hr : Room (k + 1) X.A) (hm : X.mg x = some (.ref C)) (hb : Binds X.K fd ps []) (tk : Takes X W)
    (hg : Gl X x := by rfl) (hdb : (x == ("__debug__" : Str)) = false := by decide) : PE X (.Call (.Name x p) [] [] pos) (uMake C sp W tNil) :=
  ⟨fun _ _ _ _ _ I h => wpAny_Call_Name_kw (ld_glob I hg hm (PySem.W.callWith_K0 I.kIn M.kp (make_at (us := []) M F hr hb tk I .nil h)) hdb)⟩
/-- what the top has of an own exception class -/
structure Exc (K : PySem.W.Frag) (mg : Str → Option Value) (n : Str) (C : Addr) : Prop where
  ex : PySem.W.excIn K C [.type "ValueError", .type "Exception", .type "BaseException", .type "object"] "ValueError.__new__" = true
  g : mg n = some (.ref C)
  kp : PySem.W.keepIn K (.ref C) = true
  sub : PySem.W.subIn K (.ref C) (.type "BaseException") = some true
  ty : PySem.W.typeIn K (.ref C) = some (.type "type")
def uRaise (C : Addr) (W : WX) : TS := fun _ σ H => W (.ref C) none σ H
theorem pmk0 {n : Str} (T : Exc X.K X.mg n C) (hg : Gl X n := by rfl) (hdb : (n == ("__debug__" : Str)) = false := by decide) : PMk X (.Call (.Name n p) [] [] pos) (fun _ H Q => Q (.ref C) none H) := by
  intro pins s σ H Q I h
  refine wpAny_Call_Name_kw (ld_glob I hg T.g (PySem.W.callWith_K0 I.kIn T.kp ?_) hdb)
  obtain ⟨bm, N, nm, qn, bs, hdct, sn, sub, ab, col, dd, k0, k1, k2, k3, k5, mN, hC, hN, hni, Z⟩ := exc_obj I.kIn T.ex
  exact wpAny_call_exc_subT PySem.F.excBase_ValueError Z hC hN hni (fun h' e hm => mk_of I hm (raises_own T.sub T.ty) h (I.hok.gone hm.new)) (Nat.zero_le _)
theorem s_raise {n : Str} (T : Exc X.K X.mg n C) (tk : Takes X W) {pos2 : Pos} (hc : X.calm = true := by rfl) (hg : Gl X n := by rfl) (hdb : (n == ("__debug__" : Str)) = false := by decide) :
    PS X (.Raise (some (.Call (.Name n p) [] [] pos)) none pos2) (uRaise C W) := ps_raise hc tk (pmk0 T hg hdb)
end own
section tries
variable {X : Cx} {x n : Str} {c : Value} {i : Nat} {body suite : List Stmt} {b₀ : Stmt} {np pos pos' : Pos} {tb : WX → TS} {ts : Addr → Value → Option Addr → TS} {W : WX}
def uTryAs (K : PySem.W.Frag) (c : Value) (i : Nat) (tb : WX → TS) (ts : Addr → Value → Option Addr → TS) (W : WX) : TS := fun D σ H => tb (wAs K c i ts W D) D σ H
def uTry (K : PySem.W.Frag) (c : Value) (tb : WX → TS) (ts : Addr → Value → Option Addr → TS) (W : WX) : TS := fun D σ H => tb (wOnly K c ts W D) D σ H
theorem s_tryAs (hs : X.stack = X.env :: X.outer) (hf : X.env.frame = some X.env.locals) (hN : X.N.Nodup) (hi : X.N[i]? = some n) (hln : X.env.kindOf n = some .local) (hc : Names X x c) (tk : Takes X W)
    (hb : ∀ (W' : WX) (pn : List (Addr × Obj)) (xe : Value → Shared → Prop), Takes (X.tr pn xe) W' → PassesOwn (model X.prog X.w) X.A X.env xe → PSs (X.tr pn xe) body (tb W'))
    (hsu : ∀ (a : Addr) (oe : Obj) (cls : Value) (d : Option Addr) (pn : List (Addr × Obj)), Zc cls d oe → (∃ vs, oe.data = .fields vs) → PSs (X.suite a ((a, oe) :: pn)) (b₀ :: suite) (ts a cls d)) :
    PS X (.Try body [.ExceptHandler (some (.Name x np)) (some n) (b₀ :: suite) pos'] [] [] pos) (uTryAs X.K c i tb ts W) := ps_try_as hs hf hN hi hln hc tk hb hsu
theorem w_tryAs {K : PySem.W.Frag} {D : Ends} {σ : L2.St} {H : Hp} (h : tb (wAs K c i ts W D) D σ H) : uTryAs K c i tb ts W D σ H := h
theorem w_try {K : PySem.W.Frag} {D : Ends} {σ : L2.St} {H : Hp} (h : tb (wOnly K c ts W D) D σ H) : uTry K c tb ts W D σ H := h
theorem w_asT {K : PySem.W.Frag} {D : Ends} {σ : L2.St} {H : Hp} {cls : Value} {d : Option Addr} (e : PySem.W.exmOne K cls c = some true)
    (h : ∀ a, H a = none → ts a cls d { nx := fun σ' H' => D.nx (σ'.set i none) H', rt := D.rt, bk := fun σ' H' => D.bk (σ'.set i none) H', ct := fun σ' H' => D.ct (σ'.set i none) H' } (σ.set i (some (.ref a))) H) :
    wAs K c i ts W D cls d σ H := ⟨true, e, fun _ => h, fun q => Bool.noConfusion q⟩
theorem w_asF {K : PySem.W.Frag} {D : Ends} {σ : L2.St} {H : Hp} {cls : Value} {d : Option Addr} (e : PySem.W.exmOne K cls c = some false) (h : W cls d σ H) : wAs K c i ts W D cls d σ H := ⟨false, e, fun q => Bool.noConfusion q, fun _ => h⟩
theorem w_onT {K : PySem.W.Frag} {D : Ends} {σ : L2.St} {H : Hp} {cls : Value} {d : Option Addr} (e : PySem.W.exmOne K cls c = some true) (h : ∀ a, H a = none → ts a cls d D σ H) : wOnly K c ts W D cls d σ H := ⟨true, e, fun _ => h, fun q => Bool.noConfusion q⟩
theorem w_onF {K : PySem.W.Frag} {D : Ends} {σ : L2.St} {H : Hp} {cls : Value} {d : Option Addr} (e : PySem.W.exmOne K cls c = some false) (h : W cls d σ H) : wOnly K c ts W D cls d σ H := ⟨false, e, fun q => Bool.noConfusion q, fun _ => h⟩
/-- isinstance(e, C) of the exception that a suite holds -/
def uIsE (K : PySem.W.Frag) (a : Addr) (cls : Value) (d : Option Addr) : List V → Hp → VK → Prop := fun xs H Q => ∃ (D C : Addr) (b : Bool), cls = .ref D ∧ d = none ∧ ExcC K D ∧ xs = [.ref a, .ref C] ∧ PySem.W.kitOne K (.ref D) (.ref C) = some b ∧ Q (.bl b) H
theorem w_isE {K : PySem.W.Frag} {H : Hp} {Q : VK} {a D C : Addr} {b : Bool} (x : ExcC K D) (e : PySem.W.kitOne K (.ref D) (.ref C) = some b) (h : Q (.bl b) H) : uIsE K a (.ref D) none [.ref a, .ref C] H Q := ⟨D, C, b, rfl, rfl, x, rfl, e, h⟩
theorem kit_ne {K : PySem.W.Frag} {R A : Addr} {b : Bool} (n : (Value.ref R == Value.ref A) = false) (h1 : PySem.W.subIn K (.ref A) (.type "BaseException") = some true) (hd : PySem.W.hasDictIn K A = true) (ht : PySem.W.typeIn K (.ref A) = some (.type "type")) (h4 : PySem.W.subIn K (.ref R) (.ref A) = some b) : PySem.W.kitOne K (.ref R) (.ref A) = some b := by
  have z := PySem.W.exm_ref h1 hd ht h4
  have e1 : (PySem.W.subIn K (.ref A) (.type "BaseException") == some true) = true := by rw [h1]; rfl
  unfold PySem.W.exmOne at z
  rw [if_pos e1] at z
  unfold PySem.W.kitOne
  rw [if_neg (by rw [n]; exact Bool.false_ne_true)]
  exact z
theorem kit_same {K : PySem.W.Frag} {R : Addr} : PySem.W.kitOne K (.ref R) (.ref R) = some true := by
  unfold PySem.W.kitOne
  rw [if_pos (beq_self_eq_true _)]
end tries
section fields
variable {X : Cx} {C : Addr} {f : Str} {e o v : Expr} {ta tv : TE} {pos pos' : Pos}
def uFld (C : Addr) (f : Str) (ta : TE) : TE := fun σ H Q => ta σ H fun x H1 => ∃ a dx fs v, x = .ref a ∧ H1 a = some (.ins C dx fs) ∧ fs.lookup f = some v ∧ Q v H1
theorem e_fld (c : Cls X.K C) (n : NoAttr X.K C f) (he : PE X e ta) (hb : attributeBase e f X.env (eval e X.env) = eval e X.env := by rfl) : PE X (.Attribute e f pos) (uFld C f ta) :=
  ⟨fun pins s σ H Q I h => attr_of hb (thn (he.run pins s σ H _ I h) fun u s1 hh => by
    obtain ⟨x, H1, I1, rx, a, dx, fs, v, rfl, ea, l, q⟩ := hh
    cases (show u = Value.ref a from rx)
    exact getattr_ok I1 ea c n l fun u' s2 I2 ru => ⟨v, H1, I2, ru, q⟩)⟩
def uSetF (C : Addr) (f : Str) (ta tv : TE) : TS := fun D σ H => tv σ H fun y H1 => ta σ H1 fun x H2 => ∃ a dx fs, x = .ref a ∧ H2 a = some (.ins C dx fs) ∧ fs.length < 1000 ∧ D.nx σ (upd H2 a (.ins C dx (putF f y fs)))
theorem s_fld (c : Cls X.K C) (n : NoAttr X.K C f) (ho : PE X o ta) (hv : PE X v tv) (hs : swapsWith v (some (.Attribute o f pos')) pos.line X.env = pure false := by rfl) : PS X (.Assign [.Attribute o f pos'] v pos) (uSetF C f ta tv) :=
  ⟨fun pins s σ H D I h => plainObj_wpAny_Assign_Attribute (thn (hv.run pins s σ H _ I h) fun u s1 ⟨y, H1, I1, ry, q⟩ => thn (ho.run pins s1 σ H1 _ I1 q) fun ov s2 hh => by
    obtain ⟨x, H2, I2, rx, a, dx, fs, rfl, ea, l, q2⟩ := hh
    cases (show ov = Value.ref a from rx)
    exact setattr_ok I2 ea c n l ry fun s3 I3 => ⟨σ, _, I3, q2⟩) hs⟩
/-- o.f += e -/
def uAugF (C : Addr) (f : Str) (r : V → V → Hp → VK → Prop) (ta tv : TE) : TS := fun D σ H => ta σ H fun x H1 => ∃ a dx fs v, x = .ref a ∧ H1 a = some (.ins C dx fs) ∧ fs.lookup f = some v ∧
  tv σ H1 fun y H2 => r v y H2 fun z H3 => ∃ dx' fs', H3 a = some (.ins C dx' fs') ∧ fs'.length < 1000 ∧ D.nx σ (upd H3 a (.ins C dx' (putF f z fs')))
end fields
section truth
variable {X : Cx} {e : Expr} {te : TE}
def truV (K : PySem.W.Frag) (x : V) (H1 : Hp) (Q : Bool → Hp → Prop) : Prop := match x with
  | .bl b => Q b H1
  | .non => Q false H1
  | .int i => Q (!decide (i = 0)) H1
  | .str z => z.length ≤ sizeLine ∧ Q (!decide (z.length = 0)) H1
  | .ref p => (∃ xs, (SqL K H1 p xs ∨ SqT K H1 p xs) ∧ Q (!xs.isEmpty) H1) ∨ ∃ kvs, H1 p = some (.dK kvs) ∧ Q (!kvs.isEmpty) H1
  | _ => False
def uTru (K : PySem.W.Frag) (te : TE) : TT := fun σ H Q => te σ H fun x H1 => truV K x H1 Q
theorem t_tru (he : PE X e te) (hw : ∀ whole, isTrue e X.env whole = (do let v ← whole; standAt e.pos; holding [v] (truthy v)) := by intro _; rfl) : PT X e (uTru X.K te) := by
  refine ⟨fun pins s σ H Q I h => isTrue_plain (thn (he.run pins s σ H _ I h) fun v s1 hh => ?_) (hw _)⟩
  obtain ⟨x, H1, I1, r1, q⟩ := hh
  refine tru_ok pins s1 σ H1 x v Q I1 r1 ?_
  unfold truV at q
  split at q
  · exact ⟨_, rfl, q⟩
  · exact ⟨_, rfl, q⟩
  · rename_i i
    refine ⟨_, rfl, ?_⟩
    rw [show (i != 0) = !decide (i = 0) by rw [bne, Bool.beq_eq_decide_eq]]
    exact q
  · rename_i z
    refine ⟨_, ⟨q.1, rfl⟩, ?_⟩
    rw [show ((z.length : Int) != 0) = !decide (z.length = 0) by rw [bne, Bool.beq_eq_decide_eq]; congr 1; exact decide_eq_decide.mpr (by omega)]
    exact q.2
  · rcases q with ⟨xs, a | a, q⟩ | ⟨kvs, a, q⟩
    · exact ⟨_, .inl ⟨xs, a, rfl⟩, q⟩
    · exact ⟨_, .inr (.inl ⟨xs, a, rfl⟩), q⟩
    · exact ⟨_, .inr (.inr ⟨kvs, a, rfl⟩), q⟩
  · exact q.elim
end truth
def forQ (g : TG) (tb : TS) (D : Ends) (σ : L2.St) (J : It) (H1 : Hp) : Prop := ∃ W : Nat → Nat → L2.St → Hp → Prop, (∃ m, W 0 m σ H1) ∧ ∀ i m σ H, W i m σ H →
  (J.stop i H ∧ D.nx σ H) ∨ (J.go i H ∧ ∃ N : L2.St → Hp → Prop, (∀ σ' H', N σ' H' → ∃ m', m' < m ∧ W (i + 1) m' σ' H') ∧ ∀ x H', J.yld i H x H' → g x σ H' fun σ2 H2 => tb { D with nx := N, ct := N, bk := D.nx } σ2 H2)
def newT (xs : List V) (H1 : Hp) (Q : VK) : Prop := xs.length ≤ sizeLine ∧ ∀ p, H1 p = none → Q (.ref p) (upd H1 p (.tup xs))
def newL (xs : List V) (H1 : Hp) (Q : VK) : Prop := xs.length ≤ sizeLine ∧ ∀ p, H1 p = none → Q (.ref p) (upd H1 p (.lst xs))
def bmQ (K : PySem.W.Frag) (T : String) (q : V → List V → Hp → VK → Prop) (tA : TA) (σ : L2.St) (x : V) (H1 : Hp) (Q : VK) : Prop := tyV K T x H1 ∧ tA σ H1 fun xs H2 => q x xs H2 Q
def rng1Q (vs : List V) (H1 : Hp) (R : It → Hp → Prop) : Prop := ∃ j : Int, vs = [.int j] ∧ -(2 ^ 62) ≤ j ∧ j < 2 ^ 62 ∧ R (Itr 0 j.toNat) H1
def rng2Q (vs : List V) (H1 : Hp) (R : It → Hp → Prop) : Prop := ∃ i j : Int, vs = [.int i, .int j] ∧ (-(2 ^ 62) ≤ i ∧ i < 2 ^ 62 ∧ -(2 ^ 62) ≤ j ∧ j < 2 ^ 62) ∧ R (Itr i (j - i).toNat) H1
def listQ (K : PySem.W.Frag) (x : V) (H1 : Hp) (R : It → Hp → Prop) : Prop := ∃ a, x = .ref a ∧ (∃ xs, SqL K H1 a xs) ∧ R (Itl K a) H1
def tupQ (K : PySem.W.Frag) (x : V) (H1 : Hp) (R : It → Hp → Prop) : Prop := ∃ a, x = .ref a ∧ (∃ xs, SqT K H1 a xs) ∧ R (Itt K a) H1
def strQ (x : V) (H1 : Hp) (R : It → Hp → Prop) : Prop := ∃ z, x = .str z ∧ R (Its z) H1
def revQ (K : PySem.W.Frag) (vs : List V) (H1 : Hp) (R : It → Hp → Prop) : Prop := ∃ (a : Addr) (xs : List V), vs = [.ref a] ∧ SqL K H1 a xs ∧ R (Itv K a xs.length) H1
def fldQ (C : Addr) (f : Str) (x : V) (H1 : Hp) (Q : VK) : Prop := ∃ a dx fs v, x = .ref a ∧ H1 a = some (.ins C dx fs) ∧ fs.lookup f = some v ∧ Q v H1
def methQ (C : Addr) (m : Str) (sp : Sp) (W : WX) (t : TA) (σ : L2.St) (x : V) (H1 : Hp) (Q : VK) : Prop := ∃ a dx fs, x = .ref a ∧ H1 a = some (.ins C dx fs) ∧ fs.lookup m = none ∧ t σ H1 fun vs H2 => sp (x :: vs) H2 Q fun c d H3 => W c d σ H3
def setfQ (C : Addr) (f : Str) (x y : V) (H2 : Hp) (N : Hp → Prop) : Prop := ∃ a dx fs, x = .ref a ∧ H2 a = some (.ins C dx fs) ∧ fs.length < 1000 ∧ N (upd H2 a (.ins C dx (putF f y fs)))
section steps
variable {K : PySem.W.Frag} {D : Ends} {σ : L2.St} {H : Hp} {Q : VK} {QB : Bool → Hp → Prop} {QA : List V → Hp → Prop} {t u : TS} {te ta tb tv : TE} {tA : TA} {c c1 c2 : TT} {g : TG} {i : Nat} {v x y : V} {r r' : R2} {W : WX} {sp : Sp} {b : Bool} {C a : Addr} {f : Str}
theorem w_seq (h : t { D with nx := u D } σ H) : tSeq t u D σ H := h
theorem w_cut (P : L2.St → Hp → Prop) (h1 : t { D with nx := P } σ H) (h2 : ∀ σ H, P σ H → u D σ H) : tCut t u D σ H := ⟨P, h1, h2⟩
theorem w_next (h : D.nx σ H) : tNext D σ H := h
theorem w_asg (h : te σ H fun x H1 => g x σ H1 D.nx) : tAsg te g D σ H := h
theorem w_name {N : L2.St → Hp → Prop} (h : N (σ.set i (some v)) H) : gName i v σ H N := h
theorem w_ret (h : te σ H D.rt) : tRet te D σ H := h
theorem w_retN (h : D.rt .non H) : tRetN D σ H := h
theorem w_if (h : c σ H fun b H1 => if b = true then t D σ H1 else u D σ H1) : tIfS c t u D σ H := h
theorem w_drop (h : te σ H fun _ H1 => D.nx σ H1) : tDrop te D σ H := h
theorem w_brk (h : D.bk σ H) : tBreak D σ H := h
theorem w_cont (h : D.ct σ H) : tCont D σ H := h
theorem w_aug {ti : TIp} (e : σ[i]? = some (some x)) (h : te σ H fun y H1 => ti x y H1 fun z H2 => D.nx (σ.set i (some z)) H2) : tAug i te ti D σ H := ⟨x, e, h⟩
theorem w_ipI {k : Int → Int → Int} {m n : Int} (h : Q (.int (k m n)) H) : ipI k (.int m) (.int n) H Q := ⟨m, n, rfl, rfl, h⟩
theorem w_test (h : te σ H fun x H1 => ∃ k, x = .bl k ∧ QB k H1) : tTest te σ H QB := h
theorem w_not (h : c σ H fun k H1 => QB (!k) H1) : tNot c σ H QB := h
theorem w_and (h : c1 σ H fun k H1 => if k = true then c2 σ H1 QB else QB false H1) : tAnd c1 c2 σ H QB := h
theorem w_or (h : c1 σ H fun k H1 => if k = true then QB true H1 else c2 σ H1 QB) : tOr c1 c2 σ H QB := h
theorem w_andV (h : ta σ H fun x H1 => ∃ k, x = .bl k ∧ if k = true then tb σ H1 Q else Q (.bl false) H1) : tAndV ta tb σ H Q := h
theorem w_orV (h : ta σ H fun x H1 => ∃ k, x = .bl k ∧ if k = true then Q (.bl true) H1 else tb σ H1 Q) : tOrV ta tb σ H Q := h
theorem w_notV (h : ta σ H fun x H1 => ∃ k, x = .bl k ∧ Q (.bl (!k)) H1) : tNotV ta σ H Q := h
theorem w_blP {P : Bool → Prop} (h : P b) : ∃ k, V.bl b = .bl k ∧ P k := ⟨b, rfl, h⟩
theorem w_ifE (h : c σ H fun k H1 => if k = true then ta σ H1 Q else tb σ H1 Q) : tIf c ta tb σ H Q := h
theorem w_var (e : σ[i]? = some (some v)) (h : Q v H) : tVar i σ H Q := ⟨v, e, h⟩
theorem w_c (h : Q v H) : tC v σ H Q := h
theorem w_op (h : ta σ H fun x H1 => tb σ H1 fun y H2 => r x y H2 Q) : tOp r ta tb σ H Q := h
theorem w_un {ru : V → Hp → VK → Prop} (h : ta σ H fun x H1 => ru x H1 Q) : tUn ru ta σ H Q := h
theorem w_neg {m : Int} (h : Q (.int (-m)) H) : uNeg (.int m) H Q := h
theorem w_chain {tc : TE} (h : ta σ H fun x H1 => tb σ H1 fun y H2 => r x y H2 fun z H3 => ∃ k, z = .bl k ∧ if k = true then tc σ H3 fun w H4 => r' y w H4 Q else Q (.bl false) H3) : tChain r r' ta tb tc σ H Q := h
theorem w_cons (h : te σ H fun x H1 => tA σ H1 fun xs H2 => QA (x :: xs) H2) : tCons te tA σ H QA := h
theorem w_nil (h : QA [] H) : tNil σ H QA := h
theorem w_tup (h : tA σ H fun xs H1 => newT xs H1 Q) : tTup tA σ H Q := h
theorem w_lst (h : tA σ H fun xs H1 => newL xs H1 Q) : tLst tA σ H Q := h
theorem small9 {n : Nat} (h : n ≤ 100000) : n ≤ sizeLine := Nat.le_trans h (by decide)
theorem w_newT {xs : List V} (s : xs.length ≤ 100000) (h : ∀ p, H p = none → Q (.ref p) (upd H p (.tup xs))) : newT xs H Q := ⟨small9 s, h⟩
theorem w_newL {xs : List V} (s : xs.length ≤ 100000) (h : ∀ p, H p = none → Q (.ref p) (upd H p (.lst xs))) : newL xs H Q := ⟨small9 s, h⟩
theorem w_add {m n : Int} (h : Q (.int (m + n)) H) : uAdd K (.int m) (.int n) H Q := h
theorem w_sub {m n : Int} (h : Q (.int (m - n)) H) : uSub (.int m) (.int n) H Q := h
theorem w_mul {m n : Int} (s : CMul m n) (h : Q (.int (m * n)) H) : uMul (.int m) (.int n) H Q := ⟨.inl s, h⟩
theorem w_div {m n : Int} (s : 0 < n ∧ n < 2 ^ 200) (h : Q (.int (m / n)) H) : uDiv (.int m) (.int n) H Q := ⟨s, h⟩
theorem w_mod {m n : Int} (s : 0 < n) (h : Q (.int (m % n)) H) : uMod (.int m) (.int n) H Q := ⟨s, h⟩
theorem w_pow {m n : Int} (s : CPow m n) (h : Q (.int (m ^ n.toNat)) H) : uPow (.int m) (.int n) H Q := ⟨s, h⟩
theorem w_eqI {m n : Int} (h : Q (.bl (decide (m = n))) H) : uEq K (.int m) (.int n) H Q := h
theorem w_eqS {m n : Str} (h : Q (.bl (decide (m = n))) H) : uEq K (.str m) (.str n) H Q := h
theorem w_eqB {m n : Bool} (h : Q (.bl (decide (m = n))) H) : uEq K (.bl m) (.bl n) H Q := h
theorem w_eqNI {n : Int} (h : Q (.bl false) H) : uEq K .non (.int n) H Q := .inl ⟨rfl, h⟩
theorem w_neNI {n : Int} (h : Q (.bl true) H) : uNe K .non (.int n) H Q := .inl ⟨rfl, h⟩
theorem w_eqIN {n : Int} (h : Q (.bl false) H) : uEq K (.int n) .non H Q := .inl ⟨rfl, h⟩
theorem w_neIN {n : Int} (h : Q (.bl true) H) : uNe K (.int n) .non H Q := .inl ⟨rfl, h⟩
theorem w_neI {m n : Int} (h : Q (.bl (!decide (m = n))) H) : uNe K (.int m) (.int n) H Q := h
theorem w_neS {m n : Str} (h : Q (.bl (!decide (m = n))) H) : uNe K (.str m) (.str n) H Q := h
theorem w_neB {m n : Bool} (h : Q (.bl (!decide (m = n))) H) : uNe K (.bl m) (.bl n) H Q := h
theorem w_lt {m n : Int} (h : Q (.bl (decide (m < n))) H) : uLt K (.int m) (.int n) H Q := h
theorem w_le {m n : Int} (h : Q (.bl (decide (m ≤ n))) H) : uLe K (.int m) (.int n) H Q := h
theorem w_gt {m n : Int} (h : Q (.bl (decide (n < m))) H) : uGt (.int m) (.int n) H Q := h
theorem w_ge {m n : Int} (h : Q (.bl (decide (n ≤ m))) H) : uGe K (.int m) (.int n) H Q := h
theorem w_cb {q : List V → Hp → VK → Prop} (h : tA σ H fun vs H1 => q vs H1 Q) : tCB q tA σ H Q := h
theorem w_call (h : tA σ H fun vs H1 => sp vs H1 Q fun c d H2 => W c d σ H2) : uCall sp W tA σ H Q := h
theorem w_tru (h : te σ H fun x H1 => truV K x H1 QB) : uTru K te σ H QB := h
theorem w_truB {b : Bool} (h : QB b H) : truV K (.bl b) H QB := h
theorem w_truN (h : QB false H) : truV K .non H QB := h
theorem w_truI {m : Int} (h : QB (!decide (m = 0)) H) : truV K (.int m) H QB := h
theorem w_isi_int_int {m : Int} (h : Q (.bl true) H) : uIsi K .int [(.int m), .ty "int"] H Q := ⟨rfl, h⟩
theorem w_isi_int_bl {m : Bool} (h : Q (.bl true) H) : uIsi K .int [(.bl m), .ty "int"] H Q := ⟨rfl, h⟩
theorem w_isi_int_str {m : Str} (h : Q (.bl false) H) : uIsi K .int [(.str m), .ty "int"] H Q := ⟨rfl, h⟩
theorem w_isi_int_non  (h : Q (.bl false) H) : uIsi K .int [.non, .ty "int"] H Q := ⟨rfl, h⟩
theorem w_isi_bool_int {m : Int} (h : Q (.bl false) H) : uIsi K .bool [(.int m), .ty "bool"] H Q := ⟨rfl, h⟩
theorem w_isi_bool_bl {m : Bool} (h : Q (.bl true) H) : uIsi K .bool [(.bl m), .ty "bool"] H Q := ⟨rfl, h⟩
theorem w_isi_bool_str {m : Str} (h : Q (.bl false) H) : uIsi K .bool [(.str m), .ty "bool"] H Q := ⟨rfl, h⟩
theorem w_isi_bool_non  (h : Q (.bl false) H) : uIsi K .bool [.non, .ty "bool"] H Q := ⟨rfl, h⟩
theorem w_isi_str_int {m : Int} (h : Q (.bl false) H) : uIsi K .str [(.int m), .ty "str"] H Q := ⟨rfl, h⟩
theorem w_isi_str_bl {m : Bool} (h : Q (.bl false) H) : uIsi K .str [(.bl m), .ty "str"] H Q := ⟨rfl, h⟩
theorem w_isi_str_str {m : Str} (h : Q (.bl true) H) : uIsi K .str [(.str m), .ty "str"] H Q := ⟨rfl, h⟩
theorem w_isi_str_non  (h : Q (.bl false) H) : uIsi K .str [.non, .ty "str"] H Q := ⟨rfl, h⟩
theorem w_isi_list_int {m : Int} (h : Q (.bl false) H) : uIsi K .list [(.int m), .ty "list"] H Q := ⟨rfl, h⟩
theorem w_isi_list_bl {m : Bool} (h : Q (.bl false) H) : uIsi K .list [(.bl m), .ty "list"] H Q := ⟨rfl, h⟩
theorem w_isi_list_str {m : Str} (h : Q (.bl false) H) : uIsi K .list [(.str m), .ty "list"] H Q := ⟨rfl, h⟩
theorem w_isi_list_non  (h : Q (.bl false) H) : uIsi K .list [.non, .ty "list"] H Q := ⟨rfl, h⟩
theorem w_isi_tuple_int {m : Int} (h : Q (.bl false) H) : uIsi K .tuple [(.int m), .ty "tuple"] H Q := ⟨rfl, h⟩
theorem w_isi_tuple_bl {m : Bool} (h : Q (.bl false) H) : uIsi K .tuple [(.bl m), .ty "tuple"] H Q := ⟨rfl, h⟩
theorem w_isi_tuple_str {m : Str} (h : Q (.bl false) H) : uIsi K .tuple [(.str m), .ty "tuple"] H Q := ⟨rfl, h⟩
theorem w_isi_tuple_non  (h : Q (.bl false) H) : uIsi K .tuple [.non, .ty "tuple"] H Q := ⟨rfl, h⟩
theorem w_is_int {m : Int} (h : Q (.bl false) H) : uIs (.int m) .non H Q := h
theorem w_isnt_int {m : Int} (h : Q (.bl true) H) : uIsnt (.int m) .non H Q := h
theorem w_is_bl {m : Bool} (h : Q (.bl false) H) : uIs (.bl m) .non H Q := h
theorem w_isnt_bl {m : Bool} (h : Q (.bl true) H) : uIsnt (.bl m) .non H Q := h
theorem w_is_str {m : Str} (h : Q (.bl false) H) : uIs (.str m) .non H Q := h
theorem w_isnt_str {m : Str} (h : Q (.bl true) H) : uIsnt (.str m) .non H Q := h
theorem w_is_non  (h : Q (.bl true) H) : uIs .non .non H Q := h
theorem w_isnt_non  (h : Q (.bl false) H) : uIsnt .non .non H Q := h
theorem w_is_ref {m : Addr} (h : Q (.bl false) H) : uIs (.ref m) .non H Q := h
theorem w_isnt_ref {m : Addr} (h : Q (.bl true) H) : uIsnt (.ref m) .non H Q := h
theorem ifNT {A B : Prop} (h : B) : if (!true) = true then A else B := iteF h
theorem ifNF {A B : Prop} (h : A) : if (!false) = true then A else B := iteT h
theorem w_max {m n : Int} (h : Q (.int (if n > m then n else m)) H) : uMax K [.int m, .int n] H Q := h
theorem w_min {m n : Int} (h : Q (.int (if n < m then n else m)) H) : uMin K [.int m, .int n] H Q := h
theorem w_abs {m : Int} (h : Q (.int (if m < 0 then -m else m)) H) : uAbs [.int m] H Q := h
theorem w_intI {m : Int} (h : Q (.int m) H) : uInt [.int m] H Q := h
theorem w_intB {m : Bool} (h : Q (.int (if m then 1 else 0)) H) : uInt [.bl m] H Q := h
theorem w_lenL {p : Addr} {xs : List V} (e : SqL K H p xs) (h : Q (.int xs.length) H) : uLen K [.ref p] H Q := .inl ⟨xs, .inl e, h⟩
theorem w_lenT {p : Addr} {xs : List V} (e : SqT K H p xs) (h : Q (.int xs.length) H) : uLen K [.ref p] H Q := .inl ⟨xs, .inr e, h⟩
theorem w_ixL {p : Addr} {xs : List V} {n : Int} {k : Nat} (e : SqL K H p xs) (ek : n = (k : Int)) (ev : xs[k]? = some v) (h : Q v H) : uIx K (.ref p) (.int n) H Q := ⟨xs, v, .inl e, by rw [ek]; exact atI_nat ev, h⟩
theorem w_ixT {p : Addr} {xs : List V} {n : Int} {k : Nat} (e : SqT K H p xs) (ek : n = (k : Int)) (ev : xs[k]? = some v) (h : Q v H) : uIx K (.ref p) (.int n) H Q := ⟨xs, v, .inr e, by rw [ek]; exact atI_nat ev, h⟩
theorem w_app {p : Addr} {xs : List V} (e : H p = some (.lst xs)) (s : xs.length < sizeLine) (h : Q .non (upd H p (.lst (xs ++ [y])))) : rAppend (.ref p) [y] H Q := ⟨p, xs, y, rfl, rfl, e, s, h⟩
theorem w_ixI {p : Addr} {ns : List Int} {n : Int} (e : SqL K H p (ns.map V.int)) (h0 : 0 ≤ n ∧ n.toNat < ns.length) (h : Q (.int (ns.getD n.toNat 0)) H) : uIx K (.ref p) (.int n) H Q :=
  ⟨_, .int (ns.getD n.toNat 0), .inl e, by
    have z : (ns.map V.int)[n.toNat]? = some (.int (ns.getD n.toNat 0)) := by rw [List.getElem?_map, List.getElem?_eq_getElem h0.2, List.getD_eq_getElem?_getD, List.getElem?_eq_getElem h0.2]; rfl
    have y := atI_nat z
    rw [show ((n.toNat : Nat) : Int) = n by omega] at y
    exact y, h⟩
theorem w_ixTI {p : Addr} {ns : List Int} {n : Int} (e : SqT K H p (ns.map V.int)) (h0 : 0 ≤ n ∧ n.toNat < ns.length) (h : Q (.int (ns.getD n.toNat 0)) H) : uIx K (.ref p) (.int n) H Q :=
  ⟨_, .int (ns.getD n.toNat 0), .inr e, by
    have z : (ns.map V.int)[n.toNat]? = some (.int (ns.getD n.toNat 0)) := by rw [List.getElem?_map, List.getElem?_eq_getElem h0.2, List.getD_eq_getElem?_getD, List.getElem?_eq_getElem h0.2]; rfl
    have y := atI_nat z
    rw [show ((n.toNat : Nat) : Int) = n by omega] at y
    exact y, h⟩
theorem w_appI {p : Addr} {ns : List Int} {z : Int} (e : H p = some (.lst (ns.map V.int))) (s : ns.length < 10000000) (h : Q .non (upd H p (.lst ((ns ++ [z]).map V.int)))) : rAppend (.ref p) [.int z] H Q :=
  ⟨p, _, _, rfl, rfl, e, by rw [List.length_map]; exact Nat.lt_of_lt_of_le s (by decide), by rw [List.map_append] at h; exact h⟩
theorem w_gsub {to ti : TE} {ts : TSet} {N : L2.St → Hp → Prop} (h : to σ H fun o H1 => ti σ H1 fun i H2 => ts o i v H2 fun H3 => N σ H3) : gSub to ti ts v σ H N := h
theorem ixN_in {n : Nat} {k : Int} (h : 0 ≤ k ∧ k.toNat < n) : ixN n k = some k.toNat := by unfold ixN; rw [if_pos h.1, if_pos (by omega)]
theorem w_setL {p : Addr} {xs : List V} {k : Int} {N : Hp → Prop} (e : H p = some (.lst xs)) (h0 : 0 ≤ k ∧ k.toNat < xs.length) (h : N (upd H p (.lst (xs.set k.toNat y)))) : uSet (.ref p) (.int k) y H N := .inl ⟨xs, _, e, ixN_in h0, h⟩
theorem w_ixA {p : Addr} {xs : List V} {n : Int} (e : SqL K H p xs) (h0 : 0 ≤ n ∧ n.toNat < xs.length) (h : ∀ v, xs[n.toNat]? = some v → Q v H) : uIx K (.ref p) (.int n) H Q :=
  ⟨xs, xs[n.toNat]'h0.2, .inl e, by
    have y := atI_nat (List.getElem?_eq_getElem h0.2)
    rw [show ((n.toNat : Nat) : Int) = n by omega] at y
    exact y, h _ (List.getElem?_eq_getElem h0.2)⟩
theorem w_ttupL {p : Addr} {xs : List V} (e : SqL K H p xs) (h : ∀ l, H l = none → Q (.ref l) (upd H l (.tup xs))) : uTuple K [.ref p] H Q := ⟨xs, .inl ⟨e, h⟩⟩
def partQ (x : V) (H1 : Hp) (Q : Option Int → Hp → Prop) : Prop := ∃ i, x = .int i ∧ Q (some i) H1
theorem w_sl {rs : V → Option Int → Option Int → Hp → VK → Prop} {tl th : TO} (h : te σ H fun x H1 => tl σ H1 fun l H2 => th σ H2 fun u H3 => rs x l u H3 Q) : tSl rs te tl th σ H Q := h
theorem w_part {Q : Option Int → Hp → Prop} (h : te σ H fun x H1 => partQ x H1 Q) : tPart te σ H Q := h
theorem w_partI {Q : Option Int → Hp → Prop} {n : Int} (h : Q (some n) H) : partQ (.int n) H Q := ⟨n, rfl, h⟩
theorem w_noPart {Q : Option Int → Hp → Prop} (h : Q none H) : tNoPart σ H Q := h
theorem cut_take (xs : List V) (k : Nat) : cutV xs none (some (k : Int)) = xs.take k := by
  unfold cutV
  rw [HT.sIx_nat, HT.sIx_none, List.drop_zero, Nat.sub_zero, ← List.take_take, List.take_length]
theorem w_slL {p : Addr} {xs : List V} {lo hi : Option Int} (e : SqL K H p xs) (h : ∀ q, H q = none → Q (.ref q) (upd H q (.lst (cutV xs lo hi)))) : uSl K (.ref p) lo hi H Q := .inl ⟨p, xs, rfl, e, h⟩
theorem w_ixTl {p : Addr} {xs : List V} {n : Int} (e : SqT K H p xs) (ev : xs[n.toNat]? = some v) (h0 : 0 ≤ n) (h : Q v H) : uIx K (.ref p) (.int n) H Q := w_ixT (k := n.toNat) e (by omega) ev h
theorem w_ixLl {p : Addr} {xs : List V} {n : Int} (e : SqL K H p xs) (ev : xs[n.toNat]? = some v) (h0 : 0 ≤ n) (h : Q v H) : uIx K (.ref p) (.int n) H Q := w_ixL (k := n.toNat) e (by omega) ev h
theorem w_bm {T : String} {q : V → List V → Hp → VK → Prop} (h : te σ H fun x H1 => bmQ K T q tA σ x H1 Q) : tBM K T q te tA σ H Q := h
theorem w_bmL {q : V → List V → Hp → VK → Prop} {p : Addr} {xs : List V} (e : H p = some (.lst xs)) (h : tA σ H fun vs H2 => q (.ref p) vs H2 Q) : bmQ K "list" q tA σ (.ref p) H Q := ⟨.inl ⟨rfl, _, .inl (.inl e)⟩, h⟩
theorem w_bmS {q : V → List V → Hp → VK → Prop} {z : Str} (h : tA σ H fun vs H2 => q (.str z) vs H2 Q) : bmQ K "str" q tA σ (.str z) H Q := ⟨rfl, h⟩
theorem w_for {wi : TI} {tb : TS} (h : wi σ H fun J H1 => forQ g tb D σ J H1) : tFor wi g tb D σ H := h
theorem f_range {tb : TS} {lo : Int} {n : Nat} (Pv : Nat → L2.St → Hp → Prop) (h0 : Pv 0 σ H)
    (hs : ∀ i σ H, i < n → Pv i σ H → g (.int (lo + i)) σ H fun σ2 H2 => tb { D with nx := Pv (i + 1), ct := Pv (i + 1), bk := D.nx } σ2 H2) (hd : ∀ σ H, Pv n σ H → D.nx σ H) : forQ g tb D σ (Itr lo n) H := for_range Pv h0 hs hd
theorem f_list {tb : TS} {a : Addr} {xs : List V} (Pv : Nat → L2.St → Hp → Prop) (h0 : Pv 0 σ H) (hl : ∀ i σ H, i ≤ xs.length → Pv i σ H → SqL K H a xs)
    (hs : ∀ i x σ H, xs[i]? = some x → Pv i σ H → g x σ H fun σ2 H2 => tb { D with nx := Pv (i + 1), ct := Pv (i + 1), bk := D.nx } σ2 H2) (hd : ∀ σ H, Pv xs.length σ H → D.nx σ H) : forQ g tb D σ (Itl K a) H := for_list Pv h0 hl hs hd
theorem f_tup {tb : TS} {a : Addr} {xs : List V} (Pv : Nat → L2.St → Hp → Prop) (h0 : Pv 0 σ H) (hl : ∀ i σ H, i ≤ xs.length → Pv i σ H → SqT K H a xs)
    (hs : ∀ i x σ H, xs[i]? = some x → Pv i σ H → g x σ H fun σ2 H2 => tb { D with nx := Pv (i + 1), ct := Pv (i + 1), bk := D.nx } σ2 H2) (hd : ∀ σ H, Pv xs.length σ H → D.nx σ H) : forQ g tb D σ (Itt K a) H := for_tup Pv h0 hl hs hd
/-- any source whose turns are told: J yields item i at turn i below n and leaves the heap -/
theorem f_any {tb : TS} {J : It} {n : Nat} {item : Nat → V → Prop} (Pv : Nat → L2.St → Hp → Prop) (h0 : Pv 0 σ H)
    (hgo : ∀ i σ H, i < n → Pv i σ H → J.go i H ∧ ∀ x H', J.yld i H x H' → H' = H ∧ item i x) (hst : ∀ σ H, Pv n σ H → J.stop n H)
    (hs : ∀ i x σ H, i < n → item i x → Pv i σ H → g x σ H fun σ2 H2 => tb { D with nx := Pv (i + 1), ct := Pv (i + 1), bk := D.nx } σ2 H2) (hd : ∀ σ H, Pv n σ H → D.nx σ H) : forQ g tb D σ J H := by
  refine ⟨fun i m σ H => m = n - i ∧ i ≤ n ∧ Pv i σ H, ⟨n, by simp, Nat.zero_le _, h0⟩, fun i m σ H q => ?_⟩
  obtain ⟨rfl, hi, p⟩ := q
  rcases Nat.lt_or_ge i n with hl | hl
  · obtain ⟨a, b⟩ := hgo i σ H hl p
    refine .inr ⟨a, Pv (i + 1), fun σ' H' p' => ⟨n - (i + 1), by omega, rfl, hl, p'⟩, fun x H' y => ?_⟩
    obtain ⟨rfl, c⟩ := b x H' y
    exact hs i x σ _ hl c p
  · obtain rfl : i = n := Nat.le_antisymm hi hl
    exact .inl ⟨hst σ H p, hd σ H p⟩
theorem w_rng1 {R : It → Hp → Prop} (h : tA σ H fun vs H1 => rng1Q vs H1 R) : iRng1 tA σ H R := h
theorem w_rng1v {R : It → Hp → Prop} {n : Int} (h1 : -(2 ^ 62) ≤ n) (h2 : n < 2 ^ 62) (h : R (Itr 0 n.toNat) H) : rng1Q [.int n] H R := ⟨n, rfl, h1, h2, h⟩
theorem w_rng2 {R : It → Hp → Prop} (h : tA σ H fun vs H1 => rng2Q vs H1 R) : iRng2 tA σ H R := h
theorem w_rng2v {R : It → Hp → Prop} {m n : Int} (h1 : -(2 ^ 62) ≤ m ∧ m < 2 ^ 62 ∧ -(2 ^ 62) ≤ n ∧ n < 2 ^ 62) (h : R (Itr m (n - m).toNat) H) : rng2Q [.int m, .int n] H R := ⟨m, n, rfl, h1, h⟩
theorem w_iList {R : It → Hp → Prop} (h : te σ H fun x H1 => listQ K x H1 R) : iList K te σ H R := h
theorem w_iListv {R : It → Hp → Prop} {p : Addr} {xs : List V} (e : SqL K H p xs) (h : R (Itl K p) H) : listQ K (.ref p) H R := ⟨p, rfl, ⟨xs, e⟩, h⟩
theorem w_iTup {R : It → Hp → Prop} (h : te σ H fun x H1 => tupQ K x H1 R) : iTup K te σ H R := h
theorem w_iTupv {R : It → Hp → Prop} {p : Addr} {xs : List V} (e : SqT K H p xs) (h : R (Itt K p) H) : tupQ K (.ref p) H R := ⟨p, rfl, ⟨xs, e⟩, h⟩
theorem w_iStr {R : It → Hp → Prop} (h : te σ H fun x H1 => strQ x H1 R) : iStr te σ H R := h
theorem w_iStrv {R : It → Hp → Prop} {z : Str} (h : R (Its z) H) : strQ (.str z) H R := ⟨z, rfl, h⟩
theorem w_iRev {R : It → Hp → Prop} (h : tA σ H fun vs H1 => revQ K vs H1 R) : iRev K tA σ H R := h
theorem w_iRevv {R : It → Hp → Prop} {p : Addr} {xs : List V} (e : SqL K H p xs) (h : R (Itv K p xs.length) H) : revQ K [.ref p] H R := ⟨p, xs, rfl, e, h⟩
theorem w_raise {C : Addr} (h : W (.ref C) none σ H) : uRaise C W D σ H := h
theorem w_fld {C : Addr} (h : te σ H fun x H1 => fldQ C f x H1 Q) : uFld C f te σ H Q := h
theorem w_fldv {C p dx : Addr} {fs : List (Str × V)} (e : H p = some (.ins C dx fs)) (l : fs.lookup f = some v) (h : Q v H) : fldQ C f (.ref p) H Q := ⟨p, dx, fs, v, rfl, e, l, h⟩
theorem w_meth {C : Addr} {m : Str} (h : te σ H fun x H1 => methQ C m sp W tA σ x H1 Q) : uMeth C m sp W te tA σ H Q := h
theorem w_methv {C p dx : Addr} {m : Str} {fs : List (Str × V)} (e : H p = some (.ins C dx fs)) (l : fs.lookup m = none) (h : tA σ H fun vs H2 => sp (.ref p :: vs) H2 Q fun c d H3 => W c d σ H3) : methQ C m sp W tA σ (.ref p) H Q := ⟨p, dx, fs, rfl, e, l, h⟩
theorem w_setf {C : Addr} (h : tv σ H fun y H1 => te σ H1 fun x H2 => setfQ C f x y H2 (D.nx σ)) : uSetF C f te tv D σ H := h
theorem w_setfv {C p dx : Addr} {fs fs' : List (Str × V)} {N : Hp → Prop} (e : H p = some (.ins C dx fs)) (l : fs.length < 1000) (e2 : putF f y fs = fs') (h : N (upd H p (.ins C dx fs'))) : setfQ C f (.ref p) y H N := ⟨p, dx, fs, rfl, e, l, by rw [e2]; exact h⟩
theorem ifP {p A B : Prop} [Decidable p] (h1 : p → A) (h2 : ¬ p → B) : if decide p = true then A else B := by
  by_cases h : p
  · rw [if_pos (decide_eq_true h)]; exact h1 h
  · rw [if_neg (by rw [decide_eq_false h]; decide)]; exact h2 h
theorem ifN {p A B : Prop} [Decidable p] (h2 : ¬ p → A) (h1 : p → B) : if (!decide p) = true then A else B := by
  by_cases h : p
  · rw [if_neg (by rw [decide_eq_true h]; decide)]; exact h1 h
  · rw [if_pos (by rw [decide_eq_false h]; rfl)]; exact h2 h
end steps
section heaps
variable {K : PySem.W.Frag} {H H' : Hp} {p q : Addr} {o u : HO} {xs : List V}
theorem upd_old (h : H q = some u) (n : H p = none) : upd H p o q = some u := by rw [upd_ne (ne_of_none h n)]; exact h
theorem upd_oth (h : H q = some u) (n : q ≠ p) : upd H p o q = some u := by rw [upd_ne n]; exact h
theorem none_of_upd (h : upd H p o q = none) : H q = none ∧ q ≠ p := by
  unfold upd at h
  split at h
  · cases h
  · exact ⟨h, by assumption⟩
theorem rd_old (h : Rd H q u) (n : H p = none) : Rd (upd H p o) q u := by
  rcases h with h | ⟨o', h⟩
  · exact .inl (upd_old h n)
  · exact .inr ⟨o', upd_old h n⟩
theorem sql_old (h : SqL K H q xs) (n : H p = none) : SqL K (upd H p o) q xs := h.imp (fun h => rd_old h n) id
theorem sqt_old (h : SqT K H q xs) (n : H p = none) : SqT K (upd H p o) q xs := h.imp (fun h => rd_old h n) id
theorem same_new (n : H p = none) : Same H (upd H p o) := fun b w h => upd_old h n
theorem same_upd {H1 : Hp} (s : Same H H1) (n : H p = none) : Same H (upd H1 p o) := fun b w h => by rw [upd_ne (ne_of_none h n)]; exact s b w h
theorem same_updN {H1 : Hp} (s : Same H H1) (n : H1 p = none) : Same H (upd H1 p o) := fun b w h => upd_old (s b w h) n
theorem Same.sqt (e : Same H H') (h : SqT K H q xs) : SqT K H' q xs := by
  rcases h with (h | ⟨o, h⟩) | h
  · exact .inl (.inl (e _ _ h))
  · exact .inl (.inr ⟨o, e _ _ h⟩)
  · exact .inr h
end heaps
section steps2
variable {K : PySem.W.Frag} {σ : L2.St} {H : Hp} {Q : VK} {C p : Addr} {sp : Sp} {W : WX} {t : TA} {te td ty tv : TE} {x y v : V} {kvs : List (Key × V)} {i : Int} {N : L2.St → Hp → Prop}
def mkQ (C : Addr) (sp : Sp) (W : WX) (σ : L2.St) (vs : List V) (H1 : Hp) (Q : VK) : Prop := ∀ x dx, H1 x = none → H1 dx = none → dx ≠ x → sp (.ref x :: vs) (upd (upd H1 dx (.own x)) x (.ins C dx [])) (fun v H2 => v = .non ∧ Q (.ref x) H2) fun c d H2 => W c d σ H2
theorem w_make (h : t σ H fun vs H1 => mkQ C sp W σ vs H1 Q) : uMake C sp W t σ H Q := h
def dgQ (x y : V) (H : Hp) (Q : VK) : Prop := ∃ a v, x = .ref a ∧ DGet H a y (some v) ∧ Q v H
theorem w_dget (h : td σ H fun x H1 => ty σ H1 fun y H2 => dgQ x y H2 Q) : tDGet td ty σ H Q := h
theorem w_dgetI (e : H p = some (.dK kvs)) (l : valV kvs (.inl i) = some v) (h : Q v H) : dgQ (.ref p) (.int i) H Q := ⟨p, v, rfl, by have z := DGet.k (k := .inl i) e; rw [l] at z; exact z, h⟩
theorem w_inD (e : H p = some (.dK kvs)) (h : Q (.bl (valV kvs (.inl i)).isSome) H) : uIn K (.int i) (.ref p) H Q := .inr ⟨_, DGet.k (k := .inl i) e, h⟩
theorem w_ninD (e : H p = some (.dK kvs)) (h : Q (.bl (!(valV kvs (.inl i)).isSome)) H) : uNin K (.int i) (.ref p) H Q := .inr ⟨_, DGet.k (k := .inl i) e, h⟩
def dpQ (x y v : V) (H : Hp) (N : Hp → Prop) : Prop := ∃ a H4, x = .ref a ∧ DPut H a y v H4 ∧ N H4
theorem w_dput {D : Ends} (h : tv σ H fun v H1 => td σ H1 fun x H2 => ty σ H2 fun y H3 => dpQ x y v H3 (D.nx σ)) : sDPut td ty tv D σ H := h
theorem w_dputI {M : Hp → Prop} (e : H p = some (.dK kvs)) (l : kvs.length < 10000000) (h : M (upd H p (.dK (putK kvs (.inl i) v)))) : dpQ (.ref p) (.int i) v H M := ⟨p, _, rfl, DPut.k (k := .inl i) e (Nat.lt_of_lt_of_le l (by decide)), h⟩
theorem w_newD (h : ∀ p, H p = none → Q (.ref p) (upd H p (.dK []))) : tDNewK σ H Q := h
/-- a list times a number -/
theorem w_rep {xs : List V} {k : Int} (e : H p = some (.lst xs)) (h0 : 0 ≤ k) (h1 : k ≤ 100000) (h2 : xs.length ≤ 100) (h : ∀ q, H q = none → Q (.ref q) (upd H q (.lst (List.replicate k.toNat xs).flatten))) : uMul (.ref p) (.int k) H Q := by
  refine ⟨p, k, xs, rfl, rfl, e, by omega, by omega, ?_, h⟩
  have h3 : k.toNat ≤ 100000 := by omega
  have h4 : xs.length * k.toNat ≤ 100 * 100000 := Nat.mul_le_mul h2 h3
  exact Nat.le_trans h4 (by decide)
theorem rep1 (n : Nat) (z : Int) : (List.replicate n [V.int z]).flatten = (List.replicate n z).map V.int := by
  induction n with
  | zero => rfl
  | succ n ih => rw [List.replicate_succ, List.flatten_cons, ih, List.replicate_succ, List.map_cons]; rfl
theorem w_rep1 {z k : Int} (e : H p = some (.lst [.int z])) (h0 : 0 ≤ k) (h1 : k ≤ 100000) (h : ∀ q, H q = none → Q (.ref q) (upd H q (.lst ((List.replicate k.toNat z).map V.int)))) : uMul (.ref p) (.int k) H Q :=
  w_rep e h0 h1 (by simp) fun q hq => by rw [rep1]; exact h q hq
theorem w_gtup2 {a : Addr} {u : TGs} (e : SqT K H a [x, y]) (h : u [x, y] σ H N) : gTup K 2 u (.ref a) σ H N := ⟨a, _, rfl, e, rfl, h⟩
theorem w_gtup3 {a : Addr} {u : TGs} {z : V} (e : SqT K H a [x, y, z]) (h : u [x, y, z] σ H N) : gTup K 3 u (.ref a) σ H N := ⟨a, _, rfl, e, rfl, h⟩
theorem w_gtup4 {a : Addr} {u : TGs} {z w : V} (e : SqT K H a [x, y, z, w]) (h : u [x, y, z, w] σ H N) : gTup K 4 u (.ref a) σ H N := ⟨a, _, rfl, e, rfl, h⟩
theorem w_gcons {g : TG} {u : TGs} {r : List V} (h : g v σ H fun σ' H' => u r σ' H' N) : gCons g u (v :: r) σ H N := ⟨v, r, rfl, h⟩
theorem w_gnil (h : N σ H) : gNil [] σ H N := ⟨rfl, h⟩
def augQ (C : Addr) (f : Str) (r : V → V → Hp → VK → Prop) (tv : TE) (D : Ends) (σ : L2.St) (x : V) (H1 : Hp) : Prop := ∃ a dx fs v, x = .ref a ∧ H1 a = some (.ins C dx fs) ∧ fs.lookup f = some v ∧
  tv σ H1 fun y H2 => r v y H2 fun z H3 => ∃ dx' fs', H3 a = some (.ins C dx' fs') ∧ fs'.length < 1000 ∧ D.nx σ (upd H3 a (.ins C dx' (putF f z fs')))
theorem w_augf {D : Ends} {f : Str} {r : V → V → Hp → VK → Prop} (h : te σ H fun x H1 => augQ C f r tv D σ x H1) : uAugF C f r te tv D σ H := h
theorem w_augsub {D : Ends} {f : Str} {dx : Addr} {fs : List (Str × V)} {i j : Int} (e : H p = some (.ins C dx fs)) (l : fs.lookup f = some (.int i)) (s : fs.length < 1000) (h : D.nx σ (upd H p (.ins C dx (putF f (.int (i - j)) fs)))) : augQ C f rSub (tC (.int j)) D σ (.ref p) H :=
  ⟨p, dx, fs, _, rfl, e, l, i, j, rfl, rfl, dx, fs, e, s, h⟩
theorem w_augadd {D : Ends} {f : Str} {dx : Addr} {fs : List (Str × V)} {i j : Int} (e : H p = some (.ins C dx fs)) (l : fs.lookup f = some (.int i)) (s : fs.length < 1000) (h : D.nx σ (upd H p (.ins C dx (putF f (.int (i + j)) fs)))) : augQ C f rAdd (tC (.int j)) D σ (.ref p) H :=
  ⟨p, dx, fs, _, rfl, e, l, i, j, rfl, rfl, dx, fs, e, s, h⟩
end steps2
section whiles
variable {D : Ends} {σ : L2.St} {H : Hp} {c : TT} {tb : TS}
def whQ (P : L2.St → Hp → Prop) (μ : L2.St → Hp → Nat) (m : Nat) (tb : TS) (D : Ends) (σ : L2.St) (H : Hp) : Prop :=
  ∃ N : L2.St → Hp → Prop, (∀ σ' H', N σ' H' → ∃ m', m' < m ∧ (m' = μ σ' H' ∧ P σ' H')) ∧ tb { D with nx := N, ct := N, bk := D.nx } σ H
theorem f_while (P : L2.St → Hp → Prop) (μ : L2.St → Hp → Nat) (h0 : P σ H) (hs : ∀ σ H, P σ H → c σ H fun b H1 => if b = true then whQ P μ (μ σ H) tb D σ H1 else D.nx σ H1) : tWhile c tb D σ H := by
  refine ⟨fun m σ H => m = μ σ H ∧ P σ H, ⟨_, rfl, h0⟩, fun m σ H q => ?_⟩
  obtain ⟨rfl, p⟩ := q
  exact hs σ H p
theorem w_wh {P : L2.St → Hp → Prop} {μ : L2.St → Hp → Nat} {m : Nat} (h : tb { D with nx := fun σ' H' => P σ' H' ∧ μ σ' H' < m, ct := fun σ' H' => P σ' H' ∧ μ σ' H' < m, bk := D.nx } σ H) : whQ P μ m tb D σ H := ⟨_, fun _ _ n => ⟨_, n.2, rfl, n.1⟩, h⟩
end whiles
section data
variable {K : PySem.W.Frag} {H : Hp} {Q : VK} {α β : Type} [DecidableEq α] [PySem.W.Datum α] [DecidableEq β] [PySem.W.Datum β]
def Dt (K : PySem.W.Frag) (H : Hp) (v : V) (a : α) : Prop := Dp K H v (PySem.W.Datum.toD a)
def DtAll (K : PySem.W.Frag) (H : Hp) (vs : List V) (as : List α) : Prop := DpAll K H vs (as.map PySem.W.Datum.toD)
theorem Dt.int {i : Int} : Dt K H (.int i) i := Dp.int i
theorem Dt.bl {i : Bool} : Dt K H (.bl i) i := Dp.bl i
theorem Dt.str {i : Str} : Dt K H (.str i) i := Dp.str i
theorem Dt.list {p : Addr} {vs : List V} {as : List α} (e : SqL K H p vs) (h : DtAll K H vs as) : Dt K H (.ref p) as := Dp.lst e h
theorem Dt.tup {p : Addr} {vs : List V} {as : List α} (e : SqT K H p vs) (h : DtAll K H vs as) : Dt K H (.ref p) (PySem.W.Tup.mk as) := Dp.tup e h
theorem Dt.pair {p : Addr} {x y : V} {a : α} {b : β} (e : SqT K H p [x, y]) (h1 : Dt K H x a) (h2 : Dt K H y b) : Dt K H (.ref p) (a, b) := Dp.tup e (DpAll.cons h1 (DpAll.cons h2 DpAll.nil))
theorem DtAll.nil : DtAll K H [] ([] : List α) := DpAll.nil
theorem DtAll.cons {v : V} {vs : List V} {a : α} {as : List α} (h : Dt K H v a) (hs : DtAll K H vs as) : DtAll K H (v :: vs) (a :: as) := DpAll.cons h hs
theorem DtAll.ints : ∀ (ns : List Int), DtAll K H (ns.map V.int) ns
  | [] => DpAll.nil
  | _ :: ns => DpAll.cons (Dp.int _) (DtAll.ints ns)
theorem DtAll.length : ∀ {vs : List V} {as : List α}, DtAll K H vs as → vs.length = as.length
  | [], [], _ => rfl
  | [], _ :: _, h => by cases h
  | _ :: _, [], h => by cases h
  | _ :: vs, _ :: as, h => by
    cases h with
    | cons h1 h2 => rw [List.length_cons, List.length_cons, DtAll.length h2]
theorem w_eqD {x y : V} {a b : α} (h1 : Dt K H x a) (h2 : Dt K H y b) (hd : PySem.W.Datum.depth α ≤ 60) (hx : ∃ p, x = .ref p) (h : Q (.bl (decide (a = b))) H) : uEq K x y H Q := by
  obtain ⟨p, rfl⟩ := hx
  have z : rEqP K (.ref p) y H Q := ⟨_, _, h1, h2, ⟨PySem.W.Datum.plain a, Nat.le_trans (PySem.W.Datum.depth_le a) hd⟩, PySem.W.Datum.plain b, by rw [PySem.W.Datum.eqv]; exact h⟩
  unfold uEq; exact .inr z
theorem w_neD {x y : V} {a b : α} (h1 : Dt K H x a) (h2 : Dt K H y b) (hd : PySem.W.Datum.depth α ≤ 60) (hx : ∃ p, x = .ref p) (h : Q (.bl (!decide (a = b))) H) : uNe K x y H Q := by
  obtain ⟨p, rfl⟩ := hx
  have z : rNeP K (.ref p) y H Q := ⟨_, _, h1, h2, ⟨PySem.W.Datum.plain a, Nat.le_trans (PySem.W.Datum.depth_le a) hd⟩, PySem.W.Datum.plain b, by rw [PySem.W.Datum.eqv]; exact h⟩
  unfold uNe; exact .inr z
mutual
theorem Dp.same {H' : Hp} (s : Same H H') : ∀ {d : PyData} {v : V}, Dp K H v d → Dp K H' v d
  | .none, _, h => by cases h; exact .non
  | .bool _, _, h => by cases h; exact .bl _
  | .int _, _, h => by cases h; exact .int _
  | .str _, _, h => by cases h; exact .str _
  | .list _, _, h => by
    cases h with
    | lst e a => exact .lst (s.seq e) (DpAll.same s a)
  | .tuple _, _, h => by
    cases h with
    | tup e a =>
      refine .tup ?_ (DpAll.same s a)
      rcases e with (e | ⟨o, e⟩) | e
      · exact .inl (.inl (s _ _ e))
      · exact .inl (.inr ⟨o, s _ _ e⟩)
      · exact .inr e
  | .dict _, _, h => by cases h
theorem DpAll.same {H' : Hp} (s : Same H H') : ∀ {ds : List PyData} {vs : List V}, DpAll K H vs ds → DpAll K H' vs ds
  | [], _, h => by cases h; exact .nil
  | _ :: _, _, h => by
    cases h with
    | cons h1 h2 => exact .cons (Dp.same s h1) (DpAll.same s h2)
end
theorem Dt.same {H' : Hp} (s : Same H H') {v : V} {a : α} (h : Dt K H v a) : Dt K H' v a := Dp.same s h
theorem DtAll.same {H' : Hp} (s : Same H H') {vs : List V} {as : List α} (h : DtAll K H vs as) : DtAll K H' vs as := DpAll.same s h
end data
section comps
variable {K : PySem.W.Frag} {σ : L2.St} {H1 : Hp} {Q : VK} {g : TG} {tt : TT} {te : TE} {vs : List Nat}
def lcQ (g : TG) (tt : TT) (te : TE) (vs : List Nat) (σ : L2.St) (J : It) (H1 : Hp) (Q : VK) : Prop := ∀ D, H1 D = none → ∃ W : Nat → Nat → Hp → Prop, (∃ m, W 0 m (upd H1 D (.lst []))) ∧ ∀ i m H, W i m H →
  (J.stop i H ∧ Q (.ref D) H) ∨ (J.go i H ∧ ∃ Nx : Hp → Prop, (∀ H', Nx H' → ∃ m', m' < m ∧ W (i + 1) m' H') ∧ ∀ x H', J.yld i H x H' → g x (wipe σ vs) H' fun σ2 H2 => wipe σ2 vs = wipe σ vs ∧ tt σ2 H2 fun b H3 =>
    if b = true then te σ2 H3 fun y H4 => ∃ acc, H4 D = some (.lst acc) ∧ acc.length < sizeLine ∧ Nx (upd H4 D (.lst (acc ++ [y]))) else Nx H3)
theorem w_lc {wi : TI} (h : wi σ H1 fun J H2 => lcQ g tt te vs σ J H2 Q) : tLc wi g tt te vs σ H1 Q := h
theorem w_yes {QB : Bool → Hp → Prop} (h : QB true H1) : tYes σ H1 QB := h
/-- what a turn of a comprehension wants: the new item, put behind the list at D -/
def putQ (D : Addr) (N : Hp → Prop) (y : V) (H4 : Hp) : Prop := ∃ acc, H4 D = some (.lst acc) ∧ acc.length < sizeLine ∧ N (upd H4 D (.lst (acc ++ [y])))
/-- a comprehension over anything that yields by its place, P the heap between the turns -/
theorem l_any {J : It} {n : Nat} {item : Nat → V → Prop} (P : Addr → Nat → Hp → Prop) (h0 : ∀ D, H1 D = none → P D 0 (upd H1 D (.lst [])))
    (hgo : ∀ D i H, H1 D = none → i < n → P D i H → J.go i H ∧ ∀ x H', J.yld i H x H' → H' = H ∧ item i x) (hst : ∀ D H, H1 D = none → P D n H → J.stop n H)
    (hs : ∀ D i x H, H1 D = none → i < n → item i x → P D i H → g x (wipe σ vs) H fun σ2 H2 => wipe σ2 vs = wipe σ vs ∧ tt σ2 H2 fun b H3 => if b = true then te σ2 H3 (putQ D (P D (i + 1))) else P D (i + 1) H3)
    (hd : ∀ D H, H1 D = none → P D n H → Q (.ref D) H) : lcQ g tt te vs σ J H1 Q := by
  intro D hD
  refine ⟨fun i m H => m = n - i ∧ i ≤ n ∧ P D i H, ⟨n, by simp, Nat.zero_le _, h0 D hD⟩, fun i m H q => ?_⟩
  obtain ⟨rfl, hi, p⟩ := q
  rcases Nat.lt_or_ge i n with hl | hl
  · obtain ⟨a, b⟩ := hgo D i H hD hl p
    refine .inr ⟨a, P D (i + 1), fun H' p' => ⟨n - (i + 1), by omega, rfl, hl, p'⟩, fun x H' y => ?_⟩
    obtain ⟨rfl, c⟩ := b x H' y
    exact hs D i x _ hD hl c p
  · obtain rfl : i = n := Nat.le_antisymm hi hl
    exact .inl ⟨hst D H hD p, hd D H hD p⟩
end comps
section texts
/-- the text of these signs -/
def tx (l : List Nat) : Str := ⟨l.toArray⟩
theorem tx_list (l : List Nat) : (tx l).cps.toList = l := rfl
theorem tx_len (l : List Nat) : (tx l).length = l.length := by unfold tx Str.length; exact List.size_toArray
theorem tx_app (l m : List Nat) : tx l ++ tx m = tx (l ++ m) := PySem.Str.ext' (by rw [PySem.Str.cps_append]; exact Array.toList_inj.mp (by rw [Array.toList_append]; rfl))
theorem tx_inj {l m : List Nat} : tx l = tx m ↔ l = m := ⟨fun h => by have := congrArg (fun z : Str => z.cps.toList) h; exact this, fun h => by rw [h]⟩
theorem cut_tk (l : List Nat) (k : Nat) : cutS (tx l) none (some (k : Int)) = tx (l.take k) := by
  unfold cutS
  rw [tx_len, HT.sIx_nat, HT.sIx_none, List.drop_zero, Nat.sub_zero, tx_list, ← List.take_take, List.take_length]
  rfl
theorem cut_dp (l : List Nat) (k : Nat) : cutS (tx l) (some (k : Int)) none = tx (l.drop k) := by
  unfold cutS
  rw [tx_len, HT.sIx_nat, HT.sIx_none, tx_list]
  rcases Nat.le_total k l.length with h | h
  · rw [Nat.min_eq_left h, List.take_of_length_le (by rw [List.length_drop]; exact Nat.le_refl _)]; rfl
  · rw [Nat.min_eq_right h, List.drop_length, List.drop_eq_nil_of_le h, List.take_nil]; rfl
theorem fold_rep (c : Nat) : ∀ (n : Nat) (a : Array Nat), (List.replicate n #[c]).foldl (· ++ ·) a = a ++ (List.replicate n c).toArray
  | 0, a => by simp
  | n + 1, a => by
    rw [List.replicate_succ, List.foldl_cons, fold_rep c n]
    apply Array.toList_inj.mp
    simp [List.replicate_succ]
theorem mul_one (c : Nat) (n : Nat) : Txt.mul (tx [c]) (n : Int) = tx (List.replicate n c) := by
  unfold Txt.mul
  by_cases h : (n : Int) < 1
  · rw [if_pos h]; obtain rfl : n = 0 := by omega
    rfl
  · rw [if_neg h]
    by_cases h2 : ((n : Int) == 1 || (tx [c]).length == 0) = true
    · rw [if_pos h2]
      have : (n : Int) = 1 := by
        rcases Bool.or_eq_true_iff.mp h2 with h2 | h2
        · exact eq_of_beq h2
        · cases h2
      obtain rfl : n = 1 := by omega
      rfl
    · rw [if_neg h2, Int.toNat_natCast]
      exact PySem.Str.ext' (by show (List.replicate n #[c]).foldl (· ++ ·) #[] = _; rw [fold_rep]; simp [tx])
theorem mulOk_one (c : Nat) {n : Int} (h0 : 0 ≤ n) (h1 : n ≤ 100000) : MulOk (tx [c]) n := by
  have e : (tx [c]).length = 1 := rfl
  refine ⟨?_, fun h _ => ?_, fun h _ => ?_⟩
  · rw [decide_eq_false (by omega), decide_eq_false (by omega)]; rfl
  · rw [e]
    have : (1 : Int) ≤ (2 ^ 63 - 1) / n := Int.le_ediv_of_mul_le (by omega) (by omega)
    omega
  · rw [e]; unfold Builtin.Str.tooLong
    rw [decide_eq_false]
    have : (100000 : Nat) ≤ sizeLine := by decide
    omega
/-- the first place of a sign in a text, or -1 -/
def ixc (l : List Nat) (c : Nat) : Int := if c ∈ l then (l.idxOf c : Int) else -1
theorem tx_find (l : List Nat) (c : Nat) : Txt.find (tx l) (tx [c]) = ixc l c := by
  unfold Txt.find ixc
  have key : ∀ i, PySem.StrLaws.At (tx l) (tx [c]) (tx l).length i ↔ l[i]? = some c := fun i => PySem.StrLaws.subAt_one (tx l) c i
  rcases PySem.StrLaws.occ_head (tx l) (tx [c]) 1 (Nat.le_refl 1) with ⟨e, hn⟩ | ⟨i, r, e, ha, hn⟩
  · rw [e, if_neg]
    intro hm
    obtain ⟨i, hi⟩ := List.getElem?_of_mem hm
    exact hn i ((key i).mpr hi)
  · rw [e]
    have hi := (key i).mp ha
    rw [if_pos (List.mem_of_getElem? hi)]
    have hl : i < l.length := (List.getElem?_eq_some_iff.mp hi).1
    have hg : l[i] = c := (List.getElem?_eq_some_iff.mp hi).2
    have h1 : l.idxOf c < l.length := List.idxOf_lt_length_iff.mpr (List.mem_of_getElem? hi)
    have h2 : l[l.idxOf c] = c := List.getElem_idxOf h1
    have h3 : ¬ l.idxOf c < i := fun q => hn _ q ((key _).mpr (by rw [List.getElem?_eq_getElem h1, h2]))
    have h4 : ¬ i < l.idxOf c := fun q => by
      have := List.not_of_lt_findIdx (p := (· == c)) (xs := l) (i := i) q
      simp [hg] at this
    have : l.idxOf c = i := by omega
    rw [this]
theorem cnt_eq (c : Nat) : ∀ l : List Nat, PyProof.Rows.cnt c l = (l.count c : Nat)
  | [] => rfl
  | n :: l => by
    rw [PyProof.Rows.cnt_cons, cnt_eq c l, List.count_cons]
    by_cases h : n = c
    · subst h; simp; omega
    · simp [h]
theorem tx_count (l : List Nat) (c : Nat) : Txt.count (tx l) (tx [c]) = (l.count c : Nat) := (PyProof.Rows.count_is (tx l) c).trans (cnt_eq c l)
end texts
section textsteps
variable {X : Cx} {K : PySem.W.Frag} {H : Hp} {Q : VK} {l m : List Nat} {c : Nat} {n : Int}
def uFind : V → List V → Hp → VK → Prop := fun x xs H Q => match x, xs with
  | .str a, [.str b] => Q (.int (Txt.find a b)) H
  | _, _ => False
def uCount : V → List V → Hp → VK → Prop := fun x xs H Q => match x, xs with
  | .str a, [.str b] => Q (.int (Txt.count a b)) H
  | _, _ => False
theorem w_addX (s : l.length + m.length ≤ 100000) (h : Q (.str (tx (l ++ m))) H) : uAdd K (.str (tx l)) (.str (tx m)) H Q := ⟨by rw [tx_len, tx_len]; exact small9 s, by rw [tx_app]; exact h⟩
theorem w_mulX (h0 : 0 ≤ n) (h1 : n ≤ 100000) (h : Q (.str (tx (List.replicate n.toNat c))) H) : uMul (.str (tx [c])) (.int n) H Q := by
  obtain ⟨k, rfl⟩ := Int.eq_ofNat_of_zero_le h0
  exact ⟨mulOk_one c h0 h1, by rw [mul_one]; exact h⟩
theorem w_lenX (s : l.length ≤ 100000) (h : Q (.int l.length) H) : uLen K [.str (tx l)] H Q := ⟨by rw [tx_len]; exact small9 s, by rw [tx_len]; exact h⟩
theorem w_truX {QB : Bool → Hp → Prop} (s : l.length ≤ 100000) (h : QB (!decide (l.length = 0)) H) : truV K (.str (tx l)) H QB := ⟨by rw [tx_len]; exact small9 s, by rw [tx_len]; exact h⟩
theorem d_tx : decide (tx l = tx m) = decide (l = m) := decide_eq_decide.mpr tx_inj
theorem w_eqX (h : Q (.bl (decide (l = m))) H) : uEq K (.str (tx l)) (.str (tx m)) H Q := by
  rw [← d_tx] at h; exact h
theorem w_neX (h : Q (.bl (!decide (l = m))) H) : uNe K (.str (tx l)) (.str (tx m)) H Q := by
  rw [← d_tx] at h; exact h
theorem w_tkX (s : l.length ≤ 100000) (h0 : 0 ≤ n) (h : Q (.str (tx (l.take n.toNat))) H) : uSl K (.str (tx l)) none (some n) H Q := by
  obtain ⟨k, rfl⟩ := Int.eq_ofNat_of_zero_le h0
  exact .inr (.inr ⟨_, rfl, by rw [tx_len]; exact small9 s, by rw [cut_tk]; exact h⟩)
theorem w_dpX (s : l.length ≤ 100000) (h0 : 0 ≤ n) (h : Q (.str (tx (l.drop n.toNat))) H) : uSl K (.str (tx l)) (some n) none H Q := by
  obtain ⟨k, rfl⟩ := Int.eq_ofNat_of_zero_le h0
  exact .inr (.inr ⟨_, rfl, by rw [tx_len]; exact small9 s, by rw [cut_dp]; exact h⟩)
theorem w_ixX (s : l.length ≤ 100000) (h0 : 0 ≤ n ∧ n.toNat < l.length) (h : Q (.str (tx [l.getD n.toNat 0])) H) : uIx K (.str (tx l)) (.int n) H Q := by
  refine ⟨by rw [tx_len]; exact small9 s, l.getD n.toNat 0, ?_, h⟩
  have y := atI_nat (show l[n.toNat]? = some (l.getD n.toNat 0) by rw [List.getD_eq_getElem?_getD, List.getElem?_eq_getElem h0.2]; rfl)
  rw [show ((n.toNat : Nat) : Int) = n by omega] at y
  exact y
theorem w_findX (h : Q (.int (ixc l c)) H) : uFind (.str (tx l)) [.str (tx [c])] H Q := by
  rw [← tx_find] at h; exact h
theorem w_countX (h : Q (.int ((l.count c : Nat) : Int)) H) : uCount (.str (tx l)) [.str (tx [c])] H Q := by
  rw [← tx_count] at h; exact h
end textsteps
section steps4
variable {X : Cx} {K : PySem.W.Frag} {D : Ends} {σ : L2.St} {H H1 : Hp} {Q : VK} {g : TG} {tb : TS} {tt : TT} {te td ty tx : TE} {tA : TA} {p q a b : Addr} {xs ys : List V} {kvs : List (Key × V)} {x y z v : V} {i : Int} {vs : List Nat}
def enumQ (K : PySem.W.Frag) (vs : List V) (H1 : Hp) (R : It → Hp → Prop) : Prop := ∃ a xs, vs = [.ref a] ∧ SqL K H1 a xs ∧ R (Ite K a) H1
theorem w_iEnum {R : It → Hp → Prop} (h : tA σ H fun vs H1 => enumQ K vs H1 R) : iEnum K tA σ H R := h
theorem w_iEnumv {R : It → Hp → Prop} (e : SqL K H p xs) (h : R (Ite K p) H) : enumQ K [.ref p] H R := ⟨p, xs, rfl, e, h⟩
def zipQ (K : PySem.W.Frag) (vs : List V) (H1 : Hp) (R : It → Hp → Prop) : Prop := ∃ a b xs ys, vs = [.ref a, .ref b] ∧ SqL K H1 a xs ∧ SqL K H1 b ys ∧ R (Itz K a b) H1
theorem w_iZip {R : It → Hp → Prop} (h : tA σ H fun vs H1 => zipQ K vs H1 R) : iZip K tA σ H R := h
theorem w_iZipv {R : It → Hp → Prop} (e : SqL K H p xs) (e2 : SqL K H q ys) (h : R (Itz K p q) H) : zipQ K [.ref p, .ref q] H R := ⟨p, q, xs, ys, rfl, e, e2, h⟩
theorem f_keys {od : Obj} (Pv : Nat → L2.St → Hp → Prop) (h0 : Pv 0 σ H) (hl : ∀ i σ H, i ≤ kvs.length → Pv i σ H → H a = some (.frz od (.dK kvs)))
    (hs : ∀ i k v σ H, kvs[i]? = some (k, v) → Pv i σ H → g (kV k) σ H fun σ2 H2 => tb { D with nx := Pv (i + 1), ct := Pv (i + 1), bk := D.nx } σ2 H2) (hd : ∀ σ H, Pv kvs.length σ H → D.nx σ H) : forQ g tb D σ (Itk a od kvs) H :=
  f_any (n := kvs.length) (item := fun i x => ∃ k v, kvs[i]? = some (k, v) ∧ x = kV k) Pv h0 (fun i σ H h p => ⟨⟨hl i σ H (Nat.le_of_lt h) p, h⟩, fun _ _ y => y⟩) (fun σ H p => ⟨hl _ σ H (Nat.le_refl _) p, Nat.le_refl _⟩)
    (fun i x σ H _ e p => by obtain ⟨k, v, e, rfl⟩ := e; exact hs i k v σ H e p) hd
theorem l_keys {od : Obj} (P : Addr → Nat → Hp → Prop) (h0 : ∀ D, H1 D = none → P D 0 (upd H1 D (.lst []))) (hl : ∀ D i H, H1 D = none → P D i H → H a = some (.frz od (.dK kvs)))
    (hs : ∀ D i k v H, H1 D = none → kvs[i]? = some (k, v) → P D i H → g (kV k) (wipe σ vs) H fun σ2 H2 => wipe σ2 vs = wipe σ vs ∧ tt σ2 H2 fun b H3 => if b = true then te σ2 H3 (putQ D (P D (i + 1))) else P D (i + 1) H3)
    (hd : ∀ D H, H1 D = none → P D kvs.length H → Q (.ref D) H) : lcQ g tt te vs σ (Itk a od kvs) H1 Q :=
  l_any (n := kvs.length) (item := fun i x => ∃ k v, kvs[i]? = some (k, v) ∧ x = kV k) P h0 (fun D i H hD h p => ⟨⟨hl D i H hD p, h⟩, fun _ _ y => y⟩)
    (fun D H hD p => ⟨hl D _ H hD p, Nat.le_refl _⟩) (fun D i x H a _ e p => by obtain ⟨k, v, e, rfl⟩ := e; exact hs D i k v H a e p) hd
def keysQ (x : V) (H1 : Hp) (R : It → Hp → Prop) : Prop := ∃ d o, x = .ref d ∧ ((∃ kvs, H1 d = some (.frz o (.dK kvs)) ∧ R (Itk d o kvs) H1) ∨ ∃ kvs, H1 d = some (.frz o (.dT kvs)) ∧ R (Itkt d o kvs) H1)
theorem w_iKeys {R : It → Hp → Prop} (h : te σ H fun x H1 => keysQ x H1 R) : iKeys te σ H R := h
theorem w_iKeysv {od : Obj} {R : It → Hp → Prop} (e : H p = some (.frz od (.dK kvs))) (h : R (Itk p od kvs) H) : keysQ (.ref p) H R := ⟨p, od, rfl, .inl ⟨kvs, e, h⟩⟩
/-- d.get(k, e), d.get(k) -/
def get2Q (ty tx : TE) (σ : L2.St) (x : V) (H1 : Hp) (Q : VK) : Prop := ∃ a, x = .ref a ∧ IsD H1 a ∧ ty σ H1 fun y H2 => tx σ H2 fun z H3 => ∃ o, DGet H3 a y o ∧ Q (o.getD z) H3
def getQ (p : Addr) (y z : V) (H : Hp) (Q : VK) : Prop := ∃ o, DGet H p y o ∧ Q (o.getD z) H
theorem w_dget2 (h : td σ H fun x H1 => get2Q ty tx σ x H1 Q) : tDGet2 td ty tx σ H Q := h
theorem w_dget2v (e : H p = some (.dK kvs)) (h : ty σ H fun y H2 => tx σ H2 fun z H3 => getQ p y z H3 Q) : get2Q ty tx σ (.ref p) H Q := ⟨p, rfl, .inl ⟨kvs, .inl e⟩, h⟩
def get1Q (ty : TE) (σ : L2.St) (x : V) (H1 : Hp) (Q : VK) : Prop := ∃ a, x = .ref a ∧ IsD H1 a ∧ ty σ H1 fun y H2 => getQ a y .non H2 Q
theorem w_dget1 (h : td σ H fun x H1 => get1Q ty σ x H1 Q) : tDGet1 td ty σ H Q := h
theorem w_dget1v (e : H p = some (.dK kvs)) (h : ty σ H fun y H2 => getQ p y .non H2 Q) : get1Q ty σ (.ref p) H Q := ⟨p, rfl, .inl ⟨kvs, .inl e⟩, h⟩
theorem w_getI (e : H p = some (.dK kvs)) (h : Q ((valV kvs (.inl i)).getD z) H) : getQ p (.int i) z H Q := ⟨_, DGet.k (k := .inl i) e, h⟩
/-- d.pop(k) -/
def pop1Q (ty : TE) (σ : L2.St) (x : V) (H1 : Hp) (Q : VK) : Prop := ∃ a, x = .ref a ∧ IsD H1 a ∧ ty σ H1 fun y H2 => popQ1 a y H2 Q
where popQ1 (a : Addr) (y : V) (H2 : Hp) (Q : VK) : Prop := ∃ kvs k v, H2 a = some (.dK kvs) ∧ y = kV k ∧ valV kvs k = some v ∧ Q v (upd H2 a (.dK (dropK kvs k)))
theorem w_dpop1 (h : td σ H fun x H1 => pop1Q ty σ x H1 Q) : tDPop1 td ty σ H Q := h
theorem w_dpop1v (e : H p = some (.dK kvs)) (h : ty σ H fun y H2 => pop1Q.popQ1 p y H2 Q) : pop1Q ty σ (.ref p) H Q := ⟨p, rfl, .inl ⟨kvs, .inl e⟩, h⟩
theorem w_popI (e : H p = some (.dK kvs)) (l : valV kvs (.inl i) = some v) (h : Q v (upd H p (.dK (dropK kvs (.inl i))))) : pop1Q.popQ1 p (.int i) H Q := ⟨kvs, .inl i, v, e, rfl, l, h⟩
/-- del d[k] -/
def delQ (x y : V) (H2 : Hp) (N : Hp → Prop) : Prop := ∃ a kvs k, x = .ref a ∧ H2 a = some (.dK kvs) ∧ y = kV k ∧ (valV kvs k).isSome = true ∧ N (upd H2 a (.dK (dropK kvs k)))
theorem w_ddel (h : td σ H fun x H1 => ty σ H1 fun y H2 => delQ x y H2 (D.nx σ)) : sDDel td ty D σ H := h
theorem w_delI {N : Hp → Prop} (e : H p = some (.dK kvs)) (l : (valV kvs (.inl i)).isSome = true) (h : N (upd H p (.dK (dropK kvs (.inl i))))) : delQ (.ref p) (.int i) H N := ⟨p, kvs, .inl i, rfl, e, rfl, l, h⟩
/-- sorted(d), d's keys ints; sorted(xs), ints -/
def uSortD : List V → Hp → VK → Prop := fun xs H Q => ∃ (a : Addr) (kvs : List (Key × V)) (ks : List Int), xs = [.ref a] ∧ Rd H a (.dK kvs) ∧ kvs.map (·.1) = ks.map Sum.inl ∧ ks.length < 64 ∧
    ∀ (ys : List Int) (p : Addr), ys.Perm ks → ys.Pairwise (· ≤ ·) → H p = none → Q (.ref p) (upd H p (.lst (ys.map V.int)))
theorem c_sortD (hc : X.calm = true) : CallR X (.builtin "sorted") uSortD := call_sortedDI hc
theorem c_sortI : CallR X (.builtin "sorted") (rSortedI X.K) := cr_sortedI
end steps4
section hotdefs
variable {P : Program} {w : World} {K : PySem.W.Frag} {mg : Str → Option Value} {base : Heap}
structure FnX (P : Program) (w : World) (K : PySem.W.Frag) (mg : Str → Option Value) (base : Heap) (k : Nat) (f : Addr) (fd : FuncData) (ps : List Str) (sp : Addr → Value → Sp) : Prop where
  len : ∀ a c vs H Q E, sp a c vs H Q E → vs.length = ps.length
  run : ∀ (A : Around) (outer : List Env) (s : Shared) (H : Hp) (args : Args) (us : List Value) (vs : List V) (Q : VK) (E : XK) (p : Addr × Obj) (cls : Value), L2H.RoomH k A → L2H.PinOk outer H s p → Zc cls none p.2 → (∃ fs, p.2.data = .fields fs) →
    Env0 P w K mg base A outer s H → BindsTo s fd args (ps.zip us) → Vals vs us → sp p.1 cls vs H Q E → codeAny (model P w) A (.call (.ref f) args) (CR (L2.CX P w) outer P w H s Q E) s
theorem okH {x qual : Str} {st : Stmt} {f : Addr} {fd : FuncData} {N ps : List Str} {k : Nat} {sp : Addr → Value → Sp} (F : Fun K x qual st f fd) (S : FnScope N ps (defScope st)) (len : ∀ a c vs H Q E, sp a c vs H Q E → vs.length = ps.length)
    (hbody : ∀ (cdv : Value) (A : Around) (outer : List Env) (s : Shared) (H : Hp) (vs : List V) (Q : VK) (E : XK) (p : Addr × Obj) (cls : Value), Zc cls none p.2 → (∃ fs, p.2.data = .fields fs) → L2H.RoomH k (A.deeper (envOfC qual (defScope st) s.heap.objs.size f cdv)) → sp p.1 cls vs H Q E →
      ∃ t, PSs (L2H.cxH (L2.CX P w) P w K mg base N qual (defScope st) f cdv A outer s H E p) (defBody st) t ∧ t { nx := fun _ H' => Q .non H', rt := Q } (start N vs) H) : FnX P w K mg base (k + 1) f fd ps sp := by
  obtain ⟨oc, od, kV, doc, pm, an, cdv, ct, osl, rfl, lk, hcd⟩ := F.ex
  refine ⟨len, fun A outer s H args us vs Q E p cls hr hpin hz hf e0 hb r hsp => ?_⟩
  have hl := len _ _ _ _ _ _ hsp
  have KX : K.In s.heap := e0.mod.kin.keeps fun b o e => (e0.bs b o e).1
  have lim : s.heap.NoLimit := e0.mod.nolimit.keeps fun b o e => (e0.bs b o e).1
  have hkind : ∀ y ∈ ps.zip us, (defScope st).names.lookup y.1 = some .local ∨ ((defScope st).names.lookup y.1 = some .cell ∧ ((cellsFrom (s.heap.objs.size + 1) (defScope st).names []).lookup y.1).isSome = true) := fun ⟨n, v⟩ hy => by
    rcases S.par n (List.of_mem_zip hy).1 with q | q
    · exact .inl q
    · exact .inr ⟨q, PySem.W.cellsFrom_some _ _ _ (.inl q)⟩
  refine codeAny_call_function hr.depth (KX _ _ lk) rfl S.co S.gen rfl (PySem.W.codeRec_of KX hcd) (hb _ _ _ _ ?_)
  refine wpAny_newFunctionEnv_cells S.kind hkind fun env he s1 x => ?_
  subst he
  refine ⟨lim.keeps x.toInCall.keep, codeAny_func ?_⟩
  obtain ⟨t, ht, hq⟩ := hbody cdv A outer s H vs Q E p cls hz hf (hr.deeper _) hsp
  have I : Inv (L2H.cxH (L2.CX P w) P w K mg base N qual (defScope st) f cdv A outer s H E p) [] (L2.start N vs) H s1 := L2H.inv_startH S hpin e0 hl r x
  refine wpAny_mono (ht.run [] s1 (L2.start N vs) H _ I hq) (fun fl s' hs => ?_) fun e s' hs => hs
  have fin : ∀ {σ' : L2.St} {H' : Hp} {v : V} {u : Value}, Inv (L2H.cxH (L2.CX P w) P w K mg base N qual (defScope st) f cdv A outer s H E p) [] σ' H' s' → RelV v u → Q v H' → CE outer P w H s Q u s' :=
    fun {σ' H' v u} J rv q => ⟨v, H', J.os, J.bare, J.base, J.hok, rv, q⟩
  cases fl with
  | ret u =>
    obtain ⟨v, σ', H', J, rv, q⟩ := hs
    exact fin J rv q
  | next =>
    obtain ⟨σ', H', J, q⟩ := hs
    exact fin (v := V.non) (u := Value.none) J rfl q
  | brk =>
    obtain ⟨_, _, _, q⟩ := hs
    exact False.elim q
  | cont =>
    obtain ⟨_, _, _, q⟩ := hs
    exact False.elim q
variable {X : Cx}
theorem c_isP {a : Addr} {oe : Obj} {cls : Value} {d : Option Addr} (hp : (a, oe) ∈ X.pn) (hz : Zc cls d oe) (hf : ∃ fs, oe.data = .fields fs) : CallR X (.builtin "isinstance") (uIsE X.K a cls d) := by
  intro pins s σ H xs us Q I r h
  obtain ⟨D, C, b, rfl, rfl, x, rfl, e, q⟩ := h
  cases r with
  | cons rx rr =>
    cases rr with
    | cons rt rr =>
      cases rr
      cases rx
      cases rt
      obtain ⟨hget, _⟩ := I.pin (a, oe) (List.mem_append.mpr (.inl hp))
      obtain ⟨vs, hv⟩ := hf
      have J : PySem.W.InstAt s.heap a oe D none := by
        obtain ⟨oc, od, oda, osl⟩ := oe
        obtain ⟨h1, h2⟩ := hz
        dsimp only at h1 h2 hv
        subst h1 h2 hv
        exact ⟨hget, rfl, rfl, trivial⟩
      exact PySem.W.kia_one (PySem.W.handS_kitx_exc x.hg x.hk x.hs x.hd x.ha x.hn x.ht x.hm) I.kIn J e (fun z => nomatch z) fun tk => ⟨.bl b, H, I.kept (t' := tk) fun _ _ z => z, rfl, q⟩
def uCallX (a : Addr) (cls : Value) (d : Option Addr) (sp : Addr → Value → Sp) (t : TA) : TE := fun σ H Q => d = none ∧ t σ H fun vs H1 => sp a cls vs H1 Q fun _ _ _ => False
theorem w_callX {a : Addr} {cls : Value} {sp : Addr → Value → Sp} {t : TA} {σ : L2.St} {H : Hp} {Q : VK} (h : t σ H fun vs H1 => sp a cls vs H1 Q fun _ _ _ => False) : uCallX a cls none sp t σ H Q := ⟨rfl, h⟩
theorem e_callX {k : Nat} {f a : Addr} {oe : Obj} {cls : Value} {d : Option Addr} {fd : FuncData} {ps : List Str} {sp : Addr → Value → Sp} {x : Str} {q pos : Pos} {e : Expr} {es : List Expr} {t : TA} (F : FnX X.prog X.w X.K X.mg X.base k f fd ps sp) (hr : L2H.RoomH k X.A)
    (hp : (a, oe) ∈ X.pn) (hz : Zc cls d oe) (hf : ∃ fs, oe.data = .fields fs) (hm : X.mg x = some (.ref f)) (hk : PySem.W.keepIn X.K (.ref f) = true) (hb : Binds X.K fd ps []) (ha : PA X (e :: es) t) (hg : Gl X x := by rfl) (hdb : (x == ("__debug__" : Str)) = false := by decide)
    (he : starEach (e :: es) X.env = (false, eval e X.env) :: starEach es X.env := by rfl) (hpl : (backTo pos (starEach es X.env)).any (·.1) = false := by rfl) : PE X (.Call (.Name x q) (e :: es) [] pos) (uCallX a cls d sp t) := by
  refine ⟨fun pins s σ H Q I h => ?_⟩
  obtain ⟨rfl, h⟩ := h
  refine wpAny_Call_Name_kw (ld_glob I hg hm ?_ hdb)
  refine PySem.W.callWith_K (h₀ := X.base) I.ok.mod.kin hk (thn (ha.run pos pins s σ H _ I h) fun us s1 ⟨vs, H1, I1, r, q⟩ => ⟨I1.kIn, ?_⟩) he hpl
  have hl : us.length = ps.length := by rw [← r.length]; exact F.len _ _ _ _ _ _ q
  have b := hb s1 us I1.kIn (by rw [List.append_nil]; exact hl)
  rw [List.append_nil] at b
  have P1 := I1.pin (a, oe) (List.mem_append_left _ hp)
  have hpin : L2H.PinOk X.stack H1 s1 (a, oe) := ⟨P1.1, P1.2.1, fun hm => (List.mem_cons.mp (I1.stkSub a hm)).elim P1.2.2.1 P1.2.2.2.1, P1.2.2.2.2⟩
  refine wpAny_call (codeAny_mono (F.run X.A X.stack s1 H1 ⟨us, []⟩ us vs Q _ (a, oe) cls hr hpin hz hf I1.env0 b r q) fun r s' hq => ?_)
  cases r with
  | error e =>
    obtain ⟨_, _, _, _, _, _, _, _, _, _, _, _, z⟩ := hq
    exact z.elim
  | ok fl =>
    cases fl with
    | ret u => exact I1.after hq
    | next => exact False.elim hq
    | brk => exact False.elim hq
    | cont => exact False.elim hq
end hotdefs
section steps5
variable {K : PySem.W.Frag} {H : Hp} {Q : VK} {s t : Str} {A B : Prop}
theorem ifSF (h : decide (s = t) = false) (k : B) : if decide (s = t) = true then A else B := by rw [h]; exact iteF k
theorem ifST (h : decide (s = t) = true) (k : A) : if decide (s = t) = true then A else B := by rw [h]; exact iteT k
theorem ifSNF (h : decide (s = t) = true) (k : B) : if (!decide (s = t)) = true then A else B := by rw [h]; exact iteF k
theorem ifSNT (h : decide (s = t) = false) (k : A) : if (!decide (s = t)) = true then A else B := by rw [h]; exact iteT k
theorem w_neNN (h : Q (.bl false) H) : uNe K .non .non H Q := .inl ⟨rfl, h⟩
theorem w_eqNN (h : Q (.bl true) H) : uEq K .non .non H Q := .inl ⟨rfl, h⟩
end steps5
section steps6
variable {K : PySem.W.Frag} {H : Hp} {Q : VK} {p : Addr} {n : Int}
theorem w_ixBl {bs : List Bool} (e : SqL K H p (bs.map V.bl)) (h0 : 0 ≤ n ∧ n.toNat < bs.length) (h : Q (.bl (bs.getD n.toNat false)) H) : uIx K (.ref p) (.int n) H Q :=
  ⟨_, .bl (bs.getD n.toNat false), .inl e, by
    have z : (bs.map V.bl)[n.toNat]? = some (.bl (bs.getD n.toNat false)) := by rw [List.getElem?_map, List.getElem?_eq_getElem h0.2, List.getD_eq_getElem?_getD, List.getElem?_eq_getElem h0.2]; rfl
    have y := atI_nat z
    rw [show ((n.toNat : Nat) : Int) = n by omega] at y
    exact y, h⟩
def augSQ (ti te : TE) (g : V → V → Hp → VK → Prop) (op : TIp) (ts : TSet) (D : Ends) (σ : L2.St) (x : V) (H1 : Hp) : Prop := ti σ H1 fun i H2 => g x i H2 fun v H3 => te σ H3 fun y H4 => op v y H4 fun z H5 => ts x i z H5 fun H6 => D.nx σ H6
theorem w_getI2 {ns : List Int} (e : SqL K H p (ns.map V.int)) (h0 : 0 ≤ n ∧ n.toNat < ns.length) (h : Q (.int (ns.getD n.toNat 0)) H) : uGet K (.ref p) (.int n) H Q :=
  .inl ⟨h0.1, _, .int (ns.getD n.toNat 0), e, by rw [List.getElem?_map, List.getElem?_eq_getElem h0.2, List.getD_eq_getElem?_getD, List.getElem?_eq_getElem h0.2]; rfl, h⟩
theorem w_augS {D : Ends} {σ : L2.St} {to ti te : TE} {g : V → V → Hp → VK → Prop} {op : TIp} {ts : TSet} (h : to σ H fun o H1 => augSQ ti te g op ts D σ o H1) : tAugS to ti te g op ts D σ H := h
theorem w_augSQ {D : Ends} {σ : L2.St} {ti te : TE} {g : V → V → Hp → VK → Prop} {op : TIp} {ts : TSet} {x : V} (h : ti σ H fun i H2 => g x i H2 fun v H3 => te σ H3 fun y H4 => op v y H4 fun z H5 => ts x i z H5 fun H6 => D.nx σ H6) : augSQ ti te g op ts D σ x H := h
end steps6
end U
namespace Lam
open PySem PySem.Spec L2 U
local macro_rules | `(tactic| walk_at "te") => `(tactic| fail "no fact")
local macro_rules | `(tactic| walk_at "kt") => `(tactic| fail "no fact")
local macro_rules | `(tactic| walk_at "xc") => `(tactic| fail "no fact")
local macro_rules | `(tactic| walk_at "x") => `(tactic| fail "no step")
local macro_rules | `(tactic| walk_at "hk") => `(tactic| first
  | assumption | exact upd_same | exact SqL.of upd_same | exact SqT.of upd_same
  | (apply sql_old; (· walk_at "hk"); (· assumption)) | (apply upd_old; (· walk_at "hk"); (· assumption)) | (apply sqt_old; (· walk_at "hk"); (· assumption))
  | exact L2.Same.seq (by assumption) (by assumption) | exact U.Same.sqt (by assumption) (by assumption) | exact (by assumption : L2.Same _ _) _ _ (by assumption)
  | (apply SqL.of; walk_at "hk") | (apply SqT.of; walk_at "hk"))
local macro_rules | `(tactic| walk_at "nn") => `(tactic| first | assumption | exact L2.Same.free (by assumption) (by assumption) | exact (none_of_upd (by assumption)).1)
local macro_rules | `(tactic| walk_at "sm") => `(tactic| first | assumption | exact L2.Same.refl _ | (apply same_updN; (· walk_at "sm"); (· assumption)) | (apply same_upd; (· walk_at "sm"); (· walk_at "nn")) | exact L2.Same.trans (by assumption) (by assumption))
local macro_rules | `(tactic| walk_at "s") => `(tactic| first
    | with_reducible refine w_seq ?_
    | with_reducible refine w_op ?_
    | with_reducible refine w_asg ?_
    | with_reducible refine w_name ?_
    | with_reducible refine w_c ?_
    | with_reducible refine w_if ?_
    | with_reducible refine w_test ?_
    | with_reducible refine w_blP ?_
    | with_reducible refine w_cons ?_
    | with_reducible refine w_nil ?_
    | with_reducible refine w_ret ?_
    | with_reducible refine w_call ?_
    | ((with_reducible refine' w_var ?e ?_); (case e => rfl))
    | ((with_reducible refine ifST ?h ?_); (case h => decide +kernel))
    | ((with_reducible refine ifSF ?h ?_); (case h => decide +kernel))
    | ((with_reducible refine ifSNT ?h ?_); (case h => decide +kernel))
    | ((with_reducible refine ifSNF ?h ?_); (case h => decide +kernel))
    | with_reducible refine iteT ?_
    | with_reducible refine iteF ?_
    | with_reducible refine ifNT ?_
    | with_reducible refine ifNF ?_
    | (((with_reducible show @ite Prop (_ = true) _ _ _); refine @ifP _ _ _ _ ?_ ?_) <;> intro h <;> first | (with_reducible exact absurd rfl h) | skip)
    | (((with_reducible show @ite Prop (_ = true) _ _ _); refine @ifN _ _ _ _ ?_ ?_) <;> intro h <;> first | (with_reducible exact absurd rfl h) | skip)
    | with_reducible refine w_eqX ?_
    | with_reducible refine w_neX ?_
    | with_reducible refine w_add ?_
    | with_reducible refine w_sub ?_
    | with_reducible refine w_eqI ?_
    | with_reducible refine w_neI ?_
    | with_reducible refine w_lt ?_
    | with_reducible refine w_le ?_
    | with_reducible refine w_gt ?_
    | with_reducible refine w_ge ?_
    | with_reducible refine w_eqS ?_
    | with_reducible refine w_eqB ?_
    | with_reducible refine w_neS ?_
    | with_reducible refine w_neB ?_
    | with_reducible refine w_cb ?_
    | with_reducible refine w_tup ?_
    | with_reducible refine w_lst ?_
    | with_reducible refine w_next ?_
    | with_reducible refine w_drop ?_
    | with_reducible refine w_not ?_
    | with_reducible refine w_tru ?_
    | with_reducible refine w_and ?_
    | with_reducible refine w_or ?_
    | with_reducible refine w_andV ?_
    | with_reducible refine w_orV ?_
    | with_reducible refine w_notV ?_
    | with_reducible refine w_ifE ?_
    | with_reducible refine w_chain ?_
    | with_reducible refine w_retN ?_
    | with_reducible refine w_bm ?_
    | with_reducible refine w_raise ?_
    | with_reducible refine w_fld ?_
    | with_reducible refine w_meth ?_
    | with_reducible refine w_setf ?_
    | with_reducible refine w_for ?_
    | with_reducible refine w_rng1 ?_
    | with_reducible refine w_rng2 ?_
    | with_reducible refine w_iList ?_
    | with_reducible refine w_iTup ?_
    | with_reducible refine w_iStr ?_
    | with_reducible refine w_iRev ?_
    | with_reducible refine w_brk ?_
    | with_reducible refine w_cont ?_
    | with_reducible refine w_un ?_
    | with_reducible refine w_lc ?_
    | with_reducible refine w_yes ?_
    | with_reducible refine w_gsub ?_
    | with_reducible refine w_sl ?_
    | with_reducible refine w_part ?_
    | with_reducible refine w_noPart ?_
    | with_reducible refine w_wh ?_
    | with_reducible refine w_tryAs ?_
    | with_reducible refine w_try ?_
    | with_reducible refine w_make ?_
    | with_reducible refine w_dget ?_
    | with_reducible refine w_dput ?_
    | with_reducible refine w_gcons ?_
    | with_reducible refine w_gnil ?_
    | with_reducible refine w_augf ?_
    | with_reducible refine w_iEnum ?_
    | with_reducible refine w_iZip ?_
    | with_reducible refine w_iKeys ?_
    | with_reducible refine w_dget2 ?_
    | with_reducible refine w_dget1 ?_
    | with_reducible refine w_dpop1 ?_
    | with_reducible refine w_ddel ?_
    | with_reducible refine w_callX ?_
    | with_reducible refine w_augS ?_
    | with_reducible refine w_augSQ ?_
    | ((with_reducible refine' w_aug ?e ?_); (case e => rfl))
    | ((with_reducible refine w_mul ?s ?_); (case s => first | exact Or.inr ⟨by omega, by omega⟩ | exact Or.inl ⟨by omega, by omega⟩))
    | ((with_reducible refine w_div ?s ?_); (case s => omega))
    | ((with_reducible refine w_mod ?s ?_); (case s => first | omega | decide))
    | ((with_reducible refine w_pow ?s ?_); (case s => first | exact ⟨by decide, by decide, by decide⟩ | exact ⟨by decide, by decide, by omega⟩))
    | ((with_reducible refine w_newL ?s ?_); (case s => (first | exact (by decide) | (simp only [List.length_cons, List.length_nil]; omega))); intro _ _)
    | ((with_reducible refine w_newT ?s ?_); (case s => (first | exact (by decide) | (simp only [List.length_cons, List.length_nil]; omega))); intro _ _)
    | with_reducible refine w_eqX ?_
    | with_reducible refine w_neX ?_
    | with_reducible refine w_findX ?_
    | with_reducible refine w_countX ?_
    | ((with_reducible refine w_lenX ?s ?_); (case s => (first | omega | (simp only [List.length_append, List.length_cons, List.length_nil, List.length_take, List.length_drop, List.length_replicate, List.length_map, List.length_range] at *; omega) | (simp only [List.length_append, List.length_cons, List.length_nil, List.length_take, List.length_drop, List.length_replicate, List.length_map, List.length_range]; omega) | decide)))
    | ((with_reducible refine w_truX ?s ?_); (case s => (first | omega | (simp only [List.length_append, List.length_cons, List.length_nil, List.length_take, List.length_drop, List.length_replicate, List.length_map, List.length_range] at *; omega) | (simp only [List.length_append, List.length_cons, List.length_nil, List.length_take, List.length_drop, List.length_replicate, List.length_map, List.length_range]; omega) | decide)))
    | ((with_reducible refine w_addX ?s ?_); (case s => (first | omega | (simp only [List.length_append, List.length_cons, List.length_nil, List.length_take, List.length_drop, List.length_replicate, List.length_map, List.length_range] at *; omega) | (simp only [List.length_append, List.length_cons, List.length_nil, List.length_take, List.length_drop, List.length_replicate, List.length_map, List.length_range]; omega) | decide)))
    | ((with_reducible refine w_mulX ?h0 ?h1 ?_); (case h0 => (first | omega | (simp only [List.length_append, List.length_cons, List.length_nil, List.length_take, List.length_drop, List.length_replicate, List.length_map, List.length_range] at *; omega) | (simp only [List.length_append, List.length_cons, List.length_nil, List.length_take, List.length_drop, List.length_replicate, List.length_map, List.length_range]; omega) | decide)); (case h1 => (first | omega | (simp only [List.length_append, List.length_cons, List.length_nil, List.length_take, List.length_drop, List.length_replicate, List.length_map, List.length_range] at *; omega) | (simp only [List.length_append, List.length_cons, List.length_nil, List.length_take, List.length_drop, List.length_replicate, List.length_map, List.length_range]; omega) | decide)))
    | ((with_reducible refine w_tkX ?s ?h0 ?_); (case s => (first | omega | (simp only [List.length_append, List.length_cons, List.length_nil, List.length_take, List.length_drop, List.length_replicate, List.length_map, List.length_range] at *; omega) | (simp only [List.length_append, List.length_cons, List.length_nil, List.length_take, List.length_drop, List.length_replicate, List.length_map, List.length_range]; omega) | decide)); (case h0 => (first | omega | (simp only [List.length_append, List.length_cons, List.length_nil, List.length_take, List.length_drop, List.length_replicate, List.length_map, List.length_range] at *; omega) | (simp only [List.length_append, List.length_cons, List.length_nil, List.length_take, List.length_drop, List.length_replicate, List.length_map, List.length_range]; omega) | decide)))
    | ((with_reducible refine w_dpX ?s ?h0 ?_); (case s => (first | omega | (simp only [List.length_append, List.length_cons, List.length_nil, List.length_take, List.length_drop, List.length_replicate, List.length_map, List.length_range] at *; omega) | (simp only [List.length_append, List.length_cons, List.length_nil, List.length_take, List.length_drop, List.length_replicate, List.length_map, List.length_range]; omega) | decide)); (case h0 => (first | omega | (simp only [List.length_append, List.length_cons, List.length_nil, List.length_take, List.length_drop, List.length_replicate, List.length_map, List.length_range] at *; omega) | (simp only [List.length_append, List.length_cons, List.length_nil, List.length_take, List.length_drop, List.length_replicate, List.length_map, List.length_range]; omega) | decide)))
    | ((with_reducible refine w_ixX ?s ?h0 ?_); (case s => (first | omega | (simp only [List.length_append, List.length_cons, List.length_nil, List.length_take, List.length_drop, List.length_replicate, List.length_map, List.length_range] at *; omega) | (simp only [List.length_append, List.length_cons, List.length_nil, List.length_take, List.length_drop, List.length_replicate, List.length_map, List.length_range]; omega) | decide)); (case h0 => (first | omega | (simp only [List.length_append, List.length_cons, List.length_nil, List.length_take, List.length_drop, List.length_replicate, List.length_map, List.length_range] at *; omega) | (simp only [List.length_append, List.length_cons, List.length_nil, List.length_take, List.length_drop, List.length_replicate, List.length_map, List.length_range]; omega) | decide)))
    | with_reducible refine w_max ?_
    | with_reducible refine w_min ?_
    | with_reducible refine w_eqNI ?_
    | with_reducible refine w_neNI ?_
    | with_reducible refine w_eqIN ?_
    | with_reducible refine w_neIN ?_
    | with_reducible refine w_neNN ?_
    | with_reducible refine w_eqNN ?_
    | with_reducible refine w_abs ?_
    | with_reducible refine w_intI ?_
    | with_reducible refine w_intB ?_
    | with_reducible refine w_ipI ?_
    | with_reducible refine w_bmS ?_
    | with_reducible refine w_iStrv ?_
    | with_reducible refine w_neg ?_
    | with_reducible refine w_partI ?_
    | with_reducible refine w_truB ?_
    | with_reducible refine w_truN ?_
    | with_reducible refine w_truI ?_
    | with_reducible refine w_isi_int_int ?_
    | with_reducible refine w_isi_int_bl ?_
    | with_reducible refine w_isi_int_str ?_
    | with_reducible refine w_isi_int_non ?_
    | with_reducible refine w_isi_bool_int ?_
    | with_reducible refine w_isi_bool_bl ?_
    | with_reducible refine w_isi_bool_str ?_
    | with_reducible refine w_isi_bool_non ?_
    | with_reducible refine w_isi_str_int ?_
    | with_reducible refine w_isi_str_bl ?_
    | with_reducible refine w_isi_str_str ?_
    | with_reducible refine w_isi_str_non ?_
    | with_reducible refine w_isi_list_int ?_
    | with_reducible refine w_isi_list_bl ?_
    | with_reducible refine w_isi_list_str ?_
    | with_reducible refine w_isi_list_non ?_
    | with_reducible refine w_isi_tuple_int ?_
    | with_reducible refine w_isi_tuple_bl ?_
    | with_reducible refine w_isi_tuple_str ?_
    | with_reducible refine w_isi_tuple_non ?_
    | with_reducible refine w_is_int ?_
    | with_reducible refine w_isnt_int ?_
    | with_reducible refine w_is_bl ?_
    | with_reducible refine w_isnt_bl ?_
    | with_reducible refine w_is_str ?_
    | with_reducible refine w_isnt_str ?_
    | with_reducible refine w_is_non ?_
    | with_reducible refine w_isnt_non ?_
    | with_reducible refine w_is_ref ?_
    | with_reducible refine w_isnt_ref ?_
    | ((with_reducible refine w_asT ?e ?_); (case e => walk_at "te"); intro _ _)
    | ((with_reducible refine w_onT ?e ?_); (case e => walk_at "te"); intro _ _)
    | ((with_reducible refine w_asF ?e ?_); (case e => walk_at "te"))
    | ((with_reducible refine w_onF ?e ?_); (case e => walk_at "te"))
    | ((with_reducible apply w_isE); (· walk_at "xc"); (· walk_at "kt"))
    | ((with_reducible apply w_lenL); (· walk_at "hk"))
    | ((with_reducible apply w_lenT); (· walk_at "hk"))
    | ((with_reducible apply w_bmL); (· walk_at "hk"))
    | ((with_reducible refine w_rng1v ?h1 ?h2 ?_); (case h1 => (first | omega | (simp only [List.length_map] at *; omega))); (case h2 => (first | omega | (simp only [List.length_map] at *; omega))))
    | ((with_reducible refine w_rng2v ?h1 ?_); (case h1 => (first | omega | (simp only [List.length_map] at *; omega))))
    | ((with_reducible apply w_ixI); (· walk_at "hk"); (· (first | omega | (simp only [List.length_map] at *; omega))))
    | ((with_reducible apply w_ixTI); (· walk_at "hk"); (· (first | omega | (simp only [List.length_map] at *; omega))))
    | ((with_reducible apply w_ixBl); (· walk_at "hk"); (· (first | omega | (simp only [List.length_map] at *; omega))))
    | ((with_reducible apply w_getI2); (· walk_at "hk"); (· (first | omega | (simp only [List.length_map] at *; omega))))
    | ((with_reducible apply w_ixTl); (· walk_at "hk"); (· rfl); (· decide))
    | ((with_reducible apply w_ixLl); (· walk_at "hk"); (· rfl); (· decide))
    | ((with_reducible apply w_appI); (· walk_at "hk"); (· (first | omega | (simp only [List.length_append, List.length_cons, List.length_nil]; omega))))
    | ((with_reducible apply w_iListv); (· walk_at "hk"))
    | ((with_reducible apply w_iTupv); (· walk_at "hk"))
    | ((with_reducible apply w_iRevv); (· walk_at "hk"))
    | ((with_reducible apply w_iEnumv); (· walk_at "hk"))
    | ((with_reducible apply w_iZipv); (· walk_at "hk"); (· walk_at "hk"))
    | ((with_reducible apply w_dget2v); (· walk_at "hk"))
    | ((with_reducible apply w_dget1v); (· walk_at "hk"))
    | ((with_reducible apply w_dpop1v); (· walk_at "hk"))
    | ((with_reducible apply w_getI); (· walk_at "hk"))
    | ((with_reducible apply w_inD); (· walk_at "hk"))
    | ((with_reducible apply w_ninD); (· walk_at "hk"))
    | ((with_reducible apply w_rep1); (· walk_at "hk"); (· (first | omega | (simp only [List.length_append, List.length_cons, List.length_nil, List.length_take, List.length_drop, List.length_replicate, List.length_map, List.length_range] at *; omega) | (simp only [List.length_append, List.length_cons, List.length_nil, List.length_take, List.length_drop, List.length_replicate, List.length_map, List.length_range]; omega) | decide)); (· (first | omega | (simp only [List.length_append, List.length_cons, List.length_nil, List.length_take, List.length_drop, List.length_replicate, List.length_map, List.length_range] at *; omega) | (simp only [List.length_append, List.length_cons, List.length_nil, List.length_take, List.length_drop, List.length_replicate, List.length_map, List.length_range]; omega) | decide)); intro _ _)
    | ((with_reducible apply w_gtup2); (· walk_at "hk"))
    | ((with_reducible apply w_gtup3); (· walk_at "hk"))
    | ((with_reducible apply w_gtup4); (· walk_at "hk"))
    | ((with_reducible refine w_newD ?_); intro _ _)
    | ((with_reducible apply w_augsub); (· walk_at "hk"); (· rfl); (· exact Nat.le_of_ble_eq_true rfl))
    | ((with_reducible apply w_augadd); (· walk_at "hk"); (· rfl); (· exact Nat.le_of_ble_eq_true rfl))
    | ((with_reducible apply w_fldv); (· walk_at "hk"); (· rfl))
    | ((with_reducible apply w_methv); (· walk_at "hk"); (· rfl))
    | ((with_reducible apply w_setfv); (· walk_at "hk"); (· exact Nat.le_of_ble_eq_true rfl); (· rfl))
    | walk_at "x")
local macro_rules | `(tactic| walk_at "run1") => `(tactic| repeat (first
    | with_reducible refine w_seq ?_
    | with_reducible refine w_op ?_
    | with_reducible refine w_asg ?_
    | with_reducible refine w_name ?_
    | with_reducible refine w_c ?_
    | with_reducible refine w_if ?_
    | with_reducible refine w_test ?_
    | with_reducible refine w_blP ?_
    | with_reducible refine w_cons ?_
    | with_reducible refine w_nil ?_
    | with_reducible refine w_ret ?_
    | with_reducible refine w_call ?_
    | ((with_reducible refine' w_var ?e ?_); (case e => rfl))
    | ((with_reducible refine ifST ?h ?_); (case h => decide +kernel))
    | ((with_reducible refine ifSF ?h ?_); (case h => decide +kernel))
    | ((with_reducible refine ifSNT ?h ?_); (case h => decide +kernel))
    | ((with_reducible refine ifSNF ?h ?_); (case h => decide +kernel))
    | with_reducible refine iteT ?_
    | with_reducible refine iteF ?_
    | with_reducible refine ifNT ?_
    | with_reducible refine ifNF ?_
    | (((with_reducible show @ite Prop (_ = true) _ _ _); refine @ifP _ _ _ _ ?_ ?_) <;> intro h <;> first | (with_reducible exact absurd rfl h) | skip)
    | (((with_reducible show @ite Prop (_ = true) _ _ _); refine @ifN _ _ _ _ ?_ ?_) <;> intro h <;> first | (with_reducible exact absurd rfl h) | skip)
    | with_reducible refine w_eqX ?_
    | with_reducible refine w_neX ?_
    | with_reducible refine w_add ?_
    | with_reducible refine w_sub ?_
    | with_reducible refine w_eqI ?_
    | with_reducible refine w_neI ?_
    | with_reducible refine w_lt ?_
    | with_reducible refine w_le ?_
    | with_reducible refine w_gt ?_
    | with_reducible refine w_ge ?_
    | with_reducible refine w_eqS ?_
    | with_reducible refine w_eqB ?_
    | with_reducible refine w_neS ?_
    | with_reducible refine w_neB ?_
    | with_reducible refine w_cb ?_
    | with_reducible refine w_tup ?_
    | with_reducible refine w_lst ?_
    | with_reducible refine w_next ?_
    | with_reducible refine w_drop ?_
    | with_reducible refine w_not ?_
    | with_reducible refine w_tru ?_
    | with_reducible refine w_and ?_
    | with_reducible refine w_or ?_
    | with_reducible refine w_andV ?_
    | with_reducible refine w_orV ?_
    | with_reducible refine w_notV ?_
    | with_reducible refine w_ifE ?_
    | with_reducible refine w_chain ?_
    | with_reducible refine w_retN ?_
    | with_reducible refine w_bm ?_
    | with_reducible refine w_raise ?_
    | with_reducible refine w_fld ?_
    | with_reducible refine w_meth ?_
    | with_reducible refine w_setf ?_
    | with_reducible refine w_for ?_
    | with_reducible refine w_rng1 ?_
    | with_reducible refine w_rng2 ?_
    | with_reducible refine w_iList ?_
    | with_reducible refine w_iTup ?_
    | with_reducible refine w_iStr ?_
    | with_reducible refine w_iRev ?_
    | with_reducible refine w_brk ?_
    | with_reducible refine w_cont ?_
    | with_reducible refine w_un ?_
    | with_reducible refine w_lc ?_
    | with_reducible refine w_yes ?_
    | with_reducible refine w_gsub ?_
    | with_reducible refine w_sl ?_
    | with_reducible refine w_part ?_
    | with_reducible refine w_noPart ?_
    | with_reducible refine w_wh ?_
    | with_reducible refine w_tryAs ?_
    | with_reducible refine w_try ?_
    | with_reducible refine w_make ?_
    | with_reducible refine w_dget ?_
    | with_reducible refine w_dput ?_
    | with_reducible refine w_gcons ?_
    | with_reducible refine w_gnil ?_
    | with_reducible refine w_augf ?_
    | with_reducible refine w_iEnum ?_
    | with_reducible refine w_iZip ?_
    | with_reducible refine w_iKeys ?_
    | with_reducible refine w_dget2 ?_
    | with_reducible refine w_dget1 ?_
    | with_reducible refine w_dpop1 ?_
    | with_reducible refine w_ddel ?_
    | with_reducible refine w_callX ?_
    | with_reducible refine w_augS ?_
    | with_reducible refine w_augSQ ?_
    | ((with_reducible refine' w_aug ?e ?_); (case e => rfl))
    | ((with_reducible refine w_mul ?s ?_); (case s => first | exact Or.inr ⟨by omega, by omega⟩ | exact Or.inl ⟨by omega, by omega⟩))
    | ((with_reducible refine w_div ?s ?_); (case s => omega))
    | ((with_reducible refine w_mod ?s ?_); (case s => first | omega | decide))
    | ((with_reducible refine w_pow ?s ?_); (case s => first | exact ⟨by decide, by decide, by decide⟩ | exact ⟨by decide, by decide, by omega⟩))
    | ((with_reducible refine w_newL ?s ?_); (case s => (first | exact (by decide) | (simp only [List.length_cons, List.length_nil]; omega))); intro _ _)
    | ((with_reducible refine w_newT ?s ?_); (case s => (first | exact (by decide) | (simp only [List.length_cons, List.length_nil]; omega))); intro _ _)
    | with_reducible refine w_eqX ?_
    | with_reducible refine w_neX ?_
    | with_reducible refine w_findX ?_
    | with_reducible refine w_countX ?_
    | ((with_reducible refine w_lenX ?s ?_); (case s => (first | omega | (simp only [List.length_append, List.length_cons, List.length_nil, List.length_take, List.length_drop, List.length_replicate, List.length_map, List.length_range] at *; omega) | (simp only [List.length_append, List.length_cons, List.length_nil, List.length_take, List.length_drop, List.length_replicate, List.length_map, List.length_range]; omega) | decide)))
    | ((with_reducible refine w_truX ?s ?_); (case s => (first | omega | (simp only [List.length_append, List.length_cons, List.length_nil, List.length_take, List.length_drop, List.length_replicate, List.length_map, List.length_range] at *; omega) | (simp only [List.length_append, List.length_cons, List.length_nil, List.length_take, List.length_drop, List.length_replicate, List.length_map, List.length_range]; omega) | decide)))
    | ((with_reducible refine w_addX ?s ?_); (case s => (first | omega | (simp only [List.length_append, List.length_cons, List.length_nil, List.length_take, List.length_drop, List.length_replicate, List.length_map, List.length_range] at *; omega) | (simp only [List.length_append, List.length_cons, List.length_nil, List.length_take, List.length_drop, List.length_replicate, List.length_map, List.length_range]; omega) | decide)))
    | ((with_reducible refine w_mulX ?h0 ?h1 ?_); (case h0 => (first | omega | (simp only [List.length_append, List.length_cons, List.length_nil, List.length_take, List.length_drop, List.length_replicate, List.length_map, List.length_range] at *; omega) | (simp only [List.length_append, List.length_cons, List.length_nil, List.length_take, List.length_drop, List.length_replicate, List.length_map, List.length_range]; omega) | decide)); (case h1 => (first | omega | (simp only [List.length_append, List.length_cons, List.length_nil, List.length_take, List.length_drop, List.length_replicate, List.length_map, List.length_range] at *; omega) | (simp only [List.length_append, List.length_cons, List.length_nil, List.length_take, List.length_drop, List.length_replicate, List.length_map, List.length_range]; omega) | decide)))
    | ((with_reducible refine w_tkX ?s ?h0 ?_); (case s => (first | omega | (simp only [List.length_append, List.length_cons, List.length_nil, List.length_take, List.length_drop, List.length_replicate, List.length_map, List.length_range] at *; omega) | (simp only [List.length_append, List.length_cons, List.length_nil, List.length_take, List.length_drop, List.length_replicate, List.length_map, List.length_range]; omega) | decide)); (case h0 => (first | omega | (simp only [List.length_append, List.length_cons, List.length_nil, List.length_take, List.length_drop, List.length_replicate, List.length_map, List.length_range] at *; omega) | (simp only [List.length_append, List.length_cons, List.length_nil, List.length_take, List.length_drop, List.length_replicate, List.length_map, List.length_range]; omega) | decide)))
    | ((with_reducible refine w_dpX ?s ?h0 ?_); (case s => (first | omega | (simp only [List.length_append, List.length_cons, List.length_nil, List.length_take, List.length_drop, List.length_replicate, List.length_map, List.length_range] at *; omega) | (simp only [List.length_append, List.length_cons, List.length_nil, List.length_take, List.length_drop, List.length_replicate, List.length_map, List.length_range]; omega) | decide)); (case h0 => (first | omega | (simp only [List.length_append, List.length_cons, List.length_nil, List.length_take, List.length_drop, List.length_replicate, List.length_map, List.length_range] at *; omega) | (simp only [List.length_append, List.length_cons, List.length_nil, List.length_take, List.length_drop, List.length_replicate, List.length_map, List.length_range]; omega) | decide)))
    | ((with_reducible refine w_ixX ?s ?h0 ?_); (case s => (first | omega | (simp only [List.length_append, List.length_cons, List.length_nil, List.length_take, List.length_drop, List.length_replicate, List.length_map, List.length_range] at *; omega) | (simp only [List.length_append, List.length_cons, List.length_nil, List.length_take, List.length_drop, List.length_replicate, List.length_map, List.length_range]; omega) | decide)); (case h0 => (first | omega | (simp only [List.length_append, List.length_cons, List.length_nil, List.length_take, List.length_drop, List.length_replicate, List.length_map, List.length_range] at *; omega) | (simp only [List.length_append, List.length_cons, List.length_nil, List.length_take, List.length_drop, List.length_replicate, List.length_map, List.length_range]; omega) | decide)))
    | with_reducible refine w_max ?_
    | with_reducible refine w_min ?_
    | with_reducible refine w_eqNI ?_
    | with_reducible refine w_neNI ?_
    | with_reducible refine w_eqIN ?_
    | with_reducible refine w_neIN ?_
    | with_reducible refine w_neNN ?_
    | with_reducible refine w_eqNN ?_
    | with_reducible refine w_abs ?_
    | with_reducible refine w_intI ?_
    | with_reducible refine w_intB ?_
    | with_reducible refine w_ipI ?_
    | with_reducible refine w_bmS ?_
    | with_reducible refine w_iStrv ?_
    | with_reducible refine w_neg ?_
    | with_reducible refine w_partI ?_
    | with_reducible refine w_truB ?_
    | with_reducible refine w_truN ?_
    | with_reducible refine w_truI ?_
    | with_reducible refine w_isi_int_int ?_
    | with_reducible refine w_isi_int_bl ?_
    | with_reducible refine w_isi_int_str ?_
    | with_reducible refine w_isi_int_non ?_
    | with_reducible refine w_isi_bool_int ?_
    | with_reducible refine w_isi_bool_bl ?_
    | with_reducible refine w_isi_bool_str ?_
    | with_reducible refine w_isi_bool_non ?_
    | with_reducible refine w_isi_str_int ?_
    | with_reducible refine w_isi_str_bl ?_
    | with_reducible refine w_isi_str_str ?_
    | with_reducible refine w_isi_str_non ?_
    | with_reducible refine w_isi_list_int ?_
    | with_reducible refine w_isi_list_bl ?_
    | with_reducible refine w_isi_list_str ?_
    | with_reducible refine w_isi_list_non ?_
    | with_reducible refine w_isi_tuple_int ?_
    | with_reducible refine w_isi_tuple_bl ?_
    | with_reducible refine w_isi_tuple_str ?_
    | with_reducible refine w_isi_tuple_non ?_
    | with_reducible refine w_is_int ?_
    | with_reducible refine w_isnt_int ?_
    | with_reducible refine w_is_bl ?_
    | with_reducible refine w_isnt_bl ?_
    | with_reducible refine w_is_str ?_
    | with_reducible refine w_isnt_str ?_
    | with_reducible refine w_is_non ?_
    | with_reducible refine w_isnt_non ?_
    | with_reducible refine w_is_ref ?_
    | with_reducible refine w_isnt_ref ?_
    | ((with_reducible refine w_asT ?e ?_); (case e => walk_at "te"); intro _ _)
    | ((with_reducible refine w_onT ?e ?_); (case e => walk_at "te"); intro _ _)
    | ((with_reducible refine w_asF ?e ?_); (case e => walk_at "te"))
    | ((with_reducible refine w_onF ?e ?_); (case e => walk_at "te"))
    | ((with_reducible apply w_isE); (· walk_at "xc"); (· walk_at "kt"))
    | ((with_reducible apply w_lenL); (· walk_at "hk"))
    | ((with_reducible apply w_lenT); (· walk_at "hk"))
    | ((with_reducible apply w_bmL); (· walk_at "hk"))
    | ((with_reducible refine w_rng1v ?h1 ?h2 ?_); (case h1 => (first | omega | (simp only [List.length_map] at *; omega))); (case h2 => (first | omega | (simp only [List.length_map] at *; omega))))
    | ((with_reducible refine w_rng2v ?h1 ?_); (case h1 => (first | omega | (simp only [List.length_map] at *; omega))))
    | ((with_reducible apply w_ixI); (· walk_at "hk"); (· (first | omega | (simp only [List.length_map] at *; omega))))
    | ((with_reducible apply w_ixTI); (· walk_at "hk"); (· (first | omega | (simp only [List.length_map] at *; omega))))
    | ((with_reducible apply w_ixBl); (· walk_at "hk"); (· (first | omega | (simp only [List.length_map] at *; omega))))
    | ((with_reducible apply w_getI2); (· walk_at "hk"); (· (first | omega | (simp only [List.length_map] at *; omega))))
    | ((with_reducible apply w_ixTl); (· walk_at "hk"); (· rfl); (· decide))
    | ((with_reducible apply w_ixLl); (· walk_at "hk"); (· rfl); (· decide))
    | ((with_reducible apply w_appI); (· walk_at "hk"); (· (first | omega | (simp only [List.length_append, List.length_cons, List.length_nil]; omega))))
    | ((with_reducible apply w_iListv); (· walk_at "hk"))
    | ((with_reducible apply w_iTupv); (· walk_at "hk"))
    | ((with_reducible apply w_iRevv); (· walk_at "hk"))
    | ((with_reducible apply w_iEnumv); (· walk_at "hk"))
    | ((with_reducible apply w_iZipv); (· walk_at "hk"); (· walk_at "hk"))
    | ((with_reducible apply w_dget2v); (· walk_at "hk"))
    | ((with_reducible apply w_dget1v); (· walk_at "hk"))
    | ((with_reducible apply w_dpop1v); (· walk_at "hk"))
    | ((with_reducible apply w_getI); (· walk_at "hk"))
    | ((with_reducible apply w_inD); (· walk_at "hk"))
    | ((with_reducible apply w_ninD); (· walk_at "hk"))
    | ((with_reducible apply w_rep1); (· walk_at "hk"); (· (first | omega | (simp only [List.length_append, List.length_cons, List.length_nil, List.length_take, List.length_drop, List.length_replicate, List.length_map, List.length_range] at *; omega) | (simp only [List.length_append, List.length_cons, List.length_nil, List.length_take, List.length_drop, List.length_replicate, List.length_map, List.length_range]; omega) | decide)); (· (first | omega | (simp only [List.length_append, List.length_cons, List.length_nil, List.length_take, List.length_drop, List.length_replicate, List.length_map, List.length_range] at *; omega) | (simp only [List.length_append, List.length_cons, List.length_nil, List.length_take, List.length_drop, List.length_replicate, List.length_map, List.length_range]; omega) | decide)); intro _ _)
    | ((with_reducible apply w_gtup2); (· walk_at "hk"))
    | ((with_reducible apply w_gtup3); (· walk_at "hk"))
    | ((with_reducible apply w_gtup4); (· walk_at "hk"))
    | ((with_reducible refine w_newD ?_); intro _ _)
    | ((with_reducible apply w_augsub); (· walk_at "hk"); (· rfl); (· exact Nat.le_of_ble_eq_true rfl))
    | ((with_reducible apply w_augadd); (· walk_at "hk"); (· rfl); (· exact Nat.le_of_ble_eq_true rfl))
    | ((with_reducible apply w_fldv); (· walk_at "hk"); (· rfl))
    | ((with_reducible apply w_methv); (· walk_at "hk"); (· rfl))
    | ((with_reducible apply w_setfv); (· walk_at "hk"); (· exact Nat.le_of_ble_eq_true rfl); (· rfl))
    | walk_at "x"))
local macro_rules | `(tactic| walk_at "run") => `(tactic| repeat' (first
    | with_reducible refine w_seq ?_
    | with_reducible refine w_op ?_
    | with_reducible refine w_asg ?_
    | with_reducible refine w_name ?_
    | with_reducible refine w_c ?_
    | with_reducible refine w_if ?_
    | with_reducible refine w_test ?_
    | with_reducible refine w_blP ?_
    | with_reducible refine w_cons ?_
    | with_reducible refine w_nil ?_
    | with_reducible refine w_ret ?_
    | with_reducible refine w_call ?_
    | ((with_reducible refine' w_var ?e ?_); (case e => rfl))
    | ((with_reducible refine ifST ?h ?_); (case h => decide +kernel))
    | ((with_reducible refine ifSF ?h ?_); (case h => decide +kernel))
    | ((with_reducible refine ifSNT ?h ?_); (case h => decide +kernel))
    | ((with_reducible refine ifSNF ?h ?_); (case h => decide +kernel))
    | with_reducible refine iteT ?_
    | with_reducible refine iteF ?_
    | with_reducible refine ifNT ?_
    | with_reducible refine ifNF ?_
    | (((with_reducible show @ite Prop (_ = true) _ _ _); refine @ifP _ _ _ _ ?_ ?_) <;> intro h <;> first | (with_reducible exact absurd rfl h) | skip)
    | (((with_reducible show @ite Prop (_ = true) _ _ _); refine @ifN _ _ _ _ ?_ ?_) <;> intro h <;> first | (with_reducible exact absurd rfl h) | skip)
    | with_reducible refine w_eqX ?_
    | with_reducible refine w_neX ?_
    | with_reducible refine w_add ?_
    | with_reducible refine w_sub ?_
    | with_reducible refine w_eqI ?_
    | with_reducible refine w_neI ?_
    | with_reducible refine w_lt ?_
    | with_reducible refine w_le ?_
    | with_reducible refine w_gt ?_
    | with_reducible refine w_ge ?_
    | with_reducible refine w_eqS ?_
    | with_reducible refine w_eqB ?_
    | with_reducible refine w_neS ?_
    | with_reducible refine w_neB ?_
    | with_reducible refine w_cb ?_
    | with_reducible refine w_tup ?_
    | with_reducible refine w_lst ?_
    | with_reducible refine w_next ?_
    | with_reducible refine w_drop ?_
    | with_reducible refine w_not ?_
    | with_reducible refine w_tru ?_
    | with_reducible refine w_and ?_
    | with_reducible refine w_or ?_
    | with_reducible refine w_andV ?_
    | with_reducible refine w_orV ?_
    | with_reducible refine w_notV ?_
    | with_reducible refine w_ifE ?_
    | with_reducible refine w_chain ?_
    | with_reducible refine w_retN ?_
    | with_reducible refine w_bm ?_
    | with_reducible refine w_raise ?_
    | with_reducible refine w_fld ?_
    | with_reducible refine w_meth ?_
    | with_reducible refine w_setf ?_
    | with_reducible refine w_for ?_
    | with_reducible refine w_rng1 ?_
    | with_reducible refine w_rng2 ?_
    | with_reducible refine w_iList ?_
    | with_reducible refine w_iTup ?_
    | with_reducible refine w_iStr ?_
    | with_reducible refine w_iRev ?_
    | with_reducible refine w_brk ?_
    | with_reducible refine w_cont ?_
    | with_reducible refine w_un ?_
    | with_reducible refine w_lc ?_
    | with_reducible refine w_yes ?_
    | with_reducible refine w_gsub ?_
    | with_reducible refine w_sl ?_
    | with_reducible refine w_part ?_
    | with_reducible refine w_noPart ?_
    | with_reducible refine w_wh ?_
    | with_reducible refine w_tryAs ?_
    | with_reducible refine w_try ?_
    | with_reducible refine w_make ?_
    | with_reducible refine w_dget ?_
    | with_reducible refine w_dput ?_
    | with_reducible refine w_gcons ?_
    | with_reducible refine w_gnil ?_
    | with_reducible refine w_augf ?_
    | with_reducible refine w_iEnum ?_
    | with_reducible refine w_iZip ?_
    | with_reducible refine w_iKeys ?_
    | with_reducible refine w_dget2 ?_
    | with_reducible refine w_dget1 ?_
    | with_reducible refine w_dpop1 ?_
    | with_reducible refine w_ddel ?_
    | with_reducible refine w_callX ?_
    | with_reducible refine w_augS ?_
    | with_reducible refine w_augSQ ?_
    | ((with_reducible refine' w_aug ?e ?_); (case e => rfl))
    | ((with_reducible refine w_mul ?s ?_); (case s => first | exact Or.inr ⟨by omega, by omega⟩ | exact Or.inl ⟨by omega, by omega⟩))
    | ((with_reducible refine w_div ?s ?_); (case s => omega))
    | ((with_reducible refine w_mod ?s ?_); (case s => first | omega | decide))
    | ((with_reducible refine w_pow ?s ?_); (case s => first | exact ⟨by decide, by decide, by decide⟩ | exact ⟨by decide, by decide, by omega⟩))
    | ((with_reducible refine w_newL ?s ?_); (case s => (first | exact (by decide) | (simp only [List.length_cons, List.length_nil]; omega))); intro _ _)
    | ((with_reducible refine w_newT ?s ?_); (case s => (first | exact (by decide) | (simp only [List.length_cons, List.length_nil]; omega))); intro _ _)
    | with_reducible refine w_eqX ?_
    | with_reducible refine w_neX ?_
    | with_reducible refine w_findX ?_
    | with_reducible refine w_countX ?_
    | ((with_reducible refine w_lenX ?s ?_); (case s => (first | omega | (simp only [List.length_append, List.length_cons, List.length_nil, List.length_take, List.length_drop, List.length_replicate, List.length_map, List.length_range] at *; omega) | (simp only [List.length_append, List.length_cons, List.length_nil, List.length_take, List.length_drop, List.length_replicate, List.length_map, List.length_range]; omega) | decide)))
    | ((with_reducible refine w_truX ?s ?_); (case s => (first | omega | (simp only [List.length_append, List.length_cons, List.length_nil, List.length_take, List.length_drop, List.length_replicate, List.length_map, List.length_range] at *; omega) | (simp only [List.length_append, List.length_cons, List.length_nil, List.length_take, List.length_drop, List.length_replicate, List.length_map, List.length_range]; omega) | decide)))
    | ((with_reducible refine w_addX ?s ?_); (case s => (first | omega | (simp only [List.length_append, List.length_cons, List.length_nil, List.length_take, List.length_drop, List.length_replicate, List.length_map, List.length_range] at *; omega) | (simp only [List.length_append, List.length_cons, List.length_nil, List.length_take, List.length_drop, List.length_replicate, List.length_map, List.length_range]; omega) | decide)))
    | ((with_reducible refine w_mulX ?h0 ?h1 ?_); (case h0 => (first | omega | (simp only [List.length_append, List.length_cons, List.length_nil, List.length_take, List.length_drop, List.length_replicate, List.length_map, List.length_range] at *; omega) | (simp only [List.length_append, List.length_cons, List.length_nil, List.length_take, List.length_drop, List.length_replicate, List.length_map, List.length_range]; omega) | decide)); (case h1 => (first | omega | (simp only [List.length_append, List.length_cons, List.length_nil, List.length_take, List.length_drop, List.length_replicate, List.length_map, List.length_range] at *; omega) | (simp only [List.length_append, List.length_cons, List.length_nil, List.length_take, List.length_drop, List.length_replicate, List.length_map, List.length_range]; omega) | decide)))
    | ((with_reducible refine w_tkX ?s ?h0 ?_); (case s => (first | omega | (simp only [List.length_append, List.length_cons, List.length_nil, List.length_take, List.length_drop, List.length_replicate, List.length_map, List.length_range] at *; omega) | (simp only [List.length_append, List.length_cons, List.length_nil, List.length_take, List.length_drop, List.length_replicate, List.length_map, List.length_range]; omega) | decide)); (case h0 => (first | omega | (simp only [List.length_append, List.length_cons, List.length_nil, List.length_take, List.length_drop, List.length_replicate, List.length_map, List.length_range] at *; omega) | (simp only [List.length_append, List.length_cons, List.length_nil, List.length_take, List.length_drop, List.length_replicate, List.length_map, List.length_range]; omega) | decide)))
    | ((with_reducible refine w_dpX ?s ?h0 ?_); (case s => (first | omega | (simp only [List.length_append, List.length_cons, List.length_nil, List.length_take, List.length_drop, List.length_replicate, List.length_map, List.length_range] at *; omega) | (simp only [List.length_append, List.length_cons, List.length_nil, List.length_take, List.length_drop, List.length_replicate, List.length_map, List.length_range]; omega) | decide)); (case h0 => (first | omega | (simp only [List.length_append, List.length_cons, List.length_nil, List.length_take, List.length_drop, List.length_replicate, List.length_map, List.length_range] at *; omega) | (simp only [List.length_append, List.length_cons, List.length_nil, List.length_take, List.length_drop, List.length_replicate, List.length_map, List.length_range]; omega) | decide)))
    | ((with_reducible refine w_ixX ?s ?h0 ?_); (case s => (first | omega | (simp only [List.length_append, List.length_cons, List.length_nil, List.length_take, List.length_drop, List.length_replicate, List.length_map, List.length_range] at *; omega) | (simp only [List.length_append, List.length_cons, List.length_nil, List.length_take, List.length_drop, List.length_replicate, List.length_map, List.length_range]; omega) | decide)); (case h0 => (first | omega | (simp only [List.length_append, List.length_cons, List.length_nil, List.length_take, List.length_drop, List.length_replicate, List.length_map, List.length_range] at *; omega) | (simp only [List.length_append, List.length_cons, List.length_nil, List.length_take, List.length_drop, List.length_replicate, List.length_map, List.length_range]; omega) | decide)))
    | with_reducible refine w_max ?_
    | with_reducible refine w_min ?_
    | with_reducible refine w_eqNI ?_
    | with_reducible refine w_neNI ?_
    | with_reducible refine w_eqIN ?_
    | with_reducible refine w_neIN ?_
    | with_reducible refine w_neNN ?_
    | with_reducible refine w_eqNN ?_
    | with_reducible refine w_abs ?_
    | with_reducible refine w_intI ?_
    | with_reducible refine w_intB ?_
    | with_reducible refine w_ipI ?_
    | with_reducible refine w_bmS ?_
    | with_reducible refine w_iStrv ?_
    | with_reducible refine w_neg ?_
    | with_reducible refine w_partI ?_
    | with_reducible refine w_truB ?_
    | with_reducible refine w_truN ?_
    | with_reducible refine w_truI ?_
    | with_reducible refine w_isi_int_int ?_
    | with_reducible refine w_isi_int_bl ?_
    | with_reducible refine w_isi_int_str ?_
    | with_reducible refine w_isi_int_non ?_
    | with_reducible refine w_isi_bool_int ?_
    | with_reducible refine w_isi_bool_bl ?_
    | with_reducible refine w_isi_bool_str ?_
    | with_reducible refine w_isi_bool_non ?_
    | with_reducible refine w_isi_str_int ?_
    | with_reducible refine w_isi_str_bl ?_
    | with_reducible refine w_isi_str_str ?_
    | with_reducible refine w_isi_str_non ?_
    | with_reducible refine w_isi_list_int ?_
    | with_reducible refine w_isi_list_bl ?_
    | with_reducible refine w_isi_list_str ?_
    | with_reducible refine w_isi_list_non ?_
    | with_reducible refine w_isi_tuple_int ?_
    | with_reducible refine w_isi_tuple_bl ?_
    | with_reducible refine w_isi_tuple_str ?_
    | with_reducible refine w_isi_tuple_non ?_
    | with_reducible refine w_is_int ?_
    | with_reducible refine w_isnt_int ?_
    | with_reducible refine w_is_bl ?_
    | with_reducible refine w_isnt_bl ?_
    | with_reducible refine w_is_str ?_
    | with_reducible refine w_isnt_str ?_
    | with_reducible refine w_is_non ?_
    | with_reducible refine w_isnt_non ?_
    | with_reducible refine w_is_ref ?_
    | with_reducible refine w_isnt_ref ?_
    | ((with_reducible refine w_asT ?e ?_); (case e => walk_at "te"); intro _ _)
    | ((with_reducible refine w_onT ?e ?_); (case e => walk_at "te"); intro _ _)
    | ((with_reducible refine w_asF ?e ?_); (case e => walk_at "te"))
    | ((with_reducible refine w_onF ?e ?_); (case e => walk_at "te"))
    | ((with_reducible apply w_isE); (· walk_at "xc"); (· walk_at "kt"))
    | ((with_reducible apply w_lenL); (· walk_at "hk"))
    | ((with_reducible apply w_lenT); (· walk_at "hk"))
    | ((with_reducible apply w_bmL); (· walk_at "hk"))
    | ((with_reducible refine w_rng1v ?h1 ?h2 ?_); (case h1 => (first | omega | (simp only [List.length_map] at *; omega))); (case h2 => (first | omega | (simp only [List.length_map] at *; omega))))
    | ((with_reducible refine w_rng2v ?h1 ?_); (case h1 => (first | omega | (simp only [List.length_map] at *; omega))))
    | ((with_reducible apply w_ixI); (· walk_at "hk"); (· (first | omega | (simp only [List.length_map] at *; omega))))
    | ((with_reducible apply w_ixTI); (· walk_at "hk"); (· (first | omega | (simp only [List.length_map] at *; omega))))
    | ((with_reducible apply w_ixBl); (· walk_at "hk"); (· (first | omega | (simp only [List.length_map] at *; omega))))
    | ((with_reducible apply w_getI2); (· walk_at "hk"); (· (first | omega | (simp only [List.length_map] at *; omega))))
    | ((with_reducible apply w_ixTl); (· walk_at "hk"); (· rfl); (· decide))
    | ((with_reducible apply w_ixLl); (· walk_at "hk"); (· rfl); (· decide))
    | ((with_reducible apply w_appI); (· walk_at "hk"); (· (first | omega | (simp only [List.length_append, List.length_cons, List.length_nil]; omega))))
    | ((with_reducible apply w_iListv); (· walk_at "hk"))
    | ((with_reducible apply w_iTupv); (· walk_at "hk"))
    | ((with_reducible apply w_iRevv); (· walk_at "hk"))
    | ((with_reducible apply w_iEnumv); (· walk_at "hk"))
    | ((with_reducible apply w_iZipv); (· walk_at "hk"); (· walk_at "hk"))
    | ((with_reducible apply w_dget2v); (· walk_at "hk"))
    | ((with_reducible apply w_dget1v); (· walk_at "hk"))
    | ((with_reducible apply w_dpop1v); (· walk_at "hk"))
    | ((with_reducible apply w_getI); (· walk_at "hk"))
    | ((with_reducible apply w_inD); (· walk_at "hk"))
    | ((with_reducible apply w_ninD); (· walk_at "hk"))
    | ((with_reducible apply w_rep1); (· walk_at "hk"); (· (first | omega | (simp only [List.length_append, List.length_cons, List.length_nil, List.length_take, List.length_drop, List.length_replicate, List.length_map, List.length_range] at *; omega) | (simp only [List.length_append, List.length_cons, List.length_nil, List.length_take, List.length_drop, List.length_replicate, List.length_map, List.length_range]; omega) | decide)); (· (first | omega | (simp only [List.length_append, List.length_cons, List.length_nil, List.length_take, List.length_drop, List.length_replicate, List.length_map, List.length_range] at *; omega) | (simp only [List.length_append, List.length_cons, List.length_nil, List.length_take, List.length_drop, List.length_replicate, List.length_map, List.length_range]; omega) | decide)); intro _ _)
    | ((with_reducible apply w_gtup2); (· walk_at "hk"))
    | ((with_reducible apply w_gtup3); (· walk_at "hk"))
    | ((with_reducible apply w_gtup4); (· walk_at "hk"))
    | ((with_reducible refine w_newD ?_); intro _ _)
    | ((with_reducible apply w_augsub); (· walk_at "hk"); (· rfl); (· exact Nat.le_of_ble_eq_true rfl))
    | ((with_reducible apply w_augadd); (· walk_at "hk"); (· rfl); (· exact Nat.le_of_ble_eq_true rfl))
    | ((with_reducible apply w_fldv); (· walk_at "hk"); (· rfl))
    | ((with_reducible apply w_methv); (· walk_at "hk"); (· rfl))
    | ((with_reducible apply w_setfv); (· walk_at "hk"); (· exact Nat.le_of_ble_eq_true rfl); (· rfl))
    | walk_at "x"))
/-- the addresses that the readings speak of -/
structure Ex where
  (LaminaError NotValid PowerOff NoProcess BadHandle NoVolume ReadOnly BadName Missing WrongKind Exists LoopFound CrossVolume Busy NotEmpty TooMany TooLong OverQuota NoSpace BadImage : Addr := 0)
  (Disk Head Space Store OpenFiles Handles Processes Log Accounts Session System : Addr := 0)
  (POINTER_KINDS MODES LENGTHS : Addr := 0)
/-- what is known of the exceptions' classes -/
structure Fa (K : PySem.W.Frag) (C : Ex) : Prop where
  fa0 : True
  te_LaminaError_LaminaError : PySem.W.exmOne K (.ref C.LaminaError) (.ref C.LaminaError) = some true
  te_NotValid_LaminaError : PySem.W.exmOne K (.ref C.NotValid) (.ref C.LaminaError) = some true
  te_BadHandle_LaminaError : PySem.W.exmOne K (.ref C.BadHandle) (.ref C.LaminaError) = some true
  kt_LaminaError_NotValid : PySem.W.kitOne K (.ref C.LaminaError) (.ref C.NotValid) = some false
  kt_NotValid_NotValid : PySem.W.kitOne K (.ref C.NotValid) (.ref C.NotValid) = some true
  kt_BadHandle_NotValid : PySem.W.kitOne K (.ref C.BadHandle) (.ref C.NotValid) = some false
  kt_LaminaError_BadHandle : PySem.W.kitOne K (.ref C.LaminaError) (.ref C.BadHandle) = some false
  kt_NotValid_BadHandle : PySem.W.kitOne K (.ref C.NotValid) (.ref C.BadHandle) = some false
  kt_BadHandle_BadHandle : PySem.W.kitOne K (.ref C.BadHandle) (.ref C.BadHandle) = some true
  xc_LaminaError : ExcC K C.LaminaError
  xc_NotValid : ExcC K C.NotValid
  xc_BadHandle : ExcC K C.BadHandle
local macro_rules | `(tactic| walk_at "te") => `(tactic| first | exact Fa.te_LaminaError_LaminaError (by assumption) | exact Fa.te_NotValid_LaminaError (by assumption) | exact Fa.te_BadHandle_LaminaError (by assumption))
local macro_rules | `(tactic| walk_at "kt") => `(tactic| first | exact Fa.kt_LaminaError_NotValid (by assumption) | exact Fa.kt_NotValid_NotValid (by assumption) | exact Fa.kt_BadHandle_NotValid (by assumption) | exact Fa.kt_LaminaError_BadHandle (by assumption) | exact Fa.kt_NotValid_BadHandle (by assumption) | exact Fa.kt_BadHandle_BadHandle (by assumption))
local macro_rules | `(tactic| walk_at "xc") => `(tactic| first | exact Fa.xc_LaminaError (by assumption) | exact Fa.xc_NotValid (by assumption) | exact Fa.xc_BadHandle (by assumption))
def S1 (f : V → Hp → VK → XK → Prop) : Sp := fun vs H Q E => ∃ a, vs = [a] ∧ f a H Q E
def S2 (f : V → V → Hp → VK → XK → Prop) : Sp := fun vs H Q E => ∃ a b, vs = [a, b] ∧ f a b H Q E
def S3 (f : V → V → V → Hp → VK → XK → Prop) : Sp := fun vs H Q E => ∃ a b c, vs = [a, b, c] ∧ f a b c H Q E
def S4 (f : V → V → V → V → Hp → VK → XK → Prop) : Sp := fun vs H Q E => ∃ a b c d, vs = [a, b, c, d] ∧ f a b c d H Q E
section
variable {vs : List V} {H : Hp} {Q : VK} {E : XK} {a b c d e : V}
theorem len1 {f} (h : S1 f vs H Q E) : vs.length = 1 := by obtain ⟨_, rfl, _⟩ := h; rfl
theorem len2 {f} (h : S2 f vs H Q E) : vs.length = 2 := by obtain ⟨_, _, rfl, _⟩ := h; rfl
theorem len3 {f} (h : S3 f vs H Q E) : vs.length = 3 := by obtain ⟨_, _, _, rfl, _⟩ := h; rfl
theorem len4 {f} (h : S4 f vs H Q E) : vs.length = 4 := by obtain ⟨_, _, _, _, rfl, _⟩ := h; rfl
theorem w_S1 {f} (h : f a H Q E) : S1 f [a] H Q E := ⟨a, rfl, h⟩
theorem w_S2 {f} (h : f a b H Q E) : S2 f [a, b] H Q E := ⟨a, b, rfl, h⟩
theorem w_S3 {f} (h : f a b c H Q E) : S3 f [a, b, c] H Q E := ⟨a, b, c, rfl, h⟩
theorem w_S4 {f} (h : f a b c d H Q E) : S4 f [a, b, c, d] H Q E := ⟨a, b, c, d, rfl, h⟩
end
theorem lt_line {n : Nat} (h : n < 10000000) : n < sizeLine := Nat.lt_of_lt_of_le h (by decide)
theorem le_line {n : Nat} (h : n < 10000000) : n ≤ sizeLine := Nat.le_of_lt (lt_line h)
abbrev spLaw (K : PySem.W.Frag) : Sp := S1 fun a H Q _ => ∃ (p : Addr) (ns : List Int), a = .ref p ∧ SqL K H p (ns.map V.int) ∧ ns.length ≤ 63 ∧ ∀ H', Q (.bl true) H'
/-- an item of a mapped list -/
theorem at_int {ns : List Int} {i : Nat} {x : V} (h : (ns.map V.int)[i]? = some x) : ∃ n, ns[i]? = some n ∧ x = .int n := by
  rw [List.getElem?_map] at h
  cases e : ns[i]? with
  | none => rw [e] at h; cases h
  | some n => rw [e] at h; exact ⟨n, rfl, (Option.some.inj h).symm⟩
theorem tyx_list {K : PySem.W.Frag} {H : Hp} {p : Addr} {xs : List V} (h : SqL K H p xs) : TyX K H (.ref p) (.type U.Ob.list.nm) := by
  rcases h with (h | ⟨o, h⟩) | ⟨o, its, n, e, c, _⟩
  · exact .base (.lst h)
  · exact .base (.frz h)
  · exact .kList e c
theorem w_isi_list_L {K : PySem.W.Frag} {H : Hp} {Q : VK} {p : Addr} {xs : List V} (e : SqL K H p xs) (h : Q (.bl true) H) : uIsi K .list [.ref p, .ty "list"] H Q := ⟨rfl, .list, tyx_list e, h⟩
theorem take_snoc {α : Type} {l : List α} {i : Nat} {c : α} (h : l[i]? = some c) : l.take (i + 1) = l.take i ++ [c] := by
  obtain ⟨hl, he⟩ := List.getElem?_eq_some_iff.mp h
  rw [List.take_succ_eq_append_getElem hl, he]
theorem w_cutS {D : Ends} {σ : L2.St} {H : Hp} {t u : TS} (h : tSeq t u D σ H) : tCut t u D σ H := ⟨u D, h, fun _ _ h => h⟩
/-- of the objects of H all but those of S stand in H'; S' is of S or new -/
def Stp (S : List Addr) (H : Hp) (S' : List Addr) (H' : Hp) : Prop := (∀ b o, H b = some o → b ∉ S → H' b = some o) ∧ ∀ b ∈ S', b ∈ S ∨ H b = none
theorem Stp.refl {S : List Addr} {H : Hp} : Stp S H S H := ⟨fun _ _ h _ => h, fun _ h => .inl h⟩
theorem Stp.trans {S S1 S2 : List Addr} {H H1 H2 : Hp} (x : Stp S H S1 H1) (y : Stp S1 H1 S2 H2) : Stp S H S2 H2 := by
  refine ⟨fun b o h n => y.1 b o (x.1 b o h n) fun q => ?_, fun b hb => ?_⟩
  · rcases x.2 b q with z | z
    · exact n z
    · rw [h] at z; cases z
  · rcases y.2 b hb with q | q
    · exact x.2 b q
    · by_cases n : b ∈ S
      · exact .inl n
      · cases e : H b with
        | none => exact .inr rfl
        | some o => rw [x.1 b o e n] at q; cases q
theorem Stp.same {S : List Addr} {H H' : Hp} (s : Same H H') : Stp S H S H' := ⟨fun b o h _ => s b o h, fun _ h => .inl h⟩
theorem Stp.upd {S : List Addr} {H H' : Hp} {p : Addr} {o : HO} (x : Stp S H S H') (h : p ∈ S) : Stp S H S (upd H' p o) :=
  ⟨fun b w e n => by rw [upd_ne (fun q => n (by rw [q]; exact h))]; exact x.1 b w e n, x.2⟩
theorem Stp.new {S : List Addr} {H H' : Hp} {p : Addr} {o : HO} (x : Stp S H S H') (h : H' p = none) : Stp S H S (L2.upd H' p o) := x.trans (.same (same_new h))
theorem Stp.fresh {S S' : List Addr} {H H' : Hp} {p : Addr} (x : Stp S H S' H') (n : H' p = none) : p ∈ S ∨ H p = none := by
  by_cases q : p ∈ S
  · exact .inl q
  · cases e : H p with
    | none => exact .inr rfl
    | some o => rw [x.1 p o e q] at n; cases n
theorem Stp.keep {S S' : List Addr} {H H' : Hp} {b : Addr} {o : HO} (x : Stp S H S' H') (h : H b = some o) (n : b ∉ S) : H' b = some o ∧ b ∉ S' :=
  ⟨x.1 b o h n, fun q => (x.2 b q).elim n fun z => by rw [h] at z; cases z⟩
/-- a list of eight words -/
def RowAt (H : Hp) (v : V) (r : List Int) : Prop := r.length = 8 ∧ ∃ p, v = .ref p ∧ H p = some (.lst (r.map V.int))
def AllRef (vs : List V) : Prop := ∀ x ∈ vs, ∃ p, x = V.ref p
theorem RowAt.same {H H' : Hp} {v : V} {r : List Int} (x : RowAt H v r) (s : Same H H') : RowAt H' v r := by
  obtain ⟨l, p, rfl, h⟩ := x
  exact ⟨l, p, rfl, s _ _ h⟩
theorem RowAt.upd {H : Hp} {v : V} {r : List Int} {q : Addr} {o u : HO} (x : RowAt H v r) (h : H q = some u) (n : r.length = 8 → HO.lst (r.map V.int) ≠ u) : RowAt (upd H q o) v r := by
  obtain ⟨l, p, rfl, e⟩ := x
  exact ⟨l, p, rfl, by rw [upd_ne (ne_of e h (n l))]; exact e⟩
/-- what may be written without a row's loss -/
def NoRow (u : HO) : Prop := ∀ r : List Int, r.length = 8 → HO.lst (r.map V.int) ≠ u
def RowsAt (H : Hp) (vs : List V) (rs : List (List Int)) : Prop := vs.length = rs.length ∧ ∀ (i : Nat) v, vs[i]? = some v → ∃ r, rs[i]? = some r ∧ RowAt H v r
theorem RowsAt.ref {H : Hp} {vs : List V} {rs : List (List Int)} (x : RowsAt H vs rs) : AllRef vs := fun v hv => by
  obtain ⟨i, hi⟩ := List.getElem?_of_mem hv
  obtain ⟨r, _, _, p, e, _⟩ := x.2 i v hi
  exact ⟨p, e⟩
theorem RowsAt.map {H H' : Hp} {vs : List V} {rs : List (List Int)} (x : RowsAt H vs rs) (f : ∀ v r, RowAt H v r → RowAt H' v r) : RowsAt H' vs rs := ⟨x.1, fun i v h => by
  obtain ⟨r, e, y⟩ := x.2 i v h
  exact ⟨r, e, f v r y⟩⟩
theorem RowsAt.same {H H' : Hp} {vs : List V} {rs : List (List Int)} (x : RowsAt H vs rs) (s : Same H H') : RowsAt H' vs rs := x.map fun _ _ y => y.same s
theorem RowsAt.upd {H : Hp} {vs : List V} {rs : List (List Int)} {q : Addr} {o u : HO} (x : RowsAt H vs rs) (h : H q = some u) (n : NoRow u) : RowsAt (upd H q o) vs rs := x.map fun _ r y => y.upd h (n r)
theorem RowsAt.nil {H : Hp} : RowsAt H [] [] := ⟨rfl, fun i v h => by simp at h⟩
theorem RowsAt.snoc {H : Hp} {vs : List V} {rs : List (List Int)} {v : V} {r : List Int} (x : RowsAt H vs rs) (y : RowAt H v r) : RowsAt H (vs ++ [v]) (rs ++ [r]) := by
  refine ⟨by rw [List.length_append, List.length_append, x.1]; rfl, fun i w h => ?_⟩
  rcases Nat.lt_or_ge i vs.length with q | q
  · rw [List.getElem?_append_left q] at h
    obtain ⟨r', e, z⟩ := x.2 i w h
    exact ⟨r', by rw [List.getElem?_append_left (by rw [← x.1]; exact q)]; exact e, z⟩
  · rw [List.getElem?_append_right q] at h
    have hi : i - vs.length = 0 := by
      have := (List.getElem?_eq_some_iff.mp h).1
      simp at this
      omega
    rw [hi] at h
    cases h
    exact ⟨r, by rw [List.getElem?_append_right (by rw [← x.1]; exact q), ← x.1, hi]; rfl, y⟩
theorem RowsAt.set {H : Hp} {vs : List V} {rs : List (List Int)} {v : V} {r : List Int} {j : Nat} (x : RowsAt H vs rs) (y : RowAt H v r) : RowsAt H (vs.set j v) (rs.set j r) := by
  refine ⟨by rw [List.length_set, List.length_set, x.1], fun i w h => ?_⟩
  by_cases q : j = i
  · subst q
    have hl : j < vs.length := by
      have := (List.getElem?_eq_some_iff.mp h).1
      rw [List.length_set] at this
      exact this
    rw [List.getElem?_set_self hl] at h
    cases h
    exact ⟨r, List.getElem?_set_self (by rw [← x.1]; exact hl), y⟩
  · rw [List.getElem?_set_ne q] at h
    obtain ⟨r', e, z⟩ := x.2 i w h
    exact ⟨r', by rw [List.getElem?_set_ne q]; exact e, z⟩
theorem AllRef.snoc {vs : List V} {p : Addr} (h : AllRef vs) : AllRef (vs ++ [.ref p]) := fun x hx => by
  rcases List.mem_append.mp hx with q | q
  · exact h x q
  · exact ⟨p, List.mem_singleton.mp q⟩
/-- eight words -/
def Row8 (r : List Int) : Prop := r.length = 8 ∧ ∀ z ∈ r, 0 ≤ z
theorem Row8.set {r : List Int} {i : Nat} {z : Int} (h : Row8 r) (hz : 0 ≤ z) : Row8 (r.set i z) := ⟨by rw [List.length_set]; exact h.1, fun y hy => by
  rcases List.mem_or_eq_of_mem_set hy with q | q
  · exact h.2 y q
  · rw [q]; exact hz⟩
structure FD where
  vol : Str
  ino : Int
  mode : Str
  pos : Int
  refs : Int
  deriving DecidableEq
abbrev TB := List (Int × Addr × FD)
def entO (f : FD) : HO := .lst [.str f.vol, .int f.ino, .str f.mode, .int f.pos, .int f.refs]
def kvsT (T : TB) : List (Key × V) := T.map fun x => ((.inl x.1 : Key), V.ref x.2.1)
abbrev FS := List (Int × FD)
def datT (T : TB) : FS := T.map fun x => (x.1, x.2.2)
def adT (T : TB) : List Addr := T.map fun x => x.2.1
abbrev tbF (d : Addr) (T : TB) : List Addr := d :: adT T
structure TbAt (H : Hp) (d : Addr) (T : TB) : Prop where
  dict : H d = some (.dK (kvsT T))
  ent : ∀ x ∈ T, H x.2.1 = some (entO x.2.2)
  nd : (adT T).Nodup
  kd : (T.map (·.1)).Nodup
def findT (T : TB) (n : Int) : Option (Addr × FD) := (T.find? fun x => decide (x.1 = n)).map (·.2)
theorem valV_T (T : TB) (n : Int) : valV (kvsT T) (.inl n) = (findT T n).map fun x => V.ref x.1 := by
  unfold findT kvsT
  induction T with
  | nil => rfl
  | cons x T ih =>
    by_cases q : x.1 = n
    · rw [List.map_cons, valV_pos (by rw [q]), List.find?_cons_of_pos (by simp [q])]
      rfl
    · rw [List.map_cons, valV_neg (fun e => q (Sum.inl.inj e)), List.find?_cons_of_neg (by simp [q])]
      exact ih
theorem findT_mem {T : TB} {n : Int} {p : Addr} {f : FD} (h : findT T n = some (p, f)) : (n, p, f) ∈ T := by
  unfold findT at h
  obtain ⟨x, hx, e⟩ := Option.map_eq_some_iff.mp h
  have h1 := List.mem_of_find?_eq_some hx
  have h2 : x.1 = n := by simpa using List.find?_some hx
  obtain ⟨a, b, c⟩ := x
  cases h2
  cases e
  exact h1
/-- data under a number -/
def findD (D : FS) (n : Int) : Option FD := (D.find? fun x => decide (x.1 = n)).map (·.2)
theorem findT_D (T : TB) (n : Int) : findD (datT T) n = (findT T n).map (·.2) := by
  unfold findD findT datT
  induction T with
  | nil => rfl
  | cons x T ih =>
    by_cases q : x.1 = n
    · rw [List.map_cons, List.find?_cons_of_pos (by simp [q]), List.find?_cons_of_pos (by simp [q])]
      rfl
    · rw [List.map_cons, List.find?_cons_of_neg (by simp [q]), List.find?_cons_of_neg (by simp [q])]
      exact ih
def keysD (D : FS) : List Int := D.map (·.1)
theorem keys_T (T : TB) : T.map (·.1) = keysD (datT T) := by
  unfold keysD datT
  rw [List.map_map]
  rfl
theorem findD_key {D : FS} {n : Int} : (findD D n).isSome = true ↔ n ∈ keysD D := by
  unfold findD keysD
  rw [Option.isSome_map, List.find?_isSome]
  simp
def setD (D : FS) (n : Int) (f : FD) : FS := D.map fun x => if x.1 = n then (x.1, f) else x
def delD (D : FS) (n : Int) : FS := D.filter fun x => decide (x.1 ≠ n)
def setT (T : TB) (n : Int) (f : FD) : TB := T.map fun x => if x.1 = n then (x.1, x.2.1, f) else x
def delT (T : TB) (n : Int) : TB := T.filter fun x => decide (x.1 ≠ n)
theorem dat_set (T : TB) (n : Int) (f : FD) : datT (setT T n f) = setD (datT T) n f := by
  unfold datT setT setD
  rw [List.map_map, List.map_map]
  refine List.map_congr_left fun x _ => ?_
  show ((if x.1 = n then (x.1, x.2.1, f) else x).1, (if x.1 = n then (x.1, x.2.1, f) else x).2.2) = if x.1 = n then (x.1, f) else (x.1, x.2.2)
  split <;> rfl
theorem dat_del (T : TB) (n : Int) : datT (delT T n) = delD (datT T) n := by
  unfold datT delT delD
  rw [List.filter_map]
  rfl
theorem kvs_set (T : TB) (n : Int) (f : FD) : kvsT (setT T n f) = kvsT T := by
  unfold kvsT setT
  rw [List.map_map]
  refine List.map_congr_left fun x _ => ?_
  show ((.inl (if x.1 = n then (x.1, x.2.1, f) else x).1 : Key), V.ref (if x.1 = n then (x.1, x.2.1, f) else x).2.1) = _
  split <;> rfl
theorem ad_set (T : TB) (n : Int) (f : FD) : adT (setT T n f) = adT T := by
  unfold adT setT
  rw [List.map_map]
  refine List.map_congr_left fun x _ => ?_
  show (if x.1 = n then (x.1, x.2.1, f) else x).2.1 = _
  split <;> rfl
theorem key_set (T : TB) (n : Int) (f : FD) : (setT T n f).map (·.1) = T.map (·.1) := by
  unfold setT
  rw [List.map_map]
  refine List.map_congr_left fun x _ => ?_
  show (if x.1 = n then (x.1, x.2.1, f) else x).1 = _
  split <;> rfl
theorem kvs_del (T : TB) (n : Int) : dropK (kvsT T) (.inl n) = kvsT (delT T n) := by
  unfold dropK kvsT delT
  rw [List.filter_map]
  congr 1
  exact List.filter_congr fun x _ => decide_eq_decide.mpr ⟨fun h e => h (by show (Sum.inl x.1 : Key) = _; rw [e]), fun h e => h (Sum.inl.inj e)⟩
theorem uniqM {α β : Type} {f : α → β} : ∀ {l : List α}, (l.map f).Nodup → ∀ {x y : α}, x ∈ l → y ∈ l → f x = f y → x = y
  | a :: l, nd, x, y, hx, hy, e => by
    obtain ⟨n1, n2⟩ := List.nodup_cons.mp (show (f a :: l.map f).Nodup from nd)
    rcases List.mem_cons.mp hx with ex | hx2
    · rcases List.mem_cons.mp hy with ey | hy2
      · rw [ex, ey]
      · exact absurd (by rw [← ex, e]; exact List.mem_map.mpr ⟨y, hy2, rfl⟩) n1
    · rcases List.mem_cons.mp hy with ey | hy2
      · exact absurd (by rw [← ey, ← e]; exact List.mem_map.mpr ⟨x, hx2, rfl⟩) n1
      · exact uniqM n2 hx2 hy2 e
section tbat
variable {H H' : Hp} {d p : Addr} {T : TB} {n : Int} {f f' : FD} {F F' : List Addr}
theorem TbAt.same (x : TbAt H d T) (s : Same H H') : TbAt H' d T := ⟨s _ _ x.dict, fun y hy => s _ _ (x.ent y hy), x.nd, x.kd⟩
theorem TbAt.stp (x : TbAt H d T) (o : ∀ b ∈ tbF d T, b ∉ F) (st : Stp F H F' H') : TbAt H' d T ∧ ∀ b ∈ tbF d T, b ∉ F' := by
  have k1 := st.keep x.dict (o d (List.mem_cons_self ..))
  have k2 : ∀ y ∈ T, H' y.2.1 = some (entO y.2.2) ∧ y.2.1 ∉ F' := fun y hy => st.keep (x.ent y hy) (o _ (List.mem_cons_of_mem _ (List.mem_map.mpr ⟨y, hy, rfl⟩)))
  refine ⟨⟨k1.1, fun y hy => (k2 y hy).1, x.nd, x.kd⟩, fun b hb => ?_⟩
  rcases List.mem_cons.mp hb with rfl | hb
  · exact k1.2
  · obtain ⟨y, hy, rfl⟩ := List.mem_map.mp hb
    exact (k2 y hy).2
theorem TbAt.fresh (x : TbAt H d T) (h : H p = none) : p ∉ tbF d T := fun hb => by
  rcases List.mem_cons.mp hb with rfl | hb
  · rw [x.dict] at h; cases h
  · obtain ⟨y, hy, rfl⟩ := List.mem_map.mp hb
    rw [x.ent y hy] at h; cases h
theorem TbAt.ad_ne (x : TbAt H d T) {y : Int × Addr × FD} (hy : y ∈ T) : y.2.1 ≠ d := ne_of (x.ent y hy) x.dict fun z => nomatch z
theorem TbAt.set (x : TbAt H d T) (h : findT T n = some (p, f)) : TbAt (upd H p (entO f')) d (setT T n f') := by
  have hm := findT_mem h
  refine ⟨by rw [kvs_set]; exact upd_oth x.dict (x.ad_ne hm).symm, fun y hy => ?_, by rw [ad_set]; exact x.nd, by rw [key_set]; exact x.kd⟩
  unfold setT at hy
  obtain ⟨z, hz, rfl⟩ := List.mem_map.mp hy
  by_cases q : z.1 = n
  · have e : z = (n, p, f) := uniqM x.kd hz hm q
    rw [if_pos q, e]
    exact upd_same
  · rw [if_neg q]
    exact upd_oth (x.ent z hz) fun e => q (by rw [uniqM x.nd hz hm e])
theorem TbAt.set_stp (h : findT T n = some (p, f)) : Stp (tbF d T) H (tbF d (setT T n f')) (upd H p (entO f')) := by
  have hp : p ∈ tbF d T := List.mem_cons_of_mem _ (List.mem_map.mpr ⟨_, findT_mem h, rfl⟩)
  have e : tbF d (setT T n f') = tbF d T := by show d :: adT _ = _; rw [ad_set]
  rw [e]
  exact Stp.refl.upd hp
theorem TbAt.del (x : TbAt H d T) : TbAt (upd H d (.dK (kvsT (delT T n)))) d (delT T n) := by
  have sub : (delT T n).Sublist T := List.filter_sublist
  exact ⟨upd_same, fun y hy => upd_oth (x.ent y (sub.subset hy)) (x.ad_ne (sub.subset hy)), (sub.map _).nodup x.nd, (sub.map _).nodup x.kd⟩
theorem TbAt.del_stp (x : TbAt H d T) : Stp (tbF d T) H (tbF d (delT T n)) (upd H d (.dK (kvsT (delT T n)))) := by
  have z : Stp (tbF d T) H (tbF d T) (upd H d (.dK (kvsT (delT T n)))) := Stp.refl.upd (List.mem_cons_self ..)
  refine ⟨z.1, fun b hb => .inl ?_⟩
  rcases List.mem_cons.mp hb with rfl | hb
  · exact List.mem_cons_self ..
  · exact List.mem_cons_of_mem _ ((List.filter_sublist (l := T)).map _ |>.subset hb)
theorem put_T (h : n ∉ T.map (·.1)) : putK (kvsT T) (.inl n) (.ref p) = kvsT (T ++ [(n, p, f)]) := by
  unfold putK
  rw [if_neg]
  · unfold kvsT
    rw [List.map_append]
    rfl
  · intro q
    obtain ⟨kv, hk, e⟩ := List.any_eq_true.mp q
    unfold kvsT at hk
    obtain ⟨x, hx, rfl⟩ := List.mem_map.mp hk
    exact h (List.mem_map.mpr ⟨x, hx, Sum.inl.inj (of_decide_eq_true e)⟩)
theorem TbAt.add (x : TbAt H d T) (h : n ∉ T.map (·.1)) (s : Same H H') (hp : H p = none) (e : H' p = some (entO f)) : TbAt (upd H' d (.dK (kvsT (T ++ [(n, p, f)])))) d (T ++ [(n, p, f)]) := by
  have pd : p ≠ d := fun q => by rw [q, x.dict] at hp; cases hp
  refine ⟨upd_same, fun y hy => ?_, ?_, ?_⟩
  · rcases List.mem_append.mp hy with hy | hy
    · exact upd_oth (s _ _ (x.ent y hy)) (x.ad_ne hy)
    · rw [List.mem_singleton.mp hy]
      exact upd_oth e pd
  · unfold adT
    rw [List.map_append]
    exact List.nodup_append.mpr ⟨x.nd, by simp, fun a ha b hb q => by
      have hb : b = p := by simpa using hb
      subst q
      rw [hb] at ha
      exact x.fresh hp (List.mem_cons_of_mem _ ha)⟩
  · rw [List.map_append]
    exact List.nodup_append.mpr ⟨x.kd, by simp, fun a ha b hb q => by
      have hb : b = n := by simpa using hb
      subst q
      rw [hb] at ha
      exact h ha⟩
theorem TbAt.add_stp (s : Same H H') (hp : H p = none) {o : HO} : Stp (tbF d T) H (tbF d (T ++ [(n, p, f)])) (upd H' d o) := by
  have z : Stp (tbF d T) H (tbF d T) (upd H' d o) := ⟨fun b w h nb => by rw [upd_ne (fun q => nb (by rw [q]; exact List.mem_cons_self ..))]; exact s _ _ h, fun _ h => .inl h⟩
  refine ⟨z.1, fun b hb => ?_⟩
  rcases List.mem_cons.mp hb with rfl | hb
  · exact .inl (List.mem_cons_self ..)
  · unfold adT at hb
    rw [List.map_append] at hb
    rcases List.mem_append.mp hb with hb | hb
    · exact .inl (List.mem_cons_of_mem _ hb)
    · have hb : b = p := by simpa using hb
      exact .inr (by rw [hb]; exact hp)
theorem T_len (T : TB) : (kvsT T).length = T.length := List.length_map ..
theorem dat_len (T : TB) : (datT T).length = T.length := List.length_map ..
end tbat
/-- the object of open files -/
def HnAt (C : Ex) (H : Hp) (h d : Addr) (T : TB) : Prop := (∃ dx, H h = some (.ins C.Handles dx [("files", .ref d)])) ∧ TbAt H d T
theorem HnAt.same {C : Ex} {H H' : Hp} {h d : Addr} {T : TB} (x : HnAt C H h d T) (s : Same H H') : HnAt C H' h d T := ⟨x.1.imp fun _ e => s _ _ e, x.2.same s⟩
theorem HnAt.out {C : Ex} {H : Hp} {h d : Addr} {T : TB} (x : HnAt C H h d T) : h ∉ tbF d T := fun hb => by
  obtain ⟨⟨dx, i⟩, t⟩ := x
  rcases List.mem_cons.mp hb with rfl | hb
  · rw [t.dict] at i; cases i
  · obtain ⟨y, hy, rfl⟩ := List.mem_map.mp hb
    rw [t.ent y hy] at i; cases i
theorem HnAt.tb {C : Ex} {H H' : Hp} {h d : Addr} {T T' : TB} (x : HnAt C H h d T) (t : TbAt H' d T') (st : Stp (tbF d T) H (tbF d T') H') : HnAt C H' h d T' := ⟨x.1.imp fun _ e => (st.keep e x.out).1, t⟩
theorem w_glst {K : PySem.W.Frag} {σ : L2.St} {H : Hp} {N : L2.St → Hp → Prop} {p : Addr} {xs : List V} {n : Nat} {u : TGs} (e : SqL K H p xs) (hl : xs.length = n) (h : u xs σ H N) : gLst K n u (.ref p) σ H N := ⟨p, xs, rfl, e, hl, h⟩
theorem w_dgetF {H : Hp} {Q : VK} {p : Addr} {o : Obj} {kvs : List (Key × V)} {i : Int} {v : V} (e : H p = some (.frz o (.dK kvs))) (l : valV kvs (.inl i) = some v) (h : Q v H) : dgQ (.ref p) (.int i) H Q := ⟨p, v, rfl, .inl ⟨kvs, .inl i, .inr ⟨o, e⟩, rfl, l.symm⟩, h⟩
theorem upd_back {H : Hp} {d : Addr} {o u : HO} (h : H d = some u) : upd (upd H d o) d u = H := funext fun b => by
  by_cases q : b = d
  · subst q
    rw [upd_same, h]
  · rw [upd_ne q, upd_ne q]
def uListD : List V → Hp → VK → Prop := fun xs H Q => ∃ (a : Addr) (kvs : List (Key × V)), xs = [.ref a] ∧ Rd H a (.dK kvs) ∧ ∀ p, H p = none → Q (.ref p) (upd H p (.lst (kvs.map fun kv => kV kv.1)))
theorem c_listD {X : Cx} (hc : X.calm = true) : CallR X (.type "list") uListD := call_listD hc
def openD (D : FS) (v : Str) (i : Int) : Bool := D.any fun x => decide (x.2.vol = v) && decide (x.2.ino = i)
def usedD (D : FS) (v : Str) : Bool := D.any fun x => decide (x.2.vol = v)
def sp_Handles__look (K : PySem.W.Frag) (C : Ex) : Sp := S2 fun x c H Q E => ∃ (h d : Addr) (T : TB) (n : Int), x = .ref h ∧ c = .int n ∧ HnAt C H h d T ∧ (findT T n = none → E (.ref C.BadHandle) none H) ∧ ∀ p f, findT T n = some (p, f) → Q (.ref p) H
def t_Handles__look (K : PySem.W.Frag) (C : Ex) (E : XK) : TS :=
  tSeq (tIfS (tTest (tOp (uNin K) (tVar 1) (uFld C.Handles "files" (tVar 0)))) (uRaise C.BadHandle (WB E)) (tNext))
  (tRet (tDGet (uFld C.Handles "files" (tVar 0)) (tVar 1)))
theorem pure_Handles__look {K : PySem.W.Frag} {C : Ex} {vs : List V} {H : Hp} {Q : VK} {E : XK} (F : Fa K C) (h : sp_Handles__look K C vs H Q E) : t_Handles__look K C E { nx := fun _ H' => Q .non H', rt := Q } (start ["self", "number"] vs) H := by
  obtain ⟨x, c, rfl, h, d, T, n, rfl, rfl, ⟨⟨dx, i⟩, t⟩, k1, k2⟩ := h
  have hd := t.dict
  have hv := valV_T T n
  unfold t_Handles__look
  walk_at "run1"
  cases hf : findT T n with
  | none =>
    rw [hf] at hv
    have hv : valV (kvsT T) (.inl n) = none := hv
    rw [hv, show (none : Option V).isSome = false from rfl]
    walk_at "run1"
    exact k1 hf
  | some pf =>
    obtain ⟨p, f⟩ := pf
    rw [hf] at hv
    have hv : valV (kvsT T) (.inl n) = some (.ref p) := hv
    rw [hv, show (some (V.ref p)).isSome = true from rfl]
    walk_at "run1"
    refine w_dgetI hd hv ?_
    exact k2 p f hf
def RwAt (H : Hp) (vs : List V) (rows : FS) : Prop := vs.length = rows.length ∧ ∀ (i : Nat) v, vs[i]? = some v → ∃ (n : Int) (f : FD) (t : Addr), rows[i]? = some (n, f) ∧ v = .ref t ∧ H t = some (.tup [.int n, .str f.vol, .int f.ino, .str f.mode, .int f.pos, .int f.refs])
theorem RwAt.same {H H' : Hp} {vs : List V} {rows : FS} (x : RwAt H vs rows) (s : Same H H') : RwAt H' vs rows := ⟨x.1, fun i v h => by
  obtain ⟨n, f, t, a, b, c⟩ := x.2 i v h
  exact ⟨n, f, t, a, b, s _ _ c⟩⟩
theorem RwAt.upd {H : Hp} {vs us : List V} {rows : FS} {l : Addr} {o : HO} (x : RwAt H vs rows) (e : H l = some (.lst us)) : RwAt (upd H l o) vs rows := ⟨x.1, fun i v h => by
  obtain ⟨n, f, t, a, b, c⟩ := x.2 i v h
  exact ⟨n, f, t, a, b, upd_oth c (ne_of c e fun z => nomatch z)⟩⟩
theorem RwAt.snoc {H : Hp} {vs : List V} {rows : FS} {n : Int} {f : FD} {t : Addr} (x : RwAt H vs rows) (e : H t = some (.tup [.int n, .str f.vol, .int f.ino, .str f.mode, .int f.pos, .int f.refs])) : RwAt H (vs ++ [.ref t]) (rows ++ [(n, f)]) := by
  refine ⟨by rw [List.length_append, List.length_append, x.1]; rfl, fun i w h => ?_⟩
  rcases Nat.lt_or_ge i vs.length with q | q
  · rw [List.getElem?_append_left q] at h
    obtain ⟨n', f', t', e', z⟩ := x.2 i w h
    exact ⟨n', f', t', by rw [List.getElem?_append_left (by rw [← x.1]; exact q)]; exact e', z⟩
  · rw [List.getElem?_append_right q] at h
    have hi : i - vs.length = 0 := by
      have := (List.getElem?_eq_some_iff.mp h).1
      simp at this
      omega
    rw [hi] at h
    cases h
    exact ⟨n, f, t, by rw [List.getElem?_append_right (by rw [← x.1]; exact q), ← x.1, hi]; rfl, rfl, e⟩
/-- a row as data -/
structure RwT where
  n : Int
  f : FD
  deriving DecidableEq
instance : PySem.W.Datum RwT where
  toD t := .tuple [.int t.n, .str t.f.vol, .int t.f.ino, .str t.f.mode, .int t.f.pos, .int t.f.refs]
  plain t := rfl
  eqv t u := by
    obtain ⟨n, v, i, m, p, r⟩ := t
    obtain ⟨n', v', i', m', p', r'⟩ := u
    simp only [PyData.eqv, PyData.eqvAll, PySem.W.beq_decide, Bool.and_true, RwT.mk.injEq, FD.mk.injEq, Bool.decide_and]
  depth := 1
  depth_le t := by simp [PyData.depth, PyData.depthAll]
theorem RwAt.dt {K : PySem.W.Frag} {H : Hp} : ∀ {vs : List V} {rows : FS}, RwAt H vs rows → DtAll K H vs (rows.map fun x => RwT.mk x.1 x.2)
  | [], [], _ => DtAll.nil
  | [], _ :: _, h => by cases h.1
  | _ :: _, [], h => by cases h.1
  | v :: vs, s :: ss, h => by
    obtain ⟨n, f, t, e, rfl, y⟩ := h.2 0 v rfl
    cases e
    exact DtAll.cons (Dp.tup (SqT.of y) (DpAll.cons (Dp.int _) (DpAll.cons (Dp.str _) (DpAll.cons (Dp.int _) (DpAll.cons (Dp.str _) (DpAll.cons (Dp.int _) (DpAll.cons (Dp.int _) DpAll.nil))))))) (RwAt.dt ⟨by simpa using h.1, fun i w hw => h.2 (i + 1) w hw⟩)
def AscD (ys : List Int) (D : FS) : Prop := ys.Perm (keysD D) ∧ ys.Pairwise (· < ·)
def rowD (D : FS) (n : Int) : Int × FD := (n, (findD D n).getD ⟨Str.empty, 0, Str.empty, 0, 0⟩)
theorem asc_eq : ∀ (l m : List Int), l.Pairwise (· < ·) → m.Pairwise (· < ·) → (∀ x, x ∈ l ↔ x ∈ m) → l = m
  | [], [], _, _, _ => rfl
  | [], b :: m, _, _, h => by have := (h b).mpr (List.mem_cons_self ..); cases this
  | a :: l, [], _, _, h => by have := (h a).mp (List.mem_cons_self ..); cases this
  | a :: l, b :: m, hl, hm, h => by
    have hl := List.pairwise_cons.mp hl
    have hm := List.pairwise_cons.mp hm
    have e : a = b := by
      rcases List.mem_cons.mp ((h a).mp (List.mem_cons_self ..)) with q | q
      · exact q
      · rcases List.mem_cons.mp ((h b).mpr (List.mem_cons_self ..)) with r | r
        · exact r.symm
        · have := hm.1 a q
          have := hl.1 b r
          omega
    subst e
    rw [asc_eq l m hl.2 hm.2 fun x => ?_]
    refine ⟨fun q => ?_, fun q => ?_⟩
    · rcases List.mem_cons.mp ((h x).mp (List.mem_cons_of_mem _ q)) with r | r
      · have := hl.1 x q
        omega
      · exact r
    · rcases List.mem_cons.mp ((h x).mpr (List.mem_cons_of_mem _ q)) with r | r
      · have := hm.1 x q
        omega
      · exact r
theorem AscD.eq {ys zs : List Int} {D : FS} (a : AscD ys D) (b : AscD zs D) : ys = zs := asc_eq _ _ a.2 b.2 fun x => by rw [a.1.mem_iff, b.1.mem_iff]
def sp_Handles_open_files (K : PySem.W.Frag) (C : Ex) : Sp := S1 fun x H Q _ => ∃ (h d : Addr) (T : TB), x = .ref h ∧ HnAt C H h d T ∧ T.length < 64 ∧ ∀ H' l vs ys, Same H H' → H' l = some (.lst vs) → AscD ys (datT T) → RwAt H' vs (ys.map (rowD (datT T))) → Q (.ref l) H'
def t_Handles_open_files (K : PySem.W.Frag) (C : Ex) (E : XK) : TS :=
  tSeq (tAsg (tLst (tNil)) (gName 1))
  (tSeq (tFor (iList K (tCB uSortD (tCons (uFld C.Handles "files" (tVar 0)) (tNil)))) (gName 2)
  (tSeq (tAsg (tDGet (uFld C.Handles "files" (tVar 0)) (tVar 2)) (gLst K 5 (gCons (gName 3) (gCons (gName 4) (gCons (gName 5) (gCons (gName 6) (gCons (gName 7) (gNil))))))))
  (tDrop (tBM K "list" (rAppend) (tVar 1) (tCons (tTup (tCons (tVar 2) (tCons (tVar 3) (tCons (tVar 4) (tCons (tVar 5) (tCons (tVar 6) (tCons (tVar 7) (tNil)))))))) (tNil))))))
  (tRet (tVar 1)))
theorem pure_Handles_open_files {K : PySem.W.Frag} {C : Ex} {vs : List V} {H : Hp} {Q : VK} {E : XK} (F : Fa K C) (h : sp_Handles_open_files K C vs H Q E) : t_Handles_open_files K C E { nx := fun _ H' => Q .non H', rt := Q } (start ["self", "files", "number", "volume", "inode", "mode", "position", "references"] vs) H := by
  obtain ⟨x, rfl, h, d, T, rfl, ⟨⟨dx, i⟩, t⟩, hl, k⟩ := h
  have hd := t.dict
  unfold t_Handles_open_files
  walk_at "run1"
  rename_i l hl0
  have s1 := same_new (o := .lst []) hl0
  have e1 : upd H l (.lst []) l = some (.lst []) := upd_same
  generalize upd H l _ = H1 at *
  have i1 := s1 _ _ i
  have hd1 := s1 _ _ hd
  walk_at "run1"
  refine ⟨d, kvsT T, keysD (datT T), rfl, .inl hd1, ?_, by unfold keysD; rw [List.length_map, dat_len]; exact hl, fun ys p py sy hp => ?_⟩
  · rw [← keys_T]
    unfold kvsT
    rw [List.map_map, List.map_map]
    rfl
  have asc : AscD ys (datT T) := by
    refine ⟨py, ?_⟩
    have ny : ys.Nodup := py.nodup_iff.mpr (by rw [← keys_T]; exact t.kd)
    exact (sy.and ny).imp fun h => by have := h.1; have := h.2; omega
  have ly : ys.length = T.length := by rw [py.length_eq]; unfold keysD; rw [List.length_map, dat_len]
  have s2 := same_new (o := .lst (ys.map V.int)) hp
  have e2 : upd H1 p (.lst (ys.map V.int)) p = some (.lst (ys.map V.int)) := upd_same
  generalize upd H1 p _ = H2 at *
  have s12 := s1.trans s2
  walk_at "run1"
  refine f_list (xs := ys.map V.int) (fun j σ H' => Same H H' ∧ ∃ v2 v3 v4 v5 v6 v7 vs, σ = [some (.ref h), some (.ref l), v2, v3, v4, v5, v6, v7] ∧ H' l = some (.lst vs) ∧ H' p = some (.lst (ys.map V.int)) ∧ RwAt H' vs ((ys.take j).map (rowD (datT T))))
    ⟨s12, none, none, none, none, none, none, [], rfl, s2 _ _ e1, e2, rfl, fun i v h => by simp at h⟩ (by rintro j σ H' _ ⟨_, _, _, _, _, _, _, _, _, _, e, _⟩; exact SqL.of e) ?_ ?_
  · rintro j x σ H' hx ⟨s', v2, v3, v4, v5, v6, v7, vs, rfl, el, ep, rw⟩
    obtain ⟨n, hn, rfl⟩ := at_int hx
    have hmem : n ∈ keysD (datT T) := asc.1.mem_iff.mp (List.mem_of_getElem? hn)
    have hs : (findD (datT T) n).isSome = true := findD_key.mpr hmem
    obtain ⟨f, hf⟩ := Option.isSome_iff_exists.mp hs
    have hf0 := hf
    rw [findT_D] at hf
    obtain ⟨pf, hpf, ef⟩ := Option.map_eq_some_iff.mp hf
    obtain ⟨q, f'⟩ := pf
    cases ef
    have i' := s' _ _ i
    have hd' := s' _ _ hd
    have eq' := s' _ _ (t.ent _ (findT_mem hpf))
    unfold entO at eq'
    have hj := (List.getElem?_eq_some_iff.mp hn).1
    have lv := rw.1
    rw [List.length_map, List.length_take] at lv
    walk_at "run1"
    refine w_dgetI hd' (by rw [valV_T, hpf]; rfl) ?_
    walk_at "run1"
    refine w_glst (SqL.of eq') rfl ?_
    walk_at "run1"
    rename_i tt htt
    have sx := same_new (o := .tup [.int n, .str f'.vol, .int f'.ino, .str f'.mode, .int f'.pos, .int f'.refs]) htt
    have ett : upd H' tt (.tup [.int n, .str f'.vol, .int f'.ino, .str f'.mode, .int f'.pos, .int f'.refs]) tt = some (.tup [.int n, .str f'.vol, .int f'.ino, .str f'.mode, .int f'.pos, .int f'.refs]) := upd_same
    generalize upd H' tt _ = H3 at *
    have el3 := sx _ _ el
    have npl : p ≠ l := fun e => by
      rw [e, el] at ep
      have z := congrArg List.length (HO.lst.inj (Option.some.inj ep))
      rw [List.length_map] at z
      omega
    refine w_app el3 (lt_line (by omega)) ?_
    refine ⟨same_upd (s'.trans sx) hl0, _, _, _, _, _, _, _, rfl, upd_same, upd_oth (sx _ _ ep) npl, ?_⟩
    rw [take_snoc hn, List.map_append]
    have e5 : rowD (datT T) n = (n, f') := by unfold rowD; rw [hf0]; rfl
    show RwAt _ _ (_ ++ [rowD (datT T) n])
    rw [e5]
    exact ((rw.same sx).snoc ett).upd el3
  · rintro σ H' ⟨s', v2, v3, v4, v5, v6, v7, vs, rfl, el, ep, rw⟩
    rw [List.length_map, List.take_length] at rw
    walk_at "run1"
    exact k H' l vs ys s' el asc rw
/-- the least number that is not in use -/
def LeastD (D : FS) (n : Nat) : Prop := (n : Int) ∉ keysD D ∧ ∀ j : Nat, j < n → (j : Int) ∈ keysD D
theorem sub_lenH : ∀ {l m : List Int}, l.Nodup → (∀ z ∈ l, z ∈ m) → l.length ≤ m.length
  | [], _, _, _ => Nat.zero_le _
  | a :: l, m, nd, h => by
    obtain ⟨n1, n2⟩ := List.nodup_cons.mp nd
    have ha := h a (List.mem_cons_self ..)
    have z := sub_lenH (l := l) (m := m.erase a) n2 fun z hz => (List.mem_erase_of_ne (fun e => n1 (by rw [← e]; exact hz))).mpr (h z (List.mem_cons_of_mem _ hz))
    rw [List.length_erase_of_mem ha] at z
    have := List.length_pos_of_mem ha
    rw [List.length_cons]
    omega
theorem low_len {D : FS} {k : Nat} (h : ∀ j : Nat, j < k → (j : Int) ∈ keysD D) : k ≤ D.length := by
  have z := sub_lenH (l := (List.range k).map fun i : Nat => (i : Int)) (m := keysD D) (List.pairwise_map.mpr (List.pairwise_lt_range.imp fun h => by omega)) fun z hz => by
    obtain ⟨i, hi, rfl⟩ := List.mem_map.mp hz
    exact h i (List.mem_range.mp hi)
  unfold keysD at z
  rw [List.length_map, List.length_range, List.length_map] at z
  exact z
theorem LeastD.eq {D : FS} {n m : Nat} (a : LeastD D n) (b : LeastD D m) : n = m := by
  rcases Nat.lt_trichotomy n m with h | h | h
  · exact absurd (b.2 n h) a.1
  · exact h
  · exact absurd (a.2 m h) b.1
theorem val_key (T : TB) (n : Int) : (valV (kvsT T) (.inl n)).isSome = decide (n ∈ keysD (datT T)) := by
  have z := findD_key (D := datT T) (n := n)
  rw [findT_D] at z
  rw [valV_T, Option.isSome_map]
  rw [Option.isSome_map] at z
  cases q : (findT T n).isSome with
  | true => rw [q] at z; exact (decide_eq_true (z.mp rfl)).symm
  | false => rw [q] at z; exact (decide_eq_false fun h => by have := z.mpr h; cases this).symm
def sp_Handles_add_open_file (K : PySem.W.Frag) (C : Ex) : Sp := S4 fun x a b c H Q _ => ∃ (h d : Addr) (T : TB) (v m : Str) (i : Int), x = .ref h ∧ a = .str v ∧ b = .int i ∧ c = .str m ∧ HnAt C H h d T ∧ T.length < 64 ∧
  ∀ (n : Nat) H' p, LeastD (datT T) n → HnAt C H' h d (T ++ [((n : Int), p, ⟨v, i, m, 0, 1⟩)]) → Stp (tbF d T) H (tbF d (T ++ [((n : Int), p, ⟨v, i, m, 0, 1⟩)])) H' → Q (.int (n : Int)) H'
def t_Handles_add_open_file (K : PySem.W.Frag) (C : Ex) (E : XK) : TS :=
  tSeq (tAsg (tC (.int 0)) (gName 4))
  (tSeq (tWhile (tTest (tOp (uIn K) (tVar 4) (uFld C.Handles "files" (tVar 0))))
  (tAsg (tOp (uAdd K) (tVar 4) (tC (.int 1))) (gName 4)))
  (tSeq (sDPut (uFld C.Handles "files" (tVar 0)) (tVar 4) (tLst (tCons (tVar 1) (tCons (tVar 2) (tCons (tVar 3) (tCons (tC (.int 0)) (tCons (tC (.int 1)) (tNil))))))))
  (tRet (tVar 4))))
theorem pure_Handles_add_open_file {K : PySem.W.Frag} {C : Ex} {vs : List V} {H : Hp} {Q : VK} {E : XK} (F : Fa K C) (h : sp_Handles_add_open_file K C vs H Q E) : t_Handles_add_open_file K C E { nx := fun _ H' => Q .non H', rt := Q } (start ["self", "volume", "inode", "mode", "number"] vs) H := by
  obtain ⟨x, a, b, c, rfl, h, d, T, v, m, i, rfl, rfl, rfl, rfl, hn, hl, k⟩ := h
  obtain ⟨⟨dx, ih⟩, t⟩ := hn
  have hd := t.dict
  unfold t_Handles_add_open_file
  walk_at "run1"
  refine f_while (fun σ H' => H' = H ∧ ∃ j : Nat, σ = [some (.ref h), some (.str v), some (.int i), some (.str m), some (.int (j : Int))] ∧ ∀ z : Nat, z < j → (z : Int) ∈ keysD (datT T)) (fun σ _ => match σ with
    | [_, _, _, _, some (.int j)] => (200 - j).toNat
    | _ => 0) ⟨rfl, 0, rfl, fun z hz => absurd hz (Nat.not_lt_zero _)⟩ ?_
  rintro σ H' ⟨e, j, rfl, hj⟩
  rw [e]
  clear e H'
  have lj := low_len hj
  rw [dat_len] at lj
  walk_at "run1"
  rw [val_key]
  walk_at "run1"
  · rename_i hm
    refine ⟨⟨rfl, j + 1, rfl, fun z hz => ?_⟩, ?_⟩
    · rcases Nat.lt_succ_iff_lt_or_eq.mp hz with q | q
      · exact hj z q
      · rw [q]; exact hm
    · show (200 - ((j : Int) + 1)).toNat < (200 - (j : Int)).toNat
      omega
  · rename_i hm
    walk_at "run1"
    rename_i p hp
    have e1 : upd H p (.lst [.str v, .int i, .str m, .int 0, .int 1]) p = some (entO ⟨v, i, m, 0, 1⟩) := upd_same
    have s1 : Same H (upd H p (.lst [.str v, .int i, .str m, .int 0, .int 1])) := same_new hp
    generalize upd H p (.lst [.str v, .int i, .str m, .int 0, .int 1]) = H1 at *
    have hd1 := s1 _ _ hd
    have hm2 : (j : Int) ∉ T.map (·.1) := by rw [keys_T]; exact hm
    refine w_dputI hd1 (by rw [T_len]; omega) ?_
    have t2 := t.add (f := ⟨v, i, m, 0, 1⟩) hm2 s1 hp e1
    have st2 := TbAt.add_stp (d := d) (T := T) (n := (j : Int)) (f := ⟨v, i, m, 0, 1⟩) s1 hp (o := .dK (kvsT (T ++ [((j : Int), p, ⟨v, i, m, 0, 1⟩)])))
    rw [put_T (f := ⟨v, i, m, 0, 1⟩) hm2]
    walk_at "run1"
    exact k j _ p ⟨hm, hj⟩ (HnAt.tb ⟨⟨dx, ih⟩, t⟩ t2 st2) st2
def sp_Handles_look_up (K : PySem.W.Frag) (C : Ex) : Sp := S2 fun x c H Q E => ∃ (h d : Addr) (T : TB) (n : Int), x = .ref h ∧ c = .int n ∧ HnAt C H h d T ∧ (findT T n = none → E (.ref C.BadHandle) none H) ∧ ∀ p f, findT T n = some (p, f) → ∀ l, H l = none → Q (.ref l) (upd H l (.tup [.str f.vol, .int f.ino, .str f.mode, .int f.pos]))
def t_Handles_look_up (K : PySem.W.Frag) (C : Ex) (E : XK) : TS :=
  tSeq (tAsg (uMeth C.Handles "_look" (sp_Handles__look K C) (WB E) (tVar 0) (tCons (tVar 1) (tNil))) (gLst K 5 (gCons (gName 2) (gCons (gName 3) (gCons (gName 4) (gCons (gName 5) (gCons (gName 6) (gNil))))))))
  (tRet (tTup (tCons (tVar 2) (tCons (tVar 3) (tCons (tVar 4) (tCons (tVar 5) (tNil)))))))
theorem pure_Handles_look_up {K : PySem.W.Frag} {C : Ex} {vs : List V} {H : Hp} {Q : VK} {E : XK} (F : Fa K C) (h : sp_Handles_look_up K C vs H Q E) : t_Handles_look_up K C E { nx := fun _ H' => Q .non H', rt := Q } (start ["self", "number", "volume", "inode", "mode", "position", "_"] vs) H := by
  obtain ⟨x, c, rfl, h, d, T, n, rfl, rfl, hn, k1, k2⟩ := h
  obtain ⟨⟨dx, i⟩, t⟩ := hn
  unfold t_Handles_look_up
  walk_at "run1"
  refine w_S2 ⟨h, d, T, n, rfl, rfl, ⟨⟨dx, i⟩, t⟩, fun hf => k1 hf, fun p f hf => ?_⟩
  have ep := t.ent _ (findT_mem hf)
  unfold entO at ep
  walk_at "run1"
  refine w_glst (SqL.of ep) rfl ?_
  walk_at "run1"
  rename_i l hl
  exact k2 p f hf l hl
def sp_Handles_move_to (K : PySem.W.Frag) (C : Ex) : Sp := S3 fun x c u H Q E => ∃ (h d : Addr) (T : TB) (n z : Int), x = .ref h ∧ c = .int n ∧ u = .int z ∧ HnAt C H h d T ∧ (findT T n = none → E (.ref C.BadHandle) none H) ∧
  ∀ p f, findT T n = some (p, f) → (¬ (0 ≤ z ∧ z ≤ 2048) → E (.ref C.NotValid) none H) ∧ (0 ≤ z ∧ z ≤ 2048 → ∀ H', HnAt C H' h d (setT T n { f with pos := z }) → Stp (tbF d T) H (tbF d (setT T n { f with pos := z })) H' → Q .non H')
def t_Handles_move_to (K : PySem.W.Frag) (C : Ex) (E : XK) : TS :=
  tSeq (tAsg (uMeth C.Handles "_look" (sp_Handles__look K C) (WB E) (tVar 0) (tCons (tVar 1) (tNil))) (gName 3))
  (tSeq (tIfS (tNot (tTest (tChain (uLe K) (uLe K) (tC (.int 0)) (tVar 2) (tC (.int 2048))))) (uRaise C.NotValid (WB E)) (tNext))
  (tAsg (tVar 2) (gSub (tVar 3) (tC (.int 3)) uSet)))
theorem pure_Handles_move_to {K : PySem.W.Frag} {C : Ex} {vs : List V} {H : Hp} {Q : VK} {E : XK} (F : Fa K C) (h : sp_Handles_move_to K C vs H Q E) : t_Handles_move_to K C E { nx := fun _ H' => Q .non H', rt := Q } (start ["self", "number", "position", "file"] vs) H := by
  obtain ⟨x, c, u, rfl, h, d, T, n, z, rfl, rfl, rfl, hn, k1, k2⟩ := h
  obtain ⟨⟨dx, i⟩, t⟩ := hn
  unfold t_Handles_move_to
  walk_at "run1"
  refine w_S2 ⟨h, d, T, n, rfl, rfl, ⟨⟨dx, i⟩, t⟩, fun hf => k1 hf, fun p f hf => ?_⟩
  obtain ⟨k3, k4⟩ := k2 p f hf
  have ep := t.ent _ (findT_mem hf)
  have fin : 0 ≤ z ∧ z ≤ 2048 → Q .non (upd H p (entO { f with pos := z })) := fun hz => k4 hz _ (HnAt.tb ⟨⟨dx, i⟩, t⟩ (t.set hf) (TbAt.set_stp hf)) (TbAt.set_stp hf)
  unfold entO at ep fin
  walk_at "run1"
  · rename_i h1 h2
    exact k3 fun q => h2 q.2
  · walk_at "run1"
    rename_i h1 h2
    refine w_setL ep ⟨by decide, by show 3 < 5; decide⟩ ?_
    exact fin ⟨h1, h2⟩
  · walk_at "run1"
    rename_i h1
    exact k3 fun q => h1 q.1
def sp_Handles_add_reference (K : PySem.W.Frag) (C : Ex) : Sp := S2 fun x c H Q E => ∃ (h d : Addr) (T : TB) (n : Int), x = .ref h ∧ c = .int n ∧ HnAt C H h d T ∧ (findT T n = none → E (.ref C.BadHandle) none H) ∧
  ∀ p f, findT T n = some (p, f) → ∀ H', HnAt C H' h d (setT T n { f with refs := f.refs + 1 }) → Stp (tbF d T) H (tbF d (setT T n { f with refs := f.refs + 1 })) H' → Q .non H'
def t_Handles_add_reference (K : PySem.W.Frag) (C : Ex) (E : XK) : TS :=
  tSeq (tAsg (uMeth C.Handles "_look" (sp_Handles__look K C) (WB E) (tVar 0) (tCons (tVar 1) (tNil))) (gName 2))
  (tAsg (tOp (uAdd K) (tOp (uIx K) (tVar 2) (tC (.int 4))) (tC (.int 1))) (gSub (tVar 2) (tC (.int 4)) uSet))
theorem pure_Handles_add_reference {K : PySem.W.Frag} {C : Ex} {vs : List V} {H : Hp} {Q : VK} {E : XK} (F : Fa K C) (h : sp_Handles_add_reference K C vs H Q E) : t_Handles_add_reference K C E { nx := fun _ H' => Q .non H', rt := Q } (start ["self", "number", "file"] vs) H := by
  obtain ⟨x, c, rfl, h, d, T, n, rfl, rfl, hn, k1, k2⟩ := h
  obtain ⟨⟨dx, i⟩, t⟩ := hn
  unfold t_Handles_add_reference
  walk_at "run1"
  refine w_S2 ⟨h, d, T, n, rfl, rfl, ⟨⟨dx, i⟩, t⟩, fun hf => k1 hf, fun p f hf => ?_⟩
  have ep := t.ent _ (findT_mem hf)
  have fin : Q .non (upd H p (entO { f with refs := f.refs + 1 })) := k2 p f hf _ (HnAt.tb ⟨⟨dx, i⟩, t⟩ (t.set hf) (TbAt.set_stp hf)) (TbAt.set_stp hf)
  unfold entO at ep fin
  walk_at "run1"
  refine w_setL ep ⟨by decide, by show 4 < 5; decide⟩ ?_
  exact fin
theorem any_take {D : FS} {g : Int × FD → Bool} {i : Nat} {x : Int × FD} (h : D[i]? = some x) (a : ∀ y ∈ D.take i, g y = false) (b : g x = false) : ∀ y ∈ D.take (i + 1), g y = false := fun y hy => by
  rw [take_snoc h] at hy
  rcases List.mem_append.mp hy with q | q
  · exact a y q
  · rw [List.mem_singleton.mp q]; exact b
theorem at_T {T : TB} {i : Nat} {k : Key} {v : V} (h : (kvsT T)[i]? = some (k, v)) : ∃ x, T[i]? = some x ∧ k = .inl x.1 ∧ v = .ref x.2.1 := by
  unfold kvsT at h
  rw [List.getElem?_map] at h
  obtain ⟨x, hx, e⟩ := Option.map_eq_some_iff.mp h
  cases e
  exact ⟨x, hx, rfl, rfl⟩
theorem dat_at {T : TB} {i : Nat} {x : Int × Addr × FD} (h : T[i]? = some x) : (datT T)[i]? = some (x.1, x.2.2) := by unfold datT; rw [List.getElem?_map, h]; rfl
theorem val_at {T : TB} {i : Nat} {x : Int × Addr × FD} (kd : (T.map (·.1)).Nodup) (h : T[i]? = some x) : valV (kvsT T) (.inl x.1) = some (.ref x.2.1) := by
  rw [valV_T]
  cases q : findT T x.1 with
  | none =>
    unfold findT at q
    have z := List.find?_eq_none.mp (Option.map_eq_none_iff.mp q) x (List.mem_of_getElem? h)
    exact absurd (decide_eq_true rfl) z
  | some pf =>
    obtain ⟨p, f⟩ := pf
    have e := uniqM kd (findT_mem q) (List.mem_of_getElem? h) rfl
    rw [← e]
    rfl
def sp_Handles_is_open (K : PySem.W.Frag) (C : Ex) : Sp := S3 fun x a b H Q _ => ∃ (h d : Addr) (T : TB) (v : Str) (i : Int), x = .ref h ∧ a = .str v ∧ b = .int i ∧ HnAt C H h d T ∧ Q (.bl (openD (datT T) v i)) H
def t_Handles_is_open (K : PySem.W.Frag) (C : Ex) (E : XK) : TS :=
  tSeq (tLock (tFor (iKeys (uFld C.Handles "files" (tVar 0))) (gName 3)
  (tIfS (tAnd (tTest (tOp (uEq K) (tOp (uIx K) (tDGet (uFld C.Handles "files" (tVar 0)) (tVar 3)) (tC (.int 0))) (tVar 1))) (tTest (tOp (uEq K) (tOp (uIx K) (tDGet (uFld C.Handles "files" (tVar 0)) (tVar 3)) (tC (.int 1))) (tVar 2)))) (tRet (tC (.bl true))) (tNext))))
  (tRet (tC (.bl false)))
theorem pure_Handles_is_open {K : PySem.W.Frag} {C : Ex} {vs : List V} {H : Hp} {Q : VK} {E : XK} (F : Fa K C) (h : sp_Handles_is_open K C vs H Q E) : t_Handles_is_open K C E { nx := fun _ H' => Q .non H', rt := Q } (start ["self", "volume", "inode", "number"] vs) H := by
  obtain ⟨x, a, b, rfl, h, d, T, v, i, rfl, rfl, rfl, hn, k⟩ := h
  obtain ⟨⟨dx, ih⟩, t⟩ := hn
  have hd := t.dict
  have nhd : h ≠ d := ne_of ih hd fun z => nomatch z
  unfold t_Handles_is_open
  walk_at "run1"
  refine ⟨d, _, hd, trivial, fun od => ?_⟩
  have ih1 := upd_oth (o := .frz od (.dK (kvsT T))) ih nhd
  have e1 : upd H d (.frz od (.dK (kvsT T))) d = some (.frz od (.dK (kvsT T))) := upd_same
  have bk : ∀ o : HO, upd (upd H d o) d (.dK (kvsT T)) = H := fun o => upd_back hd
  walk_at "run1"
  refine w_iKeysv e1 ?_
  refine f_keys (kvs := kvsT T) (fun j σ H' => H' = upd H d (.frz od (.dK (kvsT T))) ∧ (∃ v3, σ = [some (.ref h), some (.str v), some (.int i), v3]) ∧ ∀ y ∈ (datT T).take j, (decide (y.2.vol = v) && decide (y.2.ino = i)) = false) ⟨rfl, ⟨none, rfl⟩, fun y hy => by simp at hy⟩ (by rintro j σ H' _ ⟨rfl, _⟩; exact e1) ?_ ?_
  · rintro j kk vv σ H' hk ⟨e, ⟨v3, rfl⟩, hj⟩
    rw [e]
    clear e H'
    obtain ⟨y, hy, rfl, rfl⟩ := at_T hk
    have hym := List.mem_of_getElem? hy
    have ey := upd_oth (o := .frz od (.dK (kvsT T))) (t.ent y hym) (t.ad_ne hym)
    unfold entO at ey
    have vy := val_at t.kd hy
    have dy := dat_at hy
    rw [show kV (.inl y.1) = V.int y.1 from rfl]
    walk_at "run1"
    refine w_dgetF e1 vy ?_
    walk_at "run1"
    · rename_i h1
      refine w_dgetF e1 vy ?_
      walk_at "run1"
      · rename_i h2
        refine ⟨e1, ?_⟩
        rw [bk]
        have z : openD (datT T) v i = true := List.any_eq_true.mpr ⟨_, List.mem_of_getElem? dy, by rw [decide_eq_true h1, decide_eq_true h2]; rfl⟩
        rw [z] at k
        exact k
      · walk_at "run1"
        rename_i h2
        exact ⟨rfl, ⟨_, rfl⟩, any_take dy hj (by rw [decide_eq_false h2, Bool.and_false])⟩
    · walk_at "run1"
      rename_i h1
      exact ⟨rfl, ⟨_, rfl⟩, any_take dy hj (by rw [decide_eq_false h1, Bool.false_and])⟩
  · rintro σ H' ⟨e, ⟨v3, rfl⟩, hj⟩
    rw [e]
    clear e H'
    refine ⟨e1, ?_⟩
    rw [bk]
    walk_at "run1"
    have z : openD (datT T) v i = false := by
      refine List.any_eq_false.mpr fun y hy => ?_
      rw [T_len, ← dat_len, List.take_length] at hj
      rw [hj y hy]
      exact Bool.false_ne_true
    rw [z] at k
    exact k
def sp_Handles_uses_volume (K : PySem.W.Frag) (C : Ex) : Sp := S2 fun x a H Q _ => ∃ (h d : Addr) (T : TB) (v : Str), x = .ref h ∧ a = .str v ∧ HnAt C H h d T ∧ Q (.bl (usedD (datT T) v)) H
def t_Handles_uses_volume (K : PySem.W.Frag) (C : Ex) (E : XK) : TS :=
  tSeq (tLock (tFor (iKeys (uFld C.Handles "files" (tVar 0))) (gName 2)
  (tIfS (tTest (tOp (uEq K) (tOp (uIx K) (tDGet (uFld C.Handles "files" (tVar 0)) (tVar 2)) (tC (.int 0))) (tVar 1))) (tRet (tC (.bl true))) (tNext))))
  (tRet (tC (.bl false)))
theorem pure_Handles_uses_volume {K : PySem.W.Frag} {C : Ex} {vs : List V} {H : Hp} {Q : VK} {E : XK} (F : Fa K C) (h : sp_Handles_uses_volume K C vs H Q E) : t_Handles_uses_volume K C E { nx := fun _ H' => Q .non H', rt := Q } (start ["self", "volume", "number"] vs) H := by
  obtain ⟨x, a, rfl, h, d, T, v, rfl, rfl, hn, k⟩ := h
  obtain ⟨⟨dx, ih⟩, t⟩ := hn
  have hd := t.dict
  have nhd : h ≠ d := ne_of ih hd fun z => nomatch z
  unfold t_Handles_uses_volume
  walk_at "run1"
  refine ⟨d, _, hd, trivial, fun od => ?_⟩
  have ih1 := upd_oth (o := .frz od (.dK (kvsT T))) ih nhd
  have e1 : upd H d (.frz od (.dK (kvsT T))) d = some (.frz od (.dK (kvsT T))) := upd_same
  have bk : ∀ o : HO, upd (upd H d o) d (.dK (kvsT T)) = H := fun o => upd_back hd
  walk_at "run1"
  refine w_iKeysv e1 ?_
  refine f_keys (kvs := kvsT T) (fun j σ H' => H' = upd H d (.frz od (.dK (kvsT T))) ∧ (∃ v3, σ = [some (.ref h), some (.str v), v3]) ∧ ∀ y ∈ (datT T).take j, decide (y.2.vol = v) = false) ⟨rfl, ⟨none, rfl⟩, fun y hy => by simp at hy⟩ (by rintro j σ H' _ ⟨rfl, _⟩; exact e1) ?_ ?_
  · rintro j kk vv σ H' hk ⟨e, ⟨v3, rfl⟩, hj⟩
    rw [e]
    clear e H'
    obtain ⟨y, hy, rfl, rfl⟩ := at_T hk
    have hym := List.mem_of_getElem? hy
    have ey := upd_oth (o := .frz od (.dK (kvsT T))) (t.ent y hym) (t.ad_ne hym)
    unfold entO at ey
    have vy := val_at t.kd hy
    have dy := dat_at hy
    rw [show kV (.inl y.1) = V.int y.1 from rfl]
    walk_at "run1"
    refine w_dgetF e1 vy ?_
    walk_at "run1"
    · rename_i h1
      refine ⟨e1, ?_⟩
      rw [bk]
      have z : usedD (datT T) v = true := List.any_eq_true.mpr ⟨_, List.mem_of_getElem? dy, decide_eq_true h1⟩
      rw [z] at k
      exact k
    · walk_at "run1"
      rename_i h1
      exact ⟨rfl, ⟨_, rfl⟩, any_take dy hj (decide_eq_false h1)⟩
  · rintro σ H' ⟨e, ⟨v3, rfl⟩, hj⟩
    rw [e]
    clear e H'
    refine ⟨e1, ?_⟩
    rw [bk]
    walk_at "run1"
    have z : usedD (datT T) v = false := by
      refine List.any_eq_false.mpr fun y hy => ?_
      rw [T_len, ← dat_len, List.take_length] at hj
      rw [hj y hy]
      exact Bool.false_ne_true
    rw [z] at k
    exact k
/-- what a drop of a reference leaves, and tells -/
def dropF (D : FS) (n : Int) (f : FD) : FS := if 0 < f.refs - 1 then setD D n { f with refs := f.refs - 1 } else delD (setD D n { f with refs := f.refs - 1 }) n
def toldD (D : FS) (n : Int) (f : FD) : Option (Str × Int) := if 0 < f.refs - 1 then none else if openD (delD (setD D n { f with refs := f.refs - 1 }) n) f.vol f.ino = true then none else some (f.vol, f.ino)
def ToldAt (H : Hp) (v : V) : Option (Str × Int) → Prop
  | none => v = .non
  | some (s, i) => ∃ l, v = .ref l ∧ H l = some (.tup [.str s, .int i])
def sp_Handles_drop_reference (K : PySem.W.Frag) (C : Ex) : Sp := S2 fun x c H Q E => ∃ (h d : Addr) (T : TB) (n : Int), x = .ref h ∧ c = .int n ∧ HnAt C H h d T ∧ (findT T n = none → E (.ref C.BadHandle) none H) ∧
  ∀ p f, findT T n = some (p, f) → ∀ H' T' v, datT T' = dropF (datT T) n f → HnAt C H' h d T' → Stp (tbF d T) H (tbF d T') H' → ToldAt H' v (toldD (datT T) n f) → Q v H'
def t_Handles_drop_reference (K : PySem.W.Frag) (C : Ex) (E : XK) : TS :=
  tSeq (tAsg (uMeth C.Handles "_look" (sp_Handles__look K C) (WB E) (tVar 0) (tCons (tVar 1) (tNil))) (gName 2))
  (tSeq (tAsg (tOp (uSub) (tOp (uIx K) (tVar 2) (tC (.int 4))) (tC (.int 1))) (gSub (tVar 2) (tC (.int 4)) uSet))
  (tSeq (tIfS (tTest (tOp (uGt) (tOp (uIx K) (tVar 2) (tC (.int 4))) (tC (.int 0)))) (tRet (tC .non)) (tNext))
  (tSeq (sDDel (uFld C.Handles "files" (tVar 0)) (tVar 1))
  (tSeq (tIfS (uTru K (uMeth C.Handles "is_open" (sp_Handles_is_open K C) (WB E) (tVar 0) (tCons (tOp (uIx K) (tVar 2) (tC (.int 0))) (tCons (tOp (uIx K) (tVar 2) (tC (.int 1))) (tNil))))) (tRet (tC .non)) (tNext))
  (tRet (tTup (tCons (tOp (uIx K) (tVar 2) (tC (.int 0))) (tCons (tOp (uIx K) (tVar 2) (tC (.int 1))) (tNil)))))))))
theorem pure_Handles_drop_reference {K : PySem.W.Frag} {C : Ex} {vs : List V} {H : Hp} {Q : VK} {E : XK} (F : Fa K C) (h : sp_Handles_drop_reference K C vs H Q E) : t_Handles_drop_reference K C E { nx := fun _ H' => Q .non H', rt := Q } (start ["self", "number", "file"] vs) H := by
  obtain ⟨x, c, rfl, h, d, T, n, rfl, rfl, hn, k1, k2⟩ := h
  obtain ⟨⟨dx, i⟩, t⟩ := hn
  unfold t_Handles_drop_reference
  walk_at "run1"
  refine w_S2 ⟨h, d, T, n, rfl, rfl, ⟨⟨dx, i⟩, t⟩, fun hf => k1 hf, fun p f hf => ?_⟩
  have k2 := k2 p f hf
  have ep := t.ent _ (findT_mem hf)
  have t2 := t.set (f' := { f with refs := f.refs - 1 }) hf
  have st2 := TbAt.set_stp (d := d) (H := H) (f' := { f with refs := f.refs - 1 }) hf
  have hn2 := HnAt.tb (C := C) (h := h) ⟨⟨dx, i⟩, t⟩ t2 st2
  have ds := dat_set T n { f with refs := f.refs - 1 }
  have ep2 : upd H p (entO { f with refs := f.refs - 1 }) p = some (.lst [.str f.vol, .int f.ino, .str f.mode, .int f.pos, .int (f.refs - 1)]) := upd_same
  have eo : entO { f with refs := f.refs - 1 } = .lst ([V.str f.vol, .int f.ino, .str f.mode, .int f.pos, .int f.refs].set (Int.toNat 4) (.int (f.refs - 1))) := rfl
  rw [eo] at t2 st2 hn2 ep2
  unfold entO at ep
  walk_at "run1"
  refine w_setL ep ⟨by decide, by show 4 < 5; decide⟩ ?_
  generalize upd H p (.lst ([V.str f.vol, .int f.ino, .str f.mode, .int f.pos, .int f.refs].set (Int.toNat 4) (.int (f.refs - 1)))) = H2 at *
  obtain ⟨dx2, i2⟩ := hn2.1
  have hd2 := hn2.2.dict
  have hkey : (valV (kvsT (setT T n { f with refs := f.refs - 1 })) (.inl n)).isSome = true := by rw [kvs_set, valV_T, hf]; rfl
  have hm : n ∈ T.map (·.1) := List.mem_map.mpr ⟨_, findT_mem hf, rfl⟩
  walk_at "run1"
  · rename_i hg
    have hg : 0 < f.refs - 1 := hg
    exact k2 H2 _ _ (by rw [dat_set]; unfold dropF; rw [if_pos hg]) hn2 st2 (by unfold toldD; rw [if_pos hg]; rfl)
  · rename_i hg
    have hg : ¬ 0 < f.refs - 1 := hg
    walk_at "run1"
    refine w_delI hd2 hkey ?_
    rw [kvs_del]
    have t3 := hn2.2.del (n := n)
    have st3 := hn2.2.del_stp (n := n)
    have hn3 := HnAt.tb hn2 t3 st3
    have ndp : p ≠ d := ne_of ep2 hd2 fun z => nomatch z
    have ep3 := upd_oth (o := .dK (kvsT (delT (setT T n { f with refs := f.refs - 1 }) n))) ep2 ndp
    generalize upd H2 d _ = H3 at *
    obtain ⟨dx3, i3⟩ := hn3.1
    have dd : datT (delT (setT T n { f with refs := f.refs - 1 }) n) = dropF (datT T) n f := by rw [dat_del, dat_set]; unfold dropF; rw [if_neg hg]
    have d2 : datT (delT (setT T n { f with refs := f.refs - 1 }) n) = delD (setD (datT T) n { f with refs := f.refs - 1 }) n := by rw [dat_del, dat_set]
    walk_at "run1"
    refine w_S3 ⟨h, d, _, f.vol, f.ino, rfl, rfl, rfl, hn3, ?_⟩
    rw [d2]
    cases ho : openD (delD (setD (datT T) n { f with refs := f.refs - 1 }) n) f.vol f.ino with
    | true =>
      walk_at "run1"
      exact k2 H3 _ _ dd hn3 (st2.trans st3) (by unfold toldD; rw [if_neg hg, if_pos ho]; rfl)
    | false =>
      walk_at "run1"
      rename_i l hl
      have sx := same_new (o := .tup [.str f.vol, .int f.ino]) hl
      exact k2 _ _ _ dd (hn3.same sx) ((st2.trans st3).trans (.same sx)) (by unfold toldD; rw [if_neg hg, if_neg (by rw [ho]; exact Bool.false_ne_true)]; exact ⟨l, rfl, upd_same⟩)
inductive Ans where
  | txt (s : Str) | non | pair (v : Str) (i : Int) | quad (v : Str) (i : Int) (m : Str) (p : Int)
  deriving DecidableEq
def ansD : Ans → PyData
  | .txt s => .str s
  | .non => .none
  | .pair v i => .tuple [.str v, .int i]
  | .quad v i m p => .tuple [.str v, .int i, .str m, .int p]
instance : PySem.W.Datum Ans where
  toD a := .list [ansD a]
  plain a := by cases a <;> rfl
  eqv a b := by
    cases a <;> cases b <;> simp only [ansD, PyData.eqv, PyData.eqvAll, PySem.W.beq_decide, Bool.and_true, Bool.and_false, Ans.txt.injEq, Ans.pair.injEq, Ans.quad.injEq, Bool.decide_and, reduceCtorEq, decide_true, decide_false]
  depth := 2
  depth_le a := by cases a <;> simp [ansD, PyData.depth, PyData.depthAll]
def ItAt (H : Hp) (x : V) : Ans → Prop
  | .txt s => x = .str s
  | .non => x = .non
  | .pair v i => ∃ t, x = .ref t ∧ H t = some (.tup [.str v, .int i])
  | .quad v i m p => ∃ t, x = .ref t ∧ H t = some (.tup [.str v, .int i, .str m, .int p])
def AnsAt (H : Hp) (v : V) (a : Ans) : Prop := ∃ l x, v = .ref l ∧ H l = some (.lst [x]) ∧ ItAt H x a
theorem ItAt.same {H H' : Hp} {x : V} (s : Same H H') : ∀ {a : Ans}, ItAt H x a → ItAt H' x a
  | .txt _, h => h
  | .non, h => h
  | .pair _ _, ⟨t, e, h⟩ => ⟨t, e, s _ _ h⟩
  | .quad _ _ _ _, ⟨t, e, h⟩ => ⟨t, e, s _ _ h⟩
theorem AnsAt.same {H H' : Hp} {v : V} {a : Ans} (s : Same H H') (h : AnsAt H v a) : AnsAt H' v a := by
  obtain ⟨l, x, e, h1, h2⟩ := h
  exact ⟨l, x, e, s _ _ h1, h2.same s⟩
theorem ItAt.dp {K : PySem.W.Frag} {H : Hp} {x : V} : ∀ {a : Ans}, ItAt H x a → Dp K H x (ansD a)
  | .txt s, h => by cases h; exact Dp.str _
  | .non, h => by cases h; exact Dp.non
  | .pair _ _, ⟨t, e, h⟩ => by cases e; exact Dp.tup (SqT.of h) (DpAll.cons (Dp.str _) (DpAll.cons (Dp.int _) DpAll.nil))
  | .quad _ _ _ _, ⟨t, e, h⟩ => by cases e; exact Dp.tup (SqT.of h) (DpAll.cons (Dp.str _) (DpAll.cons (Dp.int _) (DpAll.cons (Dp.str _) (DpAll.cons (Dp.int _) DpAll.nil))))
theorem AnsAt.dt {K : PySem.W.Frag} {H : Hp} {v : V} {a : Ans} (h : AnsAt H v a) : Dt K H v a := by
  obtain ⟨l, x, rfl, h1, h2⟩ := h
  exact Dp.lst (SqL.of h1) (DpAll.cons h2.dp DpAll.nil)
/-- an answer in a list of its own -/
theorem AnsAt.new {H : Hp} {x : V} {a : Ans} {l : Addr} (hl : H l = none) (h : ItAt H x a) : AnsAt (upd H l (.lst [x])) (.ref l) a := ⟨l, x, rfl, upd_same, h.same (same_new hl)⟩
def nextD (D : FS) (k n z : Int) : FS := match findD D n with
  | none => D
  | some f => if k = 1 then setD D n { f with refs := f.refs + 1 } else if k = 2 then dropF D n f else if k = 3 then (if 0 ≤ z ∧ z ≤ 2048 then setD D n { f with pos := z } else D) else D
def dueD (D : FS) (k n z : Int) : Ans := match findD D n with
  | none => .txt "BadHandle"
  | some f => if k = 1 then .non else if k = 2 then (match toldD D n f with
    | none => .non
    | some (v, i) => .pair v i) else if k = 3 then (if 0 ≤ z ∧ z ≤ 2048 then .non else .txt "NotValid") else .quad f.vol f.ino f.mode f.pos
theorem next_none {T : TB} {k n z : Int} (h : findT T n = none) : nextD (datT T) k n z = datT T ∧ dueD (datT T) k n z = .txt "BadHandle" := by
  unfold nextD dueD
  rw [findT_D, h]
  exact ⟨rfl, rfl⟩
theorem next_some {T : TB} {k n z : Int} {p : Addr} {f : FD} (h : findT T n = some (p, f)) : nextD (datT T) k n z = (if k = 1 then setD (datT T) n { f with refs := f.refs + 1 } else if k = 2 then dropF (datT T) n f else if k = 3 then (if 0 ≤ z ∧ z ≤ 2048 then setD (datT T) n { f with pos := z } else datT T) else datT T) ∧ dueD (datT T) k n z = (if k = 1 then .non else if k = 2 then (match toldD (datT T) n f with
    | none => .non
    | some (v, i) => .pair v i) else if k = 3 then (if 0 ≤ z ∧ z ≤ 2048 then .non else .txt "NotValid") else .quad f.vol f.ino f.mode f.pos) := by
  unfold nextD dueD
  rw [findT_D, h]
  exact ⟨rfl, rfl⟩
def spx__law_classes (K : PySem.W.Frag) (C : Ex) (a : Addr) (cls : Value) : Sp := S1 fun x H Q _ => x = .ref a ∧ ((cls = .ref C.BadHandle ∧ ∀ l H', Same H H' → AnsAt H' (.ref l) (.txt "BadHandle") → Q (.ref l) H') ∨ (cls = .ref C.NotValid ∧ ∀ l H', Same H H' → AnsAt H' (.ref l) (.txt "NotValid") → Q (.ref l) H'))
def tx__law_classes (K : PySem.W.Frag) (C : Ex) (a : Addr) (cls : Value) (E : XK) : TS :=
  tSeq (tAsg (tLst (tNil)) (gName 1))
  (tCut (tIfS (uTru K (tCB (uIsE K a cls none) (tCons (tVar 0) (tCons (tC (.ref C.BadHandle)) (tNil))))) (tDrop (tBM K "list" (rAppend) (tVar 1) (tCons (tC (.str "BadHandle")) (tNil)))) (tNext))
  (tCut (tIfS (uTru K (tCB (uIsE K a cls none) (tCons (tVar 0) (tCons (tC (.ref C.NotValid)) (tNil))))) (tDrop (tBM K "list" (rAppend) (tVar 1) (tCons (tC (.str "NotValid")) (tNil)))) (tNext))
  (tRet (tVar 1))))
theorem purex__law_classes {K : PySem.W.Frag} {C : Ex} {a : Addr} {cls : Value} {vs : List V} {H : Hp} {Q : VK} {E : XK} (F : Fa K C) (h : spx__law_classes K C a cls vs H Q E) : tx__law_classes K C a cls E { nx := fun _ H' => Q .non H', rt := Q } (start ["_law_error", "_law_found"] vs) H := by
  obtain ⟨x, rfl, rfl, ⟨rfl, k⟩ | ⟨rfl, k⟩⟩ := h
  · unfold tx__law_classes
    walk_at "run1"
    rename_i l hl
    have s1 := same_new (o := .lst []) hl
    have e1 : upd H l (.lst []) l = some (.lst []) := upd_same
    generalize upd H l _ = H1 at *
    refine w_cutS ?_
    walk_at "run1"
    refine w_app e1 (by decide) ?_
    refine w_cutS ?_
    walk_at "run1"
    exact k l _ (same_upd s1 hl) ⟨l, _, rfl, upd_same, rfl⟩
  · unfold tx__law_classes
    walk_at "run1"
    rename_i l hl
    have s1 := same_new (o := .lst []) hl
    have e1 : upd H l (.lst []) l = some (.lst []) := upd_same
    generalize upd H l _ = H1 at *
    refine w_cutS ?_
    walk_at "run1"
    refine w_cutS ?_
    walk_at "run1"
    refine w_app e1 (by decide) ?_
    walk_at "run1"
    exact k l _ (same_upd s1 hl) ⟨l, _, rfl, upd_same, rfl⟩
def sp__law_play (K : PySem.W.Frag) (C : Ex) : Sp := S4 fun x a b c H Q _ => ∃ (h d : Addr) (T : TB) (k n z : Int), x = .ref h ∧ a = .int k ∧ b = .int n ∧ c = .int z ∧ HnAt C H h d T ∧
  ∀ H' T' v, datT T' = nextD (datT T) k n z → HnAt C H' h d T' → Stp (tbF d T) H (tbF d T') H' → AnsAt H' v (dueD (datT T) k n z) → Q v H'
def t__law_play (K : PySem.W.Frag) (C : Ex) (E : XK) : TS :=
  tSeq (uTryAs K (.ref C.LaminaError) 4 (fun W => tIfS (tTest (tOp (uEq K) (tVar 1) (tC (.int 1)))) (tDrop (uMeth C.Handles "add_reference" (sp_Handles_add_reference K C) W (tVar 0) (tCons (tVar 2) (tNil)))) (tIfS (tTest (tOp (uEq K) (tVar 1) (tC (.int 2)))) (tRet (tLst (tCons (uMeth C.Handles "drop_reference" (sp_Handles_drop_reference K C) W (tVar 0) (tCons (tVar 2) (tNil))) (tNil)))) (tIfS (tTest (tOp (uEq K) (tVar 1) (tC (.int 3)))) (tDrop (uMeth C.Handles "move_to" (sp_Handles_move_to K C) W (tVar 0) (tCons (tVar 2) (tCons (tVar 3) (tNil))))) (tRet (tLst (tCons (uMeth C.Handles "look_up" (sp_Handles_look_up K C) W (tVar 0) (tCons (tVar 2) (tNil))) (tNil))))))) (fun a cls d => tRet (uCallX a cls d (spx__law_classes K C) (tCons (tVar 4) (tNil)))) (WB E))
  (tRet (tLst (tCons (tC .non) (tNil))))
theorem pure__law_play {K : PySem.W.Frag} {C : Ex} {vs : List V} {H : Hp} {Q : VK} {E : XK} (F : Fa K C) (h : sp__law_play K C vs H Q E) : t__law_play K C E { nx := fun _ H' => Q .non H', rt := Q } (start ["_law_handles", "_law_deed", "_law_number", "_law_position", "_law_error"] vs) H := by
  obtain ⟨x, a, b, c, rfl, h, d, T, k, n, z, rfl, rfl, rfl, rfl, hn, kk⟩ := h
  obtain ⟨dx, ih⟩ := hn.1
  unfold t__law_play
  have bad : findT T n = none → ∀ l H', Same H H' → AnsAt H' (.ref l) (.txt "BadHandle") → Q (.ref l) H' := fun hf l H' s a => by
    obtain ⟨e1, e2⟩ := next_none (k := k) (z := z) hf
    exact kk H' T _ e1.symm (hn.same s) (.same s) (by rw [e2]; exact a)
  walk_at "run1"
  · rename_i hk
    refine w_S2 ⟨h, d, T, n, rfl, rfl, hn, fun hf => ?_, fun p f hf H' hn' st' => ?_⟩
    · walk_at "run1"
      exact w_S1 ⟨rfl, .inl ⟨rfl, bad hf⟩⟩
    · walk_at "run1"
      rename_i l hl
      have sx := same_new (o := .lst [.non]) hl
      obtain ⟨e1, e2⟩ := next_some (k := k) (z := z) hf
      rw [if_pos hk] at e1 e2
      exact kk _ _ _ (by rw [dat_set, e1]) (hn'.same sx) (st'.trans (.same sx)) (by rw [e2]; exact .new hl rfl)
  walk_at "run1"
  · rename_i hk1 hk
    refine w_S2 ⟨h, d, T, n, rfl, rfl, hn, fun hf => ?_, fun p f hf H' T' v ed hn' st' tv => ?_⟩
    · walk_at "run1"
      exact w_S1 ⟨rfl, .inl ⟨rfl, bad hf⟩⟩
    · walk_at "run1"
      rename_i l hl
      have sx := same_new (o := .lst [v]) hl
      obtain ⟨e1, e2⟩ := next_some (k := k) (z := z) hf
      rw [if_neg hk1, if_pos hk] at e1 e2
      refine kk _ T' _ (by rw [ed, e1]) (hn'.same sx) (st'.trans (.same sx)) ?_
      rw [e2]
      cases ht : toldD (datT T) n f with
      | none =>
        rw [ht] at tv
        exact .new hl tv
      | some q =>
        obtain ⟨s, i⟩ := q
        rw [ht] at tv
        exact .new hl tv
  walk_at "run1"
  · rename_i hk1 hk2 hk
    refine w_S3 ⟨h, d, T, n, z, rfl, rfl, rfl, hn, fun hf => ?_, fun p f hf => ⟨fun hz => ?_, fun hz H' hn' st' => ?_⟩⟩
    · walk_at "run1"
      exact w_S1 ⟨rfl, .inl ⟨rfl, bad hf⟩⟩
    · walk_at "run1"
      refine w_S1 ⟨rfl, .inr ⟨rfl, fun l H' s a => ?_⟩⟩
      obtain ⟨e1, e2⟩ := next_some (k := k) (z := z) hf
      rw [if_neg hk1, if_neg hk2, if_pos hk, if_neg hz] at e1 e2
      exact kk H' T _ e1.symm (hn.same s) (.same s) (by rw [e2]; exact a)
    · walk_at "run1"
      rename_i l hl
      have sx := same_new (o := .lst [.non]) hl
      obtain ⟨e1, e2⟩ := next_some (k := k) (z := z) hf
      rw [if_neg hk1, if_neg hk2, if_pos hk, if_pos hz] at e1 e2
      exact kk _ _ _ (by rw [dat_set, e1]) (hn'.same sx) (st'.trans (.same sx)) (by rw [e2]; exact .new hl rfl)
  · walk_at "run1"
    rename_i hk1 hk2 hk3
    refine w_S2 ⟨h, d, T, n, rfl, rfl, hn, fun hf => ?_, fun p f hf l hl => ?_⟩
    · walk_at "run1"
      exact w_S1 ⟨rfl, .inl ⟨rfl, bad hf⟩⟩
    · have sx := same_new (o := .tup [.str f.vol, .int f.ino, .str f.mode, .int f.pos]) hl
      have el : upd H l (.tup [.str f.vol, .int f.ino, .str f.mode, .int f.pos]) l = some (.tup [.str f.vol, .int f.ino, .str f.mode, .int f.pos]) := upd_same
      generalize upd H l _ = H1 at *
      walk_at "run1"
      rename_i l2 hl2
      have sy := same_updN (o := .lst [.ref l]) sx hl2
      obtain ⟨e1, e2⟩ := next_some (k := k) (z := z) hf
      rw [if_neg hk1, if_neg hk2, if_neg hk3] at e1 e2
      exact kk _ T _ e1.symm (hn.same sy) (.same sy) (by rw [e2]; exact .new hl2 ⟨l, rfl, el⟩)
def sp__law_open (K : PySem.W.Frag) (C : Ex) : Sp := S3 fun x a b H Q _ => ∃ (d : Addr) (T : TB) (v : Str) (i : Int), x = .ref d ∧ a = .str v ∧ b = .int i ∧ TbAt H d T ∧ Q (.bl (openD (datT T) v i)) H
def t__law_open (K : PySem.W.Frag) (C : Ex) (E : XK) : TS :=
  tSeq (tLock (tFor (iKeys (tVar 0)) (gName 3)
  (tIfS (tAnd (tTest (tOp (uEq K) (tOp (uIx K) (tDGet (tVar 0) (tVar 3)) (tC (.int 0))) (tVar 1))) (tTest (tOp (uEq K) (tOp (uIx K) (tDGet (tVar 0) (tVar 3)) (tC (.int 1))) (tVar 2)))) (tRet (tC (.bl true))) (tNext))))
  (tRet (tC (.bl false)))
theorem pure__law_open {K : PySem.W.Frag} {C : Ex} {vs : List V} {H : Hp} {Q : VK} {E : XK} (F : Fa K C) (h : sp__law_open K C vs H Q E) : t__law_open K C E { nx := fun _ H' => Q .non H', rt := Q } (start ["_law_files", "_law_volume", "_law_inode", "_law_number"] vs) H := by
  obtain ⟨x, a, b, rfl, d, T, v, i, rfl, rfl, rfl, t, k⟩ := h
  have hd := t.dict
  unfold t__law_open
  walk_at "run1"
  refine ⟨d, _, hd, trivial, fun od => ?_⟩
  have e1 : upd H d (.frz od (.dK (kvsT T))) d = some (.frz od (.dK (kvsT T))) := upd_same
  have bk : ∀ o : HO, upd (upd H d o) d (.dK (kvsT T)) = H := fun o => upd_back hd
  walk_at "run1"
  refine w_iKeysv e1 ?_
  refine f_keys (kvs := kvsT T) (fun j σ H' => H' = upd H d (.frz od (.dK (kvsT T))) ∧ (∃ v3, σ = [some (.ref d), some (.str v), some (.int i), v3]) ∧ ∀ y ∈ (datT T).take j, (decide (y.2.vol = v) && decide (y.2.ino = i)) = false) ⟨rfl, ⟨none, rfl⟩, fun y hy => by simp at hy⟩ (by rintro j σ H' _ ⟨rfl, _⟩; exact e1) ?_ ?_
  · rintro j kk vv σ H' hk ⟨e, ⟨v3, rfl⟩, hj⟩
    rw [e]
    clear e H'
    obtain ⟨y, hy, rfl, rfl⟩ := at_T hk
    have hym := List.mem_of_getElem? hy
    have ey := upd_oth (o := .frz od (.dK (kvsT T))) (t.ent y hym) (t.ad_ne hym)
    unfold entO at ey
    have vy := val_at t.kd hy
    have dy := dat_at hy
    rw [show kV (.inl y.1) = V.int y.1 from rfl]
    walk_at "run1"
    refine w_dgetF e1 vy ?_
    walk_at "run1"
    · rename_i h1
      refine w_dgetF e1 vy ?_
      walk_at "run1"
      · rename_i h2
        refine ⟨e1, ?_⟩
        rw [bk]
        have z : openD (datT T) v i = true := List.any_eq_true.mpr ⟨_, List.mem_of_getElem? dy, by rw [decide_eq_true h1, decide_eq_true h2]; rfl⟩
        rw [z] at k
        exact k
      · walk_at "run1"
        rename_i h2
        exact ⟨rfl, ⟨_, rfl⟩, any_take dy hj (by rw [decide_eq_false h2, Bool.and_false])⟩
    · walk_at "run1"
      rename_i h1
      exact ⟨rfl, ⟨_, rfl⟩, any_take dy hj (by rw [decide_eq_false h1, Bool.false_and])⟩
  · rintro σ H' ⟨e, ⟨v3, rfl⟩, hj⟩
    rw [e]
    clear e H'
    refine ⟨e1, ?_⟩
    rw [bk]
    walk_at "run1"
    have z : openD (datT T) v i = false := by
      refine List.any_eq_false.mpr fun y hy => ?_
      rw [T_len, ← dat_len, List.take_length] at hj
      rw [hj y hy]
      exact Bool.false_ne_true
    rw [z] at k
    exact k
def sp__law_least (K : PySem.W.Frag) (C : Ex) : Sp := S1 fun x H Q _ => ∃ (d : Addr) (T : TB), x = .ref d ∧ TbAt H d T ∧ T.length < 1000 ∧ ∀ n : Nat, LeastD (datT T) n → Q (.int (n : Int)) H
def t__law_least (K : PySem.W.Frag) (C : Ex) (E : XK) : TS :=
  tSeq (tFor (iRng1 (tCons (tOp (uAdd K) (tCB (uLen K) (tCons (tVar 0) (tNil))) (tC (.int 1))) (tNil))) (gName 1)
  (tIfS (tTest (tOp (uNin K) (tVar 1) (tVar 0))) (tRet (tVar 1)) (tNext)))
  (tRet (tUn uNeg (tC (.int 1))))
theorem pure__law_least {K : PySem.W.Frag} {C : Ex} {vs : List V} {H : Hp} {Q : VK} {E : XK} (F : Fa K C) (h : sp__law_least K C vs H Q E) : t__law_least K C E { nx := fun _ H' => Q .non H', rt := Q } (start ["_law_files", "_law_number"] vs) H := by
  obtain ⟨x, rfl, d, T, rfl, t, hl, k⟩ := h
  have hd := t.dict
  unfold t__law_least
  walk_at "run1"
  refine .inr ?_
  refine ⟨_, hd, ?_⟩
  rw [T_len]
  walk_at "run1"
  refine f_range (fun j σ H' => H' = H ∧ (∃ v1, σ = [some (.ref d), v1]) ∧ ∀ z : Nat, z < j → (z : Int) ∈ keysD (datT T)) ⟨rfl, ⟨none, rfl⟩, fun z hz => absurd hz (Nat.not_lt_zero _)⟩ ?_ ?_
  · rintro j σ H' hj ⟨e, ⟨v1, rfl⟩, hz⟩
    rw [e]
    clear e H'
    walk_at "run1"
    rw [show (0 : Int) + (j : Int) = (j : Int) by omega, val_key]
    walk_at "run1"
    · rename_i h
      exact k j ⟨h, hz⟩
    · walk_at "run1"
      rename_i h
      refine ⟨rfl, ⟨_, rfl⟩, fun z hz2 => ?_⟩
      rcases Nat.lt_succ_iff_lt_or_eq.mp hz2 with q | q
      · exact hz z q
      · rw [q]; exact h
  · rintro σ H' ⟨e, ⟨v1, rfl⟩, hz⟩
    exfalso
    have z := low_len hz
    rw [dat_len] at z
    omega
def RefsOk (D : FS) : Prop := ∀ x ∈ D, 1 ≤ x.2.refs
def sp__law_due (K : PySem.W.Frag) (C : Ex) : Sp := S4 fun x a b c H Q _ => ∃ (d : Addr) (T : TB) (k n z : Int), x = .ref d ∧ a = .int k ∧ b = .int n ∧ c = .int z ∧ TbAt H d T ∧ RefsOk (datT T) ∧
  ∀ H' T' v, datT T' = nextD (datT T) k n z → TbAt H' d T' → Stp (tbF d T) H (tbF d T') H' → AnsAt H' v (dueD (datT T) k n z) → Q v H'
def t__law_due (K : PySem.W.Frag) (C : Ex) (E : XK) : TS :=
  tSeq (tIfS (tTest (tOp (uNin K) (tVar 2) (tVar 0))) (tRet (tLst (tCons (tC (.str "BadHandle")) (tNil)))) (tNext))
  (tSeq (tAsg (tDGet (tVar 0) (tVar 2)) (gName 4))
  (tCut (tIfS (tTest (tOp (uEq K) (tVar 1) (tC (.int 1)))) (tAsg (tOp (uAdd K) (tOp (uIx K) (tVar 4) (tC (.int 4))) (tC (.int 1))) (gSub (tVar 4) (tC (.int 4)) uSet)) (tIfS (tTest (tOp (uEq K) (tVar 1) (tC (.int 2)))) (tSeq (tAsg (tOp (uSub) (tOp (uIx K) (tVar 4) (tC (.int 4))) (tC (.int 1))) (gSub (tVar 4) (tC (.int 4)) uSet))
  (tIfS (tTest (tOp (uEq K) (tOp (uIx K) (tVar 4) (tC (.int 4))) (tC (.int 0)))) (tSeq (tDrop (tDPop1 (tVar 0) (tVar 2)))
  (tIfS (tNot (uTru K (uCall (sp__law_open K C) (WB E) (tCons (tVar 0) (tCons (tOp (uIx K) (tVar 4) (tC (.int 0))) (tCons (tOp (uIx K) (tVar 4) (tC (.int 1))) (tNil))))))) (tRet (tLst (tCons (tTup (tCons (tOp (uIx K) (tVar 4) (tC (.int 0))) (tCons (tOp (uIx K) (tVar 4) (tC (.int 1))) (tNil)))) (tNil)))) (tNext))) (tNext))) (tIfS (tTest (tOp (uEq K) (tVar 1) (tC (.int 3)))) (tSeq (tIfS (tOr (tTest (tOp (uLt K) (tVar 3) (tC (.int 0)))) (tTest (tOp (uGt) (tVar 3) (tC (.int 2048))))) (tRet (tLst (tCons (tC (.str "NotValid")) (tNil)))) (tNext))
  (tAsg (tVar 3) (gSub (tVar 4) (tC (.int 3)) uSet))) (tRet (tLst (tCons (tTup (tCons (tOp (uIx K) (tVar 4) (tC (.int 0))) (tCons (tOp (uIx K) (tVar 4) (tC (.int 1))) (tCons (tOp (uIx K) (tVar 4) (tC (.int 2))) (tCons (tOp (uIx K) (tVar 4) (tC (.int 3))) (tNil)))))) (tNil)))))))
  (tRet (tLst (tCons (tC .non) (tNil))))))
theorem pure__law_due {K : PySem.W.Frag} {C : Ex} {vs : List V} {H : Hp} {Q : VK} {E : XK} (F : Fa K C) (h : sp__law_due K C vs H Q E) : t__law_due K C E { nx := fun _ H' => Q .non H', rt := Q } (start ["_law_files", "_law_deed", "_law_number", "_law_position", "_law_file"] vs) H := by
  obtain ⟨x, a, b, c, rfl, d, T, k, n, z, rfl, rfl, rfl, rfl, t, ok, kk⟩ := h
  have hd := t.dict
  have hv := valV_T T n
  unfold t__law_due
  walk_at "run1"
  cases hf : findT T n with
  | none =>
    rw [hf] at hv
    have hv : valV (kvsT T) (.inl n) = none := hv
    rw [hv, show (none : Option V).isSome = false from rfl]
    walk_at "run1"
    rename_i l hl
    obtain ⟨e1, e2⟩ := next_none (k := k) (z := z) hf
    have sx := same_new (o := .lst [.str "BadHandle"]) hl
    exact kk _ T _ e1.symm (t.same sx) (.same sx) (by rw [e2]; exact .new hl rfl)
  | some pf =>
    obtain ⟨p, f⟩ := pf
    rw [hf] at hv
    have hv : valV (kvsT T) (.inl n) = some (.ref p) := hv
    rw [hv, show (some (V.ref p)).isSome = true from rfl]
    obtain ⟨e1, e2⟩ := next_some (k := k) (z := z) hf
    have ep := t.ent _ (findT_mem hf)
    unfold entO at ep
    have rf : 1 ≤ f.refs := ok (n, f) (List.mem_map.mpr ⟨_, findT_mem hf, rfl⟩)
    have non : ∀ H' T', datT T' = nextD (datT T) k n z → dueD (datT T) k n z = .non → TbAt H' d T' → Stp (tbF d T) H (tbF d T') H' → ∀ l, H' l = none → Q (.ref l) (upd H' l (.lst [.non])) := fun H' T' h1 h2 h3 h4 l hl =>
      kk _ T' _ h1 (h3.same (same_new hl)) (h4.trans (.same (same_new hl))) (by rw [h2]; exact .new hl rfl)
    walk_at "run1"
    refine w_dgetI hd hv ?_
    walk_at "run1"
    refine w_cut (fun σ H' => (∃ v4, σ = [some (.ref d), some (.int k), some (.int n), some (.int z), v4]) ∧ ∃ T', datT T' = nextD (datT T) k n z ∧ dueD (datT T) k n z = .non ∧ TbAt H' d T' ∧ Stp (tbF d T) H (tbF d T') H') ?_ ?_
    · walk_at "run1"
      · rename_i h1
        refine w_setL ep ⟨by decide, by show 4 < 5; decide⟩ ?_
        rw [if_pos h1] at e1 e2
        exact ⟨⟨_, rfl⟩, setT T n { f with refs := f.refs + 1 }, by rw [dat_set, e1], e2, t.set (f' := { f with refs := f.refs + 1 }) hf, TbAt.set_stp (f' := { f with refs := f.refs + 1 }) hf⟩
      walk_at "run1"
      · rename_i h1 h2
        rw [if_neg h1, if_pos h2] at e1 e2
        have t2 := t.set (f' := { f with refs := f.refs - 1 }) hf
        have st2 := TbAt.set_stp (d := d) (H := H) (f' := { f with refs := f.refs - 1 }) hf
        have ep2 : upd H p (entO { f with refs := f.refs - 1 }) p = some (.lst [.str f.vol, .int f.ino, .str f.mode, .int f.pos, .int (f.refs - 1)]) := upd_same
        have eo : entO { f with refs := f.refs - 1 } = .lst ([V.str f.vol, .int f.ino, .str f.mode, .int f.pos, .int f.refs].set (Int.toNat 4) (.int (f.refs - 1))) := rfl
        rw [eo] at t2 st2 ep2
        refine w_setL ep ⟨by decide, by show 4 < 5; decide⟩ ?_
        generalize upd H p (.lst ([V.str f.vol, .int f.ino, .str f.mode, .int f.pos, .int f.refs].set (Int.toNat 4) (.int (f.refs - 1)))) = H2 at *
        have hd2 := t2.dict
        have hkey : (valV (kvsT (setT T n { f with refs := f.refs - 1 })) (.inl n)) = some (.ref p) := by rw [kvs_set, valV_T, hf]; rfl
        walk_at "run1"
        · rename_i hg
          have hg : f.refs - 1 = 0 := hg
          have hg2 : ¬ 0 < f.refs - 1 := by omega
          refine w_popI hd2 hkey ?_
          rw [kvs_del]
          have t3 := t2.del (n := n)
          have st3 := t2.del_stp (n := n)
          have ndp : p ≠ d := ne_of ep2 hd2 fun z => nomatch z
          have ep3 := upd_oth (o := .dK (kvsT (delT (setT T n { f with refs := f.refs - 1 }) n))) ep2 ndp
          generalize upd H2 d _ = H3 at *
          have dd : datT (delT (setT T n { f with refs := f.refs - 1 }) n) = dropF (datT T) n f := by rw [dat_del, dat_set]; unfold dropF; rw [if_neg hg2]
          have d2 : datT (delT (setT T n { f with refs := f.refs - 1 }) n) = delD (setD (datT T) n { f with refs := f.refs - 1 }) n := by rw [dat_del, dat_set]
          walk_at "run1"
          refine w_S3 ⟨d, _, f.vol, f.ino, rfl, rfl, rfl, t3, ?_⟩
          rw [d2]
          cases ho : openD (delD (setD (datT T) n { f with refs := f.refs - 1 }) n) f.vol f.ino with
          | true =>
            walk_at "run1"
            refine ⟨⟨_, rfl⟩, _, by rw [dd, e1], ?_, t3, st2.trans st3⟩
            rw [e2]
            unfold toldD
            rw [if_neg hg2, if_pos ho]
          | false =>
            walk_at "run1"
            rename_i tt htt l hl
            have sx := same_new (o := .tup [.str f.vol, .int f.ino]) htt
            have sy := same_updN (o := .lst [.ref tt]) sx hl
            refine kk _ _ _ (by rw [dd, e1]) (t3.same sy) ((st2.trans st3).trans (.same sy)) ?_
            rw [e2]
            unfold toldD
            rw [if_neg hg2, if_neg (by rw [ho]; exact Bool.false_ne_true)]
            exact .new hl ⟨tt, rfl, upd_same⟩
        · rename_i hg
          walk_at "run1"
          have hg2 : 0 < f.refs - 1 := by
            have hg : ¬ f.refs - 1 = 0 := hg
            omega
          refine ⟨⟨_, rfl⟩, _, by rw [e1, dat_set]; unfold dropF; rw [if_pos hg2], ?_, t2, st2⟩
          rw [e2]
          unfold toldD
          rw [if_pos hg2]
      walk_at "run1"
      · rename_i h1 h2 h3 h4 l hl
        rw [if_neg h1, if_neg h2, if_pos h3, if_neg (by omega)] at e1 e2
        have sx := same_new (o := .lst [.str "NotValid"]) hl
        exact kk _ T _ e1.symm (t.same sx) (.same sx) (by rw [e2]; exact .new hl rfl)
      · walk_at "run1"
        · rename_i h1 h2 h3 h4 h5 l hl
          rw [if_neg h1, if_neg h2, if_pos h3, if_neg (by omega)] at e1 e2
          have sx := same_new (o := .lst [.str "NotValid"]) hl
          exact kk _ T _ e1.symm (t.same sx) (.same sx) (by rw [e2]; exact .new hl rfl)
        · walk_at "run1"
          rename_i h1 h2 h3 h4 h5
          rw [if_neg h1, if_neg h2, if_pos h3, if_pos (by omega)] at e1 e2
          refine w_setL ep ⟨by decide, by show 3 < 5; decide⟩ ?_
          exact ⟨⟨_, rfl⟩, setT T n { f with pos := z }, by rw [dat_set, e1], e2, t.set (f' := { f with pos := z }) hf, TbAt.set_stp (f' := { f with pos := z }) hf⟩
      · walk_at "run1"
        rename_i h1 h2 h3 tt htt l hl
        rw [if_neg h1, if_neg h2, if_neg h3] at e1 e2
        have sx := same_new (o := .tup [.str f.vol, .int f.ino, .str f.mode, .int f.pos]) htt
        have sy := same_updN (o := .lst [.ref tt]) sx hl
        exact kk _ T _ e1.symm (t.same sy) (.same sy) (by rw [e2]; exact .new hl ⟨tt, rfl, upd_same⟩)
    · rintro σ H' ⟨⟨v4, rfl⟩, T', h1, h2, h3, h4⟩
      walk_at "run1"
      rename_i l hl
      exact non H' T' h1 h2 h3 h4 l hl
def sp_Handles___init__ (K : PySem.W.Frag) (C : Ex) : Sp := S1 fun x H Q _ => ∃ (h dx : Addr), x = .ref h ∧ H h = some (.ins C.Handles dx []) ∧ ∀ H' d, HnAt C H' h d [] → (∀ c o, H c = some o → c ≠ h → H' c = some o) → H d = none → Q .non H'
def t_Handles___init__ (K : PySem.W.Frag) (C : Ex) (E : XK) : TS :=
  uSetF C.Handles "files" (tVar 0) (tDNewK)
theorem pure_Handles___init__ {K : PySem.W.Frag} {C : Ex} {vs : List V} {H : Hp} {Q : VK} {E : XK} (F : Fa K C) (h : sp_Handles___init__ K C vs H Q E) : t_Handles___init__ K C E { nx := fun _ H' => Q .non H', rt := Q } (start ["self"] vs) H := by
  obtain ⟨x, rfl, h, dx, rfl, i, k⟩ := h
  unfold t_Handles___init__
  walk_at "run1"
  rename_i d hd
  have nd : d ≠ h := fun e => by rw [e, i] at hd; cases hd
  exact k _ d ⟨⟨dx, upd_same⟩, ⟨upd_oth upd_same nd, fun x hx => (by cases hx), List.nodup_nil, List.nodup_nil⟩⟩ (fun c o e n => upd_oth (upd_old e hd) n) hd
theorem usedK_nil {D : FS} {v : Str} : (D.filter fun x => decide (x.2.vol = v)) = [] ↔ usedD D v = false := by
  unfold usedD
  rw [List.filter_eq_nil_iff, List.any_eq_false]
def sp__law_shows (K : PySem.W.Frag) (C : Ex) : Sp := S2 fun x c H Q _ => ∃ (h d e : Addr) (T U : TB), x = .ref h ∧ c = .ref e ∧ HnAt C H h d T ∧ TbAt H e U ∧ datT T = datT U ∧ T.length < 64 ∧ ∀ H', Same H H' → Q (.bl true) H'
def t__law_shows (K : PySem.W.Frag) (C : Ex) (E : XK) : TS :=
  tSeq (tAsg (tLst (tNil)) (gName 2))
  (tSeq (tFor (iList K (tCB (rSortedI K) (tCons (tCB uListD (tCons (tVar 1) (tNil))) (tNil)))) (gName 3)
  (tDrop (tBM K "list" (rAppend) (tVar 2) (tCons (tOp (uAdd K) (tTup (tCons (tVar 3) (tNil))) (tCB (uTuple K) (tCons (tDGet (tVar 1) (tVar 3)) (tNil)))) (tNil)))))
  (tSeq (tAsg (uMeth C.Handles "open_files" (sp_Handles_open_files K C) (WB E) (tVar 0) (tNil)) (gName 4))
  (tSeq (tIfS (tOr (tNot (uTru K (tCB (uIsi K .list) (tCons (tVar 4) (tCons (tC (.ty "list")) (tNil)))))) (tTest (tOp (uNe K) (tVar 4) (tVar 2)))) (tRet (tC (.bl false))) (tNext))
  (tSeq (tFor (iTup K (tTup (tCons (tC (.str "a")) (tCons (tC (.str "b")) (tCons (tC (.str "main")) (tNil)))))) (gName 5)
  (tSeq (tLock (tAsg (tLc (iKeys (tVar 1)) (gName 3) (tTest (tOp (uEq K) (tOp (uIx K) (tDGet (tVar 1) (tVar 3)) (tC (.int 0))) (tVar 5))) (tVar 3) [3]) (gName 6)))
  (tSeq (tIfS (tAnd (tTest (tOp (uIsnt) (uMeth C.Handles "uses_volume" (sp_Handles_uses_volume K C) (WB E) (tVar 0) (tCons (tVar 5) (tNil))) (tC (.bl false)))) (tTest (tOp (uEq K) (tVar 6) (tLst (tNil))))) (tRet (tC (.bl false))) (tNext))
  (tSeq (tIfS (tAnd (tTest (tOp (uIsnt) (uMeth C.Handles "uses_volume" (sp_Handles_uses_volume K C) (WB E) (tVar 0) (tCons (tVar 5) (tNil))) (tC (.bl true)))) (tTest (tOp (uNe K) (tVar 6) (tLst (tNil))))) (tRet (tC (.bl false))) (tNext))
  (tFor (iRng2 (tCons (tC (.int 2)) (tCons (tC (.int 5)) (tNil)))) (gName 7)
  (tSeq (tAsg (uMeth C.Handles "is_open" (sp_Handles_is_open K C) (WB E) (tVar 0) (tCons (tVar 5) (tCons (tVar 7) (tNil)))) (gName 8))
  (tIfS (tOr (tNot (uTru K (tCB (uIsi K .bool) (tCons (tVar 8) (tCons (tC (.ty "bool")) (tNil)))))) (tTest (tOp (uNe K) (tVar 8) (uCall (sp__law_open K C) (WB E) (tCons (tVar 1) (tCons (tVar 5) (tCons (tVar 7) (tNil)))))))) (tRet (tC (.bl false))) (tNext))))))))
  (tRet (tC (.bl true)))))))
theorem pure__law_shows {K : PySem.W.Frag} {C : Ex} {vs : List V} {H : Hp} {Q : VK} {E : XK} (F : Fa K C) (h : sp__law_shows K C vs H Q E) : t__law_shows K C E { nx := fun _ H' => Q .non H', rt := Q } (start ["_law_handles", "_law_files", "_law_rows", "_law_number", "_law_actual", "_law_volume", "_law_used", "_law_inode", "_law_known"] vs) H := by
  obtain ⟨x, c, rfl, h, d, e, T, U, rfl, rfl, hn, t, hdat, hl, k⟩ := h
  have hU : U.length = T.length := by rw [← dat_len, ← dat_len, hdat]
  unfold t__law_shows
  walk_at "run1"
  rename_i l hl0
  have s1 := same_new (o := .lst []) hl0
  have e1 : upd H l (.lst []) l = some (.lst []) := upd_same
  generalize upd H l _ = H1 at *
  have t1 := t.same s1
  have hd1 := t1.dict
  walk_at "run1"
  refine ⟨e, _, rfl, .inl hd1, fun p hp => ?_⟩
  have ek : ((kvsT U).map fun kv => kV kv.1) = (keysD (datT U)).map V.int := by
    rw [← keys_T]
    unfold kvsT
    rw [List.map_map, List.map_map]
    rfl
  rw [ek]
  walk_at "run1"
  refine ⟨p, _, rfl, SqL.of upd_same, fun ys p2 py sy hp2 => ?_⟩
  have s2 := same_updN (o := .lst (ys.map V.int)) (same_new (o := .lst ((keysD (datT U)).map V.int)) hp) hp2
  have ep2 : upd (upd H1 p (.lst ((keysD (datT U)).map V.int))) p2 (.lst (ys.map V.int)) p2 = some (.lst (ys.map V.int)) := upd_same
  generalize upd (upd H1 p _) p2 _ = H2 at *
  have asc : AscD ys (datT U) := by
    refine ⟨py, ?_⟩
    have ny : ys.Nodup := py.nodup_iff.mpr (by rw [← keys_T]; exact t.kd)
    exact (sy.and ny).imp fun h => by have := h.1; have := h.2; omega
  have ly : ys.length = T.length := by rw [py.length_eq]; unfold keysD; rw [List.length_map, dat_len, hU]
  have s12 := s1.trans s2
  walk_at "run1"
  refine f_list (xs := ys.map V.int) (fun j σ H' => Same H H' ∧ ∃ v3 vs, σ = [some (.ref h), some (.ref e), some (.ref l), v3, none, none, none, none, none] ∧ H' l = some (.lst vs) ∧ H' p2 = some (.lst (ys.map V.int)) ∧ RwAt H' vs ((ys.take j).map (rowD (datT U))))
    ⟨s12, none, [], rfl, s2 _ _ e1, ep2, rfl, fun i v h => by simp at h⟩ (by rintro j σ H' _ ⟨_, _, _, _, _, e, _⟩; exact SqL.of e) ?_ ?_
  · rintro j x σ H' hx ⟨s', v3, vs, rfl, el, ep, rw⟩
    obtain ⟨n, hn', rfl⟩ := at_int hx
    have hmem : n ∈ keysD (datT U) := asc.1.mem_iff.mp (List.mem_of_getElem? hn')
    have hs : (findD (datT U) n).isSome = true := findD_key.mpr hmem
    obtain ⟨f, hf⟩ := Option.isSome_iff_exists.mp hs
    have hf0 := hf
    rw [findT_D] at hf
    obtain ⟨pf, hpf, ef⟩ := Option.map_eq_some_iff.mp hf
    obtain ⟨q, f'⟩ := pf
    cases ef
    have t' := t.same s'
    have hd' := t'.dict
    have eq' := t'.ent _ (findT_mem hpf)
    unfold entO at eq'
    have hj := (List.getElem?_eq_some_iff.mp hn').1
    have lv := rw.1
    rw [List.length_map, List.length_take] at lv
    walk_at "run1"
    rename_i ta hta
    have sa := same_new (o := .tup [.int n]) hta
    have ea : upd H' ta (.tup [.int n]) ta = some (.tup [.int n]) := upd_same
    generalize upd H' ta _ = H3 at *
    have hd3 := sa _ _ hd'
    refine w_dgetI hd3 (by rw [valV_T, hpf]; rfl) ?_
    walk_at "run1"
    refine w_ttupL (SqL.of (sa _ _ eq')) fun tb htb => ?_
    have sb := same_updN (o := .tup [.str f'.vol, .int f'.ino, .str f'.mode, .int f'.pos, .int f'.refs]) sa htb
    have ea4 := upd_old (o := .tup [.str f'.vol, .int f'.ino, .str f'.mode, .int f'.pos, .int f'.refs]) ea htb
    have eb : upd H3 tb (.tup [.str f'.vol, .int f'.ino, .str f'.mode, .int f'.pos, .int f'.refs]) tb = some (.tup [.str f'.vol, .int f'.ino, .str f'.mode, .int f'.pos, .int f'.refs]) := upd_same
    generalize upd H3 tb _ = H4 at *
    walk_at "run1"
    refine .inr ⟨ta, tb, _, _, rfl, rfl, SqT.of ea4, SqT.of eb, by simp, le_line (by simp only [List.length_cons, List.length_nil]; decide), (fun h => by cases h), fun _ tc htc => ?_⟩
    have sx := same_updN (o := .tup ([.int n] ++ [.str f'.vol, .int f'.ino, .str f'.mode, .int f'.pos, .int f'.refs])) sb htc
    have ett : upd H4 tc (.tup ([.int n] ++ [.str f'.vol, .int f'.ino, .str f'.mode, .int f'.pos, .int f'.refs])) tc = some (.tup [.int n, .str f'.vol, .int f'.ino, .str f'.mode, .int f'.pos, .int f'.refs]) := upd_same
    generalize upd H4 tc _ = H5 at *
    have el5 := sx _ _ el
    have npl : p2 ≠ l := fun e => by
      rw [e, el] at ep
      have z := congrArg List.length (HO.lst.inj (Option.some.inj ep))
      rw [List.length_map] at z
      omega
    walk_at "run1"
    refine w_app el5 (lt_line (by omega)) ?_
    refine ⟨same_upd (s'.trans sx) hl0, _, _, rfl, upd_same, upd_oth (sx _ _ ep) npl, ?_⟩
    rw [take_snoc hn', List.map_append]
    have e5 : rowD (datT U) n = (n, f') := by unfold rowD; rw [hf0]; rfl
    show RwAt _ _ (_ ++ [rowD (datT U) n])
    rw [e5]
    exact ((rw.same sx).snoc ett).upd el5
  rintro σ H3 ⟨s3, v3, vs, rfl, el, ep, rw⟩
  rw [List.length_map, List.take_length] at rw
  have hn3 := hn.same s3
  have hn30 := hn3
  obtain ⟨dx, i3⟩ := hn3.1
  walk_at "run1"
  refine w_S1 ⟨h, d, T, rfl, hn30, hl, fun H4 l4 vs4 ys4 s4 e4 asc4 rw4 => ?_⟩
  have ey : ys4 = ys := AscD.eq (D := datT U) (by rw [← hdat]; exact asc4) asc
  subst ey
  rw [hdat] at rw4
  have el4 := s4 _ _ el
  have rwv := rw.same s4
  have s04 := s3.trans s4
  have hn4 := hn.same s04
  have t4 := t.same s04
  clear i3 hn30 hn3 el rw s3 s4 ep
  walk_at "run1"
  refine w_isi_list_L (SqL.of e4) ?_
  walk_at "run1"
  refine w_neD (Dt.list (SqL.of e4) rw4.dt) (Dt.list (SqL.of el4) rwv.dt) (by decide) ⟨_, rfl⟩ ?_
  rw [decide_eq_true rfl]
  walk_at "run1"
  rename_i tv htv
  have s5 := same_updN (o := .tup [.str "a", .str "b", .str "main"]) s04 htv
  have e5 : upd H4 tv (.tup [.str "a", .str "b", .str "main"]) tv = some (.tup [.str "a", .str "b", .str "main"]) := upd_same
  generalize upd H4 tv _ = H5 at *
  refine f_tup (xs := [.str "a", .str "b", .str "main"]) (fun j σ H' => Same H5 H' ∧ ∃ v3 v5 v6 v7 v8, σ = [some (.ref h), some (.ref e), some (.ref l), v3, some (.ref l4), v5, v6, v7, v8])
    ⟨L2.Same.refl _, _, _, _, _, _, rfl⟩ (by rintro j σ H' _ ⟨s', _⟩; exact SqT.of (s' _ _ e5)) ?_ ?_
  · rintro j x σ H6 hx ⟨s6, v3, v5, v6, v7, v8, rfl⟩
    have hy : ∃ v : Str, x = .str v := by
      have hm := List.mem_of_getElem? hx
      simp only [List.mem_cons, List.not_mem_nil, or_false] at hm
      rcases hm with h | h | h <;> exact ⟨_, h⟩
    obtain ⟨v, rfl⟩ := hy
    have t6 := t.same (s5.trans s6)
    have hd6 := t6.dict
    have hn6 := hn.same (s5.trans s6)
    walk_at "run1"
    refine ⟨e, _, hd6, trivial, fun od => ?_⟩
    have ef : upd H6 e (.frz od (.dK (kvsT U))) e = some (.frz od (.dK (kvsT U))) := upd_same
    walk_at "run1"
    refine w_iKeysv ef ?_
    have eD0 : ∀ D, upd H6 e (.frz od (.dK (kvsT U))) D = none → D ≠ e := fun D hD q => by rw [q, ef] at hD; cases hD
    refine l_keys (kvs := kvsT U) (fun D i H' => H' e = some (.frz od (.dK (kvsT U))) ∧ (∀ b o, H6 b = some o → b ≠ e → H' b = some o) ∧ H' D = some (.lst (((((datT U).take i).filter fun x => decide (x.2.vol = v)).map fun x => x.1).map V.int))) (fun D hD => ⟨by rw [upd_ne (eD0 D hD).symm]; exact ef, fun b o hb nb => upd_old (upd_oth hb nb) hD, upd_same⟩) (fun D i H' _ hP => hP.1) ?_ ?_
    · rintro D i kk vv H' hD hk ⟨q1, q2, q3⟩
      obtain ⟨y, hy, rfl, rfl⟩ := at_T hk
      have hym := List.mem_of_getElem? hy
      have ey := q2 _ _ (t6.ent y hym) (t6.ad_ne hym)
      unfold entO at ey
      have vy := val_at t.kd hy
      have dy := dat_at hy
      have li : ((((datT U).take i).filter fun x => decide (x.2.vol = v)).map fun x => x.1).length ≤ i := by rw [List.length_map]; exact Nat.le_trans (List.length_filter_le _ _) (by rw [List.length_take]; omega)
      have hi : i < U.length := (List.getElem?_eq_some_iff.mp hy).1
      rw [show kV (.inl y.1) = V.int y.1 from rfl]
      walk_at "run1"
      refine ⟨rfl, ?_⟩
      walk_at "run1"
      refine w_dgetF q1 vy ?_
      walk_at "run1"
      · rename_i h1
        refine ⟨_, q3, by rw [List.length_map]; exact lt_line (by omega), ?_, fun b o hb nb => ?_, ?_⟩
        · exact upd_oth q1 (eD0 D hD).symm
        · have nD : b ≠ D := fun q => by
            rw [q] at hb nb
            rw [upd_ne nb, hb] at hD
            cases hD
          exact upd_oth (q2 b o hb nb) nD
        · rw [upd_same, take_snoc dy, List.filter_append, List.map_append, List.map_append]
          have z : [(y.1, y.2.2)].filter (fun x => decide (x.2.vol = v)) = [(y.1, y.2.2)] := List.filter_cons_of_pos (decide_eq_true h1)
          rw [z]
          rfl
      · walk_at "run1"
        rename_i h1
        refine ⟨q1, q2, ?_⟩
        rw [q3, take_snoc dy, List.filter_append]
        have z : [(y.1, y.2.2)].filter (fun x => decide (x.2.vol = v)) = [] := List.filter_cons_of_neg (by rw [decide_eq_false h1]; exact Bool.false_ne_true)
        rw [z, List.append_nil]
    rintro D H' hD ⟨q1, q2, q3⟩
    rw [T_len, ← dat_len, List.take_length] at q3
    walk_at "run1"
    refine ⟨q1, ?_⟩
    have s7 : Same H6 (upd H' e (.dK (kvsT U))) := fun b o hb => by
      by_cases q : b = e
      · subst q
        rw [hd6] at hb
        cases hb
        exact upd_same
      · exact upd_oth (q2 b o hb q) q
    have eD7 := upd_oth (o := .dK (kvsT U)) q3 (eD0 D hD)
    generalize upd H' e (.dK (kvsT U)) = H7 at *
    have hb : ((((datT U).filter fun x => decide (x.2.vol = v)).map fun x => x.1) = []) ↔ usedD (datT U) v = false := by rw [List.map_eq_nil_iff]; exact usedK_nil
    generalize ((((datT U).filter fun x => decide (x.2.vol = v)).map fun x => x.1)) = uk at *
    clear q1 q2 q3 ef eD0
    have s07 := (s5.trans s6).trans s7
    have hn7 := hn.same s07
    obtain ⟨dx7, i7⟩ := hn7.1
    walk_at "run1"
    refine w_S2 ⟨h, d, T, v, rfl, rfl, hn7, ?_⟩
    rw [hdat]
    walk_at "run1"
    refine ⟨_, rfl, ?_⟩
    cases hub : usedD (datT U) v
    · have huk := hb.mpr hub
      rw [show (!decide (false = false)) = false from rfl]
      walk_at "run1"
      refine w_S2 ⟨h, d, T, v, rfl, rfl, hn7, ?_⟩
      rw [hdat, hub]
      walk_at "run1"
      refine ⟨_, rfl, ?_⟩
      rw [show (!decide (false = true)) = true from rfl]
      walk_at "run1"
      rename_i lz hlz
      have s8 := same_new (o := .lst []) hlz
      refine w_neD (Dt.list (SqL.of (upd_old eD7 hlz)) (DtAll.ints uk)) (Dt.list (SqL.of upd_same) DtAll.nil) (by decide) ⟨_, rfl⟩ ?_
      rw [decide_eq_true huk]
      generalize upd H7 lz _ = H8 at *
      walk_at "run1"
      refine f_range (fun j σ H' => Same H8 H' ∧ ∃ v7 v8, σ = [some (.ref h), some (.ref e), some (.ref l), v3, some (.ref l4), some (.str v), some (.ref D), v7, v8]) ⟨L2.Same.refl _, _, _, rfl⟩ ?_ ?_
      · rintro j σ H9 hj ⟨s9, v7, v8, rfl⟩
        have s10 := (s07.trans s8).trans s9
        have hn9 := hn.same s10
        obtain ⟨dx9, i9⟩ := hn9.1
        walk_at "run1"
        refine w_S3 ⟨h, d, T, v, _, rfl, rfl, rfl, hn9, ?_⟩
        rw [hdat]
        walk_at "run1"
        refine w_S3 ⟨e, U, v, _, rfl, rfl, rfl, t.same s10, ?_⟩
        walk_at "run1"
        all_goals first
          | (rename_i h; exact absurd rfl h)
          | exact ⟨s9, _, _, rfl⟩
      · rintro σ H9 ⟨s9, v7, v8, rfl⟩
        exact ⟨(s6.trans s7).trans (s8.trans s9), _, _, _, _, _, rfl⟩
    · have huk : ¬ uk = [] := fun q => by have := hb.mp q; rw [hub] at this; cases this
      rw [show (!decide (true = false)) = true from rfl]
      walk_at "run1"
      rename_i lz hlz
      have s8 := same_new (o := .lst []) hlz
      refine w_eqD (Dt.list (SqL.of (upd_old eD7 hlz)) (DtAll.ints uk)) (Dt.list (SqL.of upd_same) DtAll.nil) (by decide) ⟨_, rfl⟩ ?_
      rw [decide_eq_false huk]
      have i8 := s8 _ _ i7
      generalize upd H7 lz _ = H8 at *
      have hn8 := hn.same (s07.trans s8)
      walk_at "run1"
      refine w_S2 ⟨h, d, T, v, rfl, rfl, hn8, ?_⟩
      rw [hdat, hub]
      walk_at "run1"
      refine ⟨_, rfl, ?_⟩
      rw [show (!decide (true = true)) = false from rfl]
      walk_at "run1"
      refine f_range (fun j σ H' => Same H8 H' ∧ ∃ v7 v8, σ = [some (.ref h), some (.ref e), some (.ref l), v3, some (.ref l4), some (.str v), some (.ref D), v7, v8]) ⟨L2.Same.refl _, _, _, rfl⟩ ?_ ?_
      · rintro j σ H9 hj ⟨s9, v7, v8, rfl⟩
        have s10 := (s07.trans s8).trans s9
        have hn9 := hn.same s10
        obtain ⟨dx9, i9⟩ := hn9.1
        walk_at "run1"
        refine w_S3 ⟨h, d, T, v, _, rfl, rfl, rfl, hn9, ?_⟩
        rw [hdat]
        walk_at "run1"
        refine w_S3 ⟨e, U, v, _, rfl, rfl, rfl, t.same s10, ?_⟩
        walk_at "run1"
        all_goals first
          | (rename_i h; exact absurd rfl h)
          | exact ⟨s9, _, _, rfl⟩
      · rintro σ H9 ⟨s9, v7, v8, rfl⟩
        exact ⟨(s6.trans s7).trans (s8.trans s9), _, _, _, _, _, rfl⟩
  · rintro σ H6 ⟨s6, v3, v5, v6, v7, v8, rfl⟩
    walk_at "run1"
    exact k H6 (s5.trans s6)
theorem setD_len (D : FS) (n : Int) (f : FD) : (setD D n f).length = D.length := List.length_map ..
theorem next_len (D : FS) (k n z : Int) : (nextD D k n z).length ≤ D.length := by
  unfold nextD
  split
  · exact Nat.le_refl _
  · split
    · rw [setD_len]; exact Nat.le_refl _
    · split
      · unfold dropF
        split
        · rw [setD_len]; exact Nat.le_refl _
        · exact Nat.le_trans (List.length_filter_le _ _) (by rw [setD_len]; exact Nat.le_refl _)
      · split
        · split
          · rw [setD_len]; exact Nat.le_refl _
          · exact Nat.le_refl _
        · exact Nat.le_refl _
theorem RefsOk.set {D : FS} {n : Int} {f : FD} (x : RefsOk D) (h : 1 ≤ f.refs) : RefsOk (setD D n f) := fun y hy => by
  unfold setD at hy
  obtain ⟨z, hz, rfl⟩ := List.mem_map.mp hy
  split
  · exact h
  · exact x z hz
theorem findD_mem {D : FS} {n : Int} {f : FD} (h : findD D n = some f) : (n, f) ∈ D := by
  unfold findD at h
  obtain ⟨x, hx, e⟩ := Option.map_eq_some_iff.mp h
  have h1 := List.mem_of_find?_eq_some hx
  have h2 : x.1 = n := by simpa using List.find?_some hx
  obtain ⟨a, b⟩ := x
  cases h2
  cases e
  exact h1
theorem RefsOk.next {D : FS} {k n z : Int} (x : RefsOk D) : RefsOk (nextD D k n z) := by
  unfold nextD
  split
  · exact x
  · rename_i f hf
    have hr : 1 ≤ f.refs := x _ (findD_mem hf)
    split
    · exact x.set (by show 1 ≤ f.refs + 1; omega)
    · split
      · unfold dropF
        split
        · exact x.set (by show 1 ≤ f.refs - 1; omega)
        · intro y hy
          obtain ⟨hy1, hy2⟩ := List.mem_filter.mp hy
          unfold setD at hy1
          obtain ⟨w, hw, rfl⟩ := List.mem_map.mp hy1
          by_cases q : w.1 = n
          · rw [if_pos q] at hy2
            exact absurd q (of_decide_eq_true hy2)
          · rw [if_neg q]
            exact x w hw
      · split
        · split
          · exact x.set hr
          · exact x
        · exact x
/-- both tables, apart from one another, and the script's list -/
structure WldS (C : Ex) (H : Hp) (h d e : Addr) (T U : TB) (sl : Addr) (ns : List Int) : Prop where
  hn : HnAt C H h d T
  tb : TbAt H e U
  dj : ∀ b ∈ tbF e U, b ∉ tbF d T
  hsl : H sl = some (.lst (ns.map V.int))
  s1 : sl ∉ tbF d T
  s2 : sl ∉ tbF e U
section wld
variable {C : Ex} {H H' : Hp} {h d e sl : Addr} {T T' U U' : TB} {ns : List Int}
theorem WldS.same (x : WldS C H h d e T U sl ns) (s : Same H H') : WldS C H' h d e T U sl ns := ⟨x.hn.same s, x.tb.same s, x.dj, s _ _ x.hsl, x.s1, x.s2⟩
theorem WldS.prog (x : WldS C H h d e T U sl ns) (hn : HnAt C H' h d T') (st : Stp (tbF d T) H (tbF d T') H') : WldS C H' h d e T' U sl ns := by
  obtain ⟨a, b⟩ := x.tb.stp x.dj st
  obtain ⟨c, f⟩ := st.keep x.hsl x.s1
  exact ⟨hn, a, b, c, f, x.s2⟩
theorem WldS.own (x : WldS C H h d e T U sl ns) (t : TbAt H' e U') (st : Stp (tbF e U) H (tbF e U') H') : WldS C H' h d e T U' sl ns := by
  have nh : h ∉ tbF e U := fun hb => by
    obtain ⟨dx, i⟩ := x.hn.1
    rcases List.mem_cons.mp hb with rfl | hb
    · rw [x.tb.dict] at i; cases i
    · obtain ⟨y, hy, rfl⟩ := List.mem_map.mp hb
      rw [x.tb.ent y hy] at i; cases i
  obtain ⟨a, b⟩ := x.hn.2.stp (fun b hb q => x.dj b q hb) st
  obtain ⟨c, f⟩ := st.keep x.hsl x.s2
  exact ⟨⟨x.hn.1.imp fun _ i => (st.keep i nh).1, a⟩, t, fun b' hb q => b b' q hb, c, x.s1, f⟩
end wld
/-- an answer is none of a table's objects -/
theorem AnsAt.stp {H H' : Hp} {v : V} {a : Ans} {e : Addr} {U : TB} {F' : List Addr} (t : TbAt H e U) (st : Stp (tbF e U) H F' H') (x : AnsAt H v a) : AnsAt H' v a := by
  have keep : ∀ b o, H b = some o → (∀ xs : List V, o = .lst xs → xs.length ≠ 5) → (∀ kvs : List (Key × V), o ≠ .dK kvs) → H' b = some o := fun b o hb h1 h2 => st.1 b o hb fun hm => by
    rcases List.mem_cons.mp hm with rfl | hm
    · rw [t.dict] at hb
      exact h2 _ (Option.some.inj hb).symm
    · obtain ⟨y, hy, rfl⟩ := List.mem_map.mp hm
      rw [t.ent y hy] at hb
      exact h1 _ (Option.some.inj hb).symm rfl
  have tup : ∀ b xs, H b = some (.tup xs) → H' b = some (.tup xs) := fun b xs hb => keep b _ hb (fun _ q => nomatch q) (fun _ q => nomatch q)
  obtain ⟨l, y, rfl, h1, h2⟩ := x
  refine ⟨l, y, rfl, keep l _ h1 (fun xs q => by rw [← HO.lst.inj q]; show 1 ≠ 5; decide) (fun _ q => nomatch q), ?_⟩
  cases a with
  | txt s => exact h2
  | non => exact h2
  | pair v i =>
    obtain ⟨tt, e1, e2⟩ := h2
    exact ⟨tt, e1, tup _ _ e2⟩
  | quad v i m p =>
    obtain ⟨tt, e1, e2⟩ := h2
    exact ⟨tt, e1, tup _ _ e2⟩
abbrev sp_law (K : PySem.W.Frag) (_ : Ex) : Sp := spLaw K
def t_law (K : PySem.W.Frag) (C : Ex) (E : XK) : TS :=
  tSeq (tAsg (uMake C.Handles (sp_Handles___init__ K C) (WB E) (tNil)) (gName 1))
  (tSeq (tAsg (tDNewK) (gName 2))
  (tSeq (tAsg (tC (.int 0)) (gName 3))
  (tSeq (tIfS (tNot (uTru K (uCall (sp__law_shows K C) (WB E) (tCons (tVar 1) (tCons (tVar 2) (tNil)))))) (tRet (tC (.bl false))) (tNext))
  (tSeq (tFor (iList K (tSl (uSl K) (tVar 0) (tNoPart) (tPart (tC (.int 60))))) (gName 4)
  (tSeq (tAsg (tOp (uMod) (tOp (uMod) (tCB (uInt) (tCons (tVar 4) (tNil))) (tC (.int 6))) (tC (.int 5))) (gName 5))
  (tSeq (tAsg (tOp (uDiv) (tCB (uInt) (tCons (tVar 4) (tNil))) (tC (.int 6))) (gName 6))
  (tCut (tIfS (tAnd (tTest (tOp (uEq K) (tVar 5) (tC (.int 0)))) (tTest (tOp (uLt K) (tCB (uLen K) (tCons (tVar 2) (tNil))) (tC (.int 32))))) (tSeq (tAsg (tOp (uIx K) (tLst (tCons (tC (.str "a")) (tCons (tC (.str "b")) (tCons (tC (.str "main")) (tNil))))) (tOp (uMod) (tVar 6) (tC (.int 3)))) (gName 7))
  (tSeq (tAsg (tOp (uAdd K) (tC (.int 2)) (tOp (uMod) (tOp (uDiv) (tVar 6) (tC (.int 3))) (tC (.int 3)))) (gName 8))
  (tSeq (tAsg (tOp (uIx K) (tLst (tCons (tC (.str "r")) (tCons (tC (.str "w")) (tCons (tC (.str "rw")) (tCons (tC (.str "wa")) (tCons (tC (.str "rwa")) (tNil))))))) (tOp (uMod) (tOp (uDiv) (tVar 6) (tC (.int 9))) (tC (.int 5)))) (gName 9))
  (tSeq (tAsg (uMeth C.Handles "add_open_file" (sp_Handles_add_open_file K C) (WB E) (tVar 1) (tCons (tVar 7) (tCons (tVar 8) (tCons (tVar 9) (tNil))))) (gName 10))
  (tSeq (tIfS (tOr (tNot (uTru K (tCB (uIsi K .int) (tCons (tVar 10) (tCons (tC (.ty "int")) (tNil)))))) (tOr (uTru K (tCB (uIsi K .bool) (tCons (tVar 10) (tCons (tC (.ty "bool")) (tNil))))) (tTest (tOp (uNe K) (tVar 10) (uCall (sp__law_least K C) (WB E) (tCons (tVar 2) (tNil))))))) (tRet (tC (.bl false))) (tNext))
  (tSeq (sDPut (tVar 2) (tVar 10) (tLst (tCons (tVar 7) (tCons (tVar 8) (tCons (tVar 9) (tCons (tC (.int 0)) (tCons (tC (.int 1)) (tNil))))))))
  (tAsg (tCB (uMax K) (tCons (tVar 3) (tCons (tVar 10) (tNil)))) (gName 3)))))))) (tSeq (tAsg (tOp (uMod) (tVar 6) (tOp (uAdd K) (tVar 3) (tC (.int 2)))) (gName 10))
  (tSeq (tAsg (tOp (uSub) (tOp (uMod) (tOp (uDiv) (tVar 6) (tC (.int 61))) (tC (.int 2052))) (tC (.int 1))) (gName 11))
  (tSeq (tAsg (uCall (sp__law_play K C) (WB E) (tCons (tVar 1) (tCons (tVar 5) (tCons (tVar 10) (tCons (tVar 11) (tNil)))))) (gName 12))
  (tIfS (tTest (tOp (uNe K) (tVar 12) (uCall (sp__law_due K C) (WB E) (tCons (tVar 2) (tCons (tVar 5) (tCons (tVar 10) (tCons (tVar 11) (tNil)))))))) (tRet (tC (.bl false))) (tNext))))))
  (tIfS (tNot (uTru K (uCall (sp__law_shows K C) (WB E) (tCons (tVar 1) (tCons (tVar 2) (tNil)))))) (tRet (tC (.bl false))) (tNext))))))
  (tRet (tC (.bl true)))))))
theorem pure_law {K : PySem.W.Frag} {C : Ex} {vs : List V} {H : Hp} {Q : VK} {E : XK} (F : Fa K C) (h : sp_law K C vs H Q E) : t_law K C E { nx := fun _ H' => Q .non H', rt := Q } (start ["_law_script", "_law_handles", "_law_files", "_law_most", "_law_cell", "_law_deed", "_law_rest", "_law_volume", "_law_inode", "_law_mode", "_law_number", "_law_position", "_law_actual"] vs) H := by
  obtain ⟨a0, rfl, p, ns, rfl, hS, hn0, kk⟩ := h
  unfold t_law
  walk_at "run1"
  intro h dx hh hdx hne
  refine w_S1 ⟨h, dx, rfl, upd_same, fun H1 d hn1 f1 hd => ⟨rfl, ?_⟩⟩
  have s1 : Same H H1 := fun b o q => f1 b o (by rw [upd_ne (ne_of_none q hh), upd_ne (ne_of_none q hdx)]; exact q) (ne_of_none q hh)
  have hS1 := s1.seq hS
  walk_at "run1"
  rename_i e he
  have s2 := same_new (o := .dK []) he
  have t2 : TbAt (upd H1 e (.dK [])) e [] := ⟨upd_same, fun x hx => (by cases hx), List.nodup_nil, List.nodup_nil⟩
  have ned : e ≠ d := fun q => by rw [q, hn1.2.dict] at he; cases he
  generalize upd H1 e _ = H2 at *
  have hn2 := hn1.same s2
  have hS2 := s2.seq hS1
  walk_at "run1"
  refine w_S2 ⟨h, d, e, [], [], rfl, rfl, hn2, t2, rfl, by decide, fun H3 s3 => ?_⟩
  have hS3 := s3.seq hS2
  walk_at "run1"
  refine w_slL hS3 fun sl hsl => ?_
  rw [show cutV (ns.map V.int) none (some 60) = (ns.take 60).map V.int by
    have z := cut_take (ns.map V.int) 60
    rw [show (((60 : Nat)) : Int) = 60 from rfl] at z
    rw [z, List.map_take]]
  have X0 : WldS C (upd H3 sl (.lst ((ns.take 60).map V.int))) h d e [] [] sl (ns.take 60) := by
    have s4 := same_new (o := .lst ((ns.take 60).map V.int)) hsl
    refine ⟨(hn2.same s3).same s4, (t2.same s3).same s4, fun b hb q => ?_, upd_same, fun q => ?_, fun q => ?_⟩
    · rw [List.mem_singleton.mp hb] at q
      exact ned (List.mem_singleton.mp q)
    · exact (hn2.same s3).2.fresh hsl q
    · exact (t2.same s3).fresh hsl q
  generalize upd H3 sl _ = H4 at *
  clear hS hS1 hS2 hS3 hn1 hn2 t2 s1 s2 s3 f1 hsl he hd hh hdx ned
  generalize ns.take 60 = ms at *
  have hsl4 := X0.hsl
  walk_at "run1"
  refine f_list (xs := ms.map V.int) (fun j σ H' => ∃ (T U : TB) (most : Int) (v4 v5 v6 v7 v8 v9 v10 v11 v12 : Option V), σ = [some (.ref p), some (.ref h), some (.ref e), some (.int most), v4, v5, v6, v7, v8, v9, v10, v11, v12] ∧ 0 ≤ most ∧ WldS C H' h d e T U sl ms ∧ datT T = datT U ∧ T.length ≤ 32 ∧ RefsOk (datT U))
    ⟨[], [], 0, none, none, none, none, none, none, none, none, none, rfl, by decide, X0, rfl, by decide, fun x hx => by cases hx⟩ (by rintro j σ H' _ ⟨_, _, _, _, _, _, _, _, _, _, _, _, _, _, x, _⟩; exact SqL.of x.hsl) ?_ ?_
  · rintro j x σ H5 hx ⟨T, U, most, v4, v5, v6, v7, v8, v9, v10, v11, v12, rfl, m0, X, hdat, hl, hr⟩
    obtain ⟨cell, hcell, rfl⟩ := at_int hx
    have hd5 := X.tb.dict
    have hU : U.length = T.length := by rw [← dat_len, ← dat_len, hdat]
    obtain ⟨dx5, i5⟩ := X.hn.1
    walk_at "run1"
    refine w_cut (fun σ H' => ∃ (T U : TB) (most : Int) (v5 v6 v7 v8 v9 v10 v11 v12 : Option V), σ = [some (.ref p), some (.ref h), some (.ref e), some (.int most), some (.int cell), v5, v6, v7, v8, v9, v10, v11, v12] ∧ 0 ≤ most ∧ WldS C H' h d e T U sl ms ∧ datT T = datT U ∧ T.length ≤ 32 ∧ RefsOk (datT U)) ?_ ?_
    · walk_at "run1"
      · refine .inr ⟨_, hd5, ?_⟩
        rw [T_len]
        walk_at "run1"
        · rename_i hlt l1 hl1
          have hlt : U.length < 32 := by omega
          refine w_ixA (SqL.of upd_same) ⟨by omega, by show _ < 3; omega⟩ fun v hv => ?_
          have hy : ∃ y : Str, v = .str y := by
            have hm := List.mem_of_getElem? hv
            simp only [List.mem_cons, List.not_mem_nil, or_false] at hm
            rcases hm with h | h | h <;> exact ⟨_, h⟩
          obtain ⟨vol, rfl⟩ := hy
          have s6 := same_new (o := .lst [.str "a", .str "b", .str "main"]) hl1
          generalize upd H5 l1 _ = H6 at *
          walk_at "run1"
          rename_i l2 hl2
          refine w_ixA (SqL.of upd_same) ⟨by omega, by show _ < 5; omega⟩ fun v hv2 => ?_
          have hy : ∃ y : Str, v = .str y := by
            have hm := List.mem_of_getElem? hv2
            simp only [List.mem_cons, List.not_mem_nil, or_false] at hm
            rcases hm with h | h | h | h | h <;> exact ⟨_, h⟩
          obtain ⟨mode, rfl⟩ := hy
          have s7 := same_updN (o := .lst [.str "r", .str "w", .str "rw", .str "wa", .str "rwa"]) s6 hl2
          generalize upd H6 l2 _ = H7 at *
          have X7 := X.same s7
          obtain ⟨dx7, i7⟩ := X7.hn.1
          walk_at "run1"
          refine w_S4 ⟨h, d, T, vol, mode, _, rfl, rfl, rfl, rfl, X7.hn, by omega, fun n H8 p1 hL hn8 st8 => ?_⟩
          have X8 := X7.prog hn8 st8
          have hd8 := X8.tb.dict
          walk_at "run1"
          refine w_S1 ⟨e, U, rfl, X8.tb, by omega, fun n2 hL2 => ?_⟩
          rw [← hdat] at hL2
          obtain rfl : n2 = n := hL2.eq hL
          walk_at "run1"
          rename_i p2 hp2
          have s9 := same_new (o := .lst [.str vol, .int (2 + cell / 6 / 3 % 3), .str mode, .int 0, .int 1]) hp2
          have ep2 : upd H8 p2 (.lst [.str vol, .int (2 + cell / 6 / 3 % 3), .str mode, .int 0, .int 1]) p2 = some (entO ⟨vol, 2 + cell / 6 / 3 % 3, mode, 0, 1⟩) := upd_same
          generalize upd H8 p2 _ = H9 at *
          have hd9 := s9 _ _ hd8
          have hkey : (n2 : Int) ∉ U.map (·.1) := by rw [keys_T, ← hdat]; exact hL.1
          refine w_dputI hd9 (by rw [T_len]; omega) ?_
          rw [put_T (f := ⟨vol, 2 + cell / 6 / 3 % 3, mode, 0, 1⟩) hkey]
          have t10 := X8.tb.add (f := ⟨vol, 2 + cell / 6 / 3 % 3, mode, 0, 1⟩) hkey s9 hp2 ep2
          have st10 := TbAt.add_stp (d := e) (T := U) (n := (n2 : Int)) (f := ⟨vol, 2 + cell / 6 / 3 % 3, mode, 0, 1⟩) s9 hp2 (o := .dK (kvsT (U ++ [((n2 : Int), p2, ⟨vol, 2 + cell / 6 / 3 % 3, mode, 0, 1⟩)])))
          have X10 := X8.own t10 st10
          walk_at "run1"
          refine ⟨_, _, _, _, _, _, _, _, _, _, _, rfl, by split <;> omega, X10, ?_, by rw [List.length_append]; simp only [List.length_cons, List.length_nil]; omega, ?_⟩
          · unfold datT at hdat ⊢
            rw [List.map_append, List.map_append, hdat]
            rfl
          · intro y hy
            unfold datT at hy
            rw [List.map_append] at hy
            rcases List.mem_append.mp hy with hy | hy
            · exact hr y hy
            · rw [List.mem_singleton.mp hy]
              exact Int.le_refl 1
        · clear i5
          obtain ⟨dx5, i5⟩ := X.hn.1
          have mm : 0 < most + 2 := by omega
          walk_at "run1"
          refine w_S4 ⟨h, d, T, _, _, _, rfl, rfl, rfl, rfl, X.hn, fun H6 T' w1 ed hn6 st6 a1 => ?_⟩
          have X6 := X.prog hn6 st6
          walk_at "run1"
          refine w_S4 ⟨e, U, _, _, _, rfl, rfl, rfl, rfl, X6.tb, hr, fun H7 U' w2 eu t7 st7 a2 => ?_⟩
          have X7 := X6.own t7 st7
          have a17 := a1.stp X6.tb st7
          rw [← hdat] at a2 eu
          refine w_neD a17.dt a2.dt (by decide) (by obtain ⟨l, x, e, _⟩ := a1; exact ⟨l, e⟩) ?_
          rw [decide_eq_true rfl]
          walk_at "run1"
          exact ⟨T', U', most, _, _, _, _, _, _, _, _, rfl, m0, X7, by rw [ed, eu], by rw [← dat_len, ed]; exact Nat.le_trans (next_len _ _ _ _) (by rw [dat_len]; exact hl), by rw [eu, hdat]; exact hr.next⟩
      · obtain ⟨dx5, i5⟩ := X.hn.1
        have mm : 0 < most + 2 := by omega
        walk_at "run1"
        refine w_S4 ⟨h, d, T, _, _, _, rfl, rfl, rfl, rfl, X.hn, fun H6 T' w1 ed hn6 st6 a1 => ?_⟩
        have X6 := X.prog hn6 st6
        walk_at "run1"
        refine w_S4 ⟨e, U, _, _, _, rfl, rfl, rfl, rfl, X6.tb, hr, fun H7 U' w2 eu t7 st7 a2 => ?_⟩
        have X7 := X6.own t7 st7
        have a17 := a1.stp X6.tb st7
        rw [← hdat] at a2 eu
        refine w_neD a17.dt a2.dt (by decide) (by obtain ⟨l, x, e, _⟩ := a1; exact ⟨l, e⟩) ?_
        rw [decide_eq_true rfl]
        walk_at "run1"
        exact ⟨T', U', most, _, _, _, _, _, _, _, _, rfl, m0, X7, by rw [ed, eu], by rw [← dat_len, ed]; exact Nat.le_trans (next_len _ _ _ _) (by rw [dat_len]; exact hl), by rw [eu, hdat]; exact hr.next⟩
    · rintro σ H6 ⟨T, U, most, v5, v6, v7, v8, v9, v10, v11, v12, rfl, m0, X, hdat, hl, hr⟩
      walk_at "run1"
      refine w_S2 ⟨h, d, e, T, U, rfl, rfl, X.hn, X.tb, hdat, by omega, fun H7 s7 => ?_⟩
      walk_at "run1"
      exact ⟨T, U, most, _, _, _, _, _, _, _, _, _, rfl, m0, X.same s7, hdat, hl, hr⟩
  · rintro σ H5 ⟨T, U, most, v4, v5, v6, v7, v8, v9, v10, v11, v12, rfl, m0, X, hdat, hl, hr⟩
    walk_at "run1"
    exact kk _
def topS (i : Nat) : Stmt := PySem.Challenge.pw_laminae_k53_open_files.main.body.getD i (.Pass ⟨0, 0, 0, 0⟩)
abbrev s_Handles___init__ : Stmt := inClass (topS 6) 0
theorem sc_Handles___init__ : FnScope ["self"] ["self"] (defScope s_Handles___init__) := ⟨rfl, rfl, rfl, by decide +kernel, rfl, by decide +kernel, by decide +kernel⟩
abbrev s_Handles__look : Stmt := inClass (topS 6) 1
theorem sc_Handles__look : FnScope ["self", "number"] ["self", "number"] (defScope s_Handles__look) := ⟨rfl, rfl, rfl, by decide +kernel, rfl, by decide +kernel, by decide +kernel⟩
abbrev s_Handles_open_files : Stmt := inClass (topS 6) 2
theorem sc_Handles_open_files : FnScope ["self", "files", "number", "volume", "inode", "mode", "position", "references"] ["self"] (defScope s_Handles_open_files) := ⟨rfl, rfl, rfl, by decide +kernel, rfl, by decide +kernel, by decide +kernel⟩
abbrev s_Handles_add_open_file : Stmt := inClass (topS 6) 3
theorem sc_Handles_add_open_file : FnScope ["self", "volume", "inode", "mode", "number"] ["self", "volume", "inode", "mode"] (defScope s_Handles_add_open_file) := ⟨rfl, rfl, rfl, by decide +kernel, rfl, by decide +kernel, by decide +kernel⟩
abbrev s_Handles_look_up : Stmt := inClass (topS 6) 4
theorem sc_Handles_look_up : FnScope ["self", "number", "volume", "inode", "mode", "position", "_"] ["self", "number"] (defScope s_Handles_look_up) := ⟨rfl, rfl, rfl, by decide +kernel, rfl, by decide +kernel, by decide +kernel⟩
abbrev s_Handles_move_to : Stmt := inClass (topS 6) 5
theorem sc_Handles_move_to : FnScope ["self", "number", "position", "file"] ["self", "number", "position"] (defScope s_Handles_move_to) := ⟨rfl, rfl, rfl, by decide +kernel, rfl, by decide +kernel, by decide +kernel⟩
abbrev s_Handles_add_reference : Stmt := inClass (topS 6) 6
theorem sc_Handles_add_reference : FnScope ["self", "number", "file"] ["self", "number"] (defScope s_Handles_add_reference) := ⟨rfl, rfl, rfl, by decide +kernel, rfl, by decide +kernel, by decide +kernel⟩
abbrev s_Handles_drop_reference : Stmt := inClass (topS 6) 7
theorem sc_Handles_drop_reference : FnScope ["self", "number", "file"] ["self", "number"] (defScope s_Handles_drop_reference) := ⟨rfl, rfl, rfl, by decide +kernel, rfl, by decide +kernel, by decide +kernel⟩
abbrev s_Handles_is_open : Stmt := inClass (topS 6) 8
theorem sc_Handles_is_open : FnScope ["self", "volume", "inode", "number"] ["self", "volume", "inode"] (defScope s_Handles_is_open) := ⟨rfl, rfl, rfl, by decide +kernel, rfl, by decide +kernel, by decide +kernel⟩
abbrev s_Handles_uses_volume : Stmt := inClass (topS 6) 9
theorem sc_Handles_uses_volume : FnScope ["self", "volume", "number"] ["self", "volume"] (defScope s_Handles_uses_volume) := ⟨rfl, rfl, rfl, by decide +kernel, rfl, by decide +kernel, by decide +kernel⟩
abbrev s__law_classes : Stmt := topS 8
theorem sc__law_classes : FnScope ["_law_error", "_law_found"] ["_law_error"] (defScope s__law_classes) := ⟨rfl, rfl, rfl, by decide +kernel, rfl, by decide +kernel, by decide +kernel⟩
abbrev s__law_play : Stmt := topS 9
theorem sc__law_play : FnScope ["_law_handles", "_law_deed", "_law_number", "_law_position", "_law_error"] ["_law_handles", "_law_deed", "_law_number", "_law_position"] (defScope s__law_play) := ⟨rfl, rfl, rfl, by decide +kernel, rfl, by decide +kernel, by decide +kernel⟩
abbrev s__law_open : Stmt := topS 10
theorem sc__law_open : FnScope ["_law_files", "_law_volume", "_law_inode", "_law_number"] ["_law_files", "_law_volume", "_law_inode"] (defScope s__law_open) := ⟨rfl, rfl, rfl, by decide +kernel, rfl, by decide +kernel, by decide +kernel⟩
abbrev s__law_due : Stmt := topS 11
theorem sc__law_due : FnScope ["_law_files", "_law_deed", "_law_number", "_law_position", "_law_file"] ["_law_files", "_law_deed", "_law_number", "_law_position"] (defScope s__law_due) := ⟨rfl, rfl, rfl, by decide +kernel, rfl, by decide +kernel, by decide +kernel⟩
abbrev s__law_least : Stmt := topS 12
theorem sc__law_least : FnScope ["_law_files", "_law_number"] ["_law_files"] (defScope s__law_least) := ⟨rfl, rfl, rfl, by decide +kernel, rfl, by decide +kernel, by decide +kernel⟩
abbrev s__law_shows : Stmt := topS 13
theorem sc__law_shows : FnScope ["_law_handles", "_law_files", "_law_rows", "_law_number", "_law_actual", "_law_volume", "_law_used", "_law_inode", "_law_known"] ["_law_handles", "_law_files"] (defScope s__law_shows) := ⟨rfl, rfl, rfl, by decide +kernel, rfl, by decide +kernel, by decide +kernel⟩
abbrev s_law : Stmt := topS 14
theorem sc_law : FnScope ["_law_script", "_law_handles", "_law_files", "_law_most", "_law_cell", "_law_deed", "_law_rest", "_law_volume", "_law_inode", "_law_mode", "_law_number", "_law_position", "_law_actual"] ["_law_script"] (defScope s_law) := ⟨rfl, rfl, rfl, by decide +kernel, rfl, by decide +kernel, by decide +kernel⟩
structure Adr where
  ex : Ex
  f_Handles___init__ : Addr
  d_Handles___init__ : FuncData
  f_Handles__look : Addr
  d_Handles__look : FuncData
  f_Handles_open_files : Addr
  d_Handles_open_files : FuncData
  f_Handles_add_open_file : Addr
  d_Handles_add_open_file : FuncData
  f_Handles_look_up : Addr
  d_Handles_look_up : FuncData
  f_Handles_move_to : Addr
  d_Handles_move_to : FuncData
  f_Handles_add_reference : Addr
  d_Handles_add_reference : FuncData
  f_Handles_drop_reference : Addr
  d_Handles_drop_reference : FuncData
  f_Handles_is_open : Addr
  d_Handles_is_open : FuncData
  f_Handles_uses_volume : Addr
  d_Handles_uses_volume : FuncData
  f__law_classes : Addr
  d__law_classes : FuncData
  f__law_play : Addr
  d__law_play : FuncData
  f__law_open : Addr
  d__law_open : FuncData
  f__law_due : Addr
  d__law_due : FuncData
  f__law_least : Addr
  d__law_least : FuncData
  f__law_shows : Addr
  d__law_shows : FuncData
  f_law : Addr
  d_law : FuncData
structure Top (K : PySem.W.Frag) (mg : Str → Option Value) (A : Adr) : Prop where
  F_Handles___init__ : Fun K "__init__" "Handles.__init__" s_Handles___init__ A.f_Handles___init__ A.d_Handles___init__
  b_Handles___init__ : Binds K A.d_Handles___init__ ["self"] []
  F_Handles__look : Fun K "_look" "Handles._look" s_Handles__look A.f_Handles__look A.d_Handles__look
  b_Handles__look : Binds K A.d_Handles__look ["self", "number"] []
  m_Handles__look : Meth K A.ex.Handles "_look" A.f_Handles__look
  F_Handles_open_files : Fun K "open_files" "Handles.open_files" s_Handles_open_files A.f_Handles_open_files A.d_Handles_open_files
  b_Handles_open_files : Binds K A.d_Handles_open_files ["self"] []
  m_Handles_open_files : Meth K A.ex.Handles "open_files" A.f_Handles_open_files
  F_Handles_add_open_file : Fun K "add_open_file" "Handles.add_open_file" s_Handles_add_open_file A.f_Handles_add_open_file A.d_Handles_add_open_file
  b_Handles_add_open_file : Binds K A.d_Handles_add_open_file ["self", "volume", "inode", "mode"] []
  m_Handles_add_open_file : Meth K A.ex.Handles "add_open_file" A.f_Handles_add_open_file
  F_Handles_look_up : Fun K "look_up" "Handles.look_up" s_Handles_look_up A.f_Handles_look_up A.d_Handles_look_up
  b_Handles_look_up : Binds K A.d_Handles_look_up ["self", "number"] []
  m_Handles_look_up : Meth K A.ex.Handles "look_up" A.f_Handles_look_up
  F_Handles_move_to : Fun K "move_to" "Handles.move_to" s_Handles_move_to A.f_Handles_move_to A.d_Handles_move_to
  b_Handles_move_to : Binds K A.d_Handles_move_to ["self", "number", "position"] []
  m_Handles_move_to : Meth K A.ex.Handles "move_to" A.f_Handles_move_to
  F_Handles_add_reference : Fun K "add_reference" "Handles.add_reference" s_Handles_add_reference A.f_Handles_add_reference A.d_Handles_add_reference
  b_Handles_add_reference : Binds K A.d_Handles_add_reference ["self", "number"] []
  m_Handles_add_reference : Meth K A.ex.Handles "add_reference" A.f_Handles_add_reference
  F_Handles_drop_reference : Fun K "drop_reference" "Handles.drop_reference" s_Handles_drop_reference A.f_Handles_drop_reference A.d_Handles_drop_reference
  b_Handles_drop_reference : Binds K A.d_Handles_drop_reference ["self", "number"] []
  m_Handles_drop_reference : Meth K A.ex.Handles "drop_reference" A.f_Handles_drop_reference
  F_Handles_is_open : Fun K "is_open" "Handles.is_open" s_Handles_is_open A.f_Handles_is_open A.d_Handles_is_open
  b_Handles_is_open : Binds K A.d_Handles_is_open ["self", "volume", "inode"] []
  m_Handles_is_open : Meth K A.ex.Handles "is_open" A.f_Handles_is_open
  F_Handles_uses_volume : Fun K "uses_volume" "Handles.uses_volume" s_Handles_uses_volume A.f_Handles_uses_volume A.d_Handles_uses_volume
  b_Handles_uses_volume : Binds K A.d_Handles_uses_volume ["self", "volume"] []
  m_Handles_uses_volume : Meth K A.ex.Handles "uses_volume" A.f_Handles_uses_volume
  F__law_classes : Fun K "_law_classes" "_law_classes" s__law_classes A.f__law_classes A.d__law_classes
  b__law_classes : Binds K A.d__law_classes ["_law_error"] []
  g__law_classes : mg "_law_classes" = some (.ref A.f__law_classes)
  F__law_play : Fun K "_law_play" "_law_play" s__law_play A.f__law_play A.d__law_play
  b__law_play : Binds K A.d__law_play ["_law_handles", "_law_deed", "_law_number", "_law_position"] []
  g__law_play : mg "_law_play" = some (.ref A.f__law_play)
  F__law_open : Fun K "_law_open" "_law_open" s__law_open A.f__law_open A.d__law_open
  b__law_open : Binds K A.d__law_open ["_law_files", "_law_volume", "_law_inode"] []
  g__law_open : mg "_law_open" = some (.ref A.f__law_open)
  F__law_due : Fun K "_law_due" "_law_due" s__law_due A.f__law_due A.d__law_due
  b__law_due : Binds K A.d__law_due ["_law_files", "_law_deed", "_law_number", "_law_position"] []
  g__law_due : mg "_law_due" = some (.ref A.f__law_due)
  F__law_least : Fun K "_law_least" "_law_least" s__law_least A.f__law_least A.d__law_least
  b__law_least : Binds K A.d__law_least ["_law_files"] []
  g__law_least : mg "_law_least" = some (.ref A.f__law_least)
  F__law_shows : Fun K "_law_shows" "_law_shows" s__law_shows A.f__law_shows A.d__law_shows
  b__law_shows : Binds K A.d__law_shows ["_law_handles", "_law_files"] []
  g__law_shows : mg "_law_shows" = some (.ref A.f__law_shows)
  F_law : Fun K "law" "law" s_law A.f_law A.d_law
  b_law : Binds K A.d_law ["_law_script"] []
  g_law : mg "law" = some (.ref A.f_law)
  n_bool : mg "bool" = none
  n_int : mg "int" = none
  n_isinstance : mg "isinstance" = none
  n_len : mg "len" = none
  n_list : mg "list" = none
  n_max : mg "max" = none
  n_range : mg "range" = none
  n_sorted : mg "sorted" = none
  n_tuple : mg "tuple" = none
  k_MAX_POSITION : ∃ t, mg "MAX_POSITION" = some (.int 2048 t)
  x_BadHandle : Exc K mg "BadHandle" A.ex.BadHandle
  x_LaminaError : Exc K mg "LaminaError" A.ex.LaminaError
  x_NotValid : Exc K mg "NotValid" A.ex.NotValid
  n_Handles_files : NoAttr K A.ex.Handles "files"
  c_Handles : Cls K A.ex.Handles
  M_Handles : Mk K A.ex.Handles A.f_Handles___init__
  gC_Handles : mg "Handles" = some (.ref A.ex.Handles)
  fa : Fa K A.ex
section
variable {P : Program} {w : World} {K : PySem.W.Frag} {mg : Str → Option Value} {base : Heap} {A : Adr}
theorem ok_Handles___init__ (T : Top K mg A) : FnOk P w K mg base (L2.CX P w) 1 A.f_Handles___init__ A.d_Handles___init__ ["self"] (sp_Handles___init__ K A.ex) := by
  refine T.F_Handles___init__.okX sc_Handles___init__ (fun vs H Q E h => len1 h) (fun cdv Ar outer s H vs Q E hr h => ⟨t_Handles___init__ K A.ex E, ?_, pure_Handles___init__ T.fa h⟩)
  have tk : Takes (cxOf (L2.CX P w) P w K mg base ["self"] "Handles.__init__" (defScope s_Handles___init__) A.f_Handles___init__ cdv Ar outer s H E) (WB E) := takes_of rfl rfl rfl rfl
  exact pss_one (s_fld T.c_Handles T.n_Handles_files (pv 0) (pe_dnewK))
theorem ok_Handles__look (T : Top K mg A) : FnOk P w K mg base (L2.CX P w) 1 A.f_Handles__look A.d_Handles__look ["self", "number"] (sp_Handles__look K A.ex) := by
  refine T.F_Handles__look.okX sc_Handles__look (fun vs H Q E h => len2 h) (fun cdv Ar outer s H vs Q E hr h => ⟨t_Handles__look K A.ex E, ?_, pure_Handles__look T.fa h⟩)
  have tk : Takes (cxOf (L2.CX P w) P w K mg base ["self", "number"] "Handles._look" (defScope s_Handles__look) A.f_Handles__look cdv Ar outer s H E) (WB E) := takes_of rfl rfl rfl rfl
  have hu := hu_of hr
  exact pss_cons (ps_if (pt_cmpR (o_nin hu) (pv 1) (e_fld T.c_Handles T.n_Handles_files (pv 0)) (by rfl)) (pss_one (s_raise T.x_BadHandle tk)) (pss_nil))
        (pss_one (ps_ret (e_dg hu (e_fld T.c_Handles T.n_Handles_files (pv 0)) (pv 1))))
theorem ok_Handles_open_files (T : Top K mg A) : FnOk P w K mg base (L2.CX P w) 1 A.f_Handles_open_files A.d_Handles_open_files ["self"] (sp_Handles_open_files K A.ex) := by
  refine T.F_Handles_open_files.okX sc_Handles_open_files (fun vs H Q E h => len1 h) (fun cdv Ar outer s H vs Q E hr h => ⟨t_Handles_open_files K A.ex E, ?_, pure_Handles_open_files T.fa h⟩)
  have tk : Takes (cxOf (L2.CX P w) P w K mg base ["self", "files", "number", "volume", "inode", "mode", "position", "references"] "Handles.open_files" (defScope s_Handles_open_files) A.f_Handles_open_files cdv Ar outer s H E) (WB E) := takes_of rfl rfl rfl rfl
  have po : PassesOwn (model P w) (cxOf (L2.CX P w) P w K mg base ["self", "files", "number", "volume", "inode", "mode", "position", "references"] "Handles.open_files" (defScope s_Handles_open_files) A.f_Handles_open_files cdv Ar outer s H E).A (cxOf (L2.CX P w) P w K mg base ["self", "files", "number", "volume", "inode", "mode", "position", "references"] "Handles.open_files" (defScope s_Handles_open_files) A.f_Handles_open_files cdv Ar outer s H E).env (cxOf (L2.CX P w) P w K mg base ["self", "files", "number", "volume", "inode", "mode", "position", "references"] "Handles.open_files" (defScope s_Handles_open_files) A.f_Handles_open_files cdv Ar outer s H E).xe := passes_of rfl
  have hu := hu_of hr
  exact pss_cons (ps_set (i := 1) sc_Handles_open_files.nd rfl (Or.inl rfl) (pe_lst (pa_nil)))
        (pss_cons (ps_for po rfl (pi_list (pe_callB (c_sortD rfl) (by rfl) T.n_sorted (by decide +kernel) (pa_cons (e_fld T.c_Handles T.n_Handles_files (pv 0)) (pa_nil)))) (pg_name (i := 2) sc_Handles_open_files.nd rfl (Or.inl rfl))
        (pss_cons (ps_asg (e_dg hu (e_fld T.c_Handles T.n_Handles_files (pv 0)) (pv 2)) (pg_lst rfl (pgs_cons (pg_name (i := 3) sc_Handles_open_files.nd rfl (Or.inl rfl)) (pgs_cons (pg_name (i := 4) sc_Handles_open_files.nd rfl (Or.inl rfl)) (pgs_cons (pg_name (i := 5) sc_Handles_open_files.nd rfl (Or.inl rfl)) (pgs_cons (pg_name (i := 6) sc_Handles_open_files.nd rfl (Or.inl rfl)) (pgs_cons (pg_name (i := 7) sc_Handles_open_files.nd rfl (Or.inl rfl)) (pgs_nil))))))))
        (pss_one (ps_expr (pe_bm PySem.F.plainAttrs_list PySem.F.slot_list_append PySem.F.type_list_append mt_append (pv 1) (pa_cons (pe_tup (pa_cons (pv 2) (pa_cons (pv 3) (pa_cons (pv 4) (pa_cons (pv 5) (pa_cons (pv 6) (pa_cons (pv 7) (pa_nil)))))))) (pa_nil)))))))
        (pss_one (ps_ret (pv 1))))
theorem ok_Handles_add_open_file (T : Top K mg A) : FnOk P w K mg base (L2.CX P w) 1 A.f_Handles_add_open_file A.d_Handles_add_open_file ["self", "volume", "inode", "mode"] (sp_Handles_add_open_file K A.ex) := by
  refine T.F_Handles_add_open_file.okX sc_Handles_add_open_file (fun vs H Q E h => len4 h) (fun cdv Ar outer s H vs Q E hr h => ⟨t_Handles_add_open_file K A.ex E, ?_, pure_Handles_add_open_file T.fa h⟩)
  have tk : Takes (cxOf (L2.CX P w) P w K mg base ["self", "volume", "inode", "mode", "number"] "Handles.add_open_file" (defScope s_Handles_add_open_file) A.f_Handles_add_open_file cdv Ar outer s H E) (WB E) := takes_of rfl rfl rfl rfl
  have po : PassesOwn (model P w) (cxOf (L2.CX P w) P w K mg base ["self", "volume", "inode", "mode", "number"] "Handles.add_open_file" (defScope s_Handles_add_open_file) A.f_Handles_add_open_file cdv Ar outer s H E).A (cxOf (L2.CX P w) P w K mg base ["self", "volume", "inode", "mode", "number"] "Handles.add_open_file" (defScope s_Handles_add_open_file) A.f_Handles_add_open_file cdv Ar outer s H E).env (cxOf (L2.CX P w) P w K mg base ["self", "volume", "inode", "mode", "number"] "Handles.add_open_file" (defScope s_Handles_add_open_file) A.f_Handles_add_open_file cdv Ar outer s H E).xe := passes_of rfl
  have hu := hu_of hr
  exact pss_cons (ps_set (i := 4) sc_Handles_add_open_file.nd rfl (Or.inl rfl) (pe_int))
        (pss_cons (ps_while po (pt_cmpR (o_in hu) (pv 4) (e_fld T.c_Handles T.n_Handles_files (pv 0)) (by rfl))
        (pss_one (ps_set (i := 4) sc_Handles_add_open_file.nd rfl (Or.inl rfl) (pe_op o_add (pv 4) (pe_int)))))
        (pss_cons (ps_dput hu (e_fld T.c_Handles T.n_Handles_files (pv 0)) (pv 4) (pe_lst (pa_cons (pv 1) (pa_cons (pv 2) (pa_cons (pv 3) (pa_cons (pe_int) (pa_cons (pe_int) (pa_nil))))))) rfl)
        (pss_one (ps_ret (pv 4)))))
theorem ok_Handles_look_up (T : Top K mg A) : FnOk P w K mg base (L2.CX P w) 2 A.f_Handles_look_up A.d_Handles_look_up ["self", "number"] (sp_Handles_look_up K A.ex) := by
  refine T.F_Handles_look_up.okX sc_Handles_look_up (fun vs H Q E h => len2 h) (fun cdv Ar outer s H vs Q E hr h => ⟨t_Handles_look_up K A.ex E, ?_, pure_Handles_look_up T.fa h⟩)
  have tk : Takes (cxOf (L2.CX P w) P w K mg base ["self", "number", "volume", "inode", "mode", "position", "_"] "Handles.look_up" (defScope s_Handles_look_up) A.f_Handles_look_up cdv Ar outer s H E) (WB E) := takes_of rfl rfl rfl rfl
  exact pss_cons (ps_asg (e_meth (pv 0) T.c_Handles T.m_Handles__look (ok_Handles__look T) (hr.mono (by decide)) T.b_Handles__look tk (pa_cons (pv 1) (pa_nil))) (pg_lst rfl (pgs_cons (pg_name (i := 2) sc_Handles_look_up.nd rfl (Or.inl rfl)) (pgs_cons (pg_name (i := 3) sc_Handles_look_up.nd rfl (Or.inl rfl)) (pgs_cons (pg_name (i := 4) sc_Handles_look_up.nd rfl (Or.inl rfl)) (pgs_cons (pg_name (i := 5) sc_Handles_look_up.nd rfl (Or.inl rfl)) (pgs_cons (pg_name (i := 6) sc_Handles_look_up.nd rfl (Or.inl rfl)) (pgs_nil))))))))
        (pss_one (ps_ret (pe_tup (pa_cons (pv 2) (pa_cons (pv 3) (pa_cons (pv 4) (pa_cons (pv 5) (pa_nil))))))))
theorem ok_Handles_move_to (T : Top K mg A) : FnOk P w K mg base (L2.CX P w) 2 A.f_Handles_move_to A.d_Handles_move_to ["self", "number", "position"] (sp_Handles_move_to K A.ex) := by
  refine T.F_Handles_move_to.okX sc_Handles_move_to (fun vs H Q E h => len3 h) (fun cdv Ar outer s H vs Q E hr h => ⟨t_Handles_move_to K A.ex E, ?_, pure_Handles_move_to T.fa h⟩)
  have tk : Takes (cxOf (L2.CX P w) P w K mg base ["self", "number", "position", "file"] "Handles.move_to" (defScope s_Handles_move_to) A.f_Handles_move_to cdv Ar outer s H E) (WB E) := takes_of rfl rfl rfl rfl
  have hu := hu_of hr
  have hl := Nat.lt_of_succ_lt hu
  exact pss_cons (ps_set (i := 3) sc_Handles_move_to.nd rfl (Or.inl rfl) (e_meth (pv 0) T.c_Handles T.m_Handles__look (ok_Handles__look T) (hr.mono (by decide)) T.b_Handles__look tk (pa_cons (pv 1) (pa_nil))))
        (pss_cons (ps_if (pt_not (pt_chain (o_le hl) (o_le hl) (pe_int) (pv 2) (pe_glob rfl T.k_MAX_POSITION.choose_spec ⟨_, rfl⟩))) (pss_one (s_raise T.x_NotValid tk)) (pss_nil))
        (pss_one (ps_asg (pv 2) (pg_sub (pv 3) (pe_int) (set_u hu)))))
theorem ok_Handles_add_reference (T : Top K mg A) : FnOk P w K mg base (L2.CX P w) 2 A.f_Handles_add_reference A.d_Handles_add_reference ["self", "number"] (sp_Handles_add_reference K A.ex) := by
  refine T.F_Handles_add_reference.okX sc_Handles_add_reference (fun vs H Q E h => len2 h) (fun cdv Ar outer s H vs Q E hr h => ⟨t_Handles_add_reference K A.ex E, ?_, pure_Handles_add_reference T.fa h⟩)
  have tk : Takes (cxOf (L2.CX P w) P w K mg base ["self", "number", "file"] "Handles.add_reference" (defScope s_Handles_add_reference) A.f_Handles_add_reference cdv Ar outer s H E) (WB E) := takes_of rfl rfl rfl rfl
  have hu := hu_of hr
  exact pss_cons (ps_set (i := 2) sc_Handles_add_reference.nd rfl (Or.inl rfl) (e_meth (pv 0) T.c_Handles T.m_Handles__look (ok_Handles__look T) (hr.mono (by decide)) T.b_Handles__look tk (pa_cons (pv 1) (pa_nil))))
        (pss_one (ps_asg (pe_op o_add (e_ix (pv 2) (pe_int)) (pe_int)) (pg_sub (pv 2) (pe_int) (set_u hu))))
theorem ok_Handles_is_open (T : Top K mg A) : FnOk P w K mg base (L2.CX P w) 1 A.f_Handles_is_open A.d_Handles_is_open ["self", "volume", "inode"] (sp_Handles_is_open K A.ex) := by
  refine T.F_Handles_is_open.okX sc_Handles_is_open (fun vs H Q E h => len3 h) (fun cdv Ar outer s H vs Q E hr h => ⟨t_Handles_is_open K A.ex E, ?_, pure_Handles_is_open T.fa h⟩)
  have tk : Takes (cxOf (L2.CX P w) P w K mg base ["self", "volume", "inode", "number"] "Handles.is_open" (defScope s_Handles_is_open) A.f_Handles_is_open cdv Ar outer s H E) (WB E) := takes_of rfl rfl rfl rfl
  have po : PassesOwn (model P w) (cxOf (L2.CX P w) P w K mg base ["self", "volume", "inode", "number"] "Handles.is_open" (defScope s_Handles_is_open) A.f_Handles_is_open cdv Ar outer s H E).A (cxOf (L2.CX P w) P w K mg base ["self", "volume", "inode", "number"] "Handles.is_open" (defScope s_Handles_is_open) A.f_Handles_is_open cdv Ar outer s H E).env (cxOf (L2.CX P w) P w K mg base ["self", "volume", "inode", "number"] "Handles.is_open" (defScope s_Handles_is_open) A.f_Handles_is_open cdv Ar outer s H E).xe := passes_of rfl
  have hu := hu_of hr
  exact pss_cons (ps_lock (ps_for po rfl (pi_keys (e_fld T.c_Handles T.n_Handles_files (pv 0))) (pg_name (i := 3) sc_Handles_is_open.nd rfl (Or.inl rfl))
        (pss_one (ps_if (PW.pt (pw_and (pt_cmpR (o_eq hr.units) (e_ix (e_dg hu (e_fld T.c_Handles T.n_Handles_files (pv 0)) (pv 3)) (pe_int)) (pv 1) (nomark _)) (pw_and1 (pt_cmpR (o_eq hr.units) (e_ix (e_dg hu (e_fld T.c_Handles T.n_Handles_files (pv 0)) (pv 3)) (pe_int)) (pv 2) (nomark _))))) (pss_one (ps_ret (pe_bl))) (pss_nil)))))
        (pss_one (ps_ret (pe_bl)))
theorem ok_Handles_drop_reference (T : Top K mg A) : FnOk P w K mg base (L2.CX P w) 2 A.f_Handles_drop_reference A.d_Handles_drop_reference ["self", "number"] (sp_Handles_drop_reference K A.ex) := by
  refine T.F_Handles_drop_reference.okX sc_Handles_drop_reference (fun vs H Q E h => len2 h) (fun cdv Ar outer s H vs Q E hr h => ⟨t_Handles_drop_reference K A.ex E, ?_, pure_Handles_drop_reference T.fa h⟩)
  have tk : Takes (cxOf (L2.CX P w) P w K mg base ["self", "number", "file"] "Handles.drop_reference" (defScope s_Handles_drop_reference) A.f_Handles_drop_reference cdv Ar outer s H E) (WB E) := takes_of rfl rfl rfl rfl
  have hu := hu_of hr
  exact pss_cons (ps_set (i := 2) sc_Handles_drop_reference.nd rfl (Or.inl rfl) (e_meth (pv 0) T.c_Handles T.m_Handles__look (ok_Handles__look T) (hr.mono (by decide)) T.b_Handles__look tk (pa_cons (pv 1) (pa_nil))))
        (pss_cons (ps_asg (pe_op o_sub (e_ix (pv 2) (pe_int)) (pe_int)) (pg_sub (pv 2) (pe_int) (set_u hu)))
        (pss_cons (ps_if (pt_cmpR (o_gt) (e_ix (pv 2) (pe_int)) (pe_int) (nomark _)) (pss_one (ps_ret (pe_non))) (pss_nil))
        (pss_cons (ps_ddel (e_fld T.c_Handles T.n_Handles_files (pv 0)) (pv 1))
        (pss_cons (ps_if (t_tru (e_meth (pv 0) T.c_Handles T.m_Handles_is_open (ok_Handles_is_open T) (hr.mono (by decide)) T.b_Handles_is_open tk (pa_cons (e_ix (pv 2) (pe_int)) (pa_cons (e_ix (pv 2) (pe_int)) (pa_nil))))) (pss_one (ps_ret (pe_non))) (pss_nil))
        (pss_one (ps_ret (pe_tup (pa_cons (e_ix (pv 2) (pe_int)) (pa_cons (e_ix (pv 2) (pe_int)) (pa_nil))))))))))
theorem ok_Handles_uses_volume (T : Top K mg A) : FnOk P w K mg base (L2.CX P w) 1 A.f_Handles_uses_volume A.d_Handles_uses_volume ["self", "volume"] (sp_Handles_uses_volume K A.ex) := by
  refine T.F_Handles_uses_volume.okX sc_Handles_uses_volume (fun vs H Q E h => len2 h) (fun cdv Ar outer s H vs Q E hr h => ⟨t_Handles_uses_volume K A.ex E, ?_, pure_Handles_uses_volume T.fa h⟩)
  have tk : Takes (cxOf (L2.CX P w) P w K mg base ["self", "volume", "number"] "Handles.uses_volume" (defScope s_Handles_uses_volume) A.f_Handles_uses_volume cdv Ar outer s H E) (WB E) := takes_of rfl rfl rfl rfl
  have po : PassesOwn (model P w) (cxOf (L2.CX P w) P w K mg base ["self", "volume", "number"] "Handles.uses_volume" (defScope s_Handles_uses_volume) A.f_Handles_uses_volume cdv Ar outer s H E).A (cxOf (L2.CX P w) P w K mg base ["self", "volume", "number"] "Handles.uses_volume" (defScope s_Handles_uses_volume) A.f_Handles_uses_volume cdv Ar outer s H E).env (cxOf (L2.CX P w) P w K mg base ["self", "volume", "number"] "Handles.uses_volume" (defScope s_Handles_uses_volume) A.f_Handles_uses_volume cdv Ar outer s H E).xe := passes_of rfl
  have hu := hu_of hr
  exact pss_cons (ps_lock (ps_for po rfl (pi_keys (e_fld T.c_Handles T.n_Handles_files (pv 0))) (pg_name (i := 2) sc_Handles_uses_volume.nd rfl (Or.inl rfl))
        (pss_one (ps_if (pt_cmpR (o_eq hr.units) (e_ix (e_dg hu (e_fld T.c_Handles T.n_Handles_files (pv 0)) (pv 2)) (pe_int)) (pv 1) (nomark _)) (pss_one (ps_ret (pe_bl))) (pss_nil)))))
        (pss_one (ps_ret (pe_bl)))
theorem okx__law_classes (T : Top K mg A) : FnX P w K mg base 1 A.f__law_classes A.d__law_classes ["_law_error"] (spx__law_classes K A.ex) := by
  refine okH T.F__law_classes sc__law_classes (fun a c vs H Q E h => len1 h) (fun cdv Ar outer s H vs Q E p cls hz hf hr h => ⟨tx__law_classes K A.ex p.1 cls E, ?_, purex__law_classes T.fa h⟩)
  exact pss_cons (ps_set (i := 1) sc__law_classes.nd rfl (Or.inl rfl) (pe_lst (pa_nil)))
        (pss_cut (ps_if (t_tru (pe_callB (c_isP (List.mem_cons_self ..) hz hf) (by rfl) T.n_isinstance (by decide +kernel) (pa_cons (pv 0) (pa_cons (pe_glob rfl T.x_BadHandle.g rfl) (pa_nil))))) (pss_one (ps_expr (pe_bm PySem.F.plainAttrs_list PySem.F.slot_list_append PySem.F.type_list_append mt_append (pv 1) (pa_cons (pe_str) (pa_nil))))) (pss_nil))
        (pss_cut (ps_if (t_tru (pe_callB (c_isP (List.mem_cons_self ..) hz hf) (by rfl) T.n_isinstance (by decide +kernel) (pa_cons (pv 0) (pa_cons (pe_glob rfl T.x_NotValid.g rfl) (pa_nil))))) (pss_one (ps_expr (pe_bm PySem.F.plainAttrs_list PySem.F.slot_list_append PySem.F.type_list_append mt_append (pv 1) (pa_cons (pe_str) (pa_nil))))) (pss_nil))
        (pss_one (ps_ret (pv 1)))))
theorem ok__law_play (T : Top K mg A) : FnOk P w K mg base (L2.CX P w) 3 A.f__law_play A.d__law_play ["_law_handles", "_law_deed", "_law_number", "_law_position"] (sp__law_play K A.ex) := by
  refine T.F__law_play.okX sc__law_play (fun vs H Q E h => len4 h) (fun cdv Ar outer s H vs Q E hr h => ⟨t__law_play K A.ex E, ?_, pure__law_play T.fa h⟩)
  have tk : Takes (cxOf (L2.CX P w) P w K mg base ["_law_handles", "_law_deed", "_law_number", "_law_position", "_law_error"] "_law_play" (defScope s__law_play) A.f__law_play cdv Ar outer s H E) (WB E) := takes_of rfl rfl rfl rfl
  exact pss_cons (s_tryAs (i := 4) rfl rfl sc__law_play.nd rfl rfl ⟨rfl, by decide, Or.inl T.x_LaminaError.g⟩ tk (fun W pn xe tk po => pss_one (ps_if (pt_cmpR (o_eq hr.units) (pv 1) (pe_int) (nomark _)) (pss_one (ps_expr (e_meth (pv 0) T.c_Handles T.m_Handles_add_reference (ok_Handles_add_reference T) (hr.mono (by decide)) T.b_Handles_add_reference tk (pa_cons (pv 2) (pa_nil))))) (pss_one (ps_if (pt_cmpR (o_eq hr.units) (pv 1) (pe_int) (nomark _)) (pss_one (ps_ret (pe_lst (pa_cons (e_meth (pv 0) T.c_Handles T.m_Handles_drop_reference (ok_Handles_drop_reference T) (hr.mono (by decide)) T.b_Handles_drop_reference tk (pa_cons (pv 2) (pa_nil))) (pa_nil))))) (pss_one (ps_if (pt_cmpR (o_eq hr.units) (pv 1) (pe_int) (nomark _)) (pss_one (ps_expr (e_meth (pv 0) T.c_Handles T.m_Handles_move_to (ok_Handles_move_to T) (hr.mono (by decide)) T.b_Handles_move_to tk (pa_cons (pv 2) (pa_cons (pv 3) (pa_nil)))))) (pss_one (ps_ret (pe_lst (pa_cons (e_meth (pv 0) T.c_Handles T.m_Handles_look_up (ok_Handles_look_up T) (hr.mono (by decide)) T.b_Handles_look_up tk (pa_cons (pv 2) (pa_nil))) (pa_nil))))))))))) (fun a oe cls d pn hz hf => pss_one (ps_ret (e_callX (okx__law_classes T) ⟨(hr.mono (j := 1) (by decide)).dp, (hr.mono (j := 1) (by decide)).un⟩ (List.mem_cons_self ..) hz hf T.g__law_classes T.F__law_classes.kp T.b__law_classes (pa_cons (pv 4) (pa_nil))))))
        (pss_one (ps_ret (pe_lst (pa_cons (pe_non) (pa_nil)))))
theorem ok__law_open (T : Top K mg A) : FnOk P w K mg base (L2.CX P w) 1 A.f__law_open A.d__law_open ["_law_files", "_law_volume", "_law_inode"] (sp__law_open K A.ex) := by
  refine T.F__law_open.okX sc__law_open (fun vs H Q E h => len3 h) (fun cdv Ar outer s H vs Q E hr h => ⟨t__law_open K A.ex E, ?_, pure__law_open T.fa h⟩)
  have tk : Takes (cxOf (L2.CX P w) P w K mg base ["_law_files", "_law_volume", "_law_inode", "_law_number"] "_law_open" (defScope s__law_open) A.f__law_open cdv Ar outer s H E) (WB E) := takes_of rfl rfl rfl rfl
  have po : PassesOwn (model P w) (cxOf (L2.CX P w) P w K mg base ["_law_files", "_law_volume", "_law_inode", "_law_number"] "_law_open" (defScope s__law_open) A.f__law_open cdv Ar outer s H E).A (cxOf (L2.CX P w) P w K mg base ["_law_files", "_law_volume", "_law_inode", "_law_number"] "_law_open" (defScope s__law_open) A.f__law_open cdv Ar outer s H E).env (cxOf (L2.CX P w) P w K mg base ["_law_files", "_law_volume", "_law_inode", "_law_number"] "_law_open" (defScope s__law_open) A.f__law_open cdv Ar outer s H E).xe := passes_of rfl
  have hu := hu_of hr
  exact pss_cons (ps_lock (ps_for po rfl (pi_keys (pv 0)) (pg_name (i := 3) sc__law_open.nd rfl (Or.inl rfl))
        (pss_one (ps_if (PW.pt (pw_and (pt_cmpR (o_eq hr.units) (e_ix (e_dg hu (pv 0) (pv 3)) (pe_int)) (pv 1) (nomark _)) (pw_and1 (pt_cmpR (o_eq hr.units) (e_ix (e_dg hu (pv 0) (pv 3)) (pe_int)) (pv 2) (nomark _))))) (pss_one (ps_ret (pe_bl))) (pss_nil)))))
        (pss_one (ps_ret (pe_bl)))
theorem ok__law_due (T : Top K mg A) : FnOk P w K mg base (L2.CX P w) 2 A.f__law_due A.d__law_due ["_law_files", "_law_deed", "_law_number", "_law_position"] (sp__law_due K A.ex) := by
  refine T.F__law_due.okX sc__law_due (fun vs H Q E h => len4 h) (fun cdv Ar outer s H vs Q E hr h => ⟨t__law_due K A.ex E, ?_, pure__law_due T.fa h⟩)
  have tk : Takes (cxOf (L2.CX P w) P w K mg base ["_law_files", "_law_deed", "_law_number", "_law_position", "_law_file"] "_law_due" (defScope s__law_due) A.f__law_due cdv Ar outer s H E) (WB E) := takes_of rfl rfl rfl rfl
  have hu := hu_of hr
  have hl := Nat.lt_of_succ_lt hu
  exact pss_cons (ps_if (pt_cmpR (o_nin hu) (pv 2) (pv 0) (by rfl)) (pss_one (ps_ret (pe_lst (pa_cons (pe_str) (pa_nil))))) (pss_nil))
        (pss_cons (ps_set (i := 4) sc__law_due.nd rfl (Or.inl rfl) (e_dg hu (pv 0) (pv 2)))
        (pss_cut (ps_if (pt_cmpR (o_eq hr.units) (pv 1) (pe_int) (nomark _)) (pss_one (ps_asg (pe_op o_add (e_ix (pv 4) (pe_int)) (pe_int)) (pg_sub (pv 4) (pe_int) (set_u hu)))) (pss_one (ps_if (pt_cmpR (o_eq hr.units) (pv 1) (pe_int) (nomark _)) (pss_cons (ps_asg (pe_op o_sub (e_ix (pv 4) (pe_int)) (pe_int)) (pg_sub (pv 4) (pe_int) (set_u hu)))
        (pss_one (ps_if (pt_cmpR (o_eq hr.units) (e_ix (pv 4) (pe_int)) (pe_int) (nomark _)) (pss_cons (ps_expr (pe_dpop1 (pv 0) (pv 2) ⟨by rfl, by rfl, by rfl, by rfl⟩))
        (pss_one (ps_if (pt_not (t_tru (e_call (ok__law_open T) (hr.mono (by decide)) T.g__law_open T.F__law_open.kp T.b__law_open tk (pa_cons (pv 0) (pa_cons (e_ix (pv 4) (pe_int)) (pa_cons (e_ix (pv 4) (pe_int)) (pa_nil))))))) (pss_one (ps_ret (pe_lst (pa_cons (pe_tup (pa_cons (e_ix (pv 4) (pe_int)) (pa_cons (e_ix (pv 4) (pe_int)) (pa_nil)))) (pa_nil))))) (pss_nil)))) (pss_nil)))) (pss_one (ps_if (pt_cmpR (o_eq hr.units) (pv 1) (pe_int) (nomark _)) (pss_cons (ps_if (PW.pt (pw_or (pt_cmpR (o_lt hl) (pv 3) (pe_int) (nomark _)) (pw_or1 (pt_cmpR (o_gt) (pv 3) (pe_int) (nomark _))))) (pss_one (ps_ret (pe_lst (pa_cons (pe_str) (pa_nil))))) (pss_nil))
        (pss_one (ps_asg (pv 3) (pg_sub (pv 4) (pe_int) (set_u hu))))) (pss_one (ps_ret (pe_lst (pa_cons (pe_tup (pa_cons (e_ix (pv 4) (pe_int)) (pa_cons (e_ix (pv 4) (pe_int)) (pa_cons (e_ix (pv 4) (pe_int)) (pa_cons (e_ix (pv 4) (pe_int)) (pa_nil)))))) (pa_nil))))))))))
        (pss_one (ps_ret (pe_lst (pa_cons (pe_non) (pa_nil)))))))
theorem ok__law_least (T : Top K mg A) : FnOk P w K mg base (L2.CX P w) 1 A.f__law_least A.d__law_least ["_law_files"] (sp__law_least K A.ex) := by
  refine T.F__law_least.okX sc__law_least (fun vs H Q E h => len1 h) (fun cdv Ar outer s H vs Q E hr h => ⟨t__law_least K A.ex E, ?_, pure__law_least T.fa h⟩)
  have tk : Takes (cxOf (L2.CX P w) P w K mg base ["_law_files", "_law_number"] "_law_least" (defScope s__law_least) A.f__law_least cdv Ar outer s H E) (WB E) := takes_of rfl rfl rfl rfl
  have po : PassesOwn (model P w) (cxOf (L2.CX P w) P w K mg base ["_law_files", "_law_number"] "_law_least" (defScope s__law_least) A.f__law_least cdv Ar outer s H E).A (cxOf (L2.CX P w) P w K mg base ["_law_files", "_law_number"] "_law_least" (defScope s__law_least) A.f__law_least cdv Ar outer s H E).env (cxOf (L2.CX P w) P w K mg base ["_law_files", "_law_number"] "_law_least" (defScope s__law_least) A.f__law_least cdv Ar outer s H E).xe := passes_of rfl
  have hu := hu_of hr
  exact pss_cons (ps_for po rfl (pi_range1 (by rfl) T.n_range (pa_cons (pe_op o_add (pe_callB (c_len) (by rfl) T.n_len (by decide +kernel) (pa_cons (pv 0) (pa_nil))) (pe_int)) (pa_nil))) (pg_name (i := 1) sc__law_least.nd rfl (Or.inl rfl))
        (pss_one (ps_if (pt_cmpR (o_nin hu) (pv 1) (pv 0) (by rfl)) (pss_one (ps_ret (pv 1))) (pss_nil))))
        (pss_one (ps_ret (pe_un o_neg (pe_int))))
theorem ok__law_shows (T : Top K mg A) : FnOk P w K mg base (L2.CX P w) 2 A.f__law_shows A.d__law_shows ["_law_handles", "_law_files"] (sp__law_shows K A.ex) := by
  refine T.F__law_shows.okX sc__law_shows (fun vs H Q E h => len2 h) (fun cdv Ar outer s H vs Q E hr h => ⟨t__law_shows K A.ex E, ?_, pure__law_shows T.fa h⟩)
  have tk : Takes (cxOf (L2.CX P w) P w K mg base ["_law_handles", "_law_files", "_law_rows", "_law_number", "_law_actual", "_law_volume", "_law_used", "_law_inode", "_law_known"] "_law_shows" (defScope s__law_shows) A.f__law_shows cdv Ar outer s H E) (WB E) := takes_of rfl rfl rfl rfl
  have po : PassesOwn (model P w) (cxOf (L2.CX P w) P w K mg base ["_law_handles", "_law_files", "_law_rows", "_law_number", "_law_actual", "_law_volume", "_law_used", "_law_inode", "_law_known"] "_law_shows" (defScope s__law_shows) A.f__law_shows cdv Ar outer s H E).A (cxOf (L2.CX P w) P w K mg base ["_law_handles", "_law_files", "_law_rows", "_law_number", "_law_actual", "_law_volume", "_law_used", "_law_inode", "_law_known"] "_law_shows" (defScope s__law_shows) A.f__law_shows cdv Ar outer s H E).env (cxOf (L2.CX P w) P w K mg base ["_law_handles", "_law_files", "_law_rows", "_law_number", "_law_actual", "_law_volume", "_law_used", "_law_inode", "_law_known"] "_law_shows" (defScope s__law_shows) A.f__law_shows cdv Ar outer s H E).xe := passes_of rfl
  have hu := hu_of hr
  exact pss_cons (ps_set (i := 2) sc__law_shows.nd rfl (Or.inl rfl) (pe_lst (pa_nil)))
        (pss_cons (ps_for po rfl (pi_list (pe_callB c_sortI (by rfl) T.n_sorted (by decide +kernel) (pa_cons (pe_callTy (c_listD rfl) (by rfl) T.n_list (by decide +kernel) (pa_cons (pv 1) (pa_nil))) (pa_nil)))) (pg_name (i := 3) sc__law_shows.nd rfl (Or.inl rfl))
        (pss_one (ps_expr (pe_bm PySem.F.plainAttrs_list PySem.F.slot_list_append PySem.F.type_list_append mt_append (pv 2) (pa_cons (pe_op o_add (pe_tup (pa_cons (pv 3) (pa_nil))) (pe_callTy (c_tuple) (by rfl) T.n_tuple (by decide +kernel) (pa_cons (e_dg hu (pv 1) (pv 3)) (pa_nil)))) (pa_nil))))))
        (pss_cons (ps_set (i := 4) sc__law_shows.nd rfl (Or.inl rfl) (e_meth0 (pv 0) T.c_Handles T.m_Handles_open_files (ok_Handles_open_files T) (hr.mono (by decide)) T.b_Handles_open_files tk))
        (pss_cons (ps_if (PW.pt (pw_or (pt_not (t_tru (pe_callB (c_isi .list) (by rfl) T.n_isinstance (by decide +kernel) (pa_cons (pv 4) (pa_cons (pe_bltn rfl T.n_list (by decide +kernel) rfl) (pa_nil)))))) (pw_or1 (pt_cmpR (o_ne hr.units) (pv 4) (pv 2) (nomark _))))) (pss_one (ps_ret (pe_bl))) (pss_nil))
        (pss_cons (ps_for po rfl (pi_tup (pe_tup (pa_cons (pe_str) (pa_cons (pe_str) (pa_cons (pe_str) (pa_nil)))))) (pg_name (i := 5) sc__law_shows.nd rfl (Or.inr rfl))
        (pss_cons (ps_lock (ps_setLc (i := 6) (own := [("_law_number", 3)]) (by rfl) sc__law_shows.nd rfl rfl (sw_true rfl rfl rfl (by decide +kernel)) (pi_keys (pv 1)) (blkOk_by (N := ["_law_handles", "_law_files", "_law_rows", "_law_number", "_law_actual", "_law_volume", "_law_used", "_law_inode", "_law_known"]) (sc := defScope s__law_shows) (by decide +kernel)) (fun _ _ _ _ _ => pg_name (i := 3) sc__law_shows.nd rfl (Or.inl rfl)) (fun _ _ _ _ _ => pts_one (pt_cmpR (o_eq hr.units) (e_ix (e_dg hu (pv 1) (pv 3)) (pe_int)) (pv 5) (nomark _))) (fun _ _ _ _ _ => pv 3)))
        (pss_cons (ps_if (PW.pt (pw_and (pt_cmpR (o_isnt) (e_meth (pv 0) T.c_Handles T.m_Handles_uses_volume (ok_Handles_uses_volume T) (hr.mono (by decide)) T.b_Handles_uses_volume tk (pa_cons (pv 5) (pa_nil))) (pe_bl) (nomark _)) (pw_and1 (pt_cmpR (o_eq hr.units) (pv 6) (pe_lst (pa_nil)) (nomark _))))) (pss_one (ps_ret (pe_bl))) (pss_nil))
        (pss_cons (ps_if (PW.pt (pw_and (pt_cmpR (o_isnt) (e_meth (pv 0) T.c_Handles T.m_Handles_uses_volume (ok_Handles_uses_volume T) (hr.mono (by decide)) T.b_Handles_uses_volume tk (pa_cons (pv 5) (pa_nil))) (pe_bl) (nomark _)) (pw_and1 (pt_cmpR (o_ne hr.units) (pv 6) (pe_lst (pa_nil)) (nomark _))))) (pss_one (ps_ret (pe_bl))) (pss_nil))
        (pss_one (ps_for po rfl (pi_range2 (by rfl) T.n_range (pa_cons (pe_int) (pa_cons (pe_int) (pa_nil)))) (pg_name (i := 7) sc__law_shows.nd rfl (Or.inl rfl))
        (pss_cons (ps_set (i := 8) sc__law_shows.nd rfl (Or.inl rfl) (e_meth (pv 0) T.c_Handles T.m_Handles_is_open (ok_Handles_is_open T) (hr.mono (by decide)) T.b_Handles_is_open tk (pa_cons (pv 5) (pa_cons (pv 7) (pa_nil)))))
        (pss_one (ps_if (PW.pt (pw_or (pt_not (t_tru (pe_callB (c_isi .bool) (by rfl) T.n_isinstance (by decide +kernel) (pa_cons (pv 8) (pa_cons (pe_bltn rfl T.n_bool (by decide +kernel) rfl) (pa_nil)))))) (pw_or1 (pt_cmpR (o_ne hr.units) (pv 8) (e_call (ok__law_open T) (hr.mono (by decide)) T.g__law_open T.F__law_open.kp T.b__law_open tk (pa_cons (pv 1) (pa_cons (pv 5) (pa_cons (pv 7) (pa_nil))))) (nomark _))))) (pss_one (ps_ret (pe_bl))) (pss_nil))))))))))
        (pss_one (ps_ret (pe_bl)))))))
theorem ok_law (T : Top K mg A) : FnOk P w K mg base (L2.CX P w) 4 A.f_law A.d_law ["_law_script"] (sp_law K A.ex) := by
  refine T.F_law.okX sc_law (fun vs H Q E h => len1 (show spLaw K vs H Q E from h)) (fun cdv Ar outer s H vs Q E hr h => ⟨t_law K A.ex E, ?_, pure_law T.fa h⟩)
  have tk : Takes (cxOf (L2.CX P w) P w K mg base ["_law_script", "_law_handles", "_law_files", "_law_most", "_law_cell", "_law_deed", "_law_rest", "_law_volume", "_law_inode", "_law_mode", "_law_number", "_law_position", "_law_actual"] "law" (defScope s_law) A.f_law cdv Ar outer s H E) (WB E) := takes_of rfl rfl rfl rfl
  have po : PassesOwn (model P w) (cxOf (L2.CX P w) P w K mg base ["_law_script", "_law_handles", "_law_files", "_law_most", "_law_cell", "_law_deed", "_law_rest", "_law_volume", "_law_inode", "_law_mode", "_law_number", "_law_position", "_law_actual"] "law" (defScope s_law) A.f_law cdv Ar outer s H E).A (cxOf (L2.CX P w) P w K mg base ["_law_script", "_law_handles", "_law_files", "_law_most", "_law_cell", "_law_deed", "_law_rest", "_law_volume", "_law_inode", "_law_mode", "_law_number", "_law_position", "_law_actual"] "law" (defScope s_law) A.f_law cdv Ar outer s H E).env (cxOf (L2.CX P w) P w K mg base ["_law_script", "_law_handles", "_law_files", "_law_most", "_law_cell", "_law_deed", "_law_rest", "_law_volume", "_law_inode", "_law_mode", "_law_number", "_law_position", "_law_actual"] "law" (defScope s_law) A.f_law cdv Ar outer s H E).xe := passes_of rfl
  have hu := hu_of hr
  have hl := Nat.lt_of_succ_lt hu
  exact pss_cons (ps_set (i := 1) sc_law.nd rfl (Or.inl rfl) (e_mk0 T.M_Handles (ok_Handles___init__ T) (hr.mono (by decide)) T.gC_Handles T.b_Handles___init__ tk))
        (pss_cons (ps_set (i := 2) sc_law.nd rfl (Or.inl rfl) (pe_dnewK))
        (pss_cons (ps_set (i := 3) sc_law.nd rfl (Or.inl rfl) (pe_int))
        (pss_cons (ps_if (pt_not (t_tru (e_call (ok__law_shows T) (hr.mono (by decide)) T.g__law_shows T.F__law_shows.kp T.b__law_shows tk (pa_cons (pv 1) (pa_cons (pv 2) (pa_nil)))))) (pss_one (ps_ret (pe_bl))) (pss_nil))
        (pss_cons (ps_for po rfl (pi_list (e_sl (pv 0) (po_none) (po_some (pe_int)))) (pg_name (i := 4) sc_law.nd rfl (Or.inl rfl))
        (pss_cons (ps_set (i := 5) sc_law.nd rfl (Or.inl rfl) (pe_op o_mod (pe_op o_mod (pe_callTy (c_int) (by rfl) T.n_int (by decide +kernel) (pa_cons (pv 4) (pa_nil))) (pe_int)) (pe_int)))
        (pss_cons (ps_set (i := 6) sc_law.nd rfl (Or.inl rfl) (pe_op o_div (pe_callTy (c_int) (by rfl) T.n_int (by decide +kernel) (pa_cons (pv 4) (pa_nil))) (pe_int)))
        (pss_cut (ps_if (PW.pt (pw_and (pt_cmpR (o_eq hr.units) (pv 5) (pe_int) (nomark _)) (pw_and1 (pt_cmpR (o_lt hl) (pe_callB (c_len) (by rfl) T.n_len (by decide +kernel) (pa_cons (pv 2) (pa_nil))) (pe_int) (nomark _))))) (pss_cons (ps_set (i := 7) sc_law.nd rfl (Or.inl rfl) (e_ix (pe_lst (pa_cons (pe_str) (pa_cons (pe_str) (pa_cons (pe_str) (pa_nil))))) (pe_op o_mod (pv 6) (pe_int))))
        (pss_cons (ps_set (i := 8) sc_law.nd rfl (Or.inl rfl) (pe_op o_add (pe_int) (pe_op o_mod (pe_op o_div (pv 6) (pe_int)) (pe_int))))
        (pss_cons (ps_set (i := 9) sc_law.nd rfl (Or.inl rfl) (e_ix (pe_lst (pa_cons (pe_str) (pa_cons (pe_str) (pa_cons (pe_str) (pa_cons (pe_str) (pa_cons (pe_str) (pa_nil))))))) (pe_op o_mod (pe_op o_div (pv 6) (pe_int)) (pe_int))))
        (pss_cons (ps_set (i := 10) sc_law.nd rfl (Or.inl rfl) (e_meth (pv 1) T.c_Handles T.m_Handles_add_open_file (ok_Handles_add_open_file T) (hr.mono (by decide)) T.b_Handles_add_open_file tk (pa_cons (pv 7) (pa_cons (pv 8) (pa_cons (pv 9) (pa_nil))))))
        (pss_cons (ps_if (PW.pt (pw_or (pt_not (t_tru (pe_callB (c_isi .int) (by rfl) T.n_isinstance (by decide +kernel) (pa_cons (pv 10) (pa_cons (pe_bltn rfl T.n_int (by decide +kernel) rfl) (pa_nil)))))) (pw_or (t_tru (pe_callB (c_isi .bool) (by rfl) T.n_isinstance (by decide +kernel) (pa_cons (pv 10) (pa_cons (pe_bltn rfl T.n_bool (by decide +kernel) rfl) (pa_nil))))) (pw_or1 (pt_cmpR (o_ne hr.units) (pv 10) (e_call (ok__law_least T) (hr.mono (by decide)) T.g__law_least T.F__law_least.kp T.b__law_least tk (pa_cons (pv 2) (pa_nil))) (nomark _)))))) (pss_one (ps_ret (pe_bl))) (pss_nil))
        (pss_cons (ps_dput hu (pv 2) (pv 10) (pe_lst (pa_cons (pv 7) (pa_cons (pv 8) (pa_cons (pv 9) (pa_cons (pe_int) (pa_cons (pe_int) (pa_nil))))))) rfl)
        (pss_one (ps_set (i := 3) sc_law.nd rfl (Or.inl rfl) (pe_callB (c_max rfl) (by rfl) T.n_max (by decide +kernel) (pa_cons (pv 3) (pa_cons (pv 10) (pa_nil)))))))))))) (pss_cons (ps_set (i := 10) sc_law.nd rfl (Or.inl rfl) (pe_op o_mod (pv 6) (pe_op o_add (pv 3) (pe_int))))
        (pss_cons (ps_set (i := 11) sc_law.nd rfl (Or.inl rfl) (pe_op o_sub (pe_op o_mod (pe_op o_div (pv 6) (pe_int)) (pe_int)) (pe_int)))
        (pss_cons (ps_set (i := 12) sc_law.nd rfl (Or.inl rfl) (e_call (ok__law_play T) (hr.mono (by decide)) T.g__law_play T.F__law_play.kp T.b__law_play tk (pa_cons (pv 1) (pa_cons (pv 5) (pa_cons (pv 10) (pa_cons (pv 11) (pa_nil)))))))
        (pss_one (ps_if (pt_cmpR (o_ne hr.units) (pv 12) (e_call (ok__law_due T) (hr.mono (by decide)) T.g__law_due T.F__law_due.kp T.b__law_due tk (pa_cons (pv 2) (pa_cons (pv 5) (pa_cons (pv 10) (pa_cons (pv 11) (pa_nil)))))) (nomark _)) (pss_one (ps_ret (pe_bl))) (pss_nil)))))))
        (pss_one (ps_if (pt_not (t_tru (e_call (ok__law_shows T) (hr.mono (by decide)) T.g__law_shows T.F__law_shows.kp T.b__law_shows tk (pa_cons (pv 1) (pa_cons (pv 2) (pa_nil)))))) (pss_one (ps_ret (pe_bl))) (pss_nil)))))))
        (pss_one (ps_ret (pe_bl)))))))
end
theorem all_mk {P : Program} {w : World} {K : PySem.W.Frag} {h : Heap} {mg : Str → Option Value} {fa : Addr} (X : K.In h) (G : h.Ns mainGlobals mg) (hfa : mg "law" = some (.ref fa))
    {f_Handles___init__ f_Handles__look f_Handles_open_files f_Handles_add_open_file f_Handles_look_up f_Handles_move_to f_Handles_add_reference f_Handles_drop_reference f_Handles_is_open f_Handles_uses_volume f__law_classes f__law_play f__law_open f__law_due f__law_least f__law_shows f_law : Addr}
    {C_Handles C_LaminaError C_NotValid C_BadHandle : Addr}
    {od_Handles___init__ an_Handles___init__ : Option Addr} {sl_Handles___init__ : Array (Option Value)} {oc_Handles___init__ kV_Handles___init__ dc_Handles___init__ pm_Handles___init__ cd_Handles___init__ ct_Handles___init__ : Value}
    {od_Handles__look an_Handles__look : Option Addr} {sl_Handles__look : Array (Option Value)} {oc_Handles__look kV_Handles__look dc_Handles__look pm_Handles__look cd_Handles__look ct_Handles__look : Value}
    {od_Handles_open_files an_Handles_open_files : Option Addr} {sl_Handles_open_files : Array (Option Value)} {oc_Handles_open_files kV_Handles_open_files dc_Handles_open_files pm_Handles_open_files cd_Handles_open_files ct_Handles_open_files : Value}
    {od_Handles_add_open_file an_Handles_add_open_file : Option Addr} {sl_Handles_add_open_file : Array (Option Value)} {oc_Handles_add_open_file kV_Handles_add_open_file dc_Handles_add_open_file pm_Handles_add_open_file cd_Handles_add_open_file ct_Handles_add_open_file : Value}
    {od_Handles_look_up an_Handles_look_up : Option Addr} {sl_Handles_look_up : Array (Option Value)} {oc_Handles_look_up kV_Handles_look_up dc_Handles_look_up pm_Handles_look_up cd_Handles_look_up ct_Handles_look_up : Value}
    {od_Handles_move_to an_Handles_move_to : Option Addr} {sl_Handles_move_to : Array (Option Value)} {oc_Handles_move_to kV_Handles_move_to dc_Handles_move_to pm_Handles_move_to cd_Handles_move_to ct_Handles_move_to : Value}
    {od_Handles_add_reference an_Handles_add_reference : Option Addr} {sl_Handles_add_reference : Array (Option Value)} {oc_Handles_add_reference kV_Handles_add_reference dc_Handles_add_reference pm_Handles_add_reference cd_Handles_add_reference ct_Handles_add_reference : Value}
    {od_Handles_drop_reference an_Handles_drop_reference : Option Addr} {sl_Handles_drop_reference : Array (Option Value)} {oc_Handles_drop_reference kV_Handles_drop_reference dc_Handles_drop_reference pm_Handles_drop_reference cd_Handles_drop_reference ct_Handles_drop_reference : Value}
    {od_Handles_is_open an_Handles_is_open : Option Addr} {sl_Handles_is_open : Array (Option Value)} {oc_Handles_is_open kV_Handles_is_open dc_Handles_is_open pm_Handles_is_open cd_Handles_is_open ct_Handles_is_open : Value}
    {od_Handles_uses_volume an_Handles_uses_volume : Option Addr} {sl_Handles_uses_volume : Array (Option Value)} {oc_Handles_uses_volume kV_Handles_uses_volume dc_Handles_uses_volume pm_Handles_uses_volume cd_Handles_uses_volume ct_Handles_uses_volume : Value}
    {od__law_classes an__law_classes : Option Addr} {sl__law_classes : Array (Option Value)} {oc__law_classes kV__law_classes dc__law_classes pm__law_classes cd__law_classes ct__law_classes : Value}
    {od__law_play an__law_play : Option Addr} {sl__law_play : Array (Option Value)} {oc__law_play kV__law_play dc__law_play pm__law_play cd__law_play ct__law_play : Value}
    {od__law_open an__law_open : Option Addr} {sl__law_open : Array (Option Value)} {oc__law_open kV__law_open dc__law_open pm__law_open cd__law_open ct__law_open : Value}
    {od__law_due an__law_due : Option Addr} {sl__law_due : Array (Option Value)} {oc__law_due kV__law_due dc__law_due pm__law_due cd__law_due ct__law_due : Value}
    {od__law_least an__law_least : Option Addr} {sl__law_least : Array (Option Value)} {oc__law_least kV__law_least dc__law_least pm__law_least cd__law_least ct__law_least : Value}
    {od__law_shows an__law_shows : Option Addr} {sl__law_shows : Array (Option Value)} {oc__law_shows kV__law_shows dc__law_shows pm__law_shows cd__law_shows ct__law_shows : Value}
    {od_law an_law : Option Addr} {sl_law : Array (Option Value)} {oc_law kV_law dc_law pm_law cd_law ct_law : Value}
    {t_MAX_POSITION : Tok}
    (aC_Handles : PySem.W.nsIn K mainGlobals "Handles" = some (some (.ref C_Handles)))
    (aC_BadHandle : PySem.W.nsIn K mainGlobals "BadHandle" = some (some (.ref C_BadHandle)))
    (aC_LaminaError : PySem.W.nsIn K mainGlobals "LaminaError" = some (some (.ref C_LaminaError)))
    (aC_NotValid : PySem.W.nsIn K mainGlobals "NotValid" = some (some (.ref C_NotValid)))
    (a_Handles___init__ : PySem.W.findIn K (.ref C_Handles) "__init__" = some (some (.ref f_Handles___init__)))
    (i_Handles___init__ : PySem.W.isFn K (.ref f_Handles___init__) = true)
    (l_Handles___init__ : K.lookup f_Handles___init__ = some ⟨oc_Handles___init__, od_Handles___init__, .func (PySem.W.fnOf "__init__" "Handles.__init__" (defArgs s_Handles___init__) (defBody s_Handles___init__) (defScope s_Handles___init__) .none kV_Handles___init__ dc_Handles___init__ pm_Handles___init__ an_Handles___init__ cd_Handles___init__ ct_Handles___init__), sl_Handles___init__⟩)
    (c_Handles___init__ : PySem.W.codeIn K cd_Handles___init__ "Handles.__init__" = true)
    (k_Handles___init__ : PySem.W.keepIn K (.ref f_Handles___init__) = true)
    (a_Handles__look : PySem.W.findIn K (.ref C_Handles) "_look" = some (some (.ref f_Handles__look)))
    (i_Handles__look : PySem.W.isFn K (.ref f_Handles__look) = true)
    (l_Handles__look : K.lookup f_Handles__look = some ⟨oc_Handles__look, od_Handles__look, .func (PySem.W.fnOf "_look" "Handles._look" (defArgs s_Handles__look) (defBody s_Handles__look) (defScope s_Handles__look) .none kV_Handles__look dc_Handles__look pm_Handles__look an_Handles__look cd_Handles__look ct_Handles__look), sl_Handles__look⟩)
    (c_Handles__look : PySem.W.codeIn K cd_Handles__look "Handles._look" = true)
    (k_Handles__look : PySem.W.keepIn K (.ref f_Handles__look) = true)
    (a_Handles_open_files : PySem.W.findIn K (.ref C_Handles) "open_files" = some (some (.ref f_Handles_open_files)))
    (i_Handles_open_files : PySem.W.isFn K (.ref f_Handles_open_files) = true)
    (l_Handles_open_files : K.lookup f_Handles_open_files = some ⟨oc_Handles_open_files, od_Handles_open_files, .func (PySem.W.fnOf "open_files" "Handles.open_files" (defArgs s_Handles_open_files) (defBody s_Handles_open_files) (defScope s_Handles_open_files) .none kV_Handles_open_files dc_Handles_open_files pm_Handles_open_files an_Handles_open_files cd_Handles_open_files ct_Handles_open_files), sl_Handles_open_files⟩)
    (c_Handles_open_files : PySem.W.codeIn K cd_Handles_open_files "Handles.open_files" = true)
    (k_Handles_open_files : PySem.W.keepIn K (.ref f_Handles_open_files) = true)
    (a_Handles_add_open_file : PySem.W.findIn K (.ref C_Handles) "add_open_file" = some (some (.ref f_Handles_add_open_file)))
    (i_Handles_add_open_file : PySem.W.isFn K (.ref f_Handles_add_open_file) = true)
    (l_Handles_add_open_file : K.lookup f_Handles_add_open_file = some ⟨oc_Handles_add_open_file, od_Handles_add_open_file, .func (PySem.W.fnOf "add_open_file" "Handles.add_open_file" (defArgs s_Handles_add_open_file) (defBody s_Handles_add_open_file) (defScope s_Handles_add_open_file) .none kV_Handles_add_open_file dc_Handles_add_open_file pm_Handles_add_open_file an_Handles_add_open_file cd_Handles_add_open_file ct_Handles_add_open_file), sl_Handles_add_open_file⟩)
    (c_Handles_add_open_file : PySem.W.codeIn K cd_Handles_add_open_file "Handles.add_open_file" = true)
    (k_Handles_add_open_file : PySem.W.keepIn K (.ref f_Handles_add_open_file) = true)
    (a_Handles_look_up : PySem.W.findIn K (.ref C_Handles) "look_up" = some (some (.ref f_Handles_look_up)))
    (i_Handles_look_up : PySem.W.isFn K (.ref f_Handles_look_up) = true)
    (l_Handles_look_up : K.lookup f_Handles_look_up = some ⟨oc_Handles_look_up, od_Handles_look_up, .func (PySem.W.fnOf "look_up" "Handles.look_up" (defArgs s_Handles_look_up) (defBody s_Handles_look_up) (defScope s_Handles_look_up) .none kV_Handles_look_up dc_Handles_look_up pm_Handles_look_up an_Handles_look_up cd_Handles_look_up ct_Handles_look_up), sl_Handles_look_up⟩)
    (c_Handles_look_up : PySem.W.codeIn K cd_Handles_look_up "Handles.look_up" = true)
    (k_Handles_look_up : PySem.W.keepIn K (.ref f_Handles_look_up) = true)
    (a_Handles_move_to : PySem.W.findIn K (.ref C_Handles) "move_to" = some (some (.ref f_Handles_move_to)))
    (i_Handles_move_to : PySem.W.isFn K (.ref f_Handles_move_to) = true)
    (l_Handles_move_to : K.lookup f_Handles_move_to = some ⟨oc_Handles_move_to, od_Handles_move_to, .func (PySem.W.fnOf "move_to" "Handles.move_to" (defArgs s_Handles_move_to) (defBody s_Handles_move_to) (defScope s_Handles_move_to) .none kV_Handles_move_to dc_Handles_move_to pm_Handles_move_to an_Handles_move_to cd_Handles_move_to ct_Handles_move_to), sl_Handles_move_to⟩)
    (c_Handles_move_to : PySem.W.codeIn K cd_Handles_move_to "Handles.move_to" = true)
    (k_Handles_move_to : PySem.W.keepIn K (.ref f_Handles_move_to) = true)
    (a_Handles_add_reference : PySem.W.findIn K (.ref C_Handles) "add_reference" = some (some (.ref f_Handles_add_reference)))
    (i_Handles_add_reference : PySem.W.isFn K (.ref f_Handles_add_reference) = true)
    (l_Handles_add_reference : K.lookup f_Handles_add_reference = some ⟨oc_Handles_add_reference, od_Handles_add_reference, .func (PySem.W.fnOf "add_reference" "Handles.add_reference" (defArgs s_Handles_add_reference) (defBody s_Handles_add_reference) (defScope s_Handles_add_reference) .none kV_Handles_add_reference dc_Handles_add_reference pm_Handles_add_reference an_Handles_add_reference cd_Handles_add_reference ct_Handles_add_reference), sl_Handles_add_reference⟩)
    (c_Handles_add_reference : PySem.W.codeIn K cd_Handles_add_reference "Handles.add_reference" = true)
    (k_Handles_add_reference : PySem.W.keepIn K (.ref f_Handles_add_reference) = true)
    (a_Handles_drop_reference : PySem.W.findIn K (.ref C_Handles) "drop_reference" = some (some (.ref f_Handles_drop_reference)))
    (i_Handles_drop_reference : PySem.W.isFn K (.ref f_Handles_drop_reference) = true)
    (l_Handles_drop_reference : K.lookup f_Handles_drop_reference = some ⟨oc_Handles_drop_reference, od_Handles_drop_reference, .func (PySem.W.fnOf "drop_reference" "Handles.drop_reference" (defArgs s_Handles_drop_reference) (defBody s_Handles_drop_reference) (defScope s_Handles_drop_reference) .none kV_Handles_drop_reference dc_Handles_drop_reference pm_Handles_drop_reference an_Handles_drop_reference cd_Handles_drop_reference ct_Handles_drop_reference), sl_Handles_drop_reference⟩)
    (c_Handles_drop_reference : PySem.W.codeIn K cd_Handles_drop_reference "Handles.drop_reference" = true)
    (k_Handles_drop_reference : PySem.W.keepIn K (.ref f_Handles_drop_reference) = true)
    (a_Handles_is_open : PySem.W.findIn K (.ref C_Handles) "is_open" = some (some (.ref f_Handles_is_open)))
    (i_Handles_is_open : PySem.W.isFn K (.ref f_Handles_is_open) = true)
    (l_Handles_is_open : K.lookup f_Handles_is_open = some ⟨oc_Handles_is_open, od_Handles_is_open, .func (PySem.W.fnOf "is_open" "Handles.is_open" (defArgs s_Handles_is_open) (defBody s_Handles_is_open) (defScope s_Handles_is_open) .none kV_Handles_is_open dc_Handles_is_open pm_Handles_is_open an_Handles_is_open cd_Handles_is_open ct_Handles_is_open), sl_Handles_is_open⟩)
    (c_Handles_is_open : PySem.W.codeIn K cd_Handles_is_open "Handles.is_open" = true)
    (k_Handles_is_open : PySem.W.keepIn K (.ref f_Handles_is_open) = true)
    (a_Handles_uses_volume : PySem.W.findIn K (.ref C_Handles) "uses_volume" = some (some (.ref f_Handles_uses_volume)))
    (i_Handles_uses_volume : PySem.W.isFn K (.ref f_Handles_uses_volume) = true)
    (l_Handles_uses_volume : K.lookup f_Handles_uses_volume = some ⟨oc_Handles_uses_volume, od_Handles_uses_volume, .func (PySem.W.fnOf "uses_volume" "Handles.uses_volume" (defArgs s_Handles_uses_volume) (defBody s_Handles_uses_volume) (defScope s_Handles_uses_volume) .none kV_Handles_uses_volume dc_Handles_uses_volume pm_Handles_uses_volume an_Handles_uses_volume cd_Handles_uses_volume ct_Handles_uses_volume), sl_Handles_uses_volume⟩)
    (c_Handles_uses_volume : PySem.W.codeIn K cd_Handles_uses_volume "Handles.uses_volume" = true)
    (k_Handles_uses_volume : PySem.W.keepIn K (.ref f_Handles_uses_volume) = true)
    (a__law_classes : PySem.W.nsIn K mainGlobals "_law_classes" = some (some (.ref f__law_classes)))
    (l__law_classes : K.lookup f__law_classes = some ⟨oc__law_classes, od__law_classes, .func (PySem.W.fnOf "_law_classes" "_law_classes" (defArgs s__law_classes) (defBody s__law_classes) (defScope s__law_classes) .none kV__law_classes dc__law_classes pm__law_classes an__law_classes cd__law_classes ct__law_classes), sl__law_classes⟩)
    (c__law_classes : PySem.W.codeIn K cd__law_classes "_law_classes" = true)
    (k__law_classes : PySem.W.keepIn K (.ref f__law_classes) = true)
    (a__law_play : PySem.W.nsIn K mainGlobals "_law_play" = some (some (.ref f__law_play)))
    (l__law_play : K.lookup f__law_play = some ⟨oc__law_play, od__law_play, .func (PySem.W.fnOf "_law_play" "_law_play" (defArgs s__law_play) (defBody s__law_play) (defScope s__law_play) .none kV__law_play dc__law_play pm__law_play an__law_play cd__law_play ct__law_play), sl__law_play⟩)
    (c__law_play : PySem.W.codeIn K cd__law_play "_law_play" = true)
    (k__law_play : PySem.W.keepIn K (.ref f__law_play) = true)
    (a__law_open : PySem.W.nsIn K mainGlobals "_law_open" = some (some (.ref f__law_open)))
    (l__law_open : K.lookup f__law_open = some ⟨oc__law_open, od__law_open, .func (PySem.W.fnOf "_law_open" "_law_open" (defArgs s__law_open) (defBody s__law_open) (defScope s__law_open) .none kV__law_open dc__law_open pm__law_open an__law_open cd__law_open ct__law_open), sl__law_open⟩)
    (c__law_open : PySem.W.codeIn K cd__law_open "_law_open" = true)
    (k__law_open : PySem.W.keepIn K (.ref f__law_open) = true)
    (a__law_due : PySem.W.nsIn K mainGlobals "_law_due" = some (some (.ref f__law_due)))
    (l__law_due : K.lookup f__law_due = some ⟨oc__law_due, od__law_due, .func (PySem.W.fnOf "_law_due" "_law_due" (defArgs s__law_due) (defBody s__law_due) (defScope s__law_due) .none kV__law_due dc__law_due pm__law_due an__law_due cd__law_due ct__law_due), sl__law_due⟩)
    (c__law_due : PySem.W.codeIn K cd__law_due "_law_due" = true)
    (k__law_due : PySem.W.keepIn K (.ref f__law_due) = true)
    (a__law_least : PySem.W.nsIn K mainGlobals "_law_least" = some (some (.ref f__law_least)))
    (l__law_least : K.lookup f__law_least = some ⟨oc__law_least, od__law_least, .func (PySem.W.fnOf "_law_least" "_law_least" (defArgs s__law_least) (defBody s__law_least) (defScope s__law_least) .none kV__law_least dc__law_least pm__law_least an__law_least cd__law_least ct__law_least), sl__law_least⟩)
    (c__law_least : PySem.W.codeIn K cd__law_least "_law_least" = true)
    (k__law_least : PySem.W.keepIn K (.ref f__law_least) = true)
    (a__law_shows : PySem.W.nsIn K mainGlobals "_law_shows" = some (some (.ref f__law_shows)))
    (l__law_shows : K.lookup f__law_shows = some ⟨oc__law_shows, od__law_shows, .func (PySem.W.fnOf "_law_shows" "_law_shows" (defArgs s__law_shows) (defBody s__law_shows) (defScope s__law_shows) .none kV__law_shows dc__law_shows pm__law_shows an__law_shows cd__law_shows ct__law_shows), sl__law_shows⟩)
    (c__law_shows : PySem.W.codeIn K cd__law_shows "_law_shows" = true)
    (k__law_shows : PySem.W.keepIn K (.ref f__law_shows) = true)
    (a_law : PySem.W.nsIn K mainGlobals "law" = some (some (.ref f_law)))
    (l_law : K.lookup f_law = some ⟨oc_law, od_law, .func (PySem.W.fnOf "law" "law" (defArgs s_law) (defBody s_law) (defScope s_law) .none kV_law dc_law pm_law an_law cd_law ct_law), sl_law⟩)
    (c_law : PySem.W.codeIn K cd_law "law" = true)
    (k_law : PySem.W.keepIn K (.ref f_law) = true)
    (pg_Handles : PySem.W.plainGet K C_Handles Str.empty = true)
    (hd_Handles : PySem.W.hasDictIn K C_Handles = true)
    (po_Handles : PySem.W.plainOver K C_Handles = true)
    (sa_Handles : PySem.W.findIn K (.ref C_Handles) "__setattr__" = some (some (.builtin "object.__setattr__")))
    (mk_Handles : PySem.W.makesIn K C_Handles = true)
    (kc_Handles : PySem.W.keepIn K (.ref C_Handles) = true)
    (n_bool : PySem.W.nsIn K mainGlobals "bool" = some none)
    (n_int : PySem.W.nsIn K mainGlobals "int" = some none)
    (n_isinstance : PySem.W.nsIn K mainGlobals "isinstance" = some none)
    (n_len : PySem.W.nsIn K mainGlobals "len" = some none)
    (n_list : PySem.W.nsIn K mainGlobals "list" = some none)
    (n_max : PySem.W.nsIn K mainGlobals "max" = some none)
    (n_range : PySem.W.nsIn K mainGlobals "range" = some none)
    (n_sorted : PySem.W.nsIn K mainGlobals "sorted" = some none)
    (n_tuple : PySem.W.nsIn K mainGlobals "tuple" = some none)
    (kc_MAX_POSITION : PySem.W.nsIn K mainGlobals "MAX_POSITION" = some (some (.int 2048 t_MAX_POSITION)))
    (ex_BadHandle : PySem.W.excIn K C_BadHandle [.type "ValueError", .type "Exception", .type "BaseException", .type "object"] "ValueError.__new__" = true)
    (kc_BadHandle : PySem.W.keepIn K (.ref C_BadHandle) = true)
    (sb_BadHandle : PySem.W.subIn K (.ref C_BadHandle) (.type "BaseException") = some true)
    (ty_BadHandle : PySem.W.typeIn K (.ref C_BadHandle) = some (.type "type"))
    (ex_LaminaError : PySem.W.excIn K C_LaminaError [.type "ValueError", .type "Exception", .type "BaseException", .type "object"] "ValueError.__new__" = true)
    (kc_LaminaError : PySem.W.keepIn K (.ref C_LaminaError) = true)
    (sb_LaminaError : PySem.W.subIn K (.ref C_LaminaError) (.type "BaseException") = some true)
    (ty_LaminaError : PySem.W.typeIn K (.ref C_LaminaError) = some (.type "type"))
    (ex_NotValid : PySem.W.excIn K C_NotValid [.type "ValueError", .type "Exception", .type "BaseException", .type "object"] "ValueError.__new__" = true)
    (kc_NotValid : PySem.W.keepIn K (.ref C_NotValid) = true)
    (sb_NotValid : PySem.W.subIn K (.ref C_NotValid) (.type "BaseException") = some true)
    (ty_NotValid : PySem.W.typeIn K (.ref C_NotValid) = some (.type "type"))
    (nf_Handles_files : PySem.W.findIn K (.ref C_Handles) "files" = some none)
    (su_BadHandle_LaminaError : PySem.W.subIn K (.ref C_BadHandle) (.ref C_LaminaError) = some true)
    (su_BadHandle_NotValid : PySem.W.subIn K (.ref C_BadHandle) (.ref C_NotValid) = some false)
    (su_LaminaError_BadHandle : PySem.W.subIn K (.ref C_LaminaError) (.ref C_BadHandle) = some false)
    (su_LaminaError_LaminaError : PySem.W.subIn K (.ref C_LaminaError) (.ref C_LaminaError) = some true)
    (su_LaminaError_NotValid : PySem.W.subIn K (.ref C_LaminaError) (.ref C_NotValid) = some false)
    (su_NotValid_BadHandle : PySem.W.subIn K (.ref C_NotValid) (.ref C_BadHandle) = some false)
    (su_NotValid_LaminaError : PySem.W.subIn K (.ref C_NotValid) (.ref C_LaminaError) = some true)
    (hx_BadHandle : PySem.W.hasDictIn K C_BadHandle = true)
    (hx_LaminaError : PySem.W.hasDictIn K C_LaminaError = true)
    (hx_NotValid : PySem.W.hasDictIn K C_NotValid = true)
    (ne_LaminaError_NotValid : (Value.ref C_LaminaError == Value.ref C_NotValid) = false)
    (ne_BadHandle_NotValid : (Value.ref C_BadHandle == Value.ref C_NotValid) = false)
    (ne_LaminaError_BadHandle : (Value.ref C_LaminaError == Value.ref C_BadHandle) = false)
    (ne_NotValid_BadHandle : (Value.ref C_NotValid == Value.ref C_BadHandle) = false)
    (ga_LaminaError : PySem.W.findIn K (.ref C_LaminaError) "__getattribute__" = some (some (.builtin "BaseException.__getattribute__")))
    (gg_LaminaError : PySem.W.findIn K (.ref C_LaminaError) "__getattr__" = some none)
    (cl_LaminaError : PySem.W.findIn K (.ref C_LaminaError) "__class__" = some (some (.builtin "object.__class__")))
    (om_LaminaError : PySem.W.mroIn K C_LaminaError (.type "object") = some true)
    (ga_NotValid : PySem.W.findIn K (.ref C_NotValid) "__getattribute__" = some (some (.builtin "BaseException.__getattribute__")))
    (gg_NotValid : PySem.W.findIn K (.ref C_NotValid) "__getattr__" = some none)
    (cl_NotValid : PySem.W.findIn K (.ref C_NotValid) "__class__" = some (some (.builtin "object.__class__")))
    (om_NotValid : PySem.W.mroIn K C_NotValid (.type "object") = some true)
    (ga_BadHandle : PySem.W.findIn K (.ref C_BadHandle) "__getattribute__" = some (some (.builtin "BaseException.__getattribute__")))
    (gg_BadHandle : PySem.W.findIn K (.ref C_BadHandle) "__getattr__" = some none)
    (cl_BadHandle : PySem.W.findIn K (.ref C_BadHandle) "__class__" = some (some (.builtin "object.__class__")))
    (om_BadHandle : PySem.W.mroIn K C_BadHandle (.type "object") = some true)
    (sp_cls : PySem.W.specialIn K (.builtin "object.__class__") "__get__" = some (some (.builtin "getset_descriptor.__get__")))
    (tk_cls : PySem.W.takesIn K (.builtin "object.__class__") = some true) :
    ∃ fd : FuncData, (∀ (s : Shared) (v : Value), BindsTo s fd ⟨[v], []⟩ [("_law_script", v)]) ∧ ∀ base : Heap, K.In base → base.Ns mainGlobals mg → FnOk P w K mg base (L2.CX P w) 4 fa fd ["_law_script"] (spLaw K) := by
  have e := hfa.symm.trans (PySem.W.mg_of X G a_law)
  cases e
  have F_Handles___init__ := fun_mk (st := s_Handles___init__) l_Handles___init__ c_Handles___init__ k_Handles___init__
  have F_Handles__look := fun_mk (st := s_Handles__look) l_Handles__look c_Handles__look k_Handles__look
  have F_Handles_open_files := fun_mk (st := s_Handles_open_files) l_Handles_open_files c_Handles_open_files k_Handles_open_files
  have F_Handles_add_open_file := fun_mk (st := s_Handles_add_open_file) l_Handles_add_open_file c_Handles_add_open_file k_Handles_add_open_file
  have F_Handles_look_up := fun_mk (st := s_Handles_look_up) l_Handles_look_up c_Handles_look_up k_Handles_look_up
  have F_Handles_move_to := fun_mk (st := s_Handles_move_to) l_Handles_move_to c_Handles_move_to k_Handles_move_to
  have F_Handles_add_reference := fun_mk (st := s_Handles_add_reference) l_Handles_add_reference c_Handles_add_reference k_Handles_add_reference
  have F_Handles_drop_reference := fun_mk (st := s_Handles_drop_reference) l_Handles_drop_reference c_Handles_drop_reference k_Handles_drop_reference
  have F_Handles_is_open := fun_mk (st := s_Handles_is_open) l_Handles_is_open c_Handles_is_open k_Handles_is_open
  have F_Handles_uses_volume := fun_mk (st := s_Handles_uses_volume) l_Handles_uses_volume c_Handles_uses_volume k_Handles_uses_volume
  have F__law_classes := fun_mk (st := s__law_classes) l__law_classes c__law_classes k__law_classes
  have F__law_play := fun_mk (st := s__law_play) l__law_play c__law_play k__law_play
  have F__law_open := fun_mk (st := s__law_open) l__law_open c__law_open k__law_open
  have F__law_due := fun_mk (st := s__law_due) l__law_due c__law_due k__law_due
  have F__law_least := fun_mk (st := s__law_least) l__law_least c__law_least k__law_least
  have F__law_shows := fun_mk (st := s__law_shows) l__law_shows c__law_shows k__law_shows
  have F_law := fun_mk (st := s_law) l_law c_law k_law
  let A : Adr := {
    ex := { ({ } : Ex) with Handles := C_Handles, LaminaError := C_LaminaError, NotValid := C_NotValid, BadHandle := C_BadHandle },
    f_Handles___init__ := f_Handles___init__, d_Handles___init__ := PySem.W.fnOf "__init__" "Handles.__init__" (defArgs s_Handles___init__) (defBody s_Handles___init__) (defScope s_Handles___init__) .none kV_Handles___init__ dc_Handles___init__ pm_Handles___init__ an_Handles___init__ cd_Handles___init__ ct_Handles___init__,
    f_Handles__look := f_Handles__look, d_Handles__look := PySem.W.fnOf "_look" "Handles._look" (defArgs s_Handles__look) (defBody s_Handles__look) (defScope s_Handles__look) .none kV_Handles__look dc_Handles__look pm_Handles__look an_Handles__look cd_Handles__look ct_Handles__look,
    f_Handles_open_files := f_Handles_open_files, d_Handles_open_files := PySem.W.fnOf "open_files" "Handles.open_files" (defArgs s_Handles_open_files) (defBody s_Handles_open_files) (defScope s_Handles_open_files) .none kV_Handles_open_files dc_Handles_open_files pm_Handles_open_files an_Handles_open_files cd_Handles_open_files ct_Handles_open_files,
    f_Handles_add_open_file := f_Handles_add_open_file, d_Handles_add_open_file := PySem.W.fnOf "add_open_file" "Handles.add_open_file" (defArgs s_Handles_add_open_file) (defBody s_Handles_add_open_file) (defScope s_Handles_add_open_file) .none kV_Handles_add_open_file dc_Handles_add_open_file pm_Handles_add_open_file an_Handles_add_open_file cd_Handles_add_open_file ct_Handles_add_open_file,
    f_Handles_look_up := f_Handles_look_up, d_Handles_look_up := PySem.W.fnOf "look_up" "Handles.look_up" (defArgs s_Handles_look_up) (defBody s_Handles_look_up) (defScope s_Handles_look_up) .none kV_Handles_look_up dc_Handles_look_up pm_Handles_look_up an_Handles_look_up cd_Handles_look_up ct_Handles_look_up,
    f_Handles_move_to := f_Handles_move_to, d_Handles_move_to := PySem.W.fnOf "move_to" "Handles.move_to" (defArgs s_Handles_move_to) (defBody s_Handles_move_to) (defScope s_Handles_move_to) .none kV_Handles_move_to dc_Handles_move_to pm_Handles_move_to an_Handles_move_to cd_Handles_move_to ct_Handles_move_to,
    f_Handles_add_reference := f_Handles_add_reference, d_Handles_add_reference := PySem.W.fnOf "add_reference" "Handles.add_reference" (defArgs s_Handles_add_reference) (defBody s_Handles_add_reference) (defScope s_Handles_add_reference) .none kV_Handles_add_reference dc_Handles_add_reference pm_Handles_add_reference an_Handles_add_reference cd_Handles_add_reference ct_Handles_add_reference,
    f_Handles_drop_reference := f_Handles_drop_reference, d_Handles_drop_reference := PySem.W.fnOf "drop_reference" "Handles.drop_reference" (defArgs s_Handles_drop_reference) (defBody s_Handles_drop_reference) (defScope s_Handles_drop_reference) .none kV_Handles_drop_reference dc_Handles_drop_reference pm_Handles_drop_reference an_Handles_drop_reference cd_Handles_drop_reference ct_Handles_drop_reference,
    f_Handles_is_open := f_Handles_is_open, d_Handles_is_open := PySem.W.fnOf "is_open" "Handles.is_open" (defArgs s_Handles_is_open) (defBody s_Handles_is_open) (defScope s_Handles_is_open) .none kV_Handles_is_open dc_Handles_is_open pm_Handles_is_open an_Handles_is_open cd_Handles_is_open ct_Handles_is_open,
    f_Handles_uses_volume := f_Handles_uses_volume, d_Handles_uses_volume := PySem.W.fnOf "uses_volume" "Handles.uses_volume" (defArgs s_Handles_uses_volume) (defBody s_Handles_uses_volume) (defScope s_Handles_uses_volume) .none kV_Handles_uses_volume dc_Handles_uses_volume pm_Handles_uses_volume an_Handles_uses_volume cd_Handles_uses_volume ct_Handles_uses_volume,
    f__law_classes := f__law_classes, d__law_classes := PySem.W.fnOf "_law_classes" "_law_classes" (defArgs s__law_classes) (defBody s__law_classes) (defScope s__law_classes) .none kV__law_classes dc__law_classes pm__law_classes an__law_classes cd__law_classes ct__law_classes,
    f__law_play := f__law_play, d__law_play := PySem.W.fnOf "_law_play" "_law_play" (defArgs s__law_play) (defBody s__law_play) (defScope s__law_play) .none kV__law_play dc__law_play pm__law_play an__law_play cd__law_play ct__law_play,
    f__law_open := f__law_open, d__law_open := PySem.W.fnOf "_law_open" "_law_open" (defArgs s__law_open) (defBody s__law_open) (defScope s__law_open) .none kV__law_open dc__law_open pm__law_open an__law_open cd__law_open ct__law_open,
    f__law_due := f__law_due, d__law_due := PySem.W.fnOf "_law_due" "_law_due" (defArgs s__law_due) (defBody s__law_due) (defScope s__law_due) .none kV__law_due dc__law_due pm__law_due an__law_due cd__law_due ct__law_due,
    f__law_least := f__law_least, d__law_least := PySem.W.fnOf "_law_least" "_law_least" (defArgs s__law_least) (defBody s__law_least) (defScope s__law_least) .none kV__law_least dc__law_least pm__law_least an__law_least cd__law_least ct__law_least,
    f__law_shows := f__law_shows, d__law_shows := PySem.W.fnOf "_law_shows" "_law_shows" (defArgs s__law_shows) (defBody s__law_shows) (defScope s__law_shows) .none kV__law_shows dc__law_shows pm__law_shows an__law_shows cd__law_shows ct__law_shows,
    f_law := fa, d_law := PySem.W.fnOf "law" "law" (defArgs s_law) (defBody s_law) (defScope s_law) .none kV_law dc_law pm_law an_law cd_law ct_law }
  have T : Top K mg A := {
    F_Handles___init__ := F_Handles___init__,
    b_Handles___init__ := F_Handles___init__.binds (ps := ["self"]) fun _ _ _ _ _ _ us hl => match us, hl with | [_], _ => rfl,
    F_Handles__look := F_Handles__look,
    b_Handles__look := F_Handles__look.binds (ps := ["self", "number"]) fun _ _ _ _ _ _ us hl => match us, hl with | [_, _], _ => rfl,
    m_Handles__look := ⟨a_Handles__look, i_Handles__look, k_Handles__look⟩,
    F_Handles_open_files := F_Handles_open_files,
    b_Handles_open_files := F_Handles_open_files.binds (ps := ["self"]) fun _ _ _ _ _ _ us hl => match us, hl with | [_], _ => rfl,
    m_Handles_open_files := ⟨a_Handles_open_files, i_Handles_open_files, k_Handles_open_files⟩,
    F_Handles_add_open_file := F_Handles_add_open_file,
    b_Handles_add_open_file := F_Handles_add_open_file.binds (ps := ["self", "volume", "inode", "mode"]) fun _ _ _ _ _ _ us hl => match us, hl with | [_, _, _, _], _ => rfl,
    m_Handles_add_open_file := ⟨a_Handles_add_open_file, i_Handles_add_open_file, k_Handles_add_open_file⟩,
    F_Handles_look_up := F_Handles_look_up,
    b_Handles_look_up := F_Handles_look_up.binds (ps := ["self", "number"]) fun _ _ _ _ _ _ us hl => match us, hl with | [_, _], _ => rfl,
    m_Handles_look_up := ⟨a_Handles_look_up, i_Handles_look_up, k_Handles_look_up⟩,
    F_Handles_move_to := F_Handles_move_to,
    b_Handles_move_to := F_Handles_move_to.binds (ps := ["self", "number", "position"]) fun _ _ _ _ _ _ us hl => match us, hl with | [_, _, _], _ => rfl,
    m_Handles_move_to := ⟨a_Handles_move_to, i_Handles_move_to, k_Handles_move_to⟩,
    F_Handles_add_reference := F_Handles_add_reference,
    b_Handles_add_reference := F_Handles_add_reference.binds (ps := ["self", "number"]) fun _ _ _ _ _ _ us hl => match us, hl with | [_, _], _ => rfl,
    m_Handles_add_reference := ⟨a_Handles_add_reference, i_Handles_add_reference, k_Handles_add_reference⟩,
    F_Handles_drop_reference := F_Handles_drop_reference,
    b_Handles_drop_reference := F_Handles_drop_reference.binds (ps := ["self", "number"]) fun _ _ _ _ _ _ us hl => match us, hl with | [_, _], _ => rfl,
    m_Handles_drop_reference := ⟨a_Handles_drop_reference, i_Handles_drop_reference, k_Handles_drop_reference⟩,
    F_Handles_is_open := F_Handles_is_open,
    b_Handles_is_open := F_Handles_is_open.binds (ps := ["self", "volume", "inode"]) fun _ _ _ _ _ _ us hl => match us, hl with | [_, _, _], _ => rfl,
    m_Handles_is_open := ⟨a_Handles_is_open, i_Handles_is_open, k_Handles_is_open⟩,
    F_Handles_uses_volume := F_Handles_uses_volume,
    b_Handles_uses_volume := F_Handles_uses_volume.binds (ps := ["self", "volume"]) fun _ _ _ _ _ _ us hl => match us, hl with | [_, _], _ => rfl,
    m_Handles_uses_volume := ⟨a_Handles_uses_volume, i_Handles_uses_volume, k_Handles_uses_volume⟩,
    F__law_classes := F__law_classes,
    b__law_classes := F__law_classes.binds (ps := ["_law_error"]) fun _ _ _ _ _ _ us hl => match us, hl with | [_], _ => rfl,
    g__law_classes := PySem.W.mg_of X G a__law_classes,
    F__law_play := F__law_play,
    b__law_play := F__law_play.binds (ps := ["_law_handles", "_law_deed", "_law_number", "_law_position"]) fun _ _ _ _ _ _ us hl => match us, hl with | [_, _, _, _], _ => rfl,
    g__law_play := PySem.W.mg_of X G a__law_play,
    F__law_open := F__law_open,
    b__law_open := F__law_open.binds (ps := ["_law_files", "_law_volume", "_law_inode"]) fun _ _ _ _ _ _ us hl => match us, hl with | [_, _, _], _ => rfl,
    g__law_open := PySem.W.mg_of X G a__law_open,
    F__law_due := F__law_due,
    b__law_due := F__law_due.binds (ps := ["_law_files", "_law_deed", "_law_number", "_law_position"]) fun _ _ _ _ _ _ us hl => match us, hl with | [_, _, _, _], _ => rfl,
    g__law_due := PySem.W.mg_of X G a__law_due,
    F__law_least := F__law_least,
    b__law_least := F__law_least.binds (ps := ["_law_files"]) fun _ _ _ _ _ _ us hl => match us, hl with | [_], _ => rfl,
    g__law_least := PySem.W.mg_of X G a__law_least,
    F__law_shows := F__law_shows,
    b__law_shows := F__law_shows.binds (ps := ["_law_handles", "_law_files"]) fun _ _ _ _ _ _ us hl => match us, hl with | [_, _], _ => rfl,
    g__law_shows := PySem.W.mg_of X G a__law_shows,
    F_law := F_law,
    b_law := F_law.binds (ps := ["_law_script"]) fun _ _ _ _ _ _ us hl => match us, hl with | [_], _ => rfl,
    g_law := PySem.W.mg_of X G a_law,
    c_Handles := ⟨pg_Handles, hd_Handles, po_Handles, sa_Handles⟩,
    M_Handles := ⟨mk_Handles, a_Handles___init__, i_Handles___init__, kc_Handles⟩,
    gC_Handles := PySem.W.mg_of X G aC_Handles,
    n_bool := PySem.W.mg_none_of X G n_bool,
    n_int := PySem.W.mg_none_of X G n_int,
    n_isinstance := PySem.W.mg_none_of X G n_isinstance,
    n_len := PySem.W.mg_none_of X G n_len,
    n_list := PySem.W.mg_none_of X G n_list,
    n_max := PySem.W.mg_none_of X G n_max,
    n_range := PySem.W.mg_none_of X G n_range,
    n_sorted := PySem.W.mg_none_of X G n_sorted,
    n_tuple := PySem.W.mg_none_of X G n_tuple,
    k_MAX_POSITION := ⟨_, PySem.W.mg_of X G kc_MAX_POSITION⟩,
    x_BadHandle := ⟨ex_BadHandle, PySem.W.mg_of X G aC_BadHandle, kc_BadHandle, sb_BadHandle, ty_BadHandle⟩,
    x_LaminaError := ⟨ex_LaminaError, PySem.W.mg_of X G aC_LaminaError, kc_LaminaError, sb_LaminaError, ty_LaminaError⟩,
    x_NotValid := ⟨ex_NotValid, PySem.W.mg_of X G aC_NotValid, kc_NotValid, sb_NotValid, ty_NotValid⟩,
    n_Handles_files := nf_Handles_files,
    fa := { fa0 := trivial, te_LaminaError_LaminaError := PySem.W.exm_ref sb_LaminaError hx_LaminaError ty_LaminaError su_LaminaError_LaminaError, te_NotValid_LaminaError := PySem.W.exm_ref sb_LaminaError hx_LaminaError ty_LaminaError su_NotValid_LaminaError, te_BadHandle_LaminaError := PySem.W.exm_ref sb_LaminaError hx_LaminaError ty_LaminaError su_BadHandle_LaminaError, kt_LaminaError_NotValid := kit_ne ne_LaminaError_NotValid sb_NotValid hx_NotValid ty_NotValid su_LaminaError_NotValid, kt_NotValid_NotValid := kit_same, kt_BadHandle_NotValid := kit_ne ne_BadHandle_NotValid sb_NotValid hx_NotValid ty_NotValid su_BadHandle_NotValid, kt_LaminaError_BadHandle := kit_ne ne_LaminaError_BadHandle sb_BadHandle hx_BadHandle ty_BadHandle su_LaminaError_BadHandle, kt_NotValid_BadHandle := kit_ne ne_NotValid_BadHandle sb_BadHandle hx_BadHandle ty_BadHandle su_NotValid_BadHandle, kt_BadHandle_BadHandle := kit_same, xc_LaminaError := ⟨ga_LaminaError, gg_LaminaError, sb_LaminaError, hx_LaminaError, cl_LaminaError, sp_cls, tk_cls, om_LaminaError⟩, xc_NotValid := ⟨ga_NotValid, gg_NotValid, sb_NotValid, hx_NotValid, cl_NotValid, sp_cls, tk_cls, om_NotValid⟩, xc_BadHandle := ⟨ga_BadHandle, gg_BadHandle, sb_BadHandle, hx_BadHandle, cl_BadHandle, sp_cls, tk_cls, om_BadHandle⟩ } }
  exact ⟨_, fun s v => .of_eq rfl, fun base _ _ => ok_law (A := A) T⟩
theorem walk {l : PySem.W.OpenLaw} {q : Program} {loose : List Str} {XP : (Str → Option Value) → Heap → Prop} {YP : World → Heap → Prop} {d : DefRec} {K : Params → PySem.W.Frag} (hn : l.most = some 63) (hdf : d.params.defaults = [])
    (hY : ∀ (w : World) (h : Heap), YP w h → (K w.params).In h)
    (F : ∀ (w : World) (mg : Str → Option Value) (fa : Addr) (h : Heap), (K w.params).In h → h.Ns mainGlobals mg → mg d.name = some (.ref fa) →
      ∃ fd : FuncData, (∀ (s : Shared) (u : Value), BindsTo s fd ⟨[u], []⟩ [("_law_script", u)]) ∧ ∀ base : Heap, (K w.params).In base → base.Ns mainGlobals mg → FnOk l.prog w (K w.params) mg base (L2.CX l.prog w) 4 fa fd ["_law_script"] (spLaw (K w.params))) :
    PySem.W.WalkO q loose XP YP l.row.toRowW d [] (fun f vs => PySem.call f vs) :=
  L2.walk_of (n := 63) (k := 4) (x := "_law_script") (CX := fun w => L2.CX l.prog w) (sp := fun w => spLaw (K w.params)) hn (by decide) hdf ⟨rfl, by decide, by decide⟩ hY F (fun _ _ a ns hl _ hS => ⟨_, rfl, a, ns, rfl, hS, hl, fun _ => rfl⟩) fun _ _ _ _ _ ⟨_, _, _, _, _, _, _, _, _, _, _, _, z⟩ => z
end Lam
open PySem PySem.W PyProof.Rows
set_option maxRecDepth 100000 in
set_option maxHeartbeats 0 in
theorem PySem.Challenge.cw_laminae_k53_open_files_holds : PySem.Challenge.rw_laminae_k53_open_files.Holds := by
  w_on; o_law; k_head; (case hw => w_witness2)
  k_fill
  refine Lam.walk (l := PySem.Challenge.rw_laminae_k53_open_files) rfl rfl (fun w h Y => PySem.W.kIn_of Y) ?F
  case F =>
    intro w mg fa h KX G hmg
    refine' Lam.all_mk KX G hmg ?aC_Handles ?aC_BadHandle ?aC_LaminaError ?aC_NotValid ?a_Handles___init__ ?i_Handles___init__ ?l_Handles___init__ ?c_Handles___init__ ?k_Handles___init__ ?a_Handles__look ?i_Handles__look ?l_Handles__look ?c_Handles__look ?k_Handles__look ?a_Handles_open_files ?i_Handles_open_files ?l_Handles_open_files ?c_Handles_open_files ?k_Handles_open_files ?a_Handles_add_open_file ?i_Handles_add_open_file ?l_Handles_add_open_file ?c_Handles_add_open_file ?k_Handles_add_open_file ?a_Handles_look_up ?i_Handles_look_up ?l_Handles_look_up ?c_Handles_look_up ?k_Handles_look_up ?a_Handles_move_to ?i_Handles_move_to ?l_Handles_move_to ?c_Handles_move_to ?k_Handles_move_to ?a_Handles_add_reference ?i_Handles_add_reference ?l_Handles_add_reference ?c_Handles_add_reference ?k_Handles_add_reference ?a_Handles_drop_reference ?i_Handles_drop_reference ?l_Handles_drop_reference ?c_Handles_drop_reference ?k_Handles_drop_reference ?a_Handles_is_open ?i_Handles_is_open ?l_Handles_is_open ?c_Handles_is_open ?k_Handles_is_open ?a_Handles_uses_volume ?i_Handles_uses_volume ?l_Handles_uses_volume ?c_Handles_uses_volume ?k_Handles_uses_volume ?a__law_classes ?l__law_classes ?c__law_classes ?k__law_classes ?a__law_play ?l__law_play ?c__law_play ?k__law_play ?a__law_open ?l__law_open ?c__law_open ?k__law_open ?a__law_due ?l__law_due ?c__law_due ?k__law_due ?a__law_least ?l__law_least ?c__law_least ?k__law_least ?a__law_shows ?l__law_shows ?c__law_shows ?k__law_shows ?a_law ?l_law ?c_law ?k_law ?pg_Handles ?hd_Handles ?po_Handles ?sa_Handles ?mk_Handles ?kc_Handles ?n_bool ?n_int ?n_isinstance ?n_len ?n_list ?n_max ?n_range ?n_sorted ?n_tuple ?kc_MAX_POSITION ?ex_BadHandle ?kc_BadHandle ?sb_BadHandle ?ty_BadHandle ?ex_LaminaError ?kc_LaminaError ?sb_LaminaError ?ty_LaminaError ?ex_NotValid ?kc_NotValid ?sb_NotValid ?ty_NotValid ?nf_Handles_files ?su_BadHandle_LaminaError ?su_BadHandle_NotValid ?su_LaminaError_BadHandle ?su_LaminaError_LaminaError ?su_LaminaError_NotValid ?su_NotValid_BadHandle ?su_NotValid_LaminaError ?hx_BadHandle ?hx_LaminaError ?hx_NotValid ?ne_LaminaError_NotValid ?ne_BadHandle_NotValid ?ne_LaminaError_BadHandle ?ne_NotValid_BadHandle ?ga_LaminaError ?gg_LaminaError ?cl_LaminaError ?om_LaminaError ?ga_NotValid ?gg_NotValid ?cl_NotValid ?om_NotValid ?ga_BadHandle ?gg_BadHandle ?cl_BadHandle ?om_BadHandle ?sp_cls ?tk_cls
    (case aC_Handles => k_is); (case aC_BadHandle => k_is); (case aC_LaminaError => k_is); (case aC_NotValid => k_is); (case a_Handles___init__ => k_is); (case i_Handles___init__ => k_is)
    (case l_Handles___init__ => k_is); (case c_Handles___init__ => k_is); (case k_Handles___init__ => k_is); (case a_Handles__look => k_is); (case i_Handles__look => k_is); (case l_Handles__look => k_is)
    (case c_Handles__look => k_is); (case k_Handles__look => k_is); (case a_Handles_open_files => k_is); (case i_Handles_open_files => k_is); (case l_Handles_open_files => k_is); (case c_Handles_open_files => k_is)
    (case k_Handles_open_files => k_is); (case a_Handles_add_open_file => k_is); (case i_Handles_add_open_file => k_is); (case l_Handles_add_open_file => k_is); (case c_Handles_add_open_file => k_is); (case k_Handles_add_open_file => k_is)
    (case a_Handles_look_up => k_is); (case i_Handles_look_up => k_is); (case l_Handles_look_up => k_is); (case c_Handles_look_up => k_is); (case k_Handles_look_up => k_is); (case a_Handles_move_to => k_is)
    (case i_Handles_move_to => k_is); (case l_Handles_move_to => k_is); (case c_Handles_move_to => k_is); (case k_Handles_move_to => k_is); (case a_Handles_add_reference => k_is); (case i_Handles_add_reference => k_is)
    (case l_Handles_add_reference => k_is); (case c_Handles_add_reference => k_is); (case k_Handles_add_reference => k_is); (case a_Handles_drop_reference => k_is); (case i_Handles_drop_reference => k_is); (case l_Handles_drop_reference => k_is)
    (case c_Handles_drop_reference => k_is); (case k_Handles_drop_reference => k_is); (case a_Handles_is_open => k_is); (case i_Handles_is_open => k_is); (case l_Handles_is_open => k_is); (case c_Handles_is_open => k_is)
    (case k_Handles_is_open => k_is); (case a_Handles_uses_volume => k_is); (case i_Handles_uses_volume => k_is); (case l_Handles_uses_volume => k_is); (case c_Handles_uses_volume => k_is); (case k_Handles_uses_volume => k_is)
    (case a__law_classes => k_is); (case l__law_classes => k_is); (case c__law_classes => k_is); (case k__law_classes => k_is); (case a__law_play => k_is); (case l__law_play => k_is)
    (case c__law_play => k_is); (case k__law_play => k_is); (case a__law_open => k_is); (case l__law_open => k_is); (case c__law_open => k_is); (case k__law_open => k_is)
    (case a__law_due => k_is); (case l__law_due => k_is); (case c__law_due => k_is); (case k__law_due => k_is); (case a__law_least => k_is); (case l__law_least => k_is)
    (case c__law_least => k_is); (case k__law_least => k_is); (case a__law_shows => k_is); (case l__law_shows => k_is); (case c__law_shows => k_is); (case k__law_shows => k_is)
    (case a_law => k_is); (case l_law => k_is); (case c_law => k_is); (case k_law => k_is); (case pg_Handles => k_is); (case hd_Handles => k_is)
    (case po_Handles => k_is); (case sa_Handles => k_is); (case mk_Handles => k_is); (case kc_Handles => k_is); (case n_bool => k_is); (case n_int => k_is)
    (case n_isinstance => k_is); (case n_len => k_is); (case n_list => k_is); (case n_max => k_is); (case n_range => k_is); (case n_sorted => k_is)
    (case n_tuple => k_is); (case kc_MAX_POSITION => k_is); (case ex_BadHandle => k_exc); (case kc_BadHandle => k_is); (case sb_BadHandle => k_is); (case ty_BadHandle => k_is)
    (case ex_LaminaError => k_exc); (case kc_LaminaError => k_is); (case sb_LaminaError => k_is); (case ty_LaminaError => k_is); (case ex_NotValid => k_exc); (case kc_NotValid => k_is)
    (case sb_NotValid => k_is); (case ty_NotValid => k_is); (case nf_Handles_files => k_is); (case su_BadHandle_LaminaError => k_is); (case su_BadHandle_NotValid => k_is); (case su_LaminaError_BadHandle => k_is)
    (case su_LaminaError_LaminaError => k_is); (case su_LaminaError_NotValid => k_is); (case su_NotValid_BadHandle => k_is); (case su_NotValid_LaminaError => k_is); (case hx_BadHandle => k_is); (case hx_LaminaError => k_is)
    (case hx_NotValid => k_is); (case ne_LaminaError_NotValid => decide); (case ne_BadHandle_NotValid => decide); (case ne_LaminaError_BadHandle => decide); (case ne_NotValid_BadHandle => decide); (case ga_LaminaError => k_is)
    (case gg_LaminaError => k_is); (case cl_LaminaError => k_is); (case om_LaminaError => k_is); (case ga_NotValid => k_is); (case gg_NotValid => k_is); (case cl_NotValid => k_is)
    (case om_NotValid => k_is); (case ga_BadHandle => k_is); (case gg_BadHandle => k_is); (case cl_BadHandle => k_is); (case om_BadHandle => k_is); (case sp_cls => k_is)
    (case tk_cls => k_is)
#print axioms PySem.Challenge.cw_laminae_k53_open_files_holds
