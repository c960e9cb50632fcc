import PyProof.Rows.All
import Wide.All
import OpenK.AllK
import Wide.FinOn
import HandS.ForMost
import HandS.ForExc
import HandS.TupLe
import HandS.IsInst
import HandS.Small
import HandS.Wide
import HandS.ExcIs
import HandS.DictComp
import HandS.Rev
import HandS.Codes
import HandS.HotCalls
import HandS.SortInts
import KE.Datum
import PySem.Challenge.RW_laminae_k67_records_and_sectors
set_option Elab.async false
set_option linter.all false
set_option maxRecDepth 100000
set_option maxHeartbeats 4000000
namespace U
open PySem PySem.Spec PyProof.Rows L2
section weaken
variable {X : Cx}
theorem orR {f : Value → Value → Sem Value} {r r' : R2} (h : OpR X f r) (g : OpR X f r') : OpR X f (fun x y H Q => r x y H Q ∨ r' x y H Q) :=
  fun pins s σ H x y v u Q I rx ry q => q.elim (h pins s σ H x y v u Q I rx ry) (g pins s σ H x y v u Q I rx ry)
theorem wR {f : Value → Value → Sem Value} {r r' : R2} (h : OpR X f r) (k : ∀ x y H Q, r' x y H Q → r x y H Q) : OpR X f r' :=
  fun pins s σ H x y v u Q I rx ry q => h pins s σ H x y v u Q I rx ry (k _ _ _ _ q)
theorem wC {f : Value} {r r' : List V → Hp → VK → Prop} (h : CallR X f r) (k : ∀ xs H Q, r' xs H Q → r xs H Q) : CallR X f r' :=
  fun pins s σ H xs us Q I rx q => h pins s σ H xs us Q I rx (k _ _ _ q)
theorem orC {f : Value} {r r' : List V → Hp → VK → Prop} (h : CallR X f r) (g : CallR X f r') : CallR X f (fun xs H Q => r xs H Q ∨ r' xs H Q) :=
  fun pins s σ H xs us Q I rx q => q.elim (h pins s σ H xs us Q I rx) (g pins s σ H xs us Q I rx)
end weaken
def tCut (t u : TS) : TS := C8.tCut t u
theorem pss_cut {X : Cx} {st : Stmt} {rest : List Stmt} {t u : TS} (h1 : PS X st t) (h2 : PSs X rest u) : PSs X (st :: rest) (tCut t u) := C8.pss_cut h1 h2
section ops
variable {X : Cx}
/-- text times number -/
theorem op_strmul : OpR X (binaryOp .Mult) (fun x y H Q => ∃ (z : Str) (n : Int), x = .str z ∧ y = .int n ∧ MulOk z n ∧ Q (.str (Txt.mul z n)) H) := by
  intro pins s σ H x y v u Q I rx ry h
  obtain ⟨z, n, rfl, rfl, ok, q⟩ := h
  obtain ⟨t, rfl⟩ := rx
  obtain ⟨t', rfl⟩ := ry
  exact SB.mul ok fun t1 k => ⟨.str (Txt.mul z n), H, I.tok _, ⟨_, rfl⟩, q⟩
def uAdd (K : PySem.W.Frag) : R2 := fun x y H Q => match x, y with
  | .int i, .int j => Q (.int (i + j)) H
  | .str i, .str j => i.length + j.length ≤ sizeLine ∧ Q (.str (i ++ j)) H
  | .ref a, .ref b => rCat (.ref a) (.ref b) H Q ∨ rCatT K (.ref a) (.ref b) H Q
  | _, _ => False
theorem o_add : OpR X (binaryOp .Add) (uAdd X.K) := by
  refine wR (orR op_add (orR op_add_str (orR op_cat op_catT))) fun x y H Q q => ?_
  unfold uAdd at q
  split at q
  · exact .inl ⟨_, _, rfl, rfl, q⟩
  · exact .inr (.inl ⟨_, _, rfl, rfl, q⟩)
  · exact .inr (.inr q)
  · exact q.elim
def uSub : R2 := fun x y H Q => match x, y with
  | .int i, .int j => Q (.int (i - j)) H
  | _, _ => False
theorem o_sub : OpR X (binaryOp .Sub) uSub := by
  refine wR op_sub fun x y H Q q => ?_
  unfold uSub at q
  split at q
  · exact ⟨_, _, rfl, rfl, q⟩
  · exact q.elim
def uMul : R2 := fun x y H Q => match x, y with
  | .int i, .int j => (CMul i j ∨ CMulW i j) ∧ Q (.int (i * j)) H
  | .str z, .int n => MulOk z n ∧ Q (.str (Txt.mul z n)) H
  | .ref a, .int n => rRep (.ref a) (.int n) H Q
  | _, _ => False
theorem o_mul : OpR X (binaryOp .Mult) uMul := by
  refine wR (orR op_mul (orR op_mulW (orR op_strmul op_rep))) fun x y H Q q => ?_
  unfold uMul at q
  split at q
  · obtain ⟨c | c, q⟩ := q
    · exact .inl ⟨_, _, rfl, rfl, c, q⟩
    · exact .inr (.inl ⟨_, _, rfl, rfl, c, q⟩)
  · exact .inr (.inr (.inl ⟨_, _, rfl, rfl, q⟩))
  · exact .inr (.inr (.inr q))
  · exact q.elim
def uDiv : R2 := fun x y H Q => match x, y with
  | .int i, .int j => (0 < j ∧ j < 2 ^ 200) ∧ Q (.int (i / j)) H
  | _, _ => False
theorem o_div : OpR X (binaryOp .FloorDiv) uDiv := by
  refine wR op_fdivW fun x y H Q q => ?_
  unfold uDiv at q
  split at q
  · obtain ⟨⟨c1, c2⟩, q⟩ := q
    exact ⟨_, _, rfl, rfl, wide_div (b := 200) c1 (by omega) (by decide) (by decide), q⟩
  · exact q.elim
def uMod : R2 := fun x y H Q => match x, y with
  | .int i, .int j => 0 < j ∧ Q (.int (i % j)) H
  | _, _ => False
theorem o_mod : OpR X (binaryOp .Mod) uMod := by
  refine wR op_mod fun x y H Q q => ?_
  unfold uMod at q
  split at q
  · exact ⟨_, _, rfl, rfl, q⟩
  · exact q.elim
def uPow : R2 := fun x y H Q => match x, y with
  | .int i, .int j => CPow i j ∧ Q (.int (i ^ j.toNat)) H
  | _, _ => False
theorem o_pow : OpR X (binaryOp .Pow) uPow := by
  refine wR op_pow fun x y H Q q => ?_
  unfold uPow at q
  split at q
  · exact ⟨_, _, rfl, rfl, q⟩
  · exact q.elim
def uNeg : V → Hp → VK → Prop := fun x H Q => match x with
  | .int i => Q (.int (-i)) H
  | _ => False
/-- == of data without dicts -/
def rEqP (K : PySem.W.Frag) : R2 := fun x y H Q => ∃ d e, Dp K H x d ∧ Dp K H y e ∧ (d.plain = true ∧ d.depth ≤ 60) ∧ e.plain = true ∧ Q (.bl (PyData.eqv d e)) H
def rNeP (K : PySem.W.Frag) : R2 := fun x y H Q => ∃ d e, Dp K H x d ∧ Dp K H y e ∧ (d.plain = true ∧ d.depth ≤ 60) ∧ e.plain = true ∧ Q (.bl (!PyData.eqv d e)) H
theorem op_eqP (hu : X.A.units + 64 < cLine) : OpR X (compareOp .Eq) (rEqP X.K) := by
  intro pins s σ H x y v u Q I rx ry h
  obtain ⟨d, e, hd, he, ⟨p1, dp⟩, p2, q⟩ := h
  obtain ⟨as, r1⟩ := Dp.reads I d x v hd rx
  obtain ⟨bs, r2⟩ := Dp.reads I e y u he ry
  exact PySem.SeqAt.eq_plain r1 r2 p1 p2 (by have := Nat.min_le_left d.depth e.depth; omega) ⟨.bl _, H, I, rfl, q⟩
theorem op_neP (hu : X.A.units + 64 < cLine) : OpR X (compareOp .NotEq) (rNeP X.K) := by
  intro pins s σ H x y v u Q I rx ry h
  obtain ⟨d, e, hd, he, ⟨p1, dp⟩, p2, q⟩ := h
  obtain ⟨as, r1⟩ := Dp.reads I d x v hd rx
  obtain ⟨bs, r2⟩ := Dp.reads I e y u he ry
  exact PySem.SeqAt.ne_plain r1 r2 p1 p2 (by have := Nat.min_le_left d.depth e.depth; omega) ⟨.bl _, H, I, rfl, q⟩
theorem d_int (i j : Int) : decide (V.int i = V.int j) = decide (i = j) := decide_eq_decide.mpr ⟨fun h => V.int.inj h, fun h => h ▸ rfl⟩
theorem d_str (i j : Str) : decide (V.str i = V.str j) = decide (i = j) := decide_eq_decide.mpr ⟨fun h => V.str.inj h, fun h => h ▸ rfl⟩
theorem d_bl (i j : Bool) : decide (V.bl i = V.bl j) = decide (i = j) := decide_eq_decide.mpr ⟨fun h => V.bl.inj h, fun h => h ▸ rfl⟩
/-- the same value, of two scalars -/
def sameS : V → V → Bool
  | .non, .non => true
  | .int i, .int j => decide (i = j)
  | .str i, .str j => decide (i = j)
  | .bl i, .bl j => decide (i = j)
  | .byt i, .byt j => decide (i = j)
  | _, _ => false
theorem sameS_eq {x y : V} (h : scal x y = true) : decide (x = y) = sameS x y := by
  cases x <;> cases y <;> first
    | (cases h; done)
    | exact d_int _ _
    | exact d_str _ _
    | exact d_bl _ _
    | rfl
    | (exact decide_eq_decide.mpr ⟨fun h => V.byt.inj h, fun h => h ▸ rfl⟩)
    | (exact decide_eq_false (fun q => nomatch q))
def uEq (K : PySem.W.Frag) : R2 := fun x y H Q => match x, y with
  | .int i, .int j => Q (.bl (decide (i = j))) H
  | .str i, .str j => Q (.bl (decide (i = j))) H
  | .bl i, .bl j => Q (.bl (decide (i = j))) H
  | x, y => (scal x y = true ∧ Q (.bl (sameS x y)) H) ∨ rEqP K x y H Q
theorem o_eq (hu : X.A.units + 64 < cLine) : OpR X (compareOp .Eq) (uEq X.K) := by
  refine wR (orR op_eq (op_eqP hu)) fun x y H Q q => ?_
  unfold uEq at q
  split at q
  · exact .inl ⟨rfl, (d_int _ _).symm ▸ q⟩
  · exact .inl ⟨rfl, (d_str _ _).symm ▸ q⟩
  · exact .inl ⟨rfl, (d_bl _ _).symm ▸ q⟩
  · rcases q with ⟨h, q⟩ | q
    · exact .inl ⟨h, (sameS_eq h).symm ▸ q⟩
    · exact .inr q
def uNe (K : PySem.W.Frag) : R2 := fun x y H Q => match x, y with
  | .int i, .int j => Q (.bl (!decide (i = j))) H
  | .str i, .str j => Q (.bl (!decide (i = j))) H
  | .bl i, .bl j => Q (.bl (!decide (i = j))) H
  | x, y => (scal x y = true ∧ Q (.bl (!sameS x y)) H) ∨ rNeP K x y H Q
theorem o_ne (hu : X.A.units + 64 < cLine) : OpR X (compareOp .NotEq) (uNe X.K) := by
  refine wR (orR op_ne (op_neP hu)) fun x y H Q q => ?_
  unfold uNe at q
  split at q
  · exact .inl ⟨rfl, (d_int _ _).symm ▸ q⟩
  · exact .inl ⟨rfl, (d_str _ _).symm ▸ q⟩
  · exact .inl ⟨rfl, (d_bl _ _).symm ▸ q⟩
  · rcases q with ⟨h, q⟩ | q
    · exact .inl ⟨h, (sameS_eq h).symm ▸ q⟩
    · exact .inr q
/-- tuples of ints in their order -/
theorem lexAt_eq (ns ms : List Int) (op : Int → Int → Bool) (z : Bool) (f : List Int → List Int → Bool)
    (h0 : ∀ i, i = ns.length ∨ i = ms.length → i ≤ ns.length → i ≤ ms.length → f (ns.drop i) (ms.drop i) = z)
    (h1 : ∀ x xs y ys, f (x :: xs) (y :: ys) = if x = y then f xs ys else op x y) :
    ∀ k i, i + k = min ns.length ms.length → Ob.lexAt (fun j => decide (ns.getD j 0 = ms.getD j 0)) (fun j => op (ns.getD j 0) (ms.getD j 0)) z i k = f (ns.drop i) (ms.drop i)
  | 0, i, h => by
    rw [Ob.lexAt_zero, h0 i (by omega) (by omega) (by omega)]
  | k + 1, i, h => by
    have a : i < ns.length := by omega
    have b : i < ms.length := by omega
    rw [Ob.lexAt_succ, List.drop_eq_getElem_cons a, List.drop_eq_getElem_cons b, h1, lexAt_eq ns ms op z f h0 h1 k (i + 1) (by omega)]
    simp only [List.getD_eq_getElem?_getD, List.getElem?_eq_getElem a, List.getElem?_eq_getElem b, Option.getD_some, decide_eq_true_eq]
def lexLe (a b : List Int) : Bool := !HT.lexLt b a
theorem lexLe_cons (x y : Int) (xs ys : List Int) : lexLe (x :: xs) (y :: ys) = if x = y then lexLe xs ys else decide (x ≤ y) := by
  unfold lexLe
  rw [HT.lexLt_cons]
  by_cases h : x = y
  · rw [if_pos h, if_pos h.symm]
  · rw [if_neg h, if_neg (fun e => h e.symm), ← decide_not]
    exact decide_eq_decide.mpr (by omega)
theorem lexLe_end (ns ms : List Int) (i : Nat) (h : i = ns.length ∨ i = ms.length) (h1 : i ≤ ns.length) (h2 : i ≤ ms.length) : lexLe (ns.drop i) (ms.drop i) = decide (ns.length ≤ ms.length) := by
  unfold lexLe
  by_cases a : i = ns.length
  · have e : ns.drop i = [] := List.drop_eq_nil_of_le (by omega)
    rw [e, decide_eq_true (by omega)]
    cases ms.drop i <;> rfl
  · have e : ms.drop i = [] := List.drop_eq_nil_of_le (by omega)
    rw [e, decide_eq_false (by omega)]
    cases e2 : ns.drop i with
    | nil => exact absurd (List.drop_eq_nil_iff.mp e2) (by omega)
    | cons x r => rfl
theorem lexAt_le (ns ms : List Int) : Ob.lexAt (fun j => decide (ns.getD j 0 = ms.getD j 0)) (fun j => decide (ns.getD j 0 ≤ ms.getD j 0)) (decide (ns.length ≤ ms.length)) 0 (min ns.length ms.length) = lexLe ns ms :=
  lexAt_eq ns ms (fun x y => decide (x ≤ y)) _ lexLe (fun i h a b => lexLe_end ns ms i h a b) (fun x xs y ys => lexLe_cons x y xs ys) _ 0 (by omega)
def lexGe (a b : List Int) : Bool := !HT.lexLt a b
theorem lexGe_le (a b : List Int) : lexGe a b = lexLe b a := rfl
theorem lexAt_ge (ns ms : List Int) : Ob.lexAt (fun j => decide (ns.getD j 0 = ms.getD j 0)) (fun j => decide (ns.getD j 0 ≥ ms.getD j 0)) (decide (ns.length ≥ ms.length)) 0 (min ns.length ms.length) = lexGe ns ms := by
  refine lexAt_eq ns ms (fun x y => decide (x ≥ y)) _ lexGe (fun i h a b => ?_) (fun x xs y ys => ?_) _ 0 (by omega)
  · rw [lexGe_le, lexLe_end ms ns i (by omega) b a]
  · rw [lexGe_le, lexLe_cons, lexGe_le]
    by_cases h : x = y
    · rw [if_pos h, if_pos h.symm]
    · rw [if_neg h, if_neg (fun e => h e.symm)]
def rGeT (K : PySem.W.Frag) : R2 := fun x y H Q => ∃ (a b : Addr) (ns ms : List Int), x = .ref a ∧ y = .ref b ∧ SqT K H a (ns.map V.int) ∧ SqT K H b (ms.map V.int) ∧ Q (.bl (lexGe ns ms)) H
theorem ints_at {us : List Value} {ns : List Int} (h : IntsAre us ns) (j : Nat) (h1 : j < us.toArray.size) : ∃ t, us.toArray[j] = .int (ns.getD j 0) t := PyProof.Rows.IntsAre.int_at h _ _ (by simp at h1; simp [h1])
theorem op_geT (hu : X.A.units < cLine) : OpR X (compareOp .GtE) (rGeT X.K) := by
  intro pins s σ H x y v u Q I rx ry h
  obtain ⟨a, b, ns, ms, rfl, rfl, ha, hb, q⟩ := h
  cases rx; cases ry
  obtain ⟨us, r1, p1, _⟩ := I.tuple ha
  obtain ⟨ws, r2, p2, _⟩ := I.tuple hb
  have j1 : IntsAre us ns := Vals.ints r1
  have j2 : IntsAre ws ms := Vals.ints r2
  have n1 : us.toArray.size = ns.length := List.size_toArray.trans j1.length
  have n2 : ws.toArray.size = ms.length := List.size_toArray.trans j2.length
  have R := Ob.RcOp.tuples_ge (A := X.A) (s := s) (e := fun j => decide (ns.getD j 0 = ms.getD j 0)) (r := fun j => decide (ns.getD j 0 ≥ ms.getD j 0)) p1 p2 hu
    (fun j h1 h2 => by
      obtain ⟨t, e1⟩ := ints_at j1 j h1
      obtain ⟨t', e2⟩ := ints_at j2 j h2
      rw [e1, e2, ← Bool.beq_eq_decide_eq]
      exact SeqAt.EqAt.int_int _ _ _ _)
    (fun j h1 h2 _ => by
      obtain ⟨t, e1⟩ := ints_at j1 j h1
      obtain ⟨t', e2⟩ := ints_at j2 j h2
      rw [e1, e2]
      exact Ob.RcOp.ge_int _ _ _ _)
  rw [n1, n2, lexAt_ge] at R
  exact R X.prog X.w X.xe (EP X pins σ Q) ⟨.bl _, H, I, rfl, q⟩
def uLt (K : PySem.W.Frag) : R2 := fun x y H Q => match x, y with
  | .int i, .int j => Q (.bl (decide (i < j))) H
  | .ref a, .ref b => ∃ ns ms : List Int, SqT K H a (ns.map V.int) ∧ SqT K H b (ms.map V.int) ∧ Q (.bl (HT.lexLt ns ms)) H
  | _, _ => False
theorem o_lt (hu : X.A.units < cLine) : OpR X (compareOp .Lt) (uLt X.K) := by
  refine wR (orR op_lt (op_ltT hu)) fun x y H Q q => ?_
  unfold uLt at q
  split at q
  · exact .inl ⟨_, _, rfl, rfl, q⟩
  · obtain ⟨ns, ms, a, b, q⟩ := q
    exact .inr ⟨_, _, ns, ms, rfl, rfl, a, b, q⟩
  · exact q.elim
def uLe (K : PySem.W.Frag) : R2 := fun x y H Q => match x, y with
  | .int i, .int j => Q (.bl (decide (i ≤ j))) H
  | .ref a, .ref b => ∃ ns ms : List Int, SqT K H a (ns.map V.int) ∧ SqT K H b (ms.map V.int) ∧ Q (.bl (lexLe ns ms)) H
  | _, _ => False
theorem o_le (hu : X.A.units < cLine) : OpR X (compareOp .LtE) (uLe X.K) := by
  refine wR (orR op_le (op_leT hu)) fun x y H Q q => ?_
  unfold uLe at q
  split at q
  · exact .inl ⟨_, _, rfl, rfl, q⟩
  · obtain ⟨ns, ms, a, b, q⟩ := q
    exact .inr ⟨_, _, ns, ms, rfl, rfl, a, b, by rw [lexAt_le]; exact q⟩
  · exact q.elim
def uGe (K : PySem.W.Frag) : R2 := fun x y H Q => match x, y with
  | .int i, .int j => Q (.bl (decide (j ≤ i))) H
  | .ref a, .ref b => ∃ ns ms : List Int, SqT K H a (ns.map V.int) ∧ SqT K H b (ms.map V.int) ∧ Q (.bl (lexGe ns ms)) H
  | _, _ => False
theorem o_ge (hu : X.A.units < cLine) : OpR X (compareOp .GtE) (uGe X.K) := by
  refine wR (orR op_ge (op_geT hu)) fun x y H Q q => ?_
  unfold uGe at q
  split at q
  · exact .inl ⟨_, _, rfl, rfl, q⟩
  · obtain ⟨ns, ms, a, b, q⟩ := q
    exact .inr ⟨_, _, ns, ms, rfl, rfl, a, b, q⟩
  · exact q.elim
def uGt : R2 := fun x y H Q => match x, y with
  | .int i, .int j => Q (.bl (decide (j < i))) H
  | _, _ => False
theorem o_gt : OpR X (compareOp .Gt) uGt := by
  refine wR op_gt fun x y H Q q => ?_
  unfold uGt at q
  split at q
  · exact ⟨_, _, rfl, rfl, q⟩
  · exact q.elim
def isNon : V → Bool
  | .non => true
  | _ => false
theorem isNon_eq (x : V) : decide (x = .non) = isNon x := by
  cases x <;> first | rfl | exact decide_eq_false (fun q => nomatch q)
def uIs : R2 := fun x y H Q => match y with
  | .non => Q (.bl (isNon x)) H
  | .bl b => ∃ a, x = .bl a ∧ Q (.bl (decide (a = b))) H
  | _ => False
theorem o_is : OpR X (compareOp .Is) uIs := by
  refine wR (orR op_isN op_is_bl) fun x y H Q q => ?_
  unfold uIs at q
  split at q
  · exact .inl ⟨rfl, (isNon_eq x).symm ▸ q⟩
  · obtain ⟨a, e, q⟩ := q
    exact .inr ⟨a, _, e, rfl, q⟩
  · exact q.elim
def uIsnt : R2 := fun x y H Q => match y with
  | .non => Q (.bl (!isNon x)) H
  | .bl b => ∃ a, x = .bl a ∧ Q (.bl (!decide (a = b))) H
  | _ => False
theorem op_inD (hu : X.A.units + 1 < cLine) : OpR X (compareOp .In) (fun x y H Q => ∃ a o, y = .ref a ∧ DGet H a x o ∧ Q (.bl o.isSome) H) := by
  intro pins s σ H x y v u Q I rx ry h
  obtain ⟨a, o, rfl, g, q⟩ := h
  cases ry
  exact d_in hu I g rx fun s' I' => ⟨.bl o.isSome, H, I', rfl, q⟩
/-- in a list, a tuple of scalars; a dict -/
def uIn (K : PySem.W.Frag) : R2 := fun x y H Q => match y with
  | .ref a => (∃ xs, (SqL K H a xs ∨ SqT K H a xs) ∧ flatV x = true ∧ xs.all flatV = true ∧ Q (.bl (inV x xs)) H) ∨ ∃ o, DGet H a x o ∧ Q (.bl o.isSome) H
  | _ => False
theorem o_in (hu : X.A.units + 1 < cLine) : OpR X (compareOp .In) (uIn X.K) := by
  refine wR (orR op_in_seq (op_inD hu)) fun x y H Q q => ?_
  unfold uIn at q
  split at q
  · rcases q with ⟨xs, a, b, c, q⟩ | ⟨o, g, q⟩
    · exact .inl ⟨_, xs, rfl, a, b, c, q⟩
    · exact .inr ⟨_, o, rfl, g, q⟩
  · exact q.elim
def uNin (K : PySem.W.Frag) : R2 := fun x y H Q => match y with
  | .ref a => (∃ xs, (SqL K H a xs ∨ SqT K H a xs) ∧ flatV x = true ∧ xs.all flatV = true ∧ Q (.bl (!inV x xs)) H) ∨ ∃ o, DGet H a x o ∧ Q (.bl (!o.isSome)) H
  | _ => False
end ops
section subs
variable {X : Cx}
/-- a[b] of lists, tuples, texts -/
def uIx (K : PySem.W.Frag) : R2 := fun x y H Q => match x, y with
  | .ref p, .int i => ∃ xs v, (SqL K H p xs ∨ SqT K H p xs) ∧ atI xs i = some v ∧ Q v H
  | .str z, .int i => z.length ≤ sizeLine ∧ ∃ c, atI z.cps.toList i = some c ∧ Q (.str ⟨#[c]⟩) H
  | _, _ => False
theorem ix_u : IxR X (uIx X.K) := by
  intro value slice pins s σ H x y v u Q I rx ry h hs
  refine ix_seq value slice pins s σ H x y v u Q I rx ry ?_ hs
  unfold uIx at h
  split at h
  · obtain ⟨xs, v, e | e, g, q⟩ := h
    · exact .inl ⟨_, xs, _, v, rfl, rfl, e, g, q⟩
    · exact .inr (.inl ⟨_, xs, _, v, rfl, rfl, e, g, q⟩)
  · obtain ⟨z, c, e, q⟩ := h
    exact .inr (.inr ⟨_, _, c, rfl, rfl, z, e, q⟩)
  · exact h.elim
theorem e_ix {a b : Expr} {ta tb : TE} {pos : Pos} (ha : PE X a ta) (hb : PE X b tb) (hs : PlainIx b := by exact fun _ _ => rfl) : PE X (.Subscript a b pos) (tOp (uIx X.K) ta tb) := pe_ix ix_u ha hb hs
/-- a[lo:hi] -/
def uSl (K : PySem.W.Frag) : V → Option Int → Option Int → Hp → VK → Prop := fun x lo hi H Q => rSlL K x lo hi H Q ∨ rSlT K x lo hi H Q ∨ rSlS x lo hi H Q
theorem sl_u : SlR X (uSl X.K) := SlR.or sl_list (SlR.or sl_tup sl_str)
theorem e_sl {e : Expr} {lo hi : Option Expr} {te : TE} {tl th : TO} {p2 pos : Pos} (he : PE X e te) (hl : PO X lo tl) (hh : PO X hi th) : PE X (.Subscript e (.Slice lo hi none p2) pos) (tSl (uSl X.K) te tl th) := pe_slice sl_u he hl hh
/-- a[i] by values, for a[i] += e -/
def uGet (K : PySem.W.Frag) : V → V → Hp → VK → Prop := fun x y H Q => match x, y with
  | .ref p, .int i => (0 ≤ i ∧ ∃ xs v, SqL K H p xs ∧ xs[i.toNat]? = some v ∧ Q v H) ∨ ∃ v, DGet H p (.int i) (some v) ∧ Q v H
  | .ref p, y => ∃ v, DGet H p y (some v) ∧ Q v H
  | _, _ => False
end subs
section calls
variable {X : Cx}
/-- len -/
def uLen (K : PySem.W.Frag) : List V → Hp → VK → Prop := fun xs H Q => match xs with
  | [.ref p] => (∃ ys, (SqL K H p ys ∨ SqT K H p ys) ∧ Q (.int ys.length) H) ∨ ∃ kvs, H p = some (.dK kvs) ∧ Q (.int kvs.length) H
  | [.str z] => z.length ≤ sizeLine ∧ Q (.int z.length) H
  | _ => False
theorem c_len : CallR X (.builtin "len") (uLen X.K) := by
  refine wC (orC call_len_seq (orC call_len_str call_lenD)) fun xs H Q q => ?_
  unfold uLen at q
  split at q
  · rcases q with ⟨ys, a, q⟩ | ⟨kvs, a, q⟩
    · exact .inl ⟨_, ys, rfl, a, q⟩
    · exact .inr (.inr ⟨_, kvs, rfl, a, q⟩)
  · exact .inr (.inl ⟨_, rfl, q⟩)
  · exact q.elim
/-- list(x), tuple(x) -/
def uList (K : PySem.W.Frag) : List V → Hp → VK → Prop := fun xs H Q => match xs with
  | [.ref p] => ∃ ys, (SqL K H p ys ∨ SqT K H p ys) ∧ ∀ l, H l = none → Q (.ref l) (upd H l (.lst ys))
  | _ => False
theorem c_list : CallR X (.type "list") (uList X.K) := by
  refine wC call_list_of fun xs H Q q => ?_
  unfold uList at q
  split at q
  · obtain ⟨ys, a, q⟩ := q
    exact ⟨_, ys, rfl, a, q⟩
  · exact q.elim
def uTuple (K : PySem.W.Frag) : List V → Hp → VK → Prop := fun xs H Q => match xs with
  | [.ref p] => ∃ ys, (SqL K H p ys ∧ ∀ l, H l = none → Q (.ref l) (upd H l (.tup ys))) ∨ (SqT K H p ys ∧ Q (.ref p) H)
  | _ => False
theorem c_tuple : CallR X (.type "tuple") (uTuple X.K) := by
  refine wC call_tuple_of fun xs H Q q => ?_
  unfold uTuple at q
  split at q
  · obtain ⟨ys, q⟩ := q
    exact ⟨_, ys, rfl, q⟩
  · exact q.elim
def uAbs : List V → Hp → VK → Prop := fun xs H Q => match xs with
  | [.int i] => Q (.int (if i < 0 then -i else i)) H
  | _ => False
def uMax (K : PySem.W.Frag) : List V → Hp → VK → Prop := fun xs H Q => match xs with
  | [.int i, .int j] => Q (.int (if j > i then j else i)) H
  | [.ref a] => ∃ ns : List Int, SqL K H a (ns.map V.int) ∧ 0 < ns.length ∧ ∀ m, m ∈ ns → (∀ y, y ∈ ns → y ≤ m) → Q (.int m) H
  | _ => False
def uMin (K : PySem.W.Frag) : List V → Hp → VK → Prop := fun xs H Q => match xs with
  | [.int i, .int j] => Q (.int (if j < i then j else i)) H
  | [.ref a] => ∃ ns : List Int, SqL K H a (ns.map V.int) ∧ 0 < ns.length ∧ ∀ m, m ∈ ns → (∀ y, y ∈ ns → m ≤ y) → Q (.int m) H
  | _ => False
theorem c_min (hc : X.calm = true) : CallR X (.builtin "min") (uMin X.K) := by
  refine wC (orC (call_min2 hc) (cr_min hc)) fun xs H Q q => ?_
  unfold uMin at q
  split at q
  · exact .inl ⟨_, _, rfl, q⟩
  · obtain ⟨ns, a, b, c⟩ := q
    exact .inr ⟨_, ns, rfl, a, b, c⟩
  · exact q.elim
def uInt : List V → Hp → VK → Prop := fun xs H Q => match xs with
  | [.int i] => Q (.int i) H
  | [.bl k] => Q (.int (if k then 1 else 0)) H
  | _ => False
theorem c_int : CallR X (.type "int") uInt := by
  refine wC call_int1 fun xs H Q q => ?_
  unfold uInt at q
  split at q
  · exact .inl ⟨_, rfl, q⟩
  · exact .inr ⟨_, rfl, q⟩
  · exact q.elim
inductive Ty | int | bool | str | list | tuple | dict
def Ty.nm : Ty → String
  | .int => "int" | .bool => "bool" | .str => "str" | .list => "list" | .tuple => "tuple" | .dict => "dict"
/-- of a scalar -/
def isS : Ty → V → Bool
  | .int, .int _ => true
  | .int, .bl _ => true
  | .bool, .bl _ => true
  | .str, .str _ => true
  | _, _ => false
/-- of an object that is a list, a tuple, a dict -/
inductive Ob | list | tuple | dict
def Ob.nm : Ob → String
  | .list => "list" | .tuple => "tuple" | .dict => "dict"
def isO : Ty → Ob → Bool
  | .list, .list => true
  | .tuple, .tuple => true
  | .dict, .dict => true
  | _, _ => false
def uIsi (K : PySem.W.Frag) (n : Ty) : List V → Hp → VK → Prop := fun xs H Q => match xs with
  | [.int i, .ty m] => m = n.nm ∧ Q (.bl (isS n (.int i))) H
  | [.bl i, .ty m] => m = n.nm ∧ Q (.bl (isS n (.bl i))) H
  | [.str i, .ty m] => m = n.nm ∧ Q (.bl (isS n (.str i))) H
  | [.non, .ty m] => m = n.nm ∧ Q (.bl (isS n .non)) H
  | [.ref a, .ty m] => m = n.nm ∧ ∃ o : Ob, TyX K H (.ref a) (.type o.nm) ∧ Q (.bl (isO n o)) H
  | _ => False
theorem kit_int : ∀ n : Ty, kitB "int" n.nm = some (isS n (.int 0)) := fun n => by cases n <;> decide +kernel
theorem kit_bool : ∀ n : Ty, kitB "bool" n.nm = some (isS n (.bl true)) := fun n => by cases n <;> decide +kernel
theorem kit_str : ∀ n : Ty, kitB "str" n.nm = some (isS n (.str Str.empty)) := fun n => by cases n <;> decide +kernel
theorem kit_non : ∀ n : Ty, kitB "NoneType" n.nm = some (isS n .non) := fun n => by cases n <;> decide +kernel
theorem kit_obj : ∀ (n : Ty) (o : Ob), kitB o.nm n.nm = some (isO n o) := fun n o => by cases n <;> cases o <;> decide +kernel
theorem c_isi (n : Ty) : CallR X (.builtin "isinstance") (uIsi X.K n) := by
  refine wC call_isi fun xs H Q q => ?_
  unfold uIsi at q
  split at q
  · obtain ⟨rfl, q⟩ := q
    exact ⟨_, _, .type "int", .type n.nm, _, rfl, .ty n.nm, .base (.int _), kit_ty (kit_int n), by cases n <;> exact q⟩
  · obtain ⟨rfl, q⟩ := q
    exact ⟨_, _, .type "bool", .type n.nm, _, rfl, .ty n.nm, .base (.bl _), kit_ty (kit_bool n), by cases n <;> exact q⟩
  · obtain ⟨rfl, q⟩ := q
    exact ⟨_, _, .type "str", .type n.nm, _, rfl, .ty n.nm, .base (.str _), kit_ty (kit_str n), by cases n <;> exact q⟩
  · obtain ⟨rfl, q⟩ := q
    exact ⟨_, _, .type "NoneType", .type n.nm, _, rfl, .ty n.nm, .base .non, kit_ty (kit_non n), by cases n <;> exact q⟩
  · obtain ⟨rfl, o, t, q⟩ := q
    exact ⟨_, _, .type o.nm, .type n.nm, _, rfl, .ty n.nm, t, kit_ty (kit_obj n o), q⟩
  · exact q.elim
end calls
section own
variable {X : Cx} {k : Nat} {f C : Addr} {fd : FuncData} {ps : List Str} {sp : Sp} {W : WX} {x m : Str} {p pos apos : Pos} {e o : Expr} {es : List Expr} {ta : TE} {t : TA}
def uCall (sp : Sp) (W : WX) (t : TA) : TE := fun σ H Q => t σ H fun vs H1 => sp vs H1 Q fun c d H2 => W c d σ H2
theorem e_call (F : FnOk X.prog X.w X.K X.mg X.base (L2.CX X.prog X.w) k f fd ps sp) (hr : Room k X.A) (hm : X.mg x = some (.ref f)) (hk : PySem.W.keepIn X.K (.ref f) = true) (hb : Binds X.K fd ps []) (tk : Takes X W)
    (ha : PA X (e :: es) t) (hg : Gl X x := by rfl) (hdb : (x == ("__debug__" : Str)) = false := by decide) (he : starEach (e :: es) X.env = (false, eval e X.env) :: starEach es X.env := by rfl) (hpl : (backTo pos (starEach es X.env)).any (·.1) = false := by rfl) :
    PE X (.Call (.Name x p) (e :: es) [] pos) (uCall sp W t) := pe_callS (E := WE W) F hr hg hm hk hb (fun σ => passAt tk σ) ha hdb he hpl
/-- o.m(..) -/
def uMeth (C : Addr) (m : Str) (sp : Sp) (W : WX) (ta : TE) (t : TA) : TE := fun σ H Q => ta σ H fun x H1 => ∃ a dx fs, x = .ref a ∧ H1 a = some (.ins C dx fs) ∧ fs.lookup m = none ∧
  t σ H1 fun vs H2 => sp (x :: vs) H2 Q fun c d H3 => W c d σ H3
/-- what a body wants of exceptions, as a wish -/
abbrev WB (E : XK) : WX := fun c d _ H => E c d H
/-- C(..), what is raised goes to W at the slots -/
def uMake (C : Addr) (sp : Sp) (W : WX) (t : TA) : TE := fun σ H Q => t σ H fun vs H1 => ∀ x dx, H1 x = none → H1 dx = none → dx ≠ x → sp (.ref x :: vs) (upd (upd H1 dx (.own x)) x (.ins C dx [])) (fun v H2 => v = .non ∧ Q (.ref x) H2) fun c d H2 => W c d σ H2
/-- what the top has of an own exception class -/
structure Exc (K : PySem.W.Frag) (mg : Str → Option Value) (n : Str) (C : Addr) : Prop where
  ex : PySem.W.excIn K C [.type "ValueError", .type "Exception", .type "BaseException", .type "object"] "ValueError.__new__" = true
  g : mg n = some (.ref C)
  kp : PySem.W.keepIn K (.ref C) = true
  sub : PySem.W.subIn K (.ref C) (.type "BaseException") = some true
  ty : PySem.W.typeIn K (.ref C) = some (.type "type")
def uRaise (C : Addr) (W : WX) : TS := fun _ σ H => W (.ref C) none σ H
theorem pmk0 {n : Str} (T : Exc X.K X.mg n C) (hg : Gl X n := by rfl) (hdb : (n == ("__debug__" : Str)) = false := by decide) : PMk X (.Call (.Name n p) [] [] pos) (fun _ H Q => Q (.ref C) none H) := by
  intro pins s σ H Q I h
  refine wpAny_Call_Name_kw (ld_glob I hg T.g (PySem.W.callWith_K0 I.kIn T.kp ?_) hdb)
  obtain ⟨bm, N, nm, qn, bs, hdct, sn, sub, ab, col, dd, k0, k1, k2, k3, k5, mN, hC, hN, hni, Z⟩ := exc_obj I.kIn T.ex
  exact wpAny_call_exc_subT PySem.F.excBase_ValueError Z hC hN hni (fun h' e hm => mk_of I hm (raises_own T.sub T.ty) h (I.hok.gone hm.new)) (Nat.zero_le _)
theorem s_raise {n : Str} (T : Exc X.K X.mg n C) (tk : Takes X W) {pos2 : Pos} (hc : X.calm = true := by rfl) (hg : Gl X n := by rfl) (hdb : (n == ("__debug__" : Str)) = false := by decide) :
    PS X (.Raise (some (.Call (.Name n p) [] [] pos)) none pos2) (uRaise C W) := ps_raise hc tk (pmk0 T hg hdb)
end own
section tries
variable {X : Cx} {x n : Str} {c : Value} {i : Nat} {body suite : List Stmt} {b₀ : Stmt} {np pos pos' : Pos} {tb : WX → TS} {ts : Addr → Value → Option Addr → TS} {W : WX}
def uTryAs (K : PySem.W.Frag) (c : Value) (i : Nat) (tb : WX → TS) (ts : Addr → Value → Option Addr → TS) (W : WX) : TS := fun D σ H => tb (wAs K c i ts W D) D σ H
def uTry (K : PySem.W.Frag) (c : Value) (tb : WX → TS) (ts : Addr → Value → Option Addr → TS) (W : WX) : TS := fun D σ H => tb (wOnly K c ts W D) D σ H
theorem s_try (hs : X.stack = X.env :: X.outer) (hf : X.env.frame = some X.env.locals) (hc : Names X x c) (tk : Takes X W)
    (hb : ∀ (W' : WX) (pn : List (Addr × Obj)) (xe : Value → Shared → Prop), Takes (X.tr pn xe) W' → PassesOwn (model X.prog X.w) X.A X.env xe → PSs (X.tr pn xe) body (tb W'))
    (hsu : ∀ (a : Addr) (oe : Obj) (cls : Value) (d : Option Addr) (pn : List (Addr × Obj)), Zc cls d oe → (∃ vs, oe.data = .fields vs) → PSs (X.suite a ((a, oe) :: pn)) (b₀ :: suite) (ts a cls d)) :
    PS X (.Try body [.ExceptHandler (some (.Name x np)) none (b₀ :: suite) pos'] [] [] pos) (uTry X.K c tb ts W) := ps_try_only hs hf hc tk hb hsu
theorem w_tryAs {K : PySem.W.Frag} {D : Ends} {σ : L2.St} {H : Hp} (h : tb (wAs K c i ts W D) D σ H) : uTryAs K c i tb ts W D σ H := h
theorem w_try {K : PySem.W.Frag} {D : Ends} {σ : L2.St} {H : Hp} (h : tb (wOnly K c ts W D) D σ H) : uTry K c tb ts W D σ H := h
theorem w_asT {K : PySem.W.Frag} {D : Ends} {σ : L2.St} {H : Hp} {cls : Value} {d : Option Addr} (e : PySem.W.exmOne K cls c = some true)
    (h : ∀ a, H a = none → ts a cls d { nx := fun σ' H' => D.nx (σ'.set i none) H', rt := D.rt, bk := fun σ' H' => D.bk (σ'.set i none) H', ct := fun σ' H' => D.ct (σ'.set i none) H' } (σ.set i (some (.ref a))) H) :
    wAs K c i ts W D cls d σ H := ⟨true, e, fun _ => h, fun q => Bool.noConfusion q⟩
theorem w_asF {K : PySem.W.Frag} {D : Ends} {σ : L2.St} {H : Hp} {cls : Value} {d : Option Addr} (e : PySem.W.exmOne K cls c = some false) (h : W cls d σ H) : wAs K c i ts W D cls d σ H := ⟨false, e, fun q => Bool.noConfusion q, fun _ => h⟩
theorem w_onT {K : PySem.W.Frag} {D : Ends} {σ : L2.St} {H : Hp} {cls : Value} {d : Option Addr} (e : PySem.W.exmOne K cls c = some true) (h : ∀ a, H a = none → ts a cls d D σ H) : wOnly K c ts W D cls d σ H := ⟨true, e, fun _ => h, fun q => Bool.noConfusion q⟩
theorem w_onF {K : PySem.W.Frag} {D : Ends} {σ : L2.St} {H : Hp} {cls : Value} {d : Option Addr} (e : PySem.W.exmOne K cls c = some false) (h : W cls d σ H) : wOnly K c ts W D cls d σ H := ⟨false, e, fun q => Bool.noConfusion q, fun _ => h⟩
/-- isinstance(e, C) of the exception that a suite holds -/
def uIsE (K : PySem.W.Frag) (a : Addr) (cls : Value) (d : Option Addr) : List V → Hp → VK → Prop := fun xs H Q => ∃ (D C : Addr) (b : Bool), cls = .ref D ∧ d = none ∧ ExcC K D ∧ xs = [.ref a, .ref C] ∧ PySem.W.kitOne K (.ref D) (.ref C) = some b ∧ Q (.bl b) H
theorem w_isE {K : PySem.W.Frag} {H : Hp} {Q : VK} {a D C : Addr} {b : Bool} (x : ExcC K D) (e : PySem.W.kitOne K (.ref D) (.ref C) = some b) (h : Q (.bl b) H) : uIsE K a (.ref D) none [.ref a, .ref C] H Q := ⟨D, C, b, rfl, rfl, x, rfl, e, h⟩
end tries
section fields
variable {X : Cx} {C : Addr} {f : Str} {e o v : Expr} {ta tv : TE} {pos pos' : Pos}
def uFld (C : Addr) (f : Str) (ta : TE) : TE := fun σ H Q => ta σ H fun x H1 => ∃ a dx fs v, x = .ref a ∧ H1 a = some (.ins C dx fs) ∧ fs.lookup f = some v ∧ Q v H1
def uSetF (C : Addr) (f : Str) (ta tv : TE) : TS := fun D σ H => tv σ H fun y H1 => ta σ H1 fun x H2 => ∃ a dx fs, x = .ref a ∧ H2 a = some (.ins C dx fs) ∧ fs.length < 1000 ∧ D.nx σ (upd H2 a (.ins C dx (putF f y fs)))
/-- o.f += e -/
def uAugF (C : Addr) (f : Str) (r : V → V → Hp → VK → Prop) (ta tv : TE) : TS := fun D σ H => ta σ H fun x H1 => ∃ a dx fs v, x = .ref a ∧ H1 a = some (.ins C dx fs) ∧ fs.lookup f = some v ∧
  tv σ H1 fun y H2 => r v y H2 fun z H3 => ∃ dx' fs', H3 a = some (.ins C dx' fs') ∧ fs'.length < 1000 ∧ D.nx σ (upd H3 a (.ins C dx' (putF f z fs')))
end fields
section truth
variable {X : Cx} {e : Expr} {te : TE}
def truV (K : PySem.W.Frag) (x : V) (H1 : Hp) (Q : Bool → Hp → Prop) : Prop := match x with
  | .bl b => Q b H1
  | .non => Q false H1
  | .int i => Q (!decide (i = 0)) H1
  | .str z => z.length ≤ sizeLine ∧ Q (!decide (z.length = 0)) H1
  | .ref p => (∃ xs, (SqL K H1 p xs ∨ SqT K H1 p xs) ∧ Q (!xs.isEmpty) H1) ∨ ∃ kvs, H1 p = some (.dK kvs) ∧ Q (!kvs.isEmpty) H1
  | _ => False
def uTru (K : PySem.W.Frag) (te : TE) : TT := fun σ H Q => te σ H fun x H1 => truV K x H1 Q
theorem t_tru (he : PE X e te) (hw : ∀ whole, isTrue e X.env whole = (do let v ← whole; standAt e.pos; holding [v] (truthy v)) := by intro _; rfl) : PT X e (uTru X.K te) := by
  refine ⟨fun pins s σ H Q I h => isTrue_plain (thn (he.run pins s σ H _ I h) fun v s1 hh => ?_) (hw _)⟩
  obtain ⟨x, H1, I1, r1, q⟩ := hh
  refine tru_ok pins s1 σ H1 x v Q I1 r1 ?_
  unfold truV at q
  split at q
  · exact ⟨_, rfl, q⟩
  · exact ⟨_, rfl, q⟩
  · rename_i i
    refine ⟨_, rfl, ?_⟩
    rw [show (i != 0) = !decide (i = 0) by rw [bne, Bool.beq_eq_decide_eq]]
    exact q
  · rename_i z
    refine ⟨_, ⟨q.1, rfl⟩, ?_⟩
    rw [show ((z.length : Int) != 0) = !decide (z.length = 0) by rw [bne, Bool.beq_eq_decide_eq]; congr 1; exact decide_eq_decide.mpr (by omega)]
    exact q.2
  · rcases q with ⟨xs, a | a, q⟩ | ⟨kvs, a, q⟩
    · exact ⟨_, .inl ⟨xs, a, rfl⟩, q⟩
    · exact ⟨_, .inr (.inl ⟨xs, a, rfl⟩), q⟩
    · exact ⟨_, .inr (.inr ⟨kvs, a, rfl⟩), q⟩
  · exact q.elim
end truth
def forQ (g : TG) (tb : TS) (D : Ends) (σ : L2.St) (J : It) (H1 : Hp) : Prop := ∃ W : Nat → Nat → L2.St → Hp → Prop, (∃ m, W 0 m σ H1) ∧ ∀ i m σ H, W i m σ H →
  (J.stop i H ∧ D.nx σ H) ∨ (J.go i H ∧ ∃ N : L2.St → Hp → Prop, (∀ σ' H', N σ' H' → ∃ m', m' < m ∧ W (i + 1) m' σ' H') ∧ ∀ x H', J.yld i H x H' → g x σ H' fun σ2 H2 => tb { D with nx := N, ct := N, bk := D.nx } σ2 H2)
def newT (xs : List V) (H1 : Hp) (Q : VK) : Prop := xs.length ≤ sizeLine ∧ ∀ p, H1 p = none → Q (.ref p) (upd H1 p (.tup xs))
def newL (xs : List V) (H1 : Hp) (Q : VK) : Prop := xs.length ≤ sizeLine ∧ ∀ p, H1 p = none → Q (.ref p) (upd H1 p (.lst xs))
def bmQ (K : PySem.W.Frag) (T : String) (q : V → List V → Hp → VK → Prop) (tA : TA) (σ : L2.St) (x : V) (H1 : Hp) (Q : VK) : Prop := tyV K T x H1 ∧ tA σ H1 fun xs H2 => q x xs H2 Q
def rng1Q (vs : List V) (H1 : Hp) (R : It → Hp → Prop) : Prop := ∃ j : Int, vs = [.int j] ∧ -(2 ^ 62) ≤ j ∧ j < 2 ^ 62 ∧ R (Itr 0 j.toNat) H1
def rng2Q (vs : List V) (H1 : Hp) (R : It → Hp → Prop) : Prop := ∃ i j : Int, vs = [.int i, .int j] ∧ (-(2 ^ 62) ≤ i ∧ i < 2 ^ 62 ∧ -(2 ^ 62) ≤ j ∧ j < 2 ^ 62) ∧ R (Itr i (j - i).toNat) H1
def listQ (K : PySem.W.Frag) (x : V) (H1 : Hp) (R : It → Hp → Prop) : Prop := ∃ a, x = .ref a ∧ (∃ xs, SqL K H1 a xs) ∧ R (Itl K a) H1
def tupQ (K : PySem.W.Frag) (x : V) (H1 : Hp) (R : It → Hp → Prop) : Prop := ∃ a, x = .ref a ∧ (∃ xs, SqT K H1 a xs) ∧ R (Itt K a) H1
def strQ (x : V) (H1 : Hp) (R : It → Hp → Prop) : Prop := ∃ z, x = .str z ∧ R (Its z) H1
def revQ (K : PySem.W.Frag) (vs : List V) (H1 : Hp) (R : It → Hp → Prop) : Prop := ∃ (a : Addr) (xs : List V), vs = [.ref a] ∧ SqL K H1 a xs ∧ R (Itv K a xs.length) H1
def fldQ (C : Addr) (f : Str) (x : V) (H1 : Hp) (Q : VK) : Prop := ∃ a dx fs v, x = .ref a ∧ H1 a = some (.ins C dx fs) ∧ fs.lookup f = some v ∧ Q v H1
def methQ (C : Addr) (m : Str) (sp : Sp) (W : WX) (t : TA) (σ : L2.St) (x : V) (H1 : Hp) (Q : VK) : Prop := ∃ a dx fs, x = .ref a ∧ H1 a = some (.ins C dx fs) ∧ fs.lookup m = none ∧ t σ H1 fun vs H2 => sp (x :: vs) H2 Q fun c d H3 => W c d σ H3
def setfQ (C : Addr) (f : Str) (x y : V) (H2 : Hp) (N : Hp → Prop) : Prop := ∃ a dx fs, x = .ref a ∧ H2 a = some (.ins C dx fs) ∧ fs.length < 1000 ∧ N (upd H2 a (.ins C dx (putF f y fs)))
section steps
variable {K : PySem.W.Frag} {D : Ends} {σ : L2.St} {H : Hp} {Q : VK} {QB : Bool → Hp → Prop} {QA : List V → Hp → Prop} {t u : TS} {te ta tb tv : TE} {tA : TA} {c c1 c2 : TT} {g : TG} {i : Nat} {v x y : V} {r r' : R2} {W : WX} {sp : Sp} {b : Bool} {C a : Addr} {f : Str}
theorem w_seq (h : t { D with nx := u D } σ H) : tSeq t u D σ H := h
theorem w_next (h : D.nx σ H) : tNext D σ H := h
theorem w_asg (h : te σ H fun x H1 => g x σ H1 D.nx) : tAsg te g D σ H := h
theorem w_name {N : L2.St → Hp → Prop} (h : N (σ.set i (some v)) H) : gName i v σ H N := h
theorem w_ret (h : te σ H D.rt) : tRet te D σ H := h
theorem w_retN (h : D.rt .non H) : tRetN D σ H := h
theorem w_if (h : c σ H fun b H1 => if b = true then t D σ H1 else u D σ H1) : tIfS c t u D σ H := h
theorem w_drop (h : te σ H fun _ H1 => D.nx σ H1) : tDrop te D σ H := h
theorem w_brk (h : D.bk σ H) : tBreak D σ H := h
theorem w_cont (h : D.ct σ H) : tCont D σ H := h
theorem w_aug {ti : TIp} (e : σ[i]? = some (some x)) (h : te σ H fun y H1 => ti x y H1 fun z H2 => D.nx (σ.set i (some z)) H2) : tAug i te ti D σ H := ⟨x, e, h⟩
theorem w_ipI {k : Int → Int → Int} {m n : Int} (h : Q (.int (k m n)) H) : ipI k (.int m) (.int n) H Q := ⟨m, n, rfl, rfl, h⟩
theorem w_test (h : te σ H fun x H1 => ∃ k, x = .bl k ∧ QB k H1) : tTest te σ H QB := h
theorem w_not (h : c σ H fun k H1 => QB (!k) H1) : tNot c σ H QB := h
theorem w_and (h : c1 σ H fun k H1 => if k = true then c2 σ H1 QB else QB false H1) : tAnd c1 c2 σ H QB := h
theorem w_or (h : c1 σ H fun k H1 => if k = true then QB true H1 else c2 σ H1 QB) : tOr c1 c2 σ H QB := h
theorem w_andV (h : ta σ H fun x H1 => ∃ k, x = .bl k ∧ if k = true then tb σ H1 Q else Q (.bl false) H1) : tAndV ta tb σ H Q := h
theorem w_orV (h : ta σ H fun x H1 => ∃ k, x = .bl k ∧ if k = true then Q (.bl true) H1 else tb σ H1 Q) : tOrV ta tb σ H Q := h
theorem w_notV (h : ta σ H fun x H1 => ∃ k, x = .bl k ∧ Q (.bl (!k)) H1) : tNotV ta σ H Q := h
theorem w_blP {P : Bool → Prop} (h : P b) : ∃ k, V.bl b = .bl k ∧ P k := ⟨b, rfl, h⟩
theorem w_ifE (h : c σ H fun k H1 => if k = true then ta σ H1 Q else tb σ H1 Q) : tIf c ta tb σ H Q := h
theorem w_var (e : σ[i]? = some (some v)) (h : Q v H) : tVar i σ H Q := ⟨v, e, h⟩
theorem w_c (h : Q v H) : tC v σ H Q := h
theorem w_op (h : ta σ H fun x H1 => tb σ H1 fun y H2 => r x y H2 Q) : tOp r ta tb σ H Q := h
theorem w_un {ru : V → Hp → VK → Prop} (h : ta σ H fun x H1 => ru x H1 Q) : tUn ru ta σ H Q := h
theorem w_neg {m : Int} (h : Q (.int (-m)) H) : uNeg (.int m) H Q := h
theorem w_chain {tc : TE} (h : ta σ H fun x H1 => tb σ H1 fun y H2 => r x y H2 fun z H3 => ∃ k, z = .bl k ∧ if k = true then tc σ H3 fun w H4 => r' y w H4 Q else Q (.bl false) H3) : tChain r r' ta tb tc σ H Q := h
theorem w_cons (h : te σ H fun x H1 => tA σ H1 fun xs H2 => QA (x :: xs) H2) : tCons te tA σ H QA := h
theorem w_nil (h : QA [] H) : tNil σ H QA := h
theorem w_tup (h : tA σ H fun xs H1 => newT xs H1 Q) : tTup tA σ H Q := h
theorem w_lst (h : tA σ H fun xs H1 => newL xs H1 Q) : tLst tA σ H Q := h
theorem small9 {n : Nat} (h : n ≤ 100000) : n ≤ sizeLine := Nat.le_trans h (by decide)
theorem w_newT {xs : List V} (s : xs.length ≤ 100000) (h : ∀ p, H p = none → Q (.ref p) (upd H p (.tup xs))) : newT xs H Q := ⟨small9 s, h⟩
theorem w_newL {xs : List V} (s : xs.length ≤ 100000) (h : ∀ p, H p = none → Q (.ref p) (upd H p (.lst xs))) : newL xs H Q := ⟨small9 s, h⟩
theorem w_add {m n : Int} (h : Q (.int (m + n)) H) : uAdd K (.int m) (.int n) H Q := h
theorem w_sub {m n : Int} (h : Q (.int (m - n)) H) : uSub (.int m) (.int n) H Q := h
theorem w_mul {m n : Int} (s : CMul m n) (h : Q (.int (m * n)) H) : uMul (.int m) (.int n) H Q := ⟨.inl s, h⟩
theorem w_div {m n : Int} (s : 0 < n ∧ n < 2 ^ 200) (h : Q (.int (m / n)) H) : uDiv (.int m) (.int n) H Q := ⟨s, h⟩
theorem w_mod {m n : Int} (s : 0 < n) (h : Q (.int (m % n)) H) : uMod (.int m) (.int n) H Q := ⟨s, h⟩
theorem w_pow {m n : Int} (s : CPow m n) (h : Q (.int (m ^ n.toNat)) H) : uPow (.int m) (.int n) H Q := ⟨s, h⟩
theorem w_eqI {m n : Int} (h : Q (.bl (decide (m = n))) H) : uEq K (.int m) (.int n) H Q := h
theorem w_eqS {m n : Str} (h : Q (.bl (decide (m = n))) H) : uEq K (.str m) (.str n) H Q := h
theorem w_eqB {m n : Bool} (h : Q (.bl (decide (m = n))) H) : uEq K (.bl m) (.bl n) H Q := h
theorem w_eqNI {n : Int} (h : Q (.bl false) H) : uEq K .non (.int n) H Q := .inl ⟨rfl, h⟩
theorem w_neNI {n : Int} (h : Q (.bl true) H) : uNe K .non (.int n) H Q := .inl ⟨rfl, h⟩
theorem w_eqIN {n : Int} (h : Q (.bl false) H) : uEq K (.int n) .non H Q := .inl ⟨rfl, h⟩
theorem w_neIN {n : Int} (h : Q (.bl true) H) : uNe K (.int n) .non H Q := .inl ⟨rfl, h⟩
theorem w_neI {m n : Int} (h : Q (.bl (!decide (m = n))) H) : uNe K (.int m) (.int n) H Q := h
theorem w_neS {m n : Str} (h : Q (.bl (!decide (m = n))) H) : uNe K (.str m) (.str n) H Q := h
theorem w_neB {m n : Bool} (h : Q (.bl (!decide (m = n))) H) : uNe K (.bl m) (.bl n) H Q := h
theorem w_lt {m n : Int} (h : Q (.bl (decide (m < n))) H) : uLt K (.int m) (.int n) H Q := h
theorem w_le {m n : Int} (h : Q (.bl (decide (m ≤ n))) H) : uLe K (.int m) (.int n) H Q := h
theorem w_gt {m n : Int} (h : Q (.bl (decide (n < m))) H) : uGt (.int m) (.int n) H Q := h
theorem w_ge {m n : Int} (h : Q (.bl (decide (n ≤ m))) H) : uGe K (.int m) (.int n) H Q := h
theorem w_cb {q : List V → Hp → VK → Prop} (h : tA σ H fun vs H1 => q vs H1 Q) : tCB q tA σ H Q := h
theorem w_call (h : tA σ H fun vs H1 => sp vs H1 Q fun c d H2 => W c d σ H2) : uCall sp W tA σ H Q := h
theorem w_tru (h : te σ H fun x H1 => truV K x H1 QB) : uTru K te σ H QB := h
theorem w_truB {b : Bool} (h : QB b H) : truV K (.bl b) H QB := h
theorem w_truN (h : QB false H) : truV K .non H QB := h
theorem w_truI {m : Int} (h : QB (!decide (m = 0)) H) : truV K (.int m) H QB := h
theorem w_isi_int_int {m : Int} (h : Q (.bl true) H) : uIsi K .int [(.int m), .ty "int"] H Q := ⟨rfl, h⟩
theorem w_isi_int_bl {m : Bool} (h : Q (.bl true) H) : uIsi K .int [(.bl m), .ty "int"] H Q := ⟨rfl, h⟩
theorem w_isi_int_str {m : Str} (h : Q (.bl false) H) : uIsi K .int [(.str m), .ty "int"] H Q := ⟨rfl, h⟩
theorem w_isi_int_non  (h : Q (.bl false) H) : uIsi K .int [.non, .ty "int"] H Q := ⟨rfl, h⟩
theorem w_isi_bool_int {m : Int} (h : Q (.bl false) H) : uIsi K .bool [(.int m), .ty "bool"] H Q := ⟨rfl, h⟩
theorem w_isi_bool_bl {m : Bool} (h : Q (.bl true) H) : uIsi K .bool [(.bl m), .ty "bool"] H Q := ⟨rfl, h⟩
theorem w_isi_bool_str {m : Str} (h : Q (.bl false) H) : uIsi K .bool [(.str m), .ty "bool"] H Q := ⟨rfl, h⟩
theorem w_isi_bool_non  (h : Q (.bl false) H) : uIsi K .bool [.non, .ty "bool"] H Q := ⟨rfl, h⟩
theorem w_isi_str_int {m : Int} (h : Q (.bl false) H) : uIsi K .str [(.int m), .ty "str"] H Q := ⟨rfl, h⟩
theorem w_isi_str_bl {m : Bool} (h : Q (.bl false) H) : uIsi K .str [(.bl m), .ty "str"] H Q := ⟨rfl, h⟩
theorem w_isi_str_str {m : Str} (h : Q (.bl true) H) : uIsi K .str [(.str m), .ty "str"] H Q := ⟨rfl, h⟩
theorem w_isi_str_non  (h : Q (.bl false) H) : uIsi K .str [.non, .ty "str"] H Q := ⟨rfl, h⟩
theorem w_isi_list_int {m : Int} (h : Q (.bl false) H) : uIsi K .list [(.int m), .ty "list"] H Q := ⟨rfl, h⟩
theorem w_isi_list_bl {m : Bool} (h : Q (.bl false) H) : uIsi K .list [(.bl m), .ty "list"] H Q := ⟨rfl, h⟩
theorem w_isi_list_str {m : Str} (h : Q (.bl false) H) : uIsi K .list [(.str m), .ty "list"] H Q := ⟨rfl, h⟩
theorem w_isi_list_non  (h : Q (.bl false) H) : uIsi K .list [.non, .ty "list"] H Q := ⟨rfl, h⟩
theorem w_isi_tuple_int {m : Int} (h : Q (.bl false) H) : uIsi K .tuple [(.int m), .ty "tuple"] H Q := ⟨rfl, h⟩
theorem w_isi_tuple_bl {m : Bool} (h : Q (.bl false) H) : uIsi K .tuple [(.bl m), .ty "tuple"] H Q := ⟨rfl, h⟩
theorem w_isi_tuple_str {m : Str} (h : Q (.bl false) H) : uIsi K .tuple [(.str m), .ty "tuple"] H Q := ⟨rfl, h⟩
theorem w_isi_tuple_non  (h : Q (.bl false) H) : uIsi K .tuple [.non, .ty "tuple"] H Q := ⟨rfl, h⟩
theorem w_is_int {m : Int} (h : Q (.bl false) H) : uIs (.int m) .non H Q := h
theorem w_isnt_int {m : Int} (h : Q (.bl true) H) : uIsnt (.int m) .non H Q := h
theorem w_is_bl {m : Bool} (h : Q (.bl false) H) : uIs (.bl m) .non H Q := h
theorem w_isnt_bl {m : Bool} (h : Q (.bl true) H) : uIsnt (.bl m) .non H Q := h
theorem w_is_str {m : Str} (h : Q (.bl false) H) : uIs (.str m) .non H Q := h
theorem w_isnt_str {m : Str} (h : Q (.bl true) H) : uIsnt (.str m) .non H Q := h
theorem w_is_non  (h : Q (.bl true) H) : uIs .non .non H Q := h
theorem w_isnt_non  (h : Q (.bl false) H) : uIsnt .non .non H Q := h
theorem w_is_ref {m : Addr} (h : Q (.bl false) H) : uIs (.ref m) .non H Q := h
theorem w_isnt_ref {m : Addr} (h : Q (.bl true) H) : uIsnt (.ref m) .non H Q := h
theorem ifNT {A B : Prop} (h : B) : if (!true) = true then A else B := iteF h
theorem ifNF {A B : Prop} (h : A) : if (!false) = true then A else B := iteT h
theorem w_max {m n : Int} (h : Q (.int (if n > m then n else m)) H) : uMax K [.int m, .int n] H Q := h
theorem w_min {m n : Int} (h : Q (.int (if n < m then n else m)) H) : uMin K [.int m, .int n] H Q := h
theorem w_abs {m : Int} (h : Q (.int (if m < 0 then -m else m)) H) : uAbs [.int m] H Q := h
theorem w_intI {m : Int} (h : Q (.int m) H) : uInt [.int m] H Q := h
theorem w_intB {m : Bool} (h : Q (.int (if m then 1 else 0)) H) : uInt [.bl m] H Q := h
theorem w_lenL {p : Addr} {xs : List V} (e : SqL K H p xs) (h : Q (.int xs.length) H) : uLen K [.ref p] H Q := .inl ⟨xs, .inl e, h⟩
theorem w_lenT {p : Addr} {xs : List V} (e : SqT K H p xs) (h : Q (.int xs.length) H) : uLen K [.ref p] H Q := .inl ⟨xs, .inr e, h⟩
theorem w_ixL {p : Addr} {xs : List V} {n : Int} {k : Nat} (e : SqL K H p xs) (ek : n = (k : Int)) (ev : xs[k]? = some v) (h : Q v H) : uIx K (.ref p) (.int n) H Q := ⟨xs, v, .inl e, by rw [ek]; exact atI_nat ev, h⟩
theorem w_ixT {p : Addr} {xs : List V} {n : Int} {k : Nat} (e : SqT K H p xs) (ek : n = (k : Int)) (ev : xs[k]? = some v) (h : Q v H) : uIx K (.ref p) (.int n) H Q := ⟨xs, v, .inr e, by rw [ek]; exact atI_nat ev, h⟩
theorem w_app {p : Addr} {xs : List V} (e : H p = some (.lst xs)) (s : xs.length < sizeLine) (h : Q .non (upd H p (.lst (xs ++ [y])))) : rAppend (.ref p) [y] H Q := ⟨p, xs, y, rfl, rfl, e, s, h⟩
theorem w_ixI {p : Addr} {ns : List Int} {n : Int} (e : SqL K H p (ns.map V.int)) (h0 : 0 ≤ n ∧ n.toNat < ns.length) (h : Q (.int (ns.getD n.toNat 0)) H) : uIx K (.ref p) (.int n) H Q :=
  ⟨_, .int (ns.getD n.toNat 0), .inl e, by
    have z : (ns.map V.int)[n.toNat]? = some (.int (ns.getD n.toNat 0)) := by rw [List.getElem?_map, List.getElem?_eq_getElem h0.2, List.getD_eq_getElem?_getD, List.getElem?_eq_getElem h0.2]; rfl
    have y := atI_nat z
    rw [show ((n.toNat : Nat) : Int) = n by omega] at y
    exact y, h⟩
theorem w_ixTI {p : Addr} {ns : List Int} {n : Int} (e : SqT K H p (ns.map V.int)) (h0 : 0 ≤ n ∧ n.toNat < ns.length) (h : Q (.int (ns.getD n.toNat 0)) H) : uIx K (.ref p) (.int n) H Q :=
  ⟨_, .int (ns.getD n.toNat 0), .inr e, by
    have z : (ns.map V.int)[n.toNat]? = some (.int (ns.getD n.toNat 0)) := by rw [List.getElem?_map, List.getElem?_eq_getElem h0.2, List.getD_eq_getElem?_getD, List.getElem?_eq_getElem h0.2]; rfl
    have y := atI_nat z
    rw [show ((n.toNat : Nat) : Int) = n by omega] at y
    exact y, h⟩
theorem w_appI {p : Addr} {ns : List Int} {z : Int} (e : H p = some (.lst (ns.map V.int))) (s : ns.length < 10000000) (h : Q .non (upd H p (.lst ((ns ++ [z]).map V.int)))) : rAppend (.ref p) [.int z] H Q :=
  ⟨p, _, _, rfl, rfl, e, by rw [List.length_map]; exact Nat.lt_of_lt_of_le s (by decide), by rw [List.map_append] at h; exact h⟩
theorem w_gsub {to ti : TE} {ts : TSet} {N : L2.St → Hp → Prop} (h : to σ H fun o H1 => ti σ H1 fun i H2 => ts o i v H2 fun H3 => N σ H3) : gSub to ti ts v σ H N := h
theorem w_ixA {p : Addr} {xs : List V} {n : Int} (e : SqL K H p xs) (h0 : 0 ≤ n ∧ n.toNat < xs.length) (h : ∀ v, xs[n.toNat]? = some v → Q v H) : uIx K (.ref p) (.int n) H Q :=
  ⟨xs, xs[n.toNat]'h0.2, .inl e, by
    have y := atI_nat (List.getElem?_eq_getElem h0.2)
    rw [show ((n.toNat : Nat) : Int) = n by omega] at y
    exact y, h _ (List.getElem?_eq_getElem h0.2)⟩
theorem w_ttupL {p : Addr} {xs : List V} (e : SqL K H p xs) (h : ∀ l, H l = none → Q (.ref l) (upd H l (.tup xs))) : uTuple K [.ref p] H Q := ⟨xs, .inl ⟨e, h⟩⟩
def partQ (x : V) (H1 : Hp) (Q : Option Int → Hp → Prop) : Prop := ∃ i, x = .int i ∧ Q (some i) H1
theorem w_sl {rs : V → Option Int → Option Int → Hp → VK → Prop} {tl th : TO} (h : te σ H fun x H1 => tl σ H1 fun l H2 => th σ H2 fun u H3 => rs x l u H3 Q) : tSl rs te tl th σ H Q := h
theorem w_part {Q : Option Int → Hp → Prop} (h : te σ H fun x H1 => partQ x H1 Q) : tPart te σ H Q := h
theorem w_partI {Q : Option Int → Hp → Prop} {n : Int} (h : Q (some n) H) : partQ (.int n) H Q := ⟨n, rfl, h⟩
theorem w_noPart {Q : Option Int → Hp → Prop} (h : Q none H) : tNoPart σ H Q := h
theorem cut_take (xs : List V) (k : Nat) : cutV xs none (some (k : Int)) = xs.take k := by
  unfold cutV
  rw [HT.sIx_nat, HT.sIx_none, List.drop_zero, Nat.sub_zero, ← List.take_take, List.take_length]
theorem cut_drop (xs : List V) (k : Nat) : cutV xs (some (k : Int)) none = xs.drop k := by
  unfold cutV
  rw [HT.sIx_nat, HT.sIx_none]
  rcases Nat.le_total k xs.length with h | h
  · rw [Nat.min_eq_left h]; exact List.take_of_length_le (by rw [List.length_drop]; exact Nat.le_refl _)
  · rw [Nat.min_eq_right h, List.drop_length, List.drop_eq_nil_of_le h, List.take_nil]
theorem cut_mid (xs : List V) (i j : Nat) (h : i ≤ j) (hj : j ≤ xs.length) : cutV xs (some (i : Int)) (some (j : Int)) = (xs.drop i).take (j - i) := by
  unfold cutV
  rw [HT.sIx_nat, HT.sIx_nat, Nat.min_eq_left (Nat.le_trans h hj), Nat.min_eq_left hj]
theorem w_slL {p : Addr} {xs : List V} {lo hi : Option Int} (e : SqL K H p xs) (h : ∀ q, H q = none → Q (.ref q) (upd H q (.lst (cutV xs lo hi)))) : uSl K (.ref p) lo hi H Q := .inl ⟨p, xs, rfl, e, h⟩
theorem w_ixTl {p : Addr} {xs : List V} {n : Int} (e : SqT K H p xs) (ev : xs[n.toNat]? = some v) (h0 : 0 ≤ n) (h : Q v H) : uIx K (.ref p) (.int n) H Q := w_ixT (k := n.toNat) e (by omega) ev h
theorem w_ixLl {p : Addr} {xs : List V} {n : Int} (e : SqL K H p xs) (ev : xs[n.toNat]? = some v) (h0 : 0 ≤ n) (h : Q v H) : uIx K (.ref p) (.int n) H Q := w_ixL (k := n.toNat) e (by omega) ev h
theorem w_bm {T : String} {q : V → List V → Hp → VK → Prop} (h : te σ H fun x H1 => bmQ K T q tA σ x H1 Q) : tBM K T q te tA σ H Q := h
theorem w_bmL {q : V → List V → Hp → VK → Prop} {p : Addr} {xs : List V} (e : H p = some (.lst xs)) (h : tA σ H fun vs H2 => q (.ref p) vs H2 Q) : bmQ K "list" q tA σ (.ref p) H Q := ⟨.inl ⟨rfl, _, .inl (.inl e)⟩, h⟩
theorem w_bmS {q : V → List V → Hp → VK → Prop} {z : Str} (h : tA σ H fun vs H2 => q (.str z) vs H2 Q) : bmQ K "str" q tA σ (.str z) H Q := ⟨rfl, h⟩
theorem w_tlist {p : Addr} {xs : List V} (e : SqL K H p xs) (h : ∀ l, H l = none → Q (.ref l) (upd H l (.lst xs))) : uList K [.ref p] H Q := ⟨xs, .inl e, h⟩
theorem w_tlistT {p : Addr} {xs : List V} (e : SqT K H p xs) (h : ∀ l, H l = none → Q (.ref l) (upd H l (.lst xs))) : uList K [.ref p] H Q := ⟨xs, .inr e, h⟩
theorem w_for {wi : TI} {tb : TS} (h : wi σ H fun J H1 => forQ g tb D σ J H1) : tFor wi g tb D σ H := h
theorem f_range {tb : TS} {lo : Int} {n : Nat} (Pv : Nat → L2.St → Hp → Prop) (h0 : Pv 0 σ H)
    (hs : ∀ i σ H, i < n → Pv i σ H → g (.int (lo + i)) σ H fun σ2 H2 => tb { D with nx := Pv (i + 1), ct := Pv (i + 1), bk := D.nx } σ2 H2) (hd : ∀ σ H, Pv n σ H → D.nx σ H) : forQ g tb D σ (Itr lo n) H := for_range Pv h0 hs hd
theorem f_list {tb : TS} {a : Addr} {xs : List V} (Pv : Nat → L2.St → Hp → Prop) (h0 : Pv 0 σ H) (hl : ∀ i σ H, i ≤ xs.length → Pv i σ H → SqL K H a xs)
    (hs : ∀ i x σ H, xs[i]? = some x → Pv i σ H → g x σ H fun σ2 H2 => tb { D with nx := Pv (i + 1), ct := Pv (i + 1), bk := D.nx } σ2 H2) (hd : ∀ σ H, Pv xs.length σ H → D.nx σ H) : forQ g tb D σ (Itl K a) H := for_list Pv h0 hl hs hd
theorem w_rng1 {R : It → Hp → Prop} (h : tA σ H fun vs H1 => rng1Q vs H1 R) : iRng1 tA σ H R := h
theorem w_rng1v {R : It → Hp → Prop} {n : Int} (h1 : -(2 ^ 62) ≤ n) (h2 : n < 2 ^ 62) (h : R (Itr 0 n.toNat) H) : rng1Q [.int n] H R := ⟨n, rfl, h1, h2, h⟩
theorem w_rng2 {R : It → Hp → Prop} (h : tA σ H fun vs H1 => rng2Q vs H1 R) : iRng2 tA σ H R := h
theorem w_rng2v {R : It → Hp → Prop} {m n : Int} (h1 : -(2 ^ 62) ≤ m ∧ m < 2 ^ 62 ∧ -(2 ^ 62) ≤ n ∧ n < 2 ^ 62) (h : R (Itr m (n - m).toNat) H) : rng2Q [.int m, .int n] H R := ⟨m, n, rfl, h1, h⟩
theorem w_iList {R : It → Hp → Prop} (h : te σ H fun x H1 => listQ K x H1 R) : iList K te σ H R := h
theorem w_iListv {R : It → Hp → Prop} {p : Addr} {xs : List V} (e : SqL K H p xs) (h : R (Itl K p) H) : listQ K (.ref p) H R := ⟨p, rfl, ⟨xs, e⟩, h⟩
theorem w_iTup {R : It → Hp → Prop} (h : te σ H fun x H1 => tupQ K x H1 R) : iTup K te σ H R := h
theorem w_iTupv {R : It → Hp → Prop} {p : Addr} {xs : List V} (e : SqT K H p xs) (h : R (Itt K p) H) : tupQ K (.ref p) H R := ⟨p, rfl, ⟨xs, e⟩, h⟩
theorem w_iStr {R : It → Hp → Prop} (h : te σ H fun x H1 => strQ x H1 R) : iStr te σ H R := h
theorem w_iStrv {R : It → Hp → Prop} {z : Str} (h : R (Its z) H) : strQ (.str z) H R := ⟨z, rfl, h⟩
theorem w_iRev {R : It → Hp → Prop} (h : tA σ H fun vs H1 => revQ K vs H1 R) : iRev K tA σ H R := h
theorem w_iRevv {R : It → Hp → Prop} {p : Addr} {xs : List V} (e : SqL K H p xs) (h : R (Itv K p xs.length) H) : revQ K [.ref p] H R := ⟨p, xs, rfl, e, h⟩
theorem w_raise {C : Addr} (h : W (.ref C) none σ H) : uRaise C W D σ H := h
theorem w_fld {C : Addr} (h : te σ H fun x H1 => fldQ C f x H1 Q) : uFld C f te σ H Q := h
theorem w_fldv {C p dx : Addr} {fs : List (Str × V)} (e : H p = some (.ins C dx fs)) (l : fs.lookup f = some v) (h : Q v H) : fldQ C f (.ref p) H Q := ⟨p, dx, fs, v, rfl, e, l, h⟩
theorem w_meth {C : Addr} {m : Str} (h : te σ H fun x H1 => methQ C m sp W tA σ x H1 Q) : uMeth C m sp W te tA σ H Q := h
theorem w_methv {C p dx : Addr} {m : Str} {fs : List (Str × V)} (e : H p = some (.ins C dx fs)) (l : fs.lookup m = none) (h : tA σ H fun vs H2 => sp (.ref p :: vs) H2 Q fun c d H3 => W c d σ H3) : methQ C m sp W tA σ (.ref p) H Q := ⟨p, dx, fs, rfl, e, l, h⟩
theorem w_setf {C : Addr} (h : tv σ H fun y H1 => te σ H1 fun x H2 => setfQ C f x y H2 (D.nx σ)) : uSetF C f te tv D σ H := h
theorem w_setfv {C p dx : Addr} {fs fs' : List (Str × V)} {N : Hp → Prop} (e : H p = some (.ins C dx fs)) (l : fs.length < 1000) (e2 : putF f y fs = fs') (h : N (upd H p (.ins C dx fs'))) : setfQ C f (.ref p) y H N := ⟨p, dx, fs, rfl, e, l, by rw [e2]; exact h⟩
theorem ifP {p A B : Prop} [Decidable p] (h1 : p → A) (h2 : ¬ p → B) : if decide p = true then A else B := by
  by_cases h : p
  · rw [if_pos (decide_eq_true h)]; exact h1 h
  · rw [if_neg (by rw [decide_eq_false h]; decide)]; exact h2 h
theorem ifN {p A B : Prop} [Decidable p] (h2 : ¬ p → A) (h1 : p → B) : if (!decide p) = true then A else B := by
  by_cases h : p
  · rw [if_neg (by rw [decide_eq_true h]; decide)]; exact h1 h
  · rw [if_pos (by rw [decide_eq_false h]; rfl)]; exact h2 h
theorem ifB {A B : Prop} (h1 : b = true → A) (h2 : b = false → B) : if b = true then A else B := by
  cases b
  · rw [if_neg Bool.false_ne_true]; exact h2 rfl
  · rw [if_pos rfl]; exact h1 rfl
end steps
section heaps
variable {K : PySem.W.Frag} {H H' : Hp} {p q : Addr} {o u : HO} {xs : List V}
theorem upd_old (h : H q = some u) (n : H p = none) : upd H p o q = some u := by rw [upd_ne (ne_of_none h n)]; exact h
theorem upd_oth (h : H q = some u) (n : q ≠ p) : upd H p o q = some u := by rw [upd_ne n]; exact h
theorem none_of_upd (h : upd H p o q = none) : H q = none ∧ q ≠ p := by
  unfold upd at h
  split at h
  · cases h
  · exact ⟨h, by assumption⟩
theorem rd_old (h : Rd H q u) (n : H p = none) : Rd (upd H p o) q u := by
  rcases h with h | ⟨o', h⟩
  · exact .inl (upd_old h n)
  · exact .inr ⟨o', upd_old h n⟩
theorem sql_old (h : SqL K H q xs) (n : H p = none) : SqL K (upd H p o) q xs := h.imp (fun h => rd_old h n) id
theorem sqt_old (h : SqT K H q xs) (n : H p = none) : SqT K (upd H p o) q xs := h.imp (fun h => rd_old h n) id
theorem same_new (n : H p = none) : Same H (upd H p o) := fun b w h => upd_old h n
theorem same_upd {H1 : Hp} (s : Same H H1) (n : H p = none) : Same H (upd H1 p o) := fun b w h => by rw [upd_ne (ne_of_none h n)]; exact s b w h
theorem same_updN {H1 : Hp} (s : Same H H1) (n : H1 p = none) : Same H (upd H1 p o) := fun b w h => upd_old (s b w h) n
theorem Same.sqt (e : Same H H') (h : SqT K H q xs) : SqT K H' q xs := by
  rcases h with (h | ⟨o, h⟩) | h
  · exact .inl (.inl (e _ _ h))
  · exact .inl (.inr ⟨o, e _ _ h⟩)
  · exact .inr h
end heaps
section steps2
variable {K : PySem.W.Frag} {σ : L2.St} {H : Hp} {Q : VK} {C p : Addr} {sp : Sp} {W : WX} {t : TA} {te td ty tv : TE} {x y v : V} {kvs : List (Key × V)} {i : Int} {N : L2.St → Hp → Prop}
def mkQ (C : Addr) (sp : Sp) (W : WX) (σ : L2.St) (vs : List V) (H1 : Hp) (Q : VK) : Prop := ∀ x dx, H1 x = none → H1 dx = none → dx ≠ x → sp (.ref x :: vs) (upd (upd H1 dx (.own x)) x (.ins C dx [])) (fun v H2 => v = .non ∧ Q (.ref x) H2) fun c d H2 => W c d σ H2
theorem w_make (h : t σ H fun vs H1 => mkQ C sp W σ vs H1 Q) : uMake C sp W t σ H Q := h
def dgQ (x y : V) (H : Hp) (Q : VK) : Prop := ∃ a v, x = .ref a ∧ DGet H a y (some v) ∧ Q v H
theorem w_dget (h : td σ H fun x H1 => ty σ H1 fun y H2 => dgQ x y H2 Q) : tDGet td ty σ H Q := h
theorem w_inD (e : H p = some (.dK kvs)) (h : Q (.bl (valV kvs (.inl i)).isSome) H) : uIn K (.int i) (.ref p) H Q := .inr ⟨_, DGet.k (k := .inl i) e, h⟩
theorem w_ninD (e : H p = some (.dK kvs)) (h : Q (.bl (!(valV kvs (.inl i)).isSome)) H) : uNin K (.int i) (.ref p) H Q := .inr ⟨_, DGet.k (k := .inl i) e, h⟩
def dpQ (x y v : V) (H : Hp) (N : Hp → Prop) : Prop := ∃ a H4, x = .ref a ∧ DPut H a y v H4 ∧ N H4
theorem w_dput {D : Ends} (h : tv σ H fun v H1 => td σ H1 fun x H2 => ty σ H2 fun y H3 => dpQ x y v H3 (D.nx σ)) : sDPut td ty tv D σ H := h
theorem w_newD (h : ∀ p, H p = none → Q (.ref p) (upd H p (.dK []))) : tDNewK σ H Q := h
/-- a list times a number -/
theorem w_rep {xs : List V} {k : Int} (e : H p = some (.lst xs)) (h0 : 0 ≤ k) (h1 : k ≤ 100000) (h2 : xs.length ≤ 100) (h : ∀ q, H q = none → Q (.ref q) (upd H q (.lst (List.replicate k.toNat xs).flatten))) : uMul (.ref p) (.int k) H Q := by
  refine ⟨p, k, xs, rfl, rfl, e, by omega, by omega, ?_, h⟩
  have h3 : k.toNat ≤ 100000 := by omega
  have h4 : xs.length * k.toNat ≤ 100 * 100000 := Nat.mul_le_mul h2 h3
  exact Nat.le_trans h4 (by decide)
theorem rep1 (n : Nat) (z : Int) : (List.replicate n [V.int z]).flatten = (List.replicate n z).map V.int := by
  induction n with
  | zero => rfl
  | succ n ih => rw [List.replicate_succ, List.flatten_cons, ih, List.replicate_succ, List.map_cons]; rfl
theorem w_rep1 {z k : Int} (e : H p = some (.lst [.int z])) (h0 : 0 ≤ k) (h1 : k ≤ 100000) (h : ∀ q, H q = none → Q (.ref q) (upd H q (.lst ((List.replicate k.toNat z).map V.int)))) : uMul (.ref p) (.int k) H Q :=
  w_rep e h0 h1 (by simp) fun q hq => by rw [rep1]; exact h q hq
theorem w_gtup2 {a : Addr} {u : TGs} (e : SqT K H a [x, y]) (h : u [x, y] σ H N) : gTup K 2 u (.ref a) σ H N := ⟨a, _, rfl, e, rfl, h⟩
theorem w_gtup3 {a : Addr} {u : TGs} {z : V} (e : SqT K H a [x, y, z]) (h : u [x, y, z] σ H N) : gTup K 3 u (.ref a) σ H N := ⟨a, _, rfl, e, rfl, h⟩
theorem w_gtup4 {a : Addr} {u : TGs} {z w : V} (e : SqT K H a [x, y, z, w]) (h : u [x, y, z, w] σ H N) : gTup K 4 u (.ref a) σ H N := ⟨a, _, rfl, e, rfl, h⟩
theorem w_gcons {g : TG} {u : TGs} {r : List V} (h : g v σ H fun σ' H' => u r σ' H' N) : gCons g u (v :: r) σ H N := ⟨v, r, rfl, h⟩
theorem w_gnil (h : N σ H) : gNil [] σ H N := ⟨rfl, h⟩
def augQ (C : Addr) (f : Str) (r : V → V → Hp → VK → Prop) (tv : TE) (D : Ends) (σ : L2.St) (x : V) (H1 : Hp) : Prop := ∃ a dx fs v, x = .ref a ∧ H1 a = some (.ins C dx fs) ∧ fs.lookup f = some v ∧
  tv σ H1 fun y H2 => r v y H2 fun z H3 => ∃ dx' fs', H3 a = some (.ins C dx' fs') ∧ fs'.length < 1000 ∧ D.nx σ (upd H3 a (.ins C dx' (putF f z fs')))
theorem w_augf {D : Ends} {f : Str} {r : V → V → Hp → VK → Prop} (h : te σ H fun x H1 => augQ C f r tv D σ x H1) : uAugF C f r te tv D σ H := h
theorem w_augsub {D : Ends} {f : Str} {dx : Addr} {fs : List (Str × V)} {i j : Int} (e : H p = some (.ins C dx fs)) (l : fs.lookup f = some (.int i)) (s : fs.length < 1000) (h : D.nx σ (upd H p (.ins C dx (putF f (.int (i - j)) fs)))) : augQ C f rSub (tC (.int j)) D σ (.ref p) H :=
  ⟨p, dx, fs, _, rfl, e, l, i, j, rfl, rfl, dx, fs, e, s, h⟩
theorem w_augadd {D : Ends} {f : Str} {dx : Addr} {fs : List (Str × V)} {i j : Int} (e : H p = some (.ins C dx fs)) (l : fs.lookup f = some (.int i)) (s : fs.length < 1000) (h : D.nx σ (upd H p (.ins C dx (putF f (.int (i + j)) fs)))) : augQ C f rAdd (tC (.int j)) D σ (.ref p) H :=
  ⟨p, dx, fs, _, rfl, e, l, i, j, rfl, rfl, dx, fs, e, s, h⟩
end steps2
section whiles
variable {D : Ends} {σ : L2.St} {H : Hp} {c : TT} {tb : TS}
def whQ (P : L2.St → Hp → Prop) (μ : L2.St → Hp → Nat) (m : Nat) (tb : TS) (D : Ends) (σ : L2.St) (H : Hp) : Prop :=
  ∃ N : L2.St → Hp → Prop, (∀ σ' H', N σ' H' → ∃ m', m' < m ∧ (m' = μ σ' H' ∧ P σ' H')) ∧ tb { D with nx := N, ct := N, bk := D.nx } σ H
theorem f_while (P : L2.St → Hp → Prop) (μ : L2.St → Hp → Nat) (h0 : P σ H) (hs : ∀ σ H, P σ H → c σ H fun b H1 => if b = true then whQ P μ (μ σ H) tb D σ H1 else D.nx σ H1) : tWhile c tb D σ H := by
  refine ⟨fun m σ H => m = μ σ H ∧ P σ H, ⟨_, rfl, h0⟩, fun m σ H q => ?_⟩
  obtain ⟨rfl, p⟩ := q
  exact hs σ H p
theorem w_wh {P : L2.St → Hp → Prop} {μ : L2.St → Hp → Nat} {m : Nat} (h : tb { D with nx := fun σ' H' => P σ' H' ∧ μ σ' H' < m, ct := fun σ' H' => P σ' H' ∧ μ σ' H' < m, bk := D.nx } σ H) : whQ P μ m tb D σ H := ⟨_, fun _ _ n => ⟨_, n.2, rfl, n.1⟩, h⟩
end whiles
section data
variable {K : PySem.W.Frag} {H : Hp} {Q : VK} {α β : Type} [DecidableEq α] [PySem.W.Datum α] [DecidableEq β] [PySem.W.Datum β]
def Dt (K : PySem.W.Frag) (H : Hp) (v : V) (a : α) : Prop := Dp K H v (PySem.W.Datum.toD a)
def DtAll (K : PySem.W.Frag) (H : Hp) (vs : List V) (as : List α) : Prop := DpAll K H vs (as.map PySem.W.Datum.toD)
theorem Dt.int {i : Int} : Dt K H (.int i) i := Dp.int i
theorem Dt.bl {i : Bool} : Dt K H (.bl i) i := Dp.bl i
theorem Dt.str {i : Str} : Dt K H (.str i) i := Dp.str i
theorem Dt.list {p : Addr} {vs : List V} {as : List α} (e : SqL K H p vs) (h : DtAll K H vs as) : Dt K H (.ref p) as := Dp.lst e h
theorem Dt.tup {p : Addr} {vs : List V} {as : List α} (e : SqT K H p vs) (h : DtAll K H vs as) : Dt K H (.ref p) (PySem.W.Tup.mk as) := Dp.tup e h
theorem Dt.pair {p : Addr} {x y : V} {a : α} {b : β} (e : SqT K H p [x, y]) (h1 : Dt K H x a) (h2 : Dt K H y b) : Dt K H (.ref p) (a, b) := Dp.tup e (DpAll.cons h1 (DpAll.cons h2 DpAll.nil))
theorem DtAll.nil : DtAll K H [] ([] : List α) := DpAll.nil
theorem DtAll.cons {v : V} {vs : List V} {a : α} {as : List α} (h : Dt K H v a) (hs : DtAll K H vs as) : DtAll K H (v :: vs) (a :: as) := DpAll.cons h hs
theorem DtAll.ints : ∀ (ns : List Int), DtAll K H (ns.map V.int) ns
  | [] => DpAll.nil
  | _ :: ns => DpAll.cons (Dp.int _) (DtAll.ints ns)
theorem DtAll.get : ∀ {vs : List V} {as : List α} {i : Nat} {v : V}, DtAll K H vs as → vs[i]? = some v → ∃ a, as[i]? = some a ∧ Dt K H v a
  | [], [], _, _, _, e => by cases e
  | [], _ :: _, _, _, h, _ => by cases h
  | _ :: _, [], _, _, h, _ => by cases h
  | _ :: _, a :: as, 0, v, h, e => by
    cases h with
    | cons h1 h2 => cases e; exact ⟨a, rfl, h1⟩
  | _ :: _, _ :: _, i + 1, v, h, e => by
    cases h with
    | cons h1 h2 => exact DtAll.get (i := i) h2 e
theorem DtAll.length : ∀ {vs : List V} {as : List α}, DtAll K H vs as → vs.length = as.length
  | [], [], _ => rfl
  | [], _ :: _, h => by cases h
  | _ :: _, [], h => by cases h
  | _ :: vs, _ :: as, h => by
    cases h with
    | cons h1 h2 => rw [List.length_cons, List.length_cons, DtAll.length h2]
theorem w_eqD {x y : V} {a b : α} (h1 : Dt K H x a) (h2 : Dt K H y b) (hd : PySem.W.Datum.depth α ≤ 60) (hx : ∃ p, x = .ref p) (h : Q (.bl (decide (a = b))) H) : uEq K x y H Q := by
  obtain ⟨p, rfl⟩ := hx
  have z : rEqP K (.ref p) y H Q := ⟨_, _, h1, h2, ⟨PySem.W.Datum.plain a, Nat.le_trans (PySem.W.Datum.depth_le a) hd⟩, PySem.W.Datum.plain b, by rw [PySem.W.Datum.eqv]; exact h⟩
  unfold uEq; exact .inr z
theorem w_neD {x y : V} {a b : α} (h1 : Dt K H x a) (h2 : Dt K H y b) (hd : PySem.W.Datum.depth α ≤ 60) (hx : ∃ p, x = .ref p) (h : Q (.bl (!decide (a = b))) H) : uNe K x y H Q := by
  obtain ⟨p, rfl⟩ := hx
  have z : rNeP K (.ref p) y H Q := ⟨_, _, h1, h2, ⟨PySem.W.Datum.plain a, Nat.le_trans (PySem.W.Datum.depth_le a) hd⟩, PySem.W.Datum.plain b, by rw [PySem.W.Datum.eqv]; exact h⟩
  unfold uNe; exact .inr z
mutual
theorem Dp.same {H' : Hp} (s : Same H H') : ∀ {d : PyData} {v : V}, Dp K H v d → Dp K H' v d
  | .none, _, h => by cases h; exact .non
  | .bool _, _, h => by cases h; exact .bl _
  | .int _, _, h => by cases h; exact .int _
  | .str _, _, h => by cases h; exact .str _
  | .list _, _, h => by
    cases h with
    | lst e a => exact .lst (s.seq e) (DpAll.same s a)
  | .tuple _, _, h => by
    cases h with
    | tup e a =>
      refine .tup ?_ (DpAll.same s a)
      rcases e with (e | ⟨o, e⟩) | e
      · exact .inl (.inl (s _ _ e))
      · exact .inl (.inr ⟨o, s _ _ e⟩)
      · exact .inr e
  | .dict _, _, h => by cases h
theorem DpAll.same {H' : Hp} (s : Same H H') : ∀ {ds : List PyData} {vs : List V}, DpAll K H vs ds → DpAll K H' vs ds
  | [], _, h => by cases h; exact .nil
  | _ :: _, _, h => by
    cases h with
    | cons h1 h2 => exact .cons (Dp.same s h1) (DpAll.same s h2)
end
theorem Dt.same {H' : Hp} (s : Same H H') {v : V} {a : α} (h : Dt K H v a) : Dt K H' v a := Dp.same s h
theorem DtAll.same {H' : Hp} (s : Same H H') {vs : List V} {as : List α} (h : DtAll K H vs as) : DtAll K H' vs as := DpAll.same s h
end data
section comps
variable {K : PySem.W.Frag} {σ : L2.St} {H1 : Hp} {Q : VK} {g : TG} {tt : TT} {te : TE} {vs : List Nat}
def lcQ (g : TG) (tt : TT) (te : TE) (vs : List Nat) (σ : L2.St) (J : It) (H1 : Hp) (Q : VK) : Prop := ∀ D, H1 D = none → ∃ W : Nat → Nat → Hp → Prop, (∃ m, W 0 m (upd H1 D (.lst []))) ∧ ∀ i m H, W i m H →
  (J.stop i H ∧ Q (.ref D) H) ∨ (J.go i H ∧ ∃ Nx : Hp → Prop, (∀ H', Nx H' → ∃ m', m' < m ∧ W (i + 1) m' H') ∧ ∀ x H', J.yld i H x H' → g x (wipe σ vs) H' fun σ2 H2 => wipe σ2 vs = wipe σ vs ∧ tt σ2 H2 fun b H3 =>
    if b = true then te σ2 H3 fun y H4 => ∃ acc, H4 D = some (.lst acc) ∧ acc.length < sizeLine ∧ Nx (upd H4 D (.lst (acc ++ [y]))) else Nx H3)
theorem w_lc {wi : TI} (h : wi σ H1 fun J H2 => lcQ g tt te vs σ J H2 Q) : tLc wi g tt te vs σ H1 Q := h
theorem w_yes {QB : Bool → Hp → Prop} (h : QB true H1) : tYes σ H1 QB := h
/-- what a turn of a comprehension wants: the new item, put behind the list at D -/
def putQ (D : Addr) (N : Hp → Prop) (y : V) (H4 : Hp) : Prop := ∃ acc, H4 D = some (.lst acc) ∧ acc.length < sizeLine ∧ N (upd H4 D (.lst (acc ++ [y])))
/-- a comprehension over anything that yields by its place, P the heap between the turns -/
theorem l_any {J : It} {n : Nat} {item : Nat → V → Prop} (P : Addr → Nat → Hp → Prop) (h0 : ∀ D, H1 D = none → P D 0 (upd H1 D (.lst [])))
    (hgo : ∀ D i H, H1 D = none → i < n → P D i H → J.go i H ∧ ∀ x H', J.yld i H x H' → H' = H ∧ item i x) (hst : ∀ D H, H1 D = none → P D n H → J.stop n H)
    (hs : ∀ D i x H, H1 D = none → i < n → item i x → P D i H → g x (wipe σ vs) H fun σ2 H2 => wipe σ2 vs = wipe σ vs ∧ tt σ2 H2 fun b H3 => if b = true then te σ2 H3 (putQ D (P D (i + 1))) else P D (i + 1) H3)
    (hd : ∀ D H, H1 D = none → P D n H → Q (.ref D) H) : lcQ g tt te vs σ J H1 Q := by
  intro D hD
  refine ⟨fun i m H => m = n - i ∧ i ≤ n ∧ P D i H, ⟨n, by simp, Nat.zero_le _, h0 D hD⟩, fun i m H q => ?_⟩
  obtain ⟨rfl, hi, p⟩ := q
  rcases Nat.lt_or_ge i n with hl | hl
  · obtain ⟨a, b⟩ := hgo D i H hD hl p
    refine .inr ⟨a, P D (i + 1), fun H' p' => ⟨n - (i + 1), by omega, rfl, hl, p'⟩, fun x H' y => ?_⟩
    obtain ⟨rfl, c⟩ := b x H' y
    exact hs D i x _ hD hl c p
  · obtain rfl : i = n := Nat.le_antisymm hi hl
    exact .inl ⟨hst D H hD p, hd D H hD p⟩
theorem l_range {lo : Int} {n : Nat} (P : Addr → Nat → Hp → Prop) (h0 : ∀ D, H1 D = none → P D 0 (upd H1 D (.lst [])))
    (hs : ∀ D i H, H1 D = none → i < n → P D i H → g (.int (lo + (i : Nat))) (wipe σ vs) H fun σ2 H2 => wipe σ2 vs = wipe σ vs ∧ tt σ2 H2 fun b H3 => if b = true then te σ2 H3 (putQ D (P D (i + 1))) else P D (i + 1) H3)
    (hd : ∀ D H, H1 D = none → P D n H → Q (.ref D) H) : lcQ g tt te vs σ (Itr lo n) H1 Q :=
  l_any (n := n) (item := fun i x => x = .int (lo + (i : Nat))) P h0 (fun _ i _ _ h _ => ⟨h, fun _ _ y => y⟩) (fun _ _ _ _ => Nat.le_refl _) (fun D i x H a b c p => by rw [c]; exact hs D i H a b p) hd
theorem l_list {a : Addr} {xs : List V} (P : Addr → Nat → Hp → Prop) (h0 : ∀ D, H1 D = none → P D 0 (upd H1 D (.lst []))) (hl : ∀ D i H, H1 D = none → P D i H → SqL K H a xs)
    (hs : ∀ D i x H, H1 D = none → xs[i]? = some x → P D i H → g x (wipe σ vs) H fun σ2 H2 => wipe σ2 vs = wipe σ vs ∧ tt σ2 H2 fun b H3 => if b = true then te σ2 H3 (putQ D (P D (i + 1))) else P D (i + 1) H3)
    (hd : ∀ D H, H1 D = none → P D xs.length H → Q (.ref D) H) : lcQ g tt te vs σ (Itl K a) H1 Q :=
  l_any (n := xs.length) (item := fun i x => xs[i]? = some x) P h0 (fun D i H hD h p => ⟨⟨xs, xs[i], hl D i H hD p, List.getElem?_eq_getElem h⟩, fun x H' y => ⟨y.1, y.2 xs (hl D i H hD p)⟩⟩)
    (fun D H hD p => ⟨xs, hl D _ H hD p, Nat.le_refl _⟩) (fun D i x H a b c p => hs D i x H a c p) hd
end comps
section texts
/-- the text of these signs -/
def tx (l : List Nat) : Str := ⟨l.toArray⟩
theorem tx_list (l : List Nat) : (tx l).cps.toList = l := rfl
theorem tx_len (l : List Nat) : (tx l).length = l.length := by unfold tx Str.length; exact List.size_toArray
theorem tx_app (l m : List Nat) : tx l ++ tx m = tx (l ++ m) := PySem.Str.ext' (by rw [PySem.Str.cps_append]; exact Array.toList_inj.mp (by rw [Array.toList_append]; rfl))
theorem tx_inj {l m : List Nat} : tx l = tx m ↔ l = m := ⟨fun h => by have := congrArg (fun z : Str => z.cps.toList) h; exact this, fun h => by rw [h]⟩
theorem cut_tk (l : List Nat) (k : Nat) : cutS (tx l) none (some (k : Int)) = tx (l.take k) := by
  unfold cutS
  rw [tx_len, HT.sIx_nat, HT.sIx_none, List.drop_zero, Nat.sub_zero, tx_list, ← List.take_take, List.take_length]
  rfl
theorem cut_dp (l : List Nat) (k : Nat) : cutS (tx l) (some (k : Int)) none = tx (l.drop k) := by
  unfold cutS
  rw [tx_len, HT.sIx_nat, HT.sIx_none, tx_list]
  rcases Nat.le_total k l.length with h | h
  · rw [Nat.min_eq_left h, List.take_of_length_le (by rw [List.length_drop]; exact Nat.le_refl _)]; rfl
  · rw [Nat.min_eq_right h, List.drop_length, List.drop_eq_nil_of_le h, List.take_nil]; rfl
theorem fold_rep (c : Nat) : ∀ (n : Nat) (a : Array Nat), (List.replicate n #[c]).foldl (· ++ ·) a = a ++ (List.replicate n c).toArray
  | 0, a => by simp
  | n + 1, a => by
    rw [List.replicate_succ, List.foldl_cons, fold_rep c n]
    apply Array.toList_inj.mp
    simp [List.replicate_succ]
theorem mul_one (c : Nat) (n : Nat) : Txt.mul (tx [c]) (n : Int) = tx (List.replicate n c) := by
  unfold Txt.mul
  by_cases h : (n : Int) < 1
  · rw [if_pos h]; obtain rfl : n = 0 := by omega
    rfl
  · rw [if_neg h]
    by_cases h2 : ((n : Int) == 1 || (tx [c]).length == 0) = true
    · rw [if_pos h2]
      have : (n : Int) = 1 := by
        rcases Bool.or_eq_true_iff.mp h2 with h2 | h2
        · exact eq_of_beq h2
        · cases h2
      obtain rfl : n = 1 := by omega
      rfl
    · rw [if_neg h2, Int.toNat_natCast]
      exact PySem.Str.ext' (by show (List.replicate n #[c]).foldl (· ++ ·) #[] = _; rw [fold_rep]; simp [tx])
theorem mulOk_one (c : Nat) {n : Int} (h0 : 0 ≤ n) (h1 : n ≤ 100000) : MulOk (tx [c]) n := by
  have e : (tx [c]).length = 1 := rfl
  refine ⟨?_, fun h _ => ?_, fun h _ => ?_⟩
  · rw [decide_eq_false (by omega), decide_eq_false (by omega)]; rfl
  · rw [e]
    have : (1 : Int) ≤ (2 ^ 63 - 1) / n := Int.le_ediv_of_mul_le (by omega) (by omega)
    omega
  · rw [e]; unfold Builtin.Str.tooLong
    rw [decide_eq_false]
    have : (100000 : Nat) ≤ sizeLine := by decide
    omega
/-- the first place of a sign in a text, or -1 -/
def ixc (l : List Nat) (c : Nat) : Int := if c ∈ l then (l.idxOf c : Int) else -1
theorem tx_find (l : List Nat) (c : Nat) : Txt.find (tx l) (tx [c]) = ixc l c := by
  unfold Txt.find ixc
  have key : ∀ i, PySem.StrLaws.At (tx l) (tx [c]) (tx l).length i ↔ l[i]? = some c := fun i => PySem.StrLaws.subAt_one (tx l) c i
  rcases PySem.StrLaws.occ_head (tx l) (tx [c]) 1 (Nat.le_refl 1) with ⟨e, hn⟩ | ⟨i, r, e, ha, hn⟩
  · rw [e, if_neg]
    intro hm
    obtain ⟨i, hi⟩ := List.getElem?_of_mem hm
    exact hn i ((key i).mpr hi)
  · rw [e]
    have hi := (key i).mp ha
    rw [if_pos (List.mem_of_getElem? hi)]
    have hl : i < l.length := (List.getElem?_eq_some_iff.mp hi).1
    have hg : l[i] = c := (List.getElem?_eq_some_iff.mp hi).2
    have h1 : l.idxOf c < l.length := List.idxOf_lt_length_iff.mpr (List.mem_of_getElem? hi)
    have h2 : l[l.idxOf c] = c := List.getElem_idxOf h1
    have h3 : ¬ l.idxOf c < i := fun q => hn _ q ((key _).mpr (by rw [List.getElem?_eq_getElem h1, h2]))
    have h4 : ¬ i < l.idxOf c := fun q => by
      have := List.not_of_lt_findIdx (p := (· == c)) (xs := l) (i := i) q
      simp [hg] at this
    have : l.idxOf c = i := by omega
    rw [this]
theorem cnt_eq (c : Nat) : ∀ l : List Nat, PyProof.Rows.cnt c l = (l.count c : Nat)
  | [] => rfl
  | n :: l => by
    rw [PyProof.Rows.cnt_cons, cnt_eq c l, List.count_cons]
    by_cases h : n = c
    · subst h; simp; omega
    · simp [h]
theorem tx_count (l : List Nat) (c : Nat) : Txt.count (tx l) (tx [c]) = (l.count c : Nat) := (PyProof.Rows.count_is (tx l) c).trans (cnt_eq c l)
end texts
section textsteps
variable {X : Cx} {K : PySem.W.Frag} {H : Hp} {Q : VK} {l m : List Nat} {c : Nat} {n : Int}
def uFind : V → List V → Hp → VK → Prop := fun x xs H Q => match x, xs with
  | .str a, [.str b] => Q (.int (Txt.find a b)) H
  | _, _ => False
def uCount : V → List V → Hp → VK → Prop := fun x xs H Q => match x, xs with
  | .str a, [.str b] => Q (.int (Txt.count a b)) H
  | _, _ => False
theorem mt_countU : MtR X "str.count" uCount := by
  intro pins s σ H x xs v us Q I rx rs q
  refine mt_count pins s σ H x xs v us Q I rx rs ?_
  unfold uCount at q
  split at q
  · exact ⟨_, _, rfl, rfl, q⟩
  · exact q.elim
theorem w_addX (s : l.length + m.length ≤ 100000) (h : Q (.str (tx (l ++ m))) H) : uAdd K (.str (tx l)) (.str (tx m)) H Q := ⟨by rw [tx_len, tx_len]; exact small9 s, by rw [tx_app]; exact h⟩
theorem w_mulX (h0 : 0 ≤ n) (h1 : n ≤ 100000) (h : Q (.str (tx (List.replicate n.toNat c))) H) : uMul (.str (tx [c])) (.int n) H Q := by
  obtain ⟨k, rfl⟩ := Int.eq_ofNat_of_zero_le h0
  exact ⟨mulOk_one c h0 h1, by rw [mul_one]; exact h⟩
theorem w_lenX (s : l.length ≤ 100000) (h : Q (.int l.length) H) : uLen K [.str (tx l)] H Q := ⟨by rw [tx_len]; exact small9 s, by rw [tx_len]; exact h⟩
theorem w_truX {QB : Bool → Hp → Prop} (s : l.length ≤ 100000) (h : QB (!decide (l.length = 0)) H) : truV K (.str (tx l)) H QB := ⟨by rw [tx_len]; exact small9 s, by rw [tx_len]; exact h⟩
theorem d_tx : decide (tx l = tx m) = decide (l = m) := decide_eq_decide.mpr tx_inj
theorem w_eqX (h : Q (.bl (decide (l = m))) H) : uEq K (.str (tx l)) (.str (tx m)) H Q := by
  rw [← d_tx] at h; exact h
theorem w_neX (h : Q (.bl (!decide (l = m))) H) : uNe K (.str (tx l)) (.str (tx m)) H Q := by
  rw [← d_tx] at h; exact h
theorem w_tkX (s : l.length ≤ 100000) (h0 : 0 ≤ n) (h : Q (.str (tx (l.take n.toNat))) H) : uSl K (.str (tx l)) none (some n) H Q := by
  obtain ⟨k, rfl⟩ := Int.eq_ofNat_of_zero_le h0
  exact .inr (.inr ⟨_, rfl, by rw [tx_len]; exact small9 s, by rw [cut_tk]; exact h⟩)
theorem w_dpX (s : l.length ≤ 100000) (h0 : 0 ≤ n) (h : Q (.str (tx (l.drop n.toNat))) H) : uSl K (.str (tx l)) (some n) none H Q := by
  obtain ⟨k, rfl⟩ := Int.eq_ofNat_of_zero_le h0
  exact .inr (.inr ⟨_, rfl, by rw [tx_len]; exact small9 s, by rw [cut_dp]; exact h⟩)
theorem w_ixX (s : l.length ≤ 100000) (h0 : 0 ≤ n ∧ n.toNat < l.length) (h : Q (.str (tx [l.getD n.toNat 0])) H) : uIx K (.str (tx l)) (.int n) H Q := by
  refine ⟨by rw [tx_len]; exact small9 s, l.getD n.toNat 0, ?_, h⟩
  have y := atI_nat (show l[n.toNat]? = some (l.getD n.toNat 0) by rw [List.getD_eq_getElem?_getD, List.getElem?_eq_getElem h0.2]; rfl)
  rw [show ((n.toNat : Nat) : Int) = n by omega] at y
  exact y
theorem w_findX (h : Q (.int (ixc l c)) H) : uFind (.str (tx l)) [.str (tx [c])] H Q := by
  rw [← tx_find] at h; exact h
theorem w_countX (h : Q (.int ((l.count c : Nat) : Int)) H) : uCount (.str (tx l)) [.str (tx [c])] H Q := by
  rw [← tx_count] at h; exact h
end textsteps
section steps3
variable {X : Cx} {K : PySem.W.Frag} {H H' H0 : Hp} {Q : VK} {p q : Addr} {xs ys : List V} {o w : HO}
theorem w_cat (e1 : H p = some (.lst xs)) (e2 : H q = some (.lst ys)) (s : xs.length + ys.length ≤ 1000000) (h : ∀ l, H l = none → Q (.ref l) (upd H l (.lst (xs ++ ys)))) : uAdd K (.ref p) (.ref q) H Q :=
  .inl ⟨p, q, xs, ys, rfl, rfl, e1, e2, Nat.le_trans s (by decide), h⟩
end steps3
section steps4
variable {X : Cx} {K : PySem.W.Frag} {D : Ends} {σ : L2.St} {H H1 : Hp} {Q : VK} {g : TG} {tb : TS} {tt : TT} {te td ty tx : TE} {tA : TA} {p q a b : Addr} {xs ys : List V} {kvs : List (Key × V)} {x y z v : V} {i : Int} {vs : List Nat}
def enumQ (K : PySem.W.Frag) (vs : List V) (H1 : Hp) (R : It → Hp → Prop) : Prop := ∃ a xs, vs = [.ref a] ∧ SqL K H1 a xs ∧ R (Ite K a) H1
theorem w_iEnum {R : It → Hp → Prop} (h : tA σ H fun vs H1 => enumQ K vs H1 R) : iEnum K tA σ H R := h
theorem w_iEnumv {R : It → Hp → Prop} (e : SqL K H p xs) (h : R (Ite K p) H) : enumQ K [.ref p] H R := ⟨p, xs, rfl, e, h⟩
def zipQ (K : PySem.W.Frag) (vs : List V) (H1 : Hp) (R : It → Hp → Prop) : Prop := ∃ a b xs ys, vs = [.ref a, .ref b] ∧ SqL K H1 a xs ∧ SqL K H1 b ys ∧ R (Itz K a b) H1
theorem w_iZip {R : It → Hp → Prop} (h : tA σ H fun vs H1 => zipQ K vs H1 R) : iZip K tA σ H R := h
theorem w_iZipv {R : It → Hp → Prop} (e : SqL K H p xs) (e2 : SqL K H q ys) (h : R (Itz K p q) H) : zipQ K [.ref p, .ref q] H R := ⟨p, q, xs, ys, rfl, e, e2, h⟩
def keysQ (x : V) (H1 : Hp) (R : It → Hp → Prop) : Prop := ∃ d o, x = .ref d ∧ ((∃ kvs, H1 d = some (.frz o (.dK kvs)) ∧ R (Itk d o kvs) H1) ∨ ∃ kvs, H1 d = some (.frz o (.dT kvs)) ∧ R (Itkt d o kvs) H1)
theorem w_iKeys {R : It → Hp → Prop} (h : te σ H fun x H1 => keysQ x H1 R) : iKeys te σ H R := h
/-- d.get(k, e), d.get(k) -/
def get2Q (ty tx : TE) (σ : L2.St) (x : V) (H1 : Hp) (Q : VK) : Prop := ∃ a, x = .ref a ∧ IsD H1 a ∧ ty σ H1 fun y H2 => tx σ H2 fun z H3 => ∃ o, DGet H3 a y o ∧ Q (o.getD z) H3
def getQ (p : Addr) (y z : V) (H : Hp) (Q : VK) : Prop := ∃ o, DGet H p y o ∧ Q (o.getD z) H
theorem w_dget2 (h : td σ H fun x H1 => get2Q ty tx σ x H1 Q) : tDGet2 td ty tx σ H Q := h
theorem w_dget2v (e : H p = some (.dK kvs)) (h : ty σ H fun y H2 => tx σ H2 fun z H3 => getQ p y z H3 Q) : get2Q ty tx σ (.ref p) H Q := ⟨p, rfl, .inl ⟨kvs, .inl e⟩, h⟩
def get1Q (ty : TE) (σ : L2.St) (x : V) (H1 : Hp) (Q : VK) : Prop := ∃ a, x = .ref a ∧ IsD H1 a ∧ ty σ H1 fun y H2 => getQ a y .non H2 Q
theorem w_dget1 (h : td σ H fun x H1 => get1Q ty σ x H1 Q) : tDGet1 td ty σ H Q := h
theorem w_dget1v (e : H p = some (.dK kvs)) (h : ty σ H fun y H2 => getQ p y .non H2 Q) : get1Q ty σ (.ref p) H Q := ⟨p, rfl, .inl ⟨kvs, .inl e⟩, h⟩
theorem w_getI (e : H p = some (.dK kvs)) (h : Q ((valV kvs (.inl i)).getD z) H) : getQ p (.int i) z H Q := ⟨_, DGet.k (k := .inl i) e, h⟩
/-- d.pop(k) -/
def pop1Q (ty : TE) (σ : L2.St) (x : V) (H1 : Hp) (Q : VK) : Prop := ∃ a, x = .ref a ∧ IsD H1 a ∧ ty σ H1 fun y H2 => popQ1 a y H2 Q
where popQ1 (a : Addr) (y : V) (H2 : Hp) (Q : VK) : Prop := ∃ kvs k v, H2 a = some (.dK kvs) ∧ y = kV k ∧ valV kvs k = some v ∧ Q v (upd H2 a (.dK (dropK kvs k)))
theorem w_dpop1 (h : td σ H fun x H1 => pop1Q ty σ x H1 Q) : tDPop1 td ty σ H Q := h
theorem w_dpop1v (e : H p = some (.dK kvs)) (h : ty σ H fun y H2 => pop1Q.popQ1 p y H2 Q) : pop1Q ty σ (.ref p) H Q := ⟨p, rfl, .inl ⟨kvs, .inl e⟩, h⟩
/-- del d[k] -/
def delQ (x y : V) (H2 : Hp) (N : Hp → Prop) : Prop := ∃ a kvs k, x = .ref a ∧ H2 a = some (.dK kvs) ∧ y = kV k ∧ (valV kvs k).isSome = true ∧ N (upd H2 a (.dK (dropK kvs k)))
theorem w_ddel (h : td σ H fun x H1 => ty σ H1 fun y H2 => delQ x y H2 (D.nx σ)) : sDDel td ty D σ H := h
end steps4
section hotdefs
variable {P : Program} {w : World} {K : PySem.W.Frag} {mg : Str → Option Value} {base : Heap}
variable {X : Cx}
def uCallX (a : Addr) (cls : Value) (d : Option Addr) (sp : Addr → Value → Sp) (t : TA) : TE := fun σ H Q => d = none ∧ t σ H fun vs H1 => sp a cls vs H1 Q fun _ _ _ => False
theorem w_callX {a : Addr} {cls : Value} {sp : Addr → Value → Sp} {t : TA} {σ : L2.St} {H : Hp} {Q : VK} (h : t σ H fun vs H1 => sp a cls vs H1 Q fun _ _ _ => False) : uCallX a cls none sp t σ H Q := ⟨rfl, h⟩
end hotdefs
section steps5
variable {K : PySem.W.Frag} {H : Hp} {Q : VK} {s t : Str} {A B : Prop}
theorem ifSF (h : decide (s = t) = false) (k : B) : if decide (s = t) = true then A else B := by rw [h]; exact iteF k
theorem ifST (h : decide (s = t) = true) (k : A) : if decide (s = t) = true then A else B := by rw [h]; exact iteT k
theorem ifSNF (h : decide (s = t) = true) (k : B) : if (!decide (s = t)) = true then A else B := by rw [h]; exact iteF k
theorem ifSNT (h : decide (s = t) = false) (k : A) : if (!decide (s = t)) = true then A else B := by rw [h]; exact iteT k
theorem w_neNN (h : Q (.bl false) H) : uNe K .non .non H Q := .inl ⟨rfl, h⟩
theorem w_eqNN (h : Q (.bl true) H) : uEq K .non .non H Q := .inl ⟨rfl, h⟩
end steps5
section steps6
variable {K : PySem.W.Frag} {H : Hp} {Q : VK} {p : Addr} {n : Int}
theorem w_ixBl {bs : List Bool} (e : SqL K H p (bs.map V.bl)) (h0 : 0 ≤ n ∧ n.toNat < bs.length) (h : Q (.bl (bs.getD n.toNat false)) H) : uIx K (.ref p) (.int n) H Q :=
  ⟨_, .bl (bs.getD n.toNat false), .inl e, by
    have z : (bs.map V.bl)[n.toNat]? = some (.bl (bs.getD n.toNat false)) := by rw [List.getElem?_map, List.getElem?_eq_getElem h0.2, List.getD_eq_getElem?_getD, List.getElem?_eq_getElem h0.2]; rfl
    have y := atI_nat z
    rw [show ((n.toNat : Nat) : Int) = n by omega] at y
    exact y, h⟩
def augSQ (ti te : TE) (g : V → V → Hp → VK → Prop) (op : TIp) (ts : TSet) (D : Ends) (σ : L2.St) (x : V) (H1 : Hp) : Prop := ti σ H1 fun i H2 => g x i H2 fun v H3 => te σ H3 fun y H4 => op v y H4 fun z H5 => ts x i z H5 fun H6 => D.nx σ H6
theorem w_getI2 {ns : List Int} (e : SqL K H p (ns.map V.int)) (h0 : 0 ≤ n ∧ n.toNat < ns.length) (h : Q (.int (ns.getD n.toNat 0)) H) : uGet K (.ref p) (.int n) H Q :=
  .inl ⟨h0.1, _, .int (ns.getD n.toNat 0), e, by rw [List.getElem?_map, List.getElem?_eq_getElem h0.2, List.getD_eq_getElem?_getD, List.getElem?_eq_getElem h0.2]; rfl, h⟩
theorem w_augS {D : Ends} {σ : L2.St} {to ti te : TE} {g : V → V → Hp → VK → Prop} {op : TIp} {ts : TSet} (h : to σ H fun o H1 => augSQ ti te g op ts D σ o H1) : tAugS to ti te g op ts D σ H := h
theorem w_augSQ {D : Ends} {σ : L2.St} {ti te : TE} {g : V → V → Hp → VK → Prop} {op : TIp} {ts : TSet} {x : V} (h : ti σ H fun i H2 => g x i H2 fun v H3 => te σ H3 fun y H4 => op v y H4 fun z H5 => ts x i z H5 fun H6 => D.nx σ H6) : augSQ ti te g op ts D σ x H := h
end steps6
end U
namespace Lam
open PySem PySem.Spec L2 U
local macro_rules | `(tactic| walk_at "te") => `(tactic| fail "no fact")
local macro_rules | `(tactic| walk_at "kt") => `(tactic| fail "no fact")
local macro_rules | `(tactic| walk_at "xc") => `(tactic| fail "no fact")
local macro_rules | `(tactic| walk_at "x") => `(tactic| fail "no step")
local macro_rules | `(tactic| walk_at "hk") => `(tactic| first
  | assumption | exact upd_same | exact SqL.of upd_same | exact SqT.of upd_same
  | (apply sql_old; (· walk_at "hk"); (· assumption)) | (apply upd_old; (· walk_at "hk"); (· assumption)) | (apply sqt_old; (· walk_at "hk"); (· assumption))
  | exact L2.Same.seq (by assumption) (by assumption) | exact U.Same.sqt (by assumption) (by assumption) | exact (by assumption : L2.Same _ _) _ _ (by assumption)
  | (apply SqL.of; walk_at "hk") | (apply SqT.of; walk_at "hk"))
local macro_rules | `(tactic| walk_at "nn") => `(tactic| first | assumption | exact L2.Same.free (by assumption) (by assumption) | exact (none_of_upd (by assumption)).1)
local macro_rules | `(tactic| walk_at "sm") => `(tactic| first | assumption | exact L2.Same.refl _ | (apply same_updN; (· walk_at "sm"); (· assumption)) | (apply same_upd; (· walk_at "sm"); (· walk_at "nn")) | exact L2.Same.trans (by assumption) (by assumption))
local macro_rules | `(tactic| walk_at "s") => `(tactic| first
    | with_reducible refine w_seq ?_
    | with_reducible refine w_op ?_
    | with_reducible refine w_asg ?_
    | with_reducible refine w_name ?_
    | with_reducible refine w_c ?_
    | with_reducible refine w_if ?_
    | with_reducible refine w_test ?_
    | with_reducible refine w_blP ?_
    | with_reducible refine w_cons ?_
    | with_reducible refine w_nil ?_
    | with_reducible refine w_ret ?_
    | with_reducible refine w_call ?_
    | ((with_reducible refine' w_var ?e ?_); (case e => rfl))
    | ((with_reducible refine ifST ?h ?_); (case h => decide +kernel))
    | ((with_reducible refine ifSF ?h ?_); (case h => decide +kernel))
    | ((with_reducible refine ifSNT ?h ?_); (case h => decide +kernel))
    | ((with_reducible refine ifSNF ?h ?_); (case h => decide +kernel))
    | with_reducible refine iteT ?_
    | with_reducible refine iteF ?_
    | with_reducible refine ifNT ?_
    | with_reducible refine ifNF ?_
    | (((with_reducible show @ite Prop (_ = true) _ _ _); refine @ifP _ _ _ _ ?_ ?_) <;> intro h <;> first | (with_reducible exact absurd rfl h) | skip)
    | (((with_reducible show @ite Prop (_ = true) _ _ _); refine @ifN _ _ _ _ ?_ ?_) <;> intro h <;> first | (with_reducible exact absurd rfl h) | skip)
    | with_reducible refine w_eqX ?_
    | with_reducible refine w_neX ?_
    | with_reducible refine w_add ?_
    | with_reducible refine w_sub ?_
    | with_reducible refine w_eqI ?_
    | with_reducible refine w_neI ?_
    | with_reducible refine w_lt ?_
    | with_reducible refine w_le ?_
    | with_reducible refine w_gt ?_
    | with_reducible refine w_ge ?_
    | with_reducible refine w_eqS ?_
    | with_reducible refine w_eqB ?_
    | with_reducible refine w_neS ?_
    | with_reducible refine w_neB ?_
    | with_reducible refine w_cb ?_
    | with_reducible refine w_tup ?_
    | with_reducible refine w_lst ?_
    | with_reducible refine w_next ?_
    | with_reducible refine w_drop ?_
    | with_reducible refine w_not ?_
    | with_reducible refine w_tru ?_
    | with_reducible refine w_and ?_
    | with_reducible refine w_or ?_
    | with_reducible refine w_andV ?_
    | with_reducible refine w_orV ?_
    | with_reducible refine w_notV ?_
    | with_reducible refine w_ifE ?_
    | with_reducible refine w_chain ?_
    | with_reducible refine w_retN ?_
    | with_reducible refine w_bm ?_
    | with_reducible refine w_raise ?_
    | with_reducible refine w_fld ?_
    | with_reducible refine w_meth ?_
    | with_reducible refine w_setf ?_
    | with_reducible refine w_for ?_
    | with_reducible refine w_rng1 ?_
    | with_reducible refine w_rng2 ?_
    | with_reducible refine w_iList ?_
    | with_reducible refine w_iTup ?_
    | with_reducible refine w_iStr ?_
    | with_reducible refine w_iRev ?_
    | with_reducible refine w_brk ?_
    | with_reducible refine w_cont ?_
    | with_reducible refine w_un ?_
    | with_reducible refine w_lc ?_
    | with_reducible refine w_yes ?_
    | with_reducible refine w_gsub ?_
    | with_reducible refine w_sl ?_
    | with_reducible refine w_part ?_
    | with_reducible refine w_noPart ?_
    | with_reducible refine w_wh ?_
    | with_reducible refine w_tryAs ?_
    | with_reducible refine w_try ?_
    | with_reducible refine w_make ?_
    | with_reducible refine w_dget ?_
    | with_reducible refine w_dput ?_
    | with_reducible refine w_gcons ?_
    | with_reducible refine w_gnil ?_
    | with_reducible refine w_augf ?_
    | with_reducible refine w_iEnum ?_
    | with_reducible refine w_iZip ?_
    | with_reducible refine w_iKeys ?_
    | with_reducible refine w_dget2 ?_
    | with_reducible refine w_dget1 ?_
    | with_reducible refine w_dpop1 ?_
    | with_reducible refine w_ddel ?_
    | with_reducible refine w_callX ?_
    | with_reducible refine w_augS ?_
    | with_reducible refine w_augSQ ?_
    | ((with_reducible refine' w_aug ?e ?_); (case e => rfl))
    | ((with_reducible refine w_mul ?s ?_); (case s => first | exact Or.inr ⟨by omega, by omega⟩ | exact Or.inl ⟨by omega, by omega⟩))
    | ((with_reducible refine w_div ?s ?_); (case s => omega))
    | ((with_reducible refine w_mod ?s ?_); (case s => first | omega | decide))
    | ((with_reducible refine w_pow ?s ?_); (case s => first | exact ⟨by decide, by decide, by decide⟩ | exact ⟨by decide, by decide, by omega⟩))
    | ((with_reducible refine w_newL ?s ?_); (case s => (first | exact (by decide) | (simp only [List.length_cons, List.length_nil]; omega))); intro _ _)
    | ((with_reducible refine w_newT ?s ?_); (case s => (first | exact (by decide) | (simp only [List.length_cons, List.length_nil]; omega))); intro _ _)
    | with_reducible refine w_eqX ?_
    | with_reducible refine w_neX ?_
    | with_reducible refine w_findX ?_
    | with_reducible refine w_countX ?_
    | ((with_reducible refine w_lenX ?s ?_); (case s => (first | omega | (simp only [List.length_append, List.length_cons, List.length_nil, List.length_take, List.length_drop, List.length_replicate, List.length_map, List.length_range] at *; omega) | (simp only [List.length_append, List.length_cons, List.length_nil, List.length_take, List.length_drop, List.length_replicate, List.length_map, List.length_range]; omega) | decide)))
    | ((with_reducible refine w_truX ?s ?_); (case s => (first | omega | (simp only [List.length_append, List.length_cons, List.length_nil, List.length_take, List.length_drop, List.length_replicate, List.length_map, List.length_range] at *; omega) | (simp only [List.length_append, List.length_cons, List.length_nil, List.length_take, List.length_drop, List.length_replicate, List.length_map, List.length_range]; omega) | decide)))
    | ((with_reducible refine w_addX ?s ?_); (case s => (first | omega | (simp only [List.length_append, List.length_cons, List.length_nil, List.length_take, List.length_drop, List.length_replicate, List.length_map, List.length_range] at *; omega) | (simp only [List.length_append, List.length_cons, List.length_nil, List.length_take, List.length_drop, List.length_replicate, List.length_map, List.length_range]; omega) | decide)))
    | ((with_reducible refine w_mulX ?h0 ?h1 ?_); (case h0 => (first | omega | (simp only [List.length_append, List.length_cons, List.length_nil, List.length_take, List.length_drop, List.length_replicate, List.length_map, List.length_range] at *; omega) | (simp only [List.length_append, List.length_cons, List.length_nil, List.length_take, List.length_drop, List.length_replicate, List.length_map, List.length_range]; omega) | decide)); (case h1 => (first | omega | (simp only [List.length_append, List.length_cons, List.length_nil, List.length_take, List.length_drop, List.length_replicate, List.length_map, List.length_range] at *; omega) | (simp only [List.length_append, List.length_cons, List.length_nil, List.length_take, List.length_drop, List.length_replicate, List.length_map, List.length_range]; omega) | decide)))
    | ((with_reducible refine w_tkX ?s ?h0 ?_); (case s => (first | omega | (simp only [List.length_append, List.length_cons, List.length_nil, List.length_take, List.length_drop, List.length_replicate, List.length_map, List.length_range] at *; omega) | (simp only [List.length_append, List.length_cons, List.length_nil, List.length_take, List.length_drop, List.length_replicate, List.length_map, List.length_range]; omega) | decide)); (case h0 => (first | omega | (simp only [List.length_append, List.length_cons, List.length_nil, List.length_take, List.length_drop, List.length_replicate, List.length_map, List.length_range] at *; omega) | (simp only [List.length_append, List.length_cons, List.length_nil, List.length_take, List.length_drop, List.length_replicate, List.length_map, List.length_range]; omega) | decide)))
    | ((with_reducible refine w_dpX ?s ?h0 ?_); (case s => (first | omega | (simp only [List.length_append, List.length_cons, List.length_nil, List.length_take, List.length_drop, List.length_replicate, List.length_map, List.length_range] at *; omega) | (simp only [List.length_append, List.length_cons, List.length_nil, List.length_take, List.length_drop, List.length_replicate, List.length_map, List.length_range]; omega) | decide)); (case h0 => (first | omega | (simp only [List.length_append, List.length_cons, List.length_nil, List.length_take, List.length_drop, List.length_replicate, List.length_map, List.length_range] at *; omega) | (simp only [List.length_append, List.length_cons, List.length_nil, List.length_take, List.length_drop, List.length_replicate, List.length_map, List.length_range]; omega) | decide)))
    | ((with_reducible refine w_ixX ?s ?h0 ?_); (case s => (first | omega | (simp only [List.length_append, List.length_cons, List.length_nil, List.length_take, List.length_drop, List.length_replicate, List.length_map, List.length_range] at *; omega) | (simp only [List.length_append, List.length_cons, List.length_nil, List.length_take, List.length_drop, List.length_replicate, List.length_map, List.length_range]; omega) | decide)); (case h0 => (first | omega | (simp only [List.length_append, List.length_cons, List.length_nil, List.length_take, List.length_drop, List.length_replicate, List.length_map, List.length_range] at *; omega) | (simp only [List.length_append, List.length_cons, List.length_nil, List.length_take, List.length_drop, List.length_replicate, List.length_map, List.length_range]; omega) | decide)))
    | with_reducible refine w_max ?_
    | with_reducible refine w_min ?_
    | with_reducible refine w_eqNI ?_
    | with_reducible refine w_neNI ?_
    | with_reducible refine w_eqIN ?_
    | with_reducible refine w_neIN ?_
    | with_reducible refine w_neNN ?_
    | with_reducible refine w_eqNN ?_
    | with_reducible refine w_abs ?_
    | with_reducible refine w_intI ?_
    | with_reducible refine w_intB ?_
    | with_reducible refine w_ipI ?_
    | with_reducible refine w_bmS ?_
    | with_reducible refine w_iStrv ?_
    | with_reducible refine w_neg ?_
    | with_reducible refine w_partI ?_
    | with_reducible refine w_truB ?_
    | with_reducible refine w_truN ?_
    | with_reducible refine w_truI ?_
    | with_reducible refine w_isi_int_int ?_
    | with_reducible refine w_isi_int_bl ?_
    | with_reducible refine w_isi_int_str ?_
    | with_reducible refine w_isi_int_non ?_
    | with_reducible refine w_isi_bool_int ?_
    | with_reducible refine w_isi_bool_bl ?_
    | with_reducible refine w_isi_bool_str ?_
    | with_reducible refine w_isi_bool_non ?_
    | with_reducible refine w_isi_str_int ?_
    | with_reducible refine w_isi_str_bl ?_
    | with_reducible refine w_isi_str_str ?_
    | with_reducible refine w_isi_str_non ?_
    | with_reducible refine w_isi_list_int ?_
    | with_reducible refine w_isi_list_bl ?_
    | with_reducible refine w_isi_list_str ?_
    | with_reducible refine w_isi_list_non ?_
    | with_reducible refine w_isi_tuple_int ?_
    | with_reducible refine w_isi_tuple_bl ?_
    | with_reducible refine w_isi_tuple_str ?_
    | with_reducible refine w_isi_tuple_non ?_
    | with_reducible refine w_is_int ?_
    | with_reducible refine w_isnt_int ?_
    | with_reducible refine w_is_bl ?_
    | with_reducible refine w_isnt_bl ?_
    | with_reducible refine w_is_str ?_
    | with_reducible refine w_isnt_str ?_
    | with_reducible refine w_is_non ?_
    | with_reducible refine w_isnt_non ?_
    | with_reducible refine w_is_ref ?_
    | with_reducible refine w_isnt_ref ?_
    | ((with_reducible refine w_asT ?e ?_); (case e => walk_at "te"); intro _ _)
    | ((with_reducible refine w_onT ?e ?_); (case e => walk_at "te"); intro _ _)
    | ((with_reducible refine w_asF ?e ?_); (case e => walk_at "te"))
    | ((with_reducible refine w_onF ?e ?_); (case e => walk_at "te"))
    | ((with_reducible apply w_isE); (· walk_at "xc"); (· walk_at "kt"))
    | ((with_reducible apply w_lenL); (· walk_at "hk"))
    | ((with_reducible apply w_lenT); (· walk_at "hk"))
    | ((with_reducible apply w_bmL); (· walk_at "hk"))
    | ((with_reducible refine w_rng1v ?h1 ?h2 ?_); (case h1 => (first | omega | (simp only [List.length_map] at *; omega))); (case h2 => (first | omega | (simp only [List.length_map] at *; omega))))
    | ((with_reducible refine w_rng2v ?h1 ?_); (case h1 => (first | omega | (simp only [List.length_map] at *; omega))))
    | ((with_reducible apply w_ixI); (· walk_at "hk"); (· (first | omega | (simp only [List.length_map] at *; omega))))
    | ((with_reducible apply w_ixTI); (· walk_at "hk"); (· (first | omega | (simp only [List.length_map] at *; omega))))
    | ((with_reducible apply w_ixBl); (· walk_at "hk"); (· (first | omega | (simp only [List.length_map] at *; omega))))
    | ((with_reducible apply w_getI2); (· walk_at "hk"); (· (first | omega | (simp only [List.length_map] at *; omega))))
    | ((with_reducible apply w_ixTl); (· walk_at "hk"); (· rfl); (· decide))
    | ((with_reducible apply w_ixLl); (· walk_at "hk"); (· rfl); (· decide))
    | ((with_reducible apply w_appI); (· walk_at "hk"); (· (first | omega | (simp only [List.length_append, List.length_cons, List.length_nil]; omega))))
    | ((with_reducible apply w_iListv); (· walk_at "hk"))
    | ((with_reducible apply w_iTupv); (· walk_at "hk"))
    | ((with_reducible apply w_iRevv); (· walk_at "hk"))
    | ((with_reducible apply w_iEnumv); (· walk_at "hk"))
    | ((with_reducible apply w_iZipv); (· walk_at "hk"); (· walk_at "hk"))
    | ((with_reducible apply w_dget2v); (· walk_at "hk"))
    | ((with_reducible apply w_dget1v); (· walk_at "hk"))
    | ((with_reducible apply w_dpop1v); (· walk_at "hk"))
    | ((with_reducible apply w_getI); (· walk_at "hk"))
    | ((with_reducible apply w_inD); (· walk_at "hk"))
    | ((with_reducible apply w_ninD); (· walk_at "hk"))
    | ((with_reducible apply w_rep1); (· walk_at "hk"); (· (first | omega | (simp only [List.length_append, List.length_cons, List.length_nil, List.length_take, List.length_drop, List.length_replicate, List.length_map, List.length_range] at *; omega) | (simp only [List.length_append, List.length_cons, List.length_nil, List.length_take, List.length_drop, List.length_replicate, List.length_map, List.length_range]; omega) | decide)); (· (first | omega | (simp only [List.length_append, List.length_cons, List.length_nil, List.length_take, List.length_drop, List.length_replicate, List.length_map, List.length_range] at *; omega) | (simp only [List.length_append, List.length_cons, List.length_nil, List.length_take, List.length_drop, List.length_replicate, List.length_map, List.length_range]; omega) | decide)); intro _ _)
    | ((with_reducible apply w_gtup2); (· walk_at "hk"))
    | ((with_reducible apply w_gtup3); (· walk_at "hk"))
    | ((with_reducible apply w_gtup4); (· walk_at "hk"))
    | ((with_reducible refine w_newD ?_); intro _ _)
    | ((with_reducible apply w_augsub); (· walk_at "hk"); (· rfl); (· exact Nat.le_of_ble_eq_true rfl))
    | ((with_reducible apply w_augadd); (· walk_at "hk"); (· rfl); (· exact Nat.le_of_ble_eq_true rfl))
    | ((with_reducible apply w_fldv); (· walk_at "hk"); (· rfl))
    | ((with_reducible apply w_methv); (· walk_at "hk"); (· rfl))
    | ((with_reducible apply w_setfv); (· walk_at "hk"); (· exact Nat.le_of_ble_eq_true rfl); (· rfl))
    | walk_at "x")
local macro_rules | `(tactic| walk_at "run1") => `(tactic| repeat (first
    | with_reducible refine w_seq ?_
    | with_reducible refine w_op ?_
    | with_reducible refine w_asg ?_
    | with_reducible refine w_name ?_
    | with_reducible refine w_c ?_
    | with_reducible refine w_if ?_
    | with_reducible refine w_test ?_
    | with_reducible refine w_blP ?_
    | with_reducible refine w_cons ?_
    | with_reducible refine w_nil ?_
    | with_reducible refine w_ret ?_
    | with_reducible refine w_call ?_
    | ((with_reducible refine' w_var ?e ?_); (case e => rfl))
    | ((with_reducible refine ifST ?h ?_); (case h => decide +kernel))
    | ((with_reducible refine ifSF ?h ?_); (case h => decide +kernel))
    | ((with_reducible refine ifSNT ?h ?_); (case h => decide +kernel))
    | ((with_reducible refine ifSNF ?h ?_); (case h => decide +kernel))
    | with_reducible refine iteT ?_
    | with_reducible refine iteF ?_
    | with_reducible refine ifNT ?_
    | with_reducible refine ifNF ?_
    | (((with_reducible show @ite Prop (_ = true) _ _ _); refine @ifP _ _ _ _ ?_ ?_) <;> intro h <;> first | (with_reducible exact absurd rfl h) | skip)
    | (((with_reducible show @ite Prop (_ = true) _ _ _); refine @ifN _ _ _ _ ?_ ?_) <;> intro h <;> first | (with_reducible exact absurd rfl h) | skip)
    | with_reducible refine w_eqX ?_
    | with_reducible refine w_neX ?_
    | with_reducible refine w_add ?_
    | with_reducible refine w_sub ?_
    | with_reducible refine w_eqI ?_
    | with_reducible refine w_neI ?_
    | with_reducible refine w_lt ?_
    | with_reducible refine w_le ?_
    | with_reducible refine w_gt ?_
    | with_reducible refine w_ge ?_
    | with_reducible refine w_eqS ?_
    | with_reducible refine w_eqB ?_
    | with_reducible refine w_neS ?_
    | with_reducible refine w_neB ?_
    | with_reducible refine w_cb ?_
    | with_reducible refine w_tup ?_
    | with_reducible refine w_lst ?_
    | with_reducible refine w_next ?_
    | with_reducible refine w_drop ?_
    | with_reducible refine w_not ?_
    | with_reducible refine w_tru ?_
    | with_reducible refine w_and ?_
    | with_reducible refine w_or ?_
    | with_reducible refine w_andV ?_
    | with_reducible refine w_orV ?_
    | with_reducible refine w_notV ?_
    | with_reducible refine w_ifE ?_
    | with_reducible refine w_chain ?_
    | with_reducible refine w_retN ?_
    | with_reducible refine w_bm ?_
    | with_reducible refine w_raise ?_
    | with_reducible refine w_fld ?_
    | with_reducible refine w_meth ?_
    | with_reducible refine w_setf ?_
    | with_reducible refine w_for ?_
    | with_reducible refine w_rng1 ?_
    | with_reducible refine w_rng2 ?_
    | with_reducible refine w_iList ?_
    | with_reducible refine w_iTup ?_
    | with_reducible refine w_iStr ?_
    | with_reducible refine w_iRev ?_
    | with_reducible refine w_brk ?_
    | with_reducible refine w_cont ?_
    | with_reducible refine w_un ?_
    | with_reducible refine w_lc ?_
    | with_reducible refine w_yes ?_
    | with_reducible refine w_gsub ?_
    | with_reducible refine w_sl ?_
    | with_reducible refine w_part ?_
    | with_reducible refine w_noPart ?_
    | with_reducible refine w_wh ?_
    | with_reducible refine w_tryAs ?_
    | with_reducible refine w_try ?_
    | with_reducible refine w_make ?_
    | with_reducible refine w_dget ?_
    | with_reducible refine w_dput ?_
    | with_reducible refine w_gcons ?_
    | with_reducible refine w_gnil ?_
    | with_reducible refine w_augf ?_
    | with_reducible refine w_iEnum ?_
    | with_reducible refine w_iZip ?_
    | with_reducible refine w_iKeys ?_
    | with_reducible refine w_dget2 ?_
    | with_reducible refine w_dget1 ?_
    | with_reducible refine w_dpop1 ?_
    | with_reducible refine w_ddel ?_
    | with_reducible refine w_callX ?_
    | with_reducible refine w_augS ?_
    | with_reducible refine w_augSQ ?_
    | ((with_reducible refine' w_aug ?e ?_); (case e => rfl))
    | ((with_reducible refine w_mul ?s ?_); (case s => first | exact Or.inr ⟨by omega, by omega⟩ | exact Or.inl ⟨by omega, by omega⟩))
    | ((with_reducible refine w_div ?s ?_); (case s => omega))
    | ((with_reducible refine w_mod ?s ?_); (case s => first | omega | decide))
    | ((with_reducible refine w_pow ?s ?_); (case s => first | exact ⟨by decide, by decide, by decide⟩ | exact ⟨by decide, by decide, by omega⟩))
    | ((with_reducible refine w_newL ?s ?_); (case s => (first | exact (by decide) | (simp only [List.length_cons, List.length_nil]; omega))); intro _ _)
    | ((with_reducible refine w_newT ?s ?_); (case s => (first | exact (by decide) | (simp only [List.length_cons, List.length_nil]; omega))); intro _ _)
    | with_reducible refine w_eqX ?_
    | with_reducible refine w_neX ?_
    | with_reducible refine w_findX ?_
    | with_reducible refine w_countX ?_
    | ((with_reducible refine w_lenX ?s ?_); (case s => (first | omega | (simp only [List.length_append, List.length_cons, List.length_nil, List.length_take, List.length_drop, List.length_replicate, List.length_map, List.length_range] at *; omega) | (simp only [List.length_append, List.length_cons, List.length_nil, List.length_take, List.length_drop, List.length_replicate, List.length_map, List.length_range]; omega) | decide)))
    | ((with_reducible refine w_truX ?s ?_); (case s => (first | omega | (simp only [List.length_append, List.length_cons, List.length_nil, List.length_take, List.length_drop, List.length_replicate, List.length_map, List.length_range] at *; omega) | (simp only [List.length_append, List.length_cons, List.length_nil, List.length_take, List.length_drop, List.length_replicate, List.length_map, List.length_range]; omega) | decide)))
    | ((with_reducible refine w_addX ?s ?_); (case s => (first | omega | (simp only [List.length_append, List.length_cons, List.length_nil, List.length_take, List.length_drop, List.length_replicate, List.length_map, List.length_range] at *; omega) | (simp only [List.length_append, List.length_cons, List.length_nil, List.length_take, List.length_drop, List.length_replicate, List.length_map, List.length_range]; omega) | decide)))
    | ((with_reducible refine w_mulX ?h0 ?h1 ?_); (case h0 => (first | omega | (simp only [List.length_append, List.length_cons, List.length_nil, List.length_take, List.length_drop, List.length_replicate, List.length_map, List.length_range] at *; omega) | (simp only [List.length_append, List.length_cons, List.length_nil, List.length_take, List.length_drop, List.length_replicate, List.length_map, List.length_range]; omega) | decide)); (case h1 => (first | omega | (simp only [List.length_append, List.length_cons, List.length_nil, List.length_take, List.length_drop, List.length_replicate, List.length_map, List.length_range] at *; omega) | (simp only [List.length_append, List.length_cons, List.length_nil, List.length_take, List.length_drop, List.length_replicate, List.length_map, List.length_range]; omega) | decide)))
    | ((with_reducible refine w_tkX ?s ?h0 ?_); (case s => (first | omega | (simp only [List.length_append, List.length_cons, List.length_nil, List.length_take, List.length_drop, List.length_replicate, List.length_map, List.length_range] at *; omega) | (simp only [List.length_append, List.length_cons, List.length_nil, List.length_take, List.length_drop, List.length_replicate, List.length_map, List.length_range]; omega) | decide)); (case h0 => (first | omega | (simp only [List.length_append, List.length_cons, List.length_nil, List.length_take, List.length_drop, List.length_replicate, List.length_map, List.length_range] at *; omega) | (simp only [List.length_append, List.length_cons, List.length_nil, List.length_take, List.length_drop, List.length_replicate, List.length_map, List.length_range]; omega) | decide)))
    | ((with_reducible refine w_dpX ?s ?h0 ?_); (case s => (first | omega | (simp only [List.length_append, List.length_cons, List.length_nil, List.length_take, List.length_drop, List.length_replicate, List.length_map, List.length_range] at *; omega) | (simp only [List.length_append, List.length_cons, List.length_nil, List.length_take, List.length_drop, List.length_replicate, List.length_map, List.length_range]; omega) | decide)); (case h0 => (first | omega | (simp only [List.length_append, List.length_cons, List.length_nil, List.length_take, List.length_drop, List.length_replicate, List.length_map, List.length_range] at *; omega) | (simp only [List.length_append, List.length_cons, List.length_nil, List.length_take, List.length_drop, List.length_replicate, List.length_map, List.length_range]; omega) | decide)))
    | ((with_reducible refine w_ixX ?s ?h0 ?_); (case s => (first | omega | (simp only [List.length_append, List.length_cons, List.length_nil, List.length_take, List.length_drop, List.length_replicate, List.length_map, List.length_range] at *; omega) | (simp only [List.length_append, List.length_cons, List.length_nil, List.length_take, List.length_drop, List.length_replicate, List.length_map, List.length_range]; omega) | decide)); (case h0 => (first | omega | (simp only [List.length_append, List.length_cons, List.length_nil, List.length_take, List.length_drop, List.length_replicate, List.length_map, List.length_range] at *; omega) | (simp only [List.length_append, List.length_cons, List.length_nil, List.length_take, List.length_drop, List.length_replicate, List.length_map, List.length_range]; omega) | decide)))
    | with_reducible refine w_max ?_
    | with_reducible refine w_min ?_
    | with_reducible refine w_eqNI ?_
    | with_reducible refine w_neNI ?_
    | with_reducible refine w_eqIN ?_
    | with_reducible refine w_neIN ?_
    | with_reducible refine w_neNN ?_
    | with_reducible refine w_eqNN ?_
    | with_reducible refine w_abs ?_
    | with_reducible refine w_intI ?_
    | with_reducible refine w_intB ?_
    | with_reducible refine w_ipI ?_
    | with_reducible refine w_bmS ?_
    | with_reducible refine w_iStrv ?_
    | with_reducible refine w_neg ?_
    | with_reducible refine w_partI ?_
    | with_reducible refine w_truB ?_
    | with_reducible refine w_truN ?_
    | with_reducible refine w_truI ?_
    | with_reducible refine w_isi_int_int ?_
    | with_reducible refine w_isi_int_bl ?_
    | with_reducible refine w_isi_int_str ?_
    | with_reducible refine w_isi_int_non ?_
    | with_reducible refine w_isi_bool_int ?_
    | with_reducible refine w_isi_bool_bl ?_
    | with_reducible refine w_isi_bool_str ?_
    | with_reducible refine w_isi_bool_non ?_
    | with_reducible refine w_isi_str_int ?_
    | with_reducible refine w_isi_str_bl ?_
    | with_reducible refine w_isi_str_str ?_
    | with_reducible refine w_isi_str_non ?_
    | with_reducible refine w_isi_list_int ?_
    | with_reducible refine w_isi_list_bl ?_
    | with_reducible refine w_isi_list_str ?_
    | with_reducible refine w_isi_list_non ?_
    | with_reducible refine w_isi_tuple_int ?_
    | with_reducible refine w_isi_tuple_bl ?_
    | with_reducible refine w_isi_tuple_str ?_
    | with_reducible refine w_isi_tuple_non ?_
    | with_reducible refine w_is_int ?_
    | with_reducible refine w_isnt_int ?_
    | with_reducible refine w_is_bl ?_
    | with_reducible refine w_isnt_bl ?_
    | with_reducible refine w_is_str ?_
    | with_reducible refine w_isnt_str ?_
    | with_reducible refine w_is_non ?_
    | with_reducible refine w_isnt_non ?_
    | with_reducible refine w_is_ref ?_
    | with_reducible refine w_isnt_ref ?_
    | ((with_reducible refine w_asT ?e ?_); (case e => walk_at "te"); intro _ _)
    | ((with_reducible refine w_onT ?e ?_); (case e => walk_at "te"); intro _ _)
    | ((with_reducible refine w_asF ?e ?_); (case e => walk_at "te"))
    | ((with_reducible refine w_onF ?e ?_); (case e => walk_at "te"))
    | ((with_reducible apply w_isE); (· walk_at "xc"); (· walk_at "kt"))
    | ((with_reducible apply w_lenL); (· walk_at "hk"))
    | ((with_reducible apply w_lenT); (· walk_at "hk"))
    | ((with_reducible apply w_bmL); (· walk_at "hk"))
    | ((with_reducible refine w_rng1v ?h1 ?h2 ?_); (case h1 => (first | omega | (simp only [List.length_map] at *; omega))); (case h2 => (first | omega | (simp only [List.length_map] at *; omega))))
    | ((with_reducible refine w_rng2v ?h1 ?_); (case h1 => (first | omega | (simp only [List.length_map] at *; omega))))
    | ((with_reducible apply w_ixI); (· walk_at "hk"); (· (first | omega | (simp only [List.length_map] at *; omega))))
    | ((with_reducible apply w_ixTI); (· walk_at "hk"); (· (first | omega | (simp only [List.length_map] at *; omega))))
    | ((with_reducible apply w_ixBl); (· walk_at "hk"); (· (first | omega | (simp only [List.length_map] at *; omega))))
    | ((with_reducible apply w_getI2); (· walk_at "hk"); (· (first | omega | (simp only [List.length_map] at *; omega))))
    | ((with_reducible apply w_ixTl); (· walk_at "hk"); (· rfl); (· decide))
    | ((with_reducible apply w_ixLl); (· walk_at "hk"); (· rfl); (· decide))
    | ((with_reducible apply w_appI); (· walk_at "hk"); (· (first | omega | (simp only [List.length_append, List.length_cons, List.length_nil]; omega))))
    | ((with_reducible apply w_iListv); (· walk_at "hk"))
    | ((with_reducible apply w_iTupv); (· walk_at "hk"))
    | ((with_reducible apply w_iRevv); (· walk_at "hk"))
    | ((with_reducible apply w_iEnumv); (· walk_at "hk"))
    | ((with_reducible apply w_iZipv); (· walk_at "hk"); (· walk_at "hk"))
    | ((with_reducible apply w_dget2v); (· walk_at "hk"))
    | ((with_reducible apply w_dget1v); (· walk_at "hk"))
    | ((with_reducible apply w_dpop1v); (· walk_at "hk"))
    | ((with_reducible apply w_getI); (· walk_at "hk"))
    | ((with_reducible apply w_inD); (· walk_at "hk"))
    | ((with_reducible apply w_ninD); (· walk_at "hk"))
    | ((with_reducible apply w_rep1); (· walk_at "hk"); (· (first | omega | (simp only [List.length_append, List.length_cons, List.length_nil, List.length_take, List.length_drop, List.length_replicate, List.length_map, List.length_range] at *; omega) | (simp only [List.length_append, List.length_cons, List.length_nil, List.length_take, List.length_drop, List.length_replicate, List.length_map, List.length_range]; omega) | decide)); (· (first | omega | (simp only [List.length_append, List.length_cons, List.length_nil, List.length_take, List.length_drop, List.length_replicate, List.length_map, List.length_range] at *; omega) | (simp only [List.length_append, List.length_cons, List.length_nil, List.length_take, List.length_drop, List.length_replicate, List.length_map, List.length_range]; omega) | decide)); intro _ _)
    | ((with_reducible apply w_gtup2); (· walk_at "hk"))
    | ((with_reducible apply w_gtup3); (· walk_at "hk"))
    | ((with_reducible apply w_gtup4); (· walk_at "hk"))
    | ((with_reducible refine w_newD ?_); intro _ _)
    | ((with_reducible apply w_augsub); (· walk_at "hk"); (· rfl); (· exact Nat.le_of_ble_eq_true rfl))
    | ((with_reducible apply w_augadd); (· walk_at "hk"); (· rfl); (· exact Nat.le_of_ble_eq_true rfl))
    | ((with_reducible apply w_fldv); (· walk_at "hk"); (· rfl))
    | ((with_reducible apply w_methv); (· walk_at "hk"); (· rfl))
    | ((with_reducible apply w_setfv); (· walk_at "hk"); (· exact Nat.le_of_ble_eq_true rfl); (· rfl))
    | walk_at "x"))
local macro_rules | `(tactic| walk_at "run") => `(tactic| repeat' (first
    | with_reducible refine w_seq ?_
    | with_reducible refine w_op ?_
    | with_reducible refine w_asg ?_
    | with_reducible refine w_name ?_
    | with_reducible refine w_c ?_
    | with_reducible refine w_if ?_
    | with_reducible refine w_test ?_
    | with_reducible refine w_blP ?_
    | with_reducible refine w_cons ?_
    | with_reducible refine w_nil ?_
    | with_reducible refine w_ret ?_
    | with_reducible refine w_call ?_
    | ((with_reducible refine' w_var ?e ?_); (case e => rfl))
    | ((with_reducible refine ifST ?h ?_); (case h => decide +kernel))
    | ((with_reducible refine ifSF ?h ?_); (case h => decide +kernel))
    | ((with_reducible refine ifSNT ?h ?_); (case h => decide +kernel))
    | ((with_reducible refine ifSNF ?h ?_); (case h => decide +kernel))
    | with_reducible refine iteT ?_
    | with_reducible refine iteF ?_
    | with_reducible refine ifNT ?_
    | with_reducible refine ifNF ?_
    | (((with_reducible show @ite Prop (_ = true) _ _ _); refine @ifP _ _ _ _ ?_ ?_) <;> intro h <;> first | (with_reducible exact absurd rfl h) | skip)
    | (((with_reducible show @ite Prop (_ = true) _ _ _); refine @ifN _ _ _ _ ?_ ?_) <;> intro h <;> first | (with_reducible exact absurd rfl h) | skip)
    | with_reducible refine w_eqX ?_
    | with_reducible refine w_neX ?_
    | with_reducible refine w_add ?_
    | with_reducible refine w_sub ?_
    | with_reducible refine w_eqI ?_
    | with_reducible refine w_neI ?_
    | with_reducible refine w_lt ?_
    | with_reducible refine w_le ?_
    | with_reducible refine w_gt ?_
    | with_reducible refine w_ge ?_
    | with_reducible refine w_eqS ?_
    | with_reducible refine w_eqB ?_
    | with_reducible refine w_neS ?_
    | with_reducible refine w_neB ?_
    | with_reducible refine w_cb ?_
    | with_reducible refine w_tup ?_
    | with_reducible refine w_lst ?_
    | with_reducible refine w_next ?_
    | with_reducible refine w_drop ?_
    | with_reducible refine w_not ?_
    | with_reducible refine w_tru ?_
    | with_reducible refine w_and ?_
    | with_reducible refine w_or ?_
    | with_reducible refine w_andV ?_
    | with_reducible refine w_orV ?_
    | with_reducible refine w_notV ?_
    | with_reducible refine w_ifE ?_
    | with_reducible refine w_chain ?_
    | with_reducible refine w_retN ?_
    | with_reducible refine w_bm ?_
    | with_reducible refine w_raise ?_
    | with_reducible refine w_fld ?_
    | with_reducible refine w_meth ?_
    | with_reducible refine w_setf ?_
    | with_reducible refine w_for ?_
    | with_reducible refine w_rng1 ?_
    | with_reducible refine w_rng2 ?_
    | with_reducible refine w_iList ?_
    | with_reducible refine w_iTup ?_
    | with_reducible refine w_iStr ?_
    | with_reducible refine w_iRev ?_
    | with_reducible refine w_brk ?_
    | with_reducible refine w_cont ?_
    | with_reducible refine w_un ?_
    | with_reducible refine w_lc ?_
    | with_reducible refine w_yes ?_
    | with_reducible refine w_gsub ?_
    | with_reducible refine w_sl ?_
    | with_reducible refine w_part ?_
    | with_reducible refine w_noPart ?_
    | with_reducible refine w_wh ?_
    | with_reducible refine w_tryAs ?_
    | with_reducible refine w_try ?_
    | with_reducible refine w_make ?_
    | with_reducible refine w_dget ?_
    | with_reducible refine w_dput ?_
    | with_reducible refine w_gcons ?_
    | with_reducible refine w_gnil ?_
    | with_reducible refine w_augf ?_
    | with_reducible refine w_iEnum ?_
    | with_reducible refine w_iZip ?_
    | with_reducible refine w_iKeys ?_
    | with_reducible refine w_dget2 ?_
    | with_reducible refine w_dget1 ?_
    | with_reducible refine w_dpop1 ?_
    | with_reducible refine w_ddel ?_
    | with_reducible refine w_callX ?_
    | with_reducible refine w_augS ?_
    | with_reducible refine w_augSQ ?_
    | ((with_reducible refine' w_aug ?e ?_); (case e => rfl))
    | ((with_reducible refine w_mul ?s ?_); (case s => first | exact Or.inr ⟨by omega, by omega⟩ | exact Or.inl ⟨by omega, by omega⟩))
    | ((with_reducible refine w_div ?s ?_); (case s => omega))
    | ((with_reducible refine w_mod ?s ?_); (case s => first | omega | decide))
    | ((with_reducible refine w_pow ?s ?_); (case s => first | exact ⟨by decide, by decide, by decide⟩ | exact ⟨by decide, by decide, by omega⟩))
    | ((with_reducible refine w_newL ?s ?_); (case s => (first | exact (by decide) | (simp only [List.length_cons, List.length_nil]; omega))); intro _ _)
    | ((with_reducible refine w_newT ?s ?_); (case s => (first | exact (by decide) | (simp only [List.length_cons, List.length_nil]; omega))); intro _ _)
    | with_reducible refine w_eqX ?_
    | with_reducible refine w_neX ?_
    | with_reducible refine w_findX ?_
    | with_reducible refine w_countX ?_
    | ((with_reducible refine w_lenX ?s ?_); (case s => (first | omega | (simp only [List.length_append, List.length_cons, List.length_nil, List.length_take, List.length_drop, List.length_replicate, List.length_map, List.length_range] at *; omega) | (simp only [List.length_append, List.length_cons, List.length_nil, List.length_take, List.length_drop, List.length_replicate, List.length_map, List.length_range]; omega) | decide)))
    | ((with_reducible refine w_truX ?s ?_); (case s => (first | omega | (simp only [List.length_append, List.length_cons, List.length_nil, List.length_take, List.length_drop, List.length_replicate, List.length_map, List.length_range] at *; omega) | (simp only [List.length_append, List.length_cons, List.length_nil, List.length_take, List.length_drop, List.length_replicate, List.length_map, List.length_range]; omega) | decide)))
    | ((with_reducible refine w_addX ?s ?_); (case s => (first | omega | (simp only [List.length_append, List.length_cons, List.length_nil, List.length_take, List.length_drop, List.length_replicate, List.length_map, List.length_range] at *; omega) | (simp only [List.length_append, List.length_cons, List.length_nil, List.length_take, List.length_drop, List.length_replicate, List.length_map, List.length_range]; omega) | decide)))
    | ((with_reducible refine w_mulX ?h0 ?h1 ?_); (case h0 => (first | omega | (simp only [List.length_append, List.length_cons, List.length_nil, List.length_take, List.length_drop, List.length_replicate, List.length_map, List.length_range] at *; omega) | (simp only [List.length_append, List.length_cons, List.length_nil, List.length_take, List.length_drop, List.length_replicate, List.length_map, List.length_range]; omega) | decide)); (case h1 => (first | omega | (simp only [List.length_append, List.length_cons, List.length_nil, List.length_take, List.length_drop, List.length_replicate, List.length_map, List.length_range] at *; omega) | (simp only [List.length_append, List.length_cons, List.length_nil, List.length_take, List.length_drop, List.length_replicate, List.length_map, List.length_range]; omega) | decide)))
    | ((with_reducible refine w_tkX ?s ?h0 ?_); (case s => (first | omega | (simp only [List.length_append, List.length_cons, List.length_nil, List.length_take, List.length_drop, List.length_replicate, List.length_map, List.length_range] at *; omega) | (simp only [List.length_append, List.length_cons, List.length_nil, List.length_take, List.length_drop, List.length_replicate, List.length_map, List.length_range]; omega) | decide)); (case h0 => (first | omega | (simp only [List.length_append, List.length_cons, List.length_nil, List.length_take, List.length_drop, List.length_replicate, List.length_map, List.length_range] at *; omega) | (simp only [List.length_append, List.length_cons, List.length_nil, List.length_take, List.length_drop, List.length_replicate, List.length_map, List.length_range]; omega) | decide)))
    | ((with_reducible refine w_dpX ?s ?h0 ?_); (case s => (first | omega | (simp only [List.length_append, List.length_cons, List.length_nil, List.length_take, List.length_drop, List.length_replicate, List.length_map, List.length_range] at *; omega) | (simp only [List.length_append, List.length_cons, List.length_nil, List.length_take, List.length_drop, List.length_replicate, List.length_map, List.length_range]; omega) | decide)); (case h0 => (first | omega | (simp only [List.length_append, List.length_cons, List.length_nil, List.length_take, List.length_drop, List.length_replicate, List.length_map, List.length_range] at *; omega) | (simp only [List.length_append, List.length_cons, List.length_nil, List.length_take, List.length_drop, List.length_replicate, List.length_map, List.length_range]; omega) | decide)))
    | ((with_reducible refine w_ixX ?s ?h0 ?_); (case s => (first | omega | (simp only [List.length_append, List.length_cons, List.length_nil, List.length_take, List.length_drop, List.length_replicate, List.length_map, List.length_range] at *; omega) | (simp only [List.length_append, List.length_cons, List.length_nil, List.length_take, List.length_drop, List.length_replicate, List.length_map, List.length_range]; omega) | decide)); (case h0 => (first | omega | (simp only [List.length_append, List.length_cons, List.length_nil, List.length_take, List.length_drop, List.length_replicate, List.length_map, List.length_range] at *; omega) | (simp only [List.length_append, List.length_cons, List.length_nil, List.length_take, List.length_drop, List.length_replicate, List.length_map, List.length_range]; omega) | decide)))
    | with_reducible refine w_max ?_
    | with_reducible refine w_min ?_
    | with_reducible refine w_eqNI ?_
    | with_reducible refine w_neNI ?_
    | with_reducible refine w_eqIN ?_
    | with_reducible refine w_neIN ?_
    | with_reducible refine w_neNN ?_
    | with_reducible refine w_eqNN ?_
    | with_reducible refine w_abs ?_
    | with_reducible refine w_intI ?_
    | with_reducible refine w_intB ?_
    | with_reducible refine w_ipI ?_
    | with_reducible refine w_bmS ?_
    | with_reducible refine w_iStrv ?_
    | with_reducible refine w_neg ?_
    | with_reducible refine w_partI ?_
    | with_reducible refine w_truB ?_
    | with_reducible refine w_truN ?_
    | with_reducible refine w_truI ?_
    | with_reducible refine w_isi_int_int ?_
    | with_reducible refine w_isi_int_bl ?_
    | with_reducible refine w_isi_int_str ?_
    | with_reducible refine w_isi_int_non ?_
    | with_reducible refine w_isi_bool_int ?_
    | with_reducible refine w_isi_bool_bl ?_
    | with_reducible refine w_isi_bool_str ?_
    | with_reducible refine w_isi_bool_non ?_
    | with_reducible refine w_isi_str_int ?_
    | with_reducible refine w_isi_str_bl ?_
    | with_reducible refine w_isi_str_str ?_
    | with_reducible refine w_isi_str_non ?_
    | with_reducible refine w_isi_list_int ?_
    | with_reducible refine w_isi_list_bl ?_
    | with_reducible refine w_isi_list_str ?_
    | with_reducible refine w_isi_list_non ?_
    | with_reducible refine w_isi_tuple_int ?_
    | with_reducible refine w_isi_tuple_bl ?_
    | with_reducible refine w_isi_tuple_str ?_
    | with_reducible refine w_isi_tuple_non ?_
    | with_reducible refine w_is_int ?_
    | with_reducible refine w_isnt_int ?_
    | with_reducible refine w_is_bl ?_
    | with_reducible refine w_isnt_bl ?_
    | with_reducible refine w_is_str ?_
    | with_reducible refine w_isnt_str ?_
    | with_reducible refine w_is_non ?_
    | with_reducible refine w_isnt_non ?_
    | with_reducible refine w_is_ref ?_
    | with_reducible refine w_isnt_ref ?_
    | ((with_reducible refine w_asT ?e ?_); (case e => walk_at "te"); intro _ _)
    | ((with_reducible refine w_onT ?e ?_); (case e => walk_at "te"); intro _ _)
    | ((with_reducible refine w_asF ?e ?_); (case e => walk_at "te"))
    | ((with_reducible refine w_onF ?e ?_); (case e => walk_at "te"))
    | ((with_reducible apply w_isE); (· walk_at "xc"); (· walk_at "kt"))
    | ((with_reducible apply w_lenL); (· walk_at "hk"))
    | ((with_reducible apply w_lenT); (· walk_at "hk"))
    | ((with_reducible apply w_bmL); (· walk_at "hk"))
    | ((with_reducible refine w_rng1v ?h1 ?h2 ?_); (case h1 => (first | omega | (simp only [List.length_map] at *; omega))); (case h2 => (first | omega | (simp only [List.length_map] at *; omega))))
    | ((with_reducible refine w_rng2v ?h1 ?_); (case h1 => (first | omega | (simp only [List.length_map] at *; omega))))
    | ((with_reducible apply w_ixI); (· walk_at "hk"); (· (first | omega | (simp only [List.length_map] at *; omega))))
    | ((with_reducible apply w_ixTI); (· walk_at "hk"); (· (first | omega | (simp only [List.length_map] at *; omega))))
    | ((with_reducible apply w_ixBl); (· walk_at "hk"); (· (first | omega | (simp only [List.length_map] at *; omega))))
    | ((with_reducible apply w_getI2); (· walk_at "hk"); (· (first | omega | (simp only [List.length_map] at *; omega))))
    | ((with_reducible apply w_ixTl); (· walk_at "hk"); (· rfl); (· decide))
    | ((with_reducible apply w_ixLl); (· walk_at "hk"); (· rfl); (· decide))
    | ((with_reducible apply w_appI); (· walk_at "hk"); (· (first | omega | (simp only [List.length_append, List.length_cons, List.length_nil]; omega))))
    | ((with_reducible apply w_iListv); (· walk_at "hk"))
    | ((with_reducible apply w_iTupv); (· walk_at "hk"))
    | ((with_reducible apply w_iRevv); (· walk_at "hk"))
    | ((with_reducible apply w_iEnumv); (· walk_at "hk"))
    | ((with_reducible apply w_iZipv); (· walk_at "hk"); (· walk_at "hk"))
    | ((with_reducible apply w_dget2v); (· walk_at "hk"))
    | ((with_reducible apply w_dget1v); (· walk_at "hk"))
    | ((with_reducible apply w_dpop1v); (· walk_at "hk"))
    | ((with_reducible apply w_getI); (· walk_at "hk"))
    | ((with_reducible apply w_inD); (· walk_at "hk"))
    | ((with_reducible apply w_ninD); (· walk_at "hk"))
    | ((with_reducible apply w_rep1); (· walk_at "hk"); (· (first | omega | (simp only [List.length_append, List.length_cons, List.length_nil, List.length_take, List.length_drop, List.length_replicate, List.length_map, List.length_range] at *; omega) | (simp only [List.length_append, List.length_cons, List.length_nil, List.length_take, List.length_drop, List.length_replicate, List.length_map, List.length_range]; omega) | decide)); (· (first | omega | (simp only [List.length_append, List.length_cons, List.length_nil, List.length_take, List.length_drop, List.length_replicate, List.length_map, List.length_range] at *; omega) | (simp only [List.length_append, List.length_cons, List.length_nil, List.length_take, List.length_drop, List.length_replicate, List.length_map, List.length_range]; omega) | decide)); intro _ _)
    | ((with_reducible apply w_gtup2); (· walk_at "hk"))
    | ((with_reducible apply w_gtup3); (· walk_at "hk"))
    | ((with_reducible apply w_gtup4); (· walk_at "hk"))
    | ((with_reducible refine w_newD ?_); intro _ _)
    | ((with_reducible apply w_augsub); (· walk_at "hk"); (· rfl); (· exact Nat.le_of_ble_eq_true rfl))
    | ((with_reducible apply w_augadd); (· walk_at "hk"); (· rfl); (· exact Nat.le_of_ble_eq_true rfl))
    | ((with_reducible apply w_fldv); (· walk_at "hk"); (· rfl))
    | ((with_reducible apply w_methv); (· walk_at "hk"); (· rfl))
    | ((with_reducible apply w_setfv); (· walk_at "hk"); (· exact Nat.le_of_ble_eq_true rfl); (· rfl))
    | walk_at "x"))
/-- the addresses that the readings speak of -/
structure Ex where
  (LaminaError NotValid PowerOff NoProcess BadHandle NoVolume ReadOnly BadName Missing WrongKind Exists LoopFound CrossVolume Busy NotEmpty TooMany TooLong OverQuota NoSpace BadImage : Addr := 0)
  (Disk Head Space Store OpenFiles Handles Processes Log Accounts Session System : Addr := 0)
  (POINTER_KINDS MODES LENGTHS : Addr := 0)
/-- what is known of the exceptions' classes -/
structure Fa (K : PySem.W.Frag) (C : Ex) : Prop where
  fa0 : True
  te_BadName_BadName : PySem.W.exmOne K (.ref C.BadName) (.ref C.BadName) = some true
  te_BadImage_BadName : PySem.W.exmOne K (.ref C.BadImage) (.ref C.BadName) = some false
local macro_rules | `(tactic| walk_at "te") => `(tactic| first | exact Fa.te_BadName_BadName (by assumption) | exact Fa.te_BadImage_BadName (by assumption))
def S1 (f : V → Hp → VK → XK → Prop) : Sp := fun vs H Q E => ∃ a, vs = [a] ∧ f a H Q E
def S2 (f : V → V → Hp → VK → XK → Prop) : Sp := fun vs H Q E => ∃ a b, vs = [a, b] ∧ f a b H Q E
def S3 (f : V → V → V → Hp → VK → XK → Prop) : Sp := fun vs H Q E => ∃ a b c, vs = [a, b, c] ∧ f a b c H Q E
def S4 (f : V → V → V → V → Hp → VK → XK → Prop) : Sp := fun vs H Q E => ∃ a b c d, vs = [a, b, c, d] ∧ f a b c d H Q E
def S5 (f : V → V → V → V → V → Hp → VK → XK → Prop) : Sp := fun vs H Q E => ∃ a b c d e, vs = [a, b, c, d, e] ∧ f a b c d e H Q E
section
variable {vs : List V} {H : Hp} {Q : VK} {E : XK} {a b c d e : V}
theorem len1 {f} (h : S1 f vs H Q E) : vs.length = 1 := by obtain ⟨_, rfl, _⟩ := h; rfl
theorem len2 {f} (h : S2 f vs H Q E) : vs.length = 2 := by obtain ⟨_, _, rfl, _⟩ := h; rfl
theorem len3 {f} (h : S3 f vs H Q E) : vs.length = 3 := by obtain ⟨_, _, _, rfl, _⟩ := h; rfl
theorem len4 {f} (h : S4 f vs H Q E) : vs.length = 4 := by obtain ⟨_, _, _, _, rfl, _⟩ := h; rfl
theorem len5 {f} (h : S5 f vs H Q E) : vs.length = 5 := by obtain ⟨_, _, _, _, _, rfl, _⟩ := h; rfl
theorem w_S1 {f} (h : f a H Q E) : S1 f [a] H Q E := ⟨a, rfl, h⟩
theorem w_S2 {f} (h : f a b H Q E) : S2 f [a, b] H Q E := ⟨a, b, rfl, h⟩
theorem w_S3 {f} (h : f a b c H Q E) : S3 f [a, b, c] H Q E := ⟨a, b, c, rfl, h⟩
theorem w_S4 {f} (h : f a b c d H Q E) : S4 f [a, b, c, d] H Q E := ⟨a, b, c, d, rfl, h⟩
theorem w_S5 {f} (h : f a b c d e H Q E) : S5 f [a, b, c, d, e] H Q E := ⟨a, b, c, d, e, rfl, h⟩
end
theorem lt_line {n : Nat} (h : n < 10000000) : n < sizeLine := Nat.lt_of_lt_of_le h (by decide)
theorem le_line {n : Nat} (h : n < 10000000) : n ≤ sizeLine := Nat.le_of_lt (lt_line h)
/-- what isinstance may ask: a scalar, or an object that is a list, a tuple, a dict -/
def Known (K : PySem.W.Frag) (H : Hp) : V → Prop
  | .ref a => ∃ o : Ob, TyX K H (.ref a) (.type o.nm)
  | .byt _ => False
  | .flt _ => False
  | .ty _ => False
  | _ => True
abbrev spLaw (K : PySem.W.Frag) : Sp := S1 fun a H Q _ => ∃ (p : Addr) (ns : List Int), a = .ref p ∧ SqL K H p (ns.map V.int) ∧ ns.length ≤ 63 ∧ ∀ H', Q (.bl true) H'
/-- an item of a mapped list -/
theorem at_int {ns : List Int} {i : Nat} {x : V} (h : (ns.map V.int)[i]? = some x) : ∃ n, ns[i]? = some n ∧ x = .int n := by
  rw [List.getElem?_map] at h
  cases e : ns[i]? with
  | none => rw [e] at h; cases h
  | some n => rw [e] at h; exact ⟨n, rfl, (Option.some.inj h).symm⟩
theorem int_at {ns : List Int} {i : Nat} (h : i < ns.length) : (ns.map V.int)[i]? = some (.int (ns.getD i 0)) := by
  rw [List.getElem?_map, List.getElem?_eq_getElem h, List.getD_eq_getElem?_getD, List.getElem?_eq_getElem h]
  rfl
theorem tyx_list {K : PySem.W.Frag} {H : Hp} {p : Addr} {xs : List V} (h : SqL K H p xs) : TyX K H (.ref p) (.type U.Ob.list.nm) := by
  rcases h with (h | ⟨o, h⟩) | ⟨o, its, n, e, c, _⟩
  · exact .base (.lst h)
  · exact .base (.frz h)
  · exact .kList e c
theorem tyx_tup {K : PySem.W.Frag} {H : Hp} {p : Addr} {xs : List V} (h : SqT K H p xs) : TyX K H (.ref p) (.type U.Ob.tuple.nm) := by
  rcases h with (h | ⟨o, h⟩) | ⟨o, its, n, e, c, _⟩
  · exact .base (.tup h)
  · exact .fTuple h
  · exact .kTuple e c
theorem w_isi_list_L {K : PySem.W.Frag} {H : Hp} {Q : VK} {p : Addr} {xs : List V} (e : SqL K H p xs) (h : Q (.bl true) H) : uIsi K .list [.ref p, .ty "list"] H Q := ⟨rfl, .list, tyx_list e, h⟩
theorem w_isi_tuple_T {K : PySem.W.Frag} {H : Hp} {Q : VK} {p : Addr} {xs : List V} (e : SqT K H p xs) (h : Q (.bl true) H) : uIsi K .tuple [.ref p, .ty "tuple"] H Q := ⟨rfl, .tuple, tyx_tup e, h⟩
theorem take_snoc {α : Type} {l : List α} {i : Nat} {c : α} (h : l[i]? = some c) : l.take (i + 1) = l.take i ++ [c] := by
  obtain ⟨hl, he⟩ := List.getElem?_eq_some_iff.mp h
  rw [List.take_succ_eq_append_getElem hl, he]
theorem w_cutS {D : Ends} {σ : L2.St} {H : Hp} {t u : TS} (h : tSeq t u D σ H) : tCut t u D σ H := ⟨u D, h, fun _ _ h => h⟩
def sp__law_cell (K : PySem.W.Frag) (_ : Ex) : Sp := S2 fun a b H Q _ => ∃ (p : Addr) (ns : List Int) (k : Int), a = .ref p ∧ b = .int k ∧ SqL K H p (ns.map V.int) ∧ 0 ≤ k ∧ Q (.int (ns.getD k.toNat 0)) H
def t__law_cell (K : PySem.W.Frag) (C : Ex) (E : XK) : TS :=
  tSeq (tIfS (tTest (tOp (uLt K) (tVar 1) (tCB (uLen K) (tCons (tVar 0) (tNil))))) (tRet (tCB (uInt) (tCons (tOp (uIx K) (tVar 0) (tVar 1)) (tNil)))) (tNext))
  (tRet (tC (.int 0)))
theorem pure__law_cell {K : PySem.W.Frag} {C : Ex} {vs : List V} {H : Hp} {Q : VK} {E : XK} (F : Fa K C) (h : sp__law_cell K C vs H Q E) : t__law_cell K C E { nx := fun _ H' => Q .non H', rt := Q } (start ["_law_script", "_law_k"] vs) H := by
  obtain ⟨a, b, rfl, p, ts, k, rfl, rfl, hS, hk, q⟩ := h
  unfold t__law_cell
  walk_at "run1"
  · walk_at "run1"
    exact q
  · walk_at "run1"
    rename_i hlt
    rw [List.getD_eq_getElem?_getD, List.getElem?_eq_none (by simp only [List.length_map] at hlt; omega)] at q
    exact q
theorem u__law_cell {K : PySem.W.Frag} {C : Ex} {H : Hp} {Q : VK} {E : XK} {p : Addr} {ns : List Int} {k : Int} (e : SqL K H p (ns.map V.int)) (h0 : 0 ≤ k) (h : Q (.int (ns.getD k.toNat 0)) H) : sp__law_cell K C [.ref p, .int k] H Q E := w_S2 ⟨p, ns, k, rfl, rfl, e, h0, h⟩
local macro_rules | `(tactic| walk_at "x") => `(tactic| ((with_reducible apply u__law_cell); (· walk_at "hk"); (· omega)))
def isWord : V → Bool
  | .int i => decide (0 ≤ i)
  | _ => false
def sp_is_word (K : PySem.W.Frag) (_ : Ex) : Sp := S1 fun a H Q _ => Known K H a ∧ Q (.bl (isWord a)) H
def t_is_word (K : PySem.W.Frag) (C : Ex) (E : XK) : TS :=
  tSeq (tIfS (tOr (tNot (uTru K (tCB (uIsi K .int) (tCons (tVar 0) (tCons (tC (.ty "int")) (tNil)))))) (uTru K (tCB (uIsi K .bool) (tCons (tVar 0) (tCons (tC (.ty "bool")) (tNil)))))) (tRet (tC (.bl false))) (tNext))
  (tRet (tOp (uGe K) (tVar 0) (tC (.int 0))))
theorem pure_is_word {K : PySem.W.Frag} {C : Ex} {vs : List V} {H : Hp} {Q : VK} {E : XK} (F : Fa K C) (h : sp_is_word K C vs H Q E) : t_is_word K C E { nx := fun _ H' => Q .non H', rt := Q } (start ["value"] vs) H := by
  obtain ⟨a, rfl, hk, k⟩ := h
  unfold t_is_word
  cases a with
  | non => walk_at "run"; exact k
  | bl b => walk_at "run"; exact k
  | int i => walk_at "run"; exact k
  | str z => walk_at "run"; exact k
  | ref p =>
    obtain ⟨o, ho⟩ := hk
    walk_at "run1"
    refine ⟨rfl, o, ho, ?_⟩
    cases o <;> (walk_at "run"; exact k)
  | _ => exact hk.elim
/-- the signs of names -/
def al : List Nat := [97, 98, 99, 100, 101, 102, 103, 104, 105, 106, 107, 108, 109, 110, 111, 112, 113, 114, 115, 116, 117, 118, 119, 120, 121, 122, 48, 49, 50, 51, 52, 53, 54, 55, 56, 57, 46, 95, 45]
theorem al_str : ("abcdefghijklmnopqrstuvwxyz0123456789._-" : Str) = tx al := by decide +kernel
theorem dot_str : ("." : Str) = tx [46] := by decide +kernel
theorem emp_str : ("" : Str) = tx [] := by decide +kernel
/-- the digit of a sign, less one -/
def ix (c : Nat) : Int := ixc al c
theorem ix_lt (c : Nat) : -1 ≤ ix c ∧ ix c < 39 := by
  unfold ix ixc
  split
  · rename_i h
    have := List.idxOf_lt_length_iff.mpr h
    have e : al.length = 39 := rfl
    omega
  · omega
theorem ix_neg {c : Nat} : ix c < 0 ↔ c ∉ al := by
  unfold ix ixc
  split
  · rename_i h; exact ⟨fun q => by omega, fun q => absurd h q⟩
  · rename_i h; exact ⟨fun _ => h, fun _ => by omega⟩
def wStep (w : Int) (c : Nat) : Int := w * 40 + ix c + 1
def nameW (l : List Nat) : Int := l.foldl wStep 0 * 40 ^ (11 - l.length)
def isName (l : List Nat) : Prop := (0 < l.length ∧ l.length ≤ 11) ∧ (∀ c ∈ l, c ∈ al) ∧ l.count 46 ≠ l.length
instance (l : List Nat) : Decidable (isName l) := inferInstanceAs (Decidable (_ ∧ _))
/-- the digits of a name, behind its end 0 -/
def dgN (l : List Nat) (k : Nat) : Int := match l[k]? with
  | some c => ix c + 1
  | none => 0
def dgW (w : Int) (k : Nat) : Int := w / 40 ^ (10 - k) % 40
def sumW (f : Nat → Int) : Nat → Int
  | 0 => 0
  | n + 1 => sumW f n * 40 + f n
theorem dgN_at {l : List Nat} {k : Nat} {c : Nat} (h : l[k]? = some c) : dgN l k = ix c + 1 := by unfold dgN; rw [h]
theorem dgN_end {l : List Nat} {k : Nat} (h : l.length ≤ k) : dgN l k = 0 := by unfold dgN; rw [List.getElem?_eq_none h]
theorem ix_nn {c : Nat} (h : c ∈ al) : 0 ≤ ix c := by
  by_cases q : ix c < 0
  · exact absurd h (ix_neg.mp q)
  · omega
theorem dgN_pos {l : List Nat} {k : Nat} (ha : ∀ c ∈ l, c ∈ al) (h : k < l.length) : 0 < dgN l k := by
  have e := List.getElem?_eq_getElem h
  rw [dgN_at e]
  have := ix_nn (ha _ (List.getElem_mem h))
  omega
theorem dgN_lim (l : List Nat) (k : Nat) (ha : ∀ c ∈ l, c ∈ al) : 0 ≤ dgN l k ∧ dgN l k < 40 := by
  unfold dgN
  split
  · rename_i c e
    have := ix_nn (ha c (List.mem_of_getElem? e))
    have := ix_lt c
    omega
  · omega
theorem pre_sum (l : List Nat) : ∀ n, (l.take n).foldl wStep 0 * 40 ^ (n - l.length) = sumW (dgN l) n
  | 0 => by simp [sumW]
  | n + 1 => by
    have ih := pre_sum l n
    show _ = sumW (dgN l) n * 40 + dgN l n
    rw [← ih]
    by_cases h : n < l.length
    · have e := List.getElem?_eq_getElem h
      rw [take_snoc e, List.foldl_append, dgN_at e]
      rw [show n + 1 - l.length = 0 by omega, show n - l.length = 0 by omega, Int.pow_zero, Int.mul_one, Int.mul_one]
      show (l.take n).foldl wStep 0 * 40 + ix l[n] + 1 = _
      omega
    · rw [dgN_end (by omega), List.take_of_length_le (show l.length ≤ n + 1 by omega), List.take_of_length_le (show l.length ≤ n by omega), show n + 1 - l.length = (n - l.length) + 1 by omega, Int.pow_succ, Int.mul_assoc]
      omega
theorem nameW_sum {l : List Nat} (h : l.length ≤ 11) : nameW l = sumW (dgN l) 11 := by
  rw [← pre_sum l 11, List.take_of_length_le h]
  rfl
theorem pow40 (n : Nat) : (0 : Int) < 40 ^ n := Int.pow_pos (by decide)
theorem sum_lim {f : Nat → Int} (hf : ∀ k, 0 ≤ f k ∧ f k < 40) : ∀ n, 0 ≤ sumW f n ∧ sumW f n < 40 ^ n
  | 0 => ⟨Int.le_refl 0, pow40 0⟩
  | n + 1 => by
    obtain ⟨a, b⟩ := sum_lim hf n
    have := hf n
    show 0 ≤ sumW f n * 40 + f n ∧ sumW f n * 40 + f n < 40 ^ (n + 1)
    rw [Int.pow_succ]
    generalize (40 : Int) ^ n = P at *
    omega
/-- the upper digits of a sum -/
theorem sum_up {f : Nat → Int} (hf : ∀ k, 0 ≤ f k ∧ f k < 40) (n : Nat) : ∀ m, sumW f (n + m) / 40 ^ m = sumW f n
  | 0 => by rw [Int.pow_zero, Int.ediv_one]; rfl
  | m + 1 => by
    have h := hf (n + m)
    rw [Int.pow_succ, Int.mul_comm, ← Int.ediv_ediv_of_nonneg (by decide)]
    have e : sumW f (n + (m + 1)) / 40 = sumW f (n + m) := by
      show (sumW f (n + m) * 40 + f (n + m)) / 40 = _
      omega
    rw [e]
    exact sum_up hf n m
theorem dgW_sum {f : Nat → Int} (hf : ∀ k, 0 ≤ f k ∧ f k < 40) {k : Nat} (h : k < 11) : dgW (sumW f 11) k = f k := by
  unfold dgW
  have e := sum_up hf (k + 1) (10 - k)
  rw [show k + 1 + (10 - k) = 11 by omega] at e
  rw [e]
  have := hf k
  show (sumW f k * 40 + f k) % 40 = f k
  omega
theorem sum_dgW (w : Int) (hw : w / 40 ^ 11 = 0) : ∀ n, n ≤ 11 → sumW (dgW w) n = w / 40 ^ (11 - n)
  | 0, _ => hw.symm
  | n + 1, h => by
    show sumW (dgW w) n * 40 + dgW w n = _
    rw [sum_dgW w hw n (by omega)]
    unfold dgW
    rw [show 11 - n = (10 - n) + 1 by omega, show 11 - (n + 1) = 10 - n by omega, Int.pow_succ, ← Int.ediv_ediv_of_nonneg (Int.le_of_lt (pow40 _))]
    omega
theorem sumW_congr {f g : Nat → Int} : ∀ n, (∀ k, k < n → f k = g k) → sumW f n = sumW g n
  | 0, _ => rfl
  | n + 1, h => by
    show sumW f n * 40 + f n = sumW g n * 40 + g n
    rw [sumW_congr n fun k hk => h k (by omega), h n (by omega)]
theorem name_dg {l : List Nat} (h : isName l) : (∀ k, k < 11 → dgW (nameW l) k = dgN l k) ∧ 0 ≤ nameW l ∧ nameW l < 40 ^ 11 := by
  rw [nameW_sum h.1.2]
  exact ⟨fun k hk => dgW_sum (fun j => dgN_lim l j h.2.1) hk, (sum_lim (fun j => dgN_lim l j h.2.1) 11).1, (sum_lim (fun j => dgN_lim l j h.2.1) 11).2⟩
theorem ixc_inj {c d : Nat} (hc : c ∈ al) (hd : d ∈ al) (e : ix c = ix d) : c = d := by
  unfold ix ixc at e
  rw [if_pos hc, if_pos hd] at e
  have h1 := List.getElem_idxOf (List.idxOf_lt_length_iff.mpr hc)
  have h2 := List.getElem_idxOf (List.idxOf_lt_length_iff.mpr hd)
  have e' : al.idxOf c = al.idxOf d := by omega
  rw [← h1, ← h2]
  congr 1
theorem al_ix : ∀ d : Nat, d < 39 → ix (al.getD d 0) = (d : Int) := by decide +kernel
theorem al_at (n : Nat) (h : n < 39) : al.getD n 0 ∈ al := by
  rw [List.getD_eq_getElem?_getD, List.getElem?_eq_getElem (show n < al.length from h)]
  exact List.getElem_mem _
theorem dgN_ext {l m : List Nat} (hl : l.length ≤ 11) (hm : m.length ≤ 11) (ha : ∀ c ∈ l, c ∈ al) (hb : ∀ c ∈ m, c ∈ al) (h : ∀ k, k < 11 → dgN l k = dgN m k) : l = m := by
  have len : l.length = m.length := by
    rcases Nat.lt_trichotomy l.length m.length with q | q | q
    · have z := h l.length (by omega)
      rw [dgN_end (Nat.le_refl _)] at z
      have := dgN_pos hb q
      omega
    · exact q
    · have z := h m.length (by omega)
      rw [dgN_end (Nat.le_refl m.length)] at z
      have := dgN_pos ha q
      omega
  refine List.ext_getElem len fun k h1 h2 => ?_
  have z := h k (by omega)
  rw [dgN_at (List.getElem?_eq_getElem h1), dgN_at (List.getElem?_eq_getElem h2)] at z
  exact ixc_inj (ha _ (List.getElem_mem h1)) (hb _ (List.getElem_mem h2)) (by omega)
/-- the name that i digits of w tell -/
structure Told (w : Int) (l : List Nat) (i : Nat) : Prop where
  len : l.length ≤ i
  all : ∀ c ∈ l, c ∈ al
  dg : ∀ k, k < i → dgW w k = dgN l k
theorem Told.zero {w : Int} : Told w [] 0 := ⟨Nat.le_refl 0, by simp, fun k h => absurd h (by omega)⟩
theorem Told.skip {w : Int} {l : List Nat} {i : Nat} (t : Told w l i) (h : dgW w i = 0) : Told w l (i + 1) := ⟨by have := t.len; omega, t.all, fun k hk => by
  rcases Nat.lt_or_ge k i with q | q
  · exact t.dg k q
  · obtain rfl : k = i := by omega
    rw [h, dgN_end t.len]⟩
theorem dgW_lim (w : Int) (k : Nat) : 0 ≤ dgW w k ∧ dgW w k < 40 := by unfold dgW; omega
theorem Told.put {w : Int} {l : List Nat} {i : Nat} (t : Told w l i) (hi : l.length = i) (h : dgW w i ≠ 0) : Told w (l ++ [al.getD (dgW w i - 1).toNat 0]) (i + 1) := by
  have := dgW_lim w i
  have z := al_ix (dgW w i - 1).toNat (by omega)
  refine ⟨by simp only [List.length_append, List.length_cons, List.length_nil]; omega, fun c hc => ?_, fun k hk => ?_⟩
  · rcases List.mem_append.mp hc with hc | hc
    · exact t.all c hc
    · rw [List.mem_singleton.mp hc]; exact al_at _ (by omega)
  · rcases Nat.lt_or_ge k i with q | q
    · rw [t.dg k q]
      unfold dgN
      rw [List.getElem?_append_left (by omega)]
    · obtain rfl : k = i := by omega
      rw [dgN_at (c := al.getD (dgW w k - 1).toNat 0) (by rw [List.getElem?_append_right (by omega), hi, Nat.sub_self]; rfl), z]
      omega
theorem Told.no {w : Int} {l : List Nat} {i : Nat} (t : Told w l i) (hi : l.length < i) (hj : i < 11) (h : dgW w i ≠ 0) {m : List Nat} (hm : isName m) : nameW m ≠ w := by
  rintro rfl
  obtain ⟨d, _, _⟩ := name_dg hm
  have z := t.dg l.length hi
  rw [d _ (by omega), dgN_end (Nat.le_refl _)] at z
  have a : ¬ l.length < m.length := fun q => by have := dgN_pos hm.2.1 q; omega
  rw [d i hj, dgN_end (by omega)] at h
  exact h rfl
theorem Told.yes {w : Int} {l : List Nat} (t : Told w l 11) (hw : w / 40 ^ 11 = 0) : nameW l = w := by
  rw [nameW_sum t.len, ← sumW_congr 11 t.dg, sum_dgW w hw 11 (Nat.le_refl _), Nat.sub_self, Int.pow_zero, Int.ediv_one]
theorem Told.only {w : Int} {l : List Nat} (t : Told w l 11) {m : List Nat} (hm : isName m) (e : nameW m = w) : m = l := by
  subst e
  obtain ⟨d, _, _⟩ := name_dg hm
  exact dgN_ext hm.1.2 t.len hm.2.1 t.all fun k hk => by rw [← d k hk, t.dg k hk]
theorem name_div {m : List Nat} (hm : isName m) : nameW m / 40 ^ 11 = 0 := by
  obtain ⟨_, a, b⟩ := name_dg hm
  exact Int.ediv_eq_zero_of_lt a b
theorem isName_of {l : List Nat} (h : l.length ≤ 11) (ha : ∀ c ∈ l, c ∈ al) : isName l ↔ l.count 46 ≠ l.length := by
  refine ⟨fun q => q.2.2, fun q => ⟨⟨?_, h⟩, ha, q⟩⟩
  cases l with
  | nil => exact absurd rfl q
  | cons => simp
theorem isWord_int (w : Int) : isWord (.int w) = decide (0 ≤ w) := rfl
theorem e11 : (11 : Int).toNat = 11 := rfl
/-- what names have the word w -/
def HasName (w : Int) (Y : List Nat → Prop) (N : Prop) : Prop := (∀ l, isName l → nameW l = w → Y l) ∧ ((∀ l, isName l → nameW l ≠ w) → N)
def sp_word_name (K : PySem.W.Frag) (C : Ex) : Sp := S1 fun a H Q E => ∃ w : Int, a = .int w ∧ ∀ H', Same H H' → HasName w (fun l => Q (.str (tx l)) H') (E (.ref C.BadName) none H')
theorem rev_at {α : Type} {f : Nat → α} {n i : Nat} {x : α} (h : ((List.range n).map f)[((List.range n).map f).length - 1 - i]? = some x) (hi : i < n) : x = f (n - 1 - i) := by
  rw [List.length_map, List.length_range, List.getElem?_map, List.getElem?_range (by omega)] at h
  exact (Option.some.inj h).symm
def t_word_name (K : PySem.W.Frag) (C : Ex) (E : XK) : TS :=
  tSeq (tIfS (tNot (uTru K (uCall (sp_is_word K C) (WB E) (tCons (tVar 0) (tNil))))) (uRaise C.BadName (WB E)) (tNext))
  (tSeq (tAsg (tLst (tNil)) (gName 1))
  (tSeq (tAsg (tVar 0) (gName 2))
  (tSeq (tFor (iRng1 (tCons (tC (.int 11)) (tNil))) (gName 3)
  (tSeq (tDrop (tBM K "list" (rAppend) (tVar 1) (tCons (tOp (uMod) (tVar 2) (tC (.int 40))) (tNil))))
  (tAsg (tOp (uDiv) (tVar 2) (tC (.int 40))) (gName 2))))
  (tSeq (tAsg (tC (.str "")) (gName 4))
  (tSeq (tAsg (tC (.bl false)) (gName 5))
  (tSeq (tFor (iRev K (tCons (tVar 1) (tNil))) (gName 6)
  (tIfS (tTest (tOp (uEq K) (tVar 6) (tC (.int 0)))) (tAsg (tC (.bl true)) (gName 5)) (tIfS (uTru K (tVar 5)) (uRaise C.BadName (WB E)) (tAsg (tOp (uAdd K) (tVar 4) (tOp (uIx K) (tC (.str "abcdefghijklmnopqrstuvwxyz0123456789._-")) (tOp (uSub) (tVar 6) (tC (.int 1))))) (gName 4)))))
  (tSeq (tIfS (tOr (tTest (tOp (uNe K) (tVar 2) (tC (.int 0)))) (tTest (tOp (uEq K) (tBM K "str" (uCount) (tVar 4) (tCons (tC (.str ".")) (tNil))) (tCB (uLen K) (tCons (tVar 4) (tNil)))))) (uRaise C.BadName (WB E)) (tNext))
  (tRet (tVar 4)))))))))
theorem pure_word_name {K : PySem.W.Frag} {C : Ex} {vs : List V} {H : Hp} {Q : VK} {E : XK} (F : Fa K C) (h : sp_word_name K C vs H Q E) : t_word_name K C E { nx := fun _ H' => Q .non H', rt := Q } (start ["word", "digits", "rest", "_", "name", "ended", "digit"] vs) H := by
  obtain ⟨a, rfl, w, rfl, k⟩ := h
  unfold t_word_name
  rw [al_str, dot_str, emp_str]
  walk_at "run1"
  refine w_S1 ⟨trivial, ?_⟩
  rw [isWord_int]
  walk_at "run1"
  · rename_i hn
    refine (k _ (L2.Same.refl _)).2 fun l hl e => ?_
    obtain ⟨_, a, _⟩ := name_dg hl
    omega
  · walk_at "run1"
    rename_i h0 D hD
    refine f_range (fun i σ H' => ∃ v3, σ = [some (.int w), some (.ref D), some (.int (w / 40 ^ i)), v3, none, none, none] ∧ Same H H' ∧ H' D = some (.lst (((List.range i).map fun j => w / 40 ^ j % 40).map V.int))) ⟨none, by rw [Int.pow_zero, Int.ediv_one]; rfl, same_new hD, upd_same⟩ ?_ ?_
    · rintro i σ H' hi ⟨v3, rfl, hs, hl⟩
      have hi' : i < 11 := hi
      walk_at "run1"
      refine w_appI hl (by rw [List.length_map, List.length_range]; omega) ?_
      walk_at "run1"
      refine ⟨_, by rw [Int.pow_succ, ← Int.ediv_ediv_of_nonneg (Int.le_of_lt (pow40 _))]; rfl, same_upd hs hD, ?_⟩
      rw [upd_same, List.range_succ, List.map_append, List.map_append, List.map_append]
      rfl
    · rintro σ H' ⟨v3, rfl, hs, hl⟩
      walk_at "run1"
      refine RT.for_Itv (xs := ((List.range (Int.toNat 11)).map fun j => w / 40 ^ j % 40).map V.int) (fun i σ H1 => H1 = H' ∧ ∃ l v6, Told w l i ∧ σ = [some (.int w), some (.ref D), some (.int (w / 40 ^ (Int.toNat 11))), v3, some (.str (tx l)), some (.bl (decide (l.length < i))), v6]) ⟨rfl, [], none, .zero, rfl⟩ (by rintro i σ H1 ⟨rfl, _⟩; exact SqL.of hl) ?_ ?_
      · rintro i x σ H1 hi hx ⟨rfl, l, v6, t, rfl⟩
        rw [List.length_map, List.length_map, List.length_range, e11] at hi
        rw [List.map_map] at hx
        have hx' := rev_at (f := V.int ∘ fun j => w / 40 ^ j % 40) hx (by rw [e11]; exact hi)
        rw [e11] at hx'
        have ex : x = .int (dgW w i) := by rw [hx']; rfl
        subst ex
        have lim := dgW_lim w i
        have hlen := t.len
        have hal : al.length = 39 := rfl
        walk_at "run1"
        · rename_i hz
          exact ⟨rfl, l, _, t.skip hz, by rw [decide_eq_true (show l.length < i + 1 by omega)]; rfl⟩
        · walk_at "run1"
          · rename_i hz hlt
            exact (k _ hs).2 fun m hm => t.no hlt hi hz hm
          · rename_i hz hge
            have he : l.length = i := by omega
            walk_at "run1"
            have hx : (l ++ [al.getD (dgW w i - 1).toNat 0]).length = i + 1 := by rw [List.length_append, he]; rfl
            exact ⟨rfl, _, _, t.put he hz, by rw [decide_eq_false (show ¬ (l ++ [al.getD (dgW w i - 1).toNat 0]).length < i + 1 by omega), decide_eq_false (show ¬ l.length < i by omega)]; rfl⟩
      · rintro σ H1 ⟨rfl, l, v6, t, rfl⟩
        rw [List.length_map, List.length_map, List.length_range, e11] at t
        have hl11 := t.len
        rw [e11]
        walk_at "run1"
        · rename_i hr
          exact (k _ hs).2 fun m hm e => hr (by rw [← e]; exact name_div hm)
        · walk_at "run1"
          · rename_i hr hc
            refine (k _ hs).2 fun m hm e => ?_
            rw [t.only hm e] at hm
            exact hm.2.2 (by omega)
          · walk_at "run1"
            rename_i hr hc
            exact (k _ hs).1 l ((isName_of hl11 t.all).mpr (by omega)) (t.yes hr)
def DgOk (ds bs : List Int) : Prop := ds.length = bs.length ∧ ∀ i : Nat, i < bs.length → 0 ≤ ds.getD i 0 ∧ ds.getD i 0 < bs.getD i 0
theorem getD_snoc {l : List Int} {z : Int} : (l ++ [z]).getD l.length 0 = z := by
  rw [List.getD_eq_getElem?_getD, List.getElem?_append_right (Nat.le_refl _), Nat.sub_self]
  rfl
theorem getD_pre {l m : List Int} {i : Nat} (h : i < l.length) : (l ++ m).getD i 0 = l.getD i 0 := by
  rw [List.getD_eq_getElem?_getD, List.getElem?_append_left h, List.getD_eq_getElem?_getD]
theorem DgOk.snoc {ds bs : List Int} {d b : Int} (x : DgOk ds bs) (h : 0 ≤ d ∧ d < b) : DgOk (ds ++ [d]) (bs ++ [b]) := by
  refine ⟨by rw [List.length_append, List.length_append, x.1]; rfl, fun i hi => ?_⟩
  rw [List.length_append] at hi
  have hi : i < bs.length + 1 := hi
  by_cases q : i < bs.length
  · rw [getD_pre (by rw [x.1]; exact q), getD_pre q]
    exact x.2 i q
  · obtain rfl : i = bs.length := by omega
    rw [getD_snoc, ← x.1, getD_snoc]
    exact h
def sp__law_digits (K : PySem.W.Frag) (_ : Ex) : Sp := S2 fun a b H Q _ => ∃ (c : Int) (q : Addr) (bs : List Int), a = .int c ∧ b = .ref q ∧ SqL K H q (bs.map V.int) ∧ bs.length ≤ 1000 ∧ (∀ x ∈ bs, 0 < x ∧ x < 2 ^ 200) ∧
  ∀ p H' ds, Same H H' → H p = none → H' p = some (.lst (ds.map V.int)) → DgOk ds bs → Q (.ref p) H'
def t__law_digits (K : PySem.W.Frag) (C : Ex) (E : XK) : TS :=
  tSeq (tAsg (tLst (tNil)) (gName 2))
  (tSeq (tAsg (tCB (uInt) (tCons (tVar 0) (tNil))) (gName 3))
  (tSeq (tFor (iList K (tVar 1)) (gName 4)
  (tIfS (tTest (tOp (uGe K) (tVar 0) (tOp (uPow) (tC (.int 10)) (tC (.int 18))))) (tSeq (tDrop (tBM K "list" (rAppend) (tVar 2) (tCons (tOp (uMod) (tCB (uInt) (tCons (tVar 3) (tNil))) (tVar 4)) (tNil))))
  (tAsg (tOp (uDiv) (tVar 3) (tVar 4)) (gName 3))) (tSeq (tAsg (tOp (uMod) (tOp (uAdd K) (tOp (uAdd K) (tOp (uMul) (tCB (uInt) (tCons (tVar 3) (tNil))) (tC (.int 48271))) (tOp (uMul) (tC (.int 1009)) (tCB (uLen K) (tCons (tVar 2) (tNil))))) (tC (.int 12345))) (tC (.int 2147483647))) (gName 3))
  (tSeq (tAsg (tOp (uMod) (tOp (uMul) (tCB (uInt) (tCons (tVar 3) (tNil))) (tCB (uInt) (tCons (tVar 3) (tNil)))) (tC (.int 2147483629))) (gName 5))
  (tDrop (tBM K "list" (rAppend) (tVar 2) (tCons (tOp (uMod) (tOp (uDiv) (tCB (uInt) (tCons (tVar 5) (tNil))) (tC (.int 13))) (tVar 4)) (tNil))))))))
  (tRet (tVar 2))))
theorem pure__law_digits {K : PySem.W.Frag} {C : Ex} {vs : List V} {H : Hp} {Q : VK} {E : XK} (F : Fa K C) (h : sp__law_digits K C vs H Q E) : t__law_digits K C E { nx := fun _ H' => Q .non H', rt := Q } (start ["_law_cell_here", "_law_bases", "_law_digits_here", "_law_rest", "_law_base", "_law_mixed"] vs) H := by
  obtain ⟨a, b, rfl, c, q, bs, rfl, rfl, hq, hl, hb, k⟩ := h
  unfold t__law_digits
  walk_at "run1"
  rename_i L hL
  refine f_list (xs := bs.map V.int) (fun i σ H' => ∃ (ds : List Int) (r : Int) (v4 v5 : Option V), σ = [some (.int c), some (.ref q), some (.ref L), some (.int r), v4, v5] ∧ Same H H' ∧ H' L = some (.lst (ds.map V.int)) ∧ DgOk ds (bs.take i))
    ⟨[], c, none, none, rfl, same_new hL, upd_same, rfl, fun i h => by simp at h⟩ (by rintro i σ H' _ ⟨_, _, _, _, _, s, _⟩; exact s.seq hq) ?_ ?_
  · rintro i x σ H1 hx ⟨ds, r, v4, v5, rfl, s1, e1, ok⟩
    obtain ⟨b, hbi, rfl⟩ := at_int hx
    have hb1 := hb b (List.mem_of_getElem? hbi)
    have ldl : ds.length ≤ 1000 := by rw [ok.1, List.length_take]; omega
    have fin : ∀ z : Int, DgOk (ds ++ [z % b]) (bs.take (i + 1)) := fun d => by
      rw [take_snoc hbi]
      exact ok.snoc ⟨Int.emod_nonneg _ (by omega), Int.emod_lt_of_pos _ hb1.1⟩
    walk_at "run1"
    · exact ⟨_, _, _, _, rfl, same_upd s1 hL, upd_same, fin _⟩
    · walk_at "run1"
      exact ⟨_, _, _, _, rfl, same_upd s1 hL, upd_same, fin _⟩
  · rintro σ H1 ⟨ds, r, v4, v5, rfl, s1, e1, ok⟩
    walk_at "run1"
    rw [show (bs.map V.int).length = bs.length from List.length_map .., List.take_length] at ok
    exact k L H1 ds s1 hL e1 ok
/-- digits of a word -/
def dg40 (w : Int) (k : Nat) : Int := w / 40 ^ (10 - k) % 40
/-- a word that some name has -/
def NmW (w : Int) : Bool := decide (w / 40 ^ 11 = 0) && decide (dg40 w 0 ≠ 0) && (List.range 10).all (fun k => decide (dg40 w k ≠ 0 ∨ dg40 w (k + 1) = 0)) && (List.range 11).any (fun k => decide (dg40 w k ≠ 0 ∧ dg40 w k ≠ 37))
/-- the words behind the inode -/
def chkRest (ns : List Int) : Bool :=
  if ns.getD 0 0 = 1 then NmW (ns.getD 3 0) && (decide (1 ≤ ns.getD 4 0 ∧ ns.getD 4 0 ≤ 2) && decide (ns.getD 5 0 ≤ 255))
  else if ns.getD 0 0 = 2 then decide (1 ≤ ns.getD 3 0) && NmW (ns.getD 4 0)
  else if ns.getD 0 0 = 3 ∨ ns.getD 0 0 = 4 then NmW (ns.getD 3 0)
  else if ns.getD 0 0 = 5 then NmW (ns.getD 3 0) && (decide (1 ≤ ns.getD 4 0) && NmW (ns.getD 5 0))
  else if ns.getD 0 0 = 6 then decide (ns.getD 3 0 + (ns.length : Int) - 4 ≤ 2048)
  else if ns.getD 0 0 = 7 then decide (ns.getD 3 0 ≤ 2048)
  else if ns.getD 0 0 = 8 then decide ((1 ≤ ns.getD 4 0 ∧ 1 ≤ ns.getD 6 0) ∧ ns.getD 3 0 + ns.getD 6 0 ≤ 64 ∧ ns.getD 5 0 + ns.getD 6 0 ≤ 64)
  else if ns.getD 0 0 = 9 then decide (ns.getD 3 0 ≤ 255) else true
def szK (k : Int) : Nat := [0, 6, 5, 4, 4, 6, 0, 4, 7, 4, 3].getD k.toNat 0
def chkLen (ns : List Int) : Bool := decide (3 ≤ ns.length ∧ 1 ≤ ns.getD 0 0 ∧ ns.getD 0 0 ≤ 10) && (if ns.getD 0 0 = 6 then decide (5 ≤ ns.length) else decide (ns.length = szK (ns.getD 0 0)))
def chk (ns : List Int) : Bool := chkLen ns && (NmW (ns.getD 1 0) && (decide (1 ≤ ns.getD 2 0) && chkRest ns))
structure IntentR (m : Int) (ns : List Int) : Prop where
  ln : 3 ≤ ns.length ∧ (ns.length : Int) ≤ m + 7
  nn : ∀ z ∈ ns, 0 ≤ z
  ck : chk ns = true
abbrev mainW : Int := 13 * 40 ^ (10 : Int).toNat + 1 * 40 ^ (9 : Int).toNat + 9 * 40 ^ (8 : Int).toNat + 14 * 40 ^ (7 : Int).toNat
theorem nm_main : NmW mainW = true := by decide +kernel
abbrev wsL : List Int := [40 ^ (10 : Int).toNat, 2 * 40 ^ (10 : Int).toNat, 39 * 40 ^ (10 : Int).toNat]
theorem nm_ws {d : Int} (h : 0 ≤ d ∧ d < 3) : NmW (wsL.getD d.toNat 0) = true ∧ 0 ≤ wsL.getD d.toNat 0 := by
  rcases (show d = 0 ∨ d = 1 ∨ d = 2 by omega) with rfl | rfl | rfl
  · exact ⟨by decide +kernel, by decide +kernel⟩
  · exact ⟨by decide +kernel, by decide +kernel⟩
  · exact ⟨by decide +kernel, by decide +kernel⟩
section chks
variable {M i w w2 t u v y : Int} (hM : NmW M = true) (hi : 1 ≤ i)
include hM hi
theorem chk1 (hw : NmW w = true) (ht : 1 ≤ t ∧ t ≤ 2) (hu : u ≤ 255) : chk [1, M, i, w, t, u] = true := by simp [chk, chkLen, chkRest, szK, hM, hi, hw, ht, hu]
theorem chk2 (hw : NmW w = true) (ht : 1 ≤ t) : chk [2, M, i, t, w] = true := by simp [chk, chkLen, chkRest, szK, hM, hi, hw, ht]
theorem chk34 (hw : NmW w = true) (hk : u = 3 ∨ u = 4) : chk [u, M, i, w] = true := by rcases hk with rfl | rfl <;> simp [chk, chkLen, chkRest, szK, hM, hi, hw]
theorem chk5 (hw : NmW w = true) (ht : 1 ≤ t) (hw2 : NmW w2 = true) : chk [5, M, i, w, t, w2] = true := by simp [chk, chkLen, chkRest, szK, hM, hi, hw, ht, hw2]
theorem chk6 {cs : List Int} (hc : 1 ≤ cs.length) (ht : t + (cs.length : Int) ≤ 2048) : chk ([6, M, i, t] ++ cs) = true := by
  have e : t + ((cs.length : Int) + 1 + 1 + 1 + 1) - 4 ≤ 2048 := by omega
  simp [chk, chkLen, chkRest, szK, hM, hi, e]
  omega
theorem chk7 (ht : t ≤ 2048) : chk [7, M, i, t] = true := by simp [chk, chkLen, chkRest, szK, hM, hi, ht]
theorem chk8 (h1 : 1 ≤ u) (h2 : 1 ≤ y) (h3 : t + y ≤ 64) (h4 : v + y ≤ 64) : chk [8, M, i, t, u, v, y] = true := by simp [chk, chkLen, chkRest, szK, hM, hi, h1, h2, h3, h4]
theorem chk9 (ht : t ≤ 255) : chk [9, M, i, t] = true := by simp [chk, chkLen, chkRest, szK, hM, hi, ht]
theorem chk10 : chk [10, M, i] = true := by simp [chk, chkLen, chkRest, szK, hM, hi]
end chks
theorem div_le {a b : Int} (h : 0 ≤ a) (hb : 1 ≤ b) : 0 ≤ a / b ∧ a / b ≤ a := ⟨Int.ediv_nonneg h (by omega), Int.ediv_le_self _ h⟩
theorem w_ixWs {K : PySem.W.Frag} {H : Hp} {Q : VK} {p : Addr} {n : Int} (e : SqL K H p (wsL.map V.int)) (h0 : 0 ≤ n ∧ n < 3) (h : Q (.int (wsL.getD n.toNat 0)) H) : uIx K (.ref p) (.int n) H Q := w_ixI e ⟨h0.1, by show n.toNat < 3; omega⟩ h
local macro_rules | `(tactic| walk_at "x") => `(tactic| ((with_reducible apply w_ixWs); (· walk_at "hk"); (· omega)))
def sp__law_intent (K : PySem.W.Frag) (_ : Ex) : Sp := S2 fun a b H Q _ => ∃ c m : Int, a = .int c ∧ b = .int m ∧ 1 ≤ m ∧ m ≤ 1000 ∧ ∀ p H' ns, Same H H' → H p = none → H' p = some (.tup (ns.map V.int)) → IntentR m ns → Q (.ref p) H'
def t__law_intent (K : PySem.W.Frag) (C : Ex) (E : XK) : TS :=
  tSeq (tAsg (uCall (sp__law_digits K C) (WB E) (tCons (tVar 0) (tCons (tLst (tCons (tC (.int 10)) (tCons (tC (.int 5)) (tCons (tC (.int 3)) (tCons (tC (.int 5)) (tCons (tC (.int 3)) (tCons (tC (.int 2)) (tCons (tC (.int 256)) (tCons (tVar 1) (tCons (tC (.int 2049)) (tCons (tC (.int 61)) (tCons (tC (.int 61)) (tCons (tC (.int 4)) (tCons (tOp (uPow) (tC (.int 10)) (tC (.int 6))) (tNil))))))))))))))) (tNil)))) (gName 2))
  (tSeq (tAsg (tLst (tCons (tOp (uPow) (tC (.int 40)) (tC (.int 10))) (tCons (tOp (uMul) (tC (.int 2)) (tOp (uPow) (tC (.int 40)) (tC (.int 10)))) (tCons (tOp (uMul) (tC (.int 39)) (tOp (uPow) (tC (.int 40)) (tC (.int 10)))) (tNil))))) (gName 3))
  (tSeq (tAsg (tOp (uAdd K) (tC (.int 1)) (tOp (uIx K) (tVar 2) (tC (.int 0)))) (gName 4))
  (tSeq (tAsg (tOp (uAdd K) (tC (.int 1)) (tOp (uIx K) (tVar 2) (tC (.int 1)))) (gName 5))
  (tSeq (tAsg (tOp (uAdd K) (tC (.int 1)) (tOp (uIx K) (tVar 2) (tC (.int 3)))) (gName 6))
  (tSeq (tAsg (tOp (uAdd K) (tOp (uAdd K) (tOp (uAdd K) (tOp (uMul) (tC (.int 13)) (tOp (uPow) (tC (.int 40)) (tC (.int 10)))) (tOp (uMul) (tC (.int 1)) (tOp (uPow) (tC (.int 40)) (tC (.int 9))))) (tOp (uMul) (tC (.int 9)) (tOp (uPow) (tC (.int 40)) (tC (.int 8))))) (tOp (uMul) (tC (.int 14)) (tOp (uPow) (tC (.int 40)) (tC (.int 7))))) (gName 7))
  (tSeq (tIfS (tTest (tOp (uEq K) (tVar 4) (tC (.int 1)))) (tRet (tTup (tCons (tC (.int 1)) (tCons (tVar 7) (tCons (tVar 5) (tCons (tOp (uIx K) (tVar 3) (tOp (uIx K) (tVar 2) (tC (.int 2)))) (tCons (tOp (uAdd K) (tC (.int 1)) (tOp (uIx K) (tVar 2) (tC (.int 5)))) (tCons (tOp (uIx K) (tVar 2) (tC (.int 6))) (tNil))))))))) (tNext))
  (tSeq (tIfS (tTest (tOp (uEq K) (tVar 4) (tC (.int 2)))) (tRet (tTup (tCons (tC (.int 2)) (tCons (tVar 7) (tCons (tVar 5) (tCons (tVar 6) (tCons (tOp (uIx K) (tVar 3) (tOp (uIx K) (tVar 2) (tC (.int 2)))) (tNil)))))))) (tNext))
  (tSeq (tIfS (tOr (tTest (tOp (uEq K) (tVar 4) (tC (.int 3)))) (tTest (tOp (uEq K) (tVar 4) (tC (.int 4))))) (tRet (tTup (tCons (tVar 4) (tCons (tVar 7) (tCons (tVar 5) (tCons (tOp (uIx K) (tVar 3) (tOp (uIx K) (tVar 2) (tC (.int 2)))) (tNil))))))) (tNext))
  (tSeq (tIfS (tTest (tOp (uEq K) (tVar 4) (tC (.int 5)))) (tRet (tTup (tCons (tC (.int 5)) (tCons (tVar 7) (tCons (tVar 5) (tCons (tOp (uIx K) (tVar 3) (tOp (uIx K) (tVar 2) (tC (.int 2)))) (tCons (tVar 6) (tCons (tOp (uIx K) (tVar 3) (tOp (uIx K) (tVar 2) (tC (.int 4)))) (tNil))))))))) (tNext))
  (tSeq (tIfS (tTest (tOp (uEq K) (tVar 4) (tC (.int 6)))) (tSeq (tAsg (tOp (uAdd K) (tC (.int 1)) (tOp (uIx K) (tVar 2) (tC (.int 7)))) (gName 8))
  (tSeq (tAsg (tLc (iRng1 (tCons (tVar 8) (tNil))) (gName 10) (tYes) (tOp (uAdd K) (tOp (uIx K) (tVar 2) (tC (.int 12))) (tOp (uMul) (tVar 10) (tOp (uIx K) (tVar 2) (tC (.int 5))))) [10]) (gName 9))
  (tRet (tCB (uTuple K) (tCons (tOp (uAdd K) (tLst (tCons (tC (.int 6)) (tCons (tVar 7) (tCons (tVar 5) (tCons (tCB (uMin K) (tCons (tOp (uDiv) (tOp (uIx K) (tVar 2) (tC (.int 8))) (tOp (uAdd K) (tC (.int 1)) (tOp (uMul) (tC (.int 15)) (tOp (uIx K) (tVar 2) (tC (.int 5)))))) (tCons (tOp (uSub) (tC (.int 2048)) (tVar 8)) (tNil)))) (tNil)))))) (tVar 9)) (tNil)))))) (tNext))
  (tSeq (tIfS (tTest (tOp (uEq K) (tVar 4) (tC (.int 7)))) (tRet (tTup (tCons (tC (.int 7)) (tCons (tVar 7) (tCons (tVar 5) (tCons (tOp (uDiv) (tOp (uIx K) (tVar 2) (tC (.int 8))) (tOp (uAdd K) (tC (.int 1)) (tOp (uMul) (tC (.int 15)) (tOp (uIx K) (tVar 2) (tC (.int 5)))))) (tNil))))))) (tNext))
  (tSeq (tIfS (tTest (tOp (uEq K) (tVar 4) (tC (.int 8)))) (tRet (tTup (tCons (tC (.int 8)) (tCons (tVar 7) (tCons (tVar 5) (tCons (tOp (uDiv) (tOp (uIx K) (tVar 2) (tC (.int 9))) (tOp (uAdd K) (tC (.int 1)) (tOp (uMul) (tC (.int 9)) (tOp (uIx K) (tVar 2) (tC (.int 5)))))) (tCons (tVar 6) (tCons (tOp (uDiv) (tOp (uIx K) (tVar 2) (tC (.int 10))) (tOp (uAdd K) (tC (.int 1)) (tOp (uMul) (tC (.int 9)) (tOp (uIx K) (tVar 2) (tC (.int 5)))))) (tCons (tOp (uAdd K) (tC (.int 1)) (tOp (uMod) (tOp (uIx K) (tVar 2) (tC (.int 11))) (tC (.int 4)))) (tNil)))))))))) (tNext))
  (tSeq (tIfS (tTest (tOp (uEq K) (tVar 4) (tC (.int 9)))) (tRet (tTup (tCons (tC (.int 9)) (tCons (tVar 7) (tCons (tVar 5) (tCons (tOp (uIx K) (tVar 2) (tC (.int 6))) (tNil))))))) (tNext))
  (tRet (tTup (tCons (tC (.int 10)) (tCons (tVar 7) (tCons (tVar 5) (tNil)))))))))))))))))))
theorem pure__law_intent {K : PySem.W.Frag} {C : Ex} {vs : List V} {H : Hp} {Q : VK} {E : XK} (F : Fa K C) (h : sp__law_intent K C vs H Q E) : t__law_intent K C E { nx := fun _ H' => Q .non H', rt := Q } (start ["_law_cell_here", "_law_most", "_law_digits_here", "_law_words", "_law_kind", "_law_inode", "_law_other", "_law_main", "_law_size", "_law_cells_here", "_law_k"] vs) H := by
  obtain ⟨a, b, rfl, c, m, rfl, rfl, m0, m1, k⟩ := h
  unfold t__law_intent
  walk_at "run1"
  rename_i bl hbl
  refine w_S2 ⟨c, bl, [10, 5, 3, 5, 3, 2, 256, m, 2049, 61, 61, 4, 10 ^ (6 : Int).toNat], rfl, rfl, SqL.of upd_same, (by show 13 ≤ 1000; decide), fun x hx => ?_, fun dl H1 ds s1 hdl e1 ok => ?_⟩
  · simp only [List.mem_cons, List.not_mem_nil, or_false] at hx
    rcases hx with rfl | rfl | rfl | rfl | rfl | rfl | rfl | rfl | rfl | rfl | rfl | rfl | rfl <;> first | decide | omega
  have ln : ds.length = 13 := ok.1
  have ok2 : ∀ i : Nat, i < 13 → 0 ≤ ds.getD i 0 ∧ ds.getD i 0 < [10, 5, 3, 5, 3, 2, 256, m, 2049, 61, 61, 4, 10 ^ (6 : Int).toNat].getD i 0 := ok.2
  have D0 : 0 ≤ ds.getD (0 : Int).toNat 0 ∧ ds.getD (0 : Int).toNat 0 < 10 := ok2 0 (by decide)
  have D1 : 0 ≤ ds.getD (1 : Int).toNat 0 ∧ ds.getD (1 : Int).toNat 0 < 5 := ok2 1 (by decide)
  have D2 : 0 ≤ ds.getD (2 : Int).toNat 0 ∧ ds.getD (2 : Int).toNat 0 < 3 := ok2 2 (by decide)
  have D3 : 0 ≤ ds.getD (3 : Int).toNat 0 ∧ ds.getD (3 : Int).toNat 0 < 5 := ok2 3 (by decide)
  have D4 : 0 ≤ ds.getD (4 : Int).toNat 0 ∧ ds.getD (4 : Int).toNat 0 < 3 := ok2 4 (by decide)
  have D5 : 0 ≤ ds.getD (5 : Int).toNat 0 ∧ ds.getD (5 : Int).toNat 0 < 2 := ok2 5 (by decide)
  have D6 : 0 ≤ ds.getD (6 : Int).toNat 0 ∧ ds.getD (6 : Int).toNat 0 < 256 := ok2 6 (by decide)
  have D7 : 0 ≤ ds.getD (7 : Int).toNat 0 ∧ ds.getD (7 : Int).toNat 0 < m := ok2 7 (by decide)
  have D8 : 0 ≤ ds.getD (8 : Int).toNat 0 ∧ ds.getD (8 : Int).toNat 0 < 2049 := ok2 8 (by decide)
  have D9 : 0 ≤ ds.getD (9 : Int).toNat 0 ∧ ds.getD (9 : Int).toNat 0 < 61 := ok2 9 (by decide)
  have D10 : 0 ≤ ds.getD (10 : Int).toNat 0 ∧ ds.getD (10 : Int).toNat 0 < 61 := ok2 10 (by decide)
  have D11 : 0 ≤ ds.getD (11 : Int).toNat 0 ∧ ds.getD (11 : Int).toNat 0 < 4 := ok2 11 (by decide)
  have D12 : 0 ≤ ds.getD (12 : Int).toNat 0 ∧ ds.getD (12 : Int).toNat 0 < 1000000 := ok2 12 (by decide)
  have nw2 := nm_ws D2
  have nw4 := nm_ws D4
  have s0 : Same H H1 := (same_new hbl).trans s1
  have hk0 : ∀ wl t xs, H1 wl = none → upd H1 wl (.lst (wsL.map V.int)) t = none → ∀ ns : List Int, ns.map V.int = xs → IntentR m ns → Q (.ref t) (upd (upd H1 wl (.lst (wsL.map V.int))) t (.tup xs)) := fun wl t xs hwl ht ns e r =>
    k t _ ns (same_updN (same_updN s0 hwl) ht) (s0.free (none_of_upd ht).1) (by rw [e]; exact upd_same) r
  have hM : 0 ≤ mainW := by decide +kernel
  have q8 := div_le (b := 1 + 15 * ds.getD (5 : Int).toNat 0) D8.1 (by omega)
  have q9 := div_le (b := 1 + 9 * ds.getD (5 : Int).toNat 0) D9.1 (by omega)
  have q10 := div_le (b := 1 + 9 * ds.getD (5 : Int).toNat 0) D10.1 (by omega)
  walk_at "run1"
  · rename_i wl hwl hk1 t ht
    refine hk0 wl t _ hwl ht [1, mainW, 1 + ds.getD (1 : Int).toNat 0, wsL.getD (ds.getD (2 : Int).toNat 0).toNat 0, 1 + ds.getD (5 : Int).toNat 0, ds.getD (6 : Int).toNat 0] rfl ⟨⟨by show 3 ≤ 6; decide, by show ((6 : Nat) : Int) ≤ _; omega⟩, fun z hz => ?_, chk1 nm_main (by omega) nw2.1 (by omega) (by omega)⟩
    simp only [List.mem_cons, List.not_mem_nil, or_false] at hz
    rcases hz with rfl | rfl | rfl | rfl | rfl | rfl <;> first | decide | omega | exact hM | exact nw2.2
  walk_at "run1"
  · rename_i wl hwl hk1 hk2 t ht
    refine hk0 wl t _ hwl ht [2, mainW, 1 + ds.getD (1 : Int).toNat 0, 1 + ds.getD (3 : Int).toNat 0, wsL.getD (ds.getD (2 : Int).toNat 0).toNat 0] rfl ⟨⟨by show 3 ≤ 5; decide, by show ((5 : Nat) : Int) ≤ _; omega⟩, fun z hz => ?_, chk2 nm_main (by omega) nw2.1 (by omega)⟩
    simp only [List.mem_cons, List.not_mem_nil, or_false] at hz
    rcases hz with rfl | rfl | rfl | rfl | rfl <;> first | decide | omega | exact hM | exact nw2.2
  walk_at "run1"
  · rename_i wl hwl hk1 hk2 hk3 t ht
    refine hk0 wl t _ hwl ht [1 + ds.getD (0 : Int).toNat 0, mainW, 1 + ds.getD (1 : Int).toNat 0, wsL.getD (ds.getD (2 : Int).toNat 0).toNat 0] rfl ⟨⟨by show 3 ≤ 4; decide, by show ((4 : Nat) : Int) ≤ _; omega⟩, fun z hz => ?_, chk34 nm_main (by omega) nw2.1 (.inl hk3)⟩
    simp only [List.mem_cons, List.not_mem_nil, or_false] at hz
    rcases hz with rfl | rfl | rfl | rfl <;> first | decide | omega | exact hM | exact nw2.2
  walk_at "run1"
  · rename_i wl hwl hk1 hk2 hk3 hk4 t ht
    refine hk0 wl t _ hwl ht [1 + ds.getD (0 : Int).toNat 0, mainW, 1 + ds.getD (1 : Int).toNat 0, wsL.getD (ds.getD (2 : Int).toNat 0).toNat 0] rfl ⟨⟨by show 3 ≤ 4; decide, by show ((4 : Nat) : Int) ≤ _; omega⟩, fun z hz => ?_, chk34 nm_main (by omega) nw2.1 (.inr hk4)⟩
    simp only [List.mem_cons, List.not_mem_nil, or_false] at hz
    rcases hz with rfl | rfl | rfl | rfl <;> first | decide | omega | exact hM | exact nw2.2
  walk_at "run1"
  · rename_i wl hwl hk1 hk2 hk3 hk4 hk5 t ht
    refine hk0 wl t _ hwl ht [5, mainW, 1 + ds.getD (1 : Int).toNat 0, wsL.getD (ds.getD (2 : Int).toNat 0).toNat 0, 1 + ds.getD (3 : Int).toNat 0, wsL.getD (ds.getD (4 : Int).toNat 0).toNat 0] rfl ⟨⟨by show 3 ≤ 6; decide, by show ((6 : Nat) : Int) ≤ _; omega⟩, fun z hz => ?_, chk5 nm_main (by omega) nw2.1 (by omega) nw4.1⟩
    simp only [List.mem_cons, List.not_mem_nil, or_false] at hz
    rcases hz with rfl | rfl | rfl | rfl | rfl | rfl <;> first | decide | omega | exact hM | exact nw2.2 | exact nw4.2
  walk_at "run1"
  · rename_i wl hwl hk1 hk2 hk3 hk4 hk5 hk6
    have s2 : Same H1 (upd H1 wl (.lst (wsL.map V.int))) := same_new hwl
    have e2 := upd_old (o := .lst (wsL.map V.int)) e1 hwl
    have hkz : ∀ t ns H', Same (upd H1 wl (.lst (wsL.map V.int))) H' → H' t = none → IntentR m ns → Q (.ref t) (upd H' t (.tup (ns.map V.int))) := fun t ns H' s' ht r => k t _ ns (same_updN (s0.trans (s2.trans s')) ht) (s0.free (s2.free (s'.free ht))) upd_same r
    refine l_range (fun D i H' => Same (upd H1 wl (.lst (wsL.map V.int))) H' ∧ H' D = some (.lst (((List.range i).map fun j : Nat => ds.getD (12 : Int).toNat 0 + (j : Int) * ds.getD (5 : Int).toNat 0).map V.int))) (fun D hD => ⟨same_new hD, upd_same⟩) ?_ ?_
    · rintro D i H3 hD hi ⟨s3, e3⟩
      have hi : i < (1 + ds.getD (7 : Int).toNat 0).toNat := hi
      have e23 := s3 _ _ e2
      walk_at "run1"
      refine ⟨rfl, ?_⟩
      walk_at "run1"
      refine ⟨_, e3, by rw [List.length_map, List.length_map, List.length_range]; exact lt_line (by omega), same_upd s3 hD, ?_⟩
      rw [upd_same, List.range_succ, List.map_append, List.map_append, Int.zero_add]
      rfl
    · rintro D H3 hD ⟨s3, e3⟩
      have e23 := s3 _ _ e2
      walk_at "run1"
      rename_i l hl
      have e3l := upd_old (o := .lst [.int 6, .int mainW, .int (1 + ds.getD (1 : Int).toNat 0), .int (if 2048 - (1 + ds.getD (7 : Int).toNat 0) < ds.getD (8 : Int).toNat 0 / (1 + 15 * ds.getD (5 : Int).toNat 0) then 2048 - (1 + ds.getD (7 : Int).toNat 0) else ds.getD (8 : Int).toNat 0 / (1 + 15 * ds.getD (5 : Int).toNat 0))]) e3 hl
      have s4 := same_updN (o := .lst [.int 6, .int mainW, .int (1 + ds.getD (1 : Int).toNat 0), .int (if 2048 - (1 + ds.getD (7 : Int).toNat 0) < ds.getD (8 : Int).toNat 0 / (1 + 15 * ds.getD (5 : Int).toNat 0) then 2048 - (1 + ds.getD (7 : Int).toNat 0) else ds.getD (8 : Int).toNat 0 / (1 + 15 * ds.getD (5 : Int).toNat 0))]) s3 hl
      have hcl : (List.map (fun j : Nat => ds.getD (12 : Int).toNat 0 + (j : Int) * ds.getD (5 : Int).toNat 0) (List.range (1 + ds.getD (7 : Int).toNat 0).toNat)).length = (1 + ds.getD (7 : Int).toNat 0).toNat := by rw [List.length_map, List.length_range]
      have hcn : ∀ z ∈ List.map (fun j : Nat => ds.getD (12 : Int).toNat 0 + (j : Int) * ds.getD (5 : Int).toNat 0) (List.range (1 + ds.getD (7 : Int).toNat 0).toNat), 0 ≤ z := fun z hz => by
        obtain ⟨j, _, rfl⟩ := List.mem_map.mp hz
        have := Int.mul_nonneg (Int.natCast_nonneg j) D5.1
        omega
      have e4 : upd H3 l (.lst [.int 6, .int mainW, .int (1 + ds.getD (1 : Int).toNat 0), .int (if 2048 - (1 + ds.getD (7 : Int).toNat 0) < ds.getD (8 : Int).toNat 0 / (1 + 15 * ds.getD (5 : Int).toNat 0) then 2048 - (1 + ds.getD (7 : Int).toNat 0) else ds.getD (8 : Int).toNat 0 / (1 + 15 * ds.getD (5 : Int).toNat 0))]) l = some (.lst ([6, mainW, 1 + ds.getD (1 : Int).toNat 0, if 2048 - (1 + ds.getD (7 : Int).toNat 0) < ds.getD (8 : Int).toNat 0 / (1 + 15 * ds.getD (5 : Int).toNat 0) then 2048 - (1 + ds.getD (7 : Int).toNat 0) else ds.getD (8 : Int).toNat 0 / (1 + 15 * ds.getD (5 : Int).toNat 0)].map V.int)) := upd_same
      generalize upd H3 l _ = H4 at *
      generalize List.map (fun j : Nat => ds.getD (12 : Int).toNat 0 + (j : Int) * ds.getD (5 : Int).toNat 0) (List.range (1 + ds.getD (7 : Int).toNat 0).toNat) = cs at *
      have ht : ∀ t : Int, t = (if 2048 - (1 + ds.getD (7 : Int).toNat 0) < ds.getD (8 : Int).toNat 0 / (1 + 15 * ds.getD (5 : Int).toNat 0) then 2048 - (1 + ds.getD (7 : Int).toNat 0) else ds.getD (8 : Int).toNat 0 / (1 + 15 * ds.getD (5 : Int).toNat 0)) → 0 ≤ t ∧ t + (1 + ds.getD (7 : Int).toNat 0) ≤ 2048 := fun t e => by
        rw [e]
        split <;> omega
      generalize (if 2048 - (1 + ds.getD (7 : Int).toNat 0) < ds.getD (8 : Int).toNat 0 / (1 + 15 * ds.getD (5 : Int).toNat 0) then 2048 - (1 + ds.getD (7 : Int).toNat 0) else ds.getD (8 : Int).toNat 0 / (1 + 15 * ds.getD (5 : Int).toNat 0)) = tt at *
      have ht := ht tt rfl
      refine w_cat e4 e3l (by rw [List.length_map, List.length_map, hcl]; show 4 + _ ≤ _; omega) fun l2 hl2 => ?_
      rw [← List.map_append]
      walk_at "run1"
      refine w_ttupL (SqL.of upd_same) fun t hlt => ?_
      refine hkz t ([6, mainW, 1 + ds.getD (1 : Int).toNat 0, tt] ++ cs) _ (same_updN s4 hl2) hlt ⟨⟨by rw [List.length_append]; show 3 ≤ 4 + _; omega, by rw [List.length_append, hcl]; show ((4 + _ : Nat) : Int) ≤ _; omega⟩, fun z hz => ?_, chk6 nm_main (by omega) (by omega) (by omega)⟩
      rcases List.mem_append.mp hz with hz | hz
      · simp only [List.mem_cons, List.not_mem_nil, or_false] at hz
        rcases hz with rfl | rfl | rfl | rfl <;> first | decide | omega | exact hM
      · exact hcn z hz
  walk_at "run1"
  · rename_i wl hwl hk1 hk2 hk3 hk4 hk5 hk6 hk7 t ht
    refine hk0 wl t _ hwl ht [7, mainW, 1 + ds.getD (1 : Int).toNat 0, ds.getD (8 : Int).toNat 0 / (1 + 15 * ds.getD (5 : Int).toNat 0)] rfl ⟨⟨by show 3 ≤ 4; decide, by show ((4 : Nat) : Int) ≤ _; omega⟩, fun z hz => ?_, chk7 nm_main (by omega) (by omega)⟩
    simp only [List.mem_cons, List.not_mem_nil, or_false] at hz
    rcases hz with rfl | rfl | rfl | rfl <;> first | decide | omega | exact hM
  walk_at "run1"
  · rename_i wl hwl hk1 hk2 hk3 hk4 hk5 hk6 hk7 hk8 t ht
    refine hk0 wl t _ hwl ht [8, mainW, 1 + ds.getD (1 : Int).toNat 0, ds.getD (9 : Int).toNat 0 / (1 + 9 * ds.getD (5 : Int).toNat 0), 1 + ds.getD (3 : Int).toNat 0, ds.getD (10 : Int).toNat 0 / (1 + 9 * ds.getD (5 : Int).toNat 0), 1 + ds.getD (11 : Int).toNat 0 % 4] rfl ⟨⟨by show 3 ≤ 7; decide, by show ((7 : Nat) : Int) ≤ _; omega⟩, fun z hz => ?_, chk8 nm_main (by omega) (by omega) (by omega) (by omega) (by omega)⟩
    simp only [List.mem_cons, List.not_mem_nil, or_false] at hz
    rcases hz with rfl | rfl | rfl | rfl | rfl | rfl | rfl <;> first | decide | omega | exact hM
  walk_at "run1"
  · rename_i wl hwl hk1 hk2 hk3 hk4 hk5 hk6 hk7 hk8 hk9 t ht
    refine hk0 wl t _ hwl ht [9, mainW, 1 + ds.getD (1 : Int).toNat 0, ds.getD (6 : Int).toNat 0] rfl ⟨⟨by show 3 ≤ 4; decide, by show ((4 : Nat) : Int) ≤ _; omega⟩, fun z hz => ?_, chk9 nm_main (by omega) (by omega)⟩
    simp only [List.mem_cons, List.not_mem_nil, or_false] at hz
    rcases hz with rfl | rfl | rfl | rfl <;> first | decide | omega | exact hM
  walk_at "run1"
  · rename_i wl hwl hk1 hk2 hk3 hk4 hk5 hk6 hk7 hk8 hk9 t ht
    refine hk0 wl t _ hwl ht [10, mainW, 1 + ds.getD (1 : Int).toNat 0] rfl ⟨⟨by show 3 ≤ 3; decide, by show ((3 : Nat) : Int) ≤ _; omega⟩, fun z hz => ?_, chk10 nm_main (by omega)⟩
    simp only [List.mem_cons, List.not_mem_nil, or_false] at hz
    rcases hz with rfl | rfl | rfl <;> first | decide | omega | exact hM
def IntsLit : List (Int × Int) → List DictEntry → Prop
  | [], [] => True
  | (k, v) :: r, e :: es => ((∃ t, e.key = .int k t) ∧ e.hash = hashInt k ∧ ∃ t, e.val = .int v t) ∧ IntsLit r es
  | _, _ => False
theorem IntsLit.all : ∀ {kvs : List (Int × Int)} {es : List DictEntry}, IntsLit kvs es → ∀ e ∈ es, ∃ k t, e.key = .int k t ∧ e.hash = hashInt k
  | [], [], _, _, h => nomatch h
  | _ :: _, [], h, _, _ => h.elim
  | [], _ :: _, h, _, _ => h.elim
  | (k, v) :: r, e :: es, h, e', m => by
    obtain ⟨⟨⟨t, a⟩, b, c⟩, d⟩ := h
    rcases List.mem_cons.mp m with rfl | m
    · exact ⟨k, t, a, b⟩
    · exact IntsLit.all d e' m
theorem IntsLit.find : ∀ {kvs : List (Int × Int)} {es : List DictEntry}, IntsLit kvs es → ∀ {k v : Int}, kvs.lookup k = some v → ∃ t, ((es.find? fun e => Value.isInt k e.key).map (·.val)) = some (.int v t)
  | [], [], _, _, _, e => nomatch e
  | _ :: _, [], h, _, _, _ => h.elim
  | [], _ :: _, h, _, _, _ => h.elim
  | (k', v') :: r, e :: es, h, k, v, l => by
    obtain ⟨⟨⟨t, a⟩, b, ⟨t', c⟩⟩, d⟩ := h
    rw [List.lookup_cons] at l
    rw [List.find?_cons, a]
    by_cases q : k = k'
    · subst q
      rw [beq_self_eq_true] at l
      cases l
      have z : Value.isInt k (.int k t) = true := by simp [Value.isInt]
      rw [z]
      exact ⟨t', by rw [← c]; rfl⟩
    · have z : Value.isInt k (.int k' t) = false := by simp [Value.isInt]; exact fun e => q e.symm
      rw [z]
      rw [show (k == k') = false from by simp [q]] at l
      exact IntsLit.find d l
def KDI (K : PySem.W.Frag) (a : Addr) (kvs : List (Int × Int)) : Prop := ∃ es n, K.lookup a = some ⟨.type "dict", none, .dict es n, #[]⟩ ∧ IntsLit kvs es.toList
def uKI (a : Addr) (kvs : List (Int × Int)) : R2 := fun x y H Q => x = .ref a ∧ ∃ i v, y = .int i ∧ kvs.lookup i = some v ∧ Q (.int v) H
section
variable {X : Cx} {a : Addr} {kvs : List (Int × Int)}
theorem ix_ki (h : KDI X.K a kvs) : IxR X (uKI a kvs) := by
  intro value slice pins s σ H x y v u Q I rx ry q hs
  obtain ⟨rfl, i, r, rfl, l, q⟩ := q
  obtain ⟨es, n, hl, hk⟩ := h
  obtain rfl : v = Value.ref a := rx
  obtain ⟨t, rfl⟩ := ry
  have hm : s.heap.MapOf (intKind X.prog X.w) a (fun k => findBy Value.isInt es k) := Heap.IntMap.mapOf ⟨_, es, n, I.kIn _ _ hl, rfl, rfl, fun e he => hk.all e (Array.mem_toList_iff.mpr he), fun _ => rfl⟩ fun o ho => by
    rw [I.kIn _ _ hl] at ho
    cases ho
    exact ⟨rfl, rfl⟩
  obtain ⟨t', e⟩ := hk.find l
  have e' : findBy Value.isInt es i = some (.int r t') := by
    obtain ⟨l⟩ := es
    unfold findBy
    rw [List.find?_toArray]
    exact e
  exact PyProof.Rows.tail_any hm.typeIs slot_dict_getitem.lookup (wpAny_getItem_of (intKind_is X.prog X.w i t) hm e' ⟨.int r, H, I.tok _, ⟨t', rfl⟩, q⟩) hs
theorem e_ki {x y : Expr} {ta tb : TE} {pos : Pos} (h : KDI X.K a kvs) (ha : PE X x ta) (hb : PE X y tb) (hs : PlainIx y := by exact fun _ _ => rfl) : PE X (.Subscript x y pos) (tOp (uKI a kvs) ta tb) := pe_ix (ix_ki h) ha hb hs
end
theorem w_ki {H : Hp} {Q : VK} {a : Addr} {kvs : List (Int × Int)} {i v : Int} (l : kvs.lookup i = some v) (h : Q (.int v) H) : uKI a kvs (.ref a) (.int i) H Q := ⟨rfl, i, v, rfl, l, h⟩
theorem ix46 : ix 46 = 36 := by decide +kernel
theorem nm_told {w : Int} (hp : ∀ k, k < 10 → dgW w k ≠ 0 ∨ dgW w (k + 1) = 0) : ∀ i, i ≤ 11 → ∃ l, Told w l i ∧ (l.length = i ∨ (l.length < i ∧ ∀ k, l.length ≤ k → k < 11 → dgW w k = 0))
  | 0, _ => ⟨[], .zero, .inl rfl⟩
  | i + 1, h => by
    obtain ⟨l, t, q⟩ := nm_told hp i (by omega)
    rcases q with q | ⟨q, z⟩
    · by_cases e : dgW w i = 0
      · refine ⟨l, t.skip e, .inr ⟨by omega, fun k h1 h2 => ?_⟩⟩
        have key : ∀ d, i + d < 11 → dgW w (i + d) = 0 := fun d => by
          induction d with
          | zero => intro _; exact e
          | succ d ih =>
            intro hd
            rcases hp (i + d) (by omega) with x | x
            · exact absurd (ih (by omega)) x
            · exact x
        have := key (k - i) (by omega)
        rw [show i + (k - i) = k by omega] at this
        exact this
      · exact ⟨_, t.put q e, .inl (by rw [List.length_append, q]; rfl)⟩
    · exact ⟨l, t.skip (z i (by omega) (by omega)), .inr ⟨by omega, z⟩⟩
theorem nm_iff (w : Int) : NmW w = true ↔ ∃ l, isName l ∧ nameW l = w := by
  have e1 : NmW w = true ↔ w / 40 ^ 11 = 0 ∧ dgW w 0 ≠ 0 ∧ (∀ k, k < 10 → dgW w k ≠ 0 ∨ dgW w (k + 1) = 0) ∧ ∃ k, k < 11 ∧ dgW w k ≠ 0 ∧ dgW w k ≠ 37 := by
    show (decide _ && decide _ && _ && _) = true ↔ _
    rw [Bool.and_eq_true, Bool.and_eq_true, Bool.and_eq_true, decide_eq_true_eq, decide_eq_true_eq, List.all_eq_true, List.any_eq_true]
    constructor
    · rintro ⟨⟨⟨a, b⟩, c⟩, k, hk, d⟩
      exact ⟨a, b, fun k hk => of_decide_eq_true (c k (List.mem_range.mpr hk)), k, List.mem_range.mp hk, of_decide_eq_true d⟩
    · rintro ⟨a, b, c, k, hk, d⟩
      exact ⟨⟨⟨a, b⟩, fun k hk => decide_eq_true (c k (List.mem_range.mp hk))⟩, k, List.mem_range.mpr hk, decide_eq_true d⟩
  rw [e1]
  constructor
  · rintro ⟨a, b, c, k, hk, d1, d2⟩
    obtain ⟨l, t, q⟩ := nm_told c 11 (Nat.le_refl _)
    refine ⟨l, (isName_of t.len t.all).mpr fun e => ?_, t.yes a⟩
    have z := t.dg k hk
    rw [z] at d1 d2
    have hl : k < l.length := by
      rcases Nat.lt_or_ge k l.length with h | h
      · exact h
      · exact absurd (dgN_end h) d1
    have hc := List.count_eq_length.mp e _ (List.getElem_mem hl)
    rw [dgN_at (List.getElem?_eq_getElem hl), ← hc, ix46] at d2
    exact d2 rfl
  · rintro ⟨l, hl, rfl⟩
    obtain ⟨d, _, _⟩ := name_dg hl
    refine ⟨name_div hl, ?_, fun k hk => ?_, ?_⟩
    · rw [d 0 (by omega)]
      have := dgN_pos hl.2.1 hl.1.1
      omega
    · rw [d k (by omega), d (k + 1) (by omega)]
      rcases Nat.lt_or_ge k l.length with h | h
      · have := dgN_pos hl.2.1 h
        exact .inl (by omega)
      · exact .inr (dgN_end (by omega))
    · have ne := hl.2.2
      have : ∃ k, ∃ h : k < l.length, l[k] ≠ 46 := by
        apply Classical.byContradiction
        intro q
        refine ne (List.count_eq_length.mpr fun b hb => ?_)
        obtain ⟨k, hk, e⟩ := List.getElem_of_mem hb
        apply Classical.byContradiction
        intro x
        exact q ⟨k, hk, fun y => x (by rw [← e, y])⟩
      obtain ⟨k, hk, x⟩ := this
      have hm := hl.2.1 _ (List.getElem_mem hk)
      refine ⟨k, by have := hl.1.2; omega, ?_, ?_⟩
      · rw [d k (by have := hl.1.2; omega)]
        have := dgN_pos hl.2.1 hk
        omega
      · rw [d k (by have := hl.1.2; omega), dgN_at (List.getElem?_eq_getElem hk)]
        intro e
        exact x (ixc_inj hm (by decide) (by rw [ix46]; omega))
def sp_is_name (K : PySem.W.Frag) (_ : Ex) : Sp := S1 fun a H Q _ => ∃ w : Int, a = .int w ∧ ∀ H', Same H H' → Q (.bl (NmW w)) H'
def t_is_name (K : PySem.W.Frag) (C : Ex) (E : XK) : TS :=
  tSeq (uTry K (.ref C.BadName) (fun W => tDrop (uCall (sp_word_name K C) W (tCons (tVar 0) (tNil)))) (fun a cls d => tRet (tC (.bl false))) (WB E))
  (tRet (tC (.bl true)))
theorem pure_is_name {K : PySem.W.Frag} {C : Ex} {vs : List V} {H : Hp} {Q : VK} {E : XK} (F : Fa K C) (h : sp_is_name K C vs H Q E) : t_is_name K C E { nx := fun _ H' => Q .non H', rt := Q } (start ["word"] vs) H := by
  obtain ⟨a, rfl, w, rfl, k⟩ := h
  unfold t_is_name
  walk_at "run1"
  refine w_S1 ⟨w, rfl, fun H' s => ⟨fun l hl e => ?_, fun hn => ?_⟩⟩
  · walk_at "run1"
    rw [show true = NmW w from ((nm_iff w).mpr ⟨l, hl, e⟩).symm]
    exact k H' s
  · walk_at "run1"
    have z : NmW w = false := by
      cases e : NmW w with
      | false => rfl
      | true =>
        obtain ⟨l, hl, e⟩ := (nm_iff w).mp e
        exact absurd e (hn l hl)
    rw [← z]
    exact k H' s
theorem in12 (z : Int) : inV (.int z) [.int 1, .int 2] = decide (1 ≤ z ∧ z ≤ 2) := by
  rw [Bool.eq_iff_iff]
  unfold inV
  simp [eqV]
  omega
theorem chk_sz {ns : List Int} (h : chkLen ns = true) : (3 ≤ ns.length ∧ 1 ≤ ns.getD 0 0 ∧ ns.getD 0 0 ≤ 10) ∧ (ns.getD 0 0 = 6 → 5 ≤ ns.length) ∧ (ns.getD 0 0 ≠ 6 → ns.length = szK (ns.getD 0 0)) := by
  obtain ⟨a, b⟩ := Bool.and_eq_true_iff.mp h
  refine ⟨of_decide_eq_true a, fun e => ?_, fun e => ?_⟩
  · rw [if_pos e] at b
    exact of_decide_eq_true b
  · rw [if_neg e] at b
    exact of_decide_eq_true b
theorem list3 {ns : List Int} (h : ns.length = 3) : ∃ a b c, ns = [a, b, c] := match ns, h with | [a, b, c], _ => ⟨a, b, c, rfl⟩
theorem list4 {ns : List Int} (h : ns.length = 4) : ∃ a b c d, ns = [a, b, c, d] := match ns, h with | [a, b, c, d], _ => ⟨a, b, c, d, rfl⟩
theorem list5 {ns : List Int} (h : ns.length = 5) : ∃ a b c d e, ns = [a, b, c, d, e] := match ns, h with | [a, b, c, d, e], _ => ⟨a, b, c, d, e, rfl⟩
theorem list6 {ns : List Int} (h : ns.length = 6) : ∃ a b c d e f, ns = [a, b, c, d, e, f] := match ns, h with | [a, b, c, d, e, f], _ => ⟨a, b, c, d, e, f, rfl⟩
theorem list7 {ns : List Int} (h : ns.length = 7) : ∃ a b c d e f g, ns = [a, b, c, d, e, f, g] := match ns, h with | [a, b, c, d, e, f, g], _ => ⟨a, b, c, d, e, f, g, rfl⟩
theorem list5up {ns : List Int} (h : 5 ≤ ns.length) : ∃ a b c d e r, ns = a :: b :: c :: d :: e :: r := match ns, h with | a :: b :: c :: d :: e :: r, _ => ⟨a, b, c, d, e, r, rfl⟩
/-- the ten forms -/
def Forms (ns : List Int) : Prop := (∃ b c d e f, ns = [1, b, c, d, e, f]) ∨ (∃ b c d e, ns = [2, b, c, d, e]) ∨ (∃ b c d, ns = [3, b, c, d]) ∨ (∃ b c d, ns = [4, b, c, d]) ∨ (∃ b c d e f, ns = [5, b, c, d, e, f]) ∨ (∃ b c d e r, ns = 6 :: b :: c :: d :: e :: r) ∨ (∃ b c d, ns = [7, b, c, d]) ∨ (∃ b c d e f g, ns = [8, b, c, d, e, f, g]) ∨ (∃ b c d, ns = [9, b, c, d]) ∨ (∃ b c, ns = [10, b, c])
theorem forms {ns : List Int} (h : chkLen ns = true) : Forms ns := by
  obtain ⟨⟨l3, k1, k10⟩, h6, hsz⟩ := chk_sz h
  have hk : ns.getD 0 0 = 1 ∨ ns.getD 0 0 = 2 ∨ ns.getD 0 0 = 3 ∨ ns.getD 0 0 = 4 ∨ ns.getD 0 0 = 5 ∨ ns.getD 0 0 = 6 ∨ ns.getD 0 0 = 7 ∨ ns.getD 0 0 = 8 ∨ ns.getD 0 0 = 9 ∨ ns.getD 0 0 = 10 := by omega
  unfold Forms
  rcases hk with e | e | e | e | e | e | e | e | e | e
  · rw [e] at hsz
    obtain ⟨a, b, c, d, f, g, rfl⟩ := list6 (hsz (by decide))
    have e : a = 1 := e
    subst e
    exact .inl ⟨_, _, _, _, _, rfl⟩
  · rw [e] at hsz
    obtain ⟨a, b, c, d, f, rfl⟩ := list5 (hsz (by decide))
    have e : a = 2 := e
    subst e
    exact .inr (.inl ⟨_, _, _, _, rfl⟩)
  · rw [e] at hsz
    obtain ⟨a, b, c, d, rfl⟩ := list4 (hsz (by decide))
    have e : a = 3 := e
    subst e
    exact .inr (.inr (.inl ⟨_, _, _, rfl⟩))
  · rw [e] at hsz
    obtain ⟨a, b, c, d, rfl⟩ := list4 (hsz (by decide))
    have e : a = 4 := e
    subst e
    exact .inr (.inr (.inr (.inl ⟨_, _, _, rfl⟩)))
  · rw [e] at hsz
    obtain ⟨a, b, c, d, f, g, rfl⟩ := list6 (hsz (by decide))
    have e : a = 5 := e
    subst e
    exact .inr (.inr (.inr (.inr (.inl ⟨_, _, _, _, _, rfl⟩))))
  · obtain ⟨a, b, c, d, f, r, rfl⟩ := list5up (h6 e)
    have e : a = 6 := e
    subst e
    exact .inr (.inr (.inr (.inr (.inr (.inl ⟨_, _, _, _, _, rfl⟩)))))
  · rw [e] at hsz
    obtain ⟨a, b, c, d, rfl⟩ := list4 (hsz (by decide))
    have e : a = 7 := e
    subst e
    exact .inr (.inr (.inr (.inr (.inr (.inr (.inl ⟨_, _, _, rfl⟩))))))
  · rw [e] at hsz
    obtain ⟨a, b, c, d, f, g, i, rfl⟩ := list7 (hsz (by decide))
    have e : a = 8 := e
    subst e
    exact .inr (.inr (.inr (.inr (.inr (.inr (.inr (.inl ⟨_, _, _, _, _, _, rfl⟩)))))))
  · rw [e] at hsz
    obtain ⟨a, b, c, d, rfl⟩ := list4 (hsz (by decide))
    have e : a = 9 := e
    subst e
    exact .inr (.inr (.inr (.inr (.inr (.inr (.inr (.inr (.inl ⟨_, _, _, rfl⟩))))))))
  · rw [e] at hsz
    obtain ⟨a, b, c, rfl⟩ := list3 (hsz (by decide))
    have e : a = 10 := e
    subst e
    exact .inr (.inr (.inr (.inr (.inr (.inr (.inr (.inr (.inr ⟨_, _, rfl⟩))))))))
local macro_rules | `(tactic| walk_at "lit") => `(tactic| (walk_at "run1"; repeat ((exfalso; omega); walk_at "run1")))
def sp_check_words (K : PySem.W.Frag) (_ : Ex) : Sp := S1 fun a H Q _ => ∃ (p : Addr) (ns : List Int), a = .ref p ∧ SqT K H p (ns.map V.int) ∧ chkLen ns = true ∧ ∀ H', Same H H' → Q (.bl (chkRest ns)) H'
def t_check_words (K : PySem.W.Frag) (C : Ex) (E : XK) : TS :=
  tSeq (tAsg (tOp (uIx K) (tVar 0) (tC (.int 0))) (gName 1))
  (tSeq (tIfS (tTest (tOp (uEq K) (tVar 1) (tC (.int 1)))) (tRet (tAndV (uCall (sp_is_name K C) (WB E) (tCons (tOp (uIx K) (tVar 0) (tC (.int 3))) (tNil))) (tAndV (tOp (uIn K) (tOp (uIx K) (tVar 0) (tC (.int 4))) (tTup (tCons (tC (.int 1)) (tCons (tC (.int 2)) (tNil))))) (tOp (uLe K) (tOp (uIx K) (tVar 0) (tC (.int 5))) (tC (.int 255)))))) (tNext))
  (tSeq (tIfS (tTest (tOp (uEq K) (tVar 1) (tC (.int 2)))) (tRet (tAndV (tOp (uGe K) (tOp (uIx K) (tVar 0) (tC (.int 3))) (tC (.int 1))) (uCall (sp_is_name K C) (WB E) (tCons (tOp (uIx K) (tVar 0) (tC (.int 4))) (tNil))))) (tNext))
  (tSeq (tIfS (tOr (tTest (tOp (uEq K) (tVar 1) (tC (.int 3)))) (tTest (tOp (uEq K) (tVar 1) (tC (.int 4))))) (tRet (uCall (sp_is_name K C) (WB E) (tCons (tOp (uIx K) (tVar 0) (tC (.int 3))) (tNil)))) (tNext))
  (tSeq (tIfS (tTest (tOp (uEq K) (tVar 1) (tC (.int 5)))) (tRet (tAndV (uCall (sp_is_name K C) (WB E) (tCons (tOp (uIx K) (tVar 0) (tC (.int 3))) (tNil))) (tAndV (tOp (uGe K) (tOp (uIx K) (tVar 0) (tC (.int 4))) (tC (.int 1))) (uCall (sp_is_name K C) (WB E) (tCons (tOp (uIx K) (tVar 0) (tC (.int 5))) (tNil)))))) (tNext))
  (tSeq (tIfS (tTest (tOp (uEq K) (tVar 1) (tC (.int 6)))) (tRet (tOp (uLe K) (tOp (uSub) (tOp (uAdd K) (tOp (uIx K) (tVar 0) (tC (.int 3))) (tCB (uLen K) (tCons (tVar 0) (tNil)))) (tC (.int 4))) (tC (.int 2048)))) (tNext))
  (tSeq (tIfS (tTest (tOp (uEq K) (tVar 1) (tC (.int 7)))) (tRet (tOp (uLe K) (tOp (uIx K) (tVar 0) (tC (.int 3))) (tC (.int 2048)))) (tNext))
  (tSeq (tIfS (tTest (tOp (uEq K) (tVar 1) (tC (.int 8)))) (tSeq (tAsg (tOp (uSub) (tOp (uDiv) (tC (.int 2048)) (tC (.int 32))) (tOp (uIx K) (tVar 0) (tC (.int 6)))) (gName 2))
  (tRet (tAndV (tOp (uGe K) (tOp (uIx K) (tVar 0) (tC (.int 4))) (tC (.int 1))) (tAndV (tOp (uGe K) (tOp (uIx K) (tVar 0) (tC (.int 6))) (tC (.int 1))) (tAndV (tOp (uLe K) (tOp (uIx K) (tVar 0) (tC (.int 3))) (tVar 2)) (tOp (uLe K) (tOp (uIx K) (tVar 0) (tC (.int 5))) (tVar 2))))))) (tNext))
  (tRet (tOrV (tOp (uEq K) (tVar 1) (tC (.int 10))) (tOp (uLe K) (tOp (uIx K) (tVar 0) (tC (.int 3))) (tC (.int 255))))))))))))
theorem pure_check_words {K : PySem.W.Frag} {C : Ex} {vs : List V} {H : Hp} {Q : VK} {E : XK} (F : Fa K C) (h : sp_check_words K C vs H Q E) : t_check_words K C E { nx := fun _ H' => Q .non H', rt := Q } (start ["words", "kind", "most"] vs) H := by
  obtain ⟨a, rfl, p, ns, rfl, hp, hc, k⟩ := h
  have s0 := L2.Same.refl H
  have fm := forms hc
  clear hc
  unfold t_check_words
  rcases fm with ⟨b, c, d, e, f, rfl⟩ | ⟨b, c, d, e, rfl⟩ | ⟨b, c, d, rfl⟩ | ⟨b, c, d, rfl⟩ | ⟨b, c, d, e, f, rfl⟩ | ⟨b, c, d, e, r, rfl⟩ | ⟨b, c, d, rfl⟩ | ⟨b, c, d, e, f, g, rfl⟩ | ⟨b, c, d, rfl⟩ | ⟨b, c, rfl⟩
  · have hp : SqT K H p [.int 1, .int b, .int c, .int d, .int e, .int f] := hp
    have k : ∀ H', Same H H' → Q (.bl (NmW d && (decide (1 ≤ e ∧ e ≤ 2) && decide (f ≤ 255)))) H' := k
    walk_at "lit"
    refine w_S1 ⟨_, rfl, fun H1 s1 => ?_⟩
    have hp1 := U.Same.sqt s1 hp
    walk_at "run1"
    refine ifB (fun h => ?_) (fun h => ?_)
    · rw [h] at k
      walk_at "run1"
      rename_i t ht
      refine .inl ⟨_, .inr (SqT.of upd_same), rfl, rfl, ?_⟩
      rw [in12]
      have hp2 := sqt_old (o := .tup [.int 1, .int 2]) hp1 ht
      have s2 := same_updN (o := .tup [.int 1, .int 2]) s1 ht
      generalize upd H1 t _ = H2 at *
      walk_at "run1"
      · rename_i h2
        rw [decide_eq_true h2] at k
        walk_at "run1"
        exact k _ s2
      · walk_at "run1"
        rename_i h2
        rw [decide_eq_false h2] at k
        exact k _ s2
    · rw [h] at k
      walk_at "run1"
      exact k _ s1
  · have hp : SqT K H p [.int 2, .int b, .int c, .int d, .int e] := hp
    have k : ∀ H', Same H H' → Q (.bl (decide (1 ≤ d) && NmW e)) H' := k
    walk_at "lit"
    · rename_i h2
      rw [decide_eq_true h2] at k
      walk_at "run1"
      refine w_S1 ⟨_, rfl, fun H1 s1 => ?_⟩
      walk_at "run1"
      exact k _ s1
    · walk_at "run1"
      rename_i h2
      rw [decide_eq_false h2] at k
      exact k _ s0
  · have hp : SqT K H p [.int 3, .int b, .int c, .int d] := hp
    have k : ∀ H', Same H H' → Q (.bl (NmW d)) H' := k
    walk_at "lit"
    refine w_S1 ⟨_, rfl, fun H1 s1 => ?_⟩
    walk_at "run1"
    exact k _ s1
  · have hp : SqT K H p [.int 4, .int b, .int c, .int d] := hp
    have k : ∀ H', Same H H' → Q (.bl (NmW d)) H' := k
    walk_at "lit"
    refine w_S1 ⟨_, rfl, fun H1 s1 => ?_⟩
    walk_at "run1"
    exact k _ s1
  · have hp : SqT K H p [.int 5, .int b, .int c, .int d, .int e, .int f] := hp
    have k : ∀ H', Same H H' → Q (.bl (NmW d && (decide (1 ≤ e) && NmW f))) H' := k
    walk_at "lit"
    refine w_S1 ⟨_, rfl, fun H1 s1 => ?_⟩
    have hp1 := U.Same.sqt s1 hp
    walk_at "run1"
    refine ifB (fun h => ?_) (fun h => ?_)
    · rw [h] at k
      walk_at "run1"
      · rename_i h2
        rw [decide_eq_true h2] at k
        walk_at "run1"
        refine w_S1 ⟨_, rfl, fun H2 s2 => ?_⟩
        walk_at "run1"
        exact k _ (s1.trans s2)
      · walk_at "run1"
        rename_i h2
        rw [decide_eq_false h2] at k
        exact k _ s1
    · rw [h] at k
      walk_at "run1"
      exact k _ s1
  · have hp : SqT K H p (.int 6 :: .int b :: .int c :: .int d :: .int e :: r.map V.int) := hp
    have k : ∀ H', Same H H' → Q (.bl (decide (d + ((6 :: b :: c :: d :: e :: r).length : Int) - 4 ≤ 2048))) H' := k
    walk_at "lit"
    have el : ((V.int 6 :: .int b :: .int c :: .int d :: .int e :: r.map V.int).length : Int) = ((6 :: b :: c :: d :: e :: r).length : Int) := by simp
    rw [el]
    exact k _ s0
  · have hp : SqT K H p [.int 7, .int b, .int c, .int d] := hp
    have k : ∀ H', Same H H' → Q (.bl (decide (d ≤ 2048))) H' := k
    walk_at "lit"
    exact k _ s0
  · have hp : SqT K H p [.int 8, .int b, .int c, .int d, .int e, .int f, .int g] := hp
    have k : ∀ H', Same H H' → Q (.bl (decide ((1 ≤ e ∧ 1 ≤ g) ∧ d + g ≤ 64 ∧ f + g ≤ 64))) H' := k
    have kk : ∀ x : Bool, (x = true ↔ (1 ≤ e ∧ 1 ≤ g) ∧ d + g ≤ 64 ∧ f + g ≤ 64) → Q (.bl x) H := fun x hx => by
      have e1 : x = decide ((1 ≤ e ∧ 1 ≤ g) ∧ d + g ≤ 64 ∧ f + g ≤ 64) := by rw [Bool.eq_iff_iff, hx]; simp
      rw [e1]
      exact k _ s0
    walk_at "lit"
    all_goals walk_at "run1"
    all_goals walk_at "run1"
    all_goals refine kk _ ?_
    all_goals first | (simp only [decide_eq_true_eq]; omega) | (simp only [Bool.false_eq_true, false_iff]; omega)
  · have hp : SqT K H p [.int 9, .int b, .int c, .int d] := hp
    have k : ∀ H', Same H H' → Q (.bl (decide (d ≤ 255))) H' := k
    walk_at "lit"
    exact k _ s0
  · have hp : SqT K H p [.int 10, .int b, .int c] := hp
    have k : ∀ H', Same H H' → Q (.bl true) H' := k
    walk_at "lit"
    exact k _ s0
theorem len_look {k : Int} (h1 : 1 ≤ k) (h2 : k ≤ 10) (h6 : k ≠ 6) : ([(1, 6), (2, 5), (3, 4), (4, 4), (5, 6), (7, 4), (8, 7), (9, 4), (10, 3)] : List (Int × Int)).lookup k = some ((szK k : Nat) : Int) := by
  rcases (show k = 1 ∨ k = 2 ∨ k = 3 ∨ k = 4 ∨ k = 5 ∨ k = 7 ∨ k = 8 ∨ k = 9 ∨ k = 10 by omega) with rfl | rfl | rfl | rfl | rfl | rfl | rfl | rfl | rfl <;> rfl
theorem chk_no {ns : List Int} (h : ¬ (3 ≤ ns.length ∧ 1 ≤ ns.getD 0 0 ∧ ns.getD 0 0 ≤ 10) ∨ (ns.getD 0 0 = 6 ∧ ¬ 5 ≤ ns.length) ∨ (ns.getD 0 0 ≠ 6 ∧ ns.length ≠ szK (ns.getD 0 0))) : chkLen ns = false := by
  cases e : chkLen ns with
  | false => rfl
  | true =>
    obtain ⟨a, b, c⟩ := chk_sz e
    rcases h with h | h | h
    · exact absurd a h
    · exact absurd (b h.1) h.2
    · exact absurd (c h.1) h.2
theorem chk_yes {ns : List Int} (h : 3 ≤ ns.length ∧ 1 ≤ ns.getD 0 0 ∧ ns.getD 0 0 ≤ 10) (h2 : (ns.getD 0 0 = 6 ∧ 5 ≤ ns.length) ∨ (ns.getD 0 0 ≠ 6 ∧ ns.length = szK (ns.getD 0 0))) : chkLen ns = true := by
  unfold chkLen
  rw [decide_eq_true h]
  rcases h2 with h2 | h2
  · rw [if_pos h2.1, decide_eq_true h2.2]; rfl
  · rw [if_neg h2.1, decide_eq_true h2.2]; rfl
def sp_check_intent (K : PySem.W.Frag) (_ : Ex) : Sp := S1 fun a H Q _ => ∃ (p : Addr) (ns : List Int), a = .ref p ∧ SqT K H p (ns.map V.int) ∧ ∀ H', Same H H' → Q (.bl (chk ns)) H'
def t_check_intent (K : PySem.W.Frag) (C : Ex) (E : XK) : TS :=
  tSeq (tIfS (tOr (tTest (tOp (uLt K) (tCB (uLen K) (tCons (tVar 0) (tNil))) (tC (.int 3)))) (tOr (tTest (tOp (uLt K) (tOp (uIx K) (tVar 0) (tC (.int 0))) (tC (.int 1)))) (tTest (tOp (uGt) (tOp (uIx K) (tVar 0) (tC (.int 0))) (tC (.int 10)))))) (tRet (tC (.bl false))) (tNext))
  (tCut (tIfS (tTest (tOp (uEq K) (tOp (uIx K) (tVar 0) (tC (.int 0))) (tC (.int 6)))) (tIfS (tTest (tOp (uLt K) (tCB (uLen K) (tCons (tVar 0) (tNil))) (tC (.int 5)))) (tRet (tC (.bl false))) (tNext)) (tIfS (tTest (tOp (uNe K) (tCB (uLen K) (tCons (tVar 0) (tNil))) (tOp (uKI C.LENGTHS [(1, 6), (2, 5), (3, 4), (4, 4), (5, 6), (7, 4), (8, 7), (9, 4), (10, 3)]) (tC (.ref C.LENGTHS)) (tOp (uIx K) (tVar 0) (tC (.int 0)))))) (tRet (tC (.bl false))) (tNext)))
  (tRet (tAndV (uCall (sp_is_name K C) (WB E) (tCons (tOp (uIx K) (tVar 0) (tC (.int 1))) (tNil))) (tAndV (tOp (uGe K) (tOp (uIx K) (tVar 0) (tC (.int 2))) (tC (.int 1))) (uCall (sp_check_words K C) (WB E) (tCons (tVar 0) (tNil)))))))
theorem pure_check_intent {K : PySem.W.Frag} {C : Ex} {vs : List V} {H : Hp} {Q : VK} {E : XK} (F : Fa K C) (h : sp_check_intent K C vs H Q E) : t_check_intent K C E { nx := fun _ H' => Q .non H', rt := Q } (start ["words"] vs) H := by
  obtain ⟨a, rfl, p, ns, rfl, hp, k⟩ := h
  have s0 := L2.Same.refl H
  have lm : (ns.map V.int).length = ns.length := List.length_map ..
  have bad : chkLen ns = false → Q (.bl false) H := fun e => by
    have z := k H s0
    unfold chk at z
    rw [e] at z
    exact z
  have good : ∀ (D : Ends), D.rt = Q → chkLen ns = true → tRet (tAndV (uCall (sp_is_name K C) (WB E) (tCons (tOp (uIx K) (tVar 0) (tC (.int 1))) (tNil))) (tAndV (tOp (uGe K) (tOp (uIx K) (tVar 0) (tC (.int 2))) (tC (.int 1))) (uCall (sp_check_words K C) (WB E) (tCons (tVar 0) (tNil))))) D [some (.ref p)] H := fun D hD hc => by
    unfold chk at k
    rw [hc] at k
    have k : ∀ H', Same H H' → Q (.bl (NmW (ns.getD 1 0) && (decide (1 ≤ ns.getD 2 0) && chkRest ns))) H' := k
    have l3 := (chk_sz hc).1.1
    subst hD
    walk_at "run1"
    refine w_S1 ⟨_, rfl, fun H1 s1 => ?_⟩
    have hp1 := U.Same.sqt s1 hp
    rw [show ns.getD (1 : Int).toNat 0 = ns.getD 1 0 from rfl]
    walk_at "run1"
    refine ifB (fun h => ?_) (fun h => ?_)
    · rw [h] at k
      walk_at "run1"
      · rename_i h2
        rw [show ns.getD (2 : Int).toNat 0 = ns.getD 2 0 from rfl] at h2
        rw [decide_eq_true h2] at k
        walk_at "run1"
        refine w_S1 ⟨p, ns, rfl, hp1, hc, fun H2 s2 => ?_⟩
        exact k _ (s1.trans s2)
      · walk_at "run1"
        rename_i h2
        rw [show ns.getD (2 : Int).toNat 0 = ns.getD 2 0 from rfl] at h2
        rw [decide_eq_false h2] at k
        exact k _ s1
    · rw [h] at k
      walk_at "run1"
      exact k _ s1
  unfold t_check_intent
  generalize (tRet (tAndV (uCall (sp_is_name K C) (WB E) _) _) : TS) = T at good
  walk_at "run1"
  · rename_i h
    exact bad (chk_no (.inl (by omega)))
  rename_i h3
  have g0 : ns.getD (0 : Int).toNat 0 = ns.getD 0 0 := rfl
  walk_at "run1"
  · rename_i h
    exact bad (chk_no (.inl (by omega)))
  walk_at "run1"
  · rename_i h1 h
    exact bad (chk_no (.inl (by omega)))
  rename_i h1 h10
  walk_at "run1"
  refine w_cutS ?_
  walk_at "run1"
  · rename_i h6 h
    exact bad (chk_no (.inr (.inl ⟨h6, by omega⟩)))
  walk_at "run1"
  · rename_i h6 h
    exact good _ rfl (chk_yes (by omega) (.inl ⟨h6, by omega⟩))
  walk_at "run1"
  rename_i h6
  refine w_ki (len_look (by omega) (by omega) h6) ?_
  walk_at "run1"
  · rename_i h
    exact bad (chk_no (.inr (.inr ⟨h6, fun e => h (by rw [lm, e]; rfl)⟩)))
  walk_at "run1"
  rename_i h
  refine good _ rfl (chk_yes (by omega) (.inr ⟨h6, ?_⟩))
  rw [lm] at h
  exact Int.ofNat.inj h
/-- of the objects of H all but those of S stand in H'; S' is of S or new -/
def Stp (S : List Addr) (H : Hp) (S' : List Addr) (H' : Hp) : Prop := (∀ b o, H b = some o → b ∉ S → H' b = some o) ∧ ∀ b ∈ S', b ∈ S ∨ H b = none
theorem Stp.refl {S : List Addr} {H : Hp} : Stp S H S H := ⟨fun _ _ h _ => h, fun _ h => .inl h⟩
theorem Stp.trans {S S1 S2 : List Addr} {H H1 H2 : Hp} (x : Stp S H S1 H1) (y : Stp S1 H1 S2 H2) : Stp S H S2 H2 := by
  refine ⟨fun b o h n => y.1 b o (x.1 b o h n) fun q => ?_, fun b hb => ?_⟩
  · rcases x.2 b q with z | z
    · exact n z
    · rw [h] at z; cases z
  · rcases y.2 b hb with q | q
    · exact x.2 b q
    · by_cases n : b ∈ S
      · exact .inl n
      · cases e : H b with
        | none => exact .inr rfl
        | some o => rw [x.1 b o e n] at q; cases q
theorem Stp.same {S : List Addr} {H H' : Hp} (s : Same H H') : Stp S H S H' := ⟨fun b o h _ => s b o h, fun _ h => .inl h⟩
theorem Stp.upd {S : List Addr} {H H' : Hp} {p : Addr} {o : HO} (x : Stp S H S H') (h : p ∈ S) : Stp S H S (upd H' p o) :=
  ⟨fun b w e n => by rw [upd_ne (fun q => n (by rw [q]; exact h))]; exact x.1 b w e n, x.2⟩
theorem Stp.new {S : List Addr} {H H' : Hp} {p : Addr} {o : HO} (x : Stp S H S H') (h : H' p = none) : Stp S H S (L2.upd H' p o) := x.trans (.same (same_new h))
/-- a list of eight words -/
def RowAt (H : Hp) (v : V) (r : List Int) : Prop := r.length = 8 ∧ ∃ p, v = .ref p ∧ H p = some (.lst (r.map V.int))
def AllRef (vs : List V) : Prop := ∀ x ∈ vs, ∃ p, x = V.ref p
theorem row_ne {r : List Int} {vs : List V} (h : r.length = 8) (hv : AllRef vs) : HO.lst (r.map V.int) ≠ HO.lst vs := by
  intro e
  have e := HO.lst.inj e
  cases r with
  | nil => cases h
  | cons z r =>
    obtain ⟨p, q⟩ := hv (.int z) (by rw [← e]; exact List.mem_cons_self ..)
    cases q
theorem RowAt.same {H H' : Hp} {v : V} {r : List Int} (x : RowAt H v r) (s : Same H H') : RowAt H' v r := by
  obtain ⟨l, p, rfl, h⟩ := x
  exact ⟨l, p, rfl, s _ _ h⟩
theorem RowAt.upd {H : Hp} {v : V} {r : List Int} {q : Addr} {o u : HO} (x : RowAt H v r) (h : H q = some u) (n : r.length = 8 → HO.lst (r.map V.int) ≠ u) : RowAt (upd H q o) v r := by
  obtain ⟨l, p, rfl, e⟩ := x
  exact ⟨l, p, rfl, by rw [upd_ne (ne_of e h (n l))]; exact e⟩
/-- what may be written without a row's loss -/
def NoRow (u : HO) : Prop := ∀ r : List Int, r.length = 8 → HO.lst (r.map V.int) ≠ u
theorem noRow_refs {vs : List V} (h : AllRef vs) : NoRow (.lst vs) := fun _ l => row_ne l h
def RowsAt (H : Hp) (vs : List V) (rs : List (List Int)) : Prop := vs.length = rs.length ∧ ∀ (i : Nat) v, vs[i]? = some v → ∃ r, rs[i]? = some r ∧ RowAt H v r
theorem RowsAt.ref {H : Hp} {vs : List V} {rs : List (List Int)} (x : RowsAt H vs rs) : AllRef vs := fun v hv => by
  obtain ⟨i, hi⟩ := List.getElem?_of_mem hv
  obtain ⟨r, _, _, p, e, _⟩ := x.2 i v hi
  exact ⟨p, e⟩
theorem RowsAt.map {H H' : Hp} {vs : List V} {rs : List (List Int)} (x : RowsAt H vs rs) (f : ∀ v r, RowAt H v r → RowAt H' v r) : RowsAt H' vs rs := ⟨x.1, fun i v h => by
  obtain ⟨r, e, y⟩ := x.2 i v h
  exact ⟨r, e, f v r y⟩⟩
theorem RowsAt.same {H H' : Hp} {vs : List V} {rs : List (List Int)} (x : RowsAt H vs rs) (s : Same H H') : RowsAt H' vs rs := x.map fun _ _ y => y.same s
theorem RowsAt.upd {H : Hp} {vs : List V} {rs : List (List Int)} {q : Addr} {o u : HO} (x : RowsAt H vs rs) (h : H q = some u) (n : NoRow u) : RowsAt (upd H q o) vs rs := x.map fun _ r y => y.upd h (n r)
theorem RowsAt.nil {H : Hp} : RowsAt H [] [] := ⟨rfl, fun i v h => by simp at h⟩
theorem RowsAt.snoc {H : Hp} {vs : List V} {rs : List (List Int)} {v : V} {r : List Int} (x : RowsAt H vs rs) (y : RowAt H v r) : RowsAt H (vs ++ [v]) (rs ++ [r]) := by
  refine ⟨by rw [List.length_append, List.length_append, x.1]; rfl, fun i w h => ?_⟩
  rcases Nat.lt_or_ge i vs.length with q | q
  · rw [List.getElem?_append_left q] at h
    obtain ⟨r', e, z⟩ := x.2 i w h
    exact ⟨r', by rw [List.getElem?_append_left (by rw [← x.1]; exact q)]; exact e, z⟩
  · rw [List.getElem?_append_right q] at h
    have hi : i - vs.length = 0 := by
      have := (List.getElem?_eq_some_iff.mp h).1
      simp at this
      omega
    rw [hi] at h
    cases h
    exact ⟨r, by rw [List.getElem?_append_right (by rw [← x.1]; exact q), ← x.1, hi]; rfl, y⟩
theorem RowsAt.set {H : Hp} {vs : List V} {rs : List (List Int)} {v : V} {r : List Int} {j : Nat} (x : RowsAt H vs rs) (y : RowAt H v r) : RowsAt H (vs.set j v) (rs.set j r) := by
  refine ⟨by rw [List.length_set, List.length_set, x.1], fun i w h => ?_⟩
  by_cases q : j = i
  · subst q
    have hl : j < vs.length := by
      have := (List.getElem?_eq_some_iff.mp h).1
      rw [List.length_set] at this
      exact this
    rw [List.getElem?_set_self hl] at h
    cases h
    exact ⟨r, List.getElem?_set_self (by rw [← x.1]; exact hl), y⟩
  · rw [List.getElem?_set_ne q] at h
    obtain ⟨r', e, z⟩ := x.2 i w h
    exact ⟨r', by rw [List.getElem?_set_ne q]; exact e, z⟩
theorem AllRef.snoc {vs : List V} {p : Addr} (h : AllRef vs) : AllRef (vs ++ [.ref p]) := fun x hx => by
  rcases List.mem_append.mp hx with q | q
  · exact h x q
  · exact ⟨p, List.mem_singleton.mp q⟩
/-- eight words -/
def Row8 (r : List Int) : Prop := r.length = 8 ∧ ∀ z ∈ r, 0 ≤ z
theorem Row8.set {r : List Int} {i : Nat} {z : Int} (h : Row8 r) (hz : 0 ≤ z) : Row8 (r.set i z) := ⟨by rw [List.length_set]; exact h.1, fun y hy => by
  rcases List.mem_or_eq_of_mem_set hy with q | q
  · exact h.2 y q
  · rw [q]; exact hz⟩
def WrAt (H : Hp) (v : V) (s : Int) (r : List Int) : Prop := ∃ t x, v = .ref t ∧ H t = some (.tup [.int s, x]) ∧ RowAt H x r
def WrsAt (H : Hp) (vs : List V) (ws : List (Int × List Int)) : Prop := vs.length = ws.length ∧ ∀ (i : Nat) v, vs[i]? = some v → ∃ s r, ws[i]? = some (s, r) ∧ WrAt H v s r
theorem WrAt.map {H H' : Hp} {v : V} {s : Int} {r : List Int} (x : WrAt H v s r) (f : ∀ v r, RowAt H v r → RowAt H' v r) (g : ∀ t xs, H t = some (.tup xs) → H' t = some (.tup xs)) : WrAt H' v s r := by
  obtain ⟨t, y, rfl, e, z⟩ := x
  exact ⟨t, y, rfl, g _ _ e, f _ _ z⟩
theorem WrsAt.ref {H : Hp} {vs : List V} {ws : List (Int × List Int)} (x : WrsAt H vs ws) : AllRef vs := fun v hv => by
  obtain ⟨i, hi⟩ := List.getElem?_of_mem hv
  obtain ⟨s, r, _, t, _, e, _⟩ := x.2 i v hi
  exact ⟨t, e⟩
theorem WrsAt.map {H H' : Hp} {vs : List V} {ws : List (Int × List Int)} (x : WrsAt H vs ws) (f : ∀ v r, RowAt H v r → RowAt H' v r) (g : ∀ t xs, H t = some (.tup xs) → H' t = some (.tup xs)) : WrsAt H' vs ws := ⟨x.1, fun i v h => by
  obtain ⟨s, r, e, y⟩ := x.2 i v h
  exact ⟨s, r, e, y.map f g⟩⟩
def Plain (u : HO) : Prop := NoRow u ∧ ∀ xs, u ≠ .tup xs
theorem plain_refs {vs : List V} (h : AllRef vs) : Plain (.lst vs) := ⟨noRow_refs h, fun _ e => nomatch e⟩
theorem row_upd {H : Hp} {q : Addr} {o u : HO} (h : H q = some u) (p : Plain u) : ∀ v r, RowAt H v r → RowAt (upd H q o) v r := fun _ r x => x.upd h (p.1 r)
theorem tup_upd {H : Hp} {q : Addr} {o u : HO} (h : H q = some u) (p : Plain u) : ∀ t xs, H t = some (.tup xs) → upd H q o t = some (.tup xs) := fun t xs e => by rw [upd_ne (ne_of e h fun z => p.2 xs z.symm)]; exact e
theorem RowsAt.dt {K : PySem.W.Frag} {H : Hp} : ∀ {vs : List V} {rs : List (List Int)}, RowsAt H vs rs → DtAll K H vs rs
  | [], [], _ => DtAll.nil
  | [], _ :: _, h => by cases h.1
  | _ :: _, [], h => by cases h.1
  | v :: vs, r :: rs, h => by
    obtain ⟨r', e, _, p, rfl, q⟩ := h.2 0 v rfl
    cases e
    refine DtAll.cons (Dt.list (SqL.of q) (DtAll.ints r)) (RowsAt.dt ⟨by simpa using h.1, fun i w hw => ?_⟩)
    exact h.2 (i + 1) w hw
theorem WrsAt.dt {K : PySem.W.Frag} {H : Hp} : ∀ {vs : List V} {rs : List (Int × List Int)}, WrsAt H vs rs → DtAll K H vs rs
  | [], [], _ => DtAll.nil
  | [], _ :: _, h => by cases h.1
  | _ :: _, [], h => by cases h.1
  | v :: vs, r :: rs, h => by
    obtain ⟨s, r', e, t, x, rfl, et, _, p, rfl, q⟩ := h.2 0 v rfl
    cases e
    refine DtAll.cons (Dt.pair (SqT.of et) Dt.int (Dt.list (SqL.of q) (DtAll.ints r'))) (WrsAt.dt ⟨by simpa using h.1, fun i w hw => ?_⟩)
    exact h.2 (i + 1) w hw
theorem RowAt.of {H : Hp} {p : Addr} {r : List Int} (l : r.length = 8) (h : H p = some (.lst (r.map V.int))) : RowAt H (.ref p) r := ⟨l, p, rfl, h⟩
theorem WrsAt.snoc {H : Hp} {vs : List V} {ws : List (Int × List Int)} {v : V} {s : Int} {r : List Int} (x : WrsAt H vs ws) (y : WrAt H v s r) : WrsAt H (vs ++ [v]) (ws ++ [(s, r)]) := by
  refine ⟨by rw [List.length_append, List.length_append, x.1]; rfl, fun i w h => ?_⟩
  rcases Nat.lt_or_ge i vs.length with q | q
  · rw [List.getElem?_append_left q] at h
    obtain ⟨s', r', e, z⟩ := x.2 i w h
    exact ⟨s', r', by rw [List.getElem?_append_left (by rw [← x.1]; exact q)]; exact e, z⟩
  · rw [List.getElem?_append_right q] at h
    have hi : i - vs.length = 0 := by
      have := (List.getElem?_eq_some_iff.mp h).1
      simp at this
      omega
    rw [hi] at h
    cases h
    exact ⟨s, r, by rw [List.getElem?_append_right (by rw [← x.1]; exact q), ← x.1, hi]; rfl, y⟩
def parI (n : Nat) : Nat := (n + 4) / 4
def wordsR (ns : List Int) : List Int := (((ns.length : Nat) : Int) :: ns) ++ List.replicate (4 * parI ns.length - (ns.length + 1)) 0
def rowR (ns : List Int) (r g : Int) (j : Nat) : List Int := [r, (j : Int), ((parI ns.length : Nat) : Int)] ++ ((wordsR ns).drop (4 * j)).take 4 ++ [g]
def recS (ns : List Int) (r g : Int) : List (List Int) := (List.range (parI ns.length)).map (rowR ns r g)
theorem parI_lim (n : Nat) : n + 1 ≤ 4 * parI n ∧ 4 * parI n ≤ n + 4 := by unfold parI; omega
theorem wordsR_len (ns : List Int) : (wordsR ns).length = 4 * parI ns.length := by
  have := parI_lim ns.length
  unfold wordsR
  rw [List.length_append, List.length_cons, List.length_replicate]
  omega
theorem rowR_len {ns : List Int} {r g : Int} {j : Nat} (h : j < parI ns.length) : (rowR ns r g j).length = 8 := by
  unfold rowR
  rw [List.length_append, List.length_append, List.length_take, List.length_drop, wordsR_len]
  show 3 + min 4 (4 * parI ns.length - 4 * j) + 1 = 8
  omega
theorem cut_ints {ws : List Int} {i j : Nat} (h : i ≤ j) (hj : j ≤ ws.length) : cutV (ws.map V.int) (some (i : Int)) (some (j : Int)) = ((ws.drop i).take (j - i)).map V.int := by
  rw [cut_mid _ _ _ h (by rw [List.length_map]; exact hj), List.map_take, List.map_drop]
def sp_sectors_of (K : PySem.W.Frag) (_ : Ex) : Sp := S1 fun a H Q _ => ∃ (p : Addr) (ns : List Int), a = .ref p ∧ SqT K H p (ns.map V.int) ∧ Q (.int (parI ns.length : Nat)) H
def t_sectors_of (K : PySem.W.Frag) (C : Ex) (E : XK) : TS :=
  tRet (tOp (uDiv) (tOp (uAdd K) (tCB (uLen K) (tCons (tVar 0) (tNil))) (tC (.int 4))) (tC (.int 4)))
theorem pure_sectors_of {K : PySem.W.Frag} {C : Ex} {vs : List V} {H : Hp} {Q : VK} {E : XK} (F : Fa K C) (h : sp_sectors_of K C vs H Q E) : t_sectors_of K C E { nx := fun _ H' => Q .non H', rt := Q } (start ["intent"] vs) H := by
  obtain ⟨a, rfl, p, ns, rfl, hp, k⟩ := h
  unfold t_sectors_of
  walk_at "run1"
  rw [List.length_map]
  have e : (((ns.length : Nat) : Int) + 4) / 4 = ((parI ns.length : Nat) : Int) := by unfold parI; omega
  rw [e]
  exact k
def sp_record_sectors (K : PySem.W.Frag) (_ : Ex) : Sp := S3 fun a b c H Q _ => ∃ (p : Addr) (ns : List Int) (r g : Int), a = .ref p ∧ b = .int r ∧ c = .int g ∧ SqT K H p (ns.map V.int) ∧ ns.length ≤ 2000 ∧
  ∀ q H' vs, Same H H' → H q = none → H' q = some (.lst vs) → RowsAt H' vs (recS ns r g) → Q (.ref q) H'
def t_record_sectors (K : PySem.W.Frag) (C : Ex) (E : XK) : TS :=
  tSeq (tAsg (uCall (sp_sectors_of K C) (WB E) (tCons (tVar 0) (tNil))) (gName 3))
  (tSeq (tAsg (tOp (uAdd K) (tLst (tCons (tCB (uLen K) (tCons (tVar 0) (tNil))) (tNil))) (tCB (uList K) (tCons (tVar 0) (tNil)))) (gName 4))
  (tSeq (tAsg (tOp (uAdd K) (tVar 4) (tOp (uMul) (tLst (tCons (tC (.int 0)) (tNil))) (tOp (uSub) (tOp (uMul) (tC (.int 4)) (tVar 3)) (tCB (uLen K) (tCons (tVar 4) (tNil)))))) (gName 4))
  (tSeq (tAsg (tLst (tNil)) (gName 5))
  (tSeq (tFor (iRng1 (tCons (tVar 3) (tNil))) (gName 6)
  (tSeq (tAsg (tSl (uSl K) (tVar 4) (tPart (tOp (uMul) (tC (.int 4)) (tVar 6))) (tPart (tOp (uAdd K) (tOp (uMul) (tC (.int 4)) (tVar 6)) (tC (.int 4))))) (gName 7))
  (tDrop (tBM K "list" (rAppend) (tVar 5) (tCons (tOp (uAdd K) (tOp (uAdd K) (tLst (tCons (tVar 1) (tCons (tVar 6) (tCons (tVar 3) (tNil))))) (tVar 7)) (tLst (tCons (tVar 2) (tNil)))) (tNil))))))
  (tRet (tVar 5))))))
theorem pure_record_sectors {K : PySem.W.Frag} {C : Ex} {vs : List V} {H : Hp} {Q : VK} {E : XK} (F : Fa K C) (h : sp_record_sectors K C vs H Q E) : t_record_sectors K C E { nx := fun _ H' => Q .non H', rt := Q } (start ["intent", "record", "generation", "parts", "words", "sectors", "part", "group"] vs) H := by
  obtain ⟨a, b, c, rfl, p, ns, r, g, rfl, rfl, rfl, hp, ln, k⟩ := h
  unfold t_record_sectors
  have pl := parI_lim ns.length
  have wl := wordsR_len ns
  have rl : ∀ j, j < parI ns.length → (rowR ns r g j).length = 8 := fun j hj => rowR_len hj
  have lm : (ns.map V.int).length = ns.length := List.length_map ..
  walk_at "run1"
  refine w_S1 ⟨p, ns, rfl, hp, ?_⟩
  walk_at "run1"
  rename_i l1 hl1
  refine w_tlistT (sqt_old hp hl1) fun l2 hl2 => ?_
  refine w_cat (upd_old upd_same hl2) upd_same (by rw [lm]; show 1 + _ ≤ _; omega) fun l3 hl3 => ?_
  walk_at "run1"
  rename_i l0 hl0 l4 hl4
  have s4 := same_updN (o := .lst (List.map V.int (List.replicate (4 * ((parI ns.length : Nat) : Int) - (([V.int (List.map V.int ns).length] ++ List.map V.int ns).length : Nat)).toNat 0))) (same_updN (o := .lst [.int 0]) (same_updN (o := .lst ([.int (List.map V.int ns).length] ++ ns.map V.int)) (same_updN (o := .lst (ns.map V.int)) (same_new (o := .lst [.int (List.map V.int ns).length]) hl1) hl2) hl3) hl0) hl4
  refine w_cat (upd_old (upd_old upd_same hl0) hl4) upd_same (by simp only [List.length_map, List.length_replicate, List.length_append, List.length_cons, List.length_nil]; omega) fun W hW => ?_
  have s5 := same_updN (o := .lst ([V.int (List.map V.int ns).length] ++ List.map V.int ns ++ List.map V.int (List.replicate (4 * ((parI ns.length : Nat) : Int) - (([V.int (List.map V.int ns).length] ++ List.map V.int ns).length : Nat)).toNat 0))) s4 hW
  have eW : [V.int (List.map V.int ns).length] ++ List.map V.int ns ++ List.map V.int (List.replicate (4 * ((parI ns.length : Nat) : Int) - (([V.int (List.map V.int ns).length] ++ List.map V.int ns).length : Nat)).toNat 0) = (wordsR ns).map V.int := by
    unfold wordsR
    rw [List.map_append, List.map_cons, lm]
    have e : (4 * ((parI ns.length : Nat) : Int) - (([V.int ((ns.length : Nat) : Int)] ++ List.map V.int ns).length : Nat)).toNat = 4 * parI ns.length - (ns.length + 1) := by
      rw [List.length_append, lm]
      show (4 * ((parI ns.length : Nat) : Int) - ((1 + ns.length : Nat) : Int)).toNat = _
      omega
    rw [e]
    rfl
  rw [eW] at s5 ⊢
  have hW5 := fun G : Hp => upd_same (H := G) (a := W) (o := .lst ((wordsR ns).map V.int))
  have e5 := hW5 (upd (upd (upd (upd (upd H l1 (.lst [.int (List.map V.int ns).length])) l2 (.lst (ns.map V.int))) l3 (.lst ([.int (List.map V.int ns).length] ++ ns.map V.int))) l0 (.lst [.int 0])) l4 (.lst (List.map V.int (List.replicate (4 * ((parI ns.length : Nat) : Int) - (([V.int (List.map V.int ns).length] ++ List.map V.int ns).length : Nat)).toNat 0))))
  generalize upd _ W (.lst ((wordsR ns).map V.int)) = H5 at *
  clear hW5 s4 hl4 hl0 hl3 hl2 hl1 hW
  walk_at "run1"
  rename_i S hS
  refine f_range (fun i σ H' => ∃ (vs : List V) (v6 v7 : Option V), σ = [some (.ref p), some (.int r), some (.int g), some (.int (parI ns.length : Nat)), some (.ref W), some (.ref S), v6, v7] ∧ Same H5 H' ∧ H' S = some (.lst vs) ∧ RowsAt H' vs ((recS ns r g).take i))
    ⟨[], none, none, rfl, same_new hS, upd_same, .nil⟩ ?_ ?_
  · rintro i σ H6 hi ⟨vs, v6, v7, rfl, s6, e6, rr⟩
    have hi : i < parI ns.length := by omega
    have w6 := s6 _ _ e5
    have lv : vs.length ≤ parI ns.length := by rw [rr.1, List.length_take]; omega
    walk_at "run1"
    refine w_slL (SqL.of w6) fun l hl => ?_
    rw [show 4 * (0 + (i : Int)) = ((4 * i : Nat) : Int) by omega, show ((4 * i : Nat) : Int) + 4 = ((4 * i + 4 : Nat) : Int) by omega, cut_ints (by omega) (by rw [wl]; omega), show 4 * i + 4 - 4 * i = 4 by omega]
    walk_at "run1"
    rename_i la hla
    have l44 : (((wordsR ns).drop (4 * i)).take 4).length ≤ 4 := by rw [List.length_take]; omega
    have s7 := same_updN (o := .lst [.int r, .int (0 + (i : Int)), .int ((parI ns.length : Nat) : Int)]) (same_new (o := .lst ((((wordsR ns).drop (4 * i)).take 4).map V.int)) hl) hla
    refine w_cat upd_same (upd_old upd_same hla) (by rw [List.length_map]; show 3 + _ ≤ _; omega) fun lb hlb => ?_
    walk_at "run1"
    rename_i lc hlc
    refine w_cat (upd_old upd_same hlc) upd_same (by rw [List.length_append, List.length_map]; show 3 + _ + 1 ≤ _; omega) fun ld hld => ?_
    have eR : [V.int r, .int (0 + (i : Int)), .int ((parI ns.length : Nat) : Int)] ++ (((wordsR ns).drop (4 * i)).take 4).map V.int ++ [.int g] = (rowR ns r g i).map V.int := by
      unfold rowR
      rw [List.map_append, List.map_append, Int.zero_add]
      rfl
    have s8 := same_updN (o := .lst ([V.int r, .int (0 + (i : Int)), .int ((parI ns.length : Nat) : Int)] ++ (((wordsR ns).drop (4 * i)).take 4).map V.int ++ [.int g])) (same_updN (o := .lst [.int g]) (same_updN (o := .lst ([V.int r, .int (0 + (i : Int)), .int ((parI ns.length : Nat) : Int)] ++ (((wordsR ns).drop (4 * i)).take 4).map V.int)) s7 hlb) hlc) hld
    rw [eR] at s8 ⊢
    have rD : RowAt (upd (upd (upd (upd (upd H6 l (.lst ((((wordsR ns).drop (4 * i)).take 4).map V.int))) la (.lst [.int r, .int (0 + (i : Int)), .int ((parI ns.length : Nat) : Int)])) lb (.lst ([V.int r, .int (0 + (i : Int)), .int ((parI ns.length : Nat) : Int)] ++ (((wordsR ns).drop (4 * i)).take 4).map V.int))) lc (.lst [.int g])) ld (.lst ((rowR ns r g i).map V.int))) (.ref ld) (rowR ns r g i) := .of (rl i hi) upd_same
    generalize upd _ ld (.lst ((rowR ns r g i).map V.int)) = H8 at *
    have e8 := s8 _ _ e6
    walk_at "run1"
    refine w_app e8 (lt_line (by omega)) ?_
    walk_at "run1"
    refine ⟨_, _, _, rfl, same_upd (s6.trans s8) hS, upd_same, ?_⟩
    have e1 : (recS ns r g).take (i + 1) = (recS ns r g).take i ++ [rowR ns r g i] := take_snoc (by unfold recS; rw [List.getElem?_map, List.getElem?_range hi]; rfl)
    rw [e1]
    exact ((rr.same s8).snoc rD).upd e8 (noRow_refs rr.ref)
  · rintro σ H6 ⟨vs, v6, v7, rfl, s6, e6, rr⟩
    rw [List.take_of_length_le (by unfold recS; rw [List.length_map, List.length_range]; omega)] at rr
    walk_at "run1"
    exact k S H6 vs (s5.trans s6) (s5.free hS) e6 rr
def sp__law_cells (K : PySem.W.Frag) (_ : Ex) : Sp := S2 fun a b H Q _ => ∃ (p : Addr) (ns : List Int), a = .ref p ∧ b = .int ns.length ∧ SqL K H p (ns.map V.int) ∧ Q (.bl true) H
def t__law_cells (K : PySem.W.Frag) (C : Ex) (E : XK) : TS :=
  tSeq (tIfS (tOr (tNot (uTru K (tCB (uIsi K .list) (tCons (tVar 0) (tCons (tC (.ty "list")) (tNil)))))) (tTest (tOp (uNe K) (tCB (uLen K) (tCons (tVar 0) (tNil))) (tVar 1)))) (tRet (tC (.bl false))) (tNext))
  (tSeq (tFor (iList K (tVar 0)) (gName 2)
  (tIfS (tOr (tNot (uTru K (tCB (uIsi K .int) (tCons (tVar 2) (tCons (tC (.ty "int")) (tNil)))))) (uTru K (tCB (uIsi K .bool) (tCons (tVar 2) (tCons (tC (.ty "bool")) (tNil)))))) (tRet (tC (.bl false))) (tNext)))
  (tRet (tC (.bl true))))
theorem pure__law_cells {K : PySem.W.Frag} {C : Ex} {vs : List V} {H : Hp} {Q : VK} {E : XK} (F : Fa K C) (h : sp__law_cells K C vs H Q E) : t__law_cells K C E { nx := fun _ H' => Q .non H', rt := Q } (start ["_law_row_here", "_law_size", "_law_value"] vs) H := by
  obtain ⟨a, b, rfl, p, ns, rfl, rfl, hp, k⟩ := h
  unfold t__law_cells
  walk_at "run1"
  refine w_isi_list_L hp ?_
  walk_at "run1"
  · rename_i h
    exact absurd (by rw [List.length_map]) h
  walk_at "run1"
  refine f_list (xs := ns.map V.int) (fun i σ H' => H' = H ∧ ∃ v, σ = [some (.ref p), some (.int ns.length), v]) ⟨rfl, none, rfl⟩ (by rintro i σ H' _ ⟨rfl, _⟩; exact hp) ?_ ?_
  · rintro i x σ H' hx ⟨e, v, rfl⟩
    rw [e]
    clear e
    obtain ⟨n, _, rfl⟩ := at_int hx
    walk_at "run1"
    exact ⟨rfl, _, rfl⟩
  · rintro σ H' ⟨e, v, rfl⟩
    rw [e]
    walk_at "run1"
    exact k
/-- a list of tuples of ints -/
def TupAt (H : Hp) (v : V) (ns : List Int) : Prop := ∃ p, v = .ref p ∧ H p = some (.tup (ns.map V.int))
def TupsAt (H : Hp) (vs : List V) (nss : List (List Int)) : Prop := vs.length = nss.length ∧ ∀ (i : Nat) v, vs[i]? = some v → ∃ ns, nss[i]? = some ns ∧ TupAt H v ns
theorem TupAt.same {H H' : Hp} {v : V} {ns : List Int} (x : TupAt H v ns) (s : Same H H') : TupAt H' v ns := by
  obtain ⟨p, rfl, e⟩ := x
  exact ⟨p, rfl, s _ _ e⟩
theorem TupsAt.map {H H' : Hp} {vs : List V} {nss : List (List Int)} (x : TupsAt H vs nss) (f : ∀ t xs, H t = some (.tup xs) → H' t = some (.tup xs)) : TupsAt H' vs nss := ⟨x.1, fun i v h => by
  obtain ⟨ns, e, p, rfl, y⟩ := x.2 i v h
  exact ⟨ns, e, p, rfl, f _ _ y⟩⟩
theorem TupsAt.same {H H' : Hp} {vs : List V} {nss : List (List Int)} (x : TupsAt H vs nss) (s : Same H H') : TupsAt H' vs nss := x.map fun _ _ e => s _ _ e
theorem TupsAt.nil {H : Hp} : TupsAt H [] [] := ⟨rfl, fun i v h => by simp at h⟩
theorem TupsAt.snoc {H : Hp} {vs : List V} {nss : List (List Int)} {v : V} {ns : List Int} (x : TupsAt H vs nss) (y : TupAt H v ns) : TupsAt H (vs ++ [v]) (nss ++ [ns]) := by
  refine ⟨by rw [List.length_append, List.length_append, x.1]; rfl, fun i w h => ?_⟩
  rcases Nat.lt_or_ge i vs.length with q | q
  · rw [List.getElem?_append_left q] at h
    obtain ⟨r', e, z⟩ := x.2 i w h
    exact ⟨r', by rw [List.getElem?_append_left (by rw [← x.1]; exact q)]; exact e, z⟩
  · rw [List.getElem?_append_right q] at h
    have hi : i - vs.length = 0 := by
      have := (List.getElem?_eq_some_iff.mp h).1
      simp at this
      omega
    rw [hi] at h
    cases h
    exact ⟨ns, by rw [List.getElem?_append_right (by rw [← x.1]; exact q), ← x.1, hi]; rfl, y⟩
theorem TupsAt.dt {K : PySem.W.Frag} {H : Hp} : ∀ {vs : List V} {rs : List (List Int)}, TupsAt H vs rs → DtAll K H vs (rs.map PySem.W.Tup.mk)
  | [], [], _ => DtAll.nil
  | [], _ :: _, h => by cases h.1
  | _ :: _, [], h => by cases h.1
  | v :: vs, r :: rs, h => by
    obtain ⟨r', e, p, rfl, q⟩ := h.2 0 v rfl
    cases e
    refine DtAll.cons (Dt.tup (SqT.of q) (DtAll.ints r)) (TupsAt.dt ⟨by simpa using h.1, fun i w hw => ?_⟩)
    exact h.2 (i + 1) w hw
def okR (w : List Int) (rec : Int) (j : Nat) (parts g : Int) : Bool := decide (w.take 3 = [rec, (j : Int), parts]) && decide (w.getD 7 0 = g)
def wpF (rows : List (List Int)) (at_ : Nat) (rec g : Int) : Int :=
  if (rows.getD at_ []).getD 2 0 < 1 ∨ (rows.length : Int) - (at_ : Int) < (rows.getD at_ []).getD 2 0 then 0
  else if (List.range ((rows.getD at_ []).getD 2 0).toNat).all (fun j => okR (rows.getD (at_ + j) []) rec j ((rows.getD at_ []).getD 2 0) g) = true then (rows.getD at_ []).getD 2 0 else 0
theorem RowsAt.get {H : Hp} {vs : List V} {rs : List (List Int)} (x : RowsAt H vs rs) {i : Nat} (h : i < rs.length) : ∃ p, vs[i]? = some (.ref p) ∧ H p = some (.lst ((rs.getD i []).map V.int)) ∧ (rs.getD i []).length = 8 := by
  have hv : i < vs.length := by rw [x.1]; exact h
  obtain ⟨r, e, l8, p, ep, q⟩ := x.2 i _ (List.getElem?_eq_getElem hv)
  have er : rs.getD i [] = r := by rw [List.getD_eq_getElem?_getD, e]; rfl
  exact ⟨p, by rw [List.getElem?_eq_getElem hv, ep], by rw [er]; exact q, by rw [er]; exact l8⟩
def sp_whole_parts (K : PySem.W.Frag) (_ : Ex) : Sp := S4 fun a b c d H Q _ => ∃ (p : Addr) (vs : List V) (rows : List (List Int)) (m : Nat) (r g : Int), a = .ref p ∧ b = .int m ∧ c = .int r ∧ d = .int g ∧ H p = some (.lst vs) ∧ RowsAt H vs rows ∧ m < rows.length ∧ rows.length ≤ 100000 ∧
  ∀ H', Same H H' → Q (.int (wpF rows m r g)) H'
def t_whole_parts (K : PySem.W.Frag) (C : Ex) (E : XK) : TS :=
  tSeq (tAsg (tOp (uIx K) (tOp (uIx K) (tVar 0) (tVar 1)) (tC (.int 2))) (gName 4))
  (tSeq (tIfS (tOr (tTest (tOp (uLt K) (tVar 4) (tC (.int 1)))) (tTest (tOp (uGt) (tVar 4) (tOp (uSub) (tCB (uLen K) (tCons (tVar 0) (tNil))) (tVar 1))))) (tRet (tC (.int 0))) (tNext))
  (tSeq (tFor (iRng1 (tCons (tVar 4) (tNil))) (gName 5)
  (tSeq (tAsg (tOp (uIx K) (tVar 0) (tOp (uAdd K) (tVar 1) (tVar 5))) (gName 6))
  (tIfS (tOr (tTest (tOp (uNe K) (tSl (uSl K) (tVar 6) (tNoPart) (tPart (tC (.int 3)))) (tLst (tCons (tVar 2) (tCons (tVar 5) (tCons (tVar 4) (tNil))))))) (tTest (tOp (uNe K) (tOp (uIx K) (tVar 6) (tC (.int 7))) (tVar 3)))) (tRet (tC (.int 0))) (tNext))))
  (tRet (tVar 4))))
theorem pure_whole_parts {K : PySem.W.Frag} {C : Ex} {vs : List V} {H : Hp} {Q : VK} {E : XK} (F : Fa K C) (h : sp_whole_parts K C vs H Q E) : t_whole_parts K C E { nx := fun _ H' => Q .non H', rt := Q } (start ["sectors", "at", "record", "generation", "parts", "part", "words"] vs) H := by
  obtain ⟨a, b, c, d, rfl, p, vs, rows, m, r, g, rfl, rfl, rfl, rfl, hp, hr, hm, hl, k⟩ := h
  have lv := hr.1
  have s0 := L2.Same.refl H
  obtain ⟨pm, em, epm, l8⟩ := hr.get hm
  unfold wpF at k
  have em' : vs[((m : Int)).toNat]? = some (.ref pm) := by rw [Int.toNat_natCast]; exact em
  unfold t_whole_parts
  walk_at "run1"
  refine w_ixL (k := m) (SqL.of hp) rfl em ?_
  generalize ept : (rows.getD m []).getD 2 0 = pt at k
  have ept : (rows.getD m []).getD (2 : Int).toNat 0 = pt := ept
  walk_at "run1"
  · rename_i h
    rw [if_pos (.inl (by omega))] at k
    exact k _ s0
  walk_at "run1"
  · rename_i h
    rw [if_pos (.inr (by omega))] at k
    exact k _ s0
  rename_i h1 h2
  rw [ept] at h1 h2 ⊢
  rw [if_neg (by omega)] at k
  walk_at "run1"
  have pr : pt.toNat ≤ 100000 := by omega
  refine f_range (fun i σ H' => ∃ v5 v6 : Option V, σ = [some (.ref p), some (.int m), some (.int r), some (.int g), some (.int pt), v5, v6] ∧ Same H H' ∧ (List.range i).all (fun j => okR (rows.getD (m + j) []) r j pt g) = true) ⟨none, none, rfl, s0, rfl⟩ ?_ ?_
  · rintro i σ H1 hi ⟨v5, v6, rfl, s1, ha⟩
    obtain ⟨pj, ej, epj, l8j⟩ := (hr.same s1).get (i := m + i) (by omega)
    have hp1 := s1 _ _ hp
    have no : okR (rows.getD (m + i) []) r i pt g = false → ∀ H', Same H H' → Q (.int 0) H' := fun h H' s => by
      have z := k H' s
      rw [if_neg (by rw [List.all_eq_true]; intro q; have := q i (List.mem_range.mpr hi); rw [h] at this; cases this)] at z
      exact z
    walk_at "run1"
    refine w_ixL (k := m + i) (SqL.of hp1) (by omega) ej ?_
    walk_at "run1"
    refine w_slL (SqL.of epj) fun l hl1 => ?_
    rw [show (some (3 : Int)) = some ((3 : Nat) : Int) from rfl, cut_take, ← List.map_take]
    walk_at "run1"
    rename_i l2 hl2
    refine w_neD (α := List Int) (a := (rows.getD (m + i) []).take 3) (b := [r, 0 + (i : Int), pt]) (Dt.list (SqL.of (upd_old upd_same hl2)) (DtAll.ints _)) (Dt.list (SqL.of upd_same) (DtAll.ints [r, 0 + (i : Int), pt])) (by decide) ⟨_, rfl⟩ ?_
    have s2 := same_updN (o := .lst [.int r, .int (0 + (i : Int)), .int pt]) (same_updN (o := .lst (((rows.getD (m + i) []).take 3).map V.int)) s1 hl1) hl2
    have ep2 := upd_old (o := .lst [.int r, .int (0 + (i : Int)), .int pt]) (upd_old (o := .lst (((rows.getD (m + i) []).take 3).map V.int)) epj hl1) hl2
    generalize upd (upd H1 l _) l2 _ = H2 at *
    rw [Int.zero_add]
    walk_at "run1"
    · rename_i h
      exact no (by unfold okR; rw [decide_eq_false h]; rfl) _ s2
    rename_i h
    walk_at "run1"
    · rename_i h3
      exact no (by unfold okR; rw [decide_eq_false (p := (rows.getD (m + i) []).getD 7 0 = g) h3]; simp) _ s2
    rename_i h3
    walk_at "run1"
    refine ⟨_, _, rfl, s2, ?_⟩
    rw [List.range_succ, List.all_append, ha]
    have e : okR (rows.getD (m + i) []) r i pt g = true := by unfold okR; rw [decide_eq_true h, decide_eq_true (p := (rows.getD (m + i) []).getD 7 0 = g) h3]; rfl
    rw [Bool.true_and, List.all_cons, List.all_nil, Bool.and_true]
    exact e
  · rintro σ H1 ⟨v5, v6, rfl, s1, ha⟩
    walk_at "run1"
    rw [if_pos ha] at k
    exact k _ s1
theorem rowR_mid {ns : List Int} {r g : Int} {j : Nat} (h : j < parI ns.length) : ((rowR ns r g j).drop 3).take 4 = ((wordsR ns).drop (4 * j)).take 4 := by
  have l4 : (((wordsR ns).drop (4 * j)).take 4).length = 4 := by rw [List.length_take, List.length_drop, wordsR_len]; omega
  unfold rowR
  show ((((wordsR ns).drop (4 * j)).take 4) ++ [g]).take 4 = _
  rw [List.take_append_of_le_length (by omega)]
  exact List.take_of_length_le (by omega)
theorem recS_at {ns : List Int} {r g : Int} {j : Nat} (h : j < parI ns.length) : (recS ns r g)[j]? = some (rowR ns r g j) := by
  unfold recS
  rw [List.getElem?_map, List.getElem?_range h]
  rfl
theorem recS_len (ns : List Int) (r g : Int) : (recS ns r g).length = parI ns.length := by unfold recS; rw [List.length_map, List.length_range]
theorem wordsR_take {ns : List Int} {j : Nat} : (wordsR ns).take (4 * j) ++ ((wordsR ns).drop (4 * j)).take 4 = (wordsR ns).take (4 * (j + 1)) := by
  rw [show 4 * (j + 1) = 4 * j + 4 by omega, List.take_add]
theorem wordsR_drop {ns : List Int} : (wordsR ns).drop (1 + ns.length) = List.replicate (4 * parI ns.length - (ns.length + 1)) 0 := by
  unfold wordsR
  rw [List.drop_append_of_le_length (by rw [List.length_cons]; omega), List.drop_eq_nil_of_le (by rw [List.length_cons]; omega)]
  rfl
theorem wordsR_mid {ns : List Int} : ((wordsR ns).drop 1).take ns.length = ns := by
  unfold wordsR
  rw [List.cons_append, List.drop_succ_cons, List.drop_zero, List.take_append_of_le_length (Nat.le_refl _), List.take_length]
def sp_record_intent (K : PySem.W.Frag) (C : Ex) : Sp := S1 fun a H Q _ => ∃ (p : Addr) (vs : List V) (ns : List Int) (r g : Int), a = .ref p ∧ H p = some (.lst vs) ∧ RowsAt H vs (recS ns r g) ∧ chk ns = true ∧ ns.length ≤ 2000 ∧
  ∀ t H', Same H H' → H t = none → H' t = some (.tup (ns.map V.int)) → Q (.ref t) H'
def t_record_intent (K : PySem.W.Frag) (C : Ex) (E : XK) : TS :=
  tSeq (tAsg (tLst (tNil)) (gName 1))
  (tSeq (tFor (iList K (tVar 0)) (gName 2)
  (tDrop (tBM K "list" (rExtend) (tVar 1) (tCons (tSl (uSl K) (tVar 2) (tPart (tC (.int 3))) (tPart (tC (.int 7)))) (tNil)))))
  (tSeq (tAsg (tOp (uIx K) (tVar 1) (tC (.int 0))) (gName 3))
  (tSeq (tIfS (tTest (tOp (uNe K) (tOp (uDiv) (tOp (uAdd K) (tVar 3) (tC (.int 4))) (tC (.int 4))) (tCB (uLen K) (tCons (tVar 0) (tNil))))) (uRaise C.BadImage (WB E)) (tNext))
  (tSeq (tIfS (tTest (tOp (uNe K) (tSl (uSl K) (tVar 1) (tPart (tOp (uAdd K) (tC (.int 1)) (tVar 3))) (tNoPart)) (tOp (uMul) (tLst (tCons (tC (.int 0)) (tNil))) (tOp (uSub) (tOp (uSub) (tCB (uLen K) (tCons (tVar 1) (tNil))) (tC (.int 1))) (tVar 3))))) (uRaise C.BadImage (WB E)) (tNext))
  (tSeq (tAsg (tCB (uTuple K) (tCons (tSl (uSl K) (tVar 1) (tPart (tC (.int 1))) (tPart (tOp (uAdd K) (tC (.int 1)) (tVar 3)))) (tNil))) (gName 4))
  (tSeq (tIfS (tNot (uTru K (uCall (sp_check_intent K C) (WB E) (tCons (tVar 4) (tNil))))) (uRaise C.BadImage (WB E)) (tNext))
  (tRet (tVar 4))))))))
theorem pure_record_intent {K : PySem.W.Frag} {C : Ex} {vs : List V} {H : Hp} {Q : VK} {E : XK} (F : Fa K C) (h : sp_record_intent K C vs H Q E) : t_record_intent K C E { nx := fun _ H' => Q .non H', rt := Q } (start ["sectors", "words", "sector", "count", "intent"] vs) H := by
  obtain ⟨a, rfl, p, vs, ns, r, g, rfl, hp, hr, hc, ln, k⟩ := h
  have lv : vs.length = parI ns.length := by rw [hr.1, recS_len]
  have pl := parI_lim ns.length
  have wl := wordsR_len ns
  unfold t_record_intent
  walk_at "run1"
  rename_i W hW
  refine f_list (xs := vs) (fun i σ H' => ∃ v2 : Option V, σ = [some (.ref p), some (.ref W), v2, none, none] ∧ Same H H' ∧ H' W = some (.lst (((wordsR ns).take (4 * i)).map V.int))) ⟨none, rfl, same_new hW, upd_same⟩ (by rintro i σ H' _ ⟨_, _, s, _⟩; exact SqL.of (s _ _ hp)) ?_ ?_
  · rintro i x σ H1 hx ⟨v2, rfl, s1, e1⟩
    have hi : i < vs.length := (List.getElem?_eq_some_iff.mp hx).1
    obtain ⟨row, hrw, l8, py, rfl, ey⟩ := (hr.same s1).2 _ _ hx
    rw [recS_at (by omega)] at hrw
    cases hrw
    walk_at "run1"
    refine w_slL (SqL.of ey) fun l hl => ?_
    rw [show (some (3 : Int)) = some ((3 : Nat) : Int) from rfl, show (some (7 : Int)) = some ((7 : Nat) : Int) from rfl, cut_ints (by decide) (by omega), rowR_mid (by omega)]
    walk_at "run1"
    refine ⟨W, l, _, _, rfl, rfl, upd_old e1 hl, upd_same, by rw [List.length_map, List.length_map, List.length_take, List.length_take]; exact le_line (by omega), ?_⟩
    walk_at "run1"
    refine ⟨_, rfl, ?_, ?_⟩
    · exact same_upd (same_updN s1 hl) hW
    · rw [upd_same, ← List.map_append, wordsR_take]
  rintro σ H1 ⟨v2, rfl, s1, e1⟩
  rw [lv, List.take_of_length_le (by omega)] at e1
  have g0 : (wordsR ns).getD (0 : Int).toNat 0 = ((ns.length : Nat) : Int) := rfl
  have hp1 := s1 _ _ hp
  walk_at "run1"
  · rename_i h
    exfalso
    rw [g0] at h
    unfold parI at lv
    omega
  rename_i h0
  clear h0
  rw [g0]
  walk_at "run1"
  refine w_slL (SqL.of e1) fun l hl => ?_
  rw [show (1 : Int) + ((ns.length : Nat) : Int) = ((1 + ns.length : Nat) : Int) by omega, cut_drop, ← List.map_drop, wordsR_drop]
  have e1l := upd_old (o := .lst ((List.replicate (4 * parI ns.length - (ns.length + 1)) (0 : Int)).map V.int)) e1 hl
  have s2 := same_updN (o := .lst ((List.replicate (4 * parI ns.length - (ns.length + 1)) (0 : Int)).map V.int)) s1 hl
  have el : upd H1 l (.lst ((List.replicate (4 * parI ns.length - (ns.length + 1)) (0 : Int)).map V.int)) l = some (.lst ((List.replicate (4 * parI ns.length - (ns.length + 1)) (0 : Int)).map V.int)) := upd_same
  generalize upd H1 l _ = H2 at *
  walk_at "run1"
  rename_i z1 hz1 q hq
  have er : ((((wordsR ns).map V.int).length : Int) - 1 - ((ns.length : Nat) : Int)).toNat = 4 * parI ns.length - (ns.length + 1) := by rw [List.length_map, wl]; omega
  rw [er]
  have s3 := same_updN (o := .lst ((List.replicate (4 * parI ns.length - (ns.length + 1)) (0 : Int)).map V.int)) (same_updN (o := .lst [.int 0]) s2 hz1) hq
  have e1q := upd_old (o := .lst ((List.replicate (4 * parI ns.length - (ns.length + 1)) (0 : Int)).map V.int)) (upd_old (o := .lst [.int 0]) e1l hz1) hq
  refine w_neD (α := List Int) (a := List.replicate (4 * parI ns.length - (ns.length + 1)) (0 : Int)) (b := List.replicate (4 * parI ns.length - (ns.length + 1)) (0 : Int)) (Dt.list (SqL.of (upd_old (upd_old el hz1) hq)) (DtAll.ints _)) (Dt.list (SqL.of upd_same) (DtAll.ints _)) (by decide) ⟨_, rfl⟩ ?_
  rw [decide_eq_true rfl]
  generalize upd (upd H2 z1 _) q _ = H3 at *
  walk_at "run1"
  refine w_slL (SqL.of e1q) fun l2 hl2 => ?_
  rw [show (1 : Int) + ((ns.length : Nat) : Int) = ((1 + ns.length : Nat) : Int) by omega, show (some (1 : Int)) = some ((1 : Nat) : Int) from rfl, cut_ints (by omega) (by omega), show 1 + ns.length - 1 = ns.length by omega, wordsR_mid]
  walk_at "run1"
  refine w_ttupL (SqL.of upd_same) fun t ht => ?_
  have s4 := same_updN (o := .tup (ns.map V.int)) (same_updN (o := .lst (ns.map V.int)) s3 hl2) ht
  have et : upd (upd H3 l2 (.lst (ns.map V.int))) t (.tup (ns.map V.int)) t = some (.tup (ns.map V.int)) := upd_same
  have ht0 : H t = none := s3.free (none_of_upd ht).1
  generalize upd (upd H3 l2 _) t _ = H4 at *
  walk_at "run1"
  refine w_S1 ⟨t, ns, rfl, .of et, fun H5 s5 => ?_⟩
  rw [hc]
  walk_at "run1"
  exact k t H5 (s4.trans s5) ht0 (s5 _ _ et)
def recsK (nss : List (List Int)) (g : Int) (k : Nat) : List (List Int) := (List.range k).flatMap fun i : Nat => recS (nss.getD i []) ((i : Int) + 1) g
def totR (nss : List (List Int)) (k : Nat) : Nat := ((nss.take k).map fun ns => parI ns.length).sum
theorem recsK_succ {nss : List (List Int)} {g : Int} {k : Nat} {ns : List Int} (h : nss[k]? = some ns) : recsK nss g (k + 1) = recsK nss g k ++ recS ns ((k : Int) + 1) g := by
  unfold recsK
  rw [List.range_succ, List.flatMap_append, List.flatMap_cons, List.flatMap_nil, List.append_nil, List.getD_eq_getElem?_getD, h]
  rfl
theorem totR_succ {nss : List (List Int)} {k : Nat} {ns : List Int} (h : nss[k]? = some ns) : totR nss (k + 1) = totR nss k + parI ns.length := by
  unfold totR
  rw [take_snoc h, List.map_append, List.sum_append]
  simp
theorem recsK_len {nss : List (List Int)} {g : Int} : ∀ {k : Nat}, k ≤ nss.length → (recsK nss g k).length = totR nss k
  | 0, _ => by unfold recsK totR; simp
  | k + 1, h => by
    rw [recsK_succ (List.getElem?_eq_getElem h), List.length_append, recsK_len (by omega), recS_len, totR_succ (List.getElem?_eq_getElem h)]
theorem recsK_pre {nss : List (List Int)} {g : Int} : ∀ {n k : Nat}, k ≤ n → n ≤ nss.length → ∃ r, recsK nss g n = recsK nss g k ++ r
  | 0, k, h, _ => ⟨[], by
    obtain rfl : k = 0 := by omega
    rw [List.append_nil]⟩
  | n + 1, k, h, hn => by
    rcases Nat.lt_or_ge n k with q | q
    · obtain rfl : k = n + 1 := by omega
      exact ⟨[], by rw [List.append_nil]⟩
    · obtain ⟨r, e⟩ := recsK_pre (g := g) q (show n ≤ nss.length by omega)
      rw [recsK_succ (List.getElem?_eq_getElem hn), e, List.append_assoc]
      exact ⟨_, rfl⟩
/-- the sectors behind the records before -/
theorem recs_drop {nss : List (List Int)} {g : Int} {tail : List (List Int)} {k : Nat} {ns : List Int} (h : nss[k]? = some ns) : ∃ r, (recsK nss g nss.length ++ tail).drop (totR nss k) = recS ns ((k : Int) + 1) g ++ r := by
  have hk : k < nss.length := (List.getElem?_eq_some_iff.mp h).1
  obtain ⟨r, e⟩ := recsK_pre (g := g) (show k + 1 ≤ nss.length from hk) (Nat.le_refl _)
  refine ⟨r ++ tail, ?_⟩
  rw [e, recsK_succ h]
  simp only [List.append_assoc]
  rw [List.drop_append_of_le_length (by rw [recsK_len (by omega)]; exact Nat.le_refl _), List.drop_eq_nil_of_le (by rw [recsK_len (by omega)]; exact Nat.le_refl _), List.nil_append]
theorem getD_drop {l : List (List Int)} {a b : Nat} : (l.drop a).getD b [] = l.getD (a + b) [] := by
  rw [List.getD_eq_getElem?_getD, List.getElem?_drop, List.getD_eq_getElem?_getD]
theorem okR_row {ns : List Int} {r g : Int} {j : Nat} (h : j < parI ns.length) : okR (rowR ns r g j) r j ((parI ns.length : Nat) : Int) g = true := by
  have l4 : (((wordsR ns).drop (4 * j)).take 4).length = 4 := by rw [List.length_take, List.length_drop, wordsR_len]; omega
  unfold okR
  have e1 : (rowR ns r g j).take 3 = [r, (j : Int), ((parI ns.length : Nat) : Int)] := rfl
  have e2 : (rowR ns r g j).getD 7 0 = g := by
    unfold rowR
    rw [List.getD_eq_getElem?_getD, List.getElem?_append_right (by rw [List.length_append, l4]; show 3 + 4 ≤ 7; decide), List.length_append, l4]
    rfl
  rw [e1, e2, decide_eq_true rfl, decide_eq_true rfl]
  rfl
theorem wpF_yes {rows : List (List Int)} {m : Nat} {ns : List Int} {r g : Int} {rest : List (List Int)} (h : rows.drop m = recS ns r g ++ rest) : wpF rows m r g = ((parI ns.length : Nat) : Int) := by
  have pl := parI_lim ns.length
  have hl : parI ns.length ≤ rows.length - m := by
    have e := congrArg List.length h
    rw [List.length_drop, List.length_append, recS_len] at e
    omega
  have at_ : ∀ j, j < parI ns.length → rows.getD (m + j) [] = rowR ns r g j := fun j hj => by
    rw [← getD_drop, h, List.getD_eq_getElem?_getD, List.getElem?_append_left (by rw [recS_len]; exact hj), recS_at hj]
    rfl
  have e0 : (rows.getD m []).getD 2 0 = ((parI ns.length : Nat) : Int) := by
    have z := at_ 0 (by omega)
    rw [Nat.add_zero] at z
    rw [z]
    rfl
  unfold wpF
  rw [e0, if_neg (by omega), if_pos]
  rw [List.all_eq_true]
  intro j hj
  have hj : j < parI ns.length := by have := List.mem_range.mp hj; omega
  rw [at_ j hj]
  exact okR_row hj
theorem RowsAt.cut {H : Hp} {vs : List V} {rs : List (List Int)} (x : RowsAt H vs rs) (a n : Nat) : RowsAt H ((vs.drop a).take n) ((rs.drop a).take n) := by
  refine ⟨by rw [List.length_take, List.length_take, List.length_drop, List.length_drop, x.1], fun i v h => ?_⟩
  have hi : i < n := by
    have := (List.getElem?_eq_some_iff.mp h).1
    rw [List.length_take] at this
    omega
  rw [List.getElem?_take_of_lt hi, List.getElem?_drop] at h
  obtain ⟨r, e, y⟩ := x.2 _ _ h
  exact ⟨r, by rw [List.getElem?_take_of_lt hi, List.getElem?_drop]; exact e, y⟩
def sp_whole_records (K : PySem.W.Frag) (C : Ex) : Sp := S2 fun a b H Q _ => ∃ (p : Addr) (vs : List V) (nss tail : List (List Int)) (g : Int), a = .ref p ∧ b = .int g ∧ H p = some (.lst vs) ∧ RowsAt H vs (recsK nss g nss.length ++ tail) ∧ (∀ ns ∈ nss, chk ns = true ∧ ns.length ≤ 2000) ∧
  (tail = [] ∨ wpF (recsK nss g nss.length ++ tail) (totR nss nss.length) ((nss.length : Int) + 1) g = 0) ∧ vs.length ≤ 100000 ∧ nss.length ≤ 1000 ∧
  ∀ w us H', Same H H' → H w = none → H' w = some (.lst us) → TupsAt H' us nss → Q (.ref w) H'
def t_whole_records (K : PySem.W.Frag) (C : Ex) (E : XK) : TS :=
  tSeq (tAsg (tLst (tNil)) (gName 2))
  (tSeq (tAsg (tC (.int 0)) (gName 3))
  (tSeq (tWhile (tTest (tOp (uLt K) (tVar 3) (tCB (uLen K) (tCons (tVar 0) (tNil)))))
  (tSeq (tAsg (uCall (sp_whole_parts K C) (WB E) (tCons (tVar 0) (tCons (tVar 3) (tCons (tOp (uAdd K) (tCB (uLen K) (tCons (tVar 2) (tNil))) (tC (.int 1))) (tCons (tVar 1) (tNil)))))) (gName 4))
  (tSeq (tIfS (tTest (tOp (uEq K) (tVar 4) (tC (.int 0)))) (tBreak) (tNext))
  (tSeq (tDrop (tBM K "list" (rAppend) (tVar 2) (tCons (uCall (sp_record_intent K C) (WB E) (tCons (tSl (uSl K) (tVar 0) (tPart (tVar 3)) (tPart (tOp (uAdd K) (tVar 3) (tVar 4)))) (tNil))) (tNil))))
  (tAug 3 (tVar 4) (ipI fun i j => i + j))))))
  (tRet (tVar 2))))
theorem pure_whole_records {K : PySem.W.Frag} {C : Ex} {vs : List V} {H : Hp} {Q : VK} {E : XK} (F : Fa K C) (h : sp_whole_records K C vs H Q E) : t_whole_records K C E { nx := fun _ H' => Q .non H', rt := Q } (start ["sectors", "generation", "intents", "at", "parts"] vs) H := by
  obtain ⟨a, b, rfl, p, vs, nss, tail, g, rfl, rfl, hp, hr, hc, ht, ln, lnn, k⟩ := h
  unfold t_whole_records
  have tl := recsK_len (g := g) (Nat.le_refl nss.length)
  have lv : vs.length = totR nss nss.length + tail.length := by rw [hr.1, List.length_append, tl]
  walk_at "run1"
  rename_i W hW
  refine f_while (fun σ H' => ∃ (i : Nat) (us : List V) (v4 : Option V), σ = [some (.ref p), some (.int g), some (.ref W), some (.int (totR nss i : Nat)), v4] ∧ i ≤ nss.length ∧ Same H H' ∧ H' W = some (.lst us) ∧ TupsAt H' us (nss.take i)) (fun σ H' => match σ[3]? with
    | some (some (V.int z)) => vs.length - z.toNat
    | _ => 0) ⟨0, [], none, rfl, Nat.zero_le _, same_new hW, upd_same, by rw [List.take_zero]; exact .nil⟩ ?_
  rintro σ H1 ⟨i, us, v4, rfl, hi, s1, eW, tu⟩
  have hp1 := s1 _ _ hp
  have lu : us.length = i := by rw [tu.1, List.length_take]; omega
  have hrl : (recsK nss g nss.length ++ tail).length = vs.length := hr.1.symm
  walk_at "run1"
  · rename_i hlt
    have hlt : totR nss i < vs.length := by omega
    rw [lu]
    by_cases hin : i < nss.length
    · have hns := List.getElem?_eq_getElem hin
      generalize nss[i] = ns at hns
      obtain ⟨cns, lns⟩ := hc ns (List.mem_of_getElem? hns)
      obtain ⟨rest, hd⟩ := recs_drop (g := g) (tail := tail) hns
      have pl := parI_lim ns.length
      have hll : parI ns.length ≤ vs.length - totR nss i := by
        have e := congrArg List.length hd
        rw [List.length_drop, hrl, List.length_append, recS_len] at e
        omega
      refine w_S4 ⟨p, vs, _, totR nss i, (i : Int) + 1, g, rfl, rfl, rfl, rfl, hp1, hr.same s1, by omega, by omega, fun H2 s2 => ?_⟩
      rw [wpF_yes hd]
      have hp2 := s2 _ _ hp1
      have hr2 := (hr.same s1).same s2
      have eW2 := s2 _ _ eW
      walk_at "run1"
      · rename_i h
        omega
      walk_at "run1"
      refine w_slL (SqL.of hp2) fun q hq => ?_
      rw [show ((totR nss i : Nat) : Int) + ((parI ns.length : Nat) : Int) = ((totR nss i + parI ns.length : Nat) : Int) by omega, cut_mid _ _ _ (by omega) (by omega), show totR nss i + parI ns.length - totR nss i = parI ns.length by omega]
      have s3 := same_new (o := .lst ((vs.drop (totR nss i)).take (parI ns.length))) hq
      have rq : RowsAt (upd H2 q (.lst ((vs.drop (totR nss i)).take (parI ns.length)))) ((vs.drop (totR nss i)).take (parI ns.length)) (recS ns ((i : Int) + 1) g) := by
        have e1 : recS ns ((i : Int) + 1) g = ((recsK nss g nss.length ++ tail).drop (totR nss i)).take (parI ns.length) := by
          rw [hd, List.take_append_of_le_length (by rw [recS_len]; exact Nat.le_refl _), List.take_of_length_le (by rw [recS_len]; exact Nat.le_refl _)]
        rw [e1]
        exact (hr2.same s3).cut _ _
      have eW3 := s3 _ _ eW2
      have tu3 := (tu.same s2).same s3
      have eq3 : upd H2 q (.lst ((vs.drop (totR nss i)).take (parI ns.length))) q = some (.lst ((vs.drop (totR nss i)).take (parI ns.length))) := upd_same
      have s13 := (s1.trans s2).trans s3
      generalize upd H2 q _ = H3 at *
      walk_at "run1"
      refine w_S1 ⟨q, _, ns, (i : Int) + 1, g, rfl, eq3, rq, cns, lns, fun t H4 s4 ht4 et => ?_⟩
      have eW4 := s4 _ _ eW3
      walk_at "run1"
      refine w_app eW4 (lt_line (by omega)) ?_
      walk_at "run1"
      refine ⟨⟨i + 1, us ++ [.ref t], _, by rw [totR_succ hns]; rfl, hin, same_upd (s13.trans s4) hW, upd_same, ?_⟩, ?_⟩
      · rw [take_snoc hns]
        exact ((tu3.same s4).snoc ⟨t, rfl, et⟩).map fun t' xs e => upd_oth e (ne_of e eW4 fun z => nomatch z)
      · show vs.length - ((totR nss i : Int) + (parI ns.length : Int)).toNat < vs.length - ((totR nss i : Nat) : Int).toNat
        omega
    · obtain rfl : i = nss.length := by omega
      rw [List.take_length] at tu
      rcases ht with rfl | ht
      · rw [List.length_nil] at lv
        omega
      · refine w_S4 ⟨p, vs, _, totR nss nss.length, (nss.length : Int) + 1, g, rfl, rfl, rfl, rfl, hp1, hr.same s1, by omega, by omega, fun H2 s2 => ?_⟩
        rw [ht]
        walk_at "run1"
        exact k W us H2 (s1.trans s2) hW (s2 _ _ eW) (tu.same s2)
  · walk_at "run1"
    rename_i hge
    obtain rfl : i = nss.length := by
      rcases Nat.lt_or_ge i nss.length with q | q
      · exfalso
        obtain ⟨rest, hd⟩ := recs_drop (g := g) (tail := tail) (List.getElem?_eq_getElem q)
        have e := congrArg List.length hd
        have pl := parI_lim (nss[i]).length
        rw [List.length_drop, hrl, List.length_append, recS_len] at e
        omega
      · omega
    rw [List.take_length] at tu
    exact k W us H1 s1 hW eW tu
def sp__law_row (K : PySem.W.Frag) (_ : Ex) : Sp := S5 fun a b c d e H Q _ => ∃ (p : Addr) (ns : List Int) (r g : Int) (j : Nat), a = .ref p ∧ b = .int r ∧ c = .int (j : Int) ∧ d = .int (parI ns.length : Nat) ∧ e = .int g ∧ j < parI ns.length ∧ H p = some (.lst ((rowR ns r g j).map V.int)) ∧ ∀ H', Same H H' → Q (.bl true) H'
def t__law_row (K : PySem.W.Frag) (C : Ex) (E : XK) : TS :=
  tSeq (tIfS (tNot (uTru K (uCall (sp__law_cells K C) (WB E) (tCons (tVar 0) (tCons (tC (.int 8)) (tNil)))))) (tRet (tC (.bl false))) (tNext))
  (tRet (tAndV (tOp (uEq K) (tSl (uSl K) (tVar 0) (tNoPart) (tPart (tC (.int 3)))) (tLst (tCons (tVar 1) (tCons (tVar 2) (tCons (tVar 3) (tNil)))))) (tOp (uEq K) (tOp (uIx K) (tVar 0) (tC (.int 7))) (tVar 4))))
theorem pure__law_row {K : PySem.W.Frag} {C : Ex} {vs : List V} {H : Hp} {Q : VK} {E : XK} (F : Fa K C) (h : sp__law_row K C vs H Q E) : t__law_row K C E { nx := fun _ H' => Q .non H', rt := Q } (start ["_law_sector", "_law_record", "_law_part", "_law_parts", "_law_generation"] vs) H := by
  obtain ⟨a, b, c, d, e, rfl, p, ns, r, g, j, rfl, rfl, rfl, rfl, rfl, hj, hp, k⟩ := h
  have l8 := rowR_len (r := r) (g := g) hj
  have l4 : (((wordsR ns).drop (4 * j)).take 4).length = 4 := by rw [List.length_take, List.length_drop, wordsR_len]; omega
  have e7 : (rowR ns r g j).getD (7 : Int).toNat 0 = g := by
    show (rowR ns r g j).getD 7 0 = g
    unfold rowR
    rw [List.getD_eq_getElem?_getD, List.getElem?_append_right (by rw [List.length_append, l4]; show 3 + 4 ≤ 7; decide), List.length_append, l4]
    rfl
  unfold t__law_row
  walk_at "run1"
  refine w_S2 ⟨p, rowR ns r g j, rfl, by rw [l8]; rfl, SqL.of hp, ?_⟩
  walk_at "run1"
  refine w_slL (SqL.of hp) fun l hl => ?_
  rw [show (some (3 : Int)) = some ((3 : Nat) : Int) from rfl, cut_take, ← List.map_take, show (rowR ns r g j).take 3 = [r, (j : Int), ((parI ns.length : Nat) : Int)] from rfl]
  walk_at "run1"
  rename_i l2 hl2
  refine w_eqD (α := List Int) (a := [r, (j : Int), ((parI ns.length : Nat) : Int)]) (b := [r, (j : Int), ((parI ns.length : Nat) : Int)]) (Dt.list (SqL.of (upd_old upd_same hl2)) (DtAll.ints _)) (Dt.list (SqL.of upd_same) (DtAll.ints [r, (j : Int), ((parI ns.length : Nat) : Int)])) (by decide) ⟨_, rfl⟩ ?_
  have s2 := same_updN (o := .lst [.int r, .int (j : Int), .int ((parI ns.length : Nat) : Int)]) (same_new (o := .lst ([r, (j : Int), ((parI ns.length : Nat) : Int)].map V.int)) hl) hl2
  have ep2 := upd_old (o := .lst [.int r, .int (j : Int), .int ((parI ns.length : Nat) : Int)]) (upd_old (o := .lst ([r, (j : Int), ((parI ns.length : Nat) : Int)].map V.int)) hp hl) hl2
  generalize upd (upd H l _) l2 _ = H2 at *
  rw [decide_eq_true rfl]
  walk_at "run1"
  rw [e7, decide_eq_true rfl]
  exact k _ s2
def sp__law_sectors (K : PySem.W.Frag) (_ : Ex) : Sp := S3 fun a b c H Q _ => ∃ (p : Addr) (ns : List Int) (r g : Int), a = .ref p ∧ b = .int r ∧ c = .int g ∧ SqT K H p (ns.map V.int) ∧ ns.length ≤ 2000 ∧
  ∀ q H' vs, Same H H' → H q = none → H' q = some (.lst vs) → RowsAt H' vs (recS ns r g) → Q (.ref q) H'
def t__law_sectors (K : PySem.W.Frag) (C : Ex) (E : XK) : TS :=
  tSeq (tAsg (uCall (sp_record_sectors K C) (WB E) (tCons (tVar 0) (tCons (tVar 1) (tCons (tVar 2) (tNil))))) (gName 3))
  (tSeq (tAsg (uCall (sp_sectors_of K C) (WB E) (tCons (tVar 0) (tNil))) (gName 4))
  (tSeq (tIfS (tOr (tNot (uTru K (tCB (uIsi K .int) (tCons (tVar 4) (tCons (tC (.ty "int")) (tNil)))))) (tOr (uTru K (tCB (uIsi K .bool) (tCons (tVar 4) (tCons (tC (.ty "bool")) (tNil))))) (tNot (uTru K (tCB (uIsi K .list) (tCons (tVar 3) (tCons (tC (.ty "list")) (tNil)))))))) (tRet (tC .non)) (tNext))
  (tSeq (tIfS (tOr (tTest (tOp (uNe K) (tCB (uLen K) (tCons (tVar 3) (tNil))) (tVar 4))) (tTest (tOp (uNe K) (tVar 4) (tOp (uDiv) (tOp (uAdd K) (tCB (uLen K) (tCons (tVar 0) (tNil))) (tC (.int 4))) (tC (.int 4)))))) (tRet (tC .non)) (tNext))
  (tSeq (tAsg (tLst (tNil)) (gName 5))
  (tSeq (tFor (iRng1 (tCons (tVar 4) (tNil))) (gName 6)
  (tSeq (tIfS (tNot (uTru K (uCall (sp__law_row K C) (WB E) (tCons (tOp (uIx K) (tVar 3) (tVar 6)) (tCons (tVar 1) (tCons (tVar 6) (tCons (tVar 4) (tCons (tVar 2) (tNil))))))))) (tRet (tC .non)) (tNext))
  (tAsg (tOp (uAdd K) (tVar 5) (tSl (uSl K) (tOp (uIx K) (tVar 3) (tVar 6)) (tPart (tC (.int 3))) (tPart (tC (.int 7))))) (gName 5))))
  (tSeq (tAsg (tOp (uAdd K) (tLst (tCons (tCB (uLen K) (tCons (tVar 0) (tNil))) (tNil))) (tCB (uList K) (tCons (tVar 0) (tNil)))) (gName 7))
  (tSeq (tIfS (tTest (tOp (uNe K) (tVar 5) (tOp (uAdd K) (tVar 7) (tOp (uMul) (tLst (tCons (tC (.int 0)) (tNil))) (tOp (uSub) (tOp (uMul) (tC (.int 4)) (tVar 4)) (tCB (uLen K) (tCons (tVar 7) (tNil)))))))) (tRet (tC .non)) (tNext))
  (tRet (tVar 3)))))))))
theorem pure__law_sectors {K : PySem.W.Frag} {C : Ex} {vs : List V} {H : Hp} {Q : VK} {E : XK} (F : Fa K C) (h : sp__law_sectors K C vs H Q E) : t__law_sectors K C E { nx := fun _ H' => Q .non H', rt := Q } (start ["_law_intent_here", "_law_record", "_law_generation", "_law_sectors_here", "_law_parts", "_law_words", "_law_part", "_law_due"] vs) H := by
  obtain ⟨a, b, c, rfl, p, ns, r, g, rfl, rfl, rfl, hp, ln, k⟩ := h
  have pl := parI_lim ns.length
  have wl := wordsR_len ns
  have lm : (ns.map V.int).length = ns.length := List.length_map ..
  have ep : ((((ns.map V.int).length : Nat) : Int) + 4) / 4 = ((parI ns.length : Nat) : Int) := by rw [lm]; unfold parI; omega
  unfold t__law_sectors
  walk_at "run1"
  refine w_S3 ⟨p, ns, r, g, rfl, rfl, rfl, hp, ln, fun q H1 vs s1 hq eq rq => ?_⟩
  have lv : vs.length = parI ns.length := by rw [rq.1, recS_len]
  have hp1 := U.Same.sqt s1 hp
  walk_at "run1"
  refine w_S1 ⟨p, ns, rfl, hp1, ?_⟩
  walk_at "run1"
  refine w_isi_list_L (SqL.of eq) ?_
  walk_at "run1"
  · rename_i h
    exact absurd (by rw [lv]) h
  walk_at "run1"
  · rename_i h
    exact absurd ep.symm h
  walk_at "run1"
  rename_i W0 hW0
  refine f_range (fun i σ H' => ∃ (W : Addr) (v6 : Option V), σ = [some (.ref p), some (.int r), some (.int g), some (.ref q), some (.int (parI ns.length : Nat)), some (.ref W), v6, none] ∧ Same H1 H' ∧ H' W = some (.lst (((wordsR ns).take (4 * i)).map V.int)))
    ⟨W0, none, rfl, same_new hW0, by rw [upd_same]; rfl⟩ ?_ ?_
  · rintro i σ H2 hi ⟨W, v6, rfl, s2, eW⟩
    have hi : i < parI ns.length := by omega
    obtain ⟨py, ey, epy, l8⟩ := (rq.same s2).get (i := i) (by rw [recS_len]; exact hi)
    have er : (recS ns r g).getD i [] = rowR ns r g i := by rw [List.getD_eq_getElem?_getD, recS_at hi]; rfl
    rw [er] at epy l8
    have eq2 := s2 _ _ eq
    have e0 : (0 : Int) + (i : Int) = ((i : Nat) : Int) := Int.zero_add _
    walk_at "run1"
    refine w_ixL (k := i) (SqL.of eq2) e0 ey ?_
    walk_at "run1"
    rw [e0]
    refine w_S5 ⟨py, ns, r, g, i, rfl, rfl, rfl, rfl, rfl, hi, epy, fun H3 s3 => ?_⟩
    have eq3 := s3 _ _ eq2
    have epy3 := s3 _ _ epy
    have eW3 := s3 _ _ eW
    walk_at "run1"
    refine w_ixL (k := i) (SqL.of eq3) rfl ey ?_
    walk_at "run1"
    refine w_slL (SqL.of epy3) fun l hl => ?_
    rw [show (some (3 : Int)) = some ((3 : Nat) : Int) from rfl, show (some (7 : Int)) = some ((7 : Nat) : Int) from rfl, cut_ints (by decide) (by omega), rowR_mid hi]
    refine w_cat (upd_old eW3 hl) upd_same (by rw [List.length_map, List.length_map, List.length_take, List.length_take]; omega) fun W2 hW2 => ?_
    walk_at "run1"
    refine ⟨W2, _, rfl, same_updN (same_updN (s2.trans s3) hl) hW2, ?_⟩
    rw [upd_same, ← List.map_append, wordsR_take]
  rintro σ H2 ⟨W, v6, rfl, s2, eW⟩
  have eW : H2 W = some (.lst (((wordsR ns).take (4 * parI ns.length)).map V.int)) := eW
  rw [List.take_of_length_le (by omega)] at eW
  have hp2 := U.Same.sqt s2 hp1
  have eq2 := s2 _ _ eq
  have rq2 := rq.same s2
  walk_at "run1"
  rename_i l1 hl1
  refine w_tlistT (sqt_old hp2 hl1) fun l2 hl2 => ?_
  refine w_cat (upd_old upd_same hl2) upd_same (by rw [lm]; show 1 + _ ≤ _; omega) fun l3 hl3 => ?_
  walk_at "run1"
  rename_i l0 hl0 l4 hl4
  have s4 := same_updN (o := .lst (List.map V.int (List.replicate (4 * ((parI ns.length : Nat) : Int) - (([V.int (List.map V.int ns).length] ++ List.map V.int ns).length : Nat)).toNat 0))) (same_updN (o := .lst [.int 0]) (same_updN (o := .lst ([.int (List.map V.int ns).length] ++ ns.map V.int)) (same_updN (o := .lst (ns.map V.int)) (same_new (o := .lst [.int (List.map V.int ns).length]) hl1) hl2) hl3) hl0) hl4
  refine w_cat (upd_old (upd_old upd_same hl0) hl4) upd_same (by simp only [List.length_map, List.length_replicate, List.length_append, List.length_cons, List.length_nil]; omega) fun V0 hV => ?_
  have s5 := same_updN (o := .lst ([V.int (List.map V.int ns).length] ++ List.map V.int ns ++ List.map V.int (List.replicate (4 * ((parI ns.length : Nat) : Int) - (([V.int (List.map V.int ns).length] ++ List.map V.int ns).length : Nat)).toNat 0))) s4 hV
  have eV : [V.int (List.map V.int ns).length] ++ List.map V.int ns ++ List.map V.int (List.replicate (4 * ((parI ns.length : Nat) : Int) - (([V.int (List.map V.int ns).length] ++ List.map V.int ns).length : Nat)).toNat 0) = (wordsR ns).map V.int := by
    unfold wordsR
    rw [List.map_append, List.map_cons, lm]
    have e : (4 * ((parI ns.length : Nat) : Int) - (([V.int ((ns.length : Nat) : Int)] ++ List.map V.int ns).length : Nat)).toNat = 4 * parI ns.length - (ns.length + 1) := by
      rw [List.length_append, lm]
      show (4 * ((parI ns.length : Nat) : Int) - ((1 + ns.length : Nat) : Int)).toNat = _
      omega
    rw [e]
    rfl
  rw [eV] at s5 ⊢
  have eW5 := s5 _ _ eW
  have eq5 := s5 _ _ eq2
  have rq5 := rq2.same s5
  refine w_neD (α := List Int) (a := wordsR ns) (b := wordsR ns) (Dt.list (SqL.of eW5) (DtAll.ints _)) (Dt.list (SqL.of upd_same) (DtAll.ints _)) (by decide) ⟨_, rfl⟩ ?_
  generalize upd _ V0 (.lst ((wordsR ns).map V.int)) = H5 at *
  rw [decide_eq_true rfl]
  walk_at "run1"
  exact k q H5 vs ((s1.trans s2).trans s5) hq eq5 rq5
theorem flat_congr {f g : Nat → List (List Int)} : ∀ {l : List Nat}, (∀ p ∈ l, f p = g p) → l.flatMap f = l.flatMap g
  | [], _ => rfl
  | a :: l, h => by rw [List.flatMap_cons, List.flatMap_cons, h a (List.mem_cons_self ..), flat_congr fun p hp => h p (List.mem_cons_of_mem _ hp)]
/-- rows copied -/
theorem copyRows {K : PySem.W.Frag} {H1 : Hp} {Q : VK} {q : Addr} {vs : List V} {rows : List (List Int)} {σ : L2.St} {i : Nat} (hq : H1 q = some (.lst vs)) (hr : RowsAt H1 vs rows) (ln : vs.length ≤ 100000) (hi : ∀ x : V, ((wipe σ [i]).set i (some x))[i]? = some (some x)) (hw : ∀ x : V, wipe ((wipe σ [i]).set i (some x)) [i] = wipe σ [i])
    (k : ∀ D H' ws, Same H1 H' → H1 D = none → H' D = some (.lst ws) → RowsAt H' ws rows → Q (.ref D) H') : lcQ (gName i) tYes (tCB (uList K) (tCons (tVar i) tNil)) [i] σ (Itl K q) H1 Q := by
  have lv := hr.1
  refine l_list (xs := vs) (fun D j H' => Same H1 H' ∧ ∃ ws, H' D = some (.lst ws) ∧ RowsAt H' ws (rows.take j)) (fun D hD => ⟨same_new hD, [], upd_same, by rw [List.take_zero]; exact .nil⟩) (fun D j H' _ x => SqL.of (x.1 _ _ hq)) ?_ ?_
  · rintro D j x H2 hD hx ⟨s2, ws, e2, r2⟩
    obtain ⟨r, hr', l8, py, rfl, ey⟩ := hr.2 _ _ hx
    have ey2 := s2 _ _ ey
    have lw : ws.length ≤ 100000 := by rw [r2.1, List.length_take]; omega
    refine w_name ⟨hw _, w_yes (iteT ?_)⟩
    refine w_cb (w_cons (w_var (hi _) (w_nil (w_tlist (SqL.of ey2) fun l hl => ?_))))
    have s3 : Same H2 (upd H2 l (.lst (r.map V.int))) := same_new hl
    have rl : RowAt (upd H2 l (.lst (r.map V.int))) (.ref l) r := .of l8 upd_same
    generalize upd H2 l (.lst (r.map V.int)) = H3 at *
    refine ⟨ws, s3 _ _ e2, lt_line (by omega), same_upd (s2.trans s3) hD, ws ++ [.ref l], upd_same, ?_⟩
    rw [take_snoc hr']
    exact ((r2.same s3).snoc rl).upd (s3 _ _ e2) (noRow_refs r2.ref)
  · rintro D H2 hD ⟨s2, ws, e2, r2⟩
    rw [hr.1, List.take_length] at r2
    exact k D H2 ws s2 hD e2 r2
theorem RowsAt.app {H : Hp} {vs us : List V} {rs qs : List (List Int)} (x : RowsAt H vs rs) (y : RowsAt H us qs) : RowsAt H (vs ++ us) (rs ++ qs) := by
  refine ⟨by rw [List.length_append, List.length_append, x.1, y.1], fun i w h => ?_⟩
  rcases Nat.lt_or_ge i vs.length with q | q
  · rw [List.getElem?_append_left q] at h
    obtain ⟨r, e, z⟩ := x.2 i w h
    exact ⟨r, by rw [List.getElem?_append_left (by rw [← x.1]; exact q)]; exact e, z⟩
  · rw [List.getElem?_append_right q] at h
    obtain ⟨r, e, z⟩ := y.2 _ w h
    exact ⟨r, by rw [List.getElem?_append_right (by rw [← x.1]; exact q), ← x.1]; exact e, z⟩
abbrev oldN : List Int := [10, 40 ^ (10 : Int).toNat, 1]
def Tail (n : Nat) (g : Int) (tail : List (List Int)) : Prop := tail = [] ∨ ∃ f rest, tail = f :: rest ∧ (f = List.replicate 8 0 ∨ f = rowR oldN ((n : Int) + 1) (g - 1) 0)
theorem Tail.no {nss : List (List Int)} {g : Int} {tail : List (List Int)} (h : Tail nss.length g tail) : tail = [] ∨ wpF (recsK nss g nss.length ++ tail) (totR nss nss.length) ((nss.length : Int) + 1) g = 0 := by
  rcases h with h | ⟨f, rest, rfl, h⟩
  · exact .inl h
  · right
    have e0 : (recsK nss g nss.length ++ f :: rest).getD (totR nss nss.length) [] = f := by
      rw [List.getD_eq_getElem?_getD, List.getElem?_append_right (by rw [recsK_len (Nat.le_refl _)]; exact Nat.le_refl _), recsK_len (Nat.le_refl _), Nat.sub_self]
      rfl
    unfold wpF
    rw [e0]
    rcases h with rfl | rfl
    · rw [if_pos (.inl (by decide))]
    · have e2 : (rowR oldN ((nss.length : Int) + 1) (g - 1) 0).getD 2 0 = 1 := rfl
      have e7 : (rowR oldN ((nss.length : Int) + 1) (g - 1) 0).getD 7 0 = g - 1 := rfl
      rw [e2]
      split
      · rfl
      · rw [if_neg]
        intro q
        rw [List.all_eq_true] at q
        have z := q 0 (List.mem_range.mpr (by decide))
        rw [Nat.add_zero, e0] at z
        unfold okR at z
        have z := of_decide_eq_true (Bool.and_eq_true_iff.mp z).2
        rw [e7] at z
        omega
theorem Tail.snoc {n : Nat} {g : Int} {tail : List (List Int)} {f : List Int} (h : Tail n g tail) (hf : tail = [] → f = List.replicate 8 0 ∨ f = rowR oldN ((n : Int) + 1) (g - 1) 0) : Tail n g (tail ++ [f]) := by
  rcases h with rfl | ⟨f', rest, rfl, h⟩
  · exact .inr ⟨f, [], rfl, hf rfl⟩
  · exact .inr ⟨f', rest ++ [f], rfl, h⟩
abbrev sp_law (K : PySem.W.Frag) (_ : Ex) : Sp := spLaw K
def t_law (K : PySem.W.Frag) (C : Ex) (E : XK) : TS :=
  tSeq (tAsg (tOp (uAdd K) (tC (.int 1)) (tOp (uMod) (tCB (uInt) (tCons (uCall (sp__law_cell K C) (WB E) (tCons (tVar 0) (tCons (tC (.int 0)) (tNil)))) (tNil))) (tOp (uPow) (tC (.int 10)) (tC (.int 12))))) (gName 1))
  (tSeq (tAsg (tLst (tNil)) (gName 2))
  (tSeq (tAsg (tLst (tNil)) (gName 3))
  (tSeq (tFor (iRng1 (tCons (tCB (uMin K) (tCons (tCB (uLen K) (tCons (tVar 0) (tNil))) (tCons (tC (.int 8)) (tNil)))) (tNil))) (gName 4)
  (tSeq (tAsg (uCall (sp__law_intent K C) (WB E) (tCons (tOp (uAdd K) (uCall (sp__law_cell K C) (WB E) (tCons (tVar 0) (tCons (tVar 4) (tNil)))) (tVar 4)) (tCons (tOp (uIx K) (tLst (tCons (tC (.int 20)) (tCons (tC (.int 20)) (tCons (tC (.int 59)) (tCons (tC (.int 9)) (tCons (tC (.int 9)) (tNil))))))) (tOp (uMod) (tCB (uInt) (tCons (uCall (sp__law_cell K C) (WB E) (tCons (tVar 0) (tCons (tVar 4) (tNil)))) (tNil))) (tC (.int 5)))) (tNil)))) (gName 5))
  (tIfS (tTest (tOp (uLe K) (tOp (uAdd K) (tCB (uLen K) (tCons (tVar 3) (tNil))) (tOp (uDiv) (tOp (uAdd K) (tCB (uLen K) (tCons (tVar 5) (tNil))) (tC (.int 4))) (tC (.int 4)))) (tC (.int 16)))) (tSeq (tAsg (uCall (sp__law_sectors K C) (WB E) (tCons (tVar 5) (tCons (tOp (uAdd K) (tCB (uLen K) (tCons (tVar 2) (tNil))) (tC (.int 1))) (tCons (tVar 1) (tNil))))) (gName 6))
  (tSeq (tIfS (tTest (tOp (uIs) (tVar 6) (tC .non))) (tRet (tC (.bl false))) (tNext))
  (tSeq (tDrop (tBM K "list" (rAppend) (tVar 2) (tCons (tVar 5) (tNil))))
  (tAsg (tOp (uAdd K) (tVar 3) (tLc (iList K (tVar 6)) (gName 10) (tYes) (tCB (uList K) (tCons (tVar 10) (tNil))) [10])) (gName 3))))) (tNext))))
  (tSeq (tAsg (uCall (sp_record_sectors K C) (WB E) (tCons (tTup (tCons (tC (.int 10)) (tCons (tOp (uPow) (tC (.int 40)) (tC (.int 10))) (tCons (tC (.int 1)) (tNil))))) (tCons (tOp (uAdd K) (tCB (uLen K) (tCons (tVar 2) (tNil))) (tC (.int 1))) (tCons (tOp (uSub) (tVar 1) (tC (.int 1))) (tNil))))) (gName 7))
  (tSeq (tFor (iRng1 (tCons (tOp (uSub) (tC (.int 16)) (tCB (uLen K) (tCons (tVar 3) (tNil)))) (tNil))) (gName 4)
  (tIfS (tAnd (tTest (tOp (uEq K) (tOp (uMod) (tCB (uInt) (tCons (uCall (sp__law_cell K C) (WB E) (tCons (tVar 0) (tCons (tC (.int 0)) (tNil)))) (tNil))) (tC (.int 2))) (tC (.int 0)))) (tTest (tOp (uEq K) (tVar 4) (tC (.int 0))))) (tDrop (tBM K "list" (rAppend) (tVar 3) (tCons (tCB (uList K) (tCons (tOp (uIx K) (tVar 7) (tC (.int 0))) (tNil))) (tNil)))) (tDrop (tBM K "list" (rAppend) (tVar 3) (tCons (tOp (uMul) (tLst (tCons (tC (.int 0)) (tNil))) (tC (.int 8))) (tNil))))))
  (tSeq (tAsg (tLc (iList K (tVar 3)) (gName 10) (tYes) (tCB (uList K) (tCons (tVar 10) (tNil))) [10]) (gName 8))
  (tSeq (tAsg (uCall (sp_whole_records K C) (WB E) (tCons (tVar 3) (tCons (tVar 1) (tNil)))) (gName 9))
  (tSeq (tIfS (tOr (tTest (tOp (uNe K) (tVar 3) (tVar 8))) (tOr (tNot (uTru K (tCB (uIsi K .list) (tCons (tVar 9) (tCons (tC (.ty "list")) (tNil)))))) (tTest (tOp (uNe K) (tCB (uLen K) (tCons (tVar 9) (tNil))) (tCB (uLen K) (tCons (tVar 2) (tNil))))))) (tRet (tC (.bl false))) (tNext))
  (tSeq (tFor (iRng1 (tCons (tCB (uLen K) (tCons (tVar 2) (tNil))) (tNil))) (gName 4)
  (tIfS (tOr (tNot (uTru K (tCB (uIsi K .tuple) (tCons (tOp (uIx K) (tVar 9) (tVar 4)) (tCons (tC (.ty "tuple")) (tNil)))))) (tTest (tOp (uNe K) (tOp (uIx K) (tVar 9) (tVar 4)) (tOp (uIx K) (tVar 2) (tVar 4))))) (tRet (tC (.bl false))) (tNext)))
  (tRet (tC (.bl true))))))))))))
theorem pure_law {K : PySem.W.Frag} {C : Ex} {vs : List V} {H : Hp} {Q : VK} {E : XK} (F : Fa K C) (h : sp_law K C vs H Q E) : t_law K C E { nx := fun _ H' => Q .non H', rt := Q } (start ["_law_script", "_law_generation", "_law_intents", "_law_sectors_here", "_law_k", "_law_intent_here", "_law_rows", "_law_older", "_law_passed", "_law_told", "_law_row_here"] vs) H := by
  obtain ⟨a0, rfl, p, ns0, rfl, hS, hn, kk⟩ := h
  unfold t_law
  have lm : (ns0.map V.int).length = ns0.length := List.length_map ..
  walk_at "run1"
  rename_i I hI S hSn
  generalize hG : 1 + ns0.getD (0 : Int).toNat 0 % 10 ^ (12 : Int).toNat = g at *
  have hmn : (if 8 < (((ns0.map V.int).length : Nat) : Int) then (8 : Int) else (((ns0.map V.int).length : Nat) : Int)) ≤ 8 ∧ 0 ≤ (if 8 < (((ns0.map V.int).length : Nat) : Int) then (8 : Int) else (((ns0.map V.int).length : Nat) : Int)) := by split <;> omega
  have eI0 : upd (upd H I (.lst [])) S (.lst []) I = some (.lst []) := upd_old upd_same hSn
  have s0 : Same H (upd (upd H I (.lst [])) S (.lst [])) := same_updN (same_new hI) hSn
  have eS0 : upd (upd H I (.lst [])) S (.lst []) S = some (.lst []) := upd_same
  have nIS : I ≠ S := fun e => by rw [← e] at hSn; rw [upd_same] at hSn; cases hSn
  generalize upd (upd H I (.lst [])) S (.lst []) = H0 at *
  refine f_range (fun i σ H' => ∃ (S : Addr) (nss : List (List Int)) (us vs : List V) (v4 v5 v6 : Option V), σ = [some (.ref p), some (.int g), some (.ref I), some (.ref S), v4, v5, v6, none, none, none, none] ∧ Same H H' ∧ H S = none ∧ H' I = some (.lst us) ∧ H' S = some (.lst vs) ∧ I ≠ S ∧ TupsAt H' us nss ∧ RowsAt H' vs (recsK nss g nss.length) ∧ (∀ ns ∈ nss, chk ns = true ∧ ns.length ≤ 2000) ∧ us.length ≤ i ∧ vs.length ≤ 16)
    ⟨S, [], [], [], none, none, none, rfl, s0, (none_of_upd hSn).1, eI0, eS0, nIS, .nil, .nil, (fun _ h => nomatch h), Nat.le_refl 0, by decide⟩ ?_ ?_
  · clear eI0 s0 eS0 nIS
    rintro i σ H1 hi ⟨S, nss, us, vs, v4, v5, v6, rfl, s1, hSn, eI, eS, nIS, tu, rr, hc, lu, lv⟩
    have hi : i < 8 := by omega
    have hS1 := s1.seq hS
    walk_at "run1"
    rename_i la hla
    have s2 := same_new (o := .lst [.int 20, .int 20, .int 59, .int 9, .int 9]) hla
    have hS2 := s2.seq hS1
    have el : upd H1 la (.lst [.int 20, .int 20, .int 59, .int 9, .int 9]) la = some (.lst [.int 20, .int 20, .int 59, .int 9, .int 9]) := upd_same
    have eI2 := s2 _ _ eI
    have eS2 := s2 _ _ eS
    have tu2 := tu.same s2
    have rr2 := rr.same s2
    have s12 := s1.trans s2
    generalize upd H1 la _ = H2 at *
    walk_at "run1"
    refine w_ixA (SqL.of el) ⟨by omega, by show _ < 5; omega⟩ fun v hv => ?_
    have hm : ∃ m : Int, v = .int m ∧ 1 ≤ m ∧ m ≤ 64 := by
      have hm := List.mem_of_getElem? hv
      simp only [List.mem_cons, List.not_mem_nil, or_false] at hm
      rcases hm with h | h | h | h | h <;> exact ⟨_, h, by decide, by decide⟩
    obtain ⟨m, rfl, m0, m1⟩ := hm
    clear hv
    walk_at "run1"
    refine w_S2 ⟨_, m, rfl, rfl, by omega, by omega, fun t H3 ns s3 ht3 et R => ?_⟩
    have R1 := R.ln
    have eI3 := s3 _ _ eI2
    have eS3 := s3 _ _ eS2
    have tu3 := tu2.same s3
    have rr3 := rr2.same s3
    have s13 := s12.trans s3
    have lmn : (ns.map V.int).length = ns.length := List.length_map ..
    have ep : ((((ns.map V.int).length : Nat) : Int) + 4) / 4 = ((parI ns.length : Nat) : Int) := by rw [lmn]; unfold parI; omega
    clear s1 s2 s12 s3 eI eS eI2 eS2 tu tu2 rr rr2 hS1 hS2 el hla
    walk_at "run1"
    · rename_i hfit
      refine w_S3 ⟨t, ns, _, g, rfl, rfl, rfl, .of et, by omega, fun q H4 qs s4 hq eq rq => ?_⟩
      have eI4 := s4 _ _ eI3
      have eS4 := s4 _ _ eS3
      have tu4 := tu3.same s4
      have rr4 := rr3.same s4
      have et4 := s4 _ _ et
      have s14 := s13.trans s4
      have lun := tu3.1
      walk_at "run1"
      refine w_app eI4 (lt_line (by omega)) ?_
      have pI := plain_refs (vs := us) fun x hx => by
        obtain ⟨k, hk⟩ := List.getElem?_of_mem hx
        obtain ⟨_, _, p, e, _⟩ := tu4.2 _ _ hk
        exact ⟨p, e⟩
      have rr5 := rr4.map (row_upd (o := .lst (us ++ [.ref t])) eI4 pI)
      have rq5 := rq.map (row_upd (o := .lst (us ++ [.ref t])) eI4 pI)
      have tu5 : TupsAt (upd H4 I (.lst (us ++ [.ref t]))) (us ++ [.ref t]) (nss ++ [ns]) := (tu4.snoc ⟨t, rfl, et4⟩).map (tup_upd eI4 pI)
      have eI5 : upd H4 I (.lst (us ++ [.ref t])) I = some (.lst (us ++ [.ref t])) := upd_same
      have eS5 : upd H4 I (.lst (us ++ [.ref t])) S = some (.lst vs) := upd_oth eS4 (Ne.symm nIS)
      have nqI : q ≠ I := fun e => by rw [e, eI3] at hq; cases hq
      have eq5 : upd H4 I (.lst (us ++ [.ref t])) q = some (.lst qs) := upd_oth eq nqI
      have s15 : Same H (upd H4 I (.lst (us ++ [.ref t]))) := same_upd s14 hI
      generalize upd H4 I _ = H5 at *
      clear s13 s14 s4 eI3 eS3 eI4 eS4 tu3 tu4 rr3 rr4 rq et et4 eq
      walk_at "run1"
      have lq : qs.length = parI ns.length := by rw [rq5.1, recS_len]
      have pl := parI_lim ns.length
      refine copyRows eq5 rq5 (by omega) (fun x => rfl) (fun x => rfl) fun D H6 ws s6 hD eD rD => ?_
      have eS6 := s6 _ _ eS5
      have lw : ws.length = parI ns.length := by rw [rD.1, recS_len]
      refine w_cat eS6 eD (by omega) fun S2 hS2 => ?_
      walk_at "run1"
      have s7 := same_new (o := .lst (vs ++ ws)) hS2
      have eI6 := s6 _ _ eI5
      refine ⟨S2, nss ++ [ns], us ++ [.ref t], vs ++ ws, _, _, _, rfl, (s15.trans s6).trans s7, s15.free (s6.free hS2), s7 _ _ eI6, upd_same, fun e => by (rw [← e, eI6] at hS2; cases hS2), (tu5.same s6).same s7, ?_, fun y hy => ?_, by rw [List.length_append]; show us.length + 1 ≤ i + 1; omega, by rw [List.length_append]; omega⟩
      · rw [List.length_append]
        show RowsAt _ _ (recsK (nss ++ [ns]) g (nss.length + 1))
        rw [recsK_succ (ns := ns) (by rw [List.getElem?_append_right (Nat.le_refl _), Nat.sub_self]; rfl)]
        have e1 : recsK (nss ++ [ns]) g nss.length = recsK nss g nss.length := by
          unfold recsK
          refine flat_congr fun j hj => ?_
          have hj := List.mem_range.mp hj
          rw [List.getD_eq_getElem?_getD, List.getElem?_append_left hj, List.getD_eq_getElem?_getD]
        rw [e1]
        rw [lun] at rD
        exact (((rr5.same s6).app rD).same s7)
      · rcases List.mem_append.mp hy with h | h
        · exact hc y h
        · rw [List.mem_singleton.mp h]
          exact ⟨R.ck, by omega⟩
    · rename_i hfit
      walk_at "run1"
      exact ⟨S, nss, us, vs, _, _, _, rfl, s13, hSn, eI3, eS3, nIS, tu3, rr3, hc, by omega, lv⟩
  · clear eI0 s0 eS0 nIS
    rintro σ H1 ⟨S, nss, us, vs, v4, v5, v6, rfl, s1, hSn, eI, eS, nIS, tu, rr, hc, lu, lv⟩
    have hS1 := s1.seq hS
    have lun := tu.1
    walk_at "run1"
    rename_i t0 ht0
    have s2 := same_new (o := .tup [.int 10, .int (40 ^ (10 : Int).toNat), .int 1]) ht0
    have et0 : upd H1 t0 (.tup [.int 10, .int (40 ^ (10 : Int).toNat), .int 1]) t0 = some (.tup (oldN.map V.int)) := upd_same
    have eI2 := s2 _ _ eI
    have eS2 := s2 _ _ eS
    have tu2 := tu.same s2
    have rr2 := rr.same s2
    have s12 := s1.trans s2
    generalize upd H1 t0 _ = H2 at *
    refine w_S3 ⟨t0, oldN, (us.length : Int) + 1, g - 1, rfl, rfl, rfl, .of et0, by decide, fun O H3 os s3 hO eO rO => ?_⟩
    rw [lun] at rO
    have nOS : O ≠ S := fun e => by rw [e, eS2] at hO; cases hO
    have eI3 := s3 _ _ eI2
    have eS3 := s3 _ _ eS2
    have tu3 := tu2.same s3
    have rr3 := rr2.same s3
    have s13 := s12.trans s3
    clear s1 s2 s12 s3 eI eS eI2 eS2 tu tu2 rr rr2 hS1 et0 ht0 hO
    walk_at "run1"
    refine f_range (fun j σ H' => ∃ (vs' : List V) (tail : List (List Int)) (v4 : Option V), σ = [some (.ref p), some (.int g), some (.ref I), some (.ref S), v4, v5, v6, some (.ref O), none, none, none] ∧ Same H H' ∧ H' I = some (.lst us) ∧ H' S = some (.lst vs') ∧ H' O = some (.lst os) ∧ TupsAt H' us nss ∧ RowsAt H' vs' (recsK nss g nss.length ++ tail) ∧ RowsAt H' os (recS oldN ((nss.length : Int) + 1) (g - 1)) ∧ Tail nss.length g tail ∧ tail.length = j ∧ vs'.length = vs.length + j)
      ⟨vs, [], _, rfl, s13, eI3, eS3, eO, tu3, by rw [List.append_nil]; exact rr3, rO, .inl rfl, rfl, rfl⟩ ?_ ?_
    · clear eI3 eS3 eO tu3 rr3 rO s13
      rintro j σ H4 hj ⟨vs', tail, v4, rfl, s4, eI4, eS4, eO4, tu4, rr4, rO4, tl, ltl, lv'⟩
      have hj : j < 16 := by omega
      have hS4 := s4.seq hS
      obtain ⟨po, eo, epo, l8o⟩ := rO4.get (i := 0) (by rw [recS_len]; decide)
      have er : (recS oldN ((nss.length : Int) + 1) (g - 1)).getD 0 [] = rowR oldN ((nss.length : Int) + 1) (g - 1) 0 := rfl
      rw [er] at epo l8o
      have pS := plain_refs rr4.ref
      -- the end of a turn
      have fin : ∀ (l : Addr) (f : List Int) (H5 : Hp), Same H4 H5 → H4 l = none → RowAt H5 (.ref l) f → (tail = [] → f = List.replicate 8 0 ∨ f = rowR oldN ((nss.length : Int) + 1) (g - 1) 0) →
          H5 S = some (.lst vs') ∧ (Same H (upd H5 S (.lst (vs' ++ [.ref l]))) ∧ upd H5 S (.lst (vs' ++ [.ref l])) I = some (.lst us) ∧ upd H5 S (.lst (vs' ++ [.ref l])) S = some (.lst (vs' ++ [.ref l])) ∧ upd H5 S (.lst (vs' ++ [.ref l])) O = some (.lst os) ∧ TupsAt (upd H5 S (.lst (vs' ++ [.ref l]))) us nss ∧ RowsAt (upd H5 S (.lst (vs' ++ [.ref l]))) (vs' ++ [.ref l]) (recsK nss g nss.length ++ (tail ++ [f])) ∧ RowsAt (upd H5 S (.lst (vs' ++ [.ref l]))) os (recS oldN ((nss.length : Int) + 1) (g - 1)) ∧ Tail nss.length g (tail ++ [f]) ∧ (tail ++ [f]).length = j + 1 ∧ (vs' ++ [V.ref l]).length = vs.length + (j + 1)) := fun l f H5 s5 hl rl hf => by
        have eS5 := s5 _ _ eS4
        refine ⟨eS5, same_upd (s4.trans s5) hSn, upd_oth (s5 _ _ eI4) nIS, upd_same, upd_oth (s5 _ _ eO4) nOS, (tu4.same s5).map (tup_upd eS5 pS), ?_, (rO4.same s5).map (row_upd eS5 pS), tl.snoc hf, by rw [List.length_append, ltl]; rfl, by rw [List.length_append, lv']; rfl⟩
        rw [← List.append_assoc]
        exact ((rr4.same s5).snoc rl).map (row_upd eS5 pS)
      walk_at "run1"
      · rename_i hc0 hj0
        refine w_ixL (k := 0) (SqL.of eO4) rfl eo ?_
        walk_at "run1"
        refine w_tlist (SqL.of epo) fun l hl => ?_
        have z := fin l _ _ (same_new hl) hl (.of l8o upd_same) fun _ => .inr rfl
        walk_at "run1"
        refine w_app z.1 (lt_line (by omega)) ?_
        walk_at "run1"
        exact ⟨_, _, _, rfl, z.2⟩
      · rename_i hc0 hj0
        walk_at "run1"
        rename_i z0 hz0 l hl
        have z := fin l (List.replicate 8 0) _ (same_updN (same_new (o := .lst [.int 0]) hz0) hl) (none_of_upd hl).1 (.of (by decide) upd_same) fun _ => .inl rfl
        refine w_app z.1 (lt_line (by omega)) ?_
        walk_at "run1"
        exact ⟨_, _, _, rfl, z.2⟩
      · rename_i hc0
        walk_at "run1"
        rename_i z0 hz0 l hl
        have z := fin l (List.replicate 8 0) _ (same_updN (same_new (o := .lst [.int 0]) hz0) hl) (none_of_upd hl).1 (.of (by decide) upd_same) fun _ => .inl rfl
        refine w_app z.1 (lt_line (by omega)) ?_
        walk_at "run1"
        exact ⟨_, _, _, rfl, z.2⟩
    · clear eI3 eS3 eO tu3 rr3 rO s13
      rintro σ H4 ⟨vs', tail, v4, rfl, s4, eI4, eS4, eO4, tu4, rr4, rO4, tl, ltl, lv'⟩
      have lv2 : vs'.length ≤ 100 := by omega
      walk_at "run1"
      refine copyRows eS4 rr4 (by omega) (fun x => rfl) (fun x => rfl) fun D H5 ws s5 hD eD rD => ?_
      have eI5 := s5 _ _ eI4
      have eS5 := s5 _ _ eS4
      have tu5 := tu4.same s5
      have rr5 := rr4.same s5
      walk_at "run1"
      refine w_S2 ⟨S, vs', nss, tail, g, rfl, rfl, eS5, rr5, hc, tl.no, by omega, by omega, fun w ts H6 s6 hw ew tw => ?_⟩
      have eI6 := s6 _ _ eI5
      have eS6 := s6 _ _ eS5
      have eD6 := s6 _ _ eD
      have tu6 := tu5.same s6
      walk_at "run1"
      refine w_neD (Dt.list (SqL.of eS6) (rr5.same s6).dt) (Dt.list (SqL.of eD6) (rD.same s6).dt) (by decide) ⟨_, rfl⟩ ?_
      rw [decide_eq_true rfl]
      walk_at "run1"
      refine w_isi_list_L (SqL.of ew) ?_
      have ltw := tw.1
      walk_at "run1"
      · rename_i h
        exact absurd (by rw [ltw, lun]) h
      walk_at "run1"
      refine f_range (fun j σ H' => H' = H6 ∧ ∃ v4 : Option V, σ = [some (.ref p), some (.int g), some (.ref I), some (.ref S), v4, v5, v6, some (.ref O), some (.ref D), some (.ref w), none]) ⟨rfl, _, rfl⟩ ?_ ?_
      · rintro j σ H7 hj ⟨e, v4, rfl⟩
        rw [e]
        clear e
        have h1 : j < ts.length := by omega
        have h2 : j < us.length := by omega
        obtain ⟨n1, e1, p1, q1, ep1⟩ := tw.2 _ _ (List.getElem?_eq_getElem h1)
        obtain ⟨n2, e2, p2, q2, ep2⟩ := tu6.2 _ _ (List.getElem?_eq_getElem h2)
        rw [e1] at e2
        cases e2
        have a1 : ts[(0 + (j : Int)).toNat]? = some (.ref p1) := by rw [show (0 + (j : Int)).toNat = j by omega, List.getElem?_eq_getElem h1, q1]
        have a2 : us[(0 + (j : Int)).toNat]? = some (.ref p2) := by rw [show (0 + (j : Int)).toNat = j by omega, List.getElem?_eq_getElem h2, q2]
        walk_at "run1"
        refine w_ixL (k := (0 + (j : Int)).toNat) (SqL.of ew) (by omega) a1 ?_
        walk_at "run1"
        refine w_isi_tuple_T (SqT.of ep1) ?_
        walk_at "run1"
        refine w_ixL (k := (0 + (j : Int)).toNat) (SqL.of ew) (by omega) a1 ?_
        walk_at "run1"
        refine w_ixL (k := (0 + (j : Int)).toNat) (SqL.of eI6) (by omega) a2 ?_
        walk_at "run1"
        refine w_neD (Dt.tup (SqT.of ep1) (DtAll.ints n1)) (Dt.tup (SqT.of ep2) (DtAll.ints n1)) (by decide) ⟨_, rfl⟩ ?_
        rw [decide_eq_true rfl]
        walk_at "run1"
        exact ⟨rfl, _, rfl⟩
      · rintro σ H7 ⟨e, v4, rfl⟩
        walk_at "run1"
        exact kk _
def topS (i : Nat) : Stmt := PySem.Challenge.pw_laminae_k67_records_and_sectors.main.body.getD i (.Pass ⟨0, 0, 0, 0⟩)
abbrev s_is_word : Stmt := topS 8
theorem sc_is_word : FnScope ["value"] ["value"] (defScope s_is_word) := ⟨rfl, rfl, rfl, by decide +kernel, rfl, by decide +kernel, by decide +kernel⟩
abbrev s_word_name : Stmt := topS 9
theorem sc_word_name : FnScope ["word", "digits", "rest", "_", "name", "ended", "digit"] ["word"] (defScope s_word_name) := ⟨rfl, rfl, rfl, by decide +kernel, rfl, by decide +kernel, by decide +kernel⟩
abbrev s_sectors_of : Stmt := topS 18
theorem sc_sectors_of : FnScope ["intent"] ["intent"] (defScope s_sectors_of) := ⟨rfl, rfl, rfl, by decide +kernel, rfl, by decide +kernel, by decide +kernel⟩
abbrev s_record_sectors : Stmt := topS 19
theorem sc_record_sectors : FnScope ["intent", "record", "generation", "parts", "words", "sectors", "part", "group"] ["intent", "record", "generation"] (defScope s_record_sectors) := ⟨rfl, rfl, rfl, by decide +kernel, rfl, by decide +kernel, by decide +kernel⟩
abbrev s_whole_parts : Stmt := topS 20
theorem sc_whole_parts : FnScope ["sectors", "at", "record", "generation", "parts", "part", "words"] ["sectors", "at", "record", "generation"] (defScope s_whole_parts) := ⟨rfl, rfl, rfl, by decide +kernel, rfl, by decide +kernel, by decide +kernel⟩
abbrev s_record_intent : Stmt := topS 21
theorem sc_record_intent : FnScope ["sectors", "words", "sector", "count", "intent"] ["sectors"] (defScope s_record_intent) := ⟨rfl, rfl, rfl, by decide +kernel, rfl, by decide +kernel, by decide +kernel⟩
abbrev s_whole_records : Stmt := topS 22
theorem sc_whole_records : FnScope ["sectors", "generation", "intents", "at", "parts"] ["sectors", "generation"] (defScope s_whole_records) := ⟨rfl, rfl, rfl, by decide +kernel, rfl, by decide +kernel, by decide +kernel⟩
abbrev s_is_name : Stmt := topS 23
theorem sc_is_name : FnScope ["word"] ["word"] (defScope s_is_name) := ⟨rfl, rfl, rfl, by decide +kernel, rfl, by decide +kernel, by decide +kernel⟩
abbrev s_check_words : Stmt := topS 24
theorem sc_check_words : FnScope ["words", "kind", "most"] ["words"] (defScope s_check_words) := ⟨rfl, rfl, rfl, by decide +kernel, rfl, by decide +kernel, by decide +kernel⟩
abbrev s_check_intent : Stmt := topS 25
theorem sc_check_intent : FnScope ["words"] ["words"] (defScope s_check_intent) := ⟨rfl, rfl, rfl, by decide +kernel, rfl, by decide +kernel, by decide +kernel⟩
abbrev s__law_cell : Stmt := topS 27
theorem sc__law_cell : FnScope ["_law_script", "_law_k"] ["_law_script", "_law_k"] (defScope s__law_cell) := ⟨rfl, rfl, rfl, by decide +kernel, rfl, by decide +kernel, by decide +kernel⟩
abbrev s__law_digits : Stmt := topS 28
theorem sc__law_digits : FnScope ["_law_cell_here", "_law_bases", "_law_digits_here", "_law_rest", "_law_base", "_law_mixed"] ["_law_cell_here", "_law_bases"] (defScope s__law_digits) := ⟨rfl, rfl, rfl, by decide +kernel, rfl, by decide +kernel, by decide +kernel⟩
abbrev s__law_cells : Stmt := topS 29
theorem sc__law_cells : FnScope ["_law_row_here", "_law_size", "_law_value"] ["_law_row_here", "_law_size"] (defScope s__law_cells) := ⟨rfl, rfl, rfl, by decide +kernel, rfl, by decide +kernel, by decide +kernel⟩
abbrev s__law_intent : Stmt := topS 30
theorem sc__law_intent : FnScope ["_law_cell_here", "_law_most", "_law_digits_here", "_law_words", "_law_kind", "_law_inode", "_law_other", "_law_main", "_law_size", "_law_cells_here", "_law_k"] ["_law_cell_here", "_law_most"] (defScope s__law_intent) := ⟨rfl, rfl, rfl, by decide +kernel, rfl, by decide +kernel, by decide +kernel⟩
abbrev s__law_row : Stmt := topS 31
theorem sc__law_row : FnScope ["_law_sector", "_law_record", "_law_part", "_law_parts", "_law_generation"] ["_law_sector", "_law_record", "_law_part", "_law_parts", "_law_generation"] (defScope s__law_row) := ⟨rfl, rfl, rfl, by decide +kernel, rfl, by decide +kernel, by decide +kernel⟩
abbrev s__law_sectors : Stmt := topS 32
theorem sc__law_sectors : FnScope ["_law_intent_here", "_law_record", "_law_generation", "_law_sectors_here", "_law_parts", "_law_words", "_law_part", "_law_due"] ["_law_intent_here", "_law_record", "_law_generation"] (defScope s__law_sectors) := ⟨rfl, rfl, rfl, by decide +kernel, rfl, by decide +kernel, by decide +kernel⟩
abbrev s_law : Stmt := topS 33
theorem sc_law : FnScope ["_law_script", "_law_generation", "_law_intents", "_law_sectors_here", "_law_k", "_law_intent_here", "_law_rows", "_law_older", "_law_passed", "_law_told", "_law_row_here"] ["_law_script"] (defScope s_law) := ⟨rfl, rfl, rfl, by decide +kernel, rfl, by decide +kernel, by decide +kernel⟩
structure Adr where
  ex : Ex
  f_is_word : Addr
  d_is_word : FuncData
  f_word_name : Addr
  d_word_name : FuncData
  f_sectors_of : Addr
  d_sectors_of : FuncData
  f_record_sectors : Addr
  d_record_sectors : FuncData
  f_whole_parts : Addr
  d_whole_parts : FuncData
  f_record_intent : Addr
  d_record_intent : FuncData
  f_whole_records : Addr
  d_whole_records : FuncData
  f_is_name : Addr
  d_is_name : FuncData
  f_check_words : Addr
  d_check_words : FuncData
  f_check_intent : Addr
  d_check_intent : FuncData
  f__law_cell : Addr
  d__law_cell : FuncData
  f__law_digits : Addr
  d__law_digits : FuncData
  f__law_cells : Addr
  d__law_cells : FuncData
  f__law_intent : Addr
  d__law_intent : FuncData
  f__law_row : Addr
  d__law_row : FuncData
  f__law_sectors : Addr
  d__law_sectors : FuncData
  f_law : Addr
  d_law : FuncData
structure Top (K : PySem.W.Frag) (mg : Str → Option Value) (A : Adr) : Prop where
  F_is_word : Fun K "is_word" "is_word" s_is_word A.f_is_word A.d_is_word
  b_is_word : Binds K A.d_is_word ["value"] []
  g_is_word : mg "is_word" = some (.ref A.f_is_word)
  F_word_name : Fun K "word_name" "word_name" s_word_name A.f_word_name A.d_word_name
  b_word_name : Binds K A.d_word_name ["word"] []
  g_word_name : mg "word_name" = some (.ref A.f_word_name)
  F_sectors_of : Fun K "sectors_of" "sectors_of" s_sectors_of A.f_sectors_of A.d_sectors_of
  b_sectors_of : Binds K A.d_sectors_of ["intent"] []
  g_sectors_of : mg "sectors_of" = some (.ref A.f_sectors_of)
  F_record_sectors : Fun K "record_sectors" "record_sectors" s_record_sectors A.f_record_sectors A.d_record_sectors
  b_record_sectors : Binds K A.d_record_sectors ["intent", "record", "generation"] []
  g_record_sectors : mg "record_sectors" = some (.ref A.f_record_sectors)
  F_whole_parts : Fun K "whole_parts" "whole_parts" s_whole_parts A.f_whole_parts A.d_whole_parts
  b_whole_parts : Binds K A.d_whole_parts ["sectors", "at", "record", "generation"] []
  g_whole_parts : mg "whole_parts" = some (.ref A.f_whole_parts)
  F_record_intent : Fun K "record_intent" "record_intent" s_record_intent A.f_record_intent A.d_record_intent
  b_record_intent : Binds K A.d_record_intent ["sectors"] []
  g_record_intent : mg "record_intent" = some (.ref A.f_record_intent)
  F_whole_records : Fun K "whole_records" "whole_records" s_whole_records A.f_whole_records A.d_whole_records
  b_whole_records : Binds K A.d_whole_records ["sectors", "generation"] []
  g_whole_records : mg "whole_records" = some (.ref A.f_whole_records)
  F_is_name : Fun K "is_name" "is_name" s_is_name A.f_is_name A.d_is_name
  b_is_name : Binds K A.d_is_name ["word"] []
  g_is_name : mg "is_name" = some (.ref A.f_is_name)
  F_check_words : Fun K "check_words" "check_words" s_check_words A.f_check_words A.d_check_words
  b_check_words : Binds K A.d_check_words ["words"] []
  g_check_words : mg "check_words" = some (.ref A.f_check_words)
  F_check_intent : Fun K "check_intent" "check_intent" s_check_intent A.f_check_intent A.d_check_intent
  b_check_intent : Binds K A.d_check_intent ["words"] []
  g_check_intent : mg "check_intent" = some (.ref A.f_check_intent)
  F__law_cell : Fun K "_law_cell" "_law_cell" s__law_cell A.f__law_cell A.d__law_cell
  b__law_cell : Binds K A.d__law_cell ["_law_script", "_law_k"] []
  g__law_cell : mg "_law_cell" = some (.ref A.f__law_cell)
  F__law_digits : Fun K "_law_digits" "_law_digits" s__law_digits A.f__law_digits A.d__law_digits
  b__law_digits : Binds K A.d__law_digits ["_law_cell_here", "_law_bases"] []
  g__law_digits : mg "_law_digits" = some (.ref A.f__law_digits)
  F__law_cells : Fun K "_law_cells" "_law_cells" s__law_cells A.f__law_cells A.d__law_cells
  b__law_cells : Binds K A.d__law_cells ["_law_row_here", "_law_size"] []
  g__law_cells : mg "_law_cells" = some (.ref A.f__law_cells)
  F__law_intent : Fun K "_law_intent" "_law_intent" s__law_intent A.f__law_intent A.d__law_intent
  b__law_intent : Binds K A.d__law_intent ["_law_cell_here", "_law_most"] []
  g__law_intent : mg "_law_intent" = some (.ref A.f__law_intent)
  F__law_row : Fun K "_law_row" "_law_row" s__law_row A.f__law_row A.d__law_row
  b__law_row : Binds K A.d__law_row ["_law_sector", "_law_record", "_law_part", "_law_parts", "_law_generation"] []
  g__law_row : mg "_law_row" = some (.ref A.f__law_row)
  F__law_sectors : Fun K "_law_sectors" "_law_sectors" s__law_sectors A.f__law_sectors A.d__law_sectors
  b__law_sectors : Binds K A.d__law_sectors ["_law_intent_here", "_law_record", "_law_generation"] []
  g__law_sectors : mg "_law_sectors" = some (.ref A.f__law_sectors)
  F_law : Fun K "law" "law" s_law A.f_law A.d_law
  b_law : Binds K A.d_law ["_law_script"] []
  g_law : mg "law" = some (.ref A.f_law)
  n_bool : mg "bool" = none
  n_int : mg "int" = none
  n_isinstance : mg "isinstance" = none
  n_len : mg "len" = none
  n_list : mg "list" = none
  n_min : mg "min" = none
  n_range : mg "range" = none
  n_reversed : mg "reversed" = none
  n_tuple : mg "tuple" = none
  k_ALPHABET : ∃ t, mg "ALPHABET" = some (.str "abcdefghijklmnopqrstuvwxyz0123456789._-" t)
  k_BASE : ∃ t, mg "BASE" = some (.int 40 t)
  k_DIRECTORY : ∃ t, mg "DIRECTORY" = some (.int 2 t)
  k_FILE : ∃ t, mg "FILE" = some (.int 1 t)
  k_GROUP : ∃ t, mg "GROUP" = some (.int 4 t)
  k_LENGTHS : mg "LENGTHS" = some (.ref A.ex.LENGTHS) ∧ KDI K A.ex.LENGTHS [(1, 6), (2, 5), (3, 4), (4, 4), (5, 6), (7, 4), (8, 7), (9, 4), (10, 3)]
  k_MAX_CELLS : ∃ t, mg "MAX_CELLS" = some (.int 2048 t)
  k_MAX_OWNER : ∃ t, mg "MAX_OWNER" = some (.int 255 t)
  k_NAME_SIZE : ∃ t, mg "NAME_SIZE" = some (.int 11 t)
  k_UNIT : ∃ t, mg "UNIT" = some (.int 32 t)
  x_BadImage : Exc K mg "BadImage" A.ex.BadImage
  x_BadName : Exc K mg "BadName" A.ex.BadName
  fa : Fa K A.ex
section
variable {P : Program} {w : World} {K : PySem.W.Frag} {mg : Str → Option Value} {base : Heap} {A : Adr}
theorem ok_is_word (T : Top K mg A) : FnOk P w K mg base (L2.CX P w) 1 A.f_is_word A.d_is_word ["value"] (sp_is_word K A.ex) := by
  refine T.F_is_word.okX sc_is_word (fun vs H Q E h => len1 h) (fun cdv Ar outer s H vs Q E hr h => ⟨t_is_word K A.ex E, ?_, pure_is_word T.fa h⟩)
  have tk : Takes (cxOf (L2.CX P w) P w K mg base ["value"] "is_word" (defScope s_is_word) A.f_is_word cdv Ar outer s H E) (WB E) := takes_of rfl rfl rfl rfl
  have hu := hu_of hr
  have hl := Nat.lt_of_succ_lt hu
  exact pss_cons (ps_if (PW.pt (pw_or (pt_not (t_tru (pe_callB (c_isi .int) (by rfl) T.n_isinstance (by decide +kernel) (pa_cons (pv 0) (pa_cons (pe_bltn rfl T.n_int (by decide +kernel) rfl) (pa_nil)))))) (pw_or1 (t_tru (pe_callB (c_isi .bool) (by rfl) T.n_isinstance (by decide +kernel) (pa_cons (pv 0) (pa_cons (pe_bltn rfl T.n_bool (by decide +kernel) rfl) (pa_nil)))))))) (pss_one (ps_ret (pe_bl))) (pss_nil))
        (pss_one (ps_ret (pe_cmpR (o_ge hl) (pv 0) (pe_int) (nomark _))))
theorem ok_word_name (T : Top K mg A) : FnOk P w K mg base (L2.CX P w) 2 A.f_word_name A.d_word_name ["word"] (sp_word_name K A.ex) := by
  refine T.F_word_name.okX sc_word_name (fun vs H Q E h => len1 h) (fun cdv Ar outer s H vs Q E hr h => ⟨t_word_name K A.ex E, ?_, pure_word_name T.fa h⟩)
  have tk : Takes (cxOf (L2.CX P w) P w K mg base ["word", "digits", "rest", "_", "name", "ended", "digit"] "word_name" (defScope s_word_name) A.f_word_name cdv Ar outer s H E) (WB E) := takes_of rfl rfl rfl rfl
  have po : PassesOwn (model P w) (cxOf (L2.CX P w) P w K mg base ["word", "digits", "rest", "_", "name", "ended", "digit"] "word_name" (defScope s_word_name) A.f_word_name cdv Ar outer s H E).A (cxOf (L2.CX P w) P w K mg base ["word", "digits", "rest", "_", "name", "ended", "digit"] "word_name" (defScope s_word_name) A.f_word_name cdv Ar outer s H E).env (cxOf (L2.CX P w) P w K mg base ["word", "digits", "rest", "_", "name", "ended", "digit"] "word_name" (defScope s_word_name) A.f_word_name cdv Ar outer s H E).xe := passes_of rfl
  exact pss_cons (ps_if (pt_not (t_tru (e_call (ok_is_word T) (hr.mono (by decide)) T.g_is_word T.F_is_word.kp T.b_is_word tk (pa_cons (pv 0) (pa_nil))))) (pss_one (s_raise T.x_BadName tk)) (pss_nil))
        (pss_cons (ps_set (i := 1) sc_word_name.nd rfl (Or.inl rfl) (pe_lst (pa_nil)))
        (pss_cons (ps_set (i := 2) sc_word_name.nd rfl (Or.inl rfl) (pv 0))
        (pss_cons (ps_for po rfl (pi_range1 (by rfl) T.n_range (pa_cons (pe_glob rfl T.k_NAME_SIZE.choose_spec ⟨_, rfl⟩) (pa_nil))) (pg_name (i := 3) sc_word_name.nd rfl (Or.inl rfl))
        (pss_cons (ps_expr (pe_bm PySem.F.plainAttrs_list PySem.F.slot_list_append PySem.F.type_list_append mt_append (pv 1) (pa_cons (pe_op o_mod (pv 2) (pe_glob rfl T.k_BASE.choose_spec ⟨_, rfl⟩)) (pa_nil))))
        (pss_one (ps_set (i := 2) sc_word_name.nd rfl (Or.inl rfl) (pe_op o_div (pv 2) (pe_glob rfl T.k_BASE.choose_spec ⟨_, rfl⟩))))))
        (pss_cons (ps_set (i := 4) sc_word_name.nd rfl (Or.inl rfl) (pe_str))
        (pss_cons (ps_set (i := 5) sc_word_name.nd rfl (Or.inl rfl) (pe_bl))
        (pss_cons (ps_for po rfl (pi_reversed (by rfl) T.n_reversed (pa_cons (pv 1) (pa_nil))) (pg_name (i := 6) sc_word_name.nd rfl (Or.inl rfl))
        (pss_one (ps_if (pt_cmpR (o_eq hr.units) (pv 6) (pe_int) (nomark _)) (pss_one (ps_set (i := 5) sc_word_name.nd rfl (Or.inl rfl) (pe_bl))) (pss_one (ps_if (t_tru (pv 5)) (pss_one (s_raise T.x_BadName tk)) (pss_one (ps_set (i := 4) sc_word_name.nd rfl (Or.inl rfl) (pe_op o_add (pv 4) (e_ix (pe_glob rfl T.k_ALPHABET.choose_spec ⟨_, rfl⟩) (pe_op o_sub (pv 6) (pe_int)))))))))))
        (pss_cons (ps_if (PW.pt (pw_or (pt_cmpR (o_ne hr.units) (pv 2) (pe_int) (nomark _)) (pw_or1 (pt_cmpR (o_eq hr.units) (pe_bm PySem.F.plainAttrs_str PySem.F.slot_str_count PySem.F.type_str_count mt_countU (pv 4) (pa_cons (pe_str) (pa_nil))) (pe_callB (c_len) (by rfl) T.n_len (by decide +kernel) (pa_cons (pv 4) (pa_nil))) (nomark _))))) (pss_one (s_raise T.x_BadName tk)) (pss_nil))
        (pss_one (ps_ret (pv 4))))))))))
theorem ok_sectors_of (T : Top K mg A) : FnOk P w K mg base (L2.CX P w) 1 A.f_sectors_of A.d_sectors_of ["intent"] (sp_sectors_of K A.ex) := by
  refine T.F_sectors_of.okX sc_sectors_of (fun vs H Q E h => len1 h) (fun cdv Ar outer s H vs Q E hr h => ⟨t_sectors_of K A.ex E, ?_, pure_sectors_of T.fa h⟩)
  have tk : Takes (cxOf (L2.CX P w) P w K mg base ["intent"] "sectors_of" (defScope s_sectors_of) A.f_sectors_of cdv Ar outer s H E) (WB E) := takes_of rfl rfl rfl rfl
  exact pss_one (ps_ret (pe_op o_div (pe_op o_add (pe_callB (c_len) (by rfl) T.n_len (by decide +kernel) (pa_cons (pv 0) (pa_nil))) (pe_glob rfl T.k_GROUP.choose_spec ⟨_, rfl⟩)) (pe_glob rfl T.k_GROUP.choose_spec ⟨_, rfl⟩)))
theorem ok_record_sectors (T : Top K mg A) : FnOk P w K mg base (L2.CX P w) 2 A.f_record_sectors A.d_record_sectors ["intent", "record", "generation"] (sp_record_sectors K A.ex) := by
  refine T.F_record_sectors.okX sc_record_sectors (fun vs H Q E h => len3 h) (fun cdv Ar outer s H vs Q E hr h => ⟨t_record_sectors K A.ex E, ?_, pure_record_sectors T.fa h⟩)
  have tk : Takes (cxOf (L2.CX P w) P w K mg base ["intent", "record", "generation", "parts", "words", "sectors", "part", "group"] "record_sectors" (defScope s_record_sectors) A.f_record_sectors cdv Ar outer s H E) (WB E) := takes_of rfl rfl rfl rfl
  have po : PassesOwn (model P w) (cxOf (L2.CX P w) P w K mg base ["intent", "record", "generation", "parts", "words", "sectors", "part", "group"] "record_sectors" (defScope s_record_sectors) A.f_record_sectors cdv Ar outer s H E).A (cxOf (L2.CX P w) P w K mg base ["intent", "record", "generation", "parts", "words", "sectors", "part", "group"] "record_sectors" (defScope s_record_sectors) A.f_record_sectors cdv Ar outer s H E).env (cxOf (L2.CX P w) P w K mg base ["intent", "record", "generation", "parts", "words", "sectors", "part", "group"] "record_sectors" (defScope s_record_sectors) A.f_record_sectors cdv Ar outer s H E).xe := passes_of rfl
  exact pss_cons (ps_set (i := 3) sc_record_sectors.nd rfl (Or.inl rfl) (e_call (ok_sectors_of T) (hr.mono (by decide)) T.g_sectors_of T.F_sectors_of.kp T.b_sectors_of tk (pa_cons (pv 0) (pa_nil))))
        (pss_cons (ps_set (i := 4) sc_record_sectors.nd rfl (Or.inl rfl) (pe_op o_add (pe_lst (pa_cons (pe_callB (c_len) (by rfl) T.n_len (by decide +kernel) (pa_cons (pv 0) (pa_nil))) (pa_nil))) (pe_callTy (c_list) (by rfl) T.n_list (by decide +kernel) (pa_cons (pv 0) (pa_nil)))))
        (pss_cons (ps_set (i := 4) sc_record_sectors.nd rfl (Or.inl rfl) (pe_op o_add (pv 4) (pe_op o_mul (pe_lst (pa_cons (pe_int) (pa_nil))) (pe_op o_sub (pe_op o_mul (pe_glob rfl T.k_GROUP.choose_spec ⟨_, rfl⟩) (pv 3)) (pe_callB (c_len) (by rfl) T.n_len (by decide +kernel) (pa_cons (pv 4) (pa_nil)))))))
        (pss_cons (ps_set (i := 5) sc_record_sectors.nd rfl (Or.inl rfl) (pe_lst (pa_nil)))
        (pss_cons (ps_for po rfl (pi_range1 (by rfl) T.n_range (pa_cons (pv 3) (pa_nil))) (pg_name (i := 6) sc_record_sectors.nd rfl (Or.inl rfl))
        (pss_cons (ps_set (i := 7) sc_record_sectors.nd rfl (Or.inl rfl) (e_sl (pv 4) (po_some (pe_op o_mul (pe_glob rfl T.k_GROUP.choose_spec ⟨_, rfl⟩) (pv 6))) (po_some (pe_op o_add (pe_op o_mul (pe_glob rfl T.k_GROUP.choose_spec ⟨_, rfl⟩) (pv 6)) (pe_glob rfl T.k_GROUP.choose_spec ⟨_, rfl⟩)))))
        (pss_one (ps_expr (pe_bm PySem.F.plainAttrs_list PySem.F.slot_list_append PySem.F.type_list_append mt_append (pv 5) (pa_cons (pe_op o_add (pe_op o_add (pe_lst (pa_cons (pv 1) (pa_cons (pv 6) (pa_cons (pv 3) (pa_nil))))) (pv 7)) (pe_lst (pa_cons (pv 2) (pa_nil)))) (pa_nil)))))))
        (pss_one (ps_ret (pv 5)))))))
theorem ok_whole_parts (T : Top K mg A) : FnOk P w K mg base (L2.CX P w) 1 A.f_whole_parts A.d_whole_parts ["sectors", "at", "record", "generation"] (sp_whole_parts K A.ex) := by
  refine T.F_whole_parts.okX sc_whole_parts (fun vs H Q E h => len4 h) (fun cdv Ar outer s H vs Q E hr h => ⟨t_whole_parts K A.ex E, ?_, pure_whole_parts T.fa h⟩)
  have tk : Takes (cxOf (L2.CX P w) P w K mg base ["sectors", "at", "record", "generation", "parts", "part", "words"] "whole_parts" (defScope s_whole_parts) A.f_whole_parts cdv Ar outer s H E) (WB E) := takes_of rfl rfl rfl rfl
  have po : PassesOwn (model P w) (cxOf (L2.CX P w) P w K mg base ["sectors", "at", "record", "generation", "parts", "part", "words"] "whole_parts" (defScope s_whole_parts) A.f_whole_parts cdv Ar outer s H E).A (cxOf (L2.CX P w) P w K mg base ["sectors", "at", "record", "generation", "parts", "part", "words"] "whole_parts" (defScope s_whole_parts) A.f_whole_parts cdv Ar outer s H E).env (cxOf (L2.CX P w) P w K mg base ["sectors", "at", "record", "generation", "parts", "part", "words"] "whole_parts" (defScope s_whole_parts) A.f_whole_parts cdv Ar outer s H E).xe := passes_of rfl
  have hu := hu_of hr
  have hl := Nat.lt_of_succ_lt hu
  exact pss_cons (ps_set (i := 4) sc_whole_parts.nd rfl (Or.inl rfl) (e_ix (e_ix (pv 0) (pv 1)) (pe_int)))
        (pss_cons (ps_if (PW.pt (pw_or (pt_cmpR (o_lt hl) (pv 4) (pe_int) (nomark _)) (pw_or1 (pt_cmpR (o_gt) (pv 4) (pe_op o_sub (pe_callB (c_len) (by rfl) T.n_len (by decide +kernel) (pa_cons (pv 0) (pa_nil))) (pv 1)) (nomark _))))) (pss_one (ps_ret (pe_int))) (pss_nil))
        (pss_cons (ps_for po rfl (pi_range1 (by rfl) T.n_range (pa_cons (pv 4) (pa_nil))) (pg_name (i := 5) sc_whole_parts.nd rfl (Or.inl rfl))
        (pss_cons (ps_set (i := 6) sc_whole_parts.nd rfl (Or.inl rfl) (e_ix (pv 0) (pe_op o_add (pv 1) (pv 5))))
        (pss_one (ps_if (PW.pt (pw_or (pt_cmpR (o_ne hr.units) (e_sl (pv 6) (po_none) (po_some (pe_int))) (pe_lst (pa_cons (pv 2) (pa_cons (pv 5) (pa_cons (pv 4) (pa_nil))))) (nomark _)) (pw_or1 (pt_cmpR (o_ne hr.units) (e_ix (pv 6) (pe_int)) (pv 3) (nomark _))))) (pss_one (ps_ret (pe_int))) (pss_nil)))))
        (pss_one (ps_ret (pv 4)))))
theorem ok_is_name (T : Top K mg A) : FnOk P w K mg base (L2.CX P w) 3 A.f_is_name A.d_is_name ["word"] (sp_is_name K A.ex) := by
  refine T.F_is_name.okX sc_is_name (fun vs H Q E h => len1 h) (fun cdv Ar outer s H vs Q E hr h => ⟨t_is_name K A.ex E, ?_, pure_is_name T.fa h⟩)
  have tk : Takes (cxOf (L2.CX P w) P w K mg base ["word"] "is_name" (defScope s_is_name) A.f_is_name cdv Ar outer s H E) (WB E) := takes_of rfl rfl rfl rfl
  exact pss_cons (s_try rfl rfl ⟨rfl, by decide, Or.inl T.x_BadName.g⟩ tk (fun W pn xe tk po => pss_one (ps_expr (e_call (ok_word_name T) (hr.mono (by decide)) T.g_word_name T.F_word_name.kp T.b_word_name tk (pa_cons (pv 0) (pa_nil))))) (fun a oe cls d pn hz hf => pss_one (ps_ret (pe_bl))))
        (pss_one (ps_ret (pe_bl)))
theorem ok_check_words (T : Top K mg A) : FnOk P w K mg base (L2.CX P w) 4 A.f_check_words A.d_check_words ["words"] (sp_check_words K A.ex) := by
  refine T.F_check_words.okX sc_check_words (fun vs H Q E h => len1 h) (fun cdv Ar outer s H vs Q E hr h => ⟨t_check_words K A.ex E, ?_, pure_check_words T.fa h⟩)
  have tk : Takes (cxOf (L2.CX P w) P w K mg base ["words", "kind", "most"] "check_words" (defScope s_check_words) A.f_check_words cdv Ar outer s H E) (WB E) := takes_of rfl rfl rfl rfl
  have hu := hu_of hr
  have hl := Nat.lt_of_succ_lt hu
  exact pss_cons (ps_set (i := 1) sc_check_words.nd rfl (Or.inl rfl) (e_ix (pv 0) (pe_int)))
        (pss_cons (ps_if (pt_cmpR (o_eq hr.units) (pv 1) (pe_int) (nomark _)) (pss_one (ps_ret (pe_and (e_call (ok_is_name T) (hr.mono (by decide)) T.g_is_name T.F_is_name.kp T.b_is_name tk (pa_cons (e_ix (pv 0) (pe_int)) (pa_nil))) (pe_and (pe_cmpR (o_in hu) (e_ix (pv 0) (pe_int)) (pe_tup (pa_cons (pe_glob rfl T.k_FILE.choose_spec ⟨_, rfl⟩) (pa_cons (pe_glob rfl T.k_DIRECTORY.choose_spec ⟨_, rfl⟩) (pa_nil)))) (by rfl)) (pe_one (pe_cmpR (o_le hl) (e_ix (pv 0) (pe_int)) (pe_glob rfl T.k_MAX_OWNER.choose_spec ⟨_, rfl⟩) (nomark _))))))) (pss_nil))
        (pss_cons (ps_if (pt_cmpR (o_eq hr.units) (pv 1) (pe_int) (nomark _)) (pss_one (ps_ret (pe_and (pe_cmpR (o_ge hl) (e_ix (pv 0) (pe_int)) (pe_int) (nomark _)) (pe_one (e_call (ok_is_name T) (hr.mono (by decide)) T.g_is_name T.F_is_name.kp T.b_is_name tk (pa_cons (e_ix (pv 0) (pe_int)) (pa_nil))))))) (pss_nil))
        (pss_cons (ps_if (PW.pt (pw_or (pt_cmpR (o_eq hr.units) (pv 1) (pe_int) (nomark _)) (pw_or1 (pt_cmpR (o_eq hr.units) (pv 1) (pe_int) (nomark _))))) (pss_one (ps_ret (e_call (ok_is_name T) (hr.mono (by decide)) T.g_is_name T.F_is_name.kp T.b_is_name tk (pa_cons (e_ix (pv 0) (pe_int)) (pa_nil))))) (pss_nil))
        (pss_cons (ps_if (pt_cmpR (o_eq hr.units) (pv 1) (pe_int) (nomark _)) (pss_one (ps_ret (pe_and (e_call (ok_is_name T) (hr.mono (by decide)) T.g_is_name T.F_is_name.kp T.b_is_name tk (pa_cons (e_ix (pv 0) (pe_int)) (pa_nil))) (pe_and (pe_cmpR (o_ge hl) (e_ix (pv 0) (pe_int)) (pe_int) (nomark _)) (pe_one (e_call (ok_is_name T) (hr.mono (by decide)) T.g_is_name T.F_is_name.kp T.b_is_name tk (pa_cons (e_ix (pv 0) (pe_int)) (pa_nil)))))))) (pss_nil))
        (pss_cons (ps_if (pt_cmpR (o_eq hr.units) (pv 1) (pe_int) (nomark _)) (pss_one (ps_ret (pe_cmpR (o_le hl) (pe_op o_sub (pe_op o_add (e_ix (pv 0) (pe_int)) (pe_callB (c_len) (by rfl) T.n_len (by decide +kernel) (pa_cons (pv 0) (pa_nil)))) (pe_int)) (pe_glob rfl T.k_MAX_CELLS.choose_spec ⟨_, rfl⟩) (nomark _)))) (pss_nil))
        (pss_cons (ps_if (pt_cmpR (o_eq hr.units) (pv 1) (pe_int) (nomark _)) (pss_one (ps_ret (pe_cmpR (o_le hl) (e_ix (pv 0) (pe_int)) (pe_glob rfl T.k_MAX_CELLS.choose_spec ⟨_, rfl⟩) (nomark _)))) (pss_nil))
        (pss_cons (ps_if (pt_cmpR (o_eq hr.units) (pv 1) (pe_int) (nomark _)) (pss_cons (ps_set (i := 2) sc_check_words.nd rfl (Or.inl rfl) (pe_op o_sub (pe_op o_div (pe_glob rfl T.k_MAX_CELLS.choose_spec ⟨_, rfl⟩) (pe_glob rfl T.k_UNIT.choose_spec ⟨_, rfl⟩)) (e_ix (pv 0) (pe_int))))
        (pss_one (ps_ret (pe_and (pe_cmpR (o_ge hl) (e_ix (pv 0) (pe_int)) (pe_int) (nomark _)) (pe_and (pe_cmpR (o_ge hl) (e_ix (pv 0) (pe_int)) (pe_int) (nomark _)) (pe_and (pe_cmpR (o_le hl) (e_ix (pv 0) (pe_int)) (pv 2) (nomark _)) (pe_one (pe_cmpR (o_le hl) (e_ix (pv 0) (pe_int)) (pv 2) (nomark _))))))))) (pss_nil))
        (pss_one (ps_ret (pe_or (pe_cmpR (o_eq hr.units) (pv 1) (pe_int) (nomark _)) (pe_one (pe_cmpR (o_le hl) (e_ix (pv 0) (pe_int)) (pe_glob rfl T.k_MAX_OWNER.choose_spec ⟨_, rfl⟩) (nomark _)))))))))))))
theorem ok_check_intent (T : Top K mg A) : FnOk P w K mg base (L2.CX P w) 5 A.f_check_intent A.d_check_intent ["words"] (sp_check_intent K A.ex) := by
  refine T.F_check_intent.okX sc_check_intent (fun vs H Q E h => len1 h) (fun cdv Ar outer s H vs Q E hr h => ⟨t_check_intent K A.ex E, ?_, pure_check_intent T.fa h⟩)
  have tk : Takes (cxOf (L2.CX P w) P w K mg base ["words"] "check_intent" (defScope s_check_intent) A.f_check_intent cdv Ar outer s H E) (WB E) := takes_of rfl rfl rfl rfl
  have hu := hu_of hr
  have hl := Nat.lt_of_succ_lt hu
  exact pss_cons (ps_if (PW.pt (pw_or (pt_cmpR (o_lt hl) (pe_callB (c_len) (by rfl) T.n_len (by decide +kernel) (pa_cons (pv 0) (pa_nil))) (pe_int) (nomark _)) (pw_or (pt_cmpR (o_lt hl) (e_ix (pv 0) (pe_int)) (pe_int) (nomark _)) (pw_or1 (pt_cmpR (o_gt) (e_ix (pv 0) (pe_int)) (pe_int) (nomark _)))))) (pss_one (ps_ret (pe_bl))) (pss_nil))
        (pss_cut (ps_if (pt_cmpR (o_eq hr.units) (e_ix (pv 0) (pe_int)) (pe_int) (nomark _)) (pss_one (ps_if (pt_cmpR (o_lt hl) (pe_callB (c_len) (by rfl) T.n_len (by decide +kernel) (pa_cons (pv 0) (pa_nil))) (pe_int) (nomark _)) (pss_one (ps_ret (pe_bl))) (pss_nil))) (pss_one (ps_if (pt_cmpR (o_ne hr.units) (pe_callB (c_len) (by rfl) T.n_len (by decide +kernel) (pa_cons (pv 0) (pa_nil))) (e_ki T.k_LENGTHS.2 (pe_glob rfl T.k_LENGTHS.1 rfl) (e_ix (pv 0) (pe_int))) (nomark _)) (pss_one (ps_ret (pe_bl))) (pss_nil))))
        (pss_one (ps_ret (pe_and (e_call (ok_is_name T) (hr.mono (by decide)) T.g_is_name T.F_is_name.kp T.b_is_name tk (pa_cons (e_ix (pv 0) (pe_int)) (pa_nil))) (pe_and (pe_cmpR (o_ge hl) (e_ix (pv 0) (pe_int)) (pe_int) (nomark _)) (pe_one (e_call (ok_check_words T) (hr.mono (by decide)) T.g_check_words T.F_check_words.kp T.b_check_words tk (pa_cons (pv 0) (pa_nil)))))))))
theorem ok_record_intent (T : Top K mg A) : FnOk P w K mg base (L2.CX P w) 6 A.f_record_intent A.d_record_intent ["sectors"] (sp_record_intent K A.ex) := by
  refine T.F_record_intent.okX sc_record_intent (fun vs H Q E h => len1 h) (fun cdv Ar outer s H vs Q E hr h => ⟨t_record_intent K A.ex E, ?_, pure_record_intent T.fa h⟩)
  have tk : Takes (cxOf (L2.CX P w) P w K mg base ["sectors", "words", "sector", "count", "intent"] "record_intent" (defScope s_record_intent) A.f_record_intent cdv Ar outer s H E) (WB E) := takes_of rfl rfl rfl rfl
  have po : PassesOwn (model P w) (cxOf (L2.CX P w) P w K mg base ["sectors", "words", "sector", "count", "intent"] "record_intent" (defScope s_record_intent) A.f_record_intent cdv Ar outer s H E).A (cxOf (L2.CX P w) P w K mg base ["sectors", "words", "sector", "count", "intent"] "record_intent" (defScope s_record_intent) A.f_record_intent cdv Ar outer s H E).env (cxOf (L2.CX P w) P w K mg base ["sectors", "words", "sector", "count", "intent"] "record_intent" (defScope s_record_intent) A.f_record_intent cdv Ar outer s H E).xe := passes_of rfl
  exact pss_cons (ps_set (i := 1) sc_record_intent.nd rfl (Or.inl rfl) (pe_lst (pa_nil)))
        (pss_cons (ps_for po rfl (pi_list (pv 0)) (pg_name (i := 2) sc_record_intent.nd rfl (Or.inl rfl))
        (pss_one (ps_expr (pe_bm PySem.F.plainAttrs_list PySem.F.slot_list_extend PySem.F.type_list_extend mt_extend (pv 1) (pa_cons (e_sl (pv 2) (po_some (pe_int)) (po_some (pe_int))) (pa_nil))))))
        (pss_cons (ps_set (i := 3) sc_record_intent.nd rfl (Or.inl rfl) (e_ix (pv 1) (pe_int)))
        (pss_cons (ps_if (pt_cmpR (o_ne hr.units) (pe_op o_div (pe_op o_add (pv 3) (pe_glob rfl T.k_GROUP.choose_spec ⟨_, rfl⟩)) (pe_glob rfl T.k_GROUP.choose_spec ⟨_, rfl⟩)) (pe_callB (c_len) (by rfl) T.n_len (by decide +kernel) (pa_cons (pv 0) (pa_nil))) (nomark _)) (pss_one (s_raise T.x_BadImage tk)) (pss_nil))
        (pss_cons (ps_if (pt_cmpR (o_ne hr.units) (e_sl (pv 1) (po_some (pe_op o_add (pe_int) (pv 3))) (po_none)) (pe_op o_mul (pe_lst (pa_cons (pe_int) (pa_nil))) (pe_op o_sub (pe_op o_sub (pe_callB (c_len) (by rfl) T.n_len (by decide +kernel) (pa_cons (pv 1) (pa_nil))) (pe_int)) (pv 3))) (nomark _)) (pss_one (s_raise T.x_BadImage tk)) (pss_nil))
        (pss_cons (ps_set (i := 4) sc_record_intent.nd rfl (Or.inl rfl) (pe_callTy (c_tuple) (by rfl) T.n_tuple (by decide +kernel) (pa_cons (e_sl (pv 1) (po_some (pe_int)) (po_some (pe_op o_add (pe_int) (pv 3)))) (pa_nil))))
        (pss_cons (ps_if (pt_not (t_tru (e_call (ok_check_intent T) (hr.mono (by decide)) T.g_check_intent T.F_check_intent.kp T.b_check_intent tk (pa_cons (pv 4) (pa_nil))))) (pss_one (s_raise T.x_BadImage tk)) (pss_nil))
        (pss_one (ps_ret (pv 4)))))))))
theorem ok_whole_records (T : Top K mg A) : FnOk P w K mg base (L2.CX P w) 7 A.f_whole_records A.d_whole_records ["sectors", "generation"] (sp_whole_records K A.ex) := by
  refine T.F_whole_records.okX sc_whole_records (fun vs H Q E h => len2 h) (fun cdv Ar outer s H vs Q E hr h => ⟨t_whole_records K A.ex E, ?_, pure_whole_records T.fa h⟩)
  have tk : Takes (cxOf (L2.CX P w) P w K mg base ["sectors", "generation", "intents", "at", "parts"] "whole_records" (defScope s_whole_records) A.f_whole_records cdv Ar outer s H E) (WB E) := takes_of rfl rfl rfl rfl
  have po : PassesOwn (model P w) (cxOf (L2.CX P w) P w K mg base ["sectors", "generation", "intents", "at", "parts"] "whole_records" (defScope s_whole_records) A.f_whole_records cdv Ar outer s H E).A (cxOf (L2.CX P w) P w K mg base ["sectors", "generation", "intents", "at", "parts"] "whole_records" (defScope s_whole_records) A.f_whole_records cdv Ar outer s H E).env (cxOf (L2.CX P w) P w K mg base ["sectors", "generation", "intents", "at", "parts"] "whole_records" (defScope s_whole_records) A.f_whole_records cdv Ar outer s H E).xe := passes_of rfl
  have hu := hu_of hr
  have hl := Nat.lt_of_succ_lt hu
  exact pss_cons (ps_set (i := 2) sc_whole_records.nd rfl (Or.inl rfl) (pe_lst (pa_nil)))
        (pss_cons (ps_set (i := 3) sc_whole_records.nd rfl (Or.inl rfl) (pe_int))
        (pss_cons (ps_while po (pt_cmpR (o_lt hl) (pv 3) (pe_callB (c_len) (by rfl) T.n_len (by decide +kernel) (pa_cons (pv 0) (pa_nil))) (nomark _))
        (pss_cons (ps_set (i := 4) sc_whole_records.nd rfl (Or.inl rfl) (e_call (ok_whole_parts T) (hr.mono (by decide)) T.g_whole_parts T.F_whole_parts.kp T.b_whole_parts tk (pa_cons (pv 0) (pa_cons (pv 3) (pa_cons (pe_op o_add (pe_callB (c_len) (by rfl) T.n_len (by decide +kernel) (pa_cons (pv 2) (pa_nil))) (pe_int)) (pa_cons (pv 1) (pa_nil)))))))
        (pss_cons (ps_if (pt_cmpR (o_eq hr.units) (pv 4) (pe_int) (nomark _)) (pss_one (ps_break)) (pss_nil))
        (pss_cons (ps_expr (pe_bm PySem.F.plainAttrs_list PySem.F.slot_list_append PySem.F.type_list_append mt_append (pv 2) (pa_cons (e_call (ok_record_intent T) (hr.mono (by decide)) T.g_record_intent T.F_record_intent.kp T.b_record_intent tk (pa_cons (e_sl (pv 0) (po_some (pv 3)) (po_some (pe_op o_add (pv 3) (pv 4)))) (pa_nil))) (pa_nil))))
        (pss_one (ps_aug (i := 3) sc_whole_records.nd rfl (Or.inl rfl) (pv 4) ip_add))))))
        (pss_one (ps_ret (pv 2)))))
theorem ok__law_cell (T : Top K mg A) : FnOk P w K mg base (L2.CX P w) 1 A.f__law_cell A.d__law_cell ["_law_script", "_law_k"] (sp__law_cell K A.ex) := by
  refine T.F__law_cell.okX sc__law_cell (fun vs H Q E h => len2 h) (fun cdv Ar outer s H vs Q E hr h => ⟨t__law_cell K A.ex E, ?_, pure__law_cell T.fa h⟩)
  have tk : Takes (cxOf (L2.CX P w) P w K mg base ["_law_script", "_law_k"] "_law_cell" (defScope s__law_cell) A.f__law_cell cdv Ar outer s H E) (WB E) := takes_of rfl rfl rfl rfl
  have hu := hu_of hr
  have hl := Nat.lt_of_succ_lt hu
  exact pss_cons (ps_if (pt_cmpR (o_lt hl) (pv 1) (pe_callB (c_len) (by rfl) T.n_len (by decide +kernel) (pa_cons (pv 0) (pa_nil))) (nomark _)) (pss_one (ps_ret (pe_callTy (c_int) (by rfl) T.n_int (by decide +kernel) (pa_cons (e_ix (pv 0) (pv 1)) (pa_nil))))) (pss_nil))
        (pss_one (ps_ret (pe_int)))
theorem ok__law_digits (T : Top K mg A) : FnOk P w K mg base (L2.CX P w) 1 A.f__law_digits A.d__law_digits ["_law_cell_here", "_law_bases"] (sp__law_digits K A.ex) := by
  refine T.F__law_digits.okX sc__law_digits (fun vs H Q E h => len2 h) (fun cdv Ar outer s H vs Q E hr h => ⟨t__law_digits K A.ex E, ?_, pure__law_digits T.fa h⟩)
  have tk : Takes (cxOf (L2.CX P w) P w K mg base ["_law_cell_here", "_law_bases", "_law_digits_here", "_law_rest", "_law_base", "_law_mixed"] "_law_digits" (defScope s__law_digits) A.f__law_digits cdv Ar outer s H E) (WB E) := takes_of rfl rfl rfl rfl
  have po : PassesOwn (model P w) (cxOf (L2.CX P w) P w K mg base ["_law_cell_here", "_law_bases", "_law_digits_here", "_law_rest", "_law_base", "_law_mixed"] "_law_digits" (defScope s__law_digits) A.f__law_digits cdv Ar outer s H E).A (cxOf (L2.CX P w) P w K mg base ["_law_cell_here", "_law_bases", "_law_digits_here", "_law_rest", "_law_base", "_law_mixed"] "_law_digits" (defScope s__law_digits) A.f__law_digits cdv Ar outer s H E).env (cxOf (L2.CX P w) P w K mg base ["_law_cell_here", "_law_bases", "_law_digits_here", "_law_rest", "_law_base", "_law_mixed"] "_law_digits" (defScope s__law_digits) A.f__law_digits cdv Ar outer s H E).xe := passes_of rfl
  have hu := hu_of hr
  have hl := Nat.lt_of_succ_lt hu
  exact pss_cons (ps_set (i := 2) sc__law_digits.nd rfl (Or.inl rfl) (pe_lst (pa_nil)))
        (pss_cons (ps_set (i := 3) sc__law_digits.nd rfl (Or.inl rfl) (pe_callTy (c_int) (by rfl) T.n_int (by decide +kernel) (pa_cons (pv 0) (pa_nil))))
        (pss_cons (ps_for po rfl (pi_list (pv 1)) (pg_name (i := 4) sc__law_digits.nd rfl (Or.inl rfl))
        (pss_one (ps_if (pt_cmpR (o_ge hl) (pv 0) (pe_op o_pow (pe_int) (pe_int)) (nomark _)) (pss_cons (ps_expr (pe_bm PySem.F.plainAttrs_list PySem.F.slot_list_append PySem.F.type_list_append mt_append (pv 2) (pa_cons (pe_op o_mod (pe_callTy (c_int) (by rfl) T.n_int (by decide +kernel) (pa_cons (pv 3) (pa_nil))) (pv 4)) (pa_nil))))
        (pss_one (ps_set (i := 3) sc__law_digits.nd rfl (Or.inl rfl) (pe_op o_div (pv 3) (pv 4))))) (pss_cons (ps_set (i := 3) sc__law_digits.nd rfl (Or.inl rfl) (pe_op o_mod (pe_op o_add (pe_op o_add (pe_op o_mul (pe_callTy (c_int) (by rfl) T.n_int (by decide +kernel) (pa_cons (pv 3) (pa_nil))) (pe_int)) (pe_op o_mul (pe_int) (pe_callB (c_len) (by rfl) T.n_len (by decide +kernel) (pa_cons (pv 2) (pa_nil))))) (pe_int)) (pe_int)))
        (pss_cons (ps_set (i := 5) sc__law_digits.nd rfl (Or.inl rfl) (pe_op o_mod (pe_op o_mul (pe_callTy (c_int) (by rfl) T.n_int (by decide +kernel) (pa_cons (pv 3) (pa_nil))) (pe_callTy (c_int) (by rfl) T.n_int (by decide +kernel) (pa_cons (pv 3) (pa_nil)))) (pe_int)))
        (pss_one (ps_expr (pe_bm PySem.F.plainAttrs_list PySem.F.slot_list_append PySem.F.type_list_append mt_append (pv 2) (pa_cons (pe_op o_mod (pe_op o_div (pe_callTy (c_int) (by rfl) T.n_int (by decide +kernel) (pa_cons (pv 5) (pa_nil))) (pe_int)) (pv 4)) (pa_nil))))))))))
        (pss_one (ps_ret (pv 2)))))
theorem ok__law_cells (T : Top K mg A) : FnOk P w K mg base (L2.CX P w) 1 A.f__law_cells A.d__law_cells ["_law_row_here", "_law_size"] (sp__law_cells K A.ex) := by
  refine T.F__law_cells.okX sc__law_cells (fun vs H Q E h => len2 h) (fun cdv Ar outer s H vs Q E hr h => ⟨t__law_cells K A.ex E, ?_, pure__law_cells T.fa h⟩)
  have tk : Takes (cxOf (L2.CX P w) P w K mg base ["_law_row_here", "_law_size", "_law_value"] "_law_cells" (defScope s__law_cells) A.f__law_cells cdv Ar outer s H E) (WB E) := takes_of rfl rfl rfl rfl
  have po : PassesOwn (model P w) (cxOf (L2.CX P w) P w K mg base ["_law_row_here", "_law_size", "_law_value"] "_law_cells" (defScope s__law_cells) A.f__law_cells cdv Ar outer s H E).A (cxOf (L2.CX P w) P w K mg base ["_law_row_here", "_law_size", "_law_value"] "_law_cells" (defScope s__law_cells) A.f__law_cells cdv Ar outer s H E).env (cxOf (L2.CX P w) P w K mg base ["_law_row_here", "_law_size", "_law_value"] "_law_cells" (defScope s__law_cells) A.f__law_cells cdv Ar outer s H E).xe := passes_of rfl
  exact pss_cons (ps_if (PW.pt (pw_or (pt_not (t_tru (pe_callB (c_isi .list) (by rfl) T.n_isinstance (by decide +kernel) (pa_cons (pv 0) (pa_cons (pe_bltn rfl T.n_list (by decide +kernel) rfl) (pa_nil)))))) (pw_or1 (pt_cmpR (o_ne hr.units) (pe_callB (c_len) (by rfl) T.n_len (by decide +kernel) (pa_cons (pv 0) (pa_nil))) (pv 1) (nomark _))))) (pss_one (ps_ret (pe_bl))) (pss_nil))
        (pss_cons (ps_for po rfl (pi_list (pv 0)) (pg_name (i := 2) sc__law_cells.nd rfl (Or.inl rfl))
        (pss_one (ps_if (PW.pt (pw_or (pt_not (t_tru (pe_callB (c_isi .int) (by rfl) T.n_isinstance (by decide +kernel) (pa_cons (pv 2) (pa_cons (pe_bltn rfl T.n_int (by decide +kernel) rfl) (pa_nil)))))) (pw_or1 (t_tru (pe_callB (c_isi .bool) (by rfl) T.n_isinstance (by decide +kernel) (pa_cons (pv 2) (pa_cons (pe_bltn rfl T.n_bool (by decide +kernel) rfl) (pa_nil)))))))) (pss_one (ps_ret (pe_bl))) (pss_nil))))
        (pss_one (ps_ret (pe_bl))))
theorem ok__law_intent (T : Top K mg A) : FnOk P w K mg base (L2.CX P w) 2 A.f__law_intent A.d__law_intent ["_law_cell_here", "_law_most"] (sp__law_intent K A.ex) := by
  refine T.F__law_intent.okX sc__law_intent (fun vs H Q E h => len2 h) (fun cdv Ar outer s H vs Q E hr h => ⟨t__law_intent K A.ex E, ?_, pure__law_intent T.fa h⟩)
  have tk : Takes (cxOf (L2.CX P w) P w K mg base ["_law_cell_here", "_law_most", "_law_digits_here", "_law_words", "_law_kind", "_law_inode", "_law_other", "_law_main", "_law_size", "_law_cells_here", "_law_k"] "_law_intent" (defScope s__law_intent) A.f__law_intent cdv Ar outer s H E) (WB E) := takes_of rfl rfl rfl rfl
  exact pss_cons (ps_set (i := 2) sc__law_intent.nd rfl (Or.inr rfl) (e_call (ok__law_digits T) (hr.mono (by decide)) T.g__law_digits T.F__law_digits.kp T.b__law_digits tk (pa_cons (pv 0) (pa_cons (pe_lst (pa_cons (pe_int) (pa_cons (pe_int) (pa_cons (pe_int) (pa_cons (pe_int) (pa_cons (pe_int) (pa_cons (pe_int) (pa_cons (pe_int) (pa_cons (pv 1) (pa_cons (pe_int) (pa_cons (pe_int) (pa_cons (pe_int) (pa_cons (pe_int) (pa_cons (pe_op o_pow (pe_int) (pe_int)) (pa_nil))))))))))))))) (pa_nil)))))
        (pss_cons (ps_set (i := 3) sc__law_intent.nd rfl (Or.inl rfl) (pe_lst (pa_cons (pe_op o_pow (pe_int) (pe_int)) (pa_cons (pe_op o_mul (pe_int) (pe_op o_pow (pe_int) (pe_int))) (pa_cons (pe_op o_mul (pe_int) (pe_op o_pow (pe_int) (pe_int))) (pa_nil))))))
        (pss_cons (ps_set (i := 4) sc__law_intent.nd rfl (Or.inl rfl) (pe_op o_add (pe_int) (e_ix (pv 2) (pe_int))))
        (pss_cons (ps_set (i := 5) sc__law_intent.nd rfl (Or.inl rfl) (pe_op o_add (pe_int) (e_ix (pv 2) (pe_int))))
        (pss_cons (ps_set (i := 6) sc__law_intent.nd rfl (Or.inl rfl) (pe_op o_add (pe_int) (e_ix (pv 2) (pe_int))))
        (pss_cons (ps_set (i := 7) sc__law_intent.nd rfl (Or.inl rfl) (pe_op o_add (pe_op o_add (pe_op o_add (pe_op o_mul (pe_int) (pe_op o_pow (pe_int) (pe_int))) (pe_op o_mul (pe_int) (pe_op o_pow (pe_int) (pe_int)))) (pe_op o_mul (pe_int) (pe_op o_pow (pe_int) (pe_int)))) (pe_op o_mul (pe_int) (pe_op o_pow (pe_int) (pe_int)))))
        (pss_cons (ps_if (pt_cmpR (o_eq hr.units) (pv 4) (pe_int) (nomark _)) (pss_one (ps_ret (pe_tup (pa_cons (pe_int) (pa_cons (pv 7) (pa_cons (pv 5) (pa_cons (e_ix (pv 3) (e_ix (pv 2) (pe_int))) (pa_cons (pe_op o_add (pe_int) (e_ix (pv 2) (pe_int))) (pa_cons (e_ix (pv 2) (pe_int)) (pa_nil)))))))))) (pss_nil))
        (pss_cons (ps_if (pt_cmpR (o_eq hr.units) (pv 4) (pe_int) (nomark _)) (pss_one (ps_ret (pe_tup (pa_cons (pe_int) (pa_cons (pv 7) (pa_cons (pv 5) (pa_cons (pv 6) (pa_cons (e_ix (pv 3) (e_ix (pv 2) (pe_int))) (pa_nil))))))))) (pss_nil))
        (pss_cons (ps_if (PW.pt (pw_or (pt_cmpR (o_eq hr.units) (pv 4) (pe_int) (nomark _)) (pw_or1 (pt_cmpR (o_eq hr.units) (pv 4) (pe_int) (nomark _))))) (pss_one (ps_ret (pe_tup (pa_cons (pv 4) (pa_cons (pv 7) (pa_cons (pv 5) (pa_cons (e_ix (pv 3) (e_ix (pv 2) (pe_int))) (pa_nil)))))))) (pss_nil))
        (pss_cons (ps_if (pt_cmpR (o_eq hr.units) (pv 4) (pe_int) (nomark _)) (pss_one (ps_ret (pe_tup (pa_cons (pe_int) (pa_cons (pv 7) (pa_cons (pv 5) (pa_cons (e_ix (pv 3) (e_ix (pv 2) (pe_int))) (pa_cons (pv 6) (pa_cons (e_ix (pv 3) (e_ix (pv 2) (pe_int))) (pa_nil)))))))))) (pss_nil))
        (pss_cons (ps_if (pt_cmpR (o_eq hr.units) (pv 4) (pe_int) (nomark _)) (pss_cons (ps_set (i := 8) sc__law_intent.nd rfl (Or.inl rfl) (pe_op o_add (pe_int) (e_ix (pv 2) (pe_int))))
        (pss_cons (ps_setLc (i := 9) (own := [("_law_k", 10)]) (by rfl) sc__law_intent.nd rfl rfl (sw_true rfl rfl rfl (by decide +kernel)) (pi_range1 (by rfl) T.n_range (pa_cons (pv 8) (pa_nil))) (blkOk_by (N := ["_law_cell_here", "_law_most", "_law_digits_here", "_law_words", "_law_kind", "_law_inode", "_law_other", "_law_main", "_law_size", "_law_cells_here", "_law_k"]) (sc := defScope s__law_intent) (by decide +kernel)) (fun _ _ _ _ _ => pg_name (i := 10) sc__law_intent.nd rfl (Or.inl rfl)) (fun _ _ _ _ _ => pts_nil) (fun _ _ _ _ _ => pe_op o_add (e_ix (pv 2) (pe_int)) (pe_op o_mul (pv 10) (e_ix (pv 2) (pe_int)))))
        (pss_one (ps_ret (pe_callTy (c_tuple) (by rfl) T.n_tuple (by decide +kernel) (pa_cons (pe_op o_add (pe_lst (pa_cons (pe_int) (pa_cons (pv 7) (pa_cons (pv 5) (pa_cons (pe_callB (c_min rfl) (by rfl) T.n_min (by decide +kernel) (pa_cons (pe_op o_div (e_ix (pv 2) (pe_int)) (pe_op o_add (pe_int) (pe_op o_mul (pe_int) (e_ix (pv 2) (pe_int))))) (pa_cons (pe_op o_sub (pe_int) (pv 8)) (pa_nil)))) (pa_nil)))))) (pv 9)) (pa_nil))))))) (pss_nil))
        (pss_cons (ps_if (pt_cmpR (o_eq hr.units) (pv 4) (pe_int) (nomark _)) (pss_one (ps_ret (pe_tup (pa_cons (pe_int) (pa_cons (pv 7) (pa_cons (pv 5) (pa_cons (pe_op o_div (e_ix (pv 2) (pe_int)) (pe_op o_add (pe_int) (pe_op o_mul (pe_int) (e_ix (pv 2) (pe_int))))) (pa_nil)))))))) (pss_nil))
        (pss_cons (ps_if (pt_cmpR (o_eq hr.units) (pv 4) (pe_int) (nomark _)) (pss_one (ps_ret (pe_tup (pa_cons (pe_int) (pa_cons (pv 7) (pa_cons (pv 5) (pa_cons (pe_op o_div (e_ix (pv 2) (pe_int)) (pe_op o_add (pe_int) (pe_op o_mul (pe_int) (e_ix (pv 2) (pe_int))))) (pa_cons (pv 6) (pa_cons (pe_op o_div (e_ix (pv 2) (pe_int)) (pe_op o_add (pe_int) (pe_op o_mul (pe_int) (e_ix (pv 2) (pe_int))))) (pa_cons (pe_op o_add (pe_int) (pe_op o_mod (e_ix (pv 2) (pe_int)) (pe_int))) (pa_nil))))))))))) (pss_nil))
        (pss_cons (ps_if (pt_cmpR (o_eq hr.units) (pv 4) (pe_int) (nomark _)) (pss_one (ps_ret (pe_tup (pa_cons (pe_int) (pa_cons (pv 7) (pa_cons (pv 5) (pa_cons (e_ix (pv 2) (pe_int)) (pa_nil)))))))) (pss_nil))
        (pss_one (ps_ret (pe_tup (pa_cons (pe_int) (pa_cons (pv 7) (pa_cons (pv 5) (pa_nil))))))))))))))))))))
theorem ok__law_row (T : Top K mg A) : FnOk P w K mg base (L2.CX P w) 2 A.f__law_row A.d__law_row ["_law_sector", "_law_record", "_law_part", "_law_parts", "_law_generation"] (sp__law_row K A.ex) := by
  refine T.F__law_row.okX sc__law_row (fun vs H Q E h => len5 h) (fun cdv Ar outer s H vs Q E hr h => ⟨t__law_row K A.ex E, ?_, pure__law_row T.fa h⟩)
  have tk : Takes (cxOf (L2.CX P w) P w K mg base ["_law_sector", "_law_record", "_law_part", "_law_parts", "_law_generation"] "_law_row" (defScope s__law_row) A.f__law_row cdv Ar outer s H E) (WB E) := takes_of rfl rfl rfl rfl
  exact pss_cons (ps_if (pt_not (t_tru (e_call (ok__law_cells T) (hr.mono (by decide)) T.g__law_cells T.F__law_cells.kp T.b__law_cells tk (pa_cons (pv 0) (pa_cons (pe_int) (pa_nil)))))) (pss_one (ps_ret (pe_bl))) (pss_nil))
        (pss_one (ps_ret (pe_and (pe_cmpR (o_eq hr.units) (e_sl (pv 0) (po_none) (po_some (pe_int))) (pe_lst (pa_cons (pv 1) (pa_cons (pv 2) (pa_cons (pv 3) (pa_nil))))) (nomark _)) (pe_one (pe_cmpR (o_eq hr.units) (e_ix (pv 0) (pe_int)) (pv 4) (nomark _))))))
theorem ok__law_sectors (T : Top K mg A) : FnOk P w K mg base (L2.CX P w) 3 A.f__law_sectors A.d__law_sectors ["_law_intent_here", "_law_record", "_law_generation"] (sp__law_sectors K A.ex) := by
  refine T.F__law_sectors.okX sc__law_sectors (fun vs H Q E h => len3 h) (fun cdv Ar outer s H vs Q E hr h => ⟨t__law_sectors K A.ex E, ?_, pure__law_sectors T.fa h⟩)
  have tk : Takes (cxOf (L2.CX P w) P w K mg base ["_law_intent_here", "_law_record", "_law_generation", "_law_sectors_here", "_law_parts", "_law_words", "_law_part", "_law_due"] "_law_sectors" (defScope s__law_sectors) A.f__law_sectors cdv Ar outer s H E) (WB E) := takes_of rfl rfl rfl rfl
  have po : PassesOwn (model P w) (cxOf (L2.CX P w) P w K mg base ["_law_intent_here", "_law_record", "_law_generation", "_law_sectors_here", "_law_parts", "_law_words", "_law_part", "_law_due"] "_law_sectors" (defScope s__law_sectors) A.f__law_sectors cdv Ar outer s H E).A (cxOf (L2.CX P w) P w K mg base ["_law_intent_here", "_law_record", "_law_generation", "_law_sectors_here", "_law_parts", "_law_words", "_law_part", "_law_due"] "_law_sectors" (defScope s__law_sectors) A.f__law_sectors cdv Ar outer s H E).env (cxOf (L2.CX P w) P w K mg base ["_law_intent_here", "_law_record", "_law_generation", "_law_sectors_here", "_law_parts", "_law_words", "_law_part", "_law_due"] "_law_sectors" (defScope s__law_sectors) A.f__law_sectors cdv Ar outer s H E).xe := passes_of rfl
  exact pss_cons (ps_set (i := 3) sc__law_sectors.nd rfl (Or.inl rfl) (e_call (ok_record_sectors T) (hr.mono (by decide)) T.g_record_sectors T.F_record_sectors.kp T.b_record_sectors tk (pa_cons (pv 0) (pa_cons (pv 1) (pa_cons (pv 2) (pa_nil))))))
        (pss_cons (ps_set (i := 4) sc__law_sectors.nd rfl (Or.inl rfl) (e_call (ok_sectors_of T) (hr.mono (by decide)) T.g_sectors_of T.F_sectors_of.kp T.b_sectors_of tk (pa_cons (pv 0) (pa_nil))))
        (pss_cons (ps_if (PW.pt (pw_or (pt_not (t_tru (pe_callB (c_isi .int) (by rfl) T.n_isinstance (by decide +kernel) (pa_cons (pv 4) (pa_cons (pe_bltn rfl T.n_int (by decide +kernel) rfl) (pa_nil)))))) (pw_or (t_tru (pe_callB (c_isi .bool) (by rfl) T.n_isinstance (by decide +kernel) (pa_cons (pv 4) (pa_cons (pe_bltn rfl T.n_bool (by decide +kernel) rfl) (pa_nil))))) (pw_or1 (pt_not (t_tru (pe_callB (c_isi .list) (by rfl) T.n_isinstance (by decide +kernel) (pa_cons (pv 3) (pa_cons (pe_bltn rfl T.n_list (by decide +kernel) rfl) (pa_nil)))))))))) (pss_one (ps_ret (pe_non))) (pss_nil))
        (pss_cons (ps_if (PW.pt (pw_or (pt_cmpR (o_ne hr.units) (pe_callB (c_len) (by rfl) T.n_len (by decide +kernel) (pa_cons (pv 3) (pa_nil))) (pv 4) (nomark _)) (pw_or1 (pt_cmpR (o_ne hr.units) (pv 4) (pe_op o_div (pe_op o_add (pe_callB (c_len) (by rfl) T.n_len (by decide +kernel) (pa_cons (pv 0) (pa_nil))) (pe_int)) (pe_int)) (nomark _))))) (pss_one (ps_ret (pe_non))) (pss_nil))
        (pss_cons (ps_set (i := 5) sc__law_sectors.nd rfl (Or.inl rfl) (pe_lst (pa_nil)))
        (pss_cons (ps_for po rfl (pi_range1 (by rfl) T.n_range (pa_cons (pv 4) (pa_nil))) (pg_name (i := 6) sc__law_sectors.nd rfl (Or.inl rfl))
        (pss_cons (ps_if (pt_not (t_tru (e_call (ok__law_row T) (hr.mono (by decide)) T.g__law_row T.F__law_row.kp T.b__law_row tk (pa_cons (e_ix (pv 3) (pv 6)) (pa_cons (pv 1) (pa_cons (pv 6) (pa_cons (pv 4) (pa_cons (pv 2) (pa_nil))))))))) (pss_one (ps_ret (pe_non))) (pss_nil))
        (pss_one (ps_set (i := 5) sc__law_sectors.nd rfl (Or.inl rfl) (pe_op o_add (pv 5) (e_sl (e_ix (pv 3) (pv 6)) (po_some (pe_int)) (po_some (pe_int))))))))
        (pss_cons (ps_set (i := 7) sc__law_sectors.nd rfl (Or.inl rfl) (pe_op o_add (pe_lst (pa_cons (pe_callB (c_len) (by rfl) T.n_len (by decide +kernel) (pa_cons (pv 0) (pa_nil))) (pa_nil))) (pe_callTy (c_list) (by rfl) T.n_list (by decide +kernel) (pa_cons (pv 0) (pa_nil)))))
        (pss_cons (ps_if (pt_cmpR (o_ne hr.units) (pv 5) (pe_op o_add (pv 7) (pe_op o_mul (pe_lst (pa_cons (pe_int) (pa_nil))) (pe_op o_sub (pe_op o_mul (pe_int) (pv 4)) (pe_callB (c_len) (by rfl) T.n_len (by decide +kernel) (pa_cons (pv 7) (pa_nil)))))) (nomark _)) (pss_one (ps_ret (pe_non))) (pss_nil))
        (pss_one (ps_ret (pv 3))))))))))
theorem ok_law (T : Top K mg A) : FnOk P w K mg base (L2.CX P w) 8 A.f_law A.d_law ["_law_script"] (sp_law K A.ex) := by
  refine T.F_law.okX sc_law (fun vs H Q E h => len1 (show spLaw K vs H Q E from h)) (fun cdv Ar outer s H vs Q E hr h => ⟨t_law K A.ex E, ?_, pure_law T.fa h⟩)
  have tk : Takes (cxOf (L2.CX P w) P w K mg base ["_law_script", "_law_generation", "_law_intents", "_law_sectors_here", "_law_k", "_law_intent_here", "_law_rows", "_law_older", "_law_passed", "_law_told", "_law_row_here"] "law" (defScope s_law) A.f_law cdv Ar outer s H E) (WB E) := takes_of rfl rfl rfl rfl
  have po : PassesOwn (model P w) (cxOf (L2.CX P w) P w K mg base ["_law_script", "_law_generation", "_law_intents", "_law_sectors_here", "_law_k", "_law_intent_here", "_law_rows", "_law_older", "_law_passed", "_law_told", "_law_row_here"] "law" (defScope s_law) A.f_law cdv Ar outer s H E).A (cxOf (L2.CX P w) P w K mg base ["_law_script", "_law_generation", "_law_intents", "_law_sectors_here", "_law_k", "_law_intent_here", "_law_rows", "_law_older", "_law_passed", "_law_told", "_law_row_here"] "law" (defScope s_law) A.f_law cdv Ar outer s H E).env (cxOf (L2.CX P w) P w K mg base ["_law_script", "_law_generation", "_law_intents", "_law_sectors_here", "_law_k", "_law_intent_here", "_law_rows", "_law_older", "_law_passed", "_law_told", "_law_row_here"] "law" (defScope s_law) A.f_law cdv Ar outer s H E).xe := passes_of rfl
  have hu := hu_of hr
  have hl := Nat.lt_of_succ_lt hu
  exact pss_cons (ps_set (i := 1) sc_law.nd rfl (Or.inl rfl) (pe_op o_add (pe_int) (pe_op o_mod (pe_callTy (c_int) (by rfl) T.n_int (by decide +kernel) (pa_cons (e_call (ok__law_cell T) (hr.mono (by decide)) T.g__law_cell T.F__law_cell.kp T.b__law_cell tk (pa_cons (pv 0) (pa_cons (pe_int) (pa_nil)))) (pa_nil))) (pe_op o_pow (pe_int) (pe_int)))))
        (pss_cons (ps_set (i := 2) sc_law.nd rfl (Or.inl rfl) (pe_lst (pa_nil)))
        (pss_cons (ps_set (i := 3) sc_law.nd rfl (Or.inl rfl) (pe_lst (pa_nil)))
        (pss_cons (ps_for po rfl (pi_range1 (by rfl) T.n_range (pa_cons (pe_callB (c_min rfl) (by rfl) T.n_min (by decide +kernel) (pa_cons (pe_callB (c_len) (by rfl) T.n_len (by decide +kernel) (pa_cons (pv 0) (pa_nil))) (pa_cons (pe_int) (pa_nil)))) (pa_nil))) (pg_name (i := 4) sc_law.nd rfl (Or.inl rfl))
        (pss_cons (ps_set (i := 5) sc_law.nd rfl (Or.inl rfl) (e_call (ok__law_intent T) (hr.mono (by decide)) T.g__law_intent T.F__law_intent.kp T.b__law_intent tk (pa_cons (pe_op o_add (e_call (ok__law_cell T) (hr.mono (by decide)) T.g__law_cell T.F__law_cell.kp T.b__law_cell tk (pa_cons (pv 0) (pa_cons (pv 4) (pa_nil)))) (pv 4)) (pa_cons (e_ix (pe_lst (pa_cons (pe_int) (pa_cons (pe_int) (pa_cons (pe_int) (pa_cons (pe_int) (pa_cons (pe_int) (pa_nil))))))) (pe_op o_mod (pe_callTy (c_int) (by rfl) T.n_int (by decide +kernel) (pa_cons (e_call (ok__law_cell T) (hr.mono (by decide)) T.g__law_cell T.F__law_cell.kp T.b__law_cell tk (pa_cons (pv 0) (pa_cons (pv 4) (pa_nil)))) (pa_nil))) (pe_int))) (pa_nil)))))
        (pss_one (ps_if (pt_cmpR (o_le hl) (pe_op o_add (pe_callB (c_len) (by rfl) T.n_len (by decide +kernel) (pa_cons (pv 3) (pa_nil))) (pe_op o_div (pe_op o_add (pe_callB (c_len) (by rfl) T.n_len (by decide +kernel) (pa_cons (pv 5) (pa_nil))) (pe_int)) (pe_int))) (pe_int) (nomark _)) (pss_cons (ps_set (i := 6) sc_law.nd rfl (Or.inl rfl) (e_call (ok__law_sectors T) (hr.mono (by decide)) T.g__law_sectors T.F__law_sectors.kp T.b__law_sectors tk (pa_cons (pv 5) (pa_cons (pe_op o_add (pe_callB (c_len) (by rfl) T.n_len (by decide +kernel) (pa_cons (pv 2) (pa_nil))) (pe_int)) (pa_cons (pv 1) (pa_nil))))))
        (pss_cons (ps_if (pt_cmpR (o_is) (pv 6) (pe_non) (nomark _)) (pss_one (ps_ret (pe_bl))) (pss_nil))
        (pss_cons (ps_expr (pe_bm PySem.F.plainAttrs_list PySem.F.slot_list_append PySem.F.type_list_append mt_append (pv 2) (pa_cons (pv 5) (pa_nil))))
        (pss_one (ps_set (i := 3) sc_law.nd rfl (Or.inl rfl) (pe_op o_add (pv 3) (pe_lc (own := [("_law_row_here", 10)]) (by rfl) sc_law.nd (pi_list (pv 6)) (blkOk_by (N := ["_law_script", "_law_generation", "_law_intents", "_law_sectors_here", "_law_k", "_law_intent_here", "_law_rows", "_law_older", "_law_passed", "_law_told", "_law_row_here"]) (sc := defScope s_law) (by decide +kernel)) (fun _ _ _ _ _ => pg_name (i := 10) sc_law.nd rfl (Or.inl rfl)) (fun _ _ _ _ _ => pts_nil) (fun _ _ _ _ _ => pe_callTy (c_list) (by rfl) T.n_list (by decide +kernel) (pa_cons (pv 10) (pa_nil)))))))))) (pss_nil)))))
        (pss_cons (ps_set (i := 7) sc_law.nd rfl (Or.inl rfl) (e_call (ok_record_sectors T) (hr.mono (by decide)) T.g_record_sectors T.F_record_sectors.kp T.b_record_sectors tk (pa_cons (pe_tup (pa_cons (pe_int) (pa_cons (pe_op o_pow (pe_int) (pe_int)) (pa_cons (pe_int) (pa_nil))))) (pa_cons (pe_op o_add (pe_callB (c_len) (by rfl) T.n_len (by decide +kernel) (pa_cons (pv 2) (pa_nil))) (pe_int)) (pa_cons (pe_op o_sub (pv 1) (pe_int)) (pa_nil))))))
        (pss_cons (ps_for po rfl (pi_range1 (by rfl) T.n_range (pa_cons (pe_op o_sub (pe_int) (pe_callB (c_len) (by rfl) T.n_len (by decide +kernel) (pa_cons (pv 3) (pa_nil)))) (pa_nil))) (pg_name (i := 4) sc_law.nd rfl (Or.inl rfl))
        (pss_one (ps_if (PW.pt (pw_and (pt_cmpR (o_eq hr.units) (pe_op o_mod (pe_callTy (c_int) (by rfl) T.n_int (by decide +kernel) (pa_cons (e_call (ok__law_cell T) (hr.mono (by decide)) T.g__law_cell T.F__law_cell.kp T.b__law_cell tk (pa_cons (pv 0) (pa_cons (pe_int) (pa_nil)))) (pa_nil))) (pe_int)) (pe_int) (nomark _)) (pw_and1 (pt_cmpR (o_eq hr.units) (pv 4) (pe_int) (nomark _))))) (pss_one (ps_expr (pe_bm PySem.F.plainAttrs_list PySem.F.slot_list_append PySem.F.type_list_append mt_append (pv 3) (pa_cons (pe_callTy (c_list) (by rfl) T.n_list (by decide +kernel) (pa_cons (e_ix (pv 7) (pe_int)) (pa_nil))) (pa_nil))))) (pss_one (ps_expr (pe_bm PySem.F.plainAttrs_list PySem.F.slot_list_append PySem.F.type_list_append mt_append (pv 3) (pa_cons (pe_op o_mul (pe_lst (pa_cons (pe_int) (pa_nil))) (pe_int)) (pa_nil))))))))
        (pss_cons (ps_setLc (i := 8) (own := [("_law_row_here", 10)]) (by rfl) sc_law.nd rfl rfl (sw_true rfl rfl rfl (by decide +kernel)) (pi_list (pv 3)) (blkOk_by (N := ["_law_script", "_law_generation", "_law_intents", "_law_sectors_here", "_law_k", "_law_intent_here", "_law_rows", "_law_older", "_law_passed", "_law_told", "_law_row_here"]) (sc := defScope s_law) (by decide +kernel)) (fun _ _ _ _ _ => pg_name (i := 10) sc_law.nd rfl (Or.inl rfl)) (fun _ _ _ _ _ => pts_nil) (fun _ _ _ _ _ => pe_callTy (c_list) (by rfl) T.n_list (by decide +kernel) (pa_cons (pv 10) (pa_nil))))
        (pss_cons (ps_set (i := 9) sc_law.nd rfl (Or.inl rfl) (e_call (ok_whole_records T) (hr.mono (by decide)) T.g_whole_records T.F_whole_records.kp T.b_whole_records tk (pa_cons (pv 3) (pa_cons (pv 1) (pa_nil)))))
        (pss_cons (ps_if (PW.pt (pw_or (pt_cmpR (o_ne hr.units) (pv 3) (pv 8) (nomark _)) (pw_or (pt_not (t_tru (pe_callB (c_isi .list) (by rfl) T.n_isinstance (by decide +kernel) (pa_cons (pv 9) (pa_cons (pe_bltn rfl T.n_list (by decide +kernel) rfl) (pa_nil)))))) (pw_or1 (pt_cmpR (o_ne hr.units) (pe_callB (c_len) (by rfl) T.n_len (by decide +kernel) (pa_cons (pv 9) (pa_nil))) (pe_callB (c_len) (by rfl) T.n_len (by decide +kernel) (pa_cons (pv 2) (pa_nil))) (nomark _)))))) (pss_one (ps_ret (pe_bl))) (pss_nil))
        (pss_cons (ps_for po rfl (pi_range1 (by rfl) T.n_range (pa_cons (pe_callB (c_len) (by rfl) T.n_len (by decide +kernel) (pa_cons (pv 2) (pa_nil))) (pa_nil))) (pg_name (i := 4) sc_law.nd rfl (Or.inl rfl))
        (pss_one (ps_if (PW.pt (pw_or (pt_not (t_tru (pe_callB (c_isi .tuple) (by rfl) T.n_isinstance (by decide +kernel) (pa_cons (e_ix (pv 9) (pv 4)) (pa_cons (pe_bltn rfl T.n_tuple (by decide +kernel) rfl) (pa_nil)))))) (pw_or1 (pt_cmpR (o_ne hr.units) (e_ix (pv 9) (pv 4)) (e_ix (pv 2) (pv 4)) (nomark _))))) (pss_one (ps_ret (pe_bl))) (pss_nil))))
        (pss_one (ps_ret (pe_bl))))))))))))
end
theorem all_mk {P : Program} {w : World} {K : PySem.W.Frag} {h : Heap} {mg : Str → Option Value} {fa : Addr} (X : K.In h) (G : h.Ns mainGlobals mg) (hfa : mg "law" = some (.ref fa))
    {f_is_word f_word_name f_sectors_of f_record_sectors f_whole_parts f_record_intent f_whole_records f_is_name f_check_words f_check_intent f__law_cell f__law_digits f__law_cells f__law_intent f__law_row f__law_sectors f_law : Addr}
    {C_BadName C_BadImage : Addr}
    {od_is_word an_is_word : Option Addr} {sl_is_word : Array (Option Value)} {oc_is_word kV_is_word dc_is_word pm_is_word cd_is_word ct_is_word : Value}
    {od_word_name an_word_name : Option Addr} {sl_word_name : Array (Option Value)} {oc_word_name kV_word_name dc_word_name pm_word_name cd_word_name ct_word_name : Value}
    {od_sectors_of an_sectors_of : Option Addr} {sl_sectors_of : Array (Option Value)} {oc_sectors_of kV_sectors_of dc_sectors_of pm_sectors_of cd_sectors_of ct_sectors_of : Value}
    {od_record_sectors an_record_sectors : Option Addr} {sl_record_sectors : Array (Option Value)} {oc_record_sectors kV_record_sectors dc_record_sectors pm_record_sectors cd_record_sectors ct_record_sectors : Value}
    {od_whole_parts an_whole_parts : Option Addr} {sl_whole_parts : Array (Option Value)} {oc_whole_parts kV_whole_parts dc_whole_parts pm_whole_parts cd_whole_parts ct_whole_parts : Value}
    {od_record_intent an_record_intent : Option Addr} {sl_record_intent : Array (Option Value)} {oc_record_intent kV_record_intent dc_record_intent pm_record_intent cd_record_intent ct_record_intent : Value}
    {od_whole_records an_whole_records : Option Addr} {sl_whole_records : Array (Option Value)} {oc_whole_records kV_whole_records dc_whole_records pm_whole_records cd_whole_records ct_whole_records : Value}
    {od_is_name an_is_name : Option Addr} {sl_is_name : Array (Option Value)} {oc_is_name kV_is_name dc_is_name pm_is_name cd_is_name ct_is_name : Value}
    {od_check_words an_check_words : Option Addr} {sl_check_words : Array (Option Value)} {oc_check_words kV_check_words dc_check_words pm_check_words cd_check_words ct_check_words : Value}
    {od_check_intent an_check_intent : Option Addr} {sl_check_intent : Array (Option Value)} {oc_check_intent kV_check_intent dc_check_intent pm_check_intent cd_check_intent ct_check_intent : Value}
    {od__law_cell an__law_cell : Option Addr} {sl__law_cell : Array (Option Value)} {oc__law_cell kV__law_cell dc__law_cell pm__law_cell cd__law_cell ct__law_cell : Value}
    {od__law_digits an__law_digits : Option Addr} {sl__law_digits : Array (Option Value)} {oc__law_digits kV__law_digits dc__law_digits pm__law_digits cd__law_digits ct__law_digits : Value}
    {od__law_cells an__law_cells : Option Addr} {sl__law_cells : Array (Option Value)} {oc__law_cells kV__law_cells dc__law_cells pm__law_cells cd__law_cells ct__law_cells : Value}
    {od__law_intent an__law_intent : Option Addr} {sl__law_intent : Array (Option Value)} {oc__law_intent kV__law_intent dc__law_intent pm__law_intent cd__law_intent ct__law_intent : Value}
    {od__law_row an__law_row : Option Addr} {sl__law_row : Array (Option Value)} {oc__law_row kV__law_row dc__law_row pm__law_row cd__law_row ct__law_row : Value}
    {od__law_sectors an__law_sectors : Option Addr} {sl__law_sectors : Array (Option Value)} {oc__law_sectors kV__law_sectors dc__law_sectors pm__law_sectors cd__law_sectors ct__law_sectors : Value}
    {od_law an_law : Option Addr} {sl_law : Array (Option Value)} {oc_law kV_law dc_law pm_law cd_law ct_law : Value}
    {t_ALPHABET : Tok}
    {t_BASE : Tok}
    {t_DIRECTORY : Tok}
    {t_FILE : Tok}
    {t_GROUP : Tok}
    {C_LENGTHS : Addr}
    {es_LENGTHS : Array DictEntry} {en_LENGTHS : Nat}
    {t_MAX_CELLS : Tok}
    {t_MAX_OWNER : Tok}
    {t_NAME_SIZE : Tok}
    {t_UNIT : Tok}
    (aC_BadImage : PySem.W.nsIn K mainGlobals "BadImage" = some (some (.ref C_BadImage)))
    (aC_BadName : PySem.W.nsIn K mainGlobals "BadName" = some (some (.ref C_BadName)))
    (a_is_word : PySem.W.nsIn K mainGlobals "is_word" = some (some (.ref f_is_word)))
    (l_is_word : K.lookup f_is_word = some ⟨oc_is_word, od_is_word, .func (PySem.W.fnOf "is_word" "is_word" (defArgs s_is_word) (defBody s_is_word) (defScope s_is_word) .none kV_is_word dc_is_word pm_is_word an_is_word cd_is_word ct_is_word), sl_is_word⟩)
    (c_is_word : PySem.W.codeIn K cd_is_word "is_word" = true)
    (k_is_word : PySem.W.keepIn K (.ref f_is_word) = true)
    (a_word_name : PySem.W.nsIn K mainGlobals "word_name" = some (some (.ref f_word_name)))
    (l_word_name : K.lookup f_word_name = some ⟨oc_word_name, od_word_name, .func (PySem.W.fnOf "word_name" "word_name" (defArgs s_word_name) (defBody s_word_name) (defScope s_word_name) .none kV_word_name dc_word_name pm_word_name an_word_name cd_word_name ct_word_name), sl_word_name⟩)
    (c_word_name : PySem.W.codeIn K cd_word_name "word_name" = true)
    (k_word_name : PySem.W.keepIn K (.ref f_word_name) = true)
    (a_sectors_of : PySem.W.nsIn K mainGlobals "sectors_of" = some (some (.ref f_sectors_of)))
    (l_sectors_of : K.lookup f_sectors_of = some ⟨oc_sectors_of, od_sectors_of, .func (PySem.W.fnOf "sectors_of" "sectors_of" (defArgs s_sectors_of) (defBody s_sectors_of) (defScope s_sectors_of) .none kV_sectors_of dc_sectors_of pm_sectors_of an_sectors_of cd_sectors_of ct_sectors_of), sl_sectors_of⟩)
    (c_sectors_of : PySem.W.codeIn K cd_sectors_of "sectors_of" = true)
    (k_sectors_of : PySem.W.keepIn K (.ref f_sectors_of) = true)
    (a_record_sectors : PySem.W.nsIn K mainGlobals "record_sectors" = some (some (.ref f_record_sectors)))
    (l_record_sectors : K.lookup f_record_sectors = some ⟨oc_record_sectors, od_record_sectors, .func (PySem.W.fnOf "record_sectors" "record_sectors" (defArgs s_record_sectors) (defBody s_record_sectors) (defScope s_record_sectors) .none kV_record_sectors dc_record_sectors pm_record_sectors an_record_sectors cd_record_sectors ct_record_sectors), sl_record_sectors⟩)
    (c_record_sectors : PySem.W.codeIn K cd_record_sectors "record_sectors" = true)
    (k_record_sectors : PySem.W.keepIn K (.ref f_record_sectors) = true)
    (a_whole_parts : PySem.W.nsIn K mainGlobals "whole_parts" = some (some (.ref f_whole_parts)))
    (l_whole_parts : K.lookup f_whole_parts = some ⟨oc_whole_parts, od_whole_parts, .func (PySem.W.fnOf "whole_parts" "whole_parts" (defArgs s_whole_parts) (defBody s_whole_parts) (defScope s_whole_parts) .none kV_whole_parts dc_whole_parts pm_whole_parts an_whole_parts cd_whole_parts ct_whole_parts), sl_whole_parts⟩)
    (c_whole_parts : PySem.W.codeIn K cd_whole_parts "whole_parts" = true)
    (k_whole_parts : PySem.W.keepIn K (.ref f_whole_parts) = true)
    (a_record_intent : PySem.W.nsIn K mainGlobals "record_intent" = some (some (.ref f_record_intent)))
    (l_record_intent : K.lookup f_record_intent = some ⟨oc_record_intent, od_record_intent, .func (PySem.W.fnOf "record_intent" "record_intent" (defArgs s_record_intent) (defBody s_record_intent) (defScope s_record_intent) .none kV_record_intent dc_record_intent pm_record_intent an_record_intent cd_record_intent ct_record_intent), sl_record_intent⟩)
    (c_record_intent : PySem.W.codeIn K cd_record_intent "record_intent" = true)
    (k_record_intent : PySem.W.keepIn K (.ref f_record_intent) = true)
    (a_whole_records : PySem.W.nsIn K mainGlobals "whole_records" = some (some (.ref f_whole_records)))
    (l_whole_records : K.lookup f_whole_records = some ⟨oc_whole_records, od_whole_records, .func (PySem.W.fnOf "whole_records" "whole_records" (defArgs s_whole_records) (defBody s_whole_records) (defScope s_whole_records) .none kV_whole_records dc_whole_records pm_whole_records an_whole_records cd_whole_records ct_whole_records), sl_whole_records⟩)
    (c_whole_records : PySem.W.codeIn K cd_whole_records "whole_records" = true)
    (k_whole_records : PySem.W.keepIn K (.ref f_whole_records) = true)
    (a_is_name : PySem.W.nsIn K mainGlobals "is_name" = some (some (.ref f_is_name)))
    (l_is_name : K.lookup f_is_name = some ⟨oc_is_name, od_is_name, .func (PySem.W.fnOf "is_name" "is_name" (defArgs s_is_name) (defBody s_is_name) (defScope s_is_name) .none kV_is_name dc_is_name pm_is_name an_is_name cd_is_name ct_is_name), sl_is_name⟩)
    (c_is_name : PySem.W.codeIn K cd_is_name "is_name" = true)
    (k_is_name : PySem.W.keepIn K (.ref f_is_name) = true)
    (a_check_words : PySem.W.nsIn K mainGlobals "check_words" = some (some (.ref f_check_words)))
    (l_check_words : K.lookup f_check_words = some ⟨oc_check_words, od_check_words, .func (PySem.W.fnOf "check_words" "check_words" (defArgs s_check_words) (defBody s_check_words) (defScope s_check_words) .none kV_check_words dc_check_words pm_check_words an_check_words cd_check_words ct_check_words), sl_check_words⟩)
    (c_check_words : PySem.W.codeIn K cd_check_words "check_words" = true)
    (k_check_words : PySem.W.keepIn K (.ref f_check_words) = true)
    (a_check_intent : PySem.W.nsIn K mainGlobals "check_intent" = some (some (.ref f_check_intent)))
    (l_check_intent : K.lookup f_check_intent = some ⟨oc_check_intent, od_check_intent, .func (PySem.W.fnOf "check_intent" "check_intent" (defArgs s_check_intent) (defBody s_check_intent) (defScope s_check_intent) .none kV_check_intent dc_check_intent pm_check_intent an_check_intent cd_check_intent ct_check_intent), sl_check_intent⟩)
    (c_check_intent : PySem.W.codeIn K cd_check_intent "check_intent" = true)
    (k_check_intent : PySem.W.keepIn K (.ref f_check_intent) = true)
    (a__law_cell : PySem.W.nsIn K mainGlobals "_law_cell" = some (some (.ref f__law_cell)))
    (l__law_cell : K.lookup f__law_cell = some ⟨oc__law_cell, od__law_cell, .func (PySem.W.fnOf "_law_cell" "_law_cell" (defArgs s__law_cell) (defBody s__law_cell) (defScope s__law_cell) .none kV__law_cell dc__law_cell pm__law_cell an__law_cell cd__law_cell ct__law_cell), sl__law_cell⟩)
    (c__law_cell : PySem.W.codeIn K cd__law_cell "_law_cell" = true)
    (k__law_cell : PySem.W.keepIn K (.ref f__law_cell) = true)
    (a__law_digits : PySem.W.nsIn K mainGlobals "_law_digits" = some (some (.ref f__law_digits)))
    (l__law_digits : K.lookup f__law_digits = some ⟨oc__law_digits, od__law_digits, .func (PySem.W.fnOf "_law_digits" "_law_digits" (defArgs s__law_digits) (defBody s__law_digits) (defScope s__law_digits) .none kV__law_digits dc__law_digits pm__law_digits an__law_digits cd__law_digits ct__law_digits), sl__law_digits⟩)
    (c__law_digits : PySem.W.codeIn K cd__law_digits "_law_digits" = true)
    (k__law_digits : PySem.W.keepIn K (.ref f__law_digits) = true)
    (a__law_cells : PySem.W.nsIn K mainGlobals "_law_cells" = some (some (.ref f__law_cells)))
    (l__law_cells : K.lookup f__law_cells = some ⟨oc__law_cells, od__law_cells, .func (PySem.W.fnOf "_law_cells" "_law_cells" (defArgs s__law_cells) (defBody s__law_cells) (defScope s__law_cells) .none kV__law_cells dc__law_cells pm__law_cells an__law_cells cd__law_cells ct__law_cells), sl__law_cells⟩)
    (c__law_cells : PySem.W.codeIn K cd__law_cells "_law_cells" = true)
    (k__law_cells : PySem.W.keepIn K (.ref f__law_cells) = true)
    (a__law_intent : PySem.W.nsIn K mainGlobals "_law_intent" = some (some (.ref f__law_intent)))
    (l__law_intent : K.lookup f__law_intent = some ⟨oc__law_intent, od__law_intent, .func (PySem.W.fnOf "_law_intent" "_law_intent" (defArgs s__law_intent) (defBody s__law_intent) (defScope s__law_intent) .none kV__law_intent dc__law_intent pm__law_intent an__law_intent cd__law_intent ct__law_intent), sl__law_intent⟩)
    (c__law_intent : PySem.W.codeIn K cd__law_intent "_law_intent" = true)
    (k__law_intent : PySem.W.keepIn K (.ref f__law_intent) = true)
    (a__law_row : PySem.W.nsIn K mainGlobals "_law_row" = some (some (.ref f__law_row)))
    (l__law_row : K.lookup f__law_row = some ⟨oc__law_row, od__law_row, .func (PySem.W.fnOf "_law_row" "_law_row" (defArgs s__law_row) (defBody s__law_row) (defScope s__law_row) .none kV__law_row dc__law_row pm__law_row an__law_row cd__law_row ct__law_row), sl__law_row⟩)
    (c__law_row : PySem.W.codeIn K cd__law_row "_law_row" = true)
    (k__law_row : PySem.W.keepIn K (.ref f__law_row) = true)
    (a__law_sectors : PySem.W.nsIn K mainGlobals "_law_sectors" = some (some (.ref f__law_sectors)))
    (l__law_sectors : K.lookup f__law_sectors = some ⟨oc__law_sectors, od__law_sectors, .func (PySem.W.fnOf "_law_sectors" "_law_sectors" (defArgs s__law_sectors) (defBody s__law_sectors) (defScope s__law_sectors) .none kV__law_sectors dc__law_sectors pm__law_sectors an__law_sectors cd__law_sectors ct__law_sectors), sl__law_sectors⟩)
    (c__law_sectors : PySem.W.codeIn K cd__law_sectors "_law_sectors" = true)
    (k__law_sectors : PySem.W.keepIn K (.ref f__law_sectors) = true)
    (a_law : PySem.W.nsIn K mainGlobals "law" = some (some (.ref f_law)))
    (l_law : K.lookup f_law = some ⟨oc_law, od_law, .func (PySem.W.fnOf "law" "law" (defArgs s_law) (defBody s_law) (defScope s_law) .none kV_law dc_law pm_law an_law cd_law ct_law), sl_law⟩)
    (c_law : PySem.W.codeIn K cd_law "law" = true)
    (k_law : PySem.W.keepIn K (.ref f_law) = true)
    (n_bool : PySem.W.nsIn K mainGlobals "bool" = some none)
    (n_int : PySem.W.nsIn K mainGlobals "int" = some none)
    (n_isinstance : PySem.W.nsIn K mainGlobals "isinstance" = some none)
    (n_len : PySem.W.nsIn K mainGlobals "len" = some none)
    (n_list : PySem.W.nsIn K mainGlobals "list" = some none)
    (n_min : PySem.W.nsIn K mainGlobals "min" = some none)
    (n_range : PySem.W.nsIn K mainGlobals "range" = some none)
    (n_reversed : PySem.W.nsIn K mainGlobals "reversed" = some none)
    (n_tuple : PySem.W.nsIn K mainGlobals "tuple" = some none)
    (kc_ALPHABET : PySem.W.nsIn K mainGlobals "ALPHABET" = some (some (.str "abcdefghijklmnopqrstuvwxyz0123456789._-" t_ALPHABET)))
    (kc_BASE : PySem.W.nsIn K mainGlobals "BASE" = some (some (.int 40 t_BASE)))
    (kc_DIRECTORY : PySem.W.nsIn K mainGlobals "DIRECTORY" = some (some (.int 2 t_DIRECTORY)))
    (kc_FILE : PySem.W.nsIn K mainGlobals "FILE" = some (some (.int 1 t_FILE)))
    (kc_GROUP : PySem.W.nsIn K mainGlobals "GROUP" = some (some (.int 4 t_GROUP)))
    (kc_LENGTHS : PySem.W.nsIn K mainGlobals "LENGTHS" = some (some (.ref C_LENGTHS)))
    (kl_LENGTHS : K.lookup C_LENGTHS = some ⟨.type "dict", none, .dict es_LENGTHS en_LENGTHS, #[]⟩)
    (ki_LENGTHS : IntsLit [(1, 6), (2, 5), (3, 4), (4, 4), (5, 6), (7, 4), (8, 7), (9, 4), (10, 3)] es_LENGTHS.toList)
    (kc_MAX_CELLS : PySem.W.nsIn K mainGlobals "MAX_CELLS" = some (some (.int 2048 t_MAX_CELLS)))
    (kc_MAX_OWNER : PySem.W.nsIn K mainGlobals "MAX_OWNER" = some (some (.int 255 t_MAX_OWNER)))
    (kc_NAME_SIZE : PySem.W.nsIn K mainGlobals "NAME_SIZE" = some (some (.int 11 t_NAME_SIZE)))
    (kc_UNIT : PySem.W.nsIn K mainGlobals "UNIT" = some (some (.int 32 t_UNIT)))
    (ex_BadImage : PySem.W.excIn K C_BadImage [.type "ValueError", .type "Exception", .type "BaseException", .type "object"] "ValueError.__new__" = true)
    (kc_BadImage : PySem.W.keepIn K (.ref C_BadImage) = true)
    (sb_BadImage : PySem.W.subIn K (.ref C_BadImage) (.type "BaseException") = some true)
    (ty_BadImage : PySem.W.typeIn K (.ref C_BadImage) = some (.type "type"))
    (ex_BadName : PySem.W.excIn K C_BadName [.type "ValueError", .type "Exception", .type "BaseException", .type "object"] "ValueError.__new__" = true)
    (kc_BadName : PySem.W.keepIn K (.ref C_BadName) = true)
    (sb_BadName : PySem.W.subIn K (.ref C_BadName) (.type "BaseException") = some true)
    (ty_BadName : PySem.W.typeIn K (.ref C_BadName) = some (.type "type"))
    (su_BadImage_BadName : PySem.W.subIn K (.ref C_BadImage) (.ref C_BadName) = some false)
    (su_BadName_BadName : PySem.W.subIn K (.ref C_BadName) (.ref C_BadName) = some true)
    (hx_BadName : PySem.W.hasDictIn K C_BadName = true) :
    ∃ fd : FuncData, (∀ (s : Shared) (v : Value), BindsTo s fd ⟨[v], []⟩ [("_law_script", v)]) ∧ ∀ base : Heap, K.In base → base.Ns mainGlobals mg → FnOk P w K mg base (L2.CX P w) 8 fa fd ["_law_script"] (spLaw K) := by
  have e := hfa.symm.trans (PySem.W.mg_of X G a_law)
  cases e
  have F_is_word := fun_mk (st := s_is_word) l_is_word c_is_word k_is_word
  have F_word_name := fun_mk (st := s_word_name) l_word_name c_word_name k_word_name
  have F_sectors_of := fun_mk (st := s_sectors_of) l_sectors_of c_sectors_of k_sectors_of
  have F_record_sectors := fun_mk (st := s_record_sectors) l_record_sectors c_record_sectors k_record_sectors
  have F_whole_parts := fun_mk (st := s_whole_parts) l_whole_parts c_whole_parts k_whole_parts
  have F_record_intent := fun_mk (st := s_record_intent) l_record_intent c_record_intent k_record_intent
  have F_whole_records := fun_mk (st := s_whole_records) l_whole_records c_whole_records k_whole_records
  have F_is_name := fun_mk (st := s_is_name) l_is_name c_is_name k_is_name
  have F_check_words := fun_mk (st := s_check_words) l_check_words c_check_words k_check_words
  have F_check_intent := fun_mk (st := s_check_intent) l_check_intent c_check_intent k_check_intent
  have F__law_cell := fun_mk (st := s__law_cell) l__law_cell c__law_cell k__law_cell
  have F__law_digits := fun_mk (st := s__law_digits) l__law_digits c__law_digits k__law_digits
  have F__law_cells := fun_mk (st := s__law_cells) l__law_cells c__law_cells k__law_cells
  have F__law_intent := fun_mk (st := s__law_intent) l__law_intent c__law_intent k__law_intent
  have F__law_row := fun_mk (st := s__law_row) l__law_row c__law_row k__law_row
  have F__law_sectors := fun_mk (st := s__law_sectors) l__law_sectors c__law_sectors k__law_sectors
  have F_law := fun_mk (st := s_law) l_law c_law k_law
  let A : Adr := {
    ex := { ({ } : Ex) with BadName := C_BadName, BadImage := C_BadImage, LENGTHS := C_LENGTHS },
    f_is_word := f_is_word, d_is_word := PySem.W.fnOf "is_word" "is_word" (defArgs s_is_word) (defBody s_is_word) (defScope s_is_word) .none kV_is_word dc_is_word pm_is_word an_is_word cd_is_word ct_is_word,
    f_word_name := f_word_name, d_word_name := PySem.W.fnOf "word_name" "word_name" (defArgs s_word_name) (defBody s_word_name) (defScope s_word_name) .none kV_word_name dc_word_name pm_word_name an_word_name cd_word_name ct_word_name,
    f_sectors_of := f_sectors_of, d_sectors_of := PySem.W.fnOf "sectors_of" "sectors_of" (defArgs s_sectors_of) (defBody s_sectors_of) (defScope s_sectors_of) .none kV_sectors_of dc_sectors_of pm_sectors_of an_sectors_of cd_sectors_of ct_sectors_of,
    f_record_sectors := f_record_sectors, d_record_sectors := PySem.W.fnOf "record_sectors" "record_sectors" (defArgs s_record_sectors) (defBody s_record_sectors) (defScope s_record_sectors) .none kV_record_sectors dc_record_sectors pm_record_sectors an_record_sectors cd_record_sectors ct_record_sectors,
    f_whole_parts := f_whole_parts, d_whole_parts := PySem.W.fnOf "whole_parts" "whole_parts" (defArgs s_whole_parts) (defBody s_whole_parts) (defScope s_whole_parts) .none kV_whole_parts dc_whole_parts pm_whole_parts an_whole_parts cd_whole_parts ct_whole_parts,
    f_record_intent := f_record_intent, d_record_intent := PySem.W.fnOf "record_intent" "record_intent" (defArgs s_record_intent) (defBody s_record_intent) (defScope s_record_intent) .none kV_record_intent dc_record_intent pm_record_intent an_record_intent cd_record_intent ct_record_intent,
    f_whole_records := f_whole_records, d_whole_records := PySem.W.fnOf "whole_records" "whole_records" (defArgs s_whole_records) (defBody s_whole_records) (defScope s_whole_records) .none kV_whole_records dc_whole_records pm_whole_records an_whole_records cd_whole_records ct_whole_records,
    f_is_name := f_is_name, d_is_name := PySem.W.fnOf "is_name" "is_name" (defArgs s_is_name) (defBody s_is_name) (defScope s_is_name) .none kV_is_name dc_is_name pm_is_name an_is_name cd_is_name ct_is_name,
    f_check_words := f_check_words, d_check_words := PySem.W.fnOf "check_words" "check_words" (defArgs s_check_words) (defBody s_check_words) (defScope s_check_words) .none kV_check_words dc_check_words pm_check_words an_check_words cd_check_words ct_check_words,
    f_check_intent := f_check_intent, d_check_intent := PySem.W.fnOf "check_intent" "check_intent" (defArgs s_check_intent) (defBody s_check_intent) (defScope s_check_intent) .none kV_check_intent dc_check_intent pm_check_intent an_check_intent cd_check_intent ct_check_intent,
    f__law_cell := f__law_cell, d__law_cell := PySem.W.fnOf "_law_cell" "_law_cell" (defArgs s__law_cell) (defBody s__law_cell) (defScope s__law_cell) .none kV__law_cell dc__law_cell pm__law_cell an__law_cell cd__law_cell ct__law_cell,
    f__law_digits := f__law_digits, d__law_digits := PySem.W.fnOf "_law_digits" "_law_digits" (defArgs s__law_digits) (defBody s__law_digits) (defScope s__law_digits) .none kV__law_digits dc__law_digits pm__law_digits an__law_digits cd__law_digits ct__law_digits,
    f__law_cells := f__law_cells, d__law_cells := PySem.W.fnOf "_law_cells" "_law_cells" (defArgs s__law_cells) (defBody s__law_cells) (defScope s__law_cells) .none kV__law_cells dc__law_cells pm__law_cells an__law_cells cd__law_cells ct__law_cells,
    f__law_intent := f__law_intent, d__law_intent := PySem.W.fnOf "_law_intent" "_law_intent" (defArgs s__law_intent) (defBody s__law_intent) (defScope s__law_intent) .none kV__law_intent dc__law_intent pm__law_intent an__law_intent cd__law_intent ct__law_intent,
    f__law_row := f__law_row, d__law_row := PySem.W.fnOf "_law_row" "_law_row" (defArgs s__law_row) (defBody s__law_row) (defScope s__law_row) .none kV__law_row dc__law_row pm__law_row an__law_row cd__law_row ct__law_row,
    f__law_sectors := f__law_sectors, d__law_sectors := PySem.W.fnOf "_law_sectors" "_law_sectors" (defArgs s__law_sectors) (defBody s__law_sectors) (defScope s__law_sectors) .none kV__law_sectors dc__law_sectors pm__law_sectors an__law_sectors cd__law_sectors ct__law_sectors,
    f_law := fa, d_law := PySem.W.fnOf "law" "law" (defArgs s_law) (defBody s_law) (defScope s_law) .none kV_law dc_law pm_law an_law cd_law ct_law }
  have T : Top K mg A := {
    F_is_word := F_is_word,
    b_is_word := F_is_word.binds (ps := ["value"]) fun _ _ _ _ _ _ us hl => match us, hl with | [_], _ => rfl,
    g_is_word := PySem.W.mg_of X G a_is_word,
    F_word_name := F_word_name,
    b_word_name := F_word_name.binds (ps := ["word"]) fun _ _ _ _ _ _ us hl => match us, hl with | [_], _ => rfl,
    g_word_name := PySem.W.mg_of X G a_word_name,
    F_sectors_of := F_sectors_of,
    b_sectors_of := F_sectors_of.binds (ps := ["intent"]) fun _ _ _ _ _ _ us hl => match us, hl with | [_], _ => rfl,
    g_sectors_of := PySem.W.mg_of X G a_sectors_of,
    F_record_sectors := F_record_sectors,
    b_record_sectors := F_record_sectors.binds (ps := ["intent", "record", "generation"]) fun _ _ _ _ _ _ us hl => match us, hl with | [_, _, _], _ => rfl,
    g_record_sectors := PySem.W.mg_of X G a_record_sectors,
    F_whole_parts := F_whole_parts,
    b_whole_parts := F_whole_parts.binds (ps := ["sectors", "at", "record", "generation"]) fun _ _ _ _ _ _ us hl => match us, hl with | [_, _, _, _], _ => rfl,
    g_whole_parts := PySem.W.mg_of X G a_whole_parts,
    F_record_intent := F_record_intent,
    b_record_intent := F_record_intent.binds (ps := ["sectors"]) fun _ _ _ _ _ _ us hl => match us, hl with | [_], _ => rfl,
    g_record_intent := PySem.W.mg_of X G a_record_intent,
    F_whole_records := F_whole_records,
    b_whole_records := F_whole_records.binds (ps := ["sectors", "generation"]) fun _ _ _ _ _ _ us hl => match us, hl with | [_, _], _ => rfl,
    g_whole_records := PySem.W.mg_of X G a_whole_records,
    F_is_name := F_is_name,
    b_is_name := F_is_name.binds (ps := ["word"]) fun _ _ _ _ _ _ us hl => match us, hl with | [_], _ => rfl,
    g_is_name := PySem.W.mg_of X G a_is_name,
    F_check_words := F_check_words,
    b_check_words := F_check_words.binds (ps := ["words"]) fun _ _ _ _ _ _ us hl => match us, hl with | [_], _ => rfl,
    g_check_words := PySem.W.mg_of X G a_check_words,
    F_check_intent := F_check_intent,
    b_check_intent := F_check_intent.binds (ps := ["words"]) fun _ _ _ _ _ _ us hl => match us, hl with | [_], _ => rfl,
    g_check_intent := PySem.W.mg_of X G a_check_intent,
    F__law_cell := F__law_cell,
    b__law_cell := F__law_cell.binds (ps := ["_law_script", "_law_k"]) fun _ _ _ _ _ _ us hl => match us, hl with | [_, _], _ => rfl,
    g__law_cell := PySem.W.mg_of X G a__law_cell,
    F__law_digits := F__law_digits,
    b__law_digits := F__law_digits.binds (ps := ["_law_cell_here", "_law_bases"]) fun _ _ _ _ _ _ us hl => match us, hl with | [_, _], _ => rfl,
    g__law_digits := PySem.W.mg_of X G a__law_digits,
    F__law_cells := F__law_cells,
    b__law_cells := F__law_cells.binds (ps := ["_law_row_here", "_law_size"]) fun _ _ _ _ _ _ us hl => match us, hl with | [_, _], _ => rfl,
    g__law_cells := PySem.W.mg_of X G a__law_cells,
    F__law_intent := F__law_intent,
    b__law_intent := F__law_intent.binds (ps := ["_law_cell_here", "_law_most"]) fun _ _ _ _ _ _ us hl => match us, hl with | [_, _], _ => rfl,
    g__law_intent := PySem.W.mg_of X G a__law_intent,
    F__law_row := F__law_row,
    b__law_row := F__law_row.binds (ps := ["_law_sector", "_law_record", "_law_part", "_law_parts", "_law_generation"]) fun _ _ _ _ _ _ us hl => match us, hl with | [_, _, _, _, _], _ => rfl,
    g__law_row := PySem.W.mg_of X G a__law_row,
    F__law_sectors := F__law_sectors,
    b__law_sectors := F__law_sectors.binds (ps := ["_law_intent_here", "_law_record", "_law_generation"]) fun _ _ _ _ _ _ us hl => match us, hl with | [_, _, _], _ => rfl,
    g__law_sectors := PySem.W.mg_of X G a__law_sectors,
    F_law := F_law,
    b_law := F_law.binds (ps := ["_law_script"]) fun _ _ _ _ _ _ us hl => match us, hl with | [_], _ => rfl,
    g_law := PySem.W.mg_of X G a_law,
    n_bool := PySem.W.mg_none_of X G n_bool,
    n_int := PySem.W.mg_none_of X G n_int,
    n_isinstance := PySem.W.mg_none_of X G n_isinstance,
    n_len := PySem.W.mg_none_of X G n_len,
    n_list := PySem.W.mg_none_of X G n_list,
    n_min := PySem.W.mg_none_of X G n_min,
    n_range := PySem.W.mg_none_of X G n_range,
    n_reversed := PySem.W.mg_none_of X G n_reversed,
    n_tuple := PySem.W.mg_none_of X G n_tuple,
    k_ALPHABET := ⟨_, PySem.W.mg_of X G kc_ALPHABET⟩,
    k_BASE := ⟨_, PySem.W.mg_of X G kc_BASE⟩,
    k_DIRECTORY := ⟨_, PySem.W.mg_of X G kc_DIRECTORY⟩,
    k_FILE := ⟨_, PySem.W.mg_of X G kc_FILE⟩,
    k_GROUP := ⟨_, PySem.W.mg_of X G kc_GROUP⟩,
    k_LENGTHS := ⟨PySem.W.mg_of X G kc_LENGTHS, _, _, kl_LENGTHS, ki_LENGTHS⟩,
    k_MAX_CELLS := ⟨_, PySem.W.mg_of X G kc_MAX_CELLS⟩,
    k_MAX_OWNER := ⟨_, PySem.W.mg_of X G kc_MAX_OWNER⟩,
    k_NAME_SIZE := ⟨_, PySem.W.mg_of X G kc_NAME_SIZE⟩,
    k_UNIT := ⟨_, PySem.W.mg_of X G kc_UNIT⟩,
    x_BadImage := ⟨ex_BadImage, PySem.W.mg_of X G aC_BadImage, kc_BadImage, sb_BadImage, ty_BadImage⟩,
    x_BadName := ⟨ex_BadName, PySem.W.mg_of X G aC_BadName, kc_BadName, sb_BadName, ty_BadName⟩,
    fa := { fa0 := trivial, te_BadName_BadName := PySem.W.exm_ref sb_BadName hx_BadName ty_BadName su_BadName_BadName, te_BadImage_BadName := PySem.W.exm_ref sb_BadName hx_BadName ty_BadName su_BadImage_BadName } }
  exact ⟨_, fun s v => .of_eq rfl, fun base _ _ => ok_law (A := A) T⟩
theorem walk {l : PySem.W.OpenLaw} {q : Program} {loose : List Str} {XP : (Str → Option Value) → Heap → Prop} {YP : World → Heap → Prop} {d : DefRec} {K : Params → PySem.W.Frag} (hn : l.most = some 63) (hdf : d.params.defaults = [])
    (hY : ∀ (w : World) (h : Heap), YP w h → (K w.params).In h)
    (F : ∀ (w : World) (mg : Str → Option Value) (fa : Addr) (h : Heap), (K w.params).In h → h.Ns mainGlobals mg → mg d.name = some (.ref fa) →
      ∃ fd : FuncData, (∀ (s : Shared) (u : Value), BindsTo s fd ⟨[u], []⟩ [("_law_script", u)]) ∧ ∀ base : Heap, (K w.params).In base → base.Ns mainGlobals mg → FnOk l.prog w (K w.params) mg base (L2.CX l.prog w) 8 fa fd ["_law_script"] (spLaw (K w.params))) :
    PySem.W.WalkO q loose XP YP l.row.toRowW d [] (fun f vs => PySem.call f vs) :=
  L2.walk_of (n := 63) (k := 8) (x := "_law_script") (CX := fun w => L2.CX l.prog w) (sp := fun w => spLaw (K w.params)) hn (by decide) hdf ⟨rfl, by decide, by decide⟩ hY F (fun _ _ a ns hl _ hS => ⟨_, rfl, a, ns, rfl, hS, hl, fun _ => rfl⟩) fun _ _ _ _ _ ⟨_, _, _, _, _, _, _, _, _, _, _, _, z⟩ => z
end Lam
open PySem PySem.W PyProof.Rows
set_option maxRecDepth 100000 in
set_option maxHeartbeats 0 in
theorem PySem.Challenge.cw_laminae_k67_records_and_sectors_holds : PySem.Challenge.rw_laminae_k67_records_and_sectors.Holds := by
  w_on; o_law; k_head; (case hw => w_witness2)
  k_fill
  refine Lam.walk (l := PySem.Challenge.rw_laminae_k67_records_and_sectors) rfl rfl (fun w h Y => PySem.W.kIn_of Y) ?F
  case F =>
    intro w mg fa h KX G hmg
    refine' Lam.all_mk KX G hmg ?aC_BadImage ?aC_BadName ?a_is_word ?l_is_word ?c_is_word ?k_is_word ?a_word_name ?l_word_name ?c_word_name ?k_word_name ?a_sectors_of ?l_sectors_of ?c_sectors_of ?k_sectors_of ?a_record_sectors ?l_record_sectors ?c_record_sectors ?k_record_sectors ?a_whole_parts ?l_whole_parts ?c_whole_parts ?k_whole_parts ?a_record_intent ?l_record_intent ?c_record_intent ?k_record_intent ?a_whole_records ?l_whole_records ?c_whole_records ?k_whole_records ?a_is_name ?l_is_name ?c_is_name ?k_is_name ?a_check_words ?l_check_words ?c_check_words ?k_check_words ?a_check_intent ?l_check_intent ?c_check_intent ?k_check_intent ?a__law_cell ?l__law_cell ?c__law_cell ?k__law_cell ?a__law_digits ?l__law_digits ?c__law_digits ?k__law_digits ?a__law_cells ?l__law_cells ?c__law_cells ?k__law_cells ?a__law_intent ?l__law_intent ?c__law_intent ?k__law_intent ?a__law_row ?l__law_row ?c__law_row ?k__law_row ?a__law_sectors ?l__law_sectors ?c__law_sectors ?k__law_sectors ?a_law ?l_law ?c_law ?k_law ?n_bool ?n_int ?n_isinstance ?n_len ?n_list ?n_min ?n_range ?n_reversed ?n_tuple ?kc_ALPHABET ?kc_BASE ?kc_DIRECTORY ?kc_FILE ?kc_GROUP ?kc_LENGTHS ?kl_LENGTHS ?ki_LENGTHS ?kc_MAX_CELLS ?kc_MAX_OWNER ?kc_NAME_SIZE ?kc_UNIT ?ex_BadImage ?kc_BadImage ?sb_BadImage ?ty_BadImage ?ex_BadName ?kc_BadName ?sb_BadName ?ty_BadName ?su_BadImage_BadName ?su_BadName_BadName ?hx_BadName
    (case aC_BadImage => k_is); (case aC_BadName => k_is); (case a_is_word => k_is); (case l_is_word => k_is); (case c_is_word => k_is); (case k_is_word => k_is)
    (case a_word_name => k_is); (case l_word_name => k_is); (case c_word_name => k_is); (case k_word_name => k_is); (case a_sectors_of => k_is); (case l_sectors_of => k_is)
    (case c_sectors_of => k_is); (case k_sectors_of => k_is); (case a_record_sectors => k_is); (case l_record_sectors => k_is); (case c_record_sectors => k_is); (case k_record_sectors => k_is)
    (case a_whole_parts => k_is); (case l_whole_parts => k_is); (case c_whole_parts => k_is); (case k_whole_parts => k_is); (case a_record_intent => k_is); (case l_record_intent => k_is)
    (case c_record_intent => k_is); (case k_record_intent => k_is); (case a_whole_records => k_is); (case l_whole_records => k_is); (case c_whole_records => k_is); (case k_whole_records => k_is)
    (case a_is_name => k_is); (case l_is_name => k_is); (case c_is_name => k_is); (case k_is_name => k_is); (case a_check_words => k_is); (case l_check_words => k_is)
    (case c_check_words => k_is); (case k_check_words => k_is); (case a_check_intent => k_is); (case l_check_intent => k_is); (case c_check_intent => k_is); (case k_check_intent => k_is)
    (case a__law_cell => k_is); (case l__law_cell => k_is); (case c__law_cell => k_is); (case k__law_cell => k_is); (case a__law_digits => k_is); (case l__law_digits => k_is)
    (case c__law_digits => k_is); (case k__law_digits => k_is); (case a__law_cells => k_is); (case l__law_cells => k_is); (case c__law_cells => k_is); (case k__law_cells => k_is)
    (case a__law_intent => k_is); (case l__law_intent => k_is); (case c__law_intent => k_is); (case k__law_intent => k_is); (case a__law_row => k_is); (case l__law_row => k_is)
    (case c__law_row => k_is); (case k__law_row => k_is); (case a__law_sectors => k_is); (case l__law_sectors => k_is); (case c__law_sectors => k_is); (case k__law_sectors => k_is)
    (case a_law => k_is); (case l_law => k_is); (case c_law => k_is); (case k_law => k_is); (case n_bool => k_is); (case n_int => k_is)
    (case n_isinstance => k_is); (case n_len => k_is); (case n_list => k_is); (case n_min => k_is); (case n_range => k_is); (case n_reversed => k_is)
    (case n_tuple => k_is); (case kc_ALPHABET => k_is); (case kc_BASE => k_is); (case kc_DIRECTORY => k_is); (case kc_FILE => k_is); (case kc_GROUP => k_is)
    (case kc_LENGTHS => k_is); (case kl_LENGTHS => k_is); (case ki_LENGTHS => exact ⟨⟨⟨_, rfl⟩, rfl, ⟨_, rfl⟩⟩, ⟨⟨⟨_, rfl⟩, rfl, ⟨_, rfl⟩⟩, ⟨⟨⟨_, rfl⟩, rfl, ⟨_, rfl⟩⟩, ⟨⟨⟨_, rfl⟩, rfl, ⟨_, rfl⟩⟩, ⟨⟨⟨_, rfl⟩, rfl, ⟨_, rfl⟩⟩, ⟨⟨⟨_, rfl⟩, rfl, ⟨_, rfl⟩⟩, ⟨⟨⟨_, rfl⟩, rfl, ⟨_, rfl⟩⟩, ⟨⟨⟨_, rfl⟩, rfl, ⟨_, rfl⟩⟩, ⟨⟨⟨_, rfl⟩, rfl, ⟨_, rfl⟩⟩, trivial⟩⟩⟩⟩⟩⟩⟩⟩⟩); (case kc_MAX_CELLS => k_is); (case kc_MAX_OWNER => k_is); (case kc_NAME_SIZE => k_is)
    (case kc_UNIT => k_is); (case ex_BadImage => k_exc); (case kc_BadImage => k_is); (case sb_BadImage => k_is); (case ty_BadImage => k_is); (case ex_BadName => k_exc)
    (case kc_BadName => k_is); (case sb_BadName => k_is); (case ty_BadName => k_is); (case su_BadImage_BadName => k_is); (case su_BadName_BadName => k_is); (case hx_BadName => k_is)
#print axioms PySem.Challenge.cw_laminae_k67_records_and_sectors_holds
