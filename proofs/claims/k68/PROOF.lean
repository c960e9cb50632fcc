import PyProof.Rows.All
import Wide.All
import OpenK.AllK
import Wide.FinOn
import HandS.ForMost
import HandS.ForExc
import HandS.TupLe
import HandS.IsInst
import HandS.Small
import HandS.Wide
import HandS.ExcIs
import HandS.DictComp
import HandS.Rev
import HandS.Codes
import HandS.HotCalls
import HandS.SortInts
import KE.Datum
import PySem.Challenge.RW_laminae_k68_whole_torn_logs
set_option Elab.async false
set_option linter.all false
set_option maxRecDepth 100000
set_option maxHeartbeats 4000000
namespace U
open PySem PySem.Spec PyProof.Rows L2
section weaken
variable {X : Cx}
theorem orR {f : Value → Value → Sem Value} {r r' : R2} (h : OpR X f r) (g : OpR X f r') : OpR X f (fun x y H Q => r x y H Q ∨ r' x y H Q) :=
  fun pins s σ H x y v u Q I rx ry q => q.elim (h pins s σ H x y v u Q I rx ry) (g pins s σ H x y v u Q I rx ry)
theorem wR {f : Value → Value → Sem Value} {r r' : R2} (h : OpR X f r) (k : ∀ x y H Q, r' x y H Q → r x y H Q) : OpR X f r' :=
  fun pins s σ H x y v u Q I rx ry q => h pins s σ H x y v u Q I rx ry (k _ _ _ _ q)
theorem wC {f : Value} {r r' : List V → Hp → VK → Prop} (h : CallR X f r) (k : ∀ xs H Q, r' xs H Q → r xs H Q) : CallR X f r' :=
  fun pins s σ H xs us Q I rx q => h pins s σ H xs us Q I rx (k _ _ _ q)
theorem orC {f : Value} {r r' : List V → Hp → VK → Prop} (h : CallR X f r) (g : CallR X f r') : CallR X f (fun xs H Q => r xs H Q ∨ r' xs H Q) :=
  fun pins s σ H xs us Q I rx q => q.elim (h pins s σ H xs us Q I rx) (g pins s σ H xs us Q I rx)
end weaken
def tCut (t u : TS) : TS := C8.tCut t u
theorem pss_cut {X : Cx} {st : Stmt} {rest : List Stmt} {t u : TS} (h1 : PS X st t) (h2 : PSs X rest u) : PSs X (st :: rest) (tCut t u) := C8.pss_cut h1 h2
section ops
variable {X : Cx}
/-- text times number -/
theorem op_strmul : OpR X (binaryOp .Mult) (fun x y H Q => ∃ (z : Str) (n : Int), x = .str z ∧ y = .int n ∧ MulOk z n ∧ Q (.str (Txt.mul z n)) H) := by
  intro pins s σ H x y v u Q I rx ry h
  obtain ⟨z, n, rfl, rfl, ok, q⟩ := h
  obtain ⟨t, rfl⟩ := rx
  obtain ⟨t', rfl⟩ := ry
  exact SB.mul ok fun t1 k => ⟨.str (Txt.mul z n), H, I.tok _, ⟨_, rfl⟩, q⟩
def uAdd (K : PySem.W.Frag) : R2 := fun x y H Q => match x, y with
  | .int i, .int j => Q (.int (i + j)) H
  | .str i, .str j => i.length + j.length ≤ sizeLine ∧ Q (.str (i ++ j)) H
  | .ref a, .ref b => rCat (.ref a) (.ref b) H Q ∨ rCatT K (.ref a) (.ref b) H Q
  | _, _ => False
theorem o_add : OpR X (binaryOp .Add) (uAdd X.K) := by
  refine wR (orR op_add (orR op_add_str (orR op_cat op_catT))) fun x y H Q q => ?_
  unfold uAdd at q
  split at q
  · exact .inl ⟨_, _, rfl, rfl, q⟩
  · exact .inr (.inl ⟨_, _, rfl, rfl, q⟩)
  · exact .inr (.inr q)
  · exact q.elim
def uSub : R2 := fun x y H Q => match x, y with
  | .int i, .int j => Q (.int (i - j)) H
  | _, _ => False
theorem o_sub : OpR X (binaryOp .Sub) uSub := by
  refine wR op_sub fun x y H Q q => ?_
  unfold uSub at q
  split at q
  · exact ⟨_, _, rfl, rfl, q⟩
  · exact q.elim
def uMul : R2 := fun x y H Q => match x, y with
  | .int i, .int j => (CMul i j ∨ CMulW i j) ∧ Q (.int (i * j)) H
  | .str z, .int n => MulOk z n ∧ Q (.str (Txt.mul z n)) H
  | .ref a, .int n => rRep (.ref a) (.int n) H Q
  | _, _ => False
theorem o_mul : OpR X (binaryOp .Mult) uMul := by
  refine wR (orR op_mul (orR op_mulW (orR op_strmul op_rep))) fun x y H Q q => ?_
  unfold uMul at q
  split at q
  · obtain ⟨c | c, q⟩ := q
    · exact .inl ⟨_, _, rfl, rfl, c, q⟩
    · exact .inr (.inl ⟨_, _, rfl, rfl, c, q⟩)
  · exact .inr (.inr (.inl ⟨_, _, rfl, rfl, q⟩))
  · exact .inr (.inr (.inr q))
  · exact q.elim
def uDiv : R2 := fun x y H Q => match x, y with
  | .int i, .int j => (0 < j ∧ j < 2 ^ 200) ∧ Q (.int (i / j)) H
  | _, _ => False
theorem o_div : OpR X (binaryOp .FloorDiv) uDiv := by
  refine wR op_fdivW fun x y H Q q => ?_
  unfold uDiv at q
  split at q
  · obtain ⟨⟨c1, c2⟩, q⟩ := q
    exact ⟨_, _, rfl, rfl, wide_div (b := 200) c1 (by omega) (by decide) (by decide), q⟩
  · exact q.elim
def uMod : R2 := fun x y H Q => match x, y with
  | .int i, .int j => 0 < j ∧ Q (.int (i % j)) H
  | _, _ => False
theorem o_mod : OpR X (binaryOp .Mod) uMod := by
  refine wR op_mod fun x y H Q q => ?_
  unfold uMod at q
  split at q
  · exact ⟨_, _, rfl, rfl, q⟩
  · exact q.elim
def uPow : R2 := fun x y H Q => match x, y with
  | .int i, .int j => CPow i j ∧ Q (.int (i ^ j.toNat)) H
  | _, _ => False
theorem o_pow : OpR X (binaryOp .Pow) uPow := by
  refine wR op_pow fun x y H Q q => ?_
  unfold uPow at q
  split at q
  · exact ⟨_, _, rfl, rfl, q⟩
  · exact q.elim
def uNeg : V → Hp → VK → Prop := fun x H Q => match x with
  | .int i => Q (.int (-i)) H
  | _ => False
/-- == of data without dicts -/
def rEqP (K : PySem.W.Frag) : R2 := fun x y H Q => ∃ d e, Dp K H x d ∧ Dp K H y e ∧ (d.plain = true ∧ d.depth ≤ 60) ∧ e.plain = true ∧ Q (.bl (PyData.eqv d e)) H
def rNeP (K : PySem.W.Frag) : R2 := fun x y H Q => ∃ d e, Dp K H x d ∧ Dp K H y e ∧ (d.plain = true ∧ d.depth ≤ 60) ∧ e.plain = true ∧ Q (.bl (!PyData.eqv d e)) H
theorem op_eqP (hu : X.A.units + 64 < cLine) : OpR X (compareOp .Eq) (rEqP X.K) := by
  intro pins s σ H x y v u Q I rx ry h
  obtain ⟨d, e, hd, he, ⟨p1, dp⟩, p2, q⟩ := h
  obtain ⟨as, r1⟩ := Dp.reads I d x v hd rx
  obtain ⟨bs, r2⟩ := Dp.reads I e y u he ry
  exact PySem.SeqAt.eq_plain r1 r2 p1 p2 (by have := Nat.min_le_left d.depth e.depth; omega) ⟨.bl _, H, I, rfl, q⟩
theorem op_neP (hu : X.A.units + 64 < cLine) : OpR X (compareOp .NotEq) (rNeP X.K) := by
  intro pins s σ H x y v u Q I rx ry h
  obtain ⟨d, e, hd, he, ⟨p1, dp⟩, p2, q⟩ := h
  obtain ⟨as, r1⟩ := Dp.reads I d x v hd rx
  obtain ⟨bs, r2⟩ := Dp.reads I e y u he ry
  exact PySem.SeqAt.ne_plain r1 r2 p1 p2 (by have := Nat.min_le_left d.depth e.depth; omega) ⟨.bl _, H, I, rfl, q⟩
theorem d_int (i j : Int) : decide (V.int i = V.int j) = decide (i = j) := decide_eq_decide.mpr ⟨fun h => V.int.inj h, fun h => h ▸ rfl⟩
theorem d_str (i j : Str) : decide (V.str i = V.str j) = decide (i = j) := decide_eq_decide.mpr ⟨fun h => V.str.inj h, fun h => h ▸ rfl⟩
theorem d_bl (i j : Bool) : decide (V.bl i = V.bl j) = decide (i = j) := decide_eq_decide.mpr ⟨fun h => V.bl.inj h, fun h => h ▸ rfl⟩
/-- the same value, of two scalars -/
def sameS : V → V → Bool
  | .non, .non => true
  | .int i, .int j => decide (i = j)
  | .str i, .str j => decide (i = j)
  | .bl i, .bl j => decide (i = j)
  | .byt i, .byt j => decide (i = j)
  | _, _ => false
theorem sameS_eq {x y : V} (h : scal x y = true) : decide (x = y) = sameS x y := by
  cases x <;> cases y <;> first
    | (cases h; done)
    | exact d_int _ _
    | exact d_str _ _
    | exact d_bl _ _
    | rfl
    | (exact decide_eq_decide.mpr ⟨fun h => V.byt.inj h, fun h => h ▸ rfl⟩)
    | (exact decide_eq_false (fun q => nomatch q))
def uEq (K : PySem.W.Frag) : R2 := fun x y H Q => match x, y with
  | .int i, .int j => Q (.bl (decide (i = j))) H
  | .str i, .str j => Q (.bl (decide (i = j))) H
  | .bl i, .bl j => Q (.bl (decide (i = j))) H
  | x, y => (scal x y = true ∧ Q (.bl (sameS x y)) H) ∨ rEqP K x y H Q
theorem o_eq (hu : X.A.units + 64 < cLine) : OpR X (compareOp .Eq) (uEq X.K) := by
  refine wR (orR op_eq (op_eqP hu)) fun x y H Q q => ?_
  unfold uEq at q
  split at q
  · exact .inl ⟨rfl, (d_int _ _).symm ▸ q⟩
  · exact .inl ⟨rfl, (d_str _ _).symm ▸ q⟩
  · exact .inl ⟨rfl, (d_bl _ _).symm ▸ q⟩
  · rcases q with ⟨h, q⟩ | q
    · exact .inl ⟨h, (sameS_eq h).symm ▸ q⟩
    · exact .inr q
def uNe (K : PySem.W.Frag) : R2 := fun x y H Q => match x, y with
  | .int i, .int j => Q (.bl (!decide (i = j))) H
  | .str i, .str j => Q (.bl (!decide (i = j))) H
  | .bl i, .bl j => Q (.bl (!decide (i = j))) H
  | x, y => (scal x y = true ∧ Q (.bl (!sameS x y)) H) ∨ rNeP K x y H Q
theorem o_ne (hu : X.A.units + 64 < cLine) : OpR X (compareOp .NotEq) (uNe X.K) := by
  refine wR (orR op_ne (op_neP hu)) fun x y H Q q => ?_
  unfold uNe at q
  split at q
  · exact .inl ⟨rfl, (d_int _ _).symm ▸ q⟩
  · exact .inl ⟨rfl, (d_str _ _).symm ▸ q⟩
  · exact .inl ⟨rfl, (d_bl _ _).symm ▸ q⟩
  · rcases q with ⟨h, q⟩ | q
    · exact .inl ⟨h, (sameS_eq h).symm ▸ q⟩
    · exact .inr q
/-- tuples of ints in their order -/
theorem lexAt_eq (ns ms : List Int) (op : Int → Int → Bool) (z : Bool) (f : List Int → List Int → Bool)
    (h0 : ∀ i, i = ns.length ∨ i = ms.length → i ≤ ns.length → i ≤ ms.length → f (ns.drop i) (ms.drop i) = z)
    (h1 : ∀ x xs y ys, f (x :: xs) (y :: ys) = if x = y then f xs ys else op x y) :
    ∀ k i, i + k = min ns.length ms.length → Ob.lexAt (fun j => decide (ns.getD j 0 = ms.getD j 0)) (fun j => op (ns.getD j 0) (ms.getD j 0)) z i k = f (ns.drop i) (ms.drop i)
  | 0, i, h => by
    rw [Ob.lexAt_zero, h0 i (by omega) (by omega) (by omega)]
  | k + 1, i, h => by
    have a : i < ns.length := by omega
    have b : i < ms.length := by omega
    rw [Ob.lexAt_succ, List.drop_eq_getElem_cons a, List.drop_eq_getElem_cons b, h1, lexAt_eq ns ms op z f h0 h1 k (i + 1) (by omega)]
    simp only [List.getD_eq_getElem?_getD, List.getElem?_eq_getElem a, List.getElem?_eq_getElem b, Option.getD_some, decide_eq_true_eq]
def lexLe (a b : List Int) : Bool := !HT.lexLt b a
theorem lexLe_cons (x y : Int) (xs ys : List Int) : lexLe (x :: xs) (y :: ys) = if x = y then lexLe xs ys else decide (x ≤ y) := by
  unfold lexLe
  rw [HT.lexLt_cons]
  by_cases h : x = y
  · rw [if_pos h, if_pos h.symm]
  · rw [if_neg h, if_neg (fun e => h e.symm), ← decide_not]
    exact decide_eq_decide.mpr (by omega)
theorem lexLe_end (ns ms : List Int) (i : Nat) (h : i = ns.length ∨ i = ms.length) (h1 : i ≤ ns.length) (h2 : i ≤ ms.length) : lexLe (ns.drop i) (ms.drop i) = decide (ns.length ≤ ms.length) := by
  unfold lexLe
  by_cases a : i = ns.length
  · have e : ns.drop i = [] := List.drop_eq_nil_of_le (by omega)
    rw [e, decide_eq_true (by omega)]
    cases ms.drop i <;> rfl
  · have e : ms.drop i = [] := List.drop_eq_nil_of_le (by omega)
    rw [e, decide_eq_false (by omega)]
    cases e2 : ns.drop i with
    | nil => exact absurd (List.drop_eq_nil_iff.mp e2) (by omega)
    | cons x r => rfl
theorem lexAt_le (ns ms : List Int) : Ob.lexAt (fun j => decide (ns.getD j 0 = ms.getD j 0)) (fun j => decide (ns.getD j 0 ≤ ms.getD j 0)) (decide (ns.length ≤ ms.length)) 0 (min ns.length ms.length) = lexLe ns ms :=
  lexAt_eq ns ms (fun x y => decide (x ≤ y)) _ lexLe (fun i h a b => lexLe_end ns ms i h a b) (fun x xs y ys => lexLe_cons x y xs ys) _ 0 (by omega)
def lexGe (a b : List Int) : Bool := !HT.lexLt a b
theorem lexGe_le (a b : List Int) : lexGe a b = lexLe b a := rfl
theorem lexAt_ge (ns ms : List Int) : Ob.lexAt (fun j => decide (ns.getD j 0 = ms.getD j 0)) (fun j => decide (ns.getD j 0 ≥ ms.getD j 0)) (decide (ns.length ≥ ms.length)) 0 (min ns.length ms.length) = lexGe ns ms := by
  refine lexAt_eq ns ms (fun x y => decide (x ≥ y)) _ lexGe (fun i h a b => ?_) (fun x xs y ys => ?_) _ 0 (by omega)
  · rw [lexGe_le, lexLe_end ms ns i (by omega) b a]
  · rw [lexGe_le, lexLe_cons, lexGe_le]
    by_cases h : x = y
    · rw [if_pos h, if_pos h.symm]
    · rw [if_neg h, if_neg (fun e => h e.symm)]
def rGeT (K : PySem.W.Frag) : R2 := fun x y H Q => ∃ (a b : Addr) (ns ms : List Int), x = .ref a ∧ y = .ref b ∧ SqT K H a (ns.map V.int) ∧ SqT K H b (ms.map V.int) ∧ Q (.bl (lexGe ns ms)) H
theorem ints_at {us : List Value} {ns : List Int} (h : IntsAre us ns) (j : Nat) (h1 : j < us.toArray.size) : ∃ t, us.toArray[j] = .int (ns.getD j 0) t := PyProof.Rows.IntsAre.int_at h _ _ (by simp at h1; simp [h1])
theorem op_geT (hu : X.A.units < cLine) : OpR X (compareOp .GtE) (rGeT X.K) := by
  intro pins s σ H x y v u Q I rx ry h
  obtain ⟨a, b, ns, ms, rfl, rfl, ha, hb, q⟩ := h
  cases rx; cases ry
  obtain ⟨us, r1, p1, _⟩ := I.tuple ha
  obtain ⟨ws, r2, p2, _⟩ := I.tuple hb
  have j1 : IntsAre us ns := Vals.ints r1
  have j2 : IntsAre ws ms := Vals.ints r2
  have n1 : us.toArray.size = ns.length := List.size_toArray.trans j1.length
  have n2 : ws.toArray.size = ms.length := List.size_toArray.trans j2.length
  have R := Ob.RcOp.tuples_ge (A := X.A) (s := s) (e := fun j => decide (ns.getD j 0 = ms.getD j 0)) (r := fun j => decide (ns.getD j 0 ≥ ms.getD j 0)) p1 p2 hu
    (fun j h1 h2 => by
      obtain ⟨t, e1⟩ := ints_at j1 j h1
      obtain ⟨t', e2⟩ := ints_at j2 j h2
      rw [e1, e2, ← Bool.beq_eq_decide_eq]
      exact SeqAt.EqAt.int_int _ _ _ _)
    (fun j h1 h2 _ => by
      obtain ⟨t, e1⟩ := ints_at j1 j h1
      obtain ⟨t', e2⟩ := ints_at j2 j h2
      rw [e1, e2]
      exact Ob.RcOp.ge_int _ _ _ _)
  rw [n1, n2, lexAt_ge] at R
  exact R X.prog X.w X.xe (EP X pins σ Q) ⟨.bl _, H, I, rfl, q⟩
def uLt (K : PySem.W.Frag) : R2 := fun x y H Q => match x, y with
  | .int i, .int j => Q (.bl (decide (i < j))) H
  | .ref a, .ref b => ∃ ns ms : List Int, SqT K H a (ns.map V.int) ∧ SqT K H b (ms.map V.int) ∧ Q (.bl (HT.lexLt ns ms)) H
  | _, _ => False
theorem o_lt (hu : X.A.units < cLine) : OpR X (compareOp .Lt) (uLt X.K) := by
  refine wR (orR op_lt (op_ltT hu)) fun x y H Q q => ?_
  unfold uLt at q
  split at q
  · exact .inl ⟨_, _, rfl, rfl, q⟩
  · obtain ⟨ns, ms, a, b, q⟩ := q
    exact .inr ⟨_, _, ns, ms, rfl, rfl, a, b, q⟩
  · exact q.elim
def uLe (K : PySem.W.Frag) : R2 := fun x y H Q => match x, y with
  | .int i, .int j => Q (.bl (decide (i ≤ j))) H
  | .ref a, .ref b => ∃ ns ms : List Int, SqT K H a (ns.map V.int) ∧ SqT K H b (ms.map V.int) ∧ Q (.bl (lexLe ns ms)) H
  | _, _ => False
theorem o_le (hu : X.A.units < cLine) : OpR X (compareOp .LtE) (uLe X.K) := by
  refine wR (orR op_le (op_leT hu)) fun x y H Q q => ?_
  unfold uLe at q
  split at q
  · exact .inl ⟨_, _, rfl, rfl, q⟩
  · obtain ⟨ns, ms, a, b, q⟩ := q
    exact .inr ⟨_, _, ns, ms, rfl, rfl, a, b, by rw [lexAt_le]; exact q⟩
  · exact q.elim
def uGe (K : PySem.W.Frag) : R2 := fun x y H Q => match x, y with
  | .int i, .int j => Q (.bl (decide (j ≤ i))) H
  | .ref a, .ref b => ∃ ns ms : List Int, SqT K H a (ns.map V.int) ∧ SqT K H b (ms.map V.int) ∧ Q (.bl (lexGe ns ms)) H
  | _, _ => False
theorem o_ge (hu : X.A.units < cLine) : OpR X (compareOp .GtE) (uGe X.K) := by
  refine wR (orR op_ge (op_geT hu)) fun x y H Q q => ?_
  unfold uGe at q
  split at q
  · exact .inl ⟨_, _, rfl, rfl, q⟩
  · obtain ⟨ns, ms, a, b, q⟩ := q
    exact .inr ⟨_, _, ns, ms, rfl, rfl, a, b, q⟩
  · exact q.elim
def uGt : R2 := fun x y H Q => match x, y with
  | .int i, .int j => Q (.bl (decide (j < i))) H
  | _, _ => False
theorem o_gt : OpR X (compareOp .Gt) uGt := by
  refine wR op_gt fun x y H Q q => ?_
  unfold uGt at q
  split at q
  · exact ⟨_, _, rfl, rfl, q⟩
  · exact q.elim
def isNon : V → Bool
  | .non => true
  | _ => false
theorem isNon_eq (x : V) : decide (x = .non) = isNon x := by
  cases x <;> first | rfl | exact decide_eq_false (fun q => nomatch q)
def uIs : R2 := fun x y H Q => match y with
  | .non => Q (.bl (isNon x)) H
  | .bl b => ∃ a, x = .bl a ∧ Q (.bl (decide (a = b))) H
  | _ => False
def uIsnt : R2 := fun x y H Q => match y with
  | .non => Q (.bl (!isNon x)) H
  | .bl b => ∃ a, x = .bl a ∧ Q (.bl (!decide (a = b))) H
  | _ => False
theorem o_isnt : OpR X (compareOp .IsNot) uIsnt := by
  refine wR (orR op_notN op_isnot_bl) fun x y H Q q => ?_
  unfold uIsnt at q
  split at q
  · exact .inl ⟨rfl, (isNon_eq x).symm ▸ q⟩
  · obtain ⟨a, e, q⟩ := q
    exact .inr ⟨a, _, e, rfl, q⟩
  · exact q.elim
theorem op_inD (hu : X.A.units + 1 < cLine) : OpR X (compareOp .In) (fun x y H Q => ∃ a o, y = .ref a ∧ DGet H a x o ∧ Q (.bl o.isSome) H) := by
  intro pins s σ H x y v u Q I rx ry h
  obtain ⟨a, o, rfl, g, q⟩ := h
  cases ry
  exact d_in hu I g rx fun s' I' => ⟨.bl o.isSome, H, I', rfl, q⟩
/-- in a list, a tuple of scalars; a dict -/
def uIn (K : PySem.W.Frag) : R2 := fun x y H Q => match y with
  | .ref a => (∃ xs, (SqL K H a xs ∨ SqT K H a xs) ∧ flatV x = true ∧ xs.all flatV = true ∧ Q (.bl (inV x xs)) H) ∨ ∃ o, DGet H a x o ∧ Q (.bl o.isSome) H
  | _ => False
theorem o_in (hu : X.A.units + 1 < cLine) : OpR X (compareOp .In) (uIn X.K) := by
  refine wR (orR op_in_seq (op_inD hu)) fun x y H Q q => ?_
  unfold uIn at q
  split at q
  · rcases q with ⟨xs, a, b, c, q⟩ | ⟨o, g, q⟩
    · exact .inl ⟨_, xs, rfl, a, b, c, q⟩
    · exact .inr ⟨_, o, rfl, g, q⟩
  · exact q.elim
def uNin (K : PySem.W.Frag) : R2 := fun x y H Q => match y with
  | .ref a => (∃ xs, (SqL K H a xs ∨ SqT K H a xs) ∧ flatV x = true ∧ xs.all flatV = true ∧ Q (.bl (!inV x xs)) H) ∨ ∃ o, DGet H a x o ∧ Q (.bl (!o.isSome)) H
  | _ => False
end ops
section subs
variable {X : Cx}
/-- a[b] of lists, tuples, texts -/
def uIx (K : PySem.W.Frag) : R2 := fun x y H Q => match x, y with
  | .ref p, .int i => ∃ xs v, (SqL K H p xs ∨ SqT K H p xs) ∧ atI xs i = some v ∧ Q v H
  | .str z, .int i => z.length ≤ sizeLine ∧ ∃ c, atI z.cps.toList i = some c ∧ Q (.str ⟨#[c]⟩) H
  | _, _ => False
theorem ix_u : IxR X (uIx X.K) := by
  intro value slice pins s σ H x y v u Q I rx ry h hs
  refine ix_seq value slice pins s σ H x y v u Q I rx ry ?_ hs
  unfold uIx at h
  split at h
  · obtain ⟨xs, v, e | e, g, q⟩ := h
    · exact .inl ⟨_, xs, _, v, rfl, rfl, e, g, q⟩
    · exact .inr (.inl ⟨_, xs, _, v, rfl, rfl, e, g, q⟩)
  · obtain ⟨z, c, e, q⟩ := h
    exact .inr (.inr ⟨_, _, c, rfl, rfl, z, e, q⟩)
  · exact h.elim
theorem e_ix {a b : Expr} {ta tb : TE} {pos : Pos} (ha : PE X a ta) (hb : PE X b tb) (hs : PlainIx b := by exact fun _ _ => rfl) : PE X (.Subscript a b pos) (tOp (uIx X.K) ta tb) := pe_ix ix_u ha hb hs
/-- a[lo:hi] -/
def uSl (K : PySem.W.Frag) : V → Option Int → Option Int → Hp → VK → Prop := fun x lo hi H Q => rSlL K x lo hi H Q ∨ rSlT K x lo hi H Q ∨ rSlS x lo hi H Q
theorem sl_u : SlR X (uSl X.K) := SlR.or sl_list (SlR.or sl_tup sl_str)
theorem e_sl {e : Expr} {lo hi : Option Expr} {te : TE} {tl th : TO} {p2 pos : Pos} (he : PE X e te) (hl : PO X lo tl) (hh : PO X hi th) : PE X (.Subscript e (.Slice lo hi none p2) pos) (tSl (uSl X.K) te tl th) := pe_slice sl_u he hl hh
/-- d[k] -/
theorem e_dg {a b : Expr} {ta tb : TE} {pos : Pos} (hu : X.A.units + 1 < cLine) (ha : PE X a ta) (hb : PE X b tb) (hs : NoSl b := by exact fun _ _ => rfl) : PE X (.Subscript a b pos) (tDGet ta tb) := pe_dget hu ha hb hs
/-- a[i] by values, for a[i] += e -/
def uGet (K : PySem.W.Frag) : V → V → Hp → VK → Prop := fun x y H Q => match x, y with
  | .ref p, .int i => (0 ≤ i ∧ ∃ xs v, SqL K H p xs ∧ xs[i.toNat]? = some v ∧ Q v H) ∨ ∃ v, DGet H p (.int i) (some v) ∧ Q v H
  | .ref p, y => ∃ v, DGet H p y (some v) ∧ Q v H
  | _, _ => False
/-- a[i] = v -/
def uSet : TSet := fun o i v H Q => match o, i with
  | .ref p, .int k => (∃ xs j, H p = some (.lst xs) ∧ ixN xs.length k = some j ∧ Q (upd H p (.lst (xs.set j v)))) ∨ ∃ H', DPut H p (.int k) v H' ∧ Q H'
  | .ref p, i => ∃ H', DPut H p i v H' ∧ Q H'
  | _, _ => False
theorem set_u (hu : X.A.units + 1 < cLine) : PSet X uSet := by
  intro pins s σ H o i v ov iv u Q I ro ri rv h
  unfold uSet at h
  split at h
  · rcases h with ⟨xs, j, e, g, q⟩ | ⟨H', g, q⟩
    · exact set_list pins s σ H _ _ v ov iv u Q I ro ri rv ⟨_, xs, _, j, rfl, rfl, e, g, q⟩
    · exact set_dict hu pins s σ H _ _ v ov iv u Q I ro ri rv ⟨_, H', rfl, g, q⟩
  · obtain ⟨H', g, q⟩ := h
    exact set_dict hu pins s σ H _ _ v ov iv u Q I ro ri rv ⟨_, H', rfl, g, q⟩
  · exact h.elim
end subs
section calls
variable {X : Cx}
/-- len -/
def uLen (K : PySem.W.Frag) : List V → Hp → VK → Prop := fun xs H Q => match xs with
  | [.ref p] => (∃ ys, (SqL K H p ys ∨ SqT K H p ys) ∧ Q (.int ys.length) H) ∨ ∃ kvs, H p = some (.dK kvs) ∧ Q (.int kvs.length) H
  | [.str z] => z.length ≤ sizeLine ∧ Q (.int z.length) H
  | _ => False
theorem c_len : CallR X (.builtin "len") (uLen X.K) := by
  refine wC (orC call_len_seq (orC call_len_str call_lenD)) fun xs H Q q => ?_
  unfold uLen at q
  split at q
  · rcases q with ⟨ys, a, q⟩ | ⟨kvs, a, q⟩
    · exact .inl ⟨_, ys, rfl, a, q⟩
    · exact .inr (.inr ⟨_, kvs, rfl, a, q⟩)
  · exact .inr (.inl ⟨_, rfl, q⟩)
  · exact q.elim
/-- list(x), tuple(x) -/
def uList (K : PySem.W.Frag) : List V → Hp → VK → Prop := fun xs H Q => match xs with
  | [.ref p] => ∃ ys, (SqL K H p ys ∨ SqT K H p ys) ∧ ∀ l, H l = none → Q (.ref l) (upd H l (.lst ys))
  | _ => False
theorem c_list : CallR X (.type "list") (uList X.K) := by
  refine wC call_list_of fun xs H Q q => ?_
  unfold uList at q
  split at q
  · obtain ⟨ys, a, q⟩ := q
    exact ⟨_, ys, rfl, a, q⟩
  · exact q.elim
def uTuple (K : PySem.W.Frag) : List V → Hp → VK → Prop := fun xs H Q => match xs with
  | [.ref p] => ∃ ys, (SqL K H p ys ∧ ∀ l, H l = none → Q (.ref l) (upd H l (.tup ys))) ∨ (SqT K H p ys ∧ Q (.ref p) H)
  | _ => False
theorem c_tuple : CallR X (.type "tuple") (uTuple X.K) := by
  refine wC call_tuple_of fun xs H Q q => ?_
  unfold uTuple at q
  split at q
  · obtain ⟨ys, q⟩ := q
    exact ⟨_, ys, rfl, q⟩
  · exact q.elim
def uAbs : List V → Hp → VK → Prop := fun xs H Q => match xs with
  | [.int i] => Q (.int (if i < 0 then -i else i)) H
  | _ => False
def uMax (K : PySem.W.Frag) : List V → Hp → VK → Prop := fun xs H Q => match xs with
  | [.int i, .int j] => Q (.int (if j > i then j else i)) H
  | [.ref a] => ∃ ns : List Int, SqL K H a (ns.map V.int) ∧ 0 < ns.length ∧ ∀ m, m ∈ ns → (∀ y, y ∈ ns → y ≤ m) → Q (.int m) H
  | _ => False
def uMin (K : PySem.W.Frag) : List V → Hp → VK → Prop := fun xs H Q => match xs with
  | [.int i, .int j] => Q (.int (if j < i then j else i)) H
  | [.ref a] => ∃ ns : List Int, SqL K H a (ns.map V.int) ∧ 0 < ns.length ∧ ∀ m, m ∈ ns → (∀ y, y ∈ ns → m ≤ y) → Q (.int m) H
  | _ => False
theorem c_min (hc : X.calm = true) : CallR X (.builtin "min") (uMin X.K) := by
  refine wC (orC (call_min2 hc) (cr_min hc)) fun xs H Q q => ?_
  unfold uMin at q
  split at q
  · exact .inl ⟨_, _, rfl, q⟩
  · obtain ⟨ns, a, b, c⟩ := q
    exact .inr ⟨_, ns, rfl, a, b, c⟩
  · exact q.elim
def uInt : List V → Hp → VK → Prop := fun xs H Q => match xs with
  | [.int i] => Q (.int i) H
  | [.bl k] => Q (.int (if k then 1 else 0)) H
  | _ => False
theorem c_int : CallR X (.type "int") uInt := by
  refine wC call_int1 fun xs H Q q => ?_
  unfold uInt at q
  split at q
  · exact .inl ⟨_, rfl, q⟩
  · exact .inr ⟨_, rfl, q⟩
  · exact q.elim
inductive Ty | int | bool | str | list | tuple | dict
def Ty.nm : Ty → String
  | .int => "int" | .bool => "bool" | .str => "str" | .list => "list" | .tuple => "tuple" | .dict => "dict"
/-- of a scalar -/
def isS : Ty → V → Bool
  | .int, .int _ => true
  | .int, .bl _ => true
  | .bool, .bl _ => true
  | .str, .str _ => true
  | _, _ => false
/-- of an object that is a list, a tuple, a dict -/
inductive Ob | list | tuple | dict
def Ob.nm : Ob → String
  | .list => "list" | .tuple => "tuple" | .dict => "dict"
def isO : Ty → Ob → Bool
  | .list, .list => true
  | .tuple, .tuple => true
  | .dict, .dict => true
  | _, _ => false
def uIsi (K : PySem.W.Frag) (n : Ty) : List V → Hp → VK → Prop := fun xs H Q => match xs with
  | [.int i, .ty m] => m = n.nm ∧ Q (.bl (isS n (.int i))) H
  | [.bl i, .ty m] => m = n.nm ∧ Q (.bl (isS n (.bl i))) H
  | [.str i, .ty m] => m = n.nm ∧ Q (.bl (isS n (.str i))) H
  | [.non, .ty m] => m = n.nm ∧ Q (.bl (isS n .non)) H
  | [.ref a, .ty m] => m = n.nm ∧ ∃ o : Ob, TyX K H (.ref a) (.type o.nm) ∧ Q (.bl (isO n o)) H
  | _ => False
theorem kit_int : ∀ n : Ty, kitB "int" n.nm = some (isS n (.int 0)) := fun n => by cases n <;> decide +kernel
theorem kit_bool : ∀ n : Ty, kitB "bool" n.nm = some (isS n (.bl true)) := fun n => by cases n <;> decide +kernel
theorem kit_str : ∀ n : Ty, kitB "str" n.nm = some (isS n (.str Str.empty)) := fun n => by cases n <;> decide +kernel
theorem kit_non : ∀ n : Ty, kitB "NoneType" n.nm = some (isS n .non) := fun n => by cases n <;> decide +kernel
theorem kit_obj : ∀ (n : Ty) (o : Ob), kitB o.nm n.nm = some (isO n o) := fun n o => by cases n <;> cases o <;> decide +kernel
theorem c_isi (n : Ty) : CallR X (.builtin "isinstance") (uIsi X.K n) := by
  refine wC call_isi fun xs H Q q => ?_
  unfold uIsi at q
  split at q
  · obtain ⟨rfl, q⟩ := q
    exact ⟨_, _, .type "int", .type n.nm, _, rfl, .ty n.nm, .base (.int _), kit_ty (kit_int n), by cases n <;> exact q⟩
  · obtain ⟨rfl, q⟩ := q
    exact ⟨_, _, .type "bool", .type n.nm, _, rfl, .ty n.nm, .base (.bl _), kit_ty (kit_bool n), by cases n <;> exact q⟩
  · obtain ⟨rfl, q⟩ := q
    exact ⟨_, _, .type "str", .type n.nm, _, rfl, .ty n.nm, .base (.str _), kit_ty (kit_str n), by cases n <;> exact q⟩
  · obtain ⟨rfl, q⟩ := q
    exact ⟨_, _, .type "NoneType", .type n.nm, _, rfl, .ty n.nm, .base .non, kit_ty (kit_non n), by cases n <;> exact q⟩
  · obtain ⟨rfl, o, t, q⟩ := q
    exact ⟨_, _, .type o.nm, .type n.nm, _, rfl, .ty n.nm, t, kit_ty (kit_obj n o), q⟩
  · exact q.elim
end calls
section own
variable {X : Cx} {k : Nat} {f C : Addr} {fd : FuncData} {ps : List Str} {sp : Sp} {W : WX} {x m : Str} {p pos apos : Pos} {e o : Expr} {es : List Expr} {ta : TE} {t : TA}
def uCall (sp : Sp) (W : WX) (t : TA) : TE := fun σ H Q => t σ H fun vs H1 => sp vs H1 Q fun c d H2 => W c d σ H2
theorem e_call (F : FnOk X.prog X.w X.K X.mg X.base (L2.CX X.prog X.w) k f fd ps sp) (hr : Room k X.A) (hm : X.mg x = some (.ref f)) (hk : PySem.W.keepIn X.K (.ref f) = true) (hb : Binds X.K fd ps []) (tk : Takes X W)
    (ha : PA X (e :: es) t) (hg : Gl X x := by rfl) (hdb : (x == ("__debug__" : Str)) = false := by decide) (he : starEach (e :: es) X.env = (false, eval e X.env) :: starEach es X.env := by rfl) (hpl : (backTo pos (starEach es X.env)).any (·.1) = false := by rfl) :
    PE X (.Call (.Name x p) (e :: es) [] pos) (uCall sp W t) := pe_callS (E := WE W) F hr hg hm hk hb (fun σ => passAt tk σ) ha hdb he hpl
/-- o.m(..) -/
def uMeth (C : Addr) (m : Str) (sp : Sp) (W : WX) (ta : TE) (t : TA) : TE := fun σ H Q => ta σ H fun x H1 => ∃ a dx fs, x = .ref a ∧ H1 a = some (.ins C dx fs) ∧ fs.lookup m = none ∧
  t σ H1 fun vs H2 => sp (x :: vs) H2 Q fun c d H3 => W c d σ H3
theorem e_meth {pl : Sem Bool} (ho : PE X o ta) (c : Cls X.K C) (hm : Meth X.K C m f) (F : FnOk X.prog X.w X.K X.mg X.base (L2.CX X.prog X.w) k f fd ps sp) (hr : Room k X.A) (hb : Binds X.K fd ps []) (tk : Takes X W) (ha : PA X (e :: es) t)
    (hst : starEach (e :: es) X.env = (false, eval e X.env) :: starEach es X.env := by rfl) (hpl : (backTo pos (starEach es X.env)).any (·.1) = false := by rfl)
    (ht : eval (.Call (.Attribute o m apos) (e :: es) [] pos) X.env = (do let ov ← eval o X.env; standAt apos.atName; let (f, first) ← holding [ov] (getMethod ov m pl); callWith pos f first (backTo pos (starEach (e :: es) X.env)) (backToKw pos (keywordEach [] X.env))) := by rfl) :
    PE X (.Call (.Attribute o m apos) (e :: es) [] pos) (uMeth C m sp W ta t) := by
  refine ⟨fun pins s σ H Q I h => PySem.W.methodCall_KW (pl := pl) (thn (ho.run pins s σ H _ I h) fun u s1 hh => ?_) ht⟩
  obtain ⟨x, H1, I1, rx, a, dx, fs, rfl, ea, l, q⟩ := hh
  cases (show u = Value.ref a from rx)
  refine getmeth_ok I1 ea c hm l (PySem.W.callWith_K (first := [.ref a]) (h₀ := X.base) I.ok.mod.kin hm.kp (thn (ha.run pos pins s1 σ H1 _ I1 q) fun us s2 hh => ?_) hst hpl)
  obtain ⟨vs, H2, I2, r, q2⟩ := hh
  exact ⟨I2.kIn, run_fnS (us := .ref a :: us) (vs := .ref a :: vs) (E := WE W) F hr hb (passAt tk σ) I2 (.cons rfl r) q2⟩
theorem e_meth0 {pl : Sem Bool} (ho : PE X o ta) (c : Cls X.K C) (hm : Meth X.K C m f) (F : FnOk X.prog X.w X.K X.mg X.base (L2.CX X.prog X.w) k f fd ps sp) (hr : Room k X.A) (hb : Binds X.K fd ps []) (tk : Takes X W)
    (ht : eval (.Call (.Attribute o m apos) [] [] pos) X.env = (do let ov ← eval o X.env; standAt apos.atName; let (f, first) ← holding [ov] (getMethod ov m pl); callWith pos f first (backTo pos (starEach [] X.env)) (backToKw pos (keywordEach [] X.env))) := by rfl) :
    PE X (.Call (.Attribute o m apos) [] [] pos) (uMeth C m sp W ta tNil) := by
  refine ⟨fun pins s σ H Q I h => PySem.W.methodCall_KW (pl := pl) (thn (ho.run pins s σ H _ I h) fun u s1 hh => ?_) ht⟩
  obtain ⟨x, H1, I1, rx, a, dx, fs, rfl, ea, l, q⟩ := hh
  cases (show u = Value.ref a from rx)
  exact getmeth_ok I1 ea c hm l (PySem.W.callWith_K0 (first := [.ref a]) I1.kIn hm.kp (run_fnS (us := [.ref a]) (vs := [.ref a]) (E := WE W) F hr hb (passAt tk σ) I1 (.cons rfl .nil) q))
/-- what a body wants of exceptions, as a wish -/
abbrev WB (E : XK) : WX := fun c d _ H => E c d H
/-- C(..), what is raised goes to W at the slots -/
def uMake (C : Addr) (sp : Sp) (W : WX) (t : TA) : TE := fun σ H Q => t σ H fun vs H1 => ∀ x dx, H1 x = none → H1 dx = none → dx ≠ x → sp (.ref x :: vs) (upd (upd H1 dx (.own x)) x (.ins C dx [])) (fun v H2 => v = .non ∧ Q (.ref x) H2) fun c d H2 => W c d σ H2
theorem make_at {pins : List (Addr × Obj)} {σ : L2.St} {H : Hp} {s : Shared} {Q : VK} {us : List Value} {vs : List V} (M : Mk X.K C f) (F : FnOk X.prog X.w X.K X.mg X.base (L2.CX X.prog X.w) k f fd ps sp) (hr : Room (k + 1) X.A) (hb : Binds X.K fd ps []) (tk : Takes X W)
    (I : Inv X pins σ H s) (r : Vals vs us)
    (h : ∀ x dx, H x = none → H dx = none → dx ≠ x → sp (.ref x :: vs) (upd (upd H dx (.own x)) x (.ins C dx [])) (fun v H2 => v = .non ∧ Q (.ref x) H2) fun c d H2 => W c d σ H2) :
    wpAny (model X.prog X.w) X.A (call (.ref C) us) (EP X pins σ Q) X.xe s := by
  let n := s.heap.objs.size
  have q0 : sp (.ref (n + 1) :: vs) _ _ _ := h (n + 1) n (I.hok.fresh (Nat.le_succ n)) (I.hok.fresh (Nat.le_refl n)) (Nat.ne_of_lt n.lt_succ_self)
  have J := Inv.made (C := C) I
  have rr : Vals (V.ref (n + 1) :: vs) (Value.ref (n + 1) :: us) := .cons rfl r
  have size : (Value.ref (n + 1) :: us).length = ps.length := rr.length.symm.trans (F.len _ _ _ _ q0)
  have go := F.run _ X.stack _ _ ⟨Value.ref (n + 1) :: us, []⟩ (Value.ref (n + 1) :: us) _ _ _ (hr.make C us []) (J.env0.make C us []) (by have z := hb _ (Value.ref (n + 1) :: us) J.kIn (by rw [List.append_nil]; exact size); rw [List.append_nil] at z; exact z) rr q0
  refine wpAny_call (make_map (f := f) I.kIn M.makes M.init (beq_iff_eq.mp M.fn) (codeAny_mono go ?_))
  rintro (e | fl) s' hq
  · exact passAt tk σ pins _ _ e s' J hq
  · cases fl with
    | ret u =>
      obtain ⟨v, H', I3, rv, ev, z⟩ := J.after hq
      cases ev
      exact ⟨rv, .ref (n + 1), H', I3, rfl, z⟩
    | next => exact hq.elim
    | brk => exact hq.elim
    | cont => exact hq.elim
theorem e_mk (M : Mk X.K C f) (F : FnOk X.prog X.w X.K X.mg X.base (L2.CX X.prog X.w) k f fd ps sp) (hr : Room (k + 1) X.A) (hm : X.mg x = some (.ref C)) (hb : Binds X.K fd ps []) (tk : Takes X W) (ha : PA X (e :: es) t)
    (hg : Gl X x := by rfl) (hdb : (x == ("__debug__" : Str)) = false := by decide) (he : starEach (e :: es) X.env = (false, eval e X.env) :: starEach es X.env := by rfl) (hpl : (backTo pos (starEach es X.env)).any (·.1) = false := by rfl) :
    PE X (.Call (.Name x p) (e :: es) [] pos) (uMake C sp W t) :=
  ⟨fun pins s σ H Q I h => wpAny_Call_Name_kw (ld_glob I hg hm (PySem.W.callWith_K (h₀ := X.base) I.ok.mod.kin M.kp (thn (ha.run pos pins s σ H _ I h) fun us s1 hh => by
    obtain ⟨vs, H1, I1, r, q⟩ := hh
    exact ⟨I1.kIn, make_at M F hr hb tk I1 r q⟩) he hpl) hdb)⟩
/-- what the top has of an own exception class -/
structure Exc (K : PySem.W.Frag) (mg : Str → Option Value) (n : Str) (C : Addr) : Prop where
  ex : PySem.W.excIn K C [.type "ValueError", .type "Exception", .type "BaseException", .type "object"] "ValueError.__new__" = true
  g : mg n = some (.ref C)
  kp : PySem.W.keepIn K (.ref C) = true
  sub : PySem.W.subIn K (.ref C) (.type "BaseException") = some true
  ty : PySem.W.typeIn K (.ref C) = some (.type "type")
def uRaise (C : Addr) (W : WX) : TS := fun _ σ H => W (.ref C) none σ H
theorem pmk0 {n : Str} (T : Exc X.K X.mg n C) (hg : Gl X n := by rfl) (hdb : (n == ("__debug__" : Str)) = false := by decide) : PMk X (.Call (.Name n p) [] [] pos) (fun _ H Q => Q (.ref C) none H) := by
  intro pins s σ H Q I h
  refine wpAny_Call_Name_kw (ld_glob I hg T.g (PySem.W.callWith_K0 I.kIn T.kp ?_) hdb)
  obtain ⟨bm, N, nm, qn, bs, hdct, sn, sub, ab, col, dd, k0, k1, k2, k3, k5, mN, hC, hN, hni, Z⟩ := exc_obj I.kIn T.ex
  exact wpAny_call_exc_subT PySem.F.excBase_ValueError Z hC hN hni (fun h' e hm => mk_of I hm (raises_own T.sub T.ty) h (I.hok.gone hm.new)) (Nat.zero_le _)
theorem s_raise {n : Str} (T : Exc X.K X.mg n C) (tk : Takes X W) {pos2 : Pos} (hc : X.calm = true := by rfl) (hg : Gl X n := by rfl) (hdb : (n == ("__debug__" : Str)) = false := by decide) :
    PS X (.Raise (some (.Call (.Name n p) [] [] pos)) none pos2) (uRaise C W) := ps_raise hc tk (pmk0 T hg hdb)
end own
section tries
variable {X : Cx} {x n : Str} {c : Value} {i : Nat} {body suite : List Stmt} {b₀ : Stmt} {np pos pos' : Pos} {tb : WX → TS} {ts : Addr → Value → Option Addr → TS} {W : WX}
def uTryAs (K : PySem.W.Frag) (c : Value) (i : Nat) (tb : WX → TS) (ts : Addr → Value → Option Addr → TS) (W : WX) : TS := fun D σ H => tb (wAs K c i ts W D) D σ H
def uTry (K : PySem.W.Frag) (c : Value) (tb : WX → TS) (ts : Addr → Value → Option Addr → TS) (W : WX) : TS := fun D σ H => tb (wOnly K c ts W D) D σ H
theorem s_try (hs : X.stack = X.env :: X.outer) (hf : X.env.frame = some X.env.locals) (hc : Names X x c) (tk : Takes X W)
    (hb : ∀ (W' : WX) (pn : List (Addr × Obj)) (xe : Value → Shared → Prop), Takes (X.tr pn xe) W' → PassesOwn (model X.prog X.w) X.A X.env xe → PSs (X.tr pn xe) body (tb W'))
    (hsu : ∀ (a : Addr) (oe : Obj) (cls : Value) (d : Option Addr) (pn : List (Addr × Obj)), Zc cls d oe → (∃ vs, oe.data = .fields vs) → PSs (X.suite a ((a, oe) :: pn)) (b₀ :: suite) (ts a cls d)) :
    PS X (.Try body [.ExceptHandler (some (.Name x np)) none (b₀ :: suite) pos'] [] [] pos) (uTry X.K c tb ts W) := ps_try_only hs hf hc tk hb hsu
theorem w_tryAs {K : PySem.W.Frag} {D : Ends} {σ : L2.St} {H : Hp} (h : tb (wAs K c i ts W D) D σ H) : uTryAs K c i tb ts W D σ H := h
theorem w_try {K : PySem.W.Frag} {D : Ends} {σ : L2.St} {H : Hp} (h : tb (wOnly K c ts W D) D σ H) : uTry K c tb ts W D σ H := h
theorem w_asT {K : PySem.W.Frag} {D : Ends} {σ : L2.St} {H : Hp} {cls : Value} {d : Option Addr} (e : PySem.W.exmOne K cls c = some true)
    (h : ∀ a, H a = none → ts a cls d { nx := fun σ' H' => D.nx (σ'.set i none) H', rt := D.rt, bk := fun σ' H' => D.bk (σ'.set i none) H', ct := fun σ' H' => D.ct (σ'.set i none) H' } (σ.set i (some (.ref a))) H) :
    wAs K c i ts W D cls d σ H := ⟨true, e, fun _ => h, fun q => Bool.noConfusion q⟩
theorem w_asF {K : PySem.W.Frag} {D : Ends} {σ : L2.St} {H : Hp} {cls : Value} {d : Option Addr} (e : PySem.W.exmOne K cls c = some false) (h : W cls d σ H) : wAs K c i ts W D cls d σ H := ⟨false, e, fun q => Bool.noConfusion q, fun _ => h⟩
theorem w_onT {K : PySem.W.Frag} {D : Ends} {σ : L2.St} {H : Hp} {cls : Value} {d : Option Addr} (e : PySem.W.exmOne K cls c = some true) (h : ∀ a, H a = none → ts a cls d D σ H) : wOnly K c ts W D cls d σ H := ⟨true, e, fun _ => h, fun q => Bool.noConfusion q⟩
theorem w_onF {K : PySem.W.Frag} {D : Ends} {σ : L2.St} {H : Hp} {cls : Value} {d : Option Addr} (e : PySem.W.exmOne K cls c = some false) (h : W cls d σ H) : wOnly K c ts W D cls d σ H := ⟨false, e, fun q => Bool.noConfusion q, fun _ => h⟩
/-- isinstance(e, C) of the exception that a suite holds -/
def uIsE (K : PySem.W.Frag) (a : Addr) (cls : Value) (d : Option Addr) : List V → Hp → VK → Prop := fun xs H Q => ∃ (D C : Addr) (b : Bool), cls = .ref D ∧ d = none ∧ ExcC K D ∧ xs = [.ref a, .ref C] ∧ PySem.W.kitOne K (.ref D) (.ref C) = some b ∧ Q (.bl b) H
theorem w_isE {K : PySem.W.Frag} {H : Hp} {Q : VK} {a D C : Addr} {b : Bool} (x : ExcC K D) (e : PySem.W.kitOne K (.ref D) (.ref C) = some b) (h : Q (.bl b) H) : uIsE K a (.ref D) none [.ref a, .ref C] H Q := ⟨D, C, b, rfl, rfl, x, rfl, e, h⟩
end tries
section fields
variable {X : Cx} {C : Addr} {f : Str} {e o v : Expr} {ta tv : TE} {pos pos' : Pos}
def uFld (C : Addr) (f : Str) (ta : TE) : TE := fun σ H Q => ta σ H fun x H1 => ∃ a dx fs v, x = .ref a ∧ H1 a = some (.ins C dx fs) ∧ fs.lookup f = some v ∧ Q v H1
theorem e_fld (c : Cls X.K C) (n : NoAttr X.K C f) (he : PE X e ta) (hb : attributeBase e f X.env (eval e X.env) = eval e X.env := by rfl) : PE X (.Attribute e f pos) (uFld C f ta) :=
  ⟨fun pins s σ H Q I h => attr_of hb (thn (he.run pins s σ H _ I h) fun u s1 hh => by
    obtain ⟨x, H1, I1, rx, a, dx, fs, v, rfl, ea, l, q⟩ := hh
    cases (show u = Value.ref a from rx)
    exact getattr_ok I1 ea c n l fun u' s2 I2 ru => ⟨v, H1, I2, ru, q⟩)⟩
def uSetF (C : Addr) (f : Str) (ta tv : TE) : TS := fun D σ H => tv σ H fun y H1 => ta σ H1 fun x H2 => ∃ a dx fs, x = .ref a ∧ H2 a = some (.ins C dx fs) ∧ fs.length < 1000 ∧ D.nx σ (upd H2 a (.ins C dx (putF f y fs)))
theorem s_fld (c : Cls X.K C) (n : NoAttr X.K C f) (ho : PE X o ta) (hv : PE X v tv) (hs : swapsWith v (some (.Attribute o f pos')) pos.line X.env = pure false := by rfl) : PS X (.Assign [.Attribute o f pos'] v pos) (uSetF C f ta tv) :=
  ⟨fun pins s σ H D I h => plainObj_wpAny_Assign_Attribute (thn (hv.run pins s σ H _ I h) fun u s1 ⟨y, H1, I1, ry, q⟩ => thn (ho.run pins s1 σ H1 _ I1 q) fun ov s2 hh => by
    obtain ⟨x, H2, I2, rx, a, dx, fs, rfl, ea, l, q2⟩ := hh
    cases (show ov = Value.ref a from rx)
    exact setattr_ok I2 ea c n l ry fun s3 I3 => ⟨σ, _, I3, q2⟩) hs⟩
/-- o.f += e -/
def uAugF (C : Addr) (f : Str) (r : V → V → Hp → VK → Prop) (ta tv : TE) : TS := fun D σ H => ta σ H fun x H1 => ∃ a dx fs v, x = .ref a ∧ H1 a = some (.ins C dx fs) ∧ fs.lookup f = some v ∧
  tv σ H1 fun y H2 => r v y H2 fun z H3 => ∃ dx' fs', H3 a = some (.ins C dx' fs') ∧ fs'.length < 1000 ∧ D.nx σ (upd H3 a (.ins C dx' (putF f z fs')))
theorem s_augf {op : Operator} {r : V → V → Hp → VK → Prop} {tpos : Pos} (c : Cls X.K C) (n : NoAttr X.K C f) (ho : PE X o ta) (hv : PE X v tv) (hop : InOp X op r) : PS X (.AugAssign (.Attribute o f tpos) op v pos) (uAugF C f r ta tv) :=
  ⟨fun pins s σ H D I h => wpAny_AugAssign_AttributeAny (thn (ho.run pins s σ H _ I h) fun ov s1 hh => by
    obtain ⟨x, H1, I1, rx, a, dx, fs, v, rfl, ea, l, q⟩ := hh
    cases (show ov = Value.ref a from rx)
    refine getattr_ok I1 ea c n l fun u s2 I2 ru => thn (hv.run pins s2 σ H1 _ I2 q) fun w3 s3 hh => ?_
    obtain ⟨y, H2, I3, ry, q3⟩ := hh
    refine thn (hop pins s3 σ H2 v y u w3 _ I3 ru ry q3) fun w4 s4 hh => ?_
    obtain ⟨z, H3, I4, rz, dx', fs', ea', l', q4⟩ := hh
    exact setattr_ok I4 ea' c n l' rz fun s5 I5 => ⟨σ, _, I5, q4⟩)⟩
end fields
section truth
variable {X : Cx} {e : Expr} {te : TE}
def truV (K : PySem.W.Frag) (x : V) (H1 : Hp) (Q : Bool → Hp → Prop) : Prop := match x with
  | .bl b => Q b H1
  | .non => Q false H1
  | .int i => Q (!decide (i = 0)) H1
  | .str z => z.length ≤ sizeLine ∧ Q (!decide (z.length = 0)) H1
  | .ref p => (∃ xs, (SqL K H1 p xs ∨ SqT K H1 p xs) ∧ Q (!xs.isEmpty) H1) ∨ ∃ kvs, H1 p = some (.dK kvs) ∧ Q (!kvs.isEmpty) H1
  | _ => False
def uTru (K : PySem.W.Frag) (te : TE) : TT := fun σ H Q => te σ H fun x H1 => truV K x H1 Q
theorem t_tru (he : PE X e te) (hw : ∀ whole, isTrue e X.env whole = (do let v ← whole; standAt e.pos; holding [v] (truthy v)) := by intro _; rfl) : PT X e (uTru X.K te) := by
  refine ⟨fun pins s σ H Q I h => isTrue_plain (thn (he.run pins s σ H _ I h) fun v s1 hh => ?_) (hw _)⟩
  obtain ⟨x, H1, I1, r1, q⟩ := hh
  refine tru_ok pins s1 σ H1 x v Q I1 r1 ?_
  unfold truV at q
  split at q
  · exact ⟨_, rfl, q⟩
  · exact ⟨_, rfl, q⟩
  · rename_i i
    refine ⟨_, rfl, ?_⟩
    rw [show (i != 0) = !decide (i = 0) by rw [bne, Bool.beq_eq_decide_eq]]
    exact q
  · rename_i z
    refine ⟨_, ⟨q.1, rfl⟩, ?_⟩
    rw [show ((z.length : Int) != 0) = !decide (z.length = 0) by rw [bne, Bool.beq_eq_decide_eq]; congr 1; exact decide_eq_decide.mpr (by omega)]
    exact q.2
  · rcases q with ⟨xs, a | a, q⟩ | ⟨kvs, a, q⟩
    · exact ⟨_, .inl ⟨xs, a, rfl⟩, q⟩
    · exact ⟨_, .inr (.inl ⟨xs, a, rfl⟩), q⟩
    · exact ⟨_, .inr (.inr ⟨kvs, a, rfl⟩), q⟩
  · exact q.elim
end truth
def forQ (g : TG) (tb : TS) (D : Ends) (σ : L2.St) (J : It) (H1 : Hp) : Prop := ∃ W : Nat → Nat → L2.St → Hp → Prop, (∃ m, W 0 m σ H1) ∧ ∀ i m σ H, W i m σ H →
  (J.stop i H ∧ D.nx σ H) ∨ (J.go i H ∧ ∃ N : L2.St → Hp → Prop, (∀ σ' H', N σ' H' → ∃ m', m' < m ∧ W (i + 1) m' σ' H') ∧ ∀ x H', J.yld i H x H' → g x σ H' fun σ2 H2 => tb { D with nx := N, ct := N, bk := D.nx } σ2 H2)
def newT (xs : List V) (H1 : Hp) (Q : VK) : Prop := xs.length ≤ sizeLine ∧ ∀ p, H1 p = none → Q (.ref p) (upd H1 p (.tup xs))
def newL (xs : List V) (H1 : Hp) (Q : VK) : Prop := xs.length ≤ sizeLine ∧ ∀ p, H1 p = none → Q (.ref p) (upd H1 p (.lst xs))
def bmQ (K : PySem.W.Frag) (T : String) (q : V → List V → Hp → VK → Prop) (tA : TA) (σ : L2.St) (x : V) (H1 : Hp) (Q : VK) : Prop := tyV K T x H1 ∧ tA σ H1 fun xs H2 => q x xs H2 Q
def rng1Q (vs : List V) (H1 : Hp) (R : It → Hp → Prop) : Prop := ∃ j : Int, vs = [.int j] ∧ -(2 ^ 62) ≤ j ∧ j < 2 ^ 62 ∧ R (Itr 0 j.toNat) H1
def rng2Q (vs : List V) (H1 : Hp) (R : It → Hp → Prop) : Prop := ∃ i j : Int, vs = [.int i, .int j] ∧ (-(2 ^ 62) ≤ i ∧ i < 2 ^ 62 ∧ -(2 ^ 62) ≤ j ∧ j < 2 ^ 62) ∧ R (Itr i (j - i).toNat) H1
def listQ (K : PySem.W.Frag) (x : V) (H1 : Hp) (R : It → Hp → Prop) : Prop := ∃ a, x = .ref a ∧ (∃ xs, SqL K H1 a xs) ∧ R (Itl K a) H1
def tupQ (K : PySem.W.Frag) (x : V) (H1 : Hp) (R : It → Hp → Prop) : Prop := ∃ a, x = .ref a ∧ (∃ xs, SqT K H1 a xs) ∧ R (Itt K a) H1
def strQ (x : V) (H1 : Hp) (R : It → Hp → Prop) : Prop := ∃ z, x = .str z ∧ R (Its z) H1
def revQ (K : PySem.W.Frag) (vs : List V) (H1 : Hp) (R : It → Hp → Prop) : Prop := ∃ (a : Addr) (xs : List V), vs = [.ref a] ∧ SqL K H1 a xs ∧ R (Itv K a xs.length) H1
def fldQ (C : Addr) (f : Str) (x : V) (H1 : Hp) (Q : VK) : Prop := ∃ a dx fs v, x = .ref a ∧ H1 a = some (.ins C dx fs) ∧ fs.lookup f = some v ∧ Q v H1
def methQ (C : Addr) (m : Str) (sp : Sp) (W : WX) (t : TA) (σ : L2.St) (x : V) (H1 : Hp) (Q : VK) : Prop := ∃ a dx fs, x = .ref a ∧ H1 a = some (.ins C dx fs) ∧ fs.lookup m = none ∧ t σ H1 fun vs H2 => sp (x :: vs) H2 Q fun c d H3 => W c d σ H3
def setfQ (C : Addr) (f : Str) (x y : V) (H2 : Hp) (N : Hp → Prop) : Prop := ∃ a dx fs, x = .ref a ∧ H2 a = some (.ins C dx fs) ∧ fs.length < 1000 ∧ N (upd H2 a (.ins C dx (putF f y fs)))
section steps
variable {K : PySem.W.Frag} {D : Ends} {σ : L2.St} {H : Hp} {Q : VK} {QB : Bool → Hp → Prop} {QA : List V → Hp → Prop} {t u : TS} {te ta tb tv : TE} {tA : TA} {c c1 c2 : TT} {g : TG} {i : Nat} {v x y : V} {r r' : R2} {W : WX} {sp : Sp} {b : Bool} {C a : Addr} {f : Str}
theorem w_seq (h : t { D with nx := u D } σ H) : tSeq t u D σ H := h
theorem w_cut (P : L2.St → Hp → Prop) (h1 : t { D with nx := P } σ H) (h2 : ∀ σ H, P σ H → u D σ H) : tCut t u D σ H := ⟨P, h1, h2⟩
theorem w_next (h : D.nx σ H) : tNext D σ H := h
theorem w_asg (h : te σ H fun x H1 => g x σ H1 D.nx) : tAsg te g D σ H := h
theorem w_name {N : L2.St → Hp → Prop} (h : N (σ.set i (some v)) H) : gName i v σ H N := h
theorem w_ret (h : te σ H D.rt) : tRet te D σ H := h
theorem w_retN (h : D.rt .non H) : tRetN D σ H := h
theorem w_if (h : c σ H fun b H1 => if b = true then t D σ H1 else u D σ H1) : tIfS c t u D σ H := h
theorem w_drop (h : te σ H fun _ H1 => D.nx σ H1) : tDrop te D σ H := h
theorem w_brk (h : D.bk σ H) : tBreak D σ H := h
theorem w_cont (h : D.ct σ H) : tCont D σ H := h
theorem w_aug {ti : TIp} (e : σ[i]? = some (some x)) (h : te σ H fun y H1 => ti x y H1 fun z H2 => D.nx (σ.set i (some z)) H2) : tAug i te ti D σ H := ⟨x, e, h⟩
theorem w_ipI {k : Int → Int → Int} {m n : Int} (h : Q (.int (k m n)) H) : ipI k (.int m) (.int n) H Q := ⟨m, n, rfl, rfl, h⟩
theorem w_test (h : te σ H fun x H1 => ∃ k, x = .bl k ∧ QB k H1) : tTest te σ H QB := h
theorem w_not (h : c σ H fun k H1 => QB (!k) H1) : tNot c σ H QB := h
theorem w_and (h : c1 σ H fun k H1 => if k = true then c2 σ H1 QB else QB false H1) : tAnd c1 c2 σ H QB := h
theorem w_or (h : c1 σ H fun k H1 => if k = true then QB true H1 else c2 σ H1 QB) : tOr c1 c2 σ H QB := h
theorem w_andV (h : ta σ H fun x H1 => ∃ k, x = .bl k ∧ if k = true then tb σ H1 Q else Q (.bl false) H1) : tAndV ta tb σ H Q := h
theorem w_orV (h : ta σ H fun x H1 => ∃ k, x = .bl k ∧ if k = true then Q (.bl true) H1 else tb σ H1 Q) : tOrV ta tb σ H Q := h
theorem w_notV (h : ta σ H fun x H1 => ∃ k, x = .bl k ∧ Q (.bl (!k)) H1) : tNotV ta σ H Q := h
theorem w_blP {P : Bool → Prop} (h : P b) : ∃ k, V.bl b = .bl k ∧ P k := ⟨b, rfl, h⟩
theorem w_ifE (h : c σ H fun k H1 => if k = true then ta σ H1 Q else tb σ H1 Q) : tIf c ta tb σ H Q := h
theorem w_var (e : σ[i]? = some (some v)) (h : Q v H) : tVar i σ H Q := ⟨v, e, h⟩
theorem w_c (h : Q v H) : tC v σ H Q := h
theorem w_op (h : ta σ H fun x H1 => tb σ H1 fun y H2 => r x y H2 Q) : tOp r ta tb σ H Q := h
theorem w_un {ru : V → Hp → VK → Prop} (h : ta σ H fun x H1 => ru x H1 Q) : tUn ru ta σ H Q := h
theorem w_neg {m : Int} (h : Q (.int (-m)) H) : uNeg (.int m) H Q := h
theorem w_chain {tc : TE} (h : ta σ H fun x H1 => tb σ H1 fun y H2 => r x y H2 fun z H3 => ∃ k, z = .bl k ∧ if k = true then tc σ H3 fun w H4 => r' y w H4 Q else Q (.bl false) H3) : tChain r r' ta tb tc σ H Q := h
theorem w_cons (h : te σ H fun x H1 => tA σ H1 fun xs H2 => QA (x :: xs) H2) : tCons te tA σ H QA := h
theorem w_nil (h : QA [] H) : tNil σ H QA := h
theorem w_tup (h : tA σ H fun xs H1 => newT xs H1 Q) : tTup tA σ H Q := h
theorem w_lst (h : tA σ H fun xs H1 => newL xs H1 Q) : tLst tA σ H Q := h
theorem small9 {n : Nat} (h : n ≤ 100000) : n ≤ sizeLine := Nat.le_trans h (by decide)
theorem w_newT {xs : List V} (s : xs.length ≤ 100000) (h : ∀ p, H p = none → Q (.ref p) (upd H p (.tup xs))) : newT xs H Q := ⟨small9 s, h⟩
theorem w_newL {xs : List V} (s : xs.length ≤ 100000) (h : ∀ p, H p = none → Q (.ref p) (upd H p (.lst xs))) : newL xs H Q := ⟨small9 s, h⟩
theorem w_add {m n : Int} (h : Q (.int (m + n)) H) : uAdd K (.int m) (.int n) H Q := h
theorem w_sub {m n : Int} (h : Q (.int (m - n)) H) : uSub (.int m) (.int n) H Q := h
theorem w_mul {m n : Int} (s : CMul m n) (h : Q (.int (m * n)) H) : uMul (.int m) (.int n) H Q := ⟨.inl s, h⟩
theorem w_div {m n : Int} (s : 0 < n ∧ n < 2 ^ 200) (h : Q (.int (m / n)) H) : uDiv (.int m) (.int n) H Q := ⟨s, h⟩
theorem w_mod {m n : Int} (s : 0 < n) (h : Q (.int (m % n)) H) : uMod (.int m) (.int n) H Q := ⟨s, h⟩
theorem w_pow {m n : Int} (s : CPow m n) (h : Q (.int (m ^ n.toNat)) H) : uPow (.int m) (.int n) H Q := ⟨s, h⟩
theorem w_eqI {m n : Int} (h : Q (.bl (decide (m = n))) H) : uEq K (.int m) (.int n) H Q := h
theorem w_eqS {m n : Str} (h : Q (.bl (decide (m = n))) H) : uEq K (.str m) (.str n) H Q := h
theorem w_eqB {m n : Bool} (h : Q (.bl (decide (m = n))) H) : uEq K (.bl m) (.bl n) H Q := h
theorem w_eqNI {n : Int} (h : Q (.bl false) H) : uEq K .non (.int n) H Q := .inl ⟨rfl, h⟩
theorem w_neNI {n : Int} (h : Q (.bl true) H) : uNe K .non (.int n) H Q := .inl ⟨rfl, h⟩
theorem w_eqIN {n : Int} (h : Q (.bl false) H) : uEq K (.int n) .non H Q := .inl ⟨rfl, h⟩
theorem w_neIN {n : Int} (h : Q (.bl true) H) : uNe K (.int n) .non H Q := .inl ⟨rfl, h⟩
theorem w_neI {m n : Int} (h : Q (.bl (!decide (m = n))) H) : uNe K (.int m) (.int n) H Q := h
theorem w_neS {m n : Str} (h : Q (.bl (!decide (m = n))) H) : uNe K (.str m) (.str n) H Q := h
theorem w_neB {m n : Bool} (h : Q (.bl (!decide (m = n))) H) : uNe K (.bl m) (.bl n) H Q := h
theorem w_lt {m n : Int} (h : Q (.bl (decide (m < n))) H) : uLt K (.int m) (.int n) H Q := h
theorem w_le {m n : Int} (h : Q (.bl (decide (m ≤ n))) H) : uLe K (.int m) (.int n) H Q := h
theorem w_gt {m n : Int} (h : Q (.bl (decide (n < m))) H) : uGt (.int m) (.int n) H Q := h
theorem w_ge {m n : Int} (h : Q (.bl (decide (n ≤ m))) H) : uGe K (.int m) (.int n) H Q := h
theorem w_cb {q : List V → Hp → VK → Prop} (h : tA σ H fun vs H1 => q vs H1 Q) : tCB q tA σ H Q := h
theorem w_call (h : tA σ H fun vs H1 => sp vs H1 Q fun c d H2 => W c d σ H2) : uCall sp W tA σ H Q := h
theorem w_tru (h : te σ H fun x H1 => truV K x H1 QB) : uTru K te σ H QB := h
theorem w_truB {b : Bool} (h : QB b H) : truV K (.bl b) H QB := h
theorem w_truN (h : QB false H) : truV K .non H QB := h
theorem w_truI {m : Int} (h : QB (!decide (m = 0)) H) : truV K (.int m) H QB := h
theorem w_isi_int_int {m : Int} (h : Q (.bl true) H) : uIsi K .int [(.int m), .ty "int"] H Q := ⟨rfl, h⟩
theorem w_isi_int_bl {m : Bool} (h : Q (.bl true) H) : uIsi K .int [(.bl m), .ty "int"] H Q := ⟨rfl, h⟩
theorem w_isi_int_str {m : Str} (h : Q (.bl false) H) : uIsi K .int [(.str m), .ty "int"] H Q := ⟨rfl, h⟩
theorem w_isi_int_non  (h : Q (.bl false) H) : uIsi K .int [.non, .ty "int"] H Q := ⟨rfl, h⟩
theorem w_isi_bool_int {m : Int} (h : Q (.bl false) H) : uIsi K .bool [(.int m), .ty "bool"] H Q := ⟨rfl, h⟩
theorem w_isi_bool_bl {m : Bool} (h : Q (.bl true) H) : uIsi K .bool [(.bl m), .ty "bool"] H Q := ⟨rfl, h⟩
theorem w_isi_bool_str {m : Str} (h : Q (.bl false) H) : uIsi K .bool [(.str m), .ty "bool"] H Q := ⟨rfl, h⟩
theorem w_isi_bool_non  (h : Q (.bl false) H) : uIsi K .bool [.non, .ty "bool"] H Q := ⟨rfl, h⟩
theorem w_isi_str_int {m : Int} (h : Q (.bl false) H) : uIsi K .str [(.int m), .ty "str"] H Q := ⟨rfl, h⟩
theorem w_isi_str_bl {m : Bool} (h : Q (.bl false) H) : uIsi K .str [(.bl m), .ty "str"] H Q := ⟨rfl, h⟩
theorem w_isi_str_str {m : Str} (h : Q (.bl true) H) : uIsi K .str [(.str m), .ty "str"] H Q := ⟨rfl, h⟩
theorem w_isi_str_non  (h : Q (.bl false) H) : uIsi K .str [.non, .ty "str"] H Q := ⟨rfl, h⟩
theorem w_isi_list_int {m : Int} (h : Q (.bl false) H) : uIsi K .list [(.int m), .ty "list"] H Q := ⟨rfl, h⟩
theorem w_isi_list_bl {m : Bool} (h : Q (.bl false) H) : uIsi K .list [(.bl m), .ty "list"] H Q := ⟨rfl, h⟩
theorem w_isi_list_str {m : Str} (h : Q (.bl false) H) : uIsi K .list [(.str m), .ty "list"] H Q := ⟨rfl, h⟩
theorem w_isi_list_non  (h : Q (.bl false) H) : uIsi K .list [.non, .ty "list"] H Q := ⟨rfl, h⟩
theorem w_isi_tuple_int {m : Int} (h : Q (.bl false) H) : uIsi K .tuple [(.int m), .ty "tuple"] H Q := ⟨rfl, h⟩
theorem w_isi_tuple_bl {m : Bool} (h : Q (.bl false) H) : uIsi K .tuple [(.bl m), .ty "tuple"] H Q := ⟨rfl, h⟩
theorem w_isi_tuple_str {m : Str} (h : Q (.bl false) H) : uIsi K .tuple [(.str m), .ty "tuple"] H Q := ⟨rfl, h⟩
theorem w_isi_tuple_non  (h : Q (.bl false) H) : uIsi K .tuple [.non, .ty "tuple"] H Q := ⟨rfl, h⟩
theorem w_is_int {m : Int} (h : Q (.bl false) H) : uIs (.int m) .non H Q := h
theorem w_isnt_int {m : Int} (h : Q (.bl true) H) : uIsnt (.int m) .non H Q := h
theorem w_is_bl {m : Bool} (h : Q (.bl false) H) : uIs (.bl m) .non H Q := h
theorem w_isnt_bl {m : Bool} (h : Q (.bl true) H) : uIsnt (.bl m) .non H Q := h
theorem w_is_str {m : Str} (h : Q (.bl false) H) : uIs (.str m) .non H Q := h
theorem w_isnt_str {m : Str} (h : Q (.bl true) H) : uIsnt (.str m) .non H Q := h
theorem w_is_non  (h : Q (.bl true) H) : uIs .non .non H Q := h
theorem w_isnt_non  (h : Q (.bl false) H) : uIsnt .non .non H Q := h
theorem w_is_ref {m : Addr} (h : Q (.bl false) H) : uIs (.ref m) .non H Q := h
theorem w_isnt_ref {m : Addr} (h : Q (.bl true) H) : uIsnt (.ref m) .non H Q := h
theorem ifNT {A B : Prop} (h : B) : if (!true) = true then A else B := iteF h
theorem ifNF {A B : Prop} (h : A) : if (!false) = true then A else B := iteT h
theorem w_max {m n : Int} (h : Q (.int (if n > m then n else m)) H) : uMax K [.int m, .int n] H Q := h
theorem w_min {m n : Int} (h : Q (.int (if n < m then n else m)) H) : uMin K [.int m, .int n] H Q := h
theorem w_abs {m : Int} (h : Q (.int (if m < 0 then -m else m)) H) : uAbs [.int m] H Q := h
theorem w_intI {m : Int} (h : Q (.int m) H) : uInt [.int m] H Q := h
theorem w_intB {m : Bool} (h : Q (.int (if m then 1 else 0)) H) : uInt [.bl m] H Q := h
theorem w_lenL {p : Addr} {xs : List V} (e : SqL K H p xs) (h : Q (.int xs.length) H) : uLen K [.ref p] H Q := .inl ⟨xs, .inl e, h⟩
theorem w_lenT {p : Addr} {xs : List V} (e : SqT K H p xs) (h : Q (.int xs.length) H) : uLen K [.ref p] H Q := .inl ⟨xs, .inr e, h⟩
theorem w_ixL {p : Addr} {xs : List V} {n : Int} {k : Nat} (e : SqL K H p xs) (ek : n = (k : Int)) (ev : xs[k]? = some v) (h : Q v H) : uIx K (.ref p) (.int n) H Q := ⟨xs, v, .inl e, by rw [ek]; exact atI_nat ev, h⟩
theorem w_ixT {p : Addr} {xs : List V} {n : Int} {k : Nat} (e : SqT K H p xs) (ek : n = (k : Int)) (ev : xs[k]? = some v) (h : Q v H) : uIx K (.ref p) (.int n) H Q := ⟨xs, v, .inr e, by rw [ek]; exact atI_nat ev, h⟩
theorem w_app {p : Addr} {xs : List V} (e : H p = some (.lst xs)) (s : xs.length < sizeLine) (h : Q .non (upd H p (.lst (xs ++ [y])))) : rAppend (.ref p) [y] H Q := ⟨p, xs, y, rfl, rfl, e, s, h⟩
theorem w_ixI {p : Addr} {ns : List Int} {n : Int} (e : SqL K H p (ns.map V.int)) (h0 : 0 ≤ n ∧ n.toNat < ns.length) (h : Q (.int (ns.getD n.toNat 0)) H) : uIx K (.ref p) (.int n) H Q :=
  ⟨_, .int (ns.getD n.toNat 0), .inl e, by
    have z : (ns.map V.int)[n.toNat]? = some (.int (ns.getD n.toNat 0)) := by rw [List.getElem?_map, List.getElem?_eq_getElem h0.2, List.getD_eq_getElem?_getD, List.getElem?_eq_getElem h0.2]; rfl
    have y := atI_nat z
    rw [show ((n.toNat : Nat) : Int) = n by omega] at y
    exact y, h⟩
theorem w_ixTI {p : Addr} {ns : List Int} {n : Int} (e : SqT K H p (ns.map V.int)) (h0 : 0 ≤ n ∧ n.toNat < ns.length) (h : Q (.int (ns.getD n.toNat 0)) H) : uIx K (.ref p) (.int n) H Q :=
  ⟨_, .int (ns.getD n.toNat 0), .inr e, by
    have z : (ns.map V.int)[n.toNat]? = some (.int (ns.getD n.toNat 0)) := by rw [List.getElem?_map, List.getElem?_eq_getElem h0.2, List.getD_eq_getElem?_getD, List.getElem?_eq_getElem h0.2]; rfl
    have y := atI_nat z
    rw [show ((n.toNat : Nat) : Int) = n by omega] at y
    exact y, h⟩
theorem w_appI {p : Addr} {ns : List Int} {z : Int} (e : H p = some (.lst (ns.map V.int))) (s : ns.length < 10000000) (h : Q .non (upd H p (.lst ((ns ++ [z]).map V.int)))) : rAppend (.ref p) [.int z] H Q :=
  ⟨p, _, _, rfl, rfl, e, by rw [List.length_map]; exact Nat.lt_of_lt_of_le s (by decide), by rw [List.map_append] at h; exact h⟩
theorem w_gsub {to ti : TE} {ts : TSet} {N : L2.St → Hp → Prop} (h : to σ H fun o H1 => ti σ H1 fun i H2 => ts o i v H2 fun H3 => N σ H3) : gSub to ti ts v σ H N := h
theorem ixN_in {n : Nat} {k : Int} (h : 0 ≤ k ∧ k.toNat < n) : ixN n k = some k.toNat := by unfold ixN; rw [if_pos h.1, if_pos (by omega)]
theorem w_setL {p : Addr} {xs : List V} {k : Int} {N : Hp → Prop} (e : H p = some (.lst xs)) (h0 : 0 ≤ k ∧ k.toNat < xs.length) (h : N (upd H p (.lst (xs.set k.toNat y)))) : uSet (.ref p) (.int k) y H N := .inl ⟨xs, _, e, ixN_in h0, h⟩
theorem w_ixA {p : Addr} {xs : List V} {n : Int} (e : SqL K H p xs) (h0 : 0 ≤ n ∧ n.toNat < xs.length) (h : ∀ v, xs[n.toNat]? = some v → Q v H) : uIx K (.ref p) (.int n) H Q :=
  ⟨xs, xs[n.toNat]'h0.2, .inl e, by
    have y := atI_nat (List.getElem?_eq_getElem h0.2)
    rw [show ((n.toNat : Nat) : Int) = n by omega] at y
    exact y, h _ (List.getElem?_eq_getElem h0.2)⟩
theorem w_ttupL {p : Addr} {xs : List V} (e : SqL K H p xs) (h : ∀ l, H l = none → Q (.ref l) (upd H l (.tup xs))) : uTuple K [.ref p] H Q := ⟨xs, .inl ⟨e, h⟩⟩
def partQ (x : V) (H1 : Hp) (Q : Option Int → Hp → Prop) : Prop := ∃ i, x = .int i ∧ Q (some i) H1
theorem w_sl {rs : V → Option Int → Option Int → Hp → VK → Prop} {tl th : TO} (h : te σ H fun x H1 => tl σ H1 fun l H2 => th σ H2 fun u H3 => rs x l u H3 Q) : tSl rs te tl th σ H Q := h
theorem w_part {Q : Option Int → Hp → Prop} (h : te σ H fun x H1 => partQ x H1 Q) : tPart te σ H Q := h
theorem w_partI {Q : Option Int → Hp → Prop} {n : Int} (h : Q (some n) H) : partQ (.int n) H Q := ⟨n, rfl, h⟩
theorem w_noPart {Q : Option Int → Hp → Prop} (h : Q none H) : tNoPart σ H Q := h
theorem cut_take (xs : List V) (k : Nat) : cutV xs none (some (k : Int)) = xs.take k := by
  unfold cutV
  rw [HT.sIx_nat, HT.sIx_none, List.drop_zero, Nat.sub_zero, ← List.take_take, List.take_length]
theorem cut_drop (xs : List V) (k : Nat) : cutV xs (some (k : Int)) none = xs.drop k := by
  unfold cutV
  rw [HT.sIx_nat, HT.sIx_none]
  rcases Nat.le_total k xs.length with h | h
  · rw [Nat.min_eq_left h]; exact List.take_of_length_le (by rw [List.length_drop]; exact Nat.le_refl _)
  · rw [Nat.min_eq_right h, List.drop_length, List.drop_eq_nil_of_le h, List.take_nil]
theorem cut_mid (xs : List V) (i j : Nat) (h : i ≤ j) (hj : j ≤ xs.length) : cutV xs (some (i : Int)) (some (j : Int)) = (xs.drop i).take (j - i) := by
  unfold cutV
  rw [HT.sIx_nat, HT.sIx_nat, Nat.min_eq_left (Nat.le_trans h hj), Nat.min_eq_left hj]
theorem w_slL {p : Addr} {xs : List V} {lo hi : Option Int} (e : SqL K H p xs) (h : ∀ q, H q = none → Q (.ref q) (upd H q (.lst (cutV xs lo hi)))) : uSl K (.ref p) lo hi H Q := .inl ⟨p, xs, rfl, e, h⟩
theorem w_ixTl {p : Addr} {xs : List V} {n : Int} (e : SqT K H p xs) (ev : xs[n.toNat]? = some v) (h0 : 0 ≤ n) (h : Q v H) : uIx K (.ref p) (.int n) H Q := w_ixT (k := n.toNat) e (by omega) ev h
theorem w_ixLl {p : Addr} {xs : List V} {n : Int} (e : SqL K H p xs) (ev : xs[n.toNat]? = some v) (h0 : 0 ≤ n) (h : Q v H) : uIx K (.ref p) (.int n) H Q := w_ixL (k := n.toNat) e (by omega) ev h
theorem w_bm {T : String} {q : V → List V → Hp → VK → Prop} (h : te σ H fun x H1 => bmQ K T q tA σ x H1 Q) : tBM K T q te tA σ H Q := h
theorem w_bmL {q : V → List V → Hp → VK → Prop} {p : Addr} {xs : List V} (e : H p = some (.lst xs)) (h : tA σ H fun vs H2 => q (.ref p) vs H2 Q) : bmQ K "list" q tA σ (.ref p) H Q := ⟨.inl ⟨rfl, _, .inl (.inl e)⟩, h⟩
theorem w_bmS {q : V → List V → Hp → VK → Prop} {z : Str} (h : tA σ H fun vs H2 => q (.str z) vs H2 Q) : bmQ K "str" q tA σ (.str z) H Q := ⟨rfl, h⟩
theorem w_tlist {p : Addr} {xs : List V} (e : SqL K H p xs) (h : ∀ l, H l = none → Q (.ref l) (upd H l (.lst xs))) : uList K [.ref p] H Q := ⟨xs, .inl e, h⟩
theorem w_tlistT {p : Addr} {xs : List V} (e : SqT K H p xs) (h : ∀ l, H l = none → Q (.ref l) (upd H l (.lst xs))) : uList K [.ref p] H Q := ⟨xs, .inr e, h⟩
theorem w_for {wi : TI} {tb : TS} (h : wi σ H fun J H1 => forQ g tb D σ J H1) : tFor wi g tb D σ H := h
theorem f_range {tb : TS} {lo : Int} {n : Nat} (Pv : Nat → L2.St → Hp → Prop) (h0 : Pv 0 σ H)
    (hs : ∀ i σ H, i < n → Pv i σ H → g (.int (lo + i)) σ H fun σ2 H2 => tb { D with nx := Pv (i + 1), ct := Pv (i + 1), bk := D.nx } σ2 H2) (hd : ∀ σ H, Pv n σ H → D.nx σ H) : forQ g tb D σ (Itr lo n) H := for_range Pv h0 hs hd
theorem f_list {tb : TS} {a : Addr} {xs : List V} (Pv : Nat → L2.St → Hp → Prop) (h0 : Pv 0 σ H) (hl : ∀ i σ H, i ≤ xs.length → Pv i σ H → SqL K H a xs)
    (hs : ∀ i x σ H, xs[i]? = some x → Pv i σ H → g x σ H fun σ2 H2 => tb { D with nx := Pv (i + 1), ct := Pv (i + 1), bk := D.nx } σ2 H2) (hd : ∀ σ H, Pv xs.length σ H → D.nx σ H) : forQ g tb D σ (Itl K a) H := for_list Pv h0 hl hs hd
theorem w_rng1 {R : It → Hp → Prop} (h : tA σ H fun vs H1 => rng1Q vs H1 R) : iRng1 tA σ H R := h
theorem w_rng1v {R : It → Hp → Prop} {n : Int} (h1 : -(2 ^ 62) ≤ n) (h2 : n < 2 ^ 62) (h : R (Itr 0 n.toNat) H) : rng1Q [.int n] H R := ⟨n, rfl, h1, h2, h⟩
theorem w_rng2 {R : It → Hp → Prop} (h : tA σ H fun vs H1 => rng2Q vs H1 R) : iRng2 tA σ H R := h
theorem w_rng2v {R : It → Hp → Prop} {m n : Int} (h1 : -(2 ^ 62) ≤ m ∧ m < 2 ^ 62 ∧ -(2 ^ 62) ≤ n ∧ n < 2 ^ 62) (h : R (Itr m (n - m).toNat) H) : rng2Q [.int m, .int n] H R := ⟨m, n, rfl, h1, h⟩
theorem w_iList {R : It → Hp → Prop} (h : te σ H fun x H1 => listQ K x H1 R) : iList K te σ H R := h
theorem w_iListv {R : It → Hp → Prop} {p : Addr} {xs : List V} (e : SqL K H p xs) (h : R (Itl K p) H) : listQ K (.ref p) H R := ⟨p, rfl, ⟨xs, e⟩, h⟩
theorem w_iTup {R : It → Hp → Prop} (h : te σ H fun x H1 => tupQ K x H1 R) : iTup K te σ H R := h
theorem w_iTupv {R : It → Hp → Prop} {p : Addr} {xs : List V} (e : SqT K H p xs) (h : R (Itt K p) H) : tupQ K (.ref p) H R := ⟨p, rfl, ⟨xs, e⟩, h⟩
theorem w_iStr {R : It → Hp → Prop} (h : te σ H fun x H1 => strQ x H1 R) : iStr te σ H R := h
theorem w_iStrv {R : It → Hp → Prop} {z : Str} (h : R (Its z) H) : strQ (.str z) H R := ⟨z, rfl, h⟩
theorem w_iRev {R : It → Hp → Prop} (h : tA σ H fun vs H1 => revQ K vs H1 R) : iRev K tA σ H R := h
theorem w_iRevv {R : It → Hp → Prop} {p : Addr} {xs : List V} (e : SqL K H p xs) (h : R (Itv K p xs.length) H) : revQ K [.ref p] H R := ⟨p, xs, rfl, e, h⟩
theorem w_raise {C : Addr} (h : W (.ref C) none σ H) : uRaise C W D σ H := h
theorem w_fld {C : Addr} (h : te σ H fun x H1 => fldQ C f x H1 Q) : uFld C f te σ H Q := h
theorem w_fldv {C p dx : Addr} {fs : List (Str × V)} (e : H p = some (.ins C dx fs)) (l : fs.lookup f = some v) (h : Q v H) : fldQ C f (.ref p) H Q := ⟨p, dx, fs, v, rfl, e, l, h⟩
theorem w_meth {C : Addr} {m : Str} (h : te σ H fun x H1 => methQ C m sp W tA σ x H1 Q) : uMeth C m sp W te tA σ H Q := h
theorem w_methv {C p dx : Addr} {m : Str} {fs : List (Str × V)} (e : H p = some (.ins C dx fs)) (l : fs.lookup m = none) (h : tA σ H fun vs H2 => sp (.ref p :: vs) H2 Q fun c d H3 => W c d σ H3) : methQ C m sp W tA σ (.ref p) H Q := ⟨p, dx, fs, rfl, e, l, h⟩
theorem w_setf {C : Addr} (h : tv σ H fun y H1 => te σ H1 fun x H2 => setfQ C f x y H2 (D.nx σ)) : uSetF C f te tv D σ H := h
theorem w_setfv {C p dx : Addr} {fs fs' : List (Str × V)} {N : Hp → Prop} (e : H p = some (.ins C dx fs)) (l : fs.length < 1000) (e2 : putF f y fs = fs') (h : N (upd H p (.ins C dx fs'))) : setfQ C f (.ref p) y H N := ⟨p, dx, fs, rfl, e, l, by rw [e2]; exact h⟩
theorem ifP {p A B : Prop} [Decidable p] (h1 : p → A) (h2 : ¬ p → B) : if decide p = true then A else B := by
  by_cases h : p
  · rw [if_pos (decide_eq_true h)]; exact h1 h
  · rw [if_neg (by rw [decide_eq_false h]; decide)]; exact h2 h
theorem ifN {p A B : Prop} [Decidable p] (h2 : ¬ p → A) (h1 : p → B) : if (!decide p) = true then A else B := by
  by_cases h : p
  · rw [if_neg (by rw [decide_eq_true h]; decide)]; exact h1 h
  · rw [if_pos (by rw [decide_eq_false h]; rfl)]; exact h2 h
theorem ifB {A B : Prop} (h1 : b = true → A) (h2 : b = false → B) : if b = true then A else B := by
  cases b
  · rw [if_neg Bool.false_ne_true]; exact h2 rfl
  · rw [if_pos rfl]; exact h1 rfl
theorem ifBN {A B : Prop} (h1 : b = false → A) (h2 : b = true → B) : if (!b) = true then A else B := by
  cases b
  · exact iteT (h1 rfl)
  · exact iteF (h2 rfl)
end steps
section heaps
variable {K : PySem.W.Frag} {H H' : Hp} {p q : Addr} {o u : HO} {xs : List V}
theorem upd_old (h : H q = some u) (n : H p = none) : upd H p o q = some u := by rw [upd_ne (ne_of_none h n)]; exact h
theorem upd_oth (h : H q = some u) (n : q ≠ p) : upd H p o q = some u := by rw [upd_ne n]; exact h
theorem none_of_upd (h : upd H p o q = none) : H q = none ∧ q ≠ p := by
  unfold upd at h
  split at h
  · cases h
  · exact ⟨h, by assumption⟩
theorem rd_old (h : Rd H q u) (n : H p = none) : Rd (upd H p o) q u := by
  rcases h with h | ⟨o', h⟩
  · exact .inl (upd_old h n)
  · exact .inr ⟨o', upd_old h n⟩
theorem rd_oth (h : Rd H q u) (n : q ≠ p) : Rd (upd H p o) q u := by
  rcases h with h | ⟨o', h⟩
  · exact .inl (upd_oth h n)
  · exact .inr ⟨o', upd_oth h n⟩
theorem sql_old (h : SqL K H q xs) (n : H p = none) : SqL K (upd H p o) q xs := h.imp (fun h => rd_old h n) id
theorem sql_oth (h : SqL K H q xs) (n : q ≠ p) : SqL K (upd H p o) q xs := h.imp (fun h => rd_oth h n) id
theorem sqt_old (h : SqT K H q xs) (n : H p = none) : SqT K (upd H p o) q xs := h.imp (fun h => rd_old h n) id
/-- a tuple is never the thing that is written -/
theorem sqt_wr {w : HO} (h : SqT K H q xs) (hw : H p = some w) (n : ∀ ys, w ≠ .tup ys) (n2 : ∀ ob ys, w ≠ .frz ob ys) : SqT K (upd H p o) q xs := by
  refine h.imp (fun h => ?_) id
  rcases h with h | ⟨o', h⟩
  · exact .inl (upd_oth h fun e => by subst e; rw [hw] at h; exact n _ (Option.some.inj h))
  · exact .inr ⟨o', upd_oth h fun e => by subst e; rw [hw] at h; exact n2 _ _ (Option.some.inj h)⟩
theorem same_new (n : H p = none) : Same H (upd H p o) := fun b w h => upd_old h n
theorem same_upd {H1 : Hp} (s : Same H H1) (n : H p = none) : Same H (upd H1 p o) := fun b w h => by rw [upd_ne (ne_of_none h n)]; exact s b w h
theorem same_updN {H1 : Hp} (s : Same H H1) (n : H1 p = none) : Same H (upd H1 p o) := fun b w h => upd_old (s b w h) n
theorem Same.sqt (e : Same H H') (h : SqT K H q xs) : SqT K H' q xs := by
  rcases h with (h | ⟨o, h⟩) | h
  · exact .inl (.inl (e _ _ h))
  · exact .inl (.inr ⟨o, e _ _ h⟩)
  · exact .inr h
end heaps
section steps2
variable {K : PySem.W.Frag} {σ : L2.St} {H : Hp} {Q : VK} {C p : Addr} {sp : Sp} {W : WX} {t : TA} {te td ty tv : TE} {x y v : V} {kvs : List (Key × V)} {i : Int} {N : L2.St → Hp → Prop}
def mkQ (C : Addr) (sp : Sp) (W : WX) (σ : L2.St) (vs : List V) (H1 : Hp) (Q : VK) : Prop := ∀ x dx, H1 x = none → H1 dx = none → dx ≠ x → sp (.ref x :: vs) (upd (upd H1 dx (.own x)) x (.ins C dx [])) (fun v H2 => v = .non ∧ Q (.ref x) H2) fun c d H2 => W c d σ H2
theorem w_make (h : t σ H fun vs H1 => mkQ C sp W σ vs H1 Q) : uMake C sp W t σ H Q := h
def dgQ (x y : V) (H : Hp) (Q : VK) : Prop := ∃ a v, x = .ref a ∧ DGet H a y (some v) ∧ Q v H
theorem w_dget (h : td σ H fun x H1 => ty σ H1 fun y H2 => dgQ x y H2 Q) : tDGet td ty σ H Q := h
theorem w_dgetI (e : H p = some (.dK kvs)) (l : valV kvs (.inl i) = some v) (h : Q v H) : dgQ (.ref p) (.int i) H Q := ⟨p, v, rfl, by have z := DGet.k (k := .inl i) e; rw [l] at z; exact z, h⟩
theorem w_inD (e : H p = some (.dK kvs)) (h : Q (.bl (valV kvs (.inl i)).isSome) H) : uIn K (.int i) (.ref p) H Q := .inr ⟨_, DGet.k (k := .inl i) e, h⟩
theorem w_ninD (e : H p = some (.dK kvs)) (h : Q (.bl (!(valV kvs (.inl i)).isSome)) H) : uNin K (.int i) (.ref p) H Q := .inr ⟨_, DGet.k (k := .inl i) e, h⟩
def dpQ (x y v : V) (H : Hp) (N : Hp → Prop) : Prop := ∃ a H4, x = .ref a ∧ DPut H a y v H4 ∧ N H4
theorem w_dput {D : Ends} (h : tv σ H fun v H1 => td σ H1 fun x H2 => ty σ H2 fun y H3 => dpQ x y v H3 (D.nx σ)) : sDPut td ty tv D σ H := h
theorem w_dputI {M : Hp → Prop} (e : H p = some (.dK kvs)) (l : kvs.length < 10000000) (h : M (upd H p (.dK (putK kvs (.inl i) v)))) : dpQ (.ref p) (.int i) v H M := ⟨p, _, rfl, DPut.k (k := .inl i) e (Nat.lt_of_lt_of_le l (by decide)), h⟩
theorem w_newD (h : ∀ p, H p = none → Q (.ref p) (upd H p (.dK []))) : tDNewK σ H Q := h
/-- a list times a number -/
theorem w_rep {xs : List V} {k : Int} (e : H p = some (.lst xs)) (h0 : 0 ≤ k) (h1 : k ≤ 100000) (h2 : xs.length ≤ 100) (h : ∀ q, H q = none → Q (.ref q) (upd H q (.lst (List.replicate k.toNat xs).flatten))) : uMul (.ref p) (.int k) H Q := by
  refine ⟨p, k, xs, rfl, rfl, e, by omega, by omega, ?_, h⟩
  have h3 : k.toNat ≤ 100000 := by omega
  have h4 : xs.length * k.toNat ≤ 100 * 100000 := Nat.mul_le_mul h2 h3
  exact Nat.le_trans h4 (by decide)
theorem rep1 (n : Nat) (z : Int) : (List.replicate n [V.int z]).flatten = (List.replicate n z).map V.int := by
  induction n with
  | zero => rfl
  | succ n ih => rw [List.replicate_succ, List.flatten_cons, ih, List.replicate_succ, List.map_cons]; rfl
theorem w_rep1 {z k : Int} (e : H p = some (.lst [.int z])) (h0 : 0 ≤ k) (h1 : k ≤ 100000) (h : ∀ q, H q = none → Q (.ref q) (upd H q (.lst ((List.replicate k.toNat z).map V.int)))) : uMul (.ref p) (.int k) H Q :=
  w_rep e h0 h1 (by simp) fun q hq => by rw [rep1]; exact h q hq
theorem w_gtup2 {a : Addr} {u : TGs} (e : SqT K H a [x, y]) (h : u [x, y] σ H N) : gTup K 2 u (.ref a) σ H N := ⟨a, _, rfl, e, rfl, h⟩
theorem w_gtup3 {a : Addr} {u : TGs} {z : V} (e : SqT K H a [x, y, z]) (h : u [x, y, z] σ H N) : gTup K 3 u (.ref a) σ H N := ⟨a, _, rfl, e, rfl, h⟩
theorem w_gtup4 {a : Addr} {u : TGs} {z w : V} (e : SqT K H a [x, y, z, w]) (h : u [x, y, z, w] σ H N) : gTup K 4 u (.ref a) σ H N := ⟨a, _, rfl, e, rfl, h⟩
theorem w_gcons {g : TG} {u : TGs} {r : List V} (h : g v σ H fun σ' H' => u r σ' H' N) : gCons g u (v :: r) σ H N := ⟨v, r, rfl, h⟩
theorem w_gnil (h : N σ H) : gNil [] σ H N := ⟨rfl, h⟩
def augQ (C : Addr) (f : Str) (r : V → V → Hp → VK → Prop) (tv : TE) (D : Ends) (σ : L2.St) (x : V) (H1 : Hp) : Prop := ∃ a dx fs v, x = .ref a ∧ H1 a = some (.ins C dx fs) ∧ fs.lookup f = some v ∧
  tv σ H1 fun y H2 => r v y H2 fun z H3 => ∃ dx' fs', H3 a = some (.ins C dx' fs') ∧ fs'.length < 1000 ∧ D.nx σ (upd H3 a (.ins C dx' (putF f z fs')))
theorem w_augf {D : Ends} {f : Str} {r : V → V → Hp → VK → Prop} (h : te σ H fun x H1 => augQ C f r tv D σ x H1) : uAugF C f r te tv D σ H := h
theorem w_augsub {D : Ends} {f : Str} {dx : Addr} {fs : List (Str × V)} {i j : Int} (e : H p = some (.ins C dx fs)) (l : fs.lookup f = some (.int i)) (s : fs.length < 1000) (h : D.nx σ (upd H p (.ins C dx (putF f (.int (i - j)) fs)))) : augQ C f rSub (tC (.int j)) D σ (.ref p) H :=
  ⟨p, dx, fs, _, rfl, e, l, i, j, rfl, rfl, dx, fs, e, s, h⟩
theorem w_augadd {D : Ends} {f : Str} {dx : Addr} {fs : List (Str × V)} {i j : Int} (e : H p = some (.ins C dx fs)) (l : fs.lookup f = some (.int i)) (s : fs.length < 1000) (h : D.nx σ (upd H p (.ins C dx (putF f (.int (i + j)) fs)))) : augQ C f rAdd (tC (.int j)) D σ (.ref p) H :=
  ⟨p, dx, fs, _, rfl, e, l, i, j, rfl, rfl, dx, fs, e, s, h⟩
end steps2
section whiles
variable {D : Ends} {σ : L2.St} {H : Hp} {c : TT} {tb : TS}
def whQ (P : L2.St → Hp → Prop) (μ : L2.St → Hp → Nat) (m : Nat) (tb : TS) (D : Ends) (σ : L2.St) (H : Hp) : Prop :=
  ∃ N : L2.St → Hp → Prop, (∀ σ' H', N σ' H' → ∃ m', m' < m ∧ (m' = μ σ' H' ∧ P σ' H')) ∧ tb { D with nx := N, ct := N, bk := D.nx } σ H
theorem f_while (P : L2.St → Hp → Prop) (μ : L2.St → Hp → Nat) (h0 : P σ H) (hs : ∀ σ H, P σ H → c σ H fun b H1 => if b = true then whQ P μ (μ σ H) tb D σ H1 else D.nx σ H1) : tWhile c tb D σ H := by
  refine ⟨fun m σ H => m = μ σ H ∧ P σ H, ⟨_, rfl, h0⟩, fun m σ H q => ?_⟩
  obtain ⟨rfl, p⟩ := q
  exact hs σ H p
theorem w_wh {P : L2.St → Hp → Prop} {μ : L2.St → Hp → Nat} {m : Nat} (h : tb { D with nx := fun σ' H' => P σ' H' ∧ μ σ' H' < m, ct := fun σ' H' => P σ' H' ∧ μ σ' H' < m, bk := D.nx } σ H) : whQ P μ m tb D σ H := ⟨_, fun _ _ n => ⟨_, n.2, rfl, n.1⟩, h⟩
end whiles
section data
variable {K : PySem.W.Frag} {H : Hp} {Q : VK} {α β : Type} [DecidableEq α] [PySem.W.Datum α] [DecidableEq β] [PySem.W.Datum β]
def Dt (K : PySem.W.Frag) (H : Hp) (v : V) (a : α) : Prop := Dp K H v (PySem.W.Datum.toD a)
def DtAll (K : PySem.W.Frag) (H : Hp) (vs : List V) (as : List α) : Prop := DpAll K H vs (as.map PySem.W.Datum.toD)
theorem Dt.int {i : Int} : Dt K H (.int i) i := Dp.int i
theorem Dt.bl {i : Bool} : Dt K H (.bl i) i := Dp.bl i
theorem Dt.str {i : Str} : Dt K H (.str i) i := Dp.str i
theorem Dt.list {p : Addr} {vs : List V} {as : List α} (e : SqL K H p vs) (h : DtAll K H vs as) : Dt K H (.ref p) as := Dp.lst e h
theorem Dt.tup {p : Addr} {vs : List V} {as : List α} (e : SqT K H p vs) (h : DtAll K H vs as) : Dt K H (.ref p) (PySem.W.Tup.mk as) := Dp.tup e h
theorem Dt.pair {p : Addr} {x y : V} {a : α} {b : β} (e : SqT K H p [x, y]) (h1 : Dt K H x a) (h2 : Dt K H y b) : Dt K H (.ref p) (a, b) := Dp.tup e (DpAll.cons h1 (DpAll.cons h2 DpAll.nil))
theorem DtAll.nil : DtAll K H [] ([] : List α) := DpAll.nil
theorem DtAll.cons {v : V} {vs : List V} {a : α} {as : List α} (h : Dt K H v a) (hs : DtAll K H vs as) : DtAll K H (v :: vs) (a :: as) := DpAll.cons h hs
theorem DtAll.ints : ∀ (ns : List Int), DtAll K H (ns.map V.int) ns
  | [] => DpAll.nil
  | _ :: ns => DpAll.cons (Dp.int _) (DtAll.ints ns)
theorem DtAll.get : ∀ {vs : List V} {as : List α} {i : Nat} {v : V}, DtAll K H vs as → vs[i]? = some v → ∃ a, as[i]? = some a ∧ Dt K H v a
  | [], [], _, _, _, e => by cases e
  | [], _ :: _, _, _, h, _ => by cases h
  | _ :: _, [], _, _, h, _ => by cases h
  | _ :: _, a :: as, 0, v, h, e => by
    cases h with
    | cons h1 h2 => cases e; exact ⟨a, rfl, h1⟩
  | _ :: _, _ :: _, i + 1, v, h, e => by
    cases h with
    | cons h1 h2 => exact DtAll.get (i := i) h2 e
theorem DtAll.length : ∀ {vs : List V} {as : List α}, DtAll K H vs as → vs.length = as.length
  | [], [], _ => rfl
  | [], _ :: _, h => by cases h
  | _ :: _, [], h => by cases h
  | _ :: vs, _ :: as, h => by
    cases h with
    | cons h1 h2 => rw [List.length_cons, List.length_cons, DtAll.length h2]
theorem DtAll.append : ∀ {vs ws : List V} {as bs : List α}, DtAll K H vs as → DtAll K H ws bs → DtAll K H (vs ++ ws) (as ++ bs)
  | [], _, [], _, _, k => k
  | [], _, _ :: _, _, h, _ => by cases h
  | _ :: _, _, [], _, h, _ => by cases h
  | _ :: _, _, _ :: _, _, h, k => by
    cases h with
    | cons h1 h2 => exact DpAll.cons h1 (DtAll.append h2 k)
theorem w_eqD {x y : V} {a b : α} (h1 : Dt K H x a) (h2 : Dt K H y b) (hd : PySem.W.Datum.depth α ≤ 60) (hx : ∃ p, x = .ref p) (h : Q (.bl (decide (a = b))) H) : uEq K x y H Q := by
  obtain ⟨p, rfl⟩ := hx
  have z : rEqP K (.ref p) y H Q := ⟨_, _, h1, h2, ⟨PySem.W.Datum.plain a, Nat.le_trans (PySem.W.Datum.depth_le a) hd⟩, PySem.W.Datum.plain b, by rw [PySem.W.Datum.eqv]; exact h⟩
  unfold uEq; exact .inr z
theorem w_neD {x y : V} {a b : α} (h1 : Dt K H x a) (h2 : Dt K H y b) (hd : PySem.W.Datum.depth α ≤ 60) (hx : ∃ p, x = .ref p) (h : Q (.bl (!decide (a = b))) H) : uNe K x y H Q := by
  obtain ⟨p, rfl⟩ := hx
  have z : rNeP K (.ref p) y H Q := ⟨_, _, h1, h2, ⟨PySem.W.Datum.plain a, Nat.le_trans (PySem.W.Datum.depth_le a) hd⟩, PySem.W.Datum.plain b, by rw [PySem.W.Datum.eqv]; exact h⟩
  unfold uNe; exact .inr z
mutual
theorem Dp.same {H' : Hp} (s : Same H H') : ∀ {d : PyData} {v : V}, Dp K H v d → Dp K H' v d
  | .none, _, h => by cases h; exact .non
  | .bool _, _, h => by cases h; exact .bl _
  | .int _, _, h => by cases h; exact .int _
  | .str _, _, h => by cases h; exact .str _
  | .list _, _, h => by
    cases h with
    | lst e a => exact .lst (s.seq e) (DpAll.same s a)
  | .tuple _, _, h => by
    cases h with
    | tup e a =>
      refine .tup ?_ (DpAll.same s a)
      rcases e with (e | ⟨o, e⟩) | e
      · exact .inl (.inl (s _ _ e))
      · exact .inl (.inr ⟨o, s _ _ e⟩)
      · exact .inr e
  | .dict _, _, h => by cases h
theorem DpAll.same {H' : Hp} (s : Same H H') : ∀ {ds : List PyData} {vs : List V}, DpAll K H vs ds → DpAll K H' vs ds
  | [], _, h => by cases h; exact .nil
  | _ :: _, _, h => by
    cases h with
    | cons h1 h2 => exact .cons (Dp.same s h1) (DpAll.same s h2)
end
theorem Dt.same {H' : Hp} (s : Same H H') {v : V} {a : α} (h : Dt K H v a) : Dt K H' v a := Dp.same s h
theorem DtAll.same {H' : Hp} (s : Same H H') {vs : List V} {as : List α} (h : DtAll K H vs as) : DtAll K H' vs as := DpAll.same s h
end data
section tups
variable {K : PySem.W.Frag} {H : Hp}
mutual
def tupOnly : PyData → Bool
  | .list _ => false
  | .dict _ => false
  | .tuple ds => tupOnlyAll ds
  | _ => true
def tupOnlyAll : List PyData → Bool
  | [] => true
  | d :: ds => tupOnly d && tupOnlyAll ds
end
mutual
theorem Dp.wr {p : Addr} {w o : HO} (hw : H p = some w) (n : ∀ ys, w ≠ .tup ys) (n2 : ∀ ob ys, w ≠ .frz ob ys) : ∀ {d : PyData} {v : V}, tupOnly d = true → Dp K H v d → Dp K (upd H p o) v d
  | .none, _, _, h => by cases h; exact .non
  | .bool _, _, _, h => by cases h; exact .bl _
  | .int _, _, _, h => by cases h; exact .int _
  | .str _, _, _, h => by cases h; exact .str _
  | .list _, _, t, _ => by simp [tupOnly] at t
  | .tuple ds, _, t, h => by
    cases h with
    | tup e a => exact .tup (sqt_wr e hw n n2) (DpAll.wr hw n n2 (by simpa [tupOnly] using t) a)
  | .dict _, _, _, h => by cases h
theorem DpAll.wr {p : Addr} {w o : HO} (hw : H p = some w) (n : ∀ ys, w ≠ .tup ys) (n2 : ∀ ob ys, w ≠ .frz ob ys) : ∀ {ds : List PyData} {vs : List V}, tupOnlyAll ds = true → DpAll K H vs ds → DpAll K (upd H p o) vs ds
  | [], _, _, h => by cases h; exact .nil
  | d :: ds, _, t, h => by
    have t' := Bool.and_eq_true_iff.mp (show (tupOnly d && tupOnlyAll ds) = true by simpa [tupOnlyAll] using t)
    cases h with
    | cons h1 h2 => exact .cons (Dp.wr hw n n2 t'.1 h1) (DpAll.wr hw n n2 t'.2 h2)
end
end tups
section comps
variable {K : PySem.W.Frag} {σ : L2.St} {H1 : Hp} {Q : VK} {g : TG} {tt : TT} {te : TE} {vs : List Nat}
def lcQ (g : TG) (tt : TT) (te : TE) (vs : List Nat) (σ : L2.St) (J : It) (H1 : Hp) (Q : VK) : Prop := ∀ D, H1 D = none → ∃ W : Nat → Nat → Hp → Prop, (∃ m, W 0 m (upd H1 D (.lst []))) ∧ ∀ i m H, W i m H →
  (J.stop i H ∧ Q (.ref D) H) ∨ (J.go i H ∧ ∃ Nx : Hp → Prop, (∀ H', Nx H' → ∃ m', m' < m ∧ W (i + 1) m' H') ∧ ∀ x H', J.yld i H x H' → g x (wipe σ vs) H' fun σ2 H2 => wipe σ2 vs = wipe σ vs ∧ tt σ2 H2 fun b H3 =>
    if b = true then te σ2 H3 fun y H4 => ∃ acc, H4 D = some (.lst acc) ∧ acc.length < sizeLine ∧ Nx (upd H4 D (.lst (acc ++ [y]))) else Nx H3)
theorem w_lc {wi : TI} (h : wi σ H1 fun J H2 => lcQ g tt te vs σ J H2 Q) : tLc wi g tt te vs σ H1 Q := h
theorem w_yes {QB : Bool → Hp → Prop} (h : QB true H1) : tYes σ H1 QB := h
/-- what a turn of a comprehension wants: the new item, put behind the list at D -/
def putQ (D : Addr) (N : Hp → Prop) (y : V) (H4 : Hp) : Prop := ∃ acc, H4 D = some (.lst acc) ∧ acc.length < sizeLine ∧ N (upd H4 D (.lst (acc ++ [y])))
/-- a comprehension over anything that yields by its place, P the heap between the turns -/
theorem l_any {J : It} {n : Nat} {item : Nat → V → Prop} (P : Addr → Nat → Hp → Prop) (h0 : ∀ D, H1 D = none → P D 0 (upd H1 D (.lst [])))
    (hgo : ∀ D i H, H1 D = none → i < n → P D i H → J.go i H ∧ ∀ x H', J.yld i H x H' → H' = H ∧ item i x) (hst : ∀ D H, H1 D = none → P D n H → J.stop n H)
    (hs : ∀ D i x H, H1 D = none → i < n → item i x → P D i H → g x (wipe σ vs) H fun σ2 H2 => wipe σ2 vs = wipe σ vs ∧ tt σ2 H2 fun b H3 => if b = true then te σ2 H3 (putQ D (P D (i + 1))) else P D (i + 1) H3)
    (hd : ∀ D H, H1 D = none → P D n H → Q (.ref D) H) : lcQ g tt te vs σ J H1 Q := by
  intro D hD
  refine ⟨fun i m H => m = n - i ∧ i ≤ n ∧ P D i H, ⟨n, by simp, Nat.zero_le _, h0 D hD⟩, fun i m H q => ?_⟩
  obtain ⟨rfl, hi, p⟩ := q
  rcases Nat.lt_or_ge i n with hl | hl
  · obtain ⟨a, b⟩ := hgo D i H hD hl p
    refine .inr ⟨a, P D (i + 1), fun H' p' => ⟨n - (i + 1), by omega, rfl, hl, p'⟩, fun x H' y => ?_⟩
    obtain ⟨rfl, c⟩ := b x H' y
    exact hs D i x _ hD hl c p
  · obtain rfl : i = n := Nat.le_antisymm hi hl
    exact .inl ⟨hst D H hD p, hd D H hD p⟩
theorem l_range {lo : Int} {n : Nat} (P : Addr → Nat → Hp → Prop) (h0 : ∀ D, H1 D = none → P D 0 (upd H1 D (.lst [])))
    (hs : ∀ D i H, H1 D = none → i < n → P D i H → g (.int (lo + (i : Nat))) (wipe σ vs) H fun σ2 H2 => wipe σ2 vs = wipe σ vs ∧ tt σ2 H2 fun b H3 => if b = true then te σ2 H3 (putQ D (P D (i + 1))) else P D (i + 1) H3)
    (hd : ∀ D H, H1 D = none → P D n H → Q (.ref D) H) : lcQ g tt te vs σ (Itr lo n) H1 Q :=
  l_any (n := n) (item := fun i x => x = .int (lo + (i : Nat))) P h0 (fun _ i _ _ h _ => ⟨h, fun _ _ y => y⟩) (fun _ _ _ _ => Nat.le_refl _) (fun D i x H a b c p => by rw [c]; exact hs D i H a b p) hd
theorem l_list {a : Addr} {xs : List V} (P : Addr → Nat → Hp → Prop) (h0 : ∀ D, H1 D = none → P D 0 (upd H1 D (.lst []))) (hl : ∀ D i H, H1 D = none → P D i H → SqL K H a xs)
    (hs : ∀ D i x H, H1 D = none → xs[i]? = some x → P D i H → g x (wipe σ vs) H fun σ2 H2 => wipe σ2 vs = wipe σ vs ∧ tt σ2 H2 fun b H3 => if b = true then te σ2 H3 (putQ D (P D (i + 1))) else P D (i + 1) H3)
    (hd : ∀ D H, H1 D = none → P D xs.length H → Q (.ref D) H) : lcQ g tt te vs σ (Itl K a) H1 Q :=
  l_any (n := xs.length) (item := fun i x => xs[i]? = some x) P h0 (fun D i H hD h p => ⟨⟨xs, xs[i], hl D i H hD p, List.getElem?_eq_getElem h⟩, fun x H' y => ⟨y.1, y.2 xs (hl D i H hD p)⟩⟩)
    (fun D H hD p => ⟨xs, hl D _ H hD p, Nat.le_refl _⟩) (fun D i x H a b c p => hs D i x H a c p) hd
end comps
section texts
/-- the text of these signs -/
def tx (l : List Nat) : Str := ⟨l.toArray⟩
theorem tx_list (l : List Nat) : (tx l).cps.toList = l := rfl
theorem tx_len (l : List Nat) : (tx l).length = l.length := by unfold tx Str.length; exact List.size_toArray
theorem tx_app (l m : List Nat) : tx l ++ tx m = tx (l ++ m) := PySem.Str.ext' (by rw [PySem.Str.cps_append]; exact Array.toList_inj.mp (by rw [Array.toList_append]; rfl))
theorem tx_inj {l m : List Nat} : tx l = tx m ↔ l = m := ⟨fun h => by have := congrArg (fun z : Str => z.cps.toList) h; exact this, fun h => by rw [h]⟩
theorem cut_tk (l : List Nat) (k : Nat) : cutS (tx l) none (some (k : Int)) = tx (l.take k) := by
  unfold cutS
  rw [tx_len, HT.sIx_nat, HT.sIx_none, List.drop_zero, Nat.sub_zero, tx_list, ← List.take_take, List.take_length]
  rfl
theorem cut_dp (l : List Nat) (k : Nat) : cutS (tx l) (some (k : Int)) none = tx (l.drop k) := by
  unfold cutS
  rw [tx_len, HT.sIx_nat, HT.sIx_none, tx_list]
  rcases Nat.le_total k l.length with h | h
  · rw [Nat.min_eq_left h, List.take_of_length_le (by rw [List.length_drop]; exact Nat.le_refl _)]; rfl
  · rw [Nat.min_eq_right h, List.drop_length, List.drop_eq_nil_of_le h, List.take_nil]; rfl
theorem fold_rep (c : Nat) : ∀ (n : Nat) (a : Array Nat), (List.replicate n #[c]).foldl (· ++ ·) a = a ++ (List.replicate n c).toArray
  | 0, a => by simp
  | n + 1, a => by
    rw [List.replicate_succ, List.foldl_cons, fold_rep c n]
    apply Array.toList_inj.mp
    simp [List.replicate_succ]
theorem mul_one (c : Nat) (n : Nat) : Txt.mul (tx [c]) (n : Int) = tx (List.replicate n c) := by
  unfold Txt.mul
  by_cases h : (n : Int) < 1
  · rw [if_pos h]; obtain rfl : n = 0 := by omega
    rfl
  · rw [if_neg h]
    by_cases h2 : ((n : Int) == 1 || (tx [c]).length == 0) = true
    · rw [if_pos h2]
      have : (n : Int) = 1 := by
        rcases Bool.or_eq_true_iff.mp h2 with h2 | h2
        · exact eq_of_beq h2
        · cases h2
      obtain rfl : n = 1 := by omega
      rfl
    · rw [if_neg h2, Int.toNat_natCast]
      exact PySem.Str.ext' (by show (List.replicate n #[c]).foldl (· ++ ·) #[] = _; rw [fold_rep]; simp [tx])
theorem mulOk_one (c : Nat) {n : Int} (h0 : 0 ≤ n) (h1 : n ≤ 100000) : MulOk (tx [c]) n := by
  have e : (tx [c]).length = 1 := rfl
  refine ⟨?_, fun h _ => ?_, fun h _ => ?_⟩
  · rw [decide_eq_false (by omega), decide_eq_false (by omega)]; rfl
  · rw [e]
    have : (1 : Int) ≤ (2 ^ 63 - 1) / n := Int.le_ediv_of_mul_le (by omega) (by omega)
    omega
  · rw [e]; unfold Builtin.Str.tooLong
    rw [decide_eq_false]
    have : (100000 : Nat) ≤ sizeLine := by decide
    omega
/-- the first place of a sign in a text, or -1 -/
def ixc (l : List Nat) (c : Nat) : Int := if c ∈ l then (l.idxOf c : Int) else -1
theorem tx_find (l : List Nat) (c : Nat) : Txt.find (tx l) (tx [c]) = ixc l c := by
  unfold Txt.find ixc
  have key : ∀ i, PySem.StrLaws.At (tx l) (tx [c]) (tx l).length i ↔ l[i]? = some c := fun i => PySem.StrLaws.subAt_one (tx l) c i
  rcases PySem.StrLaws.occ_head (tx l) (tx [c]) 1 (Nat.le_refl 1) with ⟨e, hn⟩ | ⟨i, r, e, ha, hn⟩
  · rw [e, if_neg]
    intro hm
    obtain ⟨i, hi⟩ := List.getElem?_of_mem hm
    exact hn i ((key i).mpr hi)
  · rw [e]
    have hi := (key i).mp ha
    rw [if_pos (List.mem_of_getElem? hi)]
    have hl : i < l.length := (List.getElem?_eq_some_iff.mp hi).1
    have hg : l[i] = c := (List.getElem?_eq_some_iff.mp hi).2
    have h1 : l.idxOf c < l.length := List.idxOf_lt_length_iff.mpr (List.mem_of_getElem? hi)
    have h2 : l[l.idxOf c] = c := List.getElem_idxOf h1
    have h3 : ¬ l.idxOf c < i := fun q => hn _ q ((key _).mpr (by rw [List.getElem?_eq_getElem h1, h2]))
    have h4 : ¬ i < l.idxOf c := fun q => by
      have := List.not_of_lt_findIdx (p := (· == c)) (xs := l) (i := i) q
      simp [hg] at this
    have : l.idxOf c = i := by omega
    rw [this]
theorem cnt_eq (c : Nat) : ∀ l : List Nat, PyProof.Rows.cnt c l = (l.count c : Nat)
  | [] => rfl
  | n :: l => by
    rw [PyProof.Rows.cnt_cons, cnt_eq c l, List.count_cons]
    by_cases h : n = c
    · subst h; simp; omega
    · simp [h]
theorem tx_count (l : List Nat) (c : Nat) : Txt.count (tx l) (tx [c]) = (l.count c : Nat) := (PyProof.Rows.count_is (tx l) c).trans (cnt_eq c l)
end texts
section textsteps
variable {X : Cx} {K : PySem.W.Frag} {H : Hp} {Q : VK} {l m : List Nat} {c : Nat} {n : Int}
def uFind : V → List V → Hp → VK → Prop := fun x xs H Q => match x, xs with
  | .str a, [.str b] => Q (.int (Txt.find a b)) H
  | _, _ => False
def uCount : V → List V → Hp → VK → Prop := fun x xs H Q => match x, xs with
  | .str a, [.str b] => Q (.int (Txt.count a b)) H
  | _, _ => False
theorem mt_countU : MtR X "str.count" uCount := by
  intro pins s σ H x xs v us Q I rx rs q
  refine mt_count pins s σ H x xs v us Q I rx rs ?_
  unfold uCount at q
  split at q
  · exact ⟨_, _, rfl, rfl, q⟩
  · exact q.elim
theorem w_addX (s : l.length + m.length ≤ 100000) (h : Q (.str (tx (l ++ m))) H) : uAdd K (.str (tx l)) (.str (tx m)) H Q := ⟨by rw [tx_len, tx_len]; exact small9 s, by rw [tx_app]; exact h⟩
theorem w_mulX (h0 : 0 ≤ n) (h1 : n ≤ 100000) (h : Q (.str (tx (List.replicate n.toNat c))) H) : uMul (.str (tx [c])) (.int n) H Q := by
  obtain ⟨k, rfl⟩ := Int.eq_ofNat_of_zero_le h0
  exact ⟨mulOk_one c h0 h1, by rw [mul_one]; exact h⟩
theorem w_lenX (s : l.length ≤ 100000) (h : Q (.int l.length) H) : uLen K [.str (tx l)] H Q := ⟨by rw [tx_len]; exact small9 s, by rw [tx_len]; exact h⟩
theorem w_truX {QB : Bool → Hp → Prop} (s : l.length ≤ 100000) (h : QB (!decide (l.length = 0)) H) : truV K (.str (tx l)) H QB := ⟨by rw [tx_len]; exact small9 s, by rw [tx_len]; exact h⟩
theorem d_tx : decide (tx l = tx m) = decide (l = m) := decide_eq_decide.mpr tx_inj
theorem w_eqX (h : Q (.bl (decide (l = m))) H) : uEq K (.str (tx l)) (.str (tx m)) H Q := by
  rw [← d_tx] at h; exact h
theorem w_neX (h : Q (.bl (!decide (l = m))) H) : uNe K (.str (tx l)) (.str (tx m)) H Q := by
  rw [← d_tx] at h; exact h
theorem w_tkX (s : l.length ≤ 100000) (h0 : 0 ≤ n) (h : Q (.str (tx (l.take n.toNat))) H) : uSl K (.str (tx l)) none (some n) H Q := by
  obtain ⟨k, rfl⟩ := Int.eq_ofNat_of_zero_le h0
  exact .inr (.inr ⟨_, rfl, by rw [tx_len]; exact small9 s, by rw [cut_tk]; exact h⟩)
theorem w_dpX (s : l.length ≤ 100000) (h0 : 0 ≤ n) (h : Q (.str (tx (l.drop n.toNat))) H) : uSl K (.str (tx l)) (some n) none H Q := by
  obtain ⟨k, rfl⟩ := Int.eq_ofNat_of_zero_le h0
  exact .inr (.inr ⟨_, rfl, by rw [tx_len]; exact small9 s, by rw [cut_dp]; exact h⟩)
theorem w_ixX (s : l.length ≤ 100000) (h0 : 0 ≤ n ∧ n.toNat < l.length) (h : Q (.str (tx [l.getD n.toNat 0])) H) : uIx K (.str (tx l)) (.int n) H Q := by
  refine ⟨by rw [tx_len]; exact small9 s, l.getD n.toNat 0, ?_, h⟩
  have y := atI_nat (show l[n.toNat]? = some (l.getD n.toNat 0) by rw [List.getD_eq_getElem?_getD, List.getElem?_eq_getElem h0.2]; rfl)
  rw [show ((n.toNat : Nat) : Int) = n by omega] at y
  exact y
theorem w_findX (h : Q (.int (ixc l c)) H) : uFind (.str (tx l)) [.str (tx [c])] H Q := by
  rw [← tx_find] at h; exact h
theorem w_countX (h : Q (.int ((l.count c : Nat) : Int)) H) : uCount (.str (tx l)) [.str (tx [c])] H Q := by
  rw [← tx_count] at h; exact h
end textsteps
section steps3
variable {X : Cx} {K : PySem.W.Frag} {H H' H0 : Hp} {Q : VK} {p q : Addr} {xs ys : List V} {o w : HO}
theorem w_cat (e1 : H p = some (.lst xs)) (e2 : H q = some (.lst ys)) (s : xs.length + ys.length ≤ 1000000) (h : ∀ l, H l = none → Q (.ref l) (upd H l (.lst (xs ++ ys)))) : uAdd K (.ref p) (.ref q) H Q :=
  .inl ⟨p, q, xs, ys, rfl, rfl, e1, e2, Nat.le_trans s (by decide), h⟩
end steps3
section steps4
variable {X : Cx} {K : PySem.W.Frag} {D : Ends} {σ : L2.St} {H H1 : Hp} {Q : VK} {g : TG} {tb : TS} {tt : TT} {te td ty tx : TE} {tA : TA} {p q a b : Addr} {xs ys : List V} {kvs : List (Key × V)} {x y z v : V} {i : Int} {vs : List Nat}
def enumQ (K : PySem.W.Frag) (vs : List V) (H1 : Hp) (R : It → Hp → Prop) : Prop := ∃ a xs, vs = [.ref a] ∧ SqL K H1 a xs ∧ R (Ite K a) H1
theorem w_iEnum {R : It → Hp → Prop} (h : tA σ H fun vs H1 => enumQ K vs H1 R) : iEnum K tA σ H R := h
theorem w_iEnumv {R : It → Hp → Prop} (e : SqL K H p xs) (h : R (Ite K p) H) : enumQ K [.ref p] H R := ⟨p, xs, rfl, e, h⟩
def zipQ (K : PySem.W.Frag) (vs : List V) (H1 : Hp) (R : It → Hp → Prop) : Prop := ∃ a b xs ys, vs = [.ref a, .ref b] ∧ SqL K H1 a xs ∧ SqL K H1 b ys ∧ R (Itz K a b) H1
theorem w_iZip {R : It → Hp → Prop} (h : tA σ H fun vs H1 => zipQ K vs H1 R) : iZip K tA σ H R := h
theorem w_iZipv {R : It → Hp → Prop} (e : SqL K H p xs) (e2 : SqL K H q ys) (h : R (Itz K p q) H) : zipQ K [.ref p, .ref q] H R := ⟨p, q, xs, ys, rfl, e, e2, h⟩
theorem f_enum (Pv : Nat → L2.St → Hp → Prop) (h0 : Pv 0 σ H) (hl : ∀ i σ H, i ≤ xs.length → Pv i σ H → SqL K H a xs)
    (hs : ∀ i x σ H T, xs[i]? = some x → Pv i σ H → H T = none → g (.ref T) σ (upd H T (.tup [.int (i : Nat), x])) fun σ2 H2 => tb { D with nx := Pv (i + 1), ct := Pv (i + 1), bk := D.nx } σ2 H2) (hd : ∀ σ H, Pv xs.length σ H → D.nx σ H) : forQ g tb D σ (Ite K a) H := by
  refine ⟨fun i m σ H => m = xs.length - i ∧ i ≤ xs.length ∧ Pv i σ H, ⟨_, rfl, Nat.zero_le _, h0⟩, fun i m σ H q => ?_⟩
  obtain ⟨rfl, hi, p⟩ := q
  have e := hl i σ H hi p
  rcases Nat.lt_or_ge i xs.length with hlt | hge
  · refine .inr ⟨⟨xs, xs[i], e, List.getElem?_eq_getElem hlt⟩, Pv (i + 1), fun σ' H' p' => ⟨_, by omega, rfl, hlt, p'⟩, fun x H' y => ?_⟩
    obtain ⟨T, x', rfl, hT, rfl, hx⟩ := y
    exact hs i x' σ H T (hx xs e) p hT
  · obtain rfl : i = xs.length := by omega
    exact .inl ⟨⟨xs, e, Nat.le_refl _⟩, hd σ H p⟩
def keysQ (x : V) (H1 : Hp) (R : It → Hp → Prop) : Prop := ∃ d o, x = .ref d ∧ ((∃ kvs, H1 d = some (.frz o (.dK kvs)) ∧ R (Itk d o kvs) H1) ∨ ∃ kvs, H1 d = some (.frz o (.dT kvs)) ∧ R (Itkt d o kvs) H1)
theorem w_iKeys {R : It → Hp → Prop} (h : te σ H fun x H1 => keysQ x H1 R) : iKeys te σ H R := h
/-- d.get(k, e), d.get(k) -/
def get2Q (ty tx : TE) (σ : L2.St) (x : V) (H1 : Hp) (Q : VK) : Prop := ∃ a, x = .ref a ∧ IsD H1 a ∧ ty σ H1 fun y H2 => tx σ H2 fun z H3 => ∃ o, DGet H3 a y o ∧ Q (o.getD z) H3
def getQ (p : Addr) (y z : V) (H : Hp) (Q : VK) : Prop := ∃ o, DGet H p y o ∧ Q (o.getD z) H
theorem w_dget2 (h : td σ H fun x H1 => get2Q ty tx σ x H1 Q) : tDGet2 td ty tx σ H Q := h
theorem w_dget2v (e : H p = some (.dK kvs)) (h : ty σ H fun y H2 => tx σ H2 fun z H3 => getQ p y z H3 Q) : get2Q ty tx σ (.ref p) H Q := ⟨p, rfl, .inl ⟨kvs, .inl e⟩, h⟩
def get1Q (ty : TE) (σ : L2.St) (x : V) (H1 : Hp) (Q : VK) : Prop := ∃ a, x = .ref a ∧ IsD H1 a ∧ ty σ H1 fun y H2 => getQ a y .non H2 Q
theorem w_dget1 (h : td σ H fun x H1 => get1Q ty σ x H1 Q) : tDGet1 td ty σ H Q := h
theorem w_dget1v (e : H p = some (.dK kvs)) (h : ty σ H fun y H2 => getQ p y .non H2 Q) : get1Q ty σ (.ref p) H Q := ⟨p, rfl, .inl ⟨kvs, .inl e⟩, h⟩
theorem w_getI (e : H p = some (.dK kvs)) (h : Q ((valV kvs (.inl i)).getD z) H) : getQ p (.int i) z H Q := ⟨_, DGet.k (k := .inl i) e, h⟩
/-- d.pop(k) -/
def pop1Q (ty : TE) (σ : L2.St) (x : V) (H1 : Hp) (Q : VK) : Prop := ∃ a, x = .ref a ∧ IsD H1 a ∧ ty σ H1 fun y H2 => popQ1 a y H2 Q
where popQ1 (a : Addr) (y : V) (H2 : Hp) (Q : VK) : Prop := ∃ kvs k v, H2 a = some (.dK kvs) ∧ y = kV k ∧ valV kvs k = some v ∧ Q v (upd H2 a (.dK (dropK kvs k)))
theorem w_dpop1 (h : td σ H fun x H1 => pop1Q ty σ x H1 Q) : tDPop1 td ty σ H Q := h
theorem w_dpop1v (e : H p = some (.dK kvs)) (h : ty σ H fun y H2 => pop1Q.popQ1 p y H2 Q) : pop1Q ty σ (.ref p) H Q := ⟨p, rfl, .inl ⟨kvs, .inl e⟩, h⟩
/-- del d[k] -/
def delQ (x y : V) (H2 : Hp) (N : Hp → Prop) : Prop := ∃ a kvs k, x = .ref a ∧ H2 a = some (.dK kvs) ∧ y = kV k ∧ (valV kvs k).isSome = true ∧ N (upd H2 a (.dK (dropK kvs k)))
theorem w_ddel (h : td σ H fun x H1 => ty σ H1 fun y H2 => delQ x y H2 (D.nx σ)) : sDDel td ty D σ H := h
end steps4
section hotdefs
variable {P : Program} {w : World} {K : PySem.W.Frag} {mg : Str → Option Value} {base : Heap}
variable {X : Cx}
def uCallX (a : Addr) (cls : Value) (d : Option Addr) (sp : Addr → Value → Sp) (t : TA) : TE := fun σ H Q => d = none ∧ t σ H fun vs H1 => sp a cls vs H1 Q fun _ _ _ => False
theorem w_callX {a : Addr} {cls : Value} {sp : Addr → Value → Sp} {t : TA} {σ : L2.St} {H : Hp} {Q : VK} (h : t σ H fun vs H1 => sp a cls vs H1 Q fun _ _ _ => False) : uCallX a cls none sp t σ H Q := ⟨rfl, h⟩
end hotdefs
section steps5
variable {K : PySem.W.Frag} {H : Hp} {Q : VK} {s t : Str} {A B : Prop}
theorem ifSF (h : decide (s = t) = false) (k : B) : if decide (s = t) = true then A else B := by rw [h]; exact iteF k
theorem ifST (h : decide (s = t) = true) (k : A) : if decide (s = t) = true then A else B := by rw [h]; exact iteT k
theorem ifSNF (h : decide (s = t) = true) (k : B) : if (!decide (s = t)) = true then A else B := by rw [h]; exact iteF k
theorem ifSNT (h : decide (s = t) = false) (k : A) : if (!decide (s = t)) = true then A else B := by rw [h]; exact iteT k
theorem w_neNN (h : Q (.bl false) H) : uNe K .non .non H Q := .inl ⟨rfl, h⟩
theorem w_eqNN (h : Q (.bl true) H) : uEq K .non .non H Q := .inl ⟨rfl, h⟩
end steps5
section steps6
variable {K : PySem.W.Frag} {H : Hp} {Q : VK} {p : Addr} {n : Int}
theorem w_ixBl {bs : List Bool} (e : SqL K H p (bs.map V.bl)) (h0 : 0 ≤ n ∧ n.toNat < bs.length) (h : Q (.bl (bs.getD n.toNat false)) H) : uIx K (.ref p) (.int n) H Q :=
  ⟨_, .bl (bs.getD n.toNat false), .inl e, by
    have z : (bs.map V.bl)[n.toNat]? = some (.bl (bs.getD n.toNat false)) := by rw [List.getElem?_map, List.getElem?_eq_getElem h0.2, List.getD_eq_getElem?_getD, List.getElem?_eq_getElem h0.2]; rfl
    have y := atI_nat z
    rw [show ((n.toNat : Nat) : Int) = n by omega] at y
    exact y, h⟩
def augSQ (ti te : TE) (g : V → V → Hp → VK → Prop) (op : TIp) (ts : TSet) (D : Ends) (σ : L2.St) (x : V) (H1 : Hp) : Prop := ti σ H1 fun i H2 => g x i H2 fun v H3 => te σ H3 fun y H4 => op v y H4 fun z H5 => ts x i z H5 fun H6 => D.nx σ H6
theorem w_getI2 {ns : List Int} (e : SqL K H p (ns.map V.int)) (h0 : 0 ≤ n ∧ n.toNat < ns.length) (h : Q (.int (ns.getD n.toNat 0)) H) : uGet K (.ref p) (.int n) H Q :=
  .inl ⟨h0.1, _, .int (ns.getD n.toNat 0), e, by rw [List.getElem?_map, List.getElem?_eq_getElem h0.2, List.getD_eq_getElem?_getD, List.getElem?_eq_getElem h0.2]; rfl, h⟩
theorem w_augS {D : Ends} {σ : L2.St} {to ti te : TE} {g : V → V → Hp → VK → Prop} {op : TIp} {ts : TSet} (h : to σ H fun o H1 => augSQ ti te g op ts D σ o H1) : tAugS to ti te g op ts D σ H := h
theorem w_augSQ {D : Ends} {σ : L2.St} {ti te : TE} {g : V → V → Hp → VK → Prop} {op : TIp} {ts : TSet} {x : V} (h : ti σ H fun i H2 => g x i H2 fun v H3 => te σ H3 fun y H4 => op v y H4 fun z H5 => ts x i z H5 fun H6 => D.nx σ H6) : augSQ ti te g op ts D σ x H := h
end steps6
end U
namespace Lam
open PySem PySem.Spec L2 U
local macro_rules | `(tactic| walk_at "te") => `(tactic| fail "no fact")
local macro_rules | `(tactic| walk_at "kt") => `(tactic| fail "no fact")
local macro_rules | `(tactic| walk_at "xc") => `(tactic| fail "no fact")
local macro_rules | `(tactic| walk_at "x") => `(tactic| fail "no step")
local macro_rules | `(tactic| walk_at "hk") => `(tactic| first
  | assumption | exact upd_same | exact SqL.of upd_same | exact SqT.of upd_same
  | (apply sql_old; (· walk_at "hk"); (· assumption)) | (apply upd_old; (· walk_at "hk"); (· assumption)) | (apply sqt_old; (· walk_at "hk"); (· assumption))
  | exact L2.Same.seq (by assumption) (by assumption) | exact U.Same.sqt (by assumption) (by assumption) | exact (by assumption : L2.Same _ _) _ _ (by assumption)
  | (apply SqL.of; walk_at "hk") | (apply SqT.of; walk_at "hk"))
local macro_rules | `(tactic| walk_at "nn") => `(tactic| first | assumption | exact L2.Same.free (by assumption) (by assumption) | exact (none_of_upd (by assumption)).1)
local macro_rules | `(tactic| walk_at "sm") => `(tactic| first | assumption | exact L2.Same.refl _ | (apply same_updN; (· walk_at "sm"); (· assumption)) | (apply same_upd; (· walk_at "sm"); (· walk_at "nn")) | exact L2.Same.trans (by assumption) (by assumption))
local macro_rules | `(tactic| walk_at "s") => `(tactic| first
    | with_reducible refine w_seq ?_
    | with_reducible refine w_op ?_
    | with_reducible refine w_asg ?_
    | with_reducible refine w_name ?_
    | with_reducible refine w_c ?_
    | with_reducible refine w_if ?_
    | with_reducible refine w_test ?_
    | with_reducible refine w_blP ?_
    | with_reducible refine w_cons ?_
    | with_reducible refine w_nil ?_
    | with_reducible refine w_ret ?_
    | with_reducible refine w_call ?_
    | ((with_reducible refine' w_var ?e ?_); (case e => rfl))
    | ((with_reducible refine ifST ?h ?_); (case h => decide +kernel))
    | ((with_reducible refine ifSF ?h ?_); (case h => decide +kernel))
    | ((with_reducible refine ifSNT ?h ?_); (case h => decide +kernel))
    | ((with_reducible refine ifSNF ?h ?_); (case h => decide +kernel))
    | with_reducible refine iteT ?_
    | with_reducible refine iteF ?_
    | with_reducible refine ifNT ?_
    | with_reducible refine ifNF ?_
    | (((with_reducible show @ite Prop (_ = true) _ _ _); refine @ifP _ _ _ _ ?_ ?_) <;> intro h <;> first | (with_reducible exact absurd rfl h) | skip)
    | (((with_reducible show @ite Prop (_ = true) _ _ _); refine @ifN _ _ _ _ ?_ ?_) <;> intro h <;> first | (with_reducible exact absurd rfl h) | skip)
    | with_reducible refine w_eqX ?_
    | with_reducible refine w_neX ?_
    | with_reducible refine w_add ?_
    | with_reducible refine w_sub ?_
    | with_reducible refine w_eqI ?_
    | with_reducible refine w_neI ?_
    | with_reducible refine w_lt ?_
    | with_reducible refine w_le ?_
    | with_reducible refine w_gt ?_
    | with_reducible refine w_ge ?_
    | with_reducible refine w_eqS ?_
    | with_reducible refine w_eqB ?_
    | with_reducible refine w_neS ?_
    | with_reducible refine w_neB ?_
    | with_reducible refine w_cb ?_
    | with_reducible refine w_tup ?_
    | with_reducible refine w_lst ?_
    | with_reducible refine w_next ?_
    | with_reducible refine w_drop ?_
    | with_reducible refine w_not ?_
    | with_reducible refine w_tru ?_
    | with_reducible refine w_and ?_
    | with_reducible refine w_or ?_
    | with_reducible refine w_andV ?_
    | with_reducible refine w_orV ?_
    | with_reducible refine w_notV ?_
    | with_reducible refine w_ifE ?_
    | with_reducible refine w_chain ?_
    | with_reducible refine w_retN ?_
    | with_reducible refine w_bm ?_
    | with_reducible refine w_raise ?_
    | with_reducible refine w_fld ?_
    | with_reducible refine w_meth ?_
    | with_reducible refine w_setf ?_
    | with_reducible refine w_for ?_
    | with_reducible refine w_rng1 ?_
    | with_reducible refine w_rng2 ?_
    | with_reducible refine w_iList ?_
    | with_reducible refine w_iTup ?_
    | with_reducible refine w_iStr ?_
    | with_reducible refine w_iRev ?_
    | with_reducible refine w_brk ?_
    | with_reducible refine w_cont ?_
    | with_reducible refine w_un ?_
    | with_reducible refine w_lc ?_
    | with_reducible refine w_yes ?_
    | with_reducible refine w_gsub ?_
    | with_reducible refine w_sl ?_
    | with_reducible refine w_part ?_
    | with_reducible refine w_noPart ?_
    | with_reducible refine w_wh ?_
    | with_reducible refine w_tryAs ?_
    | with_reducible refine w_try ?_
    | with_reducible refine w_make ?_
    | with_reducible refine w_dget ?_
    | with_reducible refine w_dput ?_
    | with_reducible refine w_gcons ?_
    | with_reducible refine w_gnil ?_
    | with_reducible refine w_augf ?_
    | with_reducible refine w_iEnum ?_
    | with_reducible refine w_iZip ?_
    | with_reducible refine w_iKeys ?_
    | with_reducible refine w_dget2 ?_
    | with_reducible refine w_dget1 ?_
    | with_reducible refine w_dpop1 ?_
    | with_reducible refine w_ddel ?_
    | with_reducible refine w_callX ?_
    | with_reducible refine w_augS ?_
    | with_reducible refine w_augSQ ?_
    | ((with_reducible refine' w_aug ?e ?_); (case e => rfl))
    | ((with_reducible refine w_mul ?s ?_); (case s => first | exact Or.inr ⟨by omega, by omega⟩ | exact Or.inl ⟨by omega, by omega⟩))
    | ((with_reducible refine w_div ?s ?_); (case s => omega))
    | ((with_reducible refine w_mod ?s ?_); (case s => first | omega | decide))
    | ((with_reducible refine w_pow ?s ?_); (case s => first | exact ⟨by decide, by decide, by decide⟩ | exact ⟨by decide, by decide, by omega⟩))
    | ((with_reducible refine w_newL ?s ?_); (case s => (first | exact (by decide) | (simp only [List.length_cons, List.length_nil]; omega))); intro _ _)
    | ((with_reducible refine w_newT ?s ?_); (case s => (first | exact (by decide) | (simp only [List.length_cons, List.length_nil]; omega))); intro _ _)
    | with_reducible refine w_eqX ?_
    | with_reducible refine w_neX ?_
    | with_reducible refine w_findX ?_
    | with_reducible refine w_countX ?_
    | ((with_reducible refine w_lenX ?s ?_); (case s => (first | omega | (simp only [List.length_append, List.length_cons, List.length_nil, List.length_take, List.length_drop, List.length_replicate, List.length_map, List.length_range] at *; omega) | (simp only [List.length_append, List.length_cons, List.length_nil, List.length_take, List.length_drop, List.length_replicate, List.length_map, List.length_range]; omega) | decide)))
    | ((with_reducible refine w_truX ?s ?_); (case s => (first | omega | (simp only [List.length_append, List.length_cons, List.length_nil, List.length_take, List.length_drop, List.length_replicate, List.length_map, List.length_range] at *; omega) | (simp only [List.length_append, List.length_cons, List.length_nil, List.length_take, List.length_drop, List.length_replicate, List.length_map, List.length_range]; omega) | decide)))
    | ((with_reducible refine w_addX ?s ?_); (case s => (first | omega | (simp only [List.length_append, List.length_cons, List.length_nil, List.length_take, List.length_drop, List.length_replicate, List.length_map, List.length_range] at *; omega) | (simp only [List.length_append, List.length_cons, List.length_nil, List.length_take, List.length_drop, List.length_replicate, List.length_map, List.length_range]; omega) | decide)))
    | ((with_reducible refine w_mulX ?h0 ?h1 ?_); (case h0 => (first | omega | (simp only [List.length_append, List.length_cons, List.length_nil, List.length_take, List.length_drop, List.length_replicate, List.length_map, List.length_range] at *; omega) | (simp only [List.length_append, List.length_cons, List.length_nil, List.length_take, List.length_drop, List.length_replicate, List.length_map, List.length_range]; omega) | decide)); (case h1 => (first | omega | (simp only [List.length_append, List.length_cons, List.length_nil, List.length_take, List.length_drop, List.length_replicate, List.length_map, List.length_range] at *; omega) | (simp only [List.length_append, List.length_cons, List.length_nil, List.length_take, List.length_drop, List.length_replicate, List.length_map, List.length_range]; omega) | decide)))
    | ((with_reducible refine w_tkX ?s ?h0 ?_); (case s => (first | omega | (simp only [List.length_append, List.length_cons, List.length_nil, List.length_take, List.length_drop, List.length_replicate, List.length_map, List.length_range] at *; omega) | (simp only [List.length_append, List.length_cons, List.length_nil, List.length_take, List.length_drop, List.length_replicate, List.length_map, List.length_range]; omega) | decide)); (case h0 => (first | omega | (simp only [List.length_append, List.length_cons, List.length_nil, List.length_take, List.length_drop, List.length_replicate, List.length_map, List.length_range] at *; omega) | (simp only [List.length_append, List.length_cons, List.length_nil, List.length_take, List.length_drop, List.length_replicate, List.length_map, List.length_range]; omega) | decide)))
    | ((with_reducible refine w_dpX ?s ?h0 ?_); (case s => (first | omega | (simp only [List.length_append, List.length_cons, List.length_nil, List.length_take, List.length_drop, List.length_replicate, List.length_map, List.length_range] at *; omega) | (simp only [List.length_append, List.length_cons, List.length_nil, List.length_take, List.length_drop, List.length_replicate, List.length_map, List.length_range]; omega) | decide)); (case h0 => (first | omega | (simp only [List.length_append, List.length_cons, List.length_nil, List.length_take, List.length_drop, List.length_replicate, List.length_map, List.length_range] at *; omega) | (simp only [List.length_append, List.length_cons, List.length_nil, List.length_take, List.length_drop, List.length_replicate, List.length_map, List.length_range]; omega) | decide)))
    | ((with_reducible refine w_ixX ?s ?h0 ?_); (case s => (first | omega | (simp only [List.length_append, List.length_cons, List.length_nil, List.length_take, List.length_drop, List.length_replicate, List.length_map, List.length_range] at *; omega) | (simp only [List.length_append, List.length_cons, List.length_nil, List.length_take, List.length_drop, List.length_replicate, List.length_map, List.length_range]; omega) | decide)); (case h0 => (first | omega | (simp only [List.length_append, List.length_cons, List.length_nil, List.length_take, List.length_drop, List.length_replicate, List.length_map, List.length_range] at *; omega) | (simp only [List.length_append, List.length_cons, List.length_nil, List.length_take, List.length_drop, List.length_replicate, List.length_map, List.length_range]; omega) | decide)))
    | with_reducible refine w_max ?_
    | with_reducible refine w_min ?_
    | with_reducible refine w_eqNI ?_
    | with_reducible refine w_neNI ?_
    | with_reducible refine w_eqIN ?_
    | with_reducible refine w_neIN ?_
    | with_reducible refine w_neNN ?_
    | with_reducible refine w_eqNN ?_
    | with_reducible refine w_abs ?_
    | with_reducible refine w_intI ?_
    | with_reducible refine w_intB ?_
    | with_reducible refine w_ipI ?_
    | with_reducible refine w_bmS ?_
    | with_reducible refine w_iStrv ?_
    | with_reducible refine w_neg ?_
    | with_reducible refine w_partI ?_
    | with_reducible refine w_truB ?_
    | with_reducible refine w_truN ?_
    | with_reducible refine w_truI ?_
    | with_reducible refine w_isi_int_int ?_
    | with_reducible refine w_isi_int_bl ?_
    | with_reducible refine w_isi_int_str ?_
    | with_reducible refine w_isi_int_non ?_
    | with_reducible refine w_isi_bool_int ?_
    | with_reducible refine w_isi_bool_bl ?_
    | with_reducible refine w_isi_bool_str ?_
    | with_reducible refine w_isi_bool_non ?_
    | with_reducible refine w_isi_str_int ?_
    | with_reducible refine w_isi_str_bl ?_
    | with_reducible refine w_isi_str_str ?_
    | with_reducible refine w_isi_str_non ?_
    | with_reducible refine w_isi_list_int ?_
    | with_reducible refine w_isi_list_bl ?_
    | with_reducible refine w_isi_list_str ?_
    | with_reducible refine w_isi_list_non ?_
    | with_reducible refine w_isi_tuple_int ?_
    | with_reducible refine w_isi_tuple_bl ?_
    | with_reducible refine w_isi_tuple_str ?_
    | with_reducible refine w_isi_tuple_non ?_
    | with_reducible refine w_is_int ?_
    | with_reducible refine w_isnt_int ?_
    | with_reducible refine w_is_bl ?_
    | with_reducible refine w_isnt_bl ?_
    | with_reducible refine w_is_str ?_
    | with_reducible refine w_isnt_str ?_
    | with_reducible refine w_is_non ?_
    | with_reducible refine w_isnt_non ?_
    | with_reducible refine w_is_ref ?_
    | with_reducible refine w_isnt_ref ?_
    | ((with_reducible refine w_asT ?e ?_); (case e => walk_at "te"); intro _ _)
    | ((with_reducible refine w_onT ?e ?_); (case e => walk_at "te"); intro _ _)
    | ((with_reducible refine w_asF ?e ?_); (case e => walk_at "te"))
    | ((with_reducible refine w_onF ?e ?_); (case e => walk_at "te"))
    | ((with_reducible apply w_isE); (· walk_at "xc"); (· walk_at "kt"))
    | ((with_reducible apply w_lenL); (· walk_at "hk"))
    | ((with_reducible apply w_lenT); (· walk_at "hk"))
    | ((with_reducible apply w_bmL); (· walk_at "hk"))
    | ((with_reducible refine w_rng1v ?h1 ?h2 ?_); (case h1 => (first | omega | (simp only [List.length_map] at *; omega))); (case h2 => (first | omega | (simp only [List.length_map] at *; omega))))
    | ((with_reducible refine w_rng2v ?h1 ?_); (case h1 => (first | omega | (simp only [List.length_map] at *; omega))))
    | ((with_reducible apply w_ixI); (· walk_at "hk"); (· (first | omega | (simp only [List.length_map] at *; omega))))
    | ((with_reducible apply w_ixTI); (· walk_at "hk"); (· (first | omega | (simp only [List.length_map] at *; omega))))
    | ((with_reducible apply w_ixBl); (· walk_at "hk"); (· (first | omega | (simp only [List.length_map] at *; omega))))
    | ((with_reducible apply w_getI2); (· walk_at "hk"); (· (first | omega | (simp only [List.length_map] at *; omega))))
    | ((with_reducible apply w_ixTl); (· walk_at "hk"); (· rfl); (· decide))
    | ((with_reducible apply w_ixLl); (· walk_at "hk"); (· rfl); (· decide))
    | ((with_reducible apply w_appI); (· walk_at "hk"); (· (first | omega | (simp only [List.length_append, List.length_cons, List.length_nil]; omega))))
    | ((with_reducible apply w_iListv); (· walk_at "hk"))
    | ((with_reducible apply w_iTupv); (· walk_at "hk"))
    | ((with_reducible apply w_iRevv); (· walk_at "hk"))
    | ((with_reducible apply w_iEnumv); (· walk_at "hk"))
    | ((with_reducible apply w_iZipv); (· walk_at "hk"); (· walk_at "hk"))
    | ((with_reducible apply w_dget2v); (· walk_at "hk"))
    | ((with_reducible apply w_dget1v); (· walk_at "hk"))
    | ((with_reducible apply w_dpop1v); (· walk_at "hk"))
    | ((with_reducible apply w_getI); (· walk_at "hk"))
    | ((with_reducible apply w_inD); (· walk_at "hk"))
    | ((with_reducible apply w_ninD); (· walk_at "hk"))
    | ((with_reducible apply w_rep1); (· walk_at "hk"); (· (first | omega | (simp only [List.length_append, List.length_cons, List.length_nil, List.length_take, List.length_drop, List.length_replicate, List.length_map, List.length_range] at *; omega) | (simp only [List.length_append, List.length_cons, List.length_nil, List.length_take, List.length_drop, List.length_replicate, List.length_map, List.length_range]; omega) | decide)); (· (first | omega | (simp only [List.length_append, List.length_cons, List.length_nil, List.length_take, List.length_drop, List.length_replicate, List.length_map, List.length_range] at *; omega) | (simp only [List.length_append, List.length_cons, List.length_nil, List.length_take, List.length_drop, List.length_replicate, List.length_map, List.length_range]; omega) | decide)); intro _ _)
    | ((with_reducible apply w_gtup2); (· walk_at "hk"))
    | ((with_reducible apply w_gtup3); (· walk_at "hk"))
    | ((with_reducible apply w_gtup4); (· walk_at "hk"))
    | ((with_reducible refine w_newD ?_); intro _ _)
    | ((with_reducible apply w_augsub); (· walk_at "hk"); (· rfl); (· exact Nat.le_of_ble_eq_true rfl))
    | ((with_reducible apply w_augadd); (· walk_at "hk"); (· rfl); (· exact Nat.le_of_ble_eq_true rfl))
    | ((with_reducible apply w_fldv); (· walk_at "hk"); (· rfl))
    | ((with_reducible apply w_methv); (· walk_at "hk"); (· rfl))
    | ((with_reducible apply w_setfv); (· walk_at "hk"); (· exact Nat.le_of_ble_eq_true rfl); (· rfl))
    | walk_at "x")
local macro_rules | `(tactic| walk_at "run1") => `(tactic| repeat (first
    | with_reducible refine w_seq ?_
    | with_reducible refine w_op ?_
    | with_reducible refine w_asg ?_
    | with_reducible refine w_name ?_
    | with_reducible refine w_c ?_
    | with_reducible refine w_if ?_
    | with_reducible refine w_test ?_
    | with_reducible refine w_blP ?_
    | with_reducible refine w_cons ?_
    | with_reducible refine w_nil ?_
    | with_reducible refine w_ret ?_
    | with_reducible refine w_call ?_
    | ((with_reducible refine' w_var ?e ?_); (case e => rfl))
    | ((with_reducible refine ifST ?h ?_); (case h => decide +kernel))
    | ((with_reducible refine ifSF ?h ?_); (case h => decide +kernel))
    | ((with_reducible refine ifSNT ?h ?_); (case h => decide +kernel))
    | ((with_reducible refine ifSNF ?h ?_); (case h => decide +kernel))
    | with_reducible refine iteT ?_
    | with_reducible refine iteF ?_
    | with_reducible refine ifNT ?_
    | with_reducible refine ifNF ?_
    | (((with_reducible show @ite Prop (_ = true) _ _ _); refine @ifP _ _ _ _ ?_ ?_) <;> intro h <;> first | (with_reducible exact absurd rfl h) | skip)
    | (((with_reducible show @ite Prop (_ = true) _ _ _); refine @ifN _ _ _ _ ?_ ?_) <;> intro h <;> first | (with_reducible exact absurd rfl h) | skip)
    | with_reducible refine w_eqX ?_
    | with_reducible refine w_neX ?_
    | with_reducible refine w_add ?_
    | with_reducible refine w_sub ?_
    | with_reducible refine w_eqI ?_
    | with_reducible refine w_neI ?_
    | with_reducible refine w_lt ?_
    | with_reducible refine w_le ?_
    | with_reducible refine w_gt ?_
    | with_reducible refine w_ge ?_
    | with_reducible refine w_eqS ?_
    | with_reducible refine w_eqB ?_
    | with_reducible refine w_neS ?_
    | with_reducible refine w_neB ?_
    | with_reducible refine w_cb ?_
    | with_reducible refine w_tup ?_
    | with_reducible refine w_lst ?_
    | with_reducible refine w_next ?_
    | with_reducible refine w_drop ?_
    | with_reducible refine w_not ?_
    | with_reducible refine w_tru ?_
    | with_reducible refine w_and ?_
    | with_reducible refine w_or ?_
    | with_reducible refine w_andV ?_
    | with_reducible refine w_orV ?_
    | with_reducible refine w_notV ?_
    | with_reducible refine w_ifE ?_
    | with_reducible refine w_chain ?_
    | with_reducible refine w_retN ?_
    | with_reducible refine w_bm ?_
    | with_reducible refine w_raise ?_
    | with_reducible refine w_fld ?_
    | with_reducible refine w_meth ?_
    | with_reducible refine w_setf ?_
    | with_reducible refine w_for ?_
    | with_reducible refine w_rng1 ?_
    | with_reducible refine w_rng2 ?_
    | with_reducible refine w_iList ?_
    | with_reducible refine w_iTup ?_
    | with_reducible refine w_iStr ?_
    | with_reducible refine w_iRev ?_
    | with_reducible refine w_brk ?_
    | with_reducible refine w_cont ?_
    | with_reducible refine w_un ?_
    | with_reducible refine w_lc ?_
    | with_reducible refine w_yes ?_
    | with_reducible refine w_gsub ?_
    | with_reducible refine w_sl ?_
    | with_reducible refine w_part ?_
    | with_reducible refine w_noPart ?_
    | with_reducible refine w_wh ?_
    | with_reducible refine w_tryAs ?_
    | with_reducible refine w_try ?_
    | with_reducible refine w_make ?_
    | with_reducible refine w_dget ?_
    | with_reducible refine w_dput ?_
    | with_reducible refine w_gcons ?_
    | with_reducible refine w_gnil ?_
    | with_reducible refine w_augf ?_
    | with_reducible refine w_iEnum ?_
    | with_reducible refine w_iZip ?_
    | with_reducible refine w_iKeys ?_
    | with_reducible refine w_dget2 ?_
    | with_reducible refine w_dget1 ?_
    | with_reducible refine w_dpop1 ?_
    | with_reducible refine w_ddel ?_
    | with_reducible refine w_callX ?_
    | with_reducible refine w_augS ?_
    | with_reducible refine w_augSQ ?_
    | ((with_reducible refine' w_aug ?e ?_); (case e => rfl))
    | ((with_reducible refine w_mul ?s ?_); (case s => first | exact Or.inr ⟨by omega, by omega⟩ | exact Or.inl ⟨by omega, by omega⟩))
    | ((with_reducible refine w_div ?s ?_); (case s => omega))
    | ((with_reducible refine w_mod ?s ?_); (case s => first | omega | decide))
    | ((with_reducible refine w_pow ?s ?_); (case s => first | exact ⟨by decide, by decide, by decide⟩ | exact ⟨by decide, by decide, by omega⟩))
    | ((with_reducible refine w_newL ?s ?_); (case s => (first | exact (by decide) | (simp only [List.length_cons, List.length_nil]; omega))); intro _ _)
    | ((with_reducible refine w_newT ?s ?_); (case s => (first | exact (by decide) | (simp only [List.length_cons, List.length_nil]; omega))); intro _ _)
    | with_reducible refine w_eqX ?_
    | with_reducible refine w_neX ?_
    | with_reducible refine w_findX ?_
    | with_reducible refine w_countX ?_
    | ((with_reducible refine w_lenX ?s ?_); (case s => (first | omega | (simp only [List.length_append, List.length_cons, List.length_nil, List.length_take, List.length_drop, List.length_replicate, List.length_map, List.length_range] at *; omega) | (simp only [List.length_append, List.length_cons, List.length_nil, List.length_take, List.length_drop, List.length_replicate, List.length_map, List.length_range]; omega) | decide)))
    | ((with_reducible refine w_truX ?s ?_); (case s => (first | omega | (simp only [List.length_append, List.length_cons, List.length_nil, List.length_take, List.length_drop, List.length_replicate, List.length_map, List.length_range] at *; omega) | (simp only [List.length_append, List.length_cons, List.length_nil, List.length_take, List.length_drop, List.length_replicate, List.length_map, List.length_range]; omega) | decide)))
    | ((with_reducible refine w_addX ?s ?_); (case s => (first | omega | (simp only [List.length_append, List.length_cons, List.length_nil, List.length_take, List.length_drop, List.length_replicate, List.length_map, List.length_range] at *; omega) | (simp only [List.length_append, List.length_cons, List.length_nil, List.length_take, List.length_drop, List.length_replicate, List.length_map, List.length_range]; omega) | decide)))
    | ((with_reducible refine w_mulX ?h0 ?h1 ?_); (case h0 => (first | omega | (simp only [List.length_append, List.length_cons, List.length_nil, List.length_take, List.length_drop, List.length_replicate, List.length_map, List.length_range] at *; omega) | (simp only [List.length_append, List.length_cons, List.length_nil, List.length_take, List.length_drop, List.length_replicate, List.length_map, List.length_range]; omega) | decide)); (case h1 => (first | omega | (simp only [List.length_append, List.length_cons, List.length_nil, List.length_take, List.length_drop, List.length_replicate, List.length_map, List.length_range] at *; omega) | (simp only [List.length_append, List.length_cons, List.length_nil, List.length_take, List.length_drop, List.length_replicate, List.length_map, List.length_range]; omega) | decide)))
    | ((with_reducible refine w_tkX ?s ?h0 ?_); (case s => (first | omega | (simp only [List.length_append, List.length_cons, List.length_nil, List.length_take, List.length_drop, List.length_replicate, List.length_map, List.length_range] at *; omega) | (simp only [List.length_append, List.length_cons, List.length_nil, List.length_take, List.length_drop, List.length_replicate, List.length_map, List.length_range]; omega) | decide)); (case h0 => (first | omega | (simp only [List.length_append, List.length_cons, List.length_nil, List.length_take, List.length_drop, List.length_replicate, List.length_map, List.length_range] at *; omega) | (simp only [List.length_append, List.length_cons, List.length_nil, List.length_take, List.length_drop, List.length_replicate, List.length_map, List.length_range]; omega) | decide)))
    | ((with_reducible refine w_dpX ?s ?h0 ?_); (case s => (first | omega | (simp only [List.length_append, List.length_cons, List.length_nil, List.length_take, List.length_drop, List.length_replicate, List.length_map, List.length_range] at *; omega) | (simp only [List.length_append, List.length_cons, List.length_nil, List.length_take, List.length_drop, List.length_replicate, List.length_map, List.length_range]; omega) | decide)); (case h0 => (first | omega | (simp only [List.length_append, List.length_cons, List.length_nil, List.length_take, List.length_drop, List.length_replicate, List.length_map, List.length_range] at *; omega) | (simp only [List.length_append, List.length_cons, List.length_nil, List.length_take, List.length_drop, List.length_replicate, List.length_map, List.length_range]; omega) | decide)))
    | ((with_reducible refine w_ixX ?s ?h0 ?_); (case s => (first | omega | (simp only [List.length_append, List.length_cons, List.length_nil, List.length_take, List.length_drop, List.length_replicate, List.length_map, List.length_range] at *; omega) | (simp only [List.length_append, List.length_cons, List.length_nil, List.length_take, List.length_drop, List.length_replicate, List.length_map, List.length_range]; omega) | decide)); (case h0 => (first | omega | (simp only [List.length_append, List.length_cons, List.length_nil, List.length_take, List.length_drop, List.length_replicate, List.length_map, List.length_range] at *; omega) | (simp only [List.length_append, List.length_cons, List.length_nil, List.length_take, List.length_drop, List.length_replicate, List.length_map, List.length_range]; omega) | decide)))
    | with_reducible refine w_max ?_
    | with_reducible refine w_min ?_
    | with_reducible refine w_eqNI ?_
    | with_reducible refine w_neNI ?_
    | with_reducible refine w_eqIN ?_
    | with_reducible refine w_neIN ?_
    | with_reducible refine w_neNN ?_
    | with_reducible refine w_eqNN ?_
    | with_reducible refine w_abs ?_
    | with_reducible refine w_intI ?_
    | with_reducible refine w_intB ?_
    | with_reducible refine w_ipI ?_
    | with_reducible refine w_bmS ?_
    | with_reducible refine w_iStrv ?_
    | with_reducible refine w_neg ?_
    | with_reducible refine w_partI ?_
    | with_reducible refine w_truB ?_
    | with_reducible refine w_truN ?_
    | with_reducible refine w_truI ?_
    | with_reducible refine w_isi_int_int ?_
    | with_reducible refine w_isi_int_bl ?_
    | with_reducible refine w_isi_int_str ?_
    | with_reducible refine w_isi_int_non ?_
    | with_reducible refine w_isi_bool_int ?_
    | with_reducible refine w_isi_bool_bl ?_
    | with_reducible refine w_isi_bool_str ?_
    | with_reducible refine w_isi_bool_non ?_
    | with_reducible refine w_isi_str_int ?_
    | with_reducible refine w_isi_str_bl ?_
    | with_reducible refine w_isi_str_str ?_
    | with_reducible refine w_isi_str_non ?_
    | with_reducible refine w_isi_list_int ?_
    | with_reducible refine w_isi_list_bl ?_
    | with_reducible refine w_isi_list_str ?_
    | with_reducible refine w_isi_list_non ?_
    | with_reducible refine w_isi_tuple_int ?_
    | with_reducible refine w_isi_tuple_bl ?_
    | with_reducible refine w_isi_tuple_str ?_
    | with_reducible refine w_isi_tuple_non ?_
    | with_reducible refine w_is_int ?_
    | with_reducible refine w_isnt_int ?_
    | with_reducible refine w_is_bl ?_
    | with_reducible refine w_isnt_bl ?_
    | with_reducible refine w_is_str ?_
    | with_reducible refine w_isnt_str ?_
    | with_reducible refine w_is_non ?_
    | with_reducible refine w_isnt_non ?_
    | with_reducible refine w_is_ref ?_
    | with_reducible refine w_isnt_ref ?_
    | ((with_reducible refine w_asT ?e ?_); (case e => walk_at "te"); intro _ _)
    | ((with_reducible refine w_onT ?e ?_); (case e => walk_at "te"); intro _ _)
    | ((with_reducible refine w_asF ?e ?_); (case e => walk_at "te"))
    | ((with_reducible refine w_onF ?e ?_); (case e => walk_at "te"))
    | ((with_reducible apply w_isE); (· walk_at "xc"); (· walk_at "kt"))
    | ((with_reducible apply w_lenL); (· walk_at "hk"))
    | ((with_reducible apply w_lenT); (· walk_at "hk"))
    | ((with_reducible apply w_bmL); (· walk_at "hk"))
    | ((with_reducible refine w_rng1v ?h1 ?h2 ?_); (case h1 => (first | omega | (simp only [List.length_map] at *; omega))); (case h2 => (first | omega | (simp only [List.length_map] at *; omega))))
    | ((with_reducible refine w_rng2v ?h1 ?_); (case h1 => (first | omega | (simp only [List.length_map] at *; omega))))
    | ((with_reducible apply w_ixI); (· walk_at "hk"); (· (first | omega | (simp only [List.length_map] at *; omega))))
    | ((with_reducible apply w_ixTI); (· walk_at "hk"); (· (first | omega | (simp only [List.length_map] at *; omega))))
    | ((with_reducible apply w_ixBl); (· walk_at "hk"); (· (first | omega | (simp only [List.length_map] at *; omega))))
    | ((with_reducible apply w_getI2); (· walk_at "hk"); (· (first | omega | (simp only [List.length_map] at *; omega))))
    | ((with_reducible apply w_ixTl); (· walk_at "hk"); (· rfl); (· decide))
    | ((with_reducible apply w_ixLl); (· walk_at "hk"); (· rfl); (· decide))
    | ((with_reducible apply w_appI); (· walk_at "hk"); (· (first | omega | (simp only [List.length_append, List.length_cons, List.length_nil]; omega))))
    | ((with_reducible apply w_iListv); (· walk_at "hk"))
    | ((with_reducible apply w_iTupv); (· walk_at "hk"))
    | ((with_reducible apply w_iRevv); (· walk_at "hk"))
    | ((with_reducible apply w_iEnumv); (· walk_at "hk"))
    | ((with_reducible apply w_iZipv); (· walk_at "hk"); (· walk_at "hk"))
    | ((with_reducible apply w_dget2v); (· walk_at "hk"))
    | ((with_reducible apply w_dget1v); (· walk_at "hk"))
    | ((with_reducible apply w_dpop1v); (· walk_at "hk"))
    | ((with_reducible apply w_getI); (· walk_at "hk"))
    | ((with_reducible apply w_inD); (· walk_at "hk"))
    | ((with_reducible apply w_ninD); (· walk_at "hk"))
    | ((with_reducible apply w_rep1); (· walk_at "hk"); (· (first | omega | (simp only [List.length_append, List.length_cons, List.length_nil, List.length_take, List.length_drop, List.length_replicate, List.length_map, List.length_range] at *; omega) | (simp only [List.length_append, List.length_cons, List.length_nil, List.length_take, List.length_drop, List.length_replicate, List.length_map, List.length_range]; omega) | decide)); (· (first | omega | (simp only [List.length_append, List.length_cons, List.length_nil, List.length_take, List.length_drop, List.length_replicate, List.length_map, List.length_range] at *; omega) | (simp only [List.length_append, List.length_cons, List.length_nil, List.length_take, List.length_drop, List.length_replicate, List.length_map, List.length_range]; omega) | decide)); intro _ _)
    | ((with_reducible apply w_gtup2); (· walk_at "hk"))
    | ((with_reducible apply w_gtup3); (· walk_at "hk"))
    | ((with_reducible apply w_gtup4); (· walk_at "hk"))
    | ((with_reducible refine w_newD ?_); intro _ _)
    | ((with_reducible apply w_augsub); (· walk_at "hk"); (· rfl); (· exact Nat.le_of_ble_eq_true rfl))
    | ((with_reducible apply w_augadd); (· walk_at "hk"); (· rfl); (· exact Nat.le_of_ble_eq_true rfl))
    | ((with_reducible apply w_fldv); (· walk_at "hk"); (· rfl))
    | ((with_reducible apply w_methv); (· walk_at "hk"); (· rfl))
    | ((with_reducible apply w_setfv); (· walk_at "hk"); (· exact Nat.le_of_ble_eq_true rfl); (· rfl))
    | walk_at "x"))
local macro_rules | `(tactic| walk_at "run") => `(tactic| repeat' (first
    | with_reducible refine w_seq ?_
    | with_reducible refine w_op ?_
    | with_reducible refine w_asg ?_
    | with_reducible refine w_name ?_
    | with_reducible refine w_c ?_
    | with_reducible refine w_if ?_
    | with_reducible refine w_test ?_
    | with_reducible refine w_blP ?_
    | with_reducible refine w_cons ?_
    | with_reducible refine w_nil ?_
    | with_reducible refine w_ret ?_
    | with_reducible refine w_call ?_
    | ((with_reducible refine' w_var ?e ?_); (case e => rfl))
    | ((with_reducible refine ifST ?h ?_); (case h => decide +kernel))
    | ((with_reducible refine ifSF ?h ?_); (case h => decide +kernel))
    | ((with_reducible refine ifSNT ?h ?_); (case h => decide +kernel))
    | ((with_reducible refine ifSNF ?h ?_); (case h => decide +kernel))
    | with_reducible refine iteT ?_
    | with_reducible refine iteF ?_
    | with_reducible refine ifNT ?_
    | with_reducible refine ifNF ?_
    | (((with_reducible show @ite Prop (_ = true) _ _ _); refine @ifP _ _ _ _ ?_ ?_) <;> intro h <;> first | (with_reducible exact absurd rfl h) | skip)
    | (((with_reducible show @ite Prop (_ = true) _ _ _); refine @ifN _ _ _ _ ?_ ?_) <;> intro h <;> first | (with_reducible exact absurd rfl h) | skip)
    | with_reducible refine w_eqX ?_
    | with_reducible refine w_neX ?_
    | with_reducible refine w_add ?_
    | with_reducible refine w_sub ?_
    | with_reducible refine w_eqI ?_
    | with_reducible refine w_neI ?_
    | with_reducible refine w_lt ?_
    | with_reducible refine w_le ?_
    | with_reducible refine w_gt ?_
    | with_reducible refine w_ge ?_
    | with_reducible refine w_eqS ?_
    | with_reducible refine w_eqB ?_
    | with_reducible refine w_neS ?_
    | with_reducible refine w_neB ?_
    | with_reducible refine w_cb ?_
    | with_reducible refine w_tup ?_
    | with_reducible refine w_lst ?_
    | with_reducible refine w_next ?_
    | with_reducible refine w_drop ?_
    | with_reducible refine w_not ?_
    | with_reducible refine w_tru ?_
    | with_reducible refine w_and ?_
    | with_reducible refine w_or ?_
    | with_reducible refine w_andV ?_
    | with_reducible refine w_orV ?_
    | with_reducible refine w_notV ?_
    | with_reducible refine w_ifE ?_
    | with_reducible refine w_chain ?_
    | with_reducible refine w_retN ?_
    | with_reducible refine w_bm ?_
    | with_reducible refine w_raise ?_
    | with_reducible refine w_fld ?_
    | with_reducible refine w_meth ?_
    | with_reducible refine w_setf ?_
    | with_reducible refine w_for ?_
    | with_reducible refine w_rng1 ?_
    | with_reducible refine w_rng2 ?_
    | with_reducible refine w_iList ?_
    | with_reducible refine w_iTup ?_
    | with_reducible refine w_iStr ?_
    | with_reducible refine w_iRev ?_
    | with_reducible refine w_brk ?_
    | with_reducible refine w_cont ?_
    | with_reducible refine w_un ?_
    | with_reducible refine w_lc ?_
    | with_reducible refine w_yes ?_
    | with_reducible refine w_gsub ?_
    | with_reducible refine w_sl ?_
    | with_reducible refine w_part ?_
    | with_reducible refine w_noPart ?_
    | with_reducible refine w_wh ?_
    | with_reducible refine w_tryAs ?_
    | with_reducible refine w_try ?_
    | with_reducible refine w_make ?_
    | with_reducible refine w_dget ?_
    | with_reducible refine w_dput ?_
    | with_reducible refine w_gcons ?_
    | with_reducible refine w_gnil ?_
    | with_reducible refine w_augf ?_
    | with_reducible refine w_iEnum ?_
    | with_reducible refine w_iZip ?_
    | with_reducible refine w_iKeys ?_
    | with_reducible refine w_dget2 ?_
    | with_reducible refine w_dget1 ?_
    | with_reducible refine w_dpop1 ?_
    | with_reducible refine w_ddel ?_
    | with_reducible refine w_callX ?_
    | with_reducible refine w_augS ?_
    | with_reducible refine w_augSQ ?_
    | ((with_reducible refine' w_aug ?e ?_); (case e => rfl))
    | ((with_reducible refine w_mul ?s ?_); (case s => first | exact Or.inr ⟨by omega, by omega⟩ | exact Or.inl ⟨by omega, by omega⟩))
    | ((with_reducible refine w_div ?s ?_); (case s => omega))
    | ((with_reducible refine w_mod ?s ?_); (case s => first | omega | decide))
    | ((with_reducible refine w_pow ?s ?_); (case s => first | exact ⟨by decide, by decide, by decide⟩ | exact ⟨by decide, by decide, by omega⟩))
    | ((with_reducible refine w_newL ?s ?_); (case s => (first | exact (by decide) | (simp only [List.length_cons, List.length_nil]; omega))); intro _ _)
    | ((with_reducible refine w_newT ?s ?_); (case s => (first | exact (by decide) | (simp only [List.length_cons, List.length_nil]; omega))); intro _ _)
    | with_reducible refine w_eqX ?_
    | with_reducible refine w_neX ?_
    | with_reducible refine w_findX ?_
    | with_reducible refine w_countX ?_
    | ((with_reducible refine w_lenX ?s ?_); (case s => (first | omega | (simp only [List.length_append, List.length_cons, List.length_nil, List.length_take, List.length_drop, List.length_replicate, List.length_map, List.length_range] at *; omega) | (simp only [List.length_append, List.length_cons, List.length_nil, List.length_take, List.length_drop, List.length_replicate, List.length_map, List.length_range]; omega) | decide)))
    | ((with_reducible refine w_truX ?s ?_); (case s => (first | omega | (simp only [List.length_append, List.length_cons, List.length_nil, List.length_take, List.length_drop, List.length_replicate, List.length_map, List.length_range] at *; omega) | (simp only [List.length_append, List.length_cons, List.length_nil, List.length_take, List.length_drop, List.length_replicate, List.length_map, List.length_range]; omega) | decide)))
    | ((with_reducible refine w_addX ?s ?_); (case s => (first | omega | (simp only [List.length_append, List.length_cons, List.length_nil, List.length_take, List.length_drop, List.length_replicate, List.length_map, List.length_range] at *; omega) | (simp only [List.length_append, List.length_cons, List.length_nil, List.length_take, List.length_drop, List.length_replicate, List.length_map, List.length_range]; omega) | decide)))
    | ((with_reducible refine w_mulX ?h0 ?h1 ?_); (case h0 => (first | omega | (simp only [List.length_append, List.length_cons, List.length_nil, List.length_take, List.length_drop, List.length_replicate, List.length_map, List.length_range] at *; omega) | (simp only [List.length_append, List.length_cons, List.length_nil, List.length_take, List.length_drop, List.length_replicate, List.length_map, List.length_range]; omega) | decide)); (case h1 => (first | omega | (simp only [List.length_append, List.length_cons, List.length_nil, List.length_take, List.length_drop, List.length_replicate, List.length_map, List.length_range] at *; omega) | (simp only [List.length_append, List.length_cons, List.length_nil, List.length_take, List.length_drop, List.length_replicate, List.length_map, List.length_range]; omega) | decide)))
    | ((with_reducible refine w_tkX ?s ?h0 ?_); (case s => (first | omega | (simp only [List.length_append, List.length_cons, List.length_nil, List.length_take, List.length_drop, List.length_replicate, List.length_map, List.length_range] at *; omega) | (simp only [List.length_append, List.length_cons, List.length_nil, List.length_take, List.length_drop, List.length_replicate, List.length_map, List.length_range]; omega) | decide)); (case h0 => (first | omega | (simp only [List.length_append, List.length_cons, List.length_nil, List.length_take, List.length_drop, List.length_replicate, List.length_map, List.length_range] at *; omega) | (simp only [List.length_append, List.length_cons, List.length_nil, List.length_take, List.length_drop, List.length_replicate, List.length_map, List.length_range]; omega) | decide)))
    | ((with_reducible refine w_dpX ?s ?h0 ?_); (case s => (first | omega | (simp only [List.length_append, List.length_cons, List.length_nil, List.length_take, List.length_drop, List.length_replicate, List.length_map, List.length_range] at *; omega) | (simp only [List.length_append, List.length_cons, List.length_nil, List.length_take, List.length_drop, List.length_replicate, List.length_map, List.length_range]; omega) | decide)); (case h0 => (first | omega | (simp only [List.length_append, List.length_cons, List.length_nil, List.length_take, List.length_drop, List.length_replicate, List.length_map, List.length_range] at *; omega) | (simp only [List.length_append, List.length_cons, List.length_nil, List.length_take, List.length_drop, List.length_replicate, List.length_map, List.length_range]; omega) | decide)))
    | ((with_reducible refine w_ixX ?s ?h0 ?_); (case s => (first | omega | (simp only [List.length_append, List.length_cons, List.length_nil, List.length_take, List.length_drop, List.length_replicate, List.length_map, List.length_range] at *; omega) | (simp only [List.length_append, List.length_cons, List.length_nil, List.length_take, List.length_drop, List.length_replicate, List.length_map, List.length_range]; omega) | decide)); (case h0 => (first | omega | (simp only [List.length_append, List.length_cons, List.length_nil, List.length_take, List.length_drop, List.length_replicate, List.length_map, List.length_range] at *; omega) | (simp only [List.length_append, List.length_cons, List.length_nil, List.length_take, List.length_drop, List.length_replicate, List.length_map, List.length_range]; omega) | decide)))
    | with_reducible refine w_max ?_
    | with_reducible refine w_min ?_
    | with_reducible refine w_eqNI ?_
    | with_reducible refine w_neNI ?_
    | with_reducible refine w_eqIN ?_
    | with_reducible refine w_neIN ?_
    | with_reducible refine w_neNN ?_
    | with_reducible refine w_eqNN ?_
    | with_reducible refine w_abs ?_
    | with_reducible refine w_intI ?_
    | with_reducible refine w_intB ?_
    | with_reducible refine w_ipI ?_
    | with_reducible refine w_bmS ?_
    | with_reducible refine w_iStrv ?_
    | with_reducible refine w_neg ?_
    | with_reducible refine w_partI ?_
    | with_reducible refine w_truB ?_
    | with_reducible refine w_truN ?_
    | with_reducible refine w_truI ?_
    | with_reducible refine w_isi_int_int ?_
    | with_reducible refine w_isi_int_bl ?_
    | with_reducible refine w_isi_int_str ?_
    | with_reducible refine w_isi_int_non ?_
    | with_reducible refine w_isi_bool_int ?_
    | with_reducible refine w_isi_bool_bl ?_
    | with_reducible refine w_isi_bool_str ?_
    | with_reducible refine w_isi_bool_non ?_
    | with_reducible refine w_isi_str_int ?_
    | with_reducible refine w_isi_str_bl ?_
    | with_reducible refine w_isi_str_str ?_
    | with_reducible refine w_isi_str_non ?_
    | with_reducible refine w_isi_list_int ?_
    | with_reducible refine w_isi_list_bl ?_
    | with_reducible refine w_isi_list_str ?_
    | with_reducible refine w_isi_list_non ?_
    | with_reducible refine w_isi_tuple_int ?_
    | with_reducible refine w_isi_tuple_bl ?_
    | with_reducible refine w_isi_tuple_str ?_
    | with_reducible refine w_isi_tuple_non ?_
    | with_reducible refine w_is_int ?_
    | with_reducible refine w_isnt_int ?_
    | with_reducible refine w_is_bl ?_
    | with_reducible refine w_isnt_bl ?_
    | with_reducible refine w_is_str ?_
    | with_reducible refine w_isnt_str ?_
    | with_reducible refine w_is_non ?_
    | with_reducible refine w_isnt_non ?_
    | with_reducible refine w_is_ref ?_
    | with_reducible refine w_isnt_ref ?_
    | ((with_reducible refine w_asT ?e ?_); (case e => walk_at "te"); intro _ _)
    | ((with_reducible refine w_onT ?e ?_); (case e => walk_at "te"); intro _ _)
    | ((with_reducible refine w_asF ?e ?_); (case e => walk_at "te"))
    | ((with_reducible refine w_onF ?e ?_); (case e => walk_at "te"))
    | ((with_reducible apply w_isE); (· walk_at "xc"); (· walk_at "kt"))
    | ((with_reducible apply w_lenL); (· walk_at "hk"))
    | ((with_reducible apply w_lenT); (· walk_at "hk"))
    | ((with_reducible apply w_bmL); (· walk_at "hk"))
    | ((with_reducible refine w_rng1v ?h1 ?h2 ?_); (case h1 => (first | omega | (simp only [List.length_map] at *; omega))); (case h2 => (first | omega | (simp only [List.length_map] at *; omega))))
    | ((with_reducible refine w_rng2v ?h1 ?_); (case h1 => (first | omega | (simp only [List.length_map] at *; omega))))
    | ((with_reducible apply w_ixI); (· walk_at "hk"); (· (first | omega | (simp only [List.length_map] at *; omega))))
    | ((with_reducible apply w_ixTI); (· walk_at "hk"); (· (first | omega | (simp only [List.length_map] at *; omega))))
    | ((with_reducible apply w_ixBl); (· walk_at "hk"); (· (first | omega | (simp only [List.length_map] at *; omega))))
    | ((with_reducible apply w_getI2); (· walk_at "hk"); (· (first | omega | (simp only [List.length_map] at *; omega))))
    | ((with_reducible apply w_ixTl); (· walk_at "hk"); (· rfl); (· decide))
    | ((with_reducible apply w_ixLl); (· walk_at "hk"); (· rfl); (· decide))
    | ((with_reducible apply w_appI); (· walk_at "hk"); (· (first | omega | (simp only [List.length_append, List.length_cons, List.length_nil]; omega))))
    | ((with_reducible apply w_iListv); (· walk_at "hk"))
    | ((with_reducible apply w_iTupv); (· walk_at "hk"))
    | ((with_reducible apply w_iRevv); (· walk_at "hk"))
    | ((with_reducible apply w_iEnumv); (· walk_at "hk"))
    | ((with_reducible apply w_iZipv); (· walk_at "hk"); (· walk_at "hk"))
    | ((with_reducible apply w_dget2v); (· walk_at "hk"))
    | ((with_reducible apply w_dget1v); (· walk_at "hk"))
    | ((with_reducible apply w_dpop1v); (· walk_at "hk"))
    | ((with_reducible apply w_getI); (· walk_at "hk"))
    | ((with_reducible apply w_inD); (· walk_at "hk"))
    | ((with_reducible apply w_ninD); (· walk_at "hk"))
    | ((with_reducible apply w_rep1); (· walk_at "hk"); (· (first | omega | (simp only [List.length_append, List.length_cons, List.length_nil, List.length_take, List.length_drop, List.length_replicate, List.length_map, List.length_range] at *; omega) | (simp only [List.length_append, List.length_cons, List.length_nil, List.length_take, List.length_drop, List.length_replicate, List.length_map, List.length_range]; omega) | decide)); (· (first | omega | (simp only [List.length_append, List.length_cons, List.length_nil, List.length_take, List.length_drop, List.length_replicate, List.length_map, List.length_range] at *; omega) | (simp only [List.length_append, List.length_cons, List.length_nil, List.length_take, List.length_drop, List.length_replicate, List.length_map, List.length_range]; omega) | decide)); intro _ _)
    | ((with_reducible apply w_gtup2); (· walk_at "hk"))
    | ((with_reducible apply w_gtup3); (· walk_at "hk"))
    | ((with_reducible apply w_gtup4); (· walk_at "hk"))
    | ((with_reducible refine w_newD ?_); intro _ _)
    | ((with_reducible apply w_augsub); (· walk_at "hk"); (· rfl); (· exact Nat.le_of_ble_eq_true rfl))
    | ((with_reducible apply w_augadd); (· walk_at "hk"); (· rfl); (· exact Nat.le_of_ble_eq_true rfl))
    | ((with_reducible apply w_fldv); (· walk_at "hk"); (· rfl))
    | ((with_reducible apply w_methv); (· walk_at "hk"); (· rfl))
    | ((with_reducible apply w_setfv); (· walk_at "hk"); (· exact Nat.le_of_ble_eq_true rfl); (· rfl))
    | walk_at "x"))
/-- the addresses that the readings speak of -/
structure Ex where
  (LaminaError NotValid PowerOff NoProcess BadHandle NoVolume ReadOnly BadName Missing WrongKind Exists LoopFound CrossVolume Busy NotEmpty TooMany TooLong OverQuota NoSpace BadImage : Addr := 0)
  (Disk Head Space Store OpenFiles Handles Processes Log Accounts Session System : Addr := 0)
  (POINTER_KINDS MODES LENGTHS : Addr := 0)
/-- what is known of the exceptions' classes -/
structure Fa (K : PySem.W.Frag) (C : Ex) : Prop where
  fa0 : True
  te_NotValid_BadName : PySem.W.exmOne K (.ref C.NotValid) (.ref C.BadName) = some false
  te_PowerOff_BadName : PySem.W.exmOne K (.ref C.PowerOff) (.ref C.BadName) = some false
  te_BadName_BadName : PySem.W.exmOne K (.ref C.BadName) (.ref C.BadName) = some true
  te_NoSpace_BadName : PySem.W.exmOne K (.ref C.NoSpace) (.ref C.BadName) = some false
  te_BadImage_BadName : PySem.W.exmOne K (.ref C.BadImage) (.ref C.BadName) = some false
local macro_rules | `(tactic| walk_at "te") => `(tactic| first | exact Fa.te_NotValid_BadName (by assumption) | exact Fa.te_PowerOff_BadName (by assumption) | exact Fa.te_BadName_BadName (by assumption) | exact Fa.te_NoSpace_BadName (by assumption) | exact Fa.te_BadImage_BadName (by assumption))
def S1 (f : V → Hp → VK → XK → Prop) : Sp := fun vs H Q E => ∃ a, vs = [a] ∧ f a H Q E
def S2 (f : V → V → Hp → VK → XK → Prop) : Sp := fun vs H Q E => ∃ a b, vs = [a, b] ∧ f a b H Q E
def S3 (f : V → V → V → Hp → VK → XK → Prop) : Sp := fun vs H Q E => ∃ a b c, vs = [a, b, c] ∧ f a b c H Q E
def S4 (f : V → V → V → V → Hp → VK → XK → Prop) : Sp := fun vs H Q E => ∃ a b c d, vs = [a, b, c, d] ∧ f a b c d H Q E
section
variable {vs : List V} {H : Hp} {Q : VK} {E : XK} {a b c d e : V}
theorem len1 {f} (h : S1 f vs H Q E) : vs.length = 1 := by obtain ⟨_, rfl, _⟩ := h; rfl
theorem len2 {f} (h : S2 f vs H Q E) : vs.length = 2 := by obtain ⟨_, _, rfl, _⟩ := h; rfl
theorem len3 {f} (h : S3 f vs H Q E) : vs.length = 3 := by obtain ⟨_, _, _, rfl, _⟩ := h; rfl
theorem len4 {f} (h : S4 f vs H Q E) : vs.length = 4 := by obtain ⟨_, _, _, _, rfl, _⟩ := h; rfl
theorem w_S1 {f} (h : f a H Q E) : S1 f [a] H Q E := ⟨a, rfl, h⟩
theorem w_S2 {f} (h : f a b H Q E) : S2 f [a, b] H Q E := ⟨a, b, rfl, h⟩
theorem w_S3 {f} (h : f a b c H Q E) : S3 f [a, b, c] H Q E := ⟨a, b, c, rfl, h⟩
theorem w_S4 {f} (h : f a b c d H Q E) : S4 f [a, b, c, d] H Q E := ⟨a, b, c, d, rfl, h⟩
end
theorem lt_line {n : Nat} (h : n < 10000000) : n < sizeLine := Nat.lt_of_lt_of_le h (by decide)
theorem le_line {n : Nat} (h : n < 10000000) : n ≤ sizeLine := Nat.le_of_lt (lt_line h)
/-- what isinstance may ask: a scalar, or an object that is a list, a tuple, a dict -/
def Known (K : PySem.W.Frag) (H : Hp) : V → Prop
  | .ref a => ∃ o : Ob, TyX K H (.ref a) (.type o.nm)
  | .byt _ => False
  | .flt _ => False
  | .ty _ => False
  | _ => True
abbrev spLaw (K : PySem.W.Frag) : Sp := S1 fun a H Q _ => ∃ (p : Addr) (ns : List Int), a = .ref p ∧ SqL K H p (ns.map V.int) ∧ ns.length ≤ 63 ∧ ∀ H', Q (.bl true) H'
/-- an item of a mapped list -/
theorem at_int {ns : List Int} {i : Nat} {x : V} (h : (ns.map V.int)[i]? = some x) : ∃ n, ns[i]? = some n ∧ x = .int n := by
  rw [List.getElem?_map] at h
  cases e : ns[i]? with
  | none => rw [e] at h; cases h
  | some n => rw [e] at h; exact ⟨n, rfl, (Option.some.inj h).symm⟩
theorem int_at {ns : List Int} {i : Nat} (h : i < ns.length) : (ns.map V.int)[i]? = some (.int (ns.getD i 0)) := by
  rw [List.getElem?_map, List.getElem?_eq_getElem h, List.getD_eq_getElem?_getD, List.getElem?_eq_getElem h]
  rfl
theorem tyx_list {K : PySem.W.Frag} {H : Hp} {p : Addr} {xs : List V} (h : SqL K H p xs) : TyX K H (.ref p) (.type U.Ob.list.nm) := by
  rcases h with (h | ⟨o, h⟩) | ⟨o, its, n, e, c, _⟩
  · exact .base (.lst h)
  · exact .base (.frz h)
  · exact .kList e c
theorem w_isi_list_L {K : PySem.W.Frag} {H : Hp} {Q : VK} {p : Addr} {xs : List V} (e : SqL K H p xs) (h : Q (.bl true) H) : uIsi K .list [.ref p, .ty "list"] H Q := ⟨rfl, .list, tyx_list e, h⟩
/-- a value that is known not to be a list -/
def NoList (K : PySem.W.Frag) (H : Hp) : V → Prop
  | .ref a => ∃ o : U.Ob, o ≠ .list ∧ TyX K H (.ref a) (.type o.nm)
  | .byt _ => False
  | .flt _ => False
  | .ty _ => False
  | _ => True
theorem all_take {α : Type} {p : α → Bool} {xs : List α} {i : Nat} {x : α} (h : xs[i]? = some x) (ha : (xs.take i).all p = true) (hx : p x = true) : (xs.take (i + 1)).all p = true := by
  have hb := (List.getElem?_eq_some_iff.mp h)
  obtain ⟨hl, he⟩ := hb
  rw [List.take_succ_eq_append_getElem hl, List.all_append, ha, he]
  simp [hx]
theorem all_not {α : Type} {p : α → Bool} {xs : List α} {i : Nat} {x : α} (h : xs[i]? = some x) (hx : p x = false) : xs.all p = false := by
  rw [List.all_eq_false]
  exact ⟨x, List.mem_of_getElem? h, by simp [hx]⟩
theorem take_snoc {α : Type} {l : List α} {i : Nat} {c : α} (h : l[i]? = some c) : l.take (i + 1) = l.take i ++ [c] := by
  obtain ⟨hl, he⟩ := List.getElem?_eq_some_iff.mp h
  rw [List.take_succ_eq_append_getElem hl, he]
theorem w_cutS {D : Ends} {σ : L2.St} {H : Hp} {t u : TS} (h : tSeq t u D σ H) : tCut t u D σ H := ⟨u D, h, fun _ _ h => h⟩
def sp__law_cell (K : PySem.W.Frag) (_ : Ex) : Sp := S2 fun a b H Q _ => ∃ (p : Addr) (ns : List Int) (k : Int), a = .ref p ∧ b = .int k ∧ SqL K H p (ns.map V.int) ∧ 0 ≤ k ∧ Q (.int (ns.getD k.toNat 0)) H
def t__law_cell (K : PySem.W.Frag) (C : Ex) (E : XK) : TS :=
  tSeq (tIfS (tTest (tOp (uLt K) (tVar 1) (tCB (uLen K) (tCons (tVar 0) (tNil))))) (tRet (tCB (uInt) (tCons (tOp (uIx K) (tVar 0) (tVar 1)) (tNil)))) (tNext))
  (tRet (tC (.int 0)))
theorem pure__law_cell {K : PySem.W.Frag} {C : Ex} {vs : List V} {H : Hp} {Q : VK} {E : XK} (F : Fa K C) (h : sp__law_cell K C vs H Q E) : t__law_cell K C E { nx := fun _ H' => Q .non H', rt := Q } (start ["_law_script", "_law_k"] vs) H := by
  obtain ⟨a, b, rfl, p, ts, k, rfl, rfl, hS, hk, q⟩ := h
  unfold t__law_cell
  walk_at "run1"
  · walk_at "run1"
    exact q
  · walk_at "run1"
    rename_i hlt
    rw [List.getD_eq_getElem?_getD, List.getElem?_eq_none (by simp only [List.length_map] at hlt; omega)] at q
    exact q
theorem u__law_cell {K : PySem.W.Frag} {C : Ex} {H : Hp} {Q : VK} {E : XK} {p : Addr} {ns : List Int} {k : Int} (e : SqL K H p (ns.map V.int)) (h0 : 0 ≤ k) (h : Q (.int (ns.getD k.toNat 0)) H) : sp__law_cell K C [.ref p, .int k] H Q E := w_S2 ⟨p, ns, k, rfl, rfl, e, h0, h⟩
local macro_rules | `(tactic| walk_at "x") => `(tactic| ((with_reducible apply u__law_cell); (· walk_at "hk"); (· omega)))
def isWord : V → Bool
  | .int i => decide (0 ≤ i)
  | _ => false
def sp_is_word (K : PySem.W.Frag) (_ : Ex) : Sp := S1 fun a H Q _ => Known K H a ∧ Q (.bl (isWord a)) H
def t_is_word (K : PySem.W.Frag) (C : Ex) (E : XK) : TS :=
  tSeq (tIfS (tOr (tNot (uTru K (tCB (uIsi K .int) (tCons (tVar 0) (tCons (tC (.ty "int")) (tNil)))))) (uTru K (tCB (uIsi K .bool) (tCons (tVar 0) (tCons (tC (.ty "bool")) (tNil)))))) (tRet (tC (.bl false))) (tNext))
  (tRet (tOp (uGe K) (tVar 0) (tC (.int 0))))
theorem pure_is_word {K : PySem.W.Frag} {C : Ex} {vs : List V} {H : Hp} {Q : VK} {E : XK} (F : Fa K C) (h : sp_is_word K C vs H Q E) : t_is_word K C E { nx := fun _ H' => Q .non H', rt := Q } (start ["value"] vs) H := by
  obtain ⟨a, rfl, hk, k⟩ := h
  unfold t_is_word
  cases a with
  | non => walk_at "run"; exact k
  | bl b => walk_at "run"; exact k
  | int i => walk_at "run"; exact k
  | str z => walk_at "run"; exact k
  | ref p =>
    obtain ⟨o, ho⟩ := hk
    walk_at "run1"
    refine ⟨rfl, o, ho, ?_⟩
    cases o <;> (walk_at "run"; exact k)
  | _ => exact hk.elim
def btw (lo hi : Int) : V → Bool
  | .int i => decide (lo ≤ i) && decide (i ≤ hi)
  | _ => false
theorem btw_i (lo hi i : Int) : btw lo hi (.int i) = (decide (lo ≤ i) && decide (i ≤ hi)) := rfl
def sp_is_between (K : PySem.W.Frag) (_ : Ex) : Sp := S3 fun a b c H Q _ => ∃ lo hi : Int, b = .int lo ∧ c = .int hi ∧ Known K H a ∧ Q (.bl (btw lo hi a)) H
def t_is_between (K : PySem.W.Frag) (C : Ex) (E : XK) : TS :=
  tSeq (tIfS (tOr (tNot (uTru K (tCB (uIsi K .int) (tCons (tVar 0) (tCons (tC (.ty "int")) (tNil)))))) (uTru K (tCB (uIsi K .bool) (tCons (tVar 0) (tCons (tC (.ty "bool")) (tNil)))))) (tRet (tC (.bl false))) (tNext))
  (tRet (tChain (uLe K) (uLe K) (tVar 1) (tVar 0) (tVar 2)))
theorem pure_is_between {K : PySem.W.Frag} {C : Ex} {vs : List V} {H : Hp} {Q : VK} {E : XK} (F : Fa K C) (h : sp_is_between K C vs H Q E) : t_is_between K C E { nx := fun _ H' => Q .non H', rt := Q } (start ["value", "low", "high"] vs) H := by
  obtain ⟨a, b, c, rfl, lo, hi, rfl, rfl, hk, k⟩ := h
  unfold t_is_between
  cases a with
  | non => walk_at "run"; exact k
  | bl b => walk_at "run"; exact k
  | int i =>
    walk_at "run1"
    · rename_i h
      rw [btw_i, decide_eq_true h, Bool.true_and] at k
      exact k
    · walk_at "run1"
      rename_i h
      rw [btw_i, decide_eq_false h, Bool.false_and] at k
      exact k
  | str z => walk_at "run"; exact k
  | ref p =>
    obtain ⟨o, ho⟩ := hk
    walk_at "run1"
    refine ⟨rfl, o, ho, ?_⟩
    cases o <;> (walk_at "run"; exact k)
  | _ => exact hk.elim
theorem btw_int {lo hi i : Int} (h1 : lo ≤ i) (h2 : i ≤ hi) : btw lo hi (.int i) = true := by rw [btw_i, decide_eq_true h1, decide_eq_true h2]; rfl
theorem btw_inv {lo hi : Int} {v : V} (h : btw lo hi v = true) : ∃ i, v = .int i ∧ lo ≤ i ∧ i ≤ hi := by
  cases v <;> first | (cases h; done) | skip
  rename_i i
  exact ⟨i, rfl, of_decide_eq_true (Bool.and_eq_true_iff.mp h).1, of_decide_eq_true (Bool.and_eq_true_iff.mp h).2⟩
def sp_are_words (K : PySem.W.Frag) (_ : Ex) : Sp := S2 fun a b H Q _ => ∃ m : Int, b = .int m ∧
  ((∃ p xs, a = .ref p ∧ SqL K H p xs ∧ (∀ x ∈ xs, Known K H x) ∧ Q (.bl (decide ((xs.length : Int) = m) && xs.all isWord)) H) ∨ (NoList K H a ∧ Q (.bl false) H))
def t_are_words (K : PySem.W.Frag) (C : Ex) (E : XK) : TS :=
  tSeq (tIfS (tOr (tNot (uTru K (tCB (uIsi K .list) (tCons (tVar 0) (tCons (tC (.ty "list")) (tNil)))))) (tTest (tOp (uNe K) (tCB (uLen K) (tCons (tVar 0) (tNil))) (tVar 1)))) (tRet (tC (.bl false))) (tNext))
  (tSeq (tFor (iList K (tVar 0)) (gName 2)
  (tIfS (tNot (uTru K (uCall (sp_is_word K C) (WB E) (tCons (tVar 2) (tNil))))) (tRet (tC (.bl false))) (tNext)))
  (tRet (tC (.bl true))))
theorem pure_are_words {K : PySem.W.Frag} {C : Ex} {vs : List V} {H : Hp} {Q : VK} {E : XK} (F : Fa K C) (h : sp_are_words K C vs H Q E) : t_are_words K C E { nx := fun _ H' => Q .non H', rt := Q } (start ["values", "many", "value"] vs) H := by
  obtain ⟨a, b, rfl, m, rfl, ⟨p, xs, rfl, hS, hk, k⟩ | ⟨hn, k⟩⟩ := h
  · unfold t_are_words
    walk_at "run1"
    refine w_isi_list_L hS ?_
    walk_at "run1"
    · walk_at "run1"
      rename_i hne
      rw [decide_eq_false hne] at k
      exact k
    · walk_at "run1"
      rename_i he
      refine f_list (xs := xs) (fun i σ H' => H' = H ∧ (∃ v, σ = [some (.ref p), some (.int m), v]) ∧ (xs.take i).all isWord = true) ⟨rfl, ⟨none, rfl⟩, rfl⟩ (by rintro i σ H' _ ⟨rfl, _⟩; exact hS) ?_ ?_
      · rintro i x σ H' hx ⟨rfl, ⟨v, rfl⟩, ha⟩
        walk_at "run1"
        refine w_S1 ⟨hk x (List.mem_of_getElem? hx), ?_⟩
        walk_at "run1"
        refine ifBN (fun hf => ?_) (fun ht => ?_)
        · walk_at "run1"
          rw [all_not hx hf, Bool.and_false] at k
          exact k
        · walk_at "run1"
          exact ⟨rfl, ⟨_, rfl⟩, all_take hx ha ht⟩
      · rintro σ H' ⟨rfl, ⟨v, rfl⟩, ha⟩
        walk_at "run1"
        rw [List.take_length] at ha
        rw [ha, decide_eq_true he] at k
        exact k
  · unfold t_are_words
    cases a with
    | ref p =>
      obtain ⟨o, ho, ht⟩ := hn
      walk_at "run1"
      refine ⟨rfl, o, ht, ?_⟩
      cases o with
      | list => exact absurd rfl ho
      | _ => walk_at "run"; exact k
    | byt _ => exact hn.elim
    | flt _ => exact hn.elim
    | ty _ => exact hn.elim
    | _ => walk_at "run"; exact k
/-- of the objects of H all but those of S stand in H'; S' is of S or new -/
def Stp (S : List Addr) (H : Hp) (S' : List Addr) (H' : Hp) : Prop := (∀ b o, H b = some o → b ∉ S → H' b = some o) ∧ ∀ b ∈ S', b ∈ S ∨ H b = none
theorem Stp.refl {S : List Addr} {H : Hp} : Stp S H S H := ⟨fun _ _ h _ => h, fun _ h => .inl h⟩
theorem Stp.trans {S S1 S2 : List Addr} {H H1 H2 : Hp} (x : Stp S H S1 H1) (y : Stp S1 H1 S2 H2) : Stp S H S2 H2 := by
  refine ⟨fun b o h n => y.1 b o (x.1 b o h n) fun q => ?_, fun b hb => ?_⟩
  · rcases x.2 b q with z | z
    · exact n z
    · rw [h] at z; cases z
  · rcases y.2 b hb with q | q
    · exact x.2 b q
    · by_cases n : b ∈ S
      · exact .inl n
      · cases e : H b with
        | none => exact .inr rfl
        | some o => rw [x.1 b o e n] at q; cases q
theorem Stp.same {S : List Addr} {H H' : Hp} (s : Same H H') : Stp S H S H' := ⟨fun b o h _ => s b o h, fun _ h => .inl h⟩
theorem Stp.upd {S : List Addr} {H H' : Hp} {p : Addr} {o : HO} (x : Stp S H S H') (h : p ∈ S) : Stp S H S (upd H' p o) :=
  ⟨fun b w e n => by rw [upd_ne (fun q => n (by rw [q]; exact h))]; exact x.1 b w e n, x.2⟩
theorem Stp.new {S : List Addr} {H H' : Hp} {p : Addr} {o : HO} (x : Stp S H S H') (h : H' p = none) : Stp S H S (L2.upd H' p o) := x.trans (.same (same_new h))
theorem Stp.fresh {S S' : List Addr} {H H' : Hp} {p : Addr} (x : Stp S H S' H') (n : H' p = none) : p ∈ S ∨ H p = none := by
  by_cases q : p ∈ S
  · exact .inl q
  · cases e : H p with
    | none => exact .inr rfl
    | some o => rw [x.1 p o e q] at n; cases n
theorem Stp.keep {S S' : List Addr} {H H' : Hp} {b : Addr} {o : HO} (x : Stp S H S' H') (h : H b = some o) (n : b ∉ S) : H' b = some o ∧ b ∉ S' :=
  ⟨x.1 b o h n, fun q => (x.2 b q).elim n fun z => by rw [h] at z; cases z⟩
theorem Stp.toSame {S S' : List Addr} {H0 H H' : Hp} (x : Stp S H S' H') (hn : ∀ b ∈ S, H0 b = none) (s : Same H0 H) : Same H0 H' ∧ ∀ b ∈ S', H0 b = none :=
  ⟨fun b o h => x.1 b o (s b o h) fun q => (by rw [hn b q] at h; cases h), fun b q => (x.2 b q).elim (hn b) fun z => s.free z⟩
/-- a list of eight words -/
def RowAt (H : Hp) (v : V) (r : List Int) : Prop := r.length = 8 ∧ ∃ p, v = .ref p ∧ H p = some (.lst (r.map V.int))
def AllRef (vs : List V) : Prop := ∀ x ∈ vs, ∃ p, x = V.ref p
theorem row_ne {r : List Int} {vs : List V} (h : r.length = 8) (hv : AllRef vs) : HO.lst (r.map V.int) ≠ HO.lst vs := by
  intro e
  have e := HO.lst.inj e
  cases r with
  | nil => cases h
  | cons z r =>
    obtain ⟨p, q⟩ := hv (.int z) (by rw [← e]; exact List.mem_cons_self ..)
    cases q
theorem RowAt.same {H H' : Hp} {v : V} {r : List Int} (x : RowAt H v r) (s : Same H H') : RowAt H' v r := by
  obtain ⟨l, p, rfl, h⟩ := x
  exact ⟨l, p, rfl, s _ _ h⟩
theorem RowAt.upd {H : Hp} {v : V} {r : List Int} {q : Addr} {o u : HO} (x : RowAt H v r) (h : H q = some u) (n : r.length = 8 → HO.lst (r.map V.int) ≠ u) : RowAt (upd H q o) v r := by
  obtain ⟨l, p, rfl, e⟩ := x
  exact ⟨l, p, rfl, by rw [upd_ne (ne_of e h (n l))]; exact e⟩
/-- what may be written without a row's loss -/
def NoRow (u : HO) : Prop := ∀ r : List Int, r.length = 8 → HO.lst (r.map V.int) ≠ u
theorem noRow_ins {C dx : Addr} {fs : List (Str × V)} : NoRow (.ins C dx fs) := fun _ _ e => nomatch e
theorem noRow_dK {kvs : List (Key × V)} : NoRow (.dK kvs) := fun _ _ e => nomatch e
theorem noRow_refs {vs : List V} (h : AllRef vs) : NoRow (.lst vs) := fun _ l => row_ne l h
def RowsAt (H : Hp) (vs : List V) (rs : List (List Int)) : Prop := vs.length = rs.length ∧ ∀ (i : Nat) v, vs[i]? = some v → ∃ r, rs[i]? = some r ∧ RowAt H v r
theorem RowsAt.ref {H : Hp} {vs : List V} {rs : List (List Int)} (x : RowsAt H vs rs) : AllRef vs := fun v hv => by
  obtain ⟨i, hi⟩ := List.getElem?_of_mem hv
  obtain ⟨r, _, _, p, e, _⟩ := x.2 i v hi
  exact ⟨p, e⟩
theorem RowsAt.map {H H' : Hp} {vs : List V} {rs : List (List Int)} (x : RowsAt H vs rs) (f : ∀ v r, RowAt H v r → RowAt H' v r) : RowsAt H' vs rs := ⟨x.1, fun i v h => by
  obtain ⟨r, e, y⟩ := x.2 i v h
  exact ⟨r, e, f v r y⟩⟩
theorem RowsAt.same {H H' : Hp} {vs : List V} {rs : List (List Int)} (x : RowsAt H vs rs) (s : Same H H') : RowsAt H' vs rs := x.map fun _ _ y => y.same s
theorem RowsAt.upd {H : Hp} {vs : List V} {rs : List (List Int)} {q : Addr} {o u : HO} (x : RowsAt H vs rs) (h : H q = some u) (n : NoRow u) : RowsAt (upd H q o) vs rs := x.map fun _ r y => y.upd h (n r)
theorem RowsAt.nil {H : Hp} : RowsAt H [] [] := ⟨rfl, fun i v h => by simp at h⟩
theorem RowsAt.snoc {H : Hp} {vs : List V} {rs : List (List Int)} {v : V} {r : List Int} (x : RowsAt H vs rs) (y : RowAt H v r) : RowsAt H (vs ++ [v]) (rs ++ [r]) := by
  refine ⟨by rw [List.length_append, List.length_append, x.1]; rfl, fun i w h => ?_⟩
  rcases Nat.lt_or_ge i vs.length with q | q
  · rw [List.getElem?_append_left q] at h
    obtain ⟨r', e, z⟩ := x.2 i w h
    exact ⟨r', by rw [List.getElem?_append_left (by rw [← x.1]; exact q)]; exact e, z⟩
  · rw [List.getElem?_append_right q] at h
    have hi : i - vs.length = 0 := by
      have := (List.getElem?_eq_some_iff.mp h).1
      simp at this
      omega
    rw [hi] at h
    cases h
    exact ⟨r, by rw [List.getElem?_append_right (by rw [← x.1]; exact q), ← x.1, hi]; rfl, y⟩
theorem RowsAt.set {H : Hp} {vs : List V} {rs : List (List Int)} {v : V} {r : List Int} {j : Nat} (x : RowsAt H vs rs) (y : RowAt H v r) : RowsAt H (vs.set j v) (rs.set j r) := by
  refine ⟨by rw [List.length_set, List.length_set, x.1], fun i w h => ?_⟩
  by_cases q : j = i
  · subst q
    have hl : j < vs.length := by
      have := (List.getElem?_eq_some_iff.mp h).1
      rw [List.length_set] at this
      exact this
    rw [List.getElem?_set_self hl] at h
    cases h
    exact ⟨r, List.getElem?_set_self (by rw [← x.1]; exact hl), y⟩
  · rw [List.getElem?_set_ne q] at h
    obtain ⟨r', e, z⟩ := x.2 i w h
    exact ⟨r', by rw [List.getElem?_set_ne q]; exact e, z⟩
theorem AllRef.snoc {vs : List V} {p : Addr} (h : AllRef vs) : AllRef (vs ++ [.ref p]) := fun x hx => by
  rcases List.mem_append.mp hx with q | q
  · exact h x q
  · exact ⟨p, List.mem_singleton.mp q⟩
/-- eight words -/
def Row8 (r : List Int) : Prop := r.length = 8 ∧ ∀ z ∈ r, 0 ≤ z
theorem Row8.set {r : List Int} {i : Nat} {z : Int} (h : Row8 r) (hz : 0 ≤ z) : Row8 (r.set i z) := ⟨by rw [List.length_set]; exact h.1, fun y hy => by
  rcases List.mem_or_eq_of_mem_set hy with q | q
  · exact h.2 y q
  · rw [q]; exact hz⟩
structure DiskS where
  blocks : Int
  secs : List (List Int)
  wr : List (Int × List Int)
  left : Option Int
  pw : Bool
def optI : Option Int → V
  | none => .non
  | some i => .int i
theorem optI_n : optI none = .non := rfl
theorem optI_s (z : Int) : optI (some z) = .int z := rfl
/-- what was written to a sector last -/
def lastW : List (Int × List Int) → Int → Option (List Int)
  | [], _ => none
  | (t, r) :: w, s => match lastW w s with
    | some q => some q
    | none => if s = t then some r else none
theorem lastW_snoc (w : List (Int × List Int)) (t : Int) (r : List Int) (s : Int) : lastW (w ++ [(t, r)]) s = if s = t then some r else lastW w s := by
  induction w with
  | nil => rfl
  | cons p w ih =>
    obtain ⟨u, q⟩ := p
    show (match lastW (w ++ [(t, r)]) s with | some q => some q | none => if s = u then some q else none) = if s = t then some r else (match lastW w s with | some q => some q | none => if s = u then some q else none)
    rw [ih]
    by_cases h : s = t
    · rw [if_pos h, if_pos h]
    · rw [if_neg h, if_neg h]
def rdS (D : DiskS) (s : Int) : List Int := (lastW D.wr s).getD (D.secs.getD s.toNat [])
def WrAt (H : Hp) (v : V) (s : Int) (r : List Int) : Prop := ∃ t x, v = .ref t ∧ H t = some (.tup [.int s, x]) ∧ RowAt H x r
def WrsAt (H : Hp) (vs : List V) (ws : List (Int × List Int)) : Prop := vs.length = ws.length ∧ ∀ (i : Nat) v, vs[i]? = some v → ∃ s r, ws[i]? = some (s, r) ∧ WrAt H v s r
def NwAt (H : Hp) (kvs : List (Key × V)) (ws : List (Int × List Int)) : Prop := kvs.length ≤ ws.length ∧ (∀ kv ∈ kvs, ∃ s : Int, kv.1 = .inl s) ∧
  ∀ s : Int, (valV kvs (.inl s) = none ∧ lastW ws s = none) ∨ ∃ v r, valV kvs (.inl s) = some v ∧ lastW ws s = some r ∧ RowAt H v r
/-- the disk's own object -/
def dkO (C : Ex) (dx a w n : Addr) (D : DiskS) : HO := .ins C.Disk dx [("blocks", .int D.blocks), ("sectors", .ref a), ("writes", .ref w), ("newest", .ref n), ("left", optI D.left), ("power", .bl D.pw)]
structure DiskAt (C : Ex) (H : Hp) (d a w n : Addr) (D : DiskS) : Prop where
  ins : ∃ dx, H d = some (dkO C dx a w n D)
  sec : ∃ vs, H a = some (.lst vs) ∧ RowsAt H vs D.secs
  wrt : ∃ vs, H w = some (.lst vs) ∧ WrsAt H vs D.wr
  new : ∃ kvs, H n = some (.dK kvs) ∧ NwAt H kvs D.wr
  ne : a ≠ w
/-- sizes and words -/
structure DiskOk (D : DiskS) : Prop where
  bl : 96 ≤ D.blocks ∧ D.blocks ≤ 256
  sz : (D.secs.length : Int) = 4 * D.blocks
  wk : ∀ p ∈ D.wr, 0 ≤ p.1 ∧ p.1 < 4 * D.blocks
  wn : D.wr.length ≤ 100000
theorem WrAt.map {H H' : Hp} {v : V} {s : Int} {r : List Int} (x : WrAt H v s r) (f : ∀ v r, RowAt H v r → RowAt H' v r) (g : ∀ t xs, H t = some (.tup xs) → H' t = some (.tup xs)) : WrAt H' v s r := by
  obtain ⟨t, y, rfl, e, z⟩ := x
  exact ⟨t, y, rfl, g _ _ e, f _ _ z⟩
theorem WrsAt.ref {H : Hp} {vs : List V} {ws : List (Int × List Int)} (x : WrsAt H vs ws) : AllRef vs := fun v hv => by
  obtain ⟨i, hi⟩ := List.getElem?_of_mem hv
  obtain ⟨s, r, _, t, _, e, _⟩ := x.2 i v hi
  exact ⟨t, e⟩
theorem WrsAt.map {H H' : Hp} {vs : List V} {ws : List (Int × List Int)} (x : WrsAt H vs ws) (f : ∀ v r, RowAt H v r → RowAt H' v r) (g : ∀ t xs, H t = some (.tup xs) → H' t = some (.tup xs)) : WrsAt H' vs ws := ⟨x.1, fun i v h => by
  obtain ⟨s, r, e, y⟩ := x.2 i v h
  exact ⟨s, r, e, y.map f g⟩⟩
theorem NwAt.map {H H' : Hp} {kvs : List (Key × V)} {ws : List (Int × List Int)} (x : NwAt H kvs ws) (f : ∀ v r, RowAt H v r → RowAt H' v r) : NwAt H' kvs ws := ⟨x.1, x.2.1, fun s => by
  rcases x.2.2 s with y | ⟨v, r, a, b, c⟩
  · exact .inl y
  · exact .inr ⟨v, r, a, b, f v r c⟩⟩
/-- neither a row nor a tuple -/
def Plain (u : HO) : Prop := NoRow u ∧ ∀ xs, u ≠ .tup xs
theorem plain_ins {C dx : Addr} {fs : List (Str × V)} : Plain (.ins C dx fs) := ⟨noRow_ins, fun _ e => nomatch e⟩
theorem plain_dK {kvs : List (Key × V)} : Plain (.dK kvs) := ⟨noRow_dK, fun _ e => nomatch e⟩
theorem plain_refs {vs : List V} (h : AllRef vs) : Plain (.lst vs) := ⟨noRow_refs h, fun _ e => nomatch e⟩
theorem row_upd {H : Hp} {q : Addr} {o u : HO} (h : H q = some u) (p : Plain u) : ∀ v r, RowAt H v r → RowAt (upd H q o) v r := fun _ r x => x.upd h (p.1 r)
theorem tup_upd {H : Hp} {q : Addr} {o u : HO} (h : H q = some u) (p : Plain u) : ∀ t xs, H t = some (.tup xs) → upd H q o t = some (.tup xs) := fun t xs e => by rw [upd_ne (ne_of e h fun z => p.2 xs z.symm)]; exact e
theorem DiskAt.same {C : Ex} {H H' : Hp} {d a w n : Addr} {D : DiskS} (x : DiskAt C H d a w n D) (s : Same H H') : DiskAt C H' d a w n D := by
  obtain ⟨⟨dx, i⟩, ⟨vs, e1, r1⟩, ⟨ws, e2, r2⟩, ⟨kvs, e3, r3⟩, ne⟩ := x
  exact ⟨⟨dx, s _ _ i⟩, ⟨vs, s _ _ e1, r1.same s⟩, ⟨ws, s _ _ e2, r2.map (fun _ _ y => y.same s) fun _ _ e => s _ _ e⟩, ⟨kvs, s _ _ e3, r3.map fun _ _ y => y.same s⟩, ne⟩
/-- the disk's own object changes -/
theorem DiskAt.fields {C : Ex} {H : Hp} {d a w n dx : Addr} {D D' : DiskS} (x : DiskAt C H d a w n D) (h1 : D'.secs = D.secs) (h2 : D'.wr = D.wr) : DiskAt C (upd H d (dkO C dx a w n D')) d a w n D' := by
  obtain ⟨⟨_, i⟩, ⟨vs, e1, r1⟩, ⟨ws, e2, r2⟩, ⟨kvs, e3, r3⟩, ne⟩ := x
  refine ⟨⟨dx, upd_same⟩, ⟨vs, upd_oth e1 (ne_of e1 i fun z => nomatch z), by rw [h1]; exact r1.map (row_upd i plain_ins)⟩, ⟨ws, upd_oth e2 (ne_of e2 i fun z => nomatch z), by rw [h2]; exact r2.map (row_upd i plain_ins) (tup_upd i plain_ins)⟩, ⟨kvs, upd_oth e3 (ne_of e3 i fun z => nomatch z), by rw [h2]; exact r3.map (row_upd i plain_ins)⟩, ne⟩
/-- the addresses that a disk writes -/
abbrev dkF (d a w n : Addr) : List Addr := [d, a, w, n]
def opA (D : DiskS) : DiskS := if D.left = some 0 then { D with pw := false } else D
def opB (D : DiskS) : DiskS := if D.pw = true then { D with left := D.left.map (· - 1) } else D
def opS (D : DiskS) : DiskS := opB (opA D)
theorem opS_secs (D : DiskS) : (opS D).secs = D.secs ∧ (opS D).wr = D.wr ∧ (opS D).blocks = D.blocks := by
  have a : (opA D).secs = D.secs ∧ (opA D).wr = D.wr ∧ (opA D).blocks = D.blocks := by unfold opA; split <;> exact ⟨rfl, rfl, rfl⟩
  have b : ∀ D : DiskS, (opB D).secs = D.secs ∧ (opB D).wr = D.wr ∧ (opB D).blocks = D.blocks := fun D => by unfold opB; split <;> exact ⟨rfl, rfl, rfl⟩
  exact ⟨(b _).1.trans a.1, (b _).2.1.trans a.2.1, (b _).2.2.trans a.2.2⟩
def sp_Disk_operate (K : PySem.W.Frag) (C : Ex) : Sp := S1 fun x H Q E => ∃ d a w n D, x = .ref d ∧ DiskAt C H d a w n D ∧ ∀ H', DiskAt C H' d a w n (opS D) → (∀ b o, H b = some o → b ≠ d → H' b = some o) →
  ((opS D).pw = true → Q .non H') ∧ ((opS D).pw = false → E (.ref C.PowerOff) none H')
def t_Disk_operate (K : PySem.W.Frag) (C : Ex) (E : XK) : TS :=
  tCut (tIfS (tTest (tOp (uEq K) (uFld C.Disk "left" (tVar 0)) (tC (.int 0)))) (uSetF C.Disk "power" (tVar 0) (tC (.bl false))) (tNext))
  (tSeq (tIfS (tNot (uTru K (uFld C.Disk "power" (tVar 0)))) (uRaise C.PowerOff (WB E)) (tNext))
  (tIfS (tTest (tOp (uIsnt) (uFld C.Disk "left" (tVar 0)) (tC .non))) (uAugF C.Disk "left" rSub (tVar 0) (tC (.int 1))) (tNext)))
theorem pure_Disk_operate {K : PySem.W.Frag} {C : Ex} {vs : List V} {H : Hp} {Q : VK} {E : XK} (F : Fa K C) (h : sp_Disk_operate K C vs H Q E) : t_Disk_operate K C E { nx := fun _ H' => Q .non H', rt := Q } (start ["self"] vs) H := by
  obtain ⟨x, rfl, d, a, w, n, D, rfl, hD, k⟩ := h
  obtain ⟨dx, i⟩ := hD.ins
  unfold t_Disk_operate
  unfold dkO at i
  refine w_cut (fun σ H1 => σ = [some (.ref d)] ∧ DiskAt C H1 d a w n (opA D) ∧ ∀ b o, H b = some o → b ≠ d → H1 b = some o) ?_ ?_
  · cases hl : D.left with
    | none =>
      rw [hl, optI_n] at i
      walk_at "run1"
      rw [show opA D = D by unfold opA; rw [hl, if_neg (by simp)]]
      exact ⟨rfl, hD, fun _ _ h _ => h⟩
    | some z =>
      rw [hl, optI_s] at i
      walk_at "run1"
      · rename_i e
        subst e
        rw [show opA D = { D with pw := false } by unfold opA; rw [if_pos hl]]
        refine ⟨rfl, ?_, fun b o h n => upd_oth h n⟩
        have z := hD.fields (dx := dx) (D' := { D with pw := false }) rfl rfl
        have e : dkO C dx a w n { D with pw := false } = .ins C.Disk dx [("blocks", .int D.blocks), ("sectors", .ref a), ("writes", .ref w), ("newest", .ref n), ("left", .int 0), ("power", .bl false)] := by
          show HO.ins C.Disk dx [("blocks", .int D.blocks), ("sectors", .ref a), ("writes", .ref w), ("newest", .ref n), ("left", optI D.left), ("power", .bl false)] = _
          rw [hl]
          rfl
        rw [e] at z
        exact z
      · walk_at "run1"
        rename_i e
        rw [show opA D = D by unfold opA; rw [hl, if_neg (fun q => e (Option.some.inj q))]]
        exact ⟨rfl, hD, fun _ _ h _ => h⟩
  · rintro σ H1 ⟨rfl, hD1, fr⟩
    unfold opS at k
    generalize opA D = D1 at *
    obtain ⟨dx1, i1⟩ := hD1.ins
    unfold dkO at i1
    cases hp : D1.pw with
    | false =>
      rw [hp] at i1
      rw [show opB D1 = D1 by unfold opB; rw [if_neg (by rw [hp]; decide)]] at k
      walk_at "run1"
      exact (k H1 hD1 fr).2 hp
    | true =>
      rw [hp] at i1
      rw [show opB D1 = { D1 with left := D1.left.map (· - 1) } by unfold opB; rw [if_pos hp]] at k
      walk_at "run1"
      cases hl : D1.left with
      | none =>
        rw [hl, optI_n] at i1
        rw [optI_n]
        walk_at "run1"
        refine (k H1 ?_ fr).1 hp
        have : ({ D1 with left := Option.map (fun x => x - 1) D1.left } : DiskS) = D1 := by rw [hl, Option.map_none, ← hl]
        rw [this]
        exact hD1
      | some z =>
        rw [hl, optI_s] at i1
        rw [optI_s]
        walk_at "run1"
        have z2 := hD1.fields (dx := dx1) (D' := { D1 with left := D1.left.map (· - 1) }) rfl rfl
        have e : dkO C dx1 a w n { D1 with left := D1.left.map (· - 1) } = .ins C.Disk dx1 [("blocks", .int D1.blocks), ("sectors", .ref a), ("writes", .ref w), ("newest", .ref n), ("left", .int (z - 1)), ("power", .bl true)] := by
          show HO.ins C.Disk dx1 [("blocks", .int D1.blocks), ("sectors", .ref a), ("writes", .ref w), ("newest", .ref n), ("left", optI (D1.left.map (· - 1))), ("power", .bl D1.pw)] = _
          rw [hl, hp]
          rfl
        rw [e] at z2
        exact (k _ z2 fun b o h n => upd_oth (fr b o h n) n).1 hp
def newD (z : Int) : DiskS := ⟨z, List.replicate (z * 4).toNat (List.replicate 8 0), [], none, true⟩
/-- a disk that is being made -/
def Ini (H H' : Hp) (d a dx c : Addr) (fs : List (Str × V)) (rs : List (List Int)) : Prop := H' d = some (.ins c dx fs) ∧ (∀ b o, H b = some o → b ≠ d → H' b = some o) ∧ ∃ vs, H' a = some (.lst vs) ∧ RowsAt H' vs rs
theorem Ini.new {H H' : Hp} {d a dx c p : Addr} {fs : List (Str × V)} {rs : List (List Int)} {o : HO} (x : Ini H H' d a dx c fs rs) (n : H' p = none) : Ini H (upd H' p o) d a dx c fs rs := by
  obtain ⟨x1, x2, vs, x3, x4⟩ := x
  exact ⟨upd_old x1 n, fun b w h q => upd_old (x2 b w h q) n, vs, upd_old x3 n, x4.same (same_new n)⟩
theorem Ini.set {H H' : Hp} {d a dx c : Addr} {fs fs' : List (Str × V)} {rs : List (List Int)} (x : Ini H H' d a dx c fs rs) : Ini H (upd H' d (.ins c dx fs')) d a dx c fs' rs := by
  obtain ⟨x1, x2, vs, x3, x4⟩ := x
  exact ⟨upd_same, fun b w h q => upd_oth (x2 b w h q) q, vs, upd_oth x3 (ne_of x3 x1 fun z => nomatch z), x4.map (row_upd x1 plain_ins)⟩
theorem Ini.free {H H' : Hp} {d a dx c p : Addr} {fs : List (Str × V)} {rs : List (List Int)} (x : Ini H H' d a dx c fs rs) (n : H' p = none) : H p = none := by
  cases e : H p with
  | none => rfl
  | some o =>
    by_cases q : p = d
    · rw [q, x.1] at n; cases n
    · rw [x.2.1 p o e q] at n; cases n
def sp_Disk___init__ (K : PySem.W.Frag) (C : Ex) : Sp := S2 fun x b H Q E => ∃ d dx, x = .ref d ∧ H d = some (.ins C.Disk dx []) ∧ Known K H b ∧
  (∀ z : Int, b = .int z → 96 ≤ z → z ≤ 256 → ∀ H' a w n, (∀ c o, H c = some o → c ≠ d → H' c = some o) → H a = none → H w = none → H n = none → DiskAt C H' d a w n (newD z) → Q .non H') ∧ (btw 96 256 b = false → E (.ref C.NotValid) none H)
def t_Disk___init__ (K : PySem.W.Frag) (C : Ex) (E : XK) : TS :=
  tSeq (tIfS (tNot (uTru K (uCall (sp_is_between K C) (WB E) (tCons (tVar 1) (tCons (tC (.int 96)) (tCons (tC (.int 256)) (tNil))))))) (uRaise C.NotValid (WB E)) (tNext))
  (tSeq (uSetF C.Disk "blocks" (tVar 0) (tVar 1))
  (tSeq (uSetF C.Disk "sectors" (tVar 0) (tLc (iRng1 (tCons (tOp (uMul) (tVar 1) (tC (.int 4))) (tNil))) (gName 2) (tYes) (tOp (uMul) (tLst (tCons (tC (.int 0)) (tNil))) (tC (.int 8))) [2]))
  (tSeq (uSetF C.Disk "writes" (tVar 0) (tLst (tNil)))
  (tSeq (uSetF C.Disk "newest" (tVar 0) (tDNewK))
  (tSeq (uSetF C.Disk "left" (tVar 0) (tC .non))
  (uSetF C.Disk "power" (tVar 0) (tC (.bl true))))))))
theorem pure_Disk___init__ {K : PySem.W.Frag} {C : Ex} {vs : List V} {H : Hp} {Q : VK} {E : XK} (F : Fa K C) (h : sp_Disk___init__ K C vs H Q E) : t_Disk___init__ K C E { nx := fun _ H' => Q .non H', rt := Q } (start ["self", "blocks", "sector"] vs) H := by
  obtain ⟨x, b, rfl, d, dx, rfl, i, hk, k1, k2⟩ := h
  unfold t_Disk___init__
  walk_at "run1"
  refine w_S3 ⟨96, 256, rfl, rfl, hk, ?_⟩
  walk_at "run1"
  refine ifBN (fun hf => ?_) (fun ht => ?_)
  · walk_at "run1"
    exact k2 hf
  · obtain ⟨z, rfl, z1, z2⟩ := btw_inv ht
    walk_at "run1"
    have i0 : upd H d (.ins C.Disk dx (putF "blocks" (V.int z) [])) d = some (.ins C.Disk dx (putF "blocks" (V.int z) [])) := upd_same
    have fr0 : ∀ b o, H b = some o → b ≠ d → upd H d (.ins C.Disk dx (putF "blocks" (V.int z) [])) b = some o := fun b o h n => upd_oth h n
    generalize upd H d (.ins C.Disk dx (putF "blocks" (V.int z) [])) = H0 at *
    refine l_range (fun a i H1 => Same H0 H1 ∧ ∃ vs, H1 a = some (.lst vs) ∧ vs.length = i ∧ RowsAt H1 vs (List.replicate i (List.replicate 8 0))) (fun a ha => ⟨same_new ha, [], upd_same, rfl, .nil⟩) ?_ ?_
    · rintro a i H1 ha hi ⟨s1, vs, e1, hv, r1⟩
      walk_at "run1"
      refine ⟨rfl, ?_⟩
      walk_at "run1"
      rename_i p hp q hq
      refine ⟨vs, upd_old (upd_old e1 hp) hq, Nat.lt_of_le_of_lt (by omega) (lt_line (n := 2000) (by decide)), ?_⟩
      have hs : Same H1 (upd (upd H1 p (.lst [.int 0])) q (.lst ((List.replicate (8 : Int).toNat (0 : Int)).map V.int))) := same_updN (same_new hp) hq
      have ea : upd (upd H1 p (.lst [.int 0])) q (.lst ((List.replicate (8 : Int).toNat (0 : Int)).map V.int)) a = some (.lst vs) := hs _ _ e1
      have rq : RowAt (upd (upd H1 p (.lst [.int 0])) q (.lst ((List.replicate (8 : Int).toNat (0 : Int)).map V.int))) (.ref q) (List.replicate 8 0) := ⟨rfl, q, rfl, upd_same⟩
      have rr := (r1.same hs).snoc rq
      refine ⟨same_upd (s1.trans hs) ha, vs ++ [.ref q], upd_same, by rw [List.length_append, hv]; rfl, ?_⟩
      rw [List.replicate_succ']
      exact rr.upd ea (noRow_refs r1.ref)
    · rintro a H1 ha ⟨s1, vs, e1, hv, r1⟩
      have J0 : Ini H H1 d a dx C.Disk (putF "blocks" (V.int z) []) (List.replicate (z * 4).toNat (List.replicate 8 0)) := ⟨s1 _ _ i0, fun b o h n => s1 _ _ (fr0 b o h n), vs, e1, r1⟩
      have fa : H a = none := by
        cases e : H a with
        | none => rfl
        | some o =>
          by_cases q : a = d
          · rw [q, i0] at ha; cases ha
          · rw [fr0 a o e q] at ha; cases ha
      have i1 := J0.1
      walk_at "run1"
      have J1 := J0.set (fs' := putF "sectors" (V.ref a) (putF "blocks" (V.int z) []))
      generalize upd H1 d (.ins C.Disk dx (putF "sectors" (V.ref a) (putF "blocks" (V.int z) []))) = H2 at *
      have i2 := J1.1
      walk_at "run1"
      rename_i w n hw hn
      have J2 := J1.new (o := .lst []) hw
      have nwd : w ≠ d := (ne_of_none i2 hw).symm
      have J3 := J2.set (fs' := putF "writes" (V.ref w) (putF "sectors" (V.ref a) (putF "blocks" (V.int z) [])))
      have nnd : n ≠ d := (ne_of_none J3.1 hn).symm
      have ew : upd (upd H2 w (.lst [])) d (.ins C.Disk dx (putF "writes" (V.ref w) (putF "sectors" (V.ref a) (putF "blocks" (V.int z) [])))) w = some (.lst []) := by rw [upd_ne nwd]; exact upd_same
      have nwn : w ≠ n := ne_of_none ew hn
      have J4 := (J3.new (o := .dK []) hn)
      have J5 := ((J4.set (fs' := putF "newest" (V.ref n) (putF "writes" (V.ref w) (putF "sectors" (V.ref a) (putF "blocks" (V.int z) []))))).set (fs' := putF "left" V.non (putF "newest" (V.ref n) (putF "writes" (V.ref w) (putF "sectors" (V.ref a) (putF "blocks" (V.int z) [])))))).set (fs' := putF "power" (V.bl true) (putF "left" V.non (putF "newest" (V.ref n) (putF "writes" (V.ref w) (putF "sectors" (V.ref a) (putF "blocks" (V.int z) []))))))
      obtain ⟨j1, j2, vs, j3, j4⟩ := J5
      have naw : a ≠ w := by
        obtain ⟨_, _, _, y, _⟩ := J1
        exact ne_of_none y hw
      refine k1 z rfl z1 z2 _ a w n j2 fa (J1.free hw) (J3.free hn) ⟨⟨dx, j1⟩, ⟨vs, j3, j4⟩, ⟨[], ?_, rfl, fun i v h => by simp at h⟩, ⟨[], ?_, Nat.le_refl 0, fun _ h => by simp at h, fun s => .inl ⟨rfl, rfl⟩⟩, naw⟩
      · rw [upd_ne nwd, upd_ne nwd, upd_ne nwd, upd_ne nwn]; exact ew
      · rw [upd_ne nnd, upd_ne nnd, upd_ne nnd]; exact upd_same
def sp_Disk_read (K : PySem.W.Frag) (C : Ex) : Sp := S2 fun x b H Q E => ∃ d a w n D, x = .ref d ∧ DiskAt C H d a w n D ∧ DiskOk D ∧ Known K H b ∧
  (D.pw = false → E (.ref C.PowerOff) none H) ∧ (D.pw = true → btw 0 (D.secs.length - 1) b = false → E (.ref C.NotValid) none H) ∧
  ∀ s : Int, D.pw = true → b = .int s → 0 ≤ s → s < D.secs.length → (rdS D s).length = 8 → ∀ p, H p = none → ∀ H', Same H H' → H' p = some (.lst ((rdS D s).map V.int)) → Q (.ref p) H'
def t_Disk_read (K : PySem.W.Frag) (C : Ex) (E : XK) : TS :=
  tSeq (tIfS (tNot (uTru K (uFld C.Disk "power" (tVar 0)))) (uRaise C.PowerOff (WB E)) (tNext))
  (tSeq (tIfS (tNot (uTru K (uCall (sp_is_between K C) (WB E) (tCons (tVar 1) (tCons (tC (.int 0)) (tCons (tOp (uSub) (tCB (uLen K) (tCons (uFld C.Disk "sectors" (tVar 0)) (tNil))) (tC (.int 1))) (tNil))))))) (uRaise C.NotValid (WB E)) (tNext))
  (tSeq (tIfS (tTest (tOp (uIn K) (tVar 1) (uFld C.Disk "newest" (tVar 0)))) (tRet (tCB (uList K) (tCons (tDGet (uFld C.Disk "newest" (tVar 0)) (tVar 1)) (tNil)))) (tNext))
  (tRet (tCB (uList K) (tCons (tOp (uIx K) (uFld C.Disk "sectors" (tVar 0)) (tVar 1)) (tNil))))))
theorem pure_Disk_read {K : PySem.W.Frag} {C : Ex} {vs : List V} {H : Hp} {Q : VK} {E : XK} (F : Fa K C) (h : sp_Disk_read K C vs H Q E) : t_Disk_read K C E { nx := fun _ H' => Q .non H', rt := Q } (start ["self", "sector"] vs) H := by
  obtain ⟨x, b, rfl, d, a, w, n, D, rfl, hD, ok, hk, k0, k1, k2⟩ := h
  obtain ⟨⟨dx, i⟩, ⟨vs, e1, r1⟩, ⟨ws, e2, r2⟩, ⟨kvs, e3, r3⟩, ne⟩ := hD
  unfold dkO at i
  unfold t_Disk_read
  walk_at "run1"
  refine ifBN (fun hf => ?_) (fun hp => ?_)
  · walk_at "run1"
    exact k0 hf
  · walk_at "run1"
    rw [r1.1]
    refine w_S3 ⟨0, (D.secs.length : Int) - 1, rfl, rfl, hk, ?_⟩
    walk_at "run1"
    refine ifBN (fun hf => ?_) (fun ht => ?_)
    · walk_at "run1"
      exact k1 hp hf
    · obtain ⟨s, rfl, s0, s1⟩ := btw_inv ht
      walk_at "run1"
      rcases r3.2.2 s with ⟨hv, hl⟩ | ⟨v, r, hv, hl, h8, q, rfl, hq⟩
      · rw [hv, Option.isSome_none]
        have er : rdS D s = D.secs.getD s.toNat [] := by unfold rdS; rw [hl]; rfl
        walk_at "run1"
        refine w_ixA (SqL.of e1) ⟨s0, by rw [r1.1]; omega⟩ fun v ev => ?_
        obtain ⟨r, hr, h8, q, rfl, hq⟩ := r1.2 _ v ev
        have er2 : rdS D s = r := by rw [er, List.getD_eq_getElem?_getD, hr]; rfl
        walk_at "run1"
        refine w_tlist (SqL.of hq) fun l hl => ?_
        exact k2 s hp rfl s0 (by omega) (by rw [er2]; exact h8) l hl _ (same_new hl) (by rw [er2]; exact upd_same)
      · rw [hv, Option.isSome_some]
        have er2 : rdS D s = r := by unfold rdS; rw [hl]; rfl
        walk_at "run1"
        refine w_dgetI e3 hv ?_
        walk_at "run1"
        refine w_tlist (SqL.of hq) fun l hl => ?_
        exact k2 s hp rfl s0 (by omega) (by rw [er2]; exact h8) l hl _ (same_new hl) (by rw [er2]; exact upd_same)
theorem sql_fr {K : PySem.W.Frag} {H H1 : Hp} {d q c dx : Addr} {fs : List (Str × V)} {xs : List V} (i : H d = some (.ins c dx fs)) (fr : ∀ b o, H b = some o → b ≠ d → H1 b = some o) (h : SqL K H q xs) : SqL K H1 q xs := by
  rcases h with (h | ⟨o, h⟩) | h
  · exact .inl (.inl (fr _ _ h (ne_of h i fun z => nomatch z)))
  · exact .inl (.inr ⟨o, fr _ _ h (ne_of h i fun z => nomatch z)⟩)
  · exact .inr h
theorem RowAt.of {H : Hp} {p : Addr} {r : List Int} (l : r.length = 8) (h : H p = some (.lst (r.map V.int))) : RowAt H (.ref p) r := ⟨l, p, rfl, h⟩
theorem WrsAt.snoc {H : Hp} {vs : List V} {ws : List (Int × List Int)} {v : V} {s : Int} {r : List Int} (x : WrsAt H vs ws) (y : WrAt H v s r) : WrsAt H (vs ++ [v]) (ws ++ [(s, r)]) := by
  refine ⟨by rw [List.length_append, List.length_append, x.1]; rfl, fun i w h => ?_⟩
  rcases Nat.lt_or_ge i vs.length with q | q
  · rw [List.getElem?_append_left q] at h
    obtain ⟨s', r', e, z⟩ := x.2 i w h
    exact ⟨s', r', by rw [List.getElem?_append_left (by rw [← x.1]; exact q)]; exact e, z⟩
  · rw [List.getElem?_append_right q] at h
    have hi : i - vs.length = 0 := by
      have := (List.getElem?_eq_some_iff.mp h).1
      simp at this
      omega
    rw [hi] at h
    cases h
    exact ⟨s, r, by rw [List.getElem?_append_right (by rw [← x.1]; exact q), ← x.1, hi]; rfl, y⟩
theorem mem_putK {kvs : List (Key × V)} {k : Key} {v : V} {kv : Key × V} (h : kv ∈ putK kvs k v) : kv.1 = k ∨ kv ∈ kvs := by
  unfold putK at h
  split at h
  · obtain ⟨x, hx, e⟩ := List.mem_map.mp h
    by_cases q : x.1 = k
    · rw [if_pos q] at e; subst e; exact .inl q
    · rw [if_neg q] at e; subst e; exact .inr hx
  · rcases List.mem_append.mp h with h | h
    · exact .inr h
    · rw [List.mem_singleton.mp h]; exact .inl rfl
theorem NwAt.put {H : Hp} {kvs : List (Key × V)} {ws : List (Int × List Int)} {s : Int} {v : V} {r : List Int} (x : NwAt H kvs ws) (y : RowAt H v r) : NwAt H (putK kvs (.inl s) v) (ws ++ [(s, r)]) := by
  refine ⟨?_, fun kv hk => ?_, fun t => ?_⟩
  · have := length_putK kvs (.inl s) v
    rw [List.length_append]
    have := x.1
    simp only [List.length_cons, List.length_nil]
    omega
  · rcases mem_putK hk with h | h
    · exact ⟨s, h⟩
    · exact x.2.1 kv h
  · rw [valV_put, lastW_snoc]
    by_cases h : t = s
    · subst h
      rw [if_pos rfl, if_pos rfl]
      exact .inr ⟨v, r, rfl, rfl, y⟩
    · rw [if_neg (fun e => h (Sum.inl.inj e)), if_neg h]
      exact x.2.2 t
/-- one more write waits -/
def pushW (D : DiskS) (s : Int) (r : List Int) : DiskS := { D with wr := D.wr ++ [(s, r)] }
def sp_Disk_write (K : PySem.W.Frag) (C : Ex) : Sp := S3 fun x b c H Q E => ∃ d a w n D, x = .ref d ∧ DiskAt C H d a w n D ∧ DiskOk D ∧ D.wr.length < 100000 ∧ Known K H b ∧
  ((∃ q xs, c = .ref q ∧ SqL K H q xs ∧ (∀ x ∈ xs, Known K H x) ∧ ((btw 0 (D.secs.length - 1) b = false ∨ (decide ((xs.length : Int) = 8) && xs.all isWord) = false) → E (.ref C.NotValid) none H) ∧
    ∀ s : Int, b = .int s → 0 ≤ s → s < D.secs.length → ∀ r, xs = r.map V.int → r.length = 8 → (∀ z ∈ r, 0 ≤ z) →
      (∀ H', DiskAt C H' d a w n (opS D) → Stp (dkF d a w n) H (dkF d a w n) H' → (opS D).pw = false → E (.ref C.PowerOff) none H') ∧
      (∀ H', DiskAt C H' d a w n (pushW (opS D) s r) → Stp (dkF d a w n) H (dkF d a w n) H' → (opS D).pw = true → Q .non H')) ∨ (NoList K H c ∧ E (.ref C.NotValid) none H))
theorem all_ints {xs : List V} (h : xs.all isWord = true) : ∃ r : List Int, xs = r.map V.int ∧ ∀ z ∈ r, 0 ≤ z := by
  induction xs with
  | nil => exact ⟨[], rfl, by simp⟩
  | cons x xs ih =>
    rw [List.all_cons, Bool.and_eq_true] at h
    obtain ⟨r, rfl, hr⟩ := ih h.2
    cases x <;> first | (cases h.1; done) | skip
    rename_i i
    exact ⟨i :: r, rfl, fun z hz => by
      rcases List.mem_cons.mp hz with rfl | hz
      · exact of_decide_eq_true h.1
      · exact hr z hz⟩
def t_Disk_write (K : PySem.W.Frag) (C : Ex) (E : XK) : TS :=
  tSeq (tIfS (tNot (uTru K (uCall (sp_is_between K C) (WB E) (tCons (tVar 1) (tCons (tC (.int 0)) (tCons (tOp (uSub) (tCB (uLen K) (tCons (uFld C.Disk "sectors" (tVar 0)) (tNil))) (tC (.int 1))) (tNil))))))) (uRaise C.NotValid (WB E)) (tNext))
  (tSeq (tIfS (tNot (uTru K (uCall (sp_are_words K C) (WB E) (tCons (tVar 2) (tCons (tC (.int 8)) (tNil)))))) (uRaise C.NotValid (WB E)) (tNext))
  (tSeq (tDrop (uMeth C.Disk "operate" (sp_Disk_operate K C) (WB E) (tVar 0) (tNil)))
  (tSeq (tDrop (tBM K "list" (rAppend) (uFld C.Disk "writes" (tVar 0)) (tCons (tTup (tCons (tVar 1) (tCons (tCB (uList K) (tCons (tVar 2) (tNil))) (tNil)))) (tNil))))
  (sDPut (uFld C.Disk "newest" (tVar 0)) (tVar 1) (tCB (uList K) (tCons (tVar 2) (tNil)))))))
theorem pure_Disk_write {K : PySem.W.Frag} {C : Ex} {vs : List V} {H : Hp} {Q : VK} {E : XK} (F : Fa K C) (h : sp_Disk_write K C vs H Q E) : t_Disk_write K C E { nx := fun _ H' => Q .non H', rt := Q } (start ["self", "sector", "words"] vs) H := by
  obtain ⟨x, b, c, rfl, d, a, w, n, D, rfl, hD, ok, hw, hk, hc⟩ := h
  have hD' := hD
  obtain ⟨⟨dx, i⟩, ⟨vs, e1, r1⟩, ⟨ws, e2, r2⟩, ⟨kvs, e3, r3⟩, ne⟩ := hD
  unfold dkO at i
  unfold t_Disk_write
  walk_at "run1"
  rw [r1.1]
  refine w_S3 ⟨0, (D.secs.length : Int) - 1, rfl, rfl, hk, ?_⟩
  walk_at "run1"
  refine ifBN (fun hf => ?_) (fun ht => ?_)
  · walk_at "run1"
    rcases hc with ⟨_, _, _, _, _, z, _⟩ | ⟨_, z⟩
    · exact z (.inl hf)
    · exact z
  · obtain ⟨s, rfl, s0, s1⟩ := btw_inv ht
    walk_at "run1"
    rcases hc with ⟨q, xs, rfl, hq, hx, z, k⟩ | ⟨hn, z⟩
    · refine w_S2 ⟨8, rfl, .inl ⟨q, xs, rfl, hq, hx, ?_⟩⟩
      walk_at "run1"
      refine ifBN (fun hf => ?_) (fun hg => ?_)
      · walk_at "run1"
        exact z (.inr hf)
      · obtain ⟨r, rfl, hr⟩ := all_ints (Bool.and_eq_true_iff.mp hg).2
        have h8 : r.length = 8 := by
          have := of_decide_eq_true (Bool.and_eq_true_iff.mp hg).1
          rw [List.length_map] at this
          omega
        obtain ⟨k1, k2⟩ := k s rfl s0 (by omega) r rfl h8 hr
        walk_at "run1"
        refine w_S1 ⟨d, a, w, n, D, rfl, hD', fun H1 hD1 fr => ⟨fun hp => ?_, fun hp => ?_⟩⟩
        · have st1 : Stp (dkF d a w n) H (dkF d a w n) H1 := ⟨fun b o h nb => fr b o h fun e => nb (by rw [e]; exact List.mem_cons_self ..), fun b h => .inl h⟩
          have hq1 := sql_fr i fr hq
          have hD1' := hD1
          have hl : D.wr.length = (opS D).wr.length := by rw [(opS_secs D).2.1]
          generalize opS D = D1 at *
          obtain ⟨⟨dx1, i1⟩, ⟨vs1, e11, r11⟩, ⟨ws1, e21, r21⟩, ⟨kvs1, e31, r31⟩, ne1⟩ := hD1
          unfold dkO at i1
          walk_at "run1"
          refine w_tlist hq1 fun l hl => ?_
          walk_at "run1"
          rename_i t ht
          have s3 : Same H1 (upd (upd H1 l (.lst (r.map V.int))) t (.tup [.int s, .ref l])) := same_updN (same_new hl) ht
          have et : upd (upd H1 l (.lst (r.map V.int))) t (.tup [.int s, .ref l]) t = some (.tup [.int s, .ref l]) := upd_same
          have rl : RowAt (upd (upd H1 l (.lst (r.map V.int))) t (.tup [.int s, .ref l])) (.ref l) r := .of h8 (upd_old upd_same ht)
          generalize upd (upd H1 l (.lst (r.map V.int))) t (.tup [.int s, .ref l]) = H3 at *
          have r13 := r11.same s3
          have r23 := r21.map (fun _ _ y => y.same s3) fun _ _ e => s3 _ _ e
          have r33 := r31.map fun _ _ y => y.same s3
          have pw := plain_refs r21.ref
          have hlen := r21.1
          refine w_app (s3 _ _ e21) (lt_line (by omega)) ?_
          have i4 : upd H3 w (.lst (ws1 ++ [.ref t])) d = _ := upd_oth (s3 _ _ i1) (ne_of i1 e21 fun z => nomatch z)
          have a4 : upd H3 w (.lst (ws1 ++ [.ref t])) a = _ := upd_oth (s3 _ _ e11) ne1
          have n4 : upd H3 w (.lst (ws1 ++ [.ref t])) n = _ := upd_oth (s3 _ _ e31) (ne_of e31 e21 fun z => nomatch z)
          have w4 : upd H3 w (.lst (ws1 ++ [.ref t])) w = _ := upd_same
          have q4 : SqL K (upd H3 w (.lst (ws1 ++ [.ref t]))) q (r.map V.int) := by
            rcases s3.seq hq1 with (h | ⟨o, h⟩) | h
            · exact .inl (.inl (upd_oth h (ne_of h (s3 _ _ e21) (row_ne h8 r21.ref))))
            · exact .inl (.inr ⟨o, upd_oth h (ne_of h (s3 _ _ e21) fun z => nomatch z)⟩)
            · exact .inr h
          have r14 := r13.map (row_upd (o := .lst (ws1 ++ [.ref t])) (s3 _ _ e21) pw)
          have r24 := (r23.map (row_upd (o := .lst (ws1 ++ [.ref t])) (s3 _ _ e21) pw) (tup_upd (s3 _ _ e21) pw)).snoc (v := .ref t) (s := s) (r := r) ⟨t, _, rfl, tup_upd (s3 _ _ e21) pw _ _ et, row_upd (s3 _ _ e21) pw _ _ rl⟩
          have r34 := r33.map (row_upd (o := .lst (ws1 ++ [.ref t])) (s3 _ _ e21) pw)
          have st4 : Stp (dkF d a w n) H (dkF d a w n) (upd H3 w (.lst (ws1 ++ [.ref t]))) := (st1.trans (.same s3)).upd (by simp [dkF])
          generalize upd H3 w (.lst (ws1 ++ [.ref t])) = H4 at *
          walk_at "run1"
          refine w_tlist q4 fun l2 hl2 => ?_
          have s5 : Same H4 (upd H4 l2 (.lst (r.map V.int))) := same_new hl2
          have rl2 : RowAt (upd H4 l2 (.lst (r.map V.int))) (.ref l2) r := .of h8 upd_same
          generalize upd H4 l2 (.lst (r.map V.int)) = H5 at *
          have i5 := s5 _ _ i4
          have n5 := s5 _ _ n4
          walk_at "run1"
          refine w_dputI n5 (by have := r31.1; omega) ?_
          have fr6 := row_upd (o := .dK (putK kvs1 (.inl s) (.ref l2))) n5 plain_dK
          have ft6 := tup_upd (o := .dK (putK kvs1 (.inl s) (.ref l2))) n5 plain_dK
          refine k2 _ ⟨⟨dx1, upd_oth i5 (ne_of i5 n5 fun z => nomatch z)⟩, ⟨vs1, upd_oth (s5 _ _ a4) (ne_of (s5 _ _ a4) n5 fun z => nomatch z), (r14.same s5).map fr6⟩, ⟨_, upd_oth (s5 _ _ w4) (ne_of (s5 _ _ w4) n5 fun z => nomatch z), (r24.map (fun _ _ y => y.same s5) fun _ _ e => s5 _ _ e).map fr6 ft6⟩, ⟨_, upd_same, NwAt.put ((r34.map fun _ _ y => y.same s5).map fr6) (fr6 _ _ rl2)⟩, ne1⟩ ((st4.trans (.same s5)).upd (by simp [dkF])) hp
        · exact k1 H1 hD1 ⟨fun b o h nb => fr b o h fun e => nb (by rw [e]; exact List.mem_cons_self ..), fun b h => .inl h⟩ hp
    · refine w_S2 ⟨8, rfl, .inr ⟨hn, ?_⟩⟩
      walk_at "run1"
      exact z
/-- the sectors behind a flush -/
def flushS : List (List Int) → List (Int × List Int) → List (List Int)
  | rs, [] => rs
  | rs, (s, r) :: w => flushS (rs.set s.toNat r) w
theorem flushS_snoc (rs : List (List Int)) (w : List (Int × List Int)) (s : Int) (r : List Int) : flushS rs (w ++ [(s, r)]) = (flushS rs w).set s.toNat r := by
  induction w generalizing rs with
  | nil => rfl
  | cons p w ih => obtain ⟨t, q⟩ := p; exact ih _
theorem flushS_len (rs : List (List Int)) (w : List (Int × List Int)) : (flushS rs w).length = rs.length := by
  induction w generalizing rs with
  | nil => rfl
  | cons p w ih => obtain ⟨t, q⟩ := p; show (flushS (rs.set t.toNat q) w).length = _; rw [ih, List.length_set]
def flushD (D : DiskS) : DiskS := { D with secs := flushS D.secs D.wr, wr := [] }
def sp_Disk_flush (K : PySem.W.Frag) (C : Ex) : Sp := S1 fun x H Q E => ∃ d a w n D, x = .ref d ∧ DiskAt C H d a w n D ∧ DiskOk D ∧
  (∀ H', DiskAt C H' d a w n (opS D) → Stp (dkF d a w n) H (dkF d a w n) H' → (opS D).pw = false → E (.ref C.PowerOff) none H') ∧
  (∀ H' w' n', DiskAt C H' d a w' n' (flushD (opS D)) → Stp (dkF d a w n) H (dkF d a w' n') H' → (opS D).pw = true → Q .non H')
theorem w_f_list {K : PySem.W.Frag} {D : Ends} {σ : L2.St} {H : Hp} {g : TG} {tb : TS} {a : Addr} {xs : List V} (Pv : Nat → L2.St → Hp → Prop) (h0 : Pv 0 σ H) (hl : ∀ i σ H, i ≤ xs.length → Pv i σ H → H a = some (.lst xs))
    (hs : ∀ i x σ H, xs[i]? = some x → Pv i σ H → g x σ H fun σ2 H2 => tb { D with nx := Pv (i + 1), ct := Pv (i + 1), bk := D.nx } σ2 H2) (hd : ∀ σ H, Pv xs.length σ H → D.nx σ H) : forQ g tb D σ (Itl K a) H :=
  f_list Pv h0 (fun i σ H q p => SqL.of (hl i σ H q p)) hs hd
def t_Disk_flush (K : PySem.W.Frag) (C : Ex) (E : XK) : TS :=
  tSeq (tDrop (uMeth C.Disk "operate" (sp_Disk_operate K C) (WB E) (tVar 0) (tNil)))
  (tSeq (tFor (iList K (uFld C.Disk "writes" (tVar 0))) (gTup K 2 (gCons (gName 1) (gCons (gName 2) (gNil))))
  (tAsg (tCB (uList K) (tCons (tVar 2) (tNil))) (gSub (uFld C.Disk "sectors" (tVar 0)) (tVar 1) uSet)))
  (tSeq (uSetF C.Disk "writes" (tVar 0) (tLst (tNil)))
  (uSetF C.Disk "newest" (tVar 0) (tDNewK))))
theorem pure_Disk_flush {K : PySem.W.Frag} {C : Ex} {vs : List V} {H : Hp} {Q : VK} {E : XK} (F : Fa K C) (h : sp_Disk_flush K C vs H Q E) : t_Disk_flush K C E { nx := fun _ H' => Q .non H', rt := Q } (start ["self", "sector", "words"] vs) H := by
  obtain ⟨x, rfl, d, a, w, n, D, rfl, hD, ok, k1, k2⟩ := h
  obtain ⟨dx, i⟩ := hD.ins
  unfold dkO at i
  unfold t_Disk_flush
  walk_at "run1"
  refine w_S1 ⟨d, a, w, n, D, rfl, hD, fun H1 hD1 fr => ⟨fun hp => ?_, fun hp => ?_⟩⟩
  · have st1 : Stp (dkF d a w n) H (dkF d a w n) H1 := ⟨fun b o h nb => fr b o h fun e => nb (by rw [e]; exact List.mem_cons_self ..), fun b h => .inl h⟩
    have wk : ∀ p ∈ (opS D).wr, 0 ≤ p.1 ∧ p.1.toNat < (opS D).secs.length := by
      rw [(opS_secs D).1, (opS_secs D).2.1]
      intro p hp
      have := ok.wk p hp
      have := ok.sz
      omega
    clear k1
    generalize opS D = D1 at *
    obtain ⟨⟨dx1, i1⟩, ⟨vs1, e11, r11⟩, ⟨ws1, e21, r21⟩, ⟨kvs1, e31, r31⟩, ne1⟩ := hD1
    unfold dkO at i1
    have hw := r21.1
    walk_at "run1"
    refine w_f_list (xs := ws1) (fun i σ H2 => ∃ v1 v2, σ = [some (.ref d), v1, v2] ∧ H2 d = some (dkO C dx1 a w n D1) ∧ (∃ vs, H2 a = some (.lst vs) ∧ RowsAt H2 vs (flushS D1.secs (D1.wr.take i))) ∧ H2 w = some (.lst ws1) ∧ WrsAt H2 ws1 D1.wr ∧ (∃ kvs, H2 n = some (.dK kvs)) ∧ Stp (dkF d a w n) H (dkF d a w n) H2)
      ⟨none, none, rfl, i1, ⟨vs1, e11, r11⟩, e21, r21, ⟨kvs1, e31⟩, st1⟩ (by rintro i σ H2 _ ⟨_, _, _, _, _, h, _⟩; exact h) ?_ ?_
    · rintro i x σ H2 hx ⟨v1, v2, rfl, h1, ⟨vs, h2, rr⟩, h3, h4, ⟨kvs, h5⟩, st⟩
      obtain ⟨s, r, hsr, t, y, rfl, et, ry⟩ := h4.2 _ _ hx
      obtain ⟨l8, py, rfl, ey⟩ := ry
      have hm := List.mem_of_getElem? hsr
      have ws := wk _ hm
      unfold dkO at h1
      walk_at "run1"
      refine w_tlist (SqL.of ey) fun l hl => ?_
      have s3 : Same H2 (upd H2 l (.lst (r.map V.int))) := same_new hl
      have rl : RowAt (upd H2 l (.lst (r.map V.int))) (.ref l) r := .of l8 upd_same
      generalize upd H2 l (.lst (r.map V.int)) = H3 at *
      have h13 := s3 _ _ h1
      walk_at "run1"
      refine w_setL (s3 _ _ h2) ⟨ws.1, by rw [rr.1, flushS_len]; exact ws.2⟩ ?_
      have pa := plain_refs rr.ref
      have fr4 := row_upd (o := .lst (vs.set s.toNat (.ref l))) (s3 _ _ h2) pa
      have ft4 := tup_upd (o := .lst (vs.set s.toNat (.ref l))) (s3 _ _ h2) pa
      refine ⟨_, _, rfl, upd_oth h13 (ne_of h1 h2 fun z => nomatch z), ⟨_, upd_same, ?_⟩, upd_oth (s3 _ _ h3) ne1.symm, (h4.map (fun _ _ y => y.same s3) fun _ _ e => s3 _ _ e).map fr4 ft4, ⟨kvs, upd_oth (s3 _ _ h5) (ne_of h5 h2 fun z => nomatch z)⟩, (st.trans (.same s3)).upd (by simp [dkF])⟩
      rw [take_snoc hsr, flushS_snoc]
      exact ((rr.same s3).map fr4).set (fr4 _ _ rl)
    · rintro σ H2 ⟨v1, v2, rfl, h1, ⟨vs, h2, rr⟩, h3, h4, ⟨kvs, h5⟩, st⟩
      rw [hw, List.take_length] at rr
      unfold dkO at h1
      walk_at "run1"
      rename_i w' hw' n' hn'
      have J0 : Ini H2 H2 d a dx1 C.Disk _ (flushS D1.secs D1.wr) := ⟨h1, fun _ _ h _ => h, vs, h2, rr⟩
      have J1 := J0.new (o := .lst []) hw'
      have nwd : w' ≠ d := (ne_of_none h1 hw').symm
      have naw : a ≠ w' := ne_of_none h2 hw'
      have e1 : upd (upd H2 w' (.lst [])) d (.ins C.Disk dx1 (putF "writes" (.ref w') [("blocks", .int D1.blocks), ("sectors", .ref a), ("writes", .ref w), ("newest", .ref n), ("left", optI D1.left), ("power", .bl D1.pw)])) w' = some (.lst []) := by rw [upd_ne nwd]; exact upd_same
      have J2 := J1.set (fs' := putF "writes" (V.ref w') [("blocks", .int D1.blocks), ("sectors", .ref a), ("writes", .ref w), ("newest", .ref n), ("left", optI D1.left), ("power", .bl D1.pw)])
      have nnd : n' ≠ d := (ne_of_none J2.1 hn').symm
      have nwn : w' ≠ n' := ne_of_none e1 hn'
      have st2 : Stp (dkF d a w n) H (dkF d a w n) (upd (upd H2 w' (.lst [])) d (.ins C.Disk dx1 (putF "writes" (.ref w') [("blocks", .int D1.blocks), ("sectors", .ref a), ("writes", .ref w), ("newest", .ref n), ("left", optI D1.left), ("power", .bl D1.pw)]))) := (st.trans (.same (same_new hw'))).upd (by simp [dkF])
      have J3 := (J2.new (o := .dK []) hn').set (fs' := putF "newest" (V.ref n') (putF "writes" (V.ref w') [("blocks", .int D1.blocks), ("sectors", .ref a), ("writes", .ref w), ("newest", .ref n), ("left", optI D1.left), ("power", .bl D1.pw)]))
      obtain ⟨j1, j2, vs', j3, j4⟩ := J3
      refine k2 _ w' n' ⟨⟨dx1, j1⟩, ⟨vs', j3, j4⟩, ⟨[], ?_, rfl, fun i v h => by simp at h⟩, ⟨[], ?_, Nat.le_refl 0, fun _ h => by simp at h, fun s => .inl ⟨rfl, rfl⟩⟩, naw⟩ ?_ hp
      · rw [upd_ne nwd, upd_ne nwn]; exact e1
      · rw [upd_ne nnd]; exact upd_same
      · have st3 := (st2.trans (.same (same_new (o := .dK []) hn'))).upd (p := d) (o := .ins C.Disk dx1 (putF "newest" (.ref n') (putF "writes" (.ref w') [("blocks", .int D1.blocks), ("sectors", .ref a), ("writes", .ref w), ("newest", .ref n), ("left", optI D1.left), ("power", .bl D1.pw)]))) (by simp [dkF])
        refine ⟨st3.1, fun b hb => ?_⟩
        rcases List.mem_cons.mp hb with rfl | hb
        · exact .inl (by simp [dkF])
        rcases List.mem_cons.mp hb with rfl | hb
        · exact .inl (by simp [dkF])
        rcases List.mem_cons.mp hb with rfl | hb
        · exact st.fresh hw'
        rcases List.mem_cons.mp hb with rfl | hb
        · exact st2.fresh hn'
        · cases hb
  · exact k1 H1 hD1 ⟨fun b o h nb => fr b o h fun e => nb (by rw [e]; exact List.mem_cons_self ..), fun b h => .inl h⟩ hp
/-- the rows of data -/
theorem RowsAt.dt {K : PySem.W.Frag} {H : Hp} : ∀ {vs : List V} {rs : List (List Int)}, RowsAt H vs rs → DtAll K H vs rs
  | [], [], _ => DtAll.nil
  | [], _ :: _, h => by cases h.1
  | _ :: _, [], h => by cases h.1
  | v :: vs, r :: rs, h => by
    obtain ⟨r', e, _, p, rfl, q⟩ := h.2 0 v rfl
    cases e
    refine DtAll.cons (Dt.list (SqL.of q) (DtAll.ints r)) (RowsAt.dt ⟨by simpa using h.1, fun i w hw => ?_⟩)
    exact h.2 (i + 1) w hw
/-- waiting writes as data -/
theorem WrsAt.dt {K : PySem.W.Frag} {H : Hp} : ∀ {vs : List V} {rs : List (Int × List Int)}, WrsAt H vs rs → DtAll K H vs rs
  | [], [], _ => DtAll.nil
  | [], _ :: _, h => by cases h.1
  | _ :: _, [], h => by cases h.1
  | v :: vs, r :: rs, h => by
    obtain ⟨s, r', e, t, x, rfl, et, _, p, rfl, q⟩ := h.2 0 v rfl
    cases e
    refine DtAll.cons (Dt.pair (SqT.of et) Dt.int (Dt.list (SqL.of q) (DtAll.ints r'))) (WrsAt.dt ⟨by simpa using h.1, fun i w hw => ?_⟩)
    exact h.2 (i + 1) w hw
def sp_Disk_waiting (K : PySem.W.Frag) (C : Ex) : Sp := S1 fun x H Q _ => ∃ d a w n D, x = .ref d ∧ DiskAt C H d a w n D ∧ D.wr.length ≤ 100000 ∧
  ∀ p, H p = none → ∀ H' vs, Same H H' → H' p = some (.lst vs) → WrsAt H' vs D.wr → Q (.ref p) H'
def t_Disk_waiting (K : PySem.W.Frag) (C : Ex) (E : XK) : TS :=
  tRet (tLc (iList K (uFld C.Disk "writes" (tVar 0))) (gTup K 2 (gCons (gName 1) (gCons (gName 2) (gNil)))) (tYes) (tTup (tCons (tVar 1) (tCons (tCB (uList K) (tCons (tVar 2) (tNil))) (tNil)))) [1, 2])
theorem pure_Disk_waiting {K : PySem.W.Frag} {C : Ex} {vs : List V} {H : Hp} {Q : VK} {E : XK} (F : Fa K C) (h : sp_Disk_waiting K C vs H Q E) : t_Disk_waiting K C E { nx := fun _ H' => Q .non H', rt := Q } (start ["self", "sector", "words"] vs) H := by
  obtain ⟨x, rfl, d, a, w, n, D, rfl, hD, hl, k⟩ := h
  obtain ⟨⟨dx, i⟩, ⟨vs, e1, r1⟩, ⟨ws, e2, r2⟩, ⟨kvs, e3, r3⟩, ne⟩ := hD
  unfold dkO at i
  unfold t_Disk_waiting
  walk_at "run1"
  refine l_list (xs := ws) (fun b i H1 => Same H H1 ∧ ∃ us, H1 b = some (.lst us) ∧ WrsAt H1 us (D.wr.take i)) (fun b hb => ⟨same_new hb, [], upd_same, rfl, fun i v h => by simp at h⟩) (fun b i H1 _ p => SqL.of (p.1 _ _ e2)) ?_ ?_
  · rintro b i x H1 hb hx ⟨s1, us, h1, rr⟩
    obtain ⟨s, r, hr, t, y, rfl, et, l8, py, rfl, ey⟩ := r2.2 _ _ hx
    have et1 := s1 _ _ et
    walk_at "run1"
    refine ⟨rfl, ?_⟩
    walk_at "run1"
    refine w_tlist (SqL.of (s1 _ _ ey)) fun l hl2 => ?_
    walk_at "run1"
    rename_i t2 ht2
    have s3 : Same H1 (upd (upd H1 l (.lst (r.map V.int))) t2 (.tup [.int s, .ref l])) := same_updN (same_new hl2) ht2
    have rl : WrAt (upd (upd H1 l (.lst (r.map V.int))) t2 (.tup [.int s, .ref l])) (.ref t2) s r := ⟨t2, _, rfl, upd_same, .of l8 (upd_old upd_same ht2)⟩
    generalize upd (upd H1 l (.lst (r.map V.int))) t2 (.tup [.int s, .ref l]) = H3 at *
    have hz : us.length ≤ D.wr.length := by rw [rr.1, List.length_take]; omega
    have pw := plain_refs rr.ref
    refine ⟨us, s3 _ _ h1, lt_line (by omega), same_upd (s1.trans s3) hb, us ++ [.ref t2], upd_same, ?_⟩
    rw [take_snoc hr]
    exact ((rr.map (fun _ _ y => y.same s3) fun _ _ e => s3 _ _ e).snoc rl).map (row_upd (s3 _ _ h1) pw) (tup_upd (s3 _ _ h1) pw)
  · rintro b H1 hb ⟨s1, us, h1, rr⟩
    rw [r2.1, List.take_length] at rr
    exact k b hb H1 us s1 h1 rr
theorem opS_id {D : DiskS} (h1 : D.left = none) (h2 : D.pw = true) : opS D = D := by
  have a : opA D = D := by unfold opA; rw [if_neg (by rw [h1]; simp)]
  unfold opS
  rw [a]
  unfold opB
  rw [if_pos h2, h1]
  cases D
  cases h1
  rfl
def Rd8 (D : DiskS) : Prop := ∀ s : Int, 0 ≤ s → s < D.secs.length → (rdS D s).length = 8
theorem rd_push {D : DiskS} {s t : Int} {r : List Int} : rdS (pushW D s r) t = if t = s then r else rdS D t := by
  unfold rdS pushW
  rw [lastW_snoc]
  split <;> rfl
/-- a read that is served -/
theorem w_read {K : PySem.W.Frag} {C : Ex} {H : Hp} {Q : VK} {E : XK} {d a w n : Addr} {D : DiskS} {s : Int} (x : DiskAt C H d a w n D) (ok : DiskOk D) (r8 : Rd8 D) (pw : D.pw = true) (h0 : 0 ≤ s) (h1 : s < D.secs.length)
    (k : ∀ p, H p = none → ∀ H', Same H H' → H' p = some (.lst ((rdS D s).map V.int)) → Q (.ref p) H') : sp_Disk_read K C [.ref d, .int s] H Q E :=
  w_S2 ⟨d, a, w, n, D, rfl, x, ok, trivial, (fun q => by rw [pw] at q; cases q), (fun _ q => by rw [btw_int h0 (by omega)] at q; cases q), fun t _ e _ _ _ => by cases e; exact k⟩
structure DskOn (D : DiskS) (b : Int) (m : Nat) : Prop where
  ok : DiskOk D
  lf : D.left = none
  pw : D.pw = true
  bl : D.blocks = b
  r8 : Rd8 D
  wl : D.wr.length ≤ m
theorem DskOn.push {D : DiskS} {b : Int} {m : Nat} {s : Int} {r : List Int} (x : DskOn D b m) (hm : m < 100000) (h0 : 0 ≤ s) (h1 : s < D.secs.length) (l : r.length = 8) : DskOn (pushW D s r) b (m + 1) := by
  refine ⟨⟨x.ok.bl, x.ok.sz, fun p hp => ?_, ?_⟩, x.lf, x.pw, x.bl, fun t t0 t1 => ?_, ?_⟩
  · have := x.ok.sz
    rcases List.mem_append.mp hp with q | q
    · exact x.ok.wk p q
    · rw [List.mem_singleton.mp q]
      show 0 ≤ s ∧ s < 4 * D.blocks
      omega
  · show (D.wr ++ [(s, r)]).length ≤ 100000
    have := x.wl
    rw [List.length_append]
    simp only [List.length_cons, List.length_nil]
    omega
  · rw [rd_push]
    split
    · exact l
    · exact x.r8 t t0 t1
  · show (D.wr ++ [(s, r)]).length ≤ m + 1
    have := x.wl
    rw [List.length_append]
    simp only [List.length_cons, List.length_nil]
    omega
/-- a write that is served -/
theorem w_write {K : PySem.W.Frag} {C : Ex} {H : Hp} {Q : VK} {E : XK} {d a w n : Addr} {D : DiskS} {b : Int} {m : Nat} {s : Int} {q : Addr} {r : List Int} (x : DiskAt C H d a w n D) (o : DskOn D b m) (hm : m < 100000) (h0 : 0 ≤ s) (h1 : s < D.secs.length)
    (hq : SqL K H q (r.map V.int)) (h8 : r.length = 8) (hr : ∀ z ∈ r, 0 ≤ z) (k : ∀ H', DiskAt C H' d a w n (pushW D s r) → Stp (dkF d a w n) H (dkF d a w n) H' → Q .non H') : sp_Disk_write K C [.ref d, .int s, .ref q] H Q E := by
  refine w_S3 ⟨d, a, w, n, D, rfl, x, o.ok, by have := o.wl; omega, trivial, .inl ⟨q, _, rfl, hq, fun y hy => ?_, fun z => ?_, fun t e _ _ r2 er _ _ => ?_⟩⟩
  · obtain ⟨i, _, rfl⟩ := List.mem_map.mp hy
    trivial
  · exfalso
    rcases z with z | z
    · rw [btw_int h0 (by omega)] at z; cases z
    · have : (r.map V.int).all isWord = true := List.all_eq_true.mpr fun y hy => by
        obtain ⟨i, hi, rfl⟩ := List.mem_map.mp hy
        exact decide_eq_true (hr i hi)
      rw [this, decide_eq_true (by rw [List.length_map]; omega)] at z
      cases z
  · cases e
    have er : r = r2 := (List.map_inj_right (fun _ _ h => V.int.inj h)).mp er
    subst er
    rw [opS_id o.lf o.pw]
    exact ⟨fun _ _ _ h => (by rw [o.pw] at h; cases h), fun H' a b _ => k H' a b⟩
theorem flushS_get (t : Int) (ht : 0 ≤ t) : ∀ (w : List (Int × List Int)) (rs : List (List Int)), t.toNat < rs.length → (∀ p ∈ w, 0 ≤ p.1) → (flushS rs w).getD t.toNat [] = (lastW w t).getD (rs.getD t.toNat [])
  | [], rs, _, _ => rfl
  | (s, r) :: w, rs, hl, hp => by
    have ih := flushS_get t ht w (rs.set s.toNat r) (by rw [List.length_set]; exact hl) fun p h => hp p (List.mem_cons_of_mem _ h)
    show (flushS (rs.set s.toNat r) w).getD t.toNat [] = _
    rw [ih]
    show _ = (match lastW w t with | some q => some q | none => if t = s then some r else none).getD (rs.getD t.toNat [])
    cases lastW w t with
    | some q => rfl
    | none =>
      have h0 := hp (s, r) (List.mem_cons_self ..)
      by_cases e : t = s
      · subst e
        rw [if_pos rfl]
        show (rs.set t.toNat r).getD t.toNat [] = r
        rw [List.getD_eq_getElem?_getD, List.getElem?_set_self hl]; rfl
      · rw [if_neg e]
        show (rs.set s.toNat r).getD t.toNat [] = rs.getD t.toNat []
        have : s.toNat ≠ t.toNat := fun q => e (by have : 0 ≤ s := h0; omega)
        rw [List.getD_eq_getElem?_getD, List.getElem?_set_ne this, List.getD_eq_getElem?_getD]
theorem rd_flush {D : DiskS} {b : Int} {m : Nat} (o : DskOn D b m) {t : Int} (h0 : 0 ≤ t) (h1 : t < D.secs.length) : rdS (flushD D) t = rdS D t := by
  show (lastW [] t).getD ((flushS D.secs D.wr).getD t.toNat []) = _
  show (flushS D.secs D.wr).getD t.toNat [] = _
  rw [flushS_get t h0 _ _ (by omega) fun p h => (o.ok.wk p h).1]
  rfl
theorem DskOn.flush {D : DiskS} {b : Int} {m : Nat} (o : DskOn D b m) : DskOn (flushD D) b 0 := by
  have hl : (flushD D).secs.length = D.secs.length := flushS_len _ _
  refine ⟨⟨o.ok.bl, by rw [hl]; exact o.ok.sz, fun p h => (by cases h), Nat.zero_le _⟩, o.lf, o.pw, o.bl, fun t t0 t1 => ?_, Nat.le_refl 0⟩
  rw [hl] at t1
  rw [rd_flush o t0 t1]
  exact o.r8 t t0 t1
/-- a flush that is served -/
theorem w_flush {K : PySem.W.Frag} {C : Ex} {H : Hp} {Q : VK} {E : XK} {d a w n : Addr} {D : DiskS} {b : Int} {m : Nat} (x : DiskAt C H d a w n D) (o : DskOn D b m)
    (k : ∀ H' w' n', DiskAt C H' d a w' n' (flushD D) → Stp (dkF d a w n) H (dkF d a w' n') H' → Q .non H') : sp_Disk_flush K C [.ref d] H Q E :=
  w_S1 ⟨d, a, w, n, D, rfl, x, o.ok, by rw [opS_id o.lf o.pw]; exact fun _ _ _ h => (by rw [o.pw] at h; cases h), by rw [opS_id o.lf o.pw]; exact fun H' w' n' a b _ => k H' w' n' a b⟩
theorem newD_on {z : Int} (h : 96 ≤ z ∧ z ≤ 256) : DskOn (newD z) z 0 := by
  have hl : (newD z).secs.length = (z * 4).toNat := List.length_replicate ..
  have rd : ∀ t : Int, t < (newD z).secs.length → 0 ≤ t → rdS (newD z) t = List.replicate 8 0 := fun t h1 h0 => by
    show (newD z).secs.getD t.toNat [] = _
    rw [List.getD_eq_getElem?_getD]
    show ((List.replicate (z * 4).toNat (List.replicate 8 (0 : Int)))[t.toNat]?).getD [] = _
    rw [List.getElem?_replicate, if_pos (by omega)]
    rfl
  exact ⟨⟨h, by rw [hl]; show ((z * 4).toNat : Int) = 4 * z; omega, fun p h => (by cases h), Nat.zero_le _⟩, rfl, rfl, rfl, fun t t0 t1 => by rw [rd t t1 t0]; rfl, Nat.le_refl 0⟩
theorem rd_new {z t : Int} (h0 : 0 ≤ t) (h1 : t < 4 * z) : rdS (newD z) t = List.replicate 8 0 := by
  show (newD z).secs.getD t.toNat [] = _
  rw [List.getD_eq_getElem?_getD]
  show ((List.replicate (z * 4).toNat (List.replicate 8 (0 : Int)))[t.toNat]?).getD [] = _
  rw [List.getElem?_replicate, if_pos (by omega)]
  rfl
theorem DiskAt.fresh {C : Ex} {H : Hp} {d a w n p : Addr} {D : DiskS} (x : DiskAt C H d a w n D) (h : H p = none) : p ∉ dkF d a w n := by
  obtain ⟨⟨_, x1⟩, ⟨_, x2, _⟩, ⟨_, x3, _⟩, ⟨_, x4, _⟩, _⟩ := x
  intro hb
  simp only [dkF, List.mem_cons, List.not_mem_nil, or_false] at hb
  rcases hb with rfl | rfl | rfl | rfl
  · rw [x1] at h; cases h
  · rw [x2] at h; cases h
  · rw [x3] at h; cases h
  · rw [x4] at h; cases h
theorem DiskAt.rowNot {C : Ex} {H : Hp} {d a w n p : Addr} {D : DiskS} {r : List Int} (x : DiskAt C H d a w n D) (h : RowAt H (.ref p) r) : p ∉ dkF d a w n := by
  obtain ⟨⟨_, x1⟩, ⟨_, x2, r2⟩, ⟨_, x3, r3⟩, ⟨_, x4, _⟩, _⟩ := x
  obtain ⟨l8, p', e, hp⟩ := h
  cases e
  intro hb
  simp only [dkF, List.mem_cons, List.not_mem_nil, or_false] at hb
  rcases hb with rfl | rfl | rfl | rfl
  · rw [x1] at hp; cases hp
  · rw [x2] at hp; exact row_ne l8 r2.ref (Option.some.inj hp).symm
  · rw [x3] at hp; exact row_ne l8 r3.ref (Option.some.inj hp).symm
  · rw [x4] at hp; cases hp
theorem DiskAt.tupNot {C : Ex} {H : Hp} {d a w n t : Addr} {D : DiskS} {xs : List V} (x : DiskAt C H d a w n D) (h : H t = some (.tup xs)) : t ∉ dkF d a w n := by
  obtain ⟨⟨_, x1⟩, ⟨_, x2, r2⟩, ⟨_, x3, r3⟩, ⟨_, x4, _⟩, _⟩ := x
  intro hb
  simp only [dkF, List.mem_cons, List.not_mem_nil, or_false] at hb
  rcases hb with rfl | rfl | rfl | rfl
  · rw [x1] at h; cases h
  · rw [x2] at h; cases h
  · rw [x3] at h; cases h
  · rw [x4] at h; cases h
theorem RowAt.stp {C : Ex} {H H' : Hp} {d a w n : Addr} {D : DiskS} {v : V} {r : List Int} {S' : List Addr} (x : RowAt H v r) (hD : DiskAt C H d a w n D) (st : Stp (dkF d a w n) H S' H') : RowAt H' v r := by
  have x0 := x
  obtain ⟨l8, p, rfl, hp⟩ := x
  exact ⟨l8, p, rfl, (st.keep hp (hD.rowNot x0)).1⟩
theorem WrsAt.stp {C : Ex} {H H' : Hp} {d a w n : Addr} {D : DiskS} {vs : List V} {ws : List (Int × List Int)} {S' : List Addr} (x : WrsAt H vs ws) (hD : DiskAt C H d a w n D) (st : Stp (dkF d a w n) H S' H') : WrsAt H' vs ws :=
  x.map (fun _ _ y => y.stp hD st) fun _ _ e => (st.keep e (hD.tupNot e)).1
theorem WrsAt.same {H H' : Hp} {vs : List V} {ws : List (Int × List Int)} (x : WrsAt H vs ws) (s : Same H H') : WrsAt H' vs ws := x.map (fun _ _ y => y.same s) fun _ _ e => s _ _ e
theorem NwAt.same {H H' : Hp} {kvs : List (Key × V)} {ws : List (Int × List Int)} (x : NwAt H kvs ws) (s : Same H H') : NwAt H' kvs ws := x.map fun _ _ y => y.same s
def torn (k : Int) (r old : List Int) : List Int := r.take k.toNat ++ old.drop k.toNat
theorem torn_len {k : Int} {r old : List Int} (h : r.length = 8) (h' : old.length = 8) : (torn k r old).length = 8 := by
  unfold torn
  rw [List.length_append, List.length_take, List.length_drop]
  omega
def cutS : List (List Int) → List (Int × List Int) → List Int → List (List Int)
  | rs, [], _ => rs
  | rs, _ :: _, [] => rs
  | rs, (s, r) :: w, c :: cs => cutS (rs.set s.toNat (torn c r (rs.getD s.toNat []))) w cs
theorem cutS_e (rs : List (List Int)) (cs : List Int) : cutS rs [] cs = rs := by cases cs <;> rfl
theorem cutS_snoc (s : Int) (r : List Int) : ∀ (w : List (Int × List Int)) (rs : List (List Int)) (cs : List Int), cutS rs (w ++ [(s, r)]) cs = match cs[w.length]? with
    | some c => (cutS rs w cs).set s.toNat (torn c r ((cutS rs w cs).getD s.toNat []))
    | none => cutS rs w cs
  | [], rs, [] => rfl
  | [], rs, c :: cs => by
    show cutS (rs.set s.toNat (torn c r (rs.getD s.toNat []))) [] cs = (cutS rs [] (c :: cs)).set s.toNat (torn c r ((cutS rs [] (c :: cs)).getD s.toNat []))
    rw [cutS_e, cutS_e]
  | p :: w, rs, [] => rfl
  | (t, q) :: w, rs, c :: cs => by
    show cutS (rs.set t.toNat (torn c q (rs.getD t.toNat []))) (w ++ [(s, r)]) cs = _
    rw [cutS_snoc s r w _ cs]
    rfl
theorem cutS_len : ∀ (w : List (Int × List Int)) (rs : List (List Int)) (cs : List Int), (cutS rs w cs).length = rs.length
  | [], rs, cs => by rw [cutS_e]
  | _ :: _, _, [] => rfl
  | (t, q) :: w, rs, c :: cs => (cutS_len w _ cs).trans (List.length_set ..)
def cutD (D : DiskS) (cs : List Int) : DiskS := { D with secs := cutS D.secs D.wr cs, wr := [], left := none, pw := true }
theorem all_btw {lo hi : Int} {xs : List V} (h : xs.all (btw lo hi) = true) : ∃ cs : List Int, xs = cs.map V.int ∧ ∀ z ∈ cs, lo ≤ z ∧ z ≤ hi := by
  induction xs with
  | nil => exact ⟨[], rfl, fun z h => by simp at h⟩
  | cons x xs ih =>
    rw [List.all_cons, Bool.and_eq_true] at h
    obtain ⟨cs, rfl, hc⟩ := ih h.2
    obtain ⟨i, rfl, h1, h2⟩ := btw_inv h.1
    refine ⟨i :: cs, rfl, fun z hz => ?_⟩
    rcases List.mem_cons.mp hz with rfl | hz
    · exact ⟨h1, h2⟩
    · exact hc z hz
/-- the lists of writes are new, the disk's own object has changed -/
theorem reset {C : Ex} {H H2 H5 : Hp} {d a w n dx w' n' : Addr} {fs : List (Str × V)} {vs : List V} {D : DiskS} (st : Stp (dkF d a w n) H (dkF d a w n) H2) (h1 : H2 d = some (.ins C.Disk dx fs)) (h2 : H2 a = some (.lst vs)) (rr : RowsAt H2 vs D.secs)
    (hw : H2 w' = none) (hn : H2 n' = none) (fr : ∀ b o, H2 b = some o → b ≠ d → H5 b = some o) (i5 : H5 d = some (dkO C dx a w' n' D)) (w5 : H5 w' = some (.lst [])) (n5 : H5 n' = some (.dK [])) (e : D.wr = []) :
    DiskAt C H5 d a w' n' D ∧ Stp (dkF d a w n) H (dkF d a w' n') H5 := by
  have rr5 : RowsAt H5 vs D.secs := rr.map fun v r ⟨l, p, ep, hp⟩ => ⟨l, p, ep, fr p _ hp (ne_of hp h1 fun z => nomatch z)⟩
  refine ⟨⟨⟨dx, i5⟩, ⟨vs, fr a _ h2 (ne_of h2 h1 fun z => nomatch z), rr5⟩, ⟨[], w5, by rw [e]; exact ⟨rfl, fun i v h => by simp at h⟩⟩, ⟨[], n5, by rw [e]; exact ⟨Nat.le_refl 0, fun _ h => by simp at h, fun s => .inl ⟨rfl, rfl⟩⟩⟩, ne_of_none h2 hw⟩, fun b o h nb => ?_, fun b hb => ?_⟩
  · exact fr b o (st.1 b o h nb) fun q => nb (by rw [q]; exact List.mem_cons_self ..)
  · rcases List.mem_cons.mp hb with rfl | hb
    · exact .inl (by simp [dkF])
    rcases List.mem_cons.mp hb with rfl | hb
    · exact .inl (by simp [dkF])
    rcases List.mem_cons.mp hb with rfl | hb
    · exact st.fresh hw
    rcases List.mem_cons.mp hb with rfl | hb
    · exact st.fresh hn
    · cases hb
def sp_Disk_cut (K : PySem.W.Frag) (C : Ex) : Sp := S2 fun x c H Q E => ∃ d a w n D q xs, x = .ref d ∧ c = .ref q ∧ DiskAt C H d a w n D ∧ DiskOk D ∧ SqL K H q xs ∧ (∀ x ∈ xs, Known K H x) ∧ q ≠ a ∧
  (xs.all (btw 0 8) = false → E (.ref C.NotValid) none H) ∧
  ∀ cs : List Int, xs = cs.map V.int → (∀ z ∈ cs, 0 ≤ z ∧ z ≤ 8) → ∀ H' w' n', DiskAt C H' d a w' n' (cutD D cs) → Stp (dkF d a w n) H (dkF d a w' n') H' → Q .non H'
def t_Disk_cut (K : PySem.W.Frag) (C : Ex) (E : XK) : TS :=
  tSeq (tIfS (tNot (uTru K (tCB (uIsi K .list) (tCons (tVar 1) (tCons (tC (.ty "list")) (tNil)))))) (uRaise C.NotValid (WB E)) (tNext))
  (tSeq (tFor (iList K (tVar 1)) (gName 2)
  (tIfS (tNot (uTru K (uCall (sp_is_between K C) (WB E) (tCons (tVar 2) (tCons (tC (.int 0)) (tCons (tC (.int 8)) (tNil))))))) (uRaise C.NotValid (WB E)) (tNext)))
  (tSeq (tFor (iEnum K (tCons (uFld C.Disk "writes" (tVar 0)) (tNil))) (gTup K 2 (gCons (gName 3) (gCons (gTup K 2 (gCons (gName 4) (gCons (gName 5) (gNil)))) (gNil))))
  (tIfS (tTest (tOp (uLt K) (tVar 3) (tCB (uLen K) (tCons (tVar 1) (tNil))))) (tSeq (tAsg (tOp (uIx K) (tVar 1) (tVar 3)) (gName 6))
  (tAsg (tOp (uAdd K) (tSl (uSl K) (tVar 5) (tNoPart) (tPart (tVar 6))) (tSl (uSl K) (tOp (uIx K) (uFld C.Disk "sectors" (tVar 0)) (tVar 4)) (tPart (tVar 6)) (tNoPart))) (gSub (uFld C.Disk "sectors" (tVar 0)) (tVar 4) uSet))) (tNext)))
  (tSeq (uSetF C.Disk "writes" (tVar 0) (tLst (tNil)))
  (tSeq (uSetF C.Disk "newest" (tVar 0) (tDNewK))
  (tSeq (uSetF C.Disk "left" (tVar 0) (tC .non))
  (uSetF C.Disk "power" (tVar 0) (tC (.bl true))))))))
theorem pure_Disk_cut {K : PySem.W.Frag} {C : Ex} {vs : List V} {H : Hp} {Q : VK} {E : XK} (F : Fa K C) (h : sp_Disk_cut K C vs H Q E) : t_Disk_cut K C E { nx := fun _ H' => Q .non H', rt := Q } (start ["self", "choices", "choice", "index", "sector", "words", "kept"] vs) H := by
  obtain ⟨x, c, rfl, d, a, w, n, D, q, xs, rfl, rfl, hD, ok, hq, hk, nqa, k1, k2⟩ := h
  obtain ⟨⟨dx, i⟩, ⟨vs, e1, r1⟩, ⟨ws, e2, r2⟩, ⟨kvs, e3, r3⟩, ne⟩ := hD
  have hsz := ok.sz
  have hbl := ok.bl
  have hdk := i
  unfold dkO at i
  unfold t_Disk_cut
  walk_at "run1"
  refine w_isi_list_L hq ?_
  walk_at "run1"
  refine f_list (xs := xs) (fun i σ H1 => H1 = H ∧ (∃ v2, σ = [some (.ref d), some (.ref q), v2, none, none, none, none]) ∧ (xs.take i).all (btw 0 8) = true) ⟨rfl, ⟨none, rfl⟩, rfl⟩ (by rintro i σ H1 _ ⟨rfl, _⟩; exact hq) ?_ ?_
  · rintro i x σ H1 hx ⟨rfl, ⟨v2, rfl⟩, ha⟩
    walk_at "run1"
    refine w_S3 ⟨0, 8, rfl, rfl, hk x (List.mem_of_getElem? hx), ?_⟩
    walk_at "run1"
    refine ifBN (fun hf => ?_) (fun ht => ?_)
    · walk_at "run1"
      exact k1 (all_not hx hf)
    · walk_at "run1"
      exact ⟨rfl, ⟨_, rfl⟩, all_take hx ha ht⟩
  rintro σ H1 ⟨rfl, ⟨v2, rfl⟩, ha⟩
  rw [List.take_length] at ha
  obtain ⟨cs, rfl, hcs⟩ := all_btw ha
  have k2 := k2 cs rfl hcs
  clear k1 ha hk
  walk_at "run1"
  refine f_enum (xs := ws) (fun i σ H2 => ∃ v3 v4 v5 v6, σ = [some (.ref d), some (.ref q), v2, v3, v4, v5, v6] ∧ H2 d = some (dkO C dx a w n D) ∧ (∃ vs, H2 a = some (.lst vs) ∧ RowsAt H2 vs (cutS D.secs (D.wr.take i) cs)) ∧ H2 w = some (.lst ws) ∧ WrsAt H2 ws D.wr ∧ SqL K H2 q (cs.map V.int) ∧ Stp (dkF d a w n) H1 (dkF d a w n) H2)
    ⟨none, none, none, none, rfl, hdk, ⟨vs, e1, by rw [List.take_zero, cutS_e]; exact r1⟩, e2, r2, hq, .refl⟩ (by rintro i σ H2 _ ⟨_, _, _, _, _, _, _, h, _⟩; exact SqL.of h) ?_ ?_
  · rintro i x σ H2 T hx ⟨v3, v4, v5, v6, rfl, h1, ⟨vs, h2, rr⟩, h3, h4, hq2, st⟩ hT
    obtain ⟨s, r, hsr, t, y, rfl, et, ry⟩ := h4.2 _ _ hx
    obtain ⟨l8, py, rfl, ey⟩ := ry
    have wk := ok.wk _ (List.mem_of_getElem? hsr)
    have hs0 : 0 ≤ s := wk.1
    have hs1 : s < 4 * D.blocks := wk.2
    have hiw : i < D.wr.length := (List.getElem?_eq_some_iff.mp hsr).1
    have hlr : vs.length = D.secs.length := by rw [rr.1, cutS_len]
    have htk : (D.wr.take i).length = i := by rw [List.length_take]; omega
    have sT : Same H2 (upd H2 T (.tup [.int (i : Nat), .ref t])) := same_new hT
    have eT : upd H2 T (.tup [.int (i : Nat), .ref t]) T = some (.tup [.int (i : Nat), .ref t]) := upd_same
    generalize upd H2 T (.tup [.int (i : Nat), .ref t]) = H3 at *
    have h13 := sT _ _ h1
    have h23 := sT _ _ h2
    have h33 := sT _ _ h3
    have et3 := sT _ _ et
    have ey3 := sT _ _ ey
    have hq3 := sT.seq hq2
    have rr3 := rr.same sT
    have h43 := h4.map (fun _ _ y => y.same sT) fun _ _ e => sT _ _ e
    have st3 := st.trans (.same sT)
    unfold dkO at h13
    walk_at "run1"
    · rename_i hlt
      have hc : i < cs.length := by simp only [List.length_map] at hlt; omega
      have hcc : cs[i]? = some (cs.getD (i : Int).toNat 0) := by rw [Int.toNat_natCast, List.getD_eq_getElem?_getD, List.getElem?_eq_getElem hc]; rfl
      have hc8 := hcs _ (List.mem_of_getElem? hcc)
      generalize cs.getD (i : Int).toNat 0 = cc at *
      refine w_slL (SqL.of ey3) fun l hl => ?_
      rw [show cutV (r.map V.int) none (some cc) = (r.take cc.toNat).map V.int by
        have z := cut_take (r.map V.int) cc.toNat
        rw [show ((cc.toNat : Nat) : Int) = cc by omega] at z
        rw [z, List.map_take]]
      have s4 : Same H3 (upd H3 l (.lst ((r.take cc.toNat).map V.int))) := same_new hl
      have e4 : upd H3 l (.lst ((r.take cc.toNat).map V.int)) l = some (.lst ((r.take cc.toNat).map V.int)) := upd_same
      generalize upd H3 l (.lst ((r.take cc.toNat).map V.int)) = H4 at *
      have h14 := s4 _ _ h13
      have hsn : s.toNat < vs.length := by omega
      obtain ⟨ro, ero, lo8, po, epo, hpo⟩ := (rr3.same s4).2 s.toNat _ (List.getElem?_eq_getElem hsn)
      walk_at "run1"
      refine w_ixL (k := s.toNat) (SqL.of (s4 _ _ h23)) (by omega) ((List.getElem?_eq_getElem hsn).trans (by rw [epo])) ?_
      walk_at "run1"
      refine w_slL (SqL.of hpo) fun l2 hl2 => ?_
      rw [show cutV (ro.map V.int) (some cc) none = (ro.drop cc.toNat).map V.int by
        have z := cut_drop (ro.map V.int) cc.toNat
        rw [show ((cc.toNat : Nat) : Int) = cc by omega] at z
        rw [z, List.map_drop]]
      refine w_cat (upd_old e4 hl2) upd_same (by rw [List.length_map, List.length_map, List.length_take, List.length_drop]; omega) fun l3 hl3 => ?_
      rw [← List.map_append]
      have s5 := same_updN (o := .lst ((r.take cc.toNat ++ ro.drop cc.toNat).map V.int)) (same_new (o := .lst ((ro.drop cc.toNat).map V.int)) hl2) hl3
      have rl : RowAt (upd (upd H4 l2 (.lst ((ro.drop cc.toNat).map V.int))) l3 (.lst ((r.take cc.toNat ++ ro.drop cc.toNat).map V.int))) (.ref l3) (torn cc r ro) := .of (torn_len l8 lo8) upd_same
      generalize upd (upd H4 l2 _) l3 _ = H5 at *
      have s35 := s4.trans s5
      have h15 := s5 _ _ h14
      have h25 := s35 _ _ h23
      walk_at "run1"
      refine w_setL h25 ⟨hs0, hsn⟩ ?_
      have pa := plain_refs rr.ref
      have fr6 := row_upd (o := .lst (vs.set s.toNat (.ref l3))) h25 pa
      have ft6 := tup_upd (o := .lst (vs.set s.toNat (.ref l3))) h25 pa
      refine ⟨_, _, _, _, rfl, upd_oth h15 (ne_of h15 h25 fun z => nomatch z), ⟨_, upd_same, ?_⟩, upd_oth (s35 _ _ h33) ne.symm, (h43.map (fun _ _ y => y.same s35) fun _ _ e => s35 _ _ e).map fr6 ft6, sql_oth (s35.seq hq3) nqa, (st3.trans (.same s35)).upd (by simp [dkF])⟩
      rw [take_snoc hsr, cutS_snoc, htk, hcc]
      dsimp only
      rw [show (cutS D.secs (D.wr.take i) cs).getD s.toNat [] = ro by rw [List.getD_eq_getElem?_getD, ero]; rfl]
      exact ((rr3.same s35).map fr6).set (fr6 _ _ rl)
    · walk_at "run1"
      rename_i hlt
      have hc : cs[i]? = none := List.getElem?_eq_none (by simp only [List.length_map] at hlt; omega)
      refine ⟨_, _, _, _, rfl, h13, ⟨vs, h23, ?_⟩, h33, h43, hq3, st3⟩
      rw [take_snoc hsr, cutS_snoc, htk, hc]
      exact rr3
  · rintro σ H2 ⟨v3, v4, v5, v6, rfl, h1, ⟨vs, h2, rr⟩, h3, h4, hq2, st⟩
    rw [r2.1, List.take_length] at rr
    unfold dkO at h1
    walk_at "run1"
    rename_i w' hw' n' hn'
    have nwd : w' ≠ d := (ne_of_none h1 hw').symm
    have hn2 := none_of_upd (none_of_upd hn').1
    have nnd : n' ≠ d := (none_of_upd hn').2
    have nnw : n' ≠ w' := hn2.2
    obtain ⟨g1, g2⟩ := reset (C := C) (D := cutD D cs) (w' := w') (n' := n') (H5 := upd (upd (upd (upd (upd (upd H2 w' (.lst [])) d (.ins C.Disk dx [("blocks", .int D.blocks), ("sectors", .ref a), ("writes", .ref w'), ("newest", .ref n), ("left", optI D.left), ("power", .bl D.pw)])) n' (.dK [])) d (.ins C.Disk dx [("blocks", .int D.blocks), ("sectors", .ref a), ("writes", .ref w'), ("newest", .ref n'), ("left", optI D.left), ("power", .bl D.pw)])) d (.ins C.Disk dx [("blocks", .int D.blocks), ("sectors", .ref a), ("writes", .ref w'), ("newest", .ref n'), ("left", .non), ("power", .bl D.pw)])) d (dkO C dx a w' n' (cutD D cs)))
      st h1 h2 rr hw' hn2.1 (fun b o h nb => by
        rw [upd_ne nb, upd_ne nb, upd_ne nb, upd_ne (ne_of_none h hn2.1), upd_ne nb, upd_ne (ne_of_none h hw')]; exact h) upd_same
      (by rw [upd_ne nwd, upd_ne nwd, upd_ne nwd, upd_ne nnw.symm, upd_ne nwd]; exact upd_same) (by rw [upd_ne nnd, upd_ne nnd, upd_ne nnd]; exact upd_same) rfl
    exact k2 _ w' n' g1 g2
structure Sep (F : List Addr) (H : Hp) (L : List (Addr × HO)) : Prop where
  own : ∀ x ∈ L, H x.1 = some x.2
  out : ∀ x ∈ L, x.1 ∉ F
  nd : (L.map (·.1)).Nodup
section sep
variable {F F' : List Addr} {H H' : Hp} {L L2 : List (Addr × HO)} {p : Addr} {o : HO}
theorem Sep.get (x : Sep F H L) (i : Nat) (e : L[i]? = some (p, o)) : H p = some o := x.own (p, o) (List.mem_of_getElem? e)
theorem Sep.far (x : Sep F H L) (i : Nat) (e : L[i]? = some (p, o)) : p ∉ F := x.out (p, o) (List.mem_of_getElem? e)
theorem Sep.stp (x : Sep F H L) (st : Stp F H F' H') : Sep F' H' L :=
  ⟨fun y hy => (st.keep (x.own y hy) (x.out y hy)).1, fun y hy => (st.keep (x.own y hy) (x.out y hy)).2, x.nd⟩
theorem Sep.same (x : Sep F H L) (s : Same H H') : Sep F H' L := ⟨fun y hy => s _ _ (x.own y hy), x.out, x.nd⟩
theorem Sep.set (x : Sep F H L) (i : Nat) (e : L[i]? = some (p, o)) (o' : HO) : Sep F (upd H p o') (L.set i (p, o')) := by
  have hm : (L.set i (p, o')).map (·.1) = L.map (·.1) := by
    rw [List.map_set]
    refine List.ext_getElem? fun j => ?_
    by_cases q : i = j
    · subst q
      have hi : i < L.length := (List.getElem?_eq_some_iff.mp e).1
      rw [List.getElem?_set_self (by rw [List.length_map]; exact hi), List.getElem?_map, e]
      rfl
    · rw [List.getElem?_set_ne q]
  have nd' : ((L.set i (p, o')).map (·.1)).Nodup := by rw [hm]; exact x.nd
  have hi : i < L.length := (List.getElem?_eq_some_iff.mp e).1
  have key : ∀ j y, (L.set i (p, o'))[j]? = some y → (j = i ∧ y = (p, o')) ∨ (j ≠ i ∧ L[j]? = some y ∧ y.1 ≠ p) := fun j y h => by
    by_cases q : i = j
    · subst q
      rw [List.getElem?_set_self hi] at h
      exact .inl ⟨rfl, (Option.some.inj h).symm⟩
    · rw [List.getElem?_set_ne q] at h
      refine .inr ⟨Ne.symm q, h, fun r => q ?_⟩
      have h1 : (L.map (·.1))[i]? = some p := by rw [List.getElem?_map, e]; rfl
      have h2 : (L.map (·.1))[j]? = some p := by rw [List.getElem?_map, h, ← r]; rfl
      obtain ⟨w1, e1⟩ := List.getElem?_eq_some_iff.mp h1
      obtain ⟨w2, e2⟩ := List.getElem?_eq_some_iff.mp h2
      exact (List.getElem?_inj w1 x.nd).mp (h1.trans h2.symm)
  refine ⟨fun y hy => ?_, fun y hy => ?_, nd'⟩
  · obtain ⟨j, hj⟩ := List.getElem?_of_mem hy
    rcases key j y hj with ⟨_, rfl⟩ | ⟨_, h, n⟩
    · exact upd_same
    · rw [upd_ne n]; exact x.own y (List.mem_of_getElem? h)
  · obtain ⟨j, hj⟩ := List.getElem?_of_mem hy
    rcases key j y hj with ⟨_, rfl⟩ | ⟨_, h, n⟩
    · exact x.far i e
    · exact x.out y (List.mem_of_getElem? h)
theorem Sep.more (x : Sep F H L) (s : Same H H') (h1 : ∀ y ∈ L2, H' y.1 = some y.2) (h2 : ∀ y ∈ L2, H y.1 = none) (h3 : ∀ y ∈ L2, y.1 ∉ F) (h4 : (L2.map (·.1)).Nodup) : Sep F H' (L2 ++ L) := by
  refine ⟨fun y hy => ?_, fun y hy => ?_, ?_⟩
  · rcases List.mem_append.mp hy with h | h
    · exact h1 y h
    · exact s _ _ (x.own y h)
  · rcases List.mem_append.mp hy with h | h
    · exact h3 y h
    · exact x.out y h
  · rw [List.map_append]
    refine List.nodup_append.mpr ⟨h4, x.nd, fun a ha b hb q => ?_⟩
    subst q
    obtain ⟨y, hy, rfl⟩ := List.mem_map.mp ha
    obtain ⟨z, hz, e⟩ := List.mem_map.mp hb
    have := h2 y hy
    rw [← e, x.own z hz] at this
    cases this
theorem Sep.add (x : Sep F H L) (s : Same H H') (hn : H p = none) (hf : p ∉ F) (e : H' p = some o) : Sep F H' ((p, o) :: L) :=
  x.more (L2 := [(p, o)]) s (by simp [e]) (by simp [hn]) (by simp [hf]) (by simp)
theorem Sep.new (x : Sep F H L) (hn : H p = none) (hf : p ∉ F) : Sep F (upd H p o) ((p, o) :: L) := x.add (same_new hn) hn hf upd_same
theorem Sep.nil : Sep F H [] := ⟨by simp, by simp, List.nodup_nil⟩
end sep
/-- the signs of names -/
def al : List Nat := [97, 98, 99, 100, 101, 102, 103, 104, 105, 106, 107, 108, 109, 110, 111, 112, 113, 114, 115, 116, 117, 118, 119, 120, 121, 122, 48, 49, 50, 51, 52, 53, 54, 55, 56, 57, 46, 95, 45]
theorem al_str : ("abcdefghijklmnopqrstuvwxyz0123456789._-" : Str) = tx al := by decide +kernel
theorem dot_str : ("." : Str) = tx [46] := by decide +kernel
theorem emp_str : ("" : Str) = tx [] := by decide +kernel
/-- the digit of a sign, less one -/
def ix (c : Nat) : Int := ixc al c
theorem ix_lt (c : Nat) : -1 ≤ ix c ∧ ix c < 39 := by
  unfold ix ixc
  split
  · rename_i h
    have := List.idxOf_lt_length_iff.mpr h
    have e : al.length = 39 := rfl
    omega
  · omega
theorem ix_neg {c : Nat} : ix c < 0 ↔ c ∉ al := by
  unfold ix ixc
  split
  · rename_i h; exact ⟨fun q => by omega, fun q => absurd h q⟩
  · rename_i h; exact ⟨fun _ => h, fun _ => by omega⟩
def wStep (w : Int) (c : Nat) : Int := w * 40 + ix c + 1
def nameW (l : List Nat) : Int := l.foldl wStep 0 * 40 ^ (11 - l.length)
def isName (l : List Nat) : Prop := (0 < l.length ∧ l.length ≤ 11) ∧ (∀ c ∈ l, c ∈ al) ∧ l.count 46 ≠ l.length
instance (l : List Nat) : Decidable (isName l) := inferInstanceAs (Decidable (_ ∧ _))
/-- the digits of a name, behind its end 0 -/
def dgN (l : List Nat) (k : Nat) : Int := match l[k]? with
  | some c => ix c + 1
  | none => 0
def dgW (w : Int) (k : Nat) : Int := w / 40 ^ (10 - k) % 40
def sumW (f : Nat → Int) : Nat → Int
  | 0 => 0
  | n + 1 => sumW f n * 40 + f n
theorem dgN_at {l : List Nat} {k : Nat} {c : Nat} (h : l[k]? = some c) : dgN l k = ix c + 1 := by unfold dgN; rw [h]
theorem dgN_end {l : List Nat} {k : Nat} (h : l.length ≤ k) : dgN l k = 0 := by unfold dgN; rw [List.getElem?_eq_none h]
theorem ix_nn {c : Nat} (h : c ∈ al) : 0 ≤ ix c := by
  by_cases q : ix c < 0
  · exact absurd h (ix_neg.mp q)
  · omega
theorem dgN_pos {l : List Nat} {k : Nat} (ha : ∀ c ∈ l, c ∈ al) (h : k < l.length) : 0 < dgN l k := by
  have e := List.getElem?_eq_getElem h
  rw [dgN_at e]
  have := ix_nn (ha _ (List.getElem_mem h))
  omega
theorem dgN_lim (l : List Nat) (k : Nat) (ha : ∀ c ∈ l, c ∈ al) : 0 ≤ dgN l k ∧ dgN l k < 40 := by
  unfold dgN
  split
  · rename_i c e
    have := ix_nn (ha c (List.mem_of_getElem? e))
    have := ix_lt c
    omega
  · omega
theorem pre_sum (l : List Nat) : ∀ n, (l.take n).foldl wStep 0 * 40 ^ (n - l.length) = sumW (dgN l) n
  | 0 => by simp [sumW]
  | n + 1 => by
    have ih := pre_sum l n
    show _ = sumW (dgN l) n * 40 + dgN l n
    rw [← ih]
    by_cases h : n < l.length
    · have e := List.getElem?_eq_getElem h
      rw [take_snoc e, List.foldl_append, dgN_at e]
      rw [show n + 1 - l.length = 0 by omega, show n - l.length = 0 by omega, Int.pow_zero, Int.mul_one, Int.mul_one]
      show (l.take n).foldl wStep 0 * 40 + ix l[n] + 1 = _
      omega
    · rw [dgN_end (by omega), List.take_of_length_le (show l.length ≤ n + 1 by omega), List.take_of_length_le (show l.length ≤ n by omega), show n + 1 - l.length = (n - l.length) + 1 by omega, Int.pow_succ, Int.mul_assoc]
      omega
theorem nameW_sum {l : List Nat} (h : l.length ≤ 11) : nameW l = sumW (dgN l) 11 := by
  rw [← pre_sum l 11, List.take_of_length_le h]
  rfl
theorem pow40 (n : Nat) : (0 : Int) < 40 ^ n := Int.pow_pos (by decide)
theorem sum_lim {f : Nat → Int} (hf : ∀ k, 0 ≤ f k ∧ f k < 40) : ∀ n, 0 ≤ sumW f n ∧ sumW f n < 40 ^ n
  | 0 => ⟨Int.le_refl 0, pow40 0⟩
  | n + 1 => by
    obtain ⟨a, b⟩ := sum_lim hf n
    have := hf n
    show 0 ≤ sumW f n * 40 + f n ∧ sumW f n * 40 + f n < 40 ^ (n + 1)
    rw [Int.pow_succ]
    generalize (40 : Int) ^ n = P at *
    omega
/-- the upper digits of a sum -/
theorem sum_up {f : Nat → Int} (hf : ∀ k, 0 ≤ f k ∧ f k < 40) (n : Nat) : ∀ m, sumW f (n + m) / 40 ^ m = sumW f n
  | 0 => by rw [Int.pow_zero, Int.ediv_one]; rfl
  | m + 1 => by
    have h := hf (n + m)
    rw [Int.pow_succ, Int.mul_comm, ← Int.ediv_ediv_of_nonneg (by decide)]
    have e : sumW f (n + (m + 1)) / 40 = sumW f (n + m) := by
      show (sumW f (n + m) * 40 + f (n + m)) / 40 = _
      omega
    rw [e]
    exact sum_up hf n m
theorem dgW_sum {f : Nat → Int} (hf : ∀ k, 0 ≤ f k ∧ f k < 40) {k : Nat} (h : k < 11) : dgW (sumW f 11) k = f k := by
  unfold dgW
  have e := sum_up hf (k + 1) (10 - k)
  rw [show k + 1 + (10 - k) = 11 by omega] at e
  rw [e]
  have := hf k
  show (sumW f k * 40 + f k) % 40 = f k
  omega
theorem sum_dgW (w : Int) (hw : w / 40 ^ 11 = 0) : ∀ n, n ≤ 11 → sumW (dgW w) n = w / 40 ^ (11 - n)
  | 0, _ => hw.symm
  | n + 1, h => by
    show sumW (dgW w) n * 40 + dgW w n = _
    rw [sum_dgW w hw n (by omega)]
    unfold dgW
    rw [show 11 - n = (10 - n) + 1 by omega, show 11 - (n + 1) = 10 - n by omega, Int.pow_succ, ← Int.ediv_ediv_of_nonneg (Int.le_of_lt (pow40 _))]
    omega
theorem sumW_congr {f g : Nat → Int} : ∀ n, (∀ k, k < n → f k = g k) → sumW f n = sumW g n
  | 0, _ => rfl
  | n + 1, h => by
    show sumW f n * 40 + f n = sumW g n * 40 + g n
    rw [sumW_congr n fun k hk => h k (by omega), h n (by omega)]
theorem name_dg {l : List Nat} (h : isName l) : (∀ k, k < 11 → dgW (nameW l) k = dgN l k) ∧ 0 ≤ nameW l ∧ nameW l < 40 ^ 11 := by
  rw [nameW_sum h.1.2]
  exact ⟨fun k hk => dgW_sum (fun j => dgN_lim l j h.2.1) hk, (sum_lim (fun j => dgN_lim l j h.2.1) 11).1, (sum_lim (fun j => dgN_lim l j h.2.1) 11).2⟩
theorem ixc_inj {c d : Nat} (hc : c ∈ al) (hd : d ∈ al) (e : ix c = ix d) : c = d := by
  unfold ix ixc at e
  rw [if_pos hc, if_pos hd] at e
  have h1 := List.getElem_idxOf (List.idxOf_lt_length_iff.mpr hc)
  have h2 := List.getElem_idxOf (List.idxOf_lt_length_iff.mpr hd)
  have e' : al.idxOf c = al.idxOf d := by omega
  rw [← h1, ← h2]
  congr 1
theorem al_ix : ∀ d : Nat, d < 39 → ix (al.getD d 0) = (d : Int) := by decide +kernel
theorem al_at (n : Nat) (h : n < 39) : al.getD n 0 ∈ al := by
  rw [List.getD_eq_getElem?_getD, List.getElem?_eq_getElem (show n < al.length from h)]
  exact List.getElem_mem _
theorem dgN_ext {l m : List Nat} (hl : l.length ≤ 11) (hm : m.length ≤ 11) (ha : ∀ c ∈ l, c ∈ al) (hb : ∀ c ∈ m, c ∈ al) (h : ∀ k, k < 11 → dgN l k = dgN m k) : l = m := by
  have len : l.length = m.length := by
    rcases Nat.lt_trichotomy l.length m.length with q | q | q
    · have z := h l.length (by omega)
      rw [dgN_end (Nat.le_refl _)] at z
      have := dgN_pos hb q
      omega
    · exact q
    · have z := h m.length (by omega)
      rw [dgN_end (Nat.le_refl m.length)] at z
      have := dgN_pos ha q
      omega
  refine List.ext_getElem len fun k h1 h2 => ?_
  have z := h k (by omega)
  rw [dgN_at (List.getElem?_eq_getElem h1), dgN_at (List.getElem?_eq_getElem h2)] at z
  exact ixc_inj (ha _ (List.getElem_mem h1)) (hb _ (List.getElem_mem h2)) (by omega)
/-- the name that i digits of w tell -/
structure Told (w : Int) (l : List Nat) (i : Nat) : Prop where
  len : l.length ≤ i
  all : ∀ c ∈ l, c ∈ al
  dg : ∀ k, k < i → dgW w k = dgN l k
theorem Told.zero {w : Int} : Told w [] 0 := ⟨Nat.le_refl 0, by simp, fun k h => absurd h (by omega)⟩
theorem Told.skip {w : Int} {l : List Nat} {i : Nat} (t : Told w l i) (h : dgW w i = 0) : Told w l (i + 1) := ⟨by have := t.len; omega, t.all, fun k hk => by
  rcases Nat.lt_or_ge k i with q | q
  · exact t.dg k q
  · obtain rfl : k = i := by omega
    rw [h, dgN_end t.len]⟩
theorem dgW_lim (w : Int) (k : Nat) : 0 ≤ dgW w k ∧ dgW w k < 40 := by unfold dgW; omega
theorem Told.put {w : Int} {l : List Nat} {i : Nat} (t : Told w l i) (hi : l.length = i) (h : dgW w i ≠ 0) : Told w (l ++ [al.getD (dgW w i - 1).toNat 0]) (i + 1) := by
  have := dgW_lim w i
  have z := al_ix (dgW w i - 1).toNat (by omega)
  refine ⟨by simp only [List.length_append, List.length_cons, List.length_nil]; omega, fun c hc => ?_, fun k hk => ?_⟩
  · rcases List.mem_append.mp hc with hc | hc
    · exact t.all c hc
    · rw [List.mem_singleton.mp hc]; exact al_at _ (by omega)
  · rcases Nat.lt_or_ge k i with q | q
    · rw [t.dg k q]
      unfold dgN
      rw [List.getElem?_append_left (by omega)]
    · obtain rfl : k = i := by omega
      rw [dgN_at (c := al.getD (dgW w k - 1).toNat 0) (by rw [List.getElem?_append_right (by omega), hi, Nat.sub_self]; rfl), z]
      omega
theorem Told.no {w : Int} {l : List Nat} {i : Nat} (t : Told w l i) (hi : l.length < i) (hj : i < 11) (h : dgW w i ≠ 0) {m : List Nat} (hm : isName m) : nameW m ≠ w := by
  rintro rfl
  obtain ⟨d, _, _⟩ := name_dg hm
  have z := t.dg l.length hi
  rw [d _ (by omega), dgN_end (Nat.le_refl _)] at z
  have a : ¬ l.length < m.length := fun q => by have := dgN_pos hm.2.1 q; omega
  rw [d i hj, dgN_end (by omega)] at h
  exact h rfl
theorem Told.yes {w : Int} {l : List Nat} (t : Told w l 11) (hw : w / 40 ^ 11 = 0) : nameW l = w := by
  rw [nameW_sum t.len, ← sumW_congr 11 t.dg, sum_dgW w hw 11 (Nat.le_refl _), Nat.sub_self, Int.pow_zero, Int.ediv_one]
theorem Told.only {w : Int} {l : List Nat} (t : Told w l 11) {m : List Nat} (hm : isName m) (e : nameW m = w) : m = l := by
  subst e
  obtain ⟨d, _, _⟩ := name_dg hm
  exact dgN_ext hm.1.2 t.len hm.2.1 t.all fun k hk => by rw [← d k hk, t.dg k hk]
theorem name_div {m : List Nat} (hm : isName m) : nameW m / 40 ^ 11 = 0 := by
  obtain ⟨_, a, b⟩ := name_dg hm
  exact Int.ediv_eq_zero_of_lt a b
theorem isName_of {l : List Nat} (h : l.length ≤ 11) (ha : ∀ c ∈ l, c ∈ al) : isName l ↔ l.count 46 ≠ l.length := by
  refine ⟨fun q => q.2.2, fun q => ⟨⟨?_, h⟩, ha, q⟩⟩
  cases l with
  | nil => exact absurd rfl q
  | cons => simp
theorem isWord_int (w : Int) : isWord (.int w) = decide (0 ≤ w) := rfl
theorem e11 : (11 : Int).toNat = 11 := rfl
/-- what names have the word w -/
def HasName (w : Int) (Y : List Nat → Prop) (N : Prop) : Prop := (∀ l, isName l → nameW l = w → Y l) ∧ ((∀ l, isName l → nameW l ≠ w) → N)
def sp_word_name (K : PySem.W.Frag) (C : Ex) : Sp := S1 fun a H Q E => ∃ w : Int, a = .int w ∧ ∀ H', Same H H' → HasName w (fun l => Q (.str (tx l)) H') (E (.ref C.BadName) none H')
theorem rev_at {α : Type} {f : Nat → α} {n i : Nat} {x : α} (h : ((List.range n).map f)[((List.range n).map f).length - 1 - i]? = some x) (hi : i < n) : x = f (n - 1 - i) := by
  rw [List.length_map, List.length_range, List.getElem?_map, List.getElem?_range (by omega)] at h
  exact (Option.some.inj h).symm
def t_word_name (K : PySem.W.Frag) (C : Ex) (E : XK) : TS :=
  tSeq (tIfS (tNot (uTru K (uCall (sp_is_word K C) (WB E) (tCons (tVar 0) (tNil))))) (uRaise C.BadName (WB E)) (tNext))
  (tSeq (tAsg (tLst (tNil)) (gName 1))
  (tSeq (tAsg (tVar 0) (gName 2))
  (tSeq (tFor (iRng1 (tCons (tC (.int 11)) (tNil))) (gName 3)
  (tSeq (tDrop (tBM K "list" (rAppend) (tVar 1) (tCons (tOp (uMod) (tVar 2) (tC (.int 40))) (tNil))))
  (tAsg (tOp (uDiv) (tVar 2) (tC (.int 40))) (gName 2))))
  (tSeq (tAsg (tC (.str "")) (gName 4))
  (tSeq (tAsg (tC (.bl false)) (gName 5))
  (tSeq (tFor (iRev K (tCons (tVar 1) (tNil))) (gName 6)
  (tIfS (tTest (tOp (uEq K) (tVar 6) (tC (.int 0)))) (tAsg (tC (.bl true)) (gName 5)) (tIfS (uTru K (tVar 5)) (uRaise C.BadName (WB E)) (tAsg (tOp (uAdd K) (tVar 4) (tOp (uIx K) (tC (.str "abcdefghijklmnopqrstuvwxyz0123456789._-")) (tOp (uSub) (tVar 6) (tC (.int 1))))) (gName 4)))))
  (tSeq (tIfS (tOr (tTest (tOp (uNe K) (tVar 2) (tC (.int 0)))) (tTest (tOp (uEq K) (tBM K "str" (uCount) (tVar 4) (tCons (tC (.str ".")) (tNil))) (tCB (uLen K) (tCons (tVar 4) (tNil)))))) (uRaise C.BadName (WB E)) (tNext))
  (tRet (tVar 4)))))))))
theorem pure_word_name {K : PySem.W.Frag} {C : Ex} {vs : List V} {H : Hp} {Q : VK} {E : XK} (F : Fa K C) (h : sp_word_name K C vs H Q E) : t_word_name K C E { nx := fun _ H' => Q .non H', rt := Q } (start ["word", "digits", "rest", "_", "name", "ended", "digit"] vs) H := by
  obtain ⟨a, rfl, w, rfl, k⟩ := h
  unfold t_word_name
  rw [al_str, dot_str, emp_str]
  walk_at "run1"
  refine w_S1 ⟨trivial, ?_⟩
  rw [isWord_int]
  walk_at "run1"
  · rename_i hn
    refine (k _ (L2.Same.refl _)).2 fun l hl e => ?_
    obtain ⟨_, a, _⟩ := name_dg hl
    omega
  · walk_at "run1"
    rename_i h0 D hD
    refine f_range (fun i σ H' => ∃ v3, σ = [some (.int w), some (.ref D), some (.int (w / 40 ^ i)), v3, none, none, none] ∧ Same H H' ∧ H' D = some (.lst (((List.range i).map fun j => w / 40 ^ j % 40).map V.int))) ⟨none, by rw [Int.pow_zero, Int.ediv_one]; rfl, same_new hD, upd_same⟩ ?_ ?_
    · rintro i σ H' hi ⟨v3, rfl, hs, hl⟩
      have hi' : i < 11 := hi
      walk_at "run1"
      refine w_appI hl (by rw [List.length_map, List.length_range]; omega) ?_
      walk_at "run1"
      refine ⟨_, by rw [Int.pow_succ, ← Int.ediv_ediv_of_nonneg (Int.le_of_lt (pow40 _))]; rfl, same_upd hs hD, ?_⟩
      rw [upd_same, List.range_succ, List.map_append, List.map_append, List.map_append]
      rfl
    · rintro σ H' ⟨v3, rfl, hs, hl⟩
      walk_at "run1"
      refine RT.for_Itv (xs := ((List.range (Int.toNat 11)).map fun j => w / 40 ^ j % 40).map V.int) (fun i σ H1 => H1 = H' ∧ ∃ l v6, Told w l i ∧ σ = [some (.int w), some (.ref D), some (.int (w / 40 ^ (Int.toNat 11))), v3, some (.str (tx l)), some (.bl (decide (l.length < i))), v6]) ⟨rfl, [], none, .zero, rfl⟩ (by rintro i σ H1 ⟨rfl, _⟩; exact SqL.of hl) ?_ ?_
      · rintro i x σ H1 hi hx ⟨rfl, l, v6, t, rfl⟩
        rw [List.length_map, List.length_map, List.length_range, e11] at hi
        rw [List.map_map] at hx
        have hx' := rev_at (f := V.int ∘ fun j => w / 40 ^ j % 40) hx (by rw [e11]; exact hi)
        rw [e11] at hx'
        have ex : x = .int (dgW w i) := by rw [hx']; rfl
        subst ex
        have lim := dgW_lim w i
        have hlen := t.len
        have hal : al.length = 39 := rfl
        walk_at "run1"
        · rename_i hz
          exact ⟨rfl, l, _, t.skip hz, by rw [decide_eq_true (show l.length < i + 1 by omega)]; rfl⟩
        · walk_at "run1"
          · rename_i hz hlt
            exact (k _ hs).2 fun m hm => t.no hlt hi hz hm
          · rename_i hz hge
            have he : l.length = i := by omega
            walk_at "run1"
            have hx : (l ++ [al.getD (dgW w i - 1).toNat 0]).length = i + 1 := by rw [List.length_append, he]; rfl
            exact ⟨rfl, _, _, t.put he hz, by rw [decide_eq_false (show ¬ (l ++ [al.getD (dgW w i - 1).toNat 0]).length < i + 1 by omega), decide_eq_false (show ¬ l.length < i by omega)]; rfl⟩
      · rintro σ H1 ⟨rfl, l, v6, t, rfl⟩
        rw [List.length_map, List.length_map, List.length_range, e11] at t
        have hl11 := t.len
        rw [e11]
        walk_at "run1"
        · rename_i hr
          exact (k _ hs).2 fun m hm e => hr (by rw [← e]; exact name_div hm)
        · walk_at "run1"
          · rename_i hr hc
            refine (k _ hs).2 fun m hm e => ?_
            rw [t.only hm e] at hm
            exact hm.2.2 (by omega)
          · walk_at "run1"
            rename_i hr hc
            exact (k _ hs).1 l ((isName_of hl11 t.all).mpr (by omega)) (t.yes hr)
def DgOk (ds bs : List Int) : Prop := ds.length = bs.length ∧ ∀ i : Nat, i < bs.length → 0 ≤ ds.getD i 0 ∧ ds.getD i 0 < bs.getD i 0
theorem getD_snoc {l : List Int} {z : Int} : (l ++ [z]).getD l.length 0 = z := by
  rw [List.getD_eq_getElem?_getD, List.getElem?_append_right (Nat.le_refl _), Nat.sub_self]
  rfl
theorem getD_pre {l m : List Int} {i : Nat} (h : i < l.length) : (l ++ m).getD i 0 = l.getD i 0 := by
  rw [List.getD_eq_getElem?_getD, List.getElem?_append_left h, List.getD_eq_getElem?_getD]
theorem DgOk.snoc {ds bs : List Int} {d b : Int} (x : DgOk ds bs) (h : 0 ≤ d ∧ d < b) : DgOk (ds ++ [d]) (bs ++ [b]) := by
  refine ⟨by rw [List.length_append, List.length_append, x.1]; rfl, fun i hi => ?_⟩
  rw [List.length_append] at hi
  have hi : i < bs.length + 1 := hi
  by_cases q : i < bs.length
  · rw [getD_pre (by rw [x.1]; exact q), getD_pre q]
    exact x.2 i q
  · obtain rfl : i = bs.length := by omega
    rw [getD_snoc, ← x.1, getD_snoc]
    exact h
def sp__law_digits (K : PySem.W.Frag) (_ : Ex) : Sp := S2 fun a b H Q _ => ∃ (c : Int) (q : Addr) (bs : List Int), a = .int c ∧ b = .ref q ∧ SqL K H q (bs.map V.int) ∧ bs.length ≤ 1000 ∧ (∀ x ∈ bs, 0 < x ∧ x < 2 ^ 200) ∧
  ∀ p H' ds, Same H H' → H p = none → H' p = some (.lst (ds.map V.int)) → DgOk ds bs → Q (.ref p) H'
def t__law_digits (K : PySem.W.Frag) (C : Ex) (E : XK) : TS :=
  tSeq (tAsg (tLst (tNil)) (gName 2))
  (tSeq (tAsg (tCB (uInt) (tCons (tVar 0) (tNil))) (gName 3))
  (tSeq (tFor (iList K (tVar 1)) (gName 4)
  (tIfS (tTest (tOp (uGe K) (tVar 0) (tOp (uPow) (tC (.int 10)) (tC (.int 18))))) (tSeq (tDrop (tBM K "list" (rAppend) (tVar 2) (tCons (tOp (uMod) (tCB (uInt) (tCons (tVar 3) (tNil))) (tVar 4)) (tNil))))
  (tAsg (tOp (uDiv) (tVar 3) (tVar 4)) (gName 3))) (tSeq (tAsg (tOp (uMod) (tOp (uAdd K) (tOp (uAdd K) (tOp (uMul) (tCB (uInt) (tCons (tVar 3) (tNil))) (tC (.int 48271))) (tOp (uMul) (tC (.int 1009)) (tCB (uLen K) (tCons (tVar 2) (tNil))))) (tC (.int 12345))) (tC (.int 2147483647))) (gName 3))
  (tSeq (tAsg (tOp (uMod) (tOp (uMul) (tCB (uInt) (tCons (tVar 3) (tNil))) (tCB (uInt) (tCons (tVar 3) (tNil)))) (tC (.int 2147483629))) (gName 5))
  (tDrop (tBM K "list" (rAppend) (tVar 2) (tCons (tOp (uMod) (tOp (uDiv) (tCB (uInt) (tCons (tVar 5) (tNil))) (tC (.int 13))) (tVar 4)) (tNil))))))))
  (tRet (tVar 2))))
theorem pure__law_digits {K : PySem.W.Frag} {C : Ex} {vs : List V} {H : Hp} {Q : VK} {E : XK} (F : Fa K C) (h : sp__law_digits K C vs H Q E) : t__law_digits K C E { nx := fun _ H' => Q .non H', rt := Q } (start ["_law_cell_here", "_law_bases", "_law_digits_here", "_law_rest", "_law_base", "_law_mixed"] vs) H := by
  obtain ⟨a, b, rfl, c, q, bs, rfl, rfl, hq, hl, hb, k⟩ := h
  unfold t__law_digits
  walk_at "run1"
  rename_i L hL
  refine f_list (xs := bs.map V.int) (fun i σ H' => ∃ (ds : List Int) (r : Int) (v4 v5 : Option V), σ = [some (.int c), some (.ref q), some (.ref L), some (.int r), v4, v5] ∧ Same H H' ∧ H' L = some (.lst (ds.map V.int)) ∧ DgOk ds (bs.take i))
    ⟨[], c, none, none, rfl, same_new hL, upd_same, rfl, fun i h => by simp at h⟩ (by rintro i σ H' _ ⟨_, _, _, _, _, s, _⟩; exact s.seq hq) ?_ ?_
  · rintro i x σ H1 hx ⟨ds, r, v4, v5, rfl, s1, e1, ok⟩
    obtain ⟨b, hbi, rfl⟩ := at_int hx
    have hb1 := hb b (List.mem_of_getElem? hbi)
    have ldl : ds.length ≤ 1000 := by rw [ok.1, List.length_take]; omega
    have fin : ∀ z : Int, DgOk (ds ++ [z % b]) (bs.take (i + 1)) := fun d => by
      rw [take_snoc hbi]
      exact ok.snoc ⟨Int.emod_nonneg _ (by omega), Int.emod_lt_of_pos _ hb1.1⟩
    walk_at "run1"
    · exact ⟨_, _, _, _, rfl, same_upd s1 hL, upd_same, fin _⟩
    · walk_at "run1"
      exact ⟨_, _, _, _, rfl, same_upd s1 hL, upd_same, fin _⟩
  · rintro σ H1 ⟨ds, r, v4, v5, rfl, s1, e1, ok⟩
    walk_at "run1"
    rw [show (bs.map V.int).length = bs.length from List.length_map .., List.take_length] at ok
    exact k L H1 ds s1 hL e1 ok
/-- digits of a word -/
def dg40 (w : Int) (k : Nat) : Int := w / 40 ^ (10 - k) % 40
/-- a word that some name has -/
def NmW (w : Int) : Bool := decide (w / 40 ^ 11 = 0) && decide (dg40 w 0 ≠ 0) && (List.range 10).all (fun k => decide (dg40 w k ≠ 0 ∨ dg40 w (k + 1) = 0)) && (List.range 11).any (fun k => decide (dg40 w k ≠ 0 ∧ dg40 w k ≠ 37))
/-- the words behind the inode -/
def chkRest (ns : List Int) : Bool :=
  if ns.getD 0 0 = 1 then NmW (ns.getD 3 0) && (decide (1 ≤ ns.getD 4 0 ∧ ns.getD 4 0 ≤ 2) && decide (ns.getD 5 0 ≤ 255))
  else if ns.getD 0 0 = 2 then decide (1 ≤ ns.getD 3 0) && NmW (ns.getD 4 0)
  else if ns.getD 0 0 = 3 ∨ ns.getD 0 0 = 4 then NmW (ns.getD 3 0)
  else if ns.getD 0 0 = 5 then NmW (ns.getD 3 0) && (decide (1 ≤ ns.getD 4 0) && NmW (ns.getD 5 0))
  else if ns.getD 0 0 = 6 then decide (ns.getD 3 0 + (ns.length : Int) - 4 ≤ 2048)
  else if ns.getD 0 0 = 7 then decide (ns.getD 3 0 ≤ 2048)
  else if ns.getD 0 0 = 8 then decide ((1 ≤ ns.getD 4 0 ∧ 1 ≤ ns.getD 6 0) ∧ ns.getD 3 0 + ns.getD 6 0 ≤ 64 ∧ ns.getD 5 0 + ns.getD 6 0 ≤ 64)
  else if ns.getD 0 0 = 9 then decide (ns.getD 3 0 ≤ 255) else true
def szK (k : Int) : Nat := [0, 6, 5, 4, 4, 6, 0, 4, 7, 4, 3].getD k.toNat 0
def chkLen (ns : List Int) : Bool := decide (3 ≤ ns.length ∧ 1 ≤ ns.getD 0 0 ∧ ns.getD 0 0 ≤ 10) && (if ns.getD 0 0 = 6 then decide (5 ≤ ns.length) else decide (ns.length = szK (ns.getD 0 0)))
def chk (ns : List Int) : Bool := chkLen ns && (NmW (ns.getD 1 0) && (decide (1 ≤ ns.getD 2 0) && chkRest ns))
structure IntentR (m : Int) (ns : List Int) : Prop where
  ln : 3 ≤ ns.length ∧ (ns.length : Int) ≤ m + 7
  nn : ∀ z ∈ ns, 0 ≤ z
  ck : chk ns = true
abbrev mainW : Int := 13 * 40 ^ (10 : Int).toNat + 1 * 40 ^ (9 : Int).toNat + 9 * 40 ^ (8 : Int).toNat + 14 * 40 ^ (7 : Int).toNat
theorem nm_main : NmW mainW = true := by decide +kernel
abbrev wsL : List Int := [40 ^ (10 : Int).toNat, 2 * 40 ^ (10 : Int).toNat, 39 * 40 ^ (10 : Int).toNat]
theorem nm_ws {d : Int} (h : 0 ≤ d ∧ d < 3) : NmW (wsL.getD d.toNat 0) = true ∧ 0 ≤ wsL.getD d.toNat 0 := by
  rcases (show d = 0 ∨ d = 1 ∨ d = 2 by omega) with rfl | rfl | rfl
  · exact ⟨by decide +kernel, by decide +kernel⟩
  · exact ⟨by decide +kernel, by decide +kernel⟩
  · exact ⟨by decide +kernel, by decide +kernel⟩
section chks
variable {M i w w2 t u v y : Int} (hM : NmW M = true) (hi : 1 ≤ i)
include hM hi
theorem chk1 (hw : NmW w = true) (ht : 1 ≤ t ∧ t ≤ 2) (hu : u ≤ 255) : chk [1, M, i, w, t, u] = true := by simp [chk, chkLen, chkRest, szK, hM, hi, hw, ht, hu]
theorem chk2 (hw : NmW w = true) (ht : 1 ≤ t) : chk [2, M, i, t, w] = true := by simp [chk, chkLen, chkRest, szK, hM, hi, hw, ht]
theorem chk34 (hw : NmW w = true) (hk : u = 3 ∨ u = 4) : chk [u, M, i, w] = true := by rcases hk with rfl | rfl <;> simp [chk, chkLen, chkRest, szK, hM, hi, hw]
theorem chk5 (hw : NmW w = true) (ht : 1 ≤ t) (hw2 : NmW w2 = true) : chk [5, M, i, w, t, w2] = true := by simp [chk, chkLen, chkRest, szK, hM, hi, hw, ht, hw2]
theorem chk6 {cs : List Int} (hc : 1 ≤ cs.length) (ht : t + (cs.length : Int) ≤ 2048) : chk ([6, M, i, t] ++ cs) = true := by
  have e : t + ((cs.length : Int) + 1 + 1 + 1 + 1) - 4 ≤ 2048 := by omega
  simp [chk, chkLen, chkRest, szK, hM, hi, e]
  omega
theorem chk7 (ht : t ≤ 2048) : chk [7, M, i, t] = true := by simp [chk, chkLen, chkRest, szK, hM, hi, ht]
theorem chk8 (h1 : 1 ≤ u) (h2 : 1 ≤ y) (h3 : t + y ≤ 64) (h4 : v + y ≤ 64) : chk [8, M, i, t, u, v, y] = true := by simp [chk, chkLen, chkRest, szK, hM, hi, h1, h2, h3, h4]
theorem chk9 (ht : t ≤ 255) : chk [9, M, i, t] = true := by simp [chk, chkLen, chkRest, szK, hM, hi, ht]
theorem chk10 : chk [10, M, i] = true := by simp [chk, chkLen, chkRest, szK, hM, hi]
end chks
theorem div_le {a b : Int} (h : 0 ≤ a) (hb : 1 ≤ b) : 0 ≤ a / b ∧ a / b ≤ a := ⟨Int.ediv_nonneg h (by omega), Int.ediv_le_self _ h⟩
theorem w_ixWs {K : PySem.W.Frag} {H : Hp} {Q : VK} {p : Addr} {n : Int} (e : SqL K H p (wsL.map V.int)) (h0 : 0 ≤ n ∧ n < 3) (h : Q (.int (wsL.getD n.toNat 0)) H) : uIx K (.ref p) (.int n) H Q := w_ixI e ⟨h0.1, by show n.toNat < 3; omega⟩ h
local macro_rules | `(tactic| walk_at "x") => `(tactic| ((with_reducible apply w_ixWs); (· walk_at "hk"); (· omega)))
def sp__law_intent (K : PySem.W.Frag) (_ : Ex) : Sp := S2 fun a b H Q _ => ∃ c m : Int, a = .int c ∧ b = .int m ∧ 1 ≤ m ∧ m ≤ 1000 ∧ ∀ p H' ns, Same H H' → H p = none → H' p = some (.tup (ns.map V.int)) → IntentR m ns → Q (.ref p) H'
def t__law_intent (K : PySem.W.Frag) (C : Ex) (E : XK) : TS :=
  tSeq (tAsg (uCall (sp__law_digits K C) (WB E) (tCons (tVar 0) (tCons (tLst (tCons (tC (.int 10)) (tCons (tC (.int 5)) (tCons (tC (.int 3)) (tCons (tC (.int 5)) (tCons (tC (.int 3)) (tCons (tC (.int 2)) (tCons (tC (.int 256)) (tCons (tVar 1) (tCons (tC (.int 2049)) (tCons (tC (.int 61)) (tCons (tC (.int 61)) (tCons (tC (.int 4)) (tCons (tOp (uPow) (tC (.int 10)) (tC (.int 6))) (tNil))))))))))))))) (tNil)))) (gName 2))
  (tSeq (tAsg (tLst (tCons (tOp (uPow) (tC (.int 40)) (tC (.int 10))) (tCons (tOp (uMul) (tC (.int 2)) (tOp (uPow) (tC (.int 40)) (tC (.int 10)))) (tCons (tOp (uMul) (tC (.int 39)) (tOp (uPow) (tC (.int 40)) (tC (.int 10)))) (tNil))))) (gName 3))
  (tSeq (tAsg (tOp (uAdd K) (tC (.int 1)) (tOp (uIx K) (tVar 2) (tC (.int 0)))) (gName 4))
  (tSeq (tAsg (tOp (uAdd K) (tC (.int 1)) (tOp (uIx K) (tVar 2) (tC (.int 1)))) (gName 5))
  (tSeq (tAsg (tOp (uAdd K) (tC (.int 1)) (tOp (uIx K) (tVar 2) (tC (.int 3)))) (gName 6))
  (tSeq (tAsg (tOp (uAdd K) (tOp (uAdd K) (tOp (uAdd K) (tOp (uMul) (tC (.int 13)) (tOp (uPow) (tC (.int 40)) (tC (.int 10)))) (tOp (uMul) (tC (.int 1)) (tOp (uPow) (tC (.int 40)) (tC (.int 9))))) (tOp (uMul) (tC (.int 9)) (tOp (uPow) (tC (.int 40)) (tC (.int 8))))) (tOp (uMul) (tC (.int 14)) (tOp (uPow) (tC (.int 40)) (tC (.int 7))))) (gName 7))
  (tSeq (tIfS (tTest (tOp (uEq K) (tVar 4) (tC (.int 1)))) (tRet (tTup (tCons (tC (.int 1)) (tCons (tVar 7) (tCons (tVar 5) (tCons (tOp (uIx K) (tVar 3) (tOp (uIx K) (tVar 2) (tC (.int 2)))) (tCons (tOp (uAdd K) (tC (.int 1)) (tOp (uIx K) (tVar 2) (tC (.int 5)))) (tCons (tOp (uIx K) (tVar 2) (tC (.int 6))) (tNil))))))))) (tNext))
  (tSeq (tIfS (tTest (tOp (uEq K) (tVar 4) (tC (.int 2)))) (tRet (tTup (tCons (tC (.int 2)) (tCons (tVar 7) (tCons (tVar 5) (tCons (tVar 6) (tCons (tOp (uIx K) (tVar 3) (tOp (uIx K) (tVar 2) (tC (.int 2)))) (tNil)))))))) (tNext))
  (tSeq (tIfS (tOr (tTest (tOp (uEq K) (tVar 4) (tC (.int 3)))) (tTest (tOp (uEq K) (tVar 4) (tC (.int 4))))) (tRet (tTup (tCons (tVar 4) (tCons (tVar 7) (tCons (tVar 5) (tCons (tOp (uIx K) (tVar 3) (tOp (uIx K) (tVar 2) (tC (.int 2)))) (tNil))))))) (tNext))
  (tSeq (tIfS (tTest (tOp (uEq K) (tVar 4) (tC (.int 5)))) (tRet (tTup (tCons (tC (.int 5)) (tCons (tVar 7) (tCons (tVar 5) (tCons (tOp (uIx K) (tVar 3) (tOp (uIx K) (tVar 2) (tC (.int 2)))) (tCons (tVar 6) (tCons (tOp (uIx K) (tVar 3) (tOp (uIx K) (tVar 2) (tC (.int 4)))) (tNil))))))))) (tNext))
  (tSeq (tIfS (tTest (tOp (uEq K) (tVar 4) (tC (.int 6)))) (tSeq (tAsg (tOp (uAdd K) (tC (.int 1)) (tOp (uIx K) (tVar 2) (tC (.int 7)))) (gName 8))
  (tSeq (tAsg (tLc (iRng1 (tCons (tVar 8) (tNil))) (gName 10) (tYes) (tOp (uAdd K) (tOp (uIx K) (tVar 2) (tC (.int 12))) (tOp (uMul) (tVar 10) (tOp (uIx K) (tVar 2) (tC (.int 5))))) [10]) (gName 9))
  (tRet (tCB (uTuple K) (tCons (tOp (uAdd K) (tLst (tCons (tC (.int 6)) (tCons (tVar 7) (tCons (tVar 5) (tCons (tCB (uMin K) (tCons (tOp (uDiv) (tOp (uIx K) (tVar 2) (tC (.int 8))) (tOp (uAdd K) (tC (.int 1)) (tOp (uMul) (tC (.int 15)) (tOp (uIx K) (tVar 2) (tC (.int 5)))))) (tCons (tOp (uSub) (tC (.int 2048)) (tVar 8)) (tNil)))) (tNil)))))) (tVar 9)) (tNil)))))) (tNext))
  (tSeq (tIfS (tTest (tOp (uEq K) (tVar 4) (tC (.int 7)))) (tRet (tTup (tCons (tC (.int 7)) (tCons (tVar 7) (tCons (tVar 5) (tCons (tOp (uDiv) (tOp (uIx K) (tVar 2) (tC (.int 8))) (tOp (uAdd K) (tC (.int 1)) (tOp (uMul) (tC (.int 15)) (tOp (uIx K) (tVar 2) (tC (.int 5)))))) (tNil))))))) (tNext))
  (tSeq (tIfS (tTest (tOp (uEq K) (tVar 4) (tC (.int 8)))) (tRet (tTup (tCons (tC (.int 8)) (tCons (tVar 7) (tCons (tVar 5) (tCons (tOp (uDiv) (tOp (uIx K) (tVar 2) (tC (.int 9))) (tOp (uAdd K) (tC (.int 1)) (tOp (uMul) (tC (.int 9)) (tOp (uIx K) (tVar 2) (tC (.int 5)))))) (tCons (tVar 6) (tCons (tOp (uDiv) (tOp (uIx K) (tVar 2) (tC (.int 10))) (tOp (uAdd K) (tC (.int 1)) (tOp (uMul) (tC (.int 9)) (tOp (uIx K) (tVar 2) (tC (.int 5)))))) (tCons (tOp (uAdd K) (tC (.int 1)) (tOp (uMod) (tOp (uIx K) (tVar 2) (tC (.int 11))) (tC (.int 4)))) (tNil)))))))))) (tNext))
  (tSeq (tIfS (tTest (tOp (uEq K) (tVar 4) (tC (.int 9)))) (tRet (tTup (tCons (tC (.int 9)) (tCons (tVar 7) (tCons (tVar 5) (tCons (tOp (uIx K) (tVar 2) (tC (.int 6))) (tNil))))))) (tNext))
  (tRet (tTup (tCons (tC (.int 10)) (tCons (tVar 7) (tCons (tVar 5) (tNil)))))))))))))))))))
theorem pure__law_intent {K : PySem.W.Frag} {C : Ex} {vs : List V} {H : Hp} {Q : VK} {E : XK} (F : Fa K C) (h : sp__law_intent K C vs H Q E) : t__law_intent K C E { nx := fun _ H' => Q .non H', rt := Q } (start ["_law_cell_here", "_law_most", "_law_digits_here", "_law_words", "_law_kind", "_law_inode", "_law_other", "_law_main", "_law_size", "_law_cells", "_law_k"] vs) H := by
  obtain ⟨a, b, rfl, c, m, rfl, rfl, m0, m1, k⟩ := h
  unfold t__law_intent
  walk_at "run1"
  rename_i bl hbl
  refine w_S2 ⟨c, bl, [10, 5, 3, 5, 3, 2, 256, m, 2049, 61, 61, 4, 10 ^ (6 : Int).toNat], rfl, rfl, SqL.of upd_same, (by show 13 ≤ 1000; decide), fun x hx => ?_, fun dl H1 ds s1 hdl e1 ok => ?_⟩
  · simp only [List.mem_cons, List.not_mem_nil, or_false] at hx
    rcases hx with rfl | rfl | rfl | rfl | rfl | rfl | rfl | rfl | rfl | rfl | rfl | rfl | rfl <;> first | decide | omega
  have ln : ds.length = 13 := ok.1
  have ok2 : ∀ i : Nat, i < 13 → 0 ≤ ds.getD i 0 ∧ ds.getD i 0 < [10, 5, 3, 5, 3, 2, 256, m, 2049, 61, 61, 4, 10 ^ (6 : Int).toNat].getD i 0 := ok.2
  have D0 : 0 ≤ ds.getD (0 : Int).toNat 0 ∧ ds.getD (0 : Int).toNat 0 < 10 := ok2 0 (by decide)
  have D1 : 0 ≤ ds.getD (1 : Int).toNat 0 ∧ ds.getD (1 : Int).toNat 0 < 5 := ok2 1 (by decide)
  have D2 : 0 ≤ ds.getD (2 : Int).toNat 0 ∧ ds.getD (2 : Int).toNat 0 < 3 := ok2 2 (by decide)
  have D3 : 0 ≤ ds.getD (3 : Int).toNat 0 ∧ ds.getD (3 : Int).toNat 0 < 5 := ok2 3 (by decide)
  have D4 : 0 ≤ ds.getD (4 : Int).toNat 0 ∧ ds.getD (4 : Int).toNat 0 < 3 := ok2 4 (by decide)
  have D5 : 0 ≤ ds.getD (5 : Int).toNat 0 ∧ ds.getD (5 : Int).toNat 0 < 2 := ok2 5 (by decide)
  have D6 : 0 ≤ ds.getD (6 : Int).toNat 0 ∧ ds.getD (6 : Int).toNat 0 < 256 := ok2 6 (by decide)
  have D7 : 0 ≤ ds.getD (7 : Int).toNat 0 ∧ ds.getD (7 : Int).toNat 0 < m := ok2 7 (by decide)
  have D8 : 0 ≤ ds.getD (8 : Int).toNat 0 ∧ ds.getD (8 : Int).toNat 0 < 2049 := ok2 8 (by decide)
  have D9 : 0 ≤ ds.getD (9 : Int).toNat 0 ∧ ds.getD (9 : Int).toNat 0 < 61 := ok2 9 (by decide)
  have D10 : 0 ≤ ds.getD (10 : Int).toNat 0 ∧ ds.getD (10 : Int).toNat 0 < 61 := ok2 10 (by decide)
  have D11 : 0 ≤ ds.getD (11 : Int).toNat 0 ∧ ds.getD (11 : Int).toNat 0 < 4 := ok2 11 (by decide)
  have D12 : 0 ≤ ds.getD (12 : Int).toNat 0 ∧ ds.getD (12 : Int).toNat 0 < 1000000 := ok2 12 (by decide)
  have nw2 := nm_ws D2
  have nw4 := nm_ws D4
  have s0 : Same H H1 := (same_new hbl).trans s1
  have hk0 : ∀ wl t xs, H1 wl = none → upd H1 wl (.lst (wsL.map V.int)) t = none → ∀ ns : List Int, ns.map V.int = xs → IntentR m ns → Q (.ref t) (upd (upd H1 wl (.lst (wsL.map V.int))) t (.tup xs)) := fun wl t xs hwl ht ns e r =>
    k t _ ns (same_updN (same_updN s0 hwl) ht) (s0.free (none_of_upd ht).1) (by rw [e]; exact upd_same) r
  have hM : 0 ≤ mainW := by decide +kernel
  have q8 := div_le (b := 1 + 15 * ds.getD (5 : Int).toNat 0) D8.1 (by omega)
  have q9 := div_le (b := 1 + 9 * ds.getD (5 : Int).toNat 0) D9.1 (by omega)
  have q10 := div_le (b := 1 + 9 * ds.getD (5 : Int).toNat 0) D10.1 (by omega)
  walk_at "run1"
  · rename_i wl hwl hk1 t ht
    refine hk0 wl t _ hwl ht [1, mainW, 1 + ds.getD (1 : Int).toNat 0, wsL.getD (ds.getD (2 : Int).toNat 0).toNat 0, 1 + ds.getD (5 : Int).toNat 0, ds.getD (6 : Int).toNat 0] rfl ⟨⟨by show 3 ≤ 6; decide, by show ((6 : Nat) : Int) ≤ _; omega⟩, fun z hz => ?_, chk1 nm_main (by omega) nw2.1 (by omega) (by omega)⟩
    simp only [List.mem_cons, List.not_mem_nil, or_false] at hz
    rcases hz with rfl | rfl | rfl | rfl | rfl | rfl <;> first | decide | omega | exact hM | exact nw2.2
  walk_at "run1"
  · rename_i wl hwl hk1 hk2 t ht
    refine hk0 wl t _ hwl ht [2, mainW, 1 + ds.getD (1 : Int).toNat 0, 1 + ds.getD (3 : Int).toNat 0, wsL.getD (ds.getD (2 : Int).toNat 0).toNat 0] rfl ⟨⟨by show 3 ≤ 5; decide, by show ((5 : Nat) : Int) ≤ _; omega⟩, fun z hz => ?_, chk2 nm_main (by omega) nw2.1 (by omega)⟩
    simp only [List.mem_cons, List.not_mem_nil, or_false] at hz
    rcases hz with rfl | rfl | rfl | rfl | rfl <;> first | decide | omega | exact hM | exact nw2.2
  walk_at "run1"
  · rename_i wl hwl hk1 hk2 hk3 t ht
    refine hk0 wl t _ hwl ht [1 + ds.getD (0 : Int).toNat 0, mainW, 1 + ds.getD (1 : Int).toNat 0, wsL.getD (ds.getD (2 : Int).toNat 0).toNat 0] rfl ⟨⟨by show 3 ≤ 4; decide, by show ((4 : Nat) : Int) ≤ _; omega⟩, fun z hz => ?_, chk34 nm_main (by omega) nw2.1 (.inl hk3)⟩
    simp only [List.mem_cons, List.not_mem_nil, or_false] at hz
    rcases hz with rfl | rfl | rfl | rfl <;> first | decide | omega | exact hM | exact nw2.2
  walk_at "run1"
  · rename_i wl hwl hk1 hk2 hk3 hk4 t ht
    refine hk0 wl t _ hwl ht [1 + ds.getD (0 : Int).toNat 0, mainW, 1 + ds.getD (1 : Int).toNat 0, wsL.getD (ds.getD (2 : Int).toNat 0).toNat 0] rfl ⟨⟨by show 3 ≤ 4; decide, by show ((4 : Nat) : Int) ≤ _; omega⟩, fun z hz => ?_, chk34 nm_main (by omega) nw2.1 (.inr hk4)⟩
    simp only [List.mem_cons, List.not_mem_nil, or_false] at hz
    rcases hz with rfl | rfl | rfl | rfl <;> first | decide | omega | exact hM | exact nw2.2
  walk_at "run1"
  · rename_i wl hwl hk1 hk2 hk3 hk4 hk5 t ht
    refine hk0 wl t _ hwl ht [5, mainW, 1 + ds.getD (1 : Int).toNat 0, wsL.getD (ds.getD (2 : Int).toNat 0).toNat 0, 1 + ds.getD (3 : Int).toNat 0, wsL.getD (ds.getD (4 : Int).toNat 0).toNat 0] rfl ⟨⟨by show 3 ≤ 6; decide, by show ((6 : Nat) : Int) ≤ _; omega⟩, fun z hz => ?_, chk5 nm_main (by omega) nw2.1 (by omega) nw4.1⟩
    simp only [List.mem_cons, List.not_mem_nil, or_false] at hz
    rcases hz with rfl | rfl | rfl | rfl | rfl | rfl <;> first | decide | omega | exact hM | exact nw2.2 | exact nw4.2
  walk_at "run1"
  · rename_i wl hwl hk1 hk2 hk3 hk4 hk5 hk6
    have s2 : Same H1 (upd H1 wl (.lst (wsL.map V.int))) := same_new hwl
    have e2 := upd_old (o := .lst (wsL.map V.int)) e1 hwl
    have hkz : ∀ t ns H', Same (upd H1 wl (.lst (wsL.map V.int))) H' → H' t = none → IntentR m ns → Q (.ref t) (upd H' t (.tup (ns.map V.int))) := fun t ns H' s' ht r => k t _ ns (same_updN (s0.trans (s2.trans s')) ht) (s0.free (s2.free (s'.free ht))) upd_same r
    refine l_range (fun D i H' => Same (upd H1 wl (.lst (wsL.map V.int))) H' ∧ H' D = some (.lst (((List.range i).map fun j : Nat => ds.getD (12 : Int).toNat 0 + (j : Int) * ds.getD (5 : Int).toNat 0).map V.int))) (fun D hD => ⟨same_new hD, upd_same⟩) ?_ ?_
    · rintro D i H3 hD hi ⟨s3, e3⟩
      have hi : i < (1 + ds.getD (7 : Int).toNat 0).toNat := hi
      have e23 := s3 _ _ e2
      walk_at "run1"
      refine ⟨rfl, ?_⟩
      walk_at "run1"
      refine ⟨_, e3, by rw [List.length_map, List.length_map, List.length_range]; exact lt_line (by omega), same_upd s3 hD, ?_⟩
      rw [upd_same, List.range_succ, List.map_append, List.map_append, Int.zero_add]
      rfl
    · rintro D H3 hD ⟨s3, e3⟩
      have e23 := s3 _ _ e2
      walk_at "run1"
      rename_i l hl
      have e3l := upd_old (o := .lst [.int 6, .int mainW, .int (1 + ds.getD (1 : Int).toNat 0), .int (if 2048 - (1 + ds.getD (7 : Int).toNat 0) < ds.getD (8 : Int).toNat 0 / (1 + 15 * ds.getD (5 : Int).toNat 0) then 2048 - (1 + ds.getD (7 : Int).toNat 0) else ds.getD (8 : Int).toNat 0 / (1 + 15 * ds.getD (5 : Int).toNat 0))]) e3 hl
      have s4 := same_updN (o := .lst [.int 6, .int mainW, .int (1 + ds.getD (1 : Int).toNat 0), .int (if 2048 - (1 + ds.getD (7 : Int).toNat 0) < ds.getD (8 : Int).toNat 0 / (1 + 15 * ds.getD (5 : Int).toNat 0) then 2048 - (1 + ds.getD (7 : Int).toNat 0) else ds.getD (8 : Int).toNat 0 / (1 + 15 * ds.getD (5 : Int).toNat 0))]) s3 hl
      have hcl : (List.map (fun j : Nat => ds.getD (12 : Int).toNat 0 + (j : Int) * ds.getD (5 : Int).toNat 0) (List.range (1 + ds.getD (7 : Int).toNat 0).toNat)).length = (1 + ds.getD (7 : Int).toNat 0).toNat := by rw [List.length_map, List.length_range]
      have hcn : ∀ z ∈ List.map (fun j : Nat => ds.getD (12 : Int).toNat 0 + (j : Int) * ds.getD (5 : Int).toNat 0) (List.range (1 + ds.getD (7 : Int).toNat 0).toNat), 0 ≤ z := fun z hz => by
        obtain ⟨j, _, rfl⟩ := List.mem_map.mp hz
        have := Int.mul_nonneg (Int.natCast_nonneg j) D5.1
        omega
      have e4 : upd H3 l (.lst [.int 6, .int mainW, .int (1 + ds.getD (1 : Int).toNat 0), .int (if 2048 - (1 + ds.getD (7 : Int).toNat 0) < ds.getD (8 : Int).toNat 0 / (1 + 15 * ds.getD (5 : Int).toNat 0) then 2048 - (1 + ds.getD (7 : Int).toNat 0) else ds.getD (8 : Int).toNat 0 / (1 + 15 * ds.getD (5 : Int).toNat 0))]) l = some (.lst ([6, mainW, 1 + ds.getD (1 : Int).toNat 0, if 2048 - (1 + ds.getD (7 : Int).toNat 0) < ds.getD (8 : Int).toNat 0 / (1 + 15 * ds.getD (5 : Int).toNat 0) then 2048 - (1 + ds.getD (7 : Int).toNat 0) else ds.getD (8 : Int).toNat 0 / (1 + 15 * ds.getD (5 : Int).toNat 0)].map V.int)) := upd_same
      generalize upd H3 l _ = H4 at *
      generalize List.map (fun j : Nat => ds.getD (12 : Int).toNat 0 + (j : Int) * ds.getD (5 : Int).toNat 0) (List.range (1 + ds.getD (7 : Int).toNat 0).toNat) = cs at *
      have ht : ∀ t : Int, t = (if 2048 - (1 + ds.getD (7 : Int).toNat 0) < ds.getD (8 : Int).toNat 0 / (1 + 15 * ds.getD (5 : Int).toNat 0) then 2048 - (1 + ds.getD (7 : Int).toNat 0) else ds.getD (8 : Int).toNat 0 / (1 + 15 * ds.getD (5 : Int).toNat 0)) → 0 ≤ t ∧ t + (1 + ds.getD (7 : Int).toNat 0) ≤ 2048 := fun t e => by
        rw [e]
        split <;> omega
      generalize (if 2048 - (1 + ds.getD (7 : Int).toNat 0) < ds.getD (8 : Int).toNat 0 / (1 + 15 * ds.getD (5 : Int).toNat 0) then 2048 - (1 + ds.getD (7 : Int).toNat 0) else ds.getD (8 : Int).toNat 0 / (1 + 15 * ds.getD (5 : Int).toNat 0)) = tt at *
      have ht := ht tt rfl
      refine w_cat e4 e3l (by rw [List.length_map, List.length_map, hcl]; show 4 + _ ≤ _; omega) fun l2 hl2 => ?_
      rw [← List.map_append]
      walk_at "run1"
      refine w_ttupL (SqL.of upd_same) fun t hlt => ?_
      refine hkz t ([6, mainW, 1 + ds.getD (1 : Int).toNat 0, tt] ++ cs) _ (same_updN s4 hl2) hlt ⟨⟨by rw [List.length_append]; show 3 ≤ 4 + _; omega, by rw [List.length_append, hcl]; show ((4 + _ : Nat) : Int) ≤ _; omega⟩, fun z hz => ?_, chk6 nm_main (by omega) (by omega) (by omega)⟩
      rcases List.mem_append.mp hz with hz | hz
      · simp only [List.mem_cons, List.not_mem_nil, or_false] at hz
        rcases hz with rfl | rfl | rfl | rfl <;> first | decide | omega | exact hM
      · exact hcn z hz
  walk_at "run1"
  · rename_i wl hwl hk1 hk2 hk3 hk4 hk5 hk6 hk7 t ht
    refine hk0 wl t _ hwl ht [7, mainW, 1 + ds.getD (1 : Int).toNat 0, ds.getD (8 : Int).toNat 0 / (1 + 15 * ds.getD (5 : Int).toNat 0)] rfl ⟨⟨by show 3 ≤ 4; decide, by show ((4 : Nat) : Int) ≤ _; omega⟩, fun z hz => ?_, chk7 nm_main (by omega) (by omega)⟩
    simp only [List.mem_cons, List.not_mem_nil, or_false] at hz
    rcases hz with rfl | rfl | rfl | rfl <;> first | decide | omega | exact hM
  walk_at "run1"
  · rename_i wl hwl hk1 hk2 hk3 hk4 hk5 hk6 hk7 hk8 t ht
    refine hk0 wl t _ hwl ht [8, mainW, 1 + ds.getD (1 : Int).toNat 0, ds.getD (9 : Int).toNat 0 / (1 + 9 * ds.getD (5 : Int).toNat 0), 1 + ds.getD (3 : Int).toNat 0, ds.getD (10 : Int).toNat 0 / (1 + 9 * ds.getD (5 : Int).toNat 0), 1 + ds.getD (11 : Int).toNat 0 % 4] rfl ⟨⟨by show 3 ≤ 7; decide, by show ((7 : Nat) : Int) ≤ _; omega⟩, fun z hz => ?_, chk8 nm_main (by omega) (by omega) (by omega) (by omega) (by omega)⟩
    simp only [List.mem_cons, List.not_mem_nil, or_false] at hz
    rcases hz with rfl | rfl | rfl | rfl | rfl | rfl | rfl <;> first | decide | omega | exact hM
  walk_at "run1"
  · rename_i wl hwl hk1 hk2 hk3 hk4 hk5 hk6 hk7 hk8 hk9 t ht
    refine hk0 wl t _ hwl ht [9, mainW, 1 + ds.getD (1 : Int).toNat 0, ds.getD (6 : Int).toNat 0] rfl ⟨⟨by show 3 ≤ 4; decide, by show ((4 : Nat) : Int) ≤ _; omega⟩, fun z hz => ?_, chk9 nm_main (by omega) (by omega)⟩
    simp only [List.mem_cons, List.not_mem_nil, or_false] at hz
    rcases hz with rfl | rfl | rfl | rfl <;> first | decide | omega | exact hM
  walk_at "run1"
  · rename_i wl hwl hk1 hk2 hk3 hk4 hk5 hk6 hk7 hk8 hk9 t ht
    refine hk0 wl t _ hwl ht [10, mainW, 1 + ds.getD (1 : Int).toNat 0] rfl ⟨⟨by show 3 ≤ 3; decide, by show ((3 : Nat) : Int) ≤ _; omega⟩, fun z hz => ?_, chk10 nm_main (by omega)⟩
    simp only [List.mem_cons, List.not_mem_nil, or_false] at hz
    rcases hz with rfl | rfl | rfl <;> first | decide | omega | exact hM
def IntsLit : List (Int × Int) → List DictEntry → Prop
  | [], [] => True
  | (k, v) :: r, e :: es => ((∃ t, e.key = .int k t) ∧ e.hash = hashInt k ∧ ∃ t, e.val = .int v t) ∧ IntsLit r es
  | _, _ => False
theorem IntsLit.all : ∀ {kvs : List (Int × Int)} {es : List DictEntry}, IntsLit kvs es → ∀ e ∈ es, ∃ k t, e.key = .int k t ∧ e.hash = hashInt k
  | [], [], _, _, h => nomatch h
  | _ :: _, [], h, _, _ => h.elim
  | [], _ :: _, h, _, _ => h.elim
  | (k, v) :: r, e :: es, h, e', m => by
    obtain ⟨⟨⟨t, a⟩, b, c⟩, d⟩ := h
    rcases List.mem_cons.mp m with rfl | m
    · exact ⟨k, t, a, b⟩
    · exact IntsLit.all d e' m
theorem IntsLit.find : ∀ {kvs : List (Int × Int)} {es : List DictEntry}, IntsLit kvs es → ∀ {k v : Int}, kvs.lookup k = some v → ∃ t, ((es.find? fun e => Value.isInt k e.key).map (·.val)) = some (.int v t)
  | [], [], _, _, _, e => nomatch e
  | _ :: _, [], h, _, _, _ => h.elim
  | [], _ :: _, h, _, _, _ => h.elim
  | (k', v') :: r, e :: es, h, k, v, l => by
    obtain ⟨⟨⟨t, a⟩, b, ⟨t', c⟩⟩, d⟩ := h
    rw [List.lookup_cons] at l
    rw [List.find?_cons, a]
    by_cases q : k = k'
    · subst q
      rw [beq_self_eq_true] at l
      cases l
      have z : Value.isInt k (.int k t) = true := by simp [Value.isInt]
      rw [z]
      exact ⟨t', by rw [← c]; rfl⟩
    · have z : Value.isInt k (.int k' t) = false := by simp [Value.isInt]; exact fun e => q e.symm
      rw [z]
      rw [show (k == k') = false from by simp [q]] at l
      exact IntsLit.find d l
def KDI (K : PySem.W.Frag) (a : Addr) (kvs : List (Int × Int)) : Prop := ∃ es n, K.lookup a = some ⟨.type "dict", none, .dict es n, #[]⟩ ∧ IntsLit kvs es.toList
def uKI (a : Addr) (kvs : List (Int × Int)) : R2 := fun x y H Q => x = .ref a ∧ ∃ i v, y = .int i ∧ kvs.lookup i = some v ∧ Q (.int v) H
section
variable {X : Cx} {a : Addr} {kvs : List (Int × Int)}
theorem ix_ki (h : KDI X.K a kvs) : IxR X (uKI a kvs) := by
  intro value slice pins s σ H x y v u Q I rx ry q hs
  obtain ⟨rfl, i, r, rfl, l, q⟩ := q
  obtain ⟨es, n, hl, hk⟩ := h
  obtain rfl : v = Value.ref a := rx
  obtain ⟨t, rfl⟩ := ry
  have hm : s.heap.MapOf (intKind X.prog X.w) a (fun k => findBy Value.isInt es k) := Heap.IntMap.mapOf ⟨_, es, n, I.kIn _ _ hl, rfl, rfl, fun e he => hk.all e (Array.mem_toList_iff.mpr he), fun _ => rfl⟩ fun o ho => by
    rw [I.kIn _ _ hl] at ho
    cases ho
    exact ⟨rfl, rfl⟩
  obtain ⟨t', e⟩ := hk.find l
  have e' : findBy Value.isInt es i = some (.int r t') := by
    obtain ⟨l⟩ := es
    unfold findBy
    rw [List.find?_toArray]
    exact e
  exact PyProof.Rows.tail_any hm.typeIs slot_dict_getitem.lookup (wpAny_getItem_of (intKind_is X.prog X.w i t) hm e' ⟨.int r, H, I.tok _, ⟨t', rfl⟩, q⟩) hs
theorem e_ki {x y : Expr} {ta tb : TE} {pos : Pos} (h : KDI X.K a kvs) (ha : PE X x ta) (hb : PE X y tb) (hs : PlainIx y := by exact fun _ _ => rfl) : PE X (.Subscript x y pos) (tOp (uKI a kvs) ta tb) := pe_ix (ix_ki h) ha hb hs
end
theorem w_ki {H : Hp} {Q : VK} {a : Addr} {kvs : List (Int × Int)} {i v : Int} (l : kvs.lookup i = some v) (h : Q (.int v) H) : uKI a kvs (.ref a) (.int i) H Q := ⟨rfl, i, v, rfl, l, h⟩
theorem ix46 : ix 46 = 36 := by decide +kernel
theorem nm_told {w : Int} (hp : ∀ k, k < 10 → dgW w k ≠ 0 ∨ dgW w (k + 1) = 0) : ∀ i, i ≤ 11 → ∃ l, Told w l i ∧ (l.length = i ∨ (l.length < i ∧ ∀ k, l.length ≤ k → k < 11 → dgW w k = 0))
  | 0, _ => ⟨[], .zero, .inl rfl⟩
  | i + 1, h => by
    obtain ⟨l, t, q⟩ := nm_told hp i (by omega)
    rcases q with q | ⟨q, z⟩
    · by_cases e : dgW w i = 0
      · refine ⟨l, t.skip e, .inr ⟨by omega, fun k h1 h2 => ?_⟩⟩
        have key : ∀ d, i + d < 11 → dgW w (i + d) = 0 := fun d => by
          induction d with
          | zero => intro _; exact e
          | succ d ih =>
            intro hd
            rcases hp (i + d) (by omega) with x | x
            · exact absurd (ih (by omega)) x
            · exact x
        have := key (k - i) (by omega)
        rw [show i + (k - i) = k by omega] at this
        exact this
      · exact ⟨_, t.put q e, .inl (by rw [List.length_append, q]; rfl)⟩
    · exact ⟨l, t.skip (z i (by omega) (by omega)), .inr ⟨by omega, z⟩⟩
theorem nm_iff (w : Int) : NmW w = true ↔ ∃ l, isName l ∧ nameW l = w := by
  have e1 : NmW w = true ↔ w / 40 ^ 11 = 0 ∧ dgW w 0 ≠ 0 ∧ (∀ k, k < 10 → dgW w k ≠ 0 ∨ dgW w (k + 1) = 0) ∧ ∃ k, k < 11 ∧ dgW w k ≠ 0 ∧ dgW w k ≠ 37 := by
    show (decide _ && decide _ && _ && _) = true ↔ _
    rw [Bool.and_eq_true, Bool.and_eq_true, Bool.and_eq_true, decide_eq_true_eq, decide_eq_true_eq, List.all_eq_true, List.any_eq_true]
    constructor
    · rintro ⟨⟨⟨a, b⟩, c⟩, k, hk, d⟩
      exact ⟨a, b, fun k hk => of_decide_eq_true (c k (List.mem_range.mpr hk)), k, List.mem_range.mp hk, of_decide_eq_true d⟩
    · rintro ⟨a, b, c, k, hk, d⟩
      exact ⟨⟨⟨a, b⟩, fun k hk => decide_eq_true (c k (List.mem_range.mp hk))⟩, k, List.mem_range.mpr hk, decide_eq_true d⟩
  rw [e1]
  constructor
  · rintro ⟨a, b, c, k, hk, d1, d2⟩
    obtain ⟨l, t, q⟩ := nm_told c 11 (Nat.le_refl _)
    refine ⟨l, (isName_of t.len t.all).mpr fun e => ?_, t.yes a⟩
    have z := t.dg k hk
    rw [z] at d1 d2
    have hl : k < l.length := by
      rcases Nat.lt_or_ge k l.length with h | h
      · exact h
      · exact absurd (dgN_end h) d1
    have hc := List.count_eq_length.mp e _ (List.getElem_mem hl)
    rw [dgN_at (List.getElem?_eq_getElem hl), ← hc, ix46] at d2
    exact d2 rfl
  · rintro ⟨l, hl, rfl⟩
    obtain ⟨d, _, _⟩ := name_dg hl
    refine ⟨name_div hl, ?_, fun k hk => ?_, ?_⟩
    · rw [d 0 (by omega)]
      have := dgN_pos hl.2.1 hl.1.1
      omega
    · rw [d k (by omega), d (k + 1) (by omega)]
      rcases Nat.lt_or_ge k l.length with h | h
      · have := dgN_pos hl.2.1 h
        exact .inl (by omega)
      · exact .inr (dgN_end (by omega))
    · have ne := hl.2.2
      have : ∃ k, ∃ h : k < l.length, l[k] ≠ 46 := by
        apply Classical.byContradiction
        intro q
        refine ne (List.count_eq_length.mpr fun b hb => ?_)
        obtain ⟨k, hk, e⟩ := List.getElem_of_mem hb
        apply Classical.byContradiction
        intro x
        exact q ⟨k, hk, fun y => x (by rw [← e, y])⟩
      obtain ⟨k, hk, x⟩ := this
      have hm := hl.2.1 _ (List.getElem_mem hk)
      refine ⟨k, by have := hl.1.2; omega, ?_, ?_⟩
      · rw [d k (by have := hl.1.2; omega)]
        have := dgN_pos hl.2.1 hk
        omega
      · rw [d k (by have := hl.1.2; omega), dgN_at (List.getElem?_eq_getElem hk)]
        intro e
        exact x (ixc_inj hm (by decide) (by rw [ix46]; omega))
def sp_is_name (K : PySem.W.Frag) (_ : Ex) : Sp := S1 fun a H Q _ => ∃ w : Int, a = .int w ∧ ∀ H', Same H H' → Q (.bl (NmW w)) H'
def t_is_name (K : PySem.W.Frag) (C : Ex) (E : XK) : TS :=
  tSeq (uTry K (.ref C.BadName) (fun W => tDrop (uCall (sp_word_name K C) W (tCons (tVar 0) (tNil)))) (fun a cls d => tRet (tC (.bl false))) (WB E))
  (tRet (tC (.bl true)))
theorem pure_is_name {K : PySem.W.Frag} {C : Ex} {vs : List V} {H : Hp} {Q : VK} {E : XK} (F : Fa K C) (h : sp_is_name K C vs H Q E) : t_is_name K C E { nx := fun _ H' => Q .non H', rt := Q } (start ["word"] vs) H := by
  obtain ⟨a, rfl, w, rfl, k⟩ := h
  unfold t_is_name
  walk_at "run1"
  refine w_S1 ⟨w, rfl, fun H' s => ⟨fun l hl e => ?_, fun hn => ?_⟩⟩
  · walk_at "run1"
    rw [show true = NmW w from ((nm_iff w).mpr ⟨l, hl, e⟩).symm]
    exact k H' s
  · walk_at "run1"
    have z : NmW w = false := by
      cases e : NmW w with
      | false => rfl
      | true =>
        obtain ⟨l, hl, e⟩ := (nm_iff w).mp e
        exact absurd e (hn l hl)
    rw [← z]
    exact k H' s
theorem in12 (z : Int) : inV (.int z) [.int 1, .int 2] = decide (1 ≤ z ∧ z ≤ 2) := by
  rw [Bool.eq_iff_iff]
  unfold inV
  simp [eqV]
  omega
theorem chk_sz {ns : List Int} (h : chkLen ns = true) : (3 ≤ ns.length ∧ 1 ≤ ns.getD 0 0 ∧ ns.getD 0 0 ≤ 10) ∧ (ns.getD 0 0 = 6 → 5 ≤ ns.length) ∧ (ns.getD 0 0 ≠ 6 → ns.length = szK (ns.getD 0 0)) := by
  obtain ⟨a, b⟩ := Bool.and_eq_true_iff.mp h
  refine ⟨of_decide_eq_true a, fun e => ?_, fun e => ?_⟩
  · rw [if_pos e] at b
    exact of_decide_eq_true b
  · rw [if_neg e] at b
    exact of_decide_eq_true b
theorem list3 {ns : List Int} (h : ns.length = 3) : ∃ a b c, ns = [a, b, c] := match ns, h with | [a, b, c], _ => ⟨a, b, c, rfl⟩
theorem list4 {ns : List Int} (h : ns.length = 4) : ∃ a b c d, ns = [a, b, c, d] := match ns, h with | [a, b, c, d], _ => ⟨a, b, c, d, rfl⟩
theorem list5 {ns : List Int} (h : ns.length = 5) : ∃ a b c d e, ns = [a, b, c, d, e] := match ns, h with | [a, b, c, d, e], _ => ⟨a, b, c, d, e, rfl⟩
theorem list6 {ns : List Int} (h : ns.length = 6) : ∃ a b c d e f, ns = [a, b, c, d, e, f] := match ns, h with | [a, b, c, d, e, f], _ => ⟨a, b, c, d, e, f, rfl⟩
theorem list7 {ns : List Int} (h : ns.length = 7) : ∃ a b c d e f g, ns = [a, b, c, d, e, f, g] := match ns, h with | [a, b, c, d, e, f, g], _ => ⟨a, b, c, d, e, f, g, rfl⟩
theorem list5up {ns : List Int} (h : 5 ≤ ns.length) : ∃ a b c d e r, ns = a :: b :: c :: d :: e :: r := match ns, h with | a :: b :: c :: d :: e :: r, _ => ⟨a, b, c, d, e, r, rfl⟩
/-- the ten forms -/
def Forms (ns : List Int) : Prop := (∃ b c d e f, ns = [1, b, c, d, e, f]) ∨ (∃ b c d e, ns = [2, b, c, d, e]) ∨ (∃ b c d, ns = [3, b, c, d]) ∨ (∃ b c d, ns = [4, b, c, d]) ∨ (∃ b c d e f, ns = [5, b, c, d, e, f]) ∨ (∃ b c d e r, ns = 6 :: b :: c :: d :: e :: r) ∨ (∃ b c d, ns = [7, b, c, d]) ∨ (∃ b c d e f g, ns = [8, b, c, d, e, f, g]) ∨ (∃ b c d, ns = [9, b, c, d]) ∨ (∃ b c, ns = [10, b, c])
theorem forms {ns : List Int} (h : chkLen ns = true) : Forms ns := by
  obtain ⟨⟨l3, k1, k10⟩, h6, hsz⟩ := chk_sz h
  have hk : ns.getD 0 0 = 1 ∨ ns.getD 0 0 = 2 ∨ ns.getD 0 0 = 3 ∨ ns.getD 0 0 = 4 ∨ ns.getD 0 0 = 5 ∨ ns.getD 0 0 = 6 ∨ ns.getD 0 0 = 7 ∨ ns.getD 0 0 = 8 ∨ ns.getD 0 0 = 9 ∨ ns.getD 0 0 = 10 := by omega
  unfold Forms
  rcases hk with e | e | e | e | e | e | e | e | e | e
  · rw [e] at hsz
    obtain ⟨a, b, c, d, f, g, rfl⟩ := list6 (hsz (by decide))
    have e : a = 1 := e
    subst e
    exact .inl ⟨_, _, _, _, _, rfl⟩
  · rw [e] at hsz
    obtain ⟨a, b, c, d, f, rfl⟩ := list5 (hsz (by decide))
    have e : a = 2 := e
    subst e
    exact .inr (.inl ⟨_, _, _, _, rfl⟩)
  · rw [e] at hsz
    obtain ⟨a, b, c, d, rfl⟩ := list4 (hsz (by decide))
    have e : a = 3 := e
    subst e
    exact .inr (.inr (.inl ⟨_, _, _, rfl⟩))
  · rw [e] at hsz
    obtain ⟨a, b, c, d, rfl⟩ := list4 (hsz (by decide))
    have e : a = 4 := e
    subst e
    exact .inr (.inr (.inr (.inl ⟨_, _, _, rfl⟩)))
  · rw [e] at hsz
    obtain ⟨a, b, c, d, f, g, rfl⟩ := list6 (hsz (by decide))
    have e : a = 5 := e
    subst e
    exact .inr (.inr (.inr (.inr (.inl ⟨_, _, _, _, _, rfl⟩))))
  · obtain ⟨a, b, c, d, f, r, rfl⟩ := list5up (h6 e)
    have e : a = 6 := e
    subst e
    exact .inr (.inr (.inr (.inr (.inr (.inl ⟨_, _, _, _, _, rfl⟩)))))
  · rw [e] at hsz
    obtain ⟨a, b, c, d, rfl⟩ := list4 (hsz (by decide))
    have e : a = 7 := e
    subst e
    exact .inr (.inr (.inr (.inr (.inr (.inr (.inl ⟨_, _, _, rfl⟩))))))
  · rw [e] at hsz
    obtain ⟨a, b, c, d, f, g, i, rfl⟩ := list7 (hsz (by decide))
    have e : a = 8 := e
    subst e
    exact .inr (.inr (.inr (.inr (.inr (.inr (.inr (.inl ⟨_, _, _, _, _, _, rfl⟩)))))))
  · rw [e] at hsz
    obtain ⟨a, b, c, d, rfl⟩ := list4 (hsz (by decide))
    have e : a = 9 := e
    subst e
    exact .inr (.inr (.inr (.inr (.inr (.inr (.inr (.inr (.inl ⟨_, _, _, rfl⟩))))))))
  · rw [e] at hsz
    obtain ⟨a, b, c, rfl⟩ := list3 (hsz (by decide))
    have e : a = 10 := e
    subst e
    exact .inr (.inr (.inr (.inr (.inr (.inr (.inr (.inr (.inr ⟨_, _, rfl⟩))))))))
local macro_rules | `(tactic| walk_at "lit") => `(tactic| (walk_at "run1"; repeat ((exfalso; omega); walk_at "run1")))
def sp_check_words (K : PySem.W.Frag) (_ : Ex) : Sp := S1 fun a H Q _ => ∃ (p : Addr) (ns : List Int), a = .ref p ∧ SqT K H p (ns.map V.int) ∧ chkLen ns = true ∧ ∀ H', Same H H' → Q (.bl (chkRest ns)) H'
def t_check_words (K : PySem.W.Frag) (C : Ex) (E : XK) : TS :=
  tSeq (tAsg (tOp (uIx K) (tVar 0) (tC (.int 0))) (gName 1))
  (tSeq (tIfS (tTest (tOp (uEq K) (tVar 1) (tC (.int 1)))) (tRet (tAndV (uCall (sp_is_name K C) (WB E) (tCons (tOp (uIx K) (tVar 0) (tC (.int 3))) (tNil))) (tAndV (tOp (uIn K) (tOp (uIx K) (tVar 0) (tC (.int 4))) (tTup (tCons (tC (.int 1)) (tCons (tC (.int 2)) (tNil))))) (tOp (uLe K) (tOp (uIx K) (tVar 0) (tC (.int 5))) (tC (.int 255)))))) (tNext))
  (tSeq (tIfS (tTest (tOp (uEq K) (tVar 1) (tC (.int 2)))) (tRet (tAndV (tOp (uGe K) (tOp (uIx K) (tVar 0) (tC (.int 3))) (tC (.int 1))) (uCall (sp_is_name K C) (WB E) (tCons (tOp (uIx K) (tVar 0) (tC (.int 4))) (tNil))))) (tNext))
  (tSeq (tIfS (tOr (tTest (tOp (uEq K) (tVar 1) (tC (.int 3)))) (tTest (tOp (uEq K) (tVar 1) (tC (.int 4))))) (tRet (uCall (sp_is_name K C) (WB E) (tCons (tOp (uIx K) (tVar 0) (tC (.int 3))) (tNil)))) (tNext))
  (tSeq (tIfS (tTest (tOp (uEq K) (tVar 1) (tC (.int 5)))) (tRet (tAndV (uCall (sp_is_name K C) (WB E) (tCons (tOp (uIx K) (tVar 0) (tC (.int 3))) (tNil))) (tAndV (tOp (uGe K) (tOp (uIx K) (tVar 0) (tC (.int 4))) (tC (.int 1))) (uCall (sp_is_name K C) (WB E) (tCons (tOp (uIx K) (tVar 0) (tC (.int 5))) (tNil)))))) (tNext))
  (tSeq (tIfS (tTest (tOp (uEq K) (tVar 1) (tC (.int 6)))) (tRet (tOp (uLe K) (tOp (uSub) (tOp (uAdd K) (tOp (uIx K) (tVar 0) (tC (.int 3))) (tCB (uLen K) (tCons (tVar 0) (tNil)))) (tC (.int 4))) (tC (.int 2048)))) (tNext))
  (tSeq (tIfS (tTest (tOp (uEq K) (tVar 1) (tC (.int 7)))) (tRet (tOp (uLe K) (tOp (uIx K) (tVar 0) (tC (.int 3))) (tC (.int 2048)))) (tNext))
  (tSeq (tIfS (tTest (tOp (uEq K) (tVar 1) (tC (.int 8)))) (tSeq (tAsg (tOp (uSub) (tOp (uDiv) (tC (.int 2048)) (tC (.int 32))) (tOp (uIx K) (tVar 0) (tC (.int 6)))) (gName 2))
  (tRet (tAndV (tOp (uGe K) (tOp (uIx K) (tVar 0) (tC (.int 4))) (tC (.int 1))) (tAndV (tOp (uGe K) (tOp (uIx K) (tVar 0) (tC (.int 6))) (tC (.int 1))) (tAndV (tOp (uLe K) (tOp (uIx K) (tVar 0) (tC (.int 3))) (tVar 2)) (tOp (uLe K) (tOp (uIx K) (tVar 0) (tC (.int 5))) (tVar 2))))))) (tNext))
  (tRet (tOrV (tOp (uEq K) (tVar 1) (tC (.int 10))) (tOp (uLe K) (tOp (uIx K) (tVar 0) (tC (.int 3))) (tC (.int 255))))))))))))
theorem pure_check_words {K : PySem.W.Frag} {C : Ex} {vs : List V} {H : Hp} {Q : VK} {E : XK} (F : Fa K C) (h : sp_check_words K C vs H Q E) : t_check_words K C E { nx := fun _ H' => Q .non H', rt := Q } (start ["words", "kind", "most"] vs) H := by
  obtain ⟨a, rfl, p, ns, rfl, hp, hc, k⟩ := h
  have s0 := L2.Same.refl H
  have fm := forms hc
  clear hc
  unfold t_check_words
  rcases fm with ⟨b, c, d, e, f, rfl⟩ | ⟨b, c, d, e, rfl⟩ | ⟨b, c, d, rfl⟩ | ⟨b, c, d, rfl⟩ | ⟨b, c, d, e, f, rfl⟩ | ⟨b, c, d, e, r, rfl⟩ | ⟨b, c, d, rfl⟩ | ⟨b, c, d, e, f, g, rfl⟩ | ⟨b, c, d, rfl⟩ | ⟨b, c, rfl⟩
  · have hp : SqT K H p [.int 1, .int b, .int c, .int d, .int e, .int f] := hp
    have k : ∀ H', Same H H' → Q (.bl (NmW d && (decide (1 ≤ e ∧ e ≤ 2) && decide (f ≤ 255)))) H' := k
    walk_at "lit"
    refine w_S1 ⟨_, rfl, fun H1 s1 => ?_⟩
    have hp1 := U.Same.sqt s1 hp
    walk_at "run1"
    refine ifB (fun h => ?_) (fun h => ?_)
    · rw [h] at k
      walk_at "run1"
      rename_i t ht
      refine .inl ⟨_, .inr (SqT.of upd_same), rfl, rfl, ?_⟩
      rw [in12]
      have hp2 := sqt_old (o := .tup [.int 1, .int 2]) hp1 ht
      have s2 := same_updN (o := .tup [.int 1, .int 2]) s1 ht
      generalize upd H1 t _ = H2 at *
      walk_at "run1"
      · rename_i h2
        rw [decide_eq_true h2] at k
        walk_at "run1"
        exact k _ s2
      · walk_at "run1"
        rename_i h2
        rw [decide_eq_false h2] at k
        exact k _ s2
    · rw [h] at k
      walk_at "run1"
      exact k _ s1
  · have hp : SqT K H p [.int 2, .int b, .int c, .int d, .int e] := hp
    have k : ∀ H', Same H H' → Q (.bl (decide (1 ≤ d) && NmW e)) H' := k
    walk_at "lit"
    · rename_i h2
      rw [decide_eq_true h2] at k
      walk_at "run1"
      refine w_S1 ⟨_, rfl, fun H1 s1 => ?_⟩
      walk_at "run1"
      exact k _ s1
    · walk_at "run1"
      rename_i h2
      rw [decide_eq_false h2] at k
      exact k _ s0
  · have hp : SqT K H p [.int 3, .int b, .int c, .int d] := hp
    have k : ∀ H', Same H H' → Q (.bl (NmW d)) H' := k
    walk_at "lit"
    refine w_S1 ⟨_, rfl, fun H1 s1 => ?_⟩
    walk_at "run1"
    exact k _ s1
  · have hp : SqT K H p [.int 4, .int b, .int c, .int d] := hp
    have k : ∀ H', Same H H' → Q (.bl (NmW d)) H' := k
    walk_at "lit"
    refine w_S1 ⟨_, rfl, fun H1 s1 => ?_⟩
    walk_at "run1"
    exact k _ s1
  · have hp : SqT K H p [.int 5, .int b, .int c, .int d, .int e, .int f] := hp
    have k : ∀ H', Same H H' → Q (.bl (NmW d && (decide (1 ≤ e) && NmW f))) H' := k
    walk_at "lit"
    refine w_S1 ⟨_, rfl, fun H1 s1 => ?_⟩
    have hp1 := U.Same.sqt s1 hp
    walk_at "run1"
    refine ifB (fun h => ?_) (fun h => ?_)
    · rw [h] at k
      walk_at "run1"
      · rename_i h2
        rw [decide_eq_true h2] at k
        walk_at "run1"
        refine w_S1 ⟨_, rfl, fun H2 s2 => ?_⟩
        walk_at "run1"
        exact k _ (s1.trans s2)
      · walk_at "run1"
        rename_i h2
        rw [decide_eq_false h2] at k
        exact k _ s1
    · rw [h] at k
      walk_at "run1"
      exact k _ s1
  · have hp : SqT K H p (.int 6 :: .int b :: .int c :: .int d :: .int e :: r.map V.int) := hp
    have k : ∀ H', Same H H' → Q (.bl (decide (d + ((6 :: b :: c :: d :: e :: r).length : Int) - 4 ≤ 2048))) H' := k
    walk_at "lit"
    have el : ((V.int 6 :: .int b :: .int c :: .int d :: .int e :: r.map V.int).length : Int) = ((6 :: b :: c :: d :: e :: r).length : Int) := by simp
    rw [el]
    exact k _ s0
  · have hp : SqT K H p [.int 7, .int b, .int c, .int d] := hp
    have k : ∀ H', Same H H' → Q (.bl (decide (d ≤ 2048))) H' := k
    walk_at "lit"
    exact k _ s0
  · have hp : SqT K H p [.int 8, .int b, .int c, .int d, .int e, .int f, .int g] := hp
    have k : ∀ H', Same H H' → Q (.bl (decide ((1 ≤ e ∧ 1 ≤ g) ∧ d + g ≤ 64 ∧ f + g ≤ 64))) H' := k
    have kk : ∀ x : Bool, (x = true ↔ (1 ≤ e ∧ 1 ≤ g) ∧ d + g ≤ 64 ∧ f + g ≤ 64) → Q (.bl x) H := fun x hx => by
      have e1 : x = decide ((1 ≤ e ∧ 1 ≤ g) ∧ d + g ≤ 64 ∧ f + g ≤ 64) := by rw [Bool.eq_iff_iff, hx]; simp
      rw [e1]
      exact k _ s0
    walk_at "lit"
    all_goals walk_at "run1"
    all_goals walk_at "run1"
    all_goals refine kk _ ?_
    all_goals first | (simp only [decide_eq_true_eq]; omega) | (simp only [Bool.false_eq_true, false_iff]; omega)
  · have hp : SqT K H p [.int 9, .int b, .int c, .int d] := hp
    have k : ∀ H', Same H H' → Q (.bl (decide (d ≤ 255))) H' := k
    walk_at "lit"
    exact k _ s0
  · have hp : SqT K H p [.int 10, .int b, .int c] := hp
    have k : ∀ H', Same H H' → Q (.bl true) H' := k
    walk_at "lit"
    exact k _ s0
theorem len_look {k : Int} (h1 : 1 ≤ k) (h2 : k ≤ 10) (h6 : k ≠ 6) : ([(1, 6), (2, 5), (3, 4), (4, 4), (5, 6), (7, 4), (8, 7), (9, 4), (10, 3)] : List (Int × Int)).lookup k = some ((szK k : Nat) : Int) := by
  rcases (show k = 1 ∨ k = 2 ∨ k = 3 ∨ k = 4 ∨ k = 5 ∨ k = 7 ∨ k = 8 ∨ k = 9 ∨ k = 10 by omega) with rfl | rfl | rfl | rfl | rfl | rfl | rfl | rfl | rfl <;> rfl
theorem chk_no {ns : List Int} (h : ¬ (3 ≤ ns.length ∧ 1 ≤ ns.getD 0 0 ∧ ns.getD 0 0 ≤ 10) ∨ (ns.getD 0 0 = 6 ∧ ¬ 5 ≤ ns.length) ∨ (ns.getD 0 0 ≠ 6 ∧ ns.length ≠ szK (ns.getD 0 0))) : chkLen ns = false := by
  cases e : chkLen ns with
  | false => rfl
  | true =>
    obtain ⟨a, b, c⟩ := chk_sz e
    rcases h with h | h | h
    · exact absurd a h
    · exact absurd (b h.1) h.2
    · exact absurd (c h.1) h.2
theorem chk_yes {ns : List Int} (h : 3 ≤ ns.length ∧ 1 ≤ ns.getD 0 0 ∧ ns.getD 0 0 ≤ 10) (h2 : (ns.getD 0 0 = 6 ∧ 5 ≤ ns.length) ∨ (ns.getD 0 0 ≠ 6 ∧ ns.length = szK (ns.getD 0 0))) : chkLen ns = true := by
  unfold chkLen
  rw [decide_eq_true h]
  rcases h2 with h2 | h2
  · rw [if_pos h2.1, decide_eq_true h2.2]; rfl
  · rw [if_neg h2.1, decide_eq_true h2.2]; rfl
def sp_check_intent (K : PySem.W.Frag) (_ : Ex) : Sp := S1 fun a H Q _ => ∃ (p : Addr) (ns : List Int), a = .ref p ∧ SqT K H p (ns.map V.int) ∧ ∀ H', Same H H' → Q (.bl (chk ns)) H'
def t_check_intent (K : PySem.W.Frag) (C : Ex) (E : XK) : TS :=
  tSeq (tIfS (tOr (tTest (tOp (uLt K) (tCB (uLen K) (tCons (tVar 0) (tNil))) (tC (.int 3)))) (tOr (tTest (tOp (uLt K) (tOp (uIx K) (tVar 0) (tC (.int 0))) (tC (.int 1)))) (tTest (tOp (uGt) (tOp (uIx K) (tVar 0) (tC (.int 0))) (tC (.int 10)))))) (tRet (tC (.bl false))) (tNext))
  (tCut (tIfS (tTest (tOp (uEq K) (tOp (uIx K) (tVar 0) (tC (.int 0))) (tC (.int 6)))) (tIfS (tTest (tOp (uLt K) (tCB (uLen K) (tCons (tVar 0) (tNil))) (tC (.int 5)))) (tRet (tC (.bl false))) (tNext)) (tIfS (tTest (tOp (uNe K) (tCB (uLen K) (tCons (tVar 0) (tNil))) (tOp (uKI C.LENGTHS [(1, 6), (2, 5), (3, 4), (4, 4), (5, 6), (7, 4), (8, 7), (9, 4), (10, 3)]) (tC (.ref C.LENGTHS)) (tOp (uIx K) (tVar 0) (tC (.int 0)))))) (tRet (tC (.bl false))) (tNext)))
  (tRet (tAndV (uCall (sp_is_name K C) (WB E) (tCons (tOp (uIx K) (tVar 0) (tC (.int 1))) (tNil))) (tAndV (tOp (uGe K) (tOp (uIx K) (tVar 0) (tC (.int 2))) (tC (.int 1))) (uCall (sp_check_words K C) (WB E) (tCons (tVar 0) (tNil)))))))
theorem pure_check_intent {K : PySem.W.Frag} {C : Ex} {vs : List V} {H : Hp} {Q : VK} {E : XK} (F : Fa K C) (h : sp_check_intent K C vs H Q E) : t_check_intent K C E { nx := fun _ H' => Q .non H', rt := Q } (start ["words"] vs) H := by
  obtain ⟨a, rfl, p, ns, rfl, hp, k⟩ := h
  have s0 := L2.Same.refl H
  have lm : (ns.map V.int).length = ns.length := List.length_map ..
  have bad : chkLen ns = false → Q (.bl false) H := fun e => by
    have z := k H s0
    unfold chk at z
    rw [e] at z
    exact z
  have good : ∀ (D : Ends), D.rt = Q → chkLen ns = true → tRet (tAndV (uCall (sp_is_name K C) (WB E) (tCons (tOp (uIx K) (tVar 0) (tC (.int 1))) (tNil))) (tAndV (tOp (uGe K) (tOp (uIx K) (tVar 0) (tC (.int 2))) (tC (.int 1))) (uCall (sp_check_words K C) (WB E) (tCons (tVar 0) (tNil))))) D [some (.ref p)] H := fun D hD hc => by
    unfold chk at k
    rw [hc] at k
    have k : ∀ H', Same H H' → Q (.bl (NmW (ns.getD 1 0) && (decide (1 ≤ ns.getD 2 0) && chkRest ns))) H' := k
    have l3 := (chk_sz hc).1.1
    subst hD
    walk_at "run1"
    refine w_S1 ⟨_, rfl, fun H1 s1 => ?_⟩
    have hp1 := U.Same.sqt s1 hp
    rw [show ns.getD (1 : Int).toNat 0 = ns.getD 1 0 from rfl]
    walk_at "run1"
    refine ifB (fun h => ?_) (fun h => ?_)
    · rw [h] at k
      walk_at "run1"
      · rename_i h2
        rw [show ns.getD (2 : Int).toNat 0 = ns.getD 2 0 from rfl] at h2
        rw [decide_eq_true h2] at k
        walk_at "run1"
        refine w_S1 ⟨p, ns, rfl, hp1, hc, fun H2 s2 => ?_⟩
        exact k _ (s1.trans s2)
      · walk_at "run1"
        rename_i h2
        rw [show ns.getD (2 : Int).toNat 0 = ns.getD 2 0 from rfl] at h2
        rw [decide_eq_false h2] at k
        exact k _ s1
    · rw [h] at k
      walk_at "run1"
      exact k _ s1
  unfold t_check_intent
  generalize (tRet (tAndV (uCall (sp_is_name K C) (WB E) _) _) : TS) = T at good
  walk_at "run1"
  · rename_i h
    exact bad (chk_no (.inl (by omega)))
  rename_i h3
  have g0 : ns.getD (0 : Int).toNat 0 = ns.getD 0 0 := rfl
  walk_at "run1"
  · rename_i h
    exact bad (chk_no (.inl (by omega)))
  walk_at "run1"
  · rename_i h1 h
    exact bad (chk_no (.inl (by omega)))
  rename_i h1 h10
  walk_at "run1"
  refine w_cutS ?_
  walk_at "run1"
  · rename_i h6 h
    exact bad (chk_no (.inr (.inl ⟨h6, by omega⟩)))
  walk_at "run1"
  · rename_i h6 h
    exact good _ rfl (chk_yes (by omega) (.inl ⟨h6, by omega⟩))
  walk_at "run1"
  rename_i h6
  refine w_ki (len_look (by omega) (by omega) h6) ?_
  walk_at "run1"
  · rename_i h
    exact bad (chk_no (.inr (.inr ⟨h6, fun e => h (by rw [lm, e]; rfl)⟩)))
  walk_at "run1"
  rename_i h
  refine good _ rfl (chk_yes (by omega) (.inr ⟨h6, ?_⟩))
  rw [lm] at h
  exact Int.ofNat.inj h
def parI (n : Nat) : Nat := (n + 4) / 4
def wordsR (ns : List Int) : List Int := (((ns.length : Nat) : Int) :: ns) ++ List.replicate (4 * parI ns.length - (ns.length + 1)) 0
def rowR (ns : List Int) (r g : Int) (j : Nat) : List Int := [r, (j : Int), ((parI ns.length : Nat) : Int)] ++ ((wordsR ns).drop (4 * j)).take 4 ++ [g]
def recS (ns : List Int) (r g : Int) : List (List Int) := (List.range (parI ns.length)).map (rowR ns r g)
theorem parI_lim (n : Nat) : n + 1 ≤ 4 * parI n ∧ 4 * parI n ≤ n + 4 := by unfold parI; omega
theorem wordsR_len (ns : List Int) : (wordsR ns).length = 4 * parI ns.length := by
  have := parI_lim ns.length
  unfold wordsR
  rw [List.length_append, List.length_cons, List.length_replicate]
  omega
theorem rowR_len {ns : List Int} {r g : Int} {j : Nat} (h : j < parI ns.length) : (rowR ns r g j).length = 8 := by
  unfold rowR
  rw [List.length_append, List.length_append, List.length_take, List.length_drop, wordsR_len]
  show 3 + min 4 (4 * parI ns.length - 4 * j) + 1 = 8
  omega
theorem cut_ints {ws : List Int} {i j : Nat} (h : i ≤ j) (hj : j ≤ ws.length) : cutV (ws.map V.int) (some (i : Int)) (some (j : Int)) = ((ws.drop i).take (j - i)).map V.int := by
  rw [cut_mid _ _ _ h (by rw [List.length_map]; exact hj), List.map_take, List.map_drop]
def sp_sectors_of (K : PySem.W.Frag) (_ : Ex) : Sp := S1 fun a H Q _ => ∃ (p : Addr) (ns : List Int), a = .ref p ∧ SqT K H p (ns.map V.int) ∧ Q (.int (parI ns.length : Nat)) H
def t_sectors_of (K : PySem.W.Frag) (C : Ex) (E : XK) : TS :=
  tRet (tOp (uDiv) (tOp (uAdd K) (tCB (uLen K) (tCons (tVar 0) (tNil))) (tC (.int 4))) (tC (.int 4)))
theorem pure_sectors_of {K : PySem.W.Frag} {C : Ex} {vs : List V} {H : Hp} {Q : VK} {E : XK} (F : Fa K C) (h : sp_sectors_of K C vs H Q E) : t_sectors_of K C E { nx := fun _ H' => Q .non H', rt := Q } (start ["intent"] vs) H := by
  obtain ⟨a, rfl, p, ns, rfl, hp, k⟩ := h
  unfold t_sectors_of
  walk_at "run1"
  rw [List.length_map]
  have e : (((ns.length : Nat) : Int) + 4) / 4 = ((parI ns.length : Nat) : Int) := by unfold parI; omega
  rw [e]
  exact k
def sp_record_sectors (K : PySem.W.Frag) (_ : Ex) : Sp := S3 fun a b c H Q _ => ∃ (p : Addr) (ns : List Int) (r g : Int), a = .ref p ∧ b = .int r ∧ c = .int g ∧ SqT K H p (ns.map V.int) ∧ ns.length ≤ 2000 ∧
  ∀ q H' vs, Same H H' → H q = none → H' q = some (.lst vs) → RowsAt H' vs (recS ns r g) → Q (.ref q) H'
def t_record_sectors (K : PySem.W.Frag) (C : Ex) (E : XK) : TS :=
  tSeq (tAsg (uCall (sp_sectors_of K C) (WB E) (tCons (tVar 0) (tNil))) (gName 3))
  (tSeq (tAsg (tOp (uAdd K) (tLst (tCons (tCB (uLen K) (tCons (tVar 0) (tNil))) (tNil))) (tCB (uList K) (tCons (tVar 0) (tNil)))) (gName 4))
  (tSeq (tAsg (tOp (uAdd K) (tVar 4) (tOp (uMul) (tLst (tCons (tC (.int 0)) (tNil))) (tOp (uSub) (tOp (uMul) (tC (.int 4)) (tVar 3)) (tCB (uLen K) (tCons (tVar 4) (tNil)))))) (gName 4))
  (tSeq (tAsg (tLst (tNil)) (gName 5))
  (tSeq (tFor (iRng1 (tCons (tVar 3) (tNil))) (gName 6)
  (tSeq (tAsg (tSl (uSl K) (tVar 4) (tPart (tOp (uMul) (tC (.int 4)) (tVar 6))) (tPart (tOp (uAdd K) (tOp (uMul) (tC (.int 4)) (tVar 6)) (tC (.int 4))))) (gName 7))
  (tDrop (tBM K "list" (rAppend) (tVar 5) (tCons (tOp (uAdd K) (tOp (uAdd K) (tLst (tCons (tVar 1) (tCons (tVar 6) (tCons (tVar 3) (tNil))))) (tVar 7)) (tLst (tCons (tVar 2) (tNil)))) (tNil))))))
  (tRet (tVar 5))))))
theorem pure_record_sectors {K : PySem.W.Frag} {C : Ex} {vs : List V} {H : Hp} {Q : VK} {E : XK} (F : Fa K C) (h : sp_record_sectors K C vs H Q E) : t_record_sectors K C E { nx := fun _ H' => Q .non H', rt := Q } (start ["intent", "record", "generation", "parts", "words", "sectors", "part", "group"] vs) H := by
  obtain ⟨a, b, c, rfl, p, ns, r, g, rfl, rfl, rfl, hp, ln, k⟩ := h
  unfold t_record_sectors
  have pl := parI_lim ns.length
  have wl := wordsR_len ns
  have rl : ∀ j, j < parI ns.length → (rowR ns r g j).length = 8 := fun j hj => rowR_len hj
  have lm : (ns.map V.int).length = ns.length := List.length_map ..
  walk_at "run1"
  refine w_S1 ⟨p, ns, rfl, hp, ?_⟩
  walk_at "run1"
  rename_i l1 hl1
  refine w_tlistT (sqt_old hp hl1) fun l2 hl2 => ?_
  refine w_cat (upd_old upd_same hl2) upd_same (by rw [lm]; show 1 + _ ≤ _; omega) fun l3 hl3 => ?_
  walk_at "run1"
  rename_i l0 hl0 l4 hl4
  have s4 := same_updN (o := .lst (List.map V.int (List.replicate (4 * ((parI ns.length : Nat) : Int) - (([V.int (List.map V.int ns).length] ++ List.map V.int ns).length : Nat)).toNat 0))) (same_updN (o := .lst [.int 0]) (same_updN (o := .lst ([.int (List.map V.int ns).length] ++ ns.map V.int)) (same_updN (o := .lst (ns.map V.int)) (same_new (o := .lst [.int (List.map V.int ns).length]) hl1) hl2) hl3) hl0) hl4
  refine w_cat (upd_old (upd_old upd_same hl0) hl4) upd_same (by simp only [List.length_map, List.length_replicate, List.length_append, List.length_cons, List.length_nil]; omega) fun W hW => ?_
  have s5 := same_updN (o := .lst ([V.int (List.map V.int ns).length] ++ List.map V.int ns ++ List.map V.int (List.replicate (4 * ((parI ns.length : Nat) : Int) - (([V.int (List.map V.int ns).length] ++ List.map V.int ns).length : Nat)).toNat 0))) s4 hW
  have eW : [V.int (List.map V.int ns).length] ++ List.map V.int ns ++ List.map V.int (List.replicate (4 * ((parI ns.length : Nat) : Int) - (([V.int (List.map V.int ns).length] ++ List.map V.int ns).length : Nat)).toNat 0) = (wordsR ns).map V.int := by
    unfold wordsR
    rw [List.map_append, List.map_cons, lm]
    have e : (4 * ((parI ns.length : Nat) : Int) - (([V.int ((ns.length : Nat) : Int)] ++ List.map V.int ns).length : Nat)).toNat = 4 * parI ns.length - (ns.length + 1) := by
      rw [List.length_append, lm]
      show (4 * ((parI ns.length : Nat) : Int) - ((1 + ns.length : Nat) : Int)).toNat = _
      omega
    rw [e]
    rfl
  rw [eW] at s5 ⊢
  have hW5 := fun G : Hp => upd_same (H := G) (a := W) (o := .lst ((wordsR ns).map V.int))
  have e5 := hW5 (upd (upd (upd (upd (upd H l1 (.lst [.int (List.map V.int ns).length])) l2 (.lst (ns.map V.int))) l3 (.lst ([.int (List.map V.int ns).length] ++ ns.map V.int))) l0 (.lst [.int 0])) l4 (.lst (List.map V.int (List.replicate (4 * ((parI ns.length : Nat) : Int) - (([V.int (List.map V.int ns).length] ++ List.map V.int ns).length : Nat)).toNat 0))))
  generalize upd _ W (.lst ((wordsR ns).map V.int)) = H5 at *
  clear hW5 s4 hl4 hl0 hl3 hl2 hl1 hW
  walk_at "run1"
  rename_i S hS
  refine f_range (fun i σ H' => ∃ (vs : List V) (v6 v7 : Option V), σ = [some (.ref p), some (.int r), some (.int g), some (.int (parI ns.length : Nat)), some (.ref W), some (.ref S), v6, v7] ∧ Same H5 H' ∧ H' S = some (.lst vs) ∧ RowsAt H' vs ((recS ns r g).take i))
    ⟨[], none, none, rfl, same_new hS, upd_same, .nil⟩ ?_ ?_
  · rintro i σ H6 hi ⟨vs, v6, v7, rfl, s6, e6, rr⟩
    have hi : i < parI ns.length := by omega
    have w6 := s6 _ _ e5
    have lv : vs.length ≤ parI ns.length := by rw [rr.1, List.length_take]; omega
    walk_at "run1"
    refine w_slL (SqL.of w6) fun l hl => ?_
    rw [show 4 * (0 + (i : Int)) = ((4 * i : Nat) : Int) by omega, show ((4 * i : Nat) : Int) + 4 = ((4 * i + 4 : Nat) : Int) by omega, cut_ints (by omega) (by rw [wl]; omega), show 4 * i + 4 - 4 * i = 4 by omega]
    walk_at "run1"
    rename_i la hla
    have l44 : (((wordsR ns).drop (4 * i)).take 4).length ≤ 4 := by rw [List.length_take]; omega
    have s7 := same_updN (o := .lst [.int r, .int (0 + (i : Int)), .int ((parI ns.length : Nat) : Int)]) (same_new (o := .lst ((((wordsR ns).drop (4 * i)).take 4).map V.int)) hl) hla
    refine w_cat upd_same (upd_old upd_same hla) (by rw [List.length_map]; show 3 + _ ≤ _; omega) fun lb hlb => ?_
    walk_at "run1"
    rename_i lc hlc
    refine w_cat (upd_old upd_same hlc) upd_same (by rw [List.length_append, List.length_map]; show 3 + _ + 1 ≤ _; omega) fun ld hld => ?_
    have eR : [V.int r, .int (0 + (i : Int)), .int ((parI ns.length : Nat) : Int)] ++ (((wordsR ns).drop (4 * i)).take 4).map V.int ++ [.int g] = (rowR ns r g i).map V.int := by
      unfold rowR
      rw [List.map_append, List.map_append, Int.zero_add]
      rfl
    have s8 := same_updN (o := .lst ([V.int r, .int (0 + (i : Int)), .int ((parI ns.length : Nat) : Int)] ++ (((wordsR ns).drop (4 * i)).take 4).map V.int ++ [.int g])) (same_updN (o := .lst [.int g]) (same_updN (o := .lst ([V.int r, .int (0 + (i : Int)), .int ((parI ns.length : Nat) : Int)] ++ (((wordsR ns).drop (4 * i)).take 4).map V.int)) s7 hlb) hlc) hld
    rw [eR] at s8 ⊢
    have rD : RowAt (upd (upd (upd (upd (upd H6 l (.lst ((((wordsR ns).drop (4 * i)).take 4).map V.int))) la (.lst [.int r, .int (0 + (i : Int)), .int ((parI ns.length : Nat) : Int)])) lb (.lst ([V.int r, .int (0 + (i : Int)), .int ((parI ns.length : Nat) : Int)] ++ (((wordsR ns).drop (4 * i)).take 4).map V.int))) lc (.lst [.int g])) ld (.lst ((rowR ns r g i).map V.int))) (.ref ld) (rowR ns r g i) := .of (rl i hi) upd_same
    generalize upd _ ld (.lst ((rowR ns r g i).map V.int)) = H8 at *
    have e8 := s8 _ _ e6
    walk_at "run1"
    refine w_app e8 (lt_line (by omega)) ?_
    walk_at "run1"
    refine ⟨_, _, _, rfl, same_upd (s6.trans s8) hS, upd_same, ?_⟩
    have e1 : (recS ns r g).take (i + 1) = (recS ns r g).take i ++ [rowR ns r g i] := take_snoc (by unfold recS; rw [List.getElem?_map, List.getElem?_range hi]; rfl)
    rw [e1]
    exact ((rr.same s8).snoc rD).upd e8 (noRow_refs rr.ref)
  · rintro σ H6 ⟨vs, v6, v7, rfl, s6, e6, rr⟩
    rw [List.take_of_length_le (by unfold recS; rw [List.length_map, List.length_range]; omega)] at rr
    walk_at "run1"
    exact k S H6 vs (s5.trans s6) (s5.free hS) e6 rr
/-- a list of tuples of ints -/
def TupAt (H : Hp) (v : V) (ns : List Int) : Prop := ∃ p, v = .ref p ∧ H p = some (.tup (ns.map V.int))
def TupsAt (H : Hp) (vs : List V) (nss : List (List Int)) : Prop := vs.length = nss.length ∧ ∀ (i : Nat) v, vs[i]? = some v → ∃ ns, nss[i]? = some ns ∧ TupAt H v ns
theorem TupAt.same {H H' : Hp} {v : V} {ns : List Int} (x : TupAt H v ns) (s : Same H H') : TupAt H' v ns := by
  obtain ⟨p, rfl, e⟩ := x
  exact ⟨p, rfl, s _ _ e⟩
theorem TupsAt.map {H H' : Hp} {vs : List V} {nss : List (List Int)} (x : TupsAt H vs nss) (f : ∀ t xs, H t = some (.tup xs) → H' t = some (.tup xs)) : TupsAt H' vs nss := ⟨x.1, fun i v h => by
  obtain ⟨ns, e, p, rfl, y⟩ := x.2 i v h
  exact ⟨ns, e, p, rfl, f _ _ y⟩⟩
theorem TupsAt.same {H H' : Hp} {vs : List V} {nss : List (List Int)} (x : TupsAt H vs nss) (s : Same H H') : TupsAt H' vs nss := x.map fun _ _ e => s _ _ e
theorem TupsAt.nil {H : Hp} : TupsAt H [] [] := ⟨rfl, fun i v h => by simp at h⟩
theorem TupsAt.snoc {H : Hp} {vs : List V} {nss : List (List Int)} {v : V} {ns : List Int} (x : TupsAt H vs nss) (y : TupAt H v ns) : TupsAt H (vs ++ [v]) (nss ++ [ns]) := by
  refine ⟨by rw [List.length_append, List.length_append, x.1]; rfl, fun i w h => ?_⟩
  rcases Nat.lt_or_ge i vs.length with q | q
  · rw [List.getElem?_append_left q] at h
    obtain ⟨r', e, z⟩ := x.2 i w h
    exact ⟨r', by rw [List.getElem?_append_left (by rw [← x.1]; exact q)]; exact e, z⟩
  · rw [List.getElem?_append_right q] at h
    have hi : i - vs.length = 0 := by
      have := (List.getElem?_eq_some_iff.mp h).1
      simp at this
      omega
    rw [hi] at h
    cases h
    exact ⟨ns, by rw [List.getElem?_append_right (by rw [← x.1]; exact q), ← x.1, hi]; rfl, y⟩
theorem TupsAt.dt {K : PySem.W.Frag} {H : Hp} : ∀ {vs : List V} {rs : List (List Int)}, TupsAt H vs rs → DtAll K H vs (rs.map PySem.W.Tup.mk)
  | [], [], _ => DtAll.nil
  | [], _ :: _, h => by cases h.1
  | _ :: _, [], h => by cases h.1
  | v :: vs, r :: rs, h => by
    obtain ⟨r', e, p, rfl, q⟩ := h.2 0 v rfl
    cases e
    refine DtAll.cons (Dt.tup (SqT.of q) (DtAll.ints r)) (TupsAt.dt ⟨by simpa using h.1, fun i w hw => ?_⟩)
    exact h.2 (i + 1) w hw
def lgO (C : Ex) (dx : Addr) (g s r : Int) : HO := .ins C.Log dx [("generation", .int g), ("next_sector", .int s), ("next_record", .int r)]
def tot (nss : List (List Int)) : Int := (nss.map fun ns => ((parI ns.length : Nat) : Int)).sum
def rowsW (ns : List Int) (s r g : Int) : List (Int × List Int) := (List.range (parI ns.length)).map fun j : Nat => (s + (j : Int), rowR ns r g j)
def wrsK (nss : List (List Int)) (s r g : Int) (k : Nat) : List (Int × List Int) := (List.range k).flatMap fun i : Nat => rowsW (nss.getD i []) (s + tot (nss.take i)) (r + (i : Int)) g
theorem wrsK_succ {nss : List (List Int)} {s r g : Int} {k : Nat} {ns : List Int} (h : nss[k]? = some ns) : wrsK nss s r g (k + 1) = wrsK nss s r g k ++ rowsW ns (s + tot (nss.take k)) (r + (k : Int)) g := by
  unfold wrsK
  rw [List.range_succ, List.flatMap_append, List.flatMap_cons, List.flatMap_nil, List.append_nil, List.getD_eq_getElem?_getD, h]
  rfl
theorem tot_succ {nss : List (List Int)} {k : Nat} {ns : List Int} (h : nss[k]? = some ns) : tot (nss.take (k + 1)) = tot (nss.take k) + (parI ns.length : Nat) := by
  rw [take_snoc h]
  unfold tot
  rw [List.map_append, List.sum_append]
  simp
theorem rowsW_succ {ns : List Int} {s r g : Int} {j : Nat} : (List.range (j + 1)).map (fun j : Nat => (s + (j : Int), rowR ns r g j)) = (List.range j).map (fun j : Nat => (s + (j : Int), rowR ns r g j)) ++ [(s + (j : Int), rowR ns r g j)] := by
  rw [List.range_succ, List.map_append]
  rfl
theorem TupsAt.stp {H H' : Hp} {l : Addr} {F' : List Addr} {vs : List V} {nss : List (List Int)} {C dx : Addr} {fs : List (Str × V)} (x : TupsAt H vs nss) (hl : H l = some (.ins C dx fs)) (st : Stp [l] H F' H') : TupsAt H' vs nss := x.map fun t xs e => (st.keep e fun q => by
  rw [List.mem_singleton.mp q, hl] at e
  cases e).1
def sp_Log___init__ (K : PySem.W.Frag) (C : Ex) : Sp := S2 fun x b H Q _ => ∃ (l dx : Addr) (g : Int), x = .ref l ∧ b = .int g ∧ H l = some (.ins C.Log dx []) ∧ Q .non (upd H l (lgO C dx g 4 1))
def t_Log___init__ (K : PySem.W.Frag) (C : Ex) (E : XK) : TS :=
  tSeq (uSetF C.Log "generation" (tVar 0) (tVar 1))
  (tSeq (uSetF C.Log "next_sector" (tVar 0) (tC (.int 4)))
  (uSetF C.Log "next_record" (tVar 0) (tC (.int 1))))
theorem pure_Log___init__ {K : PySem.W.Frag} {C : Ex} {vs : List V} {H : Hp} {Q : VK} {E : XK} (F : Fa K C) (h : sp_Log___init__ K C vs H Q E) : t_Log___init__ K C E { nx := fun _ H' => Q .non H', rt := Q } (start ["self", "generation"] vs) H := by
  obtain ⟨x, b, rfl, l, dx, g, rfl, rfl, hl, k⟩ := h
  unfold t_Log___init__
  walk_at "run1"
  rw [upd_upd, upd_upd]
  exact k
def sp_Log_fits (K : PySem.W.Frag) (C : Ex) : Sp := S2 fun x b H Q _ => ∃ (l dx q : Addr) (g s r : Int) (vs : List V) (nss : List (List Int)), x = .ref l ∧ b = .ref q ∧ H l = some (lgO C dx g s r) ∧ SqL K H q vs ∧ TupsAt H vs nss ∧ nss.length ≤ 1000 ∧
  ∀ H', Same H H' → Q (.bl (decide (s + tot nss ≤ 20))) H'
def t_Log_fits (K : PySem.W.Frag) (C : Ex) (E : XK) : TS :=
  tSeq (tAsg (tCB (rSum K) (tCons (tLc (iList K (tVar 1)) (gName 3) (tYes) (uCall (sp_sectors_of K C) (fun _ _ _ _ => False) (tCons (tVar 3) (tNil))) [3]) (tNil))) (gName 2))
  (tRet (tOp (uLe K) (tOp (uAdd K) (uFld C.Log "next_sector" (tVar 0)) (tVar 2)) (tOp (uAdd K) (tC (.int 4)) (tC (.int 16)))))
theorem pure_Log_fits {K : PySem.W.Frag} {C : Ex} {vs : List V} {H : Hp} {Q : VK} {E : XK} (F : Fa K C) (h : sp_Log_fits K C vs H Q E) : t_Log_fits K C E { nx := fun _ H' => Q .non H', rt := Q } (start ["self", "intents", "needed", "intent"] vs) H := by
  obtain ⟨x, b, rfl, l, dx, q, g, s, r, vs, nss, rfl, rfl, hl, hq, ht, hn, k⟩ := h
  unfold lgO at hl
  unfold t_Log_fits
  walk_at "run1"
  refine l_list (xs := vs) (fun D i H1 => Same H H1 ∧ H1 D = some (.lst (((nss.take i).map fun ns => ((parI ns.length : Nat) : Int)).map V.int))) (fun D hD => ⟨same_new hD, upd_same⟩) (fun D i H1 _ p => p.1.seq hq) ?_ ?_
  · rintro D i x H1 hD hx ⟨s1, e1⟩
    obtain ⟨ns, hns, p, rfl, ep⟩ := ht.2 _ _ hx
    walk_at "run1"
    refine ⟨rfl, ?_⟩
    walk_at "run1"
    refine w_S1 ⟨p, ns, rfl, .of (s1 _ _ ep), ?_⟩
    refine ⟨_, e1, by rw [List.length_map, List.length_map, List.length_take]; exact lt_line (by omega), same_upd s1 hD, ?_⟩
    rw [upd_same, take_snoc hns, List.map_append, List.map_append]
    rfl
  · rintro D H1 hD ⟨s1, e1⟩
    rw [ht.1, List.take_length] at e1
    have i1 := s1 _ _ hl
    walk_at "run1"
    refine ⟨D, _, rfl, SqL.of e1, ?_⟩
    walk_at "run1"
    exact k H1 s1
def sp_Log_append_records (K : PySem.W.Frag) (C : Ex) : Sp := S2 fun x b H Q E => ∃ (l dx q : Addr) (g s r : Int) (vs : List V) (nss : List (List Int)), x = .ref l ∧ b = .ref q ∧ H l = some (lgO C dx g s r) ∧ H q = some (.lst vs) ∧ TupsAt H vs nss ∧ nss.length ≤ 1000 ∧ (∀ ns ∈ nss, ns.length ≤ 2000) ∧
  (20 < s + tot nss → ∀ H', Same H H' → E (.ref C.NoSpace) none H') ∧
  (s + tot nss ≤ 20 → ∀ H' w ws, Stp [l] H [l] H' → H w = none → H' l = some (lgO C dx g (s + tot nss) (r + (nss.length : Int))) → H' w = some (.lst ws) → WrsAt H' ws (wrsK nss s r g nss.length) → Q (.ref w) H')
def t_Log_append_records (K : PySem.W.Frag) (C : Ex) (E : XK) : TS :=
  tSeq (tIfS (tNot (uTru K (uMeth C.Log "fits" (sp_Log_fits K C) (WB E) (tVar 0) (tCons (tVar 1) (tNil))))) (uRaise C.NoSpace (WB E)) (tNext))
  (tSeq (tAsg (tLst (tNil)) (gName 2))
  (tSeq (tFor (iList K (tVar 1)) (gName 3)
  (tSeq (tFor (iList K (uCall (sp_record_sectors K C) (WB E) (tCons (tVar 3) (tCons (uFld C.Log "next_record" (tVar 0)) (tCons (uFld C.Log "generation" (tVar 0)) (tNil)))))) (gName 4)
  (tSeq (tDrop (tBM K "list" (rAppend) (tVar 2) (tCons (tTup (tCons (uFld C.Log "next_sector" (tVar 0)) (tCons (tVar 4) (tNil)))) (tNil))))
  (uAugF C.Log "next_sector" rAdd (tVar 0) (tC (.int 1)))))
  (uAugF C.Log "next_record" rAdd (tVar 0) (tC (.int 1)))))
  (tRet (tVar 2))))
theorem pure_Log_append_records {K : PySem.W.Frag} {C : Ex} {vs : List V} {H : Hp} {Q : VK} {E : XK} (F : Fa K C) (h : sp_Log_append_records K C vs H Q E) : t_Log_append_records K C E { nx := fun _ H' => Q .non H', rt := Q } (start ["self", "intents", "writes", "intent", "words"] vs) H := by
  obtain ⟨x, b, rfl, l, dx, q, g, s, r, vs, nss, rfl, rfl, hl, hq, ht, hn, hz, k1, k2⟩ := h
  have hl' := hl
  unfold lgO at hl'
  unfold t_Log_append_records
  walk_at "run1"
  refine w_S2 ⟨l, dx, q, g, s, r, vs, nss, rfl, rfl, hl, SqL.of hq, ht, hn, fun H1 s1 => ?_⟩
  walk_at "run1"
  · rename_i hf
    exact k1 (by omega) H1 s1
  rename_i hf
  have hl1 := s1 _ _ hl
  have hq1 := s1 _ _ hq
  have ht1 := ht.same s1
  walk_at "run1"
  rename_i w hw
  have hl2 := upd_old (o := .lst []) hl1 hw
  have hq2 := upd_old (o := .lst []) hq1 hw
  have ht2 := ht1.same (same_new (o := .lst []) hw)
  have hw2 : upd H1 w (.lst []) w = some (.lst []) := upd_same
  have s2 := same_updN (o := .lst []) s1 hw
  have nq : q ∉ [l, w] := fun h => by
    simp only [List.mem_cons, List.not_mem_nil, or_false] at h
    rcases h with rfl | rfl
    · rw [hl1] at hq1; cases hq1
    · rw [hw] at hq1; cases hq1
  generalize upd H1 w _ = H2 at *
  refine f_list (xs := vs) (fun i σ H' => ∃ (ws : List V) (v3 v4 : Option V), σ = [some (.ref l), some (.ref q), some (.ref w), v3, v4] ∧ Stp [l, w] H2 [l, w] H' ∧ H' l = some (lgO C dx g (s + tot (nss.take i)) (r + (i : Int))) ∧ H' w = some (.lst ws) ∧ WrsAt H' ws (wrsK nss s r g i) ∧ ws.length ≤ 501 * i)
    ⟨[], none, none, rfl, .refl, by rw [show s + tot (nss.take 0) = s by unfold tot; simp, show r + ((0 : Nat) : Int) = r by omega]; exact hl2, hw2, ⟨rfl, fun i v h => by simp at h⟩, Nat.le_refl 0⟩ (by rintro i σ H' _ ⟨_, _, _, _, st, _⟩; exact SqL.of (st.keep hq2 nq).1) ?_ ?_
  · rintro i x σ H3 hx ⟨ws, v3, v4, rfl, st, e3l, e3w, wr, lws⟩
    obtain ⟨ns, hns, p, rfl, ep⟩ := ht2.2 _ _ hx
    have np : p ∉ [l, w] := fun h => by
      simp only [List.mem_cons, List.not_mem_nil, or_false] at h
      rcases h with rfl | rfl
      · rw [hl2] at ep; cases ep
      · rw [hw2] at ep; cases ep
    have ep3 := (st.keep ep np).1
    have hns2 := hz ns (List.mem_of_getElem? hns)
    have e3l' := e3l
    unfold lgO at e3l'
    walk_at "run1"
    refine w_S3 ⟨p, ns, _, g, rfl, rfl, rfl, .of ep3, hns2, fun R H4 vs2 s4 hR eR rR => ?_⟩
    have e4l := s4 _ _ e3l
    have e4w := s4 _ _ e3w
    have wr4 : WrsAt H4 ws (wrsK nss s r g i) := wr.map (fun _ _ y => y.same s4) fun _ _ e => s4 _ _ e
    have nR : R ∉ [l, w] := fun h => by
      simp only [List.mem_cons, List.not_mem_nil, or_false] at h
      rcases h with rfl | rfl
      · rw [e3l] at hR; cases hR
      · rw [e3w] at hR; cases hR
    have st4 : Stp [l, w] H2 [l, w] H4 := st.trans (.same s4)
    have lw : l ≠ w := ne_of e4l e4w fun z => nomatch z
    have hrow : ∀ v r, RowAt H4 v r → ∀ H', Stp [l, w] H4 [l, w] H' → RowAt H' v r := fun v r y H' st' => by
      obtain ⟨l8, py, rfl, ey⟩ := y
      refine ⟨l8, py, rfl, (st'.keep ey fun h => ?_).1⟩
      simp only [List.mem_cons, List.not_mem_nil, or_false] at h
      rcases h with rfl | rfl
      · rw [e4l] at ey; cases ey
      · rw [e4w] at ey; exact noRow_refs wr.ref r l8 (Option.some.inj ey).symm
    have lR : vs2.length = parI ns.length := by rw [rR.1]; unfold recS; rw [List.length_map, List.length_range]
    have pl := parI_lim ns.length
    walk_at "run1"
    refine f_list (xs := vs2) (fun j σ H' => ∃ (ws' : List V) (v4 : Option V), σ = [some (.ref l), some (.ref q), some (.ref w), some (.ref p), v4] ∧ Stp [l, w] H4 [l, w] H' ∧ H' l = some (lgO C dx g (s + tot (nss.take i) + (j : Int)) (r + (i : Int))) ∧ H' w = some (.lst ws') ∧ WrsAt H' ws' (wrsK nss s r g i ++ (List.range j).map fun j : Nat => (s + tot (nss.take i) + (j : Int), rowR ns (r + (i : Int)) g j)) ∧ ws'.length = ws.length + j)
      ⟨ws, v4, rfl, .refl, by rw [show s + tot (nss.take i) + ((0 : Nat) : Int) = s + tot (nss.take i) by omega]; exact e4l, e4w, by rw [List.range_zero, List.map_nil, List.append_nil]; exact wr4, rfl⟩ (by rintro j σ H' _ ⟨_, _, _, st', _⟩; exact SqL.of (st'.keep eR nR).1) ?_ ?_
    · rintro j x σ H5 hx ⟨ws', v4, rfl, st5, e5l, e5w, wr5, lw5⟩
      have hj : j < vs2.length := (List.getElem?_eq_some_iff.mp hx).1
      obtain ⟨row, hrw, ry⟩ := rR.2 _ _ hx
      have erow : row = rowR ns (r + (i : Int)) g j := by
        unfold recS at hrw
        rw [List.getElem?_map, List.getElem?_range (by omega)] at hrw
        exact (Option.some.inj hrw).symm
      subst erow
      have ry5 := hrow _ _ ry H5 st5
      obtain ⟨l8, py, rfl, ey⟩ := ry
      have e5l' := e5l
      unfold lgO at e5l'
      have hi : i < vs.length := (List.getElem?_eq_some_iff.mp (by assumption : vs[i]? = some (V.ref p))).1
      have htl := ht.1
      walk_at "run1"
      rename_i t hnt
      have s6 := same_new (o := .tup [.int (s + tot (nss.take i) + (j : Int)), .ref py]) hnt
      have wt : WrAt (upd H5 t (.tup [.int (s + tot (nss.take i) + (j : Int)), .ref py])) (.ref t) (s + tot (nss.take i) + (j : Int)) (rowR ns (r + (i : Int)) g j) := ⟨t, _, rfl, upd_same, ry5.same s6⟩
      have wr6 := (wr5.map (fun _ _ y => y.same s6) fun _ _ e => s6 _ _ e).snoc wt
      have e6w := s6 _ _ e5w
      have e6l := s6 _ _ e5l
      have st6 : Stp [l, w] H4 [l, w] (upd H5 t (.tup [.int (s + tot (nss.take i) + (j : Int)), .ref py])) := st5.trans (.same s6)
      generalize upd H5 t _ = H6 at *
      have pw := plain_refs wr5.ref
      refine w_app e6w (lt_line (by omega)) ?_
      have e7l : upd H6 w (.lst (ws' ++ [.ref t])) l = some (lgO C dx g (s + tot (nss.take i) + (j : Int)) (r + (i : Int))) := upd_oth e6l lw
      have e7w : upd H6 w (.lst (ws' ++ [.ref t])) w = some (.lst (ws' ++ [.ref t])) := upd_same
      have wr7 := wr6.map (row_upd (o := .lst (ws' ++ [.ref t])) e6w pw) (tup_upd (o := .lst (ws' ++ [.ref t])) e6w pw)
      have st7 : Stp [l, w] H4 [l, w] (upd H6 w (.lst (ws' ++ [.ref t]))) := st6.upd (by simp)
      generalize upd H6 w _ = H7 at *
      have e7l' := e7l
      unfold lgO at e7l'
      walk_at "run1"
      refine ⟨ws' ++ [.ref t], _, rfl, st7.upd (by simp), ?_, upd_oth e7w (Ne.symm lw), ?_, by rw [List.length_append, lw5]; rfl⟩
      · rw [upd_same]
        unfold lgO
        rw [show s + tot (nss.take i) + ((j + 1 : Nat) : Int) = s + tot (nss.take i) + (j : Int) + 1 by omega]
        rfl
      · rw [rowsW_succ, ← List.append_assoc]
        exact wr7.map (row_upd e7l plain_ins) (tup_upd e7l plain_ins)
    · rintro σ H5 ⟨ws', v4, rfl, st5, e5l, e5w, wr5, lw5⟩
      have e5l' := e5l
      unfold lgO at e5l'
      walk_at "run1"
      rw [lR] at lw5 wr5 e5l'
      have e1 := wrsK_succ (s := s) (r := r) (g := g) hns
      have e2 := tot_succ hns
      unfold rowsW at e1
      refine ⟨ws', _, _, rfl, (st4.trans st5).upd (by simp), ?_, upd_oth e5w (Ne.symm lw), ?_, by omega⟩
      · rw [upd_same]
        unfold lgO
        rw [e2, show r + ((i + 1 : Nat) : Int) = r + (i : Int) + 1 by omega, ← Int.add_assoc]
        show some (HO.ins C.Log dx [("generation", V.int g), ("next_sector", V.int (s + tot (nss.take i) + (vs2.length : Int))), ("next_record", V.int (r + (i : Int) + 1))]) = _
        rw [lR]
      · rw [e1]
        exact wr5.map (row_upd e5l plain_ins) (tup_upd e5l plain_ins)
  · rintro σ H3 ⟨ws, v3, v4, rfl, st, e3l, e3w, wr, lws⟩
    rw [ht.1, List.take_length] at e3l
    rw [ht.1] at wr
    walk_at "run1"
    have stl : Stp [l] H [l] H3 := by
      refine ⟨fun b o h n => st.1 b o (s2 b o h) fun h' => ?_, fun b hb => .inl hb⟩
      simp only [List.mem_cons, List.not_mem_nil, or_false] at h' n
      rcases h' with rfl | rfl
      · exact n rfl
      · rw [s1.free hw] at h
        cases h
    exact k2 hf H3 w ws stl (s1.free hw) e3l e3w wr
def okR (w : List Int) (rec : Int) (j : Nat) (parts g : Int) : Bool := decide (w.take 3 = [rec, (j : Int), parts]) && decide (w.getD 7 0 = g)
def wpF (rows : List (List Int)) (at_ : Nat) (rec g : Int) : Int :=
  if (rows.getD at_ []).getD 2 0 < 1 ∨ (rows.length : Int) - (at_ : Int) < (rows.getD at_ []).getD 2 0 then 0
  else if (List.range ((rows.getD at_ []).getD 2 0).toNat).all (fun j => okR (rows.getD (at_ + j) []) rec j ((rows.getD at_ []).getD 2 0) g) = true then (rows.getD at_ []).getD 2 0 else 0
theorem RowsAt.get {H : Hp} {vs : List V} {rs : List (List Int)} (x : RowsAt H vs rs) {i : Nat} (h : i < rs.length) : ∃ p, vs[i]? = some (.ref p) ∧ H p = some (.lst ((rs.getD i []).map V.int)) ∧ (rs.getD i []).length = 8 := by
  have hv : i < vs.length := by rw [x.1]; exact h
  obtain ⟨r, e, l8, p, ep, q⟩ := x.2 i _ (List.getElem?_eq_getElem hv)
  have er : rs.getD i [] = r := by rw [List.getD_eq_getElem?_getD, e]; rfl
  exact ⟨p, by rw [List.getElem?_eq_getElem hv, ep], by rw [er]; exact q, by rw [er]; exact l8⟩
def sp_whole_parts (K : PySem.W.Frag) (_ : Ex) : Sp := S4 fun a b c d H Q _ => ∃ (p : Addr) (vs : List V) (rows : List (List Int)) (m : Nat) (r g : Int), a = .ref p ∧ b = .int m ∧ c = .int r ∧ d = .int g ∧ H p = some (.lst vs) ∧ RowsAt H vs rows ∧ m < rows.length ∧ rows.length ≤ 100000 ∧
  ∀ H', Same H H' → Q (.int (wpF rows m r g)) H'
def t_whole_parts (K : PySem.W.Frag) (C : Ex) (E : XK) : TS :=
  tSeq (tAsg (tOp (uIx K) (tOp (uIx K) (tVar 0) (tVar 1)) (tC (.int 2))) (gName 4))
  (tSeq (tIfS (tOr (tTest (tOp (uLt K) (tVar 4) (tC (.int 1)))) (tTest (tOp (uGt) (tVar 4) (tOp (uSub) (tCB (uLen K) (tCons (tVar 0) (tNil))) (tVar 1))))) (tRet (tC (.int 0))) (tNext))
  (tSeq (tFor (iRng1 (tCons (tVar 4) (tNil))) (gName 5)
  (tSeq (tAsg (tOp (uIx K) (tVar 0) (tOp (uAdd K) (tVar 1) (tVar 5))) (gName 6))
  (tIfS (tOr (tTest (tOp (uNe K) (tSl (uSl K) (tVar 6) (tNoPart) (tPart (tC (.int 3)))) (tLst (tCons (tVar 2) (tCons (tVar 5) (tCons (tVar 4) (tNil))))))) (tTest (tOp (uNe K) (tOp (uIx K) (tVar 6) (tC (.int 7))) (tVar 3)))) (tRet (tC (.int 0))) (tNext))))
  (tRet (tVar 4))))
theorem pure_whole_parts {K : PySem.W.Frag} {C : Ex} {vs : List V} {H : Hp} {Q : VK} {E : XK} (F : Fa K C) (h : sp_whole_parts K C vs H Q E) : t_whole_parts K C E { nx := fun _ H' => Q .non H', rt := Q } (start ["sectors", "at", "record", "generation", "parts", "part", "words"] vs) H := by
  obtain ⟨a, b, c, d, rfl, p, vs, rows, m, r, g, rfl, rfl, rfl, rfl, hp, hr, hm, hl, k⟩ := h
  have lv := hr.1
  have s0 := L2.Same.refl H
  obtain ⟨pm, em, epm, l8⟩ := hr.get hm
  unfold wpF at k
  have em' : vs[((m : Int)).toNat]? = some (.ref pm) := by rw [Int.toNat_natCast]; exact em
  unfold t_whole_parts
  walk_at "run1"
  refine w_ixL (k := m) (SqL.of hp) rfl em ?_
  generalize ept : (rows.getD m []).getD 2 0 = pt at k
  have ept : (rows.getD m []).getD (2 : Int).toNat 0 = pt := ept
  walk_at "run1"
  · rename_i h
    rw [if_pos (.inl (by omega))] at k
    exact k _ s0
  walk_at "run1"
  · rename_i h
    rw [if_pos (.inr (by omega))] at k
    exact k _ s0
  rename_i h1 h2
  rw [ept] at h1 h2 ⊢
  rw [if_neg (by omega)] at k
  walk_at "run1"
  have pr : pt.toNat ≤ 100000 := by omega
  refine f_range (fun i σ H' => ∃ v5 v6 : Option V, σ = [some (.ref p), some (.int m), some (.int r), some (.int g), some (.int pt), v5, v6] ∧ Same H H' ∧ (List.range i).all (fun j => okR (rows.getD (m + j) []) r j pt g) = true) ⟨none, none, rfl, s0, rfl⟩ ?_ ?_
  · rintro i σ H1 hi ⟨v5, v6, rfl, s1, ha⟩
    obtain ⟨pj, ej, epj, l8j⟩ := (hr.same s1).get (i := m + i) (by omega)
    have hp1 := s1 _ _ hp
    have no : okR (rows.getD (m + i) []) r i pt g = false → ∀ H', Same H H' → Q (.int 0) H' := fun h H' s => by
      have z := k H' s
      rw [if_neg (by rw [List.all_eq_true]; intro q; have := q i (List.mem_range.mpr hi); rw [h] at this; cases this)] at z
      exact z
    walk_at "run1"
    refine w_ixL (k := m + i) (SqL.of hp1) (by omega) ej ?_
    walk_at "run1"
    refine w_slL (SqL.of epj) fun l hl1 => ?_
    rw [show (some (3 : Int)) = some ((3 : Nat) : Int) from rfl, cut_take, ← List.map_take]
    walk_at "run1"
    rename_i l2 hl2
    refine w_neD (α := List Int) (a := (rows.getD (m + i) []).take 3) (b := [r, 0 + (i : Int), pt]) (Dt.list (SqL.of (upd_old upd_same hl2)) (DtAll.ints _)) (Dt.list (SqL.of upd_same) (DtAll.ints [r, 0 + (i : Int), pt])) (by decide) ⟨_, rfl⟩ ?_
    have s2 := same_updN (o := .lst [.int r, .int (0 + (i : Int)), .int pt]) (same_updN (o := .lst (((rows.getD (m + i) []).take 3).map V.int)) s1 hl1) hl2
    have ep2 := upd_old (o := .lst [.int r, .int (0 + (i : Int)), .int pt]) (upd_old (o := .lst (((rows.getD (m + i) []).take 3).map V.int)) epj hl1) hl2
    generalize upd (upd H1 l _) l2 _ = H2 at *
    rw [Int.zero_add]
    walk_at "run1"
    · rename_i h
      exact no (by unfold okR; rw [decide_eq_false h]; rfl) _ s2
    rename_i h
    walk_at "run1"
    · rename_i h3
      exact no (by unfold okR; rw [decide_eq_false (p := (rows.getD (m + i) []).getD 7 0 = g) h3]; simp) _ s2
    rename_i h3
    walk_at "run1"
    refine ⟨_, _, rfl, s2, ?_⟩
    rw [List.range_succ, List.all_append, ha]
    have e : okR (rows.getD (m + i) []) r i pt g = true := by unfold okR; rw [decide_eq_true h, decide_eq_true (p := (rows.getD (m + i) []).getD 7 0 = g) h3]; rfl
    rw [Bool.true_and, List.all_cons, List.all_nil, Bool.and_true]
    exact e
  · rintro σ H1 ⟨v5, v6, rfl, s1, ha⟩
    walk_at "run1"
    rw [if_pos ha] at k
    exact k _ s1
theorem rowR_mid {ns : List Int} {r g : Int} {j : Nat} (h : j < parI ns.length) : ((rowR ns r g j).drop 3).take 4 = ((wordsR ns).drop (4 * j)).take 4 := by
  have l4 : (((wordsR ns).drop (4 * j)).take 4).length = 4 := by rw [List.length_take, List.length_drop, wordsR_len]; omega
  unfold rowR
  show ((((wordsR ns).drop (4 * j)).take 4) ++ [g]).take 4 = _
  rw [List.take_append_of_le_length (by omega)]
  exact List.take_of_length_le (by omega)
theorem recS_at {ns : List Int} {r g : Int} {j : Nat} (h : j < parI ns.length) : (recS ns r g)[j]? = some (rowR ns r g j) := by
  unfold recS
  rw [List.getElem?_map, List.getElem?_range h]
  rfl
theorem recS_len (ns : List Int) (r g : Int) : (recS ns r g).length = parI ns.length := by unfold recS; rw [List.length_map, List.length_range]
theorem wordsR_take {ns : List Int} {j : Nat} : (wordsR ns).take (4 * j) ++ ((wordsR ns).drop (4 * j)).take 4 = (wordsR ns).take (4 * (j + 1)) := by
  rw [show 4 * (j + 1) = 4 * j + 4 by omega, List.take_add]
theorem wordsR_drop {ns : List Int} : (wordsR ns).drop (1 + ns.length) = List.replicate (4 * parI ns.length - (ns.length + 1)) 0 := by
  unfold wordsR
  rw [List.drop_append_of_le_length (by rw [List.length_cons]; omega), List.drop_eq_nil_of_le (by rw [List.length_cons]; omega)]
  rfl
theorem wordsR_mid {ns : List Int} : ((wordsR ns).drop 1).take ns.length = ns := by
  unfold wordsR
  rw [List.cons_append, List.drop_succ_cons, List.drop_zero, List.take_append_of_le_length (Nat.le_refl _), List.take_length]
def sp_record_intent (K : PySem.W.Frag) (C : Ex) : Sp := S1 fun a H Q _ => ∃ (p : Addr) (vs : List V) (ns : List Int) (r g : Int), a = .ref p ∧ H p = some (.lst vs) ∧ RowsAt H vs (recS ns r g) ∧ chk ns = true ∧ ns.length ≤ 2000 ∧
  ∀ t H', Same H H' → H t = none → H' t = some (.tup (ns.map V.int)) → Q (.ref t) H'
def t_record_intent (K : PySem.W.Frag) (C : Ex) (E : XK) : TS :=
  tSeq (tAsg (tLst (tNil)) (gName 1))
  (tSeq (tFor (iList K (tVar 0)) (gName 2)
  (tDrop (tBM K "list" (rExtend) (tVar 1) (tCons (tSl (uSl K) (tVar 2) (tPart (tC (.int 3))) (tPart (tC (.int 7)))) (tNil)))))
  (tSeq (tAsg (tOp (uIx K) (tVar 1) (tC (.int 0))) (gName 3))
  (tSeq (tIfS (tTest (tOp (uNe K) (tOp (uDiv) (tOp (uAdd K) (tVar 3) (tC (.int 4))) (tC (.int 4))) (tCB (uLen K) (tCons (tVar 0) (tNil))))) (uRaise C.BadImage (WB E)) (tNext))
  (tSeq (tIfS (tTest (tOp (uNe K) (tSl (uSl K) (tVar 1) (tPart (tOp (uAdd K) (tC (.int 1)) (tVar 3))) (tNoPart)) (tOp (uMul) (tLst (tCons (tC (.int 0)) (tNil))) (tOp (uSub) (tOp (uSub) (tCB (uLen K) (tCons (tVar 1) (tNil))) (tC (.int 1))) (tVar 3))))) (uRaise C.BadImage (WB E)) (tNext))
  (tSeq (tAsg (tCB (uTuple K) (tCons (tSl (uSl K) (tVar 1) (tPart (tC (.int 1))) (tPart (tOp (uAdd K) (tC (.int 1)) (tVar 3)))) (tNil))) (gName 4))
  (tSeq (tIfS (tNot (uTru K (uCall (sp_check_intent K C) (WB E) (tCons (tVar 4) (tNil))))) (uRaise C.BadImage (WB E)) (tNext))
  (tRet (tVar 4))))))))
theorem pure_record_intent {K : PySem.W.Frag} {C : Ex} {vs : List V} {H : Hp} {Q : VK} {E : XK} (F : Fa K C) (h : sp_record_intent K C vs H Q E) : t_record_intent K C E { nx := fun _ H' => Q .non H', rt := Q } (start ["sectors", "words", "sector", "count", "intent"] vs) H := by
  obtain ⟨a, rfl, p, vs, ns, r, g, rfl, hp, hr, hc, ln, k⟩ := h
  have lv : vs.length = parI ns.length := by rw [hr.1, recS_len]
  have pl := parI_lim ns.length
  have wl := wordsR_len ns
  unfold t_record_intent
  walk_at "run1"
  rename_i W hW
  refine f_list (xs := vs) (fun i σ H' => ∃ v2 : Option V, σ = [some (.ref p), some (.ref W), v2, none, none] ∧ Same H H' ∧ H' W = some (.lst (((wordsR ns).take (4 * i)).map V.int))) ⟨none, rfl, same_new hW, upd_same⟩ (by rintro i σ H' _ ⟨_, _, s, _⟩; exact SqL.of (s _ _ hp)) ?_ ?_
  · rintro i x σ H1 hx ⟨v2, rfl, s1, e1⟩
    have hi : i < vs.length := (List.getElem?_eq_some_iff.mp hx).1
    obtain ⟨row, hrw, l8, py, rfl, ey⟩ := (hr.same s1).2 _ _ hx
    rw [recS_at (by omega)] at hrw
    cases hrw
    walk_at "run1"
    refine w_slL (SqL.of ey) fun l hl => ?_
    rw [show (some (3 : Int)) = some ((3 : Nat) : Int) from rfl, show (some (7 : Int)) = some ((7 : Nat) : Int) from rfl, cut_ints (by decide) (by omega), rowR_mid (by omega)]
    walk_at "run1"
    refine ⟨W, l, _, _, rfl, rfl, upd_old e1 hl, upd_same, by rw [List.length_map, List.length_map, List.length_take, List.length_take]; exact le_line (by omega), ?_⟩
    walk_at "run1"
    refine ⟨_, rfl, ?_, ?_⟩
    · exact same_upd (same_updN s1 hl) hW
    · rw [upd_same, ← List.map_append, wordsR_take]
  rintro σ H1 ⟨v2, rfl, s1, e1⟩
  rw [lv, List.take_of_length_le (by omega)] at e1
  have g0 : (wordsR ns).getD (0 : Int).toNat 0 = ((ns.length : Nat) : Int) := rfl
  have hp1 := s1 _ _ hp
  walk_at "run1"
  · rename_i h
    exfalso
    rw [g0] at h
    unfold parI at lv
    omega
  rename_i h0
  clear h0
  rw [g0]
  walk_at "run1"
  refine w_slL (SqL.of e1) fun l hl => ?_
  rw [show (1 : Int) + ((ns.length : Nat) : Int) = ((1 + ns.length : Nat) : Int) by omega, cut_drop, ← List.map_drop, wordsR_drop]
  have e1l := upd_old (o := .lst ((List.replicate (4 * parI ns.length - (ns.length + 1)) (0 : Int)).map V.int)) e1 hl
  have s2 := same_updN (o := .lst ((List.replicate (4 * parI ns.length - (ns.length + 1)) (0 : Int)).map V.int)) s1 hl
  have el : upd H1 l (.lst ((List.replicate (4 * parI ns.length - (ns.length + 1)) (0 : Int)).map V.int)) l = some (.lst ((List.replicate (4 * parI ns.length - (ns.length + 1)) (0 : Int)).map V.int)) := upd_same
  generalize upd H1 l _ = H2 at *
  walk_at "run1"
  rename_i z1 hz1 q hq
  have er : ((((wordsR ns).map V.int).length : Int) - 1 - ((ns.length : Nat) : Int)).toNat = 4 * parI ns.length - (ns.length + 1) := by rw [List.length_map, wl]; omega
  rw [er]
  have s3 := same_updN (o := .lst ((List.replicate (4 * parI ns.length - (ns.length + 1)) (0 : Int)).map V.int)) (same_updN (o := .lst [.int 0]) s2 hz1) hq
  have e1q := upd_old (o := .lst ((List.replicate (4 * parI ns.length - (ns.length + 1)) (0 : Int)).map V.int)) (upd_old (o := .lst [.int 0]) e1l hz1) hq
  refine w_neD (α := List Int) (a := List.replicate (4 * parI ns.length - (ns.length + 1)) (0 : Int)) (b := List.replicate (4 * parI ns.length - (ns.length + 1)) (0 : Int)) (Dt.list (SqL.of (upd_old (upd_old el hz1) hq)) (DtAll.ints _)) (Dt.list (SqL.of upd_same) (DtAll.ints _)) (by decide) ⟨_, rfl⟩ ?_
  rw [decide_eq_true rfl]
  generalize upd (upd H2 z1 _) q _ = H3 at *
  walk_at "run1"
  refine w_slL (SqL.of e1q) fun l2 hl2 => ?_
  rw [show (1 : Int) + ((ns.length : Nat) : Int) = ((1 + ns.length : Nat) : Int) by omega, show (some (1 : Int)) = some ((1 : Nat) : Int) from rfl, cut_ints (by omega) (by omega), show 1 + ns.length - 1 = ns.length by omega, wordsR_mid]
  walk_at "run1"
  refine w_ttupL (SqL.of upd_same) fun t ht => ?_
  have s4 := same_updN (o := .tup (ns.map V.int)) (same_updN (o := .lst (ns.map V.int)) s3 hl2) ht
  have et : upd (upd H3 l2 (.lst (ns.map V.int))) t (.tup (ns.map V.int)) t = some (.tup (ns.map V.int)) := upd_same
  have ht0 : H t = none := s3.free (none_of_upd ht).1
  generalize upd (upd H3 l2 _) t _ = H4 at *
  walk_at "run1"
  refine w_S1 ⟨t, ns, rfl, .of et, fun H5 s5 => ?_⟩
  rw [hc]
  walk_at "run1"
  exact k t H5 (s4.trans s5) ht0 (s5 _ _ et)
def recsK (nss : List (List Int)) (g : Int) (k : Nat) : List (List Int) := (List.range k).flatMap fun i : Nat => recS (nss.getD i []) ((i : Int) + 1) g
def totR (nss : List (List Int)) (k : Nat) : Nat := ((nss.take k).map fun ns => parI ns.length).sum
theorem recsK_succ {nss : List (List Int)} {g : Int} {k : Nat} {ns : List Int} (h : nss[k]? = some ns) : recsK nss g (k + 1) = recsK nss g k ++ recS ns ((k : Int) + 1) g := by
  unfold recsK
  rw [List.range_succ, List.flatMap_append, List.flatMap_cons, List.flatMap_nil, List.append_nil, List.getD_eq_getElem?_getD, h]
  rfl
theorem totR_succ {nss : List (List Int)} {k : Nat} {ns : List Int} (h : nss[k]? = some ns) : totR nss (k + 1) = totR nss k + parI ns.length := by
  unfold totR
  rw [take_snoc h, List.map_append, List.sum_append]
  simp
theorem recsK_len {nss : List (List Int)} {g : Int} : ∀ {k : Nat}, k ≤ nss.length → (recsK nss g k).length = totR nss k
  | 0, _ => by unfold recsK totR; simp
  | k + 1, h => by
    rw [recsK_succ (List.getElem?_eq_getElem h), List.length_append, recsK_len (by omega), recS_len, totR_succ (List.getElem?_eq_getElem h)]
theorem recsK_pre {nss : List (List Int)} {g : Int} : ∀ {n k : Nat}, k ≤ n → n ≤ nss.length → ∃ r, recsK nss g n = recsK nss g k ++ r
  | 0, k, h, _ => ⟨[], by
    obtain rfl : k = 0 := by omega
    rw [List.append_nil]⟩
  | n + 1, k, h, hn => by
    rcases Nat.lt_or_ge n k with q | q
    · obtain rfl : k = n + 1 := by omega
      exact ⟨[], by rw [List.append_nil]⟩
    · obtain ⟨r, e⟩ := recsK_pre (g := g) q (show n ≤ nss.length by omega)
      rw [recsK_succ (List.getElem?_eq_getElem hn), e, List.append_assoc]
      exact ⟨_, rfl⟩
/-- the sectors behind the records before -/
theorem recs_drop {nss : List (List Int)} {g : Int} {tail : List (List Int)} {k : Nat} {ns : List Int} (h : nss[k]? = some ns) : ∃ r, (recsK nss g nss.length ++ tail).drop (totR nss k) = recS ns ((k : Int) + 1) g ++ r := by
  have hk : k < nss.length := (List.getElem?_eq_some_iff.mp h).1
  obtain ⟨r, e⟩ := recsK_pre (g := g) (show k + 1 ≤ nss.length from hk) (Nat.le_refl _)
  refine ⟨r ++ tail, ?_⟩
  rw [e, recsK_succ h]
  simp only [List.append_assoc]
  rw [List.drop_append_of_le_length (by rw [recsK_len (by omega)]; exact Nat.le_refl _), List.drop_eq_nil_of_le (by rw [recsK_len (by omega)]; exact Nat.le_refl _), List.nil_append]
theorem getD_drop {l : List (List Int)} {a b : Nat} : (l.drop a).getD b [] = l.getD (a + b) [] := by
  rw [List.getD_eq_getElem?_getD, List.getElem?_drop, List.getD_eq_getElem?_getD]
theorem okR_row {ns : List Int} {r g : Int} {j : Nat} (h : j < parI ns.length) : okR (rowR ns r g j) r j ((parI ns.length : Nat) : Int) g = true := by
  have l4 : (((wordsR ns).drop (4 * j)).take 4).length = 4 := by rw [List.length_take, List.length_drop, wordsR_len]; omega
  unfold okR
  have e1 : (rowR ns r g j).take 3 = [r, (j : Int), ((parI ns.length : Nat) : Int)] := rfl
  have e2 : (rowR ns r g j).getD 7 0 = g := by
    unfold rowR
    rw [List.getD_eq_getElem?_getD, List.getElem?_append_right (by rw [List.length_append, l4]; show 3 + 4 ≤ 7; decide), List.length_append, l4]
    rfl
  rw [e1, e2, decide_eq_true rfl, decide_eq_true rfl]
  rfl
theorem wpF_yes {rows : List (List Int)} {m : Nat} {ns : List Int} {r g : Int} {rest : List (List Int)} (h : rows.drop m = recS ns r g ++ rest) : wpF rows m r g = ((parI ns.length : Nat) : Int) := by
  have pl := parI_lim ns.length
  have hl : parI ns.length ≤ rows.length - m := by
    have e := congrArg List.length h
    rw [List.length_drop, List.length_append, recS_len] at e
    omega
  have at_ : ∀ j, j < parI ns.length → rows.getD (m + j) [] = rowR ns r g j := fun j hj => by
    rw [← getD_drop, h, List.getD_eq_getElem?_getD, List.getElem?_append_left (by rw [recS_len]; exact hj), recS_at hj]
    rfl
  have e0 : (rows.getD m []).getD 2 0 = ((parI ns.length : Nat) : Int) := by
    have z := at_ 0 (by omega)
    rw [Nat.add_zero] at z
    rw [z]
    rfl
  unfold wpF
  rw [e0, if_neg (by omega), if_pos]
  rw [List.all_eq_true]
  intro j hj
  have hj : j < parI ns.length := by have := List.mem_range.mp hj; omega
  rw [at_ j hj]
  exact okR_row hj
theorem RowsAt.cut {H : Hp} {vs : List V} {rs : List (List Int)} (x : RowsAt H vs rs) (a n : Nat) : RowsAt H ((vs.drop a).take n) ((rs.drop a).take n) := by
  refine ⟨by rw [List.length_take, List.length_take, List.length_drop, List.length_drop, x.1], fun i v h => ?_⟩
  have hi : i < n := by
    have := (List.getElem?_eq_some_iff.mp h).1
    rw [List.length_take] at this
    omega
  rw [List.getElem?_take_of_lt hi, List.getElem?_drop] at h
  obtain ⟨r, e, y⟩ := x.2 _ _ h
  exact ⟨r, by rw [List.getElem?_take_of_lt hi, List.getElem?_drop]; exact e, y⟩
def sp_whole_records (K : PySem.W.Frag) (C : Ex) : Sp := S2 fun a b H Q _ => ∃ (p : Addr) (vs : List V) (nss tail : List (List Int)) (g : Int), a = .ref p ∧ b = .int g ∧ H p = some (.lst vs) ∧ RowsAt H vs (recsK nss g nss.length ++ tail) ∧ (∀ ns ∈ nss, chk ns = true ∧ ns.length ≤ 2000) ∧
  (tail = [] ∨ wpF (recsK nss g nss.length ++ tail) (totR nss nss.length) ((nss.length : Int) + 1) g = 0) ∧ vs.length ≤ 100000 ∧ nss.length ≤ 1000 ∧
  ∀ w us H', Same H H' → H w = none → H' w = some (.lst us) → TupsAt H' us nss → Q (.ref w) H'
def t_whole_records (K : PySem.W.Frag) (C : Ex) (E : XK) : TS :=
  tSeq (tAsg (tLst (tNil)) (gName 2))
  (tSeq (tAsg (tC (.int 0)) (gName 3))
  (tSeq (tWhile (tTest (tOp (uLt K) (tVar 3) (tCB (uLen K) (tCons (tVar 0) (tNil)))))
  (tSeq (tAsg (uCall (sp_whole_parts K C) (WB E) (tCons (tVar 0) (tCons (tVar 3) (tCons (tOp (uAdd K) (tCB (uLen K) (tCons (tVar 2) (tNil))) (tC (.int 1))) (tCons (tVar 1) (tNil)))))) (gName 4))
  (tSeq (tIfS (tTest (tOp (uEq K) (tVar 4) (tC (.int 0)))) (tBreak) (tNext))
  (tSeq (tDrop (tBM K "list" (rAppend) (tVar 2) (tCons (uCall (sp_record_intent K C) (WB E) (tCons (tSl (uSl K) (tVar 0) (tPart (tVar 3)) (tPart (tOp (uAdd K) (tVar 3) (tVar 4)))) (tNil))) (tNil))))
  (tAug 3 (tVar 4) (ipI fun i j => i + j))))))
  (tRet (tVar 2))))
theorem pure_whole_records {K : PySem.W.Frag} {C : Ex} {vs : List V} {H : Hp} {Q : VK} {E : XK} (F : Fa K C) (h : sp_whole_records K C vs H Q E) : t_whole_records K C E { nx := fun _ H' => Q .non H', rt := Q } (start ["sectors", "generation", "intents", "at", "parts"] vs) H := by
  obtain ⟨a, b, rfl, p, vs, nss, tail, g, rfl, rfl, hp, hr, hc, ht, ln, lnn, k⟩ := h
  unfold t_whole_records
  have tl := recsK_len (g := g) (Nat.le_refl nss.length)
  have lv : vs.length = totR nss nss.length + tail.length := by rw [hr.1, List.length_append, tl]
  walk_at "run1"
  rename_i W hW
  refine f_while (fun σ H' => ∃ (i : Nat) (us : List V) (v4 : Option V), σ = [some (.ref p), some (.int g), some (.ref W), some (.int (totR nss i : Nat)), v4] ∧ i ≤ nss.length ∧ Same H H' ∧ H' W = some (.lst us) ∧ TupsAt H' us (nss.take i)) (fun σ H' => match σ[3]? with
    | some (some (V.int z)) => vs.length - z.toNat
    | _ => 0) ⟨0, [], none, rfl, Nat.zero_le _, same_new hW, upd_same, by rw [List.take_zero]; exact .nil⟩ ?_
  rintro σ H1 ⟨i, us, v4, rfl, hi, s1, eW, tu⟩
  have hp1 := s1 _ _ hp
  have lu : us.length = i := by rw [tu.1, List.length_take]; omega
  have hrl : (recsK nss g nss.length ++ tail).length = vs.length := hr.1.symm
  walk_at "run1"
  · rename_i hlt
    have hlt : totR nss i < vs.length := by omega
    rw [lu]
    by_cases hin : i < nss.length
    · have hns := List.getElem?_eq_getElem hin
      generalize nss[i] = ns at hns
      obtain ⟨cns, lns⟩ := hc ns (List.mem_of_getElem? hns)
      obtain ⟨rest, hd⟩ := recs_drop (g := g) (tail := tail) hns
      have pl := parI_lim ns.length
      have hll : parI ns.length ≤ vs.length - totR nss i := by
        have e := congrArg List.length hd
        rw [List.length_drop, hrl, List.length_append, recS_len] at e
        omega
      refine w_S4 ⟨p, vs, _, totR nss i, (i : Int) + 1, g, rfl, rfl, rfl, rfl, hp1, hr.same s1, by omega, by omega, fun H2 s2 => ?_⟩
      rw [wpF_yes hd]
      have hp2 := s2 _ _ hp1
      have hr2 := (hr.same s1).same s2
      have eW2 := s2 _ _ eW
      walk_at "run1"
      · rename_i h
        omega
      walk_at "run1"
      refine w_slL (SqL.of hp2) fun q hq => ?_
      rw [show ((totR nss i : Nat) : Int) + ((parI ns.length : Nat) : Int) = ((totR nss i + parI ns.length : Nat) : Int) by omega, cut_mid _ _ _ (by omega) (by omega), show totR nss i + parI ns.length - totR nss i = parI ns.length by omega]
      have s3 := same_new (o := .lst ((vs.drop (totR nss i)).take (parI ns.length))) hq
      have rq : RowsAt (upd H2 q (.lst ((vs.drop (totR nss i)).take (parI ns.length)))) ((vs.drop (totR nss i)).take (parI ns.length)) (recS ns ((i : Int) + 1) g) := by
        have e1 : recS ns ((i : Int) + 1) g = ((recsK nss g nss.length ++ tail).drop (totR nss i)).take (parI ns.length) := by
          rw [hd, List.take_append_of_le_length (by rw [recS_len]; exact Nat.le_refl _), List.take_of_length_le (by rw [recS_len]; exact Nat.le_refl _)]
        rw [e1]
        exact (hr2.same s3).cut _ _
      have eW3 := s3 _ _ eW2
      have tu3 := (tu.same s2).same s3
      have eq3 : upd H2 q (.lst ((vs.drop (totR nss i)).take (parI ns.length))) q = some (.lst ((vs.drop (totR nss i)).take (parI ns.length))) := upd_same
      have s13 := (s1.trans s2).trans s3
      generalize upd H2 q _ = H3 at *
      walk_at "run1"
      refine w_S1 ⟨q, _, ns, (i : Int) + 1, g, rfl, eq3, rq, cns, lns, fun t H4 s4 ht4 et => ?_⟩
      have eW4 := s4 _ _ eW3
      walk_at "run1"
      refine w_app eW4 (lt_line (by omega)) ?_
      walk_at "run1"
      refine ⟨⟨i + 1, us ++ [.ref t], _, by rw [totR_succ hns]; rfl, hin, same_upd (s13.trans s4) hW, upd_same, ?_⟩, ?_⟩
      · rw [take_snoc hns]
        exact ((tu3.same s4).snoc ⟨t, rfl, et⟩).map fun t' xs e => upd_oth e (ne_of e eW4 fun z => nomatch z)
      · show vs.length - ((totR nss i : Int) + (parI ns.length : Int)).toNat < vs.length - ((totR nss i : Nat) : Int).toNat
        omega
    · obtain rfl : i = nss.length := by omega
      rw [List.take_length] at tu
      rcases ht with rfl | ht
      · rw [List.length_nil] at lv
        omega
      · refine w_S4 ⟨p, vs, _, totR nss nss.length, (nss.length : Int) + 1, g, rfl, rfl, rfl, rfl, hp1, hr.same s1, by omega, by omega, fun H2 s2 => ?_⟩
        rw [ht]
        walk_at "run1"
        exact k W us H2 (s1.trans s2) hW (s2 _ _ eW) (tu.same s2)
  · walk_at "run1"
    rename_i hge
    obtain rfl : i = nss.length := by
      rcases Nat.lt_or_ge i nss.length with q | q
      · exfalso
        obtain ⟨rest, hd⟩ := recs_drop (g := g) (tail := tail) (List.getElem?_eq_getElem q)
        have e := congrArg List.length hd
        have pl := parI_lim (nss[i]).length
        rw [List.length_drop, hrl, List.length_append, recS_len] at e
        omega
      · omega
    rw [List.take_length] at tu
    exact k W us H1 s1 hW eW tu
def consec (s : Int) (rows : List (List Int)) : List (Int × List Int) := (List.range rows.length).map fun j : Nat => (s + (j : Int), rows.getD j [])
theorem consec_snoc (s : Int) (rows : List (List Int)) (r : List Int) : consec s (rows ++ [r]) = consec s rows ++ [(s + (rows.length : Int), r)] := by
  unfold consec
  rw [List.length_append, show rows.length + [r].length = rows.length + 1 from rfl, List.range_succ, List.map_append]
  congr 1
  · refine List.map_congr_left fun j hj => ?_
    have hj := List.mem_range.mp hj
    rw [List.getD_eq_getElem?_getD, List.getElem?_append_left hj, List.getD_eq_getElem?_getD]
  · rw [List.map_cons, List.map_nil, List.getD_eq_getElem?_getD, List.getElem?_append_right (Nat.le_refl _), Nat.sub_self]
    rfl
theorem consec_len (s : Int) (rows : List (List Int)) : (consec s rows).length = rows.length := by unfold consec; rw [List.length_map, List.length_range]
def pushAll (D : DiskS) (ws : List (Int × List Int)) : DiskS := ws.foldl (fun D p => pushW D p.1 p.2) D
theorem pushAll_snoc {D : DiskS} {ws : List (Int × List Int)} {s : Int} {r : List Int} : pushAll D (ws ++ [(s, r)]) = pushW (pushAll D ws) s r := by unfold pushAll; rw [List.foldl_append]; rfl
theorem pushAll_secs {D : DiskS} {ws : List (Int × List Int)} : (pushAll D ws).secs = D.secs := by
  unfold pushAll
  induction ws generalizing D with
  | nil => rfl
  | cons p ws ih => exact ih.trans rfl
theorem pushAll_wr {D : DiskS} {ws : List (Int × List Int)} : (pushAll D ws).wr = D.wr ++ ws := by
  unfold pushAll
  induction ws generalizing D with
  | nil => rw [List.append_nil]; rfl
  | cons p ws ih =>
    refine ih.trans ?_
    show (D.wr ++ [(p.1, p.2)]) ++ ws = D.wr ++ p :: ws
    rw [List.append_assoc]
    rfl
/-- rows from the right -/
theorem rows_rec {P : List (List Int) → Prop} (h0 : P []) (h1 : ∀ rows r, P rows → P (rows ++ [r])) (rows : List (List Int)) : P rows := by
  have : ∀ l : List (List Int), P l.reverse := fun l => by
    induction l with
    | nil => exact h0
    | cons a l ih => rw [List.reverse_cons]; exact h1 _ _ ih
  have z := this rows.reverse
  rw [List.reverse_reverse] at z
  exact z
theorem rd_all (D : DiskS) (s : Int) (t : Int) (rows : List (List Int)) : rdS (pushAll D (consec s rows)) t = if s ≤ t ∧ t < s + (rows.length : Int) then rows.getD (t - s).toNat [] else rdS D t := by
  refine rows_rec (P := fun rows => rdS (pushAll D (consec s rows)) t = if s ≤ t ∧ t < s + (rows.length : Int) then rows.getD (t - s).toNat [] else rdS D t) ?_ (fun rows r ih => ?_) rows
  · rw [if_neg (by rw [List.length_nil]; omega)]
    rfl
  · rw [consec_snoc, pushAll_snoc, rd_push, ih, List.length_append, show rows.length + [r].length = rows.length + 1 from rfl]
    by_cases e : t = s + (rows.length : Int)
    · rw [if_pos e, if_pos (by omega), e, show (s + (rows.length : Int) - s).toNat = rows.length by omega, List.getD_eq_getElem?_getD, List.getElem?_append_right (Nat.le_refl _), Nat.sub_self]
      rfl
    · rw [if_neg e]
      by_cases q : s ≤ t ∧ t < s + (rows.length : Int)
      · rw [if_pos q, if_pos (by omega), List.getD_eq_getElem?_getD, List.getD_eq_getElem?_getD, List.getElem?_append_left (by omega)]
      · rw [if_neg q, if_neg (by omega)]
theorem cut_oth {rs : List (List Int)} {w : List (Int × List Int)} {cs : List Int} {s : Int} {r : List Int} {t : Nat} (hne : s.toNat ≠ t) : (cutS rs (w ++ [(s, r)]) cs).getD t [] = (cutS rs w cs).getD t [] := by
  rw [cutS_snoc]
  cases cs[w.length]? with
  | none => rfl
  | some c => simp only [List.getD_eq_getElem?_getD]; rw [List.getElem?_set_ne hne]
theorem cut_own {rs : List (List Int)} {w : List (Int × List Int)} {cs : List Int} {s : Int} {r : List Int} (hs : s.toNat < rs.length) : (cutS rs (w ++ [(s, r)]) cs).getD s.toNat [] = torn (cs.getD w.length 0) r ((cutS rs w cs).getD s.toNat []) := by
  rw [cutS_snoc, List.getD_eq_getElem?_getD (l := cs)]
  cases cs[w.length]? with
  | none => rfl
  | some c =>
    rw [List.getD_eq_getElem?_getD, List.getElem?_set_self (by rw [cutS_len]; exact hs)]
    rfl
theorem cut_all (rs : List (List Int)) (s : Int) (cs : List Int) (t : Nat) (s0 : 0 ≤ s) (rows : List (List Int)) (hl : s + (rows.length : Int) ≤ rs.length) : (cutS rs (consec s rows) cs).getD t [] = if s ≤ (t : Int) ∧ (t : Int) < s + (rows.length : Int) then torn (cs.getD (t - s.toNat) 0) (rows.getD (t - s.toNat) []) (rs.getD t []) else rs.getD t [] := by
  revert hl
  refine rows_rec (P := fun rows => s + (rows.length : Int) ≤ rs.length → (cutS rs (consec s rows) cs).getD t [] = if s ≤ (t : Int) ∧ (t : Int) < s + (rows.length : Int) then torn (cs.getD (t - s.toNat) 0) (rows.getD (t - s.toNat) []) (rs.getD t []) else rs.getD t []) ?_ (fun rows r ih => ?_) rows
  · intro _
    rw [if_neg (by rw [List.length_nil]; omega)]
    show (cutS rs [] cs).getD t [] = _
    rw [cutS_e]
  · intro hl
    rw [List.length_append, show rows.length + [r].length = rows.length + 1 from rfl] at hl ⊢
    have ih := ih (by omega)
    rw [consec_snoc]
    by_cases e : t = (s + (rows.length : Int)).toNat
    · subst e
      rw [cut_own (by omega), ih, if_neg (by omega), if_pos (by omega), consec_len, show (s + (rows.length : Int)).toNat - s.toNat = rows.length by omega]
      have e2 : (rows ++ [r]).getD rows.length [] = r := by
        rw [List.getD_eq_getElem?_getD, List.getElem?_append_right (Nat.le_refl _), Nat.sub_self]
        rfl
      rw [e2]
    · rw [cut_oth (fun q => e q.symm), ih]
      by_cases q : s ≤ (t : Int) ∧ (t : Int) < s + (rows.length : Int)
      · rw [if_pos q, if_pos (by omega)]
        have e2 : (rows ++ [r]).getD (t - s.toNat) [] = rows.getD (t - s.toNat) [] := by
          rw [List.getD_eq_getElem?_getD, List.getD_eq_getElem?_getD, List.getElem?_append_left (by omega)]
        rw [e2]
      · rw [if_neg q, if_neg (by omega)]
theorem torn7 {c : Int} {r o : List Int} (hr : r.length = 8) (ho : o.length = 8) (h0 : 0 ≤ c) (h1 : c < 8) : (torn c r o).getD 7 0 = o.getD 7 0 := by
  unfold torn
  rw [List.getD_eq_getElem?_getD, List.getElem?_append_right (by rw [List.length_take]; omega), List.length_take, List.getElem?_drop, List.getD_eq_getElem?_getD]
  congr 2
  omega
theorem torn8 {r o : List Int} (hr : r.length = 8) (ho : o.length = 8) : torn 8 r o = r := by
  unfold torn
  rw [show (8 : Int).toNat = 8 from rfl, List.take_of_length_le (by omega), List.drop_eq_nil_of_le (by omega), List.append_nil]
/-- the rows of records from the number r on -/
def recsR (nss : List (List Int)) (r g : Int) (k : Nat) : List (List Int) := (List.range k).flatMap fun i : Nat => recS (nss.getD i []) (r + (i : Int)) g
theorem recsR_succ {nss : List (List Int)} {r g : Int} {k : Nat} {ns : List Int} (h : nss[k]? = some ns) : recsR nss r g (k + 1) = recsR nss r g k ++ recS ns (r + (k : Int)) g := by
  unfold recsR
  rw [List.range_succ, List.flatMap_append, List.flatMap_cons, List.flatMap_nil, List.append_nil, List.getD_eq_getElem?_getD, h]
  rfl
theorem recsR_len {nss : List (List Int)} {r g : Int} : ∀ {k : Nat}, k ≤ nss.length → (recsR nss r g k).length = totR nss k
  | 0, _ => by unfold recsR totR; simp
  | k + 1, h => by
    rw [recsR_succ (List.getElem?_eq_getElem h), List.length_append, recsR_len (by omega), recS_len, totR_succ (List.getElem?_eq_getElem h)]
theorem tot_totR {nss : List (List Int)} : ∀ {k : Nat}, k ≤ nss.length → tot (nss.take k) = ((totR nss k : Nat) : Int)
  | 0, _ => by unfold tot totR; simp
  | k + 1, h => by
    rw [tot_succ (List.getElem?_eq_getElem h), tot_totR (by omega), totR_succ (List.getElem?_eq_getElem h)]
    omega
theorem consec_app (s : Int) (rows : List (List Int)) : ∀ qs : List (List Int), consec s (rows ++ qs) = consec s rows ++ consec (s + (rows.length : Int)) qs := by
  refine rows_rec (P := fun qs => consec s (rows ++ qs) = consec s rows ++ consec (s + (rows.length : Int)) qs) ?_ fun qs q ih => ?_
  · rw [List.append_nil]
    show _ = _ ++ []
    rw [List.append_nil]
  · rw [← List.append_assoc, consec_snoc, ih, consec_snoc, List.append_assoc, List.length_append]
    congr 3
    rw [Int.natCast_add, Int.add_assoc]
theorem rowsW_consec (ns : List Int) (s r g : Int) : rowsW ns s r g = consec s (recS ns r g) := by
  unfold rowsW consec
  rw [recS_len]
  refine List.map_congr_left fun j hj => ?_
  have hj := List.mem_range.mp hj
  rw [List.getD_eq_getElem?_getD, recS_at hj]
  rfl
theorem wrsK_consec {nss : List (List Int)} {s r g : Int} : ∀ {k : Nat}, k ≤ nss.length → wrsK nss s r g k = consec s (recsR nss r g k)
  | 0, _ => rfl
  | k + 1, h => by
    rw [wrsK_succ (List.getElem?_eq_getElem h), wrsK_consec (by omega), recsR_succ (List.getElem?_eq_getElem h), consec_app, rowsW_consec, tot_totR (by omega), recsR_len (by omega)]
theorem row7 {ns : List Int} {r g : Int} {j : Nat} (h : j < parI ns.length) : (rowR ns r g j).getD 7 0 = g := by
  have l4 : (((wordsR ns).drop (4 * j)).take 4).length = 4 := by rw [List.length_take, List.length_drop, wordsR_len]; omega
  unfold rowR
  rw [List.getD_eq_getElem?_getD, List.getElem?_append_right (by rw [List.length_append, l4]; show 3 + 4 ≤ 7; decide), List.length_append, l4]
  rfl
theorem rowR_nn {ns : List Int} {r g : Int} {j : Nat} (hn : ∀ z ∈ ns, 0 ≤ z) (hr : 0 ≤ r) (hg : 0 ≤ g) : ∀ z ∈ rowR ns r g j, 0 ≤ z := fun z hz => by
  unfold rowR at hz
  rcases List.mem_append.mp hz with hz | hz
  · rcases List.mem_append.mp hz with hz | hz
    · simp only [List.mem_cons, List.not_mem_nil, or_false] at hz
      rcases hz with rfl | rfl | rfl <;> omega
    · have hz := List.mem_of_mem_drop (List.mem_of_mem_take hz)
      unfold wordsR at hz
      rcases List.mem_append.mp hz with hz | hz
      · rcases List.mem_cons.mp hz with rfl | hz
        · omega
        · exact hn z hz
      · rw [List.eq_of_mem_replicate hz]; decide
  · rw [List.mem_singleton.mp hz]; exact hg
/-- the row of part j of record k -/
theorem recsR_at {nss : List (List Int)} {r g : Int} {k j : Nat} {ns : List Int} (h : nss[k]? = some ns) (hj : j < parI ns.length) : ∀ {n : Nat}, k < n → n ≤ nss.length → (recsR nss r g n).getD (totR nss k + j) [] = rowR ns (r + (k : Int)) g j
  | 0, h0, _ => absurd h0 (by omega)
  | n + 1, hk, hn => by
    rw [recsR_succ (List.getElem?_eq_getElem hn), List.getD_eq_getElem?_getD]
    have le := recsR_len (r := r) (g := g) (show n ≤ nss.length by omega)
    rcases Nat.lt_or_ge k n with q | q
    · have ih := recsR_at (r := r) (g := g) h hj q (by omega)
      have hl : totR nss k + j < totR nss n := by
        have mono : ∀ d, k + 1 + d ≤ nss.length → totR nss (k + 1) ≤ totR nss (k + 1 + d) := fun d => by
          induction d with
          | zero => intro _; exact Nat.le_refl _
          | succ d ih2 =>
            intro hd
            have := ih2 (by omega)
            have e := totR_succ (List.getElem?_eq_getElem (show k + 1 + d < nss.length by omega))
            rw [show k + 1 + (d + 1) = k + 1 + d + 1 by omega, e]
            omega
        have e := totR_succ h
        have m := mono (n - (k + 1)) (by omega)
        rw [show k + 1 + (n - (k + 1)) = n by omega] at m
        omega
      rw [List.getElem?_append_left (by omega), ← List.getD_eq_getElem?_getD]
      exact ih
    · obtain rfl : k = n := by omega
      have e2 := (List.getElem?_eq_some_iff.mp h).2
      rw [List.getElem?_append_right (by omega), le, show totR nss k + j - totR nss k = j by omega, e2, recS_at hj]
      rfl
theorem totR_mono {nss : List (List Int)} {k : Nat} : ∀ {d : Nat}, k + d ≤ nss.length → totR nss k ≤ totR nss (k + d)
  | 0, _ => Nat.le_refl _
  | d + 1, h => by
    have ih := totR_mono (nss := nss) (k := k) (d := d) (by omega)
    have e := totR_succ (List.getElem?_eq_getElem (show k + d < nss.length by omega))
    rw [show k + (d + 1) = k + d + 1 by omega, e]
    omega
/-- which part of which record a row is -/
theorem totR_find {nss : List (List Int)} : ∀ {n i : Nat}, n ≤ nss.length → i < totR nss n → ∃ k j ns, k < n ∧ nss[k]? = some ns ∧ j < parI ns.length ∧ i = totR nss k + j
  | 0, i, _, h => by unfold totR at h; simp at h
  | n + 1, i, hn, h => by
    rcases Nat.lt_or_ge i (totR nss n) with q | q
    · obtain ⟨k, j, ns, a, b, c, d⟩ := totR_find (show n ≤ nss.length by omega) q
      exact ⟨k, j, ns, by omega, b, c, d⟩
    · have e := totR_succ (List.getElem?_eq_getElem hn)
      exact ⟨n, i - totR nss n, _, by omega, List.getElem?_eq_getElem hn, by omega, by omega⟩
/-- what is there of two batches behind a cut -/
structure LogS (nss0 nss1 : List (List Int)) (g : Int) (cs : List Int) (rows : List (List Int)) : Prop where
  ln : rows.length = 16
  fit : totR nss0 nss0.length + totR nss1 nss1.length ≤ 16
  a : ∀ i, i < totR nss0 nss0.length → rows.getD i [] = (recsR nss0 1 g nss0.length).getD i []
  b : ∀ i, i < totR nss1 nss1.length → (cs.getD i 0 = 8 → rows.getD (totR nss0 nss0.length + i) [] = (recsR nss1 (1 + (nss0.length : Int)) g nss1.length).getD i []) ∧ (cs.getD i 0 ≠ 8 → (rows.getD (totR nss0 nss0.length + i) []).getD 7 0 ≠ g)
  c : ∀ i, totR nss0 nss0.length + totR nss1 nss1.length ≤ i → i < 16 → (rows.getD i []).getD 7 0 ≠ g
/-- how many records of the second batch are whole -/
def WholeN (nss1 : List (List Int)) (cs : List Int) (m : Nat) : Prop := m ≤ nss1.length ∧ (∀ i, i < totR nss1 m → cs.getD i 0 = 8) ∧ ∀ ns, nss1[m]? = some ns → ∃ j, j < parI ns.length ∧ cs.getD (totR nss1 m + j) 0 ≠ 8
theorem wpF_zero {rows : List (List Int)} {m : Nat} {rec g : Int} (h : ∀ p : Int, 1 ≤ p → p = (rows.getD m []).getD 2 0 → p ≤ (rows.length : Int) - (m : Int) → ∃ j : Nat, (j : Int) < p ∧ okR (rows.getD (m + j) []) rec j p g = false) : wpF rows m rec g = 0 := by
  unfold wpF
  split
  · rfl
  · rename_i q
    rw [if_neg]
    intro q2
    rw [List.all_eq_true] at q2
    obtain ⟨j, hj, e⟩ := h _ (by omega) rfl (by omega)
    have z := q2 j (List.mem_range.mpr (by omega))
    rw [e] at z
    cases z
theorem okR_no7 {w : List Int} {rec p g : Int} {j : Nat} (h : w.getD 7 0 ≠ g) : okR w rec j p g = false := by
  unfold okR
  rw [decide_eq_false h, Bool.and_false]
theorem totR_app {a b : List (List Int)} {m : Nat} : totR (a ++ b) (a.length + m) = totR a a.length + totR b m := by
  unfold totR
  rw [List.take_length, List.take_append, List.take_of_length_le (by omega), show a.length + m - a.length = m by omega, List.map_append, List.sum_append]
theorem totR_take {b : List (List Int)} {m : Nat} : totR (b.take m) (b.take m).length = totR b m := by
  unfold totR
  rw [List.take_length]
theorem recsK_app {a b : List (List Int)} {g : Int} : ∀ {m : Nat}, m ≤ b.length → recsK (a ++ b) g (a.length + m) = recsR a 1 g a.length ++ recsR b (1 + (a.length : Int)) g m
  | 0, _ => by
    unfold recsK recsR
    rw [Nat.add_zero, show ((List.range 0).flatMap fun i : Nat => recS (b.getD i []) (1 + (a.length : Int) + (i : Int)) g) = [] from rfl, List.append_nil]
    have fc : ∀ l : List Nat, (∀ i ∈ l, i < a.length) → (l.flatMap fun i : Nat => recS ((a ++ b).getD i []) ((i : Int) + 1) g) = l.flatMap fun i : Nat => recS (a.getD i []) (1 + (i : Int)) g := fun l hl => by
      induction l with
      | nil => rfl
      | cons i l ih =>
        rw [List.flatMap_cons, List.flatMap_cons, ih fun j hj => hl j (List.mem_cons_of_mem _ hj), List.getD_eq_getElem?_getD, List.getElem?_append_left (hl i (List.mem_cons_self ..)), List.getD_eq_getElem?_getD, Int.add_comm]
    exact fc _ fun i hi => List.mem_range.mp hi
  | m + 1, h => by
    have e1 : (a ++ b)[a.length + m]? = some b[m] := by rw [List.getElem?_append_right (by omega), show a.length + m - a.length = m by omega, List.getElem?_eq_getElem h]
    rw [show a.length + (m + 1) = a.length + m + 1 by omega, recsK_succ e1, recsK_app (by omega), recsR_succ (List.getElem?_eq_getElem h), List.append_assoc]
    congr 3
    omega
theorem recsR_pre {b : List (List Int)} {r g : Int} {m : Nat} (h : m ≤ b.length) : recsR (b.take m) r g (b.take m).length = recsR b r g m := by
  unfold recsR
  rw [List.length_take, Nat.min_eq_left h]
  have fc : ∀ l : List Nat, (∀ i ∈ l, i < m) → (l.flatMap fun i : Nat => recS ((b.take m).getD i []) (r + (i : Int)) g) = l.flatMap fun i : Nat => recS (b.getD i []) (r + (i : Int)) g := fun l hl => by
    induction l with
    | nil => rfl
    | cons i l ih =>
      rw [List.flatMap_cons, List.flatMap_cons, ih fun j hj => hl j (List.mem_cons_of_mem _ hj), List.getD_eq_getElem?_getD, List.getElem?_take_of_lt (hl i (List.mem_cons_self ..)), List.getD_eq_getElem?_getD]
  exact fc _ fun i hi => List.mem_range.mp hi
theorem ext_getD {a b : List (List Int)} (hl : a.length = b.length) (h : ∀ i, i < a.length → a.getD i [] = b.getD i []) : a = b := by
  refine List.ext_getElem hl fun i h1 h2 => ?_
  have z := h i h1
  rw [List.getD_eq_getElem?_getD, List.getElem?_eq_getElem h1, List.getD_eq_getElem?_getD, List.getElem?_eq_getElem h2] at z
  exact z
theorem LogS.whole {nss0 nss1 : List (List Int)} {g : Int} {cs : List Int} {rows : List (List Int)} {m : Nat} (x : LogS nss0 nss1 g cs rows) (hc : ∀ ns ∈ nss1, 3 ≤ ns.length) (w : WholeN nss1 cs m) :
    ∃ tail, rows = recsK (nss0 ++ nss1.take m) g (nss0 ++ nss1.take m).length ++ tail ∧ (tail = [] ∨ wpF (recsK (nss0 ++ nss1.take m) g (nss0 ++ nss1.take m).length ++ tail) (totR (nss0 ++ nss1.take m) (nss0 ++ nss1.take m).length) (((nss0 ++ nss1.take m).length : Int) + 1) g = 0) := by
  obtain ⟨w1, w2, w3⟩ := w
  have lt : (nss1.take m).length = m := by rw [List.length_take]; omega
  have tm : totR nss1 m ≤ totR nss1 nss1.length := by
    have z := totR_mono (nss := nss1) (k := m) (d := nss1.length - m) (by omega)
    rw [show m + (nss1.length - m) = nss1.length by omega] at z
    exact z
  have fit := x.fit
  have e0 : recsK (nss0 ++ nss1.take m) g (nss0 ++ nss1.take m).length = recsR nss0 1 g nss0.length ++ recsR nss1 (1 + (nss0.length : Int)) g m := by
    rw [List.length_append, recsK_app (Nat.le_refl _), recsR_pre w1]
  have et : totR (nss0 ++ nss1.take m) (nss0 ++ nss1.take m).length = totR nss0 nss0.length + totR nss1 m := by
    rw [List.length_append, totR_app, totR_take]
  have l0 := recsR_len (r := 1) (g := g) (Nat.le_refl nss0.length)
  have l1 := recsR_len (r := 1 + (nss0.length : Int)) (g := g) w1
  have l2 := recsR_len (r := 1 + (nss0.length : Int)) (g := g) (Nat.le_refl nss1.length)
  have eR : rows = (recsR nss0 1 g nss0.length ++ recsR nss1 (1 + (nss0.length : Int)) g m) ++ rows.drop (totR nss0 nss0.length + totR nss1 m) := by
    have hr : rows = rows.take (totR nss0 nss0.length + totR nss1 m) ++ rows.drop (totR nss0 nss0.length + totR nss1 m) := (List.take_append_drop _ _).symm
    have ht : rows.take (totR nss0 nss0.length + totR nss1 m) = recsR nss0 1 g nss0.length ++ recsR nss1 (1 + (nss0.length : Int)) g m := by
      refine ext_getD (by rw [List.length_take, x.ln, List.length_append, l0, l1]; omega) fun i hi => ?_
      rw [List.length_take, x.ln] at hi
      rw [List.getD_eq_getElem?_getD, List.getElem?_take_of_lt (by omega), ← List.getD_eq_getElem?_getD]
      rcases Nat.lt_or_ge i (totR nss0 nss0.length) with q | q
      · rw [x.a i q, List.getD_eq_getElem?_getD, List.getD_eq_getElem?_getD, List.getElem?_append_left (by omega)]
      · have h1 : i - totR nss0 nss0.length < totR nss1 m := by omega
        have z := (x.b (i - totR nss0 nss0.length) (by omega)).1 (w2 _ h1)
        rw [show totR nss0 nss0.length + (i - totR nss0 nss0.length) = i by omega] at z
        obtain ⟨k, j, ns, k1, k2, k3, k4⟩ := totR_find w1 h1
        rw [z, k4, recsR_at k2 k3 (show k < nss1.length by omega) (Nat.le_refl _), List.getD_eq_getElem?_getD, List.getElem?_append_right (by omega), l0, k4, ← List.getD_eq_getElem?_getD, recsR_at k2 k3 k1 w1]
    rw [← ht]
    exact hr
  rw [e0, et]
  refine ⟨rows.drop (totR nss0 nss0.length + totR nss1 m), eR, ?_⟩
  rw [← eR]
  rcases Nat.lt_or_ge (totR nss0 nss0.length + totR nss1 m) 16 with q16 | q16
  · right
    refine wpF_zero fun p p1 ep pl => ?_
    rcases Nat.lt_or_ge m nss1.length with qm | qm
    · obtain ⟨j, hj, hne⟩ := w3 _ (List.getElem?_eq_getElem qm)
      have hns := hc _ (List.getElem_mem qm)
      generalize hN : nss1[m] = ns at *
      have hN : nss1[m]? = some ns := by rw [List.getElem?_eq_getElem qm, hN]
      have et1 := totR_succ hN
      have pp := parI_lim ns.length
      have tm1 : totR nss1 (m + 1) ≤ totR nss1 nss1.length := by
        have z := totR_mono (nss := nss1) (k := m + 1) (d := nss1.length - (m + 1)) (by omega)
        rw [show m + 1 + (nss1.length - (m + 1)) = nss1.length by omega] at z
        exact z
      have B := fun i (hi : i < parI ns.length) => x.b (totR nss1 m + i) (by omega)
      by_cases h0 : cs.getD (totR nss1 m + 0) 0 = 8
      · have r0 := (B 0 (by omega)).1 h0
        rw [recsR_at hN (show 0 < parI ns.length by omega) qm (Nat.le_refl _)] at r0
        have ep2 : p = ((parI ns.length : Nat) : Int) := by
          rw [ep]
          have e := congrArg (fun l => l.getD 2 0) r0
          exact e
        refine ⟨j, by omega, okR_no7 ?_⟩
        have z := (B j hj).2 hne
        rw [← Nat.add_assoc] at z
        exact z
      · refine ⟨0, by omega, okR_no7 ?_⟩
        have z := (B 0 (by omega)).2 h0
        rw [← Nat.add_assoc] at z
        exact z
    · obtain rfl : m = nss1.length := by omega
      exact ⟨0, by omega, okR_no7 (x.c _ (by omega) (by omega))⟩
  · left
    exact List.drop_eq_nil_of_le (by rw [x.ln]; omega)
/-- sectors of the log hold nothing of the generation g -/
def NoGen (D : DiskS) (g : Int) : Prop := ∀ t : Int, 4 ≤ t → t < 20 → (rdS D t).getD 7 0 ≠ g
def sp__law_old_log (K : PySem.W.Frag) (C : Ex) : Sp := S3 fun x b c H Q _ => ∃ (d a w n : Addr) (D : DiskS) (z og g : Int), x = .ref d ∧ b = .int z ∧ c = .int og ∧ DiskAt C H d a w n D ∧ DskOn D 96 0 ∧ NoGen D g ∧ 0 ≤ og ∧ og < g ∧
  ∀ H' w' n' D', DiskAt C H' d a w' n' D' → DskOn D' 96 0 → D'.wr = [] → NoGen D' g → Stp (dkF d a w n) H (dkF d a w' n') H' → Q .non H'
def t__law_old_log (K : PySem.W.Frag) (C : Ex) (E : XK) : TS :=
  tSeq (tAsg (tC (.int 4)) (gName 3))
  (tSeq (tAsg (tC (.int 1)) (gName 4))
  (tSeq (tFor (iRng1 (tCons (tC (.int 8)) (tNil))) (gName 5)
  (tSeq (tAsg (uCall (sp__law_intent K C) (WB E) (tCons (tOp (uAdd K) (tVar 1) (tOp (uMul) (tC (.int 7919)) (tVar 5))) (tCons (tC (.int 9)) (tNil)))) (gName 6))
  (tSeq (tAsg (uCall (sp_record_sectors K C) (WB E) (tCons (tVar 6) (tCons (tVar 4) (tCons (tVar 2) (tNil))))) (gName 7))
  (tIfS (tTest (tOp (uLe K) (tOp (uAdd K) (tVar 3) (tCB (uLen K) (tCons (tVar 7) (tNil)))) (tC (.int 20)))) (tSeq (tFor (iList K (tVar 7)) (gName 8)
  (tSeq (tDrop (uMeth C.Disk "write" (sp_Disk_write K C) (WB E) (tVar 0) (tCons (tVar 3) (tCons (tVar 8) (tNil)))))
  (tAsg (tOp (uAdd K) (tVar 3) (tC (.int 1))) (gName 3))))
  (tAsg (tOp (uAdd K) (tVar 4) (tC (.int 1))) (gName 4))) (tNext)))))
  (tDrop (uMeth C.Disk "flush" (sp_Disk_flush K C) (WB E) (tVar 0) (tNil)))))
theorem pure__law_old_log {K : PySem.W.Frag} {C : Ex} {vs : List V} {H : Hp} {Q : VK} {E : XK} (F : Fa K C) (h : sp__law_old_log K C vs H Q E) : t__law_old_log K C E { nx := fun _ H' => Q .non H', rt := Q } (start ["_law_disk", "_law_cell_here", "_law_generation", "_law_sector", "_law_record", "_law_k", "_law_intent_here", "_law_rows", "_law_row"] vs) H := by
  obtain ⟨x, b, c, rfl, d, a, w, n, D, z, og, g, rfl, rfl, rfl, hD, on, ng, og0, ogg, k⟩ := h
  unfold t__law_old_log
  walk_at "run1"
  refine f_range (fun i σ H' => ∃ (s r : Int) (D' : DiskS) (v5 v6 v7 v8 : Option V), σ = [some (.ref d), some (.int z), some (.int og), some (.int s), some (.int r), v5, v6, v7, v8] ∧ 4 ≤ s ∧ s ≤ 20 ∧ 1 ≤ r ∧ DiskAt C H' d a w n D' ∧ DskOn D' 96 (s - 4).toNat ∧ NoGen D' g ∧ Stp (dkF d a w n) H (dkF d a w n) H')
    ⟨4, 1, D, none, none, none, none, rfl, by decide, by decide, by decide, hD, by rw [show ((4 : Int) - 4).toNat = 0 from rfl]; exact on, ng, .refl⟩ ?_ ?_
  · rintro i σ H1 hi ⟨s, r, D1, v5, v6, v7, v8, rfl, s4, s20, r1, hD1, on1, ng1, st1⟩
    have hi : i < 8 := hi
    walk_at "run1"
    refine w_S2 ⟨_, 9, rfl, rfl, by decide, by decide, fun t H2 ns s2 ht et R => ?_⟩
    have ln := R.ln
    walk_at "run1"
    refine w_S3 ⟨t, ns, r, og, rfl, rfl, rfl, .of et, by omega, fun q H3 vs s3 hq eq rq => ?_⟩
    have lv : vs.length = parI ns.length := by rw [rq.1, recS_len]
    have pl := parI_lim ns.length
    have hD3 := (hD1.same s2).same s3
    have st3 : Stp (dkF d a w n) H (dkF d a w n) H3 := st1.trans (.same (s2.trans s3))
    have nq : q ∉ dkF d a w n := (hD1.same s2).fresh hq
    walk_at "run1"
    · rename_i hfit
      refine f_list (xs := vs) (fun j σ H' => ∃ (D' : DiskS) (v8 : Option V), σ = [some (.ref d), some (.int z), some (.int og), some (.int (s + (j : Int))), some (.int r), some (.int (0 + (i : Int))), some (.ref t), some (.ref q), v8] ∧ DiskAt C H' d a w n D' ∧ DskOn D' 96 (s + (j : Int) - 4).toNat ∧ NoGen D' g ∧ Stp (dkF d a w n) H3 (dkF d a w n) H')
        ⟨D1, v8, by rw [show s + ((0 : Nat) : Int) = s by omega]; rfl, hD3, by rw [show s + ((0 : Nat) : Int) = s by omega]; exact on1, ng1, .refl⟩ (by rintro j σ H' _ ⟨_, _, _, _, _, _, st⟩; exact SqL.of (st.keep eq nq).1) ?_ ?_
      · rintro j x σ H4 hx ⟨D4, v8, rfl, hD4, on4, ng4, st4⟩
        have hj : j < vs.length := (List.getElem?_eq_some_iff.mp hx).1
        have hj' : j < parI ns.length := by omega
        obtain ⟨row, hrw, ry⟩ := rq.2 _ _ hx
        rw [recS_at hj'] at hrw
        cases hrw
        have ry4 := ry.stp hD3 st4
        obtain ⟨l8, py, rfl, ey⟩ := ry4
        obtain ⟨dx, i4⟩ := hD4.ins
        unfold dkO at i4
        have sz := on4.ok.sz
        have bl := on4.bl
        walk_at "run1"
        refine w_write hD4 on4 (by omega) (by omega) (by omega) (SqL.of ey) l8 (rowR_nn R.nn (by omega) og0) fun H5 hD5 st5 => ?_
        walk_at "run1"
        refine ⟨_, _, by rw [show s + ((j + 1 : Nat) : Int) = s + (j : Int) + 1 by omega]; rfl, hD5, ?_, ?_, st4.trans st5⟩
        · have z := on4.push (s := s + (j : Int)) (r := rowR ns r og j) (by omega) (by omega) (by omega) l8
          rw [show (s + ((j + 1 : Nat) : Int) - 4).toNat = (s + (j : Int) - 4).toNat + 1 by omega]
          exact z
        · intro u u4 u20
          rw [rd_push]
          split
          · rw [row7 hj']; omega
          · exact ng4 u u4 u20
      · rintro σ H4 ⟨D4, v8, rfl, hD4, on4, ng4, st4⟩
        walk_at "run1"
        exact ⟨_, _, _, _, _, _, _, rfl, by omega, by omega, by omega, hD4, on4, ng4, st3.trans st4⟩
    · walk_at "run1"
      exact ⟨_, _, _, _, _, _, _, rfl, s4, s20, r1, hD3, on1, ng1, st3⟩
  · rintro σ H1 ⟨s, r, D1, v5, v6, v7, v8, rfl, s4, s20, r1, hD1, on1, ng1, st1⟩
    obtain ⟨dx, i1⟩ := hD1.ins
    unfold dkO at i1
    have sz := on1.ok.sz
    have bl := on1.bl
    walk_at "run1"
    refine w_flush hD1 on1 fun H2 w2 n2 hD2 st2 => ?_
    walk_at "run1"
    refine k H2 w2 n2 _ hD2 on1.flush rfl (fun u u4 u20 => ?_) (st1.trans st2)
    rw [rd_flush on1 (by omega) (by omega)]
    exact ng1 u u4 u20
/-- what is written is not the disk's -/
theorem DiskAt.frame {C : Ex} {H H' : Hp} {X : List Addr} {d a w n : Addr} {D : DiskS} (x : DiskAt C H d a w n D) (fr : ∀ b o, H b = some o → b ∉ X → H' b = some o) (dj : ∀ b ∈ X, b ∉ dkF d a w n) (pl : ∀ b ∈ X, ∃ o, H b = some o ∧ Plain o) : DiskAt C H' d a w n D := by
  have hr : ∀ v r, RowAt H v r → RowAt H' v r := fun v r y => by
    obtain ⟨l8, p, rfl, e⟩ := y
    refine ⟨l8, p, rfl, fr _ _ e fun hp => ?_⟩
    obtain ⟨o, ho, po⟩ := pl p hp
    rw [e] at ho
    exact po.1 r l8 (Option.some.inj ho)
  have ht : ∀ t xs, H t = some (.tup xs) → H' t = some (.tup xs) := fun t xs e => fr _ _ e fun hp => by
    obtain ⟨o, ho, po⟩ := pl t hp
    rw [e] at ho
    exact po.2 xs (Option.some.inj ho).symm
  obtain ⟨⟨dx, i⟩, ⟨vs, e1, r1⟩, ⟨ws, e2, r2⟩, ⟨kvs, e3, r3⟩, ne⟩ := x
  have nX : ∀ b, b ∈ dkF d a w n → b ∉ X := fun b h q => dj b q h
  exact ⟨⟨dx, fr _ _ i (nX _ (by simp [dkF]))⟩, ⟨vs, fr _ _ e1 (nX _ (by simp [dkF])), r1.map hr⟩, ⟨ws, fr _ _ e2 (nX _ (by simp [dkF])), r2.map hr ht⟩, ⟨kvs, fr _ _ e3 (nX _ (by simp [dkF])), r3.map hr⟩, ne⟩
theorem DiskAt.frame1 {C : Ex} {H H' : Hp} {d a w n l C' dx : Addr} {D : DiskS} {fs : List (Str × V)} (x : DiskAt C H d a w n D) (hl : H l = some (.ins C' dx fs)) (nl : l ∉ dkF d a w n) (st : Stp [l] H [l] H') : DiskAt C H' d a w n D :=
  x.frame (X := [l]) (fun b o h nb => st.1 b o h nb) (fun b hb => by rw [List.mem_singleton.mp hb]; exact nl) (fun b hb => by rw [List.mem_singleton.mp hb]; exact ⟨_, hl, plain_ins⟩)
def sp__law_appended (K : PySem.W.Frag) (C : Ex) : Sp := S3 fun x b c H Q _ => ∃ (d a w n l dx q : Addr) (D : DiskS) (g s r : Int) (vs : List V) (nss : List (List Int)), x = .ref d ∧ b = .ref l ∧ c = .ref q ∧ DiskAt C H d a w n D ∧ DskOn D 96 0 ∧ H l = some (lgO C dx g s r) ∧ H q = some (.lst vs) ∧ TupsAt H vs nss ∧ nss.length ≤ 100 ∧
  (∀ ns ∈ nss, ns.length ≤ 2000 ∧ ∀ z ∈ ns, 0 ≤ z) ∧ 4 ≤ s ∧ s + tot nss ≤ 20 ∧ 0 ≤ r ∧ 0 ≤ g ∧
  ∀ H', DiskAt C H' d a w n (pushAll D (consec s (recsR nss r g nss.length))) → DskOn (pushAll D (consec s (recsR nss r g nss.length))) 96 100 → H' l = some (lgO C dx g (s + tot nss) (r + (nss.length : Int))) → Stp (l :: dkF d a w n) H (l :: dkF d a w n) H' → Q .non H'
def t__law_appended (K : PySem.W.Frag) (C : Ex) (E : XK) : TS :=
  tFor (iList K (uMeth C.Log "append_records" (sp_Log_append_records K C) (WB E) (tVar 1) (tCons (tVar 2) (tNil)))) (gTup K 2 (gCons (gName 3) (gCons (gName 4) (gNil))))
  (tDrop (uMeth C.Disk "write" (sp_Disk_write K C) (WB E) (tVar 0) (tCons (tVar 3) (tCons (tVar 4) (tNil)))))
theorem pure__law_appended {K : PySem.W.Frag} {C : Ex} {vs : List V} {H : Hp} {Q : VK} {E : XK} (F : Fa K C) (h : sp__law_appended K C vs H Q E) : t__law_appended K C E { nx := fun _ H' => Q .non H', rt := Q } (start ["_law_disk", "_law_log", "_law_intents", "_law_sector", "_law_words"] vs) H := by
  obtain ⟨x, b, c, rfl, d, a, w, n, l, dx, q, D, g, s, r, vs, nss, rfl, rfl, rfl, hD, on, hl, hq, ht, hn, hz, s4, s20, r0, g0, k⟩ := h
  have hl' := hl
  unfold lgO at hl'
  have nl : l ∉ dkF d a w n := fun h => by
    obtain ⟨⟨dk, i0⟩, ⟨_, i1, _⟩, ⟨_, i2, _⟩, ⟨_, i3, _⟩, _⟩ := hD
    simp only [dkF, List.mem_cons, List.not_mem_nil, or_false] at h
    rcases h with rfl | rfl | rfl | rfl
    · rw [hl'] at i0
      unfold dkO at i0
      have e := Option.some.inj i0
      injection e with e1 e2 e3
      cases e3
    · rw [hl'] at i1; cases i1
    · rw [hl'] at i2; cases i2
    · rw [hl'] at i3; cases i3
  have tr := tot_totR (nss := nss) (Nat.le_refl _)
  rw [List.take_length] at tr
  have rl := recsR_len (r := r) (g := g) (Nat.le_refl nss.length)
  unfold t__law_appended
  walk_at "run1"
  refine w_S2 ⟨l, dx, q, g, s, r, vs, nss, rfl, rfl, hl, hq, ht, by omega, fun y hy => (hz y hy).1, fun h => by omega, fun _ H1 W ws st1 hW el eW wr => ?_⟩
  rw [wrsK_consec (Nat.le_refl _)] at wr
  have hD1 : DiskAt C H1 d a w n D := hD.frame1 hl' nl st1
  have nW : W ∉ l :: dkF d a w n := fun h => by
    rcases List.mem_cons.mp h with rfl | h
    · rw [hl] at hW; cases hW
    · exact hD.fresh hW h
  have lw : ws.length = totR nss nss.length := by rw [wr.1, consec_len, rl]
  walk_at "run1"
  refine f_list (xs := ws) (fun j σ H' => ∃ (v3 v4 : Option V), σ = [some (.ref d), some (.ref l), some (.ref q), v3, v4] ∧ DiskAt C H' d a w n (pushAll D (consec s ((recsR nss r g nss.length).take j))) ∧ DskOn (pushAll D (consec s ((recsR nss r g nss.length).take j))) 96 j ∧ Stp (dkF d a w n) H1 (dkF d a w n) H')
    ⟨none, none, rfl, by rw [List.take_zero]; exact hD1, by rw [List.take_zero]; exact on, .refl⟩ (by rintro j σ H' _ ⟨_, _, _, _, _, st⟩; exact SqL.of (st.keep eW fun h => nW (List.mem_cons_of_mem _ h)).1) ?_ ?_
  · rintro j x σ H2 hx ⟨v3, v4, rfl, hD2, on2, st2⟩
    have hj : j < ws.length := (List.getElem?_eq_some_iff.mp hx).1
    have wr2 := wr.stp hD1 st2
    obtain ⟨s', row, e1, t, y, rfl, et, l8, py, rfl, ey⟩ := wr2.2 _ _ hx
    have e2 : s' = s + (j : Int) ∧ row = (recsR nss r g nss.length).getD j [] := by
      unfold consec at e1
      rw [List.getElem?_map, List.getElem?_range (by omega)] at e1
      have e1 := Option.some.inj e1
      injection e1 with a1 a2
      exact ⟨a1.symm, a2.symm⟩
    obtain ⟨rfl, erow⟩ := e2
    obtain ⟨dx2, i2⟩ := hD2.ins
    unfold dkO at i2
    have sz := on2.ok.sz
    have bl := on2.bl
    have rn : ∀ z ∈ row, 0 ≤ z := by
      obtain ⟨k', j', ns, a1, a2, a3, a4⟩ := totR_find (Nat.le_refl nss.length) (show j < totR nss nss.length by omega)
      rw [erow, a4, recsR_at a2 a3 a1 (Nat.le_refl _)]
      exact rowR_nn (hz ns (List.mem_of_getElem? a2)).2 (by omega) g0
    walk_at "run1"
    refine w_write hD2 on2 (by omega) (by omega) (by omega) (SqL.of ey) l8 rn fun H3 hD3 st3 => ?_
    walk_at "run1"
    have eT : (recsR nss r g nss.length).take (j + 1) = (recsR nss r g nss.length).take j ++ [row] := take_snoc (by rw [erow, List.getD_eq_getElem?_getD, List.getElem?_eq_getElem (by omega)]; rfl)
    have lT : ((recsR nss r g nss.length).take j).length = j := by rw [List.length_take]; omega
    refine ⟨_, _, rfl, ?_, ?_, st2.trans st3⟩
    · rw [eT, consec_snoc, pushAll_snoc, lT]
      exact hD3
    · rw [eT, consec_snoc, pushAll_snoc, lT]
      exact on2.push (by omega) (by omega) (by omega) l8
  · rintro σ H2 ⟨v3, v4, rfl, hD2, on2, st2⟩
    rw [lw, List.take_of_length_le (by omega)] at hD2 on2
    walk_at "run1"
    refine k H2 hD2 ⟨on2.ok, on2.lf, on2.pw, on2.bl, on2.r8, by have := on2.wl; omega⟩ (st2.keep el nl).1 ⟨fun b o h nb => ?_, fun b hb => .inl hb⟩
    exact st2.1 b o (st1.1 b o h fun q => nb (by rw [List.mem_singleton.mp q]; exact List.mem_cons_self ..)) fun q => nb (List.mem_cons_of_mem _ q)
def sp__law_choice (K : PySem.W.Frag) (_ : Ex) : Sp := S1 fun a H Q _ => ∃ c : Int, a = .int c ∧ ∀ H' z, Same H H' → 0 ≤ z → z ≤ 8 → Q (.int z) H'
def t__law_choice (K : PySem.W.Frag) (C : Ex) (E : XK) : TS :=
  tSeq (tAsg (uCall (sp__law_digits K C) (WB E) (tCons (tVar 0) (tCons (tLst (tCons (tC (.int 2)) (tCons (tC (.int 9)) (tNil)))) (tNil)))) (gName 1))
  (tSeq (tIfS (tTest (tOp (uEq K) (tOp (uIx K) (tVar 1) (tC (.int 0))) (tC (.int 0)))) (tRet (tC (.int 8))) (tNext))
  (tRet (tOp (uIx K) (tVar 1) (tC (.int 1)))))
theorem pure__law_choice {K : PySem.W.Frag} {C : Ex} {vs : List V} {H : Hp} {Q : VK} {E : XK} (F : Fa K C) (h : sp__law_choice K C vs H Q E) : t__law_choice K C E { nx := fun _ H' => Q .non H', rt := Q } (start ["_law_cell_here", "_law_digits_here"] vs) H := by
  obtain ⟨a, rfl, c, rfl, k⟩ := h
  unfold t__law_choice
  walk_at "run1"
  rename_i bl hbl
  refine w_S2 ⟨c, bl, [2, 9], rfl, rfl, SqL.of upd_same, by decide, by decide, fun dl H1 ds s1 hdl e1 ok => ?_⟩
  have ln : ds.length = 2 := ok.1
  have ok2 : ∀ i : Nat, i < 2 → 0 ≤ ds.getD i 0 ∧ ds.getD i 0 < [2, 9].getD i 0 := ok.2
  have D1 : 0 ≤ ds.getD (1 : Int).toNat 0 ∧ ds.getD (1 : Int).toNat 0 < 9 := ok2 1 (by decide)
  have s0 : Same H H1 := (same_new hbl).trans s1
  walk_at "run1"
  · exact k H1 8 s0 (by decide) (by decide)
  walk_at "run1"
  exact k H1 _ s0 (by omega) (by omega)
def sp__law_due (K : PySem.W.Frag) (_ : Ex) : Sp := S2 fun a b H Q _ => ∃ (p q : Addr) (us : List V) (nss : List (List Int)) (cs : List Int) (m : Nat), a = .ref p ∧ b = .ref q ∧ H p = some (.lst us) ∧ TupsAt H us nss ∧ H q = some (.lst (cs.map V.int)) ∧ cs.length = totR nss nss.length ∧ nss.length ≤ 100 ∧ cs.length ≤ 1000 ∧ WholeN nss cs m ∧
  ∀ w H', Same H H' → H w = none → H' w = some (.lst (us.take m)) → Q (.ref w) H'
def t__law_due (K : PySem.W.Frag) (C : Ex) (E : XK) : TS :=
  tSeq (tAsg (tLst (tNil)) (gName 2))
  (tSeq (tAsg (tC (.int 0)) (gName 3))
  (tSeq (tFor (iList K (tVar 0)) (gName 4)
  (tSeq (tAsg (tOp (uDiv) (tOp (uAdd K) (tCB (uLen K) (tCons (tVar 4) (tNil))) (tC (.int 4))) (tC (.int 4))) (gName 5))
  (tSeq (tIfS (tTest (tOp (uNe K) (tSl (uSl K) (tVar 1) (tPart (tVar 3)) (tPart (tOp (uAdd K) (tVar 3) (tVar 5)))) (tOp (uMul) (tLst (tCons (tC (.int 8)) (tNil))) (tVar 5)))) (tRet (tVar 2)) (tNext))
  (tSeq (tDrop (tBM K "list" (rAppend) (tVar 2) (tCons (tVar 4) (tNil))))
  (tAsg (tOp (uAdd K) (tVar 3) (tVar 5)) (gName 3))))))
  (tRet (tVar 2))))
theorem pure__law_due {K : PySem.W.Frag} {C : Ex} {vs : List V} {H : Hp} {Q : VK} {E : XK} (F : Fa K C) (h : sp__law_due K C vs H Q E) : t__law_due K C E { nx := fun _ H' => Q .non H', rt := Q } (start ["_law_intents", "_law_choices", "_law_due_here", "_law_at", "_law_intent_here", "_law_parts"] vs) H := by
  obtain ⟨a, b, rfl, p, q, us, nss, cs, m, rfl, rfl, hp, ht, hq, lc, ln, lc2, ⟨w1, w2, w3⟩, k⟩ := h
  have lu := ht.1
  unfold t__law_due
  walk_at "run1"
  rename_i W hW
  have par : ∀ ns : List Int, ((((ns.map V.int).length : Nat) : Int) + 4) / 4 = ((parI ns.length : Nat) : Int) := fun ns => by rw [List.length_map]; unfold parI; omega
  have done : ∀ us' : List V, us'.take m = us'.take m := fun _ => rfl
  refine f_list (xs := us) (fun i σ H' => ∃ (v4 v5 : Option V), σ = [some (.ref p), some (.ref q), some (.ref W), some (.int (totR nss i : Nat)), v4, v5] ∧ i ≤ m ∧ Same H H' ∧ H' W = some (.lst (us.take i)))
    ⟨none, none, rfl, Nat.zero_le _, same_new hW, by rw [upd_same]; rfl⟩ (by rintro i σ H' _ ⟨_, _, _, _, s, _⟩; exact SqL.of (s _ _ hp)) ?_ ?_
  · rintro i x σ H1 hx ⟨v4, v5, rfl, him, s1, eW⟩
    have hi : i < us.length := (List.getElem?_eq_some_iff.mp hx).1
    obtain ⟨ns, hns, t, rfl, et⟩ := (ht.same s1).2 _ _ hx
    have hq1 := s1 _ _ hq
    have tS := totR_succ hns
    have pp := parI_lim ns.length
    have tl : totR nss (i + 1) ≤ totR nss nss.length := by
      have z := totR_mono (nss := nss) (k := i + 1) (d := nss.length - (i + 1)) (by omega)
      rw [show i + 1 + (nss.length - (i + 1)) = nss.length by omega] at z
      exact z
    walk_at "run1"
    rw [par]
    refine w_slL (SqL.of hq1) fun l hl => ?_
    rw [show ((totR nss i : Nat) : Int) + ((parI ns.length : Nat) : Int) = ((totR nss i + parI ns.length : Nat) : Int) by omega, cut_ints (by omega) (by omega), show totR nss i + parI ns.length - totR nss i = parI ns.length by omega]
    walk_at "run1"
    rename_i z1 hz1 l2 hl2
    have s2 := same_updN (o := .lst ((List.replicate (((parI ns.length : Nat) : Int)).toNat (8 : Int)).map V.int)) (same_updN (o := .lst [.int 8]) (same_updN (o := .lst (((cs.drop (totR nss i)).take (parI ns.length)).map V.int)) s1 hl) hz1) hl2
    refine w_neD (α := List Int) (a := (cs.drop (totR nss i)).take (parI ns.length)) (b := List.replicate (((parI ns.length : Nat) : Int)).toNat 8) (Dt.list (SqL.of (upd_old (upd_old upd_same hz1) hl2)) (DtAll.ints _)) (Dt.list (SqL.of upd_same) (DtAll.ints _)) (by decide) ⟨_, rfl⟩ ?_
    have eW2 := upd_old (o := .lst ((List.replicate (((parI ns.length : Nat) : Int)).toNat (8 : Int)).map V.int)) (upd_old (o := .lst [.int 8]) (upd_old (o := .lst (((cs.drop (totR nss i)).take (parI ns.length)).map V.int)) eW hl) hz1) hl2
    generalize upd (upd (upd H1 l _) z1 _) l2 _ = H2 at *
    rw [Int.toNat_natCast]
    have key : ((cs.drop (totR nss i)).take (parI ns.length) = List.replicate (parI ns.length) 8) ↔ ∀ j, j < parI ns.length → cs.getD (totR nss i + j) 0 = 8 := by
      constructor
      · intro e j hj
        have e1 := congrArg (fun l => l.getD j 0) e
        have e1 : ((cs.drop (totR nss i)).take (parI ns.length)).getD j 0 = (List.replicate (parI ns.length) (8 : Int)).getD j 0 := e1
        rw [List.getD_eq_getElem?_getD, List.getElem?_take_of_lt hj, List.getElem?_drop, List.getD_eq_getElem?_getD, List.getElem?_replicate, if_pos hj] at e1
        rw [List.getD_eq_getElem?_getD]
        exact e1
      · intro e
        refine List.ext_getElem (by rw [List.length_take, List.length_drop, List.length_replicate]; omega) fun j h1 h2 => ?_
        rw [List.length_replicate] at h2
        rw [List.getElem_replicate, List.getElem_take, List.getElem_drop]
        have z := e j h2
        rw [List.getD_eq_getElem?_getD, List.getElem?_eq_getElem (by omega)] at z
        exact z
    walk_at "run1"
    · rename_i hne
      have em : i = m := by
        rcases Nat.lt_or_ge i m with q1 | q1
        · exfalso
          refine hne (key.mpr fun j hj => w2 _ ?_)
          have z := totR_mono (nss := nss) (k := i + 1) (d := m - (i + 1)) (by omega)
          rw [show i + 1 + (m - (i + 1)) = m by omega] at z
          omega
        · omega
      subst em
      exact k W H2 s2 hW eW2
    · rename_i heq
      have hlt : i < m := by
        rcases Nat.lt_or_ge i m with q1 | q1
        · exact q1
        · obtain rfl : i = m := by omega
          obtain ⟨j, hj, hc⟩ := w3 _ hns
          exact absurd (key.mp heq j hj) hc
      walk_at "run1"
      refine w_app eW2 (lt_line (by rw [List.length_take]; omega)) ?_
      walk_at "run1"
      refine ⟨_, _, by rw [tS]; rfl, hlt, same_upd s2 hW, ?_⟩
      rw [upd_same, take_snoc hx]
  · rintro σ H1 ⟨v4, v5, rfl, him, s1, eW⟩
    walk_at "run1"
    have : m = us.length := by omega
    rw [this] at k
    exact k W H1 s1 hW eW
theorem Rd8.of_ {C : Ex} {H : Hp} {d a w n : Addr} {D : DiskS} (x : DiskAt C H d a w n D) (e : D.wr = []) : Rd8 D := fun t t0 t1 => by
  obtain ⟨_, ⟨vs, _, r⟩, _⟩ := x
  have hi : t.toNat < D.secs.length := by omega
  obtain ⟨_, _, _, l8⟩ := r.get hi
  unfold rdS
  rw [e]
  exact l8
theorem whole_ex (nss : List (List Int)) (cs : List Int) : ∃ m, WholeN nss cs m := by
  have key : ∀ n, n ≤ nss.length → (∃ m, WholeN nss cs m) ∨ ∀ i, i < totR nss n → cs.getD i 0 = 8 := fun n => by
    induction n with
    | zero => intro _; exact .inr fun i h => by unfold totR at h; simp at h
    | succ n ih =>
      intro hn
      rcases ih (by omega) with h | h
      · exact .inl h
      · have e := totR_succ (List.getElem?_eq_getElem hn)
        by_cases q : ∃ j, j < parI (nss[n]).length ∧ cs.getD (totR nss n + j) 0 ≠ 8
        · refine .inl ⟨n, by omega, h, fun ns hns => ?_⟩
          rw [List.getElem?_eq_getElem hn] at hns
          cases hns
          exact q
        · refine .inr fun i hi => ?_
          rcases Nat.lt_or_ge i (totR nss n) with z | z
          · exact h i z
          · apply Classical.byContradiction
            intro y
            exact q ⟨i - totR nss n, by omega, by rw [show totR nss n + (i - totR nss n) = i by omega]; exact y⟩
  rcases key nss.length (Nat.le_refl _) with h | h
  · exact h
  · exact ⟨nss.length, Nat.le_refl _, h, fun ns e => by rw [List.getElem?_eq_none (Nat.le_refl _)] at e; cases e⟩
theorem recsR_len8 {nss : List (List Int)} {r g : Int} {i : Nat} (h : i < totR nss nss.length) : ((recsR nss r g nss.length).getD i []).length = 8 := by
  obtain ⟨k, j, ns, a1, a2, a3, a4⟩ := totR_find (Nat.le_refl nss.length) h
  rw [a4, recsR_at a2 a3 a1 (Nat.le_refl _)]
  exact rowR_len a3
theorem logS_of {D1 : DiskS} {nss0 nss1 : List (List Int)} {g : Int} {cs : List Int} {b : Nat} (on1 : DskOn D1 96 0) (ng : NoGen D1 g) (on4 : DskOn (pushAll D1 (consec 4 (recsR nss0 1 g nss0.length))) 96 b)
    (fit : totR nss0 nss0.length + totR nss1 nss1.length ≤ 16) (lc : cs.length = totR nss1 nss1.length) (hc : ∀ z ∈ cs, 0 ≤ z ∧ z ≤ 8) :
    LogS nss0 nss1 g cs ((List.range 16).map fun k : Nat => rdS (cutD (pushAll (flushD (pushAll D1 (consec 4 (recsR nss0 1 g nss0.length)))) (consec (4 + (totR nss0 nss0.length : Int)) (recsR nss1 (1 + (nss0.length : Int)) g nss1.length))) cs) (4 + (k : Int))) := by
  have l0 := recsR_len (r := 1) (g := g) (Nat.le_refl nss0.length)
  have l1 := recsR_len (r := 1 + (nss0.length : Int)) (g := g) (Nat.le_refl nss1.length)
  have sz4 := on4.ok.sz
  have bl4 := on4.bl
  have sec1 : (pushAll D1 (consec 4 (recsR nss0 1 g nss0.length))).secs = D1.secs := pushAll_secs
  have fl : (flushD (pushAll D1 (consec 4 (recsR nss0 1 g nss0.length)))).secs.length = 384 := by
    show (flushS _ _).length = 384
    rw [flushS_len]
    omega
  have at_ : ∀ k : Nat, k < 16 → ((List.range 16).map fun k : Nat => rdS (cutD (pushAll (flushD (pushAll D1 (consec 4 (recsR nss0 1 g nss0.length)))) (consec (4 + (totR nss0 nss0.length : Int)) (recsR nss1 (1 + (nss0.length : Int)) g nss1.length))) cs) (4 + (k : Int))).getD k [] =
      if 4 + (totR nss0 nss0.length : Int) ≤ ((4 + k : Nat) : Int) ∧ ((4 + k : Nat) : Int) < 4 + (totR nss0 nss0.length : Int) + (totR nss1 nss1.length : Int) then torn (cs.getD (k - totR nss0 nss0.length) 0) ((recsR nss1 (1 + (nss0.length : Int)) g nss1.length).getD (k - totR nss0 nss0.length) []) (rdS (pushAll D1 (consec 4 (recsR nss0 1 g nss0.length))) (4 + (k : Int))) else rdS (pushAll D1 (consec 4 (recsR nss0 1 g nss0.length))) (4 + (k : Int)) := fun k hk => by
    rw [List.getD_eq_getElem?_getD, List.getElem?_map, List.getElem?_range hk]
    show rdS (cutD _ cs) (4 + (k : Int)) = _
    have e1 : rdS (cutD (pushAll (flushD (pushAll D1 (consec 4 (recsR nss0 1 g nss0.length)))) (consec (4 + (totR nss0 nss0.length : Int)) (recsR nss1 (1 + (nss0.length : Int)) g nss1.length))) cs) (4 + (k : Int)) = (cutS (flushD (pushAll D1 (consec 4 (recsR nss0 1 g nss0.length)))).secs (consec (4 + (totR nss0 nss0.length : Int)) (recsR nss1 (1 + (nss0.length : Int)) g nss1.length)) cs).getD (4 + k) [] := by
      show (cutS (pushAll _ _).secs (pushAll _ _).wr cs).getD (4 + (k : Int)).toNat [] = _
      rw [pushAll_secs, pushAll_wr, show (flushD (pushAll D1 (consec 4 (recsR nss0 1 g nss0.length)))).wr = [] from rfl, List.nil_append, show (4 + (k : Int)).toNat = 4 + k by omega]
    have e2 : (flushD (pushAll D1 (consec 4 (recsR nss0 1 g nss0.length)))).secs.getD (4 + k) [] = rdS (pushAll D1 (consec 4 (recsR nss0 1 g nss0.length))) (4 + (k : Int)) := by
      rw [← rd_flush on4 (by omega) (by omega)]
      show _ = (flushD _).secs.getD (4 + (k : Int)).toNat []
      rw [show (4 + (k : Int)).toNat = 4 + k by omega]
    rw [e1, cut_all _ _ _ _ (by omega) _ (by rw [l1, fl]; omega), e2, l1, show 4 + k - (4 + (totR nss0 nss0.length : Int)).toNat = k - totR nss0 nss0.length by omega]
  have old : ∀ k : Nat, totR nss0 nss0.length ≤ k → k < 16 → rdS (pushAll D1 (consec 4 (recsR nss0 1 g nss0.length))) (4 + (k : Int)) = rdS D1 (4 + (k : Int)) := fun k h1 h2 => by
    rw [rd_all, if_neg (by rw [l0]; omega)]
  have o8 : ∀ k : Nat, k < 16 → (rdS D1 (4 + (k : Int))).length = 8 := fun k h => on1.r8 _ (by omega) (by rw [← sec1]; omega)
  refine ⟨by rw [List.length_map, List.length_range], fit, fun i hi => ?_, fun i hi => ?_, fun i h1 h2 => ?_⟩
  · rw [at_ i (by omega), if_neg (by omega), rd_all, if_pos (by rw [l0]; omega), show (4 + (i : Int) - 4).toNat = i by omega]
  · have e := at_ (totR nss0 nss0.length + i) (by omega)
    rw [if_pos (by omega), show totR nss0 nss0.length + i - totR nss0 nss0.length = i by omega, old _ (by omega) (by omega)] at e
    have l8 := recsR_len8 (r := 1 + (nss0.length : Int)) (g := g) hi
    have k8 := o8 (totR nss0 nss0.length + i) (by omega)
    have hb : 0 ≤ cs.getD i 0 ∧ cs.getD i 0 ≤ 8 := by
      rw [List.getD_eq_getElem?_getD, List.getElem?_eq_getElem (by omega)]
      exact hc _ (List.getElem_mem ..)
    rw [e]
    refine ⟨fun h => by rw [h, torn8 l8 k8], fun h => ?_⟩
    rw [torn7 l8 k8 hb.1 (by omega)]
    exact ng _ (by omega) (by omega)
  · rw [at_ i h2, if_neg (by omega), old i (by omega) h2]
    exact ng _ (by omega) (by omega)
theorem Sep.into {F : List Addr} {H : Hp} {L : List (Addr × HO)} {p : Addr} {o : HO} (x : Sep F H (L ++ [(p, o)])) : Sep (p :: F) H L := by
  refine ⟨fun y hy => x.own y (List.mem_append_left _ hy), fun y hy q => ?_, (List.Sublist.map _ (List.sublist_append_left L [(p, o)])).nodup x.nd⟩
  rcases List.mem_cons.mp q with q | q
  · have nd := x.nd
    rw [List.map_append] at nd
    exact (List.nodup_append.mp nd).2.2 y.1 (List.mem_map.mpr ⟨y, hy, rfl⟩) p (by simp) q
  · exact x.out y (List.mem_append_left _ hy) q
theorem tupsF {C : Ex} {H H' : Hp} {d a w n l C' dx : Addr} {D : DiskS} {fs : List (Str × V)} {vs : List V} {nss : List (List Int)} {F' : List Addr} (x : TupsAt H vs nss) (hD : DiskAt C H d a w n D) (hl : H l = some (.ins C' dx fs)) (st : Stp (l :: dkF d a w n) H F' H') : TupsAt H' vs nss := x.map fun t xs e => (st.keep e fun q => by
  rcases List.mem_cons.mp q with rfl | q
  · rw [hl] at e; cases e
  · exact hD.tupNot e q).1
theorem Stp.cons {F F' : List Addr} {H H' : Hp} {l : Addr} {o : HO} (st : Stp F H F' H') : Stp (l :: F) H (l :: F') H' :=
  ⟨fun b o h n => st.1 b o h fun q => n (List.mem_cons_of_mem _ q), fun b hb => by
    rcases List.mem_cons.mp hb with rfl | hb
    · exact .inl (List.mem_cons_self ..)
    · exact (st.2 b hb).imp (List.mem_cons_of_mem _) id⟩
theorem TupsAt.pre {H : Hp} {vs : List V} {nss : List (List Int)} (x : TupsAt H vs nss) {m : Nat} : TupsAt H (vs.take m) (nss.take m) := by
  refine ⟨by rw [List.length_take, List.length_take, x.1], fun i v h => ?_⟩
  have hi : i < m := by
    have := (List.getElem?_eq_some_iff.mp h).1
    rw [List.length_take] at this
    omega
  rw [List.getElem?_take_of_lt hi] at h
  obtain ⟨ns, e, y⟩ := x.2 _ _ h
  exact ⟨ns, by rw [List.getElem?_take_of_lt hi]; exact e, y⟩
def OkN (nss : List (List Int)) : Prop := ∀ ns ∈ nss, chk ns = true ∧ ns.length ≤ 2000 ∧ 3 ≤ ns.length ∧ ∀ z ∈ ns, 0 ≤ z
theorem OkN.snoc {nss : List (List Int)} {ns : List Int} {m : Int} (x : OkN nss) (R : IntentR m ns) (hm : m ≤ 1000) : OkN (nss ++ [ns]) := fun y hy => by
  rcases List.mem_append.mp hy with h | h
  · exact x y h
  · rw [List.mem_singleton.mp h]
    have := R.ln
    exact ⟨R.ck, by omega, this.1, R.nn⟩
theorem tot_snoc {nss : List (List Int)} {ns : List Int} : tot (nss ++ [ns]) = tot nss + (parI ns.length : Nat) := by
  unfold tot
  rw [List.map_append, List.sum_append]
  simp
abbrev sp_law (K : PySem.W.Frag) (_ : Ex) : Sp := spLaw K
def t_law (K : PySem.W.Frag) (C : Ex) (E : XK) : TS :=
  tSeq (tAsg (tOp (uAdd K) (tC (.int 2)) (tOp (uMod) (tCB (uInt) (tCons (uCall (sp__law_cell K C) (WB E) (tCons (tVar 0) (tCons (tC (.int 0)) (tNil)))) (tNil))) (tOp (uPow) (tC (.int 10)) (tC (.int 9))))) (gName 1))
  (tSeq (tAsg (uMake C.Disk (sp_Disk___init__ K C) (WB E) (tCons (tC (.int 96)) (tNil))) (gName 2))
  (tSeq (tDrop (uCall (sp__law_old_log K C) (WB E) (tCons (tVar 2) (tCons (uCall (sp__law_cell K C) (WB E) (tCons (tVar 0) (tCons (tC (.int 1)) (tNil)))) (tCons (tOp (uAdd K) (tC (.int 1)) (tOp (uMod) (tCB (uInt) (tCons (uCall (sp__law_cell K C) (WB E) (tCons (tVar 0) (tCons (tC (.int 2)) (tNil)))) (tNil))) (tOp (uSub) (tVar 1) (tC (.int 1))))) (tNil))))))
  (tSeq (tAsg (uMake C.Log (sp_Log___init__ K C) (WB E) (tCons (tVar 1) (tNil))) (gName 3))
  (tSeq (tAsg (tLst (tCons (tLst (tNil)) (tCons (tLst (tNil)) (tNil)))) (gName 4))
  (tSeq (tAsg (tC (.int 0)) (gName 5))
  (tSeq (tAsg (tOp (uMod) (tOp (uDiv) (tCB (uInt) (tCons (uCall (sp__law_cell K C) (WB E) (tCons (tVar 0) (tCons (tC (.int 0)) (tNil)))) (tNil))) (tC (.int 3))) (tC (.int 4))) (gName 6))
  (tSeq (tFor (iRng1 (tCons (tCB (uMin K) (tCons (tCB (uLen K) (tCons (tVar 0) (tNil))) (tCons (tC (.int 8)) (tNil)))) (tNil))) (gName 7)
  (tSeq (tAsg (uCall (sp__law_intent K C) (WB E) (tCons (tOp (uAdd K) (uCall (sp__law_cell K C) (WB E) (tCons (tVar 0) (tCons (tVar 7) (tNil)))) (tVar 7)) (tCons (tOp (uIx K) (tLst (tCons (tC (.int 9)) (tCons (tC (.int 9)) (tCons (tC (.int 9)) (tCons (tC (.int 59)) (tNil)))))) (tOp (uMod) (tOp (uDiv) (tCB (uInt) (tCons (uCall (sp__law_cell K C) (WB E) (tCons (tVar 0) (tCons (tVar 7) (tNil)))) (tNil))) (tC (.int 5))) (tC (.int 4)))) (tNil)))) (gName 8))
  (tIfS (tTest (tOp (uLe K) (tOp (uAdd K) (tVar 5) (tOp (uDiv) (tOp (uAdd K) (tCB (uLen K) (tCons (tVar 8) (tNil))) (tC (.int 4))) (tC (.int 4)))) (tC (.int 16)))) (tSeq (tAsg (tOp (uAdd K) (tVar 5) (tOp (uDiv) (tOp (uAdd K) (tCB (uLen K) (tCons (tVar 8) (tNil))) (tC (.int 4))) (tC (.int 4)))) (gName 5))
  (tDrop (tBM K "list" (rAppend) (tOp (uIx K) (tVar 4) (tCB (uInt) (tCons (tOp (uGe K) (tVar 7) (tVar 6)) (tNil)))) (tCons (tVar 8) (tNil))))) (tNext))))
  (tSeq (tDrop (uCall (sp__law_appended K C) (WB E) (tCons (tVar 2) (tCons (tVar 3) (tCons (tOp (uIx K) (tVar 4) (tC (.int 0))) (tNil))))))
  (tSeq (tDrop (uMeth C.Disk "flush" (sp_Disk_flush K C) (WB E) (tVar 2) (tNil)))
  (tSeq (tDrop (uCall (sp__law_appended K C) (WB E) (tCons (tVar 2) (tCons (tVar 3) (tCons (tOp (uIx K) (tVar 4) (tC (.int 1))) (tNil))))))
  (tSeq (tAsg (tCB (uLen K) (tCons (uMeth C.Disk "waiting" (sp_Disk_waiting K C) (WB E) (tVar 2) (tNil)) (tNil))) (gName 9))
  (tSeq (tAsg (tLc (iRng1 (tCons (tVar 9) (tNil))) (gName 7) (tYes) (uCall (sp__law_choice K C) (fun _ _ _ _ => False) (tCons (tOp (uAdd K) (tOp (uDiv) (uCall (sp__law_cell K C) (fun _ _ _ _ => False) (tCons (tVar 0) (tCons (tOp (uAdd K) (tC (.int 3)) (tVar 7)) (tNil)))) (tC (.int 3))) (tVar 7)) (tNil))) [7]) (gName 10))
  (tSeq (tDrop (uMeth C.Disk "cut" (sp_Disk_cut K C) (WB E) (tVar 2) (tCons (tCB (uList K) (tCons (tVar 10) (tNil))) (tNil))))
  (tSeq (tAsg (tLc (iRng1 (tCons (tC (.int 16)) (tNil))) (gName 7) (tYes) (uMeth C.Disk "read" (sp_Disk_read K C) (fun _ _ _ _ => False) (tVar 2) (tCons (tOp (uAdd K) (tC (.int 4)) (tVar 7)) (tNil))) [7]) (gName 11))
  (tRet (tOp (uEq K) (uCall (sp_whole_records K C) (WB E) (tCons (tVar 11) (tCons (tVar 1) (tNil)))) (tOp (uAdd K) (tOp (uIx K) (tVar 4) (tC (.int 0))) (uCall (sp__law_due K C) (WB E) (tCons (tOp (uIx K) (tVar 4) (tC (.int 1))) (tCons (tVar 10) (tNil)))))))))))))))))))))
theorem pure_law {K : PySem.W.Frag} {C : Ex} {vs : List V} {H : Hp} {Q : VK} {E : XK} (F : Fa K C) (h : sp_law K C vs H Q E) : t_law K C E { nx := fun _ H' => Q .non H', rt := Q } (start ["_law_script", "_law_generation", "_law_disk", "_law_log", "_law_batches", "_law_used", "_law_split", "_law_k", "_law_intent_here", "_law_many", "_law_choices", "_law_sectors"] vs) H := by
  obtain ⟨a0, rfl, p, ns0, rfl, hS, hn, kk⟩ := h
  unfold t_law
  have lm : (ns0.map V.int).length = ns0.length := List.length_map ..
  walk_at "run1"
  have hG : ∃ g : Int, 2 + ns0.getD (0 : Int).toNat 0 % 10 ^ (9 : Int).toNat = g ∧ 2 ≤ g := ⟨_, rfl, by omega⟩
  obtain ⟨g, eG, g2⟩ := hG
  rw [eG]
  intro d dx hd hdx hne
  refine w_S2 ⟨d, dx, rfl, upd_same, trivial, fun z ez _ _ H1 a w n fr fa fw fn hD => ⟨rfl, ?_⟩, fun h => by cases h⟩
  cases ez
  have sB : Same H H1 := fun b o h => fr b o (by rw [upd_ne (ne_of_none h hd), upd_ne (ne_of_none h hdx)]; exact h) (ne_of_none h hd)
  have fS : ∀ b ∈ dkF d a w n, H b = none := by
    have f1 : ∀ b, upd (upd H dx (.own d)) d (.ins C.Disk dx []) b = none → H b = none := fun b h => (none_of_upd (none_of_upd h).1).1
    intro b hb
    simp only [dkF, List.mem_cons, List.not_mem_nil, or_false] at hb
    rcases hb with rfl | rfl | rfl | rfl
    · exact hd
    · exact f1 _ fa
    · exact f1 _ fw
    · exact f1 _ fn
  clear fr fa fw fn
  have on := newD_on (z := 96) (by omega)
  have hS1 := sB.seq hS
  walk_at "run1"
  generalize hc1 : ns0.getD (1 : Int).toNat 0 = c1 at *
  generalize hc2 : ns0.getD (2 : Int).toNat 0 = c2 at *
  have og0 := Int.emod_nonneg c2 (b := g - 1) (by omega)
  have og1 := Int.emod_lt_of_pos c2 (b := g - 1) (by omega)
  refine w_S3 ⟨d, a, w, n, newD 96, _, _, g, rfl, rfl, rfl, hD, on, fun t t4 t20 => by rw [rd_new (by omega) (by omega)]; show (0 : Int) ≠ g; omega, by omega, by omega, fun H2 w2 n2 D1 hD2 on2 wr2 ng2 st2 => ?_⟩
  obtain ⟨s2, fS2⟩ := st2.toSame fS sB
  have hS2 := s2.seq hS
  clear hD on hS1 st2 fS sB hc1 hc2 og0 og1
  walk_at "run1"
  intro l dxl hl hdxl hnel
  refine w_S2 ⟨l, dxl, g, rfl, rfl, upd_same, rfl, ?_⟩
  have nl0 : H l = none := s2.free hl
  have s3 : Same H2 (upd (upd (upd H2 dxl (.own l)) l (.ins C.Log dxl [])) l (lgO C dxl g 4 1)) := by
    rw [upd_upd]
    exact same_updN (same_new hdxl) (by rw [upd_ne hnel.symm]; exact hl)
  have el3 : upd (upd (upd H2 dxl (.own l)) l (.ins C.Log dxl [])) l (lgO C dxl g 4 1) l = some (lgO C dxl g 4 1) := upd_same
  have sepl : Sep (dkF d a w2 n2) (upd (upd (upd H2 dxl (.own l)) l (.ins C.Log dxl [])) l (lgO C dxl g 4 1)) [(l, lgO C dxl g 4 1)] := Sep.nil.add s3 hl (hD2.fresh hl) el3
  have hD3 := hD2.same s3
  have s03 := s2.trans s3
  generalize upd (upd (upd H2 dxl (.own l)) l (.ins C.Log dxl [])) l (lgO C dxl g 4 1) = H3 at *
  have hS3 := s03.seq hS
  clear s3 el3 hD2 hS2 s2 hl hdxl
  walk_at "run1"
  rename_i b0 hb0 b1 hb1 BL hBL
  have sep4 := ((sepl.new (o := .lst []) hb0 (hD3.fresh hb0)).new (o := .lst []) hb1 ((hD3.same (same_new (o := .lst []) hb0)).fresh hb1)).new (o := .lst [.ref b0, .ref b1]) hBL ((hD3.same (same_updN (o := .lst []) (same_new (o := .lst []) hb0) hb1)).fresh hBL)
  have s34 := same_updN (o := .lst [.ref b0, .ref b1]) (same_updN (o := .lst []) (same_new (o := .lst []) hb0) hb1) hBL
  have n0 : H b0 = none := s03.free hb0
  have n1 : H b1 = none := s03.free (none_of_upd hb1).1
  have hD4 := hD3.same s34
  have s04 := s03.trans s34
  generalize upd (upd (upd H3 b0 _) b1 _) BL _ = H4 at *
  have hS4 := s04.seq hS
  clear sepl s34 hD3 s03 hS3 hb0 hb1 hBL
  walk_at "run1"
  have hmn : (if 8 < (((ns0.map V.int).length : Nat) : Int) then (8 : Int) else (((ns0.map V.int).length : Nat) : Int)) ≤ 8 ∧ 0 ≤ (if 8 < (((ns0.map V.int).length : Nat) : Int) then (8 : Int) else (((ns0.map V.int).length : Nat) : Int)) := by split <;> omega
  generalize hsp : ns0.getD (0 : Int).toNat 0 / 3 % 4 = sp at *
  refine f_range (fun i σ H' => ∃ (us0 us1 : List V) (nss0 nss1 : List (List Int)) (used : Int) (v7 v8 : Option V), σ = [some (.ref p), some (.int g), some (.ref d), some (.ref l), some (.ref BL), some (.int used), some (.int sp), v7, v8, none, none, none] ∧ Same H H' ∧ DiskAt C H' d a w2 n2 D1 ∧
      Sep (dkF d a w2 n2) H' [(BL, .lst [.ref b0, .ref b1]), (b1, .lst us1), (b0, .lst us0), (l, lgO C dxl g 4 1)] ∧ TupsAt H' us0 nss0 ∧ TupsAt H' us1 nss1 ∧ used = tot nss0 + tot nss1 ∧ used ≤ 16 ∧ OkN nss0 ∧ OkN nss1 ∧ us0.length + us1.length ≤ i)
    ⟨[], [], [], [], 0, none, none, rfl, s04, hD4, sep4, .nil, .nil, rfl, by decide, (fun _ h => nomatch h), (fun _ h => nomatch h), Nat.le_refl 0⟩ ?_ ?_
  · clear sep4 hD4 s04 hS4
    rintro i σ H5 hi ⟨us0, us1, nss0, nss1, used, v7, v8, rfl, s5, hD5, sep5, t0, t1, hu, hu16, ok0, ok1, lus⟩
    have hi : i < 8 := by omega
    have hS5 := s5.seq hS
    walk_at "run1"
    rename_i la hla
    have s6 := same_new (o := .lst [.int 9, .int 9, .int 9, .int 59]) hla
    have el6 : upd H5 la (.lst [.int 9, .int 9, .int 9, .int 59]) la = some (.lst [.int 9, .int 9, .int 9, .int 59]) := upd_same
    have hS6 := s6.seq hS5
    have hD6 := hD5.same s6
    have sep6 := sep5.same s6
    have t06 := t0.same s6
    have t16 := t1.same s6
    have s06 := s5.trans s6
    generalize upd H5 la _ = H6 at *
    clear hD5 sep5 t0 t1 s5 hS5 s6 hla
    walk_at "run1"
    refine w_ixA (SqL.of el6) ⟨by omega, by show _ < 4; omega⟩ fun v hv => ?_
    have hm : ∃ m : Int, v = .int m ∧ 1 ≤ m ∧ m ≤ 64 := by
      have hm := List.mem_of_getElem? hv
      simp only [List.mem_cons, List.not_mem_nil, or_false] at hm
      rcases hm with h | h | h | h <;> exact ⟨_, h, by decide, by decide⟩
    obtain ⟨m, rfl, m0, m1⟩ := hm
    clear hv
    walk_at "run1"
    refine w_S2 ⟨_, m, rfl, rfl, by omega, by omega, fun t H7 ns s7 ht7 et R => ?_⟩
    have R1 := R.ln
    have hD7 := hD6.same s7
    have sep7 := sep6.same s7
    have t07 := t06.same s7
    have t17 := t16.same s7
    have s07 := s06.trans s7
    have lmn : (ns.map V.int).length = ns.length := List.length_map ..
    have ep : ((((ns.map V.int).length : Nat) : Int) + 4) / 4 = ((parI ns.length : Nat) : Int) := by rw [lmn]; unfold parI; omega
    have eBL := sep7.get 0 rfl
    have e1 := sep7.get 1 rfl
    have e0 := sep7.get 2 rfl
    have pl (us : List V) (nss : List (List Int)) (x : TupsAt H7 us nss) : Plain (.lst us) := plain_refs fun y hy => by
      obtain ⟨k, hk⟩ := List.getElem?_of_mem hy
      obtain ⟨_, _, p, e, _⟩ := x.2 _ _ hk
      exact ⟨p, e⟩
    clear hD6 sep6 t06 t16 s06 hS6 el6 s7
    walk_at "run1"
    · rename_i hfit
      rw [ep] at hfit ⊢
      by_cases hsk : sp ≤ 0 + (i : Int)
      · rw [decide_eq_true hsk]
        refine w_ixL (k := 1) (SqL.of eBL) rfl rfl ?_
        walk_at "run1"
        refine w_app e1 (lt_line (by omega)) ?_
        walk_at "run1"
        refine ⟨us0, us1 ++ [.ref t], nss0, nss1 ++ [ns], _, _, _, rfl, same_upd s07 n1, hD7.frame (X := [b1]) (fun b o h nb => upd_oth h fun q => nb (by rw [q]; simp)) (fun b hb => by rw [List.mem_singleton.mp hb]; exact sep7.far 1 rfl) (fun b hb => by rw [List.mem_singleton.mp hb]; exact ⟨_, e1, pl _ _ t17⟩), sep7.set 1 rfl _, t07.map (tup_upd e1 (pl _ _ t17)), (t17.snoc ⟨t, rfl, et⟩).map (tup_upd e1 (pl _ _ t17)), by rw [tot_snoc, hu]; omega, by omega, ok0, ok1.snoc R (by omega), by rw [List.length_append]; show us0.length + (us1.length + 1) ≤ i + 1; omega⟩
      · rw [decide_eq_false hsk]
        refine w_ixL (k := 0) (SqL.of eBL) rfl rfl ?_
        walk_at "run1"
        refine w_app e0 (lt_line (by omega)) ?_
        walk_at "run1"
        refine ⟨us0 ++ [.ref t], us1, nss0 ++ [ns], nss1, _, _, _, rfl, same_upd s07 n0, hD7.frame (X := [b0]) (fun b o h nb => upd_oth h fun q => nb (by rw [q]; simp)) (fun b hb => by rw [List.mem_singleton.mp hb]; exact sep7.far 2 rfl) (fun b hb => by rw [List.mem_singleton.mp hb]; exact ⟨_, e0, pl _ _ t07⟩), sep7.set 2 rfl _, (t07.snoc ⟨t, rfl, et⟩).map (tup_upd e0 (pl _ _ t07)), t17.map (tup_upd e0 (pl _ _ t07)), by rw [tot_snoc, hu]; omega, by omega, ok0.snoc R (by omega), ok1, by rw [List.length_append]; show us0.length + 1 + us1.length ≤ i + 1; omega⟩
    · walk_at "run1"
      exact ⟨us0, us1, nss0, nss1, used, _, _, rfl, s07, hD7, sep7, t07, t17, hu, hu16, ok0, ok1, by omega⟩
  · clear sep4 hD4 s04 hS4
    rintro σ H5 ⟨us0, us1, nss0, nss1, used, v7, v8, rfl, s5, hD5, sep5, t0, t1, hu, hu16, ok0, ok1, lus⟩
    have hS5 := s5.seq hS
    have eBL := sep5.get 0 rfl
    have e0 := sep5.get 2 rfl
    have el := sep5.get 3 rfl
    have T0 := tot_totR (nss := nss0) (Nat.le_refl _)
    have T1 := tot_totR (nss := nss1) (Nat.le_refl _)
    rw [List.take_length] at T0 T1
    have fit : totR nss0 nss0.length + totR nss1 nss1.length ≤ 16 := by omega
    have lt0 := t0.1
    have lt1 := t1.1
    have elI : ∃ dx fs, H5 l = some (.ins C.Log dx fs) := ⟨_, _, el⟩
    obtain ⟨_, _, elI⟩ := elI
    walk_at "run1"
    refine w_S3 ⟨d, a, w2, n2, l, dxl, b0, D1, g, 4, 1, us0, nss0, rfl, rfl, rfl, hD5, on2, el, e0, t0, by omega, fun y hy => ⟨(ok0 y hy).2.1, (ok0 y hy).2.2.2⟩, by decide, by omega, by decide, by omega, fun H6 hD6 on6 el6 st6 => ?_⟩
    have sepA := (Sep.into (L := [(BL, .lst [.ref b0, .ref b1]), (b1, .lst us1), (b0, .lst us0)]) sep5).stp st6
    have t06 := tupsF t0 hD5 elI st6
    have t16 := tupsF t1 hD5 elI st6
    have fS5 : ∀ b ∈ l :: dkF d a w2 n2, H b = none := fun b hb => by
      rcases List.mem_cons.mp hb with rfl | hb
      · exact nl0
      · exact fS2 b hb
    obtain ⟨s6, _⟩ := st6.toSame fS5 s5
    have nlF := sep5.far 3 rfl
    clear hD5 sep5 t0 t1 s5 hS5 eBL e0 el elI st6
    obtain ⟨dk6, i6⟩ := hD6.ins
    unfold dkO at i6
    walk_at "run1"
    refine w_flush hD6 on6 fun H7 w7 n7 hD7 st7 => ?_
    have st7' : Stp (l :: dkF d a w2 n2) H6 (l :: dkF d a w7 n7) H7 := Stp.cons (o := lgO C dxl g (4 + tot nss0) (1 + (nss0.length : Int))) st7
    have el7 := (st7.keep el6 nlF).1
    have nlF7 := (st7.keep el6 nlF).2
    have elI6 : ∃ dx fs, H6 l = some (.ins C.Log dx fs) := ⟨_, _, el6⟩
    obtain ⟨_, _, elI6⟩ := elI6
    have t07 := tupsF t06 hD6 elI6 st7'
    have t17 := tupsF t16 hD6 elI6 st7'
    have sepB := sepA.stp st7'
    obtain ⟨s7, fS7⟩ := st7'.toSame fS5 s6
    have on7 := on6.flush
    clear sepA t06 t16 s6 i6 hD6 el6 elI6 st7 st7'
    have eBL := sepB.get 0 rfl
    have e1 := sepB.get 1 rfl
    have elI7 : ∃ dx fs, H7 l = some (.ins C.Log dx fs) := ⟨_, _, el7⟩
    obtain ⟨_, _, elI7⟩ := elI7
    walk_at "run1"
    refine w_S3 ⟨d, a, w7, n7, l, dxl, b1, _, g, 4 + tot nss0, 1 + (nss0.length : Int), us1, nss1, rfl, rfl, rfl, hD7, on7, el7, e1, t17, by omega, fun y hy => ⟨(ok1 y hy).2.1, (ok1 y hy).2.2.2⟩, by omega, by omega, by omega, by omega, fun H8 hD8 on8 el8 st8 => ?_⟩
    have t08 := tupsF t07 hD7 elI7 st8
    have t18 := tupsF t17 hD7 elI7 st8
    have sepC := sepB.stp st8
    obtain ⟨s8, _⟩ := st8.toSame fS7 s7
    rw [T0] at hD8 on8
    clear sepB t07 t17 s7 hD7 el7 elI7 st8 eBL e1
    obtain ⟨dk8, i8⟩ := hD8.ins
    unfold dkO at i8
    walk_at "run1"
    refine w_S1 ⟨d, a, w7, n7, _, rfl, hD8, by have := on8.wl; omega, fun pw hpw H9 vw s9 ew rw9 => ?_⟩
    have lw : vw.length = totR nss1 nss1.length := by
      rw [rw9.1, pushAll_wr]
      show ([] ++ consec _ _).length = _
      rw [List.nil_append, consec_len, recsR_len (Nat.le_refl _)]
    have hD9 := hD8.same s9
    have t09 := t08.same s9
    have t19 := t18.same s9
    have sep9 := sepC.same s9
    have s09 := s8.trans s9
    have hS9 := s09.seq hS
    clear hD8 t08 t18 sepC s8 i8 el8
    walk_at "run1"
    refine l_range (fun D i H' => Same H9 H' ∧ ∃ cs : List Int, H' D = some (.lst (cs.map V.int)) ∧ cs.length = i ∧ ∀ z ∈ cs, 0 ≤ z ∧ z ≤ 8) (fun D hD => ⟨same_new hD, [], upd_same, rfl, fun _ h => nomatch h⟩) ?_ ?_
    · rintro D i H10 hD hi ⟨s10, cs, eD, lc, hc⟩
      have hi : i < 16 := by omega
      have hS10 := s10.seq hS9
      walk_at "run1"
      refine ⟨rfl, ?_⟩
      walk_at "run1"
      refine w_S1 ⟨_, rfl, fun H11 z s11 z0 z8 => ?_⟩
      refine ⟨_, s11 _ _ eD, by rw [List.length_map]; exact lt_line (by omega), same_upd (s10.trans s11) hD, cs ++ [z], by rw [upd_same, List.map_append]; rfl, by rw [List.length_append, lc]; rfl, fun y hy => ?_⟩
      rcases List.mem_append.mp hy with h | h
      · exact hc y h
      · rw [List.mem_singleton.mp h]; exact ⟨z0, z8⟩
    rintro CL H10 hCL ⟨s10, cs, eC, lc, hc⟩
    have lc : cs.length = totR nss1 nss1.length := by omega
    have hD10 := hD9.same s10
    obtain ⟨dk10, i10⟩ := hD10.ins
    unfold dkO at i10
    walk_at "run1"
    refine w_tlist (SqL.of eC) fun cq hcq => ?_
    have s11 := same_new (o := .lst (cs.map V.int)) hcq
    have hD11 := hD10.same s11
    have eC11 := s11 _ _ eC
    have ecq : upd H10 cq (.lst (cs.map V.int)) cq = some (.lst (cs.map V.int)) := upd_same
    have t011 := (t09.same s10).same s11
    have t111 := (t19.same s10).same s11
    have sep11 := (sep9.same s10).same s11
    have s011 := (s09.trans s10).trans s11
    have nca : cq ≠ a := fun e => hD10.fresh hcq (by rw [e]; simp [dkF])
    have nCF : CL ∉ dkF d a w7 n7 := hD9.fresh hCL
    generalize upd H10 cq _ = H11 at *
    clear hD9 hD10 t09 t19 sep9 s09 hS9 s10 s11 eC i10
    obtain ⟨dk11, i11⟩ := hD11.ins
    unfold dkO at i11
    walk_at "run1"
    refine w_S2 ⟨d, a, w7, n7, _, cq, cs.map V.int, rfl, rfl, hD11, on8.ok, SqL.of ecq, fun y hy => ?_, nca, fun e => ?_, fun cs' e hc' H12 w12 n12 hD12 st12 => ?_⟩
    · obtain ⟨z, _, rfl⟩ := List.mem_map.mp hy
      trivial
    · exfalso
      have z : (cs.map V.int).all (btw 0 8) = true := List.all_eq_true.mpr fun y hy => by
        obtain ⟨z, hz, rfl⟩ := List.mem_map.mp hy
        exact btw_int (hc z hz).1 (hc z hz).2
      rw [z] at e
      cases e
    have ecs : cs = cs' := (List.map_inj_right (fun _ _ h => V.int.inj h)).mp e
    subst ecs
    have sep12 := sep11.stp (Stp.cons (o := lgO C dxl g 0 0) st12)
    have tD : ∀ t xs, H11 t = some (.tup xs) → H12 t = some (.tup xs) := fun t xs e => (st12.keep e (hD11.tupNot e)).1
    have t012 := t011.map tD
    have t112 := t111.map tD
    have eC12 := (st12.keep eC11 nCF).1
    have wr8 : (cutD (pushAll (flushD (pushAll D1 (consec 4 (recsR nss0 1 g nss0.length)))) (consec (4 + (totR nss0 nss0.length : Int)) (recsR nss1 (1 + (nss0.length : Int)) g nss1.length))) cs).wr = [] := rfl
    have rd12 := Rd8.of_ hD12 wr8
    have LS := logS_of (g := g) (cs := cs) on2 ng2 on6 fit lc hc
    have ok12 : DiskOk (cutD (pushAll (flushD (pushAll D1 (consec 4 (recsR nss0 1 g nss0.length)))) (consec (4 + (totR nss0 nss0.length : Int)) (recsR nss1 (1 + (nss0.length : Int)) g nss1.length))) cs) := ⟨on8.ok.bl, by
      show ((cutS _ _ cs).length : Int) = _
      rw [cutS_len]
      exact on8.ok.sz, fun p hp => (by cases hp), Nat.zero_le _⟩
    have pw12 : (cutD (pushAll (flushD (pushAll D1 (consec 4 (recsR nss0 1 g nss0.length)))) (consec (4 + (totR nss0 nss0.length : Int)) (recsR nss1 (1 + (nss0.length : Int)) g nss1.length))) cs).pw = true := rfl
    have bl12 : (cutD (pushAll (flushD (pushAll D1 (consec 4 (recsR nss0 1 g nss0.length)))) (consec (4 + (totR nss0 nss0.length : Int)) (recsR nss1 (1 + (nss0.length : Int)) g nss1.length))) cs).blocks = 96 := on8.bl
    have sz12 := ok12.sz
    generalize cutD (pushAll (flushD (pushAll D1 (consec 4 (recsR nss0 1 g nss0.length)))) (consec (4 + (totR nss0 nss0.length : Int)) (recsR nss1 (1 + (nss0.length : Int)) g nss1.length))) cs = D12 at *
    clear sep11 t011 t111 eC11 ecq hD11 st12 i11 on8 hcq
    walk_at "run1"
    refine l_range (fun R k H' => Same H12 H' ∧ ∃ vs, H' R = some (.lst vs) ∧ RowsAt H' vs ((List.range k).map fun k : Nat => rdS D12 (4 + (k : Int)))) (fun R hR => ⟨same_new hR, [], upd_same, .nil⟩) ?_ ?_
    · rintro R k H13 hR hk ⟨s13, vs, eR, rr⟩
      have hk : k < 16 := hk
      have hD13 := hD12.same s13
      obtain ⟨dk13, i13⟩ := hD13.ins
      unfold dkO at i13
      have lv : vs.length = k := by rw [rr.1, List.length_map, List.length_range]
      walk_at "run1"
      refine ⟨rfl, ?_⟩
      walk_at "run1"
      refine w_read hD13 ok12 rd12 pw12 (by omega) (by omega) fun q hq H14 s14 eq => ?_
      have e4 : (4 : Int) + (0 + (k : Int)) = 4 + (k : Int) := by omega
      rw [e4] at eq
      refine ⟨vs, s14 _ _ eR, lt_line (by omega), same_upd (s13.trans s14) hR, vs ++ [.ref q], upd_same, ?_⟩
      rw [List.range_succ, List.map_append]
      exact ((rr.same s14).snoc (.of (rd12 _ (by omega) (by omega)) eq)).upd (s14 _ _ eR) (noRow_refs rr.ref)
    rintro R H13 hR ⟨s13, vs, eR, rr⟩
    have rr : RowsAt H13 vs ((List.range 16).map fun k : Nat => rdS D12 (4 + (k : Int))) := rr
    have lv : vs.length = 16 := by rw [rr.1, List.length_map, List.length_range]
    obtain ⟨m, hm⟩ := whole_ex nss1 cs
    obtain ⟨tail, eT, hT⟩ := LS.whole (fun ns h => (ok1 ns h).2.2.1) hm
    rw [eT] at rr
    have t013 := t012.same s13
    have t113 := t112.same s13
    have sep13 := sep12.same s13
    have eC13 := s13 _ _ eC12
    walk_at "run1"
    refine w_S2 ⟨R, vs, nss0 ++ nss1.take m, tail, g, rfl, rfl, eR, rr, fun y hy => ?_, hT, by omega, by rw [List.length_append, List.length_take]; omega, fun W ts H14 s14 hW eW tW => ?_⟩
    · rcases List.mem_append.mp hy with h | h
      · exact ⟨(ok0 y h).1, (ok0 y h).2.1⟩
      · exact ⟨(ok1 y (List.mem_of_mem_take h)).1, (ok1 y (List.mem_of_mem_take h)).2.1⟩
    have t014 := t013.same s14
    have t114 := t113.same s14
    have sep14 := sep13.same s14
    have eC14 := s14 _ _ eC13
    have eBL14 := sep14.get 0 rfl
    have e114 := sep14.get 1 rfl
    have e014 := sep14.get 2 rfl
    walk_at "run1"
    refine w_S2 ⟨b1, CL, us1, nss1, cs, m, rfl, rfl, e114, t114, eC14, lc, by omega, by omega, hm, fun q H15 s15 hq eq => ?_⟩
    have e015 := s15 _ _ e014
    refine w_cat e015 eq (by rw [List.length_take]; omega) fun q2 hq2 => ?_
    have s16 := same_new (o := .lst (us0 ++ us1.take m)) hq2
    have dW : DtAll K (upd H15 q2 (.lst (us0 ++ us1.take m))) ts ((nss0 ++ nss1.take m).map PySem.W.Tup.mk) := ((tW.same s15).same s16).dt
    have dQ : DtAll K (upd H15 q2 (.lst (us0 ++ us1.take m))) (us0 ++ us1.take m) ((nss0 ++ nss1.take m).map PySem.W.Tup.mk) := by
      rw [List.map_append]
      exact DtAll.append ((t014.same s15).same s16).dt ((t114.same s15).same s16).pre.dt
    refine w_eqD (Dt.list (SqL.of (s16 _ _ (s15 _ _ eW))) dW) (Dt.list (SqL.of upd_same) dQ) (by decide) ⟨_, rfl⟩ ?_
    rw [decide_eq_true rfl]
    exact kk _
def topS (i : Nat) : Stmt := PySem.Challenge.pw_laminae_k68_whole_torn_logs.main.body.getD i (.Pass ⟨0, 0, 0, 0⟩)
abbrev s_is_between : Stmt := topS 12
theorem sc_is_between : FnScope ["value", "low", "high"] ["value", "low", "high"] (defScope s_is_between) := ⟨rfl, rfl, rfl, by decide +kernel, rfl, by decide +kernel, by decide +kernel⟩
abbrev s_is_word : Stmt := topS 13
theorem sc_is_word : FnScope ["value"] ["value"] (defScope s_is_word) := ⟨rfl, rfl, rfl, by decide +kernel, rfl, by decide +kernel, by decide +kernel⟩
abbrev s_are_words : Stmt := topS 14
theorem sc_are_words : FnScope ["values", "many", "value"] ["values", "many"] (defScope s_are_words) := ⟨rfl, rfl, rfl, by decide +kernel, rfl, by decide +kernel, by decide +kernel⟩
abbrev s_word_name : Stmt := topS 15
theorem sc_word_name : FnScope ["word", "digits", "rest", "_", "name", "ended", "digit"] ["word"] (defScope s_word_name) := ⟨rfl, rfl, rfl, by decide +kernel, rfl, by decide +kernel, by decide +kernel⟩
abbrev s_Disk___init__ : Stmt := inClass (topS 21) 0
theorem sc_Disk___init__ : FnScope ["self", "blocks", "sector"] ["self", "blocks"] (defScope s_Disk___init__) := ⟨rfl, rfl, rfl, by decide +kernel, rfl, by decide +kernel, by decide +kernel⟩
abbrev s_Disk_read : Stmt := inClass (topS 21) 1
theorem sc_Disk_read : FnScope ["self", "sector"] ["self", "sector"] (defScope s_Disk_read) := ⟨rfl, rfl, rfl, by decide +kernel, rfl, by decide +kernel, by decide +kernel⟩
abbrev s_Disk_operate : Stmt := inClass (topS 21) 2
theorem sc_Disk_operate : FnScope ["self"] ["self"] (defScope s_Disk_operate) := ⟨rfl, rfl, rfl, by decide +kernel, rfl, by decide +kernel, by decide +kernel⟩
abbrev s_Disk_write : Stmt := inClass (topS 21) 3
theorem sc_Disk_write : FnScope ["self", "sector", "words"] ["self", "sector", "words"] (defScope s_Disk_write) := ⟨rfl, rfl, rfl, by decide +kernel, rfl, by decide +kernel, by decide +kernel⟩
abbrev s_Disk_flush : Stmt := inClass (topS 21) 4
theorem sc_Disk_flush : FnScope ["self", "sector", "words"] ["self"] (defScope s_Disk_flush) := ⟨rfl, rfl, rfl, by decide +kernel, rfl, by decide +kernel, by decide +kernel⟩
abbrev s_Disk_waiting : Stmt := inClass (topS 21) 5
theorem sc_Disk_waiting : FnScope ["self", "sector", "words"] ["self"] (defScope s_Disk_waiting) := ⟨rfl, rfl, rfl, by decide +kernel, rfl, by decide +kernel, by decide +kernel⟩
abbrev s_Disk_cut : Stmt := inClass (topS 21) 7
theorem sc_Disk_cut : FnScope ["self", "choices", "choice", "index", "sector", "words", "kept"] ["self", "choices"] (defScope s_Disk_cut) := ⟨rfl, rfl, rfl, by decide +kernel, rfl, by decide +kernel, by decide +kernel⟩
abbrev s_sectors_of : Stmt := topS 32
theorem sc_sectors_of : FnScope ["intent"] ["intent"] (defScope s_sectors_of) := ⟨rfl, rfl, rfl, by decide +kernel, rfl, by decide +kernel, by decide +kernel⟩
abbrev s_record_sectors : Stmt := topS 33
theorem sc_record_sectors : FnScope ["intent", "record", "generation", "parts", "words", "sectors", "part", "group"] ["intent", "record", "generation"] (defScope s_record_sectors) := ⟨rfl, rfl, rfl, by decide +kernel, rfl, by decide +kernel, by decide +kernel⟩
abbrev s_Log___init__ : Stmt := inClass (topS 34) 0
theorem sc_Log___init__ : FnScope ["self", "generation"] ["self", "generation"] (defScope s_Log___init__) := ⟨rfl, rfl, rfl, by decide +kernel, rfl, by decide +kernel, by decide +kernel⟩
abbrev s_Log_fits : Stmt := inClass (topS 34) 1
theorem sc_Log_fits : FnScope ["self", "intents", "needed", "intent"] ["self", "intents"] (defScope s_Log_fits) := ⟨rfl, rfl, rfl, by decide +kernel, rfl, by decide +kernel, by decide +kernel⟩
abbrev s_Log_append_records : Stmt := inClass (topS 34) 2
theorem sc_Log_append_records : FnScope ["self", "intents", "writes", "intent", "words"] ["self", "intents"] (defScope s_Log_append_records) := ⟨rfl, rfl, rfl, by decide +kernel, rfl, by decide +kernel, by decide +kernel⟩
abbrev s_whole_parts : Stmt := topS 35
theorem sc_whole_parts : FnScope ["sectors", "at", "record", "generation", "parts", "part", "words"] ["sectors", "at", "record", "generation"] (defScope s_whole_parts) := ⟨rfl, rfl, rfl, by decide +kernel, rfl, by decide +kernel, by decide +kernel⟩
abbrev s_record_intent : Stmt := topS 36
theorem sc_record_intent : FnScope ["sectors", "words", "sector", "count", "intent"] ["sectors"] (defScope s_record_intent) := ⟨rfl, rfl, rfl, by decide +kernel, rfl, by decide +kernel, by decide +kernel⟩
abbrev s_whole_records : Stmt := topS 37
theorem sc_whole_records : FnScope ["sectors", "generation", "intents", "at", "parts"] ["sectors", "generation"] (defScope s_whole_records) := ⟨rfl, rfl, rfl, by decide +kernel, rfl, by decide +kernel, by decide +kernel⟩
abbrev s_is_name : Stmt := topS 38
theorem sc_is_name : FnScope ["word"] ["word"] (defScope s_is_name) := ⟨rfl, rfl, rfl, by decide +kernel, rfl, by decide +kernel, by decide +kernel⟩
abbrev s_check_words : Stmt := topS 39
theorem sc_check_words : FnScope ["words", "kind", "most"] ["words"] (defScope s_check_words) := ⟨rfl, rfl, rfl, by decide +kernel, rfl, by decide +kernel, by decide +kernel⟩
abbrev s_check_intent : Stmt := topS 40
theorem sc_check_intent : FnScope ["words"] ["words"] (defScope s_check_intent) := ⟨rfl, rfl, rfl, by decide +kernel, rfl, by decide +kernel, by decide +kernel⟩
abbrev s__law_cell : Stmt := topS 42
theorem sc__law_cell : FnScope ["_law_script", "_law_k"] ["_law_script", "_law_k"] (defScope s__law_cell) := ⟨rfl, rfl, rfl, by decide +kernel, rfl, by decide +kernel, by decide +kernel⟩
abbrev s__law_digits : Stmt := topS 43
theorem sc__law_digits : FnScope ["_law_cell_here", "_law_bases", "_law_digits_here", "_law_rest", "_law_base", "_law_mixed"] ["_law_cell_here", "_law_bases"] (defScope s__law_digits) := ⟨rfl, rfl, rfl, by decide +kernel, rfl, by decide +kernel, by decide +kernel⟩
abbrev s__law_intent : Stmt := topS 44
theorem sc__law_intent : FnScope ["_law_cell_here", "_law_most", "_law_digits_here", "_law_words", "_law_kind", "_law_inode", "_law_other", "_law_main", "_law_size", "_law_cells", "_law_k"] ["_law_cell_here", "_law_most"] (defScope s__law_intent) := ⟨rfl, rfl, rfl, by decide +kernel, rfl, by decide +kernel, by decide +kernel⟩
abbrev s__law_old_log : Stmt := topS 45
theorem sc__law_old_log : FnScope ["_law_disk", "_law_cell_here", "_law_generation", "_law_sector", "_law_record", "_law_k", "_law_intent_here", "_law_rows", "_law_row"] ["_law_disk", "_law_cell_here", "_law_generation"] (defScope s__law_old_log) := ⟨rfl, rfl, rfl, by decide +kernel, rfl, by decide +kernel, by decide +kernel⟩
abbrev s__law_appended : Stmt := topS 46
theorem sc__law_appended : FnScope ["_law_disk", "_law_log", "_law_intents", "_law_sector", "_law_words"] ["_law_disk", "_law_log", "_law_intents"] (defScope s__law_appended) := ⟨rfl, rfl, rfl, by decide +kernel, rfl, by decide +kernel, by decide +kernel⟩
abbrev s__law_choice : Stmt := topS 47
theorem sc__law_choice : FnScope ["_law_cell_here", "_law_digits_here"] ["_law_cell_here"] (defScope s__law_choice) := ⟨rfl, rfl, rfl, by decide +kernel, rfl, by decide +kernel, by decide +kernel⟩
abbrev s__law_due : Stmt := topS 48
theorem sc__law_due : FnScope ["_law_intents", "_law_choices", "_law_due_here", "_law_at", "_law_intent_here", "_law_parts"] ["_law_intents", "_law_choices"] (defScope s__law_due) := ⟨rfl, rfl, rfl, by decide +kernel, rfl, by decide +kernel, by decide +kernel⟩
abbrev s_law : Stmt := topS 49
theorem sc_law : FnScope ["_law_script", "_law_generation", "_law_disk", "_law_log", "_law_batches", "_law_used", "_law_split", "_law_k", "_law_intent_here", "_law_many", "_law_choices", "_law_sectors"] ["_law_script"] (defScope s_law) := ⟨rfl, rfl, rfl, by decide +kernel, rfl, by decide +kernel, by decide +kernel⟩
structure Adr where
  ex : Ex
  f_is_between : Addr
  d_is_between : FuncData
  f_is_word : Addr
  d_is_word : FuncData
  f_are_words : Addr
  d_are_words : FuncData
  f_word_name : Addr
  d_word_name : FuncData
  f_Disk___init__ : Addr
  d_Disk___init__ : FuncData
  f_Disk_read : Addr
  d_Disk_read : FuncData
  f_Disk_operate : Addr
  d_Disk_operate : FuncData
  f_Disk_write : Addr
  d_Disk_write : FuncData
  f_Disk_flush : Addr
  d_Disk_flush : FuncData
  f_Disk_waiting : Addr
  d_Disk_waiting : FuncData
  f_Disk_cut : Addr
  d_Disk_cut : FuncData
  f_sectors_of : Addr
  d_sectors_of : FuncData
  f_record_sectors : Addr
  d_record_sectors : FuncData
  f_Log___init__ : Addr
  d_Log___init__ : FuncData
  f_Log_fits : Addr
  d_Log_fits : FuncData
  f_Log_append_records : Addr
  d_Log_append_records : FuncData
  f_whole_parts : Addr
  d_whole_parts : FuncData
  f_record_intent : Addr
  d_record_intent : FuncData
  f_whole_records : Addr
  d_whole_records : FuncData
  f_is_name : Addr
  d_is_name : FuncData
  f_check_words : Addr
  d_check_words : FuncData
  f_check_intent : Addr
  d_check_intent : FuncData
  f__law_cell : Addr
  d__law_cell : FuncData
  f__law_digits : Addr
  d__law_digits : FuncData
  f__law_intent : Addr
  d__law_intent : FuncData
  f__law_old_log : Addr
  d__law_old_log : FuncData
  f__law_appended : Addr
  d__law_appended : FuncData
  f__law_choice : Addr
  d__law_choice : FuncData
  f__law_due : Addr
  d__law_due : FuncData
  f_law : Addr
  d_law : FuncData
structure Top (K : PySem.W.Frag) (mg : Str → Option Value) (A : Adr) : Prop where
  F_is_between : Fun K "is_between" "is_between" s_is_between A.f_is_between A.d_is_between
  b_is_between : Binds K A.d_is_between ["value", "low", "high"] []
  g_is_between : mg "is_between" = some (.ref A.f_is_between)
  F_is_word : Fun K "is_word" "is_word" s_is_word A.f_is_word A.d_is_word
  b_is_word : Binds K A.d_is_word ["value"] []
  g_is_word : mg "is_word" = some (.ref A.f_is_word)
  F_are_words : Fun K "are_words" "are_words" s_are_words A.f_are_words A.d_are_words
  b_are_words : Binds K A.d_are_words ["values", "many"] []
  g_are_words : mg "are_words" = some (.ref A.f_are_words)
  F_word_name : Fun K "word_name" "word_name" s_word_name A.f_word_name A.d_word_name
  b_word_name : Binds K A.d_word_name ["word"] []
  g_word_name : mg "word_name" = some (.ref A.f_word_name)
  F_Disk___init__ : Fun K "__init__" "Disk.__init__" s_Disk___init__ A.f_Disk___init__ A.d_Disk___init__
  b_Disk___init__ : Binds K A.d_Disk___init__ ["self", "blocks"] []
  F_Disk_read : Fun K "read" "Disk.read" s_Disk_read A.f_Disk_read A.d_Disk_read
  b_Disk_read : Binds K A.d_Disk_read ["self", "sector"] []
  m_Disk_read : Meth K A.ex.Disk "read" A.f_Disk_read
  F_Disk_operate : Fun K "operate" "Disk.operate" s_Disk_operate A.f_Disk_operate A.d_Disk_operate
  b_Disk_operate : Binds K A.d_Disk_operate ["self"] []
  m_Disk_operate : Meth K A.ex.Disk "operate" A.f_Disk_operate
  F_Disk_write : Fun K "write" "Disk.write" s_Disk_write A.f_Disk_write A.d_Disk_write
  b_Disk_write : Binds K A.d_Disk_write ["self", "sector", "words"] []
  m_Disk_write : Meth K A.ex.Disk "write" A.f_Disk_write
  F_Disk_flush : Fun K "flush" "Disk.flush" s_Disk_flush A.f_Disk_flush A.d_Disk_flush
  b_Disk_flush : Binds K A.d_Disk_flush ["self"] []
  m_Disk_flush : Meth K A.ex.Disk "flush" A.f_Disk_flush
  F_Disk_waiting : Fun K "waiting" "Disk.waiting" s_Disk_waiting A.f_Disk_waiting A.d_Disk_waiting
  b_Disk_waiting : Binds K A.d_Disk_waiting ["self"] []
  m_Disk_waiting : Meth K A.ex.Disk "waiting" A.f_Disk_waiting
  F_Disk_cut : Fun K "cut" "Disk.cut" s_Disk_cut A.f_Disk_cut A.d_Disk_cut
  b_Disk_cut : Binds K A.d_Disk_cut ["self", "choices"] []
  m_Disk_cut : Meth K A.ex.Disk "cut" A.f_Disk_cut
  F_sectors_of : Fun K "sectors_of" "sectors_of" s_sectors_of A.f_sectors_of A.d_sectors_of
  b_sectors_of : Binds K A.d_sectors_of ["intent"] []
  g_sectors_of : mg "sectors_of" = some (.ref A.f_sectors_of)
  F_record_sectors : Fun K "record_sectors" "record_sectors" s_record_sectors A.f_record_sectors A.d_record_sectors
  b_record_sectors : Binds K A.d_record_sectors ["intent", "record", "generation"] []
  g_record_sectors : mg "record_sectors" = some (.ref A.f_record_sectors)
  F_Log___init__ : Fun K "__init__" "Log.__init__" s_Log___init__ A.f_Log___init__ A.d_Log___init__
  b_Log___init__ : Binds K A.d_Log___init__ ["self", "generation"] []
  F_Log_fits : Fun K "fits" "Log.fits" s_Log_fits A.f_Log_fits A.d_Log_fits
  b_Log_fits : Binds K A.d_Log_fits ["self", "intents"] []
  m_Log_fits : Meth K A.ex.Log "fits" A.f_Log_fits
  F_Log_append_records : Fun K "append_records" "Log.append_records" s_Log_append_records A.f_Log_append_records A.d_Log_append_records
  b_Log_append_records : Binds K A.d_Log_append_records ["self", "intents"] []
  m_Log_append_records : Meth K A.ex.Log "append_records" A.f_Log_append_records
  F_whole_parts : Fun K "whole_parts" "whole_parts" s_whole_parts A.f_whole_parts A.d_whole_parts
  b_whole_parts : Binds K A.d_whole_parts ["sectors", "at", "record", "generation"] []
  g_whole_parts : mg "whole_parts" = some (.ref A.f_whole_parts)
  F_record_intent : Fun K "record_intent" "record_intent" s_record_intent A.f_record_intent A.d_record_intent
  b_record_intent : Binds K A.d_record_intent ["sectors"] []
  g_record_intent : mg "record_intent" = some (.ref A.f_record_intent)
  F_whole_records : Fun K "whole_records" "whole_records" s_whole_records A.f_whole_records A.d_whole_records
  b_whole_records : Binds K A.d_whole_records ["sectors", "generation"] []
  g_whole_records : mg "whole_records" = some (.ref A.f_whole_records)
  F_is_name : Fun K "is_name" "is_name" s_is_name A.f_is_name A.d_is_name
  b_is_name : Binds K A.d_is_name ["word"] []
  g_is_name : mg "is_name" = some (.ref A.f_is_name)
  F_check_words : Fun K "check_words" "check_words" s_check_words A.f_check_words A.d_check_words
  b_check_words : Binds K A.d_check_words ["words"] []
  g_check_words : mg "check_words" = some (.ref A.f_check_words)
  F_check_intent : Fun K "check_intent" "check_intent" s_check_intent A.f_check_intent A.d_check_intent
  b_check_intent : Binds K A.d_check_intent ["words"] []
  g_check_intent : mg "check_intent" = some (.ref A.f_check_intent)
  F__law_cell : Fun K "_law_cell" "_law_cell" s__law_cell A.f__law_cell A.d__law_cell
  b__law_cell : Binds K A.d__law_cell ["_law_script", "_law_k"] []
  g__law_cell : mg "_law_cell" = some (.ref A.f__law_cell)
  F__law_digits : Fun K "_law_digits" "_law_digits" s__law_digits A.f__law_digits A.d__law_digits
  b__law_digits : Binds K A.d__law_digits ["_law_cell_here", "_law_bases"] []
  g__law_digits : mg "_law_digits" = some (.ref A.f__law_digits)
  F__law_intent : Fun K "_law_intent" "_law_intent" s__law_intent A.f__law_intent A.d__law_intent
  b__law_intent : Binds K A.d__law_intent ["_law_cell_here", "_law_most"] []
  g__law_intent : mg "_law_intent" = some (.ref A.f__law_intent)
  F__law_old_log : Fun K "_law_old_log" "_law_old_log" s__law_old_log A.f__law_old_log A.d__law_old_log
  b__law_old_log : Binds K A.d__law_old_log ["_law_disk", "_law_cell_here", "_law_generation"] []
  g__law_old_log : mg "_law_old_log" = some (.ref A.f__law_old_log)
  F__law_appended : Fun K "_law_appended" "_law_appended" s__law_appended A.f__law_appended A.d__law_appended
  b__law_appended : Binds K A.d__law_appended ["_law_disk", "_law_log", "_law_intents"] []
  g__law_appended : mg "_law_appended" = some (.ref A.f__law_appended)
  F__law_choice : Fun K "_law_choice" "_law_choice" s__law_choice A.f__law_choice A.d__law_choice
  b__law_choice : Binds K A.d__law_choice ["_law_cell_here"] []
  g__law_choice : mg "_law_choice" = some (.ref A.f__law_choice)
  F__law_due : Fun K "_law_due" "_law_due" s__law_due A.f__law_due A.d__law_due
  b__law_due : Binds K A.d__law_due ["_law_intents", "_law_choices"] []
  g__law_due : mg "_law_due" = some (.ref A.f__law_due)
  F_law : Fun K "law" "law" s_law A.f_law A.d_law
  b_law : Binds K A.d_law ["_law_script"] []
  g_law : mg "law" = some (.ref A.f_law)
  n_bool : mg "bool" = none
  n_enumerate : mg "enumerate" = none
  n_int : mg "int" = none
  n_isinstance : mg "isinstance" = none
  n_len : mg "len" = none
  n_list : mg "list" = none
  n_min : mg "min" = none
  n_range : mg "range" = none
  n_reversed : mg "reversed" = none
  n_sum : mg "sum" = none
  n_tuple : mg "tuple" = none
  k_ALPHABET : ∃ t, mg "ALPHABET" = some (.str "abcdefghijklmnopqrstuvwxyz0123456789._-" t)
  k_BASE : ∃ t, mg "BASE" = some (.int 40 t)
  k_BLOCK_SECTORS : ∃ t, mg "BLOCK_SECTORS" = some (.int 4 t)
  k_DIRECTORY : ∃ t, mg "DIRECTORY" = some (.int 2 t)
  k_FILE : ∃ t, mg "FILE" = some (.int 1 t)
  k_FIRST_SECTOR : ∃ t, mg "FIRST_SECTOR" = some (.int 4 t)
  k_GROUP : ∃ t, mg "GROUP" = some (.int 4 t)
  k_LENGTHS : mg "LENGTHS" = some (.ref A.ex.LENGTHS) ∧ KDI K A.ex.LENGTHS [(1, 6), (2, 5), (3, 4), (4, 4), (5, 6), (7, 4), (8, 7), (9, 4), (10, 3)]
  k_LOG_SECTORS : ∃ t, mg "LOG_SECTORS" = some (.int 16 t)
  k_MAX_BLOCKS : ∃ t, mg "MAX_BLOCKS" = some (.int 256 t)
  k_MAX_CELLS : ∃ t, mg "MAX_CELLS" = some (.int 2048 t)
  k_MAX_OWNER : ∃ t, mg "MAX_OWNER" = some (.int 255 t)
  k_MIN_BLOCKS : ∃ t, mg "MIN_BLOCKS" = some (.int 96 t)
  k_NAME_SIZE : ∃ t, mg "NAME_SIZE" = some (.int 11 t)
  k_SECTOR_WORDS : ∃ t, mg "SECTOR_WORDS" = some (.int 8 t)
  k_UNIT : ∃ t, mg "UNIT" = some (.int 32 t)
  x_BadImage : Exc K mg "BadImage" A.ex.BadImage
  x_BadName : Exc K mg "BadName" A.ex.BadName
  x_NoSpace : Exc K mg "NoSpace" A.ex.NoSpace
  x_NotValid : Exc K mg "NotValid" A.ex.NotValid
  x_PowerOff : Exc K mg "PowerOff" A.ex.PowerOff
  n_Disk_blocks : NoAttr K A.ex.Disk "blocks"
  n_Disk_left : NoAttr K A.ex.Disk "left"
  n_Disk_newest : NoAttr K A.ex.Disk "newest"
  n_Disk_power : NoAttr K A.ex.Disk "power"
  n_Disk_sectors : NoAttr K A.ex.Disk "sectors"
  n_Disk_writes : NoAttr K A.ex.Disk "writes"
  n_Log_generation : NoAttr K A.ex.Log "generation"
  n_Log_next_record : NoAttr K A.ex.Log "next_record"
  n_Log_next_sector : NoAttr K A.ex.Log "next_sector"
  c_Disk : Cls K A.ex.Disk
  M_Disk : Mk K A.ex.Disk A.f_Disk___init__
  gC_Disk : mg "Disk" = some (.ref A.ex.Disk)
  c_Log : Cls K A.ex.Log
  M_Log : Mk K A.ex.Log A.f_Log___init__
  gC_Log : mg "Log" = some (.ref A.ex.Log)
  fa : Fa K A.ex
section
variable {P : Program} {w : World} {K : PySem.W.Frag} {mg : Str → Option Value} {base : Heap} {A : Adr}
theorem ok_is_between (T : Top K mg A) : FnOk P w K mg base (L2.CX P w) 1 A.f_is_between A.d_is_between ["value", "low", "high"] (sp_is_between K A.ex) := by
  refine T.F_is_between.okX sc_is_between (fun vs H Q E h => len3 h) (fun cdv Ar outer s H vs Q E hr h => ⟨t_is_between K A.ex E, ?_, pure_is_between T.fa h⟩)
  have tk : Takes (cxOf (L2.CX P w) P w K mg base ["value", "low", "high"] "is_between" (defScope s_is_between) A.f_is_between cdv Ar outer s H E) (WB E) := takes_of rfl rfl rfl rfl
  have hu := hu_of hr
  have hl := Nat.lt_of_succ_lt hu
  exact pss_cons (ps_if (PW.pt (pw_or (pt_not (t_tru (pe_callB (c_isi .int) (by rfl) T.n_isinstance (by decide +kernel) (pa_cons (pv 0) (pa_cons (pe_bltn rfl T.n_int (by decide +kernel) rfl) (pa_nil)))))) (pw_or1 (t_tru (pe_callB (c_isi .bool) (by rfl) T.n_isinstance (by decide +kernel) (pa_cons (pv 0) (pa_cons (pe_bltn rfl T.n_bool (by decide +kernel) rfl) (pa_nil)))))))) (pss_one (ps_ret (pe_bl))) (pss_nil))
        (pss_one (ps_ret (pe_chain (o_le hl) (o_le hl) (pv 1) (pv 0) (pv 2))))
theorem ok_is_word (T : Top K mg A) : FnOk P w K mg base (L2.CX P w) 1 A.f_is_word A.d_is_word ["value"] (sp_is_word K A.ex) := by
  refine T.F_is_word.okX sc_is_word (fun vs H Q E h => len1 h) (fun cdv Ar outer s H vs Q E hr h => ⟨t_is_word K A.ex E, ?_, pure_is_word T.fa h⟩)
  have tk : Takes (cxOf (L2.CX P w) P w K mg base ["value"] "is_word" (defScope s_is_word) A.f_is_word cdv Ar outer s H E) (WB E) := takes_of rfl rfl rfl rfl
  have hu := hu_of hr
  have hl := Nat.lt_of_succ_lt hu
  exact pss_cons (ps_if (PW.pt (pw_or (pt_not (t_tru (pe_callB (c_isi .int) (by rfl) T.n_isinstance (by decide +kernel) (pa_cons (pv 0) (pa_cons (pe_bltn rfl T.n_int (by decide +kernel) rfl) (pa_nil)))))) (pw_or1 (t_tru (pe_callB (c_isi .bool) (by rfl) T.n_isinstance (by decide +kernel) (pa_cons (pv 0) (pa_cons (pe_bltn rfl T.n_bool (by decide +kernel) rfl) (pa_nil)))))))) (pss_one (ps_ret (pe_bl))) (pss_nil))
        (pss_one (ps_ret (pe_cmpR (o_ge hl) (pv 0) (pe_int) (nomark _))))
theorem ok_are_words (T : Top K mg A) : FnOk P w K mg base (L2.CX P w) 2 A.f_are_words A.d_are_words ["values", "many"] (sp_are_words K A.ex) := by
  refine T.F_are_words.okX sc_are_words (fun vs H Q E h => len2 h) (fun cdv Ar outer s H vs Q E hr h => ⟨t_are_words K A.ex E, ?_, pure_are_words T.fa h⟩)
  have tk : Takes (cxOf (L2.CX P w) P w K mg base ["values", "many", "value"] "are_words" (defScope s_are_words) A.f_are_words cdv Ar outer s H E) (WB E) := takes_of rfl rfl rfl rfl
  have po : PassesOwn (model P w) (cxOf (L2.CX P w) P w K mg base ["values", "many", "value"] "are_words" (defScope s_are_words) A.f_are_words cdv Ar outer s H E).A (cxOf (L2.CX P w) P w K mg base ["values", "many", "value"] "are_words" (defScope s_are_words) A.f_are_words cdv Ar outer s H E).env (cxOf (L2.CX P w) P w K mg base ["values", "many", "value"] "are_words" (defScope s_are_words) A.f_are_words cdv Ar outer s H E).xe := passes_of rfl
  exact pss_cons (ps_if (PW.pt (pw_or (pt_not (t_tru (pe_callB (c_isi .list) (by rfl) T.n_isinstance (by decide +kernel) (pa_cons (pv 0) (pa_cons (pe_bltn rfl T.n_list (by decide +kernel) rfl) (pa_nil)))))) (pw_or1 (pt_cmpR (o_ne hr.units) (pe_callB (c_len) (by rfl) T.n_len (by decide +kernel) (pa_cons (pv 0) (pa_nil))) (pv 1) (nomark _))))) (pss_one (ps_ret (pe_bl))) (pss_nil))
        (pss_cons (ps_for po rfl (pi_list (pv 0)) (pg_name (i := 2) sc_are_words.nd rfl (Or.inl rfl))
        (pss_one (ps_if (pt_not (t_tru (e_call (ok_is_word T) (hr.mono (by decide)) T.g_is_word T.F_is_word.kp T.b_is_word tk (pa_cons (pv 2) (pa_nil))))) (pss_one (ps_ret (pe_bl))) (pss_nil))))
        (pss_one (ps_ret (pe_bl))))
theorem ok_word_name (T : Top K mg A) : FnOk P w K mg base (L2.CX P w) 2 A.f_word_name A.d_word_name ["word"] (sp_word_name K A.ex) := by
  refine T.F_word_name.okX sc_word_name (fun vs H Q E h => len1 h) (fun cdv Ar outer s H vs Q E hr h => ⟨t_word_name K A.ex E, ?_, pure_word_name T.fa h⟩)
  have tk : Takes (cxOf (L2.CX P w) P w K mg base ["word", "digits", "rest", "_", "name", "ended", "digit"] "word_name" (defScope s_word_name) A.f_word_name cdv Ar outer s H E) (WB E) := takes_of rfl rfl rfl rfl
  have po : PassesOwn (model P w) (cxOf (L2.CX P w) P w K mg base ["word", "digits", "rest", "_", "name", "ended", "digit"] "word_name" (defScope s_word_name) A.f_word_name cdv Ar outer s H E).A (cxOf (L2.CX P w) P w K mg base ["word", "digits", "rest", "_", "name", "ended", "digit"] "word_name" (defScope s_word_name) A.f_word_name cdv Ar outer s H E).env (cxOf (L2.CX P w) P w K mg base ["word", "digits", "rest", "_", "name", "ended", "digit"] "word_name" (defScope s_word_name) A.f_word_name cdv Ar outer s H E).xe := passes_of rfl
  exact pss_cons (ps_if (pt_not (t_tru (e_call (ok_is_word T) (hr.mono (by decide)) T.g_is_word T.F_is_word.kp T.b_is_word tk (pa_cons (pv 0) (pa_nil))))) (pss_one (s_raise T.x_BadName tk)) (pss_nil))
        (pss_cons (ps_set (i := 1) sc_word_name.nd rfl (Or.inl rfl) (pe_lst (pa_nil)))
        (pss_cons (ps_set (i := 2) sc_word_name.nd rfl (Or.inl rfl) (pv 0))
        (pss_cons (ps_for po rfl (pi_range1 (by rfl) T.n_range (pa_cons (pe_glob rfl T.k_NAME_SIZE.choose_spec ⟨_, rfl⟩) (pa_nil))) (pg_name (i := 3) sc_word_name.nd rfl (Or.inl rfl))
        (pss_cons (ps_expr (pe_bm PySem.F.plainAttrs_list PySem.F.slot_list_append PySem.F.type_list_append mt_append (pv 1) (pa_cons (pe_op o_mod (pv 2) (pe_glob rfl T.k_BASE.choose_spec ⟨_, rfl⟩)) (pa_nil))))
        (pss_one (ps_set (i := 2) sc_word_name.nd rfl (Or.inl rfl) (pe_op o_div (pv 2) (pe_glob rfl T.k_BASE.choose_spec ⟨_, rfl⟩))))))
        (pss_cons (ps_set (i := 4) sc_word_name.nd rfl (Or.inl rfl) (pe_str))
        (pss_cons (ps_set (i := 5) sc_word_name.nd rfl (Or.inl rfl) (pe_bl))
        (pss_cons (ps_for po rfl (pi_reversed (by rfl) T.n_reversed (pa_cons (pv 1) (pa_nil))) (pg_name (i := 6) sc_word_name.nd rfl (Or.inl rfl))
        (pss_one (ps_if (pt_cmpR (o_eq hr.units) (pv 6) (pe_int) (nomark _)) (pss_one (ps_set (i := 5) sc_word_name.nd rfl (Or.inl rfl) (pe_bl))) (pss_one (ps_if (t_tru (pv 5)) (pss_one (s_raise T.x_BadName tk)) (pss_one (ps_set (i := 4) sc_word_name.nd rfl (Or.inl rfl) (pe_op o_add (pv 4) (e_ix (pe_glob rfl T.k_ALPHABET.choose_spec ⟨_, rfl⟩) (pe_op o_sub (pv 6) (pe_int)))))))))))
        (pss_cons (ps_if (PW.pt (pw_or (pt_cmpR (o_ne hr.units) (pv 2) (pe_int) (nomark _)) (pw_or1 (pt_cmpR (o_eq hr.units) (pe_bm PySem.F.plainAttrs_str PySem.F.slot_str_count PySem.F.type_str_count mt_countU (pv 4) (pa_cons (pe_str) (pa_nil))) (pe_callB (c_len) (by rfl) T.n_len (by decide +kernel) (pa_cons (pv 4) (pa_nil))) (nomark _))))) (pss_one (s_raise T.x_BadName tk)) (pss_nil))
        (pss_one (ps_ret (pv 4))))))))))
theorem ok_Disk___init__ (T : Top K mg A) : FnOk P w K mg base (L2.CX P w) 2 A.f_Disk___init__ A.d_Disk___init__ ["self", "blocks"] (sp_Disk___init__ K A.ex) := by
  refine T.F_Disk___init__.okX sc_Disk___init__ (fun vs H Q E h => len2 h) (fun cdv Ar outer s H vs Q E hr h => ⟨t_Disk___init__ K A.ex E, ?_, pure_Disk___init__ T.fa h⟩)
  have tk : Takes (cxOf (L2.CX P w) P w K mg base ["self", "blocks", "sector"] "Disk.__init__" (defScope s_Disk___init__) A.f_Disk___init__ cdv Ar outer s H E) (WB E) := takes_of rfl rfl rfl rfl
  exact pss_cons (ps_if (pt_not (t_tru (e_call (ok_is_between T) (hr.mono (by decide)) T.g_is_between T.F_is_between.kp T.b_is_between tk (pa_cons (pv 1) (pa_cons (pe_glob rfl T.k_MIN_BLOCKS.choose_spec ⟨_, rfl⟩) (pa_cons (pe_glob rfl T.k_MAX_BLOCKS.choose_spec ⟨_, rfl⟩) (pa_nil))))))) (pss_one (s_raise T.x_NotValid tk)) (pss_nil))
        (pss_cons (s_fld T.c_Disk T.n_Disk_blocks (pv 0) (pv 1))
        (pss_cons (s_fld T.c_Disk T.n_Disk_sectors (pv 0) (pe_lc (own := [("sector", 2)]) (by rfl) sc_Disk___init__.nd (pi_range1 (by rfl) T.n_range (pa_cons (pe_op o_mul (pv 1) (pe_glob rfl T.k_BLOCK_SECTORS.choose_spec ⟨_, rfl⟩)) (pa_nil))) (blkOk_by (N := ["self", "blocks", "sector"]) (sc := defScope s_Disk___init__) (by decide +kernel)) (fun _ _ _ _ _ => pg_name (i := 2) sc_Disk___init__.nd rfl (Or.inl rfl)) (fun _ _ _ _ _ => pts_nil) (fun _ _ _ _ _ => pe_op o_mul (pe_lst (pa_cons (pe_int) (pa_nil))) (pe_glob rfl T.k_SECTOR_WORDS.choose_spec ⟨_, rfl⟩))))
        (pss_cons (s_fld T.c_Disk T.n_Disk_writes (pv 0) (pe_lst (pa_nil)))
        (pss_cons (s_fld T.c_Disk T.n_Disk_newest (pv 0) (pe_dnewK))
        (pss_cons (s_fld T.c_Disk T.n_Disk_left (pv 0) (pe_non))
        (pss_one (s_fld T.c_Disk T.n_Disk_power (pv 0) (pe_bl))))))))
theorem ok_Disk_read (T : Top K mg A) : FnOk P w K mg base (L2.CX P w) 2 A.f_Disk_read A.d_Disk_read ["self", "sector"] (sp_Disk_read K A.ex) := by
  refine T.F_Disk_read.okX sc_Disk_read (fun vs H Q E h => len2 h) (fun cdv Ar outer s H vs Q E hr h => ⟨t_Disk_read K A.ex E, ?_, pure_Disk_read T.fa h⟩)
  have tk : Takes (cxOf (L2.CX P w) P w K mg base ["self", "sector"] "Disk.read" (defScope s_Disk_read) A.f_Disk_read cdv Ar outer s H E) (WB E) := takes_of rfl rfl rfl rfl
  have hu := hu_of hr
  exact pss_cons (ps_if (pt_not (t_tru (e_fld T.c_Disk T.n_Disk_power (pv 0)))) (pss_one (s_raise T.x_PowerOff tk)) (pss_nil))
        (pss_cons (ps_if (pt_not (t_tru (e_call (ok_is_between T) (hr.mono (by decide)) T.g_is_between T.F_is_between.kp T.b_is_between tk (pa_cons (pv 1) (pa_cons (pe_int) (pa_cons (pe_op o_sub (pe_callB (c_len) (by rfl) T.n_len (by decide +kernel) (pa_cons (e_fld T.c_Disk T.n_Disk_sectors (pv 0)) (pa_nil))) (pe_int)) (pa_nil))))))) (pss_one (s_raise T.x_NotValid tk)) (pss_nil))
        (pss_cons (ps_if (pt_cmpR (o_in hu) (pv 1) (e_fld T.c_Disk T.n_Disk_newest (pv 0)) (by rfl)) (pss_one (ps_ret (pe_callTy (c_list) (by rfl) T.n_list (by decide +kernel) (pa_cons (e_dg hu (e_fld T.c_Disk T.n_Disk_newest (pv 0)) (pv 1)) (pa_nil))))) (pss_nil))
        (pss_one (ps_ret (pe_callTy (c_list) (by rfl) T.n_list (by decide +kernel) (pa_cons (e_ix (e_fld T.c_Disk T.n_Disk_sectors (pv 0)) (pv 1)) (pa_nil)))))))
theorem ok_Disk_operate (T : Top K mg A) : FnOk P w K mg base (L2.CX P w) 1 A.f_Disk_operate A.d_Disk_operate ["self"] (sp_Disk_operate K A.ex) := by
  refine T.F_Disk_operate.okX sc_Disk_operate (fun vs H Q E h => len1 h) (fun cdv Ar outer s H vs Q E hr h => ⟨t_Disk_operate K A.ex E, ?_, pure_Disk_operate T.fa h⟩)
  have tk : Takes (cxOf (L2.CX P w) P w K mg base ["self"] "Disk.operate" (defScope s_Disk_operate) A.f_Disk_operate cdv Ar outer s H E) (WB E) := takes_of rfl rfl rfl rfl
  exact pss_cut (ps_if (pt_cmpR (o_eq hr.units) (e_fld T.c_Disk T.n_Disk_left (pv 0)) (pe_int) (nomark _)) (pss_one (s_fld T.c_Disk T.n_Disk_power (pv 0) (pe_bl))) (pss_nil))
        (pss_cons (ps_if (pt_not (t_tru (e_fld T.c_Disk T.n_Disk_power (pv 0)))) (pss_one (s_raise T.x_PowerOff tk)) (pss_nil))
        (pss_one (ps_if (pt_cmpR (o_isnt) (e_fld T.c_Disk T.n_Disk_left (pv 0)) (pe_non) (nomark _)) (pss_one (s_augf T.c_Disk T.n_Disk_left (pv 0) (pe_int) in_sub)) (pss_nil))))
theorem ok_Disk_write (T : Top K mg A) : FnOk P w K mg base (L2.CX P w) 3 A.f_Disk_write A.d_Disk_write ["self", "sector", "words"] (sp_Disk_write K A.ex) := by
  refine T.F_Disk_write.okX sc_Disk_write (fun vs H Q E h => len3 h) (fun cdv Ar outer s H vs Q E hr h => ⟨t_Disk_write K A.ex E, ?_, pure_Disk_write T.fa h⟩)
  have tk : Takes (cxOf (L2.CX P w) P w K mg base ["self", "sector", "words"] "Disk.write" (defScope s_Disk_write) A.f_Disk_write cdv Ar outer s H E) (WB E) := takes_of rfl rfl rfl rfl
  have hu := hu_of hr
  exact pss_cons (ps_if (pt_not (t_tru (e_call (ok_is_between T) (hr.mono (by decide)) T.g_is_between T.F_is_between.kp T.b_is_between tk (pa_cons (pv 1) (pa_cons (pe_int) (pa_cons (pe_op o_sub (pe_callB (c_len) (by rfl) T.n_len (by decide +kernel) (pa_cons (e_fld T.c_Disk T.n_Disk_sectors (pv 0)) (pa_nil))) (pe_int)) (pa_nil))))))) (pss_one (s_raise T.x_NotValid tk)) (pss_nil))
        (pss_cons (ps_if (pt_not (t_tru (e_call (ok_are_words T) (hr.mono (by decide)) T.g_are_words T.F_are_words.kp T.b_are_words tk (pa_cons (pv 2) (pa_cons (pe_glob rfl T.k_SECTOR_WORDS.choose_spec ⟨_, rfl⟩) (pa_nil)))))) (pss_one (s_raise T.x_NotValid tk)) (pss_nil))
        (pss_cons (ps_expr (e_meth0 (pv 0) T.c_Disk T.m_Disk_operate (ok_Disk_operate T) (hr.mono (by decide)) T.b_Disk_operate tk))
        (pss_cons (ps_expr (pe_bm PySem.F.plainAttrs_list PySem.F.slot_list_append PySem.F.type_list_append mt_append (e_fld T.c_Disk T.n_Disk_writes (pv 0)) (pa_cons (pe_tup (pa_cons (pv 1) (pa_cons (pe_callTy (c_list) (by rfl) T.n_list (by decide +kernel) (pa_cons (pv 2) (pa_nil))) (pa_nil)))) (pa_nil))))
        (pss_one (ps_dput hu (e_fld T.c_Disk T.n_Disk_newest (pv 0)) (pv 1) (pe_callTy (c_list) (by rfl) T.n_list (by decide +kernel) (pa_cons (pv 2) (pa_nil))) rfl)))))
theorem ok_Disk_flush (T : Top K mg A) : FnOk P w K mg base (L2.CX P w) 2 A.f_Disk_flush A.d_Disk_flush ["self"] (sp_Disk_flush K A.ex) := by
  refine T.F_Disk_flush.okX sc_Disk_flush (fun vs H Q E h => len1 h) (fun cdv Ar outer s H vs Q E hr h => ⟨t_Disk_flush K A.ex E, ?_, pure_Disk_flush T.fa h⟩)
  have tk : Takes (cxOf (L2.CX P w) P w K mg base ["self", "sector", "words"] "Disk.flush" (defScope s_Disk_flush) A.f_Disk_flush cdv Ar outer s H E) (WB E) := takes_of rfl rfl rfl rfl
  have po : PassesOwn (model P w) (cxOf (L2.CX P w) P w K mg base ["self", "sector", "words"] "Disk.flush" (defScope s_Disk_flush) A.f_Disk_flush cdv Ar outer s H E).A (cxOf (L2.CX P w) P w K mg base ["self", "sector", "words"] "Disk.flush" (defScope s_Disk_flush) A.f_Disk_flush cdv Ar outer s H E).env (cxOf (L2.CX P w) P w K mg base ["self", "sector", "words"] "Disk.flush" (defScope s_Disk_flush) A.f_Disk_flush cdv Ar outer s H E).xe := passes_of rfl
  have hu := hu_of hr
  exact pss_cons (ps_expr (e_meth0 (pv 0) T.c_Disk T.m_Disk_operate (ok_Disk_operate T) (hr.mono (by decide)) T.b_Disk_operate tk))
        (pss_cons (ps_for po rfl (pi_list (e_fld T.c_Disk T.n_Disk_writes (pv 0))) (pg_tup rfl (pgs_cons (pg_name (i := 1) sc_Disk_flush.nd rfl (Or.inl rfl)) (pgs_cons (pg_name (i := 2) sc_Disk_flush.nd rfl (Or.inl rfl)) (pgs_nil))))
        (pss_one (ps_asg (pe_callTy (c_list) (by rfl) T.n_list (by decide +kernel) (pa_cons (pv 2) (pa_nil))) (pg_sub (e_fld T.c_Disk T.n_Disk_sectors (pv 0)) (pv 1) (set_u hu)))))
        (pss_cons (s_fld T.c_Disk T.n_Disk_writes (pv 0) (pe_lst (pa_nil)))
        (pss_one (s_fld T.c_Disk T.n_Disk_newest (pv 0) (pe_dnewK)))))
theorem ok_Disk_waiting (T : Top K mg A) : FnOk P w K mg base (L2.CX P w) 1 A.f_Disk_waiting A.d_Disk_waiting ["self"] (sp_Disk_waiting K A.ex) := by
  refine T.F_Disk_waiting.okX sc_Disk_waiting (fun vs H Q E h => len1 h) (fun cdv Ar outer s H vs Q E hr h => ⟨t_Disk_waiting K A.ex E, ?_, pure_Disk_waiting T.fa h⟩)
  have tk : Takes (cxOf (L2.CX P w) P w K mg base ["self", "sector", "words"] "Disk.waiting" (defScope s_Disk_waiting) A.f_Disk_waiting cdv Ar outer s H E) (WB E) := takes_of rfl rfl rfl rfl
  exact pss_one (ps_ret (pe_lc (own := [("sector", 1), ("words", 2)]) (by rfl) sc_Disk_waiting.nd (pi_list (e_fld T.c_Disk T.n_Disk_writes (pv 0))) (blkOk_by (N := ["self", "sector", "words"]) (sc := defScope s_Disk_waiting) (by decide +kernel)) (fun _ _ _ _ _ => pg_tup rfl (pgs_cons (pg_name (i := 1) sc_Disk_waiting.nd rfl (Or.inl rfl)) (pgs_cons (pg_name (i := 2) sc_Disk_waiting.nd rfl (Or.inl rfl)) (pgs_nil)))) (fun _ _ _ _ _ => pts_nil) (fun _ _ _ _ _ => pe_tup (pa_cons (pv 1) (pa_cons (pe_callTy (c_list) (by rfl) T.n_list (by decide +kernel) (pa_cons (pv 2) (pa_nil))) (pa_nil))))))
theorem ok_Disk_cut (T : Top K mg A) : FnOk P w K mg base (L2.CX P w) 2 A.f_Disk_cut A.d_Disk_cut ["self", "choices"] (sp_Disk_cut K A.ex) := by
  refine T.F_Disk_cut.okX sc_Disk_cut (fun vs H Q E h => len2 h) (fun cdv Ar outer s H vs Q E hr h => ⟨t_Disk_cut K A.ex E, ?_, pure_Disk_cut T.fa h⟩)
  have tk : Takes (cxOf (L2.CX P w) P w K mg base ["self", "choices", "choice", "index", "sector", "words", "kept"] "Disk.cut" (defScope s_Disk_cut) A.f_Disk_cut cdv Ar outer s H E) (WB E) := takes_of rfl rfl rfl rfl
  have po : PassesOwn (model P w) (cxOf (L2.CX P w) P w K mg base ["self", "choices", "choice", "index", "sector", "words", "kept"] "Disk.cut" (defScope s_Disk_cut) A.f_Disk_cut cdv Ar outer s H E).A (cxOf (L2.CX P w) P w K mg base ["self", "choices", "choice", "index", "sector", "words", "kept"] "Disk.cut" (defScope s_Disk_cut) A.f_Disk_cut cdv Ar outer s H E).env (cxOf (L2.CX P w) P w K mg base ["self", "choices", "choice", "index", "sector", "words", "kept"] "Disk.cut" (defScope s_Disk_cut) A.f_Disk_cut cdv Ar outer s H E).xe := passes_of rfl
  have hu := hu_of hr
  have hl := Nat.lt_of_succ_lt hu
  exact pss_cons (ps_if (pt_not (t_tru (pe_callB (c_isi .list) (by rfl) T.n_isinstance (by decide +kernel) (pa_cons (pv 1) (pa_cons (pe_bltn rfl T.n_list (by decide +kernel) rfl) (pa_nil)))))) (pss_one (s_raise T.x_NotValid tk)) (pss_nil))
        (pss_cons (ps_for po rfl (pi_list (pv 1)) (pg_name (i := 2) sc_Disk_cut.nd rfl (Or.inl rfl))
        (pss_one (ps_if (pt_not (t_tru (e_call (ok_is_between T) (hr.mono (by decide)) T.g_is_between T.F_is_between.kp T.b_is_between tk (pa_cons (pv 2) (pa_cons (pe_int) (pa_cons (pe_glob rfl T.k_SECTOR_WORDS.choose_spec ⟨_, rfl⟩) (pa_nil))))))) (pss_one (s_raise T.x_NotValid tk)) (pss_nil))))
        (pss_cons (ps_for po rfl (pi_enum (by rfl) T.n_enumerate (pa_cons (e_fld T.c_Disk T.n_Disk_writes (pv 0)) (pa_nil))) (pg_tup rfl (pgs_cons (pg_name (i := 3) sc_Disk_cut.nd rfl (Or.inl rfl)) (pgs_cons (pg_tup rfl (pgs_cons (pg_name (i := 4) sc_Disk_cut.nd rfl (Or.inl rfl)) (pgs_cons (pg_name (i := 5) sc_Disk_cut.nd rfl (Or.inl rfl)) (pgs_nil)))) (pgs_nil))))
        (pss_one (ps_if (pt_cmpR (o_lt hl) (pv 3) (pe_callB (c_len) (by rfl) T.n_len (by decide +kernel) (pa_cons (pv 1) (pa_nil))) (nomark _)) (pss_cons (ps_set (i := 6) sc_Disk_cut.nd rfl (Or.inl rfl) (e_ix (pv 1) (pv 3)))
        (pss_one (ps_asg (pe_op o_add (e_sl (pv 5) (po_none) (po_some (pv 6))) (e_sl (e_ix (e_fld T.c_Disk T.n_Disk_sectors (pv 0)) (pv 4)) (po_some (pv 6)) (po_none))) (pg_sub (e_fld T.c_Disk T.n_Disk_sectors (pv 0)) (pv 4) (set_u hu))))) (pss_nil))))
        (pss_cons (s_fld T.c_Disk T.n_Disk_writes (pv 0) (pe_lst (pa_nil)))
        (pss_cons (s_fld T.c_Disk T.n_Disk_newest (pv 0) (pe_dnewK))
        (pss_cons (s_fld T.c_Disk T.n_Disk_left (pv 0) (pe_non))
        (pss_one (s_fld T.c_Disk T.n_Disk_power (pv 0) (pe_bl))))))))
theorem ok_sectors_of (T : Top K mg A) : FnOk P w K mg base (L2.CX P w) 1 A.f_sectors_of A.d_sectors_of ["intent"] (sp_sectors_of K A.ex) := by
  refine T.F_sectors_of.okX sc_sectors_of (fun vs H Q E h => len1 h) (fun cdv Ar outer s H vs Q E hr h => ⟨t_sectors_of K A.ex E, ?_, pure_sectors_of T.fa h⟩)
  have tk : Takes (cxOf (L2.CX P w) P w K mg base ["intent"] "sectors_of" (defScope s_sectors_of) A.f_sectors_of cdv Ar outer s H E) (WB E) := takes_of rfl rfl rfl rfl
  exact pss_one (ps_ret (pe_op o_div (pe_op o_add (pe_callB (c_len) (by rfl) T.n_len (by decide +kernel) (pa_cons (pv 0) (pa_nil))) (pe_glob rfl T.k_GROUP.choose_spec ⟨_, rfl⟩)) (pe_glob rfl T.k_GROUP.choose_spec ⟨_, rfl⟩)))
theorem ok_record_sectors (T : Top K mg A) : FnOk P w K mg base (L2.CX P w) 2 A.f_record_sectors A.d_record_sectors ["intent", "record", "generation"] (sp_record_sectors K A.ex) := by
  refine T.F_record_sectors.okX sc_record_sectors (fun vs H Q E h => len3 h) (fun cdv Ar outer s H vs Q E hr h => ⟨t_record_sectors K A.ex E, ?_, pure_record_sectors T.fa h⟩)
  have tk : Takes (cxOf (L2.CX P w) P w K mg base ["intent", "record", "generation", "parts", "words", "sectors", "part", "group"] "record_sectors" (defScope s_record_sectors) A.f_record_sectors cdv Ar outer s H E) (WB E) := takes_of rfl rfl rfl rfl
  have po : PassesOwn (model P w) (cxOf (L2.CX P w) P w K mg base ["intent", "record", "generation", "parts", "words", "sectors", "part", "group"] "record_sectors" (defScope s_record_sectors) A.f_record_sectors cdv Ar outer s H E).A (cxOf (L2.CX P w) P w K mg base ["intent", "record", "generation", "parts", "words", "sectors", "part", "group"] "record_sectors" (defScope s_record_sectors) A.f_record_sectors cdv Ar outer s H E).env (cxOf (L2.CX P w) P w K mg base ["intent", "record", "generation", "parts", "words", "sectors", "part", "group"] "record_sectors" (defScope s_record_sectors) A.f_record_sectors cdv Ar outer s H E).xe := passes_of rfl
  exact pss_cons (ps_set (i := 3) sc_record_sectors.nd rfl (Or.inl rfl) (e_call (ok_sectors_of T) (hr.mono (by decide)) T.g_sectors_of T.F_sectors_of.kp T.b_sectors_of tk (pa_cons (pv 0) (pa_nil))))
        (pss_cons (ps_set (i := 4) sc_record_sectors.nd rfl (Or.inl rfl) (pe_op o_add (pe_lst (pa_cons (pe_callB (c_len) (by rfl) T.n_len (by decide +kernel) (pa_cons (pv 0) (pa_nil))) (pa_nil))) (pe_callTy (c_list) (by rfl) T.n_list (by decide +kernel) (pa_cons (pv 0) (pa_nil)))))
        (pss_cons (ps_set (i := 4) sc_record_sectors.nd rfl (Or.inl rfl) (pe_op o_add (pv 4) (pe_op o_mul (pe_lst (pa_cons (pe_int) (pa_nil))) (pe_op o_sub (pe_op o_mul (pe_glob rfl T.k_GROUP.choose_spec ⟨_, rfl⟩) (pv 3)) (pe_callB (c_len) (by rfl) T.n_len (by decide +kernel) (pa_cons (pv 4) (pa_nil)))))))
        (pss_cons (ps_set (i := 5) sc_record_sectors.nd rfl (Or.inl rfl) (pe_lst (pa_nil)))
        (pss_cons (ps_for po rfl (pi_range1 (by rfl) T.n_range (pa_cons (pv 3) (pa_nil))) (pg_name (i := 6) sc_record_sectors.nd rfl (Or.inl rfl))
        (pss_cons (ps_set (i := 7) sc_record_sectors.nd rfl (Or.inl rfl) (e_sl (pv 4) (po_some (pe_op o_mul (pe_glob rfl T.k_GROUP.choose_spec ⟨_, rfl⟩) (pv 6))) (po_some (pe_op o_add (pe_op o_mul (pe_glob rfl T.k_GROUP.choose_spec ⟨_, rfl⟩) (pv 6)) (pe_glob rfl T.k_GROUP.choose_spec ⟨_, rfl⟩)))))
        (pss_one (ps_expr (pe_bm PySem.F.plainAttrs_list PySem.F.slot_list_append PySem.F.type_list_append mt_append (pv 5) (pa_cons (pe_op o_add (pe_op o_add (pe_lst (pa_cons (pv 1) (pa_cons (pv 6) (pa_cons (pv 3) (pa_nil))))) (pv 7)) (pe_lst (pa_cons (pv 2) (pa_nil)))) (pa_nil)))))))
        (pss_one (ps_ret (pv 5)))))))
theorem ok_Log___init__ (T : Top K mg A) : FnOk P w K mg base (L2.CX P w) 1 A.f_Log___init__ A.d_Log___init__ ["self", "generation"] (sp_Log___init__ K A.ex) := by
  refine T.F_Log___init__.okX sc_Log___init__ (fun vs H Q E h => len2 h) (fun cdv Ar outer s H vs Q E hr h => ⟨t_Log___init__ K A.ex E, ?_, pure_Log___init__ T.fa h⟩)
  have tk : Takes (cxOf (L2.CX P w) P w K mg base ["self", "generation"] "Log.__init__" (defScope s_Log___init__) A.f_Log___init__ cdv Ar outer s H E) (WB E) := takes_of rfl rfl rfl rfl
  exact pss_cons (s_fld T.c_Log T.n_Log_generation (pv 0) (pv 1))
        (pss_cons (s_fld T.c_Log T.n_Log_next_sector (pv 0) (pe_glob rfl T.k_FIRST_SECTOR.choose_spec ⟨_, rfl⟩))
        (pss_one (s_fld T.c_Log T.n_Log_next_record (pv 0) (pe_int))))
theorem ok_Log_fits (T : Top K mg A) : FnOk P w K mg base (L2.CX P w) 2 A.f_Log_fits A.d_Log_fits ["self", "intents"] (sp_Log_fits K A.ex) := by
  refine T.F_Log_fits.okX sc_Log_fits (fun vs H Q E h => len2 h) (fun cdv Ar outer s H vs Q E hr h => ⟨t_Log_fits K A.ex E, ?_, pure_Log_fits T.fa h⟩)
  have tk : Takes (cxOf (L2.CX P w) P w K mg base ["self", "intents", "needed", "intent"] "Log.fits" (defScope s_Log_fits) A.f_Log_fits cdv Ar outer s H E) (WB E) := takes_of rfl rfl rfl rfl
  have hu := hu_of hr
  have hl := Nat.lt_of_succ_lt hu
  exact pss_cons (ps_set (i := 2) sc_Log_fits.nd rfl (Or.inl rfl) (pe_callB (cr_sum rfl) (by rfl) T.n_sum (by decide +kernel) (pa_cons (pe_lc (own := [("intent", 3)]) (by rfl) sc_Log_fits.nd (pi_list (pv 1)) (blkOk_by (N := ["self", "intents", "needed", "intent"]) (sc := defScope s_Log_fits) (by decide +kernel)) (fun _ _ _ _ _ => pg_name (i := 3) sc_Log_fits.nd rfl (Or.inl rfl)) (fun _ _ _ _ _ => pts_nil) (fun _ _ _ _ _ => e_call (ok_sectors_of T) (hr.mono (by decide)) T.g_sectors_of T.F_sectors_of.kp T.b_sectors_of takes0 (pa_cons (pv 3) (pa_nil)))) (pa_nil))))
        (pss_one (ps_ret (pe_cmpR (o_le hl) (pe_op o_add (e_fld T.c_Log T.n_Log_next_sector (pv 0)) (pv 2)) (pe_op o_add (pe_glob rfl T.k_FIRST_SECTOR.choose_spec ⟨_, rfl⟩) (pe_glob rfl T.k_LOG_SECTORS.choose_spec ⟨_, rfl⟩)) (nomark _))))
theorem ok_Log_append_records (T : Top K mg A) : FnOk P w K mg base (L2.CX P w) 3 A.f_Log_append_records A.d_Log_append_records ["self", "intents"] (sp_Log_append_records K A.ex) := by
  refine T.F_Log_append_records.okX sc_Log_append_records (fun vs H Q E h => len2 h) (fun cdv Ar outer s H vs Q E hr h => ⟨t_Log_append_records K A.ex E, ?_, pure_Log_append_records T.fa h⟩)
  have tk : Takes (cxOf (L2.CX P w) P w K mg base ["self", "intents", "writes", "intent", "words"] "Log.append_records" (defScope s_Log_append_records) A.f_Log_append_records cdv Ar outer s H E) (WB E) := takes_of rfl rfl rfl rfl
  have po : PassesOwn (model P w) (cxOf (L2.CX P w) P w K mg base ["self", "intents", "writes", "intent", "words"] "Log.append_records" (defScope s_Log_append_records) A.f_Log_append_records cdv Ar outer s H E).A (cxOf (L2.CX P w) P w K mg base ["self", "intents", "writes", "intent", "words"] "Log.append_records" (defScope s_Log_append_records) A.f_Log_append_records cdv Ar outer s H E).env (cxOf (L2.CX P w) P w K mg base ["self", "intents", "writes", "intent", "words"] "Log.append_records" (defScope s_Log_append_records) A.f_Log_append_records cdv Ar outer s H E).xe := passes_of rfl
  exact pss_cons (ps_if (pt_not (t_tru (e_meth (pv 0) T.c_Log T.m_Log_fits (ok_Log_fits T) (hr.mono (by decide)) T.b_Log_fits tk (pa_cons (pv 1) (pa_nil))))) (pss_one (s_raise T.x_NoSpace tk)) (pss_nil))
        (pss_cons (ps_set (i := 2) sc_Log_append_records.nd rfl (Or.inl rfl) (pe_lst (pa_nil)))
        (pss_cons (ps_for po rfl (pi_list (pv 1)) (pg_name (i := 3) sc_Log_append_records.nd rfl (Or.inl rfl))
        (pss_cons (ps_for po rfl (pi_list (e_call (ok_record_sectors T) (hr.mono (by decide)) T.g_record_sectors T.F_record_sectors.kp T.b_record_sectors tk (pa_cons (pv 3) (pa_cons (e_fld T.c_Log T.n_Log_next_record (pv 0)) (pa_cons (e_fld T.c_Log T.n_Log_generation (pv 0)) (pa_nil)))))) (pg_name (i := 4) sc_Log_append_records.nd rfl (Or.inl rfl))
        (pss_cons (ps_expr (pe_bm PySem.F.plainAttrs_list PySem.F.slot_list_append PySem.F.type_list_append mt_append (pv 2) (pa_cons (pe_tup (pa_cons (e_fld T.c_Log T.n_Log_next_sector (pv 0)) (pa_cons (pv 4) (pa_nil)))) (pa_nil))))
        (pss_one (s_augf T.c_Log T.n_Log_next_sector (pv 0) (pe_int) in_add))))
        (pss_one (s_augf T.c_Log T.n_Log_next_record (pv 0) (pe_int) in_add))))
        (pss_one (ps_ret (pv 2)))))
theorem ok_whole_parts (T : Top K mg A) : FnOk P w K mg base (L2.CX P w) 1 A.f_whole_parts A.d_whole_parts ["sectors", "at", "record", "generation"] (sp_whole_parts K A.ex) := by
  refine T.F_whole_parts.okX sc_whole_parts (fun vs H Q E h => len4 h) (fun cdv Ar outer s H vs Q E hr h => ⟨t_whole_parts K A.ex E, ?_, pure_whole_parts T.fa h⟩)
  have tk : Takes (cxOf (L2.CX P w) P w K mg base ["sectors", "at", "record", "generation", "parts", "part", "words"] "whole_parts" (defScope s_whole_parts) A.f_whole_parts cdv Ar outer s H E) (WB E) := takes_of rfl rfl rfl rfl
  have po : PassesOwn (model P w) (cxOf (L2.CX P w) P w K mg base ["sectors", "at", "record", "generation", "parts", "part", "words"] "whole_parts" (defScope s_whole_parts) A.f_whole_parts cdv Ar outer s H E).A (cxOf (L2.CX P w) P w K mg base ["sectors", "at", "record", "generation", "parts", "part", "words"] "whole_parts" (defScope s_whole_parts) A.f_whole_parts cdv Ar outer s H E).env (cxOf (L2.CX P w) P w K mg base ["sectors", "at", "record", "generation", "parts", "part", "words"] "whole_parts" (defScope s_whole_parts) A.f_whole_parts cdv Ar outer s H E).xe := passes_of rfl
  have hu := hu_of hr
  have hl := Nat.lt_of_succ_lt hu
  exact pss_cons (ps_set (i := 4) sc_whole_parts.nd rfl (Or.inl rfl) (e_ix (e_ix (pv 0) (pv 1)) (pe_int)))
        (pss_cons (ps_if (PW.pt (pw_or (pt_cmpR (o_lt hl) (pv 4) (pe_int) (nomark _)) (pw_or1 (pt_cmpR (o_gt) (pv 4) (pe_op o_sub (pe_callB (c_len) (by rfl) T.n_len (by decide +kernel) (pa_cons (pv 0) (pa_nil))) (pv 1)) (nomark _))))) (pss_one (ps_ret (pe_int))) (pss_nil))
        (pss_cons (ps_for po rfl (pi_range1 (by rfl) T.n_range (pa_cons (pv 4) (pa_nil))) (pg_name (i := 5) sc_whole_parts.nd rfl (Or.inl rfl))
        (pss_cons (ps_set (i := 6) sc_whole_parts.nd rfl (Or.inl rfl) (e_ix (pv 0) (pe_op o_add (pv 1) (pv 5))))
        (pss_one (ps_if (PW.pt (pw_or (pt_cmpR (o_ne hr.units) (e_sl (pv 6) (po_none) (po_some (pe_int))) (pe_lst (pa_cons (pv 2) (pa_cons (pv 5) (pa_cons (pv 4) (pa_nil))))) (nomark _)) (pw_or1 (pt_cmpR (o_ne hr.units) (e_ix (pv 6) (pe_int)) (pv 3) (nomark _))))) (pss_one (ps_ret (pe_int))) (pss_nil)))))
        (pss_one (ps_ret (pv 4)))))
theorem ok_is_name (T : Top K mg A) : FnOk P w K mg base (L2.CX P w) 3 A.f_is_name A.d_is_name ["word"] (sp_is_name K A.ex) := by
  refine T.F_is_name.okX sc_is_name (fun vs H Q E h => len1 h) (fun cdv Ar outer s H vs Q E hr h => ⟨t_is_name K A.ex E, ?_, pure_is_name T.fa h⟩)
  have tk : Takes (cxOf (L2.CX P w) P w K mg base ["word"] "is_name" (defScope s_is_name) A.f_is_name cdv Ar outer s H E) (WB E) := takes_of rfl rfl rfl rfl
  exact pss_cons (s_try rfl rfl ⟨rfl, by decide, Or.inl T.x_BadName.g⟩ tk (fun W pn xe tk po => pss_one (ps_expr (e_call (ok_word_name T) (hr.mono (by decide)) T.g_word_name T.F_word_name.kp T.b_word_name tk (pa_cons (pv 0) (pa_nil))))) (fun a oe cls d pn hz hf => pss_one (ps_ret (pe_bl))))
        (pss_one (ps_ret (pe_bl)))
theorem ok_check_words (T : Top K mg A) : FnOk P w K mg base (L2.CX P w) 4 A.f_check_words A.d_check_words ["words"] (sp_check_words K A.ex) := by
  refine T.F_check_words.okX sc_check_words (fun vs H Q E h => len1 h) (fun cdv Ar outer s H vs Q E hr h => ⟨t_check_words K A.ex E, ?_, pure_check_words T.fa h⟩)
  have tk : Takes (cxOf (L2.CX P w) P w K mg base ["words", "kind", "most"] "check_words" (defScope s_check_words) A.f_check_words cdv Ar outer s H E) (WB E) := takes_of rfl rfl rfl rfl
  have hu := hu_of hr
  have hl := Nat.lt_of_succ_lt hu
  exact pss_cons (ps_set (i := 1) sc_check_words.nd rfl (Or.inl rfl) (e_ix (pv 0) (pe_int)))
        (pss_cons (ps_if (pt_cmpR (o_eq hr.units) (pv 1) (pe_int) (nomark _)) (pss_one (ps_ret (pe_and (e_call (ok_is_name T) (hr.mono (by decide)) T.g_is_name T.F_is_name.kp T.b_is_name tk (pa_cons (e_ix (pv 0) (pe_int)) (pa_nil))) (pe_and (pe_cmpR (o_in hu) (e_ix (pv 0) (pe_int)) (pe_tup (pa_cons (pe_glob rfl T.k_FILE.choose_spec ⟨_, rfl⟩) (pa_cons (pe_glob rfl T.k_DIRECTORY.choose_spec ⟨_, rfl⟩) (pa_nil)))) (by rfl)) (pe_one (pe_cmpR (o_le hl) (e_ix (pv 0) (pe_int)) (pe_glob rfl T.k_MAX_OWNER.choose_spec ⟨_, rfl⟩) (nomark _))))))) (pss_nil))
        (pss_cons (ps_if (pt_cmpR (o_eq hr.units) (pv 1) (pe_int) (nomark _)) (pss_one (ps_ret (pe_and (pe_cmpR (o_ge hl) (e_ix (pv 0) (pe_int)) (pe_int) (nomark _)) (pe_one (e_call (ok_is_name T) (hr.mono (by decide)) T.g_is_name T.F_is_name.kp T.b_is_name tk (pa_cons (e_ix (pv 0) (pe_int)) (pa_nil))))))) (pss_nil))
        (pss_cons (ps_if (PW.pt (pw_or (pt_cmpR (o_eq hr.units) (pv 1) (pe_int) (nomark _)) (pw_or1 (pt_cmpR (o_eq hr.units) (pv 1) (pe_int) (nomark _))))) (pss_one (ps_ret (e_call (ok_is_name T) (hr.mono (by decide)) T.g_is_name T.F_is_name.kp T.b_is_name tk (pa_cons (e_ix (pv 0) (pe_int)) (pa_nil))))) (pss_nil))
        (pss_cons (ps_if (pt_cmpR (o_eq hr.units) (pv 1) (pe_int) (nomark _)) (pss_one (ps_ret (pe_and (e_call (ok_is_name T) (hr.mono (by decide)) T.g_is_name T.F_is_name.kp T.b_is_name tk (pa_cons (e_ix (pv 0) (pe_int)) (pa_nil))) (pe_and (pe_cmpR (o_ge hl) (e_ix (pv 0) (pe_int)) (pe_int) (nomark _)) (pe_one (e_call (ok_is_name T) (hr.mono (by decide)) T.g_is_name T.F_is_name.kp T.b_is_name tk (pa_cons (e_ix (pv 0) (pe_int)) (pa_nil)))))))) (pss_nil))
        (pss_cons (ps_if (pt_cmpR (o_eq hr.units) (pv 1) (pe_int) (nomark _)) (pss_one (ps_ret (pe_cmpR (o_le hl) (pe_op o_sub (pe_op o_add (e_ix (pv 0) (pe_int)) (pe_callB (c_len) (by rfl) T.n_len (by decide +kernel) (pa_cons (pv 0) (pa_nil)))) (pe_int)) (pe_glob rfl T.k_MAX_CELLS.choose_spec ⟨_, rfl⟩) (nomark _)))) (pss_nil))
        (pss_cons (ps_if (pt_cmpR (o_eq hr.units) (pv 1) (pe_int) (nomark _)) (pss_one (ps_ret (pe_cmpR (o_le hl) (e_ix (pv 0) (pe_int)) (pe_glob rfl T.k_MAX_CELLS.choose_spec ⟨_, rfl⟩) (nomark _)))) (pss_nil))
        (pss_cons (ps_if (pt_cmpR (o_eq hr.units) (pv 1) (pe_int) (nomark _)) (pss_cons (ps_set (i := 2) sc_check_words.nd rfl (Or.inl rfl) (pe_op o_sub (pe_op o_div (pe_glob rfl T.k_MAX_CELLS.choose_spec ⟨_, rfl⟩) (pe_glob rfl T.k_UNIT.choose_spec ⟨_, rfl⟩)) (e_ix (pv 0) (pe_int))))
        (pss_one (ps_ret (pe_and (pe_cmpR (o_ge hl) (e_ix (pv 0) (pe_int)) (pe_int) (nomark _)) (pe_and (pe_cmpR (o_ge hl) (e_ix (pv 0) (pe_int)) (pe_int) (nomark _)) (pe_and (pe_cmpR (o_le hl) (e_ix (pv 0) (pe_int)) (pv 2) (nomark _)) (pe_one (pe_cmpR (o_le hl) (e_ix (pv 0) (pe_int)) (pv 2) (nomark _))))))))) (pss_nil))
        (pss_one (ps_ret (pe_or (pe_cmpR (o_eq hr.units) (pv 1) (pe_int) (nomark _)) (pe_one (pe_cmpR (o_le hl) (e_ix (pv 0) (pe_int)) (pe_glob rfl T.k_MAX_OWNER.choose_spec ⟨_, rfl⟩) (nomark _)))))))))))))
theorem ok_check_intent (T : Top K mg A) : FnOk P w K mg base (L2.CX P w) 5 A.f_check_intent A.d_check_intent ["words"] (sp_check_intent K A.ex) := by
  refine T.F_check_intent.okX sc_check_intent (fun vs H Q E h => len1 h) (fun cdv Ar outer s H vs Q E hr h => ⟨t_check_intent K A.ex E, ?_, pure_check_intent T.fa h⟩)
  have tk : Takes (cxOf (L2.CX P w) P w K mg base ["words"] "check_intent" (defScope s_check_intent) A.f_check_intent cdv Ar outer s H E) (WB E) := takes_of rfl rfl rfl rfl
  have hu := hu_of hr
  have hl := Nat.lt_of_succ_lt hu
  exact pss_cons (ps_if (PW.pt (pw_or (pt_cmpR (o_lt hl) (pe_callB (c_len) (by rfl) T.n_len (by decide +kernel) (pa_cons (pv 0) (pa_nil))) (pe_int) (nomark _)) (pw_or (pt_cmpR (o_lt hl) (e_ix (pv 0) (pe_int)) (pe_int) (nomark _)) (pw_or1 (pt_cmpR (o_gt) (e_ix (pv 0) (pe_int)) (pe_int) (nomark _)))))) (pss_one (ps_ret (pe_bl))) (pss_nil))
        (pss_cut (ps_if (pt_cmpR (o_eq hr.units) (e_ix (pv 0) (pe_int)) (pe_int) (nomark _)) (pss_one (ps_if (pt_cmpR (o_lt hl) (pe_callB (c_len) (by rfl) T.n_len (by decide +kernel) (pa_cons (pv 0) (pa_nil))) (pe_int) (nomark _)) (pss_one (ps_ret (pe_bl))) (pss_nil))) (pss_one (ps_if (pt_cmpR (o_ne hr.units) (pe_callB (c_len) (by rfl) T.n_len (by decide +kernel) (pa_cons (pv 0) (pa_nil))) (e_ki T.k_LENGTHS.2 (pe_glob rfl T.k_LENGTHS.1 rfl) (e_ix (pv 0) (pe_int))) (nomark _)) (pss_one (ps_ret (pe_bl))) (pss_nil))))
        (pss_one (ps_ret (pe_and (e_call (ok_is_name T) (hr.mono (by decide)) T.g_is_name T.F_is_name.kp T.b_is_name tk (pa_cons (e_ix (pv 0) (pe_int)) (pa_nil))) (pe_and (pe_cmpR (o_ge hl) (e_ix (pv 0) (pe_int)) (pe_int) (nomark _)) (pe_one (e_call (ok_check_words T) (hr.mono (by decide)) T.g_check_words T.F_check_words.kp T.b_check_words tk (pa_cons (pv 0) (pa_nil)))))))))
theorem ok_record_intent (T : Top K mg A) : FnOk P w K mg base (L2.CX P w) 6 A.f_record_intent A.d_record_intent ["sectors"] (sp_record_intent K A.ex) := by
  refine T.F_record_intent.okX sc_record_intent (fun vs H Q E h => len1 h) (fun cdv Ar outer s H vs Q E hr h => ⟨t_record_intent K A.ex E, ?_, pure_record_intent T.fa h⟩)
  have tk : Takes (cxOf (L2.CX P w) P w K mg base ["sectors", "words", "sector", "count", "intent"] "record_intent" (defScope s_record_intent) A.f_record_intent cdv Ar outer s H E) (WB E) := takes_of rfl rfl rfl rfl
  have po : PassesOwn (model P w) (cxOf (L2.CX P w) P w K mg base ["sectors", "words", "sector", "count", "intent"] "record_intent" (defScope s_record_intent) A.f_record_intent cdv Ar outer s H E).A (cxOf (L2.CX P w) P w K mg base ["sectors", "words", "sector", "count", "intent"] "record_intent" (defScope s_record_intent) A.f_record_intent cdv Ar outer s H E).env (cxOf (L2.CX P w) P w K mg base ["sectors", "words", "sector", "count", "intent"] "record_intent" (defScope s_record_intent) A.f_record_intent cdv Ar outer s H E).xe := passes_of rfl
  exact pss_cons (ps_set (i := 1) sc_record_intent.nd rfl (Or.inl rfl) (pe_lst (pa_nil)))
        (pss_cons (ps_for po rfl (pi_list (pv 0)) (pg_name (i := 2) sc_record_intent.nd rfl (Or.inl rfl))
        (pss_one (ps_expr (pe_bm PySem.F.plainAttrs_list PySem.F.slot_list_extend PySem.F.type_list_extend mt_extend (pv 1) (pa_cons (e_sl (pv 2) (po_some (pe_int)) (po_some (pe_int))) (pa_nil))))))
        (pss_cons (ps_set (i := 3) sc_record_intent.nd rfl (Or.inl rfl) (e_ix (pv 1) (pe_int)))
        (pss_cons (ps_if (pt_cmpR (o_ne hr.units) (pe_op o_div (pe_op o_add (pv 3) (pe_glob rfl T.k_GROUP.choose_spec ⟨_, rfl⟩)) (pe_glob rfl T.k_GROUP.choose_spec ⟨_, rfl⟩)) (pe_callB (c_len) (by rfl) T.n_len (by decide +kernel) (pa_cons (pv 0) (pa_nil))) (nomark _)) (pss_one (s_raise T.x_BadImage tk)) (pss_nil))
        (pss_cons (ps_if (pt_cmpR (o_ne hr.units) (e_sl (pv 1) (po_some (pe_op o_add (pe_int) (pv 3))) (po_none)) (pe_op o_mul (pe_lst (pa_cons (pe_int) (pa_nil))) (pe_op o_sub (pe_op o_sub (pe_callB (c_len) (by rfl) T.n_len (by decide +kernel) (pa_cons (pv 1) (pa_nil))) (pe_int)) (pv 3))) (nomark _)) (pss_one (s_raise T.x_BadImage tk)) (pss_nil))
        (pss_cons (ps_set (i := 4) sc_record_intent.nd rfl (Or.inl rfl) (pe_callTy (c_tuple) (by rfl) T.n_tuple (by decide +kernel) (pa_cons (e_sl (pv 1) (po_some (pe_int)) (po_some (pe_op o_add (pe_int) (pv 3)))) (pa_nil))))
        (pss_cons (ps_if (pt_not (t_tru (e_call (ok_check_intent T) (hr.mono (by decide)) T.g_check_intent T.F_check_intent.kp T.b_check_intent tk (pa_cons (pv 4) (pa_nil))))) (pss_one (s_raise T.x_BadImage tk)) (pss_nil))
        (pss_one (ps_ret (pv 4)))))))))
theorem ok_whole_records (T : Top K mg A) : FnOk P w K mg base (L2.CX P w) 7 A.f_whole_records A.d_whole_records ["sectors", "generation"] (sp_whole_records K A.ex) := by
  refine T.F_whole_records.okX sc_whole_records (fun vs H Q E h => len2 h) (fun cdv Ar outer s H vs Q E hr h => ⟨t_whole_records K A.ex E, ?_, pure_whole_records T.fa h⟩)
  have tk : Takes (cxOf (L2.CX P w) P w K mg base ["sectors", "generation", "intents", "at", "parts"] "whole_records" (defScope s_whole_records) A.f_whole_records cdv Ar outer s H E) (WB E) := takes_of rfl rfl rfl rfl
  have po : PassesOwn (model P w) (cxOf (L2.CX P w) P w K mg base ["sectors", "generation", "intents", "at", "parts"] "whole_records" (defScope s_whole_records) A.f_whole_records cdv Ar outer s H E).A (cxOf (L2.CX P w) P w K mg base ["sectors", "generation", "intents", "at", "parts"] "whole_records" (defScope s_whole_records) A.f_whole_records cdv Ar outer s H E).env (cxOf (L2.CX P w) P w K mg base ["sectors", "generation", "intents", "at", "parts"] "whole_records" (defScope s_whole_records) A.f_whole_records cdv Ar outer s H E).xe := passes_of rfl
  have hu := hu_of hr
  have hl := Nat.lt_of_succ_lt hu
  exact pss_cons (ps_set (i := 2) sc_whole_records.nd rfl (Or.inl rfl) (pe_lst (pa_nil)))
        (pss_cons (ps_set (i := 3) sc_whole_records.nd rfl (Or.inl rfl) (pe_int))
        (pss_cons (ps_while po (pt_cmpR (o_lt hl) (pv 3) (pe_callB (c_len) (by rfl) T.n_len (by decide +kernel) (pa_cons (pv 0) (pa_nil))) (nomark _))
        (pss_cons (ps_set (i := 4) sc_whole_records.nd rfl (Or.inl rfl) (e_call (ok_whole_parts T) (hr.mono (by decide)) T.g_whole_parts T.F_whole_parts.kp T.b_whole_parts tk (pa_cons (pv 0) (pa_cons (pv 3) (pa_cons (pe_op o_add (pe_callB (c_len) (by rfl) T.n_len (by decide +kernel) (pa_cons (pv 2) (pa_nil))) (pe_int)) (pa_cons (pv 1) (pa_nil)))))))
        (pss_cons (ps_if (pt_cmpR (o_eq hr.units) (pv 4) (pe_int) (nomark _)) (pss_one (ps_break)) (pss_nil))
        (pss_cons (ps_expr (pe_bm PySem.F.plainAttrs_list PySem.F.slot_list_append PySem.F.type_list_append mt_append (pv 2) (pa_cons (e_call (ok_record_intent T) (hr.mono (by decide)) T.g_record_intent T.F_record_intent.kp T.b_record_intent tk (pa_cons (e_sl (pv 0) (po_some (pv 3)) (po_some (pe_op o_add (pv 3) (pv 4)))) (pa_nil))) (pa_nil))))
        (pss_one (ps_aug (i := 3) sc_whole_records.nd rfl (Or.inl rfl) (pv 4) ip_add))))))
        (pss_one (ps_ret (pv 2)))))
theorem ok__law_cell (T : Top K mg A) : FnOk P w K mg base (L2.CX P w) 1 A.f__law_cell A.d__law_cell ["_law_script", "_law_k"] (sp__law_cell K A.ex) := by
  refine T.F__law_cell.okX sc__law_cell (fun vs H Q E h => len2 h) (fun cdv Ar outer s H vs Q E hr h => ⟨t__law_cell K A.ex E, ?_, pure__law_cell T.fa h⟩)
  have tk : Takes (cxOf (L2.CX P w) P w K mg base ["_law_script", "_law_k"] "_law_cell" (defScope s__law_cell) A.f__law_cell cdv Ar outer s H E) (WB E) := takes_of rfl rfl rfl rfl
  have hu := hu_of hr
  have hl := Nat.lt_of_succ_lt hu
  exact pss_cons (ps_if (pt_cmpR (o_lt hl) (pv 1) (pe_callB (c_len) (by rfl) T.n_len (by decide +kernel) (pa_cons (pv 0) (pa_nil))) (nomark _)) (pss_one (ps_ret (pe_callTy (c_int) (by rfl) T.n_int (by decide +kernel) (pa_cons (e_ix (pv 0) (pv 1)) (pa_nil))))) (pss_nil))
        (pss_one (ps_ret (pe_int)))
theorem ok__law_digits (T : Top K mg A) : FnOk P w K mg base (L2.CX P w) 1 A.f__law_digits A.d__law_digits ["_law_cell_here", "_law_bases"] (sp__law_digits K A.ex) := by
  refine T.F__law_digits.okX sc__law_digits (fun vs H Q E h => len2 h) (fun cdv Ar outer s H vs Q E hr h => ⟨t__law_digits K A.ex E, ?_, pure__law_digits T.fa h⟩)
  have tk : Takes (cxOf (L2.CX P w) P w K mg base ["_law_cell_here", "_law_bases", "_law_digits_here", "_law_rest", "_law_base", "_law_mixed"] "_law_digits" (defScope s__law_digits) A.f__law_digits cdv Ar outer s H E) (WB E) := takes_of rfl rfl rfl rfl
  have po : PassesOwn (model P w) (cxOf (L2.CX P w) P w K mg base ["_law_cell_here", "_law_bases", "_law_digits_here", "_law_rest", "_law_base", "_law_mixed"] "_law_digits" (defScope s__law_digits) A.f__law_digits cdv Ar outer s H E).A (cxOf (L2.CX P w) P w K mg base ["_law_cell_here", "_law_bases", "_law_digits_here", "_law_rest", "_law_base", "_law_mixed"] "_law_digits" (defScope s__law_digits) A.f__law_digits cdv Ar outer s H E).env (cxOf (L2.CX P w) P w K mg base ["_law_cell_here", "_law_bases", "_law_digits_here", "_law_rest", "_law_base", "_law_mixed"] "_law_digits" (defScope s__law_digits) A.f__law_digits cdv Ar outer s H E).xe := passes_of rfl
  have hu := hu_of hr
  have hl := Nat.lt_of_succ_lt hu
  exact pss_cons (ps_set (i := 2) sc__law_digits.nd rfl (Or.inl rfl) (pe_lst (pa_nil)))
        (pss_cons (ps_set (i := 3) sc__law_digits.nd rfl (Or.inl rfl) (pe_callTy (c_int) (by rfl) T.n_int (by decide +kernel) (pa_cons (pv 0) (pa_nil))))
        (pss_cons (ps_for po rfl (pi_list (pv 1)) (pg_name (i := 4) sc__law_digits.nd rfl (Or.inl rfl))
        (pss_one (ps_if (pt_cmpR (o_ge hl) (pv 0) (pe_op o_pow (pe_int) (pe_int)) (nomark _)) (pss_cons (ps_expr (pe_bm PySem.F.plainAttrs_list PySem.F.slot_list_append PySem.F.type_list_append mt_append (pv 2) (pa_cons (pe_op o_mod (pe_callTy (c_int) (by rfl) T.n_int (by decide +kernel) (pa_cons (pv 3) (pa_nil))) (pv 4)) (pa_nil))))
        (pss_one (ps_set (i := 3) sc__law_digits.nd rfl (Or.inl rfl) (pe_op o_div (pv 3) (pv 4))))) (pss_cons (ps_set (i := 3) sc__law_digits.nd rfl (Or.inl rfl) (pe_op o_mod (pe_op o_add (pe_op o_add (pe_op o_mul (pe_callTy (c_int) (by rfl) T.n_int (by decide +kernel) (pa_cons (pv 3) (pa_nil))) (pe_int)) (pe_op o_mul (pe_int) (pe_callB (c_len) (by rfl) T.n_len (by decide +kernel) (pa_cons (pv 2) (pa_nil))))) (pe_int)) (pe_int)))
        (pss_cons (ps_set (i := 5) sc__law_digits.nd rfl (Or.inl rfl) (pe_op o_mod (pe_op o_mul (pe_callTy (c_int) (by rfl) T.n_int (by decide +kernel) (pa_cons (pv 3) (pa_nil))) (pe_callTy (c_int) (by rfl) T.n_int (by decide +kernel) (pa_cons (pv 3) (pa_nil)))) (pe_int)))
        (pss_one (ps_expr (pe_bm PySem.F.plainAttrs_list PySem.F.slot_list_append PySem.F.type_list_append mt_append (pv 2) (pa_cons (pe_op o_mod (pe_op o_div (pe_callTy (c_int) (by rfl) T.n_int (by decide +kernel) (pa_cons (pv 5) (pa_nil))) (pe_int)) (pv 4)) (pa_nil))))))))))
        (pss_one (ps_ret (pv 2)))))
theorem ok__law_intent (T : Top K mg A) : FnOk P w K mg base (L2.CX P w) 2 A.f__law_intent A.d__law_intent ["_law_cell_here", "_law_most"] (sp__law_intent K A.ex) := by
  refine T.F__law_intent.okX sc__law_intent (fun vs H Q E h => len2 h) (fun cdv Ar outer s H vs Q E hr h => ⟨t__law_intent K A.ex E, ?_, pure__law_intent T.fa h⟩)
  have tk : Takes (cxOf (L2.CX P w) P w K mg base ["_law_cell_here", "_law_most", "_law_digits_here", "_law_words", "_law_kind", "_law_inode", "_law_other", "_law_main", "_law_size", "_law_cells", "_law_k"] "_law_intent" (defScope s__law_intent) A.f__law_intent cdv Ar outer s H E) (WB E) := takes_of rfl rfl rfl rfl
  exact pss_cons (ps_set (i := 2) sc__law_intent.nd rfl (Or.inr rfl) (e_call (ok__law_digits T) (hr.mono (by decide)) T.g__law_digits T.F__law_digits.kp T.b__law_digits tk (pa_cons (pv 0) (pa_cons (pe_lst (pa_cons (pe_int) (pa_cons (pe_int) (pa_cons (pe_int) (pa_cons (pe_int) (pa_cons (pe_int) (pa_cons (pe_int) (pa_cons (pe_int) (pa_cons (pv 1) (pa_cons (pe_int) (pa_cons (pe_int) (pa_cons (pe_int) (pa_cons (pe_int) (pa_cons (pe_op o_pow (pe_int) (pe_int)) (pa_nil))))))))))))))) (pa_nil)))))
        (pss_cons (ps_set (i := 3) sc__law_intent.nd rfl (Or.inl rfl) (pe_lst (pa_cons (pe_op o_pow (pe_int) (pe_int)) (pa_cons (pe_op o_mul (pe_int) (pe_op o_pow (pe_int) (pe_int))) (pa_cons (pe_op o_mul (pe_int) (pe_op o_pow (pe_int) (pe_int))) (pa_nil))))))
        (pss_cons (ps_set (i := 4) sc__law_intent.nd rfl (Or.inl rfl) (pe_op o_add (pe_int) (e_ix (pv 2) (pe_int))))
        (pss_cons (ps_set (i := 5) sc__law_intent.nd rfl (Or.inl rfl) (pe_op o_add (pe_int) (e_ix (pv 2) (pe_int))))
        (pss_cons (ps_set (i := 6) sc__law_intent.nd rfl (Or.inl rfl) (pe_op o_add (pe_int) (e_ix (pv 2) (pe_int))))
        (pss_cons (ps_set (i := 7) sc__law_intent.nd rfl (Or.inl rfl) (pe_op o_add (pe_op o_add (pe_op o_add (pe_op o_mul (pe_int) (pe_op o_pow (pe_int) (pe_int))) (pe_op o_mul (pe_int) (pe_op o_pow (pe_int) (pe_int)))) (pe_op o_mul (pe_int) (pe_op o_pow (pe_int) (pe_int)))) (pe_op o_mul (pe_int) (pe_op o_pow (pe_int) (pe_int)))))
        (pss_cons (ps_if (pt_cmpR (o_eq hr.units) (pv 4) (pe_int) (nomark _)) (pss_one (ps_ret (pe_tup (pa_cons (pe_int) (pa_cons (pv 7) (pa_cons (pv 5) (pa_cons (e_ix (pv 3) (e_ix (pv 2) (pe_int))) (pa_cons (pe_op o_add (pe_int) (e_ix (pv 2) (pe_int))) (pa_cons (e_ix (pv 2) (pe_int)) (pa_nil)))))))))) (pss_nil))
        (pss_cons (ps_if (pt_cmpR (o_eq hr.units) (pv 4) (pe_int) (nomark _)) (pss_one (ps_ret (pe_tup (pa_cons (pe_int) (pa_cons (pv 7) (pa_cons (pv 5) (pa_cons (pv 6) (pa_cons (e_ix (pv 3) (e_ix (pv 2) (pe_int))) (pa_nil))))))))) (pss_nil))
        (pss_cons (ps_if (PW.pt (pw_or (pt_cmpR (o_eq hr.units) (pv 4) (pe_int) (nomark _)) (pw_or1 (pt_cmpR (o_eq hr.units) (pv 4) (pe_int) (nomark _))))) (pss_one (ps_ret (pe_tup (pa_cons (pv 4) (pa_cons (pv 7) (pa_cons (pv 5) (pa_cons (e_ix (pv 3) (e_ix (pv 2) (pe_int))) (pa_nil)))))))) (pss_nil))
        (pss_cons (ps_if (pt_cmpR (o_eq hr.units) (pv 4) (pe_int) (nomark _)) (pss_one (ps_ret (pe_tup (pa_cons (pe_int) (pa_cons (pv 7) (pa_cons (pv 5) (pa_cons (e_ix (pv 3) (e_ix (pv 2) (pe_int))) (pa_cons (pv 6) (pa_cons (e_ix (pv 3) (e_ix (pv 2) (pe_int))) (pa_nil)))))))))) (pss_nil))
        (pss_cons (ps_if (pt_cmpR (o_eq hr.units) (pv 4) (pe_int) (nomark _)) (pss_cons (ps_set (i := 8) sc__law_intent.nd rfl (Or.inl rfl) (pe_op o_add (pe_int) (e_ix (pv 2) (pe_int))))
        (pss_cons (ps_setLc (i := 9) (own := [("_law_k", 10)]) (by rfl) sc__law_intent.nd rfl rfl (sw_true rfl rfl rfl (by decide +kernel)) (pi_range1 (by rfl) T.n_range (pa_cons (pv 8) (pa_nil))) (blkOk_by (N := ["_law_cell_here", "_law_most", "_law_digits_here", "_law_words", "_law_kind", "_law_inode", "_law_other", "_law_main", "_law_size", "_law_cells", "_law_k"]) (sc := defScope s__law_intent) (by decide +kernel)) (fun _ _ _ _ _ => pg_name (i := 10) sc__law_intent.nd rfl (Or.inl rfl)) (fun _ _ _ _ _ => pts_nil) (fun _ _ _ _ _ => pe_op o_add (e_ix (pv 2) (pe_int)) (pe_op o_mul (pv 10) (e_ix (pv 2) (pe_int)))))
        (pss_one (ps_ret (pe_callTy (c_tuple) (by rfl) T.n_tuple (by decide +kernel) (pa_cons (pe_op o_add (pe_lst (pa_cons (pe_int) (pa_cons (pv 7) (pa_cons (pv 5) (pa_cons (pe_callB (c_min rfl) (by rfl) T.n_min (by decide +kernel) (pa_cons (pe_op o_div (e_ix (pv 2) (pe_int)) (pe_op o_add (pe_int) (pe_op o_mul (pe_int) (e_ix (pv 2) (pe_int))))) (pa_cons (pe_op o_sub (pe_int) (pv 8)) (pa_nil)))) (pa_nil)))))) (pv 9)) (pa_nil))))))) (pss_nil))
        (pss_cons (ps_if (pt_cmpR (o_eq hr.units) (pv 4) (pe_int) (nomark _)) (pss_one (ps_ret (pe_tup (pa_cons (pe_int) (pa_cons (pv 7) (pa_cons (pv 5) (pa_cons (pe_op o_div (e_ix (pv 2) (pe_int)) (pe_op o_add (pe_int) (pe_op o_mul (pe_int) (e_ix (pv 2) (pe_int))))) (pa_nil)))))))) (pss_nil))
        (pss_cons (ps_if (pt_cmpR (o_eq hr.units) (pv 4) (pe_int) (nomark _)) (pss_one (ps_ret (pe_tup (pa_cons (pe_int) (pa_cons (pv 7) (pa_cons (pv 5) (pa_cons (pe_op o_div (e_ix (pv 2) (pe_int)) (pe_op o_add (pe_int) (pe_op o_mul (pe_int) (e_ix (pv 2) (pe_int))))) (pa_cons (pv 6) (pa_cons (pe_op o_div (e_ix (pv 2) (pe_int)) (pe_op o_add (pe_int) (pe_op o_mul (pe_int) (e_ix (pv 2) (pe_int))))) (pa_cons (pe_op o_add (pe_int) (pe_op o_mod (e_ix (pv 2) (pe_int)) (pe_int))) (pa_nil))))))))))) (pss_nil))
        (pss_cons (ps_if (pt_cmpR (o_eq hr.units) (pv 4) (pe_int) (nomark _)) (pss_one (ps_ret (pe_tup (pa_cons (pe_int) (pa_cons (pv 7) (pa_cons (pv 5) (pa_cons (e_ix (pv 2) (pe_int)) (pa_nil)))))))) (pss_nil))
        (pss_one (ps_ret (pe_tup (pa_cons (pe_int) (pa_cons (pv 7) (pa_cons (pv 5) (pa_nil))))))))))))))))))))
theorem ok__law_old_log (T : Top K mg A) : FnOk P w K mg base (L2.CX P w) 4 A.f__law_old_log A.d__law_old_log ["_law_disk", "_law_cell_here", "_law_generation"] (sp__law_old_log K A.ex) := by
  refine T.F__law_old_log.okX sc__law_old_log (fun vs H Q E h => len3 h) (fun cdv Ar outer s H vs Q E hr h => ⟨t__law_old_log K A.ex E, ?_, pure__law_old_log T.fa h⟩)
  have tk : Takes (cxOf (L2.CX P w) P w K mg base ["_law_disk", "_law_cell_here", "_law_generation", "_law_sector", "_law_record", "_law_k", "_law_intent_here", "_law_rows", "_law_row"] "_law_old_log" (defScope s__law_old_log) A.f__law_old_log cdv Ar outer s H E) (WB E) := takes_of rfl rfl rfl rfl
  have po : PassesOwn (model P w) (cxOf (L2.CX P w) P w K mg base ["_law_disk", "_law_cell_here", "_law_generation", "_law_sector", "_law_record", "_law_k", "_law_intent_here", "_law_rows", "_law_row"] "_law_old_log" (defScope s__law_old_log) A.f__law_old_log cdv Ar outer s H E).A (cxOf (L2.CX P w) P w K mg base ["_law_disk", "_law_cell_here", "_law_generation", "_law_sector", "_law_record", "_law_k", "_law_intent_here", "_law_rows", "_law_row"] "_law_old_log" (defScope s__law_old_log) A.f__law_old_log cdv Ar outer s H E).env (cxOf (L2.CX P w) P w K mg base ["_law_disk", "_law_cell_here", "_law_generation", "_law_sector", "_law_record", "_law_k", "_law_intent_here", "_law_rows", "_law_row"] "_law_old_log" (defScope s__law_old_log) A.f__law_old_log cdv Ar outer s H E).xe := passes_of rfl
  have hu := hu_of hr
  have hl := Nat.lt_of_succ_lt hu
  exact pss_cons (ps_set (i := 3) sc__law_old_log.nd rfl (Or.inl rfl) (pe_int))
        (pss_cons (ps_set (i := 4) sc__law_old_log.nd rfl (Or.inl rfl) (pe_int))
        (pss_cons (ps_for po rfl (pi_range1 (by rfl) T.n_range (pa_cons (pe_int) (pa_nil))) (pg_name (i := 5) sc__law_old_log.nd rfl (Or.inl rfl))
        (pss_cons (ps_set (i := 6) sc__law_old_log.nd rfl (Or.inl rfl) (e_call (ok__law_intent T) (hr.mono (by decide)) T.g__law_intent T.F__law_intent.kp T.b__law_intent tk (pa_cons (pe_op o_add (pv 1) (pe_op o_mul (pe_int) (pv 5))) (pa_cons (pe_int) (pa_nil)))))
        (pss_cons (ps_set (i := 7) sc__law_old_log.nd rfl (Or.inl rfl) (e_call (ok_record_sectors T) (hr.mono (by decide)) T.g_record_sectors T.F_record_sectors.kp T.b_record_sectors tk (pa_cons (pv 6) (pa_cons (pv 4) (pa_cons (pv 2) (pa_nil))))))
        (pss_one (ps_if (pt_cmpR (o_le hl) (pe_op o_add (pv 3) (pe_callB (c_len) (by rfl) T.n_len (by decide +kernel) (pa_cons (pv 7) (pa_nil)))) (pe_int) (nomark _)) (pss_cons (ps_for po rfl (pi_list (pv 7)) (pg_name (i := 8) sc__law_old_log.nd rfl (Or.inl rfl))
        (pss_cons (ps_expr (e_meth (pv 0) T.c_Disk T.m_Disk_write (ok_Disk_write T) (hr.mono (by decide)) T.b_Disk_write tk (pa_cons (pv 3) (pa_cons (pv 8) (pa_nil)))))
        (pss_one (ps_set (i := 3) sc__law_old_log.nd rfl (Or.inl rfl) (pe_op o_add (pv 3) (pe_int))))))
        (pss_one (ps_set (i := 4) sc__law_old_log.nd rfl (Or.inl rfl) (pe_op o_add (pv 4) (pe_int))))) (pss_nil))))))
        (pss_one (ps_expr (e_meth0 (pv 0) T.c_Disk T.m_Disk_flush (ok_Disk_flush T) (hr.mono (by decide)) T.b_Disk_flush tk)))))
theorem ok__law_appended (T : Top K mg A) : FnOk P w K mg base (L2.CX P w) 4 A.f__law_appended A.d__law_appended ["_law_disk", "_law_log", "_law_intents"] (sp__law_appended K A.ex) := by
  refine T.F__law_appended.okX sc__law_appended (fun vs H Q E h => len3 h) (fun cdv Ar outer s H vs Q E hr h => ⟨t__law_appended K A.ex E, ?_, pure__law_appended T.fa h⟩)
  have tk : Takes (cxOf (L2.CX P w) P w K mg base ["_law_disk", "_law_log", "_law_intents", "_law_sector", "_law_words"] "_law_appended" (defScope s__law_appended) A.f__law_appended cdv Ar outer s H E) (WB E) := takes_of rfl rfl rfl rfl
  have po : PassesOwn (model P w) (cxOf (L2.CX P w) P w K mg base ["_law_disk", "_law_log", "_law_intents", "_law_sector", "_law_words"] "_law_appended" (defScope s__law_appended) A.f__law_appended cdv Ar outer s H E).A (cxOf (L2.CX P w) P w K mg base ["_law_disk", "_law_log", "_law_intents", "_law_sector", "_law_words"] "_law_appended" (defScope s__law_appended) A.f__law_appended cdv Ar outer s H E).env (cxOf (L2.CX P w) P w K mg base ["_law_disk", "_law_log", "_law_intents", "_law_sector", "_law_words"] "_law_appended" (defScope s__law_appended) A.f__law_appended cdv Ar outer s H E).xe := passes_of rfl
  exact pss_one (ps_for po rfl (pi_list (e_meth (pv 1) T.c_Log T.m_Log_append_records (ok_Log_append_records T) (hr.mono (by decide)) T.b_Log_append_records tk (pa_cons (pv 2) (pa_nil)))) (pg_tup rfl (pgs_cons (pg_name (i := 3) sc__law_appended.nd rfl (Or.inl rfl)) (pgs_cons (pg_name (i := 4) sc__law_appended.nd rfl (Or.inl rfl)) (pgs_nil))))
        (pss_one (ps_expr (e_meth (pv 0) T.c_Disk T.m_Disk_write (ok_Disk_write T) (hr.mono (by decide)) T.b_Disk_write tk (pa_cons (pv 3) (pa_cons (pv 4) (pa_nil)))))))
theorem ok__law_choice (T : Top K mg A) : FnOk P w K mg base (L2.CX P w) 2 A.f__law_choice A.d__law_choice ["_law_cell_here"] (sp__law_choice K A.ex) := by
  refine T.F__law_choice.okX sc__law_choice (fun vs H Q E h => len1 h) (fun cdv Ar outer s H vs Q E hr h => ⟨t__law_choice K A.ex E, ?_, pure__law_choice T.fa h⟩)
  have tk : Takes (cxOf (L2.CX P w) P w K mg base ["_law_cell_here", "_law_digits_here"] "_law_choice" (defScope s__law_choice) A.f__law_choice cdv Ar outer s H E) (WB E) := takes_of rfl rfl rfl rfl
  exact pss_cons (ps_set (i := 1) sc__law_choice.nd rfl (Or.inl rfl) (e_call (ok__law_digits T) (hr.mono (by decide)) T.g__law_digits T.F__law_digits.kp T.b__law_digits tk (pa_cons (pv 0) (pa_cons (pe_lst (pa_cons (pe_int) (pa_cons (pe_int) (pa_nil)))) (pa_nil)))))
        (pss_cons (ps_if (pt_cmpR (o_eq hr.units) (e_ix (pv 1) (pe_int)) (pe_int) (nomark _)) (pss_one (ps_ret (pe_int))) (pss_nil))
        (pss_one (ps_ret (e_ix (pv 1) (pe_int)))))
theorem ok__law_due (T : Top K mg A) : FnOk P w K mg base (L2.CX P w) 1 A.f__law_due A.d__law_due ["_law_intents", "_law_choices"] (sp__law_due K A.ex) := by
  refine T.F__law_due.okX sc__law_due (fun vs H Q E h => len2 h) (fun cdv Ar outer s H vs Q E hr h => ⟨t__law_due K A.ex E, ?_, pure__law_due T.fa h⟩)
  have tk : Takes (cxOf (L2.CX P w) P w K mg base ["_law_intents", "_law_choices", "_law_due_here", "_law_at", "_law_intent_here", "_law_parts"] "_law_due" (defScope s__law_due) A.f__law_due cdv Ar outer s H E) (WB E) := takes_of rfl rfl rfl rfl
  have po : PassesOwn (model P w) (cxOf (L2.CX P w) P w K mg base ["_law_intents", "_law_choices", "_law_due_here", "_law_at", "_law_intent_here", "_law_parts"] "_law_due" (defScope s__law_due) A.f__law_due cdv Ar outer s H E).A (cxOf (L2.CX P w) P w K mg base ["_law_intents", "_law_choices", "_law_due_here", "_law_at", "_law_intent_here", "_law_parts"] "_law_due" (defScope s__law_due) A.f__law_due cdv Ar outer s H E).env (cxOf (L2.CX P w) P w K mg base ["_law_intents", "_law_choices", "_law_due_here", "_law_at", "_law_intent_here", "_law_parts"] "_law_due" (defScope s__law_due) A.f__law_due cdv Ar outer s H E).xe := passes_of rfl
  exact pss_cons (ps_set (i := 2) sc__law_due.nd rfl (Or.inl rfl) (pe_lst (pa_nil)))
        (pss_cons (ps_set (i := 3) sc__law_due.nd rfl (Or.inl rfl) (pe_int))
        (pss_cons (ps_for po rfl (pi_list (pv 0)) (pg_name (i := 4) sc__law_due.nd rfl (Or.inl rfl))
        (pss_cons (ps_set (i := 5) sc__law_due.nd rfl (Or.inl rfl) (pe_op o_div (pe_op o_add (pe_callB (c_len) (by rfl) T.n_len (by decide +kernel) (pa_cons (pv 4) (pa_nil))) (pe_int)) (pe_int)))
        (pss_cons (ps_if (pt_cmpR (o_ne hr.units) (e_sl (pv 1) (po_some (pv 3)) (po_some (pe_op o_add (pv 3) (pv 5)))) (pe_op o_mul (pe_lst (pa_cons (pe_int) (pa_nil))) (pv 5)) (nomark _)) (pss_one (ps_ret (pv 2))) (pss_nil))
        (pss_cons (ps_expr (pe_bm PySem.F.plainAttrs_list PySem.F.slot_list_append PySem.F.type_list_append mt_append (pv 2) (pa_cons (pv 4) (pa_nil))))
        (pss_one (ps_set (i := 3) sc__law_due.nd rfl (Or.inl rfl) (pe_op o_add (pv 3) (pv 5))))))))
        (pss_one (ps_ret (pv 2)))))
theorem ok_law (T : Top K mg A) : FnOk P w K mg base (L2.CX P w) 8 A.f_law A.d_law ["_law_script"] (sp_law K A.ex) := by
  refine T.F_law.okX sc_law (fun vs H Q E h => len1 (show spLaw K vs H Q E from h)) (fun cdv Ar outer s H vs Q E hr h => ⟨t_law K A.ex E, ?_, pure_law T.fa h⟩)
  have tk : Takes (cxOf (L2.CX P w) P w K mg base ["_law_script", "_law_generation", "_law_disk", "_law_log", "_law_batches", "_law_used", "_law_split", "_law_k", "_law_intent_here", "_law_many", "_law_choices", "_law_sectors"] "law" (defScope s_law) A.f_law cdv Ar outer s H E) (WB E) := takes_of rfl rfl rfl rfl
  have po : PassesOwn (model P w) (cxOf (L2.CX P w) P w K mg base ["_law_script", "_law_generation", "_law_disk", "_law_log", "_law_batches", "_law_used", "_law_split", "_law_k", "_law_intent_here", "_law_many", "_law_choices", "_law_sectors"] "law" (defScope s_law) A.f_law cdv Ar outer s H E).A (cxOf (L2.CX P w) P w K mg base ["_law_script", "_law_generation", "_law_disk", "_law_log", "_law_batches", "_law_used", "_law_split", "_law_k", "_law_intent_here", "_law_many", "_law_choices", "_law_sectors"] "law" (defScope s_law) A.f_law cdv Ar outer s H E).env (cxOf (L2.CX P w) P w K mg base ["_law_script", "_law_generation", "_law_disk", "_law_log", "_law_batches", "_law_used", "_law_split", "_law_k", "_law_intent_here", "_law_many", "_law_choices", "_law_sectors"] "law" (defScope s_law) A.f_law cdv Ar outer s H E).xe := passes_of rfl
  have hu := hu_of hr
  have hl := Nat.lt_of_succ_lt hu
  exact pss_cons (ps_set (i := 1) sc_law.nd rfl (Or.inl rfl) (pe_op o_add (pe_int) (pe_op o_mod (pe_callTy (c_int) (by rfl) T.n_int (by decide +kernel) (pa_cons (e_call (ok__law_cell T) (hr.mono (by decide)) T.g__law_cell T.F__law_cell.kp T.b__law_cell tk (pa_cons (pv 0) (pa_cons (pe_int) (pa_nil)))) (pa_nil))) (pe_op o_pow (pe_int) (pe_int)))))
        (pss_cons (ps_set (i := 2) sc_law.nd rfl (Or.inr rfl) (e_mk T.M_Disk (ok_Disk___init__ T) (hr.mono (by decide)) T.gC_Disk T.b_Disk___init__ tk (pa_cons (pe_int) (pa_nil))))
        (pss_cons (ps_expr (e_call (ok__law_old_log T) (hr.mono (by decide)) T.g__law_old_log T.F__law_old_log.kp T.b__law_old_log tk (pa_cons (pv 2) (pa_cons (e_call (ok__law_cell T) (hr.mono (by decide)) T.g__law_cell T.F__law_cell.kp T.b__law_cell tk (pa_cons (pv 0) (pa_cons (pe_int) (pa_nil)))) (pa_cons (pe_op o_add (pe_int) (pe_op o_mod (pe_callTy (c_int) (by rfl) T.n_int (by decide +kernel) (pa_cons (e_call (ok__law_cell T) (hr.mono (by decide)) T.g__law_cell T.F__law_cell.kp T.b__law_cell tk (pa_cons (pv 0) (pa_cons (pe_int) (pa_nil)))) (pa_nil))) (pe_op o_sub (pv 1) (pe_int)))) (pa_nil))))))
        (pss_cons (ps_set (i := 3) sc_law.nd rfl (Or.inl rfl) (e_mk T.M_Log (ok_Log___init__ T) (hr.mono (by decide)) T.gC_Log T.b_Log___init__ tk (pa_cons (pv 1) (pa_nil))))
        (pss_cons (ps_set (i := 4) sc_law.nd rfl (Or.inl rfl) (pe_lst (pa_cons (pe_lst (pa_nil)) (pa_cons (pe_lst (pa_nil)) (pa_nil)))))
        (pss_cons (ps_set (i := 5) sc_law.nd rfl (Or.inl rfl) (pe_int))
        (pss_cons (ps_set (i := 6) sc_law.nd rfl (Or.inl rfl) (pe_op o_mod (pe_op o_div (pe_callTy (c_int) (by rfl) T.n_int (by decide +kernel) (pa_cons (e_call (ok__law_cell T) (hr.mono (by decide)) T.g__law_cell T.F__law_cell.kp T.b__law_cell tk (pa_cons (pv 0) (pa_cons (pe_int) (pa_nil)))) (pa_nil))) (pe_int)) (pe_int)))
        (pss_cons (ps_for po rfl (pi_range1 (by rfl) T.n_range (pa_cons (pe_callB (c_min rfl) (by rfl) T.n_min (by decide +kernel) (pa_cons (pe_callB (c_len) (by rfl) T.n_len (by decide +kernel) (pa_cons (pv 0) (pa_nil))) (pa_cons (pe_int) (pa_nil)))) (pa_nil))) (pg_name (i := 7) sc_law.nd rfl (Or.inl rfl))
        (pss_cons (ps_set (i := 8) sc_law.nd rfl (Or.inl rfl) (e_call (ok__law_intent T) (hr.mono (by decide)) T.g__law_intent T.F__law_intent.kp T.b__law_intent tk (pa_cons (pe_op o_add (e_call (ok__law_cell T) (hr.mono (by decide)) T.g__law_cell T.F__law_cell.kp T.b__law_cell tk (pa_cons (pv 0) (pa_cons (pv 7) (pa_nil)))) (pv 7)) (pa_cons (e_ix (pe_lst (pa_cons (pe_int) (pa_cons (pe_int) (pa_cons (pe_int) (pa_cons (pe_int) (pa_nil)))))) (pe_op o_mod (pe_op o_div (pe_callTy (c_int) (by rfl) T.n_int (by decide +kernel) (pa_cons (e_call (ok__law_cell T) (hr.mono (by decide)) T.g__law_cell T.F__law_cell.kp T.b__law_cell tk (pa_cons (pv 0) (pa_cons (pv 7) (pa_nil)))) (pa_nil))) (pe_int)) (pe_int))) (pa_nil)))))
        (pss_one (ps_if (pt_cmpR (o_le hl) (pe_op o_add (pv 5) (pe_op o_div (pe_op o_add (pe_callB (c_len) (by rfl) T.n_len (by decide +kernel) (pa_cons (pv 8) (pa_nil))) (pe_int)) (pe_int))) (pe_int) (nomark _)) (pss_cons (ps_set (i := 5) sc_law.nd rfl (Or.inl rfl) (pe_op o_add (pv 5) (pe_op o_div (pe_op o_add (pe_callB (c_len) (by rfl) T.n_len (by decide +kernel) (pa_cons (pv 8) (pa_nil))) (pe_int)) (pe_int))))
        (pss_one (ps_expr (pe_bm PySem.F.plainAttrs_list PySem.F.slot_list_append PySem.F.type_list_append mt_append (e_ix (pv 4) (pe_callTy (c_int) (by rfl) T.n_int (by decide +kernel) (pa_cons (pe_cmpR (o_ge hl) (pv 7) (pv 6) (nomark _)) (pa_nil)))) (pa_cons (pv 8) (pa_nil)))))) (pss_nil)))))
        (pss_cons (ps_expr (e_call (ok__law_appended T) (hr.mono (by decide)) T.g__law_appended T.F__law_appended.kp T.b__law_appended tk (pa_cons (pv 2) (pa_cons (pv 3) (pa_cons (e_ix (pv 4) (pe_int)) (pa_nil))))))
        (pss_cons (ps_expr (e_meth0 (pv 2) T.c_Disk T.m_Disk_flush (ok_Disk_flush T) (hr.mono (by decide)) T.b_Disk_flush tk))
        (pss_cons (ps_expr (e_call (ok__law_appended T) (hr.mono (by decide)) T.g__law_appended T.F__law_appended.kp T.b__law_appended tk (pa_cons (pv 2) (pa_cons (pv 3) (pa_cons (e_ix (pv 4) (pe_int)) (pa_nil))))))
        (pss_cons (ps_set (i := 9) sc_law.nd rfl (Or.inl rfl) (pe_callB (c_len) (by rfl) T.n_len (by decide +kernel) (pa_cons (e_meth0 (pv 2) T.c_Disk T.m_Disk_waiting (ok_Disk_waiting T) (hr.mono (by decide)) T.b_Disk_waiting tk) (pa_nil))))
        (pss_cons (ps_setLc (i := 10) (own := [("_law_k", 7)]) (by rfl) sc_law.nd rfl rfl (sw_true rfl rfl rfl (by decide +kernel)) (pi_range1 (by rfl) T.n_range (pa_cons (pv 9) (pa_nil))) (blkOk_by (N := ["_law_script", "_law_generation", "_law_disk", "_law_log", "_law_batches", "_law_used", "_law_split", "_law_k", "_law_intent_here", "_law_many", "_law_choices", "_law_sectors"]) (sc := defScope s_law) (by decide +kernel)) (fun _ _ _ _ _ => pg_name (i := 7) sc_law.nd rfl (Or.inl rfl)) (fun _ _ _ _ _ => pts_nil) (fun _ _ _ _ _ => e_call (ok__law_choice T) (hr.mono (by decide)) T.g__law_choice T.F__law_choice.kp T.b__law_choice takes0 (pa_cons (pe_op o_add (pe_op o_div (e_call (ok__law_cell T) (hr.mono (by decide)) T.g__law_cell T.F__law_cell.kp T.b__law_cell takes0 (pa_cons (pv 0) (pa_cons (pe_op o_add (pe_int) (pv 7)) (pa_nil)))) (pe_int)) (pv 7)) (pa_nil))))
        (pss_cons (ps_expr (e_meth (pv 2) T.c_Disk T.m_Disk_cut (ok_Disk_cut T) (hr.mono (by decide)) T.b_Disk_cut tk (pa_cons (pe_callTy (c_list) (by rfl) T.n_list (by decide +kernel) (pa_cons (pv 10) (pa_nil))) (pa_nil))))
        (pss_cons (ps_setLc (i := 11) (own := [("_law_k", 7)]) (by rfl) sc_law.nd rfl rfl (sw_true rfl rfl rfl (by decide +kernel)) (pi_range1 (by rfl) T.n_range (pa_cons (pe_int) (pa_nil))) (blkOk_by (N := ["_law_script", "_law_generation", "_law_disk", "_law_log", "_law_batches", "_law_used", "_law_split", "_law_k", "_law_intent_here", "_law_many", "_law_choices", "_law_sectors"]) (sc := defScope s_law) (by decide +kernel)) (fun _ _ _ _ _ => pg_name (i := 7) sc_law.nd rfl (Or.inl rfl)) (fun _ _ _ _ _ => pts_nil) (fun _ _ _ _ _ => e_meth (pv 2) T.c_Disk T.m_Disk_read (ok_Disk_read T) (hr.mono (by decide)) T.b_Disk_read takes0 (pa_cons (pe_op o_add (pe_int) (pv 7)) (pa_nil))))
        (pss_one (ps_ret (pe_cmpR (o_eq hr.units) (e_call (ok_whole_records T) (hr.mono (by decide)) T.g_whole_records T.F_whole_records.kp T.b_whole_records tk (pa_cons (pv 11) (pa_cons (pv 1) (pa_nil)))) (pe_op o_add (e_ix (pv 4) (pe_int)) (e_call (ok__law_due T) (hr.mono (by decide)) T.g__law_due T.F__law_due.kp T.b__law_due tk (pa_cons (e_ix (pv 4) (pe_int)) (pa_cons (pv 10) (pa_nil))))) (nomark _))))))))))))))))))
end
theorem all_mk {P : Program} {w : World} {K : PySem.W.Frag} {h : Heap} {mg : Str → Option Value} {fa : Addr} (X : K.In h) (G : h.Ns mainGlobals mg) (hfa : mg "law" = some (.ref fa))
    {f_is_between f_is_word f_are_words f_word_name f_Disk___init__ f_Disk_read f_Disk_operate f_Disk_write f_Disk_flush f_Disk_waiting f_Disk_cut f_sectors_of f_record_sectors f_Log___init__ f_Log_fits f_Log_append_records f_whole_parts f_record_intent f_whole_records f_is_name f_check_words f_check_intent f__law_cell f__law_digits f__law_intent f__law_old_log f__law_appended f__law_choice f__law_due f_law : Addr}
    {C_Disk C_Log C_NotValid C_PowerOff C_BadName C_NoSpace C_BadImage : Addr}
    {od_is_between an_is_between : Option Addr} {sl_is_between : Array (Option Value)} {oc_is_between kV_is_between dc_is_between pm_is_between cd_is_between ct_is_between : Value}
    {od_is_word an_is_word : Option Addr} {sl_is_word : Array (Option Value)} {oc_is_word kV_is_word dc_is_word pm_is_word cd_is_word ct_is_word : Value}
    {od_are_words an_are_words : Option Addr} {sl_are_words : Array (Option Value)} {oc_are_words kV_are_words dc_are_words pm_are_words cd_are_words ct_are_words : Value}
    {od_word_name an_word_name : Option Addr} {sl_word_name : Array (Option Value)} {oc_word_name kV_word_name dc_word_name pm_word_name cd_word_name ct_word_name : Value}
    {od_Disk___init__ an_Disk___init__ : Option Addr} {sl_Disk___init__ : Array (Option Value)} {oc_Disk___init__ kV_Disk___init__ dc_Disk___init__ pm_Disk___init__ cd_Disk___init__ ct_Disk___init__ : Value}
    {od_Disk_read an_Disk_read : Option Addr} {sl_Disk_read : Array (Option Value)} {oc_Disk_read kV_Disk_read dc_Disk_read pm_Disk_read cd_Disk_read ct_Disk_read : Value}
    {od_Disk_operate an_Disk_operate : Option Addr} {sl_Disk_operate : Array (Option Value)} {oc_Disk_operate kV_Disk_operate dc_Disk_operate pm_Disk_operate cd_Disk_operate ct_Disk_operate : Value}
    {od_Disk_write an_Disk_write : Option Addr} {sl_Disk_write : Array (Option Value)} {oc_Disk_write kV_Disk_write dc_Disk_write pm_Disk_write cd_Disk_write ct_Disk_write : Value}
    {od_Disk_flush an_Disk_flush : Option Addr} {sl_Disk_flush : Array (Option Value)} {oc_Disk_flush kV_Disk_flush dc_Disk_flush pm_Disk_flush cd_Disk_flush ct_Disk_flush : Value}
    {od_Disk_waiting an_Disk_waiting : Option Addr} {sl_Disk_waiting : Array (Option Value)} {oc_Disk_waiting kV_Disk_waiting dc_Disk_waiting pm_Disk_waiting cd_Disk_waiting ct_Disk_waiting : Value}
    {od_Disk_cut an_Disk_cut : Option Addr} {sl_Disk_cut : Array (Option Value)} {oc_Disk_cut kV_Disk_cut dc_Disk_cut pm_Disk_cut cd_Disk_cut ct_Disk_cut : Value}
    {od_sectors_of an_sectors_of : Option Addr} {sl_sectors_of : Array (Option Value)} {oc_sectors_of kV_sectors_of dc_sectors_of pm_sectors_of cd_sectors_of ct_sectors_of : Value}
    {od_record_sectors an_record_sectors : Option Addr} {sl_record_sectors : Array (Option Value)} {oc_record_sectors kV_record_sectors dc_record_sectors pm_record_sectors cd_record_sectors ct_record_sectors : Value}
    {od_Log___init__ an_Log___init__ : Option Addr} {sl_Log___init__ : Array (Option Value)} {oc_Log___init__ kV_Log___init__ dc_Log___init__ pm_Log___init__ cd_Log___init__ ct_Log___init__ : Value}
    {od_Log_fits an_Log_fits : Option Addr} {sl_Log_fits : Array (Option Value)} {oc_Log_fits kV_Log_fits dc_Log_fits pm_Log_fits cd_Log_fits ct_Log_fits : Value}
    {od_Log_append_records an_Log_append_records : Option Addr} {sl_Log_append_records : Array (Option Value)} {oc_Log_append_records kV_Log_append_records dc_Log_append_records pm_Log_append_records cd_Log_append_records ct_Log_append_records : Value}
    {od_whole_parts an_whole_parts : Option Addr} {sl_whole_parts : Array (Option Value)} {oc_whole_parts kV_whole_parts dc_whole_parts pm_whole_parts cd_whole_parts ct_whole_parts : Value}
    {od_record_intent an_record_intent : Option Addr} {sl_record_intent : Array (Option Value)} {oc_record_intent kV_record_intent dc_record_intent pm_record_intent cd_record_intent ct_record_intent : Value}
    {od_whole_records an_whole_records : Option Addr} {sl_whole_records : Array (Option Value)} {oc_whole_records kV_whole_records dc_whole_records pm_whole_records cd_whole_records ct_whole_records : Value}
    {od_is_name an_is_name : Option Addr} {sl_is_name : Array (Option Value)} {oc_is_name kV_is_name dc_is_name pm_is_name cd_is_name ct_is_name : Value}
    {od_check_words an_check_words : Option Addr} {sl_check_words : Array (Option Value)} {oc_check_words kV_check_words dc_check_words pm_check_words cd_check_words ct_check_words : Value}
    {od_check_intent an_check_intent : Option Addr} {sl_check_intent : Array (Option Value)} {oc_check_intent kV_check_intent dc_check_intent pm_check_intent cd_check_intent ct_check_intent : Value}
    {od__law_cell an__law_cell : Option Addr} {sl__law_cell : Array (Option Value)} {oc__law_cell kV__law_cell dc__law_cell pm__law_cell cd__law_cell ct__law_cell : Value}
    {od__law_digits an__law_digits : Option Addr} {sl__law_digits : Array (Option Value)} {oc__law_digits kV__law_digits dc__law_digits pm__law_digits cd__law_digits ct__law_digits : Value}
    {od__law_intent an__law_intent : Option Addr} {sl__law_intent : Array (Option Value)} {oc__law_intent kV__law_intent dc__law_intent pm__law_intent cd__law_intent ct__law_intent : Value}
    {od__law_old_log an__law_old_log : Option Addr} {sl__law_old_log : Array (Option Value)} {oc__law_old_log kV__law_old_log dc__law_old_log pm__law_old_log cd__law_old_log ct__law_old_log : Value}
    {od__law_appended an__law_appended : Option Addr} {sl__law_appended : Array (Option Value)} {oc__law_appended kV__law_appended dc__law_appended pm__law_appended cd__law_appended ct__law_appended : Value}
    {od__law_choice an__law_choice : Option Addr} {sl__law_choice : Array (Option Value)} {oc__law_choice kV__law_choice dc__law_choice pm__law_choice cd__law_choice ct__law_choice : Value}
    {od__law_due an__law_due : Option Addr} {sl__law_due : Array (Option Value)} {oc__law_due kV__law_due dc__law_due pm__law_due cd__law_due ct__law_due : Value}
    {od_law an_law : Option Addr} {sl_law : Array (Option Value)} {oc_law kV_law dc_law pm_law cd_law ct_law : Value}
    {t_ALPHABET : Tok}
    {t_BASE : Tok}
    {t_BLOCK_SECTORS : Tok}
    {t_DIRECTORY : Tok}
    {t_FILE : Tok}
    {t_FIRST_SECTOR : Tok}
    {t_GROUP : Tok}
    {C_LENGTHS : Addr}
    {es_LENGTHS : Array DictEntry} {en_LENGTHS : Nat}
    {t_LOG_SECTORS : Tok}
    {t_MAX_BLOCKS : Tok}
    {t_MAX_CELLS : Tok}
    {t_MAX_OWNER : Tok}
    {t_MIN_BLOCKS : Tok}
    {t_NAME_SIZE : Tok}
    {t_SECTOR_WORDS : Tok}
    {t_UNIT : Tok}
    (aC_Disk : PySem.W.nsIn K mainGlobals "Disk" = some (some (.ref C_Disk)))
    (aC_Log : PySem.W.nsIn K mainGlobals "Log" = some (some (.ref C_Log)))
    (aC_BadImage : PySem.W.nsIn K mainGlobals "BadImage" = some (some (.ref C_BadImage)))
    (aC_BadName : PySem.W.nsIn K mainGlobals "BadName" = some (some (.ref C_BadName)))
    (aC_NoSpace : PySem.W.nsIn K mainGlobals "NoSpace" = some (some (.ref C_NoSpace)))
    (aC_NotValid : PySem.W.nsIn K mainGlobals "NotValid" = some (some (.ref C_NotValid)))
    (aC_PowerOff : PySem.W.nsIn K mainGlobals "PowerOff" = some (some (.ref C_PowerOff)))
    (a_is_between : PySem.W.nsIn K mainGlobals "is_between" = some (some (.ref f_is_between)))
    (l_is_between : K.lookup f_is_between = some ⟨oc_is_between, od_is_between, .func (PySem.W.fnOf "is_between" "is_between" (defArgs s_is_between) (defBody s_is_between) (defScope s_is_between) .none kV_is_between dc_is_between pm_is_between an_is_between cd_is_between ct_is_between), sl_is_between⟩)
    (c_is_between : PySem.W.codeIn K cd_is_between "is_between" = true)
    (k_is_between : PySem.W.keepIn K (.ref f_is_between) = true)
    (a_is_word : PySem.W.nsIn K mainGlobals "is_word" = some (some (.ref f_is_word)))
    (l_is_word : K.lookup f_is_word = some ⟨oc_is_word, od_is_word, .func (PySem.W.fnOf "is_word" "is_word" (defArgs s_is_word) (defBody s_is_word) (defScope s_is_word) .none kV_is_word dc_is_word pm_is_word an_is_word cd_is_word ct_is_word), sl_is_word⟩)
    (c_is_word : PySem.W.codeIn K cd_is_word "is_word" = true)
    (k_is_word : PySem.W.keepIn K (.ref f_is_word) = true)
    (a_are_words : PySem.W.nsIn K mainGlobals "are_words" = some (some (.ref f_are_words)))
    (l_are_words : K.lookup f_are_words = some ⟨oc_are_words, od_are_words, .func (PySem.W.fnOf "are_words" "are_words" (defArgs s_are_words) (defBody s_are_words) (defScope s_are_words) .none kV_are_words dc_are_words pm_are_words an_are_words cd_are_words ct_are_words), sl_are_words⟩)
    (c_are_words : PySem.W.codeIn K cd_are_words "are_words" = true)
    (k_are_words : PySem.W.keepIn K (.ref f_are_words) = true)
    (a_word_name : PySem.W.nsIn K mainGlobals "word_name" = some (some (.ref f_word_name)))
    (l_word_name : K.lookup f_word_name = some ⟨oc_word_name, od_word_name, .func (PySem.W.fnOf "word_name" "word_name" (defArgs s_word_name) (defBody s_word_name) (defScope s_word_name) .none kV_word_name dc_word_name pm_word_name an_word_name cd_word_name ct_word_name), sl_word_name⟩)
    (c_word_name : PySem.W.codeIn K cd_word_name "word_name" = true)
    (k_word_name : PySem.W.keepIn K (.ref f_word_name) = true)
    (a_Disk___init__ : PySem.W.findIn K (.ref C_Disk) "__init__" = some (some (.ref f_Disk___init__)))
    (i_Disk___init__ : PySem.W.isFn K (.ref f_Disk___init__) = true)
    (l_Disk___init__ : K.lookup f_Disk___init__ = some ⟨oc_Disk___init__, od_Disk___init__, .func (PySem.W.fnOf "__init__" "Disk.__init__" (defArgs s_Disk___init__) (defBody s_Disk___init__) (defScope s_Disk___init__) .none kV_Disk___init__ dc_Disk___init__ pm_Disk___init__ an_Disk___init__ cd_Disk___init__ ct_Disk___init__), sl_Disk___init__⟩)
    (c_Disk___init__ : PySem.W.codeIn K cd_Disk___init__ "Disk.__init__" = true)
    (k_Disk___init__ : PySem.W.keepIn K (.ref f_Disk___init__) = true)
    (a_Disk_read : PySem.W.findIn K (.ref C_Disk) "read" = some (some (.ref f_Disk_read)))
    (i_Disk_read : PySem.W.isFn K (.ref f_Disk_read) = true)
    (l_Disk_read : K.lookup f_Disk_read = some ⟨oc_Disk_read, od_Disk_read, .func (PySem.W.fnOf "read" "Disk.read" (defArgs s_Disk_read) (defBody s_Disk_read) (defScope s_Disk_read) .none kV_Disk_read dc_Disk_read pm_Disk_read an_Disk_read cd_Disk_read ct_Disk_read), sl_Disk_read⟩)
    (c_Disk_read : PySem.W.codeIn K cd_Disk_read "Disk.read" = true)
    (k_Disk_read : PySem.W.keepIn K (.ref f_Disk_read) = true)
    (a_Disk_operate : PySem.W.findIn K (.ref C_Disk) "operate" = some (some (.ref f_Disk_operate)))
    (i_Disk_operate : PySem.W.isFn K (.ref f_Disk_operate) = true)
    (l_Disk_operate : K.lookup f_Disk_operate = some ⟨oc_Disk_operate, od_Disk_operate, .func (PySem.W.fnOf "operate" "Disk.operate" (defArgs s_Disk_operate) (defBody s_Disk_operate) (defScope s_Disk_operate) .none kV_Disk_operate dc_Disk_operate pm_Disk_operate an_Disk_operate cd_Disk_operate ct_Disk_operate), sl_Disk_operate⟩)
    (c_Disk_operate : PySem.W.codeIn K cd_Disk_operate "Disk.operate" = true)
    (k_Disk_operate : PySem.W.keepIn K (.ref f_Disk_operate) = true)
    (a_Disk_write : PySem.W.findIn K (.ref C_Disk) "write" = some (some (.ref f_Disk_write)))
    (i_Disk_write : PySem.W.isFn K (.ref f_Disk_write) = true)
    (l_Disk_write : K.lookup f_Disk_write = some ⟨oc_Disk_write, od_Disk_write, .func (PySem.W.fnOf "write" "Disk.write" (defArgs s_Disk_write) (defBody s_Disk_write) (defScope s_Disk_write) .none kV_Disk_write dc_Disk_write pm_Disk_write an_Disk_write cd_Disk_write ct_Disk_write), sl_Disk_write⟩)
    (c_Disk_write : PySem.W.codeIn K cd_Disk_write "Disk.write" = true)
    (k_Disk_write : PySem.W.keepIn K (.ref f_Disk_write) = true)
    (a_Disk_flush : PySem.W.findIn K (.ref C_Disk) "flush" = some (some (.ref f_Disk_flush)))
    (i_Disk_flush : PySem.W.isFn K (.ref f_Disk_flush) = true)
    (l_Disk_flush : K.lookup f_Disk_flush = some ⟨oc_Disk_flush, od_Disk_flush, .func (PySem.W.fnOf "flush" "Disk.flush" (defArgs s_Disk_flush) (defBody s_Disk_flush) (defScope s_Disk_flush) .none kV_Disk_flush dc_Disk_flush pm_Disk_flush an_Disk_flush cd_Disk_flush ct_Disk_flush), sl_Disk_flush⟩)
    (c_Disk_flush : PySem.W.codeIn K cd_Disk_flush "Disk.flush" = true)
    (k_Disk_flush : PySem.W.keepIn K (.ref f_Disk_flush) = true)
    (a_Disk_waiting : PySem.W.findIn K (.ref C_Disk) "waiting" = some (some (.ref f_Disk_waiting)))
    (i_Disk_waiting : PySem.W.isFn K (.ref f_Disk_waiting) = true)
    (l_Disk_waiting : K.lookup f_Disk_waiting = some ⟨oc_Disk_waiting, od_Disk_waiting, .func (PySem.W.fnOf "waiting" "Disk.waiting" (defArgs s_Disk_waiting) (defBody s_Disk_waiting) (defScope s_Disk_waiting) .none kV_Disk_waiting dc_Disk_waiting pm_Disk_waiting an_Disk_waiting cd_Disk_waiting ct_Disk_waiting), sl_Disk_waiting⟩)
    (c_Disk_waiting : PySem.W.codeIn K cd_Disk_waiting "Disk.waiting" = true)
    (k_Disk_waiting : PySem.W.keepIn K (.ref f_Disk_waiting) = true)
    (a_Disk_cut : PySem.W.findIn K (.ref C_Disk) "cut" = some (some (.ref f_Disk_cut)))
    (i_Disk_cut : PySem.W.isFn K (.ref f_Disk_cut) = true)
    (l_Disk_cut : K.lookup f_Disk_cut = some ⟨oc_Disk_cut, od_Disk_cut, .func (PySem.W.fnOf "cut" "Disk.cut" (defArgs s_Disk_cut) (defBody s_Disk_cut) (defScope s_Disk_cut) .none kV_Disk_cut dc_Disk_cut pm_Disk_cut an_Disk_cut cd_Disk_cut ct_Disk_cut), sl_Disk_cut⟩)
    (c_Disk_cut : PySem.W.codeIn K cd_Disk_cut "Disk.cut" = true)
    (k_Disk_cut : PySem.W.keepIn K (.ref f_Disk_cut) = true)
    (a_sectors_of : PySem.W.nsIn K mainGlobals "sectors_of" = some (some (.ref f_sectors_of)))
    (l_sectors_of : K.lookup f_sectors_of = some ⟨oc_sectors_of, od_sectors_of, .func (PySem.W.fnOf "sectors_of" "sectors_of" (defArgs s_sectors_of) (defBody s_sectors_of) (defScope s_sectors_of) .none kV_sectors_of dc_sectors_of pm_sectors_of an_sectors_of cd_sectors_of ct_sectors_of), sl_sectors_of⟩)
    (c_sectors_of : PySem.W.codeIn K cd_sectors_of "sectors_of" = true)
    (k_sectors_of : PySem.W.keepIn K (.ref f_sectors_of) = true)
    (a_record_sectors : PySem.W.nsIn K mainGlobals "record_sectors" = some (some (.ref f_record_sectors)))
    (l_record_sectors : K.lookup f_record_sectors = some ⟨oc_record_sectors, od_record_sectors, .func (PySem.W.fnOf "record_sectors" "record_sectors" (defArgs s_record_sectors) (defBody s_record_sectors) (defScope s_record_sectors) .none kV_record_sectors dc_record_sectors pm_record_sectors an_record_sectors cd_record_sectors ct_record_sectors), sl_record_sectors⟩)
    (c_record_sectors : PySem.W.codeIn K cd_record_sectors "record_sectors" = true)
    (k_record_sectors : PySem.W.keepIn K (.ref f_record_sectors) = true)
    (a_Log___init__ : PySem.W.findIn K (.ref C_Log) "__init__" = some (some (.ref f_Log___init__)))
    (i_Log___init__ : PySem.W.isFn K (.ref f_Log___init__) = true)
    (l_Log___init__ : K.lookup f_Log___init__ = some ⟨oc_Log___init__, od_Log___init__, .func (PySem.W.fnOf "__init__" "Log.__init__" (defArgs s_Log___init__) (defBody s_Log___init__) (defScope s_Log___init__) .none kV_Log___init__ dc_Log___init__ pm_Log___init__ an_Log___init__ cd_Log___init__ ct_Log___init__), sl_Log___init__⟩)
    (c_Log___init__ : PySem.W.codeIn K cd_Log___init__ "Log.__init__" = true)
    (k_Log___init__ : PySem.W.keepIn K (.ref f_Log___init__) = true)
    (a_Log_fits : PySem.W.findIn K (.ref C_Log) "fits" = some (some (.ref f_Log_fits)))
    (i_Log_fits : PySem.W.isFn K (.ref f_Log_fits) = true)
    (l_Log_fits : K.lookup f_Log_fits = some ⟨oc_Log_fits, od_Log_fits, .func (PySem.W.fnOf "fits" "Log.fits" (defArgs s_Log_fits) (defBody s_Log_fits) (defScope s_Log_fits) .none kV_Log_fits dc_Log_fits pm_Log_fits an_Log_fits cd_Log_fits ct_Log_fits), sl_Log_fits⟩)
    (c_Log_fits : PySem.W.codeIn K cd_Log_fits "Log.fits" = true)
    (k_Log_fits : PySem.W.keepIn K (.ref f_Log_fits) = true)
    (a_Log_append_records : PySem.W.findIn K (.ref C_Log) "append_records" = some (some (.ref f_Log_append_records)))
    (i_Log_append_records : PySem.W.isFn K (.ref f_Log_append_records) = true)
    (l_Log_append_records : K.lookup f_Log_append_records = some ⟨oc_Log_append_records, od_Log_append_records, .func (PySem.W.fnOf "append_records" "Log.append_records" (defArgs s_Log_append_records) (defBody s_Log_append_records) (defScope s_Log_append_records) .none kV_Log_append_records dc_Log_append_records pm_Log_append_records an_Log_append_records cd_Log_append_records ct_Log_append_records), sl_Log_append_records⟩)
    (c_Log_append_records : PySem.W.codeIn K cd_Log_append_records "Log.append_records" = true)
    (k_Log_append_records : PySem.W.keepIn K (.ref f_Log_append_records) = true)
    (a_whole_parts : PySem.W.nsIn K mainGlobals "whole_parts" = some (some (.ref f_whole_parts)))
    (l_whole_parts : K.lookup f_whole_parts = some ⟨oc_whole_parts, od_whole_parts, .func (PySem.W.fnOf "whole_parts" "whole_parts" (defArgs s_whole_parts) (defBody s_whole_parts) (defScope s_whole_parts) .none kV_whole_parts dc_whole_parts pm_whole_parts an_whole_parts cd_whole_parts ct_whole_parts), sl_whole_parts⟩)
    (c_whole_parts : PySem.W.codeIn K cd_whole_parts "whole_parts" = true)
    (k_whole_parts : PySem.W.keepIn K (.ref f_whole_parts) = true)
    (a_record_intent : PySem.W.nsIn K mainGlobals "record_intent" = some (some (.ref f_record_intent)))
    (l_record_intent : K.lookup f_record_intent = some ⟨oc_record_intent, od_record_intent, .func (PySem.W.fnOf "record_intent" "record_intent" (defArgs s_record_intent) (defBody s_record_intent) (defScope s_record_intent) .none kV_record_intent dc_record_intent pm_record_intent an_record_intent cd_record_intent ct_record_intent), sl_record_intent⟩)
    (c_record_intent : PySem.W.codeIn K cd_record_intent "record_intent" = true)
    (k_record_intent : PySem.W.keepIn K (.ref f_record_intent) = true)
    (a_whole_records : PySem.W.nsIn K mainGlobals "whole_records" = some (some (.ref f_whole_records)))
    (l_whole_records : K.lookup f_whole_records = some ⟨oc_whole_records, od_whole_records, .func (PySem.W.fnOf "whole_records" "whole_records" (defArgs s_whole_records) (defBody s_whole_records) (defScope s_whole_records) .none kV_whole_records dc_whole_records pm_whole_records an_whole_records cd_whole_records ct_whole_records), sl_whole_records⟩)
    (c_whole_records : PySem.W.codeIn K cd_whole_records "whole_records" = true)
    (k_whole_records : PySem.W.keepIn K (.ref f_whole_records) = true)
    (a_is_name : PySem.W.nsIn K mainGlobals "is_name" = some (some (.ref f_is_name)))
    (l_is_name : K.lookup f_is_name = some ⟨oc_is_name, od_is_name, .func (PySem.W.fnOf "is_name" "is_name" (defArgs s_is_name) (defBody s_is_name) (defScope s_is_name) .none kV_is_name dc_is_name pm_is_name an_is_name cd_is_name ct_is_name), sl_is_name⟩)
    (c_is_name : PySem.W.codeIn K cd_is_name "is_name" = true)
    (k_is_name : PySem.W.keepIn K (.ref f_is_name) = true)
    (a_check_words : PySem.W.nsIn K mainGlobals "check_words" = some (some (.ref f_check_words)))
    (l_check_words : K.lookup f_check_words = some ⟨oc_check_words, od_check_words, .func (PySem.W.fnOf "check_words" "check_words" (defArgs s_check_words) (defBody s_check_words) (defScope s_check_words) .none kV_check_words dc_check_words pm_check_words an_check_words cd_check_words ct_check_words), sl_check_words⟩)
    (c_check_words : PySem.W.codeIn K cd_check_words "check_words" = true)
    (k_check_words : PySem.W.keepIn K (.ref f_check_words) = true)
    (a_check_intent : PySem.W.nsIn K mainGlobals "check_intent" = some (some (.ref f_check_intent)))
    (l_check_intent : K.lookup f_check_intent = some ⟨oc_check_intent, od_check_intent, .func (PySem.W.fnOf "check_intent" "check_intent" (defArgs s_check_intent) (defBody s_check_intent) (defScope s_check_intent) .none kV_check_intent dc_check_intent pm_check_intent an_check_intent cd_check_intent ct_check_intent), sl_check_intent⟩)
    (c_check_intent : PySem.W.codeIn K cd_check_intent "check_intent" = true)
    (k_check_intent : PySem.W.keepIn K (.ref f_check_intent) = true)
    (a__law_cell : PySem.W.nsIn K mainGlobals "_law_cell" = some (some (.ref f__law_cell)))
    (l__law_cell : K.lookup f__law_cell = some ⟨oc__law_cell, od__law_cell, .func (PySem.W.fnOf "_law_cell" "_law_cell" (defArgs s__law_cell) (defBody s__law_cell) (defScope s__law_cell) .none kV__law_cell dc__law_cell pm__law_cell an__law_cell cd__law_cell ct__law_cell), sl__law_cell⟩)
    (c__law_cell : PySem.W.codeIn K cd__law_cell "_law_cell" = true)
    (k__law_cell : PySem.W.keepIn K (.ref f__law_cell) = true)
    (a__law_digits : PySem.W.nsIn K mainGlobals "_law_digits" = some (some (.ref f__law_digits)))
    (l__law_digits : K.lookup f__law_digits = some ⟨oc__law_digits, od__law_digits, .func (PySem.W.fnOf "_law_digits" "_law_digits" (defArgs s__law_digits) (defBody s__law_digits) (defScope s__law_digits) .none kV__law_digits dc__law_digits pm__law_digits an__law_digits cd__law_digits ct__law_digits), sl__law_digits⟩)
    (c__law_digits : PySem.W.codeIn K cd__law_digits "_law_digits" = true)
    (k__law_digits : PySem.W.keepIn K (.ref f__law_digits) = true)
    (a__law_intent : PySem.W.nsIn K mainGlobals "_law_intent" = some (some (.ref f__law_intent)))
    (l__law_intent : K.lookup f__law_intent = some ⟨oc__law_intent, od__law_intent, .func (PySem.W.fnOf "_law_intent" "_law_intent" (defArgs s__law_intent) (defBody s__law_intent) (defScope s__law_intent) .none kV__law_intent dc__law_intent pm__law_intent an__law_intent cd__law_intent ct__law_intent), sl__law_intent⟩)
    (c__law_intent : PySem.W.codeIn K cd__law_intent "_law_intent" = true)
    (k__law_intent : PySem.W.keepIn K (.ref f__law_intent) = true)
    (a__law_old_log : PySem.W.nsIn K mainGlobals "_law_old_log" = some (some (.ref f__law_old_log)))
    (l__law_old_log : K.lookup f__law_old_log = some ⟨oc__law_old_log, od__law_old_log, .func (PySem.W.fnOf "_law_old_log" "_law_old_log" (defArgs s__law_old_log) (defBody s__law_old_log) (defScope s__law_old_log) .none kV__law_old_log dc__law_old_log pm__law_old_log an__law_old_log cd__law_old_log ct__law_old_log), sl__law_old_log⟩)
    (c__law_old_log : PySem.W.codeIn K cd__law_old_log "_law_old_log" = true)
    (k__law_old_log : PySem.W.keepIn K (.ref f__law_old_log) = true)
    (a__law_appended : PySem.W.nsIn K mainGlobals "_law_appended" = some (some (.ref f__law_appended)))
    (l__law_appended : K.lookup f__law_appended = some ⟨oc__law_appended, od__law_appended, .func (PySem.W.fnOf "_law_appended" "_law_appended" (defArgs s__law_appended) (defBody s__law_appended) (defScope s__law_appended) .none kV__law_appended dc__law_appended pm__law_appended an__law_appended cd__law_appended ct__law_appended), sl__law_appended⟩)
    (c__law_appended : PySem.W.codeIn K cd__law_appended "_law_appended" = true)
    (k__law_appended : PySem.W.keepIn K (.ref f__law_appended) = true)
    (a__law_choice : PySem.W.nsIn K mainGlobals "_law_choice" = some (some (.ref f__law_choice)))
    (l__law_choice : K.lookup f__law_choice = some ⟨oc__law_choice, od__law_choice, .func (PySem.W.fnOf "_law_choice" "_law_choice" (defArgs s__law_choice) (defBody s__law_choice) (defScope s__law_choice) .none kV__law_choice dc__law_choice pm__law_choice an__law_choice cd__law_choice ct__law_choice), sl__law_choice⟩)
    (c__law_choice : PySem.W.codeIn K cd__law_choice "_law_choice" = true)
    (k__law_choice : PySem.W.keepIn K (.ref f__law_choice) = true)
    (a__law_due : PySem.W.nsIn K mainGlobals "_law_due" = some (some (.ref f__law_due)))
    (l__law_due : K.lookup f__law_due = some ⟨oc__law_due, od__law_due, .func (PySem.W.fnOf "_law_due" "_law_due" (defArgs s__law_due) (defBody s__law_due) (defScope s__law_due) .none kV__law_due dc__law_due pm__law_due an__law_due cd__law_due ct__law_due), sl__law_due⟩)
    (c__law_due : PySem.W.codeIn K cd__law_due "_law_due" = true)
    (k__law_due : PySem.W.keepIn K (.ref f__law_due) = true)
    (a_law : PySem.W.nsIn K mainGlobals "law" = some (some (.ref f_law)))
    (l_law : K.lookup f_law = some ⟨oc_law, od_law, .func (PySem.W.fnOf "law" "law" (defArgs s_law) (defBody s_law) (defScope s_law) .none kV_law dc_law pm_law an_law cd_law ct_law), sl_law⟩)
    (c_law : PySem.W.codeIn K cd_law "law" = true)
    (k_law : PySem.W.keepIn K (.ref f_law) = true)
    (pg_Disk : PySem.W.plainGet K C_Disk Str.empty = true)
    (hd_Disk : PySem.W.hasDictIn K C_Disk = true)
    (po_Disk : PySem.W.plainOver K C_Disk = true)
    (sa_Disk : PySem.W.findIn K (.ref C_Disk) "__setattr__" = some (some (.builtin "object.__setattr__")))
    (mk_Disk : PySem.W.makesIn K C_Disk = true)
    (kc_Disk : PySem.W.keepIn K (.ref C_Disk) = true)
    (pg_Log : PySem.W.plainGet K C_Log Str.empty = true)
    (hd_Log : PySem.W.hasDictIn K C_Log = true)
    (po_Log : PySem.W.plainOver K C_Log = true)
    (sa_Log : PySem.W.findIn K (.ref C_Log) "__setattr__" = some (some (.builtin "object.__setattr__")))
    (mk_Log : PySem.W.makesIn K C_Log = true)
    (kc_Log : PySem.W.keepIn K (.ref C_Log) = true)
    (n_bool : PySem.W.nsIn K mainGlobals "bool" = some none)
    (n_enumerate : PySem.W.nsIn K mainGlobals "enumerate" = some none)
    (n_int : PySem.W.nsIn K mainGlobals "int" = some none)
    (n_isinstance : PySem.W.nsIn K mainGlobals "isinstance" = some none)
    (n_len : PySem.W.nsIn K mainGlobals "len" = some none)
    (n_list : PySem.W.nsIn K mainGlobals "list" = some none)
    (n_min : PySem.W.nsIn K mainGlobals "min" = some none)
    (n_range : PySem.W.nsIn K mainGlobals "range" = some none)
    (n_reversed : PySem.W.nsIn K mainGlobals "reversed" = some none)
    (n_sum : PySem.W.nsIn K mainGlobals "sum" = some none)
    (n_tuple : PySem.W.nsIn K mainGlobals "tuple" = some none)
    (kc_ALPHABET : PySem.W.nsIn K mainGlobals "ALPHABET" = some (some (.str "abcdefghijklmnopqrstuvwxyz0123456789._-" t_ALPHABET)))
    (kc_BASE : PySem.W.nsIn K mainGlobals "BASE" = some (some (.int 40 t_BASE)))
    (kc_BLOCK_SECTORS : PySem.W.nsIn K mainGlobals "BLOCK_SECTORS" = some (some (.int 4 t_BLOCK_SECTORS)))
    (kc_DIRECTORY : PySem.W.nsIn K mainGlobals "DIRECTORY" = some (some (.int 2 t_DIRECTORY)))
    (kc_FILE : PySem.W.nsIn K mainGlobals "FILE" = some (some (.int 1 t_FILE)))
    (kc_FIRST_SECTOR : PySem.W.nsIn K mainGlobals "FIRST_SECTOR" = some (some (.int 4 t_FIRST_SECTOR)))
    (kc_GROUP : PySem.W.nsIn K mainGlobals "GROUP" = some (some (.int 4 t_GROUP)))
    (kc_LENGTHS : PySem.W.nsIn K mainGlobals "LENGTHS" = some (some (.ref C_LENGTHS)))
    (kl_LENGTHS : K.lookup C_LENGTHS = some ⟨.type "dict", none, .dict es_LENGTHS en_LENGTHS, #[]⟩)
    (ki_LENGTHS : IntsLit [(1, 6), (2, 5), (3, 4), (4, 4), (5, 6), (7, 4), (8, 7), (9, 4), (10, 3)] es_LENGTHS.toList)
    (kc_LOG_SECTORS : PySem.W.nsIn K mainGlobals "LOG_SECTORS" = some (some (.int 16 t_LOG_SECTORS)))
    (kc_MAX_BLOCKS : PySem.W.nsIn K mainGlobals "MAX_BLOCKS" = some (some (.int 256 t_MAX_BLOCKS)))
    (kc_MAX_CELLS : PySem.W.nsIn K mainGlobals "MAX_CELLS" = some (some (.int 2048 t_MAX_CELLS)))
    (kc_MAX_OWNER : PySem.W.nsIn K mainGlobals "MAX_OWNER" = some (some (.int 255 t_MAX_OWNER)))
    (kc_MIN_BLOCKS : PySem.W.nsIn K mainGlobals "MIN_BLOCKS" = some (some (.int 96 t_MIN_BLOCKS)))
    (kc_NAME_SIZE : PySem.W.nsIn K mainGlobals "NAME_SIZE" = some (some (.int 11 t_NAME_SIZE)))
    (kc_SECTOR_WORDS : PySem.W.nsIn K mainGlobals "SECTOR_WORDS" = some (some (.int 8 t_SECTOR_WORDS)))
    (kc_UNIT : PySem.W.nsIn K mainGlobals "UNIT" = some (some (.int 32 t_UNIT)))
    (ex_BadImage : PySem.W.excIn K C_BadImage [.type "ValueError", .type "Exception", .type "BaseException", .type "object"] "ValueError.__new__" = true)
    (kc_BadImage : PySem.W.keepIn K (.ref C_BadImage) = true)
    (sb_BadImage : PySem.W.subIn K (.ref C_BadImage) (.type "BaseException") = some true)
    (ty_BadImage : PySem.W.typeIn K (.ref C_BadImage) = some (.type "type"))
    (ex_BadName : PySem.W.excIn K C_BadName [.type "ValueError", .type "Exception", .type "BaseException", .type "object"] "ValueError.__new__" = true)
    (kc_BadName : PySem.W.keepIn K (.ref C_BadName) = true)
    (sb_BadName : PySem.W.subIn K (.ref C_BadName) (.type "BaseException") = some true)
    (ty_BadName : PySem.W.typeIn K (.ref C_BadName) = some (.type "type"))
    (ex_NoSpace : PySem.W.excIn K C_NoSpace [.type "ValueError", .type "Exception", .type "BaseException", .type "object"] "ValueError.__new__" = true)
    (kc_NoSpace : PySem.W.keepIn K (.ref C_NoSpace) = true)
    (sb_NoSpace : PySem.W.subIn K (.ref C_NoSpace) (.type "BaseException") = some true)
    (ty_NoSpace : PySem.W.typeIn K (.ref C_NoSpace) = some (.type "type"))
    (ex_NotValid : PySem.W.excIn K C_NotValid [.type "ValueError", .type "Exception", .type "BaseException", .type "object"] "ValueError.__new__" = true)
    (kc_NotValid : PySem.W.keepIn K (.ref C_NotValid) = true)
    (sb_NotValid : PySem.W.subIn K (.ref C_NotValid) (.type "BaseException") = some true)
    (ty_NotValid : PySem.W.typeIn K (.ref C_NotValid) = some (.type "type"))
    (ex_PowerOff : PySem.W.excIn K C_PowerOff [.type "ValueError", .type "Exception", .type "BaseException", .type "object"] "ValueError.__new__" = true)
    (kc_PowerOff : PySem.W.keepIn K (.ref C_PowerOff) = true)
    (sb_PowerOff : PySem.W.subIn K (.ref C_PowerOff) (.type "BaseException") = some true)
    (ty_PowerOff : PySem.W.typeIn K (.ref C_PowerOff) = some (.type "type"))
    (nf_Disk_blocks : PySem.W.findIn K (.ref C_Disk) "blocks" = some none)
    (nf_Disk_left : PySem.W.findIn K (.ref C_Disk) "left" = some none)
    (nf_Disk_newest : PySem.W.findIn K (.ref C_Disk) "newest" = some none)
    (nf_Disk_power : PySem.W.findIn K (.ref C_Disk) "power" = some none)
    (nf_Disk_sectors : PySem.W.findIn K (.ref C_Disk) "sectors" = some none)
    (nf_Disk_writes : PySem.W.findIn K (.ref C_Disk) "writes" = some none)
    (nf_Log_generation : PySem.W.findIn K (.ref C_Log) "generation" = some none)
    (nf_Log_next_record : PySem.W.findIn K (.ref C_Log) "next_record" = some none)
    (nf_Log_next_sector : PySem.W.findIn K (.ref C_Log) "next_sector" = some none)
    (su_BadImage_BadName : PySem.W.subIn K (.ref C_BadImage) (.ref C_BadName) = some false)
    (su_BadName_BadName : PySem.W.subIn K (.ref C_BadName) (.ref C_BadName) = some true)
    (su_NoSpace_BadName : PySem.W.subIn K (.ref C_NoSpace) (.ref C_BadName) = some false)
    (su_NotValid_BadName : PySem.W.subIn K (.ref C_NotValid) (.ref C_BadName) = some false)
    (su_PowerOff_BadName : PySem.W.subIn K (.ref C_PowerOff) (.ref C_BadName) = some false)
    (hx_BadName : PySem.W.hasDictIn K C_BadName = true) :
    ∃ fd : FuncData, (∀ (s : Shared) (v : Value), BindsTo s fd ⟨[v], []⟩ [("_law_script", v)]) ∧ ∀ base : Heap, K.In base → base.Ns mainGlobals mg → FnOk P w K mg base (L2.CX P w) 8 fa fd ["_law_script"] (spLaw K) := by
  have e := hfa.symm.trans (PySem.W.mg_of X G a_law)
  cases e
  have F_is_between := fun_mk (st := s_is_between) l_is_between c_is_between k_is_between
  have F_is_word := fun_mk (st := s_is_word) l_is_word c_is_word k_is_word
  have F_are_words := fun_mk (st := s_are_words) l_are_words c_are_words k_are_words
  have F_word_name := fun_mk (st := s_word_name) l_word_name c_word_name k_word_name
  have F_Disk___init__ := fun_mk (st := s_Disk___init__) l_Disk___init__ c_Disk___init__ k_Disk___init__
  have F_Disk_read := fun_mk (st := s_Disk_read) l_Disk_read c_Disk_read k_Disk_read
  have F_Disk_operate := fun_mk (st := s_Disk_operate) l_Disk_operate c_Disk_operate k_Disk_operate
  have F_Disk_write := fun_mk (st := s_Disk_write) l_Disk_write c_Disk_write k_Disk_write
  have F_Disk_flush := fun_mk (st := s_Disk_flush) l_Disk_flush c_Disk_flush k_Disk_flush
  have F_Disk_waiting := fun_mk (st := s_Disk_waiting) l_Disk_waiting c_Disk_waiting k_Disk_waiting
  have F_Disk_cut := fun_mk (st := s_Disk_cut) l_Disk_cut c_Disk_cut k_Disk_cut
  have F_sectors_of := fun_mk (st := s_sectors_of) l_sectors_of c_sectors_of k_sectors_of
  have F_record_sectors := fun_mk (st := s_record_sectors) l_record_sectors c_record_sectors k_record_sectors
  have F_Log___init__ := fun_mk (st := s_Log___init__) l_Log___init__ c_Log___init__ k_Log___init__
  have F_Log_fits := fun_mk (st := s_Log_fits) l_Log_fits c_Log_fits k_Log_fits
  have F_Log_append_records := fun_mk (st := s_Log_append_records) l_Log_append_records c_Log_append_records k_Log_append_records
  have F_whole_parts := fun_mk (st := s_whole_parts) l_whole_parts c_whole_parts k_whole_parts
  have F_record_intent := fun_mk (st := s_record_intent) l_record_intent c_record_intent k_record_intent
  have F_whole_records := fun_mk (st := s_whole_records) l_whole_records c_whole_records k_whole_records
  have F_is_name := fun_mk (st := s_is_name) l_is_name c_is_name k_is_name
  have F_check_words := fun_mk (st := s_check_words) l_check_words c_check_words k_check_words
  have F_check_intent := fun_mk (st := s_check_intent) l_check_intent c_check_intent k_check_intent
  have F__law_cell := fun_mk (st := s__law_cell) l__law_cell c__law_cell k__law_cell
  have F__law_digits := fun_mk (st := s__law_digits) l__law_digits c__law_digits k__law_digits
  have F__law_intent := fun_mk (st := s__law_intent) l__law_intent c__law_intent k__law_intent
  have F__law_old_log := fun_mk (st := s__law_old_log) l__law_old_log c__law_old_log k__law_old_log
  have F__law_appended := fun_mk (st := s__law_appended) l__law_appended c__law_appended k__law_appended
  have F__law_choice := fun_mk (st := s__law_choice) l__law_choice c__law_choice k__law_choice
  have F__law_due := fun_mk (st := s__law_due) l__law_due c__law_due k__law_due
  have F_law := fun_mk (st := s_law) l_law c_law k_law
  let A : Adr := {
    ex := { ({ } : Ex) with Disk := C_Disk, Log := C_Log, NotValid := C_NotValid, PowerOff := C_PowerOff, BadName := C_BadName, NoSpace := C_NoSpace, BadImage := C_BadImage, LENGTHS := C_LENGTHS },
    f_is_between := f_is_between, d_is_between := PySem.W.fnOf "is_between" "is_between" (defArgs s_is_between) (defBody s_is_between) (defScope s_is_between) .none kV_is_between dc_is_between pm_is_between an_is_between cd_is_between ct_is_between,
    f_is_word := f_is_word, d_is_word := PySem.W.fnOf "is_word" "is_word" (defArgs s_is_word) (defBody s_is_word) (defScope s_is_word) .none kV_is_word dc_is_word pm_is_word an_is_word cd_is_word ct_is_word,
    f_are_words := f_are_words, d_are_words := PySem.W.fnOf "are_words" "are_words" (defArgs s_are_words) (defBody s_are_words) (defScope s_are_words) .none kV_are_words dc_are_words pm_are_words an_are_words cd_are_words ct_are_words,
    f_word_name := f_word_name, d_word_name := PySem.W.fnOf "word_name" "word_name" (defArgs s_word_name) (defBody s_word_name) (defScope s_word_name) .none kV_word_name dc_word_name pm_word_name an_word_name cd_word_name ct_word_name,
    f_Disk___init__ := f_Disk___init__, d_Disk___init__ := PySem.W.fnOf "__init__" "Disk.__init__" (defArgs s_Disk___init__) (defBody s_Disk___init__) (defScope s_Disk___init__) .none kV_Disk___init__ dc_Disk___init__ pm_Disk___init__ an_Disk___init__ cd_Disk___init__ ct_Disk___init__,
    f_Disk_read := f_Disk_read, d_Disk_read := PySem.W.fnOf "read" "Disk.read" (defArgs s_Disk_read) (defBody s_Disk_read) (defScope s_Disk_read) .none kV_Disk_read dc_Disk_read pm_Disk_read an_Disk_read cd_Disk_read ct_Disk_read,
    f_Disk_operate := f_Disk_operate, d_Disk_operate := PySem.W.fnOf "operate" "Disk.operate" (defArgs s_Disk_operate) (defBody s_Disk_operate) (defScope s_Disk_operate) .none kV_Disk_operate dc_Disk_operate pm_Disk_operate an_Disk_operate cd_Disk_operate ct_Disk_operate,
    f_Disk_write := f_Disk_write, d_Disk_write := PySem.W.fnOf "write" "Disk.write" (defArgs s_Disk_write) (defBody s_Disk_write) (defScope s_Disk_write) .none kV_Disk_write dc_Disk_write pm_Disk_write an_Disk_write cd_Disk_write ct_Disk_write,
    f_Disk_flush := f_Disk_flush, d_Disk_flush := PySem.W.fnOf "flush" "Disk.flush" (defArgs s_Disk_flush) (defBody s_Disk_flush) (defScope s_Disk_flush) .none kV_Disk_flush dc_Disk_flush pm_Disk_flush an_Disk_flush cd_Disk_flush ct_Disk_flush,
    f_Disk_waiting := f_Disk_waiting, d_Disk_waiting := PySem.W.fnOf "waiting" "Disk.waiting" (defArgs s_Disk_waiting) (defBody s_Disk_waiting) (defScope s_Disk_waiting) .none kV_Disk_waiting dc_Disk_waiting pm_Disk_waiting an_Disk_waiting cd_Disk_waiting ct_Disk_waiting,
    f_Disk_cut := f_Disk_cut, d_Disk_cut := PySem.W.fnOf "cut" "Disk.cut" (defArgs s_Disk_cut) (defBody s_Disk_cut) (defScope s_Disk_cut) .none kV_Disk_cut dc_Disk_cut pm_Disk_cut an_Disk_cut cd_Disk_cut ct_Disk_cut,
    f_sectors_of := f_sectors_of, d_sectors_of := PySem.W.fnOf "sectors_of" "sectors_of" (defArgs s_sectors_of) (defBody s_sectors_of) (defScope s_sectors_of) .none kV_sectors_of dc_sectors_of pm_sectors_of an_sectors_of cd_sectors_of ct_sectors_of,
    f_record_sectors := f_record_sectors, d_record_sectors := PySem.W.fnOf "record_sectors" "record_sectors" (defArgs s_record_sectors) (defBody s_record_sectors) (defScope s_record_sectors) .none kV_record_sectors dc_record_sectors pm_record_sectors an_record_sectors cd_record_sectors ct_record_sectors,
    f_Log___init__ := f_Log___init__, d_Log___init__ := PySem.W.fnOf "__init__" "Log.__init__" (defArgs s_Log___init__) (defBody s_Log___init__) (defScope s_Log___init__) .none kV_Log___init__ dc_Log___init__ pm_Log___init__ an_Log___init__ cd_Log___init__ ct_Log___init__,
    f_Log_fits := f_Log_fits, d_Log_fits := PySem.W.fnOf "fits" "Log.fits" (defArgs s_Log_fits) (defBody s_Log_fits) (defScope s_Log_fits) .none kV_Log_fits dc_Log_fits pm_Log_fits an_Log_fits cd_Log_fits ct_Log_fits,
    f_Log_append_records := f_Log_append_records, d_Log_append_records := PySem.W.fnOf "append_records" "Log.append_records" (defArgs s_Log_append_records) (defBody s_Log_append_records) (defScope s_Log_append_records) .none kV_Log_append_records dc_Log_append_records pm_Log_append_records an_Log_append_records cd_Log_append_records ct_Log_append_records,
    f_whole_parts := f_whole_parts, d_whole_parts := PySem.W.fnOf "whole_parts" "whole_parts" (defArgs s_whole_parts) (defBody s_whole_parts) (defScope s_whole_parts) .none kV_whole_parts dc_whole_parts pm_whole_parts an_whole_parts cd_whole_parts ct_whole_parts,
    f_record_intent := f_record_intent, d_record_intent := PySem.W.fnOf "record_intent" "record_intent" (defArgs s_record_intent) (defBody s_record_intent) (defScope s_record_intent) .none kV_record_intent dc_record_intent pm_record_intent an_record_intent cd_record_intent ct_record_intent,
    f_whole_records := f_whole_records, d_whole_records := PySem.W.fnOf "whole_records" "whole_records" (defArgs s_whole_records) (defBody s_whole_records) (defScope s_whole_records) .none kV_whole_records dc_whole_records pm_whole_records an_whole_records cd_whole_records ct_whole_records,
    f_is_name := f_is_name, d_is_name := PySem.W.fnOf "is_name" "is_name" (defArgs s_is_name) (defBody s_is_name) (defScope s_is_name) .none kV_is_name dc_is_name pm_is_name an_is_name cd_is_name ct_is_name,
    f_check_words := f_check_words, d_check_words := PySem.W.fnOf "check_words" "check_words" (defArgs s_check_words) (defBody s_check_words) (defScope s_check_words) .none kV_check_words dc_check_words pm_check_words an_check_words cd_check_words ct_check_words,
    f_check_intent := f_check_intent, d_check_intent := PySem.W.fnOf "check_intent" "check_intent" (defArgs s_check_intent) (defBody s_check_intent) (defScope s_check_intent) .none kV_check_intent dc_check_intent pm_check_intent an_check_intent cd_check_intent ct_check_intent,
    f__law_cell := f__law_cell, d__law_cell := PySem.W.fnOf "_law_cell" "_law_cell" (defArgs s__law_cell) (defBody s__law_cell) (defScope s__law_cell) .none kV__law_cell dc__law_cell pm__law_cell an__law_cell cd__law_cell ct__law_cell,
    f__law_digits := f__law_digits, d__law_digits := PySem.W.fnOf "_law_digits" "_law_digits" (defArgs s__law_digits) (defBody s__law_digits) (defScope s__law_digits) .none kV__law_digits dc__law_digits pm__law_digits an__law_digits cd__law_digits ct__law_digits,
    f__law_intent := f__law_intent, d__law_intent := PySem.W.fnOf "_law_intent" "_law_intent" (defArgs s__law_intent) (defBody s__law_intent) (defScope s__law_intent) .none kV__law_intent dc__law_intent pm__law_intent an__law_intent cd__law_intent ct__law_intent,
    f__law_old_log := f__law_old_log, d__law_old_log := PySem.W.fnOf "_law_old_log" "_law_old_log" (defArgs s__law_old_log) (defBody s__law_old_log) (defScope s__law_old_log) .none kV__law_old_log dc__law_old_log pm__law_old_log an__law_old_log cd__law_old_log ct__law_old_log,
    f__law_appended := f__law_appended, d__law_appended := PySem.W.fnOf "_law_appended" "_law_appended" (defArgs s__law_appended) (defBody s__law_appended) (defScope s__law_appended) .none kV__law_appended dc__law_appended pm__law_appended an__law_appended cd__law_appended ct__law_appended,
    f__law_choice := f__law_choice, d__law_choice := PySem.W.fnOf "_law_choice" "_law_choice" (defArgs s__law_choice) (defBody s__law_choice) (defScope s__law_choice) .none kV__law_choice dc__law_choice pm__law_choice an__law_choice cd__law_choice ct__law_choice,
    f__law_due := f__law_due, d__law_due := PySem.W.fnOf "_law_due" "_law_due" (defArgs s__law_due) (defBody s__law_due) (defScope s__law_due) .none kV__law_due dc__law_due pm__law_due an__law_due cd__law_due ct__law_due,
    f_law := fa, d_law := PySem.W.fnOf "law" "law" (defArgs s_law) (defBody s_law) (defScope s_law) .none kV_law dc_law pm_law an_law cd_law ct_law }
  have T : Top K mg A := {
    F_is_between := F_is_between,
    b_is_between := F_is_between.binds (ps := ["value", "low", "high"]) fun _ _ _ _ _ _ us hl => match us, hl with | [_, _, _], _ => rfl,
    g_is_between := PySem.W.mg_of X G a_is_between,
    F_is_word := F_is_word,
    b_is_word := F_is_word.binds (ps := ["value"]) fun _ _ _ _ _ _ us hl => match us, hl with | [_], _ => rfl,
    g_is_word := PySem.W.mg_of X G a_is_word,
    F_are_words := F_are_words,
    b_are_words := F_are_words.binds (ps := ["values", "many"]) fun _ _ _ _ _ _ us hl => match us, hl with | [_, _], _ => rfl,
    g_are_words := PySem.W.mg_of X G a_are_words,
    F_word_name := F_word_name,
    b_word_name := F_word_name.binds (ps := ["word"]) fun _ _ _ _ _ _ us hl => match us, hl with | [_], _ => rfl,
    g_word_name := PySem.W.mg_of X G a_word_name,
    F_Disk___init__ := F_Disk___init__,
    b_Disk___init__ := F_Disk___init__.binds (ps := ["self", "blocks"]) fun _ _ _ _ _ _ us hl => match us, hl with | [_, _], _ => rfl,
    F_Disk_read := F_Disk_read,
    b_Disk_read := F_Disk_read.binds (ps := ["self", "sector"]) fun _ _ _ _ _ _ us hl => match us, hl with | [_, _], _ => rfl,
    m_Disk_read := ⟨a_Disk_read, i_Disk_read, k_Disk_read⟩,
    F_Disk_operate := F_Disk_operate,
    b_Disk_operate := F_Disk_operate.binds (ps := ["self"]) fun _ _ _ _ _ _ us hl => match us, hl with | [_], _ => rfl,
    m_Disk_operate := ⟨a_Disk_operate, i_Disk_operate, k_Disk_operate⟩,
    F_Disk_write := F_Disk_write,
    b_Disk_write := F_Disk_write.binds (ps := ["self", "sector", "words"]) fun _ _ _ _ _ _ us hl => match us, hl with | [_, _, _], _ => rfl,
    m_Disk_write := ⟨a_Disk_write, i_Disk_write, k_Disk_write⟩,
    F_Disk_flush := F_Disk_flush,
    b_Disk_flush := F_Disk_flush.binds (ps := ["self"]) fun _ _ _ _ _ _ us hl => match us, hl with | [_], _ => rfl,
    m_Disk_flush := ⟨a_Disk_flush, i_Disk_flush, k_Disk_flush⟩,
    F_Disk_waiting := F_Disk_waiting,
    b_Disk_waiting := F_Disk_waiting.binds (ps := ["self"]) fun _ _ _ _ _ _ us hl => match us, hl with | [_], _ => rfl,
    m_Disk_waiting := ⟨a_Disk_waiting, i_Disk_waiting, k_Disk_waiting⟩,
    F_Disk_cut := F_Disk_cut,
    b_Disk_cut := F_Disk_cut.binds (ps := ["self", "choices"]) fun _ _ _ _ _ _ us hl => match us, hl with | [_, _], _ => rfl,
    m_Disk_cut := ⟨a_Disk_cut, i_Disk_cut, k_Disk_cut⟩,
    F_sectors_of := F_sectors_of,
    b_sectors_of := F_sectors_of.binds (ps := ["intent"]) fun _ _ _ _ _ _ us hl => match us, hl with | [_], _ => rfl,
    g_sectors_of := PySem.W.mg_of X G a_sectors_of,
    F_record_sectors := F_record_sectors,
    b_record_sectors := F_record_sectors.binds (ps := ["intent", "record", "generation"]) fun _ _ _ _ _ _ us hl => match us, hl with | [_, _, _], _ => rfl,
    g_record_sectors := PySem.W.mg_of X G a_record_sectors,
    F_Log___init__ := F_Log___init__,
    b_Log___init__ := F_Log___init__.binds (ps := ["self", "generation"]) fun _ _ _ _ _ _ us hl => match us, hl with | [_, _], _ => rfl,
    F_Log_fits := F_Log_fits,
    b_Log_fits := F_Log_fits.binds (ps := ["self", "intents"]) fun _ _ _ _ _ _ us hl => match us, hl with | [_, _], _ => rfl,
    m_Log_fits := ⟨a_Log_fits, i_Log_fits, k_Log_fits⟩,
    F_Log_append_records := F_Log_append_records,
    b_Log_append_records := F_Log_append_records.binds (ps := ["self", "intents"]) fun _ _ _ _ _ _ us hl => match us, hl with | [_, _], _ => rfl,
    m_Log_append_records := ⟨a_Log_append_records, i_Log_append_records, k_Log_append_records⟩,
    F_whole_parts := F_whole_parts,
    b_whole_parts := F_whole_parts.binds (ps := ["sectors", "at", "record", "generation"]) fun _ _ _ _ _ _ us hl => match us, hl with | [_, _, _, _], _ => rfl,
    g_whole_parts := PySem.W.mg_of X G a_whole_parts,
    F_record_intent := F_record_intent,
    b_record_intent := F_record_intent.binds (ps := ["sectors"]) fun _ _ _ _ _ _ us hl => match us, hl with | [_], _ => rfl,
    g_record_intent := PySem.W.mg_of X G a_record_intent,
    F_whole_records := F_whole_records,
    b_whole_records := F_whole_records.binds (ps := ["sectors", "generation"]) fun _ _ _ _ _ _ us hl => match us, hl with | [_, _], _ => rfl,
    g_whole_records := PySem.W.mg_of X G a_whole_records,
    F_is_name := F_is_name,
    b_is_name := F_is_name.binds (ps := ["word"]) fun _ _ _ _ _ _ us hl => match us, hl with | [_], _ => rfl,
    g_is_name := PySem.W.mg_of X G a_is_name,
    F_check_words := F_check_words,
    b_check_words := F_check_words.binds (ps := ["words"]) fun _ _ _ _ _ _ us hl => match us, hl with | [_], _ => rfl,
    g_check_words := PySem.W.mg_of X G a_check_words,
    F_check_intent := F_check_intent,
    b_check_intent := F_check_intent.binds (ps := ["words"]) fun _ _ _ _ _ _ us hl => match us, hl with | [_], _ => rfl,
    g_check_intent := PySem.W.mg_of X G a_check_intent,
    F__law_cell := F__law_cell,
    b__law_cell := F__law_cell.binds (ps := ["_law_script", "_law_k"]) fun _ _ _ _ _ _ us hl => match us, hl with | [_, _], _ => rfl,
    g__law_cell := PySem.W.mg_of X G a__law_cell,
    F__law_digits := F__law_digits,
    b__law_digits := F__law_digits.binds (ps := ["_law_cell_here", "_law_bases"]) fun _ _ _ _ _ _ us hl => match us, hl with | [_, _], _ => rfl,
    g__law_digits := PySem.W.mg_of X G a__law_digits,
    F__law_intent := F__law_intent,
    b__law_intent := F__law_intent.binds (ps := ["_law_cell_here", "_law_most"]) fun _ _ _ _ _ _ us hl => match us, hl with | [_, _], _ => rfl,
    g__law_intent := PySem.W.mg_of X G a__law_intent,
    F__law_old_log := F__law_old_log,
    b__law_old_log := F__law_old_log.binds (ps := ["_law_disk", "_law_cell_here", "_law_generation"]) fun _ _ _ _ _ _ us hl => match us, hl with | [_, _, _], _ => rfl,
    g__law_old_log := PySem.W.mg_of X G a__law_old_log,
    F__law_appended := F__law_appended,
    b__law_appended := F__law_appended.binds (ps := ["_law_disk", "_law_log", "_law_intents"]) fun _ _ _ _ _ _ us hl => match us, hl with | [_, _, _], _ => rfl,
    g__law_appended := PySem.W.mg_of X G a__law_appended,
    F__law_choice := F__law_choice,
    b__law_choice := F__law_choice.binds (ps := ["_law_cell_here"]) fun _ _ _ _ _ _ us hl => match us, hl with | [_], _ => rfl,
    g__law_choice := PySem.W.mg_of X G a__law_choice,
    F__law_due := F__law_due,
    b__law_due := F__law_due.binds (ps := ["_law_intents", "_law_choices"]) fun _ _ _ _ _ _ us hl => match us, hl with | [_, _], _ => rfl,
    g__law_due := PySem.W.mg_of X G a__law_due,
    F_law := F_law,
    b_law := F_law.binds (ps := ["_law_script"]) fun _ _ _ _ _ _ us hl => match us, hl with | [_], _ => rfl,
    g_law := PySem.W.mg_of X G a_law,
    c_Disk := ⟨pg_Disk, hd_Disk, po_Disk, sa_Disk⟩,
    M_Disk := ⟨mk_Disk, a_Disk___init__, i_Disk___init__, kc_Disk⟩,
    gC_Disk := PySem.W.mg_of X G aC_Disk,
    c_Log := ⟨pg_Log, hd_Log, po_Log, sa_Log⟩,
    M_Log := ⟨mk_Log, a_Log___init__, i_Log___init__, kc_Log⟩,
    gC_Log := PySem.W.mg_of X G aC_Log,
    n_bool := PySem.W.mg_none_of X G n_bool,
    n_enumerate := PySem.W.mg_none_of X G n_enumerate,
    n_int := PySem.W.mg_none_of X G n_int,
    n_isinstance := PySem.W.mg_none_of X G n_isinstance,
    n_len := PySem.W.mg_none_of X G n_len,
    n_list := PySem.W.mg_none_of X G n_list,
    n_min := PySem.W.mg_none_of X G n_min,
    n_range := PySem.W.mg_none_of X G n_range,
    n_reversed := PySem.W.mg_none_of X G n_reversed,
    n_sum := PySem.W.mg_none_of X G n_sum,
    n_tuple := PySem.W.mg_none_of X G n_tuple,
    k_ALPHABET := ⟨_, PySem.W.mg_of X G kc_ALPHABET⟩,
    k_BASE := ⟨_, PySem.W.mg_of X G kc_BASE⟩,
    k_BLOCK_SECTORS := ⟨_, PySem.W.mg_of X G kc_BLOCK_SECTORS⟩,
    k_DIRECTORY := ⟨_, PySem.W.mg_of X G kc_DIRECTORY⟩,
    k_FILE := ⟨_, PySem.W.mg_of X G kc_FILE⟩,
    k_FIRST_SECTOR := ⟨_, PySem.W.mg_of X G kc_FIRST_SECTOR⟩,
    k_GROUP := ⟨_, PySem.W.mg_of X G kc_GROUP⟩,
    k_LENGTHS := ⟨PySem.W.mg_of X G kc_LENGTHS, _, _, kl_LENGTHS, ki_LENGTHS⟩,
    k_LOG_SECTORS := ⟨_, PySem.W.mg_of X G kc_LOG_SECTORS⟩,
    k_MAX_BLOCKS := ⟨_, PySem.W.mg_of X G kc_MAX_BLOCKS⟩,
    k_MAX_CELLS := ⟨_, PySem.W.mg_of X G kc_MAX_CELLS⟩,
    k_MAX_OWNER := ⟨_, PySem.W.mg_of X G kc_MAX_OWNER⟩,
    k_MIN_BLOCKS := ⟨_, PySem.W.mg_of X G kc_MIN_BLOCKS⟩,
    k_NAME_SIZE := ⟨_, PySem.W.mg_of X G kc_NAME_SIZE⟩,
    k_SECTOR_WORDS := ⟨_, PySem.W.mg_of X G kc_SECTOR_WORDS⟩,
    k_UNIT := ⟨_, PySem.W.mg_of X G kc_UNIT⟩,
    x_BadImage := ⟨ex_BadImage, PySem.W.mg_of X G aC_BadImage, kc_BadImage, sb_BadImage, ty_BadImage⟩,
    x_BadName := ⟨ex_BadName, PySem.W.mg_of X G aC_BadName, kc_BadName, sb_BadName, ty_BadName⟩,
    x_NoSpace := ⟨ex_NoSpace, PySem.W.mg_of X G aC_NoSpace, kc_NoSpace, sb_NoSpace, ty_NoSpace⟩,
    x_NotValid := ⟨ex_NotValid, PySem.W.mg_of X G aC_NotValid, kc_NotValid, sb_NotValid, ty_NotValid⟩,
    x_PowerOff := ⟨ex_PowerOff, PySem.W.mg_of X G aC_PowerOff, kc_PowerOff, sb_PowerOff, ty_PowerOff⟩,
    n_Disk_blocks := nf_Disk_blocks,
    n_Disk_left := nf_Disk_left,
    n_Disk_newest := nf_Disk_newest,
    n_Disk_power := nf_Disk_power,
    n_Disk_sectors := nf_Disk_sectors,
    n_Disk_writes := nf_Disk_writes,
    n_Log_generation := nf_Log_generation,
    n_Log_next_record := nf_Log_next_record,
    n_Log_next_sector := nf_Log_next_sector,
    fa := { fa0 := trivial, te_NotValid_BadName := PySem.W.exm_ref sb_BadName hx_BadName ty_BadName su_NotValid_BadName, te_PowerOff_BadName := PySem.W.exm_ref sb_BadName hx_BadName ty_BadName su_PowerOff_BadName, te_BadName_BadName := PySem.W.exm_ref sb_BadName hx_BadName ty_BadName su_BadName_BadName, te_NoSpace_BadName := PySem.W.exm_ref sb_BadName hx_BadName ty_BadName su_NoSpace_BadName, te_BadImage_BadName := PySem.W.exm_ref sb_BadName hx_BadName ty_BadName su_BadImage_BadName } }
  exact ⟨_, fun s v => .of_eq rfl, fun base _ _ => ok_law (A := A) T⟩
theorem walk {l : PySem.W.OpenLaw} {q : Program} {loose : List Str} {XP : (Str → Option Value) → Heap → Prop} {YP : World → Heap → Prop} {d : DefRec} {K : Params → PySem.W.Frag} (hn : l.most = some 63) (hdf : d.params.defaults = [])
    (hY : ∀ (w : World) (h : Heap), YP w h → (K w.params).In h)
    (F : ∀ (w : World) (mg : Str → Option Value) (fa : Addr) (h : Heap), (K w.params).In h → h.Ns mainGlobals mg → mg d.name = some (.ref fa) →
      ∃ fd : FuncData, (∀ (s : Shared) (u : Value), BindsTo s fd ⟨[u], []⟩ [("_law_script", u)]) ∧ ∀ base : Heap, (K w.params).In base → base.Ns mainGlobals mg → FnOk l.prog w (K w.params) mg base (L2.CX l.prog w) 8 fa fd ["_law_script"] (spLaw (K w.params))) :
    PySem.W.WalkO q loose XP YP l.row.toRowW d [] (fun f vs => PySem.call f vs) :=
  L2.walk_of (n := 63) (k := 8) (x := "_law_script") (CX := fun w => L2.CX l.prog w) (sp := fun w => spLaw (K w.params)) hn (by decide) hdf ⟨rfl, by decide, by decide⟩ hY F (fun _ _ a ns hl _ hS => ⟨_, rfl, a, ns, rfl, hS, hl, fun _ => rfl⟩) fun _ _ _ _ _ ⟨_, _, _, _, _, _, _, _, _, _, _, _, z⟩ => z
end Lam
open PySem PySem.W PyProof.Rows
set_option maxRecDepth 100000 in
set_option maxHeartbeats 0 in
theorem PySem.Challenge.cw_laminae_k68_whole_torn_logs_holds : PySem.Challenge.rw_laminae_k68_whole_torn_logs.Holds := by
  w_on; o_law; k_head; (case hw => w_witness2)
  k_fill
  refine Lam.walk (l := PySem.Challenge.rw_laminae_k68_whole_torn_logs) rfl rfl (fun w h Y => PySem.W.kIn_of Y) ?F
  case F =>
    intro w mg fa h KX G hmg
    refine' Lam.all_mk KX G hmg ?aC_Disk ?aC_Log ?aC_BadImage ?aC_BadName ?aC_NoSpace ?aC_NotValid ?aC_PowerOff ?a_is_between ?l_is_between ?c_is_between ?k_is_between ?a_is_word ?l_is_word ?c_is_word ?k_is_word ?a_are_words ?l_are_words ?c_are_words ?k_are_words ?a_word_name ?l_word_name ?c_word_name ?k_word_name ?a_Disk___init__ ?i_Disk___init__ ?l_Disk___init__ ?c_Disk___init__ ?k_Disk___init__ ?a_Disk_read ?i_Disk_read ?l_Disk_read ?c_Disk_read ?k_Disk_read ?a_Disk_operate ?i_Disk_operate ?l_Disk_operate ?c_Disk_operate ?k_Disk_operate ?a_Disk_write ?i_Disk_write ?l_Disk_write ?c_Disk_write ?k_Disk_write ?a_Disk_flush ?i_Disk_flush ?l_Disk_flush ?c_Disk_flush ?k_Disk_flush ?a_Disk_waiting ?i_Disk_waiting ?l_Disk_waiting ?c_Disk_waiting ?k_Disk_waiting ?a_Disk_cut ?i_Disk_cut ?l_Disk_cut ?c_Disk_cut ?k_Disk_cut ?a_sectors_of ?l_sectors_of ?c_sectors_of ?k_sectors_of ?a_record_sectors ?l_record_sectors ?c_record_sectors ?k_record_sectors ?a_Log___init__ ?i_Log___init__ ?l_Log___init__ ?c_Log___init__ ?k_Log___init__ ?a_Log_fits ?i_Log_fits ?l_Log_fits ?c_Log_fits ?k_Log_fits ?a_Log_append_records ?i_Log_append_records ?l_Log_append_records ?c_Log_append_records ?k_Log_append_records ?a_whole_parts ?l_whole_parts ?c_whole_parts ?k_whole_parts ?a_record_intent ?l_record_intent ?c_record_intent ?k_record_intent ?a_whole_records ?l_whole_records ?c_whole_records ?k_whole_records ?a_is_name ?l_is_name ?c_is_name ?k_is_name ?a_check_words ?l_check_words ?c_check_words ?k_check_words ?a_check_intent ?l_check_intent ?c_check_intent ?k_check_intent ?a__law_cell ?l__law_cell ?c__law_cell ?k__law_cell ?a__law_digits ?l__law_digits ?c__law_digits ?k__law_digits ?a__law_intent ?l__law_intent ?c__law_intent ?k__law_intent ?a__law_old_log ?l__law_old_log ?c__law_old_log ?k__law_old_log ?a__law_appended ?l__law_appended ?c__law_appended ?k__law_appended ?a__law_choice ?l__law_choice ?c__law_choice ?k__law_choice ?a__law_due ?l__law_due ?c__law_due ?k__law_due ?a_law ?l_law ?c_law ?k_law ?pg_Disk ?hd_Disk ?po_Disk ?sa_Disk ?mk_Disk ?kc_Disk ?pg_Log ?hd_Log ?po_Log ?sa_Log ?mk_Log ?kc_Log ?n_bool ?n_enumerate ?n_int ?n_isinstance ?n_len ?n_list ?n_min ?n_range ?n_reversed ?n_sum ?n_tuple ?kc_ALPHABET ?kc_BASE ?kc_BLOCK_SECTORS ?kc_DIRECTORY ?kc_FILE ?kc_FIRST_SECTOR ?kc_GROUP ?kc_LENGTHS ?kl_LENGTHS ?ki_LENGTHS ?kc_LOG_SECTORS ?kc_MAX_BLOCKS ?kc_MAX_CELLS ?kc_MAX_OWNER ?kc_MIN_BLOCKS ?kc_NAME_SIZE ?kc_SECTOR_WORDS ?kc_UNIT ?ex_BadImage ?kc_BadImage ?sb_BadImage ?ty_BadImage ?ex_BadName ?kc_BadName ?sb_BadName ?ty_BadName ?ex_NoSpace ?kc_NoSpace ?sb_NoSpace ?ty_NoSpace ?ex_NotValid ?kc_NotValid ?sb_NotValid ?ty_NotValid ?ex_PowerOff ?kc_PowerOff ?sb_PowerOff ?ty_PowerOff ?nf_Disk_blocks ?nf_Disk_left ?nf_Disk_newest ?nf_Disk_power ?nf_Disk_sectors ?nf_Disk_writes ?nf_Log_generation ?nf_Log_next_record ?nf_Log_next_sector ?su_BadImage_BadName ?su_BadName_BadName ?su_NoSpace_BadName ?su_NotValid_BadName ?su_PowerOff_BadName ?hx_BadName
    (case aC_Disk => k_is); (case aC_Log => k_is); (case aC_BadImage => k_is); (case aC_BadName => k_is); (case aC_NoSpace => k_is); (case aC_NotValid => k_is)
    (case aC_PowerOff => k_is); (case a_is_between => k_is); (case l_is_between => k_is); (case c_is_between => k_is); (case k_is_between => k_is); (case a_is_word => k_is)
    (case l_is_word => k_is); (case c_is_word => k_is); (case k_is_word => k_is); (case a_are_words => k_is); (case l_are_words => k_is); (case c_are_words => k_is)
    (case k_are_words => k_is); (case a_word_name => k_is); (case l_word_name => k_is); (case c_word_name => k_is); (case k_word_name => k_is); (case a_Disk___init__ => k_is)
    (case i_Disk___init__ => k_is); (case l_Disk___init__ => k_is); (case c_Disk___init__ => k_is); (case k_Disk___init__ => k_is); (case a_Disk_read => k_is); (case i_Disk_read => k_is)
    (case l_Disk_read => k_is); (case c_Disk_read => k_is); (case k_Disk_read => k_is); (case a_Disk_operate => k_is); (case i_Disk_operate => k_is); (case l_Disk_operate => k_is)
    (case c_Disk_operate => k_is); (case k_Disk_operate => k_is); (case a_Disk_write => k_is); (case i_Disk_write => k_is); (case l_Disk_write => k_is); (case c_Disk_write => k_is)
    (case k_Disk_write => k_is); (case a_Disk_flush => k_is); (case i_Disk_flush => k_is); (case l_Disk_flush => k_is); (case c_Disk_flush => k_is); (case k_Disk_flush => k_is)
    (case a_Disk_waiting => k_is); (case i_Disk_waiting => k_is); (case l_Disk_waiting => k_is); (case c_Disk_waiting => k_is); (case k_Disk_waiting => k_is); (case a_Disk_cut => k_is)
    (case i_Disk_cut => k_is); (case l_Disk_cut => k_is); (case c_Disk_cut => k_is); (case k_Disk_cut => k_is); (case a_sectors_of => k_is); (case l_sectors_of => k_is)
    (case c_sectors_of => k_is); (case k_sectors_of => k_is); (case a_record_sectors => k_is); (case l_record_sectors => k_is); (case c_record_sectors => k_is); (case k_record_sectors => k_is)
    (case a_Log___init__ => k_is); (case i_Log___init__ => k_is); (case l_Log___init__ => k_is); (case c_Log___init__ => k_is); (case k_Log___init__ => k_is); (case a_Log_fits => k_is)
    (case i_Log_fits => k_is); (case l_Log_fits => k_is); (case c_Log_fits => k_is); (case k_Log_fits => k_is); (case a_Log_append_records => k_is); (case i_Log_append_records => k_is)
    (case l_Log_append_records => k_is); (case c_Log_append_records => k_is); (case k_Log_append_records => k_is); (case a_whole_parts => k_is); (case l_whole_parts => k_is); (case c_whole_parts => k_is)
    (case k_whole_parts => k_is); (case a_record_intent => k_is); (case l_record_intent => k_is); (case c_record_intent => k_is); (case k_record_intent => k_is); (case a_whole_records => k_is)
    (case l_whole_records => k_is); (case c_whole_records => k_is); (case k_whole_records => k_is); (case a_is_name => k_is); (case l_is_name => k_is); (case c_is_name => k_is)
    (case k_is_name => k_is); (case a_check_words => k_is); (case l_check_words => k_is); (case c_check_words => k_is); (case k_check_words => k_is); (case a_check_intent => k_is)
    (case l_check_intent => k_is); (case c_check_intent => k_is); (case k_check_intent => k_is); (case a__law_cell => k_is); (case l__law_cell => k_is); (case c__law_cell => k_is)
    (case k__law_cell => k_is); (case a__law_digits => k_is); (case l__law_digits => k_is); (case c__law_digits => k_is); (case k__law_digits => k_is); (case a__law_intent => k_is)
    (case l__law_intent => k_is); (case c__law_intent => k_is); (case k__law_intent => k_is); (case a__law_old_log => k_is); (case l__law_old_log => k_is); (case c__law_old_log => k_is)
    (case k__law_old_log => k_is); (case a__law_appended => k_is); (case l__law_appended => k_is); (case c__law_appended => k_is); (case k__law_appended => k_is); (case a__law_choice => k_is)
    (case l__law_choice => k_is); (case c__law_choice => k_is); (case k__law_choice => k_is); (case a__law_due => k_is); (case l__law_due => k_is); (case c__law_due => k_is)
    (case k__law_due => k_is); (case a_law => k_is); (case l_law => k_is); (case c_law => k_is); (case k_law => k_is); (case pg_Disk => k_is)
    (case hd_Disk => k_is); (case po_Disk => k_is); (case sa_Disk => k_is); (case mk_Disk => k_is); (case kc_Disk => k_is); (case pg_Log => k_is)
    (case hd_Log => k_is); (case po_Log => k_is); (case sa_Log => k_is); (case mk_Log => k_is); (case kc_Log => k_is); (case n_bool => k_is)
    (case n_enumerate => k_is); (case n_int => k_is); (case n_isinstance => k_is); (case n_len => k_is); (case n_list => k_is); (case n_min => k_is)
    (case n_range => k_is); (case n_reversed => k_is); (case n_sum => k_is); (case n_tuple => k_is); (case kc_ALPHABET => k_is); (case kc_BASE => k_is)
    (case kc_BLOCK_SECTORS => k_is); (case kc_DIRECTORY => k_is); (case kc_FILE => k_is); (case kc_FIRST_SECTOR => k_is); (case kc_GROUP => k_is); (case kc_LENGTHS => k_is)
    (case kl_LENGTHS => k_is); (case ki_LENGTHS => exact ⟨⟨⟨_, rfl⟩, rfl, ⟨_, rfl⟩⟩, ⟨⟨⟨_, rfl⟩, rfl, ⟨_, rfl⟩⟩, ⟨⟨⟨_, rfl⟩, rfl, ⟨_, rfl⟩⟩, ⟨⟨⟨_, rfl⟩, rfl, ⟨_, rfl⟩⟩, ⟨⟨⟨_, rfl⟩, rfl, ⟨_, rfl⟩⟩, ⟨⟨⟨_, rfl⟩, rfl, ⟨_, rfl⟩⟩, ⟨⟨⟨_, rfl⟩, rfl, ⟨_, rfl⟩⟩, ⟨⟨⟨_, rfl⟩, rfl, ⟨_, rfl⟩⟩, ⟨⟨⟨_, rfl⟩, rfl, ⟨_, rfl⟩⟩, trivial⟩⟩⟩⟩⟩⟩⟩⟩⟩); (case kc_LOG_SECTORS => k_is); (case kc_MAX_BLOCKS => k_is); (case kc_MAX_CELLS => k_is); (case kc_MAX_OWNER => k_is)
    (case kc_MIN_BLOCKS => k_is); (case kc_NAME_SIZE => k_is); (case kc_SECTOR_WORDS => k_is); (case kc_UNIT => k_is); (case ex_BadImage => k_exc); (case kc_BadImage => k_is)
    (case sb_BadImage => k_is); (case ty_BadImage => k_is); (case ex_BadName => k_exc); (case kc_BadName => k_is); (case sb_BadName => k_is); (case ty_BadName => k_is)
    (case ex_NoSpace => k_exc); (case kc_NoSpace => k_is); (case sb_NoSpace => k_is); (case ty_NoSpace => k_is); (case ex_NotValid => k_exc); (case kc_NotValid => k_is)
    (case sb_NotValid => k_is); (case ty_NotValid => k_is); (case ex_PowerOff => k_exc); (case kc_PowerOff => k_is); (case sb_PowerOff => k_is); (case ty_PowerOff => k_is)
    (case nf_Disk_blocks => k_is); (case nf_Disk_left => k_is); (case nf_Disk_newest => k_is); (case nf_Disk_power => k_is); (case nf_Disk_sectors => k_is); (case nf_Disk_writes => k_is)
    (case nf_Log_generation => k_is); (case nf_Log_next_record => k_is); (case nf_Log_next_sector => k_is); (case su_BadImage_BadName => k_is); (case su_BadName_BadName => k_is); (case su_NoSpace_BadName => k_is)
    (case su_NotValid_BadName => k_is); (case su_PowerOff_BadName => k_is); (case hx_BadName => k_is)
#print axioms PySem.Challenge.cw_laminae_k68_whole_torn_logs_holds
